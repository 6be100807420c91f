import PyProof.Rows.All
import Wide.All
import OpenK.AllK
import Wide.FinOn
import HandS.ForMost
import HandS.Deep
import HandS.Defaults
import HandS.More
import HandS.TryOnly
import HandS.Iter
import KE.KStateDown
import HandS.Base
import HandS.Call
import HandS.Ends
import HandS.Words
import HandS.WordsExc
import HandS.Head0
import HandS.Head1
import HandS.Head2
import HandS.HeadEnd
import HandS.HeadHook1
import HandS.HeadHook2
import HandS.IsInst
import HandS.SortInts
import HandS.SortKw
import HandS.Zip
import KE.DataMinMax
import HandS.Strs
import KE.SortKeyHeap
import HandS.Text
import PySem.Challenge.RW_deskround_k85_whole_files_that_got_stuck
set_option Elab.async false
set_option linter.all false
set_option maxRecDepth 100000
namespace Dl
open PySem PySem.Spec PyProof.Rows L2
def topS (i : Nat) : Stmt := PySem.Challenge.pw_deskround_k85_whole_files_that_got_stuck.main.body.getD i (.Pass ⟨0, 0, 0, 0⟩)
def inClass (st : Stmt) (j : Nat) : Stmt := match st with
  | .ClassDef (body := b) .. => b.getD j (.Pass ⟨0, 0, 0, 0⟩)
  | _ => .Pass ⟨0, 0, 0, 0⟩
/-- the built-ins that no name of the module hides, the module's constants -/
structure Bt (mg : Str → Option Value) : Prop where
  len : mg "len" = none
  range : mg "range" = none
  isinstance : mg "isinstance" = none
  list : mg "list" = none
  tuple : mg "tuple" = none
  sorted : mg "sorted" = none
  set : mg "set" = none
  max : mg "max" = none
  min : mg "min" = none
  str : mg "str" = none
  int : mg "int" = none
  bool : mg "bool" = none
  all : mg "all" = none
  enumerate : mg "enumerate" = none
  zip : mg "zip" = none
  LONGEST : ∃ t, mg "LONGEST" = some (.int 8 t)
  MOST_STEPS : ∃ t, mg "MOST_STEPS" = some (.int 6 t)
  MOST_TIES : ∃ t, mg "MOST_TIES" = some (.int 12 t)
  MOST_ROUNDS : ∃ t, mg "MOST_ROUNDS" = some (.int 6 t)
  MOST_FILES : ∃ t, mg "MOST_FILES" = some (.int 12 t)
  MOST_CLERKS : ∃ t, mg "MOST_CLERKS" = some (.int 12 t)
  MOST_LINKS : ∃ t, mg "MOST_LINKS" = some (.int 40 t)
  MOST_RULES : ∃ t, mg "MOST_RULES" = some (.int 60 t)
  LETTERS : ∃ t, mg "LETTERS" = some (.str "abcdefghijklmnopqrstuvwxyz" t)
  FIGURES : ∃ t, mg "FIGURES" = some (.str "123456" t)
theorem hu_of2 {A : Around} {k : Nat} (hr : Room k A) : A.units + 65 < cLine := by have := hr.un; omega
theorem hu_of1 {A : Around} {k : Nat} (hr : Room k A) : A.units + 1 < cLine := by have := hr.un; omega
end Dl
set_option maxHeartbeats 0
namespace Dl
open PySem PySem.Spec PyProof.Rows L2
/-! ### the head: where all stands -/
def fnP0 : List He.DefD := [⟨("free", none), "free", "free", defArgs (topS 17), defBody (topS 17), defScope (topS 17), [], []⟩, ⟨("next_free", none), "next_free", "next_free", defArgs (topS 18), defBody (topS 18), defScope (topS 18), [], []⟩, ⟨("settled", none), "settled", "settled", defArgs (topS 19), defBody (topS 19), defScope (topS 19), [], []⟩, ⟨("ring", none), "ring", "ring", defArgs (topS 21), defBody (topS 21), defScope (topS 21), [], []⟩, ⟨("ready", none), "ready", "ready", defArgs (topS 22), defBody (topS 22), defScope (topS 22), [], []⟩, ⟨("common", none), "common", "common", defArgs (topS 33), defBody (topS 33), defScope (topS 33), [], []⟩, ⟨("without", none), "without", "without", defArgs (topS 34), defBody (topS 34), defScope (topS 34), [], []⟩, ⟨("joined", none), "joined", "joined", defArgs (topS 35), defBody (topS 35), defScope (topS 35), [], []⟩, ⟨("width", none), "width", "width", defArgs (topS 37), defBody (topS 37), defScope (topS 37), [], []⟩, ⟨("grown", none), "grown", "grown", defArgs (topS 38), defBody (topS 38), defScope (topS 38), [], []⟩, ⟨("breaks", none), "breaks", "breaks", defArgs (topS 40), defBody (topS 40), defScope (topS 40), [], []⟩, ⟨("first_broken", none), "first_broken", "first_broken", defArgs (topS 41), defBody (topS 41), defScope (topS 41), [], []⟩]
def fnP1 : List He.DefD := [⟨("pools_of", none), "pools_of", "pools_of", defArgs (topS 43), defBody (topS 43), defScope (topS 43), [], []⟩, ⟨("held", none), "held", "held", defArgs (topS 47), defBody (topS 47), defScope (topS 47), [], []⟩, ⟨("struck", none), "struck", "struck", defArgs (topS 52), defBody (topS 52), defScope (topS 52), [], []⟩, ⟨("seek", none), "seek", "seek", defArgs (topS 26), defBody (topS 26), defScope (topS 26), [], []⟩, ⟨("deal", none), "deal", "deal", defArgs (topS 27), defBody (topS 27), defScope (topS 27), [], []⟩, ⟨("sought", none), "sought", "sought", defArgs (topS 45), defBody (topS 45), defScope (topS 45), [], []⟩, ⟨("plan", none), "plan", "plan", defArgs (topS 46), defBody (topS 46), defScope (topS 46), [], []⟩, ⟨("shut", none), "shut", "shut", defArgs (topS 49), defBody (topS 49), defScope (topS 49), [], []⟩, ⟨("rank", none), "rank", "rank", defArgs (topS 50), defBody (topS 50), defScope (topS 50), [], []⟩, ⟨("strikes", none), "strikes", "strikes", defArgs (topS 51), defBody (topS 51), defScope (topS 51), [], []⟩, ⟨("mend", none), "mend", "mend", defArgs (topS 53), defBody (topS 53), defScope (topS 53), [], []⟩, ⟨("is_name", none), "is_name", "is_name", defArgs (topS 32), defBody (topS 32), defScope (topS 32), [], []⟩]
def fnP2 : List He.DefD := [⟨("acts_of", none), "acts_of", "acts_of", defArgs (topS 59), defBody (topS 59), defScope (topS 59), [], []⟩, ⟨("place_of", none), "place_of", "place_of", defArgs (topS 60), defBody (topS 60), defScope (topS 60), [], []⟩, ⟨("places_of", none), "places_of", "places_of", defArgs (topS 61), defBody (topS 61), defScope (topS 61), [], []⟩, ⟨("tie_of", none), "tie_of", "tie_of", defArgs (topS 62), defBody (topS 62), defScope (topS 62), [], []⟩, ⟨("read_round", none), "read_round", "read_round", defArgs (topS 63), defBody (topS 63), defScope (topS 63), [], []⟩, ⟨("next_above", none), "next_above", "next_above", defArgs (topS 69), defBody (topS 69), defScope (topS 69), [], []⟩, ⟨("reached", none), "reached", "reached", defArgs (topS 70), defBody (topS 70), defScope (topS 70), [], []⟩, ⟨("concerning", none), "concerning", "concerning", defArgs (topS 73), defBody (topS 73), defScope (topS 73), [], []⟩, ⟨("behind_others", none), "behind_others", "behind_others", defArgs (topS 74), defBody (topS 74), defScope (topS 74), [], []⟩, ⟨("nearest", none), "nearest", "nearest", defArgs (topS 75), defBody (topS 75), defScope (topS 75), [], []⟩, ⟨("allowed", none), "allowed", "allowed", defArgs (topS 76), defBody (topS 76), defScope (topS 76), [], []⟩, ⟨("is_whole", none), "is_whole", "is_whole", defArgs (topS 31), defBody (topS 31), defScope (topS 31), [], []⟩]
def fnP3 : List He.DefD := [⟨("Staff", some "need"), "need", "Staff.need", defArgs (inClass (topS 81) 1), defBody (inClass (topS 81) 1), defScope (inClass (topS 81) 1), [], []⟩, ⟨("Staff", some "others"), "others", "Staff.others", defArgs (inClass (topS 81) 6), defBody (inClass (topS 81) 6), defScope (inClass (topS 81) 6), [], []⟩, ⟨("Staff", some "clerks"), "clerks", "Staff.clerks", defArgs (inClass (topS 81) 10), defBody (inClass (topS 81) 10), defScope (inClass (topS 81) 10), [], []⟩, ⟨("Staff", some "may"), "may", "Staff.may", defArgs (inClass (topS 81) 11), defBody (inClass (topS 81) 11), defScope (inClass (topS 81) 11), [], []⟩, ⟨("Staff", some "who"), "who", "Staff.who", defArgs (inClass (topS 81) 13), defBody (inClass (topS 81) 13), defScope (inClass (topS 81) 13), [], []⟩, ⟨("Staff", some "__init__"), "__init__", "Staff.__init__", defArgs (inClass (topS 81) 0), defBody (inClass (topS 81) 0), defScope (inClass (topS 81) 0), [], []⟩, ⟨("Staff", some "hire"), "hire", "Staff.hire", defArgs (inClass (topS 81) 2), defBody (inClass (topS 81) 2), defScope (inClass (topS 81) 2), [], []⟩, ⟨("Staff", some "rule"), "rule", "Staff.rule", defArgs (inClass (topS 81) 7), defBody (inClass (topS 81) 7), defScope (inClass (topS 81) 7), [], []⟩, ⟨("Staff", some "leave"), "leave", "Staff.leave", defArgs (inClass (topS 81) 3), defBody (inClass (topS 81) 3), defScope (inClass (topS 81) 3), [], []⟩, ⟨("Case", some "__init__"), "__init__", "Case.__init__", defArgs (inClass (topS 24) 0), defBody (inClass (topS 24) 0), defScope (inClass (topS 24) 0), [], []⟩, ⟨("Case", some "is_finished"), "is_finished", "Case.is_finished", defArgs (inClass (topS 24) 1), defBody (inClass (topS 24) 1), defScope (inClass (topS 24) 1), [], []⟩, ⟨("Case", some "place"), "place", "Case.place", defArgs (inClass (topS 24) 2), defBody (inClass (topS 24) 2), defScope (inClass (topS 24) 2), [], []⟩]
def fnP4 : List He.DefD := [⟨("Case", some "due_place"), "due_place", "Case.due_place", defArgs (inClass (topS 24) 3), defBody (inClass (topS 24) 3), defScope (inClass (topS 24) 3), [], []⟩, ⟨("Case", some "marked"), "marked", "Case.marked", defArgs (inClass (topS 24) 5), defBody (inClass (topS 24) 5), defScope (inClass (topS 24) 5), [], []⟩, ⟨("Office", some "form"), "form", "Office.form", defArgs (inClass (topS 67) 1), defBody (inClass (topS 67) 1), defScope (inClass (topS 67) 1), [], []⟩, ⟨("Office", some "case_of"), "case_of", "Office.case_of", defArgs (inClass (topS 67) 2), defBody (inClass (topS 67) 2), defScope (inClass (topS 67) 2), [], []⟩, ⟨("Office", some "lists"), "lists", "Office.lists", defArgs (inClass (topS 67) 3), defBody (inClass (topS 67) 3), defScope (inClass (topS 67) 3), [], []⟩, ⟨("Office", some "told"), "told", "Office.told", defArgs (inClass (topS 67) 4), defBody (inClass (topS 67) 4), defScope (inClass (topS 67) 4), [], []⟩, ⟨("Office", some "plan_for"), "plan_for", "Office.plan_for", defArgs (inClass (topS 67) 6), defBody (inClass (topS 67) 6), defScope (inClass (topS 67) 6), [], []⟩, ⟨("Office", some "why"), "why", "Office.why", defArgs (inClass (topS 67) 9), defBody (inClass (topS 67) 9), defScope (inClass (topS 67) 9), [], []⟩, ⟨("Office", some "plan_of"), "plan_of", "Office.plan_of", defArgs (inClass (topS 67) 16), defBody (inClass (topS 67) 16), defScope (inClass (topS 67) 16), [], []⟩, ⟨("Office", some "mend_of"), "mend_of", "Office.mend_of", defArgs (inClass (topS 67) 18), defBody (inClass (topS 67) 18), defScope (inClass (topS 67) 18), [], []⟩, ⟨("Office", some "is_stuck"), "is_stuck", "Office.is_stuck", defArgs (inClass (topS 67) 20), defBody (inClass (topS 67) 20), defScope (inClass (topS 67) 20), [], []⟩, ⟨("Office", some "stuck"), "stuck", "Office.stuck", defArgs (inClass (topS 67) 19), defBody (inClass (topS 67) 19), defScope (inClass (topS 67) 19), [], []⟩]
def fnP5 : List He.DefD := [⟨("Office", some "__init__"), "__init__", "Office.__init__", defArgs (inClass (topS 67) 0), defBody (inClass (topS 67) 0), defScope (inClass (topS 67) 0), [], []⟩, ⟨("Office", some "add_round"), "add_round", "Office.add_round", defArgs (inClass (topS 67) 5), defBody (inClass (topS 67) 5), defScope (inClass (topS 67) 5), [], []⟩, ⟨("Office", some "begin"), "begin", "Office.begin", defArgs (inClass (topS 67) 8), defBody (inClass (topS 67) 8), defScope (inClass (topS 67) 8), [], []⟩, ⟨("Office", some "take"), "take", "Office.take", defArgs (inClass (topS 67) 10), defBody (inClass (topS 67) 10), defScope (inClass (topS 67) 10), [], []⟩, ⟨("_law_whole", none), "_law_whole", "_law_whole", defArgs (topS 84), defBody (topS 84), defScope (topS 84), [], []⟩, ⟨("_law_held", none), "_law_held", "_law_held", defArgs (topS 95), defBody (topS 95), defScope (topS 95), [], []⟩, ⟨("_law_marked", none), "_law_marked", "_law_marked", defArgs (topS 97), defBody (topS 97), defScope (topS 97), [], []⟩, ⟨("_law_undone", none), "_law_undone", "_law_undone", defArgs (topS 104), defBody (topS 104), defScope (topS 104), [], []⟩, ⟨("_law_breaks", none), "_law_breaks", "_law_breaks", defArgs (topS 99), defBody (topS 99), defScope (topS 99), [], []⟩, ⟨("_law_sets", none), "_law_sets", "_law_sets", defArgs (topS 103), defBody (topS 103), defScope (topS 103), [], []⟩, ⟨("_law_fits", none), "_law_fits", "_law_fits", defArgs (topS 98), defBody (topS 98), defScope (topS 98), [], []⟩, ⟨("_law_pool", none), "_law_pool", "_law_pool", defArgs (topS 100), defBody (topS 100), defScope (topS 100), [], []⟩]
def fnP6 : List He.DefD := [⟨("_law_shut", none), "_law_shut", "_law_shut", defArgs (topS 101), defBody (topS 101), defScope (topS 101), [], []⟩, ⟨("_law_shows", none), "_law_shows", "_law_shows", defArgs (topS 102), defBody (topS 102), defScope (topS 102), [], []⟩, ⟨("_law_papers", none), "_law_papers", "_law_papers", defArgs (topS 105), defBody (topS 105), defScope (topS 105), [], []⟩, ⟨("_law_walked", none), "_law_walked", "_law_walked", defArgs (topS 107), defBody (topS 107), defScope (topS 107), [], []⟩, ⟨("_law_mended", none), "_law_mended", "_law_mended", defArgs (topS 106), defBody (topS 106), defScope (topS 106), [], []⟩, ⟨("_law_cell", none), "_law_cell", "_law_cell", defArgs (topS 83), defBody (topS 83), defScope (topS 83), [], []⟩, ⟨("_law_badges", none), "_law_badges", "_law_badges", defArgs (topS 86), defBody (topS 86), defScope (topS 86), [], []⟩, ⟨("_law_names", none), "_law_names", "_law_names", defArgs (topS 85), defBody (topS 85), defScope (topS 85), [], []⟩, ⟨("_law_acts", none), "_law_acts", "_law_acts", defArgs (topS 89), defBody (topS 89), defScope (topS 89), [], []⟩, ⟨("_law_order", none), "_law_order", "_law_order", defArgs (topS 88), defBody (topS 88), defScope (topS 88), [], []⟩, ⟨("_law_row", none), "_law_row", "_law_row", defArgs (topS 87), defBody (topS 87), defScope (topS 87), [], []⟩, ⟨("_law_text", none), "_law_text", "_law_text", defArgs (topS 90), defBody (topS 90), defScope (topS 90), [], []⟩]
def fnP7 : List He.DefD := [⟨("_law_tie", none), "_law_tie", "_law_tie", defArgs (topS 91), defBody (topS 91), defScope (topS 91), [], []⟩, ⟨("_law_round", none), "_law_round", "_law_round", defArgs (topS 92), defBody (topS 92), defScope (topS 92), [], []⟩, ⟨("_law_lists", none), "_law_lists", "_law_lists", defArgs (topS 94), defBody (topS 94), defScope (topS 94), [], []⟩, ⟨("_law_step_due", none), "_law_step_due", "_law_step_due", defArgs (topS 96), defBody (topS 96), defScope (topS 96), [], []⟩, ⟨("_law_team", none), "_law_team", "_law_team", defArgs (topS 93), defBody (topS 93), defScope (topS 93), [], []⟩, ⟨("_law_turned", none), "_law_turned", "_law_turned", defArgs (topS 109), defBody (topS 109), defScope (topS 109), [], []⟩, ⟨("_law_stands", none), "_law_stands", "_law_stands", defArgs (topS 110), defBody (topS 110), defScope (topS 110), [], []⟩, ⟨("_law_hall", none), "_law_hall", "_law_hall", defArgs (topS 108), defBody (topS 108), defScope (topS 108), [], []⟩, ⟨("law", none), "law", "law", defArgs (topS 111), defBody (topS 111), defScope (topS 111), [], []⟩]
def fnAll : List He.DefD := fnP0 ++ fnP1 ++ fnP2 ++ fnP3 ++ fnP4 ++ fnP5 ++ fnP6 ++ fnP7
def faP0 : List He.Fa := [.glo "free", .glo "next_free", .glo "settled", .glo "ring", .glo "ready", .glo "common", .glo "without", .glo "joined", .glo "width", .glo "grown", .glo "breaks", .glo "first_broken"]
def faP1 : List He.Fa := [.glo "pools_of", .glo "held", .glo "struck", .glo "seek", .glo "deal", .glo "sought", .glo "plan", .glo "shut", .glo "rank", .glo "strikes", .glo "mend", .glo "is_name"]
def faP2 : List He.Fa := [.glo "acts_of", .glo "place_of", .glo "places_of", .glo "tie_of", .glo "read_round", .glo "next_above", .glo "reached", .glo "concerning", .glo "behind_others", .glo "nearest", .glo "allowed", .glo "is_whole"]
def faP3 : List He.Fa := [.cls "Staff", .meth "Staff" "need", .meth "Staff" "others", .meth "Staff" "clerks", .meth "Staff" "may", .meth "Staff" "who", .mkr "Staff", .glo "Staff", .meth "Staff" "hire", .meth "Staff" "rule", .meth "Staff" "leave", .cls "Case"]
def faP4 : List He.Fa := [.mkr "Case", .glo "Case", .meth "Case" "is_finished", .meth "Case" "place", .meth "Case" "due_place", .meth "Case" "marked", .cls "Office", .meth "Office" "form", .meth "Office" "case_of", .meth "Office" "lists", .meth "Office" "told", .meth "Office" "plan_for"]
def faP5 : List He.Fa := [.meth "Office" "why", .meth "Office" "plan_of", .meth "Office" "mend_of", .meth "Office" "is_stuck", .meth "Office" "stuck", .mkr "Office", .glo "Office", .meth "Office" "add_round", .meth "Office" "begin", .meth "Office" "take", .glo "_law_whole", .glo "_law_held"]
def faP6 : List He.Fa := [.glo "_law_marked", .glo "_law_undone", .glo "_law_breaks", .glo "_law_sets", .glo "_law_fits", .glo "_law_pool", .glo "_law_shut", .glo "_law_shows", .glo "_law_papers", .glo "_law_walked", .glo "_law_mended", .glo "_law_cell"]
def faP7 : List He.Fa := [.glo "_law_badges", .glo "_law_names", .glo "_law_acts", .glo "_law_order", .glo "_law_row", .glo "_law_text", .glo "_law_tie", .glo "_law_round", .glo "_law_lists", .glo "_law_step_due", .glo "_law_team", .glo "_law_turned"]
def faP8 : List He.Fa := [.glo "_law_stands", .glo "_law_hall", .glo "law", .free "len", .free "range", .free "isinstance", .free "list", .free "tuple", .free "sorted", .free "set", .free "max", .free "min"]
def faP9 : List He.Fa := [.free "str", .free "int", .free "bool", .free "all", .free "enumerate", .free "zip", .int "LONGEST" 8, .int "MOST_STEPS" 6, .int "MOST_TIES" 12, .int "MOST_ROUNDS" 6, .int "MOST_FILES" 12, .int "MOST_CLERKS" 12]
def faP10 : List He.Fa := [.int "MOST_LINKS" 40, .int "MOST_RULES" 60, .str "LETTERS" "abcdefghijklmnopqrstuvwxyz", .str "FIGURES" "123456", .glo "KEYS", .noat "Staff" "crew", .noat "Staff" "chain", .noat "Staff" "book", .noat "Staff" "tempo", .noat "Case" "parts", .noat "Case" "rows", .noat "Case" "bonds"]
def faP11 : List He.Fa := [.noat "Case" "marks", .noat "Office" "team", .noat "Office" "forms", .noat "Office" "cases", .noat "Case" "hire", .noat "Office" "hire", .noat "Office" "marked"]
def faAll : List He.Fa := faP0 ++ faP1 ++ faP2 ++ faP3 ++ faP4 ++ faP5 ++ faP6 ++ faP7 ++ faP8 ++ faP9 ++ faP10 ++ faP11
def nmP0 : List Str := ["_wall", "__name__", "DeskError", "TooMany", "Ring", "NoText", "Taken", "NoClerk", "NoRound", "NoFile", "Finished", "NoAct"]
def nmP1 : List Str := ["Done", "NotYet", "NoRight", "Stuck", "free", "next_free", "settled", "one_ahead", "ring", "ready", "Case", "seek"]
def nmP2 : List Str := ["deal", "LETTERS", "LONGEST", "is_whole", "is_name", "common", "without", "joined", "width", "grown", "breaks", "first_broken"]
def nmP3 : List Str := ["pools_of", "sought", "plan", "held", "shut", "rank", "strikes", "struck", "mend", "KEYS", "FIGURES", "MOST_STEPS"]
def nmP4 : List Str := ["MOST_TIES", "acts_of", "place_of", "places_of", "tie_of", "read_round", "MOST_ROUNDS", "MOST_FILES", "Office", "next_above", "reached", "closes"]
def nmP5 : List Str := ["concerning", "behind_others", "nearest", "allowed", "MOST_CLERKS", "MOST_LINKS", "MOST_RULES", "Staff", "_law_cell", "_law_whole", "_law_names", "_law_badges"]
def nmP6 : List Str := ["_law_row", "_law_order", "_law_acts", "_law_text", "_law_tie", "_law_round", "_law_team", "_law_lists", "_law_held", "_law_step_due", "_law_marked", "_law_fits"]
def nmP7 : List Str := ["_law_breaks", "_law_pool", "_law_shut", "_law_shows", "_law_sets", "_law_undone", "_law_papers", "_law_mended", "_law_walked", "_law_hall", "_law_turned", "_law_stands"]
def nmAll : List Str := nmP0 ++ nmP1 ++ nmP2 ++ nmP3 ++ nmP4 ++ nmP5 ++ nmP6 ++ nmP7
abbrev Rw8 : PySem.W.OpenRow := PySem.W.OpenLaw.row PySem.Challenge.rw_deskround_k85_whole_files_that_got_stuck
abbrev qv : Program := PySem.W.view Rw8.prog [111]
def keysDv : List He.Dv := [.str "steps", .str "before", .str "most", .str "least", .str "apart", .str "same"]
/-! what is looked at: the module's names, their code, the classes' own names, their code -/
def mgA (g : Addr → Option Obj) : List Addr := match g mainGlobals with
  | some ⟨_, _, .dict es _, _⟩ => es.toList.flatMap fun e => He.refV e.val
  | _ => []
def cdA (g : Addr → Option Obj) (a : Addr) : List Addr := match g a with
  | some ⟨_, _, .func fd, _⟩ => He.refV fd.code
  | _ => []
def nsA (g : Addr → Option Obj) (a : Addr) : List Addr := match g a with
  | some ⟨_, _, .cls cd, _⟩ => [cd.ns]
  | _ => []
def dtA (g : Addr → Option Obj) (a : Addr) : List Addr := match g a with
  | some ⟨_, _, .dict es _, _⟩ => es.toList.flatMap fun e => He.refV e.val
  | _ => []
def asK (g : Addr → Option Obj) : List Addr := mainGlobals :: (mgA g ++ ((mgA g).flatMap (cdA g) ++ ((mgA g).flatMap (nsA g) ++ (((mgA g).flatMap (nsA g)).flatMap (dtA g) ++ (((mgA g).flatMap (nsA g)).flatMap (dtA g)).flatMap (cdA g)))))
def obK (g : Addr → Option Obj) : He.AlD × Bool := (He.obsD faAll fnAll (He.frG g (asK g)), He.tupB (He.frG g (asK g)) "KEYS" keysDv)
def hkAll : PySem.W.Hook where
  α := He.AlD × Bool
  obs := fun s => obK s.heap.get?
  val := fun _ => (He.valD fnAll, true)
  says := fun _ h => ∃ K : PySem.W.Frag, K.In h ∧ He.SaysD faAll fnAll K ∧ He.tupB K "KEYS" keysDv = true
  of := fun _ _ e => ⟨_, He.frG_in, congrArg (fun z : He.AlD × Bool => z.1) e, congrArg (fun z : He.AlD × Bool => z.2) e⟩
  keeps := fun _ _ _ ⟨K, hK, c⟩ k => ⟨K, PySem.W.Frag.In.keeps hK k, c⟩
def obAll (s : PySem.W.SharedT) : He.AlD × Bool := obK (HandSHeadRun.getT s)
theorem obAll_eq (s : PySem.W.SharedT) : obAll s = hkAll.obs s.abs := by
  have e : HandSHeadRun.getT s = s.abs.heap.get? := funext (HandSHeadRun.getT_eq s)
  unfold obAll
  rw [e]
  rfl
theorem run_both {R : PySem.W.OpenRow} {q : Program} {loose : List Str} {M : Nat} {w : World} {H : PySem.W.Hook} {ob : PySem.W.SharedT → H.α} (a : HandSHeadRun.RunEq R q PySem.W.Hook.none (fun _ => ()) M loose w)
    (b : ∀ os : OsState, (HandSHeadRun.endF (HandSHeadRun.stepQ (HandSHeadRun.denQ HandSHeadRun.tabQ) R.prog w) M R.prog w os).map ob = some (H.val w)) : HandSHeadRun.RunEq R q H ob M loose w := by
  intro os
  have a := a os
  have b := b os
  cases e : HandSHeadRun.endF (HandSHeadRun.stepQ (HandSHeadRun.denQ HandSHeadRun.tabQ) R.prog w) M R.prog w os with
  | none =>
    rw [e] at a
    cases a
  | some s =>
    rw [e] at a b
    have a := Option.some.inj a
    have b := Option.some.inj b
    have a1 := congrArg Prod.fst a
    have a2 := congrArg (fun z => z.2.1) a
    exact congrArg some (Prod.ext a1 (Prod.ext a2 b))
theorem runTop (w : World) : HandSHeadRun.RunEq Rw8 qv PySem.W.Hook.none (fun _ => ()) 20000 nmAll w := by
  intro os
  kernel_rfl
theorem runFacts (w : World) (os : OsState) : (HandSHeadRun.endF (HandSHeadRun.stepQ (HandSHeadRun.denQ HandSHeadRun.tabQ) Rw8.prog w) 20000 Rw8.prog w os).map obAll = some (He.valD fnAll, true) := by
  kernel_rfl
theorem runAll (w : World) : HandSHeadRun.RunEq Rw8 qv hkAll obAll 20000 nmAll w := run_both (runTop w) (runFacts w)
end Dl
set_option maxHeartbeats 200000
/-! The data layer: what an expression evaluates to as data, over a known part G of the heap H; slots that own what they build. -/
namespace Dl
open PySem PySem.Spec PyProof.Rows L2

abbrev D := PyData

/-! ### data in a heap -/
mutual
inductive Dq (G : Hp) : V → D → Prop
  | non : Dq G .non .none
  | bl (b : Bool) : Dq G (.bl b) (.bool b)
  | int (i : Int) : Dq G (.int i) (.int i)
  | str (x : Str) : Dq G (.str x) (.str x)
  | lst {a : Addr} {xs : List V} {ds : List D} : G a = some (.lst xs) → DqAll G xs ds → Dq G (.ref a) (.list ds)
  | tup {a : Addr} {xs : List V} {ds : List D} : G a = some (.tup xs) → DqAll G xs ds → Dq G (.ref a) (.tuple ds)
inductive DqAll (G : Hp) : List V → List D → Prop
  | nil : DqAll G [] []
  | cons {v : V} {vs : List V} {d : D} {ds : List D} : Dq G v d → DqAll G vs ds → DqAll G (v :: vs) (d :: ds)
end
/-- lists and tuples stay -/
def SameD (G G' : Hp) : Prop := ∀ a o, G a = some o → (∀ C dx fs, o ≠ .ins C dx fs) → (∀ kvs, o ≠ .dK kvs) → G' a = some o
theorem SameD.refl (G : Hp) : SameD G G := fun _ _ h _ _ => h
theorem SameD.trans {G G1 G2 : Hp} (a : SameD G G1) (b : SameD G1 G2) : SameD G G2 := fun x o h h1 h2 => b x o (a x o h h1 h2) h1 h2
theorem SameD.of {G G' : Hp} (s : Same G G') : SameD G G' := fun a o h _ _ => s a o h
theorem SameD.lst {G G' : Hp} (s : SameD G G') {a : Addr} {xs : List V} (h : G a = some (.lst xs)) : G' a = some (.lst xs) := s a _ h (fun _ _ _ q => by cases q) (fun _ q => by cases q)
theorem SameD.tup {G G' : Hp} (s : SameD G G') {a : Addr} {xs : List V} (h : G a = some (.tup xs)) : G' a = some (.tup xs) := s a _ h (fun _ _ _ q => by cases q) (fun _ q => by cases q)
mutual
theorem Dq.monoD {G G' : Hp} (s : SameD G G') : ∀ (d : D) (v : V), Dq G v d → Dq G' v d
  | .none, _, h => by cases h; exact .non
  | .bool b, _, h => by cases h; exact .bl b
  | .int i, _, h => by cases h; exact .int i
  | .str x, _, h => by cases h; exact .str x
  | .list ds, _, h => by
    cases h with
    | lst h1 h2 => exact .lst (s.lst h1) (DqAll.monoD s ds _ h2)
  | .tuple ds, _, h => by
    cases h with
    | tup h1 h2 => exact .tup (s.tup h1) (DqAll.monoD s ds _ h2)
  | .dict _, _, h => by cases h
theorem DqAll.monoD {G G' : Hp} (s : SameD G G') : ∀ (ds : List D) (vs : List V), DqAll G vs ds → DqAll G' vs ds
  | [], _, h => by cases h; exact .nil
  | d :: ds, _, h => by
    cases h with
    | cons h1 h2 => exact .cons (Dq.monoD s d _ h1) (DqAll.monoD s ds _ h2)
end
theorem Dq.mono {G G' : Hp} (s : Same G G') {d : D} {v : V} (h : Dq G v d) : Dq G' v d := Dq.monoD (.of s) d v h
theorem DqAll.mono {G G' : Hp} (s : Same G G') {ds : List D} {vs : List V} (h : DqAll G vs ds) : DqAll G' vs ds := DqAll.monoD (.of s) ds vs h
mutual
theorem Dq.dp {K : PySem.W.Frag} {G : Hp} : ∀ (d : D) (v : V), Dq G v d → Dp K G v d
  | .none, _, h => by cases h; exact .non
  | .bool b, _, h => by cases h; exact .bl b
  | .int i, _, h => by cases h; exact .int i
  | .str x, _, h => by cases h; exact .str x
  | .list ds, _, h => by
    cases h with
    | lst h1 h2 => exact .lst (.of h1) (DqAll.dp ds _ h2)
  | .tuple ds, _, h => by
    cases h with
    | tup h1 h2 => exact .tup (.of h1) (DqAll.dp ds _ h2)
  | .dict _, _, h => by cases h
theorem DqAll.dp {K : PySem.W.Frag} {G : Hp} : ∀ (ds : List D) (vs : List V), DqAll G vs ds → DpAll K G vs ds
  | [], _, h => by cases h; exact .nil
  | d :: ds, _, h => by
    cases h with
    | cons h1 h2 => exact .cons (Dq.dp d _ h1) (DqAll.dp ds _ h2)
end
theorem DqAll.length {G : Hp} : ∀ {vs : List V} {ds : List D}, DqAll G vs ds → vs.length = ds.length
  | [], [], _ => rfl
  | _ :: _, [], h => by cases h
  | [], _ :: _, h => by cases h
  | _ :: vs, _ :: ds, h => by
    cases h with
    | cons _ h2 => rw [List.length_cons, List.length_cons, DqAll.length h2]
theorem DqAll.get {G : Hp} : ∀ {vs : List V} {ds : List D} {i : Nat} {d : D}, DqAll G vs ds → ds[i]? = some d → ∃ v, vs[i]? = some v ∧ Dq G v d
  | [], [], _, _, _, e => by simp at e
  | _ :: _, [], _, _, h, _ => by cases h
  | [], _ :: _, _, _, h, _ => by cases h
  | v :: vs, d' :: ds, 0, d, h, e => by
    cases h with
    | cons h1 h2 =>
      have e' : d' = d := by simpa using e
      subst e'
      exact ⟨v, rfl, h1⟩
  | v :: vs, d' :: ds, i + 1, d, h, e => by
    cases h with
    | cons h1 h2 =>
      obtain ⟨w, h3, h4⟩ := DqAll.get h2 (show ds[i]? = some d by simpa using e)
      exact ⟨w, by simpa using h3, h4⟩
theorem DqAll.getV {G : Hp} : ∀ {vs : List V} {ds : List D} {i : Nat} {v : V}, DqAll G vs ds → vs[i]? = some v → ∃ d, ds[i]? = some d ∧ Dq G v d
  | [], [], _, _, _, e => by simp at e
  | _ :: _, [], _, _, h, _ => by cases h
  | [], _ :: _, _, _, h, _ => by cases h
  | v' :: vs, d :: ds, 0, v, h, e => by
    cases h with
    | cons h1 h2 =>
      have e' : v' = v := by simpa using e
      subst e'
      exact ⟨d, rfl, h1⟩
  | v' :: vs, d :: ds, i + 1, v, h, e => by
    cases h with
    | cons h1 h2 =>
      obtain ⟨w, h3, h4⟩ := DqAll.getV h2 (show vs[i]? = some v by simpa using e)
      exact ⟨w, by simpa using h3, h4⟩
theorem DqAll.append {G : Hp} : ∀ {vs us : List V} {ds es : List D}, DqAll G vs ds → DqAll G us es → DqAll G (vs ++ us) (ds ++ es)
  | [], _, [], _, _, h => h
  | _ :: _, _, [], _, h, _ => by cases h
  | [], _, _ :: _, _, h, _ => by cases h
  | _ :: vs, _, _ :: ds, _, h, h' => by
    cases h with
    | cons h1 h2 => exact .cons h1 (DqAll.append h2 h')
theorem DqAll.take {G : Hp} : ∀ {vs : List V} {ds : List D} (n : Nat), DqAll G vs ds → DqAll G (vs.take n) (ds.take n)
  | _, _, 0, _ => .nil
  | [], [], _ + 1, _ => .nil
  | _ :: _, [], _ + 1, h => by cases h
  | [], _ :: _, _ + 1, h => by cases h
  | _ :: vs, _ :: ds, n + 1, h => by
    cases h with
    | cons h1 h2 => exact .cons h1 (DqAll.take n h2)
theorem DqAll.drop {G : Hp} : ∀ {vs : List V} {ds : List D} (n : Nat), DqAll G vs ds → DqAll G (vs.drop n) (ds.drop n)
  | _, _, 0, h => h
  | [], [], _ + 1, _ => .nil
  | _ :: _, [], _ + 1, h => by cases h
  | [], _ :: _, _ + 1, h => by cases h
  | _ :: vs, _ :: ds, n + 1, h => by
    cases h with
    | cons h1 h2 => exact DqAll.drop n h2
theorem DqAll.set {G : Hp} {v : V} {d : D} (r : Dq G v d) : ∀ {vs : List V} {ds : List D} (n : Nat), DqAll G vs ds → DqAll G (vs.set n v) (ds.set n d)
  | [], [], _, _ => .nil
  | _ :: _, [], _, h => by cases h
  | [], _ :: _, _, h => by cases h
  | _ :: vs, _ :: ds, 0, h => by
    cases h with
    | cons h1 h2 => exact .cons r h2
  | _ :: vs, _ :: ds, n + 1, h => by
    cases h with
    | cons h1 h2 => exact .cons h1 (DqAll.set r n h2)

/-! ### scalars -/
def vOf : D → V
  | .int i => .int i
  | .str x => .str x
  | .bool b => .bl b
  | _ => .non
def Sc : D → Prop
  | .int _ => True
  | .str _ => True
  | .bool _ => True
  | .none => True
  | _ => False
theorem Dq.sc {G : Hp} {v : V} : ∀ {d : D}, Sc d → Dq G v d → v = vOf d
  | .int _, _, h => by cases h; rfl
  | .str _, _, h => by cases h; rfl
  | .bool _, _, h => by cases h; rfl
  | .none, _, h => by cases h; rfl
  | .list _, h, _ => h.elim
  | .tuple _, h, _ => h.elim
  | .dict _, h, _ => h.elim
theorem Dq.of_sc {G : Hp} : ∀ {d : D}, Sc d → Dq G (vOf d) d
  | .int i, _ => .int i
  | .str x, _ => .str x
  | .bool b, _ => .bl b
  | .none, _ => .non
  | .list _, h => h.elim
  | .tuple _, h => h.elim
  | .dict _, h => h.elim
theorem DqAll.ints {G : Hp} : ∀ {vs : List V} {ns : List Int}, DqAll G vs (ns.map .int) → vs = ns.map .int
  | [], [], _ => rfl
  | _ :: _, [], h => by cases h
  | [], _ :: _, h => by cases h
  | v :: vs, n :: ns, h => by
    cases h with
    | cons h1 h2 =>
      cases h1
      rw [DqAll.ints h2]
      rfl
theorem DqAll.of_ints {G : Hp} : ∀ (ns : List Int), DqAll G (ns.map .int) (ns.map .int)
  | [] => .nil
  | n :: ns => .cons (.int n) (DqAll.of_ints ns)
theorem DqAll.strs {G : Hp} : ∀ {vs : List V} {ns : List Str}, DqAll G vs (ns.map .str) → vs = ns.map .str
  | [], [], _ => rfl
  | _ :: _, [], h => by cases h
  | [], _ :: _, h => by cases h
  | v :: vs, n :: ns, h => by
    cases h with
    | cons h1 h2 =>
      cases h1
      rw [DqAll.strs h2]
      rfl
theorem DqAll.of_strs {G : Hp} : ∀ (ns : List Str), DqAll G (ns.map .str) (ns.map .str)
  | [] => .nil
  | n :: ns => .cons (.str n) (DqAll.of_strs ns)
theorem DqAll.bools {G : Hp} : ∀ {vs : List V} {ns : List Bool}, DqAll G vs (ns.map .bool) → vs = ns.map .bl
  | [], [], _ => rfl
  | _ :: _, [], h => by cases h
  | [], _ :: _, h => by cases h
  | v :: vs, n :: ns, h => by
    cases h with
    | cons h1 h2 =>
      cases h1
      rw [DqAll.bools h2]
      rfl

/-! ### descriptors of values -/
inductive Ds where
  | dat (d : D)
  | raw (v : V)
  | sq (xs : List Int)
  | dic (kvs : List (Key × V))
  | tup (ss : List Ds)
mutual
inductive Sv (K : PySem.W.Frag) (G : Hp) : V → Ds → Prop
  | dat {v : V} {d : D} : Dq G v d → Sv K G v (.dat d)
  | raw (v : V) : Sv K G v (.raw v)
  | sq {a : Addr} {ns : List Int} : SqL K G a (ns.map .int) → Sv K G (.ref a) (.sq ns)
  | dic {a : Addr} {kvs : List (Key × V)} : G a = some (.dK kvs) → Sv K G (.ref a) (.dic kvs)
  | tup {a : Addr} {vs : List V} {ss : List Ds} : G a = some (.tup vs) → SvAll K G vs ss → Sv K G (.ref a) (.tup ss)
inductive SvAll (K : PySem.W.Frag) (G : Hp) : List V → List Ds → Prop
  | nil : SvAll K G [] []
  | cons {v : V} {vs : List V} {s : Ds} {ss : List Ds} : Sv K G v s → SvAll K G vs ss → SvAll K G (v :: vs) (s :: ss)
end
section
variable {K : PySem.W.Frag} {G G' : Hp}
mutual
theorem Sv.mono (e : Same G G') : ∀ {s : Ds} {v : V}, Sv K G v s → Sv K G' v s
  | .dat d, _, h => by
    cases h with
    | dat h => exact .dat (h.mono e)
  | .raw _, _, h => by cases h; exact .raw _
  | .sq _, _, h => by
    cases h with
    | sq h => exact .sq (e.seq h)
  | .dic _, _, h => by
    cases h with
    | dic h => exact .dic (e _ _ h)
  | .tup ss, _, h => by
    cases h with
    | tup h1 h2 => exact .tup (e _ _ h1) (SvAll.mono e h2)
theorem SvAll.mono (e : Same G G') : ∀ {ss : List Ds} {vs : List V}, SvAll K G vs ss → SvAll K G' vs ss
  | [], _, h => by cases h; exact .nil
  | _ :: _, _, h => by
    cases h with
    | cons h1 h2 => exact .cons (Sv.mono e h1) (SvAll.mono e h2)
end
theorem SvAll.length : ∀ {vs : List V} {ss : List Ds}, SvAll K G vs ss → vs.length = ss.length
  | [], [], _ => rfl
  | _ :: _, [], h => by cases h
  | [], _ :: _, h => by cases h
  | _ :: vs, _ :: ds, h => by
    cases h with
    | cons _ h2 => rw [List.length_cons, List.length_cons, SvAll.length h2]
theorem SvAll.dats : ∀ {vs : List V} {ds : List D}, SvAll K G vs (ds.map .dat) → DqAll G vs ds
  | [], [], _ => .nil
  | _ :: _, [], h => by cases h
  | [], _ :: _, h => by cases h
  | _ :: vs, _ :: ds, h => by
    cases h with
    | cons h1 h2 =>
      cases h1 with
      | dat h1 => exact .cons h1 (SvAll.dats h2)
theorem SvAll.of_dats : ∀ {vs : List V} {ds : List D}, DqAll G vs ds → SvAll K G vs (ds.map .dat)
  | [], [], _ => .nil
  | _ :: _, [], h => by cases h
  | [], _ :: _, h => by cases h
  | _ :: vs, _ :: ds, h => by
    cases h with
    | cons h1 h2 => exact .cons (.dat h1) (SvAll.of_dats h2)
end
end Dl
namespace Dl
open PySem PySem.Spec PyProof.Rows L2

/-! ### the known part grows -/
structure Gr (μ : Bool) (G H G' H' : Hp) : Prop where
  d : SameD G G'
  s : μ = false → Same G G'
  f : ∀ a o, H a = some o → G a = none → H' a = some o
  i : Same G' H'
  n : ∀ a, H a ≠ none → G a = none → G' a = none
  p : ∀ a, H a ≠ none → H' a ≠ none
  k : μ = false → Same H H'
section
variable {μ : Bool} {G H G1 H1 G2 H2 : Hp} {a : Addr} {o : HO}
theorem Gr.refl (i : Same G H) : Gr μ G H G H := ⟨.refl _, fun _ => .refl _, fun _ _ h _ => h, i, fun _ _ h => h, fun _ h => h, fun _ => .refl _⟩
theorem Gr.trans (x : Gr μ G H G1 H1) (y : Gr μ G1 H1 G2 H2) : Gr μ G H G2 H2 where
  d := x.d.trans y.d
  s := fun h => (x.s h).trans (y.s h)
  f := fun a o h g => y.f a o (x.f a o h g) (x.n a (by rw [h]; intro q; cases q) g)
  i := y.i
  n := fun a h g => y.n a (x.p a h) (x.n a h g)
  p := fun a h => y.p a (x.p a h)
  k := fun h => (x.k h).trans (y.k h)
theorem Gr.any (x : Gr false G H G1 H1) : Gr μ G H G1 H1 := ⟨x.d, fun _ => x.s rfl, x.f, x.i, x.n, x.p, fun _ => x.k rfl⟩
theorem Gr.h (x : Gr false G H G1 H1) (i : Same G H) : Same H H1 := fun a o e => by
  cases q : G a with
  | none => exact x.f a o e q
  | some u =>
    have z := i a u q
    rw [z] at e
    cases e
    exact x.i a _ (x.s rfl a _ q)
theorem Gr.mk' (s : Same G G1) (h : Same H H1) (i : Same G1 H1) (n : ∀ a, H a ≠ none → G a = none → G1 a = none) : Gr μ G H G1 H1 :=
  ⟨.of s, fun _ => s, fun a o e _ => h a o e, i, n, fun a e q => (by
    cases z : H a with
    | none => exact e z
    | some o =>
      rw [h a o z] at q
      cases q), fun _ => h⟩
/-- what is new may be forgotten -/
theorem Gr.forget (x : Gr false G H G1 H1) (i : Same G H) : Gr μ G H G H1 := .mk' (.refl _) (x.h i) (i.trans (x.h i)) fun _ _ g => g
theorem same_upd {H : Hp} (h : H a = none) : Same H (upd H a o) := fun b u e => by
  rw [upd_ne (ne_of_none e h)]
  exact e
theorem Same.none {H H' : Hp} (s : Same H H') {a : Addr} (h : H' a = none) : H a = none := s.free h
/-- a new object, known -/
theorem Gr.new (i : Same G H) (h : H a = none) : Gr μ G H (upd G a o) (upd H a o) := by
  have g : G a = none := Same.none i h
  refine .mk' (same_upd g) (same_upd h) (fun b u e => ?_) (fun b hb e => ?_)
  · by_cases q : b = a
    · rw [q, upd_same] at e
      rw [q, upd_same]
      exact e
    · rw [upd_ne q] at e
      rw [upd_ne q]
      exact i b u e
  · have q : b ≠ a := fun z => hb (by rw [z]; exact h)
    rw [upd_ne q]
    exact e
end

/-! ### slots -/
inductive Sl where
  | un
  | k (s : Ds)
  | lst (ds : List D)
  | dct (kvs : List (Key × V))
abbrev Sl.d (d : D) : Sl := .k (.dat d)
def Sl.own : Sl → Bool
  | .lst _ => true
  | .dct _ => true
  | _ => false
def Sl.fz : Sl → Sl
  | .lst ds => .k (.dat (.list ds))
  | .dct kvs => .k (.dic kvs)
  | s => s
abbrev fzA (A : List Sl) : List Sl := A.map Sl.fz
def SlOk (K : PySem.W.Frag) (H0 G H : Hp) : Sl → Option (Option V) → Addr → Prop
  | .un, _, _ => True
  | .k s, v, _ => ∃ x, v = some (some x) ∧ Sv K G x s
  | .lst ds, v, a => v = some (some (.ref a)) ∧ G a = none ∧ H0 a = none ∧ ∃ xs, H a = some (.lst xs) ∧ DqAll G xs ds
  | .dct kvs, v, a => v = some (some (.ref a)) ∧ G a = none ∧ H0 a = none ∧ H a = some (.dK kvs)
structure Ab (μ : Bool) (K : PySem.W.Frag) (G0 H0 G H : Hp) (A : List Sl) (σ : L2.St) : Prop where
  gr : Gr μ G0 H0 G H
  len : σ.length = A.length
  ex : ∃ ad : Nat → Addr, (∀ i s, A[i]? = some s → SlOk K H0 G H s σ[i]? (ad i)) ∧ ∀ i j s t, A[i]? = some s → A[j]? = some t → s.own = true → t.own = true → ad i = ad j → i = j
section
variable {μ : Bool} {K : PySem.W.Frag} {G0 H0 G H G' H' : Hp} {A : List Sl} {σ : L2.St}
theorem SlOk.own {s : Sl} {v : Option (Option V)} {a : Addr} (h : SlOk K H0 G H s v a) (o : s.own = true) : G a = none ∧ H0 a = none ∧ H a ≠ none := by
  cases s with
  | un => cases o
  | k s => cases o
  | lst ds =>
    obtain ⟨_, h1, h2, xs, h3, _⟩ := h
    exact ⟨h1, h2, by rw [h3]; intro q; cases q⟩
  | dct kvs =>
    obtain ⟨_, h1, h2, h3⟩ := h
    exact ⟨h1, h2, by rw [h3]; intro q; cases q⟩
theorem SlOk.step {s : Sl} {v : Option (Option V)} {a : Addr} (h : SlOk K H0 G H s v a) (g : Gr false G H G' H') : SlOk K H0 G' H' s v a := by
  cases s with
  | un => trivial
  | k s =>
    obtain ⟨x, h1, h2⟩ := h
    exact ⟨x, h1, h2.mono (g.s rfl)⟩
  | lst ds =>
    obtain ⟨h0, h1, h2, xs, h3, h4⟩ := h
    exact ⟨h0, g.n a (by rw [h3]; intro q; cases q) h1, h2, xs, g.f a _ h3 h1, h4.mono (g.s rfl)⟩
  | dct kvs =>
    obtain ⟨h0, h1, h2, h3⟩ := h
    exact ⟨h0, g.n a (by rw [h3]; intro q; cases q) h1, h2, g.f a _ h3 h1⟩
theorem Ab.i (x : Ab μ K G0 H0 G H A σ) : Same G H := x.gr.i
theorem Ab.step (x : Ab μ K G0 H0 G H A σ) (g : Gr false G H G' H') : Ab μ K G0 H0 G' H' A σ := by
  obtain ⟨ad, h1, h2⟩ := x.ex
  exact ⟨x.gr.trans g.any, x.len, ad, fun i s e => (h1 i s e).step g, h2⟩
theorem Ab.get (x : Ab μ K G0 H0 G H A σ) {i : Nat} {s : Ds} (e : A[i]? = some (.k s)) : ∃ v, σ[i]? = some (some v) ∧ Sv K G v s := by
  obtain ⟨ad, h1, _⟩ := x.ex
  exact h1 i _ e
theorem getset {α : Type} {l : List α} {i j : Nat} {x y : α} (h : (l.set i x)[j]? = some y) : (j = i ∧ y = x) ∨ (j ≠ i ∧ l[j]? = some y) := by
  by_cases q : j = i
  · left
    subst q
    have hj : j < l.length := by
      have := (List.getElem?_eq_some_iff.mp h).1
      rw [List.length_set] at this
      exact this
    rw [List.getElem?_set_self hj] at h
    exact ⟨rfl, (Option.some.inj h).symm⟩
  · right
    rw [List.getElem?_set_ne (Ne.symm q)] at h
    exact ⟨q, h⟩
/-- a slot holds a described value -/
theorem Ab.set (x : Ab μ K G0 H0 G H A σ) {i : Nat} {v : V} {s : Ds} (h : Sv K G v s) : Ab μ K G0 H0 G H (A.set i (.k s)) (σ.set i (some v)) := by
  obtain ⟨ad, h1, h2⟩ := x.ex
  refine ⟨x.gr, by rw [List.length_set, List.length_set, x.len], ad, fun j t e => ?_, fun j k t u e e' o o' => ?_⟩
  · have hj : j < σ.length := by
      have := (List.getElem?_eq_some_iff.mp e).1
      rw [List.length_set] at this
      rw [x.len]
      exact this
    rcases getset e with ⟨rfl, rfl⟩ | ⟨q, e⟩
    · rw [List.getElem?_set_self hj]
      exact ⟨v, rfl, h⟩
    · rw [List.getElem?_set_ne (Ne.symm q)]
      exact h1 j t e
  · rcases getset e with ⟨rfl, rfl⟩ | ⟨q, e⟩
    · cases o
    · rcases getset e' with ⟨rfl, rfl⟩ | ⟨q', e'⟩
      · cases o'
      · exact h2 j k t u e e' o o'
theorem Ab.unset (x : Ab μ K G0 H0 G H A σ) {i : Nat} {v : Option V} : Ab μ K G0 H0 G H (A.set i .un) (σ.set i v) := by
  obtain ⟨ad, h1, h2⟩ := x.ex
  refine ⟨x.gr, by rw [List.length_set, List.length_set, x.len], ad, fun j t e => ?_, fun j k t u e e' o o' => ?_⟩
  · rcases getset e with ⟨rfl, rfl⟩ | ⟨q, e⟩
    · trivial
    · rw [List.getElem?_set_ne (Ne.symm q)]
      exact h1 j t e
  · rcases getset e with ⟨rfl, rfl⟩ | ⟨q, e⟩
    · cases o
    · rcases getset e' with ⟨rfl, rfl⟩ | ⟨q', e'⟩
      · cases o'
      · exact h2 j k t u e e' o o'
theorem Gr.pre (x : Gr μ G0 H0 G H) {a : Addr} (h : H a = none) : H0 a = none := by
  cases q : H0 a with
  | none => rfl
  | some o => exact absurd h (x.p a (by rw [q]; intro z; cases z))
/-- a slot owns what is new -/
theorem Ab.own (x : Ab μ K G0 H0 G H A σ) {i : Nat} {l : Addr} {s : Sl} (g : Gr false G H G' H') (hl : H l = none) (so : s.own = true)
    (h : SlOk K H0 G' H' s (some (some (.ref l))) l) : Ab μ K G0 H0 G' H' (A.set i s) (σ.set i (some (.ref l))) := by
  obtain ⟨ad, h1, h2⟩ := x.ex
  refine ⟨x.gr.trans g.any, by rw [List.length_set, List.length_set, x.len], fun j => if j = i then l else ad j, fun j t e => ?_, fun j k t u e e' o o' ea => ?_⟩
  · have hj : j < σ.length := by
      have := (List.getElem?_eq_some_iff.mp e).1
      rw [List.length_set] at this
      rw [x.len]
      exact this
    rcases getset e with ⟨rfl, rfl⟩ | ⟨q, e⟩
    · rw [List.getElem?_set_self hj]
      show SlOk K H0 G' H' t (some (some (.ref l))) (if j = j then l else ad j)
      rw [if_pos rfl]
      exact h
    · rw [List.getElem?_set_ne (Ne.symm q)]
      show SlOk K H0 G' H' t σ[j]? (if j = i then l else ad j)
      rw [if_neg q]
      exact (h1 j t e).step g
  · have ea : (if j = i then l else ad j) = (if k = i then l else ad k) := ea
    rcases getset e with ⟨rfl, rfl⟩ | ⟨q, e2⟩
    · rcases getset e' with ⟨rfl, rfl⟩ | ⟨q', e'⟩
      · rfl
      · rw [if_pos rfl, if_neg q'] at ea
        obtain ⟨_, _, z⟩ := (h1 k u e').own o'
        exact absurd (by rw [← ea]; exact hl) z
    · rcases getset e' with ⟨rfl, rfl⟩ | ⟨q', e2'⟩
      · rw [if_pos rfl, if_neg q] at ea
        obtain ⟨_, _, z⟩ := (h1 j t e2).own o
        exact absurd (by rw [ea]; exact hl) z
      · rw [if_neg q, if_neg q'] at ea
        exact h2 j k t u e2 e2' o o' ea
/-- what a slot owns -/
theorem Ab.getL (x : Ab μ K G0 H0 G H A σ) {i : Nat} {ds : List D} (e : A[i]? = some (.lst ds)) : ∃ l xs, σ[i]? = some (some (.ref l)) ∧ H l = some (.lst xs) ∧ DqAll G xs ds ∧ G l = none ∧
    ∀ (xs' : List V) (ds' : List D), DqAll G xs' ds' → Ab μ K G0 H0 G (upd H l (.lst xs')) (A.set i (.lst ds')) σ := by
  obtain ⟨ad, h1, h2⟩ := x.ex
  obtain ⟨e1, g1, g2, xs, e2, dq⟩ := h1 i _ e
  refine ⟨ad i, xs, e1, e2, dq, g1, fun xs' ds' dq' => ?_⟩
  have hi : i < A.length := (List.getElem?_eq_some_iff.mp e).1
  refine ⟨⟨x.gr.d, x.gr.s, fun a o q q' => ?_, fun a o q => ?_, x.gr.n, fun a q q' => ?_, fun m a o q => by rw [upd_ne (ne_of_none q g2)]; exact x.gr.k m a o q⟩, by rw [List.length_set, x.len], ad, fun j t ej => ?_, fun j k t u ej ek o o' ea => ?_⟩
  · have ne : a ≠ ad i := fun z => by rw [z, g2] at q; cases q
    rw [upd_ne ne]
    exact x.gr.f a o q q'
  · have ne : a ≠ ad i := fun z => by rw [z, g1] at q; cases q
    rw [upd_ne ne]
    exact x.gr.i a o q
  · by_cases z : a = ad i
    · rw [z, upd_same] at q'
      cases q'
    · rw [upd_ne z] at q'
      exact x.gr.p a q q'
  · rcases getset ej with ⟨rfl, rfl⟩ | ⟨q, ej⟩
    · exact ⟨e1, g1, g2, xs', upd_same, dq'⟩
    · have hs := h1 j t ej
      cases t with
      | un => trivial
      | k s => exact hs
      | lst es =>
        obtain ⟨a1, a2, a3, ys, a4, a5⟩ := hs
        exact ⟨a1, a2, a3, ys, by rw [upd_ne fun z => q (h2 j i _ _ ej e rfl rfl z)]; exact a4, a5⟩
      | dct es =>
        obtain ⟨a1, a2, a3, a4⟩ := hs
        exact ⟨a1, a2, a3, by rw [upd_ne fun z => q (h2 j i _ _ ej e rfl rfl z)]; exact a4⟩
  · rcases getset ej with ⟨rfl, rfl⟩ | ⟨q, ej2⟩
    · rcases getset ek with ⟨rfl, rfl⟩ | ⟨q', ek2⟩
      · rfl
      · exact h2 j k _ u e ek2 rfl o' ea
    · rcases getset ek with ⟨rfl, rfl⟩ | ⟨q', ek2⟩
      · exact h2 j k t _ ej2 e o rfl ea
      · exact h2 j k t u ej2 ek2 o o' ea
theorem Ab.getD (x : Ab μ K G0 H0 G H A σ) {i : Nat} {kvs : List (Key × V)} (e : A[i]? = some (.dct kvs)) : ∃ l, σ[i]? = some (some (.ref l)) ∧ H l = some (.dK kvs) ∧ G l = none ∧
    ∀ kvs' : List (Key × V), Ab μ K G0 H0 G (upd H l (.dK kvs')) (A.set i (.dct kvs')) σ := by
  obtain ⟨ad, h1, h2⟩ := x.ex
  obtain ⟨e1, g1, g2, e2⟩ := h1 i _ e
  refine ⟨ad i, e1, e2, g1, fun kvs' => ?_⟩
  have hi : i < A.length := (List.getElem?_eq_some_iff.mp e).1
  refine ⟨⟨x.gr.d, x.gr.s, fun a o q q' => ?_, fun a o q => ?_, x.gr.n, fun a q q' => ?_, fun m a o q => by rw [upd_ne (ne_of_none q g2)]; exact x.gr.k m a o q⟩, by rw [List.length_set, x.len], ad, fun j t ej => ?_, fun j k t u ej ek o o' ea => ?_⟩
  · have ne : a ≠ ad i := fun z => by rw [z, g2] at q; cases q
    rw [upd_ne ne]
    exact x.gr.f a o q q'
  · have ne : a ≠ ad i := fun z => by rw [z, g1] at q; cases q
    rw [upd_ne ne]
    exact x.gr.i a o q
  · by_cases z : a = ad i
    · rw [z, upd_same] at q'
      cases q'
    · rw [upd_ne z] at q'
      exact x.gr.p a q q'
  · rcases getset ej with ⟨rfl, rfl⟩ | ⟨q, ej⟩
    · exact ⟨e1, g1, g2, upd_same⟩
    · have hs := h1 j t ej
      cases t with
      | un => trivial
      | k s => exact hs
      | lst es =>
        obtain ⟨a1, a2, a3, ys, a4, a5⟩ := hs
        exact ⟨a1, a2, a3, ys, by rw [upd_ne fun z => q (h2 j i _ _ ej e rfl rfl z)]; exact a4, a5⟩
      | dct es =>
        obtain ⟨a1, a2, a3, a4⟩ := hs
        exact ⟨a1, a2, a3, by rw [upd_ne fun z => q (h2 j i _ _ ej e rfl rfl z)]; exact a4⟩
  · rcases getset ej with ⟨rfl, rfl⟩ | ⟨q, ej2⟩
    · rcases getset ek with ⟨rfl, rfl⟩ | ⟨q', ek2⟩
      · rfl
      · exact h2 j k _ u e ek2 rfl o' ea
    · rcases getset ek with ⟨rfl, rfl⟩ | ⟨q', ek2⟩
      · exact h2 j k t _ ej2 e o rfl ea
      · exact h2 j k t u ej2 ek2 o o' ea
open Classical in
/-- what the slots own may be seen as known -/
theorem Ab.fz (x : Ab μ K G0 H0 G H A σ) : ∃ G1, Ab μ K G0 H0 G1 H (fzA A) σ ∧ Same G G1 := by
  obtain ⟨ad, h1, h2⟩ := x.ex
  let G1 : Hp := fun a => if ∃ i s, A[i]? = some s ∧ s.own = true ∧ ad i = a then H a else G a
  have hs : Same G G1 := fun a o e => by
    show (if ∃ i s, A[i]? = some s ∧ s.own = true ∧ ad i = a then H a else G a) = some o
    by_cases q : ∃ i s, A[i]? = some s ∧ s.own = true ∧ ad i = a
    · rw [if_pos q]
      exact x.i a o e
    · rw [if_neg q]
      exact e
  have own1 : ∀ i s, A[i]? = some s → s.own = true → G1 (ad i) = H (ad i) := fun i s e o => by
    show (if ∃ j t, A[j]? = some t ∧ t.own = true ∧ ad j = ad i then H (ad i) else G (ad i)) = _
    rw [if_pos ⟨i, s, e, o, rfl⟩]
  refine ⟨G1, ⟨⟨x.gr.d.trans (.of hs), fun m => (x.gr.s m).trans hs, x.gr.f, fun a o e => ?_, fun a h g => ?_, x.gr.p, x.gr.k⟩, by rw [List.length_map]; exact x.len, ad, fun i s e => ?_, fun i j s t e _ o => ?_⟩, hs⟩
  · have e : (if ∃ i s, A[i]? = some s ∧ s.own = true ∧ ad i = a then H a else G a) = some o := e
    by_cases q : ∃ i s, A[i]? = some s ∧ s.own = true ∧ ad i = a
    · rw [if_pos q] at e
      exact e
    · rw [if_neg q] at e
      exact x.i a o e
  · show (if ∃ i s, A[i]? = some s ∧ s.own = true ∧ ad i = a then H a else G a) = none
    by_cases q : ∃ i s, A[i]? = some s ∧ s.own = true ∧ ad i = a
    · obtain ⟨i, s, e, o, rfl⟩ := q
      exact absurd ((h1 i s e).own o).2.1 h
    · rw [if_neg q]
      exact x.gr.n a h g
  · rw [List.getElem?_map] at e
    cases q : A[i]? with
    | none =>
      rw [q] at e
      cases e
    | some t =>
      rw [q] at e
      have e : t.fz = s := Option.some.inj e
      subst e
      have hi := h1 i t q
      cases t with
      | un => trivial
      | k s =>
        obtain ⟨y, a1, a2⟩ := hi
        exact ⟨y, a1, a2.mono hs⟩
      | lst ds =>
        obtain ⟨a1, a2, a3, xs, a4, a5⟩ := hi
        exact ⟨_, a1, .dat (.lst ((own1 i _ q rfl).trans a4) (a5.mono hs))⟩
      | dct kvs =>
        obtain ⟨a1, a2, a3, a4⟩ := hi
        exact ⟨_, a1, .dic ((own1 i _ q rfl).trans a4)⟩
  · rw [List.getElem?_map] at e
    cases q : A[i]? with
    | none =>
      rw [q] at e
      cases e
    | some t =>
      rw [q] at e
      have e : t.fz = s := Option.some.inj e
      subst e
      cases t <;> cases o
end
end Dl
namespace Dl
open PySem PySem.Spec PyProof.Rows L2

/-! ### the largest readings -/
section
variable (X : Cx)
def RE (e : Expr) : TE := fun σ H Q => ∀ pins s, Inv X pins σ H s → wpAny (model X.prog X.w) X.A (eval e X.env) (EP X pins σ Q) X.xe s
def RT (e : Expr) : TT := fun σ H Q => ∀ pins s, Inv X pins σ H s → wpAny (model X.prog X.w) X.A (isTrue e X.env (eval e X.env)) (TP X pins σ Q) X.xe s
def RW (e : Expr) : TT := fun σ H Q => ∀ (whole : Sem Value) pins s, Inv X pins σ H s → wpAny (model X.prog X.w) X.A (isTrue e X.env whole) (TP X pins σ Q) X.xe s
def RA (es : List Expr) : TA := fun σ H Q => ∀ pos pins s, Inv X pins σ H s → wpAny (model X.prog X.w) X.A (spliced (backTo pos (starEach es X.env))) (AP X pins σ Q) X.xe s
def RO (e : Option Expr) (t : TO) : Prop := PO X e t
def RS (st : Stmt) : TS := fun D σ H => ∀ pins s, Inv X pins σ H s → wpAny (model X.prog X.w) X.A (exec st X.env) (SP X pins D) X.xe s
def RSs (st : List Stmt) : TS := fun D σ H => ∀ pins s, Inv X pins σ H s → wpAny (model X.prog X.w) X.A (execs st X.env) (SP X pins D) X.xe s
def RI (tg iter : Expr) : TI := fun σ H R => ∀ pins s, Inv X pins σ H s → wpAny (model X.prog X.w) X.A (eval iter X.env) (fun v s1 => wpAny (model X.prog X.w) X.A (pyIter v) (PIE X pins σ tg R) X.xe s1) X.xe s
end
section
variable {X : Cx} {e : Expr} {es : List Expr} {σ : L2.St} {H : Hp}
theorem RE.pe : PE X e (RE X e) := ⟨fun pins s _ _ _ I h => h pins s I⟩
theorem RT.pt : PT X e (RT X e) := ⟨fun pins s _ _ _ I h => h pins s I⟩
theorem RW.pw : PW X e (RW X e) := ⟨fun w pins s _ _ _ I h => h w pins s I⟩
theorem RA.pa : PA X es (RA X es) := ⟨fun pos pins s _ _ _ I h => h pos pins s I⟩
theorem RS.ps {st : Stmt} : PS X st (RS X st) := ⟨fun pins s _ _ _ I h => h pins s I⟩
theorem RSs.pss {st : List Stmt} : PSs X st (RSs X st) := ⟨fun pins s _ _ _ I h => h pins s I⟩
theorem RI.pi {tg it : Expr} : PI X tg it (RI X tg it) := ⟨fun pins s _ _ _ I h => h pins s I⟩
theorem RE.of {t : TE} {Q : VK} (p : PE X e t) (h : t σ H Q) : RE X e σ H Q := fun pins s I => p.run pins s σ H Q I h
theorem RT.of {t : TT} {Q : Bool → Hp → Prop} (p : PT X e t) (h : t σ H Q) : RT X e σ H Q := fun pins s I => p.run pins s σ H Q I h
theorem RW.of {t : TT} {Q : Bool → Hp → Prop} (p : PW X e t) (h : t σ H Q) : RW X e σ H Q := fun w pins s I => p.run w pins s σ H Q I h
theorem RA.of {t : TA} {Q : List V → Hp → Prop} (p : PA X es t) (h : t σ H Q) : RA X es σ H Q := fun pos pins s I => p.run pos pins s σ H Q I h
theorem RS.of {st : Stmt} {t : TS} {De : Ends} (p : PS X st t) (h : t De σ H) : RS X st De σ H := fun pins s I => p.run pins s σ H De I h
theorem RSs.of {st : List Stmt} {t : TS} {De : Ends} (p : PSs X st t) (h : t De σ H) : RSs X st De σ H := fun pins s I => p.run pins s σ H De I h
theorem RI.of {tg it : Expr} {t : TI} {R : It → Hp → Prop} (p : PI X tg it t) (h : t σ H R) : RI X tg it σ H R := fun pins s I => p.run pins s σ H R I h
end

/-! ### what an expression evaluates to -/
structure Ph where
  p : Hp → Prop
  st : ∀ G G', Same G G' → p G → p G'
def ph0 : Ph := ⟨fun _ => True, fun _ _ _ _ => trivial⟩
abbrev PostV (K : PySem.W.Frag) (G H : Hp) (W : Ds → Prop) (Q : VK) : Prop := ∀ s v G' H', W s → Gr false G H G' H' → Sv K G' v s → Q v H'
def EXW (X : Cx) (Φ : Ph) (A : List Sl) (e : Expr) (W : Ds → Prop) : Prop :=
  ∀ μ G0 H0 G H σ Q, Ab μ X.K G0 H0 G H A σ → Φ.p G → PostV X.K G H W Q → RE X e σ H Q
abbrev EX (X : Cx) (Φ : Ph) (A : List Sl) (e : Expr) (s : Ds) : Prop := EXW X Φ A e (· = s)
def ET (X : Cx) (Φ : Ph) (A : List Sl) (e : Expr) (b : Bool) : Prop :=
  ∀ μ G0 H0 G H σ Q, Ab μ X.K G0 H0 G H A σ → Φ.p G → (∀ H', Gr false G H G H' → Q b H') → RT X e σ H Q
structure EB (X : Cx) (Φ : Ph) (A : List Sl) (e : Expr) (b : Bool) : Prop where
  v : EX X Φ A e (.dat (.bool b))
  t : ET X Φ A e b
def EA (X : Cx) (Φ : Ph) (A : List Sl) (es : List Expr) (ss : List Ds) : Prop :=
  ∀ μ G0 H0 G H σ Q, Ab μ X.K G0 H0 G H A σ → Φ.p G → (∀ vs G' H', Gr false G H G' H' → SvAll X.K G' vs ss → Q vs H') → RA X es σ H Q
abbrev di (n : Int) : Ds := .dat (.int n)
abbrev ds (x : Str) : Ds := .dat (.str x)
abbrev db (b : Bool) : Ds := .dat (.bool b)

section
variable {X : Cx} {Φ : Ph} {A : List Sl} {a b c e : Expr} {es : List Expr} {pos : Pos} {W W' : Ds → Prop} {s s1 s2 : Ds}
theorem EXW.imp (h : EXW X Φ A e W) (k : ∀ s, W s → W' s) : EXW X Φ A e W' := fun μ G0 H0 G H σ Q ab φ q => h μ G0 H0 G H σ Q ab φ fun s v G' H' w => q s v G' H' (k s w)
theorem EX.cast (h : EX X Φ A e s1) (k : s1 = s2) : EX X Φ A e s2 := by rw [← k]; exact h
theorem EB.cast {c d : Bool} (h : EB X Φ A e c) (k : c = d) : EB X Φ A e d := by rw [← k]; exact h
theorem EXW.det (h : EXW X Φ A e W) (k : ∀ t, W t → t = s) : EX X Φ A e s := h.imp k
/-- scalars may be reckoned over what the slots own -/
theorem EX.view {d : D} (h : EX X Φ (fzA A) e (.dat d)) (hs : Sc d) : EX X Φ A e (.dat d) := by
  intro μ G0 H0 G H σ Q ab φ q
  obtain ⟨G1, ab1, sm⟩ := ab.fz
  refine h μ G0 H0 G1 H σ Q ab1 (Φ.st _ _ sm φ) fun s v G' H' w g sv => ?_
  subst w
  have hh : Same H H' := g.h ab1.i
  cases sv with
  | dat dq =>
    rw [dq.sc hs]
    exact q _ _ G H' rfl (.mk' (.refl _) hh (ab.i.trans hh) fun _ _ z => z) (.dat (.of_sc hs))
theorem ET.view {c : Bool} (h : ET X Φ (fzA A) e c) : ET X Φ A e c := by
  intro μ G0 H0 G H σ Q ab φ q
  obtain ⟨G1, ab1, sm⟩ := ab.fz
  refine h μ G0 H0 G1 H σ Q ab1 (Φ.st _ _ sm φ) fun H' g => ?_
  have hh : Same H H' := g.h ab1.i
  exact q H' (.mk' (.refl _) hh (ab.i.trans hh) fun _ _ z => z)
theorem EB.view {c : Bool} (h : EB X Φ (fzA A) e c) : EB X Φ A e c := ⟨h.v.view trivial, h.t.view⟩

theorem exw_of {t : TE} (p : PE X e t) (k : ∀ μ G0 H0 G H σ Q, Ab μ X.K G0 H0 G H A σ → Φ.p G → PostV X.K G H W Q → t σ H Q) : EXW X Φ A e W :=
  fun μ G0 H0 G H σ Q ab φ q => RE.of p (k μ G0 H0 G H σ Q ab φ q)
/-! names, constants -/
theorem ex_var (i : Nat) {x : Str} (e : A[i]? = some (.k s)) (hN : X.N[i]? = some x := by rfl) (hv : Vis X.env.scope x := by first | exact Or.inl rfl | exact Or.inr (Or.inl rfl) | exact Or.inr (Or.inr rfl))
    (hd : (x == ("__debug__" : Str)) = false := by decide) (hcd : (x == ("__classdict__" : Str)) = false := by decide) : EX X Φ A (.Name x pos) s :=
  exw_of (pe_var hN hv hd hcd) fun μ G0 H0 G H σ Q ab φ q => by
    obtain ⟨v, e1, sv⟩ := ab.get e
    exact ⟨v, e1, q _ _ G H rfl (.refl ab.i) sv⟩
theorem ex_int {i : Int} {j : Nat} : EX X Φ A (.Constant (.int i) j pos) (di i) := exw_of pe_int fun μ G0 H0 G H σ Q ab φ q => q _ _ G H rfl (.refl ab.i) (.dat (.int i))
theorem ex_str {x : Str} {j : Nat} : EX X Φ A (.Constant (.str x) j pos) (ds x) := exw_of pe_str fun μ G0 H0 G H σ Q ab φ q => q _ _ G H rfl (.refl ab.i) (.dat (.str x))
theorem ex_bool {x : Bool} {j : Nat} : EX X Φ A (.Constant (.bool x) j pos) (db x) := exw_of pe_bl fun μ G0 H0 G H σ Q ab φ q => q _ _ G H rfl (.refl ab.i) (.dat (.bl x))
theorem ex_none {j : Nat} : EX X Φ A (.Constant .none j pos) (.dat .none) := exw_of pe_non fun μ G0 H0 G H σ Q ab φ q => q _ _ G H rfl (.refl ab.i) (.dat .non)
theorem ex_gl {x : Str} {v : V} {u : Value} {d : D} (hm : X.mg x = some u) (r : RelV v u) (hs : Sc d) (hv : v = vOf d) (hg : Gl X x := by rfl) (hd : (x == ("__debug__" : Str)) = false := by decide) : EX X Φ A (.Name x pos) (.dat d) :=
  exw_of (pe_glob hg hm r hd) fun μ G0 H0 G H σ Q ab φ q => q _ _ G H rfl (.refl ab.i) (by rw [hv]; exact .dat (.of_sc hs))
theorem ex_gint {x : Str} {n : Int} (hm : ∃ t, X.mg x = some (.int n t)) (hg : Gl X x := by rfl) (hd : (x == ("__debug__" : Str)) = false := by decide) : EX X Φ A (.Name x pos) (di n) := by
  obtain ⟨t, hm⟩ := hm
  exact ex_gl (v := .int n) hm ⟨t, rfl⟩ trivial rfl hg hd
theorem ex_gstr {x : Str} {n : Str} (hm : ∃ t, X.mg x = some (.str n t)) (hg : Gl X x := by rfl) (hd : (x == ("__debug__" : Str)) = false := by decide) : EX X Φ A (.Name x pos) (ds n) := by
  obtain ⟨t, hm⟩ := hm
  exact ex_gl (v := .str n) hm ⟨t, rfl⟩ trivial rfl hg hd
/-- a built-in class as a value -/
theorem ex_ty {x : Str} {n : String} (hm : X.mg x = none) (hv : bootBuiltins x = some (.type n)) (hg : Gl X x := by rfl) (hn : x ≠ "__name__" := by decide) (hd : (x == ("__debug__" : Str)) = false := by decide) : EX X Φ A (.Name x pos) (.raw (.ty n)) :=
  exw_of (pe_bltn hg hm hv (v := .ty n) rfl hn hd) fun μ G0 H0 G H σ Q ab φ q => q _ _ G H rfl (.refl ab.i) (.raw _)

/-! operators -/
theorem exw_op {op : Operator} {r : R2} (ho : OpR X (binaryOp op) r) (ha : EX X Φ A a s1) (hb : EX X Φ A b s2)
    (hr : ∀ x y G H Q, Same G H → Sv X.K G x s1 → Sv X.K G y s2 → PostV X.K G H W Q → r x y H Q) : EXW X Φ A (.BinOp a op b pos) W :=
  exw_of (pe_op ho RE.pe RE.pe) fun μ G0 H0 G H σ Q ab φ q => ha μ G0 H0 G H σ _ ab φ fun s x G1 H1 w g1 sv1 => by
    subst w
    refine hb μ G0 H0 G1 H1 σ _ (ab.step g1) (Φ.st _ _ (g1.s rfl) φ) fun s y G2 H2 w g2 sv2 => ?_
    subst w
    exact hr x y G2 H2 Q g2.i (sv1.mono (g2.s rfl)) sv2 fun s v G3 H3 w g3 sv3 => q s v G3 H3 w ((g1.trans g2).trans g3) sv3
variable {i j : Int} {x y : Str} {xs ys : List D}
theorem ex_addI (ha : EX X Φ A a (di i)) (hb : EX X Φ A b (di j)) : EX X Φ A (.BinOp a .Add b pos) (di (i + j)) := exw_op op_add ha hb fun x y G H Q sm h1 h2 q => by
  cases h1 with
  | dat h1 => cases h1; cases h2 with
    | dat h2 => cases h2; exact ⟨i, j, rfl, rfl, q _ _ G H rfl (.refl sm) (.dat (.int _))⟩
theorem ex_subI (ha : EX X Φ A a (di i)) (hb : EX X Φ A b (di j)) : EX X Φ A (.BinOp a .Sub b pos) (di (i - j)) := exw_op op_sub ha hb fun x y G H Q sm h1 h2 q => by
  cases h1 with
  | dat h1 => cases h1; cases h2 with
    | dat h2 => cases h2; exact ⟨i, j, rfl, rfl, q _ _ G H rfl (.refl sm) (.dat (.int _))⟩
theorem ex_mulI (ha : EX X Φ A a (di i)) (hb : EX X Φ A b (di j)) (h : CMul i j) : EX X Φ A (.BinOp a .Mult b pos) (di (i * j)) := exw_op op_mul ha hb fun x y G H Q sm h1 h2 q => by
  cases h1 with
  | dat h1 => cases h1; cases h2 with
    | dat h2 => cases h2; exact ⟨i, j, rfl, rfl, h, q _ _ G H rfl (.refl sm) (.dat (.int _))⟩
/-- the divisor positive -/
theorem ex_fdiv (ha : EX X Φ A a (di i)) (hb : EX X Φ A b (di j)) (h : CDiv i j) : EX X Φ A (.BinOp a .FloorDiv b pos) (di (i / j)) := exw_op op_fdiv ha hb fun x y G H Q sm h1 h2 q => by
  cases h1 with
  | dat h1 => cases h1; cases h2 with
    | dat h2 => cases h2; exact ⟨i, j, rfl, rfl, h, q _ _ G H rfl (.refl sm) (.dat (.int _))⟩
theorem ex_mod (ha : EX X Φ A a (di i)) (hb : EX X Φ A b (di j)) (h : 0 < j) : EX X Φ A (.BinOp a .Mod b pos) (di (i % j)) := exw_op op_mod ha hb fun x y G H Q sm h1 h2 q => by
  cases h1 with
  | dat h1 => cases h1; cases h2 with
    | dat h2 => cases h2; exact ⟨i, j, rfl, rfl, h, q _ _ G H rfl (.refl sm) (.dat (.int _))⟩
theorem ex_pow (ha : EX X Φ A a (di i)) (hb : EX X Φ A b (di j)) (h : CPow i j) : EX X Φ A (.BinOp a .Pow b pos) (di (i ^ j.toNat)) := exw_op op_pow ha hb fun x y G H Q sm h1 h2 q => by
  cases h1 with
  | dat h1 => cases h1; cases h2 with
    | dat h2 => cases h2; exact ⟨i, j, rfl, rfl, h, q _ _ G H rfl (.refl sm) (.dat (.int _))⟩
theorem ex_addS (ha : EX X Φ A a (ds x)) (hb : EX X Φ A b (ds y)) (h : x.length + y.length ≤ sizeLine) : EX X Φ A (.BinOp a .Add b pos) (ds (x ++ y)) := exw_op op_add_str ha hb fun _ _ G H Q sm h1 h2 q => by
  cases h1 with
  | dat h1 => cases h1; cases h2 with
    | dat h2 => cases h2; exact ⟨x, y, rfl, rfl, h, q _ _ G H rfl (.refl sm) (.dat (.str _))⟩
theorem ex_cat (ha : EX X Φ A a (.dat (.list xs))) (hb : EX X Φ A b (.dat (.list ys))) (h : xs.length + ys.length ≤ sizeLine) : EX X Φ A (.BinOp a .Add b pos) (.dat (.list (xs ++ ys))) := exw_op op_cat ha hb fun _ _ G H Q sm h1 h2 q => by
  cases h1 with
  | dat h1 => cases h1 with
    | lst e1 d1 => cases h2 with
      | dat h2 => cases h2 with
        | lst e2 d2 =>
          refine ⟨_, _, _, _, rfl, rfl, sm _ _ e1, sm _ _ e2, by rw [d1.length, d2.length]; exact h, fun p hp => ?_⟩
          refine q _ _ (upd G p (.lst _)) _ rfl (.new sm hp) (.dat (.lst upd_same ((d1.append d2).mono (same_upd (Same.none sm hp)))))
theorem dqRep {G : Hp} : ∀ {vs : List V} {ds : List D} (n : Nat), DqAll G vs ds → DqAll G (List.replicate n vs).flatten (List.replicate n ds).flatten
  | _, _, 0, _ => .nil
  | vs, ds, n + 1, h => by
    rw [List.replicate_succ, List.flatten_cons, List.replicate_succ, List.flatten_cons]
    exact h.append (dqRep n h)
theorem ex_neg (ha : EX X Φ A a (di i)) : EX X Φ A (.UnaryOp .USub a pos) (di (-i)) := exw_of (pe_un un_neg RE.pe) fun μ G0 H0 G H σ Q ab φ q => ha μ G0 H0 G H σ _ ab φ fun s x G1 H1 w g1 sv1 => by
  subst w
  cases sv1 with
  | dat h1 => cases h1; exact ⟨i, rfl, q _ _ G1 H1 rfl g1 (.dat (.int _))⟩

/-! comparisons -/
theorem eb_cmp {op : CmpOp} {r : R2} {c : Bool} (ho : OpR X (compareOp op) r) (ha : EX X Φ A a s1) (hb : EX X Φ A b s2) (hm : behindInMarks op b = false)
    (hr : ∀ x y G H Q, Same G H → Sv X.K G x s1 → Sv X.K G y s2 → Q (.bl c) H → r x y H Q) : EB X Φ A (.Compare a [op] [b] pos) c := by
  have main : ∀ μ G0 H0 G H σ (Q : VK), Ab μ X.K G0 H0 G H A σ → Φ.p G → (∀ G' H', Gr false G H G' H' → Q (.bl c) H') → tOp r (RE X a) (RE X b) σ H Q := fun μ G0 H0 G H σ Q ab φ q =>
    ha μ G0 H0 G H σ _ ab φ fun s x G1 H1 w g1 sv1 => by
      subst w
      refine hb μ G0 H0 G1 H1 σ _ (ab.step g1) (Φ.st _ _ (g1.s rfl) φ) fun s y G2 H2 w g2 sv2 => ?_
      subst w
      exact hr x y G2 H2 Q g2.i (sv1.mono (g2.s rfl)) sv2 (q G2 H2 (g1.trans g2))
  refine ⟨exw_of (pe_cmpR ho RE.pe RE.pe hm) fun μ G0 H0 G H σ Q ab φ q => main μ G0 H0 G H σ Q ab φ fun G' H' g => q _ _ G' H' rfl g (.dat (.bl c)), fun μ G0 H0 G H σ Q ab φ q => ?_⟩
  refine RT.of (pt_cmpR ho RE.pe RE.pe hm) (main μ G0 H0 G H σ _ ab φ fun G' H' g => ⟨c, rfl, q H' (g.forget ab.i)⟩)
theorem eb_lt (ha : EX X Φ A a (di i)) (hb : EX X Φ A b (di j)) : EB X Φ A (.Compare a [.Lt] [b] pos) (decide (i < j)) := eb_cmp op_lt ha hb (nomark _) fun x y G H Q sm h1 h2 q => by
  cases h1 with
  | dat h1 => cases h1; cases h2 with
    | dat h2 => cases h2; exact ⟨i, j, rfl, rfl, q⟩
theorem eb_le (ha : EX X Φ A a (di i)) (hb : EX X Φ A b (di j)) : EB X Φ A (.Compare a [.LtE] [b] pos) (decide (i ≤ j)) := eb_cmp op_le ha hb (nomark _) fun x y G H Q sm h1 h2 q => by
  cases h1 with
  | dat h1 => cases h1; cases h2 with
    | dat h2 => cases h2; exact ⟨i, j, rfl, rfl, q⟩
theorem eb_gt (ha : EX X Φ A a (di i)) (hb : EX X Φ A b (di j)) : EB X Φ A (.Compare a [.Gt] [b] pos) (decide (j < i)) := eb_cmp op_gt ha hb (nomark _) fun x y G H Q sm h1 h2 q => by
  cases h1 with
  | dat h1 => cases h1; cases h2 with
    | dat h2 => cases h2; exact ⟨i, j, rfl, rfl, q⟩
theorem eb_ge (ha : EX X Φ A a (di i)) (hb : EX X Φ A b (di j)) : EB X Φ A (.Compare a [.GtE] [b] pos) (decide (j ≤ i)) := eb_cmp op_ge ha hb (nomark _) fun x y G H Q sm h1 h2 q => by
  cases h1 with
  | dat h1 => cases h1; cases h2 with
    | dat h2 => cases h2; exact ⟨i, j, rfl, rfl, q⟩
/-- data, as == reads it -/
theorem Sv.dp {K : PySem.W.Frag} {G H : Hp} {v : V} {d : D} (h : Sv K G v (.dat d)) (sm : Same G H) : Dp K H v d := by
  cases h with
  | dat h => exact Dq.dp _ _ (h.mono sm)
variable {d d' : D}
theorem eb_eq (ha : EX X Φ A a (.dat d)) (hb : EX X Φ A b (.dat d')) (hu : X.A.units + 65 < cLine) (s1 : SeqAt.shaped d = true) (s2 : SeqAt.shaped d' = true) : EB X Φ A (.Compare a [.Eq] [b] pos) (PyData.eqv d d') :=
  eb_cmp (op_eqD (by omega)) ha hb (nomark _) fun x y G H Q sm h1 h2 q => ⟨d, d', h1.dp sm, h2.dp sm, s1, s2, q⟩
theorem eb_ne (ha : EX X Φ A a (.dat d)) (hb : EX X Φ A b (.dat d')) (hu : X.A.units + 65 < cLine) (s1 : SeqAt.shaped d = true) (s2 : SeqAt.shaped d' = true) : EB X Φ A (.Compare a [.NotEq] [b] pos) (!PyData.eqv d d') :=
  eb_cmp (op_neD (by omega)) ha hb (nomark _) fun x y G H Q sm h1 h2 q => ⟨d, d', h1.dp sm, h2.dp sm, s1, s2, q⟩
theorem scal_i (i j : Int) : scal (.int i) (.int j) = true := rfl
/-- of ints, of texts: the short way -/
theorem eb_eqI (ha : EX X Φ A a (di i)) (hb : EX X Φ A b (di j)) : EB X Φ A (.Compare a [.Eq] [b] pos) (decide (i = j)) := eb_cmp op_eq ha hb (nomark _) fun x y G H Q sm h1 h2 q => by
  cases h1 with
  | dat h1 => cases h1; cases h2 with
    | dat h2 =>
      cases h2
      refine ⟨rfl, ?_⟩
      rw [show decide (V.int i = V.int j) = decide (i = j) by by_cases z : i = j <;> simp [z]]
      exact q
theorem eb_neI (ha : EX X Φ A a (di i)) (hb : EX X Φ A b (di j)) : EB X Φ A (.Compare a [.NotEq] [b] pos) (!decide (i = j)) := eb_cmp op_ne ha hb (nomark _) fun x y G H Q sm h1 h2 q => by
  cases h1 with
  | dat h1 => cases h1; cases h2 with
    | dat h2 =>
      cases h2
      refine ⟨rfl, ?_⟩
      rw [show decide (V.int i = V.int j) = decide (i = j) by by_cases z : i = j <;> simp [z]]
      exact q
theorem eb_eqS (ha : EX X Φ A a (ds x)) (hb : EX X Φ A b (ds y)) : EB X Φ A (.Compare a [.Eq] [b] pos) (decide (x = y)) := eb_cmp op_eq ha hb (nomark _) fun _ _ G H Q sm h1 h2 q => by
  cases h1 with
  | dat h1 => cases h1; cases h2 with
    | dat h2 =>
      cases h2
      refine ⟨rfl, ?_⟩
      rw [show decide (V.str x = V.str y) = decide (x = y) by by_cases z : x = y <;> simp [z]]
      exact q
theorem eb_neS (ha : EX X Φ A a (ds x)) (hb : EX X Φ A b (ds y)) : EB X Φ A (.Compare a [.NotEq] [b] pos) (!decide (x = y)) := eb_cmp op_ne ha hb (nomark _) fun _ _ G H Q sm h1 h2 q => by
  cases h1 with
  | dat h1 => cases h1; cases h2 with
    | dat h2 =>
      cases h2
      refine ⟨rfl, ?_⟩
      rw [show decide (V.str x = V.str y) = decide (x = y) by by_cases z : x = y <;> simp [z]]
      exact q
def isN : D → Bool
  | .none => true
  | _ => false
theorem Dq.isN {G : Hp} {v : V} : ∀ {d : D}, Dq G v d → decide (v = .non) = isN d
  | .none, h => by cases h; rfl
  | .bool _, h => by cases h; rfl
  | .int _, h => by cases h; rfl
  | .str _, h => by cases h; rfl
  | .list _, h => by cases h; rfl
  | .tuple _, h => by cases h; rfl
  | .dict _, h => by cases h
theorem eb_isN {jj : Nat} {pos' : Pos} (ha : EX X Φ A a (.dat d)) : EB X Φ A (.Compare a [.Is] [.Constant .none jj pos'] pos) (isN d) := eb_cmp op_isN ha ex_none (nomark _) fun x y G H Q sm h1 h2 q => by
  cases h1 with
  | dat h1 => cases h2 with
    | dat h2 =>
      cases h2
      refine ⟨rfl, ?_⟩
      rw [h1.isN]
      exact q
theorem eb_notN {jj : Nat} {pos' : Pos} (ha : EX X Φ A a (.dat d)) : EB X Φ A (.Compare a [.IsNot] [.Constant .none jj pos'] pos) (!isN d) := eb_cmp op_notN ha ex_none (nomark _) fun x y G H Q sm h1 h2 q => by
  cases h1 with
  | dat h1 => cases h2 with
    | dat h2 =>
      cases h2
      refine ⟨rfl, ?_⟩
      rw [h1.isN]
      exact q
/-- x in a list of data -/
theorem eb_in (ha : EX X Φ A a (.dat d)) (hb : EX X Φ A b (.dat (.list xs))) (hu : X.A.units + 65 < cLine) (s1 : SeqAt.shaped d = true) (s2 : SeqAt.shaped (.list xs) = true) (hm : behindInMarks .In b = false := by rfl) :
    EB X Φ A (.Compare a [.In] [b] pos) (xs.any fun z => PyData.eqv z d) :=
  eb_cmp (op_inD hu) ha hb hm fun x y G H Q sm h1 h2 q => ⟨d, xs, h1.dp sm, h2.dp sm, s1, s2, q⟩
theorem eb_notin (ha : EX X Φ A a (.dat d)) (hb : EX X Φ A b (.dat (.list xs))) (hu : X.A.units + 65 < cLine) (s1 : SeqAt.shaped d = true) (s2 : SeqAt.shaped (.list xs) = true) (hm : behindInMarks .NotIn b = false := by rfl) :
    EB X Φ A (.Compare a [.NotIn] [b] pos) (!xs.any fun z => PyData.eqv z d) :=
  eb_cmp (op_notInD hu) ha hb hm fun x y G H Q sm h1 h2 q => ⟨d, xs, h1.dp sm, h2.dp sm, s1, s2, q⟩

/-! and, or, not, a if c else b -/
theorem eb_of {c : Bool} (h : EX X Φ A e (db c)) (he : ∀ whole, isTrue e X.env whole = (do let v ← whole; standAt e.pos; holding [v] (truthy v)) := by intro _; rfl) : EB X Φ A e c :=
  ⟨h, fun μ G0 H0 G H σ Q ab φ q => RT.of (pt_val RE.pe he) (h μ G0 H0 G H σ _ ab φ fun s v G1 H1 w g sv => by
    subst w
    cases sv with
    | dat sv => cases sv; exact ⟨c, rfl, q H1 (g.forget ab.i)⟩)⟩
structure EW (X : Cx) (Φ : Ph) (A : List Sl) (op : BoolOp) (es : List Expr) (pos : Pos) (b : Bool) : Prop where
  v : EX X Φ A (.BoolOp op es pos) (db b)
  t : ∀ μ G0 H0 G H σ Q, Ab μ X.K G0 H0 G H A σ → Φ.p G → (∀ H', Gr false G H G H' → Q b H') → RW X (.BoolOp op es pos) σ H Q
variable {rest : List Expr} {c1 c2 : Bool}
theorem ew_and1 (h : EB X Φ A a c1) : EW X Φ A .And [a] pos c1 := ⟨fun μ G0 H0 G H σ Q ab φ q => RE.of (pe_one RE.pe) (h.v μ G0 H0 G H σ Q ab φ q), fun μ G0 H0 G H σ Q ab φ q => RW.of (pw_and1 RT.pt) (h.t μ G0 H0 G H σ Q ab φ q)⟩
theorem ew_or1 (h : EB X Φ A a c1) : EW X Φ A .Or [a] pos c1 := ⟨fun μ G0 H0 G H σ Q ab φ q => RE.of (pe_one RE.pe) (h.v μ G0 H0 G H σ Q ab φ q), fun μ G0 H0 G H σ Q ab φ q => RW.of (pw_or1 RT.pt) (h.t μ G0 H0 G H σ Q ab φ q)⟩
theorem ew_and (ha : EB X Φ A a c1) (hb : c1 = true → EW X Φ A .And (b :: rest) pos c2) : EW X Φ A .And (a :: b :: rest) pos (c1 && c2) := by
  refine ⟨fun μ G0 H0 G H σ Q ab φ q => RE.of (pe_and RE.pe RE.pe) (ha.v μ G0 H0 G H σ _ ab φ fun s v G1 H1 w g sv => ?_), fun μ G0 H0 G H σ Q ab φ q => RW.of (pw_and RT.pt RW.pw) (ha.t μ G0 H0 G H σ _ ab φ fun H1 g => ?_)⟩
  · subst w
    cases sv with
    | dat sv =>
      cases sv
      refine ⟨c1, rfl, ?_⟩
      cases c1 with
      | true =>
        rw [if_pos rfl]
        exact (hb rfl).v μ G0 H0 G1 H1 σ Q (ab.step g) (Φ.st _ _ (g.s rfl) φ) fun s v G2 H2 w g2 => q s v G2 H2 w (g.trans g2)
      | false =>
        rw [if_neg Bool.false_ne_true]
        exact q _ _ G1 H1 rfl g (.dat (.bl false))
  · cases c1 with
    | true =>
      show if true = true then _ else _
      rw [if_pos rfl]
      exact (hb rfl).t μ G0 H0 G H1 σ Q (ab.step g) φ fun H2 g2 => q H2 (g.trans g2)
    | false =>
      show if false = true then _ else _
      rw [if_neg Bool.false_ne_true]
      exact q H1 g
theorem ew_or (ha : EB X Φ A a c1) (hb : c1 = false → EW X Φ A .Or (b :: rest) pos c2) : EW X Φ A .Or (a :: b :: rest) pos (c1 || c2) := by
  refine ⟨fun μ G0 H0 G H σ Q ab φ q => RE.of (pe_or RE.pe RE.pe) (ha.v μ G0 H0 G H σ _ ab φ fun s v G1 H1 w g sv => ?_), fun μ G0 H0 G H σ Q ab φ q => RW.of (pw_or RT.pt RW.pw) (ha.t μ G0 H0 G H σ _ ab φ fun H1 g => ?_)⟩
  · subst w
    cases sv with
    | dat sv =>
      cases sv
      refine ⟨c1, rfl, ?_⟩
      cases c1 with
      | true =>
        rw [if_pos rfl]
        exact q _ _ G1 H1 rfl g (.dat (.bl true))
      | false =>
        rw [if_neg Bool.false_ne_true]
        exact (hb rfl).v μ G0 H0 G1 H1 σ Q (ab.step g) (Φ.st _ _ (g.s rfl) φ) fun s v G2 H2 w g2 => q s v G2 H2 w (g.trans g2)
  · cases c1 with
    | true =>
      show if true = true then _ else _
      rw [if_pos rfl]
      exact q H1 g
    | false =>
      show if false = true then _ else _
      rw [if_neg Bool.false_ne_true]
      exact (hb rfl).t μ G0 H0 G H1 σ Q (ab.step g) φ fun H2 g2 => q H2 (g.trans g2)
theorem eb_bop {op : BoolOp} (h : EW X Φ A op es pos c1) : EB X Φ A (.BoolOp op es pos) c1 := ⟨h.v, fun μ G0 H0 G H σ Q ab φ q => RT.of RW.pw.pt (h.t μ G0 H0 G H σ Q ab φ q)⟩
theorem eb_not (h : EB X Φ A a c1) : EB X Φ A (.UnaryOp .Not a pos) (!c1) := by
  refine ⟨fun μ G0 H0 G H σ Q ab φ q => RE.of (pe_not RE.pe) (h.v μ G0 H0 G H σ _ ab φ fun s v G1 H1 w g sv => ?_), fun μ G0 H0 G H σ Q ab φ q => RT.of (pt_not RT.pt) (h.t μ G0 H0 G H σ _ ab φ q)⟩
  subst w
  cases sv with
  | dat sv => cases sv; exact ⟨c1, rfl, q _ _ G1 H1 rfl g (.dat (.bl _))⟩
theorem ex_if (hc : EB X Φ A c c1) (ha : c1 = true → EXW X Φ A a W) (hb : c1 = false → EXW X Φ A b W) : EXW X Φ A (.IfExp c a b pos) W :=
  exw_of (pe_ifExp RT.pt RE.pe RE.pe) fun μ G0 H0 G H σ Q ab φ q => hc.t μ G0 H0 G H σ _ ab φ fun H1 g => by
    cases c1 with
    | true =>
      show if true = true then _ else _
      rw [if_pos rfl]
      exact ha rfl μ G0 H0 G H1 σ Q (ab.step g) φ fun s v G2 H2 w g2 => q s v G2 H2 w (g.trans g2)
    | false =>
      show if false = true then _ else _
      rw [if_neg Bool.false_ne_true]
      exact hb rfl μ G0 H0 G H1 σ Q (ab.step g) φ fun s v G2 H2 w g2 => q s v G2 H2 w (g.trans g2)

/-! argument lists, displays -/
variable {ss : List Ds}
theorem ea_nil : EA X Φ A [] [] := fun μ G0 H0 G H σ Q ab φ q => RA.of pa_nil (q [] G H (.refl ab.i) .nil)
theorem ea_cons (h : EX X Φ A e s) (r : EA X Φ A es ss) (hs : starEach (e :: es) X.env = (false, eval e X.env) :: starEach es X.env := by rfl) : EA X Φ A (e :: es) (s :: ss) := fun μ G0 H0 G H σ Q ab φ q =>
  RA.of (pa_cons RE.pe RA.pa hs) (h μ G0 H0 G H σ _ ab φ fun s v G1 H1 w g1 sv => by
    subst w
    exact r μ G0 H0 G1 H1 σ _ (ab.step g1) (Φ.st _ _ (g1.s rfl) φ) fun vs G2 H2 g2 svs => q (v :: vs) G2 H2 (g1.trans g2) (.cons (sv.mono (g2.s rfl)) svs))
theorem ex_tupS {x1} (h : EA X Φ A es ss) (hz : ss.length ≤ 1000) : EX X Φ A (.Tuple es x1 pos) (.tup ss) := exw_of (pe_tup RA.pa) fun μ G0 H0 G H σ Q ab φ q => h μ G0 H0 G H σ _ ab φ fun vs G1 H1 g svs =>
  ⟨Nat.le_trans (by rw [svs.length]; exact hz) (by decide), fun p hp => q _ _ (upd G1 p (.tup vs)) _ rfl (g.trans (.new g.i hp)) (.tup upd_same (svs.mono (same_upd (Same.none g.i hp))))⟩
theorem ex_tup {x1} {ds : List D} (h : EA X Φ A es (ds.map .dat)) (hz : ds.length ≤ 1000) : EX X Φ A (.Tuple es x1 pos) (.dat (.tuple ds)) := exw_of (pe_tup RA.pa) fun μ G0 H0 G H σ Q ab φ q => h μ G0 H0 G H σ _ ab φ fun vs G1 H1 g svs =>
  ⟨Nat.le_trans (by rw [svs.dats.length]; exact hz) (by decide), fun p hp => q _ _ (upd G1 p (.tup vs)) _ rfl (g.trans (.new g.i hp)) (.dat (.tup upd_same (svs.dats.mono (same_upd (Same.none g.i hp)))))⟩
theorem ex_lst {ds : List D} (h : EA X Φ A es (ds.map .dat)) (hz : ds.length ≤ 1000) : EX X Φ A (.List es pos) (.dat (.list ds)) := exw_of (pe_lst RA.pa) fun μ G0 H0 G H σ Q ab φ q => h μ G0 H0 G H σ _ ab φ fun vs G1 H1 g svs =>
  ⟨Nat.le_trans (by rw [svs.dats.length]; exact hz) (by decide), fun p hp => q _ _ (upd G1 p (.lst vs)) _ rfl (g.trans (.new g.i hp)) (.dat (.lst upd_same (svs.dats.mono (same_upd (Same.none g.i hp)))))⟩

/-! subscripts -/
theorem atI_len {α β : Type} {xs : List α} {ys : List β} (h : xs.length = ys.length) {i : Int} {y : β} (e : atI ys i = some y) : ∃ j, ixN xs.length i = some j ∧ ys[j]? = some y := by
  unfold atI at e
  rw [← h] at e
  cases q : ixN xs.length i with
  | none => rw [q] at e; cases e
  | some j => rw [q] at e; exact ⟨j, rfl, e⟩
theorem DqAll.at {G : Hp} {vs : List V} {ds : List D} {i : Int} {d : D} (h : DqAll G vs ds) (e : atI ds i = some d) : ∃ v, atI vs i = some v ∧ Dq G v d := by
  obtain ⟨j, e1, e2⟩ := atI_len h.length e
  obtain ⟨v, e3, q⟩ := h.get e2
  exact ⟨v, by unfold atI; rw [e1]; exact e3, q⟩
theorem SvAll.get {K : PySem.W.Frag} {G : Hp} : ∀ {vs : List V} {ss : List Ds} {i : Nat} {s : Ds}, SvAll K G vs ss → ss[i]? = some s → ∃ v, vs[i]? = some v ∧ Sv K G v s
  | [], [], _, _, _, e => by simp at e
  | _ :: _, [], _, _, h, _ => by cases h
  | [], _ :: _, _, _, h, _ => by cases h
  | v :: vs, d' :: ds, 0, d, h, e => by
    cases h with
    | cons h1 h2 =>
      have e' : d' = d := by simpa using e
      subst e'
      exact ⟨v, rfl, h1⟩
  | v :: vs, d' :: ds, i + 1, d, h, e => by
    cases h with
    | cons h1 h2 =>
      obtain ⟨w, h3, h4⟩ := SvAll.get h2 (show ds[i]? = some d by simpa using e)
      exact ⟨w, by simpa using h3, h4⟩
theorem SvAll.at {K : PySem.W.Frag} {G : Hp} {vs : List V} {ss : List Ds} {i : Int} {s : Ds} (h : SvAll K G vs ss) (e : atI ss i = some s) : ∃ v, atI vs i = some v ∧ Sv K G v s := by
  obtain ⟨j, e1, e2⟩ := atI_len h.length e
  obtain ⟨v, e3, q⟩ := h.get e2
  exact ⟨v, by unfold atI; rw [e1]; exact e3, q⟩
inductive IxD : Ds → Int → Ds → Prop
  | lst {ds : List D} {i : Int} {d : D} : atI ds i = some d → IxD (.dat (.list ds)) i (.dat d)
  | tup {ds : List D} {i : Int} {d : D} : atI ds i = some d → IxD (.dat (.tuple ds)) i (.dat d)
  | tupS {ss : List Ds} {i : Int} {d : Ds} : atI ss i = some d → IxD (.tup ss) i d
  | sq {ns : List Int} {i n : Int} : atI ns i = some n → IxD (.sq ns) i (di n)
  | str {x : Str} {i : Int} {c : Nat} : x.length ≤ sizeLine → atI x.cps.toList i = some c → IxD (ds x) i (ds ⟨#[c]⟩)
theorem atI_map {α β : Type} {xs : List α} {i : Int} {x : α} (f : α → β) (h : atI xs i = some x) : atI (xs.map f) i = some (f x) := by
  obtain ⟨j, e1, e2⟩ := atI_len (xs := xs.map f) (List.length_map _) h
  unfold atI
  rw [e1]
  show (xs.map f)[j]? = _
  rw [List.getElem?_map, e2]
  rfl
theorem ex_ixW {z : Ds} (ha : EXW X Φ A a W) (hb : EX X Φ A b (di i)) (h : ∀ s, W s → IxD s i z) (hp : PlainIx b := by intro _ _; rfl) : EX X Φ A (.Subscript a b pos) z :=
  exw_of (pe_ix ix_seq RE.pe RE.pe hp) fun μ G0 H0 G H σ Q ab φ q => ha μ G0 H0 G H σ _ ab φ fun s x G1 H1 w g1 sv1 => by
    refine hb μ G0 H0 G1 H1 σ _ (ab.step g1) (Φ.st _ _ (g1.s rfl) φ) fun s' y G2 H2 w' g2 sv2 => ?_
    subst w'
    have hs := h s w
    have sv := sv1.mono (g2.s rfl)
    cases sv2 with
    | dat sv2 =>
      cases sv2
      cases hs with
      | lst e =>
        cases sv with
        | dat sv => cases sv with
          | lst h1 h2 =>
            obtain ⟨v, e1, dq⟩ := h2.at e
            exact .inl ⟨_, _, i, v, rfl, rfl, .of (g2.i _ _ h1), e1, q _ _ G2 H2 rfl (g1.trans g2) (.dat dq)⟩
      | tup e =>
        cases sv with
        | dat sv => cases sv with
          | tup h1 h2 =>
            obtain ⟨v, e1, dq⟩ := h2.at e
            exact .inr (.inl ⟨_, _, i, v, rfl, rfl, .of (g2.i _ _ h1), e1, q _ _ G2 H2 rfl (g1.trans g2) (.dat dq)⟩)
      | tupS e =>
        cases sv with
        | tup h1 h2 =>
          obtain ⟨v, e1, dq⟩ := h2.at e
          exact .inr (.inl ⟨_, _, i, v, rfl, rfl, .of (g2.i _ _ h1), e1, q _ _ G2 H2 rfl (g1.trans g2) dq⟩)
      | sq e =>
        cases sv with
        | sq h1 => exact .inl ⟨_, _, i, _, rfl, rfl, g2.i.seq h1, atI_map _ e, q _ _ G2 H2 rfl (g1.trans g2) (.dat (.int _))⟩
      | str hl e =>
        cases sv with
        | dat sv => cases sv; exact .inr (.inr ⟨_, i, _, rfl, rfl, hl, e, q _ _ G2 H2 rfl (g1.trans g2) (.dat (.str _))⟩)
theorem ex_ix {z : Ds} (ha : EX X Φ A a s) (hb : EX X Φ A b (di i)) (h : IxD s i z) (hp : PlainIx b := by intro _ _; rfl) : EX X Φ A (.Subscript a b pos) z := ex_ixW ha hb (fun s' w => by subst w; exact h) hp
theorem ex_ixL {ds : List D} {d : D} (ha : EX X Φ A a (.dat (.list ds))) (hb : EX X Φ A b (di i)) (h : atI ds i = some d) (hp : PlainIx b := by intro _ _; rfl) : EX X Φ A (.Subscript a b pos) (.dat d) := ex_ix ha hb (.lst h) hp
theorem ex_ixT {ds : List D} {d : D} (ha : EX X Φ A a (.dat (.tuple ds))) (hb : EX X Φ A b (di i)) (h : atI ds i = some d) (hp : PlainIx b := by intro _ _; rfl) : EX X Φ A (.Subscript a b pos) (.dat d) := ex_ix ha hb (.tup h) hp
theorem ex_ixM {α : Type} {f : α → D} {xs : List α} {x : α} (ha : EX X Φ A a (.dat (.list (xs.map f)))) (hb : EX X Φ A b (di i)) (h : atI xs i = some x) (hp : PlainIx b := by intro _ _; rfl) : EX X Φ A (.Subscript a b pos) (.dat (f x)) := ex_ixL ha hb (atI_map f h) hp
/-! slices -/
def cutL {α : Type} (xs : List α) (lo hi : Option Int) : List α := (xs.drop (HT.sIx xs.length 0 lo)).take (HT.sIx xs.length xs.length hi - HT.sIx xs.length 0 lo)
theorem cut_eq {xs : List V} {lo hi : Option Int} : cutV xs lo hi = cutL xs lo hi := rfl
theorem DqAll.cut {G : Hp} {vs : List V} {ds : List D} {lo hi : Option Int} (h : DqAll G vs ds) : DqAll G (cutV vs lo hi) (cutL ds lo hi) := by
  unfold cutV cutL
  rw [h.length]
  exact (h.drop _).take _
def EO (X : Cx) (Φ : Ph) (A : List Sl) (e : Option Expr) (o : Option Int) : Prop := ∃ t : TO, PO X e t ∧ ∀ μ G0 H0 G H σ Q, Ab μ X.K G0 H0 G H A σ → Φ.p G → (∀ G' H', Gr false G H G' H' → Q o H') → t σ H Q
theorem eo_none : EO X Φ A none none := ⟨_, po_none, fun μ G0 H0 G H σ Q ab φ q => q G H (.refl ab.i)⟩
theorem eo_some (h : EX X Φ A e (di i)) : EO X Φ A (some e) (some i) := ⟨_, po_some RE.pe, fun μ G0 H0 G H σ Q ab φ q => h μ G0 H0 G H σ _ ab φ fun s v G1 H1 w g sv => by
  subst w
  cases sv with
  | dat sv => cases sv; exact ⟨i, rfl, q G1 H1 g⟩⟩
theorem ex_slice {lo hi : Option Expr} {l h : Option Int} {p2 : Pos} {ds : List D} (ha : EX X Φ A a (.dat (.list ds))) (hl : EO X Φ A lo l) (hh : EO X Φ A hi h) : EX X Φ A (.Subscript a (.Slice lo hi none p2) pos) (.dat (.list (cutL ds l h))) := by
  obtain ⟨t1, p1, k1⟩ := hl
  obtain ⟨t2, p2, k2⟩ := hh
  refine exw_of (pe_slice sl_list RE.pe p1 p2) fun μ G0 H0 G H σ Q ab φ q => ha μ G0 H0 G H σ _ ab φ fun s x G1 H1 w g1 sv1 => ?_
  subst w
  refine k1 μ G0 H0 G1 H1 σ _ (ab.step g1) (Φ.st _ _ (g1.s rfl) φ) fun G2 H2 g2 => k2 μ G0 H0 G2 H2 σ _ (ab.step (g1.trans g2)) (Φ.st _ _ ((g1.trans g2).s rfl) φ) fun G3 H3 g3 => ?_
  cases sv1 with
  | dat sv => cases sv with
    | lst h1 h2 =>
      refine ⟨_, _, rfl, .of (g3.i _ _ ((g2.trans g3).s rfl _ _ h1)), fun p hp => ?_⟩
      have h3 : DqAll G3 _ ds := h2.mono ((g2.trans g3).s rfl)
      exact q _ _ (upd G3 p (.lst _)) _ rfl (((g1.trans g2).trans g3).trans (.new g3.i hp)) (.dat (.lst upd_same (h3.cut.mono (same_upd (Same.none g3.i hp)))))
/-- a slice of the script -/
theorem ex_sliceQ {lo hi : Option Expr} {l h : Option Int} {p2 : Pos} {ns : List Int} (ha : EX X Φ A a (.sq ns)) (hl : EO X Φ A lo l) (hh : EO X Φ A hi h) : EX X Φ A (.Subscript a (.Slice lo hi none p2) pos) (.dat (.list ((cutL ns l h).map .int))) := by
  obtain ⟨t1, p1, k1⟩ := hl
  obtain ⟨t2, p2, k2⟩ := hh
  refine exw_of (pe_slice sl_list RE.pe p1 p2) fun μ G0 H0 G H σ Q ab φ q => ha μ G0 H0 G H σ _ ab φ fun s x G1 H1 w g1 sv1 => ?_
  subst w
  refine k1 μ G0 H0 G1 H1 σ _ (ab.step g1) (Φ.st _ _ (g1.s rfl) φ) fun G2 H2 g2 => k2 μ G0 H0 G2 H2 σ _ (ab.step (g1.trans g2)) (Φ.st _ _ ((g1.trans g2).s rfl) φ) fun G3 H3 g3 => ?_
  cases sv1 with
  | sq h1 =>
    refine ⟨_, _, rfl, g3.i.seq (((g2.trans g3).s rfl).seq h1), fun p hp => ?_⟩
    refine q _ _ (upd G3 p (.lst _)) _ rfl (((g1.trans g2).trans g3).trans (.new g3.i hp)) (.dat (.lst upd_same ?_))
    have e : cutV (ns.map V.int) l h = (cutL ns l h).map V.int := by
      unfold cutV cutL
      rw [List.length_map, List.map_take, List.map_drop]
    rw [e]
    exact DqAll.of_ints _
end
end Dl
namespace Dl
open PySem PySem.Spec PyProof.Rows L2

section
variable {X : Cx} {Φ : Ph} {A : List Sl} {a b c e : Expr} {es : List Expr} {pos p : Pos} {W W' : Ds → Prop} {s s1 s2 : Ds} {ss : List Ds} {x : Str} {d : D}
/-! ### calls of built-ins -/
theorem exw_callB {id : String} {r : List V → Hp → VK → Prop} (hc : CallR X (.builtin id) r) (hm : X.mg x = none) (hv : bootBuiltins x = some (.builtin id)) (ha : EA X Φ A (e :: es) ss)
    (hr : ∀ vs G H Q, Same G H → SvAll X.K G vs ss → PostV X.K G H W Q → r vs H Q) (hg : Gl X x := by rfl) (hn : x ≠ "__name__" := by decide) (hdb : (x == ("__debug__" : Str)) = false := by decide)
    (he : starEach (e :: es) X.env = (false, eval e X.env) :: starEach es X.env := by rfl) (hpl : (backTo pos (starEach es X.env)).any (·.1) = false := by rfl) : EXW X Φ A (.Call (.Name x p) (e :: es) [] pos) W :=
  exw_of (pe_callB hc hg hm hv RA.pa hn hdb he hpl) fun μ G0 H0 G H σ Q ab φ q => ha μ G0 H0 G H σ _ ab φ fun vs G1 H1 g svs => hr vs G1 H1 Q g.i svs fun s v G2 H2 w g2 => q s v G2 H2 w (g.trans g2)
theorem exw_callT {T : String} {r : List V → Hp → VK → Prop} (hc : CallR X (.type T) r) (hm : X.mg x = none) (hv : bootBuiltins x = some (.type T)) (ha : EA X Φ A (e :: es) ss)
    (hr : ∀ vs G H Q, Same G H → SvAll X.K G vs ss → PostV X.K G H W Q → r vs H Q) (hg : Gl X x := by rfl) (hn : x ≠ "__name__" := by decide) (hdb : (x == ("__debug__" : Str)) = false := by decide)
    (he : starEach (e :: es) X.env = (false, eval e X.env) :: starEach es X.env := by rfl) (hpl : (backTo pos (starEach es X.env)).any (·.1) = false := by rfl) : EXW X Φ A (.Call (.Name x p) (e :: es) [] pos) W :=
  exw_of (pe_callTy hc hg hm hv RA.pa hn hdb he hpl) fun μ G0 H0 G H σ Q ab φ q => ha μ G0 H0 G H σ _ ab φ fun vs G1 H1 g svs => hr vs G1 H1 Q g.i svs fun s v G2 H2 w g2 => q s v G2 H2 w (g.trans g2)
theorem SvAll.one {K : PySem.W.Frag} {G : Hp} {vs : List V} (h : SvAll K G vs [s]) : ∃ v, vs = [v] ∧ Sv K G v s := by
  cases h with
  | cons h1 h2 => cases h2; exact ⟨_, rfl, h1⟩
theorem SvAll.two {K : PySem.W.Frag} {G : Hp} {vs : List V} (h : SvAll K G vs [s1, s2]) : ∃ v w, vs = [v, w] ∧ Sv K G v s1 ∧ Sv K G w s2 := by
  cases h with
  | cons h1 h2 =>
    obtain ⟨w, rfl, h3⟩ := h2.one
    exact ⟨_, w, rfl, h1, h3⟩
inductive LenD : Ds → Nat → Prop
  | lst (ds : List D) : LenD (.dat (.list ds)) ds.length
  | tup (ds : List D) : LenD (.dat (.tuple ds)) ds.length
  | sq (ns : List Int) : LenD (.sq ns) ns.length
  | str {x : Str} (h : x.length ≤ sizeLine) : LenD (.dat (.str x)) x.length
theorem ex_len {n : Nat} (hm : X.mg "len" = none) (ha : EX X Φ A e s) (hl : LenD s n) (hg : Gl X "len" := by rfl) (he : starEach [e] X.env = (false, eval e X.env) :: starEach [] X.env := by rfl) : EX X Φ A (.Call (.Name "len" p) [e] [] pos) (di n) :=
  exw_callB call_len hm PySem.boot_len (ea_cons ha ea_nil he) (hg := hg) (he := he) fun vs G H Q sm svs q => by
    obtain ⟨v, rfl, sv⟩ := svs.one
    have fin := q _ (.int n) G H rfl (.refl sm) (.dat (.int n))
    cases hl with
    | lst ds => cases sv with
      | dat sv => cases sv with
        | lst h1 h2 => exact ⟨_, _, rfl, .inl ⟨_, .of (sm _ _ h1), rfl⟩, by rw [h2.length]; exact fin⟩
    | tup ds => cases sv with
      | dat sv => cases sv with
        | tup h1 h2 => exact ⟨_, _, rfl, .inr ⟨_, .of (sm _ _ h1), rfl⟩, by rw [h2.length]; exact fin⟩
    | sq ns => cases sv with
      | sq h1 => exact ⟨_, _, rfl, .inl ⟨_, sm.seq h1, rfl⟩, by rw [List.length_map]; exact fin⟩
    | str h => cases sv with
      | dat sv => cases sv; exact ⟨_, _, rfl, ⟨h, rfl⟩, fin⟩
/-- isinstance(x, T) of data -/
def tyD : D → String
  | .none => "NoneType"
  | .bool _ => "bool"
  | .int _ => "int"
  | .str _ => "str"
  | .list _ => "list"
  | .tuple _ => "tuple"
  | .dict _ => "dict"
theorem Dq.ty {K : PySem.W.Frag} {G H : Hp} {v : V} (sm : Same G H) : ∀ {d : D}, Dq G v d → TyX K H v (.type (tyD d))
  | .none, h => by cases h; exact .base .non
  | .bool b, h => by cases h; exact .base (.bl b)
  | .int i, h => by cases h; exact .base (.int i)
  | .str x, h => by cases h; exact .base (.str x)
  | .list _, h => by
    cases h with
    | lst h1 _ => exact .base (.lst (sm _ _ h1))
  | .tuple _, h => by
    cases h with
    | tup h1 _ => exact .base (.tup (sm _ _ h1))
  | .dict _, h => by cases h
theorem eb_isi {T : String} {k : Bool} (hm : X.mg "isinstance" = none) (ha : EX X Φ A e (.dat d)) (hb : EX X Φ A b (.raw (.ty T))) (hk : kitB (tyD d) T = some k) (hg : Gl X "isinstance" := by rfl)
    (he : starEach [e, b] X.env = (false, eval e X.env) :: starEach [b] X.env := by rfl) (he2 : starEach [b] X.env = (false, eval b X.env) :: starEach [] X.env := by rfl) (hpl : (backTo pos (starEach [b] X.env)).any (·.1) = false := by rfl)
    (hi : ∀ whole, isTrue (.Call (.Name "isinstance" p) [e, b] [] pos) X.env whole = (do let v ← whole; standAt (Expr.Call (.Name "isinstance" p) [e, b] [] pos).pos; holding [v] (truthy v)) := by intro _; rfl) :
    EB X Φ A (.Call (.Name "isinstance" p) [e, b] [] pos) k :=
  eb_of (exw_callB call_isi hm (by decide +kernel) (ea_cons ha (ea_cons hb ea_nil he2) he) (hg := hg) (hpl := hpl) (he := he) fun vs G H Q sm svs q => by
    obtain ⟨v, w, rfl, s1, s2⟩ := svs.two
    cases s2
    cases s1 with
    | dat s1 => exact ⟨v, .ty T, _, _, k, rfl, .ty T, s1.ty sm, kit_ty hk, q _ _ G H rfl (.refl sm) (.dat (.bl k))⟩) hi
/-! max, min, int, str, all, list, tuple, sorted -/
variable {i j : Int}
theorem ex_max2 (hm : X.mg "max" = none) (ha : EX X Φ A a (di i)) (hb : EX X Φ A b (di j)) (hc : X.calm = true := by rfl) (hg : Gl X "max" := by rfl)
    (he : starEach [a, b] X.env = (false, eval a X.env) :: starEach [b] X.env := by rfl) (he2 : starEach [b] X.env = (false, eval b X.env) :: starEach [] X.env := by rfl) (hpl : (backTo pos (starEach [b] X.env)).any (·.1) = false := by rfl) :
    EX X Φ A (.Call (.Name "max" p) [a, b] [] pos) (di (if j > i then j else i)) :=
  exw_callB (call_max2 hc) hm (by decide +kernel) (ea_cons ha (ea_cons hb ea_nil he2) he) (hg := hg) (he := he) (hpl := hpl) fun vs G H Q sm svs q => by
    obtain ⟨v, w, rfl, s1, s2⟩ := svs.two
    cases s1 with
    | dat s1 => cases s1; cases s2 with
      | dat s2 => cases s2; exact ⟨i, j, rfl, q _ _ G H rfl (.refl sm) (.dat (.int _))⟩
theorem ex_min2 (hm : X.mg "min" = none) (ha : EX X Φ A a (di i)) (hb : EX X Φ A b (di j)) (hc : X.calm = true := by rfl) (hg : Gl X "min" := by rfl)
    (he : starEach [a, b] X.env = (false, eval a X.env) :: starEach [b] X.env := by rfl) (he2 : starEach [b] X.env = (false, eval b X.env) :: starEach [] X.env := by rfl) (hpl : (backTo pos (starEach [b] X.env)).any (·.1) = false := by rfl) :
    EX X Φ A (.Call (.Name "min" p) [a, b] [] pos) (di (if j < i then j else i)) :=
  exw_callB (call_min2 hc) hm (by decide +kernel) (ea_cons ha (ea_cons hb ea_nil he2) he) (hg := hg) (he := he) (hpl := hpl) fun vs G H Q sm svs q => by
    obtain ⟨v, w, rfl, s1, s2⟩ := svs.two
    cases s1 with
    | dat s1 => cases s1; cases s2 with
      | dat s2 => cases s2; exact ⟨i, j, rfl, q _ _ G H rfl (.refl sm) (.dat (.int _))⟩
theorem ex_maxL {ns : List Int} {m : Int} (hm : X.mg "max" = none) (ha : EX X Φ A a (.dat (.list (ns.map .int)))) (h1 : m ∈ ns) (h2 : ∀ y, y ∈ ns → y ≤ m) (hc : X.calm = true := by rfl) (hg : Gl X "max" := by rfl)
    (he : starEach [a] X.env = (false, eval a X.env) :: starEach [] X.env := by rfl) : EX X Φ A (.Call (.Name "max" p) [a] [] pos) (di m) :=
  exw_callB (cr_max hc) hm (by decide +kernel) (ea_cons ha ea_nil he) (hg := hg) (he := he) fun vs G H Q sm svs q => by
    obtain ⟨v, rfl, sv⟩ := svs.one
    cases sv with
    | dat sv => cases sv with
      | lst e1 e2 =>
        have e3 := e2.ints
        subst e3
        refine ⟨_, ns, rfl, .of (sm _ _ e1), List.length_pos_of_mem h1, fun m' a1 a2 => ?_⟩
        have : m' = m := Int.le_antisymm (h2 _ a1) (a2 _ h1)
        subst this
        exact q _ _ G H rfl (.refl sm) (.dat (.int _))
theorem ex_intB {k : Bool} (hm : X.mg "int" = none) (ha : EX X Φ A a (db k)) (hg : Gl X "int" := by rfl) (he : starEach [a] X.env = (false, eval a X.env) :: starEach [] X.env := by rfl) : EX X Φ A (.Call (.Name "int" p) [a] [] pos) (di (if k then 1 else 0)) :=
  exw_callT call_int1 hm (by decide +kernel) (ea_cons ha ea_nil he) (hg := hg) (he := he) fun vs G H Q sm svs q => by
    obtain ⟨v, rfl, sv⟩ := svs.one
    cases sv with
    | dat sv => cases sv; exact .inr ⟨k, rfl, q _ _ G H rfl (.refl sm) (.dat (.int _))⟩
theorem ex_intS {y : Str} {n : Int} (hm : X.mg "int" = none) (ha : EX X Φ A a (ds y)) (h1 : PySem.intText? y = some n) (h2 : y.length ≤ 640) (hg : Gl X "int" := by rfl) (he : starEach [a] X.env = (false, eval a X.env) :: starEach [] X.env := by rfl) : EX X Φ A (.Call (.Name "int" p) [a] [] pos) (di n) :=
  exw_callT call_int_str hm (by decide +kernel) (ea_cons ha ea_nil he) (hg := hg) (he := he) fun vs G H Q sm svs q => by
    obtain ⟨v, rfl, sv⟩ := svs.one
    cases sv with
    | dat sv => cases sv; exact ⟨y, n, rfl, h1, h2, q _ _ G H rfl (.refl sm) (.dat (.int _))⟩
theorem ex_strI (hm : X.mg "str" = none) (ha : EX X Φ A a (di i)) (h : i.natAbs.log2 < 1920) (hg : Gl X "str" := by rfl) (he : starEach [a] X.env = (false, eval a X.env) :: starEach [] X.env := by rfl) : EX X Φ A (.Call (.Name "str" p) [a] [] pos) (ds (toString i)) :=
  exw_callT call_str_int hm (by decide +kernel) (ea_cons ha ea_nil he) (hg := hg) (he := he) fun vs G H Q sm svs q => by
    obtain ⟨v, rfl, sv⟩ := svs.one
    cases sv with
    | dat sv => cases sv; exact ⟨i, rfl, h, q _ _ G H rfl (.refl sm) (.dat (.str _))⟩
theorem ex_all {bs : List Bool} (hm : X.mg "all" = none) (ha : EX X Φ A a (.dat (.list (bs.map .bool)))) (hc : X.calm = true := by rfl) (hg : Gl X "all" := by rfl) (he : starEach [a] X.env = (false, eval a X.env) :: starEach [] X.env := by rfl) : EX X Φ A (.Call (.Name "all" p) [a] [] pos) (db (bs.all id)) :=
  exw_callB (cr_all hc) hm (by decide +kernel) (ea_cons ha ea_nil he) (hg := hg) (he := he) fun vs G H Q sm svs q => by
    obtain ⟨v, rfl, sv⟩ := svs.one
    cases sv with
    | dat sv => cases sv with
      | lst e1 e2 =>
        have e3 := e2.bools
        subst e3
        exact ⟨_, bs, rfl, .of (sm _ _ e1), q _ _ G H rfl (.refl sm) (.dat (.bl _))⟩
theorem ex_tuple {xs : List D} (hm : X.mg "tuple" = none) (ha : EX X Φ A a (.dat (.list xs))) (hg : Gl X "tuple" := by rfl) (he : starEach [a] X.env = (false, eval a X.env) :: starEach [] X.env := by rfl) : EX X Φ A (.Call (.Name "tuple" p) [a] [] pos) (.dat (.tuple xs)) :=
  exw_callT call_tuple_of hm (by decide +kernel) (ea_cons ha ea_nil he) (hg := hg) (he := he) fun vs G H Q sm svs q => by
    obtain ⟨v, rfl, sv⟩ := svs.one
    cases sv with
    | dat sv => cases sv with
      | lst e1 e2 =>
        exact ⟨_, _, rfl, .inl ⟨.of (sm _ _ e1), fun l hl => q _ _ (upd G l (.tup _)) _ rfl (.new sm hl) (.dat (.tup upd_same (e2.mono (same_upd (Same.none sm hl)))))⟩⟩
def sortI (ns : List Int) : List Int := ns.mergeSort fun a b => decide (a ≤ b)
theorem sortI_perm (ns : List Int) : (sortI ns).Perm ns := List.mergeSort_perm _ _
theorem sortI_sorted (ns : List Int) : (sortI ns).Pairwise (· ≤ ·) := by
  have h := List.pairwise_mergeSort (le := fun a b : Int => decide (a ≤ b)) (fun a b c h1 h2 => decide_eq_true (Int.le_trans (of_decide_eq_true h1) (of_decide_eq_true h2))) (fun a b => by
    rcases Int.le_total a b with h | h
    · simp [h]
    · simp [h]) ns
  exact h.imp fun h => of_decide_eq_true h
theorem sortI_one {ns ns' : List Int} (p : ns'.Perm ns) (s : ns'.Pairwise (· ≤ ·)) : ns' = sortI ns :=
  List.Perm.eq_of_pairwise (fun _ _ _ _ h1 h2 => Int.le_antisymm h1 h2) s (sortI_sorted ns) (p.trans (sortI_perm ns).symm)
theorem ex_sortI {ns : List Int} (hm : X.mg "sorted" = none) (ha : EX X Φ A a (.dat (.list (ns.map .int)))) (hg : Gl X "sorted" := by rfl) (he : starEach [a] X.env = (false, eval a X.env) :: starEach [] X.env := by rfl) :
    EX X Φ A (.Call (.Name "sorted" p) [a] [] pos) (.dat (.list ((sortI ns).map .int))) :=
  exw_callB cr_sortedI hm (by decide +kernel) (ea_cons ha ea_nil he) (hg := hg) (he := he) fun vs G H Q sm svs q => by
    obtain ⟨v, rfl, sv⟩ := svs.one
    cases sv with
    | dat sv => cases sv with
      | lst e1 e2 =>
        have e3 := e2.ints
        subst e3
        refine ⟨_, ns, rfl, .of (sm _ _ e1), fun ns' l h1 h2 hl => ?_⟩
        rw [sortI_one h1 h2]
        exact q _ _ (upd G l (.lst ((sortI ns).map V.int))) _ rfl (.new sm hl) (.dat (.lst upd_same (DqAll.of_ints _)))

/-! ### calls of the program's own defs -/
abbrev PSpec := Hp → List Ds → (Ds → Prop) → Prop
def spP (K : PySem.W.Frag) (R : PSpec) : Sp := fun vs H Q _ => ∃ G ss W, Same G H ∧ SvAll K G vs ss ∧ R G ss W ∧ PostV K G H W Q
/-- a def of the module that keeps its promise -/
def Fn (P : Program) (w : World) (K : PySem.W.Frag) (mg : Str → Option Value) (base : Heap) (x : Str) (ps : List Str) (R : PSpec) (k : Nat) : Prop :=
  ∃ f fd, mg x = some (.ref f) ∧ FnOk P w K mg base CX0 k f fd ps (spP K R) ∧ PySem.W.keepIn K (.ref f) = true ∧ Binds K fd ps []
theorem exw_call {ps : List Str} {R : PSpec} {k : Nat} (F : Fn X.prog X.w X.K X.mg X.base x ps R k) (hr : Room k X.A) (ha : EA X Φ A (e :: es) ss) (hR : ∀ G, Φ.p G → ∃ W', R G ss W' ∧ ∀ s, W' s → W s) (hg : Gl X x := by rfl) (hdb : (x == ("__debug__" : Str)) = false := by decide)
    (he : starEach (e :: es) X.env = (false, eval e X.env) :: starEach es X.env := by rfl) (hpl : (backTo pos (starEach es X.env)).any (·.1) = false := by rfl) : EXW X Φ A (.Call (.Name x p) (e :: es) [] pos) W := by
  obtain ⟨f, fd, hm, F, hk, hb⟩ := F
  refine exw_of (pe_call F hr hg hm hk hb .nil pass0 RA.pa hdb he hpl) fun μ G0 H0 G H σ Q ab φ q => ha μ G0 H0 G H σ _ ab φ fun vs G1 H1 g svs => ?_
  obtain ⟨W', hR, hW⟩ := hR G1 (Φ.st _ _ (g.s rfl) φ)
  rw [List.append_nil]
  exact ⟨G1, ss, W', g.i, svs, hR, fun s v G2 H2 w g2 => q s v G2 H2 (hW s w) (g.trans g2)⟩
theorem ex_call {ps : List Str} {R : PSpec} {k : Nat} (F : Fn X.prog X.w X.K X.mg X.base x ps R k) (hr : Room k X.A) (ha : EA X Φ A (e :: es) ss) (hR : ∀ G, Φ.p G → R G ss W) (hg : Gl X x := by rfl) (hdb : (x == ("__debug__" : Str)) = false := by decide)
    (he : starEach (e :: es) X.env = (false, eval e X.env) :: starEach es X.env := by rfl) (hpl : (backTo pos (starEach es X.env)).any (·.1) = false := by rfl) : EXW X Φ A (.Call (.Name x p) (e :: es) [] pos) W :=
  exw_call F hr ha (fun G φ => ⟨W, hR G φ, fun _ z => z⟩) hg hdb he hpl

/-! ### what is walked -/
def ITok (K : PySem.W.Frag) (G : Hp) (J : It) (its : List Ds) : Prop := ∀ G' H', SameD G G' → Same G G' → Same G' H' → (∀ i, its.length ≤ i → J.stop i H') ∧
  ∀ i, i < its.length → J.go i H' ∧ ∀ x H2, J.yld i H' x H2 → ∃ G2, Gr false G' H' G2 H2 ∧ ∀ s, its[i]? = some s → Sv K G2 x s
/-- .. where objects may change meanwhile -/
def ITd (K : PySem.W.Frag) (G : Hp) (J : It) (its : List Ds) : Prop := ∀ G' H', SameD G G' → Same G' H' → (∀ i, its.length ≤ i → J.stop i H') ∧
  ∀ i, i < its.length → J.go i H' ∧ ∀ x H2, J.yld i H' x H2 → ∃ G2, Gr false G' H' G2 H2 ∧ ∀ s, its[i]? = some s → Sv K G2 x s
def IX (X : Cx) (Φ : Ph) (A : List Sl) (tg iter : Expr) (Wi : List Ds → Prop) : Prop :=
  ∀ μ G0 H0 G H σ R, Ab μ X.K G0 H0 G H A σ → Φ.p G → (∀ its J G' H', Wi its → Gr false G H G' H' → ITd X.K G' J its → R J H') → RI X tg iter σ H R
theorem itd_list {K : PySem.W.Frag} {G : Hp} {a : Addr} {xs : List V} {ds : List D} (h : G a = some (.lst xs)) (dq : DqAll G xs ds) : ITd K G (Itl K a) (ds.map .dat) := fun G' H' sd sm => by
  have h' : SqL K H' a xs := .of (sm _ _ (sd.lst h))
  refine ⟨fun i hi => ⟨xs, h', by rw [dq.length]; rw [List.length_map] at hi; exact hi⟩, fun i hi => ?_⟩
  rw [List.length_map] at hi
  obtain ⟨v, e1, q1⟩ := dq.get (List.getElem?_eq_getElem hi)
  refine ⟨⟨xs, v, h', e1⟩, fun x H2 y => ?_⟩
  obtain ⟨rfl, y⟩ := y
  refine ⟨G', .refl sm, fun s e => ?_⟩
  have ex := y xs h'
  rw [e1] at ex
  cases ex
  rw [List.getElem?_map, List.getElem?_eq_getElem hi] at e
  cases e
  exact .dat (q1.monoD sd)
theorem itd_tup {K : PySem.W.Frag} {G : Hp} {a : Addr} {xs : List V} {ds : List D} (h : G a = some (.tup xs)) (dq : DqAll G xs ds) : ITd K G (Itt K a) (ds.map .dat) := fun G' H' sd sm => by
  have h' : SqT K H' a xs := .of (sm _ _ (sd.tup h))
  refine ⟨fun i hi => ⟨xs, h', by rw [dq.length]; rw [List.length_map] at hi; exact hi⟩, fun i hi => ?_⟩
  rw [List.length_map] at hi
  obtain ⟨v, e1, q1⟩ := dq.get (List.getElem?_eq_getElem hi)
  refine ⟨⟨xs, v, h', e1⟩, fun x H2 y => ?_⟩
  obtain ⟨rfl, y⟩ := y
  refine ⟨G', .refl sm, fun s e => ?_⟩
  have ex := y xs h'
  rw [e1] at ex
  cases ex
  rw [List.getElem?_map, List.getElem?_eq_getElem hi] at e
  cases e
  exact .dat (q1.monoD sd)
variable {tg : Expr} {xs ys : List D}
/-- over a list of data -/
theorem ix_lst (h : EXW X Φ A e W) (hW : ∀ s, W s → ∃ xs, s = .dat (.list xs)) : IX X Φ A tg e (fun its => ∃ xs, W (.dat (.list xs)) ∧ its = xs.map .dat) := fun μ G0 H0 G H σ R ab φ q =>
  RI.of (pi_list RE.pe) (h μ G0 H0 G H σ _ ab φ fun s v G1 H1 w g sv => by
    obtain ⟨xs, rfl⟩ := hW s w
    cases sv with
    | dat sv => cases sv with
      | lst h1 h2 => exact ⟨_, rfl, ⟨_, .of (g.i _ _ h1)⟩, q _ _ G1 H1 ⟨xs, w, rfl⟩ g (itd_list h1 h2)⟩)
theorem ix_lst1 (h : EX X Φ A e (.dat (.list xs))) : IX X Φ A tg e (· = xs.map .dat) := fun μ G0 H0 G H σ R ab φ q => ix_lst h (fun s w => ⟨xs, w⟩) μ G0 H0 G H σ R ab φ fun its J G' H' w g it => q its J G' H' (by
  obtain ⟨ys, e1, e2⟩ := w
  cases e1
  exact e2) g it
theorem ix_tup1 (h : EX X Φ A e (.dat (.tuple xs))) : IX X Φ A tg e (· = xs.map .dat) := fun μ G0 H0 G H σ R ab φ q =>
  RI.of (pi_tup RE.pe) (h μ G0 H0 G H σ _ ab φ fun s v G1 H1 w g sv => by
    subst w
    cases sv with
    | dat sv => cases sv with
      | tup h1 h2 => exact ⟨_, rfl, ⟨_, .of (g.i _ _ h1)⟩, q _ _ G1 H1 rfl g (itd_tup h1 h2)⟩)
theorem ix_range (hm : X.mg "range" = none) (h : EX X Φ A e (di i)) (h1 : -(2 ^ 62) ≤ i) (h2 : i < 2 ^ 62) (hg : Gl X "range" := by rfl) (hs : starEach [e] X.env = [(false, eval e X.env)] := by rfl) (hs' : starEach [e] X.env = (false, eval e X.env) :: starEach [] X.env := by rfl) :
    IX X Φ A tg (.Call (.Name "range" p) [e] [] pos) (· = (List.range i.toNat).map fun k => di (k : Nat)) := fun μ G0 H0 G H σ R ab φ q =>
  RI.of (pi_range1 hg hm RA.pa hs) (ea_cons h ea_nil hs' μ G0 H0 G H σ _ ab φ fun vs G1 H1 g svs => by
    obtain ⟨v, rfl, sv⟩ := svs.one
    cases sv with
    | dat sv =>
      cases sv
      refine ⟨i, rfl, h1, h2, q _ _ G1 H1 rfl g fun G' H' sd sm => ⟨fun k hk => ?_, fun k hk => ?_⟩⟩
      · rw [List.length_map, List.length_range] at hk
        exact hk
      · rw [List.length_map, List.length_range] at hk
        refine ⟨hk, fun x H2 y => ?_⟩
        obtain ⟨rfl, rfl⟩ := y
        refine ⟨G', .refl sm, fun s e => ?_⟩
        rw [List.getElem?_map, List.getElem?_range hk] at e
        cases e
        rw [Int.zero_add]
        exact .dat (.int _))
theorem ix_str {y : Str} (h : EX X Φ A e (ds y)) : IX X Φ A tg e (· = y.cps.toList.map fun c => ds ⟨#[c]⟩) := fun μ G0 H0 G H σ R ab φ q =>
  RI.of (pi_str RE.pe) (h μ G0 H0 G H σ _ ab φ fun s v G1 H1 w g sv => by
    subst w
    cases sv with
    | dat sv =>
      cases sv
      refine ⟨y, rfl, q _ _ G1 H1 rfl g fun G' H' sd sm => ⟨fun k hk => ?_, fun k hk => ?_⟩⟩
      · rw [List.length_map, Array.length_toList] at hk
        exact hk
      · rw [List.length_map, Array.length_toList] at hk
        refine ⟨hk, fun x H2 yl => ?_⟩
        obtain ⟨rfl, c, e1, rfl⟩ := yl
        refine ⟨G', .refl sm, fun s e => ?_⟩
        rw [List.getElem?_map, Array.getElem?_toList, e1] at e
        cases e
        exact .dat (.str _))
theorem ix_enum {elts : List Expr} {kk : Nat} {tpos : Pos} (hm : X.mg "enumerate" = none) (h : EX X Φ A e (.dat (.list xs))) (hg : Gl X "enumerate" := by rfl) (hs : starEach [e] X.env = [(false, eval e X.env)] := by rfl) (hs' : starEach [e] X.env = (false, eval e X.env) :: starEach [] X.env := by rfl) :
    IX X Φ A (.Tuple elts kk tpos) (.Call (.Name "enumerate" p) [e] [] pos) (· = (List.range xs.length).map fun k => .dat (.tuple [.int (k : Nat), xs.getD k .none])) := fun μ G0 H0 G H σ R ab φ q =>
  RI.of (pi_enum hg hm RA.pa hs) (ea_cons h ea_nil hs' μ G0 H0 G H σ _ ab φ fun vs G1 H1 g svs => by
    obtain ⟨v, rfl, sv⟩ := svs.one
    cases sv with
    | dat sv => cases sv with
      | @lst a vs' _ e1 dq =>
        refine ⟨a, vs', rfl, .of (g.i _ _ e1), q _ _ G1 H1 rfl g fun G' H' sd sm => ?_⟩
        have h' : SqL X.K H' a vs' := .of (sm _ _ (sd.lst e1))
        refine ⟨fun k hk => ⟨vs', h', ?_⟩, fun k hk => ?_⟩
        · rw [List.length_map, List.length_range] at hk
          rw [dq.length]
          exact hk
        · rw [List.length_map, List.length_range] at hk
          obtain ⟨v, e2, q1⟩ := dq.get (List.getElem?_eq_getElem hk)
          refine ⟨⟨vs', v, h', e2⟩, fun x H2 y => ?_⟩
          obtain ⟨T, u, rfl, hT, rfl, y⟩ := y
          have ex := y vs' h'
          rw [e2] at ex
          cases ex
          refine ⟨upd G' T (.tup [.int (k : Nat), v]), .new sm hT, fun s e => ?_⟩
          rw [List.getElem?_map, List.getElem?_range hk] at e
          cases e
          refine .dat (.tup upd_same (.cons (.int _) (.cons ?_ .nil)))
          rw [List.getD_eq_getElem?_getD, List.getElem?_eq_getElem hk]
          exact (q1.monoD sd).mono (same_upd (Same.none sm hT)))
theorem ix_zip {e2 : Expr} {elts : List Expr} {kk : Nat} {tpos : Pos} (hm : X.mg "zip" = none) (h : EX X Φ A e (.dat (.list xs))) (h2 : EX X Φ A e2 (.dat (.list ys))) (hl : xs.length = ys.length) (hg : Gl X "zip" := by rfl)
    (hs : starEach [e, e2] X.env = (false, eval e X.env) :: starEach [e2] X.env := by rfl) (hs2 : starEach [e2] X.env = (false, eval e2 X.env) :: starEach [] X.env := by rfl) (hpl : (backTo pos (starEach [e2] X.env)).any (·.1) = false := by rfl) :
    IX X Φ A (.Tuple elts kk tpos) (.Call (.Name "zip" p) [e, e2] [] pos) (· = (xs.zip ys).map fun q => .dat (.tuple [q.1, q.2])) := fun μ G0 H0 G H σ R ab φ q =>
  RI.of (pi_zip hg hm RA.pa hs hpl) (ea_cons h (ea_cons h2 ea_nil hs2) hs μ G0 H0 G H σ _ ab φ fun vs G1 H1 g svs => by
    obtain ⟨v, w, rfl, sv, sw⟩ := svs.two
    cases sv with
    | dat sv => cases sv with
      | @lst a vs' _ e1 dq => cases sw with
        | dat sw => cases sw with
          | @lst b ws' _ f1 dr =>
            refine ⟨a, b, vs', ws', rfl, .of (g.i _ _ e1), .of (g.i _ _ f1), q _ _ G1 H1 rfl g fun G' H' sd sm => ?_⟩
            have ha : SqL X.K H' a vs' := .of (sm _ _ (sd.lst e1))
            have hb : SqL X.K H' b ws' := .of (sm _ _ (sd.lst f1))
            refine ⟨fun k hk => ⟨vs', ws', ha, hb, .inl ?_⟩, fun k hk => ?_⟩
            · rw [List.length_map, List.length_zip, ← hl, Nat.min_self] at hk
              rw [dq.length]
              exact hk
            · rw [List.length_map, List.length_zip, ← hl, Nat.min_self] at hk
              have hk2 : k < ys.length := by rw [← hl]; exact hk
              obtain ⟨v, e2, q1⟩ := dq.get (List.getElem?_eq_getElem hk)
              obtain ⟨u, f2, q2⟩ := dr.get (List.getElem?_eq_getElem hk2)
              refine ⟨⟨vs', ws', v, u, ha, hb, e2, f2⟩, fun x H2 y => ?_⟩
              obtain ⟨T, v', u', rfl, hT, rfl, y1, y2⟩ := y
              have ex := y1 vs' ha
              rw [e2] at ex
              cases ex
              have ey := y2 ws' hb
              rw [f2] at ey
              cases ey
              refine ⟨upd G' T (.tup [v, u]), .new sm hT, fun s e => ?_⟩
              have ez : (xs.zip ys)[k]? = some (xs[k], ys[k]) := by
                rw [List.getElem?_zip_eq_some]
                exact ⟨List.getElem?_eq_getElem hk, List.getElem?_eq_getElem hk2⟩
              rw [List.getElem?_map, ez] at e
              cases e
              have su := same_upd (o := HO.tup [v, u]) (Same.none sm hT)
              exact .dat (.tup upd_same (.cons ((q1.monoD sd).mono su) (.cons ((q2.monoD sd).mono su) .nil))))
end

/-! ### comprehensions -/
section
variable {X : Cx} {Φ : Ph} {A : List Sl}
abbrev BX (X : Cx) (s : Shared) (H : Hp) (scope : Scope) (C : Addr) (cl : List (Str × Addr)) (fp : List Addr) : Cx := X.blk s H scope (compEnvC scope cl C X.env) fp
def RTs (X : Cx) : List Expr → TT
  | [] => fun _ H Q => Q true H
  | [c] => RT X c
  | _ => fun _ _ _ => False
theorem RTs.run {X : Cx} : ∀ (ifs : List Expr) (pins : List (Addr × Obj)) (s : Shared) (σ : L2.St) (H : Hp) (Q : Bool → Hp → Prop), Inv X pins σ H s → RTs X ifs σ H Q →
    wpAny (model X.prog X.w) X.A (forIn ifs true fun c r => if r = true then do let ok ← isTrue c X.env (eval c X.env); pure (ForInStep.yield ok) else pure (ForInStep.yield r)) (TP X pins σ Q) X.xe s
  | [], pins, s, σ, H, Q, I, h => (pts_nil (X := X)).run pins s σ H Q I h
  | [c], pins, s, σ, H, Q, I, h => (pts_one (RT.pt (X := X) (e := c))).run pins s σ H Q I h
  | _ :: _ :: _, _, _, _, _, _, _, h => h.elim
def EIfs (X : Cx) (Φ : Ph) (A : List Sl) : List Expr → Bool → Prop
  | [], b => b = true
  | [c], b => ET X Φ A c b
  | _, _ => False
theorem EIfs.run {X : Cx} {Φ : Ph} {A : List Sl} {ifs : List Expr} {b : Bool} (h : EIfs X Φ A ifs b) {μ : Bool} {G0 H0 G H : Hp} {σ : L2.St} {Q : Bool → Hp → Prop} (ab : Ab μ X.K G0 H0 G H A σ) (φ : Φ.p G) (q : ∀ H', Gr false G H G H' → Q b H') : RTs X ifs σ H Q := by
  match ifs, h with
  | [], h =>
    have h : b = true := h
    subst h
    exact q H (.refl ab.i)
  | [c], h =>
    have h : ET X Φ A c b := h
    exact h μ G0 H0 G H σ Q ab φ q
/-- the block's tests, its element, at every block -/
abbrev TTb (X : Cx) (scope : Scope) (ifs : List Expr) : TT := fun σ H Q => ∀ (s : Shared) (H0 : Hp) (C : Addr) (cl : List (Str × Addr)) (fp : List Addr), RTs (BX X s H0 scope C cl fp) ifs σ H Q
abbrev TEb (X : Cx) (scope : Scope) (elt : Expr) : TE := fun σ H Q => ∀ (s : Shared) (H0 : Hp) (C : Addr) (cl : List (Str × Addr)) (fp : List Addr), RE (BX X s H0 scope C cl fp) elt σ H Q
theorem TTb.pts {X : Cx} {scope : Scope} {ifs : List Expr} (s : Shared) (H0 : Hp) (C : Addr) (cl : List (Str × Addr)) (fp : List Addr) : PTs (BX X s H0 scope C cl fp) ifs (TTb X scope ifs) := ⟨fun pins s' σ H Q I h => RTs.run ifs pins s' σ H Q I (h s H0 C cl fp)⟩
theorem TEb.pe {X : Cx} {scope : Scope} {elt : Expr} (s : Shared) (H0 : Hp) (C : Addr) (cl : List (Str × Addr)) (fp : List Addr) : PE (BX X s H0 scope C cl fp) elt (TEb X scope elt) := ⟨fun pins s' σ H Q I h => h s H0 C cl fp pins s' I⟩
theorem lc_read {α : Type} {elt iter : Expr} {ifs : List Expr} {scope : Scope} {x : Str} {px : Pos} {ys : List α} {ι : α → Ds} {j : Nat} {q : α → Bool} {f : α → D} (hi : IX X Φ A (.Name x px) iter (· = ys.map ι)) (hz : ys.length ≤ 100000)
    (ht : ∀ y ∈ ys, ∀ (s : Shared) (H : Hp) (C : Addr) (cl : List (Str × Addr)) (fp : List Addr), EIfs (BX X s H scope C cl fp) Φ (A.set j (.k (ι y))) ifs (q y))
    (he : ∀ y ∈ ys, q y = true → ∀ (s : Shared) (H : Hp) (C : Addr) (cl : List (Str × Addr)) (fp : List Addr), EX (BX X s H scope C cl fp) Φ (A.set j (.k (ι y))) elt (.dat (f y)))
    {μ : Bool} {G0 H0 G H : Hp} {σ : L2.St} {Q : VK} (ab : Ab μ X.K G0 H0 G H A σ) (φ : Φ.p G) (k : PostV X.K G H (· = .dat (.list ((ys.filter q).map f))) Q) :
    tLc (RI X (.Name x px) iter) (gName j) (TTb X scope ifs) (TEb X scope elt) ([(x, j)].map (·.2)) σ H Q := by
  refine hi μ G0 H0 G H σ _ ab φ fun its J G1 H1 w g it => ?_
  subst w
  intro L hL
  have ab1 := ab.step g
  let W : Nat → Nat → Hp → Prop := fun i m H' => m = ys.length - i ∧ ∃ G' acc, Gr false G1 H1 G' H' ∧ H' L = some (.lst acc) ∧ G' L = none ∧ DqAll G' acc (((ys.take i).filter q).map f)
  have gL : G1 L = none := Same.none g.i hL
  refine ⟨W, ⟨_, rfl, G1, [], .mk' (.refl _) (same_upd hL) (g.i.trans (same_upd hL)) (fun _ _ z => z), upd_same, gL, .nil⟩, fun i m H' ⟨hm, G', acc, g', eL, gL', dq⟩ => ?_⟩
  obtain ⟨it1, it2⟩ := it G' H' g'.d g'.i
  by_cases hi' : ys.length ≤ i
  · refine .inl ⟨it1 i (by rw [List.length_map]; exact hi'), ?_⟩
    rw [List.take_of_length_le hi'] at dq
    -- the list is told
    refine k _ _ (upd G' L (.lst acc)) H' rfl ?_ (.dat (.lst upd_same (dq.mono (same_upd gL'))))
    have nH : H L = none := Same.none (g.h ab.i) hL
    have gg := g.trans g'
    refine .mk' ((gg.s rfl).trans (same_upd gL')) (gg.h ab.i) (fun b u e => ?_) (fun b hb e => ?_)
    · by_cases z : b = L
      · rw [z, upd_same] at e
        rw [z, eL]
        exact e
      · rw [upd_ne z] at e
        exact g'.i b u e
    · rw [upd_ne (fun z => hb (by rw [z]; exact nH))]
      exact gg.n b hb e
  · have hi2 : i < ys.length := Nat.lt_of_not_le hi'
    obtain ⟨go, yl⟩ := it2 i (by rw [List.length_map]; exact hi2)
    refine .inr ⟨go, fun H2 => W (i + 1) (ys.length - (i + 1)) H2, fun H2 hw => ⟨_, by omega, hw⟩, fun v H2 hy => ?_⟩
    obtain ⟨G2, g2, sv⟩ := yl v H2 hy
    have sv := sv (ι ys[i]) (by rw [List.getElem?_map, List.getElem?_eq_getElem hi2]; rfl)
    have hmem : ys[i] ∈ ys := List.getElem_mem hi2
    have etake : ys.take (i + 1) = ys.take i ++ [ys[i]] := by
      rw [List.take_add_one, List.getElem?_eq_getElem hi2]
      rfl
    have abx : Ab μ X.K G0 H0 G2 H2 (A.set j (.k (ι ys[i]))) ((wipe σ [j]).set j (some v)) := by
      have z := ((ab1.step (g'.trans g2)).unset (i := j) (v := none)).set (i := j) sv
      rw [List.set_set] at z
      exact z
    have φ2 : Φ.p G2 := Φ.st _ _ (((g.trans g').trans g2).s rfl) φ
    have eL2 : H2 L = some (.lst acc) := g2.f L _ eL gL'
    have gL2 : G2 L = none := g2.n L (by rw [eL]; intro z; cases z) gL'
    show wipe ((wipe σ [j]).set j (some v)) [j] = wipe σ [j] ∧ _
    refine ⟨?_, ?_⟩
    · show ((σ.set j none).set j (some v)).set j none = σ.set j none
      rw [List.set_set, List.set_set]
    -- the tests
    have finTest : ∀ (Qb : Bool → Hp → Prop), (∀ H3, Gr false G2 H2 G2 H3 → Qb (q ys[i]) H3) → TTb X scope ifs ((wipe σ [j]).set j (some v)) H2 Qb := fun Qb hQb s H0' C cl fp =>
      EIfs.run (ht ys[i] hmem s H0' C cl fp) abx φ2 hQb
    show TTb X scope ifs ((wipe σ [j]).set j (some v)) H2 _
    refine finTest _ fun H3 g3 => ?_
    have eL3 : H3 L = some (.lst acc) := g3.f L _ eL2 gL2
    cases hq : q ys[i] with
    | false =>
      rw [if_neg Bool.false_ne_true]
      refine ⟨rfl, G2, acc, (g'.trans g2).trans g3, eL3, gL2, ?_⟩
      rw [etake, List.filter_append, List.filter_cons, if_neg (by rw [hq]; decide), List.filter_nil, List.append_nil]
      exact dq.mono (g2.s rfl)
    | true =>
      rw [if_pos rfl]
      intro s H0' C cl fp
      refine he ys[i] hmem hq s H0' C cl fp μ G0 H0 G2 H3 _ _ (abx.step g3) φ2 fun s' y G4 H4 w g4 sy => ?_
      subst w
      cases sy with
      | dat sy =>
        have eL4 : H4 L = some (.lst acc) := g4.f L _ eL3 gL2
        have gL4 : G4 L = none := g4.n L (by rw [eL3]; intro z; cases z) gL2
        have hlen : acc.length < sizeLine := by
          have e1 := dq.length
          rw [List.length_map] at e1
          have e2 := List.length_filter_le q (ys.take i)
          have e3 : (ys.take i).length ≤ ys.length := by rw [List.length_take]; exact Nat.min_le_right _ _
          exact Nat.lt_of_le_of_lt (show acc.length ≤ 100000 by omega) (by decide)
        refine ⟨acc, eL4, hlen, rfl, G4, acc ++ [y], ?_, upd_same, gL4, ?_⟩
        · have gg := ((g'.trans g2).trans g3).trans g4
          have hh := gg.h g.i
          have up : ∀ b u, H1 b = some u → upd H4 L (.lst (acc ++ [y])) b = some u := fun b u e => by
            rw [upd_ne (ne_of_none e hL)]
            exact hh b u e
          refine .mk' (gg.s rfl) up (fun b u e => ?_) gg.n
          rw [upd_ne (ne_of_none e gL4)]
          exact g4.i b u e
        · rw [etake, List.filter_append, List.filter_cons, if_pos hq, List.filter_nil, List.map_append]
          exact (dq.mono ((g2.trans (g3.trans g4)).s rfl)).append (.cons sy .nil)
theorem ex_lc {α : Type} {elt iter : Expr} {ifs : List Expr} {scope : Scope} {x : Str} {px pos : Pos} {ys : List α} {ι : α → Ds} (j : Nat) (q : α → Bool) (f : α → D) (hi : IX X Φ A (.Name x px) iter (· = ys.map ι)) (hz : ys.length ≤ 100000)
    (ok : BlkOk X.N X.env.scope scope [(x, j)])
    (ht : ∀ y ∈ ys, ∀ (s : Shared) (H : Hp) (C : Addr) (cl : List (Str × Addr)) (fp : List Addr), EIfs (BX X s H scope C cl fp) Φ (A.set j (.k (ι y))) ifs (q y))
    (he : ∀ y ∈ ys, q y = true → ∀ (s : Shared) (H : Hp) (C : Addr) (cl : List (Str × Addr)) (fp : List Addr), EX (BX X s H scope C cl fp) Φ (A.set j (.k (ι y))) elt (.dat (f y)))
    (hpg : ∀ (s : Shared) (H : Hp) (C : Addr) (cl : List (Str × Addr)) (fp : List Addr), PG (BX X s H scope C cl fp) (.Name x px) (gName j))
    (hN : X.N.Nodup) (hc : X.calm = true := by rfl) (hs : ∀ x, foldedSetIterable iter X.env x = pure x := by intro _; rfl) : EX X Φ A (.ListComp elt [⟨.Name x px, iter, ifs, 0⟩] scope pos) (.dat (.list ((ys.filter q).map f))) :=
  exw_of (pe_lc (own := [(x, j)]) hc hN RI.pi ok hpg TTb.pts TEb.pe hs) fun μ G0 H0 G H σ Q ab φ k => lc_read hi hz ht he ab φ k
end
end Dl
namespace Dl
open PySem PySem.Spec PyProof.Rows L2

/-! ### what is wanted behind a statement -/
structure PEnd where
  nx : Ph → List Sl → Prop
  rt : Ph → Ds → Prop
  bk : Ph → List Sl → Prop := fun _ _ => False
  ct : Ph → List Sl → Prop := fun _ _ => False
  /-- returned: a value that is made of new objects alone -/
  rf : Ds → Prop := fun _ => False
def hp0 : Hp := fun _ => none
structure Meets (μ : Bool) (K : PySem.W.Frag) (G0 H0 G : Hp) (P : PEnd) (De : Ends) : Prop where
  nx : ∀ Φ A' σ' G' H', P.nx Φ A' → Φ.p G' → SameD G G' → Ab μ K G0 H0 G' H' A' σ' → De.nx σ' H'
  rt : ∀ Φ s v G' H', P.rt Φ s → Φ.p G' → Gr μ G0 H0 G' H' → Sv K G' v s → De.rt v H'
  bk : ∀ Φ A' σ' G' H', P.bk Φ A' → Φ.p G' → SameD G G' → Ab μ K G0 H0 G' H' A' σ' → De.bk σ' H'
  ct : ∀ Φ A' σ' G' H', P.ct Φ A' → Φ.p G' → SameD G G' → Ab μ K G0 H0 G' H' A' σ' → De.ct σ' H'
  rf : ∀ s v G' H', P.rf s → Gr false hp0 H0 G' H' → Sv K G' v s → De.rt v H'
theorem Meets.step {μ : Bool} {K : PySem.W.Frag} {G0 H0 G G1 : Hp} {P : PEnd} {De : Ends} (m : Meets μ K G0 H0 G P De) (s : SameD G G1) : Meets μ K G0 H0 G1 P De :=
  ⟨fun Φ A' σ' G' H' h φ d => m.nx Φ A' σ' G' H' h φ (s.trans d), m.rt, fun Φ A' σ' G' H' h φ d => m.bk Φ A' σ' G' H' h φ (s.trans d), fun Φ A' σ' G' H' h φ d => m.ct Φ A' σ' G' H' h φ (s.trans d), m.rf⟩
def SX (μ : Bool) (X : Cx) (Φ : Ph) (A : List Sl) (st : Stmt) (P : PEnd) : Prop := ∀ G0 H0 G H σ De, Ab μ X.K G0 H0 G H A σ → Φ.p G → Meets μ X.K G0 H0 G P De → RS X st De σ H
def SXs (μ : Bool) (X : Cx) (Φ : Ph) (A : List Sl) (sts : List Stmt) (P : PEnd) : Prop := ∀ G0 H0 G H σ De, Ab μ X.K G0 H0 G H A σ → Φ.p G → Meets μ X.K G0 H0 G P De → RSs X sts De σ H
/-- P, but what follows is the rest -/
abbrev PEnd.then (P : PEnd) (μ : Bool) (X : Cx) (rest : List Stmt) : PEnd := { P with nx := fun Φ A => SXs μ X Φ A rest P }

section
variable {μ : Bool} {X : Cx} {Φ : Ph} {A : List Sl} {P P' : PEnd} {st : Stmt} {rest : List Stmt} {e a b c : Expr} {es : List Expr} {pos : Pos} {W : Ds → Prop} {s : Ds} {x : Str}
theorem SX.imp (h : SX μ X Φ A st P) (h1 : ∀ Φ A, P.nx Φ A → P'.nx Φ A) (h2 : ∀ Φ s, P.rt Φ s → P'.rt Φ s) (h3 : ∀ Φ A, P.bk Φ A → P'.bk Φ A) (h4 : ∀ Φ A, P.ct Φ A → P'.ct Φ A) (h5 : ∀ s, P.rf s → P'.rf s := by exact fun _ z => z) : SX μ X Φ A st P' := fun G0 H0 G H σ De ab φ m =>
  h G0 H0 G H σ De ab φ ⟨fun Φ A' σ' G' H' q => m.nx Φ A' σ' G' H' (h1 _ _ q), fun Φ s v G' H' q => m.rt Φ s v G' H' (h2 _ _ q), fun Φ A' σ' G' H' q => m.bk Φ A' σ' G' H' (h3 _ _ q), fun Φ A' σ' G' H' q => m.ct Φ A' σ' G' H' (h4 _ _ q), fun s v G' H' q => m.rf s v G' H' (h5 _ q)⟩
theorem SXs.imp (h : SXs μ X Φ A rest P) (h1 : ∀ Φ A, P.nx Φ A → P'.nx Φ A) (h2 : ∀ Φ s, P.rt Φ s → P'.rt Φ s) (h3 : ∀ Φ A, P.bk Φ A → P'.bk Φ A) (h4 : ∀ Φ A, P.ct Φ A → P'.ct Φ A) (h5 : ∀ s, P.rf s → P'.rf s := by exact fun _ z => z) : SXs μ X Φ A rest P' := fun G0 H0 G H σ De ab φ m =>
  h G0 H0 G H σ De ab φ ⟨fun Φ A' σ' G' H' q => m.nx Φ A' σ' G' H' (h1 _ _ q), fun Φ s v G' H' q => m.rt Φ s v G' H' (h2 _ _ q), fun Φ A' σ' G' H' q => m.bk Φ A' σ' G' H' (h3 _ _ q), fun Φ A' σ' G' H' q => m.ct Φ A' σ' G' H' (h4 _ _ q), fun s v G' H' q => m.rf s v G' H' (h5 _ q)⟩
/-- a smaller promise of the known heap -/
theorem SXs.ph {Ψ : Ph} (h : SXs μ X Ψ A rest P) (k : ∀ G, Φ.p G → Ψ.p G) : SXs μ X Φ A rest P := fun G0 H0 G H σ De ab φ m => h G0 H0 G H σ De ab (k G φ) m
theorem sxs_nil (h : P.nx Φ A) : SXs μ X Φ A [] P := fun G0 H0 G H σ De ab φ m => RSs.of pss_nil (m.nx Φ A σ G H h φ (.refl _) ab)
theorem sxs_cons (h : SX μ X Φ A st (P.then μ X rest)) : SXs μ X Φ A (st :: rest) P := fun G0 H0 G H σ De ab φ m =>
  RSs.of (pss_cons RS.ps RSs.pss) (h G0 H0 G H σ _ ab φ ⟨fun Φ A' σ' G' H' q φ' d ab' => q G0 H0 G' H' σ' De ab' φ' (m.step d), m.rt, m.bk, m.ct, m.rf⟩)
theorem sxs_one (h : SX μ X Φ A st P) : SXs μ X Φ A [st] P := fun G0 H0 G H σ De ab φ m => RSs.of (pss_one RS.ps) (h G0 H0 G H σ De ab φ m)
theorem sx_of {t : TS} (p : PS X st t) (h : ∀ G0 H0 G H σ De, Ab μ X.K G0 H0 G H A σ → Φ.p G → Meets μ X.K G0 H0 G P De → t De σ H) : SX μ X Φ A st P := fun G0 H0 G H σ De ab φ m => RS.of p (h G0 H0 G H σ De ab φ m)
theorem sx_pass (h : P.nx Φ A) : SX μ X Φ A (.Pass pos) P := sx_of ps_pass fun G0 H0 G H σ De ab φ m => m.nx Φ A σ G H h φ (.refl _) ab
/-- x = e -/
theorem sx_asg {pos' : Pos} (i : Nat) (he : EXW X Φ A e W) (k : ∀ s, W s → P.nx Φ (A.set i (.k s))) (hN : X.N.Nodup) (hi : X.N[i]? = some x := by rfl) (hx : Loc X.env.scope x := by first | exact .inl rfl | exact .inr rfl)
    (hs : swapsWith e (some (.Name x pos')) pos.line X.env = pure false := by rfl) (hf : X.fn x = true ∨ X.env.scope.names.lookup x = some .local := by first | exact .inl rfl | exact .inr rfl) : SX μ X Φ A (.Assign [.Name x pos'] e pos) P :=
  sx_of (ps_set hN hi hx RE.pe hs hf) fun G0 H0 G H σ De ab φ m => he μ G0 H0 G H σ _ ab φ fun s v G' H' w g sv =>
    m.nx Φ _ _ G' H' (k s w) (Φ.st _ _ (g.s rfl) φ) g.d ((ab.step g).set sv)
/-- name = [comprehension] on one line, the name a local: the model stores it within the comprehension's frame -/
def EXN (X : Cx) (Φ : Ph) (A : List Sl) (e : Expr) (ds : List D) : Prop := ∀ μ G0 H0 G H σ Q, Ab μ X.K G0 H0 G H A σ → Φ.p G →
  (∀ l xs G' H', Gr false G H G' H' → H l = none → G' l = none → H' l = some (.lst xs) → DqAll G' xs ds → Q (.ref l) H') → RE X e σ H Q
/-- x = a new list, to be changed -/
theorem sx_own {pos' : Pos} {ds : List D} (i : Nat) (he : EXN X Φ A e ds) (k : P.nx Φ (A.set i (.lst ds))) (hN : X.N.Nodup) (hi : X.N[i]? = some x := by rfl) (hx : Loc X.env.scope x := by first | exact .inl rfl | exact .inr rfl)
    (hs : swapsWith e (some (.Name x pos')) pos.line X.env = pure false := by rfl) (hf : X.fn x = true ∨ X.env.scope.names.lookup x = some .local := by first | exact .inl rfl | exact .inr rfl) : SX μ X Φ A (.Assign [.Name x pos'] e pos) P :=
  sx_of (ps_set hN hi hx RE.pe hs hf) fun G0 H0 G H σ De ab φ m => he μ G0 H0 G H σ _ ab φ fun l xs G' H' g hl gl e1 dq =>
    m.nx Φ _ _ G' H' k (Φ.st _ _ (g.s rfl) φ) g.d (ab.own g hl rfl ⟨rfl, gl, ab.gr.pre hl, xs, e1, dq⟩)
theorem exn_lst {ds : List D} (h : EA X Φ A es (ds.map .dat)) (hz : ds.length ≤ 1000) : EXN X Φ A (.List es pos) ds := fun μ G0 H0 G H σ Q ab φ q => RE.of (pe_lst RA.pa) (h μ G0 H0 G H σ _ ab φ fun vs G1 H1 g svs =>
  ⟨Nat.le_trans (by rw [svs.dats.length]; exact hz) (by decide), fun p hp => by
    have gp := Same.none g.i hp
    have hp0 : H p = none := Same.none (g.h ab.i) hp
    refine q p vs G1 _ (.mk' (g.s rfl) (fun b u e => ?_) (fun b u e => ?_) g.n) hp0 gp upd_same svs.dats
    · rw [upd_ne (ne_of_none e hp0)]
      exact g.h ab.i b u e
    · rw [upd_ne (ne_of_none e gp)]
      exact g.i b u e⟩)
theorem exn_nil : EXN X Φ A (.List [] pos) [] := exn_lst (ds := []) ea_nil (by decide)
/-- list(e), e a known list -/
theorem exn_list {xs : List D} {p : Pos} (hm : X.mg "list" = none) (ha : EX X Φ A a (.dat (.list xs))) (hg : Gl X "list" := by rfl) (he : starEach [a] X.env = (false, eval a X.env) :: starEach [] X.env := by rfl) : EXN X Φ A (.Call (.Name "list" p) [a] [] pos) xs := fun μ G0 H0 G H σ Q ab φ q =>
  RE.of (pe_callTy call_list_of hg hm (by decide +kernel) (pa_cons RE.pe pa_nil he) (he := he)) (ha μ G0 H0 G H σ _ ab φ fun s v G1 H1 w g sv => by
    subst w
    cases sv with
    | dat sv => cases sv with
      | lst e1 dq =>
        refine ⟨_, _, rfl, .inl (.of (g.i _ _ e1)), fun l hl => ?_⟩
        have gl := Same.none g.i hl
        have hl0 : H l = none := Same.none (g.h ab.i) hl
        refine q l _ G1 _ (.mk' (g.s rfl) (fun b u e => ?_) (fun b u e => ?_) g.n) hl0 gl upd_same dq
        · rw [upd_ne (ne_of_none e hl0)]
          exact g.h ab.i b u e
        · rw [upd_ne (ne_of_none e gl)]
          exact g.i b u e)
/-- [d] * n -/
theorem exn_rep {d : D} {n : Int} (ha : EX X Φ A a (.dat d)) (hs : Sc d) (hb : EX X Φ A b (di n)) (h0 : 0 ≤ n) (h1 : n ≤ 1000) (he : starEach [a] X.env = (false, eval a X.env) :: starEach [] X.env := by rfl) {p2 : Pos} : EXN X Φ A (.BinOp (.List [a] p2) .Mult b pos) (List.replicate n.toNat d) :=
  fun μ G0 H0 G H σ Q ab φ q => RE.of (pe_op op_rep (pe_lst (pa_cons RE.pe pa_nil he)) RE.pe) (ha μ G0 H0 G H σ _ ab φ fun s v G1 H1 w g1 sv => by
    subst w
    refine ⟨by show 1 ≤ sizeLine; decide, fun p hp => ?_⟩
    cases sv with
    | dat sv =>
      have ev := sv.sc hs
      subst ev
      have gp := Same.none g1.i hp
      have hp0 : H p = none := Same.none (g1.h ab.i) hp
      have g2 : Gr false G H (upd G1 p (.lst [vOf d])) (upd H1 p (.lst [vOf d])) := g1.trans (.new g1.i hp)
      refine hb μ G0 H0 _ _ σ _ (ab.step g2) (Φ.st _ _ (g2.s rfl) φ) fun s y G3 H3 w g3 sy => ?_
      subst w
      cases sy with
      | dat sy =>
        cases sy
        have e3 : H3 p = some (.lst [vOf d]) := g3.i _ _ (g3.s rfl _ _ upd_same)
        refine ⟨p, n, [vOf d], rfl, rfl, e3, by omega, by omega, ?_, fun l hl => ?_⟩
        · rw [List.length_singleton, Nat.one_mul]
          exact Nat.le_trans (by omega) (show 1000 ≤ sizeLine by decide)
        · have g4 := g2.trans g3
          have gl := Same.none g3.i hl
          have hl0 : H l = none := Same.none (g4.h ab.i) hl
          refine q l _ G3 _ (.mk' (g4.s rfl) (fun b u e => ?_) (fun b u e => ?_) g4.n) hl0 gl upd_same ?_
          · rw [upd_ne (ne_of_none e hl0)]
            exact g4.h ab.i b u e
          · rw [upd_ne (ne_of_none e gl)]
            exact g3.i b u e
          · have er : ∀ k : Nat, DqAll G3 (List.replicate k [vOf d]).flatten (List.replicate k d) := fun k => by
              induction k with
              | zero => exact .nil
              | succ k ih =>
                rw [List.replicate_succ, List.flatten_cons, List.replicate_succ]
                exact .cons (.of_sc hs) ih
            exact er n.toNat)
/-- x = {} -/
theorem sx_dict {pos' : Pos} (i : Nat) (k : P.nx Φ (A.set i (.dct []))) (hN : X.N.Nodup) (hi : X.N[i]? = some x := by rfl) (hx : Loc X.env.scope x := by first | exact .inl rfl | exact .inr rfl)
    (hs : swapsWith (.Dict [] [] pos) (some (.Name x pos')) pos.line X.env = pure false := by rfl) (hf : X.fn x = true ∨ X.env.scope.names.lookup x = some .local := by first | exact .inl rfl | exact .inr rfl) {pd : Pos}
    (hs2 : swapsWith (.Dict [] [] pd) (some (.Name x pos')) pos.line X.env = pure false := by rfl) : SX μ X Φ A (.Assign [.Name x pos'] (.Dict [] [] pd) pos) P :=
  sx_of (ps_set hN hi hx pe_dnewK hs2 hf) fun G0 H0 G H σ De ab φ m => fun p hp => by
    have gp := Same.none ab.i hp
    refine m.nx Φ _ _ G (upd H p (.dK [])) k φ (.refl _) (ab.own (.mk' (.refl _) (same_upd hp) (ab.i.trans (same_upd hp)) fun _ _ z => z) hp rfl ⟨rfl, gp, ab.gr.pre hp, upd_same⟩)
/-- e alone: a call for its effect, here of nothing known -/
theorem sx_expr (he : EXW X Φ A e W) (k : P.nx Φ A) (hs : swapsWith e none pos.line X.env = pure false := by rfl) : SX μ X Φ A (.Expr e pos) P :=
  sx_of (ps_expr RE.pe hs) fun G0 H0 G H σ De ab φ m => he μ G0 H0 G H σ _ ab φ fun s v G' H' w g sv => m.nx Φ _ _ G' H' k (Φ.st _ _ (g.s rfl) φ) g.d (ab.step g)
/-- xs.append(e), xs a list that the slot owns -/
theorem sx_app {ds : List D} {d : D} {apos cpos np : Pos} (i : Nat) (hA : A[i]? = some (.lst ds)) (he : EX X Φ A e (.dat d)) (hz : ds.length < 100000) (k : P.nx Φ (A.set i (.lst (ds ++ [d])))) (hN : X.N[i]? = some x := by rfl)
    (hv : Vis X.env.scope x := by first | exact Or.inl rfl | exact Or.inr (Or.inl rfl) | exact Or.inr (Or.inr rfl)) (hd : (x == ("__debug__" : Str)) = false := by decide) (hcd : (x == ("__classdict__" : Str)) = false := by decide)
    (hbase : attributeBase (.Name x np) "append" X.env (eval (.Name x np) X.env) = eval (.Name x np) X.env := by rfl) (hline : (apos.endLine == cpos.line) = true := by rfl)
    (hfew : ((backTo cpos (starEach [e] X.env)).all (fun x => !x.1) && (backToKw cpos (keywordEach [] X.env)).all (fun x => x.1.isSome) && decide (([e] : List Expr).length + ([] : List Keyword).length + (if ([] : List Keyword).isEmpty then 0 else 1) < 30)) = true := by rfl)
    (hst : starEach [e] X.env = (false, eval e X.env) :: starEach [] X.env := by rfl) (hs : swapsWith (.Call (.Attribute (.Name x np) "append" apos) [e] [] cpos) none pos.line X.env = pure false := by rfl) : SX μ X Φ A (.Expr (.Call (.Attribute (.Name x np) "append" apos) [e] [] cpos) pos) P :=
  sx_of (ps_expr (pe_bm PySem.F.plainAttrs_list PySem.F.slot_list_append PySem.F.type_list_append mt_append (pe_var hN hv hd hcd) (pa_cons RE.pe pa_nil hst) hbase hfew hline hst) hs) fun G0 H0 G H σ De ab φ m => by
    obtain ⟨l, xs, e1, e2, dq, gl, up⟩ := ab.getL hA
    refine ⟨_, e1, .inl ⟨rfl, xs, .of e2⟩, he μ G0 H0 G H σ _ ab φ fun s v G' H' w g sv => ?_⟩
    subst w
    cases sv with
    | dat sv =>
      obtain ⟨l', xs', e1', e2', dq', gl', up'⟩ := (ab.step g).getL hA
      rw [e1] at e1'
      cases e1'
      refine ⟨l, xs', v, rfl, rfl, e2', Nat.lt_of_lt_of_le (by rw [dq'.length]; exact hz) (by decide), ?_⟩
      exact m.nx Φ _ _ G' _ k (Φ.st _ _ (g.s rfl) φ) g.d (up' _ _ (dq'.append (.cons sv .nil)))
/-- xs[j] = e -/
theorem sx_setL {ds : List D} {d : D} {j : Int} {jn : Nat} {np tpos : Pos} (i : Nat) (hA : A[i]? = some (.lst ds)) (he : EX X Φ A e (.dat d)) (hb : EX X Φ A b (di j)) (hj : ixN ds.length j = some jn) (k : P.nx Φ (A.set i (.lst (ds.set jn d)))) (hN : X.N[i]? = some x := by rfl)
    (hv : Vis X.env.scope x := by first | exact Or.inl rfl | exact Or.inr (Or.inl rfl) | exact Or.inr (Or.inr rfl)) (hd : (x == ("__debug__" : Str)) = false := by decide) (hcd : (x == ("__classdict__" : Str)) = false := by decide)
    (ha : ∀ v, assign (.Subscript (.Name x np) b tpos) X.env v = (do let ov ← holding [v] (eval (.Name x np) X.env); let iv ← holding [v, ov] (eval b X.env); standAt tpos; holding [v, ov, iv] (setItem ov iv v); release [v, ov, iv] []) := by intro _; rfl)
    (hs : swapsWithSole [.Subscript (.Name x np) b tpos] e pos.line X.env = pure false := by rfl) (hw : swappedStores [.Subscript (.Name x np) b tpos] e X.env = pure none := by rfl)
    (h1 : (assignEach [.Subscript (.Name x np) b tpos] X.env).map (·.2) = [assign (.Subscript (.Name x np) b tpos) X.env] := by rfl) : SX μ X Φ A (.Assign [.Subscript (.Name x np) b tpos] e pos) P :=
  sx_of (ps_asg RE.pe (pg_sub (pe_var hN hv hd hcd) RE.pe set_list ha) hs hw h1) fun G0 H0 G H σ De ab φ m => he μ G0 H0 G H σ _ ab φ fun s v G' H' w g sv => by
    subst w
    have ab1 := ab.step g
    obtain ⟨l, xs, e1, e2, dq, gl, up⟩ := ab1.getL hA
    refine ⟨_, e1, hb μ G0 H0 G' H' σ _ ab1 (Φ.st _ _ (g.s rfl) φ) fun s y G2 H2 w g2 sy => ?_⟩
    subst w
    cases sv with
    | dat sv => cases sy with
      | dat sy =>
        cases sy
        obtain ⟨l', xs', e1', e2', dq', gl', up'⟩ := (ab1.step g2).getL hA
        rw [e1] at e1'
        cases e1'
        refine ⟨l, xs', j, jn, rfl, rfl, e2', by rw [dq'.length]; exact hj, ?_⟩
        exact m.nx Φ _ _ G2 _ k (Φ.st _ _ ((g.trans g2).s rfl) φ) (g.trans g2).d (up' _ _ (dq'.set (sv.mono (g2.s rfl)) jn))
/-- d[key] = value, scalars, d a dict that the slot owns -/
def keyD : D → Option Key
  | .int i => some (.inl i)
  | .str x => some (.inr x)
  | _ => none
theorem keyD_v {d : D} {key : Key} (h : keyD d = some key) : vOf d = kV key ∧ Sc d := by
  cases d <;> first | (cases h; exact ⟨rfl, trivial⟩) | cases h
theorem sx_setD {kvs : List (Key × V)} {d dk : D} {key : Key} {np tpos : Pos} (i : Nat) (hA : A[i]? = some (.dct kvs)) (hu : X.A.units + 1 < cLine) (he : EX X Φ A e (.dat d)) (hsc : Sc d) (hb : EX X Φ A b (.dat dk)) (hk : keyD dk = some key) (hz : kvs.length < 100000)
    (k : P.nx Φ (A.set i (.dct (putK kvs key (vOf d))))) (hN : X.N[i]? = some x := by rfl)
    (hv : Vis X.env.scope x := by first | exact Or.inl rfl | exact Or.inr (Or.inl rfl) | exact Or.inr (Or.inr rfl)) (hd : (x == ("__debug__" : Str)) = false := by decide) (hcd : (x == ("__classdict__" : Str)) = false := by decide)
    (hs : swapsWith e (some (.Subscript (.Name x np) b tpos)) pos.line X.env = pure false := by rfl) : SX μ X Φ A (.Assign [.Subscript (.Name x np) b tpos] e pos) P :=
  sx_of (ps_dput hu (pe_var hN hv hd hcd) RE.pe RE.pe hs) fun G0 H0 G H σ De ab φ m => he μ G0 H0 G H σ _ ab φ fun s v G' H' w g sv => by
    subst w
    have ab1 := ab.step g
    obtain ⟨l, e1, e2, gl, up⟩ := ab1.getD hA
    refine ⟨_, e1, hb μ G0 H0 G' H' σ _ ab1 (Φ.st _ _ (g.s rfl) φ) fun s y G2 H2 w g2 sy => ?_⟩
    subst w
    cases sv with
    | dat sv => cases sy with
      | dat sy =>
        obtain ⟨l', e1', e2', gl', up'⟩ := (ab1.step g2).getD hA
        rw [e1] at e1'
        cases e1'
        obtain ⟨ek, sk⟩ := keyD_v hk
        have ey := sy.sc sk
        subst ey
        have ev := sv.sc hsc
        subst ev
        rw [ek]
        exact ⟨l, _, rfl, .k e2' (Nat.lt_of_lt_of_le hz (by decide)), m.nx Φ _ _ G2 _ k (Φ.st _ _ ((g.trans g2).s rfl) φ) (g.trans g2).d (up' _)⟩
/-! if, return, raise -/
theorem sx_if {th el : List Stmt} {k : Bool} (hc : ET X Φ A c k) (h1 : k = true → SXs μ X Φ A th P) (h2 : k = false → SXs μ X Φ A el P) : SX μ X Φ A (.If c th el pos) P :=
  sx_of (ps_if RT.pt RSs.pss RSs.pss) fun G0 H0 G H σ De ab φ m => hc μ G0 H0 G H σ _ ab φ fun H' g => by
    cases k with
    | true =>
      show if true = true then _ else _
      rw [if_pos rfl]
      exact h1 rfl G0 H0 G H' σ De (ab.step g) φ m
    | false =>
      show if false = true then _ else _
      rw [if_neg Bool.false_ne_true]
      exact h2 rfl G0 H0 G H' σ De (ab.step g) φ m
theorem sx_ret (he : EXW X Φ (fzA A) e W) (k : ∀ s, W s → P.rt Φ s) : SX μ X Φ A (.Return (some e) pos) P :=
  sx_of (ps_ret RE.pe) fun G0 H0 G H σ De ab φ m => by
    obtain ⟨G1, ab1, sm⟩ := ab.fz
    exact he μ G0 H0 G1 H σ _ ab1 (Φ.st _ _ sm φ) fun s v G' H' w g sv => m.rt Φ s v G' H' (k s w) (Φ.st _ _ (g.s rfl) (Φ.st _ _ sm φ)) (ab1.gr.trans g.any) sv
theorem sx_never (h : False) : SX μ X Φ A st P := h.elim
/-! targets -/
def RG (X : Cx) (tg : Expr) : TG := fun v σ H Q => ∀ pins s u, Inv X pins σ H s → RelV v u → wpAny (model X.prog X.w) X.A (assign tg X.env u) (fun _ s' => ∃ σ' H', Inv X pins σ' H' s' ∧ Q σ' H') X.xe s
theorem RG.pg {tg : Expr} : PG X tg (RG X tg) := ⟨fun pins s σ H v u Q I r h => h pins s u I r⟩
theorem RG.of {tg : Expr} {g : TG} {v : V} {σ : L2.St} {H : Hp} {Q : L2.St → Hp → Prop} (p : PG X tg g) (h : g v σ H Q) : RG X tg v σ H Q := fun pins s u I r => p.run pins s σ H v u Q I r h
def TX (X : Cx) (tg : Expr) (s : Ds) (A A' : List Sl) : Prop := ∀ μ G0 H0 G H σ v Q, Ab μ X.K G0 H0 G H A σ → Sv X.K G v s → (∀ σ', Ab μ X.K G0 H0 G H A' σ' → Q σ' H) → RG X tg v σ H Q
theorem tx_name (i : Nat) (hN : X.N.Nodup) (hi : X.N[i]? = some x := by rfl) (hx : Loc X.env.scope x := by first | exact .inl rfl | exact .inr rfl) (hf : X.fn x = true ∨ X.env.scope.names.lookup x = some .local := by first | exact .inl rfl | exact .inr rfl) : TX X (.Name x pos) s A (A.set i (.k s)) :=
  fun μ G0 H0 G H σ v Q ab sv q => RG.of (pg_name hN hi hx hf) (q _ (ab.set sv))
def RGs (X : Cx) (tgs : List Expr) : TGs := fun vs σ H Q => ∀ pins s us, Inv X pins σ H s → Vals vs us → wpAny (model X.prog X.w) X.A (assignInOrder ((assignEach tgs X.env).map (·.2)) us) (fun _ s' => ∃ σ' H', Inv X pins σ' H' s' ∧ Q σ' H') X.xe s
theorem RGs.pg {tgs : List Expr} : PGs X tgs (RGs X tgs) := ⟨fun pins s σ H vs us Q I r h => h pins s us I r⟩
theorem RGs.of {tgs : List Expr} {g : TGs} {vs : List V} {σ : L2.St} {H : Hp} {Q : L2.St → Hp → Prop} (p : PGs X tgs g) (h : g vs σ H Q) : RGs X tgs vs σ H Q := fun pins s us I r => p.run pins s σ H vs us Q I r h
def TXs (X : Cx) (tgs : List Expr) (ss : List Ds) (A A' : List Sl) : Prop := ∀ μ G0 H0 G H σ vs Q, Ab μ X.K G0 H0 G H A σ → SvAll X.K G vs ss → (∀ σ', Ab μ X.K G0 H0 G H A' σ' → Q σ' H) → RGs X tgs vs σ H Q
theorem txs_nil : TXs X [] [] A A := fun μ G0 H0 G H σ vs Q ab sv q => RGs.of pgs_nil (by cases sv; exact ⟨rfl, q σ ab⟩)
theorem txs_cons {tg : Expr} {tgs : List Expr} {ss : List Ds} {A1 A' : List Sl} (h : TX X tg s A A1) (h2 : TXs X tgs ss A1 A') (hs : (assignEach (tg :: tgs) X.env).map (·.2) = assign tg X.env :: (assignEach tgs X.env).map (·.2) := by rfl) : TXs X (tg :: tgs) (s :: ss) A A' :=
  fun μ G0 H0 G H σ vs Q ab sv q => RGs.of (pgs_cons RG.pg RGs.pg hs) (by
    cases sv with
    | cons s1 s2 => exact ⟨_, _, rfl, h μ G0 H0 G H σ _ _ ab s1 fun σ' ab' => h2 μ G0 H0 G H σ' _ Q ab' s2 q⟩)
theorem tx_tupS {es : List Expr} {kk : Nat} {ss : List Ds} {A' : List Sl} (h : TXs X es ss A A') (hc : X.calm = true := by rfl) (hn : (assignEach es X.env).length = ss.length := by rfl) (hst : (assignEach es X.env).findIdx? (·.1) = none := by rfl) : TX X (.Tuple es kk pos) (.tup ss) A A' :=
  fun μ G0 H0 G H σ v Q ab sv q => RG.of (pg_tup hc RGs.pg hn hst) (by
    cases sv with
    | tup e1 svs => exact ⟨_, _, rfl, .of (ab.i _ _ e1), svs.length, h μ G0 H0 G H σ _ Q ab svs q⟩)
theorem tx_tup {es : List Expr} {kk : Nat} {ds : List D} {A' : List Sl} (h : TXs X es (ds.map .dat) A A') (hc : X.calm = true := by rfl) (hn : (assignEach es X.env).length = ds.length := by rfl) (hst : (assignEach es X.env).findIdx? (·.1) = none := by rfl) : TX X (.Tuple es kk pos) (.dat (.tuple ds)) A A' :=
  fun μ G0 H0 G H σ v Q ab sv q => RG.of (pg_tup hc RGs.pg hn hst) (by
    cases sv with
    | dat sv => cases sv with
      | tup e1 dq => exact ⟨_, _, rfl, .of (ab.i _ _ e1), dq.length, h μ G0 H0 G H σ _ Q ab (.of_dats dq) q⟩)
/-- a list unpacked -/
theorem sx_unp {tg : Expr} (he : EXW X Φ A e W) (k : ∀ s, W s → ∃ A', TX X tg s A A' ∧ P.nx Φ A') (hs : swapsWithSole [tg] e pos.line X.env = pure false := by rfl) (hw : swappedStores [tg] e X.env = pure none := by rfl) (h1 : (assignEach [tg] X.env).map (·.2) = [assign tg X.env] := by rfl) :
    SX μ X Φ A (.Assign [tg] e pos) P := sx_of (ps_asg RE.pe RG.pg hs hw h1) fun G0 H0 G H σ De ab φ m => he μ G0 H0 G H σ _ ab φ fun s v G' H' w g sv => by
  obtain ⟨A', tx, q⟩ := k s w
  exact tx μ G0 H0 G' H' σ v _ (ab.step g) sv fun σ' ab' => m.nx Φ A' σ' G' H' q (Φ.st _ _ (g.s rfl) φ) g.d ab'

/-- x = [comprehension] on one line, x a local of the def alone -/
theorem sx_lc {α : Type} {elt iter : Expr} {ifs : List Expr} {scope : Scope} {y : Str} {py px pos' : Pos} {ys : List α} {ι : α → Ds} (i j : Nat) (q : α → Bool) (f : α → D) (hi : IX X Φ A (.Name y px) iter (· = ys.map ι)) (hz : ys.length ≤ 100000)
    (ok : BlkOk X.N X.env.scope scope [(y, j)])
    (ht : ∀ z ∈ ys, ∀ (s : Shared) (H : Hp) (C : Addr) (cl : List (Str × Addr)) (fp : List Addr), EIfs (BX X s H scope C cl fp) Φ (A.set j (.k (ι z))) ifs (q z))
    (he : ∀ z ∈ ys, q z = true → ∀ (s : Shared) (H : Hp) (C : Addr) (cl : List (Str × Addr)) (fp : List Addr), EX (BX X s H scope C cl fp) Φ (A.set j (.k (ι z))) elt (.dat (f z)))
    (hpg : ∀ (s : Shared) (H : Hp) (C : Addr) (cl : List (Str × Addr)) (fp : List Addr), PG (BX X s H scope C cl fp) (.Name y px) (gName j))
    (hN : X.N.Nodup) (k : P.nx Φ (A.set i (.d (.list ((ys.filter q).map f))))) (hxi : X.N[i]? = some x := by rfl) (hxl : X.env.scope.names.lookup x = some .local := by rfl)
    (hsw : swapsWith (.ListComp elt [⟨.Name y px, iter, ifs, 0⟩] scope pos) (some (.Name x py)) pos'.line X.env = pure true := by exact sw_true rfl rfl rfl (by decide +kernel))
    (hc : X.calm = true := by rfl) (hs : ∀ x, foldedSetIterable iter X.env x = pure x := by intro _; rfl) : SX μ X Φ A (.Assign [.Name x py] (.ListComp elt [⟨.Name y px, iter, ifs, 0⟩] scope pos) pos') P :=
  sx_of (ps_setLc (own := [(y, j)]) hc hN hxi hxl hsw RI.pi ok hpg TTb.pts TEb.pe hs) fun G0 H0 G H σ De ab φ m => lc_read hi hz ht he ab φ fun s v G' H' w g sv => by
    subst w
    exact m.nx Φ _ _ G' H' k (Φ.st _ _ (g.s rfl) φ) g.d ((ab.step g).set sv)

/-! loops -/
theorem sx_for {tg iter : Expr} {body : List Stmt} {Wi : List Ds → Prop} (hi : IX X Φ A tg iter Wi) (Iv : List Ds → Nat → Ph → List Sl → Prop) (h0 : ∀ its, Wi its → Iv its 0 Φ A)
    (ht : ∀ its i s Ψ B, Wi its → its[i]? = some s → Iv its i Ψ B → ∃ B', TX X tg s B B' ∧ SXs μ X Ψ B' body { P with nx := Iv its (i + 1), ct := Iv its (i + 1), bk := P.nx }) (hd : ∀ its Ψ B, Wi its → Iv its its.length Ψ B → P.nx Ψ B)
    (hp : PassesOwn (model X.prog X.w) X.A X.env X.xe := by exact PassesOwn.never) (hc : X.calm = true := by rfl) (hs : ∀ x, foldedSetIterable iter X.env x = pure x := by intro _; rfl) : SX μ X Φ A (.For tg iter body [] pos) P :=
  sx_of (ps_for hp hc RI.pi RG.pg RSs.pss hs) fun G0 H0 G H σ De ab φ m => hi μ G0 H0 G H σ _ ab φ fun its J G1 H1 w g it => by
    let V : Nat → Nat → L2.St → Hp → Prop := fun i n σ' H' => n = its.length - i ∧ i ≤ its.length ∧ ∃ Ψ B G', Iv its i Ψ B ∧ Ψ.p G' ∧ SameD G1 G' ∧ Ab μ X.K G0 H0 G' H' B σ'
    have m1 := m.step g.d
    refine ⟨V, ⟨_, rfl, Nat.zero_le _, Φ, A, G1, h0 its w, Φ.st _ _ (g.s rfl) φ, .refl _, ab.step g⟩, fun i n σ' H' ⟨hn, hi', Ψ, B, G', iv, ψ, sd, ab'⟩ => ?_⟩
    obtain ⟨it1, it2⟩ := it G' H' sd ab'.i
    by_cases hl : its.length ≤ i
    · have : i = its.length := Nat.le_antisymm hi' hl
      subst this
      exact .inl ⟨it1 _ (Nat.le_refl _), m1.nx Ψ B σ' G' H' (hd its Ψ B w iv) ψ sd ab'⟩
    · have hlt : i < its.length := Nat.lt_of_not_le hl
      obtain ⟨go, yl⟩ := it2 i hlt
      refine .inr ⟨go, fun σ2 H2 => V (i + 1) (its.length - (i + 1)) σ2 H2, fun σ2 H2 hv => ⟨_, by omega, hv⟩, fun v H2 y => ?_⟩
      obtain ⟨G2, g2, sv⟩ := yl v H2 y
      obtain ⟨B', tx, body⟩ := ht its i its[i] Ψ B w (List.getElem?_eq_getElem hlt) iv
      refine tx μ G0 H0 G2 H2 σ' v _ (ab'.step g2) (sv _ (List.getElem?_eq_getElem hlt)) fun σ2 ab2 => ?_
      have sd2 : SameD G1 G2 := sd.trans g2.d
      refine body G0 H0 G2 H2 σ2 _ ab2 (Ψ.st _ _ (g2.s rfl) ψ) ⟨fun Θ C σ3 G3 H3 q θ d ab3 => ?_, fun Θ s v G3 H3 q => m.rt Θ s v G3 H3 q, fun Θ C σ3 G3 H3 q θ d ab3 => ?_, fun Θ C σ3 G3 H3 q θ d ab3 => ?_, m.rf⟩
      · exact ⟨rfl, hlt, Θ, C, G3, q, θ, sd2.trans d, ab3⟩
      · exact m1.nx Θ C σ3 G3 H3 q θ (sd2.trans d) ab3
      · exact ⟨rfl, hlt, Θ, C, G3, q, θ, sd2.trans d, ab3⟩
/-- over items that are told; the invariant by the turn -/
theorem sx_forT {α : Type} {tg iter : Expr} {body : List Stmt} {ys : List α} {ι : α → Ds} (hi : IX X Φ A tg iter (· = ys.map ι)) (Iv : Nat → Ph → List Sl → Prop) (h0 : Iv 0 Φ A)
    (ht : ∀ i y Ψ B, ys[i]? = some y → Iv i Ψ B → ∃ B', TX X tg (ι y) B B' ∧ SXs μ X Ψ B' body { P with nx := Iv (i + 1), ct := Iv (i + 1), bk := P.nx }) (hd : ∀ Ψ B, Iv ys.length Ψ B → P.nx Ψ B)
    (hp : PassesOwn (model X.prog X.w) X.A X.env X.xe := by exact PassesOwn.never) (hc : X.calm = true := by rfl) (hs : ∀ x, foldedSetIterable iter X.env x = pure x := by intro _; rfl) : SX μ X Φ A (.For tg iter body [] pos) P :=
  sx_for hi (fun its i Ψ B => Iv i Ψ B) (fun its w => h0) (fun its i s Ψ B w e iv => by
    subst w
    rw [List.getElem?_map] at e
    cases ey : ys[i]? with
    | none => rw [ey] at e; cases e
    | some y =>
      rw [ey] at e
      cases e
      exact ht i y Ψ B ey iv) (fun its Ψ B w iv => by
    subst w
    rw [List.length_map] at iv
    exact hd Ψ B iv) hp hc hs
theorem sx_while {body : List Stmt} (Iv : Nat → Ph → List Sl → Prop) (h0 : ∃ m, Iv m Φ A)
    (ht : ∀ m Ψ B, Iv m Ψ B → ∃ k, ET X Ψ B c k ∧ (k = true → SXs μ X Ψ B body { P with nx := fun Θ C => ∃ m', m' < m ∧ Iv m' Θ C, ct := fun Θ C => ∃ m', m' < m ∧ Iv m' Θ C, bk := P.nx }) ∧ (k = false → P.nx Ψ B))
    (hp : PassesOwn (model X.prog X.w) X.A X.env X.xe := by exact PassesOwn.never) : SX μ X Φ A (.While c body [] pos) P :=
  sx_of (ps_while hp RT.pt RSs.pss) fun G0 H0 G H σ De ab φ m => by
    obtain ⟨n0, i0⟩ := h0
    refine ⟨fun n σ' H' => ∃ Ψ B G', Iv n Ψ B ∧ Ψ.p G' ∧ SameD G G' ∧ Ab μ X.K G0 H0 G' H' B σ', ⟨n0, Φ, A, G, i0, φ, .refl _, ab⟩, fun n σ' H' ⟨Ψ, B, G', iv, ψ, sd, ab'⟩ => ?_⟩
    obtain ⟨k, et, h1, h2⟩ := ht n Ψ B iv
    refine et μ G0 H0 G' H' σ' _ ab' ψ fun H2 g2 => ?_
    cases k with
    | true =>
      show if true = true then _ else _
      rw [if_pos rfl]
      refine ⟨fun σ2 H3 => ∃ m', m' < n ∧ ∃ Ψ B G', Iv m' Ψ B ∧ Ψ.p G' ∧ SameD G G' ∧ Ab μ X.K G0 H0 G' H3 B σ2, fun σ2 H3 z => z, h1 rfl G0 H0 G' H2 σ' _ (ab'.step g2) ψ ⟨fun Θ C σ3 G3 H3 q θ d ab3 => ?_, fun Θ s v G3 H3 q => m.rt Θ s v G3 H3 q, fun Θ C σ3 G3 H3 q θ d ab3 => ?_, fun Θ C σ3 G3 H3 q θ d ab3 => ?_, m.rf⟩⟩
      · obtain ⟨m', hm, q⟩ := q
        exact ⟨m', hm, Θ, C, G3, q, θ, sd.trans d, ab3⟩
      · exact m.nx Θ C σ3 G3 H3 q θ (sd.trans d) ab3
      · obtain ⟨m', hm, q⟩ := q
        exact ⟨m', hm, Θ, C, G3, q, θ, sd.trans d, ab3⟩
    | false =>
      show if false = true then _ else _
      rw [if_neg Bool.false_ne_true]
      exact m.nx Ψ B σ' G' H2 (h2 rfl) ψ sd (ab'.step g2)
end

/-! ### a def keeps its promise -/
def phS (G : Hp) : Ph := ⟨fun G' => Same G G', fun _ _ h s => s.trans h⟩
abbrev st0 (N : List Str) (ss : List Ds) : List Sl := ss.map .k ++ List.replicate (N.length - ss.length) .un
theorem ab_start {K : PySem.W.Frag} {G H : Hp} {N : List Str} {vs : List V} {ss : List Ds} (i : Same G H) (h : SvAll K G vs ss) {μ : Bool} : Ab μ K G H G H (st0 N ss) (L2.start N vs) := by
  refine ⟨.refl i, ?_, fun _ => 0, fun j s e => ?_, fun j k s t e _ o => ?_⟩
  · unfold st0 L2.start
    rw [List.length_append, List.length_append, List.length_map, List.length_map, List.length_replicate, List.length_replicate, h.length]
  · unfold st0 at e
    unfold L2.start
    by_cases hj : j < ss.length
    · rw [List.getElem?_append_left (by rw [List.length_map]; exact hj), List.getElem?_map] at e
      rw [List.getElem?_append_left (by rw [List.length_map, h.length]; exact hj), List.getElem?_map]
      cases q : ss[j]? with
      | none => rw [q] at e; cases e
      | some t =>
        rw [q] at e
        have e' : Sl.k t = s := Option.some.inj e
        subst e'
        obtain ⟨v, e1, sv⟩ := h.get q
        rw [e1]
        exact ⟨v, rfl, sv⟩
    · rw [List.getElem?_append_right (by rw [List.length_map]; omega)] at e
      have := List.mem_of_getElem? e
      rw [List.eq_of_mem_replicate this]
      trivial
  · unfold st0 at e
    by_cases hj : j < ss.length
    · rw [List.getElem?_append_left (by rw [List.length_map]; exact hj), List.getElem?_map] at e
      cases q : ss[j]? with
      | none => rw [q] at e; cases e
      | some t =>
        rw [q] at e
        have e' : Sl.k t = s := Option.some.inj e
        subst e'
        cases o
    · rw [List.getElem?_append_right (by rw [List.length_map]; omega)] at e
      have := List.mem_of_getElem? e
      rw [List.eq_of_mem_replicate this] at o
      cases o
section
variable {P : Program} {w : World} {K : PySem.W.Frag} {mg : Str → Option Value} {base : Heap}
/-- where a def of the text stands -/
def DefAt (K : PySem.W.Frag) (mg : Str → Option Value) (x : Str) (st : Stmt) : Prop := ∃ f fd, FunD K x x (defArgs st) (defBody st) (defScope st) [] [] f fd ∧ mg x = some (.ref f)
abbrev cx (P : Program) (w : World) (K : PySem.W.Frag) (mg : Str → Option Value) (base : Heap) (N : List Str) (qual : Str) (sc : Scope) (f : Addr) (cdv : Value) (A : Around) (outer : List Env) (s : Shared) (H : Hp) : Cx :=
  (cxOf CX0 P w K mg base N qual sc f cdv A outer s H (fun _ _ _ => False)).nox
theorem fn_pure {x qual : Str} {st : Stmt} {N ps : List Str} {R : PSpec} {k : Nat} {f : Addr} {fd : FuncData} (F : FunD K x qual (defArgs st) (defBody st) (defScope st) [] [] f fd) (S : FnScope N ps (defScope st)) (hl : ∀ G ss W, R G ss W → ss.length = ps.length)
    (body : ∀ (cdv : Value) (A : Around) (outer : List Env) (s : Shared) (H : Hp), Room k (A.deeper (envOfC qual (defScope st) s.heap.objs.size f cdv)) → ∀ G ss W, R G ss W →
      SXs false (cx P w K mg base N qual (defScope st) f cdv A outer s H) (phS G) (st0 N ss) (defBody st) { nx := fun _ _ => W (.dat .none), rt := fun _ s => W s }) :
    FnOk P w K mg base CX0 (k + 1) f fd ps (spP K R) := by
  refine F.ok S (fun vs H Q E h => ?_) fun cdv A outer s H vs Q E hr h => ?_
  · obtain ⟨G, ss, W, _, svs, r, _⟩ := h
    rw [svs.length]
    exact hl G ss W r
  · obtain ⟨G, ss, W, sm, svs, r, post⟩ := h
    refine ⟨RSs (cx P w K mg base N qual (defScope st) f cdv A outer s H) (defBody st), ?_, ?_⟩
    · exact PSs.nox RSs.pss
    · refine body cdv A outer s H hr G ss W r G H G H _ _ (ab_start sm svs) (.refl _) ⟨fun Φ A' σ' G' H' q _ _ ab => ?_, fun Φ t v G' H' q _ g sv => ?_, fun _ _ _ _ _ z => z.elim, fun _ _ _ _ _ z => z.elim, fun _ _ _ _ z => z.elim⟩
      · exact post _ .non G' H' q ab.gr (.dat .non)
      · exact post t v G' H' q g sv
theorem fn_mk {x : Str} {st : Stmt} {N ps : List Str} {R : PSpec} {k : Nat} (D : DefAt K mg x st) (S : FnScope N ps (defScope st)) (hl : ∀ G ss W, R G ss W → ss.length = ps.length)
    (hb : ∀ (kV doc pm : Value) (an : Option Addr) (cdv ct : Value) (us : List Value), us.length = ps.length → bindArgs (PySem.W.fnOf x x (defArgs st) (defBody st) (defScope st) .none kV doc pm an cdv ct) ⟨us, []⟩ = pure (ps.zip us))
    (body : ∀ (f : Addr) (cdv : Value) (A : Around) (outer : List Env) (s : Shared) (H : Hp), Room k (A.deeper (envOfC x (defScope st) s.heap.objs.size f cdv)) → ∀ G ss W, R G ss W →
      SXs false (cx P w K mg base N x (defScope st) f cdv A outer s H) (phS G) (st0 N ss) (defBody st) { nx := fun _ _ => W (.dat .none), rt := fun _ s => W s }) : Fn P w K mg base x ps R (k + 1) := by
  obtain ⟨f, fd, F, hm⟩ := D
  exact ⟨f, fd, hm, fn_pure F S hl (body f), F.kp, FunD.bindsN F hb⟩
/-! a def that hands back new objects alone -/
def spF (K : PySem.W.Frag) (R : PSpec) : Sp := fun vs H Q _ => ∃ G ss W, Same G H ∧ SvAll K G vs ss ∧ R G ss W ∧ ∀ s v G' H', W s → Gr false hp0 H G' H' → Sv K G' v s → Q v H'
def FnF (P : Program) (w : World) (K : PySem.W.Frag) (mg : Str → Option Value) (base : Heap) (x : Str) (ps : List Str) (R : PSpec) (k : Nat) : Prop :=
  ∃ f fd, mg x = some (.ref f) ∧ FnOk P w K mg base CX0 k f fd ps (spF K R) ∧ PySem.W.keepIn K (.ref f) = true ∧ Binds K fd ps []
theorem fnF_mk {x : Str} {st : Stmt} {N ps : List Str} {R : PSpec} {k : Nat} (D : DefAt K mg x st) (S : FnScope N ps (defScope st)) (hl : ∀ G ss W, R G ss W → ss.length = ps.length)
    (hb : ∀ (kV doc pm : Value) (an : Option Addr) (cdv ct : Value) (us : List Value), us.length = ps.length → bindArgs (PySem.W.fnOf x x (defArgs st) (defBody st) (defScope st) .none kV doc pm an cdv ct) ⟨us, []⟩ = pure (ps.zip us))
    (body : ∀ (f : Addr) (cdv : Value) (A : Around) (outer : List Env) (s : Shared) (H : Hp), Room k (A.deeper (envOfC x (defScope st) s.heap.objs.size f cdv)) → ∀ G ss W, R G ss W →
      SXs false (cx P w K mg base N x (defScope st) f cdv A outer s H) (phS G) (st0 N ss) (defBody st) { nx := fun _ _ => False, rt := fun _ _ => False, rf := W }) : FnF P w K mg base x ps R (k + 1) := by
  obtain ⟨f, fd, F, hm⟩ := D
  refine ⟨f, fd, hm, F.ok S (fun vs H Q E h => ?_) (fun cdv A outer s H vs Q E hr h => ?_), F.kp, FunD.bindsN F hb⟩
  · obtain ⟨G, ss, W, _, svs, r, _⟩ := h
    rw [svs.length]
    exact hl G ss W r
  · obtain ⟨G, ss, W, sm, svs, r, post⟩ := h
    refine ⟨RSs (cx P w K mg base N x (defScope st) f cdv A outer s H) (defBody st), PSs.nox RSs.pss, ?_⟩
    refine body f cdv A outer s H hr G ss W r G H G H _ _ (ab_start sm svs) (.refl _) ⟨fun _ _ _ _ _ z => z.elim, fun _ _ _ _ _ z => z.elim, fun _ _ _ _ _ z => z.elim, fun _ _ _ _ _ z => z.elim, fun t v G' H' q g sv => ?_⟩
    exact post t v G' H' q g sv
end
section
variable {X : Cx} {Φ : Ph} {A : List Sl} {P : PEnd} {e : Expr} {es : List Expr} {pos p : Pos} {W : Ds → Prop} {ss : List Ds} {x : Str}
/-- .. called: what the slots own may be seen by it -/
theorem exw_callF {ps : List Str} {R : PSpec} {k : Nat} (F : FnF X.prog X.w X.K X.mg X.base x ps R k) (hr : Room k X.A) (ha : EA X Φ (fzA A) (e :: es) ss) (hR : ∀ G, R G ss W) (hg : Gl X x := by rfl) (hdb : (x == ("__debug__" : Str)) = false := by decide)
    (he : starEach (e :: es) X.env = (false, eval e X.env) :: starEach es X.env := by rfl) (hpl : (backTo pos (starEach es X.env)).any (·.1) = false := by rfl) : EXW X Φ A (.Call (.Name x p) (e :: es) [] pos) W := by
  obtain ⟨f, fd, hm, F, hk, hb⟩ := F
  refine exw_of (pe_call F hr hg hm hk hb .nil pass0 RA.pa hdb he hpl) fun μ G0 H0 G H σ Q ab φ q => ?_
  obtain ⟨G1, ab1, sm⟩ := ab.fz
  refine ha μ G0 H0 G1 H σ _ ab1 (Φ.st _ _ sm φ) fun vs G2 H2 g svs => ?_
  rw [List.append_nil]
  have hh : Same H H2 := g.h ab1.i
  refine ⟨G2, ss, W, g.i, svs, hR G2, fun s v Gf H3 w gf sv => ?_⟩
  have h3 : Same H2 H3 := fun a o e => gf.f a o e rfl
  have hn : ∀ a o, Gf a = some o → H2 a = none := fun a o e => by
    cases z : H2 a with
    | none => rfl
    | some u =>
      have := gf.n a (by rw [z]; intro y; cases y) rfl
      rw [this] at e
      cases e
  have gn : ∀ a o, Gf a = some o → G a = none := fun a o e => Same.none ab.i (Same.none hh (hn a o e))
  let G3 : Hp := fun a => match G a with
    | some o => some o
    | none => Gf a
  have s1 : Same G G3 := fun a o e => by
    show (match G a with | some o => some o | none => Gf a) = some o
    rw [e]
  have s2 : Same Gf G3 := fun a o e => by
    show (match G a with | some o => some o | none => Gf a) = some o
    rw [gn a o e]
    exact e
  refine q s v G3 H3 w (.mk' s1 (hh.trans h3) (fun a o e => ?_) fun a ha ga => ?_) (sv.mono s2)
  · have e : (match G a with | some o => some o | none => Gf a) = some o := e
    cases z : G a with
    | some u =>
      rw [z] at e
      cases e
      exact h3 a _ (hh a _ (ab.i a _ z))
    | none =>
      rw [z] at e
      exact gf.i a o e
  · show (match G a with | some o => some o | none => Gf a) = none
    rw [ga]
    show Gf a = none
    cases z : Gf a with
    | none => rfl
    | some u => exact absurd (Same.none hh (hn a u z)) ha
end
end Dl
namespace Dl
open PySem PySem.Spec PyProof.Rows L2

/-! ### codes of data -/
def encN (n : Nat) : D := .int (n : Int)
def encO : Option Int → D
  | none => .none
  | some b => .int b
def encP (q : Nat × Nat) : D := .tuple [.int (q.1 : Nat), .int (q.2 : Nat)]
abbrev liD (ns : List Int) : D := .list (ns.map .int)
abbrev lnD (ns : List Nat) : D := .list (ns.map encN)
abbrev lsD (ns : List Str) : D := .list (ns.map .str)
abbrev loD (ns : List (Option Int)) : D := .list (ns.map encO)
abbrev lpD (ns : List (Nat × Nat)) : D := .list (ns.map encP)
abbrev llD (ns : List (List Int)) : D := .list (ns.map liD)
abbrev lnnD (ns : List (List Nat)) : D := .list (ns.map lnD)
theorem atN {α : Type} {xs : List α} {k : Nat} {x : α} (h : xs[k]? = some x) : atI xs (k : Int) = some x := atI_nat h
theorem atL {α : Type} {xs : List α} {k : Nat} (h : k < xs.length) : atI xs (k : Int) = some xs[k] := atI_nat (List.getElem?_eq_getElem h)
theorem atZ {α : Type} {xs : List α} {i : Int} {d : α} (h0 : 0 ≤ i) (h : i < xs.length) : atI xs i = some (xs.getD i.toNat d) := by
  have hk : i.toNat < xs.length := by omega
  have e : i = (i.toNat : Int) := by omega
  rw [e]
  rw [show ((i.toNat : Nat) : Int).toNat = i.toNat by omega]
  rw [List.getD_eq_getElem?_getD, List.getElem?_eq_getElem hk]
  exact atL hk
theorem sc_encN (n : Nat) : Sc (encN n) := trivial
theorem sc_encO : ∀ o : Option Int, Sc (encO o)
  | none => trivial
  | some _ => trivial
theorem DqAll.vals {G : Hp} : ∀ {vs : List V} {ds : List D}, (∀ d ∈ ds, Sc d) → DqAll G vs ds → vs = ds.map vOf
  | [], [], _, _ => rfl
  | _ :: _, [], _, h => by cases h
  | [], _ :: _, _, h => by cases h
  | v :: vs, d :: ds, hs, h => by
    cases h with
    | cons h1 h2 =>
      rw [h1.sc (hs d List.mem_cons_self), DqAll.vals (fun e he => hs e (List.mem_cons_of_mem _ he)) h2]
      rfl
theorem flat_sc : ∀ {d : D}, Sc d → flatV (vOf d) = true
  | .int _, _ => rfl
  | .str _, _ => rfl
  | .bool _, _ => rfl
  | .none, _ => rfl
  | .list _, h => h.elim
  | .tuple _, h => h.elim
  | .dict _, h => h.elim
theorem flat_all {ds : List D} (h : ∀ d ∈ ds, Sc d) : (ds.map vOf).all flatV = true := by
  rw [List.all_map, List.all_eq_true]
  exact fun d hd => flat_sc (h d hd)
section
variable {X : Cx} {Φ : Ph} {A : List Sl} {a b c e : Expr} {pos : Pos} {d : D} {ds : List D}
theorem eb_inF (ha : EX X Φ A a (.dat d)) (hb : EX X Φ A b (.dat (.list ds))) (h1 : Sc d) (h2 : ∀ d ∈ ds, Sc d) (hm : behindInMarks .In b = false := by rfl) : EB X Φ A (.Compare a [.In] [b] pos) (inV (vOf d) (ds.map vOf)) :=
  eb_cmp op_in_seq ha hb hm fun x y G H Q sm s1 s2 q => by
    cases s1 with
    | dat s1 => cases s2 with
      | dat s2 => cases s2 with
        | lst e1 e2 =>
          have ex := s1.sc h1
          subst ex
          have ev := e2.vals h2
          subst ev
          exact ⟨_, _, rfl, .inl (.of (sm _ _ e1)), flat_sc h1, flat_all h2, q⟩
theorem eb_ninF (ha : EX X Φ A a (.dat d)) (hb : EX X Φ A b (.dat (.list ds))) (h1 : Sc d) (h2 : ∀ d ∈ ds, Sc d) (hm : behindInMarks .NotIn b = false := by rfl) : EB X Φ A (.Compare a [.NotIn] [b] pos) (!inV (vOf d) (ds.map vOf)) :=
  eb_cmp op_notIn_seq ha hb hm fun x y G H Q sm s1 s2 q => by
    cases s1 with
    | dat s1 => cases s2 with
      | dat s2 => cases s2 with
        | lst e1 e2 =>
          have ex := s1.sc h1
          subst ex
          have ev := e2.vals h2
          subst ev
          exact ⟨_, _, rfl, .inl (.of (sm _ _ e1)), flat_sc h1, flat_all h2, q⟩
theorem inV_int (k : Int) (ns : List Int) : inV (.int k) ((ns.map PyData.int).map vOf) = decide (k ∈ ns) := by
  unfold inV
  rw [List.map_map, List.any_map]
  rw [Bool.eq_iff_iff, List.any_eq_true, decide_eq_true_iff]
  constructor
  · rintro ⟨x, hx, h⟩
    have h : (x == k) = true := h
    rw [← eq_of_beq h]
    exact hx
  · exact fun h => ⟨k, h, beq_self_eq_true k⟩
theorem inV_nat (k : Nat) (ns : List Nat) : inV (.int (k : Nat)) ((ns.map encN).map vOf) = decide (k ∈ ns) := by
  unfold inV
  rw [List.map_map, List.any_map]
  rw [Bool.eq_iff_iff, List.any_eq_true, decide_eq_true_iff]
  constructor
  · rintro ⟨x, hx, h⟩
    have h : ((x : Int) == (k : Int)) = true := h
    have e := eq_of_beq h
    rw [← Int.ofNat_inj.mp e]
    exact hx
  · exact fun h => ⟨k, h, beq_self_eq_true (k : Int)⟩
theorem inV_str (k : Str) (ns : List Str) : inV (.str k) ((ns.map PyData.str).map vOf) = decide (k ∈ ns) := by
  unfold inV
  rw [List.map_map, List.any_map]
  rw [Bool.eq_iff_iff, List.any_eq_true, decide_eq_true_iff]
  constructor
  · rintro ⟨x, hx, h⟩
    have h : (x == k) = true := h
    rw [← eq_of_beq h]
    exact hx
  · exact fun h => ⟨k, h, beq_self_eq_true k⟩
theorem inV_none (ns : List (Option Int)) : inV .non ((ns.map encO).map vOf) = decide (none ∈ ns) := by
  unfold inV
  rw [List.map_map, List.any_map]
  rw [Bool.eq_iff_iff, List.any_eq_true, decide_eq_true_iff]
  constructor
  · rintro ⟨x, hx, h⟩
    cases x with
    | none => exact hx
    | some v => cases h
  · exact fun h => ⟨none, h, rfl⟩
variable {i : Int} {k : Nat} {ns : List Int} {ks : List Nat} {x : Str} {xs : List Str} {os : List (Option Int)}
theorem scs_int {d : D} (h : d ∈ ns.map PyData.int) : Sc d := by
  obtain ⟨_, _, rfl⟩ := List.mem_map.mp h
  trivial
theorem scs_nat {d : D} (h : d ∈ ks.map encN) : Sc d := by
  obtain ⟨_, _, rfl⟩ := List.mem_map.mp h
  trivial
theorem scs_str {d : D} (h : d ∈ xs.map PyData.str) : Sc d := by
  obtain ⟨_, _, rfl⟩ := List.mem_map.mp h
  trivial
theorem scs_opt {d : D} (h : d ∈ os.map encO) : Sc d := by
  obtain ⟨o, _, rfl⟩ := List.mem_map.mp h
  exact sc_encO o
theorem eb_inI (ha : EX X Φ A a (di i)) (hb : EX X Φ A b (.dat (liD ns))) (hm : behindInMarks .In b = false := by rfl) : EB X Φ A (.Compare a [.In] [b] pos) (decide (i ∈ ns)) := (eb_inF ha hb trivial (fun _ => scs_int) hm).cast (inV_int i ns)
theorem eb_ninI (ha : EX X Φ A a (di i)) (hb : EX X Φ A b (.dat (liD ns))) (hm : behindInMarks .NotIn b = false := by rfl) : EB X Φ A (.Compare a [.NotIn] [b] pos) (!decide (i ∈ ns)) := (eb_ninF ha hb trivial (fun _ => scs_int) hm).cast (congrArg Bool.not (inV_int i ns))
theorem eb_inN (ha : EX X Φ A a (di (k : Nat))) (hb : EX X Φ A b (.dat (lnD ks))) (hm : behindInMarks .In b = false := by rfl) : EB X Φ A (.Compare a [.In] [b] pos) (decide (k ∈ ks)) := (eb_inF ha hb trivial (fun _ => scs_nat) hm).cast (inV_nat k ks)
theorem eb_ninN (ha : EX X Φ A a (di (k : Nat))) (hb : EX X Φ A b (.dat (lnD ks))) (hm : behindInMarks .NotIn b = false := by rfl) : EB X Φ A (.Compare a [.NotIn] [b] pos) (!decide (k ∈ ks)) := (eb_ninF ha hb trivial (fun _ => scs_nat) hm).cast (congrArg Bool.not (inV_nat k ks))
theorem eb_inS (ha : EX X Φ A a (Dl.ds x)) (hb : EX X Φ A b (.dat (lsD xs))) (hm : behindInMarks .In b = false := by rfl) : EB X Φ A (.Compare a [.In] [b] pos) (decide (x ∈ xs)) := (eb_inF ha hb trivial (fun _ => scs_str) hm).cast (inV_str x xs)
theorem eb_ninS (ha : EX X Φ A a (Dl.ds x)) (hb : EX X Φ A b (.dat (lsD xs))) (hm : behindInMarks .NotIn b = false := by rfl) : EB X Φ A (.Compare a [.NotIn] [b] pos) (!decide (x ∈ xs)) := (eb_ninF ha hb trivial (fun _ => scs_str) hm).cast (congrArg Bool.not (inV_str x xs))
theorem eb_inO (ha : EX X Φ A a (.dat .none)) (hb : EX X Φ A b (.dat (loD os))) (hm : behindInMarks .In b = false := by rfl) : EB X Φ A (.Compare a [.In] [b] pos) (decide (none ∈ os)) := (eb_inF ha hb trivial (fun _ => scs_opt) hm).cast (inV_none os)
theorem eb_ninO (ha : EX X Φ A a (.dat .none)) (hb : EX X Φ A b (.dat (loD os))) (hm : behindInMarks .NotIn b = false := by rfl) : EB X Φ A (.Compare a [.NotIn] [b] pos) (!decide (none ∈ os)) := (eb_ninF ha hb trivial (fun _ => scs_opt) hm).cast (congrArg Bool.not (inV_none os))
/-- over a list in code -/
theorem ix_lstM {α : Type} {f : α → D} {ys : List α} {tg : Expr} (h : EX X Φ A e (.dat (.list (ys.map f)))) : IX X Φ A tg e (· = ys.map fun y => .dat (f y)) := fun μ G0 H0 G H σ R ab φ q => ix_lst1 h μ G0 H0 G H σ R ab φ fun its J G' H' w g it => q its J G' H' (by rw [w, List.map_map]; rfl) g it
theorem ix_tupM {α : Type} {f : α → D} {ys : List α} {tg : Expr} (h : EX X Φ A e (.dat (.tuple (ys.map f)))) : IX X Φ A tg e (· = ys.map fun y => .dat (f y)) := fun μ G0 H0 G H σ R ab φ q => ix_tup1 h μ G0 H0 G H σ R ab φ fun its J G' H' w g it => q its J G' H' (by rw [w, List.map_map]; rfl) g it
theorem isN_encO (o : Option Int) : isN (encO o) = o.isNone := by cases o <;> rfl

/-! dicts that are known: k in d, d[k] -/
theorem eb_dcmp {op : CmpOp} {t : TE} {kk : Bool} (pc : PC X op a b t) (hm : behindInMarks op b = false) (h : ∀ μ G0 H0 G H σ (Q : VK), Ab μ X.K G0 H0 G H A σ → Φ.p G → (∀ G' H', Gr false G H G' H' → Q (.bl kk) H') → t σ H Q) : EB X Φ A (.Compare a [op] [b] pos) kk :=
  ⟨exw_of (pe_cmp pc hm) fun μ G0 H0 G H σ Q ab φ q => h μ G0 H0 G H σ Q ab φ fun G' H' g => q _ _ G' H' rfl g (.dat (.bl kk)), fun μ G0 H0 G H σ Q ab φ q => RT.of (pt_cmp pc hm) (h μ G0 H0 G H σ _ ab φ fun G' H' g => ⟨kk, rfl, q H' (g.forget ab.i)⟩)⟩
variable {kvs : List (Key × V)} {key : Key}
theorem eb_dinD (ha : EX X Φ A a (.dat d)) (hb : EX X Φ A b (.dic kvs)) (hk : keyD d = some key) (hu : X.A.units + 1 < cLine) (hm : behindInMarks .In b = false := by rfl) : EB X Φ A (.Compare a [.In] [b] pos) (valV kvs key).isSome :=
  eb_dcmp (pc_din hu RE.pe RE.pe) hm fun μ G0 H0 G H σ Q ab φ q => ha μ G0 H0 G H σ _ ab φ fun s v G1 H1 w g sv => by
    subst w
    refine hb μ G0 H0 G1 H1 σ _ (ab.step g) (Φ.st _ _ (g.s rfl) φ) fun s y G2 H2 w g2 sy => ?_
    subst w
    cases sv with
    | dat sv => cases sy with
      | dic e1 =>
        obtain ⟨ek, sk⟩ := keyD_v hk
        have ey := sv.sc sk
        subst ey
        rw [ek]
        exact ⟨_, _, rfl, .k (g2.i _ _ e1), q G2 H2 (g.trans g2)⟩
theorem eb_dninD (ha : EX X Φ A a (.dat d)) (hb : EX X Φ A b (.dic kvs)) (hk : keyD d = some key) (hu : X.A.units + 1 < cLine) (hm : behindInMarks .NotIn b = false := by rfl) : EB X Φ A (.Compare a [.NotIn] [b] pos) (!(valV kvs key).isSome) :=
  eb_dcmp (pc_dnotin hu RE.pe RE.pe) hm fun μ G0 H0 G H σ Q ab φ q => ha μ G0 H0 G H σ _ ab φ fun s v G1 H1 w g sv => by
    subst w
    refine hb μ G0 H0 G1 H1 σ _ (ab.step g) (Φ.st _ _ (g.s rfl) φ) fun s y G2 H2 w g2 sy => ?_
    subst w
    cases sv with
    | dat sv => cases sy with
      | dic e1 =>
        obtain ⟨ek, sk⟩ := keyD_v hk
        have ey := sv.sc sk
        subst ey
        rw [ek]
        exact ⟨_, _, rfl, .k (g2.i _ _ e1), q G2 H2 (g.trans g2)⟩
/-- d[k], the value a scalar -/
theorem ex_dget {d' : D} (hb : EX X Φ A b (.dic kvs)) (ha : EX X Φ A a (.dat d)) (hk : keyD d = some key) (hv : valV kvs key = some (vOf d')) (hs : Sc d') (hu : X.A.units + 1 < cLine) (hp : NoSl a := by intro _ _; rfl) : EX X Φ A (.Subscript b a pos) (.dat d') :=
  exw_of (pe_dget hu RE.pe RE.pe hp) fun μ G0 H0 G H σ Q ab φ q => hb μ G0 H0 G H σ _ ab φ fun s y G1 H1 w g sy => by
    subst w
    refine ha μ G0 H0 G1 H1 σ _ (ab.step g) (Φ.st _ _ (g.s rfl) φ) fun s v G2 H2 w g2 sv => ?_
    subst w
    cases sv with
    | dat sv => cases sy with
      | dic e1 =>
        obtain ⟨ek, sk⟩ := keyD_v hk
        have ey := sv.sc sk
        subst ey
        rw [ek]
        refine ⟨_, _, rfl, ?_, q _ _ G2 H2 rfl (g.trans g2) (.dat (.of_sc hs))⟩
        rw [← hv]
        exact .k (g2.i _ _ (g2.s rfl _ _ e1))
theorem ex_lenD {p : Pos} (hm : X.mg "len" = none) (hb : EX X Φ A b (.dic kvs)) (hg : Gl X "len" := by rfl) (he : starEach [b] X.env = (false, eval b X.env) :: starEach [] X.env := by rfl) : EX X Φ A (.Call (.Name "len" p) [b] [] pos) (di kvs.length) :=
  exw_callB call_lenD hm PySem.boot_len (ea_cons hb ea_nil he) (hg := hg) (he := he) fun vs G H Q sm svs q => by
    obtain ⟨v, rfl, sv⟩ := svs.one
    cases sv with
    | dic e1 => exact ⟨_, _, rfl, sm _ _ e1, q _ _ G H rfl (.refl sm) (.dat (.int _))⟩
end
end Dl
namespace Dl
open PySem PySem.Spec PyProof.Rows L2

section
variable {X : Cx} {Φ : Ph} {A : List Sl} {a b c e : Expr} {es : List Expr} {pos p : Pos} {s : Ds} {d : D}
/-! ### max(ns, default=d) -/
def rMaxD (K : PySem.W.Frag) : List V → List V → Hp → VK → Prop := fun vs zs H Q => ∃ (l : Addr) (ns : List Int) (d : Int), vs = [V.ref l] ∧ zs = [V.int d] ∧ SqL K H l (ns.map V.int) ∧ (ns = [] → Q (.int d) H) ∧ ∀ y ys, ns = y :: ys → Q (.int (ys.foldl max y)) H
theorem readsInts {h : Heap} : ∀ {vs : List Value} {ns : List Int}, Vals (ns.map V.int) vs → ReadsAll h vs (ns.map PyData.int) []
  | [], [], _ => ReadsAll.nil
  | _, _ :: _, .cons r t => by
    obtain ⟨k, rfl⟩ := r
    exact ReadsAll.cons (Reads.int _ k) (readsInts t)
theorem depthInts : ∀ ns : List Int, PyData.depthAll (ns.map PyData.int) = 0
  | [] => rfl
  | n :: ns => by
    show max (PyData.depth (.int n)) (PyData.depthAll (ns.map PyData.int)) = 0
    rw [depthInts ns]
    rfl
theorem alikeInts (ns : List Int) : PySem.W.AlikeAll (ns.map PyData.int) := by
  refine ⟨fun x hx y hy => ?_, fun x hx => ?_⟩
  · obtain ⟨i, _, rfl⟩ := List.mem_map.mp hx
    obtain ⟨j, _, rfl⟩ := List.mem_map.mp hy
    rfl
  · obtain ⟨i, _, rfl⟩ := List.mem_map.mp hx
    exact fun z => by cases z
theorem cr_maxd (hc : X.calm = true) (hu : X.A.units + 65 < cLine) : CallRK X (.builtin "max") [Str.ofString "default"] (rMaxD X.K) := by
  intro pins s σ H vs zs us ws Q I r rz h
  obtain ⟨l, ns, d, rfl, rfl, hs, q0, q1⟩ := h
  obtain ⟨u, rfl, ru⟩ := Vals.one r
  cases ru
  obtain ⟨w1, rfl, rw1⟩ := Vals.one rz
  obtain ⟨t, rfl⟩ := rw1
  obtain ⟨its, rv, hl, hz⟩ := I.list hs
  refine PySem.W.max_list_default (xs := ns.map PyData.int) (as := []) (I.ok.hd hc) hl.isList (by simpa using readsInts (h := s.heap) rv) (alikeInts ns) (by rw [depthInts]; omega) (fun e h' tk hk => ?_) fun y ys i v h' tk bs e ev hr hk => ?_
  · have e0 : ns = [] := by cases ns with
      | nil => rfl
      | cons _ _ => cases e
    exact ⟨.int d, H, I.kept hk, ⟨t, rfl⟩, q0 e0⟩
  · cases ns with
    | nil => cases e
    | cons n ns =>
      cases e
      rw [PySem.W.maxD_ints] at hr
      generalize hm : ns.foldl max n = m at hr
      cases hr with
      | int _ t' => exact ⟨.int m, H, I.kept hk, ⟨t', rfl⟩, by rw [← hm]; exact q1 n ns rfl⟩
theorem ex_maxd {ns : List Int} {d m : Int} {p1 : Pos} {kw : Str} (hm : X.mg "max" = none) (hu : X.A.units + 65 < cLine) (ha : EX X Φ A a (.dat (liD ns))) (hb : EX X Φ A b (di d)) (h0 : ns = [] → m = d) (h1 : ∀ y ys, ns = y :: ys → m = ys.foldl max y) (hc : X.calm = true := by rfl) (hg : Gl X "max" := by rfl)
    (he : backTo pos (starEach [a] X.env) = (false, eval a X.env) :: backTo pos (starEach [] X.env) := by rfl) (hst : starEach [a] X.env = (false, eval a X.env) :: starEach [] X.env := by rfl) (hpl : (backTo pos (starEach [a] X.env)).any (·.1) = false := by rfl)
    (hall : (backToKw pos (keywordEach [⟨kw, b, p1⟩] X.env)).all (·.1.isSome) = true := by rfl) (hnone : (backToKw pos (keywordEach [⟨kw, b, p1⟩] X.env)).any (·.1.isNone) = false := by rfl)
    (hks : (backToKw pos (keywordEach [⟨kw, b, p1⟩] X.env)).filterMap (·.1) = [Str.ofString "default"] := by rfl) : EX X Φ A (.Call (.Name "max" p) [a] [⟨kw, b, p1⟩] pos) (di m) :=
  exw_of (pe_callBK (cr_maxd hc hu) hg hm (by decide +kernel) (pa_cons RE.pe pa_nil hst) (pk_cons RE.pe pk_nil) (he := he) (hpl := hpl) (hall := hall) (hnone := hnone) (hks := hks)) fun μ G0 H0 G H σ Q ab φ q => ha μ G0 H0 G H σ _ ab φ fun s v G1 H1 w g sv => by
    subst w
    refine hb μ G0 H0 G1 H1 σ _ (ab.step g) (Φ.st _ _ (g.s rfl) φ) fun s y G2 H2 w g2 sy => ?_
    subst w
    cases sv with
    | dat sv => cases sv with
      | lst e1 e2 =>
        have e3 := e2.ints
        subst e3
        cases sy with
        | dat sy =>
          cases sy
          refine ⟨_, ns, d, rfl, rfl, .of (g2.i _ _ (g2.s rfl _ _ e1)), fun e0 => ?_, fun y ys e0 => ?_⟩
          · rw [← h0 e0]
            exact q _ _ G2 H2 rfl (g.trans g2) (.dat (.int _))
          · rw [← h1 y ys e0]
            exact q _ _ G2 H2 rfl (g.trans g2) (.dat (.int _))
/-! ### a < b < c -/
variable {i j k : Int}
theorem eb_chain {op op' : CmpOp} {f g : Int → Int → Bool} (ho : OpR X (compareOp op) (rI0 fun i j => .bl (f i j))) (ho' : OpR X (compareOp op') (rI0 fun i j => .bl (g i j))) (ha : EX X Φ A a (di i)) (hb : EX X Φ A b (di j)) (hc : EX X Φ A c (di k))
    (hm : lastMarks [op, op'] [b, c] = false := by with_unfolding_all rfl) : EB X Φ A (.Compare a [op, op'] [b, c] pos) (f i j && g j k) := by
  have main : ∀ μ G0 H0 G H σ (Q : VK), Ab μ X.K G0 H0 G H A σ → Φ.p G → (∀ G' H', Gr false G H G' H' → Q (.bl (f i j && g j k)) H') → tChain (rI0 fun i j => .bl (f i j)) (rI0 fun i j => .bl (g i j)) (RE X a) (RE X b) (RE X c) σ H Q := fun μ G0 H0 G H σ Q ab φ q =>
    ha μ G0 H0 G H σ _ ab φ fun s x G1 H1 w g1 sv1 => by
      subst w
      refine hb μ G0 H0 G1 H1 σ _ (ab.step g1) (Φ.st _ _ (g1.s rfl) φ) fun s y G2 H2 w g2 sv2 => ?_
      subst w
      cases sv1 with
      | dat sv1 => cases sv1; cases sv2 with
        | dat sv2 =>
          cases sv2
          refine ⟨i, j, rfl, rfl, f i j, rfl, ?_⟩
          cases hf : f i j with
          | false =>
            rw [if_neg Bool.false_ne_true]
            have := q G2 H2 (g1.trans g2)
            rw [hf] at this
            exact this
          | true =>
            rw [if_pos rfl]
            refine hc μ G0 H0 G2 H2 σ _ (ab.step (g1.trans g2)) (Φ.st _ _ ((g1.trans g2).s rfl) φ) fun s z G3 H3 w g3 sv3 => ?_
            subst w
            cases sv3 with
            | dat sv3 =>
              cases sv3
              have := q G3 H3 ((g1.trans g2).trans g3)
              rw [hf] at this
              exact ⟨j, k, rfl, rfl, this⟩
  refine ⟨exw_of (pe_chain ho ho' RE.pe RE.pe RE.pe hm) fun μ G0 H0 G H σ Q ab φ q => main μ G0 H0 G H σ Q ab φ fun G' H' g => q _ _ G' H' rfl g (.dat (.bl _)), fun μ G0 H0 G H σ Q ab φ q => ?_⟩
  exact RT.of (pt_chain ho ho' RE.pe RE.pe RE.pe hm) (main μ G0 H0 G H σ _ ab φ fun G' H' g => ⟨_, rfl, q H' (g.forget ab.i)⟩)
theorem eb_lele (ha : EX X Φ A a (di i)) (hb : EX X Φ A b (di j)) (hc : EX X Φ A c (di k)) (hm : lastMarks [.LtE, .LtE] [b, c] = false := by with_unfolding_all rfl) : EB X Φ A (.Compare a [.LtE, .LtE] [b, c] pos) (decide (i ≤ j) && decide (j ≤ k)) := eb_chain op_le op_le ha hb hc hm
/-! ### in texts, in tuples of texts -/
variable {x y z : Str} {n : Nat} {xs ys : List Str}
theorem eb_inT (ha : EX X Φ A a (ds ⟨#[n]⟩)) (hb : EX X Φ A b (ds z)) (hm : behindInMarks .In b = false := by rfl) : EB X Φ A (.Compare a [.In] [b] pos) (decide (n ∈ z.cps.toList)) := eb_cmp op_in_sign ha hb hm fun _ _ G H Q sm s1 s2 q => by
  cases s1 with
  | dat s1 => cases s1; cases s2 with
    | dat s2 => cases s2; exact ⟨n, z, rfl, rfl, q⟩
theorem eb_ninT (ha : EX X Φ A a (ds ⟨#[n]⟩)) (hb : EX X Φ A b (ds z)) (hm : behindInMarks .NotIn b = false := by rfl) : EB X Φ A (.Compare a [.NotIn] [b] pos) (!decide (n ∈ z.cps.toList)) := eb_cmp op_notIn_sign ha hb hm fun _ _ G H Q sm s1 s2 q => by
  cases s1 with
  | dat s1 => cases s1; cases s2 with
    | dat s2 => cases s2; exact ⟨n, z, rfl, rfl, q⟩
theorem eb_inU (ha : EX X Φ A a (ds x)) (hb : EX X Φ A b (.dat (.tuple (xs.map .str)))) (hm : behindInMarks .In b = false := by rfl) : EB X Φ A (.Compare a [.In] [b] pos) (decide (x ∈ xs)) := (eb_cmp op_in_seq ha hb hm fun _ _ G H Q sm s1 s2 q => by
  cases s1 with
  | dat s1 => cases s1; cases s2 with
    | dat s2 => cases s2 with
      | tup e1 e2 =>
        have ev := e2.vals fun _ => scs_str
        subst ev
        exact ⟨_, _, rfl, .inr (.of (sm _ _ e1)), rfl, flat_all fun _ => scs_str, q⟩ : EB X Φ A (.Compare a [.In] [b] pos) (inV (.str x) ((xs.map PyData.str).map vOf))).cast (inV_str x xs)
/-- x in a tuple of the module's own -/
theorem eb_inK {nm : Str} {t : Addr} {np : Pos} (hm0 : X.mg nm = some (.ref t)) (ht : ∀ H, SqT X.K H t (xs.map V.str)) (ha : EX X Φ A a (ds x)) (hg : Gl X nm := by rfl) (hdb : (nm == ("__debug__" : Str)) = false := by decide) : EB X Φ A (.Compare a [.In] [.Name nm np] pos) (decide (x ∈ xs)) :=
  (eb_cmp (s2 := .raw (.ref t)) op_in_seq ha (exw_of (pe_glob hg hm0 (v := .ref t) rfl hdb) fun μ G0 H0 G H σ Q ab φ q => q _ _ G H rfl (.refl ab.i) (.raw _)) rfl fun _ _ G H Q sm s1 s2 q => by
    cases s1 with
    | dat s1 => cases s1; cases s2; exact ⟨t, _, rfl, .inr (ht H), rfl, by rw [List.all_map]; simp [flatV, Function.comp_def], q⟩ : EB X Φ A (.Compare a [.In] [.Name nm np] pos) (inV (.str x) (xs.map V.str))).cast (by
      have := inV_str x xs
      rw [List.map_map] at this
      exact this)
/-! ### methods of texts and lists -/
theorem exw_bm {T id : String} {r : V → List V → Hp → VK → Prop} {W : Ds → Prop} {name : Str} {apos cpos : Pos} {ss : List Ds} (pa : PlainAttrs T) (slot : Slot T name id) (hty : typeOf (.builtin id) = pure (.type "method_descriptor")) (hm : MtR X id r) (ho : EX X Φ A a s) (ha : EA X Φ A (e :: es) ss)
    (hT : ∀ x G H, Same G H → Sv X.K G x s → tyV X.K T x H) (hr : ∀ x vs G H Q, Same G H → Sv X.K G x s → SvAll X.K G vs ss → PostV X.K G H W Q → r x vs H Q) (hbase : attributeBase a name X.env (eval a X.env) = eval a X.env := by rfl)
    (hfew : ((backTo cpos (starEach (e :: es) X.env)).all (fun x => !x.1) && (backToKw cpos (keywordEach [] X.env)).all (fun x => x.1.isSome) && decide ((e :: es).length + ([] : List Keyword).length + (if ([] : List Keyword).isEmpty then 0 else 1) < 30)) = true := by rfl)
    (hline : (apos.endLine == cpos.line) = true := by rfl) (hst : starEach (e :: es) X.env = (false, eval e X.env) :: starEach es X.env := by rfl) (hpl : (backTo cpos (starEach es X.env)).any (·.1) = false := by rfl) : EXW X Φ A (.Call (.Attribute a name apos) (e :: es) [] cpos) W :=
  exw_of (pe_bm pa slot hty hm RE.pe RA.pa hbase hfew hline hst hpl) fun μ G0 H0 G H σ Q ab φ q => ho μ G0 H0 G H σ _ ab φ fun s' x G1 H1 w g1 sx => by
    subst w
    refine ⟨hT x G1 H1 g1.i sx, ha μ G0 H0 G1 H1 σ _ (ab.step g1) (Φ.st _ _ (g1.s rfl) φ) fun vs G2 H2 g2 svs => ?_⟩
    exact hr x vs G2 H2 Q g2.i (sx.mono (g2.s rfl)) svs fun s v G3 H3 w g3 => q s v G3 H3 w ((g1.trans g2).trans g3)
theorem ex_join {apos cpos : Pos} (ho : EX X Φ A a (ds x)) (ha : EX X Φ A e (.dat (lsD ys))) (hz : (ys.map (·.length)).sum + ys.length * x.length ≤ 16777216) (hbase : attributeBase a "join" X.env (eval a X.env) = eval a X.env := by rfl)
    (hfew : ((backTo cpos (starEach [e] X.env)).all (fun x => !x.1) && (backToKw cpos (keywordEach [] X.env)).all (fun x => x.1.isSome) && decide (([e] : List Expr).length + ([] : List Keyword).length + (if ([] : List Keyword).isEmpty then 0 else 1) < 30)) = true := by rfl)
    (hline : (apos.endLine == cpos.line) = true := by rfl) (hst : starEach [e] X.env = (false, eval e X.env) :: starEach [] X.env := by rfl) : EX X Φ A (.Call (.Attribute a "join" apos) [e] [] cpos) (ds (Txt.join x ys)) :=
  exw_bm PySem.F.plainAttrs_str PySem.F.slot_str_join PySem.F.type_str_join mt_join ho (ea_cons ha ea_nil hst) (fun v G H sm sv => by
    cases sv with
    | dat sv => cases sv; rfl) (fun v vs G H Q sm sv svs q => by
    obtain ⟨u, rfl, su⟩ := svs.one
    cases sv with
    | dat sv => cases sv; cases su with
      | dat su => cases su with
        | lst e1 e2 =>
          have e3 := e2.strs
          subst e3
          exact ⟨x, _, ys, rfl, rfl, .inl (.of (sm _ _ e1)), hz, q _ _ G H rfl (.refl sm) (.dat (.str _))⟩) hbase hfew hline hst
theorem ex_split {apos cpos : Pos} (ho : EX X Φ A a (ds x)) (ha : EX X Φ A e (ds y)) (h1 : (y.length == 0) = false) (hz : x.length + 2 ≤ sizeLine) (hbase : attributeBase a "split" X.env (eval a X.env) = eval a X.env := by rfl)
    (hfew : ((backTo cpos (starEach [e] X.env)).all (fun x => !x.1) && (backToKw cpos (keywordEach [] X.env)).all (fun x => x.1.isSome) && decide (([e] : List Expr).length + ([] : List Keyword).length + (if ([] : List Keyword).isEmpty then 0 else 1) < 30)) = true := by rfl)
    (hline : (apos.endLine == cpos.line) = true := by rfl) (hst : starEach [e] X.env = (false, eval e X.env) :: starEach [] X.env := by rfl) : EX X Φ A (.Call (.Attribute a "split" apos) [e] [] cpos) (.dat (lsD (Txt.split x y))) :=
  exw_bm PySem.F.plainAttrs_str PySem.F.slot_str_split PySem.F.type_str_split mt_split ho (ea_cons ha ea_nil hst) (fun v G H sm sv => by
    cases sv with
    | dat sv => cases sv; rfl) (fun v vs G H Q sm sv svs q => by
    obtain ⟨u, rfl, su⟩ := svs.one
    cases sv with
    | dat sv => cases sv; cases su with
      | dat su =>
        cases su
        exact ⟨x, y, rfl, rfl, h1, hz, fun l hl => q _ _ (upd G l (.lst _)) _ rfl (.new sm hl) (.dat (.lst upd_same (DqAll.of_strs _)))⟩) hbase hfew hline hst
/-- xs.index(x), texts -/
theorem eqv_str (a b : Str) : PyData.eqv (.str a) (.str b) = decide (a = b) := by
  unfold PyData.eqv
  by_cases h : a = b
  · subst h
    simp
  · rw [decide_eq_false h]
    exact beq_eq_false_iff_ne.mpr h
theorem layS {xs : List Str} (h : ∀ x ∈ xs, PyData.strOk x = true) : SeqAt.shaped (lsD xs) = true := by
  have h1 : ∀ xs : List Str, (∀ x ∈ xs, PyData.strOk x = true) → PyData.canLayAll0 (xs.map PyData.str) = true := fun xs h => by
    induction xs with
    | nil => rfl
    | cons y ys ih =>
      show (PyData.canLay0 (.str y) && PyData.canLayAll0 (ys.map PyData.str)) = true
      rw [ih fun x hx => h x (List.mem_cons_of_mem _ hx), Bool.and_true]
      exact h y List.mem_cons_self
  have h2 : ∀ xs : List Str, PyData.depthAll (xs.map PyData.str) = 0 := fun xs => by
    induction xs with
    | nil => rfl
    | cons y ys ih =>
      show max (PyData.depth (.str y)) (PyData.depthAll (ys.map PyData.str)) = 0
      rw [ih]
      rfl
  show (PyData.canLayAll0 (xs.map PyData.str) && decide (PyData.depthAll (xs.map PyData.str) + 1 ≤ 64)) = true
  rw [h1 xs h, h2 xs]
  rfl
theorem ex_index {apos cpos : Pos} (hu : X.A.units + 65 < cLine) (ho : EX X Φ A a (.dat (lsD xs))) (ha : EX X Φ A e (ds y)) (hok : ∀ x ∈ xs, PyData.strOk x = true) (hn : xs[n]? = some y) (hno : ∀ m, m < n → xs[m]? ≠ some y) (hbase : attributeBase a "index" X.env (eval a X.env) = eval a X.env := by rfl)
    (hfew : ((backTo cpos (starEach [e] X.env)).all (fun x => !x.1) && (backToKw cpos (keywordEach [] X.env)).all (fun x => x.1.isSome) && decide (([e] : List Expr).length + ([] : List Keyword).length + (if ([] : List Keyword).isEmpty then 0 else 1) < 30)) = true := by rfl)
    (hline : (apos.endLine == cpos.line) = true := by rfl) (hst : starEach [e] X.env = (false, eval e X.env) :: starEach [] X.env := by rfl) : EX X Φ A (.Call (.Attribute a "index" apos) [e] [] cpos) (di (n : Nat)) :=
  exw_bm PySem.F.plainAttrs_list PySem.F.slot_list_index PySem.F.type_list_index (mt_indexD hu) ho (ea_cons ha ea_nil hst) (fun v G H sm sv => by
    cases sv with
    | dat sv => cases sv with
      | lst e1 e2 => exact .inl ⟨rfl, _, .of (sm _ _ e1)⟩) (fun v vs G H Q sm sv svs q => by
    obtain ⟨u, rfl, su⟩ := svs.one
    have dl := sv.dp sm
    have du := su.dp sm
    cases sv with
    | dat sv => cases sv with
      | lst e1 e2 =>
        refine ⟨_, u, .str y, xs.map .str, n, .str y, rfl, rfl, dl, du, layS hok, ?_, by rw [List.getElem?_map, hn]; rfl, by rw [eqv_str]; exact decide_eq_true rfl, fun m z hm hz => ?_, q _ _ G H rfl (.refl sm) (.dat (.int _))⟩
        · show (PyData.strOk y && decide (0 ≤ 64)) = true
          rw [hok y (List.mem_of_getElem? hn)]
          rfl
        · rw [List.getElem?_map] at hz
          cases hx : xs[m]? with
          | none => rw [hx] at hz; cases hz
          | some x' =>
            rw [hx] at hz
            cases hz
            rw [eqv_str]
            exact decide_eq_false fun e => hno m hm (by rw [hx, e])) hbase hfew hline hst
end
section
variable {X : Cx} {Φ : Ph} {A : List Sl} {a b e : Expr} {pos : Pos} {x : Str} {d : D} {ds : List D} {k : Int}
/-- an item of a list that the slot owns: the item itself is known -/
theorem ex_ixO {np : Pos} (i : Nat) (hA : A[i]? = some (.lst ds)) (hb : EX X Φ A b (di k)) (h : atI ds k = some d) (hp : PlainIx b := by intro _ _; rfl) (hN : X.N[i]? = some x := by rfl)
    (hv : Vis X.env.scope x := by first | exact Or.inl rfl | exact Or.inr (Or.inl rfl) | exact Or.inr (Or.inr rfl)) (hd : (x == ("__debug__" : Str)) = false := by decide) (hcd : (x == ("__classdict__" : Str)) = false := by decide) : EX X Φ A (.Subscript (.Name x np) b pos) (.dat d) :=
  exw_of (pe_ix ix_list (pe_var hN hv hd hcd) RE.pe hp) fun μ G0 H0 G H σ Q ab φ q => by
    obtain ⟨l, xs, e1, e2, dq, gl, up⟩ := ab.getL hA
    refine ⟨_, e1, hb μ G0 H0 G H σ _ ab φ fun s y G1 H1 w g sy => ?_⟩
    subst w
    cases sy with
    | dat sy =>
      cases sy
      obtain ⟨l', xs', e1', e2', dq', gl', up'⟩ := (ab.step g).getL hA
      rw [e1] at e1'
      cases e1'
      obtain ⟨v, e3, q3⟩ := dq'.at h
      exact ⟨l, xs', k, v, rfl, rfl, .of e2', e3, q _ _ G1 H1 rfl g (.dat q3)⟩
theorem EXN.ex (h : EXN X Φ A e ds) : EX X Φ A e (.dat (.list ds)) := fun μ G0 H0 G H σ Q ab φ q => h μ G0 H0 G H σ Q ab φ fun l xs G' H' g hl gl e1 dq => by
  refine q _ _ (upd G' l (.lst xs)) H' rfl (.mk' ((g.s rfl).trans (same_upd gl)) (g.h ab.i) (fun b u e => ?_) fun b hb e => ?_) (.dat (.lst upd_same (dq.mono (same_upd gl))))
  · by_cases z : b = l
    · rw [z, upd_same] at e
      rw [z, e1]
      exact e
    · rw [upd_ne z] at e
      exact g.i b u e
  · rw [upd_ne (fun z => hb (by rw [z]; exact hl))]
    exact g.n b hb e
/-- list(e) as a value -/
theorem ex_list {xs : List D} {p : Pos} (hm : X.mg "list" = none) (ha : EX X Φ A a (.dat (.list xs))) (hg : Gl X "list" := by rfl) (he : starEach [a] X.env = (false, eval a X.env) :: starEach [] X.env := by rfl) : EX X Φ A (.Call (.Name "list" p) [a] [] pos) (.dat (.list xs)) := (exn_list hm ha hg he).ex
/-- numbers from 0 on, as numbers -/
theorem EX.ofN {ks : List Nat} (h : EX X Φ A e (.dat (lnD ks))) : EX X Φ A e (.dat (liD (ks.map fun k : Nat => (k : Int)))) := h.cast (by unfold lnD liD; rw [List.map_map]; rfl)
end
section
variable {μ : Bool} {X : Cx} {Φ : Ph} {A : List Sl} {P : PEnd} {e b : Expr} {pos : Pos} {x : Str}
/-- xs.insert(i, e), xs a list that the slot owns -/
theorem sx_ins {ds : List D} {d : D} {j : Int} {apos cpos np : Pos} (i : Nat) (hA : A[i]? = some (.lst ds)) (hb : EX X Φ A b (di j)) (he : EX X Φ A e (.dat d)) (h0 : 0 ≤ j) (h1 : j < 2 ^ 62) (hz : ds.length < 100000) (k : P.nx Φ (A.set i (.lst (ds.take j.toNat ++ [d] ++ ds.drop j.toNat)))) (hN : X.N[i]? = some x := by rfl)
    (hv : Vis X.env.scope x := by first | exact Or.inl rfl | exact Or.inr (Or.inl rfl) | exact Or.inr (Or.inr rfl)) (hd : (x == ("__debug__" : Str)) = false := by decide) (hcd : (x == ("__classdict__" : Str)) = false := by decide)
    (hbase : attributeBase (.Name x np) "insert" X.env (eval (.Name x np) X.env) = eval (.Name x np) X.env := by rfl) (hline : (apos.endLine == cpos.line) = true := by rfl)
    (hfew : ((backTo cpos (starEach [b, e] X.env)).all (fun x => !x.1) && (backToKw cpos (keywordEach [] X.env)).all (fun x => x.1.isSome) && decide (([b, e] : List Expr).length + ([] : List Keyword).length + (if ([] : List Keyword).isEmpty then 0 else 1) < 30)) = true := by rfl)
    (hst : starEach [b, e] X.env = (false, eval b X.env) :: starEach [e] X.env := by rfl) (hst2 : starEach [e] X.env = (false, eval e X.env) :: starEach [] X.env := by rfl) (hpl : (backTo cpos (starEach [e] X.env)).any (·.1) = false := by rfl)
    (hs : swapsWith (.Call (.Attribute (.Name x np) "insert" apos) [b, e] [] cpos) none pos.line X.env = pure false := by rfl) : SX μ X Φ A (.Expr (.Call (.Attribute (.Name x np) "insert" apos) [b, e] [] cpos) pos) P :=
  sx_of (ps_expr (pe_bm PySem.F.plainAttrs_list PySem.F.slot_list_insert PySem.F.type_list_insert mt_insert (pe_var hN hv hd hcd) (pa_cons RE.pe (pa_cons RE.pe pa_nil hst2) hst) hbase hfew hline hst hpl) hs) fun G0 H0 G H σ De ab φ m => by
    obtain ⟨l, xs, e1, e2, dq, gl, up⟩ := ab.getL hA
    refine ⟨_, e1, .inl ⟨rfl, xs, .of e2⟩, hb μ G0 H0 G H σ _ ab φ fun s v G1 H1 w g sv => ?_⟩
    subst w
    refine he μ G0 H0 G1 H1 σ _ (ab.step g) (Φ.st _ _ (g.s rfl) φ) fun s y G2 H2 w g2 sy => ?_
    subst w
    cases sv with
    | dat sv => cases sv; cases sy with
      | dat sy =>
        have gg := g.trans g2
        obtain ⟨l', xs', e1', e2', dq', gl', up'⟩ := (ab.step gg).getL hA
        rw [e1] at e1'
        cases e1'
        refine ⟨l, xs', j, y, rfl, rfl, e2', Nat.lt_of_lt_of_le (by rw [dq'.length]; exact hz) (by decide), h0, by omega, ?_⟩
        exact m.nx Φ _ _ G2 _ k (Φ.st _ _ (gg.s rfl) φ) gg.d (up' _ _ (((dq'.take _).append (.cons sy .nil)).append (dq'.drop _)))
end
section
variable {X : Cx} {Φ : Ph} {A : List Sl} {P : PEnd} {e : Expr} {pos : Pos}
/-- return (e, d, xs): a scalar, a dict and a list of scalars that the slots own -/
theorem sx_ret3 {x2 x3 : Str} {p2 p3 pos' : Pos} {kk} {d : D} {kvs : List (Key × V)} {ds : List D} (i2 i3 : Nat) (h1 : EX X Φ A e (.dat d)) (hs : Sc d) (hA2 : A[i2]? = some (.dct kvs)) (hA3 : A[i3]? = some (.lst ds)) (hds : ∀ d ∈ ds, Sc d) (k : P.rf (.tup [.dat d, .dic kvs, .dat (.list ds)]))
    (hN2 : X.N[i2]? = some x2 := by rfl) (hN3 : X.N[i3]? = some x3 := by rfl) (hv2 : Vis X.env.scope x2 := by first | exact Or.inl rfl | exact Or.inr (Or.inl rfl)) (hv3 : Vis X.env.scope x3 := by first | exact Or.inl rfl | exact Or.inr (Or.inl rfl))
    (hd2 : (x2 == ("__debug__" : Str)) = false := by decide) (hcd2 : (x2 == ("__classdict__" : Str)) = false := by decide) (hd3 : (x3 == ("__debug__" : Str)) = false := by decide) (hcd3 : (x3 == ("__classdict__" : Str)) = false := by decide)
    (hst : starEach [e, .Name x2 p2, .Name x3 p3] X.env = (false, eval e X.env) :: starEach [.Name x2 p2, .Name x3 p3] X.env := by rfl) (hst2 : starEach [.Name x2 p2, .Name x3 p3] X.env = (false, eval (.Name x2 p2) X.env) :: starEach [.Name x3 p3] X.env := by rfl)
    (hst3 : starEach [.Name x3 p3] X.env = (false, eval (.Name x3 p3) X.env) :: starEach [] X.env := by rfl) : SX false X Φ A (.Return (some (.Tuple [e, .Name x2 p2, .Name x3 p3] kk pos)) pos') P :=
  sx_of (ps_ret (pe_tup (pa_cons RE.pe (pa_cons (pe_var hN2 hv2 hd2 hcd2) (pa_cons (pe_var hN3 hv3 hd3 hcd3) pa_nil hst3) hst2) hst))) fun G0 H0 G H σ De ab φ m => h1 false G0 H0 G H σ _ ab φ fun s v G1 H1 w g sv => by
    subst w
    have ab1 := ab.step g
    obtain ⟨l2, e2, a2, _, _⟩ := ab1.getD hA2
    obtain ⟨l3, xs, e3, a3, dq, _, _⟩ := ab1.getL hA3
    obtain ⟨ad, o1, _⟩ := ab1.ex
    obtain ⟨f2, _, n2, _⟩ := o1 i2 _ hA2
    obtain ⟨f3, _, n3, _⟩ := o1 i3 _ hA3
    rw [e2] at f2
    have f2 : l2 = ad i2 := V.ref.inj (Option.some.inj (Option.some.inj f2))
    rw [e3] at f3
    have f3 : l3 = ad i3 := V.ref.inj (Option.some.inj (Option.some.inj f3))
    rw [← f2] at n2
    rw [← f3] at n3
    refine ⟨_, e2, _, e3, by show 3 ≤ sizeLine; decide, fun p hp => ?_⟩
    cases sv with
    | dat sv =>
      have ev := sv.sc hs
      subst ev
      have evs := dq.vals hds
      subst evs
      have hh : Same H0 H1 := ab1.gr.k rfl
      have n23 : l2 ≠ l3 := ne_of a2 a3 (by intro z; cases z)
      have np2 : l2 ≠ p := ne_of_none a2 hp
      have np3 : l3 ≠ p := ne_of_none a3 hp
      have hp0' : H0 p = none := Same.none hh hp
      let Gf : Hp := upd (upd (upd hp0 l2 (.dK kvs)) l3 (.lst (ds.map vOf))) p (.tup [vOf d, .ref l2, .ref l3])
      have g1 : Gf p = some (.tup [vOf d, .ref l2, .ref l3]) := upd_same
      have g2 : Gf l2 = some (.dK kvs) := by
        show upd (upd (upd hp0 l2 _) l3 _) p _ l2 = _
        rw [upd_ne np2, upd_ne n23, upd_same]
      have g3 : Gf l3 = some (.lst (ds.map vOf)) := by
        show upd (upd (upd hp0 l2 _) l3 _) p _ l3 = _
        rw [upd_ne np3, upd_same]
      have gn : ∀ a, a ≠ p → a ≠ l2 → a ≠ l3 → Gf a = none := fun a b1 b2 b3 => by
        show upd (upd (upd hp0 l2 _) l3 _) p _ a = _
        rw [upd_ne b1, upd_ne b3, upd_ne b2]
        rfl
      have dall : ∀ ds : List D, (∀ d ∈ ds, Sc d) → DqAll Gf (ds.map vOf) ds := fun ds => by
        induction ds with
        | nil => exact fun _ => .nil
        | cons d ds ih => exact fun h => .cons (.of_sc (h d List.mem_cons_self)) (ih fun e he => h e (List.mem_cons_of_mem _ he))
      refine m.rf _ _ Gf _ k (.mk' (fun a o e => by cases e) (fun a o e => ?_) (fun a o e => ?_) fun a ha _ => gn a ?_ ?_ ?_) (.tup g1 (.cons (.dat (.of_sc hs)) (.cons (.dic g2) (.cons (.dat (.lst g3 (dall ds hds))) .nil))))
      · rw [upd_ne (ne_of_none e hp0')]
        exact hh a o e
      · by_cases b1 : a = p
        · rw [b1, g1] at e
          rw [b1, ← e]
          exact upd_same
        · rw [upd_ne b1]
          by_cases b2 : a = l2
          · rw [b2, g2] at e
            rw [b2, ← e]
            exact a2
          · by_cases b3 : a = l3
            · rw [b3, g3] at e
              rw [b3, ← e]
              exact a3
            · rw [gn a b1 b2 b3] at e
              cases e
      · exact fun z => ha (by rw [z]; exact hp0')
      · exact fun z => ha (by rw [z]; exact n2)
      · exact fun z => ha (by rw [z]; exact n3)
end
end Dl
namespace Dl
open PySem PySem.Spec PyProof.Rows L2

/-! ### len(set(ns)), whole numbers, some perhaps twice -/
def uniq {α : Type} [BEq α] (xs : List α) : List α := xs.foldl (fun acc x => if acc.any (· == x) then acc else acc ++ [x]) []
theorem uniq_firstMet (ns : List Int) : PyProof.Rows.firstMet (fun i => ns.getD i 0) ns.length = uniq ns := by
  unfold PyProof.Rows.firstMet uniq
  have e : (List.range ns.length).map (fun i => ns.getD i 0) = ns := by
    apply List.ext_getElem
    · simp
    · intro i h1 h2
      simp [List.getD_eq_getElem?_getD, List.getElem?_eq_getElem h2]
  rw [e]
  congr 1
section
variable {X : Cx} {Φ : Ph} {A : List Sl} {a : Expr} {pos p p2 q : Pos}
theorem pe_lenI {ta : TE} (hm : X.mg "len" = none) (hm2 : X.mg "set" = none) (ha : PE X a ta) (hg : Gl X "len") (hg2 : Gl X "set") (hc : X.calm = true) (na : starEach [a] X.env = (false, eval a X.env) :: starEach [] X.env) :
    PE X (.Call (.Name "len" p) [.Call (.Name "set" p2) [a] [] q] [] pos) (fun σ H Q => ta σ H fun x H1 => ∃ (l : Addr) (ns : List Int), x = .ref l ∧ SqL X.K H1 l (ns.map V.int) ∧ ns.length ≤ 4000 ∧ Q (.int ((uniq ns).length : Nat)) H1) := by
  refine ⟨fun pins s σ H Q I h => Call_ (ld_blt I hg hm boot_len ?_)⟩
  refine PyProof.Rows.callWith_builtin1 (PyProof.Rows.args_cons (Call_ (ld_blt I hg2 hm2 boot_set ?_)) rfl) rfl rfl
  refine PyProof.Rows.callWith_type1 (PyProof.Rows.args_cons (thn (ha.run pins s σ H _ I h) fun v s1 hv => PyProof.Rows.args_nil ?_) na) na rfl
  obtain ⟨x, H1, I1, r1, l, ns, rfl, hq, hz, q1⟩ := hv
  cases r1
  obtain ⟨its, r, pl, _⟩ := I1.list hq
  have el : its.toArray.size = ns.length := by
    have e1 := r.length
    rw [List.length_map] at e1
    rw [List.size_toArray, ← e1]
  have bnd : its.toArray.size + 1 < scanBound := by
    rw [el]
    unfold scanBound
    omega
  refine call_set_list (I1.ok.hd hc) pl.isList (by simpa using r.ints) bnd fun h' tk hS hk => PyProof.Rows.args_nil ?_
  rw [el, uniq_firstMet] at hS
  obtain ⟨o, es, ep, t, ho, hex, hd, _, _, _, hf, hn⟩ := hS
  have le : (uniq ns).length ≤ ns.length := by
    rw [← uniq_firstMet]
    exact PyProof.Rows.firstMet_length_le _ _
  have I2 : Inv X pins σ H1 { s1 with heap := h', toks := tk } := I1.kept fun b o e => hk b o (Heap.lt_size e) e
  refine call_len_set ho hex hd hf (by rw [hn]; omega) ?_
  exact ⟨.int _, H1, I2.tok _, ⟨_, by rw [hn]⟩, q1⟩
theorem ex_lenset {ns : List Int} (hm : X.mg "len" = none) (hm2 : X.mg "set" = none) (ha : EX X Φ A a (.dat (.list (ns.map .int)))) (hz : ns.length ≤ 4000) (hg : Gl X "len" := by rfl) (hg2 : Gl X "set" := by rfl) (hc : X.calm = true := by rfl)
    (na : starEach [a] X.env = (false, eval a X.env) :: starEach [] X.env := by rfl) : EX X Φ A (.Call (.Name "len" p) [.Call (.Name "set" p2) [a] [] q] [] pos) (di ((uniq ns).length : Nat)) :=
  exw_of (pe_lenI hm hm2 RE.pe hg hg2 hc na) fun μ G0 H0 G H σ Q ab φ k => ha μ G0 H0 G H σ _ ab φ fun s v G1 H1 w g sv => by
    subst w
    cases sv with
    | dat sv => cases sv with
      | lst e1 e2 =>
        have e3 := e2.ints
        subst e3
        exact ⟨_, ns, rfl, .of (g.i _ _ e1), hz, k _ _ G1 H1 rfl g (.dat (.int _))⟩
end
end Dl
namespace Dl
open PySem PySem.Spec PyProof.Rows L2
section
variable {P : Program} {w : World} {K : PySem.W.Frag} {mg : Str → Option Value} {base : Heap}

/-! free -/
def freeF (order : List (Nat × Nat)) (placed : List Nat) (step : Nat) : Bool := order.all fun p => !(decide (p.2 = step) && !decide (p.1 ∈ placed))
abbrev s_free : Stmt := topS 17
abbrev N_free : List Str := ["order", "placed", "step", "pair"]
theorem sc_free : FnScope N_free ["order", "placed", "step"] (defScope s_free) := ⟨rfl, rfl, rfl, by decide +kernel, rfl, by decide +kernel, by decide +kernel⟩
theorem hb_free (kV doc pm : Value) (an : Option Addr) (cdv ct : Value) (us : List Value) (hl : us.length = 3) : bindArgs (PySem.W.fnOf "free" "free" (defArgs s_free) (defBody s_free) (defScope s_free) .none kV doc pm an cdv ct) ⟨us, []⟩ = pure ((["order", "placed", "step"] : List Str).zip us) := match us, hl with
  | [_, _, _], _ => rfl
def R_free : PSpec := fun _ ss W => ∃ order placed step, ss = [.dat (lpD order), .dat (lnD placed), di (step : Nat)] ∧ W = (· = db (freeF order placed step))
theorem ok_free (B : Bt mg) (Dd : DefAt K mg "free" s_free) : Fn P w K mg base "free" ["order", "placed", "step"] R_free 1 := by
  refine fn_mk Dd sc_free (fun G ss W ⟨_, _, _, e, _⟩ => by rw [e]; rfl) hb_free fun f cdv A outer s H hr G ss W h => ?_
  obtain ⟨order, placed, step, rfl, rfl⟩ := h
  have nd := (sc_free).nd
  refine sxs_cons (sx_forT (ix_lstM (ex_var 0 rfl)) (fun i Ψ B => Ψ = phS G ∧ ∃ u, B = [.d (lpD order), .d (lnD placed), .k (di step), u] ∧ freeF (order.take i) placed step = true) ⟨rfl, _, rfl, rfl⟩ (fun i y Ψ B e iv => ?_) fun Ψ B iv => ?_)
  · obtain ⟨rfl, u, rfl, iv⟩ := iv
    have et : order.take (i + 1) = order.take i ++ [y] := by
      rw [List.take_add_one, e]
      rfl
    refine ⟨_, tx_name 3 nd, sxs_one (sx_if (eb_bop (ew_and (eb_eqI (ex_ixT (ex_var 3 rfl) ex_int rfl) (ex_var 2 rfl)) (fun hc => (ew_and1 (eb_ninN (ex_ixT (ex_var 3 rfl) ex_int rfl) (ex_var 1 rfl)))))).t (fun hk => sxs_one (sx_ret ex_bool fun s w => ?_)) fun hk => sxs_nil ⟨rfl, _, rfl, ?_⟩)⟩
    · subst w
      have hf : freeF order placed step = false := by
        unfold freeF
        rw [List.all_eq_false]
        refine ⟨y, List.mem_of_getElem? e, ?_⟩
        simp only [Bool.and_eq_true, decide_eq_true_eq, Bool.not_eq_true', decide_eq_false_iff_not, Int.natCast_inj] at hk
        simp [hk.1, hk.2]
      rw [hf]
    · unfold freeF at iv ⊢
      rw [et, List.all_append, iv, List.all_cons, List.all_nil]
      simp only [Bool.and_eq_false_iff, decide_eq_false_iff_not, Bool.not_eq_false', decide_eq_true_eq, Int.natCast_inj] at hk
      rcases hk with hk | hk <;> simp [hk]
  · obtain ⟨rfl, u, rfl, iv⟩ := iv
    rw [List.take_length] at iv
    refine sxs_one (sx_ret ex_bool fun s w => ?_)
    subst w
    rw [iv]

/-! next_free, settled: the line as far as it goes -/
def encON : Option Nat → D
  | none => .none
  | some k => .int (k : Nat)
def nextF (n : Nat) (order : List (Nat × Nat)) (placed : List Nat) : Option Nat := (List.range n).find? fun k => !decide (k ∈ placed) && freeF order placed k
abbrev s_next_free : Stmt := topS 18
abbrev N_next_free : List Str := ["count", "order", "placed", "step"]
theorem sc_next_free : FnScope N_next_free ["count", "order", "placed"] (defScope s_next_free) := ⟨rfl, rfl, rfl, by decide +kernel, rfl, by decide +kernel, by decide +kernel⟩
theorem hb_next_free (kV doc pm : Value) (an : Option Addr) (cdv ct : Value) (us : List Value) (hl : us.length = 3) : bindArgs (PySem.W.fnOf "next_free" "next_free" (defArgs s_next_free) (defBody s_next_free) (defScope s_next_free) .none kV doc pm an cdv ct) ⟨us, []⟩ = pure ((["count", "order", "placed"] : List Str).zip us) := match us, hl with
  | [_, _, _], _ => rfl
def R_next_free : PSpec := fun _ ss W => ∃ (n : Nat) (order : List (Nat × Nat)) (placed : List Nat), ss = [di n, .dat (lpD order), .dat (lnD placed)] ∧ n ≤ 100 ∧ W = (· = .dat (encON (nextF n order placed)))
theorem ok_next_free (B : Bt mg) (Dd : DefAt K mg "next_free" s_next_free) (F_free : Fn P w K mg base "free" ["order", "placed", "step"] R_free 1) : Fn P w K mg base "next_free" ["count", "order", "placed"] R_next_free 2 := by
  refine fn_mk Dd sc_next_free (fun G ss W ⟨_, _, _, e, _⟩ => by rw [e]; rfl) hb_next_free fun f cdv A outer s H hr G ss W h => ?_
  obtain ⟨n, order, placed, rfl, hn, rfl⟩ := h
  have nd := (sc_next_free).nd
  refine sxs_cons (sx_forT (ix_range B.range (ex_var 0 rfl) (by omega) (by omega)) (fun i Ψ B => Ψ = phS G ∧ ∃ u, B = [di n |> .k, .d (lpD order), .d (lnD placed), u] ∧ (List.range i).find? (fun k => !decide (k ∈ placed) && freeF order placed k) = none) ⟨rfl, _, rfl, rfl⟩ (fun i y Ψ B e iv => ?_) fun Ψ B iv => ?_)
  · obtain ⟨rfl, u, rfl, iv⟩ := iv
    have ey : y = i ∧ i < n := by
      obtain ⟨h1, h2⟩ := List.getElem?_eq_some_iff.mp e
      simp only [List.length_range, Int.toNat_natCast] at h1
      simp only [List.getElem_range] at h2
      exact ⟨h2.symm, h1⟩
    obtain ⟨rfl, hi⟩ := ey
    have ft : ∀ b : Bool, (!decide (y ∈ placed) && freeF order placed y) = b → (List.range (y + 1)).find? (fun k => !decide (k ∈ placed) && freeF order placed k) = if b = true then some y else none := fun b hb => by
      rw [List.range_succ, List.find?_append, iv, Option.none_or, List.find?_cons, hb]
      cases b <;> rfl
    refine ⟨_, tx_name 3 nd, sxs_one (sx_if (eb_bop (ew_and (eb_ninN (ex_var 3 rfl) (ex_var 2 rfl)) (fun hc => (ew_and1 (eb_of (ex_call F_free hr (ea_cons (ex_var 1 rfl) (ea_cons (ex_var 2 rfl) (ea_cons (ex_var 3 rfl) ea_nil))) fun G _ => ⟨_, _, _, rfl, rfl⟩)))))).t (fun hk => sxs_one (sx_ret (ex_var 3 rfl) fun s w => ?_)) fun hk => sxs_nil ⟨rfl, _, rfl, ?_⟩)⟩
    · subst w
      have hn : nextF n order placed = some y := by
        unfold nextF
        have el : List.range n = List.range (y + 1) ++ (List.range (n - (y + 1))).map (y + 1 + ·) := by
          rw [← List.range_add]
          congr 1
          omega
        rw [el, List.find?_append, ft true hk]
        rfl
      rw [hn]
      rfl
    · rw [ft false hk]
      rfl
  · obtain ⟨rfl, u, rfl, iv⟩ := iv
    refine sxs_one (sx_ret ex_none fun s w => ?_)
    subst w
    rw [List.length_range, Int.toNat_natCast] at iv
    unfold nextF
    rw [iv]
    rfl
theorem nextF_some {n : Nat} {order : List (Nat × Nat)} {placed : List Nat} {k : Nat} (h : nextF n order placed = some k) : k < n ∧ k ∉ placed ∧ freeF order placed k = true := by
  unfold nextF at h
  have h1 := List.find?_some h
  have h2 := List.mem_of_find?_eq_some h
  simp only [Bool.and_eq_true, Bool.not_eq_true', decide_eq_false_iff_not] at h1
  exact ⟨List.mem_range.mp h2, h1.1, h1.2⟩
theorem nodup_bound : ∀ (n : Nat) (l : List Nat), l.Nodup → (∀ x ∈ l, x < n) → l.length ≤ n
  | 0, l, _, h => by
    cases l with
    | nil => simp
    | cons x l => exact absurd (h x List.mem_cons_self) (Nat.not_lt_zero _)
  | n + 1, l, nd, h => by
    have h1 := nodup_bound n (l.erase n) (nd.erase n) fun x hx => by
      have a := h x (List.mem_of_mem_erase hx)
      have b : x ≠ n := fun e => by
        rw [e] at hx
        exact (List.Nodup.mem_erase_iff nd).mp hx |>.1 rfl
      omega
    have h2 : l.length ≤ (l.erase n).length + 1 := by
      rw [List.length_erase]
      split <;> omega
    omega
abbrev s_settled : Stmt := topS 19
abbrev N_settled : List Str := ["count", "order", "placed", "step"]
theorem sc_settled : FnScope N_settled ["count", "order"] (defScope s_settled) := ⟨rfl, rfl, rfl, by decide +kernel, rfl, by decide +kernel, by decide +kernel⟩
theorem hb_settled (kV doc pm : Value) (an : Option Addr) (cdv ct : Value) (us : List Value) (hl : us.length = 2) : bindArgs (PySem.W.fnOf "settled" "settled" (defArgs s_settled) (defBody s_settled) (defScope s_settled) .none kV doc pm an cdv ct) ⟨us, []⟩ = pure ((["count", "order"] : List Str).zip us) := match us, hl with
  | [_, _], _ => rfl
def R_settled : PSpec := fun _ ss W => ∃ (n : Nat) (order : List (Nat × Nat)), ss = [di n, .dat (lpD order)] ∧ n ≤ 100 ∧
  W = fun s => ∃ placed : List Nat, placed.Nodup ∧ (∀ k ∈ placed, k < n) ∧ nextF n order placed = none ∧ s = .dat (lnD placed)
theorem ok_settled (B : Bt mg) (Dd : DefAt K mg "settled" s_settled) (F_next_free : Fn P w K mg base "next_free" ["count", "order", "placed"] R_next_free 2) : Fn P w K mg base "settled" ["count", "order"] R_settled 3 := by
  refine fn_mk Dd sc_settled (fun G ss W ⟨_, _, e, _⟩ => by rw [e]; rfl) hb_settled fun f cdv A outer s H hr G ss W h => ?_
  obtain ⟨n, order, rfl, hn, rfl⟩ := h
  have nd := (sc_settled).nd
  refine sxs_cons (sx_own 2 exn_nil ?_ nd)
  refine sxs_cons (sx_asg 3 (W := (· = .dat (encON (nextF n order [])))) (EX.view (A := _) (ex_call F_next_free hr (ea_cons (ex_var 0 rfl) (ea_cons (ex_var 1 rfl) (ea_cons (ex_var 2 rfl) ea_nil))) fun G _ => ⟨n, order, [], rfl, hn, rfl⟩) (by cases nextF n order [] <;> trivial)) (fun s w => ?_) nd)
  subst w
  refine sxs_cons (sx_while (fun m Ψ B => Ψ = phS G ∧ ∃ placed : List Nat, placed.Nodup ∧ (∀ k ∈ placed, k < n) ∧ m = n - placed.length ∧ B = [di n |> .k, .d (lpD order), .lst (placed.map encN), .d (encON (nextF n order placed))]) ⟨_, rfl, [], List.nodup_nil, by simp, rfl, rfl⟩ fun m Ψ B iv => ?_)
  obtain ⟨rfl, placed, h1, h2, rfl, rfl⟩ := iv
  refine ⟨_, (eb_notN (ex_var 3 rfl)).t, fun hk => ?_, fun hk => ?_⟩
  · cases hq : nextF n order placed with
    | none =>
      rw [hq] at hk
      cases hk
    | some k =>
      obtain ⟨q1, q2, q3⟩ := nextF_some hq
      have n2 : (placed ++ [k]).Nodup := by
        rw [List.nodup_append]
        exact ⟨h1, by simp, fun a ha b hb => by
          rw [List.mem_singleton.mp hb]
          exact fun e => q2 (e ▸ ha)⟩
      have l2 : ∀ x ∈ placed ++ [k], x < n := fun x hx => by
        rcases List.mem_append.mp hx with hx | hx
        · exact h2 x hx
        · rw [List.mem_singleton.mp hx]
          exact q1
      have b2 := nodup_bound n _ n2 l2
      rw [List.length_append, List.length_singleton] at b2
      refine sxs_cons (sx_app 2 rfl (ex_var 3 rfl) (by rw [List.length_map]; omega) ?_)
      refine sxs_one (sx_asg 3 (W := (· = .dat (encON (nextF n order (placed ++ [k]))))) (EX.view (A := _) (ex_call F_next_free hr (ea_cons (ex_var 0 rfl) (ea_cons (ex_var 1 rfl) (ea_cons (ex_var 2 rfl) ea_nil))) fun G _ => ⟨n, order, placed ++ [k], by simp [lnD, encN, encON], hn, rfl⟩) (by cases nextF n order (placed ++ [k]) <;> trivial)) (fun s w => ?_) nd)
      subst w
      refine ⟨_, ?_, rfl, placed ++ [k], n2, l2, rfl, by simp [encN, encON]⟩
      rw [List.length_append, List.length_singleton]
      omega
  · refine sxs_one (sx_ret (ex_var 2 rfl) fun s w => ?_)
    subst w
    refine ⟨placed, h1, h2, ?_, rfl⟩
    cases hq : nextF n order placed with
    | none => rfl
    | some k =>
      rw [hq] at hk
      cases hk

/-! ring: nothing where the order goes up by some rank -/
theorem all_placed {n : Nat} {order : List (Nat × Nat)} {placed : List Nat} {r : Nat → Nat} (hb : ∀ p ∈ order, p.1 < n) (hr : ∀ p ∈ order, r p.1 < r p.2) (h : nextF n order placed = none) : ∀ m k, r k < m → k < n → k ∈ placed
  | 0, _, h0, _ => absurd h0 (Nat.not_lt_zero _)
  | m + 1, k, h0, hk => by
    refine Decidable.byContradiction fun hn => ?_
    have h1 : (!decide (k ∈ placed) && freeF order placed k) = false := by
      have := List.find?_eq_none.mp h k (List.mem_range.mpr hk)
      simpa using this
    rw [decide_eq_false hn] at h1
    have h2 : freeF order placed k = false := h1
    unfold freeF at h2
    rw [List.all_eq_false] at h2
    obtain ⟨q, hq, e⟩ := h2
    simp only [Bool.not_eq_true', Bool.not_eq_false, Bool.and_eq_true, decide_eq_true_eq, Bool.not_eq_true', decide_eq_false_iff_not, Bool.not_eq_eq_eq_not, Bool.not_true, Bool.not_false] at e
    have e1 := hr q hq
    rw [e.1] at e1
    exact e.2 (all_placed hb hr h m q.1 (by omega) (hb q hq))
abbrev s_ring : Stmt := topS 21
abbrev N_ring : List Str := ["count", "order", "placed", "step", "left", "back"]
theorem sc_ring : FnScope N_ring ["count", "order"] (defScope s_ring) := ⟨rfl, rfl, rfl, by decide +kernel, rfl, by decide +kernel, by decide +kernel⟩
theorem hb_ring (kV doc pm : Value) (an : Option Addr) (cdv ct : Value) (us : List Value) (hl : us.length = 2) : bindArgs (PySem.W.fnOf "ring" "ring" (defArgs s_ring) (defBody s_ring) (defScope s_ring) .none kV doc pm an cdv ct) ⟨us, []⟩ = pure ((["count", "order"] : List Str).zip us) := match us, hl with
  | [_, _], _ => rfl
def R_ring : PSpec := fun _ ss W => ∃ (n : Nat) (order : List (Nat × Nat)) (r : Nat → Nat), ss = [di n, .dat (lpD order)] ∧ n ≤ 100 ∧ (∀ p ∈ order, p.1 < n) ∧ (∀ p ∈ order, r p.1 < r p.2) ∧ W = (· = .dat (.list []))
theorem ok_ring (B : Bt mg) (Dd : DefAt K mg "ring" s_ring) (F_settled : Fn P w K mg base "settled" ["count", "order"] R_settled 3) : Fn P w K mg base "ring" ["count", "order"] R_ring 4 := by
  refine fn_mk Dd sc_ring (fun G ss W ⟨_, _, _, e, _⟩ => by rw [e]; rfl) hb_ring fun f cdv A outer s H hr G ss W h => ?_
  obtain ⟨n, order, r, rfl, hn, hb, hrk, rfl⟩ := h
  have nd := (sc_ring).nd
  have hu := hu_of2 hr
  refine sxs_cons (sx_asg 2 (ex_call F_settled hr (ea_cons (ex_var 0 rfl) (ea_cons (ex_var 1 rfl) ea_nil)) fun G _ => ⟨n, order, rfl, hn, rfl⟩) (fun s w => ?_) nd)
  obtain ⟨placed, h1, h2, h3, rfl⟩ := w
  have all := fun k hk => all_placed hb hrk h3 (r k + 1) k (Nat.lt_succ_self _) hk
  have hl : (List.range (Int.toNat (n : Nat))).filter (fun k => !decide (k ∈ placed)) = [] := by
    rw [List.filter_eq_nil_iff]
    intro k hk
    rw [Int.toNat_natCast, List.mem_range] at hk
    simp [all k hk]
  refine sxs_cons (sx_lc 4 3 (fun k => !decide (k ∈ placed)) encN (ix_range B.range (ex_var 0 rfl) (by omega) (by omega)) (by rw [List.length_range]; omega) (blkOk_by (N := N_ring) (sc := defScope s_ring) (by decide +kernel)) (fun y hy s H C cl fp => (EB.cast (eb_ninN (ex_var 3 rfl) (ex_var 2 rfl)) rfl).t) (fun y hy hq s H C cl fp => EX.cast (ex_var 3 rfl) rfl) (fun s H C cl fp => pg_name nd rfl (Or.inl rfl)) nd ?_)
  rw [hl]
  refine sxs_cons (sx_if (eb_eq (ex_var 4 rfl) (ex_lst (ds := []) ea_nil (Nat.le_of_ble_eq_true rfl)) hu rfl rfl).t (fun hk => sxs_one (sx_ret (ex_lst (ds := []) ea_nil (Nat.le_of_ble_eq_true rfl)) fun s w => w)) fun hk => ?_)
  cases hk

/-! ready -/
def atHand (done : List (Option Int)) : List Nat := (List.range done.length).filter fun k => (done.getD k none).isSome
def readyF (order : List (Nat × Nat)) (done : List (Option Int)) : List Nat := (List.range done.length).filter fun k => (done.getD k none).isNone && freeF order (atHand done) k
theorem getO {done : List (Option Int)} {k : Nat} (h : k < done.length) : done[k]? = some (done.getD k none) := by
  rw [List.getD_eq_getElem?_getD, List.getElem?_eq_getElem h]
  rfl
abbrev s_ready : Stmt := topS 22
abbrev N_ready : List Str := ["order", "done", "step", "at_hand", "found"]
theorem sc_ready : FnScope N_ready ["order", "done"] (defScope s_ready) := ⟨rfl, rfl, rfl, by decide +kernel, rfl, by decide +kernel, by decide +kernel⟩
theorem hb_ready (kV doc pm : Value) (an : Option Addr) (cdv ct : Value) (us : List Value) (hl : us.length = 2) : bindArgs (PySem.W.fnOf "ready" "ready" (defArgs s_ready) (defBody s_ready) (defScope s_ready) .none kV doc pm an cdv ct) ⟨us, []⟩ = pure ((["order", "done"] : List Str).zip us) := match us, hl with
  | [_, _], _ => rfl
def R_ready : PSpec := fun _ ss W => ∃ (order : List (Nat × Nat)) (done : List (Option Int)), ss = [.dat (lpD order), .dat (loD done)] ∧ done.length ≤ 100 ∧ W = (· = .dat (lnD (readyF order done)))
theorem ok_ready (B : Bt mg) (Dd : DefAt K mg "ready" s_ready) (F_free : Fn P w K mg base "free" ["order", "placed", "step"] R_free 1) : Fn P w K mg base "ready" ["order", "done"] R_ready 2 := by
  refine fn_mk Dd sc_ready (fun G ss W ⟨_, _, e, _⟩ => by rw [e]; rfl) hb_ready fun f cdv A outer s H hr G ss W h => ?_
  obtain ⟨order, done, rfl, hn, rfl⟩ := h
  have nd := (sc_ready).nd
  have hu := hu_of2 hr
  have hlen : (done.map encO).length = done.length := List.length_map _
  have hb : ∀ y ∈ List.range (Int.toNat ((done.map encO).length : Nat)), y < done.length := fun y hy => by
    rw [Int.toNat_natCast, List.mem_range, hlen] at hy
    exact hy
  refine sxs_cons (sx_lc 3 2 (fun k => (done.getD k none).isSome) encN (ix_range B.range (ex_len B.len (ex_var 1 rfl) (.lst _)) (by omega) (by omega)) (by rw [List.length_range]; omega) (blkOk_by (N := N_ready) (sc := defScope s_ready) (by decide +kernel)) (fun y hy s H C cl fp => (EB.cast (eb_notN (ex_ixM (f := encO) (ex_var 1 rfl) (ex_var 2 rfl) (atN (getO (hb y hy))))) (by rw [isN_encO]; cases done.getD y none <;> rfl)).t) (fun y hy hq s H C cl fp => EX.cast (ex_var 2 rfl) rfl) (fun s H C cl fp => pg_name nd rfl (Or.inl rfl)) nd ?_)
  have hat : (List.range (Int.toNat ((done.map encO).length : Nat))).filter (fun k => (done.getD k none).isSome) = atHand done := by
    rw [Int.toNat_natCast, hlen]
    rfl
  rw [hat]
  refine sxs_cons (sx_own 4 exn_nil ?_ nd)
  let q : Nat → Bool := fun k => (done.getD k none).isNone && freeF order (atHand done) k
  refine sxs_cons (sx_forT (ix_range B.range (ex_len B.len (ex_var 1 rfl) (.lst _)) (by omega) (by omega)) (fun i Ψ B => Ψ = phS G ∧ ∃ u, B = [.d (lpD order), .d (loD done), u, .d (lnD (atHand done)), .lst (((List.range i).filter q).map encN)]) ⟨rfl, _, rfl⟩ (fun i y Ψ B e iv => ?_) fun Ψ B iv => ?_)
  · obtain ⟨rfl, u, rfl⟩ := iv
    have ey : y = i := by
      obtain ⟨h1, h2⟩ := List.getElem?_eq_some_iff.mp e
      rw [List.getElem_range] at h2
      exact h2.symm
    have hy := hb y (List.mem_of_getElem? e)
    subst ey
    have lf : ((List.range y).filter q).length ≤ y := by
      have := List.length_filter_le q (List.range y)
      rw [List.length_range] at this
      exact this
    refine ⟨_, tx_name 2 nd, sxs_one (sx_if (k := q y) (EB.cast (eb_bop (ew_and (eb_isN (ex_ixM (f := encO) (ex_var 1 rfl) (ex_var 2 rfl) (atN (getO hy)))) (fun hc => (ew_and1 (eb_of (ex_call F_free hr (ea_cons (ex_var 0 rfl) (ea_cons (ex_var 3 rfl) (ea_cons (ex_var 2 rfl) ea_nil))) fun G _ => ⟨_, _, _, rfl, rfl⟩)))))) (by rw [isN_encO])).t (fun hk => sxs_one (sx_app 4 rfl (ex_var 2 rfl) (by rw [List.length_map]; omega) ⟨rfl, .k (di (y : Nat)), ?_⟩)) fun hk => sxs_nil ⟨rfl, .k (di (y : Nat)), ?_⟩)⟩
    · rw [List.range_succ, List.filter_append, List.filter_cons, if_pos hk, List.map_append]
      rfl
    · rw [List.range_succ, List.filter_append, List.filter_cons, if_neg (by rw [hk]; decide), List.filter_nil, List.append_nil]
      rfl
  · obtain ⟨rfl, u, rfl⟩ := iv
    refine sxs_one (sx_ret (ex_var 4 rfl) fun s w => ?_)
    subst w
    rw [List.length_range, Int.toNat_natCast, hlen]
    rfl
end
end Dl
namespace Dl
open PySem PySem.Spec PyProof.Rows L2
/-! ### shapes, ties, pools: what is computed -/
def widthF (p : List Nat) : Nat := p.foldl (fun m k => max m (k + 1)) 0
structure Tie where
  most : Bool
  k : Nat
  steps : List Nat
def encT (t : Tie) : D := .tuple [.str (if t.most = true then "most" else "least"), .int (t.k : Nat), .tuple (t.steps.map encN)]
abbrev ltD (ts : List Tie) : D := .list (ts.map encT)
def uqN (xs : List Nat) : List Nat := xs.foldl (fun acc x => if x ∈ acc then acc else acc ++ [x]) []
def seenF (p : List Nat) (steps : List Nat) : List Nat := uqN ((steps.filter fun s => decide (s < p.length)).map fun s => p.getD s 0)
def lateF (p : List Nat) (steps : List Nat) : Nat := (steps.filter fun s => !decide (s < p.length)).length
def breaksF (p : List Nat) (t : Tie) : Bool := if t.most = true then decide (t.k < (seenF p t.steps).length) else decide ((seenF p t.steps).length + lateF p t.steps < t.k)
theorem uqN_snoc (xs : List Nat) (x : Nat) : uqN (xs ++ [x]) = if x ∈ uqN xs then uqN xs else uqN xs ++ [x] := by
  unfold uqN
  rw [List.foldl_append]
  rfl
theorem uqN_len (xs : List Nat) : (uqN xs).length ≤ xs.length := by
  unfold uqN
  have : ∀ (xs acc : List Nat), (xs.foldl (fun acc x => if x ∈ acc then acc else acc ++ [x]) acc).length ≤ acc.length + xs.length := fun xs => by
    induction xs with
    | nil => intro acc; simp
    | cons x xs ih =>
      intro acc
      rw [List.foldl_cons]
      refine Nat.le_trans (ih _) ?_
      split
      · rw [List.length_cons]; omega
      · rw [List.length_append, List.length_cons, List.length_cons]
        simp only [List.length_nil]
        omega
  have := this xs []
  simpa using this
theorem seenF_snoc (p steps : List Nat) (s : Nat) : seenF p (steps ++ [s]) = if s < p.length then (if p.getD s 0 ∈ seenF p steps then seenF p steps else seenF p steps ++ [p.getD s 0]) else seenF p steps := by
  unfold seenF
  rw [List.filter_append, List.filter_cons]
  by_cases h : s < p.length
  · rw [if_pos (decide_eq_true h), if_pos h, List.filter_nil, List.map_append, List.map_cons, List.map_nil, uqN_snoc]
  · rw [if_neg (by rw [decide_eq_false h]; decide), if_neg h, List.filter_nil, List.append_nil]
theorem lateF_snoc (p steps : List Nat) (s : Nat) : lateF p (steps ++ [s]) = if s < p.length then lateF p steps else lateF p steps + 1 := by
  unfold lateF
  rw [List.filter_append, List.length_append, List.filter_cons]
  by_cases h : s < p.length
  · rw [if_neg (by rw [decide_eq_true h]; decide), if_pos h]
    rfl
  · rw [if_pos (by rw [decide_eq_false h]; rfl), if_neg h]
    rfl
section
variable {P : Program} {w : World} {K : PySem.W.Frag} {mg : Str → Option Value} {base : Heap}
/-! common, without -/
abbrev s_common : Stmt := topS 33
abbrev N_common : List Str := ["one", "other", "thing"]
theorem sc_common : FnScope N_common ["one", "other"] (defScope s_common) := ⟨rfl, rfl, rfl, by decide +kernel, rfl, by decide +kernel, by decide +kernel⟩
theorem hb_common (kV doc pm : Value) (an : Option Addr) (cdv ct : Value) (us : List Value) (hl : us.length = 2) : bindArgs (PySem.W.fnOf "common" "common" (defArgs s_common) (defBody s_common) (defScope s_common) .none kV doc pm an cdv ct) ⟨us, []⟩ = pure ((["one", "other"] : List Str).zip us) := match us, hl with
  | [_, _], _ => rfl
def R_common : PSpec := fun _ ss W => ∃ (one other : List Int), ss = [.dat (liD one), .dat (liD other)] ∧ one.length ≤ 1000 ∧ W = (· = .dat (liD (one.filter fun x => decide (x ∈ other))))
theorem ok_common (B : Bt mg) (Dd : DefAt K mg "common" s_common) : Fn P w K mg base "common" ["one", "other"] R_common 1 := by
  refine fn_mk Dd sc_common (fun G ss W ⟨_, _, e, _⟩ => by rw [e]; rfl) hb_common fun f cdv A outer s H hr G ss W h => ?_
  obtain ⟨one, other, rfl, hz, rfl⟩ := h
  have nd := (sc_common).nd
  exact sxs_one (sx_ret (ex_lc 2 (fun x => decide (x ∈ other)) PyData.int (ix_lstM (ex_var 0 rfl)) (by omega) (blkOk_by (N := N_common) (sc := defScope s_common) (by decide +kernel)) (fun y hy s H C cl fp => (EB.cast (eb_inI (ex_var 2 rfl) (ex_var 1 rfl)) rfl).t) (fun y hy hq s H C cl fp => EX.cast (ex_var 2 rfl) rfl) (fun s H C cl fp => pg_name nd rfl (Or.inl rfl)) nd) fun s w => w)
abbrev s_without : Stmt := topS 34
abbrev N_without : List Str := ["one", "other", "thing"]
theorem sc_without : FnScope N_without ["one", "other"] (defScope s_without) := ⟨rfl, rfl, rfl, by decide +kernel, rfl, by decide +kernel, by decide +kernel⟩
theorem hb_without (kV doc pm : Value) (an : Option Addr) (cdv ct : Value) (us : List Value) (hl : us.length = 2) : bindArgs (PySem.W.fnOf "without" "without" (defArgs s_without) (defBody s_without) (defScope s_without) .none kV doc pm an cdv ct) ⟨us, []⟩ = pure ((["one", "other"] : List Str).zip us) := match us, hl with
  | [_, _], _ => rfl
def R_without : PSpec := fun _ ss W => ∃ (one other : List Int), ss = [.dat (liD one), .dat (liD other)] ∧ one.length ≤ 1000 ∧ W = (· = .dat (liD (one.filter fun x => !decide (x ∈ other))))
theorem ok_without (B : Bt mg) (Dd : DefAt K mg "without" s_without) : Fn P w K mg base "without" ["one", "other"] R_without 1 := by
  refine fn_mk Dd sc_without (fun G ss W ⟨_, _, e, _⟩ => by rw [e]; rfl) hb_without fun f cdv A outer s H hr G ss W h => ?_
  obtain ⟨one, other, rfl, hz, rfl⟩ := h
  have nd := (sc_without).nd
  exact sxs_one (sx_ret (ex_lc 2 (fun x => !decide (x ∈ other)) PyData.int (ix_lstM (ex_var 0 rfl)) (by omega) (blkOk_by (N := N_without) (sc := defScope s_without) (by decide +kernel)) (fun y hy s H C cl fp => (EB.cast (eb_ninI (ex_var 2 rfl) (ex_var 1 rfl)) rfl).t) (fun y hy hq s H C cl fp => EX.cast (ex_var 2 rfl) rfl) (fun s H C cl fp => pg_name nd rfl (Or.inl rfl)) nd) fun s w => w)
abbrev s_joined : Stmt := topS 35
abbrev N_joined : List Str := ["one", "other"]
theorem sc_joined : FnScope N_joined ["one", "other"] (defScope s_joined) := ⟨rfl, rfl, rfl, by decide +kernel, rfl, by decide +kernel, by decide +kernel⟩
theorem hb_joined (kV doc pm : Value) (an : Option Addr) (cdv ct : Value) (us : List Value) (hl : us.length = 2) : bindArgs (PySem.W.fnOf "joined" "joined" (defArgs s_joined) (defBody s_joined) (defScope s_joined) .none kV doc pm an cdv ct) ⟨us, []⟩ = pure ((["one", "other"] : List Str).zip us) := match us, hl with
  | [_, _], _ => rfl
def R_joined : PSpec := fun _ ss W => ∃ (one other : List Int), ss = [.dat (liD one), .dat (liD other)] ∧ one.length ≤ 1000 ∧ other.length ≤ 1000 ∧
  W = (· = .dat (liD (sortI (one ++ other.filter fun x => !decide (x ∈ one)))))
theorem ok_joined (B : Bt mg) (Dd : DefAt K mg "joined" s_joined) (F_without : Fn P w K mg base "without" ["one", "other"] R_without 1) : Fn P w K mg base "joined" ["one", "other"] R_joined 2 := by
  refine fn_mk Dd sc_joined (fun G ss W ⟨_, _, e, _⟩ => by rw [e]; rfl) hb_joined fun f cdv A outer s H hr G ss W h => ?_
  obtain ⟨one, other, rfl, hz, hz2, rfl⟩ := h
  have nd := (sc_joined).nd
  have hl := List.length_filter_le (fun x => !decide (x ∈ one)) other
  refine sxs_one (sx_ret (ex_sortI (ns := one ++ other.filter fun x => !decide (x ∈ one)) B.sorted (EX.cast (ex_cat (ex_var 0 rfl) (ex_call F_without hr (ea_cons (ex_var 1 rfl) (ea_cons (ex_var 0 rfl) ea_nil)) fun G _ => ⟨_, _, rfl, hz2, rfl⟩) ?_) ?_)) fun s w => w)
  · rw [List.length_map, List.length_map]
    exact Nat.le_trans (by omega) (show 2000 ≤ sizeLine by decide)
  · rw [← List.map_append]

/-! width, grown -/
theorem widthF_int : ∀ (ys : List Nat) (m : Nat), (ys.map fun k : Nat => (k : Int)).foldl max (m : Int) + 1 = ((ys.foldl (fun m k => max m (k + 1)) (m + 1) : Nat) : Int)
  | [], m => by simp
  | y :: ys, m => by
    rw [List.map_cons, List.foldl_cons, List.foldl_cons]
    have e : max (m : Int) (y : Int) = ((max m y : Nat) : Int) := by omega
    rw [e, widthF_int ys (max m y)]
    congr 2
    omega
abbrev s_width : Stmt := topS 37
abbrev N_width : List Str := ["pattern"]
theorem sc_width : FnScope N_width ["pattern"] (defScope s_width) := ⟨rfl, rfl, rfl, by decide +kernel, rfl, by decide +kernel, by decide +kernel⟩
theorem hb_width (kV doc pm : Value) (an : Option Addr) (cdv ct : Value) (us : List Value) (hl : us.length = 1) : bindArgs (PySem.W.fnOf "width" "width" (defArgs s_width) (defBody s_width) (defScope s_width) .none kV doc pm an cdv ct) ⟨us, []⟩ = pure ((["pattern"] : List Str).zip us) := match us, hl with
  | [_], _ => rfl
def R_width : PSpec := fun _ ss W => ∃ (p : List Nat), ss = [.dat (lnD p)] ∧ W = (· = di (widthF p : Nat))
theorem ok_width (B : Bt mg) (Dd : DefAt K mg "width" s_width) : Fn P w K mg base "width" ["pattern"] R_width 1 := by
  refine fn_mk Dd sc_width (fun G ss W ⟨_, e, _⟩ => by rw [e]; rfl) hb_width fun f cdv A outer s H hr G ss W h => ?_
  obtain ⟨p, rfl, rfl⟩ := h
  have nd := (sc_width).nd
  have hu := hu_of2 hr
  refine sxs_one (sx_ret (EX.cast (ex_addI (ex_maxd (m := (widthF p : Int) - 1) B.max hu (EX.ofN (ex_var 0 rfl)) (ex_neg ex_int) (fun e => ?_) fun y ys e => ?_) ex_int) ?_) fun s w => w)
  · cases p with
    | nil => rfl
    | cons k p => cases e
  · cases p with
    | nil => cases e
    | cons k p =>
      cases e
      have := widthF_int p k
      unfold widthF
      rw [List.foldl_cons, Nat.zero_max]
      show ((List.foldl (fun m k => max m (k + 1)) (k + 1) p : Nat) : Int) - 1 = (p.map fun k : Nat => (k : Int)).foldl max (k : Int)
      omega
  · show di _ = di _
    congr 2
    omega
abbrev s_grown : Stmt := topS 38
abbrev N_grown : List Str := ["pattern", "number"]
theorem sc_grown : FnScope N_grown ["pattern"] (defScope s_grown) := ⟨rfl, rfl, rfl, by decide +kernel, rfl, by decide +kernel, by decide +kernel⟩
theorem hb_grown (kV doc pm : Value) (an : Option Addr) (cdv ct : Value) (us : List Value) (hl : us.length = 1) : bindArgs (PySem.W.fnOf "grown" "grown" (defArgs s_grown) (defBody s_grown) (defScope s_grown) .none kV doc pm an cdv ct) ⟨us, []⟩ = pure ((["pattern"] : List Str).zip us) := match us, hl with
  | [_], _ => rfl
def R_grown : PSpec := fun _ ss W => ∃ (p : List Nat), ss = [.dat (lnD p)] ∧ p.length ≤ 100 ∧ widthF p ≤ 100 ∧ W = (· = .dat (lnnD ((List.range (widthF p + 1)).map fun k => p ++ [k])))
theorem ok_grown (B : Bt mg) (Dd : DefAt K mg "grown" s_grown) (F_width : Fn P w K mg base "width" ["pattern"] R_width 1) : Fn P w K mg base "grown" ["pattern"] R_grown 2 := by
  refine fn_mk Dd sc_grown (fun G ss W ⟨_, e, _⟩ => by rw [e]; rfl) hb_grown fun f cdv A outer s H hr G ss W h => ?_
  obtain ⟨p, rfl, hp, hz, rfl⟩ := h
  have nd := (sc_grown).nd
  have e1 : ((widthF p : Int) + 1).toNat = widthF p + 1 := by omega
  refine sxs_one (sx_ret (ex_lc 1 (fun _ => true) (fun k => lnD (p ++ [k])) (ix_range B.range (ex_addI (ex_call F_width hr (ea_cons (ex_var 0 rfl) ea_nil) fun G _ => ⟨_, rfl, rfl⟩) ex_int) (by omega) (by omega)) (by rw [List.length_range]; omega) (blkOk_by (N := N_grown) (sc := defScope s_grown) (by decide +kernel)) (fun y hy s H C cl fp => rfl) (fun y hy hq s H C cl fp => EX.cast (ex_cat (ex_var 0 rfl) (ex_lst (ds := [_]) (ea_cons (ex_var 1 rfl) ea_nil) (Nat.le_of_ble_eq_true rfl)) (by rw [List.length_map]; exact Nat.le_trans (Nat.add_le_add hp (Nat.le_refl _)) (show 101 ≤ sizeLine by decide))) (by simp [lnD, encN])) (fun s H C cl fp => pg_name nd rfl (Or.inl rfl)) nd) fun s w => ?_)
  rw [w, e1, List.filter_eq_self.mpr fun _ _ => rfl]
  unfold lnnD
  rw [List.map_map]
  rfl

/-! breaks, first_broken -/
def kvT (us : List Nat) : List (Key × V) := us.map fun k : Nat => ((Sum.inl (k : Int) : Key), V.bl true)
theorem kvT_put (us : List Nat) (k : Nat) : putK (kvT us) (Sum.inl (k : Int)) (V.bl true) = kvT (if k ∈ us then us else us ++ [k]) := by
  unfold putK
  have ha : ((kvT us).any fun kv => decide (kv.1 = (Sum.inl (k : Int) : Key))) = decide (k ∈ us) := by
    unfold kvT
    rw [List.any_map, Bool.eq_iff_iff, List.any_eq_true, decide_eq_true_iff]
    constructor
    · rintro ⟨x, hx, h⟩
      have h := of_decide_eq_true h
      rw [← Int.ofNat_inj.mp (Sum.inl.inj h)]
      exact hx
    · exact fun h => ⟨k, h, decide_eq_true rfl⟩
  rw [ha]
  by_cases h : k ∈ us
  · rw [if_pos (decide_eq_true h), if_pos h]
    unfold kvT
    rw [List.map_map]
    refine List.map_congr_left fun x _ => ?_
    show (if (Sum.inl (x : Int) : Key) = Sum.inl (k : Int) then ((Sum.inl (x : Int) : Key), V.bl true) else (Sum.inl (x : Int), V.bl true)) = (Sum.inl (x : Int), V.bl true)
    split <;> rfl
  · rw [if_neg (by rw [decide_eq_false h]; decide), if_neg h]
    unfold kvT
    rw [List.map_append]
    rfl
theorem kvT_len (us : List Nat) : (kvT us).length = us.length := List.length_map _
theorem seenF_len (p steps : List Nat) : (seenF p steps).length ≤ steps.length := by
  unfold seenF
  refine Nat.le_trans (uqN_len _) ?_
  rw [List.length_map]
  exact List.length_filter_le _ _
abbrev s_breaks : Stmt := topS 40
abbrev N_breaks : List Str := ["pattern", "tie", "word", "limit", "steps", "there", "to_come", "step"]
theorem sc_breaks : FnScope N_breaks ["pattern", "tie"] (defScope s_breaks) := ⟨rfl, rfl, rfl, by decide +kernel, rfl, by decide +kernel, by decide +kernel⟩
theorem hb_breaks (kV doc pm : Value) (an : Option Addr) (cdv ct : Value) (us : List Value) (hl : us.length = 2) : bindArgs (PySem.W.fnOf "breaks" "breaks" (defArgs s_breaks) (defBody s_breaks) (defScope s_breaks) .none kV doc pm an cdv ct) ⟨us, []⟩ = pure ((["pattern", "tie"] : List Str).zip us) := match us, hl with
  | [_, _], _ => rfl
def R_breaks : PSpec := fun _ ss W => ∃ (p : List Nat) (t : Tie), ss = [.dat (lnD p), .dat (encT t)] ∧ t.steps.length ≤ 100 ∧ W = (· = db (breaksF p t))
theorem ok_breaks (B : Bt mg) (Dd : DefAt K mg "breaks" s_breaks) : Fn P w K mg base "breaks" ["pattern", "tie"] R_breaks 1 := by
  refine fn_mk Dd sc_breaks (fun G ss W ⟨_, _, e, _⟩ => by rw [e]; rfl) hb_breaks fun f cdv A outer s H hr G ss W h => ?_
  obtain ⟨p, t, rfl, hz, rfl⟩ := h
  have nd := (sc_breaks).nd
  have hu1 := hu_of1 hr
  have hlp : (p.map encN).length = p.length := List.length_map _
  refine sxs_cons (sx_unp (ex_var 1 rfl) fun s w => ⟨_, by
    subst w
    exact tx_tup (txs_cons (tx_name 2 nd) (txs_cons (tx_name 3 nd) (txs_cons (tx_name 4 nd) txs_nil))), ?_⟩)
  refine sxs_cons (sx_dict 5 ?_ nd (hs2 := by rfl))
  refine sxs_cons (sx_asg 6 ex_int (fun s w => ?_) nd)
  subst w
  refine sxs_cons (sx_forT (ix_tupM (ex_var 4 rfl)) (fun i Ψ B => Ψ = phS G ∧ ∃ u, B = [.d (lnD p), .d (encT t), .d (.str (if t.most = true then "most" else "least")), .k (di (t.k : Nat)), .d (.tuple (t.steps.map encN)), .dct (kvT (seenF p (t.steps.take i))), .k (di (lateF p (t.steps.take i) : Nat)), u]) ⟨rfl, _, rfl⟩ (fun i y Ψ B e iv => ?_) fun Ψ B iv => ?_)
  · obtain ⟨rfl, u, rfl⟩ := iv
    have et : t.steps.take (i + 1) = t.steps.take i ++ [y] := by
      rw [List.take_add_one, e]
      rfl
    have hl : (seenF p (t.steps.take i)).length ≤ 100 := Nat.le_trans (seenF_len _ _) (Nat.le_trans (by rw [List.length_take]; exact Nat.min_le_right _ _) hz)
    refine ⟨_, tx_name 7 nd, sxs_one (sx_if (k := decide (y < p.length)) (EB.cast (eb_lt (ex_var 7 rfl) (ex_len B.len (ex_var 0 rfl) (.lst _))) (by rw [hlp]; exact decide_eq_decide.mpr Int.ofNat_lt)).t (fun hk => ?_) fun hk => ?_)⟩
    · have hy := of_decide_eq_true hk
      have ey : p[y]? = some (p.getD y 0) := by
        rw [List.getD_eq_getElem?_getD, List.getElem?_eq_getElem hy]
        rfl
      refine sxs_one (sx_setD 5 rfl hu1 ex_bool trivial (ex_ixM (f := encN) (ex_var 0 rfl) (ex_var 7 rfl) (atN ey)) rfl (by rw [kvT_len]; omega) ⟨rfl, .k (di (y : Nat)), ?_⟩)
      rw [et, seenF_snoc, lateF_snoc, if_pos hy, if_pos hy, ← kvT_put]
      rfl
    · have hy := of_decide_eq_false hk
      refine sxs_one (sx_asg 6 (ex_addI (ex_var 6 rfl) ex_int) (fun s w => ⟨rfl, .k (di (y : Nat)), ?_⟩) nd)
      subst w
      rw [et, seenF_snoc, lateF_snoc, if_neg hy, if_neg hy]
      rfl
  · obtain ⟨rfl, u, rfl⟩ := iv
    rw [List.take_length]
    refine sxs_cons (sx_if (eb_eqS (ex_var 2 rfl) ex_str).t (fun hk => sxs_one (sx_ret (eb_gt (ex_lenD B.len (ex_var 5 rfl)) (ex_var 3 rfl)).v fun s w => ?_)) fun hk => sxs_nil (sxs_one (sx_ret (eb_lt (ex_addI (ex_lenD B.len (ex_var 5 rfl)) (ex_var 6 rfl)) (ex_var 3 rfl)).v fun s w => ?_)))
    · subst w
      have ht : t.most = true := by
        cases q : t.most with
        | true => rfl
        | false =>
          rw [q] at hk
          exact absurd hk (by decide +kernel)
      unfold breaksF
      rw [if_pos ht, kvT_len]
      exact congrArg db (decide_eq_decide.mpr Int.ofNat_lt)
    · subst w
      have ht : ¬ t.most = true := fun q => by
        rw [q] at hk
        exact absurd hk (by decide +kernel)
      unfold breaksF
      rw [if_neg ht, kvT_len]
      refine congrArg db (decide_eq_decide.mpr ?_)
      omega
end
end Dl
namespace Dl
open PySem PySem.Spec PyProof.Rows L2
theorem ix_cast {X : Cx} {Φ : Ph} {A : List Sl} {tg iter : Expr} {α : Type} {its : List Ds} (h : IX X Φ A tg iter (· = its)) {ys : List α} {ι : α → Ds} (e : its = ys.map ι) : IX X Φ A tg iter (· = ys.map ι) := fun μ G0 H0 G H σ R ab φ q => h μ G0 H0 G H σ R ab φ fun its J G' H' w g it => q its J G' H' (w.trans e) g it
/-! ### first_broken, pools_of, held, struck, shut: what is computed -/
instance : Inhabited Tie := ⟨⟨false, 0, []⟩⟩
def firstB (p : List Nat) (ts : List Tie) : Option Nat := (List.range ts.length).find? fun k => breaksF p (ts.getD k default)
theorem findR_false {q : Nat → Bool} {y : Nat} (h0 : (List.range y).find? q = none) (h : q y = false) : (List.range (y + 1)).find? q = none := by
  rw [List.range_succ, List.find?_append, h0, Option.none_or, List.find?_cons, h]
  rfl
theorem findR_true {q : Nat → Bool} {y n : Nat} (hy : y < n) (h0 : (List.range y).find? q = none) (h : q y = true) : (List.range n).find? q = some y := by
  have el : List.range n = List.range (y + 1) ++ (List.range (n - (y + 1))).map (y + 1 + ·) := by
    rw [← List.range_add]
    congr 1
    omega
  have ft : (List.range (y + 1)).find? q = some y := by
    rw [List.range_succ, List.find?_append, h0, Option.none_or, List.find?_cons, h]
  rw [el, List.find?_append, ft]
  rfl
theorem rangeAt {n i y : Nat} (e : (List.range n)[i]? = some y) : y = i ∧ i < n := by
  obtain ⟨h1, h2⟩ := List.getElem?_eq_some_iff.mp e
  rw [List.length_range] at h1
  rw [List.getElem_range] at h2
  exact ⟨h2.symm, h1⟩
theorem getDM {α : Type} {f : α → D} {xs : List α} {k : Nat} {x : α} (h : xs[k]? = some x) : (xs.map f).getD k .none = f x := by
  rw [List.getD_eq_getElem?_getD, List.getElem?_map, h]
  rfl
theorem getDS {α : Type} {xs : List α} {k : Nat} (d : α) (h : k < xs.length) : xs[k]? = some (xs.getD k d) := by
  rw [List.getD_eq_getElem?_getD, List.getElem?_eq_getElem h]
  rfl
theorem widthF_snoc (p : List Nat) (b : Nat) : widthF (p ++ [b]) = max (widthF p) (b + 1) := by
  unfold widthF
  rw [List.foldl_append]
  rfl
theorem widthF_lt : ∀ {p : List Nat} {s b : Nat}, p[s]? = some b → b < widthF p := fun {p s b} h => by
  have key : ∀ (p : List Nat) (m b : Nat), (b ∈ p ∨ b < m) → b < p.foldl (fun m k => max m (k + 1)) m := fun p => by
    induction p with
    | nil =>
      intro m b h
      rcases h with h | h
      · cases h
      · exact h
    | cons k p ih =>
      intro m b h
      rw [List.foldl_cons]
      refine ih _ b ?_
      rcases h with h | h
      · rcases List.mem_cons.mp h with h | h
        · right; omega
        · exact .inl h
      · right; omega
  exact key p 0 b (.inl (List.mem_of_getElem? h))
/-- each number is at most one more than those ahead -/
def Rgs (p : List Nat) : Prop := ∀ s b, p[s]? = some b → b ≤ widthF (p.take s)
theorem widthF_le {p : List Nat} (h : Rgs p) : ∀ {s : Nat}, s ≤ p.length → widthF (p.take s) ≤ s
  | 0, _ => Nat.le_refl _
  | s + 1, hs => by
    have e := getDS 0 (show s < p.length from hs)
    have := widthF_le h (Nat.le_of_succ_le hs)
    have hb := h s _ e
    rw [List.take_add_one, e, show (some (p.getD s 0)).toList = [p.getD s 0] from rfl, widthF_snoc]
    omega
structure PoolsOk (p : List Nat) (may pools : List (List Int)) : Prop where
  len : pools.length = widthF p
  mem : ∀ b, b < widthF p → ∀ x, x ∈ pools.getD b [] ↔ ∀ s, p[s]? = some b → x ∈ may.getD s []
  few : ∀ q ∈ pools, q.length ≤ 100
theorem getD_set {α : Type} {xs : List α} {i j : Nat} {x d : α} (h : i < xs.length) : (xs.set i x).getD j d = if j = i then x else xs.getD j d := by
  rw [List.getD_eq_getElem?_getD, List.getD_eq_getElem?_getD, List.getElem?_set]
  by_cases e : i = j
  · subst e
    rw [if_pos rfl, if_pos h, if_pos rfl]
    rfl
  · rw [if_neg e, if_neg (Ne.symm e)]
theorem getD_snoc {α : Type} {xs : List α} {j : Nat} {x d : α} : (xs ++ [x]).getD j d = if j = xs.length then x else xs.getD j d := by
  rw [List.getD_eq_getElem?_getD, List.getD_eq_getElem?_getD]
  by_cases e : j = xs.length
  · subst e
    rw [List.getElem?_concat_length, if_pos rfl]
    rfl
  · rw [if_neg e]
    by_cases h : j < xs.length
    · rw [List.getElem?_append_left h]
    · rw [List.getElem?_append_right (by omega), List.getElem?_eq_none (by simp; omega), List.getElem?_eq_none (by omega)]
theorem get_snoc {α : Type} {xs : List α} {j : Nat} {x y : α} (h : (xs ++ [x])[j]? = some y) : xs[j]? = some y ∨ (j = xs.length ∧ y = x) := by
  by_cases e : j < xs.length
  · rw [List.getElem?_append_left e] at h
    exact .inl h
  · rw [List.getElem?_append_right (by omega)] at h
    obtain ⟨h1, h2⟩ := List.getElem?_eq_some_iff.mp h
    simp only [List.length_singleton] at h1
    have e1 : j = xs.length := by omega
    subst e1
    right
    refine ⟨rfl, ?_⟩
    simpa using h2.symm
theorem poolsOk_new {p : List Nat} {may pools : List (List Int)} {m : List Int} (h : PoolsOk p may pools) (hm : may.getD p.length [] = m) (hz : m.length ≤ 100) : PoolsOk (p ++ [pools.length]) may (pools ++ [m]) := by
  refine ⟨?_, fun b hb x => ?_, fun q hq => ?_⟩
  · rw [widthF_snoc, List.length_append, List.length_singleton, h.len]
    omega
  · rw [getD_snoc]
    rw [widthF_snoc, h.len] at hb
    by_cases e : b = pools.length
    · rw [if_pos e]
      constructor
      · intro hx s hs
        rcases get_snoc hs with hs | ⟨rfl, _⟩
        · have := widthF_lt hs
          rw [← h.len] at this
          omega
        · rw [hm]
          exact hx
      · intro hx
        have := hx p.length (by rw [List.getElem?_concat_length, e])
        rw [hm] at this
        exact this
    · rw [if_neg e, h.mem b (by rw [← h.len] at hb ⊢; omega) x]
      constructor
      · intro hx s hs
        rcases get_snoc hs with hs | ⟨_, e2⟩
        · exact hx s hs
        · exact absurd e2 e
      · intro hx s hs
        refine hx s ?_
        rw [List.getElem?_append_left (List.getElem?_eq_some_iff.mp hs).1]
        exact hs
  · rcases List.mem_append.mp hq with hq | hq
    · exact h.few q hq
    · rw [List.mem_singleton.mp hq]
      exact hz
theorem poolsOk_old {p : List Nat} {may pools : List (List Int)} {b : Nat} (h : PoolsOk p may pools) (hb : b < widthF p) : PoolsOk (p ++ [b]) may (pools.set b ((pools.getD b []).filter fun x => decide (x ∈ may.getD p.length []))) := by
  have hbl : b < pools.length := by rw [h.len]; exact hb
  have ew : widthF (p ++ [b]) = widthF p := by
    rw [widthF_snoc]
    omega
  refine ⟨?_, fun b' hb' x => ?_, fun q hq => ?_⟩
  · rw [ew, List.length_set, h.len]
  · rw [ew] at hb'
    rw [getD_set hbl]
    by_cases e : b' = b
    · subst e
      rw [if_pos rfl, List.mem_filter, decide_eq_true_iff, h.mem b' hb' x]
      constructor
      · rintro ⟨h1, h2⟩ s hs
        rcases get_snoc hs with hs | ⟨rfl, _⟩
        · exact h1 s hs
        · exact h2
      · intro hx
        refine ⟨fun s hs => hx s ?_, hx p.length (by rw [List.getElem?_concat_length])⟩
        rw [List.getElem?_append_left (List.getElem?_eq_some_iff.mp hs).1]
        exact hs
    · rw [if_neg e, h.mem b' hb' x]
      constructor
      · intro hx s hs
        rcases get_snoc hs with hs | ⟨_, e2⟩
        · exact hx s hs
        · exact absurd e2 e
      · intro hx s hs
        refine hx s ?_
        rw [List.getElem?_append_left (List.getElem?_eq_some_iff.mp hs).1]
        exact hs
  · rcases List.mem_or_eq_of_mem_set hq with hq | hq
    · exact h.few q hq
    · rw [hq]
      refine Nat.le_trans (List.length_filter_le _ _) (h.few _ ?_)
      rw [List.getD_eq_getElem?_getD, List.getElem?_eq_getElem hbl]
      exact List.getElem_mem hbl
def heldF (may : List (List Int)) (done : List (Option Int)) : List (List Int) := (may.zip done).map fun q => match q.2 with
  | none => q.1
  | some b => [b]
def struckF (done : List (Option Int)) (steps : List Nat) : List (Option Int) := (List.range done.length).map fun k => if k ∈ steps then none else done.getD k none
section
variable {P : Program} {w : World} {K : PySem.W.Frag} {mg : Str → Option Value} {base : Heap}
abbrev s_first_broken : Stmt := topS 41
abbrev N_first_broken : List Str := ["pattern", "ties", "place", "tie"]
theorem sc_first_broken : FnScope N_first_broken ["pattern", "ties"] (defScope s_first_broken) := ⟨rfl, rfl, rfl, by decide +kernel, rfl, by decide +kernel, by decide +kernel⟩
theorem hb_first_broken (kV doc pm : Value) (an : Option Addr) (cdv ct : Value) (us : List Value) (hl : us.length = 2) : bindArgs (PySem.W.fnOf "first_broken" "first_broken" (defArgs s_first_broken) (defBody s_first_broken) (defScope s_first_broken) .none kV doc pm an cdv ct) ⟨us, []⟩ = pure ((["pattern", "ties"] : List Str).zip us) := match us, hl with
  | [_, _], _ => rfl
def R_first_broken : PSpec := fun _ ss W => ∃ (p : List Nat) (ts : List Tie), ss = [.dat (lnD p), .dat (ltD ts)] ∧ (∀ t ∈ ts, t.steps.length ≤ 100) ∧ W = (· = .dat (encON (firstB p ts)))
theorem ok_first_broken (B : Bt mg) (Dd : DefAt K mg "first_broken" s_first_broken) (F_breaks : Fn P w K mg base "breaks" ["pattern", "tie"] R_breaks 1) : Fn P w K mg base "first_broken" ["pattern", "ties"] R_first_broken 2 := by
  refine fn_mk Dd sc_first_broken (fun G ss W ⟨_, _, e, _⟩ => by rw [e]; rfl) hb_first_broken fun f cdv A outer s H hr G ss W h => ?_
  obtain ⟨p, ts, rfl, hz, rfl⟩ := h
  have nd := (sc_first_broken).nd
  have hl : (ts.map encT).length = ts.length := List.length_map _
  refine sxs_cons (sx_forT (ix_enum B.enumerate (ex_var 1 rfl)) (fun i Ψ B => Ψ = phS G ∧ ∃ u v, B = [.d (lnD p), .d (ltD ts), u, v] ∧ (List.range i).find? (fun k => breaksF p (ts.getD k default)) = none) ⟨rfl, _, _, rfl, rfl⟩ (fun i y Ψ B e iv => ?_) fun Ψ B iv => ?_)
  · obtain ⟨rfl, u, v, rfl, iv⟩ := iv
    obtain ⟨rfl, hi⟩ := rangeAt e
    rw [hl] at hi
    have et := getDS (default : Tie) hi
    have ht := hz _ (List.mem_of_getElem? et)
    show ∃ B', TX _ _ (.dat (.tuple [.int (y : Nat), (ts.map encT).getD y .none])) _ B' ∧ _
    rw [getDM et]
    refine ⟨_, tx_tup (txs_cons (tx_name 2 nd) (txs_cons (tx_name 3 nd) txs_nil)), sxs_one (sx_if (eb_of (ex_call F_breaks hr (ea_cons (ex_var 0 rfl) (ea_cons (ex_var 3 rfl) ea_nil)) fun G _ => ⟨_, _, rfl, ht, rfl⟩)).t (fun hk => sxs_one (sx_ret (ex_var 2 rfl) fun s w => ?_)) fun hk => sxs_nil ⟨rfl, .k (di (y : Nat)), .d (encT (ts.getD y default)), rfl, findR_false iv hk⟩)⟩
    subst w
    unfold firstB
    rw [findR_true hi iv hk]
    rfl
  · obtain ⟨rfl, u, v, rfl, iv⟩ := iv
    refine sxs_one (sx_ret ex_none fun s w => ?_)
    subst w
    rw [List.length_range, hl] at iv
    unfold firstB
    rw [iv]
    rfl
abbrev s_pools_of : Stmt := topS 43
abbrev N_pools_of : List Str := ["pattern", "may", "pools", "step", "block"]
theorem sc_pools_of : FnScope N_pools_of ["pattern", "may"] (defScope s_pools_of) := ⟨rfl, rfl, rfl, by decide +kernel, rfl, by decide +kernel, by decide +kernel⟩
theorem hb_pools_of (kV doc pm : Value) (an : Option Addr) (cdv ct : Value) (us : List Value) (hl : us.length = 2) : bindArgs (PySem.W.fnOf "pools_of" "pools_of" (defArgs s_pools_of) (defBody s_pools_of) (defScope s_pools_of) .none kV doc pm an cdv ct) ⟨us, []⟩ = pure ((["pattern", "may"] : List Str).zip us) := match us, hl with
  | [_, _], _ => rfl
def R_pools_of : PSpec := fun _ ss W => ∃ (p : List Nat) (may : List (List Int)), ss = [.dat (lnD p), .dat (llD may)] ∧ Rgs p ∧ p.length ≤ may.length ∧ may.length ≤ 100 ∧ (∀ m ∈ may, m.length ≤ 100) ∧
  W = fun s => ∃ pools, PoolsOk p may pools ∧ s = .dat (llD pools)
theorem ok_pools_of (B : Bt mg) (Dd : DefAt K mg "pools_of" s_pools_of) (F_common : Fn P w K mg base "common" ["one", "other"] R_common 1) : Fn P w K mg base "pools_of" ["pattern", "may"] R_pools_of 2 := by
  refine fn_mk Dd sc_pools_of (fun G ss W ⟨_, _, e, _⟩ => by rw [e]; rfl) hb_pools_of fun f cdv A outer s H hr G ss W h => ?_
  obtain ⟨p, may, rfl, hp, hpm, hz, hz2, rfl⟩ := h
  have nd := (sc_pools_of).nd
  have hl : (p.map encN).length = p.length := List.length_map _
  refine sxs_cons (sx_own 2 exn_nil ?_ nd)
  refine sxs_cons (sx_forT (ix_enum B.enumerate (ex_var 0 rfl)) (fun i Ψ B => Ψ = phS G ∧ ∃ pools u v, B = [.d (lnD p), .d (llD may), .lst (pools.map liD), u, v] ∧ PoolsOk (p.take i) may pools) ⟨rfl, [], _, _, rfl, ⟨rfl, fun b hb => absurd hb (Nat.not_lt_zero _), fun q hq => by cases hq⟩⟩ (fun i y Ψ B e iv => ?_) fun Ψ B iv => ?_)
  · obtain ⟨rfl, pools, u, v, rfl, iv⟩ := iv
    obtain ⟨rfl, hi⟩ := rangeAt e
    rw [hl] at hi
    have ey := getDS 0 hi
    have em := getDS ([] : List Int) (Nat.lt_of_lt_of_le hi hpm)
    have hm := hz2 _ (List.mem_of_getElem? em)
    have et : p.take (y + 1) = p.take y ++ [p.getD y 0] := by
      rw [List.take_add_one, ey]
      rfl
    have etl : (p.take y).length = y := by
      rw [List.length_take]
      omega
    have hb := hp y _ ey
    have hlp : (pools.map liD).length = pools.length := List.length_map _
    show ∃ B', TX _ _ (.dat (.tuple [.int (y : Nat), (p.map encN).getD y .none])) _ B' ∧ _
    rw [getDM ey]
    have hk0 : (decide ((p.getD y 0 : Nat) = (pools.length : Nat))) = decide (((p.getD y 0 : Nat) : Int) = (((pools.map liD).length : Nat) : Int)) := by
      rw [hlp]
      exact decide_eq_decide.mpr Int.ofNat_inj.symm
    refine ⟨_, tx_tup (txs_cons (tx_name 3 nd) (txs_cons (tx_name 4 nd) txs_nil)), ?_⟩
    have hwl := widthF_le hp (Nat.le_of_lt hi)
    refine sxs_one (sx_if (k := decide (p.getD y 0 = pools.length)) (EB.view (EB.cast (eb_eqI (ex_var 4 rfl) (ex_len B.len (ex_var 2 rfl) (.lst _))) hk0.symm)).t (fun hk => ?_) fun hk => ?_)
    · have hk := of_decide_eq_true hk
      refine sxs_one (sx_app 2 rfl (ex_list B.list (ex_ixM (f := liD) (ex_var 1 rfl) (ex_var 3 rfl) (atN em))) (by rw [hlp, iv.len]; omega) ⟨rfl, pools ++ [may.getD y []], .k (di (y : Nat)), .d (encN (p.getD y 0)), ?_, ?_⟩)
      · rw [List.map_append]
        rfl
      · rw [et, hk]
        exact poolsOk_new iv (by rw [etl]) hm
    · have hk := of_decide_eq_false hk
      have hb2 : p.getD y 0 < widthF (p.take y) := by
        rw [iv.len] at hk
        omega
      have hbl : p.getD y 0 < pools.length := by rw [iv.len]; exact hb2
      have ep := getDS ([] : List Int) hbl
      refine sxs_one (sx_setL 2 rfl (ex_call F_common hr (ea_cons (ex_ixO 2 rfl (ex_var 4 rfl) (atN (by rw [List.getElem?_map, ep]; rfl))) (ea_cons (ex_ixM (ex_var 1 rfl) (ex_var 3 rfl) (atN em)) ea_nil)) fun G _ => ⟨_, _, rfl, Nat.le_trans (iv.few _ (List.mem_of_getElem? ep)) (by decide), rfl⟩) (ex_var 4 rfl) (jn := p.getD y 0) ?_ ⟨rfl, pools.set (p.getD y 0) ((pools.getD (p.getD y 0) []).filter fun x => decide (x ∈ may.getD y [])), .k (di (y : Nat)), .d (encN (p.getD y 0)), ?_, ?_⟩)
      · unfold ixN
        rw [if_pos (Int.natCast_nonneg _), if_pos (by rw [hlp]; exact Int.ofNat_lt.mpr hbl)]
        rfl
      · rw [List.map_set]
        rfl
      · rw [et]
        have := poolsOk_old iv hb2
        rw [etl] at this
        exact this
  · obtain ⟨rfl, pools, u, v, rfl, iv⟩ := iv
    rw [List.length_range, hl, List.take_length] at iv
    exact sxs_one (sx_ret (ex_var 2 rfl) fun s w => ⟨pools, iv, w⟩)
abbrev s_held : Stmt := topS 47
abbrev N_held : List Str := ["may", "done", "row", "some", "hand"]
theorem sc_held : FnScope N_held ["may", "done"] (defScope s_held) := ⟨rfl, rfl, rfl, by decide +kernel, rfl, by decide +kernel, by decide +kernel⟩
theorem hb_held (kV doc pm : Value) (an : Option Addr) (cdv ct : Value) (us : List Value) (hl : us.length = 2) : bindArgs (PySem.W.fnOf "held" "held" (defArgs s_held) (defBody s_held) (defScope s_held) .none kV doc pm an cdv ct) ⟨us, []⟩ = pure ((["may", "done"] : List Str).zip us) := match us, hl with
  | [_, _], _ => rfl
def R_held : PSpec := fun _ ss W => ∃ (may : List (List Int)) (done : List (Option Int)), ss = [.dat (llD may), .dat (loD done)] ∧ may.length = done.length ∧ may.length ≤ 100 ∧ W = (· = .dat (llD (heldF may done)))
theorem ok_held (B : Bt mg) (Dd : DefAt K mg "held" s_held) : Fn P w K mg base "held" ["may", "done"] R_held 1 := by
  refine fn_mk Dd sc_held (fun G ss W ⟨_, _, e, _⟩ => by rw [e]; rfl) hb_held fun f cdv A outer s H hr G ss W h => ?_
  obtain ⟨may, done, rfl, hl, hz, rfl⟩ := h
  have nd := (sc_held).nd
  refine sxs_cons (sx_own 2 exn_nil ?_ nd)
  have hz2 : ((may.map liD).zip (done.map encO)) = (may.zip done).map fun q => (liD q.1, encO q.2) := by
    rw [List.zip_map]
    rfl
  refine sxs_cons (sx_forT (ix_cast (ix_zip B.zip (ex_var 0 rfl) (ex_var 1 rfl) (by rw [List.length_map, List.length_map]; exact hl)) (ys := may.zip done) (ι := fun q => .dat (.tuple [liD q.1, encO q.2])) (by rw [hz2, List.map_map]; rfl)) (fun i Ψ B => Ψ = phS G ∧ ∃ u v, B = [.d (llD may), .d (loD done), .lst (((may.zip done).take i).map fun q => liD (match q.2 with | none => q.1 | some b => [b])), u, v]) ⟨rfl, _, _, rfl⟩ (fun i y Ψ B e iv => ?_) fun Ψ B iv => ?_)
  · obtain ⟨rfl, u, v, rfl⟩ := iv
    have et : (may.zip done).take (i + 1) = (may.zip done).take i ++ [y] := by
      rw [List.take_add_one, e]
      rfl
    have hlt : (((may.zip done).take i).map fun q => liD (match q.2 with | none => q.1 | some b => [b])).length < 100000 := by
      rw [List.length_map, List.length_take, List.length_zip]
      omega
    refine ⟨_, tx_tup (txs_cons (tx_name 3 nd) (txs_cons (tx_name 4 nd) txs_nil)), ?_⟩
    refine sxs_one (sx_if (k := y.2.isNone) (EB.cast (eb_isN (ex_var 4 rfl)) (isN_encO _)).t (fun hk => ?_) fun hk => ?_)
    · refine sxs_one (sx_app 2 rfl (ex_list B.list (ex_var 3 rfl)) hlt ⟨rfl, .d (liD y.1), .d (encO y.2), ?_⟩)
      rw [et, List.map_append]
      have e2 : y.2 = none := Option.isNone_iff_eq_none.mp hk
      rw [List.map_cons, e2]
      rfl
    · refine sxs_one (sx_app 2 rfl (ex_lst (ds := [_]) (ea_cons (ex_var 4 rfl) ea_nil) (Nat.le_of_ble_eq_true rfl)) hlt ⟨rfl, .d (liD y.1), .d (encO y.2), ?_⟩)
      rw [et, List.map_append]
      cases q : y.2 with
      | none =>
        rw [q] at hk
        cases hk
      | some b =>
        rw [List.map_cons, q]
        rfl
  · obtain ⟨rfl, u, v, rfl⟩ := iv
    refine sxs_one (sx_ret (ex_var 2 rfl) fun s w => ?_)
    subst w
    rw [List.take_length]
    unfold heldF llD
    rw [List.map_map]
    rfl
abbrev s_struck : Stmt := topS 52
abbrev N_struck : List Str := ["done", "steps", "step"]
theorem sc_struck : FnScope N_struck ["done", "steps"] (defScope s_struck) := ⟨rfl, rfl, rfl, by decide +kernel, rfl, by decide +kernel, by decide +kernel⟩
theorem hb_struck (kV doc pm : Value) (an : Option Addr) (cdv ct : Value) (us : List Value) (hl : us.length = 2) : bindArgs (PySem.W.fnOf "struck" "struck" (defArgs s_struck) (defBody s_struck) (defScope s_struck) .none kV doc pm an cdv ct) ⟨us, []⟩ = pure ((["done", "steps"] : List Str).zip us) := match us, hl with
  | [_, _], _ => rfl
def R_struck : PSpec := fun _ ss W => ∃ (done : List (Option Int)) (steps : List Nat), ss = [.dat (loD done), .dat (lnD steps)] ∧ done.length ≤ 100 ∧ W = (· = .dat (loD (struckF done steps)))
theorem ok_struck (B : Bt mg) (Dd : DefAt K mg "struck" s_struck) : Fn P w K mg base "struck" ["done", "steps"] R_struck 1 := by
  refine fn_mk Dd sc_struck (fun G ss W ⟨_, _, e, _⟩ => by rw [e]; rfl) hb_struck fun f cdv A outer s H hr G ss W h => ?_
  obtain ⟨done, steps, rfl, hz, rfl⟩ := h
  have nd := (sc_struck).nd
  have hl : (done.map encO).length = done.length := List.length_map _
  have hb : ∀ y ∈ List.range (Int.toNat ((done.map encO).length : Nat)), y < done.length := fun y hy => by
    rw [Int.toNat_natCast, List.mem_range, hl] at hy
    exact hy
  refine sxs_one (sx_ret (ex_lc 2 (fun _ => true) (fun k => encO (if k ∈ steps then none else done.getD k none)) (ix_range B.range (ex_len B.len (ex_var 0 rfl) (.lst _)) (by omega) (by omega)) (by rw [List.length_range]; omega) (blkOk_by (N := N_struck) (sc := defScope s_struck) (by decide +kernel)) (fun y hy s H C cl fp => rfl) (fun y hy hq s H C cl fp => EX.cast (ex_if (eb_inN (ex_var 2 rfl) (ex_var 1 rfl)) (fun hc => EX.cast ex_none (by rw [if_pos (of_decide_eq_true hc)]; rfl)) (fun hc => EX.cast (ex_ixM (f := encO) (ex_var 0 rfl) (ex_var 2 rfl) (atN (getO (hb y hy)))) (by rw [if_neg (of_decide_eq_false hc)]))) rfl) (fun s H C cl fp => pg_name nd rfl (Or.inl rfl)) nd) fun s w => ?_)
  rw [w, List.filter_eq_self.mpr fun _ _ => rfl, Int.toNat_natCast, hl]
  unfold struckF loD
  rw [List.map_map]
  rfl
end
end Dl
/-! Deals: the plain mathematics of the search for a free badge. -/
namespace Dl
open PySem L2
/-- a dict from badges to places, as pairs -/
abbrev BP := List (Int × Nat)
def kvO (o : BP) : List (Key × V) := o.map fun q => ((Sum.inl q.1 : Key), V.int (q.2 : Nat))
def lk (o : BP) (b : Int) : Option Nat := (o.find? fun q => decide (q.1 = b)).map (·.2)
def putO (o : BP) (b : Int) (p : Nat) : BP := if (o.any fun q => decide (q.1 = b)) = true then o.map (fun q => if q.1 = b then (q.1, p) else q) else o ++ [(b, p)]
theorem key_eq (a b : Int) : (decide ((Sum.inl a : Key) = Sum.inl b)) = decide (a = b) := decide_eq_decide.mpr ⟨fun h => Sum.inl.inj h, fun h => by rw [h]⟩
theorem kvO_val (o : BP) (b : Int) : valV (kvO o) (.inl b) = (lk o b).map fun p => V.int (p : Nat) := by
  unfold valV kvO lk
  induction o with
  | nil => rfl
  | cons q o ih =>
    rw [List.map_cons, List.find?_cons, List.find?_cons]
    rw [key_eq]
    cases decide (q.1 = b) with
    | true => rfl
    | false => exact ih
theorem kvO_put (o : BP) (b : Int) (p : Nat) : putK (kvO o) (.inl b) (V.int (p : Nat)) = kvO (putO o b p) := by
  unfold putK putO kvO
  have e : ((o.map fun q => ((Sum.inl q.1 : Key), V.int (q.2 : Nat))).any fun kv => decide (kv.1 = (Sum.inl b : Key))) = o.any fun q => decide (q.1 = b) := by
    rw [List.any_map]
    congr 1
    funext q
    exact key_eq q.1 b
  rw [e]
  split
  · rw [List.map_map, List.map_map]
    refine List.map_congr_left fun q _ => ?_
    show (if (Sum.inl q.1 : Key) = Sum.inl b then ((Sum.inl q.1 : Key), V.int (p : Nat)) else (Sum.inl q.1, V.int (q.2 : Nat))) = ((Sum.inl (if q.1 = b then (q.1, p) else q).1 : Key), V.int ((if q.1 = b then (q.1, p) else q).2 : Nat))
    by_cases h : q.1 = b
    · rw [if_pos h, if_pos (by rw [h])]
    · rw [if_neg h, if_neg fun z => h (Sum.inl.inj z)]
  · rw [List.map_append]
    rfl
theorem kvO_len (o : BP) : (kvO o).length = o.length := List.length_map _
theorem putO_len (o : BP) (b : Int) (p : Nat) : (putO o b p).length ≤ o.length + 1 := by
  unfold putO
  split
  · rw [List.length_map]
    omega
  · rw [List.length_append]
    exact Nat.le_refl _
theorem lk_none {o : BP} {b : Int} : lk o b = none ↔ b ∉ o.map (·.1) := by
  unfold lk
  rw [Option.map_eq_none_iff, List.find?_eq_none]
  constructor
  · intro h hb
    obtain ⟨q, hq, e⟩ := List.mem_map.mp hb
    exact h q hq (decide_eq_true e)
  · intro h q hq e
    exact h (List.mem_map.mpr ⟨q, hq, of_decide_eq_true e⟩)
theorem lk_put (o : BP) (b x : Int) (p : Nat) : lk (putO o b p) x = if x = b then some p else lk o x := by
  unfold putO
  by_cases h : (o.any fun q => decide (q.1 = b)) = true
  · rw [if_pos h]
    unfold lk
    have key : ∀ o : BP, ((o.map fun q => if q.1 = b then (q.1, p) else q).find? fun q => decide (q.1 = x)).map (·.2) = if x = b then (if (o.any fun q => decide (q.1 = b)) = true then some p else none) else (o.find? fun q => decide (q.1 = x)).map (·.2) := fun o => by
      induction o with
      | nil => by_cases e : x = b <;> simp [e]
      | cons q o ih =>
        rw [List.map_cons, List.find?_cons, List.find?_cons, List.any_cons]
        by_cases e1 : q.1 = b
        · rw [if_pos e1]
          by_cases e2 : x = b
          · rw [if_pos e2, decide_eq_true (show q.1 = x by rw [e1, e2]), decide_eq_true e1]
            rfl
          · rw [if_neg e2, decide_eq_false (show ¬ q.1 = x from fun z => e2 (z ▸ e1)), ih, if_neg e2]
        · rw [if_neg e1, decide_eq_false e1, Bool.false_or]
          by_cases e3 : q.1 = x
          · rw [decide_eq_true e3, if_neg (show ¬ x = b from fun z => e1 (e3.trans z))]
          · rw [decide_eq_false e3]
            exact ih
    rw [key o]
    by_cases e : x = b
    · rw [if_pos e, if_pos e, if_pos h]
    · rw [if_neg e, if_neg e]
  · rw [if_neg h]
    have hn : lk o b = none := by
      unfold lk
      rw [Option.map_eq_none_iff, List.find?_eq_none]
      intro q hq e
      exact h (List.any_eq_true.mpr ⟨q, hq, e⟩)
    unfold lk at hn ⊢
    rw [List.find?_append]
    by_cases e : x = b
    · subst e
      rw [if_pos rfl]
      rw [Option.map_eq_none_iff] at hn
      rw [hn]
      simp
    · rw [if_neg e]
      cases (o.find? fun q => decide (q.1 = x)) with
      | some q => rfl
      | none => simp [Ne.symm e]
theorem lk_at {o : BP} (h : (o.map (·.1)).Nodup) {i : Nat} {q : Int × Nat} (e : o[i]? = some q) : lk o q.1 = some q.2 := by
  induction o generalizing i with
  | nil => simp at e
  | cons r o ih =>
    rw [List.map_cons, List.nodup_cons] at h
    unfold lk
    rw [List.find?_cons]
    cases i with
    | zero =>
      have e : r = q := by simpa using e
      subst e
      rw [decide_eq_true rfl]
      rfl
    | succ i =>
      have e : o[i]? = some q := by simpa using e
      have ne : ¬ r.1 = q.1 := fun z => h.1 (List.mem_map.mpr ⟨q, List.mem_of_getElem? e, z.symm⟩)
      rw [decide_eq_false ne]
      exact ih h.2 e
theorem key_ix {o : BP} (h : (o.map (·.1)).Nodup) {i j : Nat} {q r : Int × Nat} (e : o[i]? = some q) (e2 : o[j]? = some r) (k : q.1 = r.1) : i = j := by
  have a : (o.map (·.1))[i]? = some q.1 := by rw [List.getElem?_map, e]; rfl
  have b : (o.map (·.1))[j]? = some q.1 := by rw [List.getElem?_map, e2, k]; rfl
  obtain ⟨h1, e1⟩ := List.getElem?_eq_some_iff.mp a
  obtain ⟨h2, e2⟩ := List.getElem?_eq_some_iff.mp b
  exact (List.getElem_inj h).mp (e1.trans e2.symm)
theorem few_of_sub : ∀ (us l : List Int), us.Nodup → (∀ x ∈ us, x ∈ l) → us.length ≤ l.length
  | [], _, _, _ => Nat.zero_le _
  | u :: us, l, nd, h => by
    rw [List.nodup_cons] at nd
    have hu := h u List.mem_cons_self
    have ih := few_of_sub us (l.erase u) nd.2 fun x hx => (List.mem_erase_of_ne (fun e : x = u => nd.1 (by rw [← e]; exact hx))).mpr (h x (List.mem_cons_of_mem _ hx))
    rw [List.length_erase_of_mem hu] at ih
    have : 0 < l.length := List.length_pos_of_mem hu
    rw [List.length_cons]
    omega

/-! ### what is owned, ahead of a search -/
structure OwnOk (n start : Nat) (own : BP) : Prop where
  lt : ∀ x p, lk own x = some p → p < n ∧ p ≠ start
  inj : ∀ x y p, lk own x = some p → lk own y = some p → x = y
/-- the places met: the start, and where the badges met stand -/
def plc (own : BP) (start : Nat) (cm : BP) : List Nat := start :: cm.map fun q => (lk own q.1).getD 0
theorem plc_len (own : BP) (start : Nat) (cm : BP) : (plc own start cm).length = cm.length + 1 := by
  unfold plc
  rw [List.length_cons, List.length_map]
theorem plc_snoc (own : BP) (start : Nat) (cm : BP) (q : Int × Nat) : plc own start (cm ++ [q]) = plc own start cm ++ [(lk own q.1).getD 0] := by
  unfold plc
  rw [List.map_append]
  rfl
structure SeekI (pools : List (List Int)) (own : BP) (start : Nat) (cm : BP) : Prop where
  keys : (cm.map (·.1)).Nodup
  owned : ∀ q ∈ cm, (lk own q.1).isSome = true
  src : ∀ (i : Nat) (q : Int × Nat), cm[i]? = some q → q.1 ∈ pools.getD q.2 [] ∧ q.2 < pools.length ∧ (q.2 = start ∨ ∃ (j : Nat) (r : Int × Nat), j < i ∧ cm[j]? = some r ∧ lk own r.1 = some q.2)
theorem seekI_nil (pools : List (List Int)) (own : BP) (start : Nat) : SeekI pools own start [] := ⟨List.nodup_nil, (fun _ h => nomatch h), (fun _ _ h => nomatch h)⟩
theorem plc_at {pools : List (List Int)} {own : BP} {start : Nat} {cm : BP} (h : SeekI pools own start cm) {k p : Nat} (e : (plc own start cm)[k]? = some p) : p = start ∨ ∃ (j : Nat) (r : Int × Nat), j < cm.length ∧ cm[j]? = some r ∧ lk own r.1 = some p := by
  cases k with
  | zero =>
    left
    unfold plc at e
    simpa using e.symm
  | succ k =>
    right
    unfold plc at e
    rw [List.getElem?_cons_succ, List.getElem?_map] at e
    cases q : cm[k]? with
    | none => rw [q] at e; cases e
    | some r =>
      rw [q] at e
      have e : (lk own r.1).getD 0 = p := Option.some.inj e
      refine ⟨k, r, (List.getElem?_eq_some_iff.mp q).1, q, ?_⟩
      obtain ⟨v, hv⟩ := Option.isSome_iff_exists.mp (h.owned r (List.mem_of_getElem? q))
      rw [hv] at e ⊢
      exact congrArg some e
theorem plc_lt {pools : List (List Int)} {own : BP} {start : Nat} {cm : BP} (h : SeekI pools own start cm) (o : OwnOk pools.length start own) (hs : start < pools.length) {p : Nat} (e : p ∈ plc own start cm) : p < pools.length := by
  obtain ⟨k, e⟩ := List.mem_iff_getElem?.mp e
  rcases plc_at h e with rfl | ⟨_, r, _, _, e2⟩
  · exact hs
  · exact (o.lt _ _ e2).1
theorem plc_nodup {pools : List (List Int)} {own : BP} {start : Nat} {cm : BP} (h : SeekI pools own start cm) (o : OwnOk pools.length start own) : (plc own start cm).Nodup := by
  unfold plc
  rw [List.nodup_cons]
  constructor
  · intro hm
    obtain ⟨q, hq, e⟩ := List.mem_map.mp hm
    obtain ⟨v, hv⟩ := Option.isSome_iff_exists.mp (h.owned q hq)
    rw [hv] at e
    have e : v = start := e
    exact (o.lt _ _ hv).2 e
  · have key : ∀ cm : BP, (cm.map (·.1)).Nodup → (∀ q ∈ cm, (lk own q.1).isSome = true) → (cm.map fun q => (lk own q.1).getD 0).Nodup := fun cm => by
      induction cm with
      | nil => exact fun _ _ => List.nodup_nil
      | cons q cm ih =>
        intro nd ow
        rw [List.map_cons, List.nodup_cons] at nd
        rw [List.map_cons, List.nodup_cons]
        refine ⟨fun hm => ?_, ih nd.2 fun r hr => ow r (List.mem_cons_of_mem _ hr)⟩
        obtain ⟨r, hr, e⟩ := List.mem_map.mp hm
        obtain ⟨v, hv⟩ := Option.isSome_iff_exists.mp (ow q List.mem_cons_self)
        obtain ⟨u, hu⟩ := Option.isSome_iff_exists.mp (ow r (List.mem_cons_of_mem _ hr))
        rw [hv, hu] at e
        have e : u = v := e
        subst e
        have := o.inj _ _ _ hu hv
        exact nd.1 (List.mem_map.mpr ⟨r, hr, this⟩)
    exact key cm h.keys h.owned
theorem seekI_snoc {pools : List (List Int)} {own : BP} {start : Nat} {cm : BP} {x : Int} {p q : Nat} (h : SeekI pools own start cm) (hx : x ∉ cm.map (·.1)) (ho : lk own x = some q) (hp : x ∈ pools.getD p []) (hl : p < pools.length)
    (hs : p = start ∨ ∃ (j : Nat) (r : Int × Nat), j < cm.length ∧ cm[j]? = some r ∧ lk own r.1 = some p) : SeekI pools own start (cm ++ [(x, p)]) := by
  refine ⟨?_, fun r hr => ?_, fun i r e => ?_⟩
  · rw [List.map_append, List.nodup_append]
    refine ⟨h.keys, by simp, fun a ha b hb => ?_⟩
    have : b = x := by simpa using hb
    rw [this]
    exact fun e => hx (e ▸ ha)
  · rcases List.mem_append.mp hr with hr | hr
    · exact h.owned r hr
    · rw [List.mem_singleton.mp hr, ho]
      rfl
  · by_cases hi : i < cm.length
    · rw [List.getElem?_append_left hi] at e
      obtain ⟨a1, a2, a3⟩ := h.src i r e
      refine ⟨a1, a2, a3.imp_right fun ⟨j, t, b1, b2, b3⟩ => ⟨j, t, b1, ?_, b3⟩⟩
      rw [List.getElem?_append_left (by omega)]
      exact b2
    · rw [List.getElem?_append_right (by omega)] at e
      obtain ⟨k1, k2⟩ := List.getElem?_eq_some_iff.mp e
      simp only [List.length_singleton] at k1
      have e0 : i - cm.length = 0 := by omega
      simp only [e0, List.getElem_cons_zero] at k2
      subst k2
      refine ⟨hp, hl, hs.imp_right fun ⟨j, t, b1, b2, b3⟩ => ⟨j, t, by omega, ?_, b3⟩⟩
      rw [List.getElem?_append_left b1]
      exact b2
/-- a free badge was met -/
structure SeekF (pools : List (List Int)) (own : BP) (start : Nat) (cm0 : BP) (b : Int) (p : Nat) : Prop where
  i : SeekI pools own start cm0
  free : lk own b = none
  new : b ∉ cm0.map (·.1)
  mem : b ∈ pools.getD p []
  lt : p < pools.length
  src : p = start ∨ ∃ (j : Nat) (r : Int × Nat), j < cm0.length ∧ cm0[j]? = some r ∧ lk own r.1 = some p

/-! ### deals, and pools that are short -/
structure Dealt (pools : List (List Int)) (hs : List Int) : Prop where
  len : hs.length = pools.length
  nd : hs.Nodup
  mem : ∀ (p : Nat) (b : Int), hs[p]? = some b → b ∈ pools.getD p []
structure Short (pools : List (List Int)) (ns : List Nat) : Prop where
  up : ns.Pairwise (· < ·)
  lt : ∀ p ∈ ns, p < pools.length
  few : ∀ us : List Int, us.Nodup → (∀ x ∈ us, ∃ p ∈ ns, x ∈ pools.getD p []) → us.length < ns.length
theorem short_of {pools : List (List Int)} {own : BP} {start : Nat} {cm : BP} (h : SeekI pools own start cm) (o : OwnOk pools.length start own) (hs : start < pools.length) (hc : ∀ p ∈ plc own start cm, ∀ x ∈ pools.getD p [], x ∈ cm.map (·.1)) :
    ∃ ns : List Nat, sortI ((plc own start cm).map fun k : Nat => (k : Int)) = ns.map (fun k : Nat => (k : Int)) ∧ Short pools ns := by
  have hp := sortI_perm ((plc own start cm).map fun k : Nat => (k : Int))
  have hso := sortI_sorted ((plc own start cm).map fun k : Nat => (k : Int))
  have h0 : ∀ x ∈ sortI ((plc own start cm).map fun k : Nat => (k : Int)), 0 ≤ x := fun x hx => by
    obtain ⟨k, _, rfl⟩ := List.mem_map.mp (hp.mem_iff.mp hx)
    exact Int.natCast_nonneg k
  let ns : List Nat := (sortI ((plc own start cm).map fun k : Nat => (k : Int))).map Int.toNat
  have e1 : sortI ((plc own start cm).map fun k : Nat => (k : Int)) = ns.map (fun k : Nat => (k : Int)) := by
    show _ = ((sortI ((plc own start cm).map fun k : Nat => (k : Int))).map Int.toNat).map _
    rw [List.map_map]
    conv => lhs; rw [← List.map_id (sortI _)]
    refine List.map_congr_left fun x hx => ?_
    have := h0 x hx
    show x = ((x.toNat : Nat) : Int)
    omega
  have hp2 : ns.Perm (plc own start cm) := by
    have := hp.map Int.toNat
    rw [List.map_map] at this
    have e2 : (plc own start cm).map (Int.toNat ∘ fun k : Nat => (k : Int)) = plc own start cm := by
      conv => rhs; rw [← List.map_id (plc own start cm)]
      exact List.map_congr_left fun x _ => rfl
    rw [e2] at this
    exact this
  refine ⟨ns, e1, ?_, fun p hpm => plc_lt h o hs (hp2.mem_iff.mp hpm), fun us nd hu => ?_⟩
  · have nd : ns.Nodup := (hp2.nodup_iff).mpr (plc_nodup h o)
    rw [e1, List.pairwise_map] at hso
    have both := hso.and nd
    exact both.imp fun ⟨a, b⟩ => by omega
  · have h1 := few_of_sub us (cm.map (·.1)) nd fun x hx => by
      obtain ⟨p, hp3, hx2⟩ := hu x hx
      exact hc p (hp2.mem_iff.mp hp3) x hx2
    rw [List.length_map] at h1
    rw [hp2.length_eq, plc_len]
    omega

/-! ### the matching so far -/
structure MatchI (pools : List (List Int)) (h : List (Option Int)) (o : BP) (i : Nat) : Prop where
  len : h.length = pools.length
  mem : ∀ (p : Nat) (b : Int), h[p]? = some (some b) → b ∈ pools.getD p []
  own : ∀ (b : Int) (p : Nat), lk o b = some p ↔ h[p]? = some (some b)
  non : ∀ p, p < pools.length → (h.getD p none = none ↔ i ≤ p)
theorem match_start (pools : List (List Int)) : MatchI pools (List.replicate pools.length none) [] 0 := by
  have key : ∀ p b, (List.replicate pools.length (none : Option Int))[p]? = some (some b) → False := fun p b e => by
    have := List.mem_of_getElem? e
    have := List.eq_of_mem_replicate this
    cases this
  refine ⟨List.length_replicate, fun p b e => (key p b e).elim, fun b p => ⟨(fun e => nomatch e), fun e => (key p b e).elim⟩, fun p hp => ?_⟩
  rw [List.getD_eq_getElem?_getD, List.getElem?_replicate, if_pos hp]
  simp
theorem match_own {pools : List (List Int)} {h : List (Option Int)} {o : BP} {i : Nat} (m : MatchI pools h o i) : OwnOk pools.length i o := by
  refine ⟨fun x p e => ?_, fun x y p e1 e2 => ?_⟩
  · have e1 := (m.own x p).mp e
    have hp : p < pools.length := by
      rw [← m.len]
      exact (List.getElem?_eq_some_iff.mp e1).1
    refine ⟨hp, fun z => ?_⟩
    have := (m.non p hp).mpr (by omega)
    rw [List.getD_eq_getElem?_getD, e1] at this
    cases this
  · have a := (m.own x p).mp e1
    have b := (m.own y p).mp e2
    rw [a] at b
    exact Option.some.inj (Option.some.inj b)
/-- on the way back from a free badge: b is in hand, met as the t-th -/
structure AugI (pools : List (List Int)) (cm : BP) (i : Nat) (h : List (Option Int)) (o : BP) (b : Int) (t : Nat) : Prop where
  len : h.length = pools.length
  mem : ∀ (p : Nat) (b : Int), h[p]? = some (some b) → b ∈ pools.getD p []
  own : ∀ (x : Int) (p : Nat), x ≠ b → (lk o x = some p ↔ h[p]? = some (some x))
  out : ∀ p : Nat, h[p]? ≠ some (some b)
  non : ∀ p, p < pools.length → (h.getD p none = none ↔ i ≤ p)
  at_ : ∃ p, cm[t]? = some (b, p)
  src : ∀ t', t' ≤ t → ∀ q : Int × Nat, cm[t']? = some q → q.1 ∈ pools.getD q.2 [] ∧ q.2 < pools.length ∧ (q.2 = i ∨ ∃ (j : Nat) (r : Int × Nat), j < t' ∧ cm[j]? = some r ∧ h[q.2]? = some (some r.1))
theorem aug_start {pools : List (List Int)} {h : List (Option Int)} {o : BP} {i : Nat} {cm0 : BP} {b : Int} {p : Nat} (m : MatchI pools h o i) (f : SeekF pools o i cm0 b p) : AugI pools (cm0 ++ [(b, p)]) i h o b cm0.length := by
  refine ⟨m.len, m.mem, fun x p _ => m.own x p, fun q e => ?_, m.non, ⟨p, List.getElem?_concat_length⟩, fun t' ht q e => ?_⟩
  · have := (m.own b q).mpr e
    rw [f.free] at this
    cases this
  · by_cases hi : t' < cm0.length
    · rw [List.getElem?_append_left hi] at e
      obtain ⟨a1, a2, a3⟩ := f.i.src t' q e
      refine ⟨a1, a2, a3.imp_right fun ⟨j, r, b1, b2, b3⟩ => ⟨j, r, b1, ?_, (m.own _ _).mp b3⟩⟩
      rw [List.getElem?_append_left (by omega)]
      exact b2
    · have e0 : t' = cm0.length := by omega
      subst e0
      rw [List.getElem?_concat_length] at e
      cases e
      refine ⟨f.mem, f.lt, f.src.imp_right fun ⟨j, r, b1, b2, b3⟩ => ⟨j, r, b1, ?_, (m.own _ _).mp b3⟩⟩
      rw [List.getElem?_append_left b1]
      exact b2
theorem getO' {h : List (Option Int)} {p : Nat} {x : Option Int} (e : h[p]? = some x) : h.getD p none = x := by
  rw [List.getD_eq_getElem?_getD, e]
  rfl
theorem set_at {h : List (Option Int)} {p q : Nat} {x : Option Int} (hp : p < h.length) : (h.set p x)[q]? = if p = q then some x else h[q]? := by
  rw [List.getElem?_set]
  by_cases e : p = q
  · rw [if_pos e, if_pos e, if_pos hp]
  · rw [if_neg e, if_neg e]
theorem aug_last {pools : List (List Int)} {cm : BP} {i : Nat} {h : List (Option Int)} {o : BP} {b : Int} {t p : Nat} (a : AugI pools cm i h o b t) (e : cm[t]? = some (b, p)) (hn : h[p]? = some none) : MatchI pools (h.set p (some b)) (putO o b p) (i + 1) := by
  obtain ⟨s1, s2, s3⟩ := a.src t (Nat.le_refl _) _ e
  have hpi : p = i := by
    rcases s3 with s3 | ⟨j, r, _, _, z⟩
    · exact s3
    · rw [hn] at z
      cases z
  have hp : p < h.length := by rw [a.len]; exact s2
  refine ⟨by rw [List.length_set]; exact a.len, fun q x ex => ?_, fun x q => ?_, fun q hq => ?_⟩
  · rw [set_at hp] at ex
    by_cases z : p = q
    · rw [if_pos z] at ex
      cases ex
      rw [← z]
      exact s1
    · rw [if_neg z] at ex
      exact a.mem q x ex
  · rw [lk_put, set_at hp]
    by_cases hx : x = b
    · subst hx
      rw [if_pos rfl]
      by_cases z : p = q
      · rw [if_pos z, z]
        simp
      · rw [if_neg z]
        constructor
        · intro w
          exact absurd (Option.some.inj w) z
        · intro w
          exact absurd w (a.out q)
    · rw [if_neg hx, a.own x q hx]
      by_cases z : p = q
      · rw [if_pos z, ← z, hn]
        constructor
        · intro w; cases w
        · intro w
          exact absurd (Option.some.inj (Option.some.inj w)).symm hx
      · rw [if_neg z]
  · rw [List.getD_eq_getElem?_getD, set_at hp]
    by_cases z : p = q
    · rw [if_pos z]
      constructor
      · intro w; cases w
      · intro w; omega
    · rw [if_neg z, ← List.getD_eq_getElem?_getD, a.non q hq]
      omega
theorem aug_step {pools : List (List Int)} {cm : BP} {i : Nat} {h : List (Option Int)} {o : BP} {b y : Int} {t p : Nat} (kn : (cm.map (·.1)).Nodup) (a : AugI pools cm i h o b t) (e : cm[t]? = some (b, p)) (hn : h[p]? = some (some y)) :
    ∃ j, j < t ∧ AugI pools cm i (h.set p (some b)) (putO o b p) y j := by
  obtain ⟨s1, s2, s3⟩ := a.src t (Nat.le_refl _) _ e
  have hp : p < h.length := by rw [a.len]; exact s2
  have hyb : y ≠ b := fun z => a.out p (by rw [hn, z])
  have hpi : p ≠ i := fun z => by
    have := (a.non p s2).mpr (by omega)
    rw [getO' hn] at this
    cases this
  obtain ⟨j, r, j1, j2, j3⟩ : ∃ (j : Nat) (r : Int × Nat), j < t ∧ cm[j]? = some r ∧ h[p]? = some (some r.1) := by
    rcases s3 with z | z
    · exact absurd z hpi
    · exact z
  rw [hn] at j3
  have hr : r.1 = y := (Option.some.inj (Option.some.inj j3)).symm
  have oy : lk o y = some p := (a.own y p hyb).mpr hn
  refine ⟨j, j1, by rw [List.length_set]; exact a.len, fun q x ex => ?_, fun x q hx => ?_, fun q ex => ?_, fun q hq => ?_, ⟨r.2, by rw [j2, ← hr]⟩, fun t' ht q eq => ?_⟩
  · rw [set_at hp] at ex
    by_cases z : p = q
    · rw [if_pos z] at ex
      cases ex
      rw [← z]
      exact s1
    · rw [if_neg z] at ex
      exact a.mem q x ex
  · rw [lk_put, set_at hp]
    by_cases hxb : x = b
    · subst hxb
      rw [if_pos rfl]
      by_cases z : p = q
      · rw [if_pos z, z]
        simp
      · rw [if_neg z]
        constructor
        · intro w
          exact absurd (Option.some.inj w) z
        · intro w
          exact absurd w (a.out q)
    · rw [if_neg hxb, a.own x q hxb]
      by_cases z : p = q
      · rw [if_pos z, ← z, hn]
        constructor
        · intro w
          exact absurd (Option.some.inj (Option.some.inj w)).symm hx
        · intro w
          exact absurd (Option.some.inj (Option.some.inj w)).symm hxb
      · rw [if_neg z]
  · rw [set_at hp] at ex
    by_cases z : p = q
    · rw [if_pos z] at ex
      exact hyb (Option.some.inj (Option.some.inj ex)).symm
    · rw [if_neg z] at ex
      have := (a.own y q hyb).mpr ex
      rw [oy] at this
      exact z (Option.some.inj this)
  · rw [List.getD_eq_getElem?_getD, set_at hp]
    by_cases z : p = q
    · rw [if_pos z, ← z]
      constructor
      · intro w; cases w
      · intro w
        have := (a.non p s2).mpr w
        rw [getO' hn] at this
        cases this
    · rw [if_neg z, ← List.getD_eq_getElem?_getD, a.non q hq]
  · obtain ⟨a1, a2, a3⟩ := a.src t' (by omega) q eq
    refine ⟨a1, a2, a3.imp_right fun ⟨j', r', b1, b2, b3⟩ => ⟨j', r', b1, b2, ?_⟩⟩
    have ne : p ≠ q.2 := fun z => by
      rw [← z, hn] at b3
      have e1 : y = r'.1 := Option.some.inj (Option.some.inj b3)
      have := key_ix kn j2 b2 (hr.trans e1)
      omega
    rw [set_at hp, if_neg ne]
    exact b3
theorem match_end {pools : List (List Int)} {h : List (Option Int)} {o : BP} (m : MatchI pools h o pools.length) : ∃ hs : List Int, h = hs.map some ∧ Dealt pools hs := by
  have hall : ∀ p, p < h.length → ∃ b, h[p]? = some (some b) := fun p hp => by
    have hp' : p < pools.length := by rw [← m.len]; exact hp
    cases q : h[p]? with
    | none => exact absurd (List.getElem?_eq_none_iff.mp q) (by omega)
    | some x =>
      cases x with
      | some b => exact ⟨b, rfl⟩
      | none =>
        have := (m.non p hp').mp (getO' q)
        omega
  let hs : List Int := h.map fun x => x.getD 0
  have eh : h = hs.map some := by
    show h = (h.map fun x => x.getD 0).map some
    apply List.ext_getElem?
    intro p
    rw [List.getElem?_map, List.getElem?_map]
    by_cases hp : p < h.length
    · obtain ⟨b, e⟩ := hall p hp
      rw [e]
      rfl
    · rw [List.getElem?_eq_none (by omega)]
      rfl
  have get : ∀ p b, hs[p]? = some b → h[p]? = some (some b) := fun p b e => by
    rw [eh, List.getElem?_map, e]
    rfl
  refine ⟨hs, eh, by show (h.map _).length = _; rw [List.length_map]; exact m.len, ?_, fun p b e => m.mem p b (get p b e)⟩
  rw [List.nodup_iff_pairwise_ne, List.pairwise_iff_getElem]
  intro i j hi hj hij he
  have e1 := get i _ (List.getElem?_eq_getElem hi)
  have e2 := get j _ (List.getElem?_eq_getElem hj)
  have o1 := (m.own _ i).mpr e1
  have o2 := (m.own _ j).mpr e2
  rw [he, o2] at o1
  have := Option.some.inj o1
  omega
end Dl
namespace Dl
open PySem PySem.Spec PyProof.Rows L2
section
variable {P : Program} {w : World} {K : PySem.W.Frag} {mg : Str → Option Value} {base : Heap}
abbrev s_seek : Stmt := topS 26
abbrev N_seek : List Str := ["pools", "owner", "start", "places", "came", "at", "place", "badge"]
theorem sc_seek : FnScope N_seek ["pools", "owner", "start"] (defScope s_seek) := ⟨rfl, rfl, rfl, by decide +kernel, rfl, by decide +kernel, by decide +kernel⟩
theorem hb_seek (kV doc pm : Value) (an : Option Addr) (cdv ct : Value) (us : List Value) (hl : us.length = 3) : bindArgs (PySem.W.fnOf "seek" "seek" (defArgs s_seek) (defBody s_seek) (defScope s_seek) .none kV doc pm an cdv ct) ⟨us, []⟩ = pure ((["pools", "owner", "start"] : List Str).zip us) := match us, hl with
  | [_, _, _], _ => rfl
def W_seek (pools : List (List Int)) (own : BP) (start : Nat) (s : Ds) : Prop :=
  (∃ cm0 b p, SeekF pools own start cm0 b p ∧ s = .tup [di b, .dic (kvO (cm0 ++ [(b, p)])), .dat (lnD (plc own start cm0))]) ∨
  (∃ cm, SeekI pools own start cm ∧ (∀ p ∈ plc own start cm, ∀ x ∈ pools.getD p [], x ∈ cm.map (·.1)) ∧ s = .tup [.dat .none, .dic (kvO cm), .dat (lnD (plc own start cm))])
def R_seek : PSpec := fun _ ss W => ∃ (pools : List (List Int)) (own : BP) (start : Nat), ss = [.dat (llD pools), .dic (kvO own), di (start : Nat)] ∧ start < pools.length ∧ pools.length ≤ 100 ∧ OwnOk pools.length start own ∧ W = W_seek pools own start
theorem ok_seek (B : Bt mg) (Dd : DefAt K mg "seek" s_seek) : FnF P w K mg base "seek" ["pools", "owner", "start"] R_seek 1 := by
  refine fnF_mk Dd sc_seek (fun G ss W ⟨_, _, _, e, _⟩ => by rw [e]; rfl) hb_seek fun f cdv A outer s H hr G ss W h => ?_
  obtain ⟨pools, own, start, rfl, hst, hz, ow, rfl⟩ := h
  have nd := (sc_seek).nd
  have hu := hu_of2 hr
  have hu1 := hu_of1 hr
  have few : ∀ cm, SeekI pools own start cm → cm.length + 1 ≤ pools.length := fun cm i => by
    have := nodup_bound pools.length _ (plc_nodup i ow) fun x hx => plc_lt i ow hst hx
    rw [plc_len] at this
    exact this
  refine sxs_cons (sx_own 3 (exn_lst (ds := [encN start]) (ea_cons (ex_var 2 rfl) ea_nil) (Nat.le_of_ble_eq_true rfl)) ?_ nd)
  refine sxs_cons (sx_dict 4 ?_ nd (hs2 := by rfl))
  refine sxs_cons (sx_asg 5 ex_int (fun s w => ?_) nd)
  subst w
  refine sxs_cons (sx_while (fun m Ψ B => Ψ = phS G ∧ ∃ (cm : BP) (at_ : Nat) (u v : Sl), B = [.d (llD pools), .k (.dic (kvO own)), .k (di (start : Nat)), .lst ((plc own start cm).map encN), .dct (kvO cm), .k (di (at_ : Nat)), u, v] ∧ SeekI pools own start cm ∧ at_ ≤ (plc own start cm).length ∧
    (∀ k p, k < at_ → (plc own start cm)[k]? = some p → ∀ x ∈ pools.getD p [], x ∈ cm.map (·.1)) ∧ m = pools.length + 1 - at_) ⟨_, rfl, [], 0, .un, .un, rfl, seekI_nil _ _ _, Nat.zero_le _, fun k p h => absurd h (Nat.not_lt_zero _), rfl⟩ fun m Ψ B iv => ?_)
  obtain ⟨rfl, cm, at_, u, v, rfl, si, hat, hdone, rfl⟩ := iv
  have hpl : ((plc own start cm).map encN).length = (plc own start cm).length := List.length_map _
  refine ⟨decide (at_ < (plc own start cm).length), ET.view (EB.cast (eb_lt (ex_var 5 rfl) (ex_len B.len (ex_var 3 rfl) (.lst _))) (by rw [hpl]; exact decide_eq_decide.mpr Int.ofNat_lt)).t, fun hk => ?_, fun hk => ?_⟩
  · have hk := of_decide_eq_true hk
    have epl := getDS 0 hk
    have hp := plc_lt si ow hst (List.mem_of_getElem? epl)
    have epo := getDS ([] : List Int) hp
    refine sxs_cons (sx_asg 6 (EX.view (ex_ixM (f := encN) (ex_var 3 rfl) (ex_var 5 rfl) (atN epl)) trivial) (fun s w => ?_) nd)
    subst w
    refine sxs_cons (sx_forT (ix_lstM (ex_ixM (f := liD) (ex_var 0 rfl) (ex_var 6 rfl) (atN epo))) (fun i Ψ B => Ψ = phS G ∧ ∃ (cm' : BP) (v : Sl), B = [.d (llD pools), .k (.dic (kvO own)), .k (di (start : Nat)), .lst ((plc own start cm').map encN), .dct (kvO cm'), .k (di (at_ : Nat)), .k (di ((plc own start cm).getD at_ 0 : Nat)), v] ∧ SeekI pools own start cm' ∧
      (∃ rest, plc own start cm' = plc own start cm ++ rest) ∧ (∀ x ∈ cm.map (·.1), x ∈ cm'.map (·.1)) ∧ ∀ x ∈ (pools.getD ((plc own start cm).getD at_ 0) []).take i, x ∈ cm'.map (·.1)) ⟨rfl, cm, v, rfl, si, ⟨[], by simp⟩, fun _ h => h, fun x h => by simp at h⟩ (fun i y Ψ B e iv => ?_) fun Ψ B iv => ?_)
    · obtain ⟨rfl, cm', v', rfl, si', ⟨rest, hrest⟩, hsub, htk⟩ := iv
      have et : (pools.getD ((plc own start cm).getD at_ 0) []).take (i + 1) = (pools.getD ((plc own start cm).getD at_ 0) []).take i ++ [y] := by
        rw [List.take_add_one, e]
        rfl
      have hy : y ∈ pools.getD ((plc own start cm).getD at_ 0) [] := List.mem_of_getElem? e
      have hsrc : (plc own start cm).getD at_ 0 = start ∨ ∃ (j : Nat) (r : Int × Nat), j < cm'.length ∧ cm'[j]? = some r ∧ lk own r.1 = some ((plc own start cm).getD at_ 0) := by
        refine plc_at si' (k := at_) ?_
        rw [hrest, List.getElem?_append_left hk]
        exact epl
      have hin : (valV (kvO cm') (.inl y)).isSome = decide (y ∈ cm'.map (·.1)) := by
        rw [kvO_val, Option.isSome_map]
        by_cases h : y ∈ cm'.map (·.1)
        · rw [decide_eq_true h]
          cases q : lk cm' y with
          | none => exact absurd h (lk_none.mp q)
          | some _ => rfl
        · rw [decide_eq_false h, lk_none.mpr h]
          rfl
      have hf := few cm' si'
      refine ⟨_, tx_name 7 nd, sxs_one (sx_if (EB.view (EB.cast (eb_dninD (ex_var 7 rfl) (ex_var 4 rfl) rfl hu1) (congrArg Bool.not hin))).t (fun hk2 => ?_) fun hk2 => sxs_nil ⟨rfl, cm', _, rfl, si', ⟨rest, hrest⟩, hsub, fun x hx => ?_⟩)⟩
      · have hny : y ∉ cm'.map (·.1) := of_decide_eq_false (by simpa using hk2)
        have hput : putO cm' y ((plc own start cm).getD at_ 0) = cm' ++ [(y, (plc own start cm).getD at_ 0)] := by
          unfold putO
          rw [if_neg]
          intro hc
          obtain ⟨q, hq, e⟩ := List.any_eq_true.mp hc
          exact hny (List.mem_map.mpr ⟨q, hq, of_decide_eq_true e⟩)
        refine sxs_cons (sx_setD 4 rfl hu1 (ex_var 6 rfl) trivial (ex_var 7 rfl) rfl (by rw [kvO_len]; omega) ?_)
        have ekv : putK (kvO cm') (.inl y) (vOf (.int ((plc own start cm).getD at_ 0 : Nat))) = kvO (cm' ++ [(y, (plc own start cm).getD at_ 0)]) := by
          rw [← hput, ← kvO_put]
          rfl
        rw [ekv]
        refine sxs_cons (sx_if (k := (lk own y).isNone) (EB.cast (eb_dninD (ex_var 7 rfl) (ex_var 1 rfl) rfl hu1) (by rw [kvO_val, Option.isSome_map]; cases lk own y <;> rfl)).t (fun hk3 => ?_) fun hk3 => sxs_nil ?_)
        · refine sxs_one (sx_ret3 4 3 (ex_var 7 rfl) trivial rfl rfl (fun d hd => scs_nat hd) ?_)
          exact .inl ⟨cm', y, (plc own start cm).getD at_ 0, ⟨si', Option.isNone_iff_eq_none.mp hk3, hny, hy, hp, hsrc⟩, rfl⟩
        · obtain ⟨q, hq⟩ : ∃ q, lk own y = some q := by
            cases z : lk own y with
            | none =>
              rw [z] at hk3
              cases hk3
            | some q => exact ⟨q, rfl⟩
          refine sxs_one (sx_app 3 rfl (ex_dget (d' := .int (q : Nat)) (ex_var 1 rfl) (ex_var 7 rfl) rfl (by rw [kvO_val, hq]; rfl) trivial hu1) (by rw [List.length_map, plc_len]; omega) ⟨rfl, cm' ++ [(y, (plc own start cm).getD at_ 0)], .k (di y), ?_, seekI_snoc si' hny hq hy hp hsrc, ⟨rest ++ [q], ?_⟩, fun x hx => ?_, fun x hx => ?_⟩)
          · rw [plc_snoc, hq, List.map_append]
            rfl
          · rw [plc_snoc, hq, hrest, List.append_assoc]
            rfl
          · rw [List.map_append]
            exact List.mem_append_left _ (hsub x hx)
          · rw [et] at hx
            rw [List.map_append]
            rcases List.mem_append.mp hx with hx | hx
            · exact List.mem_append_left _ (htk x hx)
            · rw [List.mem_singleton.mp hx]
              exact List.mem_append_right _ (by simp)
      · have hny : y ∈ cm'.map (·.1) := by simpa using hk2
        rw [et] at hx
        rcases List.mem_append.mp hx with hx | hx
        · exact htk x hx
        · rw [List.mem_singleton.mp hx]
          exact hny
    · obtain ⟨rfl, cm', v', rfl, si', ⟨rest, hrest⟩, hsub, htk⟩ := iv
      rw [List.take_length] at htk
      have hf := few cm' si'
      have hlen : (plc own start cm').length = (plc own start cm).length + rest.length := by
        rw [hrest, List.length_append]
      rw [plc_len] at hlen
      refine sxs_one (sx_asg 5 (ex_addI (ex_var 5 rfl) ex_int) (fun s w => ⟨_, ?_, rfl, cm', at_ + 1, .k (di ((plc own start cm).getD at_ 0 : Nat)), v', ?_, si', ?_, fun k p hk2 e => ?_, rfl⟩) nd)
      · omega
      · subst w
        rfl
      · rw [plc_len]
        omega
      · by_cases h : k < at_
        · have e' : (plc own start cm)[k]? = some p := by
            rw [hrest, List.getElem?_append_left (by omega)] at e
            exact e
          intro x hx
          exact hsub x (hdone k p h e' x hx)
        · have h' : k = at_ := by omega
          subst h'
          rw [hrest, List.getElem?_append_left hk, epl] at e
          have e := Option.some.inj e
          intro x hx
          rw [← e] at hx
          exact htk x hx
  · have hk := of_decide_eq_false hk
    refine sxs_one (sx_ret3 4 3 ex_none trivial rfl rfl (fun d hd => scs_nat hd) ?_)
    refine .inr ⟨cm, si, fun p hp x hx => ?_, rfl⟩
    obtain ⟨k, e⟩ := List.mem_iff_getElem?.mp hp
    exact hdone k p (Nat.lt_of_lt_of_le (List.getElem?_eq_some_iff.mp e).1 (Nat.le_of_not_lt hk)) e x hx
end
end Dl
namespace Dl
open PySem PySem.Spec PyProof.Rows L2
section
variable {P : Program} {w : World} {K : PySem.W.Frag} {mg : Str → Option Value} {base : Heap}
abbrev s_deal : Stmt := topS 27
abbrev N_deal : List Str := ["pools", "hands", "owner", "start", "badge", "came", "places", "place", "before"]
theorem sc_deal : FnScope N_deal ["pools"] (defScope s_deal) := ⟨rfl, rfl, rfl, by decide +kernel, rfl, by decide +kernel, by decide +kernel⟩
theorem hb_deal (kV doc pm : Value) (an : Option Addr) (cdv ct : Value) (us : List Value) (hl : us.length = 1) : bindArgs (PySem.W.fnOf "deal" "deal" (defArgs s_deal) (defBody s_deal) (defScope s_deal) .none kV doc pm an cdv ct) ⟨us, []⟩ = pure ((["pools"] : List Str).zip us) := match us, hl with
  | [_], _ => rfl
def W_deal (pools : List (List Int)) (s : Ds) : Prop :=
  (∃ hs, Dealt pools hs ∧ s = .dat (.tuple [.str "dealt", liD hs])) ∨ (∃ ns, Short pools ns ∧ s = .dat (.tuple [.str "short", lnD ns]))
def R_deal : PSpec := fun _ ss W => ∃ (pools : List (List Int)), ss = [.dat (llD pools)] ∧ pools.length ≤ 100 ∧ W = W_deal pools
theorem ok_deal (B : Bt mg) (Dd : DefAt K mg "deal" s_deal) (F_seek : FnF P w K mg base "seek" ["pools", "owner", "start"] R_seek 1) : Fn P w K mg base "deal" ["pools"] R_deal 2 := by
  refine fn_mk Dd sc_deal (fun G ss W ⟨_, e, _⟩ => by rw [e]; rfl) hb_deal fun f cdv A outer s H hr G ss W h => ?_
  obtain ⟨pools, rfl, hz, rfl⟩ := h
  have nd := (sc_deal).nd
  have hu := hu_of2 hr
  have hu1 := hu_of1 hr
  have hl : (pools.map liD).length = pools.length := List.length_map _
  refine sxs_cons (sx_own 1 (exn_rep (d := .none) ex_none trivial (ex_len B.len (ex_var 0 rfl) (.lst _)) (by omega) (by omega)) ?_ nd)
  refine sxs_cons (sx_dict 2 ?_ nd (hs2 := by rfl))
  refine sxs_cons (sx_forT (ix_range B.range (ex_len B.len (ex_var 0 rfl) (.lst _)) (by omega) (by omega)) (fun i Ψ B => Ψ = phS G ∧ ∃ (h : List (Option Int)) (o : BP) (u1 u2 u3 u4 u5 u6 : Sl), B = [.d (llD pools), .lst (h.map encO), .dct (kvO o), u1, u2, u3, u4, u5, u6] ∧ MatchI pools h o i ∧ o.length ≤ i * 101) ⟨rfl, List.replicate pools.length none, [], .un, .un, .un, .un, .un, .un, ?_, match_start pools, Nat.le_refl _⟩ (fun i y Ψ B e iv => ?_) fun Ψ B iv => ?_)
  · show [_, _, _, _, _, _, _, _, _] = [_, _, _, _, _, _, _, _, _]
    rw [Int.toNat_natCast, hl, List.map_replicate]
    rfl
  · obtain ⟨rfl, h, o, u1, u2, u3, u4, u5, u6, rfl, mi, ho⟩ := iv
    obtain ⟨rfl, hi⟩ := rangeAt e
    rw [Int.toNat_natCast, hl] at hi
    have ow := match_own mi
    refine ⟨_, tx_name 3 nd, ?_⟩
    refine sxs_cons (sx_unp (exw_callF (W := W_seek pools o y) F_seek hr (ea_cons (ex_var 0 rfl) (ea_cons (ex_var 2 rfl) (ea_cons (ex_var 3 rfl) ea_nil))) fun G => ⟨pools, o, y, rfl, hi, hz, ow, rfl⟩) fun s w => ?_)
    rcases w with ⟨cm0, b, p, sf, rfl⟩ | ⟨cm, si, hall, rfl⟩
    · refine ⟨_, tx_tupS (txs_cons (tx_name 4 nd) (txs_cons (tx_name 5 nd) (txs_cons (tx_name 6 nd) txs_nil))), ?_⟩
      show SXs _ _ _ _ _ _
      refine sxs_cons (sx_if (k := false) (EB.cast (eb_isN (ex_var 4 rfl)) (by rfl)).t (fun hk => by cases hk) fun _ => sxs_nil ?_)
      have kn : ((cm0 ++ [(b, p)]).map (·.1)).Nodup := by
        rw [List.map_append, List.nodup_append]
        refine ⟨sf.i.keys, by simp, fun a ha c hc => ?_⟩
        have : c = b := by simpa using hc
        rw [this]
        exact fun z => sf.new (z ▸ ha)
      have hcm : cm0.length + 1 ≤ pools.length := by
        have := nodup_bound pools.length _ (plc_nodup sf.i ow) fun x hx => plc_lt sf.i ow hi hx
        rw [plc_len] at this
        exact this
      refine sxs_one (sx_while (fun m Ψ B => Ψ = phS G ∧ ∃ (h : List (Option Int)) (o : BP) (u5 u6 : Sl) (cur : Option Int), B = [.d (llD pools), .lst (h.map encO), .dct (kvO o), .k (di (y : Nat)), .d (encO cur), .k (.dic (kvO (cm0 ++ [(b, p)]))), .d (lnD (plc _ y cm0)), u5, u6] ∧
        ((∃ x t, cur = some x ∧ m = t + 1 ∧ AugI pools (cm0 ++ [(b, p)]) y h o x t ∧ o.length + t + 1 ≤ (y + 1) * 101) ∨ (cur = none ∧ m = 0 ∧ MatchI pools h o (y + 1) ∧ o.length ≤ (y + 1) * 101))) ⟨_, rfl, h, o, u5, u6, some b, rfl, .inl ⟨b, cm0.length, rfl, rfl, aug_start mi sf, by omega⟩⟩ fun m Ψ B iv => ?_)
      obtain ⟨rfl, h, o, u5, u6, cur, rfl, iv⟩ := iv
      refine ⟨_, (eb_notN (ex_var 4 rfl)).t, fun hk => ?_, fun hk => ?_⟩
      · rcases iv with ⟨x, t, rfl, rfl, au, hlo⟩ | ⟨rfl, _⟩
        · obtain ⟨q, eq⟩ := au.at_
          have hq := au.src t (Nat.le_refl _) _ eq
          have hql : q < h.length := by rw [au.len]; exact hq.2.1
          have hlk := lk_at kn eq
          have eqh := getO (done := h) hql
          refine sxs_cons (sx_asg 7 (ex_dget (d' := .int (q : Nat)) (ex_var 5 rfl) (ex_var 4 rfl) rfl (by rw [kvO_val, hlk]; rfl) trivial hu1) (fun s w => ?_) nd)
          subst w
          refine sxs_cons (sx_asg 8 (EX.view (ex_ixM (f := encO) (ex_var 1 rfl) (ex_var 7 rfl) (atN eqh)) (sc_encO _)) (fun s w => ?_) nd)
          subst w
          refine sxs_cons (sx_setL 1 rfl (ex_var 4 rfl) (ex_var 7 rfl) (jn := q) ?_ ?_)
          · unfold ixN
            rw [if_pos (Int.natCast_nonneg _), if_pos (by rw [List.length_map]; exact Int.ofNat_lt.mpr hql)]
            rfl
          refine sxs_cons (sx_setD 2 rfl hu1 (ex_var 7 rfl) trivial (ex_var 4 rfl) rfl (by rw [kvO_len]; omega) ?_)
          have ekv : putK (kvO o) (.inl x) (vOf (.int (q : Nat))) = kvO (putO o x q) := kvO_put o x q
          have eset : (h.map encO).set q (encO (some x)) = (h.set q (some x)).map encO := List.map_set.symm
          rw [ekv, eset]
          have hpl := putO_len o x q
          cases hb : h.getD q none with
          | none =>
            rw [hb] at eqh
            refine sxs_one (sx_asg 4 (ex_var 8 rfl) (fun s w => ⟨0, by omega, rfl, h.set q (some x), putO o x q, .k (di (q : Nat)), .d (encO none), none, ?_, .inr ⟨rfl, rfl, aug_last au eq eqh, by omega⟩⟩) nd)
            subst w
            rfl
          | some z =>
            rw [hb] at eqh
            obtain ⟨j, hj, au2⟩ := aug_step kn au eq eqh
            refine sxs_one (sx_asg 4 (ex_var 8 rfl) (fun s w => ⟨j + 1, by omega, rfl, h.set q (some x), putO o x q, .k (di (q : Nat)), .d (encO (some z)), some z, ?_, .inl ⟨z, j, rfl, rfl, au2, by omega⟩⟩) nd)
            subst w
            rfl
        · cases hk
      · rcases iv with ⟨x, t, rfl, _⟩ | ⟨rfl, rfl, mi2, hlo⟩
        · cases hk
        · exact ⟨rfl, h, o, _, _, _, _, _, _, rfl, mi2, hlo⟩
    · refine ⟨_, tx_tupS (txs_cons (tx_name 4 nd) (txs_cons (tx_name 5 nd) (txs_cons (tx_name 6 nd) txs_nil))), ?_⟩
      show SXs _ _ _ _ _ _
      obtain ⟨ns, e1, sh⟩ := short_of si ow hi hall
      refine sxs_cons (sx_if (k := true) (EB.cast (eb_isN (ex_var 4 rfl)) (by rfl)).t (fun _ => sxs_one (sx_ret (ex_tup (ds := [_, _]) (ea_cons ex_str (ea_cons (EX.cast (ex_sortI B.sorted (EX.ofN (ex_var 6 rfl))) (by rw [e1])) ea_nil)) (Nat.le_of_ble_eq_true rfl)) fun s w => ?_)) fun hk => by cases hk)
      refine .inr ⟨ns, sh, ?_⟩
      subst w
      rw [List.map_map]
      rfl
  · obtain ⟨rfl, h, o, u1, u2, u3, u4, u5, u6, rfl, mi, ho⟩ := iv
    rw [List.length_range, Int.toNat_natCast, hl] at mi
    obtain ⟨hs, rfl, de⟩ := match_end mi
    refine sxs_one (sx_ret (ex_tup (ds := [_, _]) (ea_cons ex_str (ea_cons (ex_var 1 rfl) ea_nil)) (Nat.le_of_ble_eq_true rfl)) fun s w => .inl ⟨hs, de, ?_⟩)
    subst w
    rw [List.map_map]
    rfl
end
end Dl
/-! Plans and papers: the plain mathematics. -/
namespace Dl
open PySem L2
/-! ### unlike things counted -/
theorem uniq_snoc {α : Type} [BEq α] (xs : List α) (x : α) : uniq (xs ++ [x]) = if (uniq xs).any (· == x) then uniq xs else uniq xs ++ [x] := by
  unfold uniq
  rw [List.foldl_append]
  rfl
theorem uniq_spec {α : Type} [BEq α] [LawfulBEq α] (xs : List α) : (uniq xs).Nodup ∧ ∀ x, x ∈ uniq xs ↔ x ∈ xs := by
  have key : ∀ ys : List α, (uniq ys.reverse).Nodup ∧ ∀ x, x ∈ uniq ys.reverse ↔ x ∈ ys.reverse := fun ys => by
    induction ys with
    | nil => exact ⟨List.nodup_nil, fun x => Iff.rfl⟩
    | cons y ys ih =>
      rw [List.reverse_cons, uniq_snoc]
      by_cases h : (uniq ys.reverse).any (· == y) = true
      · rw [if_pos h]
        have hy : y ∈ uniq ys.reverse := by
          obtain ⟨z, hz, e⟩ := List.any_eq_true.mp h
          rw [← eq_of_beq e]
          exact hz
        refine ⟨ih.1, fun x => ?_⟩
        rw [List.mem_append, ih.2, List.mem_singleton]
        constructor
        · exact .inl
        · rintro (h | rfl)
          · exact h
          · exact (ih.2 x).mp hy
      · rw [if_neg h]
        have hy : y ∉ uniq ys.reverse := fun hz => h (List.any_eq_true.mpr ⟨y, hz, beq_self_eq_true y⟩)
        refine ⟨?_, fun x => ?_⟩
        · rw [List.nodup_append]
          refine ⟨ih.1, by simp, fun a ha b hb => ?_⟩
          rw [List.mem_singleton.mp hb]
          exact fun e => hy (e ▸ ha)
        · rw [List.mem_append, List.mem_append, ih.2]
  have := key xs.reverse
  rw [List.reverse_reverse] at this
  exact this
theorem uqN_spec (xs : List Nat) : (uqN xs).Nodup ∧ ∀ x, x ∈ uqN xs ↔ x ∈ xs := by
  have key : ∀ ys : List Nat, (uqN ys.reverse).Nodup ∧ ∀ x, x ∈ uqN ys.reverse ↔ x ∈ ys.reverse := fun ys => by
    induction ys with
    | nil => exact ⟨List.nodup_nil, fun x => Iff.rfl⟩
    | cons y ys ih =>
      rw [List.reverse_cons, uqN_snoc]
      by_cases h : y ∈ uqN ys.reverse
      · rw [if_pos h]
        refine ⟨ih.1, fun x => ?_⟩
        rw [List.mem_append, ih.2, List.mem_singleton]
        constructor
        · exact .inl
        · rintro (h | rfl)
          · exact h
          · exact (ih.2 x).mp h
      · rw [if_neg h]
        refine ⟨?_, fun x => ?_⟩
        · rw [List.nodup_append]
          refine ⟨ih.1, by simp, fun a ha b hb => ?_⟩
          rw [List.mem_singleton.mp hb]
          exact fun e => h (e ▸ ha)
        · rw [List.mem_append, List.mem_append, ih.2]
  have := key xs.reverse
  rw [List.reverse_reverse] at this
  exact this
theorem nodup_map {α β : Type} {f : α → β} : ∀ {us : List α}, us.Nodup → (∀ a ∈ us, ∀ b ∈ us, f a = f b → a = b) → (us.map f).Nodup
  | [], _, _ => List.nodup_nil
  | u :: us, nd, inj => by
    rw [List.nodup_cons] at nd
    rw [List.map_cons, List.nodup_cons]
    refine ⟨fun h => ?_, nodup_map nd.2 fun a ha b hb => inj a (List.mem_cons_of_mem _ ha) b (List.mem_cons_of_mem _ hb)⟩
    obtain ⟨a, ha, e⟩ := List.mem_map.mp h
    have := inj a (List.mem_cons_of_mem _ ha) u List.mem_cons_self e
    exact nd.1 (this ▸ ha)
/-! ### plans -/
def manyF (hands : List Int) (steps : List Nat) : Nat := (uniq (steps.map fun s => hands.getD s 0)).length
def KeepsT (hands : List Int) (t : Tie) : Prop := if t.most = true then manyF hands t.steps ≤ t.k else t.k ≤ manyF hands t.steps
structure PlanOk (may : List (List Int)) (ties : List Tie) (hands : List Int) : Prop where
  len : hands.length = may.length
  mem : ∀ (s : Nat) (b : Int), hands[s]? = some b → b ∈ may.getD s []
  ties : ∀ t ∈ ties, KeepsT hands t
structure TiesOk (n : Nat) (ties : List Tie) : Prop where
  lt : ∀ t ∈ ties, ∀ s ∈ t.steps, s < n
  few : ∀ t ∈ ties, t.steps.length ≤ 100
/-! ### papers -/
inductive Paper where
  | tie (j : Nat)
  | short (bs : List Nat)
  | split (ps : List Paper)
mutual
def encPa : Paper → D
  | .tie j => .tuple [.str "tie", .int (j : Nat)]
  | .short bs => .tuple [.str "short", lnD bs]
  | .split ps => .tuple [.str "split", .list (encPas ps)]
def encPas : List Paper → List D
  | [] => []
  | p :: ps => encPa p :: encPas ps
end
theorem encPas_map : ∀ ps : List Paper, encPas ps = ps.map encPa
  | [] => by unfold encPas; rfl
  | p :: ps => by
    unfold encPas
    rw [encPas_map ps]
    rfl
structure ShortP (p : List Nat) (may : List (List Int)) (bs : List Nat) : Prop where
  up : bs.Pairwise (· < ·)
  lt : ∀ b ∈ bs, b < widthF p
  few : ∀ us : List Int, us.Nodup → (∀ x ∈ us, ∃ b ∈ bs, ∀ s, p[s]? = some b → x ∈ may.getD s []) → us.length < bs.length
inductive Shows (may : List (List Int)) (ties : List Tie) : List Nat → Paper → Prop where
  | tie {p : List Nat} {j : Nat} {t : Tie} : ties[j]? = some t → breaksF p t = true → Shows may ties p (.tie j)
  | short {p : List Nat} {bs : List Nat} : ShortP p may bs → Shows may ties p (.short bs)
  | split {p : List Nat} {ps : List Paper} : ps.length = widthF p + 1 → p.length < may.length → (∀ (k : Nat) (q : Paper), ps[k]? = some q → Shows may ties (p ++ [k]) q) → Shows may ties p (.split ps)
theorem rgs_snoc {p : List Nat} {k : Nat} (h : Rgs p) (hk : k ≤ widthF p) : Rgs (p ++ [k]) := fun s b e => by
  rcases get_snoc e with e1 | ⟨rfl, rfl⟩
  · have hs := (List.getElem?_eq_some_iff.mp e1).1
    rw [List.take_append_of_le_length (Nat.le_of_lt hs)]
    exact h s b e1
  · rw [List.take_append_of_le_length (Nat.le_refl _), List.take_length]
    exact hk
theorem rgs_nil : Rgs [] := fun s b e => by simp at e
/-- every number below the width comes -/
theorem rgs_mem {p : List Nat} (h : Rgs p) {b : Nat} (hb : b < widthF p) : b ∈ p := by
  have key : ∀ n, n ≤ p.length → b < widthF (p.take n) → b ∈ p := fun n => by
    induction n with
    | zero => intro _ z; exact absurd z (Nat.not_lt_zero _)
    | succ n ih =>
      intro hn z
      have e := getDS 0 (show n < p.length from hn)
      rw [List.take_add_one, e, show (some (p.getD n 0)).toList = [p.getD n 0] from rfl, widthF_snoc] at z
      by_cases q : b < widthF (p.take n)
      · exact ih (Nat.le_of_succ_le hn) q
      · have := h n _ e
        have : b = p.getD n 0 := by omega
        rw [this]
        exact List.mem_of_getElem? e
  exact key p.length (Nat.le_refl _) (by rw [List.take_length]; exact hb)
/-- hands whose shape begins with p -/
def Comp (p : List Nat) (hands : List Int) : Prop := p.length ≤ hands.length ∧ ∀ i j, i < p.length → j < p.length → (p.getD i 0 = p.getD j 0 ↔ hands.getD i 0 = hands.getD j 0)
def handOf (p : List Nat) (hands : List Int) (b : Nat) : Int := hands.getD (p.idxOf b) 0
theorem idx_at {p : List Nat} {b : Nat} (h : b ∈ p) : p.idxOf b < p.length ∧ p.getD (p.idxOf b) 0 = b := by
  have h1 : p.idxOf b < p.length := List.idxOf_lt_length_iff.mpr h
  refine ⟨h1, ?_⟩
  rw [List.getD_eq_getElem?_getD, List.getElem?_eq_getElem h1]
  exact List.getElem_idxOf h1
theorem handOf_at {p : List Nat} {hands : List Int} (c : Comp p hands) {s b : Nat} (e : p[s]? = some b) : hands.getD s 0 = handOf p hands b := by
  have hs := (List.getElem?_eq_some_iff.mp e).1
  obtain ⟨h1, h2⟩ := idx_at (List.mem_of_getElem? e)
  refine (c.2 s _ hs h1).mp ?_
  rw [h2, List.getD_eq_getElem?_getD, e]
  rfl
theorem handOf_inj {p : List Nat} {hands : List Int} (c : Comp p hands) {b b' : Nat} (h : b ∈ p) (h' : b' ∈ p) (e : handOf p hands b = handOf p hands b') : b = b' := by
  obtain ⟨h1, h2⟩ := idx_at h
  obtain ⟨h3, h4⟩ := idx_at h'
  have := (c.2 _ _ h1 h3).mpr e
  rw [h2, h4] at this
  exact this
theorem seenF_mem {p steps : List Nat} {b : Nat} : b ∈ seenF p steps ↔ ∃ s ∈ steps, p[s]? = some b := by
  unfold seenF
  rw [(uqN_spec _).2, List.mem_map]
  constructor
  · rintro ⟨s, hs, e⟩
    rw [List.mem_filter] at hs
    have hl := of_decide_eq_true hs.2
    exact ⟨s, hs.1, by rw [getDS 0 hl, e]⟩
  · rintro ⟨s, hs, e⟩
    refine ⟨s, List.mem_filter.mpr ⟨hs, decide_eq_true (List.getElem?_eq_some_iff.mp e).1⟩, ?_⟩
    rw [List.getD_eq_getElem?_getD, e]
    rfl
theorem seenF_nodup (p steps : List Nat) : (seenF p steps).Nodup := (uqN_spec _).1
theorem seen_le_many {p steps : List Nat} {hands : List Int} (c : Comp p hands) : (seenF p steps).length ≤ manyF hands steps := by
  have h := few_of_sub ((seenF p steps).map (handOf p hands)) (uniq (steps.map fun s => hands.getD s 0)) (nodup_map (seenF_nodup p steps) fun a ha b hb e => ?_) fun x hx => ?_
  · rw [List.length_map] at h
    exact h
  · obtain ⟨s, _, e1⟩ := seenF_mem.mp ha
    obtain ⟨t, _, e2⟩ := seenF_mem.mp hb
    exact handOf_inj c (List.mem_of_getElem? e1) (List.mem_of_getElem? e2) e
  · obtain ⟨b, hb, rfl⟩ := List.mem_map.mp hx
    obtain ⟨s, hs, e⟩ := seenF_mem.mp hb
    rw [(uniq_spec _).2, List.mem_map]
    exact ⟨s, hs, handOf_at c e⟩
theorem many_le_seen {p steps : List Nat} {hands : List Int} (c : Comp p hands) : manyF hands steps ≤ (seenF p steps).length + lateF p steps := by
  have h := few_of_sub (uniq (steps.map fun s => hands.getD s 0)) ((seenF p steps).map (handOf p hands) ++ (steps.filter fun s => !decide (s < p.length)).map fun s => hands.getD s 0) (uniq_spec _).1 fun x hx => ?_
  · rw [List.length_append, List.length_map, List.length_map] at h
    exact h
  · rw [(uniq_spec _).2, List.mem_map] at hx
    obtain ⟨s, hs, rfl⟩ := hx
    by_cases hl : s < p.length
    · have e := getDS 0 hl
      exact List.mem_append_left _ (List.mem_map.mpr ⟨p.getD s 0, seenF_mem.mpr ⟨s, hs, e⟩, (handOf_at c e).symm⟩)
    · exact List.mem_append_right _ (List.mem_map.mpr ⟨s, List.mem_filter.mpr ⟨hs, by simp [hl]⟩, rfl⟩)
theorem breaks_no {p : List Nat} {t : Tie} {hands : List Int} (c : Comp p hands) (k : KeepsT hands t) : breaksF p t = false := by
  unfold KeepsT at k
  unfold breaksF
  have h1 := seen_le_many (steps := t.steps) c
  have h2 := many_le_seen (steps := t.steps) c
  by_cases hm : t.most = true
  · rw [if_pos hm] at k ⊢
    exact decide_eq_false (by omega)
  · rw [if_neg hm] at k ⊢
    exact decide_eq_false (by omega)
/-- a paper that shows for a pattern: no plan has a shape that begins so -/
theorem shows_no {may : List (List Int)} {ties : List Tie} {hands : List Int} (pl : PlanOk may ties hands) : ∀ {p : List Nat} {pa : Paper}, Shows may ties p pa → Rgs p → Comp p hands → False := by
  intro p pa h
  induction h with
  | tie e b =>
    intro _ c
    rw [breaks_no c (pl.ties _ (List.mem_of_getElem? e))] at b
    cases b
  | @short p bs sh =>
    intro r c
    have hb : ∀ b ∈ bs, b ∈ p := fun b hb => rgs_mem r (sh.lt b hb)
    have := sh.few (bs.map (handOf p hands)) (nodup_map (List.Pairwise.imp (fun h => Nat.ne_of_lt h) sh.up) fun a ha b hb' e => handOf_inj c (hb a ha) (hb b hb') e) fun x hx => by
      obtain ⟨b, hbb, rfl⟩ := List.mem_map.mp hx
      refine ⟨b, hbb, fun s e => ?_⟩
      rw [← handOf_at c e]
      have hs : s < hands.length := Nat.lt_of_lt_of_le (List.getElem?_eq_some_iff.mp e).1 c.1
      exact pl.mem s _ (getDS 0 hs)
    rw [List.length_map] at this
    omega
  | @split p ps hl hp hk ih =>
    intro r c
    have hph : p.length < hands.length := by
      rw [pl.len]
      exact hp
    -- the next step's block
    by_cases hex : ∃ i, i < p.length ∧ hands.getD i 0 = hands.getD p.length 0
    · obtain ⟨i, hi, he⟩ := hex
      have ei := getDS 0 hi
      have hw := widthF_lt ei
      have eps := getDS (Paper.tie 0) (show p.getD i 0 < ps.length by omega)
      refine ih _ _ eps (rgs_snoc r (Nat.le_of_lt hw)) ⟨by rw [List.length_append, List.length_singleton]; omega, fun a b ha hb => ?_⟩
      rw [List.length_append, List.length_singleton] at ha hb
      rw [getD_snoc, getD_snoc]
      by_cases ea : a = p.length
      · by_cases eb : b = p.length
        · rw [ea, eb]
          simp
        · rw [if_pos ea, if_neg eb, ea, ← he]
          exact c.2 i b hi (by omega)
      · by_cases eb : b = p.length
        · rw [if_neg ea, if_pos eb, eb, ← he]
          exact c.2 a i (by omega) hi
        · rw [if_neg ea, if_neg eb]
          exact c.2 a b (by omega) (by omega)
    · have eps := getDS (Paper.tie 0) (show widthF p < ps.length by omega)
      refine ih _ _ eps (rgs_snoc r (Nat.le_refl _)) ⟨by rw [List.length_append, List.length_singleton]; omega, fun a b ha hb => ?_⟩
      rw [List.length_append, List.length_singleton] at ha hb
      rw [getD_snoc, getD_snoc]
      have lt : ∀ a, a < p.length → p.getD a 0 ≠ widthF p := fun a ha e => by
        have := widthF_lt (getDS 0 ha)
        omega
      have ne : ∀ a, a < p.length → hands.getD a 0 ≠ hands.getD p.length 0 := fun a ha e => hex ⟨a, ha, e⟩
      by_cases ea : a = p.length
      · by_cases eb : b = p.length
        · rw [ea, eb]
          simp
        · rw [if_pos ea, if_neg eb, ea]
          exact ⟨fun z => absurd z.symm (lt b (by omega)), fun z => absurd z.symm (ne b (by omega))⟩
      · by_cases eb : b = p.length
        · rw [if_neg ea, if_pos eb, eb]
          exact ⟨fun z => absurd z (lt a (by omega)), fun z => absurd z (ne a (by omega))⟩
        · rw [if_neg ea, if_neg eb]
          exact c.2 a b (by omega) (by omega)
theorem shows_none {may : List (List Int)} {ties : List Tie} {hands : List Int} {pa : Paper} (pl : PlanOk may ties hands) (h : Shows may ties [] pa) : False :=
  shows_no pl h rgs_nil ⟨Nat.zero_le _, fun i j hi => absurd hi (Nat.not_lt_zero _)⟩
/-- a pattern of all steps, a deal of its pools, no tie broken: a plan -/
theorem plan_of_deal {p : List Nat} {may pools : List (List Int)} {ties : List Tie} {hs : List Int} (r : Rgs p) (hl : p.length = may.length) (po : PoolsOk p may pools) (de : Dealt pools hs) (to : TiesOk may.length ties) (nb : firstB p ties = none) :
    PlanOk may ties (p.map fun b => hs.getD b 0) := by
  have hlen : hs.length = widthF p := by rw [de.len, po.len]
  have get : ∀ s, s < p.length → (p.map fun b => hs.getD b 0).getD s 0 = hs.getD (p.getD s 0) 0 := fun s hs' => by
    rw [List.getD_eq_getElem?_getD, List.getElem?_map, getDS 0 hs']
    rfl
  refine ⟨by rw [List.length_map]; exact hl, fun s x e => ?_, fun t ht => ?_⟩
  · rw [List.getElem?_map] at e
    cases q : p[s]? with
    | none => rw [q] at e; cases e
    | some b =>
      rw [q] at e
      have e : hs.getD b 0 = x := Option.some.inj e
      have hb := widthF_lt q
      have em := de.mem b _ (getDS 0 (by rw [hlen]; exact hb))
      rw [e] at em
      exact (po.mem b hb x).mp em s q
  · have hlt := to.lt t ht
    rw [← hl] at hlt
    have hlate : lateF p t.steps = 0 := by
      unfold lateF
      rw [List.length_eq_zero_iff, List.filter_eq_nil_iff]
      intro s hs'
      simp [hlt s hs']
    have hsame : manyF (p.map fun b => hs.getD b 0) t.steps = (seenF p t.steps).length := by
      have inj : ∀ a ∈ seenF p t.steps, ∀ b ∈ seenF p t.steps, hs.getD a 0 = hs.getD b 0 → a = b := fun a ha b hb e => by
        obtain ⟨s1, _, e1⟩ := seenF_mem.mp ha
        obtain ⟨s2, _, e2⟩ := seenF_mem.mp hb
        have l1 : a < hs.length := by rw [hlen]; exact widthF_lt e1
        have l2 : b < hs.length := by rw [hlen]; exact widthF_lt e2
        have g1 := getDS 0 l1
        have g2 := getDS 0 l2
        rw [List.getElem?_eq_getElem l1] at g1
        rw [List.getElem?_eq_getElem l2] at g2
        have g1 := Option.some.inj g1
        have g2 := Option.some.inj g2
        rw [← g1, ← g2] at e
        exact (List.getElem_inj de.nd).mp e
      have h1 := few_of_sub ((seenF p t.steps).map fun b => hs.getD b 0) (uniq (t.steps.map fun s => (p.map fun b => hs.getD b 0).getD s 0)) (nodup_map (seenF_nodup _ _) inj) fun x hx => by
        obtain ⟨b, hb, rfl⟩ := List.mem_map.mp hx
        obtain ⟨s, hs', e⟩ := seenF_mem.mp hb
        rw [(uniq_spec _).2, List.mem_map]
        refine ⟨s, hs', ?_⟩
        rw [get s (hlt s hs'), List.getD_eq_getElem?_getD (l := p), e]
        rfl
      have h2 := few_of_sub (uniq (t.steps.map fun s => (p.map fun b => hs.getD b 0).getD s 0)) ((seenF p t.steps).map fun b => hs.getD b 0) (uniq_spec _).1 fun x hx => by
        rw [(uniq_spec _).2, List.mem_map] at hx
        obtain ⟨s, hs', rfl⟩ := hx
        rw [get s (hlt s hs')]
        exact List.mem_map.mpr ⟨p.getD s 0, seenF_mem.mpr ⟨s, hs', getDS 0 (hlt s hs')⟩, rfl⟩
      rw [List.length_map] at h1 h2
      unfold manyF
      omega
    have nbt : breaksF p t = false := by
      obtain ⟨j, hj⟩ := List.mem_iff_getElem?.mp ht
      have := List.find?_eq_none.mp nb j (List.mem_range.mpr (List.getElem?_eq_some_iff.mp hj).1)
      rw [List.getD_eq_getElem?_getD, hj] at this
      simpa using this
    unfold KeepsT
    unfold breaksF at nbt
    by_cases hm : t.most = true
    · rw [if_pos hm] at nbt ⊢
      have := of_decide_eq_false nbt
      omega
    · rw [if_neg hm] at nbt ⊢
      have := of_decide_eq_false nbt
      omega
/-- pools that are short show it -/
theorem short_shows {p : List Nat} {may pools : List (List Int)} {ns : List Nat} (po : PoolsOk p may pools) (sh : Short pools ns) : ShortP p may ns := by
  have hl : ∀ b ∈ ns, b < widthF p := fun b hb => by
    rw [← po.len]
    exact sh.lt b hb
  refine ⟨sh.up, hl, fun us nd hu => sh.few us nd fun x hx => ?_⟩
  obtain ⟨b, hb, h⟩ := hu x hx
  exact ⟨b, hb, (po.mem b (hl b hb) x).mpr h⟩
theorem firstB_some {p : List Nat} {ts : List Tie} {j : Nat} (h : firstB p ts = some j) : ∃ t, ts[j]? = some t ∧ breaksF p t = true := by
  unfold firstB at h
  have h1 := List.find?_some h
  have h2 := List.mem_range.mp (List.mem_of_find?_eq_some h)
  exact ⟨_, getDS default h2, h1⟩
def W_plan (may : List (List Int)) (ties : List Tie) (p : List Nat) (s : Ds) : Prop :=
  (∃ hands, PlanOk may ties hands ∧ s = .dat (.tuple [.str "plan", liD hands])) ∨ (∃ pa, Shows may ties p pa ∧ s = .dat (.tuple [.str "none", encPa pa]))
end Dl
namespace Dl
open PySem PySem.Spec PyProof.Rows L2
section
variable {X : Cx} {Φ : Ph} {A : List Sl} {e : Expr} {pos p : Pos} {W W1 : Ds → Prop} {x : Str}
/-- a call of one argument, which is one of several -/
theorem exw_call1 {ps : List Str} {R : PSpec} {k : Nat} (F : Fn X.prog X.w X.K X.mg X.base x ps R k) (hr : Room k X.A) (ha : EXW X Φ A e W1) (hR : ∀ s, W1 s → ∀ G, Φ.p G → ∃ W', R G [s] W' ∧ ∀ t, W' t → W t) (hg : Gl X x := by rfl) (hdb : (x == ("__debug__" : Str)) = false := by decide)
    (he : starEach [e] X.env = (false, eval e X.env) :: starEach [] X.env := by rfl) (hpl : (backTo pos (starEach [] X.env)).any (·.1) = false := by rfl) : EXW X Φ A (.Call (.Name x p) [e] [] pos) W := by
  obtain ⟨f, fd, hm, F, hk, hb⟩ := F
  refine exw_of (pe_call F hr hg hm hk hb .nil pass0 (pa_cons RE.pe pa_nil he) hdb he hpl) fun μ G0 H0 G H σ Q ab φ q => ha μ G0 H0 G H σ _ ab φ fun s v G1 H1 w1 g sv => ?_
  obtain ⟨W', hR, hW⟩ := hR s w1 G1 (Φ.st _ _ (g.s rfl) φ)
  exact ⟨G1, [s], W', g.i, .cons sv .nil, hR, fun s v G2 H2 w g2 => q s v G2 H2 (hW s w) (g.trans g2)⟩
end
section
variable {P : Program} {w : World} {K : PySem.W.Frag} {mg : Str → Option Value} {base : Heap}
abbrev s_sought : Stmt := topS 45
abbrev N_sought : List Str := ["pattern", "may", "ties", "broken", "found", "block", "papers", "longer", "told"]
theorem sc_sought : FnScope N_sought ["pattern", "may", "ties"] (defScope s_sought) := ⟨rfl, rfl, rfl, by decide +kernel, rfl, by decide +kernel, by decide +kernel⟩
theorem hb_sought (kV doc pm : Value) (an : Option Addr) (cdv ct : Value) (us : List Value) (hl : us.length = 3) : bindArgs (PySem.W.fnOf "sought" "sought" (defArgs s_sought) (defBody s_sought) (defScope s_sought) .none kV doc pm an cdv ct) ⟨us, []⟩ = pure ((["pattern", "may", "ties"] : List Str).zip us) := match us, hl with
  | [_, _, _], _ => rfl
structure MayOk (may : List (List Int)) : Prop where
  len : may.length ≤ 6
  few : ∀ m ∈ may, m.length ≤ 100
def R_sought (d : Nat) : PSpec := fun _ ss W => ∃ (p : List Nat) (may : List (List Int)) (ties : List Tie), ss = [.dat (lnD p), .dat (llD may), .dat (ltD ties)] ∧ Rgs p ∧ p.length ≤ may.length ∧ may.length ≤ p.length + d ∧ MayOk may ∧ TiesOk may.length ties ∧ W = W_plan may ties p
set_option maxHeartbeats 2000000 in
theorem ok_sought (B : Bt mg) (Dd : DefAt K mg "sought" s_sought) (F_first_broken : Fn P w K mg base "first_broken" ["pattern", "ties"] R_first_broken 2) (F_deal : Fn P w K mg base "deal" ["pools"] R_deal 2)
    (F_pools_of : Fn P w K mg base "pools_of" ["pattern", "may"] R_pools_of 2) (F_grown : Fn P w K mg base "grown" ["pattern"] R_grown 2) (d : Nat) (ih : ∀ d', d = d' + 1 → Fn P w K mg base "sought" ["pattern", "may", "ties"] (R_sought d') (3 + d')) : Fn P w K mg base "sought" ["pattern", "may", "ties"] (R_sought d) (3 + d) := by
  have e0 : 3 + d = (2 + d) + 1 := by omega
  rw [e0]
  refine fn_mk Dd sc_sought (fun G ss W ⟨_, _, _, e, _⟩ => by rw [e]; rfl) hb_sought fun f cdv A outer s H hr G ss W h => ?_
  obtain ⟨p, may, ties, rfl, rg, hpl, hd, mo, to, rfl⟩ := h
  have nd := (sc_sought).nd
  have hu := hu_of2 hr
  have hr2 := hr.mono (show 2 ≤ 2 + d by omega)
  have lp : (p.map encN).length = p.length := List.length_map _
  have lm : (may.map liD).length = may.length := List.length_map _
  have hw : widthF p ≤ p.length := by
    have := widthF_le rg (Nat.le_refl _)
    rw [List.take_length] at this
    exact this
  have ml := mo.len
  refine sxs_cons (sx_asg 3 (ex_call F_first_broken hr2 (ea_cons (ex_var 0 rfl) (ea_cons (ex_var 2 rfl) ea_nil)) (W := (· = .dat (encON (firstB p ties)))) fun G _ => ⟨_, _, rfl, to.few, rfl⟩) (fun s w => ?_) nd)
  subst w
  cases hfb : firstB p ties with
  | some j =>
    obtain ⟨t, ht, hb⟩ := firstB_some hfb
    refine sxs_cons (sx_if (k := true) (EB.cast (eb_notN (ex_var 3 rfl)) (by rfl)).t (fun _ => sxs_one (sx_ret (ex_tup (ds := [_, _]) (ea_cons ex_str (ea_cons (ex_tup (ds := [_, _]) (ea_cons ex_str (ea_cons (ex_var 3 rfl) ea_nil)) (Nat.le_of_ble_eq_true rfl)) ea_nil)) (Nat.le_of_ble_eq_true rfl)) fun s w => .inr ⟨.tie j, .tie ht hb, ?_⟩)) fun hk => by cases hk)
    subst w
    rfl
  | none =>
    refine sxs_cons (sx_if (k := false) (EB.cast (eb_notN (ex_var 3 rfl)) (by rfl)).t (fun hk => by cases hk) fun _ => sxs_nil ?_)
    refine sxs_cons (sx_asg 4 (W := fun s => ∃ pools, PoolsOk p may pools ∧ W_deal pools s) (exw_call1 F_deal hr2 (W1 := fun s => ∃ pools, PoolsOk p may pools ∧ s = .dat (llD pools)) (ex_call F_pools_of hr2 (ea_cons (ex_var 0 rfl) (ea_cons (ex_var 1 rfl) ea_nil)) fun G _ => ⟨p, may, rfl, rg, hpl, by omega, mo.few, rfl⟩) fun s ⟨pools, po, e⟩ G _ => ⟨W_deal pools, ⟨pools, by rw [e], by rw [po.len]; omega, rfl⟩, fun t ht => ⟨pools, po, ht⟩⟩) (fun s w => ?_) nd)
    obtain ⟨pools, po, w⟩ := w
    rcases w with ⟨hs, de, rfl⟩ | ⟨ns, sh, rfl⟩
    · show SXs _ _ _ [.d (lnD p), .d (llD may), .d (ltD ties), _, _, .un, .un, .un, .un] _ _
      refine sxs_cons (sx_if (k := false) (EB.cast (eb_eqS (ex_ixT (ex_var 4 rfl) ex_int rfl) ex_str) (by decide +kernel)).t (fun hk => by cases hk) fun _ => sxs_nil ?_)
      refine sxs_cons (sx_if (k := decide (p.length = may.length)) (EB.cast (eb_eqI (ex_len B.len (ex_var 0 rfl) (.lst _)) (ex_len B.len (ex_var 1 rfl) (.lst _))) (by rw [lp, lm]; exact decide_eq_decide.mpr Int.ofNat_inj)).t (fun hk => ?_) fun hk => sxs_nil ?_)
      · have hk := of_decide_eq_true hk
        have hat : ∀ y ∈ p, hs[y]? = some (hs.getD y 0) := fun y hy => by
          obtain ⟨k, e⟩ := List.mem_iff_getElem?.mp hy
          refine getDS 0 ?_
          rw [de.len, po.len]
          exact widthF_lt e
        refine sxs_one (sx_ret (ex_tup (ds := [_, _]) (ea_cons ex_str (ea_cons (ex_lc 5 (fun _ => true) (fun b => .int (hs.getD b 0)) (ix_lstM (ex_var 0 rfl)) (by omega) (blkOk_by (N := N_sought) (sc := defScope s_sought) (by decide +kernel)) (fun y hy s H C cl fp => rfl) (fun y hy hq s H C cl fp => EX.cast (ex_ix (ex_ixT (ex_var 4 rfl) ex_int rfl) (ex_var 5 rfl) (.lst (atI_map PyData.int (atN (hat y hy))))) rfl) (fun s H C cl fp => pg_name nd rfl (Or.inl rfl)) nd) ea_nil)) (Nat.le_of_ble_eq_true rfl)) fun s w => .inl ⟨p.map fun b => hs.getD b 0, plan_of_deal rg hk po de to hfb, ?_⟩)
        subst w
        rw [List.filter_eq_self.mpr fun _ _ => rfl]
        unfold liD
        rw [List.map_map]
        rfl
      · have hk := of_decide_eq_false hk
        obtain ⟨d', rfl⟩ : ∃ d', d = d' + 1 := ⟨d - 1, by omega⟩
        have F_sought := ih d' rfl
        have hr3 := hr.mono (show 3 + d' ≤ 2 + (d' + 1) by omega)
        refine sxs_cons (sx_own 6 exn_nil ?_ nd)
        refine sxs_cons (sx_forT (ix_lstM (ex_call F_grown hr2 (ea_cons (ex_var 0 rfl) ea_nil) (W := (· = .dat (lnnD ((List.range (widthF p + 1)).map fun k => p ++ [k])))) fun G _ => ⟨p, rfl, by omega, by omega, rfl⟩))
          (fun i Ψ B => Ψ = phS G ∧ ∃ (ps : List Paper) (u v v1 v2 v3 : Sl), B = [.d (lnD p), .d (llD may), .d (ltD ties), v1, v2, v3, .lst (ps.map encPa), u, v] ∧ ps.length = i ∧ ∀ (k : Nat) (q : Paper), ps[k]? = some q → Shows may ties (p ++ [k]) q) ⟨rfl, [], _, _, _, _, _, rfl, rfl, fun k q e => by simp at e⟩ (fun i y Ψ B e iv => ?_) fun Ψ B iv => ?_)
        · obtain ⟨rfl, ps, u, v, v1, v2, v3, rfl, rfl, hps⟩ := iv
          rw [List.getElem?_map] at e
          cases q : (List.range (widthF p + 1))[ps.length]? with
          | none => rw [q] at e; cases e
          | some k =>
            rw [q] at e
            have e : p ++ [k] = y := Option.some.inj e
            subst e
            obtain ⟨rfl, hi⟩ := rangeAt q
            refine ⟨_, tx_name 7 nd, ?_⟩
            refine sxs_cons (sx_asg 8 (ex_call F_sought hr3 (ea_cons (ex_var 7 rfl) (ea_cons (ex_var 1 rfl) (ea_cons (ex_var 2 rfl) ea_nil))) (W := W_plan may ties (p ++ [ps.length])) fun G _ => ⟨_, may, ties, rfl, rgs_snoc rg (by omega), by rw [List.length_append, List.length_singleton]; omega, by rw [List.length_append, List.length_singleton]; omega, mo, to, rfl⟩) (fun s w => ?_) nd)
            rcases w with ⟨hands, pl, rfl⟩ | ⟨pa, sh, rfl⟩
            · exact sxs_cons (sx_if (k := true) (EB.cast (eb_eqS (ex_ixT (ex_var 8 rfl) ex_int rfl) ex_str) (by decide +kernel)).t (fun _ => sxs_one (sx_ret (ex_var 8 rfl) fun s w => .inl ⟨hands, pl, w⟩)) fun hk => by cases hk)
            · refine sxs_cons (sx_if (k := false) (EB.cast (eb_eqS (ex_ixT (ex_var 8 rfl) ex_int rfl) ex_str) (by decide +kernel)).t (fun hk => by cases hk) fun _ => sxs_nil ?_)
              refine sxs_one (sx_app 6 rfl (ex_ixT (ex_var 8 rfl) ex_int rfl) (by rw [List.length_map]; omega) ⟨rfl, ps ++ [pa], .d (lnD (p ++ [ps.length])), .d (.tuple [.str "none", encPa pa]), v1, v2, v3, ?_, by rw [List.length_append]; rfl, fun k q e => ?_⟩)
              · rw [List.map_append]
                rfl
              · rcases get_snoc e with e | ⟨rfl, rfl⟩
                · exact hps k q e
                · exact sh
        · obtain ⟨rfl, ps, u, v, v1, v2, v3, rfl, hpl2, hps⟩ := iv
          rw [List.length_map, List.length_range] at hpl2
          refine sxs_one (sx_ret (ex_tup (ds := [_, _]) (ea_cons ex_str (ea_cons (ex_tup (ds := [_, _]) (ea_cons ex_str (ea_cons (ex_var 6 rfl) ea_nil)) (Nat.le_of_ble_eq_true rfl)) ea_nil)) (Nat.le_of_ble_eq_true rfl)) fun s w => .inr ⟨.split ps, .split hpl2 (by omega) hps, ?_⟩)
          subst w
          unfold encPa
          rw [encPas_map]
    · refine sxs_cons (sx_if (k := true) (EB.cast (eb_eqS (ex_ixT (ex_var 4 rfl) ex_int rfl) ex_str) (by decide +kernel)).t (fun _ => sxs_one (sx_ret (ex_tup (ds := [_, _]) (ea_cons ex_str (ea_cons (ex_tup (ds := [_, _]) (ea_cons ex_str (ea_cons (ex_ixT (ex_var 4 rfl) ex_int rfl) ea_nil)) (Nat.le_of_ble_eq_true rfl)) ea_nil)) (Nat.le_of_ble_eq_true rfl)) fun s w => .inr ⟨.short ns, .short (short_shows po sh), ?_⟩)) fun hk => by cases hk)
      subst w
      rfl
theorem ok_soughtAll (B : Bt mg) (Dd : DefAt K mg "sought" s_sought) (F1 : Fn P w K mg base "first_broken" ["pattern", "ties"] R_first_broken 2) (F2 : Fn P w K mg base "deal" ["pools"] R_deal 2)
    (F3 : Fn P w K mg base "pools_of" ["pattern", "may"] R_pools_of 2) (F4 : Fn P w K mg base "grown" ["pattern"] R_grown 2) : ∀ d, Fn P w K mg base "sought" ["pattern", "may", "ties"] (R_sought d) (3 + d)
  | 0 => ok_sought B Dd F1 F2 F3 F4 0 (fun d' h => by omega)
  | d + 1 => ok_sought B Dd F1 F2 F3 F4 (d + 1) (fun d' h => by
    have : d' = d := by omega
    subst this
    exact ok_soughtAll B Dd F1 F2 F3 F4 d')
abbrev s_plan : Stmt := topS 46
abbrev N_plan : List Str := ["may", "ties"]
theorem sc_plan : FnScope N_plan ["may", "ties"] (defScope s_plan) := ⟨rfl, rfl, rfl, by decide +kernel, rfl, by decide +kernel, by decide +kernel⟩
theorem hb_plan (kV doc pm : Value) (an : Option Addr) (cdv ct : Value) (us : List Value) (hl : us.length = 2) : bindArgs (PySem.W.fnOf "plan" "plan" (defArgs s_plan) (defBody s_plan) (defScope s_plan) .none kV doc pm an cdv ct) ⟨us, []⟩ = pure ((["may", "ties"] : List Str).zip us) := match us, hl with
  | [_, _], _ => rfl
def R_plan : PSpec := fun _ ss W => ∃ (may : List (List Int)) (ties : List Tie), ss = [.dat (llD may), .dat (ltD ties)] ∧ MayOk may ∧ TiesOk may.length ties ∧ W = W_plan may ties []
theorem ok_plan (B : Bt mg) (Dd : DefAt K mg "plan" s_plan) (F_sought : Fn P w K mg base "sought" ["pattern", "may", "ties"] (R_sought 6) 9) : Fn P w K mg base "plan" ["may", "ties"] R_plan 10 := by
  refine fn_mk Dd sc_plan (fun G ss W ⟨_, _, e, _⟩ => by rw [e]; rfl) hb_plan fun f cdv A outer s H hr G ss W h => ?_
  obtain ⟨may, ties, rfl, mo, to, rfl⟩ := h
  have nd := (sc_plan).nd
  have ml := mo.len
  exact sxs_one (sx_ret (ex_call F_sought hr (ea_cons (ex_lst (ds := []) ea_nil (Nat.le_of_ble_eq_true rfl)) (ea_cons (ex_var 0 rfl) (ea_cons (ex_var 1 rfl) ea_nil))) fun G _ => ⟨[], may, ties, rfl, rgs_nil, Nat.zero_le _, by simpa using ml, mo, to, rfl⟩) fun s w => w)
end
end Dl
namespace Dl
open PySem PySem.Spec PySem.W PyProof.Rows L2
/-! sorted(xs, key=f), f a def of the module that keeps its promise -/
section
variable {X : Cx} {pins : List (Addr × Obj)} {σ : L2.St} {H : Hp} {s : Shared}
/-- two untracked objects have turned, the first is tracked now -/
theorem inv_two {h' : Heap} {t' : Nat} {l q : Addr} {o : HO} (I : Inv X pins σ H s) (kp : ∀ b u, b ≠ l → b ≠ q → s.heap.get? b = some u → h'.get? b = some u) (fl : FpOk X pins H l) (fq : FpOk X pins H q)
    (new : ObjOk X.prog X.w (upd H l o) h' l o) : Inv X pins σ (upd H l o) { s with heap := h', toks := t' } := by
  obtain ⟨l0, l1, l2, l3, l4, l5⟩ := fl
  obtain ⟨q0, q1, q2, q3, q4, q5⟩ := fq
  have up : ∀ b u, H b = some u → upd H l o b = some u := fun b u e => by rw [upd_ne (ne_of_none e l0)]; exact e
  have nn : ∀ b u, H b = some u → b ≠ l ∧ b ≠ q := fun b u e => ⟨ne_of_none e l0, ne_of_none e q0⟩
  refine I.step (g' := s.gens) (d' := s.drawn) (ch := [l, q]) (fun b hb => ?_) (fun b u _ _ hc e _ => kp b u (fun z => hc (by simp [z])) (fun z => hc (by simp [z])) e)
    (fun b u _ _ hc e _ => ⟨u.slots, kp b u (fun z => hc (by simp [z])) (fun z => hc (by simp [z])) e⟩) (fun b u hc _ n => by rw [upd_ne fun z => hc (by simp [z])]; exact n)
    (fun b u hc e => ⟨u, kp b u (fun z => hc (by simp [z])) (fun z => hc (by simp [z])) e⟩) (fun b xs e => up b _ e) (fun b _ _ e => up b _ e) (fun b ps e => ⟨#[], by rw [up b _ e]; simp⟩) (fun m hm => ?_) (fun b u e => ?_) I.bare
  · rcases List.mem_cons.mp hb with rfl | hb
    · exact ⟨l3, l1, l4, l5⟩
    · obtain rfl := List.mem_singleton.mp hb
      exact ⟨q3, q1, q4, q5⟩
  · obtain ⟨ob, es, ep, ho, r⟩ := hm
    exact ⟨ob, es, ep, kp _ ob l1.symm q1.symm ho, r⟩
  · by_cases z : b = l
    · subst z
      rw [upd_same] at e
      cases e
      exact new
    · rw [upd_ne z] at e
      refine (I.hok b u e).stay (fun c v hc g => kp c v ?_ ?_ g) (fun c g => up c _ g) fun c xs g => up c _ g
      · rcases hc with hc | hc
        · rw [hc]; exact z
        · exact (nn c _ hc).1
      · rcases hc with hc | hc
        · rw [hc]; exact (nn b u e).2
        · exact (nn c _ hc).2
/-- a heap without the object at a -/
def without1 (h : Heap) (a : Addr) : Heap := h.update a fun o => { o with data := .freed }
theorem without1_none (h : Heap) (a : Addr) : (without1 h a).get? a = none := by
  unfold without1 Heap.get? Heap.update
  cases h with
  | mk objs l =>
    simp only [Array.getElem?_modify]
    cases e : objs[a]? with
    | none => simp
    | some o => simp
theorem without1_old {h : Heap} {a b : Addr} {o : Obj} (e : (without1 h a).get? b = some o) : b ≠ a ∧ h.get? b = some o := by
  by_cases z : b = a
  · rw [z, without1_none] at e
    cases e
  · refine ⟨z, ?_⟩
    rw [← e]
    exact (Heap.get?_update_ne _ _ _ _ z).symm
theorem without1_ne {h : Heap} {a b : Addr} {o : Obj} (z : b ≠ a) (e : h.get? b = some o) : (without1 h a).get? b = some o := by
  rw [← e]
  exact Heap.get?_update_ne _ _ _ _ z
end
section
variable {X : Cx} {pins : List (Addr × Obj)} {σ : L2.St} {H : Hp} {s : Shared} {f : Addr} {fd : FuncData} {x : Str} {R : PSpec} {k : Nat} {key : D → D}
abbrev pl (q : Addr) (us : Array Value) (n : Nat) : Addr × Obj := (q, seqObj "list" us n)
/-- the keys so far -/
def KeysJ (X : Cx) (pins : List (Addr × Obj)) (σ : L2.St) (G H : Hp) (l q : Addr) (n : Nat) (ks : List D) (s : Shared) : Prop :=
  ∃ (G' H' : Hp) (us : Array Value) (m : Nat) (kv : List V), Inv X (pl l #[] n :: pl q us m :: pins) σ H' s ∧ Gr false G H G' H' ∧ Vals kv us.toList ∧ DqAll G' kv ks
theorem vals_snoc : ∀ {kv : List V} {us : List Value} {v : V} {u : Value}, Vals kv us → RelV v u → Vals (kv ++ [v]) (us ++ [u])
  | [], [], _, _, _, r => .cons r .nil
  | _ :: _, [], _, _, h, _ => by cases h
  | [], _ :: _, _, _, h, _ => by cases h
  | _ :: kv, _ :: us, _, _, h, r => by
    cases h with
    | cons h1 h2 => exact .cons h1 (vals_snoc h2 r)
theorem vals_getV : ∀ {kv : List V} {us : List Value} {i : Nat} {u : Value}, Vals kv us → us[i]? = some u → ∃ v, kv[i]? = some v ∧ RelV v u
  | [], [], _, _, _, e => by simp at e
  | _ :: _, [], _, _, h, _ => by cases h
  | [], _ :: _, _, _, h, _ => by cases h
  | v :: kv, u' :: us, 0, u, h, e => by
    cases h with
    | cons h1 h2 =>
      have e : u' = u := by simpa using e
      subst e
      exact ⟨v, rfl, h1⟩
  | v :: kv, u' :: us, i + 1, u, h, e => by
    cases h with
    | cons h1 h2 =>
      obtain ⟨w, a1, a2⟩ := vals_getV h2 (show us[i]? = some u by simpa using e)
      exact ⟨w, by simpa using a1, a2⟩
/-- the call for one key -/
theorem key_call {A : Around} {G : Hp} {d : D} {u : Value} {v : V} {pn : List (Addr × Obj)} (F : FnOk X.prog X.w X.K X.mg X.base CX0 k f fd [x] (spP X.K R)) (hb : Binds X.K fd [x] []) (hr : Room k A) (hE : Env0 X.prog X.w X.K X.mg X.base A X.stack s H)
    (I : Inv X pn σ H s) (sm : Same G H) (rv : RelV v u) (dq : Dq G v d) (hR : ∃ W, R G [.dat d] W ∧ ∀ t, W t → t = .dat (key d)) :
    wpAny (model X.prog X.w) A (call (.ref f) [u]) (EP X pn σ fun v' H' => ∃ G', Gr false G H G' H' ∧ Dq G' v' (key d)) (fun _ _ => False) s := by
  obtain ⟨W, hR, hW⟩ := hR
  have sp : spP X.K R [v] H (fun v' H' => ∃ G', Gr false G H G' H' ∧ Dq G' v' (key d)) E0 := ⟨G, [.dat d], W, sm, .cons (.dat dq) .nil, hR, fun t v' G' H' w g sv => by
    have e := hW t w
    subst e
    cases sv with
    | dat sv => exact ⟨G', g, sv⟩⟩
  refine wpAny_call (codeAny_mono (F.run A X.stack s H ⟨[u], []⟩ [u] [v] _ E0 hr hE (by simpa using hb s [u] I.kIn (by have := F.len _ _ _ _ sp; simpa using this)) (.cons rv .nil) sp) fun r s' h => ?_)
  cases r with
  | error e => exact h.elim
  | ok fl =>
    cases fl with
    | ret u => exact I.after h
    | next => exact h.elim
    | brk => exact h.elim
    | cont => exact h.elim
/-- the key is laid by -/
theorem key_push {A : Around} {n : Nat} {l q : Addr} {us : Array Value} {m : Nat} {kv : List V} {ks : List D} {d : D} {u : Value} {v : V} {G G0 H0 : Hp} {E : Value → Shared → Prop} (I : Inv X (pl l #[] n :: pl q us m :: pins) σ H s) (sm : Gr false G0 H0 G H) (r : Vals kv us.toList) (dq : DqAll G kv ks)
    (rv : RelV v u) (dv : Dq G v d) (hlq : l ≠ q) (hq : (q ∈ X.ex ∨ X.s_0.heap.objs.size ≤ q) ∧ (∀ y c, X.env.cells.lookup y = some c → c ≠ q) ∧ ∀ p ∈ X.pn ++ pins, p.1 ≠ q) (hz : ks.length < 1000)
    {Q : Unit → Shared → Prop} (h : ∀ s', KeysJ X pins σ G0 H0 l q n (ks ++ [d]) s' → Q () s') : wpAny (model X.prog X.w) A (Builtin.List.listUpdate (.ref q) (·.push u)) Q E s := by
  obtain ⟨e1, n1, L1, f1, c1⟩ := I.pin (pl l #[] n) (by simp)
  obtain ⟨e2, n2, L2, f2, c2⟩ := I.pin (pl q us m) (by simp)
  have e1 : s.heap.get? l = some (seqObj "list" #[] n) := e1
  have e2 : s.heap.get? q = some (seqObj "list" us m) := e2
  have sz : us.size = ks.length := by rw [← dq.length, r.length, Array.length_toList]
  have big : (1000 : Nat) ≤ sizeLine := by decide
  refine listUpdate_at e2 rfl ?_ (by omega) (by rw [Array.size_push]; omega)
  refine h _ ?_
  obtain ⟨c, hc⟩ : ∃ c, (s.heap.update q (Obj.mapSeq (·.push u))).get? q = some (seqObj "list" (us.push u) c) := ⟨_, get?_update_seq e2 (·.push u)⟩
  have sb := Heap.SameBut.update s.heap q (Obj.mapSeq (·.push u))
  have I1 : Inv X (pl l #[] n :: pins) σ H s := I.pins_of fun p hp => I.pin p (by
    rcases List.mem_cons.mp hp with rfl | hp
    · simp
    · simp [hp])
  have I2 := I1.turned (t' := s.toks) (h' := s.heap.update q (Obj.mapSeq (·.push u))) (fun b o hb e => (sb.2 b hb).trans e) n2 L2 hq.1 hq.2.1 fun p hp => by
    rcases List.mem_append.mp hp with hp | hp
    · exact hq.2.2 p (List.mem_append_left _ hp)
    · rcases List.mem_cons.mp hp with rfl | hp
      · exact hlq
      · exact hq.2.2 p (List.mem_append_right _ hp)
  refine ⟨G, H, us.push u, c, kv ++ [v], I2.pins_of fun p hp => ?_, sm, by simpa using vals_snoc r rv, dq.append (.cons dv .nil)⟩
  rcases List.mem_cons.mp hp with rfl | hp
  · exact I2.pin _ (by simp)
  · rcases List.mem_cons.mp hp with rfl | hp
    · exact ⟨hc, n2, L2, f2, fun v z => by cases z⟩
    · exact I2.pin p (by simp [hp])
theorem eachIs_of {Q : Value → D → Prop} : ∀ {us : List Value} {ks : List D}, us.length = ks.length → (∀ (i : Nat) u d, us[i]? = some u → ks[i]? = some d → Q u d) → EachIs Q us ks
  | [], [], _, _ => .nil
  | _ :: _, [], h, _ => by cases h
  | [], _ :: _, h, _ => by cases h
  | u :: us, d :: ks, h, f => .cons (f 0 u d rfl rfl) (eachIs_of (by simpa using h) fun i u' d' a b => f (i + 1) u' d' (by simpa using a) (by simpa using b))
theorem eachIs_back {G : Hp} : ∀ {us : List Value} {ks : List D}, EachIs (fun u d => ∃ v, RelV v u ∧ Dq G v d) us ks → ∃ vs, Vals vs us ∧ DqAll G vs ks
  | _, _, .nil => ⟨[], .nil, .nil⟩
  | _, _, .cons h t => by
    obtain ⟨v, a, b⟩ := h
    obtain ⟨vs, c, d⟩ := eachIs_back t
    exact ⟨v :: vs, .cons a c, .cons b d⟩
def rSortFn (K : PySem.W.Frag) (f : Addr) (key : D → D) (okd : D → Prop) : List V → List V → Hp → VK → Prop := fun vs zs H Q => ∃ (G : Hp) (a : Addr) (xs : List V) (ds : List D), vs = [V.ref a] ∧ zs = [V.ref f] ∧ Same G H ∧ SqL K H a xs ∧ DqAll G xs ds ∧ ds.length ≤ 1000 ∧
  AllAlike (ds.map key) ∧ Sortable (ds.map key) ∧ (∀ d ∈ ds, (key d).depth ≤ 10) ∧ (∀ d ∈ ds, okd d) ∧ ∀ (p : Addr) (xo : List V) (G' H' : Hp), Gr false G H G' H' → H' p = none → DqAll G' xo (ds.mergeSort (dataLe false key)) → Q (.ref p) (upd H' p (.lst xo))
theorem cr_sortedFn (F : FnOk X.prog X.w X.K X.mg X.base CX0 k f fd [x] (spP X.K R)) (hb : Binds X.K fd [x] []) (hr : Room (k + 2) X.A) {okd : D → Prop} (hR : ∀ d G, okd d → ∃ W, R G [.dat d] W ∧ ∀ t, W t → t = .dat (key d)) :
    CallRK X (.builtin "sorted") [Str.ofString "key"] (rSortFn X.K f key okd) := by
  intro pins s σ H vs zs us ws Q I r rz h
  obtain ⟨G, a, xs, ds, rfl, rfl, sgh, hs, dq, hl, hal, hk, hd, hok, q⟩ := h
  obtain rfl := Vals.ref1 r
  obtain rfl := Vals.ref1 rz
  obtain ⟨its, rv, pl0, hz⟩ := I.list hs
  have big : (1000 : Nat) ≤ sizeLine := by decide
  have hlen : its.length = ds.length := by rw [← rv.length, dq.length]
  show wpAny _ _ (call (.builtin "sorted") [.ref a] [(Str.ofString "key", .ref f)]) _ _ _
  refine sorted_of_sort pl0.isList (by omega) (ksk_s1 _ _) (fun _ => ksk_l1 _ _) fun E' => ?_
  rw [ksk_t1]
  -- the heap of the copy
  have I0 := I.kept (t' := s.toks) (h' := copyHeap s.heap its) fun b u e => copyHeap_old e
  have hL : s.heap.objs.size ≤ s.heap.objs.size + 1 := Nat.le_succ _
  have nl : H (s.heap.objs.size + 1) = none := I.hok.fresh hL
  have fl := I.fpOk (b := s.heap.objs.size + 1) hL nl
  have sL := copyHeap_at s.heap its
  revert sL fl nl
  generalize s.heap.objs.size + 1 = l
  intro nl fl sL
  have e0 : ({ s with heap := copyHeap s.heap its } : Shared) = { heap := copyHeap s.heap its, toks := s.toks, gens := s.gens, drawn := s.drawn, os := s.os } := rfl
  generalize hs1 : ({ s with heap := copyHeap s.heap its } : Shared) = s1 at I0 ⊢
  have sL : s1.heap.get? l = some (seqObj "list" its.toArray 0) := by rw [← hs1]; exact sL
  clear e0
  have ll : l < s1.heap.objs.size := Heap.lt_size sL
  unfold ksk_tree
  refine wpAny_bind (listItems_at sL rfl ?_)
  refine wpAny_bind (listUpdate_at sL rfl ?_ (by rw [List.size_toArray]; omega) (Nat.zero_le _))
  obtain ⟨n, sL1⟩ : ∃ n, (s1.heap.update l (Obj.mapSeq fun _ => (#[] : Array Value))).get? l = some (seqObj "list" #[] n) := ⟨_, get?_update_seq sL fun _ => #[]⟩
  refine wpAny_bind (seqEpoch_at sL1 rfl ?_)
  refine wpAny_bind (wpAny_newTuple ?_ (by show its.length ≤ _; omega))
  refine wpAny_bind (wpAny_newList ?_ (Nat.zero_le _))
  refine wpAny_holding ?_
  have I1 := I0.turned (t' := s1.toks) (h' := s1.heap.update l (Obj.mapSeq fun _ => (#[] : Array Value))) (fun b o hb e => (Heap.get?_update_ne _ _ _ _ hb).trans e) nl fl.2.1 fl.2.2.2.1 fl.2.2.2.2.1 fl.2.2.2.2.2
  generalize hh : s1.heap.update l (Obj.mapSeq fun _ => (#[] : Array Value)) = h1 at sL1 I1 ⊢
  have hsz : (h1.push (seqObj "tuple" its.toArray 0)).objs.size = h1.objs.size + 1 := size_push' _ _
  have lq : l < h1.objs.size := Heap.lt_size sL1
  have hq : H (h1.objs.size + 1) = none := I1.hok.fresh (Nat.le_succ _)
  have fq := I1.fpOk (b := h1.objs.size + 1) (Nat.le_succ _) hq
  have I2 := I1.kept (t' := s1.toks) (h' := (h1.push (seqObj "tuple" its.toArray 0)).push (seqObj "list" #[] 0)) fun b u e => Heap.get?_push_of_some _ (Heap.get?_push_of_some _ e)
  have sQ : ((h1.push (seqObj "tuple" its.toArray 0)).push (seqObj "list" #[] 0)).get? (h1.objs.size + 1) = some (seqObj "list" #[] 0) := by
    rw [← hsz]
    exact Heap.get?_push_size _ rfl
  have sL2 : ((h1.push (seqObj "tuple" its.toArray 0)).push (seqObj "list" #[] 0)).get? l = some (seqObj "list" #[] n) := Heap.get?_push_of_some _ (Heap.get?_push_of_some _ sL1)
  show wpAny (model X.prog X.w) X.A.in1.in1 (ksk_rest l (.ref f) false its.toArray n (.ref (h1.push (seqObj "tuple" its.toArray 0)).objs.size)) _ E' { s1 with heap := (h1.push (seqObj "tuple" its.toArray 0)).push (seqObj "list" #[] 0) }
  rw [hsz]
  generalize (h1.push (seqObj "tuple" its.toArray 0)).push (seqObj "list" #[] 0) = h2 at I2 sQ sL2 ⊢
  have hlq : l ≠ h1.objs.size + 1 := by omega
  generalize h1.objs.size + 1 = q0 at hq fq sQ hlq ⊢
  unfold ksk_rest
  refine wpAny_bind (wpAny_rule ?_)
  rw [← Array.forIn_toList]
  refine wpAny_bind (ksk_fold (fun j s' => KeysJ X pins σ G H l q0 n ((ds.take j).map key) s') its 0 _ ⟨G, H, #[], 0, [], I2.pins_of fun p hp => ?_, .refl sgh, .nil, .nil⟩ (fun j u s' hx hJ => ?_) fun s' hJ => ?_)
  · rcases List.mem_cons.mp hp with rfl | hp
    · exact ⟨sL2, nl, fl.2.1, fl.2.2.1, fun v z => by cases z⟩
    · rcases List.mem_cons.mp hp with rfl | hp
      · exact ⟨sQ, hq, fq.2.1, fq.2.2.1, fun v z => by cases z⟩
      · exact I2.pin p (by simp [hp])
  · simp only [Nat.zero_add] at hJ ⊢
    obtain ⟨G', H', us, m, kv, I3, sm, r3, dq3⟩ := hJ
    obtain ⟨v, e1, rvu⟩ := vals_getV rv hx
    obtain ⟨d, e2, dv⟩ := dq.getV e1
    have hj : j < ds.length := (List.getElem?_eq_some_iff.mp e2).1
    refine wpAny_bind (wpAny_attempt (wpAny_mono (key_call F hb hr.in1.in1 I3.env0.in1.in1 I3 sm.i rvu (dv.mono (sm.s rfl)) (hR d G' (hok d (List.mem_of_getElem? e2)))) (fun u' s'' he => ?_) fun _ _ hF => hF.elim))
    obtain ⟨v', H'', I4, rv', G'', sm', dq'⟩ := he
    try dsimp only
    refine wpAny_bind (key_push I4 (sm.trans sm') r3 (dq3.mono (sm'.s rfl)) rv' dq' hlq ⟨fq.2.2.2.1, fq.2.2.2.2.1, fq.2.2.2.2.2⟩ (by rw [List.length_map, List.length_take]; omega) fun s3 hJ => ?_)
    refine wpAny_pure ⟨rfl, ?_⟩
    rw [List.take_add_one, e2, List.map_append]
    exact hJ
  · have e3 : ds.take (0 + its.length) = ds := List.take_of_length_le (by omega)
    rw [e3] at hJ
    obtain ⟨G', H', us, m, kv, I3, sm, r3, dq3⟩ := hJ
    obtain ⟨a1, n1, L1, f1, c1⟩ := I3.pin (pl l #[] n) (by simp)
    obtain ⟨a2, n2, L2, f2, c2⟩ := I3.pin (pl q0 us m) (by simp)
    have a1 : s'.heap.get? l = some (seqObj "list" #[] n) := a1
    have a2 : s'.heap.get? q0 = some (seqObj "list" us m) := a2
    have hus : us.toList.length = (ds.map key).length := by rw [← r3.length, dq3.length]
    have hus2 : us.size = its.length := by
      rw [List.length_map, Array.length_toList] at hus
      omega
    have rd : EachIs (fun u d => ∃ as, Reads s'.heap u d as) us.toList (ds.map key) := eachIs_of hus fun i u d e1 e2 => by
      obtain ⟨v, e4, rv4⟩ := vals_getV r3 e1
      obtain ⟨d', e5, dv5⟩ := dq3.getV e4
      rw [e2] at e5
      cases e5
      exact Dp.reads I3 d v u (Dq.dp d v (dv5.mono sm.i)) rv4
    refine wpAny_bind (listItems_at a2 rfl ?_)
    have hun : ∀ d, d ∈ ds.map key → X.A.in1.in1.units + d.depth < cLine := fun d hd' => by
      obtain ⟨d0, m0, rfl⟩ := List.mem_map.mp hd'
      have := hd d0 m0
      have := hr.in1.in1.units
      omega
    refine keyH_end (κ := dataKind s'.heap (ds.map key)) (h₁ := without1 s'.heap q0) (fun b o _ e => (without1_old e).2) (without1_none _ _) a2 a1 hlq.symm (SortsAt.data rd hal hk hun) hus2 (by omega) fun h' tk c kp eo => ⟨rfl, ?_⟩
    have ko : KeyedOut false (ds.map key) its (sortVals (dataKind s'.heap (ds.map key)) false us.toList its) := ⟨s'.heap, us.toList, hal, rfl, rd⟩
    have ei := keyedOut_each (R := fun u d => ∃ v, RelV v u ∧ Dq G' v d) key ko (eachIs_of hlen fun i u d e1 e2 => by
      obtain ⟨v, e4, rv4⟩ := vals_getV rv e1
      obtain ⟨d', e5, dv5⟩ := dq.getV e4
      rw [e2] at e5
      cases e5
      exact ⟨v, rv4, dv5.mono (sm.s rfl)⟩)
    obtain ⟨xo, ro, dqo⟩ := eachIs_back ei
    have hxo : xo.length ≤ sizeLine := by
      rw [dqo.length, (List.mergeSort_perm _ _).length_eq]
      omega
    have I4 : Inv X pins σ H' s' := I3.pins_of fun p hp => I3.pin p (by simp [hp])
    refine ⟨.ref l, upd H' l (.lst xo), inv_two I4 (l := l) (q := q0) (t' := tk) (fun b u b1 b2 e => kp b u b1 (without1_ne b2 e)) ⟨n1, fl.2⟩ ⟨n2, fq.2⟩ ⟨hxo, _, c, ro, eo⟩, rfl, q l xo G' H' sm n1 dqo⟩
end
section
variable {X : Cx} {Φ : Ph} {A : List Sl} {a : Expr} {pos p p1 px : Pos} {x y : Str} {R : PSpec} {k : Nat} {key : D → D} {kw : Str} {ds : List D}
theorem ex_sortFn (hm : X.mg "sorted" = none) (F : Fn X.prog X.w X.K X.mg X.base x [y] R k) (hr : Room (k + 2) X.A) (ha : EX X Φ A a (.dat (.list ds))) (hR : ∀ d ∈ ds, ∀ G, ∃ W, R G [.dat d] W ∧ ∀ t, W t → t = .dat (key d)) (hl : ds.length ≤ 1000)
    (hal : AllAlike (ds.map key)) (hk : Sortable (ds.map key)) (hd : ∀ d ∈ ds, (key d).depth ≤ 10) (hg : Gl X "sorted" := by rfl) (hgx : Gl X x := by rfl) (hdb : (x == ("__debug__" : Str)) = false := by decide)
    (he : backTo pos (starEach [a] X.env) = (false, eval a X.env) :: backTo pos (starEach [] X.env) := by rfl) (hst : starEach [a] X.env = (false, eval a X.env) :: starEach [] X.env := by rfl) (hpl : (backTo pos (starEach [a] X.env)).any (·.1) = false := by rfl)
    (hall : (backToKw pos (keywordEach [⟨kw, .Name x px, p1⟩] X.env)).all (·.1.isSome) = true := by rfl) (hnone : (backToKw pos (keywordEach [⟨kw, .Name x px, p1⟩] X.env)).any (·.1.isNone) = false := by rfl)
    (hks : (backToKw pos (keywordEach [⟨kw, .Name x px, p1⟩] X.env)).filterMap (·.1) = [Str.ofString "key"] := by rfl) :
    EX X Φ A (.Call (.Name "sorted" p) [a] [⟨kw, .Name x px, p1⟩] pos) (.dat (.list (ds.mergeSort (dataLe false key)))) := by
  obtain ⟨f, fd, hmx, F, hkp, hb⟩ := F
  refine exw_of (pe_callBK (cr_sortedFn (okd := (· ∈ ds)) F hb hr fun d G hd => hR d hd G) hg hm (by decide +kernel) (pa_cons RE.pe pa_nil hst) (pk_cons (pe_glob hgx hmx (v := .ref f) rfl hdb) pk_nil) (he := he) (hpl := hpl) (hall := hall) (hnone := hnone) (hks := hks)) fun μ G0 H0 G H σ Q ab φ q => ha μ G0 H0 G H σ _ ab φ fun s v G1 H1 w g sv => ?_
  subst w
  cases sv with
  | dat sv => cases sv with
    | lst e1 dq => exact ⟨G1, _, _, ds, rfl, rfl, g.i, .of (g.i _ _ e1), dq, hl, hal, hk, hd, fun d h => h, fun p xo G' H' g1 hp dqo =>
        q _ _ _ _ rfl (g.trans (g1.trans (.new g1.i hp))) (.dat (.lst upd_same (dqo.mono (same_upd (Same.none g1.i hp)))))⟩
end
end Dl
namespace Dl
open PySem PySem.Spec PyProof.Rows L2
/-! ### mends: the mathematics -/
def shutF (order : List (Nat × Nat)) (done : List (Option Int)) (steps : List Nat) : Bool := order.all fun p => !(decide (p.1 ∈ steps) && ((done.getD p.2 none).isSome && !decide (p.2 ∈ steps)))
def rowsF (done : List (Option Int)) : Nat → List (List Nat)
  | 0 => [[]]
  | n + 1 => if (done.getD n none).isSome then rowsF done n ++ (rowsF done n).map (fun r => r ++ [n]) else rowsF done n
theorem rowsF_few (done : List (Option Int)) : ∀ n, (rowsF done n).length ≤ 2 ^ n
  | 0 => Nat.le_refl _
  | n + 1 => by
    have ih := rowsF_few done n
    show (if _ then _ else _ : List (List Nat)).length ≤ _
    rw [Nat.pow_succ]
    split
    · rw [List.length_append, List.length_map]
      omega
    · omega
theorem rowsF_lt (done : List (Option Int)) : ∀ n, ∀ r ∈ rowsF done n, r.length ≤ n ∧ ∀ x ∈ r, x < n
  | 0 => fun r hr => by
    rw [List.mem_singleton.mp hr]
    exact ⟨Nat.le_refl _, fun x hx => by cases hx⟩
  | n + 1 => fun r hr => by
    have ih := rowsF_lt done n
    have hr : r ∈ (if (done.getD n none).isSome = true then _ else _ : List (List Nat)) := hr
    split at hr
    · rcases List.mem_append.mp hr with hr | hr
      · exact ⟨Nat.le_succ_of_le (ih r hr).1, fun x hx => Nat.lt_succ_of_lt ((ih r hr).2 x hx)⟩
      · obtain ⟨q, hq, rfl⟩ := List.mem_map.mp hr
        refine ⟨by rw [List.length_append]; exact Nat.succ_le_succ (ih q hq).1, fun x hx => ?_⟩
        rcases List.mem_append.mp hx with hx | hx
        · exact Nat.lt_succ_of_lt ((ih q hq).2 x hx)
        · rw [List.mem_singleton.mp hx]
          exact Nat.lt_succ_self n
    · exact ⟨Nat.le_succ_of_le (ih r hr).1, fun x hx => Nat.lt_succ_of_lt ((ih r hr).2 x hx)⟩
theorem rowsF_nodup (done : List (Option Int)) : ∀ n, (rowsF done n).Nodup
  | 0 => by show ([[]] : List (List Nat)).Nodup; decide
  | n + 1 => by
    have ih := rowsF_nodup done n
    show (if (done.getD n none).isSome = true then _ else _ : List (List Nat)).Nodup
    split
    · rw [List.nodup_append]
      refine ⟨ih, nodup_map ih fun a _ b _ e => List.append_cancel_right e, fun a ha b hb e => ?_⟩
      obtain ⟨q, hq, rfl⟩ := List.mem_map.mp hb
      have := (rowsF_lt done n a ha).2 n (by rw [e]; simp)
      omega
    · exact ih
def setsF (order : List (Nat × Nat)) (done : List (Option Int)) : List (List Nat) := (rowsF done done.length).filter (shutF order done)
def keyR : D → D
  | .list xs => .tuple [.int xs.length, .list xs]
  | d => d
def rowLe (a b : List Nat) : Bool := PySem.W.dataLe false keyR (lnD a) (lnD b)
def strikesF (order : List (Nat × Nat)) (done : List (Option Int)) : List (List Nat) := (setsF order done).mergeSort rowLe
theorem strikesF_perm (order : List (Nat × Nat)) (done : List (Option Int)) : (strikesF order done).Perm (setsF order done) := List.mergeSort_perm _ _
theorem rowLe_len {a b : List Nat} (h : rowLe a b = true) : a.length ≤ b.length := by
  unfold rowLe at h
  rw [PySem.W.dataLe_eq] at h
  have h : (!PySem.W.dataLt (.tuple [.int ((b.map encN).length : Nat), lnD b]) (.tuple [.int ((a.map encN).length : Nat), lnD a])) = true := h
  rw [PySem.W.dataLt_tuple, List.length_map, List.length_map] at h
  by_cases q : b.length < a.length
  · exfalso
    have hd : decide ((b.length : Int) < (a.length : Int)) = true := decide_eq_true (Int.ofNat_lt.mpr q)
    have : PyProof.Rows.lexLt PyProof.Rows.itemOrd (PySem.W.keyToksAll [.int (b.length : Nat), lnD b]) (PySem.W.keyToksAll [.int (a.length : Nat), lnD a]) = true := by
      simp only [PySem.W.keyToksAll, PySem.W.keyToks, List.cons_append, List.nil_append, PyProof.Rows.lexLt, PyProof.Rows.itemLt]
      simp [hd]
      omega
    rw [this] at h
    cases h
  · omega
theorem strikesF_sorted (order : List (Nat × Nat)) (done : List (Option Int)) : (strikesF order done).Pairwise fun a b => a.length ≤ b.length :=
  (PySem.W.sort_pairwise (le := rowLe) (by
    have t := PySem.W.sortLe_total (PyProof.Rows.listOrd PyProof.Rows.itemOrd) false fun a : List Nat => PySem.W.keyToks (keyR (lnD a))
    exact t) (setsF order done)).imp rowLe_len
section
variable {P : Program} {w : World} {K : PySem.W.Frag} {mg : Str → Option Value} {base : Heap}
abbrev s_shut : Stmt := topS 49
abbrev N_shut : List Str := ["order", "done", "steps", "pair"]
theorem sc_shut : FnScope N_shut ["order", "done", "steps"] (defScope s_shut) := ⟨rfl, rfl, rfl, by decide +kernel, rfl, by decide +kernel, by decide +kernel⟩
theorem hb_shut (kV doc pm : Value) (an : Option Addr) (cdv ct : Value) (us : List Value) (hl : us.length = 3) : bindArgs (PySem.W.fnOf "shut" "shut" (defArgs s_shut) (defBody s_shut) (defScope s_shut) .none kV doc pm an cdv ct) ⟨us, []⟩ = pure ((["order", "done", "steps"] : List Str).zip us) := match us, hl with
  | [_, _, _], _ => rfl
def R_shut : PSpec := fun _ ss W => ∃ (order : List (Nat × Nat)) (done : List (Option Int)) (steps : List Nat), ss = [.dat (lpD order), .dat (loD done), .dat (lnD steps)] ∧ (∀ p ∈ order, p.2 < done.length) ∧ W = (· = db (shutF order done steps))
theorem ok_shut (B : Bt mg) (Dd : DefAt K mg "shut" s_shut) : Fn P w K mg base "shut" ["order", "done", "steps"] R_shut 1 := by
  refine fn_mk Dd sc_shut (fun G ss W ⟨_, _, _, e, _⟩ => by rw [e]; rfl) hb_shut fun f cdv A outer s H hr G ss W h => ?_
  obtain ⟨order, done, steps, rfl, ho, rfl⟩ := h
  have nd := (sc_shut).nd
  let q : Nat × Nat → Bool := fun p => decide (p.1 ∈ steps) && ((done.getD p.2 none).isSome && !decide (p.2 ∈ steps))
  refine sxs_cons (sx_forT (ix_lstM (ex_var 0 rfl)) (fun i Ψ B => Ψ = phS G ∧ ∃ u, B = [.d (lpD order), .d (loD done), .d (lnD steps), u] ∧ shutF (order.take i) done steps = true) ⟨rfl, _, rfl, rfl⟩ (fun i y Ψ B e iv => ?_) fun Ψ B iv => ?_)
  · obtain ⟨rfl, u, rfl, iv⟩ := iv
    have et : order.take (i + 1) = order.take i ++ [y] := by
      rw [List.take_add_one, e]
      rfl
    have hy := getO (ho y (List.mem_of_getElem? e))
    refine ⟨_, tx_name 3 nd, sxs_one (sx_if (k := q y) (EB.cast (eb_bop (ew_and (eb_inN (ex_ixT (ex_var 3 rfl) ex_int rfl) (ex_var 2 rfl)) (fun hc => (ew_and (eb_notN (ex_ixM (f := encO) (ex_var 1 rfl) (ex_ixT (ex_var 3 rfl) ex_int rfl) (atN hy))) (fun hc => (ew_and1 (eb_ninN (ex_ixT (ex_var 3 rfl) ex_int rfl) (ex_var 2 rfl)))))))) (by rw [isN_encO]; show _ = (decide (y.1 ∈ steps) && ((done.getD y.2 none).isSome && !decide (y.2 ∈ steps))); cases done.getD y.2 none <;> rfl)).t (fun hk => sxs_one (sx_ret ex_bool fun s w => ?_)) fun hk => sxs_nil ⟨rfl, _, rfl, ?_⟩)⟩
    · subst w
      have hf : shutF order done steps = false := by
        unfold shutF
        rw [List.all_eq_false]
        refine ⟨y, List.mem_of_getElem? e, ?_⟩
        have hk : (decide (y.1 ∈ steps) && ((done.getD y.2 none).isSome && !decide (y.2 ∈ steps))) = true := hk
        rw [hk]
        decide
      rw [hf]
    · have hk : (decide (y.1 ∈ steps) && ((done.getD y.2 none).isSome && !decide (y.2 ∈ steps))) = false := hk
      unfold shutF at iv ⊢
      rw [et, List.all_append, iv, List.all_cons, List.all_nil, hk]
      rfl
  · obtain ⟨rfl, u, rfl, iv⟩ := iv
    rw [List.take_length] at iv
    refine sxs_one (sx_ret ex_bool fun s w => ?_)
    subst w
    rw [iv]
abbrev s_rank : Stmt := topS 50
abbrev N_rank : List Str := ["steps"]
theorem sc_rank : FnScope N_rank ["steps"] (defScope s_rank) := ⟨rfl, rfl, rfl, by decide +kernel, rfl, by decide +kernel, by decide +kernel⟩
theorem hb_rank (kV doc pm : Value) (an : Option Addr) (cdv ct : Value) (us : List Value) (hl : us.length = 1) : bindArgs (PySem.W.fnOf "rank" "rank" (defArgs s_rank) (defBody s_rank) (defScope s_rank) .none kV doc pm an cdv ct) ⟨us, []⟩ = pure ((["steps"] : List Str).zip us) := match us, hl with
  | [_], _ => rfl
def R_rank : PSpec := fun _ ss W => ∃ (ns : List Nat), ss = [.dat (lnD ns)] ∧ W = (· = .dat (keyR (lnD ns)))
theorem ok_rank (B : Bt mg) (Dd : DefAt K mg "rank" s_rank) : Fn P w K mg base "rank" ["steps"] R_rank 1 := by
  refine fn_mk Dd sc_rank (fun G ss W ⟨_, e, _⟩ => by rw [e]; rfl) hb_rank fun f cdv A outer s H hr G ss W h => ?_
  obtain ⟨ns, rfl, rfl⟩ := h
  have nd := (sc_rank).nd
  exact sxs_one (sx_ret (ex_tup (ds := [_, _]) (ea_cons (ex_len B.len (ex_var 0 rfl) (.lst _)) (ea_cons (ex_var 0 rfl) ea_nil)) (Nat.le_of_ble_eq_true rfl)) fun s w => w)
abbrev s_strikes : Stmt := topS 51
abbrev N_strikes : List Str := ["order", "done", "rows", "step", "row"]
theorem sc_strikes : FnScope N_strikes ["order", "done"] (defScope s_strikes) := ⟨rfl, rfl, rfl, by decide +kernel, rfl, by decide +kernel, by decide +kernel⟩
theorem hb_strikes (kV doc pm : Value) (an : Option Addr) (cdv ct : Value) (us : List Value) (hl : us.length = 2) : bindArgs (PySem.W.fnOf "strikes" "strikes" (defArgs s_strikes) (defBody s_strikes) (defScope s_strikes) .none kV doc pm an cdv ct) ⟨us, []⟩ = pure ((["order", "done"] : List Str).zip us) := match us, hl with
  | [_, _], _ => rfl
def R_strikes : PSpec := fun _ ss W => ∃ (order : List (Nat × Nat)) (done : List (Option Int)), ss = [.dat (lpD order), .dat (loD done)] ∧ (∀ p ∈ order, p.2 < done.length) ∧ done.length ≤ 6 ∧ W = (· = .dat (lnnD (strikesF order done)))
theorem depthAll_nat : ∀ ns : List Nat, PyData.depthAll (ns.map encN) = 0
  | [] => by simp [PyData.depthAll]
  | n :: ns => by
    rw [List.map_cons]
    simp only [PyData.depthAll, depthAll_nat ns, encN, PyData.depth]
    rfl
theorem alikeAll_nat : ∀ ms ns : List Nat, PySem.W.alikeAll (ms.map encN) (ns.map encN) = true
  | [], [] => by simp [PySem.W.alikeAll]
  | [], _ :: _ => by simp [PySem.W.alikeAll]
  | _ :: _, [] => by simp [PySem.W.alikeAll]
  | m :: ms, n :: ns => by
    rw [List.map_cons, List.map_cons]
    simp [PySem.W.alikeAll, PySem.W.alike, encN, alikeAll_nat ms ns]
theorem keyR_alike (ms ns : List Nat) : PySem.W.alike (keyR (lnD ms)) (keyR (lnD ns)) = true := by
  show PySem.W.alike (.tuple [.int _, .list _]) (.tuple [.int _, .list _]) = true
  simp [PySem.W.alikeAll, PySem.W.alike, alikeAll_nat ms ns]
set_option maxHeartbeats 1000000 in
theorem ok_strikes (B : Bt mg) (Dd : DefAt K mg "strikes" s_strikes) (F_shut : Fn P w K mg base "shut" ["order", "done", "steps"] R_shut 1) (F_rank : Fn P w K mg base "rank" ["steps"] R_rank 1) : Fn P w K mg base "strikes" ["order", "done"] R_strikes 4 := by
  refine fn_mk Dd sc_strikes (fun G ss W ⟨_, _, e, _⟩ => by rw [e]; rfl) hb_strikes fun f cdv A outer s H hr3 G ss W h => ?_
  obtain ⟨order, done, rfl, ho, hz, rfl⟩ := h
  have nd := (sc_strikes).nd
  have hr := hr3.mono (show 1 ≤ 3 by decide)
  have hl : (done.map encO).length = done.length := List.length_map _
  have few : ∀ n, n ≤ done.length → ((rowsF done n).map lnD).length ≤ 64 := fun n hn => by
    rw [List.length_map]
    exact Nat.le_trans (rowsF_few done n) (Nat.le_trans (Nat.pow_le_pow_right (by decide) (Nat.le_trans hn hz)) (by decide))
  refine sxs_cons (sx_asg 2 (W := (· = .dat (lnnD (rowsF done 0)))) (ex_lst (ds := [_]) (ea_cons (ex_lst (ds := []) ea_nil (Nat.le_of_ble_eq_true rfl)) ea_nil) (Nat.le_of_ble_eq_true rfl)) (fun s w => ?_) nd)
  subst w
  refine sxs_cons (sx_forT (ix_range B.range (ex_len B.len (ex_var 1 rfl) (.lst _)) (by omega) (by omega)) (fun i Ψ B => Ψ = phS G ∧ ∃ u v, B = [.d (lpD order), .d (loD done), .d (lnnD (rowsF done i)), u, v]) ⟨rfl, _, _, rfl⟩ (fun i n Ψ B e iv => ?_) fun Ψ B iv => ?_)
  · obtain ⟨rfl, u, v, rfl⟩ := iv
    have hn : n = i ∧ i < done.length := by
      obtain ⟨h1, h2⟩ := List.getElem?_eq_some_iff.mp e
      rw [List.getElem_range] at h2
      rw [List.length_range, Int.toNat_natCast, hl] at h1
      exact ⟨h2.symm, h1⟩
    obtain ⟨rfl, hn⟩ := hn
    have fw := few n (Nat.le_of_lt hn)
    have fw2 : (rowsF done n).length ≤ 64 := by rw [List.length_map] at fw; exact fw
    refine ⟨_, tx_name 3 nd, sxs_one (sx_if (k := (done.getD n none).isSome) (EB.cast (eb_notN (ex_ixM (f := encO) (ex_var 1 rfl) (ex_var 3 rfl) (atN (getO hn)))) (by rw [isN_encO]; cases done.getD n none <;> rfl)).t (fun hk => sxs_one (sx_asg 2 (W := (· = .dat (lnnD (rowsF done (n + 1))))) (EX.cast (ex_cat (ex_var 2 rfl) (ex_lc 4 (fun _ => true) (fun r => lnD (r ++ [n])) (ix_lstM (ex_var 2 rfl)) (by omega) (blkOk_by (N := N_strikes) (sc := defScope s_strikes) (by decide +kernel)) (fun y hy s H C cl fp => rfl) (fun y hy hq s H C cl fp => EX.cast (ex_cat (ex_var 4 rfl) (ex_lst (ds := [_]) (ea_cons (ex_var 3 rfl) ea_nil) (Nat.le_of_ble_eq_true rfl)) ?_) ?_) (fun s H C cl fp => pg_name nd rfl (Or.inl rfl)) nd) ?_) ?_) (fun s w => ?_) nd)) fun hk => sxs_nil ⟨rfl, .k (di (n : Nat)), v, ?_⟩)⟩
    · have := (rowsF_lt done n y hy).1
      rw [List.length_map]
      have : (1000 : Nat) ≤ sizeLine := by decide
      show y.length + 1 ≤ _
      omega
    · show _ = Ds.dat (.list ((y ++ [n]).map encN))
      rw [List.map_append]
      rfl
    · have : (1000 : Nat) ≤ sizeLine := by decide
      rw [List.length_map, List.length_map]
      have := List.length_filter_le (fun _ : List Nat => true) (rowsF done n)
      omega
    · show _ = Ds.dat (.list ((if (done.getD n none).isSome = true then _ else _ : List (List Nat)).map lnD))
      rw [if_pos hk, List.map_append, List.map_map, List.filter_eq_self.mpr fun _ _ => rfl]
      rfl
    · subst w
      exact ⟨rfl, .k (di (n : Nat)), v, rfl⟩
    · show _ = [_, _, Sl.d (.list ((if (done.getD n none).isSome = true then _ else _ : List (List Nat)).map lnD)), _, _]
      rw [if_neg (by rw [hk]; decide)]
      rfl
  · obtain ⟨rfl, u, v, rfl⟩ := iv
    rw [List.length_range, Int.toNat_natCast, hl]
    have fw := few done.length (Nat.le_refl _)
    have fw2 : (rowsF done done.length).length ≤ 64 := by rw [List.length_map] at fw; exact fw
    have mem : ∀ d ∈ ((rowsF done done.length).filter (shutF order done)).map lnD, ∃ r : List Nat, d = lnD r := fun d hd => by
      obtain ⟨r, _, rfl⟩ := List.mem_map.mp hd
      exact ⟨r, rfl⟩
    have hl2 : (((rowsF done done.length).filter (shutF order done)).map lnD).length ≤ 1000 := by
      have := List.length_filter_le (shutF order done) (rowsF done done.length)
      rw [List.length_map]
      omega
    have hR : ∀ d ∈ ((rowsF done done.length).filter (shutF order done)).map lnD, ∀ G, ∃ W, R_rank G [.dat d] W ∧ ∀ t, W t → t = .dat (keyR d) := fun d hd G => by
      obtain ⟨r, rfl⟩ := mem d hd
      exact ⟨_, ⟨r, rfl, rfl⟩, fun t h => h⟩
    have hal : PySem.W.AllAlike ((((rowsF done done.length).filter (shutF order done)).map lnD).map keyR) := by
      intro a ha b hb
      obtain ⟨a, ha1, rfl⟩ := List.mem_map.mp ha
      obtain ⟨b, hb1, rfl⟩ := List.mem_map.mp hb
      obtain ⟨r, rfl⟩ := mem a ha1
      obtain ⟨r', rfl⟩ := mem b hb1
      exact keyR_alike r r'
    have hsk : PySem.W.Sortable ((((rowsF done done.length).filter (shutF order done)).map lnD).map keyR) := by
      refine .inl fun d hd => ?_
      obtain ⟨a, ha, rfl⟩ := List.mem_map.mp hd
      obtain ⟨r, rfl⟩ := mem a ha
      exact ⟨_, _, rfl⟩
    have hdp : ∀ d ∈ ((rowsF done done.length).filter (shutF order done)).map lnD, (keyR d).depth ≤ 10 := fun d hd => by
      obtain ⟨r, rfl⟩ := mem d hd
      show PyData.depth (.tuple [.int _, .list _]) ≤ 10
      simp [PyData.depth, PyData.depthAll, depthAll_nat r]
    refine sxs_one (sx_ret (ex_sortFn (key := keyR) B.sorted F_rank hr3 (ex_lc 4 (shutF order done) lnD (ix_lstM (ex_var 2 rfl)) (by omega) (blkOk_by (N := N_strikes) (sc := defScope s_strikes) (by decide +kernel)) (fun y hy s H C cl fp => (EB.cast (eb_of (ex_call F_shut hr (ea_cons (ex_var 0 rfl) (ea_cons (ex_var 1 rfl) (ea_cons (ex_var 4 rfl) ea_nil))) (fun G _ => ⟨_, _, _, rfl, ho, rfl⟩))) rfl).t) (fun y hy hq s H C cl fp => EX.cast (ex_var 4 rfl) rfl) (fun s H C cl fp => pg_name nd rfl (Or.inl rfl)) nd) hR hl2 hal hsk hdp) fun s w => ?_)
    subst w
    show Ds.dat (.list _) = Ds.dat (.list ((strikesF order done).map lnD))
    unfold strikesF setsF
    rw [PySem.W.sort_maps (r := rowLe) (s := PySem.W.dataLe false keyR) lnD fun _ _ _ _ => rfl]
abbrev s_mend : Stmt := topS 53
abbrev N_mend : List Str := ["may", "ties", "order", "done", "papers", "steps", "told", "pair", "smaller"]
theorem sc_mend : FnScope N_mend ["may", "ties", "order", "done"] (defScope s_mend) := ⟨rfl, rfl, rfl, by decide +kernel, rfl, by decide +kernel, by decide +kernel⟩
theorem hb_mend (kV doc pm : Value) (an : Option Addr) (cdv ct : Value) (us : List Value) (hl : us.length = 4) : bindArgs (PySem.W.fnOf "mend" "mend" (defArgs s_mend) (defBody s_mend) (defScope s_mend) .none kV doc pm an cdv ct) ⟨us, []⟩ = pure ((["may", "ties", "order", "done"] : List Str).zip us) := match us, hl with
  | [_, _, _, _], _ => rfl
def encSP (q : List Nat × Paper) : D := .tuple [lnD q.1, encPa q.2]
abbrev spD (ps : List (List Nat × Paper)) : D := .list (ps.map encSP)
def SpOk (may : List (List Int)) (ties : List Tie) (done : List (Option Int)) (ps : List (List Nat × Paper)) : Prop := ∀ q ∈ ps, Shows (heldF may (struckF done q.1)) ties [] q.2
def W_mend (may : List (List Int)) (ties : List Tie) (order : List (Nat × Nat)) (done : List (Option Int)) (s : Ds) : Prop :=
  (∃ (steps : List Nat) (hands : List Int) (sm : List (List Nat × Paper)), steps ∈ setsF order done ∧ PlanOk (heldF may (struckF done steps)) ties hands ∧ (sm.map (·.1)).Perm ((setsF order done).filter fun r => decide (r.length < steps.length)) ∧ SpOk may ties done sm ∧
    s = .dat (.tuple [.str "mend", lnD steps, liD hands, spD sm])) ∨
  (∃ ps : List (List Nat × Paper), (ps.map (·.1)).Perm (setsF order done) ∧ SpOk may ties done ps ∧ s = .dat (.tuple [.str "none", spD ps]))
def R_mend : PSpec := fun _ ss W => ∃ (may : List (List Int)) (ties : List Tie) (order : List (Nat × Nat)) (done : List (Option Int)), ss = [.dat (llD may), .dat (ltD ties), .dat (lpD order), .dat (loD done)] ∧
  MayOk may ∧ TiesOk may.length ties ∧ may.length = done.length ∧ (∀ p ∈ order, p.2 < done.length) ∧ W = W_mend may ties order done
theorem struckF_len (done : List (Option Int)) (steps : List Nat) : (struckF done steps).length = done.length := by
  unfold struckF
  rw [List.length_map, List.length_range]
theorem heldF_len {may : List (List Int)} {done : List (Option Int)} (h : may.length = done.length) : (heldF may done).length = may.length := by
  unfold heldF
  rw [List.length_map, List.length_zip, h, Nat.min_self]
theorem heldF_ok {may : List (List Int)} {done : List (Option Int)} (h : may.length = done.length) (m : MayOk may) : MayOk (heldF may done) := by
  refine ⟨by rw [heldF_len h]; exact m.len, fun r hr => ?_⟩
  unfold heldF at hr
  obtain ⟨q, hq, rfl⟩ := List.mem_map.mp hr
  have hm := (List.of_mem_zip hq).1
  split
  · exact m.few _ hm
  · show 1 ≤ 100
    decide
theorem take_filter_len {l : List (List Nat)} (hs : l.Pairwise fun a b => a.length ≤ b.length) {i : Nat} {r : List Nat} (e : l[i]? = some r) : (l.take i).filter (fun a => decide (a.length < r.length)) = l.filter fun a => decide (a.length < r.length) := by
  have e2 : l.filter (fun a => decide (a.length < r.length)) = (l.take i ++ l.drop i).filter fun a => decide (a.length < r.length) := by rw [List.take_append_drop]
  rw [e2, List.filter_append]
  have hi := (List.getElem?_eq_some_iff.mp e).1
  have hz : (l.drop i).filter (fun a => decide (a.length < r.length)) = [] := by
    rw [List.filter_eq_nil_iff]
    intro a ha
    rw [← List.take_append_drop i l] at hs
    have ed : l.drop i = r :: l.drop (i + 1) := by
      rw [List.drop_eq_getElem_cons hi]
      congr 1
      exact (List.getElem?_eq_some_iff.mp e).2
    have hp := (List.pairwise_append.mp hs).2.1
    rw [ed] at hp ha
    rcases List.mem_cons.mp ha with rfl | ha
    · simp
    · have := (List.pairwise_cons.mp hp).1 a ha
      simp
      omega
  rw [hz, List.append_nil]
theorem SXs.fz {μ : Bool} {X : Cx} {Φ : Ph} {A : List Sl} {sts : List Stmt} {P : PEnd} (h : SXs μ X Φ (fzA A) sts P) : SXs μ X Φ A sts P := fun G0 H0 G H σ De ab φ m => by
  obtain ⟨G1, ab1, sm⟩ := ab.fz
  exact h G0 H0 G1 H σ De ab1 (Φ.st _ _ sm φ) (m.step (.of sm))
set_option maxHeartbeats 2000000 in
theorem ok_mend (B : Bt mg) (Dd : DefAt K mg "mend" s_mend) (F_strikes : Fn P w K mg base "strikes" ["order", "done"] R_strikes 4) (F_plan : Fn P w K mg base "plan" ["may", "ties"] R_plan 10) (F_held : Fn P w K mg base "held" ["may", "done"] R_held 1) (F_struck : Fn P w K mg base "struck" ["done", "steps"] R_struck 1) :
    Fn P w K mg base "mend" ["may", "ties", "order", "done"] R_mend 11 := by
  refine fn_mk Dd sc_mend (fun G ss W ⟨_, _, _, _, e, _⟩ => by rw [e]; rfl) hb_mend fun f cdv A outer s H hr10 G ss W h => ?_
  obtain ⟨may, ties, order, done, rfl, mo, to, hl, ho, rfl⟩ := h
  have nd := (sc_mend).nd
  have hr1 := hr10.mono (show 1 ≤ 10 by decide)
  have hr4 := hr10.mono (show 4 ≤ 10 by decide)
  have hz := mo.len
  have few : (strikesF order done).length ≤ 64 := by
    rw [(strikesF_perm order done).length_eq]
    refine Nat.le_trans (List.length_filter_le _ _) (Nat.le_trans (rowsF_few done done.length) (Nat.le_trans (Nat.pow_le_pow_right (by decide) (show done.length ≤ 6 by omega)) (by decide)))
  refine sxs_cons (sx_own 4 exn_nil ?_ nd)
  refine sxs_cons (sx_forT (ix_lstM (ex_call F_strikes hr4 (ea_cons (ex_var 2 rfl) (ea_cons (ex_var 3 rfl) ea_nil)) (W := (· = .dat (lnnD (strikesF order done)))) fun G _ => ⟨_, _, rfl, ho, by omega, rfl⟩))
    (fun i Ψ B => Ψ = phS G ∧ ∃ (ps : List (List Nat × Paper)) (u v v7 v8 : Sl), B = [.d (llD may), .d (ltD ties), .d (lpD order), .d (loD done), .lst (ps.map encSP), u, v, v7, v8] ∧ ps.map (·.1) = (strikesF order done).take i ∧ SpOk may ties done ps) ⟨rfl, [], _, _, _, _, rfl, rfl, fun q hq => by cases hq⟩ (fun i row Ψ B e iv => ?_) fun Ψ B iv => ?_)
  · obtain ⟨rfl, ps, u, v, v7, v8, rfl, hps, sp⟩ := iv
    have hlen : ps.length ≤ 64 := by
      have := congrArg List.length hps
      rw [List.length_map, List.length_take] at this
      omega
    have hmem : row ∈ setsF order done := (strikesF_perm order done).mem_iff.mp (List.mem_of_getElem? e)
    have hsl := struckF_len done row
    have hml : may.length = (struckF done row).length := by rw [hsl, hl]
    refine ⟨_, tx_name 5 nd, ?_⟩
    refine sxs_cons (sx_asg 6 (ex_call F_plan hr10 (ea_cons (ex_call F_held hr1 (ea_cons (ex_var 0 rfl) (ea_cons (ex_call F_struck hr1 (ea_cons (ex_var 3 rfl) (ea_cons (ex_var 5 rfl) ea_nil)) (W := (· = .dat (loD (struckF done row)))) fun G _ => ⟨_, _, rfl, by omega, rfl⟩) ea_nil)) (W := (· = .dat (llD (heldF may (struckF done row))))) fun G _ => ⟨_, _, rfl, hml, by omega, rfl⟩) (ea_cons (ex_var 1 rfl) ea_nil)) (W := W_plan (heldF may (struckF done row)) ties []) fun G _ => ⟨_, _, rfl, heldF_ok hml mo, by rw [heldF_len hml]; exact to, rfl⟩) (fun s w => ?_) nd)
    rcases w with ⟨hands, pl, rfl⟩ | ⟨pa, sh, rfl⟩
    · refine sxs_cons (sx_if (k := true) (EB.cast (eb_eqS (ex_ixT (ex_var 6 rfl) ex_int rfl) ex_str) (by decide +kernel)).t (fun _ => SXs.fz ?_) fun hk => by cases hk)
      show SXs _ _ _ [.d (llD may), .d (ltD ties), .d (lpD order), .d (loD done), .d (spD ps), .d (lnD row), .d (.tuple [.str "plan", liD hands]), v7.fz, v8.fz] _ _
      refine sxs_cons (sx_lc 8 7 (fun q : List Nat × Paper => decide (q.1.length < row.length)) encSP (ix_lstM (ex_var 4 rfl)) (by omega) (blkOk_by (N := N_mend) (sc := defScope s_mend) (by decide +kernel)) (fun y hy s H C cl fp => (EB.cast (eb_lt (ex_len B.len (ex_ixT (ex_var 7 rfl) ex_int rfl) (.lst _)) (ex_len B.len (ex_var 5 rfl) (.lst _))) (decide_eq_decide.mpr (by rw [List.length_map, List.length_map]; exact Int.ofNat_lt))).t) (fun y hy hq s H C cl fp => EX.cast (ex_var 7 rfl) rfl) (fun s H C cl fp => pg_name nd rfl (Or.inl rfl)) nd ?_)
      refine sxs_one (sx_ret (ex_tup (ds := [_, _, _, _]) (ea_cons ex_str (ea_cons (ex_var 5 rfl) (ea_cons (ex_ixT (ex_var 6 rfl) ex_int rfl) (ea_cons (ex_var 8 rfl) ea_nil)))) (Nat.le_of_ble_eq_true rfl)) fun s w => .inl ⟨row, hands, ps.filter fun q => decide (q.1.length < row.length), hmem, pl, ?_, fun q hq => sp q (List.mem_filter.mp hq).1, w⟩)
      have e1 : (ps.filter fun q => decide (q.1.length < row.length)).map (·.1) = ((strikesF order done).take i).filter fun r => decide (r.length < row.length) := by
        rw [← hps, List.filter_map]
        rfl
      rw [e1, take_filter_len (strikesF_sorted order done) e]
      exact (strikesF_perm order done).filter _
    · refine sxs_cons (sx_if (k := false) (EB.cast (eb_eqS (ex_ixT (ex_var 6 rfl) ex_int rfl) ex_str) (by decide +kernel)).t (fun hk => by cases hk) fun _ => sxs_nil ?_)
      refine sxs_one (sx_app 4 rfl (ex_tup (ds := [_, _]) (ea_cons (ex_var 5 rfl) (ea_cons (ex_ixT (ex_var 6 rfl) ex_int rfl) ea_nil)) (Nat.le_of_ble_eq_true rfl)) (by rw [List.length_map]; omega) ⟨rfl, ps ++ [(row, pa)], .d (lnD row), .d (.tuple [.str "none", encPa pa]), v7, v8, ?_, ?_, ?_⟩)
      · rw [List.map_append]
        rfl
      · rw [List.map_append, hps, List.take_add_one, e]
        rfl
      · intro q hq
        rcases List.mem_append.mp hq with hq | hq
        · exact sp q hq
        · rw [List.mem_singleton.mp hq]
          exact sh
  · obtain ⟨rfl, ps, u, v, v7, v8, rfl, hps, sp⟩ := iv
    rw [List.take_length] at hps
    refine sxs_one (sx_ret (ex_tup (ds := [_, _]) (ea_cons ex_str (ea_cons (ex_var 4 rfl) ea_nil)) (Nat.le_of_ble_eq_true rfl)) fun s w => .inr ⟨ps, ?_, sp, w⟩)
    rw [hps]
    exact strikesF_perm order done
end
end Dl
namespace Dl
open PySem PySem.Spec PyProof.Rows L2
/-! ### len(set(xs)), texts, no two alike -/
section
variable {pr : Program} {w : World} {A : Around} {Rz : Result → Shared → Prop} {it S : Addr} {fp wr : List Addr} {Gz : Array GenState → Array GenState → Prop} {n : Nat} {Pz : Nat → Value → Prop} {St : Nat → Shared → Prop} {xs : List Str}
abbrev metK (xs : List Str) (i : Nat) : Str → Bool := fun y => (xs.take i).any (· == y)
theorem metK_new (nd : xs.Nodup) {i : Nat} (hi : i < xs.length) : metK xs i (xs.getD i Str.empty) = false := by
  rw [List.any_eq_false]
  intro y hy e
  have e2 : xs.getD i Str.empty = xs[i] := by rw [List.getD_eq_getElem?_getD, List.getElem?_eq_getElem hi]; rfl
  have e3 : y = xs[i] := by rw [← e2]; exact eq_of_beq e
  obtain ⟨j, hj, ej⟩ := List.mem_iff_getElem.mp hy
  rw [List.length_take] at hj
  rw [List.getElem_take] at ej
  exact (List.pairwise_iff_getElem.mp nd) j i (by omega) hi (by omega) (by rw [ej, e3])
theorem metK_step {i : Nat} (hi : i < xs.length) (y : Str) : (metK xs i y || decide (y = xs.getD i Str.empty)) = metK xs (i + 1) y := by
  have e2 : xs[i]? = some (xs.getD i Str.empty) := by rw [List.getD_eq_getElem?_getD, List.getElem?_eq_getElem hi]; rfl
  show _ = (xs.take (i + 1)).any (· == y)
  rw [List.take_add_one, e2, List.any_append]
  show _ = ((xs.take i).any (· == y) || ((xs.getD i Str.empty == y) || false))
  rw [Bool.or_false]
  congr 1
  by_cases q : y = xs.getD i Str.empty
  · rw [decide_eq_true q, q, beq_self_eq_true]
  · rw [decide_eq_false q]
    exact (beq_eq_false_iff_ne.mpr fun z => q z.symm).symm
theorem setLoop (Wk : WalksS pr w A.in1 it fp wr Gz n Pz St) (hS : S ∉ fp) (nd : xs.Nodup) (hn : xs.length = n) (hb : n + 1 < scanBound) (val : ∀ i v, Pz i v → ∃ t, v = .str (xs.getD i Str.empty) t) :
    ∀ (left i : Nat) (s : Shared), i + left = n → St i s → s.heap.SetOf (PySem.strKind pr w) S (metK xs i) i →
      (∀ s', Moved (S :: wr) Gz s s' → s'.heap.SetOf (PySem.strKind pr w) S (metK xs n) n → Rz (.ok (.ret .none)) s') → codeAny (model pr w) A (.builtin "set.update.loop" ⟨[.ref S, .ref it], []⟩) Rz s := by
  have hW : S ∉ wr := fun z => hS (Wk.sub _ z)
  have sub2 : ∀ b ∈ wr, b ∈ S :: wr := fun b z => .tail _ z
  intro left
  induction left with
  | zero =>
    intro i s hl st so fin
    obtain rfl : i = n := by omega
    refine codeAny_builtin PyProof.Rows.F.entry_set_update_loop ?_
    rw [Around.under_plainId PyProof.Rows.F.plain_set_update_loop _]
    refine wpAny_bind (Wk.done s _ _ st fun s1 mv => wpAny_pure (fin s1 (mv.mono sub2) ?_))
    obtain ⟨ob, es, ep, t, ho, rest⟩ := so
    exact ⟨ob, es, ep, t, mv.heap S _ hW ho, rest⟩
  | succ left ih =>
    intro i s hl st so fin
    have hi : i < n := by omega
    refine codeAny_builtin PyProof.Rows.F.entry_set_update_loop ?_
    rw [Around.under_plainId PyProof.Rows.F.plain_set_update_loop _]
    refine wpAny_bind (Wk.item i s _ _ hi st fun v s1 hv st1 mv => ?_)
    obtain ⟨t, rfl⟩ := val i v hv
    have so1 : s1.heap.SetOf (PySem.strKind pr w) S (metK xs i) i := by
      obtain ⟨ob, es, ep, tb, ho, rest⟩ := so
      exact ⟨ob, es, ep, tb, mv.heap S _ hW ho, rest⟩
    show wpAny _ A.in1 (holding [Value.str (xs.getD i Str.empty) t] (setAdd S (.str (xs.getD i Str.empty) t)) >>= _) _ _ s1
    refine wpAny_bind (wpAny_holding ?_)
    unfold setAdd
    refine wpAny_holding (wpAny_bind ((PySem.strKind pr w).pyHash (k := xs.getD i Str.empty) (strKind_is _ _ _ _) ?_))
    refine wpAny_setAddHashed_of (knd := PySem.strKind pr w) (s := { s1 with toks := s1.toks + 1 }) (strKind_is _ _ _ _) rfl so1 (by omega) fun h2 but so2 => ?_
    rw [metK_new nd (by omega)] at so2
    have so3 : h2.SetOf (PySem.strKind pr w) S (metK xs (i + 1)) (i + 1) := SetOf_congr so2 (fun y => metK_step (by omega) y) rfl
    refine wpAny_pure ⟨plainId_quiet PyProof.Rows.F.plain_set_update_loop _, ih (i + 1) _ (by omega) (Wk.frame _ s1 _ _ st1 (Nat.le_succ _) fun b z ob e => ?_) so3 fun s3 mv3 so4 => fin s3 (Moved.trans Wk.gtrans ((mv.mono sub2).then_heap (Nat.le_succ _) fun b ob z e => ?_) mv3) so4⟩
    · exact (but.2 b fun q : b = S => hS (by rw [← q]; exact z)).trans e
    · exact (but.2 b fun q : b = S => z (by rw [q]; exact .head _)).trans e
end
section
variable {pr : Program} {w : World} {A : Around} {E : Value → Shared → Prop} {s : Shared}
set_option maxHeartbeats 3200000 in
theorem set_of_strs {l : Addr} {its : Array Value} {xs : List Str} {Q : Value → Shared → Prop} (nohd : A.handled = none) (il : s.heap.IsList l its) (sa : PyProof.Rows.StrsAre its.toList xs) (nd : xs.Nodup) (few : xs.length + 1 < scanBound)
    (q : ∀ (h2 : Heap) (tk : Nat), h2.SetOf (PySem.strKind pr w) s.heap.objs.size (metK xs xs.length) xs.length → (∀ b o, b < s.heap.objs.size → s.heap.get? b = some o → h2.get? b = some o) → Q (.ref s.heap.objs.size) { s with heap := h2, toks := tk }) :
    wpAny (model pr w) A (call (.type "set") [.ref l]) Q E s := by
  obtain ⟨mro1, mro2, hmro⟩ := PySem.F.called_set.mro
  have f1 := PySem.F.called_set.made
  have f2 := PySem.F.called_set.sub
  refine wpAny_call (codeAny_of_tree ?_)
  show wpAny _ _ (callAny (.type "set") _) _ _ _
  refine wpAny_pure ⟨Code.quiet_builtin _ (by decide +kernel), codeAny_builtin PySem.F.entry_type_call ?_⟩
  rw [Around.under_plain (weight_type_call_type "set" [.ref l] []) rfl]
  have f3 := PySem.F.called_set.notType
  have f4 := PySem.F.called_set.canCreate
  have f5 := PySem.F.typeCall_set_1 (.ref l)
  repeat any_goals first | assumption | wp_step
  refine codeAny_mono (code_set_new_1 (.ref l) (E := E) (Q₁ := fun v s1 => ∃ led : Bool, v = .ref s.heap.objs.size ∧ s1 = { s with heap := s.heap.push { cls := .type "set", dict := none, data := .set #[] 0 (.fresh 0 0 led) } }) fun led => ⟨led, rfl, rfl⟩) fun r s1 hr => ?_
  cases r with
  | error e => exact hr
  | ok fl =>
    cases fl with
    | next => exact hr.elim
    | brk => exact hr.elim
    | cont => exact hr.elim
    | ret v =>
      obtain ⟨led, rfl, rfl⟩ := hr
      generalize hob : ({ cls := .type "set", dict := none, data := .set #[] 0 (.fresh 0 0 led) } : Obj) = ob
      have g1 : (s.heap.push ob).get? s.heap.objs.size = some ob := Heap.get?_push_size _ (by rw [← hob]; rfl)
      have g2 : Shared.TypeIs { s with heap := s.heap.push ob } (.ref s.heap.objs.size) "set" := ⟨_, g1, by rw [← hob]⟩
      have f6 := PySem.F.called_set.init.lookup
      have f7 := PySem.F.called_set.init.bind (.ref s.heap.objs.size)
      subst hob
      repeat any_goals first | assumption | wp_step
      refine codeAny_mono (codeAny_call_builtin (R := wants (fun v s2 => v = .none ∧ ∃ h2 tk, s2 = { s with heap := h2, toks := tk } ∧ h2.SetOf (PySem.strKind pr w) s.heap.objs.size (metK xs xs.length) xs.length ∧ (∀ b o, b < s.heap.objs.size → s.heap.get? b = some o → h2.get? b = some o)) E)
        PySem.F.called_set.init.plain PySem.F.entry_set_init (check_set_init_1 g2 ?_)) fun r2 s2 hr2 => ?_
      · obtain ⟨o1, ho1, hc1, n1, hd1⟩ := il
        obtain ⟨c0, dd, da, sl⟩ := o1
        simp only at hc1 hd1
        subst hc1
        subst hd1
        have g3 := Heap.get?_push_of_some { cls := .type "set", dict := none, data := .set #[] 0 (.fresh 0 0 led) } ho1
        have f8 := PySem.F.sub_list_set
        have f9 := PySem.F.sub_list_frozenset
        have f10 : (Value.type "list" == Value.type "dict") = false := by decide
        have il2 : (s.heap.push { cls := .type "set", dict := none, data := .set #[] 0 (.fresh 0 0 led) }).IsList l its := ⟨_, g3, rfl, n1, rfl⟩
        have lt1 : l < s.heap.objs.size := Heap.lt_size ho1
        unfold Builtin.«set.__init__» noKeywords Builtin.Frozenset.updateFrom
        generalize hpi : pyIter = pi
        wp_walk
        subst hpi
        refine wpAny_pyIter_list il2 (wpAny_bind (wpAny_runValue ?_))
        have nohd3 : A.in1.in1.in1.handled = none := nohd
        have sz2 : (s.heap.push { cls := .type "set", dict := none, data := .set #[] 0 (.fresh 0 0 led) }).objs.size = s.heap.objs.size + 1 := Heap.size_push _ _
        have ne1 : l ≠ (s.heap.push { cls := .type "set", dict := none, data := .set #[] 0 (.fresh 0 0 led) }).objs.size := by rw [sz2]; exact Nat.ne_of_lt (Nat.lt_succ_of_lt lt1)
        have ne2 : s.heap.objs.size ∉ [(s.heap.push { cls := .type "set", dict := none, data := .set #[] 0 (.fresh 0 0 led) }).objs.size, l] := fun z => by
          rw [sz2] at z
          rcases List.mem_cons.mp z with z | z
          · exact absurd z (Nat.ne_of_lt (Nat.lt_succ_self _))
          · exact absurd (List.mem_singleton.mp z) (Nat.ne_of_gt lt1)
        have hn : xs.length = its.size := by rw [← StrsAre.len_eq sa, Array.length_toList]
        refine setLoop ((Walks.list nohd3 _ l ne1 its).toS) ne2 nd hn (by omega) (fun i v hv => SS.strs_at sa i v (by rw [Array.getElem?_toList]; exact hv)) its.size 0 _ (by omega) ⟨⟨_, Heap.get?_push_size _ rfl, rfl, rfl⟩, il2.push _⟩ ?_ ?_
        · have g4 := Heap.get?_push_of_some { cls := .type "list_iterator", data := .fields #[.ref l, .int 0 0] } g1
          exact SetOf_congr ((PyProof.Rows.setObjOf_fresh (knd := PySem.strKind pr w) led).setOf g4 (by unfold scanBound; omega)) (fun _ => rfl) rfl
        · intro s3 mv so
          obtain ⟨h3, gn, dr, tk, os⟩ := s3
          have k1 : gn = s.gens := mv.gens
          have k2 : dr = s.drawn := mv.drawn
          have k3 : os = s.os := mv.os
          subst k1 k2 k3
          refine wpAny_pure (show wpAny _ _ (ret Value.none) _ _ _ from wpAny_pure ⟨rfl, h3, tk, rfl, by rw [hn]; exact so, fun b o hb e => mv.heap b o ?_ (Heap.get?_push_of_some _ (Heap.get?_push_of_some _ e))⟩)
          rw [sz2]
          intro z
          rcases List.mem_cons.mp z with z | z
          · exact absurd z (Nat.ne_of_lt hb)
          · exact absurd (List.mem_singleton.mp z) (Nat.ne_of_lt (Nat.lt_succ_of_lt hb))
      · cases r2 with
        | error e => exact hr2
        | ok fl2 =>
          cases fl2 with
          | next => exact hr2.elim
          | brk => exact hr2.elim
          | cont => exact hr2.elim
          | ret v2 =>
            obtain ⟨rfl, h2, tk, rfl, so, kp⟩ := hr2
            repeat any_goals first | assumption | wp_step
            exact q _ _ so kp
end
section
variable {X : Cx} {Φ : Ph} {A : List Sl} {a : Expr} {pos p p2 q : Pos}
theorem pe_lenS {ta : TE} (hm : X.mg "len" = none) (hm2 : X.mg "set" = none) (ha : PE X a ta) (hg : Gl X "len") (hg2 : Gl X "set") (hc : X.calm = true) (na : starEach [a] X.env = (false, eval a X.env) :: starEach [] X.env) :
    PE X (.Call (.Name "len" p) [.Call (.Name "set" p2) [a] [] q] [] pos) (fun σ H Q => ta σ H fun x H1 => ∃ (l : Addr) (xs : List Str), x = .ref l ∧ SqL X.K H1 l (xs.map V.str) ∧ xs.Nodup ∧ xs.length ≤ 1000 ∧ Q (.int (xs.length : Nat)) H1) := by
  refine ⟨fun pins s σ H Q I h => Call_ (ld_blt I hg hm boot_len ?_)⟩
  refine PyProof.Rows.callWith_builtin1 (PyProof.Rows.args_cons (Call_ (ld_blt I hg2 hm2 boot_set ?_)) rfl) rfl rfl
  refine PyProof.Rows.callWith_type1 (PyProof.Rows.args_cons (thn (ha.run pins s σ H _ I h) fun v s1 hv => PyProof.Rows.args_nil ?_) na) na rfl
  obtain ⟨x, H1, I1, r1, l, xs, rfl, hq, nd, hz, q1⟩ := hv
  cases r1
  obtain ⟨its, r, pl, _⟩ := I1.list hq
  refine set_of_strs (I1.ok.hd hc) pl.isList (by simpa using strsAre_of r) nd (by unfold scanBound; omega) fun h' tk hS hk => PyProof.Rows.args_nil ?_
  obtain ⟨o, es, ep, t, ho, hex, hd, _, _, _, hf, hn⟩ := hS
  have I2 : Inv X pins σ H1 { s1 with heap := h', toks := tk } := I1.kept fun b o e => hk b o (Heap.lt_size e) e
  refine call_len_set ho hex hd hf (by rw [hn]; omega) ?_
  exact ⟨.int _, H1, I2.tok _, ⟨_, by rw [hn]⟩, q1⟩
theorem ex_lensetS {xs : List Str} (hm : X.mg "len" = none) (hm2 : X.mg "set" = none) (ha : EX X Φ A a (.dat (lsD xs))) (nd : xs.Nodup) (hz : xs.length ≤ 1000) (hg : Gl X "len" := by rfl) (hg2 : Gl X "set" := by rfl) (hc : X.calm = true := by rfl)
    (na : starEach [a] X.env = (false, eval a X.env) :: starEach [] X.env := by rfl) : EX X Φ A (.Call (.Name "len" p) [.Call (.Name "set" p2) [a] [] q] [] pos) (di (xs.length : Nat)) :=
  exw_of (pe_lenS hm hm2 RE.pe hg hg2 hc na) fun μ G0 H0 G H σ Q ab φ k => ha μ G0 H0 G H σ _ ab φ fun s v G1 H1 w g sv => by
    subst w
    cases sv with
    | dat sv => cases sv with
      | lst e1 e2 =>
        have e3 := e2.strs
        subst e3
        exact ⟨_, xs, rfl, .of (g.i _ _ e1), nd, hz, k _ _ G1 H1 rfl g (.dat (.int _))⟩
end
end Dl
namespace Dl
open PySem PySem.Spec PyProof.Rows L2
/-! ### == and in, of codes -/
mutual
/-- no truth value, no dict within -/
def Pu : D → Prop
  | .none => True
  | .bool _ => False
  | .int _ => True
  | .str _ => True
  | .list xs => PuAll xs
  | .tuple xs => PuAll xs
  | .dict _ => False
def PuAll : List D → Prop
  | [] => True
  | d :: ds => Pu d ∧ PuAll ds
end
theorem puAll_of {ds : List D} (h : ∀ d ∈ ds, Pu d) : PuAll ds := by
  induction ds with
  | nil => unfold PuAll; trivial
  | cons d ds ih =>
    unfold PuAll
    exact ⟨h d List.mem_cons_self, ih fun e he => h e (List.mem_cons_of_mem _ he)⟩
theorem puAll_map {α : Type} {f : α → D} {xs : List α} (h : ∀ a ∈ xs, Pu (f a)) : PuAll (xs.map f) := puAll_of fun d hd => by
  obtain ⟨a, ha, rfl⟩ := List.mem_map.mp hd
  exact h a ha
mutual
theorem eqv_pu : ∀ (d d' : D), Pu d → Pu d' → (PyData.eqv d d' = true ↔ d = d')
  | .none, d', _, h' => by cases d' <;> simp [PyData.eqv]
  | .bool _, _, h, _ => by unfold Pu at h; exact h.elim
  | .int i, d', _, h' => by
    cases d' with
    | bool b => unfold Pu at h'; exact h'.elim
    | _ => simp [PyData.eqv]
  | .str x, d', _, h' => by cases d' <;> simp [PyData.eqv]
  | .list xs, d', h, h' => by
    cases d' with
    | list ys =>
      unfold Pu at h h'
      simp only [PyData.eqv, PyData.list.injEq]
      exact eqvAll_pu xs ys h h'
    | _ => simp [PyData.eqv]
  | .tuple xs, d', h, h' => by
    cases d' with
    | tuple ys =>
      unfold Pu at h h'
      simp only [PyData.eqv, PyData.tuple.injEq]
      exact eqvAll_pu xs ys h h'
    | _ => simp [PyData.eqv]
  | .dict _, _, h, _ => by unfold Pu at h; exact h.elim
theorem eqvAll_pu : ∀ (ds ds' : List D), PuAll ds → PuAll ds' → (PyData.eqvAll ds ds' = true ↔ ds = ds')
  | [], [], _, _ => by simp [PyData.eqvAll]
  | [], _ :: _, _, _ => by simp [PyData.eqvAll]
  | _ :: _, [], _, _ => by simp [PyData.eqvAll]
  | d :: ds, d' :: ds', h, h' => by
    unfold PuAll at h h'
    simp only [PyData.eqvAll, Bool.and_eq_true, List.cons.injEq]
    rw [eqv_pu d d' h.1 h'.1, eqvAll_pu ds ds' h.2 h'.2]
end
/-- of a shape that == reads -/
structure Sh (n : Nat) (d : D) : Prop where
  lay : PyData.canLay0 d = true
  dp : d.depth ≤ n
theorem layAll_of {ds : List D} (h : ∀ d ∈ ds, PyData.canLay0 d = true) : PyData.canLayAll0 ds = true := by
  induction ds with
  | nil => simp [PyData.canLayAll0]
  | cons d ds ih => simp [PyData.canLayAll0, h d List.mem_cons_self, ih fun e he => h e (List.mem_cons_of_mem _ he)]
theorem depthAll_of {n : Nat} {ds : List D} (h : ∀ d ∈ ds, d.depth ≤ n) : PyData.depthAll ds ≤ n := by
  induction ds with
  | nil => simp [PyData.depthAll]
  | cons d ds ih =>
    simp only [PyData.depthAll]
    have := h d List.mem_cons_self
    have := ih fun e he => h e (List.mem_cons_of_mem _ he)
    omega
theorem sh_none {n : Nat} : Sh n .none := ⟨by simp [PyData.canLay0], by simp [PyData.depth]⟩
theorem sh_int {n : Nat} (i : Int) : Sh n (.int i) := ⟨by simp [PyData.canLay0], by simp [PyData.depth]⟩
theorem sh_str {n : Nat} {x : Str} (h : PyData.strOk x = true) : Sh n (.str x) := ⟨by simpa [PyData.canLay0] using h, by simp [PyData.depth]⟩
theorem sh_lst {n : Nat} {ds : List D} (h : ∀ d ∈ ds, Sh n d) : Sh (n + 1) (.list ds) := ⟨by simp only [PyData.canLay0]; exact layAll_of fun d hd => (h d hd).lay, by
  simp only [PyData.depth]
  exact Nat.succ_le_succ (depthAll_of fun d hd => (h d hd).dp)⟩
theorem sh_tup {n : Nat} {ds : List D} (h : ∀ d ∈ ds, Sh n d) : Sh (n + 1) (.tuple ds) := ⟨by simp only [PyData.canLay0]; exact layAll_of fun d hd => (h d hd).lay, by
  simp only [PyData.depth]
  exact Nat.succ_le_succ (depthAll_of fun d hd => (h d hd).dp)⟩
theorem Sh.ok {n : Nat} {d : D} (h : Sh n d) (hn : n ≤ 64 := by decide) : SeqAt.shaped d = true := by
  unfold SeqAt.shaped
  rw [Bool.and_eq_true]
  exact ⟨h.lay, decide_eq_true (Nat.le_trans h.dp hn)⟩
theorem Sh.mono {m n : Nat} {d : D} (h : Sh m d) (hn : m ≤ n) : Sh n d := ⟨h.lay, Nat.le_trans h.dp hn⟩
/-- a code that == tells apart -/
structure Code {α : Type} (f : α → D) (ok : α → Prop) : Prop where
  inj : ∀ a b, f a = f b → a = b
  pu : ∀ a, Pu (f a)
  sh : ∀ a, ok a → Sh 20 (f a)
theorem eqv_code {α : Type} {f : α → D} {ok : α → Prop} (c : Code f ok) (a b : α) : PyData.eqv (f a) (f b) = true ↔ a = b := by
  rw [eqv_pu _ _ (c.pu a) (c.pu b)]
  exact ⟨c.inj a b, fun e => by rw [e]⟩
theorem any_code {α : Type} {f : α → D} {ok : α → Prop} (c : Code f ok) (xs : List α) (y : α) : ((xs.map f).any fun z => PyData.eqv z (f y)) = true ↔ y ∈ xs := by
  rw [List.any_map, List.any_eq_true]
  constructor
  · rintro ⟨x, hx, h⟩
    rw [← (eqv_code c x y).mp h]
    exact hx
  · exact fun h => ⟨y, h, (eqv_code c y y).mpr rfl⟩
section
variable {X : Cx} {Φ : Ph} {A : List Sl} {a b : Expr} {pos : Pos} {α : Type} {f : α → D} {ok : α → Prop} {x y : α} {xs : List α} {k : Bool}
theorem eb_inC (c : Code f ok) (ha : EX X Φ A a (.dat (f y))) (hb : EX X Φ A b (.dat (.list (xs.map f)))) (hu : X.A.units + 65 < cLine) (h1 : ok y) (h2 : ∀ x ∈ xs, ok x) (hk : k = true ↔ y ∈ xs) (hm : behindInMarks .In b = false := by rfl) : EB X Φ A (.Compare a [.In] [b] pos) k :=
  (eb_in ha hb hu (c.sh y h1).ok (sh_lst fun d hd => by
    obtain ⟨x, hx, rfl⟩ := List.mem_map.mp hd
    exact c.sh x (h2 x hx)).ok hm).cast (Bool.eq_iff_iff.mpr ((any_code c xs y).trans hk.symm))
theorem eb_ninC (c : Code f ok) (ha : EX X Φ A a (.dat (f y))) (hb : EX X Φ A b (.dat (.list (xs.map f)))) (hu : X.A.units + 65 < cLine) (h1 : ok y) (h2 : ∀ x ∈ xs, ok x) (hk : k = false ↔ y ∈ xs) (hm : behindInMarks .NotIn b = false := by rfl) : EB X Φ A (.Compare a [.NotIn] [b] pos) k :=
  (eb_notin ha hb hu (c.sh y h1).ok (sh_lst fun d hd => by
    obtain ⟨x, hx, rfl⟩ := List.mem_map.mp hd
    exact c.sh x (h2 x hx)).ok hm).cast (by
      have := Bool.eq_iff_iff.mpr ((any_code c xs y).trans ((Bool.not_eq_true' k ▸ hk).symm))
      rw [this, Bool.not_not])
theorem eb_eqC (c : Code f ok) (ha : EX X Φ A a (.dat (f x))) (hb : EX X Φ A b (.dat (f y))) (hu : X.A.units + 65 < cLine) (h1 : ok x) (h2 : ok y) (hk : k = true ↔ x = y) : EB X Φ A (.Compare a [.Eq] [b] pos) k :=
  (eb_eq ha hb hu (c.sh x h1).ok (c.sh y h2).ok).cast (Bool.eq_iff_iff.mpr ((eqv_code c x y).trans hk.symm))
theorem eb_neC (c : Code f ok) (ha : EX X Φ A a (.dat (f x))) (hb : EX X Φ A b (.dat (f y))) (hu : X.A.units + 65 < cLine) (h1 : ok x) (h2 : ok y) (hk : k = false ↔ x = y) : EB X Φ A (.Compare a [.NotEq] [b] pos) k :=
  (eb_ne ha hb hu (c.sh x h1).ok (c.sh y h2).ok).cast (by
    have := Bool.eq_iff_iff.mpr ((eqv_code c x y).trans ((Bool.not_eq_true' k ▸ hk).symm))
    rw [this, Bool.not_not])
end
/-! the codes -/
theorem code_P : Code encP fun _ => True := ⟨fun a b h => by
  unfold encP at h
  injection h with h
  injection h with h1 h2
  injection h2 with h2 _
  injection h1 with h1
  injection h2 with h2
  exact Prod.ext (Int.ofNat_inj.mp h1) (Int.ofNat_inj.mp h2), fun a => by unfold encP Pu PuAll PuAll PuAll Pu; exact ⟨trivial, trivial, trivial⟩, fun a _ => (sh_tup (n := 0) fun d hd => by
    rcases List.mem_cons.mp hd with rfl | hd
    · exact sh_int _
    · rw [List.mem_singleton.mp hd]
      exact sh_int _).mono (by decide)⟩
theorem encN_inj : ∀ a b, encN a = encN b → a = b := fun a b h => by
  unfold encN at h
  injection h with h
  exact Int.ofNat_inj.mp h
theorem map_inj {α β : Type} {f : α → β} (inj : ∀ a b, f a = f b → a = b) : ∀ {xs ys : List α}, xs.map f = ys.map f → xs = ys
  | [], [], _ => rfl
  | [], _ :: _, h => by simp at h
  | _ :: _, [], h => by simp at h
  | x :: xs, y :: ys, h => by
    rw [List.map_cons, List.map_cons] at h
    injection h with h1 h2
    rw [inj x y h1, map_inj inj h2]
theorem code_lN : Code lnD fun _ => True := ⟨fun a b h => by
  injection h with h
  exact map_inj encN_inj h, fun a => by unfold lnD Pu; exact puAll_map fun n _ => by unfold encN Pu; trivial, fun a _ => (sh_lst (n := 0) fun d hd => by
    obtain ⟨n, _, rfl⟩ := List.mem_map.mp hd
    exact sh_int _).mono (by decide)⟩
theorem code_lI : Code liD fun _ => True := ⟨fun a b h => by
  injection h with h
  exact map_inj (fun a b h => by injection h) h, fun a => by unfold liD Pu; exact puAll_map fun n _ => by unfold Pu; trivial, fun a _ => (sh_lst (n := 0) fun d hd => by
    obtain ⟨n, _, rfl⟩ := List.mem_map.mp hd
    exact sh_int _).mono (by decide)⟩
/-- a number and a text -/
def encBA (q : Int × Str) : D := .tuple [.int q.1, .str q.2]
theorem code_BA : Code encBA fun q => PyData.strOk q.2 = true := ⟨fun a b h => by
  unfold encBA at h
  injection h with h
  injection h with h1 h2
  injection h2 with h2 _
  injection h1 with h1
  injection h2 with h2
  exact Prod.ext h1 h2, fun a => by unfold encBA Pu PuAll PuAll PuAll Pu; exact ⟨trivial, trivial, trivial⟩, fun a ha => (sh_tup (n := 0) fun d hd => by
    rcases List.mem_cons.mp hd with rfl | hd
    · exact sh_int _
    · rw [List.mem_singleton.mp hd]
      exact sh_str ha).mono (by decide)⟩
end Dl
/-! Texts of rounds: the plain mathematics. -/
namespace Dl
open PySem L2
abbrev tl (x : Str) : List Nat := TL.tl x
def keysS : List Str := ["steps", "before", "most", "least", "apart", "same"]
structure NameOk (x : Str) : Prop where
  one : 1 ≤ x.length
  few : x.length ≤ 8
  abc : ∀ n ∈ tl x, 97 ≤ n ∧ n ≤ 122
structure ActsOk (acts : List Str) : Prop where
  one : 1 ≤ acts.length
  few : acts.length ≤ 6
  nd : acts.Nodup
  name : ∀ a ∈ acts, NameOk a
  key : ∀ a ∈ acts, a ∉ keysS
structure WordOk (x : Str) : Prop where
  few : x.length ≤ 8
  sp : 32 ∉ tl x
  sc : 59 ∉ tl x
theorem NameOk.word {x : Str} (h : NameOk x) : WordOk x := ⟨h.few, fun z => by have := h.abc _ z; omega, fun z => by have := h.abc _ z; omega⟩
def actAt (acts : List Str) (k : Nat) : Str := acts.getD k Str.empty
theorem actAt_get {acts : List Str} {k : Nat} (h : k < acts.length) : acts[k]? = some (actAt acts k) := getDS Str.empty h
theorem actAt_mem {acts : List Str} {k : Nat} (h : k < acts.length) : actAt acts k ∈ acts := List.mem_of_getElem? (actAt_get h)
def wordT (t : Tie) : Str := if t.most = true then "most" else "least"
def numS (k : Nat) : Str := Str.ofString (toString ((k : Nat) : Int))
def wA (acts : List Str) : List Str := "steps" :: acts
def wO (acts : List Str) (p : Nat × Nat) : List Str := [actAt acts p.1, "before", actAt acts p.2]
def wT (acts : List Str) (t : Tie) : List Str := wordT t :: numS t.k :: t.steps.map (actAt acts)
def partF (ws : List Str) : Str := Txt.join " " ws
def restF (acts : List Str) (order : List (Nat × Nat)) (ties : List Tie) : List (List Str) := order.map (wO acts) ++ ties.map (wT acts)
def partsF (acts : List Str) (order : List (Nat × Nat)) (ties : List Tie) : List Str := partF (wA acts) :: (restF acts order ties).map partF
def textF (acts : List Str) (order : List (Nat × Nat)) (ties : List Tie) : Str := Txt.join "; " (partsF acts order ties)
/-- a tie that is told in a text -/
structure TieTold (n : Nat) (t : Tie) : Prop where
  one : 1 ≤ t.k
  few : t.k ≤ 6
  some1 : t.steps ≠ []
  up : t.steps.Pairwise (· < ·)
  lt : ∀ s ∈ t.steps, s < n
structure RoundOk (acts : List Str) (order : List (Nat × Nat)) (ties : List Tie) : Prop where
  ac : ActsOk acts
  nd : order.Nodup
  lt1 : ∀ p ∈ order, p.1 < acts.length
  lt2 : ∀ p ∈ order, p.2 < acts.length
  rank : ∃ r : Nat → Nat, ∀ p ∈ order, r p.1 < r p.2
  few : order.length ≤ 100
  tie : ∀ t ∈ ties, TieTold acts.length t
  few2 : ties.length ≤ 12
theorem word_steps : WordOk "steps" := ⟨by decide +kernel, by decide +kernel, by decide +kernel⟩
theorem word_before : WordOk "before" := ⟨by decide +kernel, by decide +kernel, by decide +kernel⟩
theorem word_T (t : Tie) : WordOk (wordT t) := by
  unfold wordT
  split
  · exact ⟨by decide +kernel, by decide +kernel, by decide +kernel⟩
  · exact ⟨by decide +kernel, by decide +kernel, by decide +kernel⟩
theorem word_num {k : Nat} (h : k ≤ 6) : WordOk (numS k) := by
  have e : tl (numS k) = [48 + k] := by
    show TL.tl (Str.ofString (toString ((k : Nat) : Int))) = _
    rw [TL.tl_num, TL.numL_lt (by omega)]
  refine ⟨?_, ?_, ?_⟩
  · rw [TL.len_tl]
    show (tl (numS k)).length ≤ 8
    rw [e]
    exact Nat.le_of_ble_eq_true rfl
  · rw [e]
    intro z
    have := List.mem_singleton.mp z
    omega
  · rw [e]
    intro z
    have := List.mem_singleton.mp z
    omega
section
variable {acts : List Str} {order : List (Nat × Nat)} {ties : List Tie}
theorem words_A (a : ActsOk acts) : ∀ x ∈ wA acts, WordOk x := fun x hx => by
  rcases List.mem_cons.mp hx with rfl | hx
  · exact word_steps
  · exact (a.name x hx).word
theorem words_O (a : ActsOk acts) {p : Nat × Nat} (h1 : p.1 < acts.length) (h2 : p.2 < acts.length) : ∀ x ∈ wO acts p, WordOk x := fun x hx => by
  rcases List.mem_cons.mp hx with rfl | hx
  · exact (a.name _ (actAt_mem h1)).word
  · rcases List.mem_cons.mp hx with rfl | hx
    · exact word_before
    · rw [List.mem_singleton.mp hx]
      exact (a.name _ (actAt_mem h2)).word
theorem words_T (a : ActsOk acts) {t : Tie} (h : TieTold acts.length t) : ∀ x ∈ wT acts t, WordOk x := fun x hx => by
  rcases List.mem_cons.mp hx with rfl | hx
  · exact word_T t
  · rcases List.mem_cons.mp hx with rfl | hx
    · exact word_num h.few
    · obtain ⟨s, hs, rfl⟩ := List.mem_map.mp hx
      exact (a.name _ (actAt_mem (h.lt s hs))).word
theorem words_rest (r : RoundOk acts order ties) : ∀ ws ∈ restF acts order ties, ∀ x ∈ ws, WordOk x := fun ws hw => by
  rcases List.mem_append.mp hw with hw | hw
  · obtain ⟨p, hp, rfl⟩ := List.mem_map.mp hw
    exact words_O r.ac (r.lt1 p hp) (r.lt2 p hp)
  · obtain ⟨t, ht, rfl⟩ := List.mem_map.mp hw
    exact words_T r.ac (r.tie t ht)
theorem tl_sp : tl " " = [32] := by decide +kernel
theorem tl_sc : tl "; " = [59, 32] := by decide +kernel
theorem split_part {ws : List Str} (hne : ws ≠ []) (h : ∀ x ∈ ws, WordOk x) : Txt.split (partF ws) " " = ws :=
  TL.split_join tl_sp (by decide +kernel) hne fun p hp => (h p hp).sp
theorem joinL_mem {S : List Nat} {n : Nat} : ∀ {ps : List (List Nat)}, n ∈ TL.joinL S ps → n ∈ S ∨ ∃ p ∈ ps, n ∈ p
  | [], h => by cases h
  | [p], h => .inr ⟨p, List.mem_singleton.mpr rfl, h⟩
  | p :: q :: r, h => by
    have h : n ∈ p ++ (S ++ TL.joinL S (q :: r)) := h
    rcases List.mem_append.mp h with h | h
    · exact .inr ⟨p, List.mem_cons_self, h⟩
    · rcases List.mem_append.mp h with h | h
      · exact .inl h
      · rcases joinL_mem h with h | ⟨z, hz, h⟩
        · exact .inl h
        · exact .inr ⟨z, List.mem_cons_of_mem _ hz, h⟩
theorem part_sc {ws : List Str} (h : ∀ x ∈ ws, WordOk x) : 59 ∉ tl (partF ws) := fun z => by
  unfold partF at z
  rw [TL.join_eq] at z
  have z : 59 ∈ TL.tl (Str.join " " ws) := z
  rw [TL.tl_join] at z
  rcases joinL_mem z with z | ⟨p, hp, z⟩
  · have z : 59 ∈ tl " " := z
    rw [tl_sp] at z
    cases z with
    | tail _ z => cases z
  · obtain ⟨x, hx, rfl⟩ := List.mem_map.mp hp
    exact (h x hx).sc z
theorem split_text (r : RoundOk acts order ties) : Txt.split (textF acts order ties) "; " = partsF acts order ties :=
  TL.split_join tl_sc (by decide +kernel) (by unfold partsF; simp) fun p hp => by
    rcases List.mem_cons.mp hp with rfl | hp
    · exact part_sc (words_A r.ac)
    · obtain ⟨ws, hw, rfl⟩ := List.mem_map.mp hp
      exact part_sc (words_rest r ws hw)
theorem sum_le {k : Nat} : ∀ {xs : List Nat}, (∀ x ∈ xs, x ≤ k) → xs.sum ≤ xs.length * k
  | [], _ => by simp
  | x :: xs, h => by
    rw [List.sum_cons, List.length_cons, Nat.succ_mul]
    have := sum_le fun y hy => h y (List.mem_cons_of_mem _ hy)
    have := h x List.mem_cons_self
    omega
theorem part_len {ws : List Str} {m : Nat} (hm : ws.length ≤ m) (h : ∀ x ∈ ws, WordOk x) : (partF ws).length ≤ 9 * m := by
  unfold partF
  rw [TL.join_eq]
  refine Nat.le_trans (StrLaws.join_length_le _ _) ?_
  have h1 := sum_le (k := 8) (xs := ws.map (·.length)) fun x hx => by
    obtain ⟨y, hy, rfl⟩ := List.mem_map.mp hx
    exact (h y hy).few
  rw [List.length_map] at h1
  have e : (" " : Str).length = 1 := by decide +kernel
  rw [e]
  omega
theorem tie_few {n : Nat} {t : Tie} (h : TieTold n t) : t.steps.length ≤ n := by
  have key : ∀ (n : Nat) (l : List Nat), l.Pairwise (· < ·) → (∀ s ∈ l, s < n) → l.length ≤ n := fun n l hp hl => by
    have nd : l.Nodup := hp.imp fun h => Nat.ne_of_lt h
    have := List.Nodup.length_le_of_subset nd (l₂ := List.range n) fun s hs => List.mem_range.mpr (hl s hs)
    rw [List.length_range] at this
    exact this
  exact key n t.steps h.up h.lt
theorem ws_few (r : RoundOk acts order ties) : ∀ ws ∈ restF acts order ties, ws ≠ [] ∧ ws.length ≤ 8 := fun ws hw => by
  rcases List.mem_append.mp hw with hw | hw
  · obtain ⟨p, hp, rfl⟩ := List.mem_map.mp hw
    exact ⟨by unfold wO; simp, by unfold wO; simp⟩
  · obtain ⟨t, ht, rfl⟩ := List.mem_map.mp hw
    refine ⟨by unfold wT; simp, ?_⟩
    have := tie_few (r.tie t ht)
    have := r.ac.few
    show (_ :: _ :: t.steps.map (actAt acts)).length ≤ 8
    rw [List.length_cons, List.length_cons, List.length_map]
    omega
theorem parts_len (r : RoundOk acts order ties) : ∀ x ∈ partsF acts order ties, x.length ≤ 72 := fun x hx => by
  rcases List.mem_cons.mp hx with rfl | hx
  · have := part_len (m := 7) (by show acts.length + 1 ≤ 7; have := r.ac.few; omega) (words_A r.ac)
    omega
  · obtain ⟨ws, hw, rfl⟩ := List.mem_map.mp hx
    exact part_len (m := 8) (ws_few r ws hw).2 (words_rest r ws hw)
theorem text_len (r : RoundOk acts order ties) : (textF acts order ties).length ≤ 10000 := by
  unfold textF
  rw [TL.join_eq]
  refine Nat.le_trans (StrLaws.join_length_le _ _) ?_
  have h1 := sum_le (k := 72) (xs := (partsF acts order ties).map (·.length)) fun x hx => by
    obtain ⟨y, hy, rfl⟩ := List.mem_map.mp hx
    exact parts_len r y hy
  rw [List.length_map] at h1
  have e : ("; " : Str).length = 2 := by decide +kernel
  have e2 : (partsF acts order ties).length = order.length + ties.length + 1 := by
    unfold partsF restF
    rw [List.length_cons, List.length_map, List.length_append, List.length_map, List.length_map]
  have := r.few
  have := r.few2
  rw [e]
  omega
theorem names_strOk (a : ActsOk acts) : ∀ x ∈ acts, PyData.strOk x = true := fun x hx => by
  unfold PyData.strOk
  rw [← Array.all_toList, List.all_eq_true]
  intro n hn
  have := (a.name x hx).abc n hn
  exact decide_eq_true (by omega)
theorem act_first (a : ActsOk acts) {k : Nat} (hk : k < acts.length) : ∀ m, m < k → acts[m]? ≠ some (actAt acts k) := fun m hm e => by
  have e2 := actAt_get hk
  have h1 : m < acts.length := by omega
  rw [List.getElem?_eq_getElem h1] at e
  rw [List.getElem?_eq_getElem hk] at e2
  exact (List.pairwise_iff_getElem.mp a.nd) m k h1 hk hm (by rw [Option.some.inj e, Option.some.inj e2])
theorem actAt_inj (a : ActsOk acts) {j k : Nat} (hj : j < acts.length) (hk : k < acts.length) (e : actAt acts j = actAt acts k) : j = k := by
  rcases Nat.lt_trichotomy j k with h | h | h
  · exact absurd (e ▸ actAt_get hj) (act_first a hk j h)
  · exact h
  · exact absurd (e ▸ actAt_get hk) (act_first a hj k h)
theorem acts_nodup (a : ActsOk acts) {steps : List Nat} (up : steps.Pairwise (· < ·)) (lt : ∀ s ∈ steps, s < acts.length) : (steps.map (actAt acts)).Nodup :=
  nodupM steps up lt
where
  nodupM : ∀ (l : List Nat), l.Pairwise (· < ·) → (∀ s ∈ l, s < acts.length) → (l.map (actAt acts)).Nodup
    | [], _, _ => List.nodup_nil
    | x :: l, hp, hl => by
      rw [List.map_cons, List.nodup_cons]
      refine ⟨fun h => ?_, nodupM l (List.pairwise_cons.mp hp).2 fun s hs => hl s (List.mem_cons_of_mem _ hs)⟩
      obtain ⟨s, hs, e⟩ := List.mem_map.mp h
      have := actAt_inj a (hl s (List.mem_cons_of_mem _ hs)) (hl x List.mem_cons_self) e
      have := (List.pairwise_cons.mp hp).1 s hs
      omega
end
end Dl
namespace Dl
open PySem PySem.Spec PyProof.Rows L2
section
variable {P : Program} {w : World} {K : PySem.W.Frag} {mg : Str → Option Value} {base : Heap}
def KeysAt (K : PySem.W.Frag) (mg : Str → Option Value) : Prop := ∃ t, mg "KEYS" = some (.ref t) ∧ ∀ H, SqT K H t (keysS.map V.str)
theorem len_ok {x : Str} {n : Nat} (h : x.length ≤ n) (hn : n ≤ 100000) : x.length ≤ sizeLine := Nat.le_trans h (Nat.le_trans hn (by decide))
theorem cut_drop {α : Type} {xs : List α} {n : Nat} (h : n ≤ xs.length) : cutL xs (some (n : Int)) none = xs.drop n := by
  unfold cutL
  rw [HT.sIx_nat, HT.sIx_none, Nat.min_eq_left h, List.take_of_length_le (by rw [List.length_drop]; omega)]
abbrev s_is_name : Stmt := topS 32
abbrev N_is_name : List Str := ["thing", "sign"]
theorem sc_is_name : FnScope N_is_name ["thing"] (defScope s_is_name) := ⟨rfl, rfl, rfl, by decide +kernel, rfl, by decide +kernel, by decide +kernel⟩
theorem hb_is_name (kV doc pm : Value) (an : Option Addr) (cdv ct : Value) (us : List Value) (hl : us.length = 1) : bindArgs (PySem.W.fnOf "is_name" "is_name" (defArgs s_is_name) (defBody s_is_name) (defScope s_is_name) .none kV doc pm an cdv ct) ⟨us, []⟩ = pure ((["thing"] : List Str).zip us) := match us, hl with
  | [_], _ => rfl
def R_is_name : PSpec := fun _ ss W => ∃ (x : Str), ss = [ds x] ∧ NameOk x ∧ W = (· = db true)
theorem ok_is_name (B : Bt mg) (Dd : DefAt K mg "is_name" s_is_name) : Fn P w K mg base "is_name" ["thing"] R_is_name 1 := by
  refine fn_mk Dd sc_is_name (fun G ss W ⟨_, e, _⟩ => by rw [e]; rfl) hb_is_name fun f cdv A outer s H hr G ss W h => ?_
  obtain ⟨x, rfl, nx, rfl⟩ := h
  have nd := (sc_is_name).nd
  refine sxs_cons (sx_if (k := false) (EB.cast (eb_bop (ew_or (eb_not (eb_isi (k := true) B.isinstance (ex_var 0 rfl) (ex_ty (n := "str") B.str (by decide +kernel)) (by exact (show kitB "str" "str" = some true by decide +kernel)))) (fun hc => (ew_or1 (eb_not (eb_lele ex_int (ex_len B.len (ex_var 0 rfl) (.str (len_ok nx.few (by decide)))) (ex_gint B.LONGEST))))))) ?_).t (fun hk => by cases hk) fun _ => sxs_nil ?_)
  · have h1 := nx.one
    have h2 := nx.few
    simp only [Bool.not_true, Bool.false_or, Bool.not_eq_false']
    rw [Bool.and_eq_true]
    exact ⟨decide_eq_true (by omega), decide_eq_true (by omega)⟩
  refine sxs_cons (sx_forT (ix_str (ex_var 0 rfl)) (fun i Ψ B => Ψ = phS G ∧ ∃ u, B = [.d (.str x), u]) ⟨rfl, _, rfl⟩ (fun i y Ψ B e iv => ?_) fun Ψ B iv => ?_)
  · obtain ⟨rfl, u, rfl⟩ := iv
    have hy := nx.abc y (List.mem_of_getElem? e)
    refine ⟨_, tx_name 1 nd, sxs_one (sx_if (k := false) (EB.cast (eb_ninT (ex_var 1 rfl) (ex_gstr B.LETTERS)) ?_).t (fun hk => by cases hk) fun _ => sxs_nil ⟨rfl, _, rfl⟩)⟩
    have key : ∀ n, 97 ≤ n → n ≤ 122 → n ∈ ("abcdefghijklmnopqrstuvwxyz" : Str).cps.toList := by
      intro n h1 h2
      have : n = 97 + (n - 97) := by omega
      have h3 : n - 97 < 26 := by omega
      rw [this]
      revert h3
      generalize n - 97 = m
      revert m
      decide +kernel
    rw [decide_eq_true (key y hy.1 hy.2)]
    rfl
  · obtain ⟨rfl, u, rfl⟩ := iv
    exact sxs_one (sx_ret ex_bool fun s w => w)
abbrev s_acts_of : Stmt := topS 59
abbrev N_acts_of : List Str := ["part", "words", "acts", "act"]
theorem sc_acts_of : FnScope N_acts_of ["part"] (defScope s_acts_of) := ⟨rfl, rfl, rfl, by decide +kernel, rfl, by decide +kernel, by decide +kernel⟩
theorem hb_acts_of (kV doc pm : Value) (an : Option Addr) (cdv ct : Value) (us : List Value) (hl : us.length = 1) : bindArgs (PySem.W.fnOf "acts_of" "acts_of" (defArgs s_acts_of) (defBody s_acts_of) (defScope s_acts_of) .none kV doc pm an cdv ct) ⟨us, []⟩ = pure ((["part"] : List Str).zip us) := match us, hl with
  | [_], _ => rfl
def R_acts_of : PSpec := fun _ ss W => ∃ (acts : List Str), ss = [ds (partF (wA acts))] ∧ ActsOk acts ∧ W = (· = .dat (lsD acts))
theorem ok_acts_of (B : Bt mg) (Kk : KeysAt K mg) (Dd : DefAt K mg "acts_of" s_acts_of) (F_is_name : Fn P w K mg base "is_name" ["thing"] R_is_name 1) : Fn P w K mg base "acts_of" ["part"] R_acts_of 2 := by
  refine fn_mk Dd sc_acts_of (fun G ss W ⟨_, e, _⟩ => by rw [e]; rfl) hb_acts_of fun f cdv A outer s H hr G ss W h => ?_
  obtain ⟨acts, rfl, ao, rfl⟩ := h
  obtain ⟨t, hK1, hK2⟩ := Kk
  have nd := (sc_acts_of).nd
  have h1 := ao.one
  have h2 := ao.few
  have hpl : (partF (wA acts)).length ≤ 100 := by
    have := part_len (ws := wA acts) (m := 7) (show acts.length + 1 ≤ 7 by omega) (words_A ao)
    omega
  refine sxs_cons (sx_asg 1 (W := (· = .dat (lsD (wA acts)))) (EX.cast (ex_split (ex_var 0 rfl) ex_str (by decide +kernel) (Nat.le_trans (show _ ≤ 102 by omega) (by decide))) (by rw [split_part (by unfold wA; simp) (words_A ao)])) (fun s w => ?_) nd)
  subst w
  refine sxs_cons (sx_asg 2 (W := (· = .dat (lsD acts))) (EX.cast (ex_slice (ex_var 1 rfl) (eo_some ex_int) eo_none) ?_) (fun s w => ?_) nd)
  · rw [show (1 : Int) = ((1 : Nat) : Int) from rfl, cut_drop (by unfold wA; simp)]
    rfl
  subst w
  refine sxs_cons (sx_if (k := false) (EB.cast (eb_bop (ew_or (eb_neS (ex_ixM (f := PyData.str) (ex_var 1 rfl) ex_int (atN (k := 0) rfl)) ex_str) (fun hc => (ew_or (eb_not (eb_lele ex_int (ex_len B.len (ex_var 2 rfl) (.lst _)) (ex_gint B.MOST_STEPS))) (fun hc => (ew_or1 (eb_neI (ex_lensetS B.len B.set (ex_var 2 rfl) ao.nd (by omega)) (ex_len B.len (ex_var 2 rfl) (.lst _))))))))) ?_).t (fun hk => by cases hk) fun _ => sxs_nil ?_)
  · have hl : (acts.map PyData.str).length = acts.length := List.length_map _
    rw [hl, decide_eq_true rfl, decide_eq_true (show (1 : Int) ≤ (acts.length : Nat) by omega), decide_eq_true (show ((acts.length : Nat) : Int) ≤ 6 by omega), decide_eq_true rfl]
    rfl
  refine sxs_cons (sx_forT (ix_lstM (ex_var 2 rfl)) (fun i Ψ B => Ψ = phS G ∧ ∃ u, B = [.d (.str (partF (wA acts))), .d (lsD (wA acts)), .d (lsD acts), u]) ⟨rfl, _, rfl⟩ (fun i y Ψ B e iv => ?_) fun Ψ B iv => ?_)
  · obtain ⟨rfl, u, rfl⟩ := iv
    have hy := List.mem_of_getElem? e
    refine ⟨_, tx_name 3 nd, sxs_one (sx_if (k := false) (EB.cast (eb_bop (ew_or (eb_not (eb_of (ex_call F_is_name hr (ea_cons (ex_var 3 rfl) ea_nil) fun G _ => ⟨_, rfl, ao.name y hy, rfl⟩))) (fun hc => (ew_or1 (eb_inK (xs := keysS) hK1 hK2 (ex_var 3 rfl)))))) ?_).t (fun hk => by cases hk) fun _ => sxs_nil ⟨rfl, _, rfl⟩)⟩
    rw [decide_eq_false (ao.key y hy)]
    rfl
  · obtain ⟨rfl, u, rfl⟩ := iv
    exact sxs_one (sx_ret (ex_var 2 rfl) fun s w => w)
abbrev s_place_of : Stmt := topS 60
abbrev N_place_of : List Str := ["word", "acts"]
theorem sc_place_of : FnScope N_place_of ["word", "acts"] (defScope s_place_of) := ⟨rfl, rfl, rfl, by decide +kernel, rfl, by decide +kernel, by decide +kernel⟩
theorem hb_place_of (kV doc pm : Value) (an : Option Addr) (cdv ct : Value) (us : List Value) (hl : us.length = 2) : bindArgs (PySem.W.fnOf "place_of" "place_of" (defArgs s_place_of) (defBody s_place_of) (defScope s_place_of) .none kV doc pm an cdv ct) ⟨us, []⟩ = pure ((["word", "acts"] : List Str).zip us) := match us, hl with
  | [_, _], _ => rfl
def R_place_of : PSpec := fun _ ss W => ∃ (acts : List Str) (k : Nat), ss = [ds (actAt acts k), .dat (lsD acts)] ∧ ActsOk acts ∧ k < acts.length ∧ W = (· = di (k : Nat))
theorem ok_place_of (B : Bt mg) (Dd : DefAt K mg "place_of" s_place_of) : Fn P w K mg base "place_of" ["word", "acts"] R_place_of 1 := by
  refine fn_mk Dd sc_place_of (fun G ss W ⟨_, _, e, _⟩ => by rw [e]; rfl) hb_place_of fun f cdv A outer s H hr G ss W h => ?_
  obtain ⟨acts, k, rfl, ao, hk, rfl⟩ := h
  have nd := (sc_place_of).nd
  have hu := hu_of2 hr
  refine sxs_cons (sx_if (k := false) (EB.cast (eb_ninS (ex_var 0 rfl) (ex_var 1 rfl)) (by rw [decide_eq_true (actAt_mem hk)]; rfl)).t (fun hk => by cases hk) fun _ => sxs_nil ?_)
  exact sxs_one (sx_ret (ex_index hu (ex_var 1 rfl) (ex_var 0 rfl) (names_strOk ao) (actAt_get hk) (act_first ao hk)) fun s w => w)
abbrev s_places_of : Stmt := topS 61
abbrev N_places_of : List Str := ["words", "acts", "word"]
theorem sc_places_of : FnScope N_places_of ["words", "acts"] (defScope s_places_of) := ⟨rfl, rfl, rfl, by decide +kernel, rfl, by decide +kernel, by decide +kernel⟩
theorem hb_places_of (kV doc pm : Value) (an : Option Addr) (cdv ct : Value) (us : List Value) (hl : us.length = 2) : bindArgs (PySem.W.fnOf "places_of" "places_of" (defArgs s_places_of) (defBody s_places_of) (defScope s_places_of) .none kV doc pm an cdv ct) ⟨us, []⟩ = pure ((["words", "acts"] : List Str).zip us) := match us, hl with
  | [_, _], _ => rfl
def R_places_of : PSpec := fun _ ss W => ∃ (acts : List Str) (steps : List Nat), ss = [.dat (lsD (steps.map (actAt acts))), .dat (lsD acts)] ∧ ActsOk acts ∧ steps.Pairwise (· < ·) ∧ (∀ s ∈ steps, s < acts.length) ∧ steps.length ≤ 6 ∧ W = (· = .dat (.tuple (steps.map encN)))
theorem ok_places_of (B : Bt mg) (Dd : DefAt K mg "places_of" s_places_of) (F_place_of : Fn P w K mg base "place_of" ["word", "acts"] R_place_of 1) : Fn P w K mg base "places_of" ["words", "acts"] R_places_of 2 := by
  refine fn_mk Dd sc_places_of (fun G ss W ⟨_, _, e, _⟩ => by rw [e]; rfl) hb_places_of fun f cdv A outer s H hr G ss W h => ?_
  obtain ⟨acts, steps, rfl, ao, up, lt, few, rfl⟩ := h
  have nd := (sc_places_of).nd
  have hl : (steps.map (actAt acts)).length = steps.length := List.length_map _
  refine sxs_cons (sx_if (k := false) (EB.cast (eb_neI (ex_lensetS B.len B.set (ex_var 0 rfl) (acts_nodup ao up lt) (by omega)) (ex_len B.len (ex_var 0 rfl) (.lst _))) (by rw [hl, List.length_map, hl, decide_eq_true rfl]; rfl)).t (fun hk => by cases hk) fun _ => sxs_nil ?_)
  have e0 : ∀ ι : Nat → Ds, (∀ s, ι s = .dat (.str (actAt acts s))) → (((steps.map (actAt acts)).map fun y => Ds.dat (.str y)) = steps.map ι) := fun ι h => by
    rw [List.map_map]
    exact List.map_congr_left fun s _ => (h s).symm
  refine sxs_one (sx_ret (ex_tuple B.tuple (ex_sortI (ns := steps.map fun s : Nat => (s : Int)) B.sorted (EX.cast (ex_lc 2 (ys := steps) (ι := fun s => .dat (.str (actAt acts s))) (fun _ => true) encN (ix_cast (ix_lstM (ex_var 0 rfl)) (e0 _ fun _ => rfl)) (by omega) (blkOk_by (N := N_places_of) (sc := defScope s_places_of) (by decide +kernel)) (fun y hy s H C cl fp => rfl)
    (fun y hy hq s H C cl fp => ex_call F_place_of hr (ea_cons (ex_var 2 rfl) (ea_cons (ex_var 1 rfl) ea_nil)) fun G _ => ⟨acts, y, rfl, ao, lt y hy, rfl⟩) (fun s H C cl fp => pg_name nd rfl (Or.inl rfl)) nd) ?_))) fun s w => ?_)
  · rw [List.filter_eq_self.mpr fun _ _ => rfl, List.map_map]
    rfl
  · subst w
    have e1 : sortI (steps.map fun s : Nat => (s : Int)) = steps.map fun s : Nat => (s : Int) := (sortI_one (List.Perm.refl _) (by
      rw [List.pairwise_map]
      exact up.imp fun h => by omega)).symm
    rw [e1, List.map_map]
    rfl
abbrev s_tie_of : Stmt := topS 62
abbrev N_tie_of : List Str := ["words", "acts"]
theorem sc_tie_of : FnScope N_tie_of ["words", "acts"] (defScope s_tie_of) := ⟨rfl, rfl, rfl, by decide +kernel, rfl, by decide +kernel, by decide +kernel⟩
theorem hb_tie_of (kV doc pm : Value) (an : Option Addr) (cdv ct : Value) (us : List Value) (hl : us.length = 2) : bindArgs (PySem.W.fnOf "tie_of" "tie_of" (defArgs s_tie_of) (defBody s_tie_of) (defScope s_tie_of) .none kV doc pm an cdv ct) ⟨us, []⟩ = pure ((["words", "acts"] : List Str).zip us) := match us, hl with
  | [_, _], _ => rfl
def R_tie_of : PSpec := fun _ ss W => ∃ (acts : List Str) (t : Tie), ss = [.dat (lsD (wT acts t)), .dat (lsD acts)] ∧ ActsOk acts ∧ TieTold acts.length t ∧ W = (· = .dat (encT t))
theorem numS_eq {k : Nat} (h : k ≤ 6) : numS k = ⟨#[48 + k]⟩ := TL.ext_tl (by
  show TL.tl (Str.ofString (toString ((k : Nat) : Int))) = [48 + k]
  rw [TL.tl_num, TL.numL_lt (by omega)])
theorem ok_tie_of (B : Bt mg) (Dd : DefAt K mg "tie_of" s_tie_of) (F_places_of : Fn P w K mg base "places_of" ["words", "acts"] R_places_of 2) : Fn P w K mg base "tie_of" ["words", "acts"] R_tie_of 3 := by
  refine fn_mk Dd sc_tie_of (fun G ss W ⟨_, _, e, _⟩ => by rw [e]; rfl) hb_tie_of fun f cdv A outer s H hr G ss W h => ?_
  obtain ⟨acts, t, rfl, ao, tt, rfl⟩ := h
  have nd := (sc_tie_of).nd
  have hu := hu_of2 hr
  have hz : (wT acts t).length = t.steps.length + 2 := by
    show (_ :: _ :: t.steps.map (actAt acts)).length = _
    rw [List.length_cons, List.length_cons, List.length_map]
  have hs : 1 ≤ t.steps.length := List.length_pos_iff.mpr tt.some1
  have hf := tie_few tt
  have hl : ((wT acts t).map PyData.str).length = t.steps.length + 2 := by rw [List.length_map, hz]
  have e0 : atI (wT acts t) 0 = some (wordT t) := atN (k := 0) rfl
  have e1 : atI (wT acts t) 1 = some (numS t.k) := atN (k := 1) rfl
  refine sxs_cons (sx_if (k := true) (EB.cast (eb_bop (ew_and (eb_inU (xs := ["most", "least"]) (ex_ixM (f := PyData.str) (ex_var 0 rfl) ex_int e0) (ex_tup (ds := [_, _]) (ea_cons ex_str (ea_cons ex_str ea_nil)) (Nat.le_of_ble_eq_true rfl))) fun hc => ew_and (eb_gt (ex_len B.len (ex_var 0 rfl) (.lst _)) ex_int) fun hc => ew_and (eb_eqI (ex_len B.len (ex_ixM (f := PyData.str) (ex_var 0 rfl) ex_int e1) (.str (len_ok (word_num tt.few).few (by decide)))) ex_int) fun hc =>
    ew_and1 (eb_inT (EX.cast (ex_ixM (f := PyData.str) (ex_var 0 rfl) ex_int e1) (congrArg ds (numS_eq tt.few))) (ex_gstr B.FIGURES)))) ?_).t (fun _ => ?_) fun hk => by cases hk)
  · have k1 : wordT t ∈ (["most", "least"] : List Str) := by
      unfold wordT
      split
      · exact .head _
      · exact .tail _ (.head _)
    have k2 : ((numS t.k).length : Int) = 1 := by
      rw [numS_eq tt.few]
      rfl
    have k3 : ∀ m : Nat, m < 6 → 48 + (m + 1) ∈ ("123456" : Str).cps.toList := by decide +kernel
    have k4 := k3 (t.k - 1) (by have := tt.few; have := tt.one; omega)
    have k5 : t.k - 1 + 1 = t.k := by have := tt.one; omega
    rw [k5] at k4
    rw [decide_eq_true k1, hl, decide_eq_true (show (2 : Int) < ((t.steps.length + 2 : Nat) : Int) by omega), decide_eq_true k2, decide_eq_true k4]
    rfl
  refine sxs_one (sx_ret (ex_tup (ds := [_, _, _]) (ea_cons (ex_ixM (f := PyData.str) (ex_var 0 rfl) ex_int e0) (ea_cons (ex_intS B.int (ex_ixM (f := PyData.str) (ex_var 0 rfl) ex_int e1) (TL.int_num (n := t.k) ?_) ?_) (ea_cons (ex_call F_places_of hr (ea_cons (EX.cast (ex_slice (ex_var 0 rfl) (eo_some ex_int) eo_none) ?_) (ea_cons (ex_var 1 rfl) ea_nil)) (W := (· = .dat (.tuple (t.steps.map encN)))) fun G _ => ⟨acts, t.steps, rfl, ao, tt.up, tt.lt, by have := ao.few; omega, rfl⟩) ea_nil))) (Nat.le_of_ble_eq_true rfl)) fun s w => w)
  · rw [TL.numL_lt (by have := tt.few; omega)]
    exact Nat.le_of_ble_eq_true rfl
  · exact Nat.le_trans (word_num tt.few).few (by decide)
  · rw [show (2 : Int) = ((2 : Nat) : Int) from rfl, cut_drop (by rw [hl]; omega)]
    rfl
theorem SXs.fz2 {μ : Bool} {X : Cx} {Φ : Ph} {A : List Sl} {sts : List Stmt} {P : PEnd} (h : SXs μ X Φ (fzA A) sts P) : SXs μ X Φ A sts P := fun G0 H0 G H σ De ab φ m => by
  obtain ⟨G1, ab1, sm⟩ := ab.fz
  exact h G0 H0 G1 H σ De ab1 (Φ.st _ _ sm φ) (m.step (.of sm))
abbrev s_read_round : Stmt := topS 63
abbrev N_read_round : List Str := ["text", "parts", "acts", "order", "ties", "part", "words", "pair"]
theorem sc_read_round : FnScope N_read_round ["text"] (defScope s_read_round) := ⟨rfl, rfl, rfl, by decide +kernel, rfl, by decide +kernel, by decide +kernel⟩
theorem hb_read_round (kV doc pm : Value) (an : Option Addr) (cdv ct : Value) (us : List Value) (hl : us.length = 1) : bindArgs (PySem.W.fnOf "read_round" "read_round" (defArgs s_read_round) (defBody s_read_round) (defScope s_read_round) .none kV doc pm an cdv ct) ⟨us, []⟩ = pure ((["text"] : List Str).zip us) := match us, hl with
  | [_], _ => rfl
def R_read_round : PSpec := fun _ ss W => ∃ (acts : List Str) (order : List (Nat × Nat)) (ties : List Tie), ss = [ds (textF acts order ties)] ∧ RoundOk acts order ties ∧ W = (· = .dat (.tuple [lsD acts, lpD order, ltD ties]))
theorem tie_word (t : Tie) : wordT t ≠ "before" := by
  unfold wordT
  split <;> decide +kernel
theorem num_word {k : Nat} (h : k ≤ 6) : numS k ≠ "before" := fun e => by
  have h1 := congrArg Str.length e
  rw [numS_eq h] at h1
  have h2 : (1 : Nat) = ("before" : Str).length := h1
  exact absurd h2 (by decide +kernel)
theorem rest_len (acts : List Str) (order : List (Nat × Nat)) (ties : List Tie) : (restF acts order ties).length = order.length + ties.length := by
  unfold restF
  rw [List.length_append, List.length_map, List.length_map]
set_option maxHeartbeats 2000000 in
theorem ok_read_round (B : Bt mg) (Dd : DefAt K mg "read_round" s_read_round) (F_acts_of : Fn P w K mg base "acts_of" ["part"] R_acts_of 2) (F_place_of : Fn P w K mg base "place_of" ["word", "acts"] R_place_of 1) (F_tie_of : Fn P w K mg base "tie_of" ["words", "acts"] R_tie_of 3)
    (F_ring : Fn P w K mg base "ring" ["count", "order"] R_ring 4) : Fn P w K mg base "read_round" ["text"] R_read_round 5 := by
  refine fn_mk Dd sc_read_round (fun G ss W ⟨_, _, _, e, _⟩ => by rw [e]; rfl) hb_read_round fun f cdv A outer s H hr4 G ss W h => ?_
  obtain ⟨acts, order, ties, rfl, ro, rfl⟩ := h
  have nd := (sc_read_round).nd
  have hu := hu_of2 hr4
  have hr3 := hr4.mono (show 3 ≤ 4 by decide)
  have hr2 := hr4.mono (show 2 ≤ 4 by decide)
  have hr1 := hr4.mono (show 1 ≤ 4 by decide)
  have htl := text_len ro
  have ha6 := ro.ac.few
  have ho := ro.few
  have ht := ro.few2
  have hrl := rest_len acts order ties
  have h0 : atI (partsF acts order ties) 0 = some (partF (wA acts)) := atN (k := 0) rfl
  refine sxs_cons (sx_if (k := false) (EB.cast (eb_not (eb_isi (k := true) B.isinstance (ex_var 0 rfl) (ex_ty (n := "str") B.str (by decide +kernel)) (by exact (show kitB "str" "str" = some true by decide +kernel)))) rfl).t (fun hk => by cases hk) fun _ => sxs_nil ?_)
  refine sxs_cons (sx_asg 1 (W := (· = .dat (lsD (partsF acts order ties)))) (EX.cast (ex_split (ex_var 0 rfl) ex_str (by decide +kernel) (Nat.le_trans (show _ ≤ 10002 by omega) (by decide))) (by rw [split_text ro])) (fun s w => ?_) nd)
  subst w
  refine sxs_cons (sx_asg 2 (W := (· = .dat (lsD acts))) (ex_call F_acts_of hr2 (ea_cons (ex_ixM (f := PyData.str) (ex_var 1 rfl) ex_int h0) ea_nil) fun G _ => ⟨acts, rfl, ro.ac, rfl⟩) (fun s w => ?_) nd)
  subst w
  refine sxs_cons (sx_own 3 exn_nil ?_ nd)
  refine sxs_cons (sx_own 4 exn_nil ?_ nd)
  have hcut : cutL ((partsF acts order ties).map PyData.str) (some 1) none = ((restF acts order ties).map fun ws => PyData.str (partF ws)) := by
    rw [show (1 : Int) = ((1 : Nat) : Int) from rfl, cut_drop (by unfold partsF; simp)]
    show ((restF acts order ties).map partF).map PyData.str = _
    rw [List.map_map]
    rfl
  refine sxs_cons (sx_forT (ix_lstM (f := fun ws => PyData.str (partF ws)) (ys := restF acts order ties) (EX.cast (ex_slice (ex_var 1 rfl) (eo_some ex_int) eo_none) (by rw [hcut]))) (fun i Ψ B => Ψ = phS G ∧ ∃ u v v7, B = [.d (.str (textF acts order ties)), .d (lsD (partsF acts order ties)), .d (lsD acts), .lst ((order.take i).map encP), .lst ((ties.take (i - order.length)).map encT), u, v, v7]) ⟨rfl, .un, .un, .un, ?_⟩ (fun i ws Ψ B e iv => ?_) fun Ψ B iv => ?_)
  · rw [Nat.zero_sub]
    rfl
  · obtain ⟨rfl, u, v, v7, rfl⟩ := iv
    have hws := List.mem_of_getElem? e
    have hw1 := ws_few ro ws hws
    have hpl := part_len (m := 8) hw1.2 (words_rest ro ws hws)
    have hil := (List.getElem?_eq_some_iff.mp e).1
    refine ⟨_, tx_name 5 nd, ?_⟩
    refine sxs_cons (sx_asg 6 (W := (· = .dat (lsD ws))) (EX.cast (ex_split (ex_var 5 rfl) ex_str (by decide +kernel) (Nat.le_trans (show _ ≤ 102 by omega) (by decide))) (by rw [split_part hw1.1 (words_rest ro ws hws)])) (fun s w => ?_) nd)
    subst w
    by_cases hi : i < order.length
    · have ep : order[i]? = some order[i] := List.getElem?_eq_getElem hi
      generalize order[i] = p at ep
      have hp := List.mem_of_getElem? ep
      have ew : ws = wO acts p := by
        unfold restF at e
        rw [List.getElem?_append_left (by rw [List.length_map]; exact hi), List.getElem?_map, ep] at e
        exact (Option.some.inj e).symm
      subst ew
      have w0 : atI (wO acts p) 0 = some (actAt acts p.1) := atN (k := 0) rfl
      have w1 : atI (wO acts p) 1 = some "before" := atN (k := 1) rfl
      have w2 : atI (wO acts p) 2 = some (actAt acts p.2) := atN (k := 2) rfl
      have hnew : p ∉ order.take i := fun hm => by
        obtain ⟨j, hj, ej⟩ := List.mem_iff_getElem.mp hm
        rw [List.length_take] at hj
        rw [List.getElem_take] at ej
        have e3 : order[i] = p := by
          rw [List.getElem?_eq_getElem hi] at ep
          exact Option.some.inj ep
        exact (List.pairwise_iff_getElem.mp ro.nd) j i (by omega) hi (by omega) (by rw [ej, e3])
      refine sxs_one (sx_if (k := true) (EB.cast (eb_bop (ew_and (eb_eqI (ex_len B.len (ex_var 6 rfl) (.lst _)) ex_int) (fun hc => (ew_and1 (eb_eqS (ex_ixM (f := PyData.str) (ex_var 6 rfl) ex_int w1) ex_str))))) (by rfl)).t (fun _ => ?_) fun hk => by cases hk)
      refine sxs_cons (sx_asg 7 (W := (· = .dat (encP p))) (ex_tup (ds := [_, _]) (ea_cons (ex_call F_place_of hr1 (ea_cons (ex_ixM (f := PyData.str) (ex_var 6 rfl) ex_int w0) (ea_cons (ex_var 2 rfl) ea_nil)) (W := (· = di (p.1 : Nat))) fun G _ => ⟨acts, p.1, rfl, ro.ac, ro.lt1 p hp, rfl⟩) (ea_cons (ex_call F_place_of hr1 (ea_cons (ex_ixM (f := PyData.str) (ex_var 6 rfl) ex_int w2) (ea_cons (ex_var 2 rfl) ea_nil)) (W := (· = di (p.2 : Nat))) fun G _ => ⟨acts, p.2, rfl, ro.ac, ro.lt2 p hp, rfl⟩) ea_nil)) (Nat.le_of_ble_eq_true rfl)) (fun s w => ?_) nd)
      subst w
      refine sxs_cons (sx_if (k := false) (EB.view (eb_inC code_P (ex_var 7 rfl) (ex_var 3 rfl) hu trivial (fun _ _ => trivial) ⟨fun h => (by cases h), fun h => absurd h hnew⟩)).t (fun hk => by cases hk) fun _ => sxs_nil ?_)
      refine sxs_one (sx_app 3 rfl (ex_var 7 rfl) (by rw [List.length_map, List.length_take]; omega) ⟨rfl, .d (.str (partF (wO acts p))), .d (lsD (wO acts p)), .d (encP p), ?_⟩)
      rw [List.take_add_one, ep, List.map_append, show i + 1 - order.length = i - order.length by omega]
      rfl
    · have hj : i - order.length < ties.length := by omega
      have et : ties[i - order.length]? = some ties[i - order.length] := List.getElem?_eq_getElem hj
      generalize ties[i - order.length] = t at et
      have htm := List.mem_of_getElem? et
      have tt := ro.tie t htm
      have ew : ws = wT acts t := by
        unfold restF at e
        rw [List.getElem?_append_right (by rw [List.length_map]; omega), List.length_map, List.getElem?_map, et] at e
        exact (Option.some.inj e).symm
      subst ew
      have w1 : atI (wT acts t) 1 = some (numS t.k) := atN (k := 1) rfl
      refine sxs_one (sx_if (k := false) (EB.cast (eb_bop (ew_and (eb_eqI (ex_len B.len (ex_var 6 rfl) (.lst _)) ex_int) (fun hc => (ew_and1 (eb_eqS (ex_ixM (f := PyData.str) (ex_var 6 rfl) ex_int w1) ex_str))))) (by rw [decide_eq_false (num_word tt.few), Bool.and_false])).t (fun hk => by cases hk) fun _ => ?_)
      refine sxs_one (sx_app 4 rfl (ex_call F_tie_of hr3 (ea_cons (ex_var 6 rfl) (ea_cons (ex_var 2 rfl) ea_nil)) (W := (· = .dat (encT t))) fun G _ => ⟨acts, t, rfl, ro.ac, tt, rfl⟩) (by rw [List.length_map, List.length_take]; omega) ⟨rfl, .d (.str (partF (wT acts t))), .d (lsD (wT acts t)), v7, ?_⟩)
      rw [show i + 1 - order.length = (i - order.length) + 1 by omega, List.take_of_length_le (show order.length ≤ i + 1 by omega), List.take_of_length_le (show order.length ≤ i by omega), List.take_add_one, et, List.map_append]
      rfl
  · obtain ⟨rfl, u, v, v7, rfl⟩ := iv
    have e1 : order.take (restF acts order ties).length = order := List.take_of_length_le (by omega)
    have e2 : ties.take ((restF acts order ties).length - order.length) = ties := List.take_of_length_le (by omega)
    rw [e1, e2]
    refine sxs_cons (sx_if (k := false) (EB.view (EB.cast (eb_gt (ex_len B.len (ex_var 4 rfl) (.lst _)) (ex_gint B.MOST_TIES)) (decide_eq_false (by rw [List.length_map]; omega)))).t (fun hk => by cases hk) fun _ => sxs_nil ?_)
    refine SXs.fz2 ?_
    show SXs _ _ _ [.d (.str (textF acts order ties)), .d (lsD (partsF acts order ties)), .d (lsD acts), .d (lpD order), .d (ltD ties), u.fz, v.fz, v7.fz] _ _
    obtain ⟨r, hrk⟩ := ro.rank
    refine sxs_cons (sx_if (k := false) (EB.cast (eb_ne (ex_call F_ring hr4 (ea_cons (ex_len B.len (ex_var 2 rfl) (.lst _)) (ea_cons (ex_var 3 rfl) ea_nil)) (W := (· = .dat (.list []))) fun G _ => ⟨acts.length, order, r, by rw [List.length_map], by omega, ro.lt1, hrk, rfl⟩) (ex_lst (ds := []) ea_nil (Nat.le_of_ble_eq_true rfl)) hu (by decide +kernel) (by decide +kernel)) (by decide +kernel)).t (fun hk => by cases hk) fun _ => sxs_nil ?_)
    exact sxs_one (sx_ret (ex_tup (ds := [_, _, _]) (ea_cons (ex_var 2 rfl) (ea_cons (ex_var 3 rfl) (ea_cons (ex_var 4 rfl) ea_nil))) (Nat.le_of_ble_eq_true rfl)) fun s w => w)
end
end Dl
namespace Dl
open PySem PySem.Spec PyProof.Rows L2
/-! ### objects: what is read -/
section
variable {X : Cx} {Φ : Ph} {G : Hp} {A : List Sl} {a b c e o : Expr} {es : List Expr} {pos p apos : Pos} {W : Ds → Prop} {s : Ds} {ss : List Ds} {f m x : Str} {C r dx : Addr} {fs : List (Str × V)} {v : V}
theorem ex_fldP (hc : Cls X.K C) (hn : NoAttr X.K C f) (he : EX X Φ A e (.raw (.ref r))) (hf : ∀ G, Φ.p G → ∃ dx fs v, G r = some (.ins C dx fs) ∧ fs.lookup f = some v ∧ Sv X.K G v s) (hb : attributeBase e f X.env (eval e X.env) = eval e X.env := by rfl) : EX X Φ A (.Attribute e f pos) s :=
  exw_of (pe_fld RE.pe hb) fun μ G0 H0 G H σ Q ab φ q => he μ G0 H0 G H σ _ ab φ fun t u G1 H1 w g sv => by
    subst w
    cases sv
    obtain ⟨dx, fs, v, e1, e2, sv⟩ := hf G1 (Φ.st _ _ (g.s rfl) φ)
    exact ⟨r, C, dx, fs, v, rfl, g.i _ _ e1, hc, hn, e2, q _ _ G1 H1 rfl g sv⟩
theorem ex_fld (hc : Cls X.K C) (hn : NoAttr X.K C f) (he : EX X (phS G) A e (.raw (.ref r))) (hi : G r = some (.ins C dx fs)) (hl : fs.lookup f = some v) (sv : Sv X.K G v s) (hb : attributeBase e f X.env (eval e X.env) = eval e X.env := by rfl) : EX X (phS G) A (.Attribute e f pos) s :=
  ex_fldP hc hn he (fun G' sm => ⟨dx, fs, v, sm _ _ hi, hl, sv.mono sm⟩) hb
/-- k in d, d[k], of a dict that is told by its address -/
theorem Rd.mono {G G' : Hp} {r : Addr} {u : HO} (h : Rd G r u) (sm : Same G G') : Rd G' r u := by
  rcases h with h | ⟨ob, h⟩
  · exact .inl (sm _ _ h)
  · exact .inr ⟨ob, sm _ _ h⟩
variable {kvs : List (Key × V)} {key : Key} {d : D}
theorem eb_dinR (ha : EX X (phS G) A a (.dat d)) (hb : EX X (phS G) A b (.raw (.ref r))) (hr : Rd G r (.dK kvs)) (hk : keyD d = some key) (hu : X.A.units + 1 < cLine) (hm : behindInMarks .In b = false := by rfl) : EB X (phS G) A (.Compare a [.In] [b] pos) (valV kvs key).isSome :=
  eb_dcmp (pc_din hu RE.pe RE.pe) hm fun μ G0 H0 G1 H σ Q ab φ q => ha μ G0 H0 G1 H σ _ ab φ fun s v G2 H2 w g sv => by
    subst w
    refine hb μ G0 H0 G2 H2 σ _ (ab.step g) ((phS G).st _ _ (g.s rfl) φ) fun s y G3 H3 w g2 sy => ?_
    subst w
    cases sv with
    | dat sv =>
      cases sy
      obtain ⟨ek, sk⟩ := keyD_v hk
      have ey := sv.sc sk
      subst ey
      rw [ek]
      have sm : Same G H3 := (Same.trans φ ((g.s rfl).trans (g2.s rfl))).trans g2.i
      exact ⟨_, _, rfl, .inl ⟨kvs, key, Rd.mono hr sm, rfl, rfl⟩, q G3 H3 (g.trans g2)⟩
theorem eb_dninR (ha : EX X (phS G) A a (.dat d)) (hb : EX X (phS G) A b (.raw (.ref r))) (hr : Rd G r (.dK kvs)) (hk : keyD d = some key) (hu : X.A.units + 1 < cLine) (hm : behindInMarks .NotIn b = false := by rfl) : EB X (phS G) A (.Compare a [.NotIn] [b] pos) (!(valV kvs key).isSome) :=
  eb_dcmp (pc_dnotin hu RE.pe RE.pe) hm fun μ G0 H0 G1 H σ Q ab φ q => ha μ G0 H0 G1 H σ _ ab φ fun s v G2 H2 w g sv => by
    subst w
    refine hb μ G0 H0 G2 H2 σ _ (ab.step g) ((phS G).st _ _ (g.s rfl) φ) fun s y G3 H3 w g2 sy => ?_
    subst w
    cases sv with
    | dat sv =>
      cases sy
      obtain ⟨ek, sk⟩ := keyD_v hk
      have ey := sv.sc sk
      subst ey
      rw [ek]
      have sm : Same G H3 := (Same.trans φ ((g.s rfl).trans (g2.s rfl))).trans g2.i
      exact ⟨_, _, rfl, .inl ⟨kvs, key, Rd.mono hr sm, rfl, rfl⟩, q G3 H3 (g.trans g2)⟩
theorem ex_dgetR (hb : EX X (phS G) A b (.raw (.ref r))) (ha : EX X (phS G) A a (.dat d)) (hr : Rd G r (.dK kvs)) (hk : keyD d = some key) (hv : valV kvs key = some v) (sv : Sv X.K G v s) (hu : X.A.units + 1 < cLine) (hp : NoSl a := by intro _ _; rfl) : EX X (phS G) A (.Subscript b a pos) s :=
  exw_of (pe_dget hu RE.pe RE.pe hp) fun μ G0 H0 G1 H σ Q ab φ q => hb μ G0 H0 G1 H σ _ ab φ fun t y G2 H2 w g sy => by
    subst w
    refine ha μ G0 H0 G2 H2 σ _ (ab.step g) ((phS G).st _ _ (g.s rfl) φ) fun t u G3 H3 w g2 su => ?_
    subst w
    cases su with
    | dat su =>
      cases sy
      obtain ⟨ek, sk⟩ := keyD_v hk
      have ey := su.sc sk
      subst ey
      rw [ek]
      have sm3 : Same G G3 := Same.trans φ ((g.s rfl).trans (g2.s rfl))
      refine ⟨_, v, rfl, .inl ⟨kvs, key, Rd.mono hr (sm3.trans g2.i), rfl, hv.symm⟩, q _ _ G3 H3 rfl (g.trans g2) (sv.mono sm3)⟩
theorem ex_lenR (hm : X.mg "len" = none) (hb : EX X (phS G) A b (.raw (.ref r))) (hr : G r = some (.dK kvs)) (hg : Gl X "len" := by rfl) (he : starEach [b] X.env = (false, eval b X.env) :: starEach [] X.env := by rfl) : EX X (phS G) A (.Call (.Name "len" p) [b] [] pos) (di kvs.length) :=
  exw_of (pe_callB call_lenD hg hm PySem.boot_len (pa_cons RE.pe pa_nil he) (by decide) (by decide) he) fun μ G0 H0 G1 H σ Q ab φ q => hb μ G0 H0 G1 H σ _ ab φ fun t y G2 H2 w g sy => by
    subst w
    cases sy
    exact ⟨_, _, rfl, g.i _ _ (g.s rfl _ _ (φ _ _ hr)), q _ _ G2 H2 rfl g (.dat (.int _))⟩
end
/-! ### methods that change nothing -/
section
variable {P : Program} {w : World} {K : PySem.W.Frag} {mg : Str → Option Value} {base : Heap}
/-- where a method of the text stands -/
def MetAt (K : PySem.W.Frag) (C : Addr) (m qual : Str) (st : Stmt) : Prop := ∃ f fd, FunD K m qual (defArgs st) (defBody st) (defScope st) [] [] f fd ∧ Cls K C ∧ Meth K C m f
def Mt (P : Program) (w : World) (K : PySem.W.Frag) (mg : Str → Option Value) (base : Heap) (C : Addr) (m : Str) (ps : List Str) (R : PSpec) (k : Nat) : Prop :=
  ∃ f fd, Cls K C ∧ Meth K C m f ∧ FnOk P w K mg base CX0 k f fd ps (spP K R) ∧ Binds K fd ps []
theorem mt_mk {C : Addr} {m qual : Str} {st : Stmt} {N ps : List Str} {R : PSpec} {k : Nat} (D : MetAt K C m qual st) (S : FnScope N ps (defScope st)) (hl : ∀ G ss W, R G ss W → ss.length = ps.length)
    (hb : ∀ (kV doc pm : Value) (an : Option Addr) (cdv ct : Value) (us : List Value), us.length = ps.length → bindArgs (PySem.W.fnOf m qual (defArgs st) (defBody st) (defScope st) .none kV doc pm an cdv ct) ⟨us, []⟩ = pure (ps.zip us))
    (body : ∀ (f : Addr) (cdv : Value) (A : Around) (outer : List Env) (s : Shared) (H : Hp), Room k (A.deeper (envOfC qual (defScope st) s.heap.objs.size f cdv)) → ∀ G ss W, R G ss W →
      SXs false (cx P w K mg base N qual (defScope st) f cdv A outer s H) (phS G) (st0 N ss) (defBody st) { nx := fun _ _ => W (.dat .none), rt := fun _ s => W s }) : Mt P w K mg base C m ps R (k + 1) := by
  obtain ⟨f, fd, F, c, me⟩ := D
  exact ⟨f, fd, c, me, fn_pure F S hl (body f), FunD.bindsN F hb⟩
end
section
variable {X : Cx} {Φ : Ph} {G : Hp} {A : List Sl} {e o : Expr} {es : List Expr} {pos p apos : Pos} {W : Ds → Prop} {s : Ds} {ss : List Ds} {m : Str} {C r dx : Addr} {fs : List (Str × V)} {ps : List Str} {R : PSpec} {k : Nat}
/-- o.m(e, ..) -/
theorem exw_met {pl : Sem Bool} (F : Mt X.prog X.w X.K X.mg X.base C m ps R k) (hr : Room k X.A) (ho : EX X (phS G) A o (.raw (.ref r))) (hi : G r = some (.ins C dx fs)) (hl : fs.lookup m = none) (ha : EA X (phS G) A (e :: es) ss) (hR : ∀ G', Same G G' → R G' (.raw (.ref r) :: ss) W)
    (hst : starEach (e :: es) X.env = (false, eval e X.env) :: starEach es X.env := by rfl) (hpl : (backTo pos (starEach es X.env)).any (·.1) = false := by rfl)
    (ht : eval (.Call (.Attribute o m apos) (e :: es) [] pos) X.env = (do
      let ov ← eval o X.env
      standAt apos.atName
      let (f, first) ← holding [ov] (getMethod ov m pl)
      callWith pos f first (backTo pos (starEach (e :: es) X.env)) (backToKw pos (keywordEach [] X.env))) := by rfl) : EXW X (phS G) A (.Call (.Attribute o m apos) (e :: es) [] pos) W := by
  obtain ⟨f, fd, c, me, F, hb⟩ := F
  refine exw_of (pe_meth (pl := pl) RE.pe c me F hr hb .nil pass0 RA.pa hst hpl ht) fun μ G0 H0 G1 H σ Q ab φ q => ho μ G0 H0 G1 H σ _ ab φ fun t u G2 H2 w g sv => ?_
  subst w
  cases sv
  have s2 : Same G G2 := Same.trans φ (g.s rfl)
  refine ⟨r, dx, fs, rfl, g.i _ _ (s2 _ _ hi), hl, ha μ G0 H0 G2 H2 σ _ (ab.step g) s2 fun vs G3 H3 g3 svs => ?_⟩
  rw [List.append_nil]
  exact ⟨G3, _, W, g3.i, .cons (.raw _) svs, hR G3 (s2.trans (g3.s rfl)), fun s v G4 H4 w g4 => q s v G4 H4 w ((g.trans g3).trans g4)⟩
/-- o.m() -/
theorem exw_met0 {pl : Sem Bool} (F : Mt X.prog X.w X.K X.mg X.base C m ps R k) (hr : Room k X.A) (ho : EX X (phS G) A o (.raw (.ref r))) (hi : G r = some (.ins C dx fs)) (hl : fs.lookup m = none) (hR : ∀ G', Same G G' → R G' [.raw (.ref r)] W)
    (ht : eval (.Call (.Attribute o m apos) [] [] pos) X.env = (do
      let ov ← eval o X.env
      standAt apos.atName
      let (f, first) ← holding [ov] (getMethod ov m pl)
      callWith pos f first (backTo pos (starEach [] X.env)) (backToKw pos (keywordEach [] X.env))) := by rfl) : EXW X (phS G) A (.Call (.Attribute o m apos) [] [] pos) W := by
  obtain ⟨f, fd, c, me, F, hb⟩ := F
  refine exw_of (pe_meth0 (pl := pl) RE.pe c me F hr hb .nil pass0 ht) fun μ G0 H0 G1 H σ Q ab φ q => ho μ G0 H0 G1 H σ _ ab φ fun t u G2 H2 w g sv => ?_
  subst w
  cases sv
  have s2 : Same G G2 := Same.trans φ (g.s rfl)
  refine ⟨r, dx, fs, rfl, g.i _ _ (s2 _ _ hi), hl, ?_⟩
  exact ⟨G2, _, W, g.i, .cons (.raw _) .nil, hR G2 s2, fun s v G4 H4 w g4 => q s v G4 H4 w (g.trans g4)⟩
end
end Dl
namespace Dl
open PySem PySem.Spec PyProof.Rows L2
/-! ### objects: what is changed -/
/-- what a descriptor says stays, whatever objects change -/
def Ds.stays : Ds → Bool
  | .dat _ => true
  | .raw _ => true
  | .sq _ => true
  | .dic _ => false
  | .tup _ => false
def Sl.kp : Sl → Sl
  | .k s => if s.stays = true then .k s else .un
  | s => s
abbrev kpA (A : List Sl) : List Sl := A.map Sl.kp
theorem SameD.sqL {K : PySem.W.Frag} {G G' : Hp} (s : SameD G G') {a : Addr} {xs : List V} (h : SqL K G a xs) : SqL K G' a xs := by
  rcases h with h | h
  · rcases h with h | ⟨o, h⟩
    · exact .inl (.inl (s.lst h))
    · exact .inl (.inr ⟨o, s a _ h (fun _ _ _ q => by cases q) (fun _ q => by cases q)⟩)
  · exact .inr h
theorem Sv.monoD {K : PySem.W.Frag} {G G' : Hp} {v : V} {s : Ds} (h : Sv K G v s) (sd : SameD G G') (hs : s.stays = true) : Sv K G' v s := by
  cases h with
  | dat h => exact .dat (h.monoD sd)
  | raw v => exact .raw v
  | sq h => exact .sq (sd.sqL h)
  | dic _ => cases hs
  | tup _ _ => cases hs
section
variable {K : PySem.W.Frag} {G0 H0 G H G' H' : Hp} {A : List Sl} {σ : L2.St}
theorem SlOk.stepM {s : Sl} {v : Option (Option V)} {a : Addr} (h : SlOk K H0 G H s v a) (g : Gr true G H G' H') : SlOk K H0 G' H' s.kp v a := by
  cases s with
  | un => trivial
  | k s =>
    show SlOk K H0 G' H' (if s.stays = true then .k s else .un) v a
    split
    · rename_i hs
      obtain ⟨x, h1, h2⟩ := h
      exact ⟨x, h1, h2.monoD g.d hs⟩
    · trivial
  | lst ds =>
    obtain ⟨h0, h1, h2, xs, h3, h4⟩ := h
    exact ⟨h0, g.n a (by rw [h3]; intro q; cases q) h1, h2, xs, g.f a _ h3 h1, DqAll.monoD g.d _ _ h4⟩
  | dct kvs =>
    obtain ⟨h0, h1, h2, h3⟩ := h
    exact ⟨h0, g.n a (by rw [h3]; intro q; cases q) h1, h2, g.f a _ h3 h1⟩
theorem Ab.stepM (x : Ab true K G0 H0 G H A σ) (g : Gr true G H G' H') : Ab true K G0 H0 G' H' (kpA A) σ := by
  obtain ⟨ad, h1, h2⟩ := x.ex
  have own : ∀ s : Sl, s.kp.own = true → s.own = true := fun s h => by
    cases s with
    | k s =>
      have h : (if s.stays = true then Sl.k s else Sl.un).own = true := h
      split at h <;> cases h
    | un => cases h
    | lst _ => rfl
    | dct _ => rfl
  refine ⟨x.gr.trans g, by rw [List.length_map]; exact x.len, ad, fun i s e => ?_, fun i j s t e e' o o' => ?_⟩
  · rw [List.getElem?_map] at e
    cases q : A[i]? with
    | none => rw [q] at e; cases e
    | some t =>
      rw [q] at e
      have e : t.kp = s := Option.some.inj e
      subst e
      exact (h1 i t q).stepM g
  · rw [List.getElem?_map] at e e'
    cases q : A[i]? with
    | none => rw [q] at e; cases e
    | some t1 => cases q' : A[j]? with
      | none => rw [q'] at e'; cases e'
      | some t2 =>
        rw [q] at e
        rw [q'] at e'
        have e : t1.kp = s := Option.some.inj e
        have e' : t2.kp = t := Option.some.inj e'
        subst e e'
        exact h2 i j t1 t2 q q' (own t1 o) (own t2 o')
end
/-- all but r's object stays -/
def Ch (G G' : Hp) (r : Addr) : Prop := ∀ b u, b ≠ r → G b = some u → G' b = some u
theorem Ch.trans {G G1 G2 : Hp} {r : Addr} (a : Ch G G1 r) (b : Ch G1 G2 r) : Ch G G2 r := fun x u h e => b x u h (a x u h e)
theorem Ch.of {G G' : Hp} {r : Addr} (s : Same G G') : Ch G G' r := fun b u _ e => s b u e
/-- an expression, where objects may change -/
def EXM (X : Cx) (G : Hp) (A : List Sl) (e : Expr) (W : Hp → Ds → Prop) : Prop := ∀ G0 H0 G1 H σ (Q : VK), Ab true X.K G0 H0 G1 H A σ → Same G G1 → (∀ s v G' H', W G' s → Gr true G1 H G' H' → Sv X.K G' v s → Q v H') → RE X e σ H Q
/-- .. where new objects come -/
def EXG (X : Cx) (G : Hp) (A : List Sl) (e : Expr) (W : Hp → Ds → Prop) : Prop := ∀ μ G0 H0 G1 H σ (Q : VK), Ab μ X.K G0 H0 G1 H A σ → Same G G1 → (∀ s v G' H', W G' s → Gr false G1 H G' H' → Sv X.K G' v s → Q v H') → RE X e σ H Q
section
variable {X : Cx} {G : Hp} {A : List Sl} {P : PEnd} {e o : Expr} {pos pos' : Pos} {W : Hp → Ds → Prop} {x f : Str} {μ : Bool}
theorem EXG.m (h : EXG X G A e W) : EXM X G A e W := fun G0 H0 G1 H σ Q ab sm q => h true G0 H0 G1 H σ Q ab sm fun s v G' H' w g sv => q s v G' H' w g.any sv
/-- e alone -/
theorem sx_exprM (he : EXM X G A e W) (k : ∀ G' s, W G' s → P.nx (phS G') (kpA A)) (hs : swapsWith e none pos.line X.env = pure false := by rfl) : SX true X (phS G) A (.Expr e pos) P :=
  sx_of (ps_expr RE.pe hs) fun G0 H0 G1 H σ De ab φ m => he G0 H0 G1 H σ _ ab φ fun s v G' H' w g sv => m.nx (phS G') (kpA A) σ G' H' (k G' s w) (.refl _) g.d (ab.stepM g)
/-- x = e -/
theorem sx_asgM (i : Nat) (he : EXM X G A e W) (k : ∀ G' s, W G' s → P.nx (phS G') ((kpA A).set i (.k s))) (hN : X.N.Nodup) (hi : X.N[i]? = some x := by rfl) (hx : Loc X.env.scope x := by first | exact .inl rfl | exact .inr rfl)
    (hs : swapsWith e (some (.Name x pos')) pos.line X.env = pure false := by rfl) (hf : X.fn x = true ∨ X.env.scope.names.lookup x = some .local := by first | exact .inl rfl | exact .inr rfl) : SX true X (phS G) A (.Assign [.Name x pos'] e pos) P :=
  sx_of (ps_set hN hi hx RE.pe hs hf) fun G0 H0 G1 H σ De ab φ m => he G0 H0 G1 H σ _ ab φ fun s v G' H' w g sv =>
    m.nx (phS G') _ _ G' H' (k G' s w) (.refl _) g.d ((ab.stepM g).set sv)
theorem sx_asgG (i : Nat) (he : EXG X G A e W) (k : ∀ G' s, W G' s → Same G G' → P.nx (phS G') (A.set i (.k s))) (hN : X.N.Nodup) (hi : X.N[i]? = some x := by rfl) (hx : Loc X.env.scope x := by first | exact .inl rfl | exact .inr rfl)
    (hs : swapsWith e (some (.Name x pos')) pos.line X.env = pure false := by rfl) (hf : X.fn x = true ∨ X.env.scope.names.lookup x = some .local := by first | exact .inl rfl | exact .inr rfl) : SX μ X (phS G) A (.Assign [.Name x pos'] e pos) P :=
  sx_of (ps_set hN hi hx RE.pe hs hf) fun G0 H0 G1 H σ De ab φ m => he μ G0 H0 G1 H σ _ ab φ fun s v G' H' w g sv =>
    m.nx (phS G') _ _ G' H' (k G' s w (Same.trans φ (g.s rfl))) (.refl _) g.d ((ab.step g).set sv)
/-- one object is written -/
theorem gr_write {G H : Hp} {r : Addr} {u u' : HO} (i : Same G H) (h : G r = some u) (hu : (∃ C dx fs, u = .ins C dx fs) ∨ ∃ kvs, u = .dK kvs) : Gr true G H (upd G r u') (upd H r u') where
  d := fun b ob e n1 n2 => by
    have z : b ≠ r := fun z => by
      rw [z, h] at e
      rcases hu with ⟨C, dx, fs, hu⟩ | ⟨kvs, hu⟩
      · exact n1 C dx fs ((Option.some.inj e).symm.trans hu)
      · exact n2 kvs ((Option.some.inj e).symm.trans hu)
    rw [upd_ne z]
    exact e
  s := fun h => by cases h
  f := fun b ob e g => by
    rw [upd_ne fun z => by rw [z, h] at g; cases g]
    exact e
  i := fun b ob e => by
    by_cases z : b = r
    · rw [z, upd_same] at e
      rw [z, upd_same]
      exact e
    · rw [upd_ne z] at e
      rw [upd_ne z]
      exact i b ob e
  n := fun b hb g => by
    rw [upd_ne fun z => by rw [z, h] at g; cases g]
    exact g
  p := fun b hb => by
    by_cases z : b = r
    · rw [z, upd_same]
      intro q
      cases q
    · rw [upd_ne z]
      exact hb
  k := fun h => by cases h
variable {C r dx : Addr} {fs : List (Str × V)} {s0 : Ds} {Wd : Ds → Prop}
/-- o.f = e -/
theorem sx_fset {fpos : Pos} (hc : Cls X.K C) (hn : NoAttr X.K C f) (he : EXW X (phS G) A e Wd) (ho : EX X (phS G) A o (.raw (.ref r))) (hi : G r = some (.ins C dx fs)) (hz : fs.length < 1000)
    (k : ∀ G2 G' s v, Wd s → Same G G2 → Sv X.K G2 v s → Ch G2 G' r → G' r = some (.ins C dx (putF f v fs)) → P.nx (phS G') (kpA A)) (hs : swapsWith e (some (.Attribute o f fpos)) pos.line X.env = pure false := by rfl) :
    SX true X (phS G) A (.Assign [.Attribute o f fpos] e pos) P :=
  sx_of (ps_fld RE.pe RE.pe hs) fun G0 H0 G1 H σ De ab φ m => he true G0 H0 G1 H σ _ ab φ fun s v G2 H2 w g sv => by
    have ab1 := ab.step g
    refine ho true G0 H0 G2 H2 σ _ ab1 (Same.trans φ (g.s rfl)) fun t u G3 H3 w2 g2 su => ?_
    subst w2
    cases su
    have s3 : Same G G3 := Same.trans φ ((g.s rfl).trans (g2.s rfl))
    have e3 := s3 _ _ hi
    refine ⟨r, C, dx, fs, rfl, g2.i _ _ e3, hc, hn, hz, ?_⟩
    have gw := gr_write (u' := .ins C dx (putF f v fs)) g2.i e3 (.inl ⟨_, _, _, rfl⟩)
    refine m.nx (phS _) (kpA A) σ _ _ (k G3 _ s v w s3 (sv.mono (g2.s rfl)) ?_ upd_same) (.refl _) ((g.trans g2).d.trans gw.d) ((ab1.step g2).stepM gw)
    intro b ub hb eb
    rw [upd_ne hb]
    exact eb
end
/-! ### defs and methods that change objects -/
abbrev PSpecM := Hp → List Ds → (Hp → Ds → Prop) → Prop
def spM (K : PySem.W.Frag) (R : PSpecM) : Sp := fun vs H Q _ => ∃ G ss W, Same G H ∧ SvAll K G vs ss ∧ R G ss W ∧ ∀ s v G' H', W G' s → Gr true G H G' H' → Sv K G' v s → Q v H'
/-- .. that make objects and change none of old -/
def spG (K : PySem.W.Frag) (R : PSpecM) : Sp := fun vs H Q _ => ∃ G ss W, Same G H ∧ SvAll K G vs ss ∧ R G ss W ∧ ∀ s v G' H', W G' s → Gr false G H G' H' → Sv K G' v s → Q v H'
section
variable {P : Program} {w : World} {K : PySem.W.Frag} {mg : Str → Option Value} {base : Heap}
theorem fn_M {x qual : Str} {st : Stmt} {N ps : List Str} {R : PSpecM} {k : Nat} {f : Addr} {fd : FuncData} (F : FunD K x qual (defArgs st) (defBody st) (defScope st) [] [] f fd) (S : FnScope N ps (defScope st)) (hl : ∀ G ss W, R G ss W → ss.length = ps.length)
    (body : ∀ (cdv : Value) (A : Around) (outer : List Env) (s : Shared) (H : Hp), Room k (A.deeper (envOfC qual (defScope st) s.heap.objs.size f cdv)) → ∀ G ss W, R G ss W →
      SXs true (cx P w K mg base N qual (defScope st) f cdv A outer s H) (phS G) (st0 N ss) (defBody st) { nx := fun Φ _ => ∀ G', Φ.p G' → W G' (.dat .none), rt := fun Φ s => ∀ G', Φ.p G' → W G' s }) :
    FnOk P w K mg base CX0 (k + 1) f fd ps (spM K R) := by
  refine F.ok S (fun vs H Q E h => ?_) fun cdv A outer s H vs Q E hr h => ?_
  · obtain ⟨G, ss, W, _, svs, r, _⟩ := h
    rw [svs.length]
    exact hl G ss W r
  · obtain ⟨G, ss, W, sm, svs, r, post⟩ := h
    refine ⟨RSs (cx P w K mg base N qual (defScope st) f cdv A outer s H) (defBody st), PSs.nox RSs.pss, ?_⟩
    refine body cdv A outer s H hr G ss W r G H G H _ _ (ab_start sm svs) (.refl _) ⟨fun Φ A' σ' G' H' q φ _ ab => ?_, fun Φ t v G' H' q φ g sv => ?_, fun _ _ _ _ _ z => z.elim, fun _ _ _ _ _ z => z.elim, fun _ _ _ _ z => z.elim⟩
    · exact post _ .non G' H' (q G' φ) ab.gr (.dat .non)
    · exact post t v G' H' (q G' φ) g sv
/-- what changed objects that are new alone -/
theorem Gr.new_only {G H G' H' : Hp} (g : Gr true G H G' H') (s : Same G G') (i : Same G H) : Gr false G H G' H' :=
  ⟨g.d, fun _ => s, g.f, g.i, g.n, g.p, fun _ b u e => by
    cases q : G b with
    | none => exact g.f b u e q
    | some u' =>
      have z := i b u' q
      rw [z] at e
      cases e
      exact g.i b _ (s b _ q)⟩
theorem fn_G {x qual : Str} {st : Stmt} {N ps : List Str} {R : PSpecM} {k : Nat} {f : Addr} {fd : FuncData} (F : FunD K x qual (defArgs st) (defBody st) (defScope st) [] [] f fd) (S : FnScope N ps (defScope st)) (hl : ∀ G ss W, R G ss W → ss.length = ps.length)
    (body : ∀ (cdv : Value) (A : Around) (outer : List Env) (s : Shared) (H : Hp), Room k (A.deeper (envOfC qual (defScope st) s.heap.objs.size f cdv)) → ∀ G ss W, R G ss W →
      SXs true (cx P w K mg base N qual (defScope st) f cdv A outer s H) (phS G) (st0 N ss) (defBody st) { nx := fun Φ _ => ∀ G', Φ.p G' → Same G G' ∧ W G' (.dat .none), rt := fun Φ s => ∀ G', Φ.p G' → Same G G' ∧ W G' s }) :
    FnOk P w K mg base CX0 (k + 1) f fd ps (spG K R) := by
  refine F.ok S (fun vs H Q E h => ?_) fun cdv A outer s H vs Q E hr h => ?_
  · obtain ⟨G, ss, W, _, svs, r, _⟩ := h
    rw [svs.length]
    exact hl G ss W r
  · obtain ⟨G, ss, W, sm, svs, r, post⟩ := h
    refine ⟨RSs (cx P w K mg base N qual (defScope st) f cdv A outer s H) (defBody st), PSs.nox RSs.pss, ?_⟩
    refine body cdv A outer s H hr G ss W r G H G H _ _ (ab_start sm svs) (.refl _) ⟨fun Φ A' σ' G' H' q φ _ ab => ?_, fun Φ t v G' H' q φ g sv => ?_, fun _ _ _ _ _ z => z.elim, fun _ _ _ _ _ z => z.elim, fun _ _ _ _ z => z.elim⟩
    · exact post _ .non G' H' (q G' φ).2 (ab.gr.new_only (q G' φ).1 sm) (.dat .non)
    · exact post t v G' H' (q G' φ).2 (g.new_only (q G' φ).1 sm) sv
def FnM (P : Program) (w : World) (K : PySem.W.Frag) (mg : Str → Option Value) (base : Heap) (x : Str) (ps : List Str) (R : PSpecM) (k : Nat) : Prop :=
  ∃ f fd, mg x = some (.ref f) ∧ FnOk P w K mg base CX0 k f fd ps (spM K R) ∧ PySem.W.keepIn K (.ref f) = true ∧ Binds K fd ps []
def FnG (P : Program) (w : World) (K : PySem.W.Frag) (mg : Str → Option Value) (base : Heap) (x : Str) (ps : List Str) (R : PSpecM) (k : Nat) : Prop :=
  ∃ f fd, mg x = some (.ref f) ∧ FnOk P w K mg base CX0 k f fd ps (spG K R) ∧ PySem.W.keepIn K (.ref f) = true ∧ Binds K fd ps []
def MtM (P : Program) (w : World) (K : PySem.W.Frag) (mg : Str → Option Value) (base : Heap) (C : Addr) (m : Str) (ps : List Str) (R : PSpecM) (k : Nat) : Prop :=
  ∃ f fd, Cls K C ∧ Meth K C m f ∧ FnOk P w K mg base CX0 k f fd ps (spM K R) ∧ Binds K fd ps []
/-- a class that may be made; R: its __init__ -/
def MkM (P : Program) (w : World) (K : PySem.W.Frag) (mg : Str → Option Value) (base : Heap) (x : Str) (C : Addr) (ps : List Str) (R : PSpecM) (k : Nat) : Prop :=
  ∃ f fd, Mk K C f ∧ mg x = some (.ref C) ∧ FnOk P w K mg base CX0 k f fd ps (spM K R) ∧ Binds K fd ps []
def MakeAt (K : PySem.W.Frag) (mg : Str → Option Value) (x : Str) (C : Addr) (qual : Str) (st : Stmt) : Prop := ∃ f fd, FunD K "__init__" qual (defArgs st) (defBody st) (defScope st) [] [] f fd ∧ Mk K C f ∧ Cls K C ∧ mg x = some (.ref C)
theorem fnM_mk {x : Str} {st : Stmt} {N ps : List Str} {R : PSpecM} {k : Nat} (D : DefAt K mg x st) (S : FnScope N ps (defScope st)) (hl : ∀ G ss W, R G ss W → ss.length = ps.length)
    (hb : ∀ (kV doc pm : Value) (an : Option Addr) (cdv ct : Value) (us : List Value), us.length = ps.length → bindArgs (PySem.W.fnOf x x (defArgs st) (defBody st) (defScope st) .none kV doc pm an cdv ct) ⟨us, []⟩ = pure (ps.zip us))
    (body : ∀ (f : Addr) (cdv : Value) (A : Around) (outer : List Env) (s : Shared) (H : Hp), Room k (A.deeper (envOfC x (defScope st) s.heap.objs.size f cdv)) → ∀ G ss W, R G ss W →
      SXs true (cx P w K mg base N x (defScope st) f cdv A outer s H) (phS G) (st0 N ss) (defBody st) { nx := fun Φ _ => ∀ G', Φ.p G' → W G' (.dat .none), rt := fun Φ s => ∀ G', Φ.p G' → W G' s }) : FnM P w K mg base x ps R (k + 1) := by
  obtain ⟨f, fd, F, hm⟩ := D
  exact ⟨f, fd, hm, fn_M F S hl (body f), F.kp, FunD.bindsN F hb⟩
theorem fnG_mk {x : Str} {st : Stmt} {N ps : List Str} {R : PSpecM} {k : Nat} (D : DefAt K mg x st) (S : FnScope N ps (defScope st)) (hl : ∀ G ss W, R G ss W → ss.length = ps.length)
    (hb : ∀ (kV doc pm : Value) (an : Option Addr) (cdv ct : Value) (us : List Value), us.length = ps.length → bindArgs (PySem.W.fnOf x x (defArgs st) (defBody st) (defScope st) .none kV doc pm an cdv ct) ⟨us, []⟩ = pure (ps.zip us))
    (body : ∀ (f : Addr) (cdv : Value) (A : Around) (outer : List Env) (s : Shared) (H : Hp), Room k (A.deeper (envOfC x (defScope st) s.heap.objs.size f cdv)) → ∀ G ss W, R G ss W →
      SXs true (cx P w K mg base N x (defScope st) f cdv A outer s H) (phS G) (st0 N ss) (defBody st) { nx := fun Φ _ => ∀ G', Φ.p G' → Same G G' ∧ W G' (.dat .none), rt := fun Φ s => ∀ G', Φ.p G' → Same G G' ∧ W G' s }) : FnG P w K mg base x ps R (k + 1) := by
  obtain ⟨f, fd, F, hm⟩ := D
  exact ⟨f, fd, hm, fn_G F S hl (body f), F.kp, FunD.bindsN F hb⟩
theorem mtM_mk {C : Addr} {m qual : Str} {st : Stmt} {N ps : List Str} {R : PSpecM} {k : Nat} (D : MetAt K C m qual st) (S : FnScope N ps (defScope st)) (hl : ∀ G ss W, R G ss W → ss.length = ps.length)
    (hb : ∀ (kV doc pm : Value) (an : Option Addr) (cdv ct : Value) (us : List Value), us.length = ps.length → bindArgs (PySem.W.fnOf m qual (defArgs st) (defBody st) (defScope st) .none kV doc pm an cdv ct) ⟨us, []⟩ = pure (ps.zip us))
    (body : ∀ (f : Addr) (cdv : Value) (A : Around) (outer : List Env) (s : Shared) (H : Hp), Room k (A.deeper (envOfC qual (defScope st) s.heap.objs.size f cdv)) → ∀ G ss W, R G ss W →
      SXs true (cx P w K mg base N qual (defScope st) f cdv A outer s H) (phS G) (st0 N ss) (defBody st) { nx := fun Φ _ => ∀ G', Φ.p G' → W G' (.dat .none), rt := fun Φ s => ∀ G', Φ.p G' → W G' s }) : MtM P w K mg base C m ps R (k + 1) := by
  obtain ⟨f, fd, F, c, me⟩ := D
  exact ⟨f, fd, c, me, fn_M F S hl (body f), FunD.bindsN F hb⟩
theorem mkM_mk {C : Addr} {x qual : Str} {st : Stmt} {N ps : List Str} {R : PSpecM} {k : Nat} (D : MakeAt K mg x C qual st) (S : FnScope N ps (defScope st)) (hl : ∀ G ss W, R G ss W → ss.length = ps.length)
    (hb : ∀ (kV doc pm : Value) (an : Option Addr) (cdv ct : Value) (us : List Value), us.length = ps.length → bindArgs (PySem.W.fnOf "__init__" qual (defArgs st) (defBody st) (defScope st) .none kV doc pm an cdv ct) ⟨us, []⟩ = pure (ps.zip us))
    (body : ∀ (f : Addr) (cdv : Value) (A : Around) (outer : List Env) (s : Shared) (H : Hp), Room k (A.deeper (envOfC qual (defScope st) s.heap.objs.size f cdv)) → ∀ G ss W, R G ss W →
      SXs true (cx P w K mg base N qual (defScope st) f cdv A outer s H) (phS G) (st0 N ss) (defBody st) { nx := fun Φ _ => ∀ G', Φ.p G' → W G' (.dat .none), rt := fun Φ s => ∀ G', Φ.p G' → W G' s }) : MkM P w K mg base x C ps R (k + 1) := by
  obtain ⟨f, fd, F, mk, c, hm⟩ := D
  exact ⟨f, fd, mk, hm, fn_M F S hl (body f), FunD.bindsN F hb⟩
end
section
variable {X : Cx} {G : Hp} {A : List Sl} {e o : Expr} {es : List Expr} {pos p apos : Pos} {W : Hp → Ds → Prop} {s : Ds} {ss : List Ds} {x m : Str} {C r dx : Addr} {fs : List (Str × V)} {ps : List Str} {R : PSpecM} {k : Nat}
theorem exm_call (F : FnM X.prog X.w X.K X.mg X.base x ps R k) (hr : Room k X.A) (ha : EA X (phS G) A (e :: es) ss) (hR : ∀ G', Same G G' → ∃ W', R G' ss W' ∧ ∀ G'' s, W' G'' s → W G'' s) (hg : Gl X x := by rfl) (hdb : (x == ("__debug__" : Str)) = false := by decide)
    (he : starEach (e :: es) X.env = (false, eval e X.env) :: starEach es X.env := by rfl) (hpl : (backTo pos (starEach es X.env)).any (·.1) = false := by rfl) : EXM X G A (.Call (.Name x p) (e :: es) [] pos) W := by
  obtain ⟨f, fd, hm, F, hk, hb⟩ := F
  intro G0 H0 G1 H σ Q ab sm q
  refine RE.of (pe_call F hr hg hm hk hb .nil pass0 RA.pa hdb he hpl) (ha true G0 H0 G1 H σ _ ab sm fun vs G2 H2 g svs => ?_)
  obtain ⟨W', hR, hW⟩ := hR G2 (sm.trans (g.s rfl))
  rw [List.append_nil]
  exact ⟨G2, ss, W', g.i, svs, hR, fun s v G3 H3 w g2 => q s v G3 H3 (hW G3 s w) (g.any.trans g2)⟩
theorem exg_call (F : FnG X.prog X.w X.K X.mg X.base x ps R k) (hr : Room k X.A) (ha : EA X (phS G) A (e :: es) ss) (hR : ∀ G', Same G G' → ∃ W', R G' ss W' ∧ ∀ G'' s, W' G'' s → W G'' s) (hg : Gl X x := by rfl) (hdb : (x == ("__debug__" : Str)) = false := by decide)
    (he : starEach (e :: es) X.env = (false, eval e X.env) :: starEach es X.env := by rfl) (hpl : (backTo pos (starEach es X.env)).any (·.1) = false := by rfl) : EXG X G A (.Call (.Name x p) (e :: es) [] pos) W := by
  obtain ⟨f, fd, hm, F, hk, hb⟩ := F
  intro μ G0 H0 G1 H σ Q ab sm q
  refine RE.of (pe_call F hr hg hm hk hb .nil pass0 RA.pa hdb he hpl) (ha μ G0 H0 G1 H σ _ ab sm fun vs G2 H2 g svs => ?_)
  obtain ⟨W', hR, hW⟩ := hR G2 (sm.trans (g.s rfl))
  rw [List.append_nil]
  exact ⟨G2, ss, W', g.i, svs, hR, fun s v G3 H3 w g2 => q s v G3 H3 (hW G3 s w) (g.trans g2)⟩
theorem exm_met {pl : Sem Bool} (F : MtM X.prog X.w X.K X.mg X.base C m ps R k) (hr : Room k X.A) (ho : EX X (phS G) A o (.raw (.ref r))) (hi : G r = some (.ins C dx fs)) (hl : fs.lookup m = none) (ha : EA X (phS G) A (e :: es) ss)
    (hR : ∀ G', Same G G' → ∃ W', R G' (.raw (.ref r) :: ss) W' ∧ ∀ G'' s, W' G'' s → W G'' s)
    (hst : starEach (e :: es) X.env = (false, eval e X.env) :: starEach es X.env := by rfl) (hpl : (backTo pos (starEach es X.env)).any (·.1) = false := by rfl)
    (ht : eval (.Call (.Attribute o m apos) (e :: es) [] pos) X.env = (do
      let ov ← eval o X.env
      standAt apos.atName
      let (f, first) ← holding [ov] (getMethod ov m pl)
      callWith pos f first (backTo pos (starEach (e :: es) X.env)) (backToKw pos (keywordEach [] X.env))) := by rfl) : EXM X G A (.Call (.Attribute o m apos) (e :: es) [] pos) W := by
  obtain ⟨f, fd, c, me, F, hb⟩ := F
  intro G0 H0 G1 H σ Q ab sm q
  refine RE.of (pe_meth (pl := pl) RE.pe c me F hr hb .nil pass0 RA.pa hst hpl ht) (ho true G0 H0 G1 H σ _ ab sm fun t u G2 H2 w g sv => ?_)
  subst w
  cases sv
  have s2 : Same G G2 := sm.trans (g.s rfl)
  refine ⟨r, dx, fs, rfl, g.i _ _ (s2 _ _ hi), hl, ha true G0 H0 G2 H2 σ _ (ab.step g) s2 fun vs G3 H3 g3 svs => ?_⟩
  obtain ⟨W', hR, hW⟩ := hR G3 (s2.trans (g3.s rfl))
  rw [List.append_nil]
  exact ⟨G3, _, W', g3.i, .cons (.raw _) svs, hR, fun s v G4 H4 w g4 => q s v G4 H4 (hW G4 s w) ((g.trans g3).any.trans g4)⟩
/-- C(e, ..): a new object -/
theorem gr_made {G H G' H' : Hp} {y dy : Addr} (i : Same G H) (hy : H y = none) (hd : H dy = none) (hne : dy ≠ y) (g : Gr true (upd (upd G dy (.own y)) y (.ins C dy [])) (upd (upd H dy (.own y)) y (.ins C dy [])) G' H') (ch : Ch (upd (upd G dy (.own y)) y (.ins C dy [])) G' y) : Gr false G H G' H' := by
  have g0 : Gr false G H (upd (upd G dy (.own y)) y (.ins C dy [])) (upd (upd H dy (.own y)) y (.ins C dy [])) := (Gr.new i hd).trans (.new (Gr.new (μ := false) (o := .own y) i hd).i (by rw [upd_ne (Ne.symm hne)]; exact hy))
  have gy : G y = none := Same.none i hy
  have s : Same G G' := fun b u e => by
    have e2 := g0.s rfl b u e
    exact ch b u (ne_of_none e gy) e2
  exact (g0.any.trans g).new_only s i
theorem exg_make (F : MkM X.prog X.w X.K X.mg X.base x C ps R k) (hr : Room (k + 1) X.A) (ha : EA X (phS G) A (e :: es) ss)
    (hR : ∀ G' y dy, Same G G' → G' y = none → G' dy = none → dy ≠ y → ∃ W', R (upd (upd G' dy (.own y)) y (.ins C dy [])) (.raw (.ref y) :: ss) W' ∧ ∀ G'' s, W' G'' s → s = .dat .none ∧ Ch (upd (upd G' dy (.own y)) y (.ins C dy [])) G'' y ∧ W G'' (.raw (.ref y))) (hg : Gl X x := by rfl) (hdb : (x == ("__debug__" : Str)) = false := by decide)
    (he : starEach (e :: es) X.env = (false, eval e X.env) :: starEach es X.env := by rfl) (hpl : (backTo pos (starEach es X.env)).any (·.1) = false := by rfl) : EXG X G A (.Call (.Name x p) (e :: es) [] pos) W := by
  obtain ⟨f, fd, M, hm, F, hb⟩ := F
  intro μ G0 H0 G1 H σ Q ab sm q
  refine RE.of (pe_make M F hr hg hm hb .nil pass0 RA.pa hdb he hpl) (ha μ G0 H0 G1 H σ _ ab sm fun vs G2 H2 g svs => fun y dy hy hd hne => ?_)
  have i2 := g.i
  have gy : G2 y = none := Same.none i2 hy
  have gd : G2 dy = none := Same.none i2 hd
  obtain ⟨W', hR, hW⟩ := hR G2 y dy (sm.trans (g.s rfl)) gy gd hne
  rw [List.append_nil]
  have g0 : Gr false G2 H2 (upd (upd G2 dy (.own y)) y (.ins C dy [])) (upd (upd H2 dy (.own y)) y (.ins C dy [])) := (Gr.new i2 hd).trans (.new (Gr.new (μ := false) (o := .own y) i2 hd).i (by rw [upd_ne (Ne.symm hne)]; exact hy))
  refine ⟨_, _, W', g0.i, .cons (.raw _) (svs.mono (g0.s rfl)), hR, fun s v G3 H3 w g2 sv => ?_⟩
  obtain ⟨rfl, ch, w⟩ := hW G3 s w
  cases sv with
  | dat sv =>
    cases sv
    exact ⟨rfl, q _ _ G3 H3 w (g.trans (gr_made i2 hy hd hne g2 ch)) (.raw _)⟩
theorem exg_make0 (F : MkM X.prog X.w X.K X.mg X.base x C ps R k) (hr : Room (k + 1) X.A)
    (hR : ∀ G' y dy, Same G G' → G' y = none → G' dy = none → dy ≠ y → ∃ W', R (upd (upd G' dy (.own y)) y (.ins C dy [])) [.raw (.ref y)] W' ∧ ∀ G'' s, W' G'' s → s = .dat .none ∧ Ch (upd (upd G' dy (.own y)) y (.ins C dy [])) G'' y ∧ W G'' (.raw (.ref y))) (hg : Gl X x := by rfl) (hdb : (x == ("__debug__" : Str)) = false := by decide) : EXG X G A (.Call (.Name x p) [] [] pos) W := by
  obtain ⟨f, fd, M, hm, F, hb⟩ := F
  intro μ G0 H0 G1 H σ Q ab sm q
  refine RE.of (pe_make0 M F hr hg hm hb .nil pass0 hdb) (fun y dy hy hd hne => ?_)
  have i2 := ab.i
  have gy : G1 y = none := Same.none i2 hy
  have gd : G1 dy = none := Same.none i2 hd
  obtain ⟨W', hR, hW⟩ := hR G1 y dy sm gy gd hne
  have g0 : Gr false G1 H (upd (upd G1 dy (.own y)) y (.ins C dy [])) (upd (upd H dy (.own y)) y (.ins C dy [])) := (Gr.new i2 hd).trans (.new (Gr.new (μ := false) (o := .own y) i2 hd).i (by rw [upd_ne (Ne.symm hne)]; exact hy))
  refine ⟨_, _, W', g0.i, .cons (.raw _) .nil, hR, fun s v G3 H3 w g2 sv => ?_⟩
  obtain ⟨rfl, ch, w⟩ := hW G3 s w
  cases sv with
  | dat sv =>
    cases sv
    exact ⟨rfl, q _ _ G3 H3 w (gr_made i2 hy hd hne g2 ch) (.raw _)⟩
end
end Dl
namespace Dl
open PySem PySem.Spec PyProof.Rows L2
/-! ### dicts that are walked: locked meanwhile -/
section
variable {X : Cx} {Φ : Ph} {G : Hp} {A : List Sl} {e : Expr} {pos : Pos}
theorem ex_dict0 : EX X Φ A (.Dict [] [] pos) (.dic []) := exw_of pe_dnewK fun μ G0 H0 G1 H σ Q ab φ q => fun p hp => q _ _ (upd G1 p (.dK [])) _ rfl (.new ab.i hp) (.dic upd_same)
mutual
theorem Dq.monoL {G G' : Hp} (h1 : ∀ a xs, G a = some (.lst xs) → G' a = some (.lst xs)) (h2 : ∀ a xs, G a = some (.tup xs) → G' a = some (.tup xs)) : ∀ (d : D) (v : V), Dq G v d → Dq G' v d
  | .none, _, h => by cases h; exact .non
  | .bool b, _, h => by cases h; exact .bl b
  | .int i, _, h => by cases h; exact .int i
  | .str x, _, h => by cases h; exact .str x
  | .list ds, _, h => by
    cases h with
    | lst a b => exact .lst (h1 _ _ a) (DqAll.monoL h1 h2 ds _ b)
  | .tuple ds, _, h => by
    cases h with
    | tup a b => exact .tup (h2 _ _ a) (DqAll.monoL h1 h2 ds _ b)
  | .dict _, _, h => by cases h
theorem DqAll.monoL {G G' : Hp} (h1 : ∀ a xs, G a = some (.lst xs) → G' a = some (.lst xs)) (h2 : ∀ a xs, G a = some (.tup xs) → G' a = some (.tup xs)) : ∀ (ds : List D) (vs : List V), DqAll G vs ds → DqAll G' vs ds
  | [], _, h => by cases h; exact .nil
  | d :: ds, _, h => by
    cases h with
    | cons a b => exact .cons (Dq.monoL h1 h2 d _ a) (DqAll.monoL h1 h2 ds _ b)
end
def Sl.bare : Sl → Sl
  | .k (.dat d) => .k (.dat d)
  | .k (.raw v) => .k (.raw v)
  | _ => .un
abbrev bareA (A : List Sl) : List Sl := A.map Sl.bare
theorem lockL {G : Hp} {d : Addr} {u u' : HO} (h : G d = some u) (h1 : ∀ xs, u ≠ .lst xs) (h2 : ∀ xs, u ≠ .tup xs) : (∀ a xs, G a = some (.lst xs) → upd G d u' a = some (.lst xs)) ∧ ∀ a xs, G a = some (.tup xs) → upd G d u' a = some (.tup xs) := by
  refine ⟨fun a xs e => ?_, fun a xs e => ?_⟩
  · rw [upd_ne fun z => by rw [z, h] at e; exact h1 xs (Option.some.inj e)]
    exact e
  · rw [upd_ne fun z => by rw [z, h] at e; exact h2 xs (Option.some.inj e)]
    exact e
theorem same_lock {G H : Hp} {d : Addr} {u' : HO} (i : Same G H) : Same (upd G d u') (upd H d u') := fun b u e => by
  by_cases z : b = d
  · rw [z, upd_same] at e
    rw [z, upd_same]
    exact e
  · rw [upd_ne z] at e
    rw [upd_ne z]
    exact i b u e
theorem Ab.lock {μ ν : Bool} {K : PySem.W.Frag} {G0 H0 G1 H : Hp} {σ : L2.St} {d : Addr} {u u' : HO} (ab : Ab μ K G0 H0 G1 H A σ) (h : G1 d = some u) (h1 : ∀ xs, u ≠ .lst xs) (h2 : ∀ xs, u ≠ .tup xs) : Ab ν K (upd G1 d u') (upd H d u') (upd G1 d u') (upd H d u') (bareA A) σ := by
  obtain ⟨ad, a1, _⟩ := ab.ex
  obtain ⟨m1, m2⟩ := lockL (u' := u') h h1 h2
  refine ⟨.refl (same_lock ab.i), by rw [List.length_map]; exact ab.len, ad, fun i s e => ?_, fun i j s t e e' o o' => ?_⟩
  · rw [List.getElem?_map] at e
    cases q : A[i]? with
    | none => rw [q] at e; cases e
    | some t =>
      rw [q] at e
      have e : t.bare = s := Option.some.inj e
      subst e
      have := a1 i t q
      cases t with
      | un => trivial
      | lst _ => trivial
      | dct _ => trivial
      | k s =>
        obtain ⟨x, b1, b2⟩ := this
        cases s with
        | dat dd =>
          cases b2 with
          | dat b2 => exact ⟨x, b1, .dat (Dq.monoL m1 m2 _ _ b2)⟩
        | raw v =>
          cases b2
          exact ⟨_, b1, .raw _⟩
        | sq _ => trivial
        | dic _ => trivial
        | tup _ => trivial
  · rw [List.getElem?_map] at e
    cases q : A[i]? with
    | none => rw [q] at e; cases e
    | some t =>
      rw [q] at e
      have e : t.bare = s := Option.some.inj e
      subst e
      cases t with
      | k s => cases s <;> cases o
      | un => cases o
      | lst _ => cases o
      | dct _ => cases o
theorem gr_unlock {G1 H G' H' : Hp} {d : Addr} {u u' : HO} (i : Same G1 H) (h : G1 d = some u) (g : Gr false (upd G1 d u') (upd H d u') G' H') : Gr false G1 H (upd G' d u) (upd H' d u) := by
  have s : Same G1 (upd G' d u) := fun b ub e => by
    by_cases z : b = d
    · rw [z, upd_same, ← h, ← z]
      exact e
    · rw [upd_ne z]
      exact g.s rfl b ub (by rw [upd_ne z]; exact e)
  have k : Same H (upd H' d u) := fun b ub e => by
    by_cases z : b = d
    · rw [z, upd_same, ← i _ _ h, ← z]
      exact e
    · rw [upd_ne z]
      exact g.k rfl b ub (by rw [upd_ne z]; exact e)
  refine .mk' s k (same_lock g.i) fun b hb e => ?_
  have z : b ≠ d := fun z => by rw [z, h] at e; cases e
  rw [upd_ne z]
  exact g.n b (by rw [upd_ne z]; exact hb) (by rw [upd_ne z]; exact e)
/-- e, reckoned while the dict at d is locked -/
theorem ex_lock {d : Addr} {kvs : List (Key × V)} {dd : D} (hd : G d = some (.dK kvs)) (he : ∀ od G1, Same G G1 → EX X (phS (upd G1 d (.frz od (.dK kvs)))) (bareA A) e (.dat dd)) : EX X (phS G) A e (.dat dd) := by
  intro μ G0 H0 G1 H σ Q ab sm q
  have hd1 : G1 d = some (.dK kvs) := sm _ _ hd
  refine RE.of (pe_lock RE.pe) ⟨d, .dK kvs, ab.i _ _ hd1, trivial, fun od => ?_⟩
  refine he od G1 sm false _ _ _ _ σ _ (ab.lock hd1 (fun _ z => by cases z) (fun _ z => by cases z)) (.refl _) fun s v G' H' w g sv => ?_
  subst w
  have e1 : G' d = some (.frz od (.dK kvs)) := g.s rfl _ _ upd_same
  refine ⟨g.i _ _ e1, q _ _ (upd G' d (.dK kvs)) _ rfl (gr_unlock ab.i hd1 g) ?_⟩
  cases sv with
  | dat sv =>
    obtain ⟨m1, m2⟩ := lockL (u' := .dK kvs) e1 (fun _ z => by cases z) (fun _ z => by cases z)
    exact .dat (Dq.monoL m1 m2 _ _ sv)
/-- over a locked dict's keys, whole numbers -/
theorem ix_keys {tg : Expr} {d : Addr} {od : Obj} {kvs : List (Key × V)} {ns : List Int} (he : EX X (phS G) A e (.raw (.ref d))) (hd : G d = some (.frz od (.dK kvs))) (hk : kvs.map (·.1) = ns.map Sum.inl) : IX X (phS G) A tg e (· = ns.map fun n => di n) := fun μ G0 H0 G1 H σ R ab sm q =>
  RI.of (pi_keys RE.pe) (he μ G0 H0 G1 H σ _ ab sm fun s v G2 H2 w g sv => by
    subst w
    cases sv
    have e2 : G2 d = some (.frz od (.dK kvs)) := g.s rfl _ _ (sm _ _ hd)
    have hlen : kvs.length = ns.length := by
      have := congrArg List.length hk
      rw [List.length_map, List.length_map] at this
      exact this
    refine ⟨d, od, rfl, .inl ⟨kvs, g.i _ _ e2, q _ (Itk d od kvs) G2 H2 rfl g fun G3 H3 sd i3 => ?_⟩⟩
    have e3 : H3 d = some (.frz od (.dK kvs)) := i3 _ _ (sd d _ e2 (fun _ _ _ z => by cases z) fun _ z => by cases z)
    refine ⟨fun i hi => ⟨e3, ?_⟩, fun i hi => ⟨⟨e3, ?_⟩, fun x H4 y => ?_⟩⟩
    · rw [List.length_map] at hi
      rw [hlen]
      exact hi
    · rw [List.length_map] at hi
      rw [hlen]
      exact hi
    · obtain ⟨rfl, key, v, ek, rfl⟩ := y
      refine ⟨G3, .refl i3, fun s es => ?_⟩
      have e5 : (kvs.map (·.1))[i]? = some key := by rw [List.getElem?_map, ek]; rfl
      rw [hk, List.getElem?_map] at e5
      rw [List.getElem?_map] at es
      cases q : ns[i]? with
      | none => rw [q] at es; cases es
      | some n =>
        rw [q] at e5 es
        have e5 : Sum.inl n = key := Option.some.inj e5
        have es : di n = s := Option.some.inj es
        subst e5 es
        exact .dat (.int n))
/-- for .. in an empty dict -/
theorem sx_forD0 {μ : Bool} {P : PEnd} {d : Addr} {tg : Expr} {body : List Stmt} (hd : G d = some (.dK [])) (he : ∀ od G1, Same G G1 → EX X (phS (upd G1 d (.frz od (.dK [])))) (bareA A) e (.raw (.ref d))) (k : P.nx (phS G) A)
    (hp : PassesOwn (model X.prog X.w) X.A X.env X.xe := by exact PassesOwn.never) (hc : X.calm = true := by rfl) (hs : ∀ x, foldedSetIterable e X.env x = pure x := by intro _; rfl) : SX μ X (phS G) A (.For tg e body [] pos) P :=
  sx_of (ps_lock (ps_for hp hc (pi_keys RE.pe) RG.pg RSs.pss hs)) fun G0 H0 G1 H σ De ab sm m => by
    have hd1 : G1 d = some (.dK []) := sm _ _ hd
    refine ⟨d, .dK [], ab.i _ _ hd1, trivial, fun od => ?_⟩
    refine he od G1 sm false _ _ _ _ σ _ (ab.lock hd1 (fun _ z => by cases z) (fun _ z => by cases z)) (.refl _) fun s v G' H' w g sv => ?_
    subst w
    cases sv
    have e1 : G' d = some (.frz od (.dK [])) := g.s rfl _ _ upd_same
    have e2 := g.i _ _ e1
    refine ⟨d, od, rfl, .inl ⟨[], e2, fun i n σ' H2 => σ' = σ ∧ H2 = H' ∧ i = 0, ⟨0, rfl, rfl, rfl⟩, fun i n σ' H2 ⟨h1, h2, h3⟩ => ?_⟩⟩
    subst h1 h2 h3
    refine .inl ⟨⟨e2, Nat.zero_le _⟩, e2, ?_⟩
    have gu := gr_unlock ab.i hd1 g
    exact m.nx (phS G) A σ' _ _ k (sm.trans (gu.s rfl)) gu.d (ab.step gu)
end
end Dl
namespace Dl
open PySem PySem.Spec PyProof.Rows L2
section
variable {X : Cx} {G : Hp} {A : List Sl} {P : PEnd} {e o b : Expr} {pos : Pos} {W : Hp → Ds → Prop} {Wd : Ds → Prop} {f : Str} {C r dx d : Addr} {fs : List (Str × V)} {kvs : List (Key × V)} {dk : D} {key : Key}
theorem EXW.g (h : EXW X (phS G) A e Wd) : EXG X G A e (fun _ s => Wd s) := fun μ G0 H0 G1 H σ Q ab sm q => h μ G0 H0 G1 H σ Q ab sm fun s v G' H' w g sv => q s v G' H' w g sv
theorem exg_dict0 : EXG X G A (.Dict [] [] pos) (fun G' s => ∃ d, s = .raw (.ref d) ∧ G d = none ∧ G' d = some (.dK [])) := fun μ G0 H0 G1 H σ Q ab sm q =>
  RE.of pe_dnewK fun p hp => q _ _ (upd G1 p (.dK [])) _ ⟨p, rfl, Same.none sm (Same.none ab.i hp), upd_same⟩ (.new ab.i hp) (.raw _)
/-- o.f = e, e may be a new object -/
theorem sx_fsetG {fpos : Pos} (hc : Cls X.K C) (hn : NoAttr X.K C f) (he : EXG X G A e W) (ho : EX X (phS G) A o (.raw (.ref r))) (hi : G r = some (.ins C dx fs)) (hz : fs.length < 1000)
    (k : ∀ G2 G' s v, W G2 s → Same G G2 → Sv X.K G2 v s → Ch G2 G' r → G' r = some (.ins C dx (putF f v fs)) → P.nx (phS G') (kpA A)) (hs : swapsWith e (some (.Attribute o f fpos)) pos.line X.env = pure false := by rfl) :
    SX true X (phS G) A (.Assign [.Attribute o f fpos] e pos) P :=
  sx_of (ps_fld RE.pe RE.pe hs) fun G0 H0 G1 H σ De ab φ m => he true G0 H0 G1 H σ _ ab φ fun s v G2 H2 w g sv => by
    have ab1 := ab.step g
    have s2 : Same G G2 := Same.trans φ (g.s rfl)
    refine ho true G0 H0 G2 H2 σ _ ab1 s2 fun t u G3 H3 w2 g2 su => ?_
    subst w2
    cases su
    have e2 := s2 _ _ hi
    have e3 := g2.s rfl _ _ e2
    refine ⟨r, C, dx, fs, rfl, g2.i _ _ e3, hc, hn, hz, ?_⟩
    have gw := gr_write (u' := .ins C dx (putF f v fs)) g2.i e3 (.inl ⟨_, _, _, rfl⟩)
    refine m.nx (phS _) (kpA A) σ _ _ (k G2 _ s v w s2 sv ?_ upd_same) (.refl _) ((g.trans g2).d.trans gw.d) ((ab1.step g2).stepM gw)
    intro x ub hb eb
    rw [upd_ne hb]
    exact g2.s rfl _ _ eb
/-- o[b] = e, the dict told by its address -/
theorem sx_dset {tpos : Pos} (hu : X.A.units + 1 < cLine) (he : EXG X G A e W) (ho : EX X (phS G) A o (.raw (.ref d))) (hb : EX X (phS G) A b (.dat dk)) (hk : keyD dk = some key) (hd : G d = some (.dK kvs)) (hz : kvs.length < 1000)
    (k : ∀ G2 G' s v, W G2 s → Same G G2 → Sv X.K G2 v s → Ch G2 G' d → G' d = some (.dK (putK kvs key v)) → P.nx (phS G') (kpA A)) (hs : swapsWith e (some (.Subscript o b tpos)) pos.line X.env = pure false := by rfl) :
    SX true X (phS G) A (.Assign [.Subscript o b tpos] e pos) P :=
  sx_of (ps_dput hu RE.pe RE.pe RE.pe hs) fun G0 H0 G1 H σ De ab φ m => he true G0 H0 G1 H σ _ ab φ fun s v G2 H2 w g sv => by
    have ab1 := ab.step g
    have s2 : Same G G2 := Same.trans φ (g.s rfl)
    refine ho true G0 H0 G2 H2 σ _ ab1 s2 fun t u G3 H3 w2 g2 su => ?_
    subst w2
    cases su
    have s3 : Same G G3 := s2.trans (g2.s rfl)
    refine hb true G0 H0 G3 H3 σ _ (ab1.step g2) s3 fun t u G4 H4 w3 g3 sk => ?_
    subst w3
    cases sk with
    | dat sk =>
      obtain ⟨ek, sc⟩ := keyD_v hk
      have ey := sk.sc sc
      subst ey
      rw [ek]
      have e2 := s2 _ _ hd
      have e4 := g3.s rfl _ _ (g2.s rfl _ _ e2)
      have gw := gr_write (u' := .dK (putK kvs key v)) g3.i e4 (.inr ⟨_, rfl⟩)
      refine ⟨d, _, rfl, .k (g3.i _ _ e4) (Nat.lt_of_lt_of_le hz (by decide)), ?_⟩
      refine m.nx (phS _) (kpA A) σ _ _ (k G2 _ s v w s2 sv ?_ upd_same) (.refl _) (((g.trans g2).trans g3).d.trans gw.d) (((ab1.step g2).step g3).stepM gw)
      intro x ub hx eb
      rw [upd_ne hx]
      exact g3.s rfl _ _ (g2.s rfl _ _ eb)
end
end Dl
namespace Dl
open PySem PySem.Spec PyProof.Rows L2
section
variable {X : Cx} {Φ : Ph} {G : Hp} {A : List Sl} {k e : Expr} {pos : Pos} {dk : D} {key : Key} {v : V}
/-- {k: e}, the value told as it is -/
theorem ex_dict1 (hk : EX X Φ A k (.dat dk)) (he : EX X Φ A e (.raw v)) (hkey : keyD dk = some key) : EX X Φ A (.Dict [some k] [e] pos) (.dic [(key, v)]) :=
  exw_of (pe_disp (pps_cons RE.pe RE.pe pps_nil) rfl rfl (by simp) (Nat.le_of_ble_eq_true rfl)) fun μ G0 H0 G1 H σ Q ab φ q => fun p hp => by
    have gp : G1 p = none := Same.none ab.i hp
    have g1 : Gr false G1 H G1 (upd H p (.dK [])) := .mk' (.refl _) (same_upd hp) (ab.i.trans (same_upd hp)) fun _ _ z => z
    refine hk μ G0 H0 G1 _ σ _ (ab.step g1) φ fun s u G2 H2 w g2 sv => ?_
    subst w
    refine he μ G0 H0 G2 H2 σ _ ((ab.step g1).step g2) (Φ.st _ _ (g2.s rfl) φ) fun s u2 G3 H3 w g3 sv2 => ?_
    subst w
    cases sv2
    cases sv with
    | dat sv =>
      obtain ⟨ek, sc⟩ := keyD_v hkey
      have ey := sv.sc sc
      subst ey
      have g23 := g2.trans g3
      have h3 : H3 p = some (.dK []) := g23.f p _ upd_same gp
      have n3 : G3 p = none := g23.n p (by rw [upd_same]; intro z; cases z) gp
      refine ⟨h3, [(key, v)], by rw [ek]; rfl, Nat.le_of_ble_eq_true rfl, ?_⟩
      have s13 : Same G1 G3 := g23.s rfl
      refine q _ _ (upd G3 p (.dK [(key, v)])) _ rfl (.mk' (s13.trans (same_upd n3)) (fun b u e => ?_) (fun b u e => ?_) fun b hb e => ?_) (.dic upd_same)
      · have hb : b ≠ p := ne_of_none e hp
        show upd H3 p _ b = some u
        rw [upd_ne hb]
        exact g23.k rfl b u (by rw [upd_ne hb]; exact e)
      · by_cases z : b = p
        · rw [z, upd_same] at e
          show upd H3 p _ b = some u
          rw [z, upd_same]
          exact e
        · rw [upd_ne z] at e
          show upd H3 p _ b = some u
          rw [upd_ne z]
          exact g3.i b u e
      · have z : b ≠ p := fun z => hb (by rw [z]; exact hp)
        rw [upd_ne z]
        exact g23.n b (by rw [upd_ne z]; exact hb) e
/-- d[k], the value told -/
theorem ex_dgetW {a b : Expr} {kvs : List (Key × V)} {s : Ds} (hb : EX X (phS G) A b (.dic kvs)) (ha : EX X (phS G) A a (.dat dk)) (hk : keyD dk = some key) (hv : valV kvs key = some v) (sv : Sv X.K G v s) (hu : X.A.units + 1 < cLine) (hp : NoSl a := by intro _ _; rfl) : EX X (phS G) A (.Subscript b a pos) s :=
  exw_of (pe_dget hu RE.pe RE.pe hp) fun μ G0 H0 G1 H σ Q ab φ q => hb μ G0 H0 G1 H σ _ ab φ fun t y G2 H2 w g sy => by
    subst w
    refine ha μ G0 H0 G2 H2 σ _ (ab.step g) ((phS G).st _ _ (g.s rfl) φ) fun t u G3 H3 w g2 su => ?_
    subst w
    cases su with
    | dat su => cases sy with
      | dic e1 =>
        obtain ⟨ek, sk⟩ := keyD_v hk
        have ey := su.sc sk
        subst ey
        rw [ek]
        have sm3 : Same G G3 := Same.trans φ ((g.s rfl).trans (g2.s rfl))
        exact ⟨_, v, rfl, .inl ⟨kvs, key, .inl (g2.i _ _ (g2.s rfl _ _ e1)), rfl, hv.symm⟩, q _ _ G3 H3 rfl (g.trans g2) (sv.mono sm3)⟩
end
end Dl
namespace Dl
open PySem PySem.Spec PyProof.Rows L2
/-! ### lists of objects and data -/
theorem same_ch {G G1 G2 : Hp} {r : Addr} (s : Same G G1) (c : Ch G1 G2 r) (h : G r = none) : Same G G2 := fun b u e => c b u (ne_of_none e h) (s b u e)
section
variable {X : Cx} {G : Hp} {A : List Sl} {P : PEnd} {e a b : Expr} {es : List Expr} {pos : Pos} {W : Hp → Ds → Prop} {Wd : Ds → Prop} {ss : List Ds} {v : V} {d : D} {l : Addr} {vs : List V} {s : Ds} {μ : Bool} {i : Int}
theorem ex_dq (h : EX X (phS G) A e (.raw v)) (hd : Dq G v d) : EX X (phS G) A e (.dat d) := fun μ G0 H0 G1 H σ Q ab sm q => h μ G0 H0 G1 H σ _ ab sm fun t u G2 H2 w g sv => by
  subst w
  cases sv
  exact q _ _ G2 H2 rfl g (.dat (hd.mono (Same.trans sm (g.s rfl))))
theorem exg_raw (h : EXW X (phS G) A e Wd) (hw : ∀ s, Wd s → s = .dat d) : EXG X G A e (fun G' s => ∃ v, s = .raw v ∧ Dq G' v d) := fun μ G0 H0 G1 H σ Q ab sm q => h μ G0 H0 G1 H σ _ ab sm fun t u G2 H2 w g sv => by
  have w := hw t w
  subst w
  cases sv with
  | dat sv => exact q _ u G2 H2 ⟨u, rfl, sv⟩ g (.raw _)
theorem exg_lstR (h : EA X (phS G) A es ss) (hz : ss.length ≤ 1000) : EXG X G A (.List es pos) (fun G' s => ∃ l vs, s = .raw (.ref l) ∧ G' l = some (.lst vs) ∧ SvAll X.K G' vs ss) := fun μ G0 H0 G1 H σ Q ab sm q =>
  RE.of (pe_lst RA.pa) (h μ G0 H0 G1 H σ _ ab sm fun vs G2 H2 g svs => ⟨Nat.le_trans (by rw [svs.length]; exact hz) (by decide), fun p hp =>
    q _ _ (upd G2 p (.lst vs)) _ ⟨p, vs, rfl, upd_same, svs.mono (same_upd (Same.none g.i hp))⟩ (g.trans (.new g.i hp)) (.raw _)⟩)
theorem ex_ixR (ha : EX X (phS G) A a (.raw (.ref l))) (hb : EX X (phS G) A b (di i)) (hl : G l = some (.lst vs)) (hv : atI vs i = some v) (sv : Sv X.K G v s) (hp : PlainIx b := by intro _ _; rfl) : EX X (phS G) A (.Subscript a b pos) s :=
  exw_of (pe_ix ix_seq RE.pe RE.pe hp) fun μ G0 H0 G1 H σ Q ab sm q => ha μ G0 H0 G1 H σ _ ab sm fun t x G2 H2 w g1 sv1 => by
    subst w
    cases sv1
    refine hb μ G0 H0 G2 H2 σ _ (ab.step g1) ((phS G).st _ _ (g1.s rfl) sm) fun t y G3 H3 w g2 sv2 => ?_
    subst w
    cases sv2 with
    | dat sv2 =>
      cases sv2
      have s3 : Same G G3 := Same.trans sm ((g1.s rfl).trans (g2.s rfl))
      exact .inl ⟨_, _, i, v, rfl, rfl, .of (g2.i _ _ (s3 _ _ hl)), hv, q _ _ G3 H3 rfl (g1.trans g2) (sv.mono s3)⟩
theorem sx_unpR {kk : Nat} {tpos : Pos} (he : EXG X G A e W) (k : ∀ G' s, W G' s → Same G G' → ∃ l vs ss A', s = .raw (.ref l) ∧ G' l = some (.lst vs) ∧ SvAll X.K G' vs ss ∧ (assignEach es X.env).length = ss.length ∧ TXs X es ss A A' ∧ P.nx (phS G') A') (hc : X.calm = true := by rfl) (hst : (assignEach es X.env).findIdx? (·.1) = none := by rfl)
    (hs : swapsWithSole [.Tuple es kk tpos] e pos.line X.env = pure false := by rfl) (hw : swappedStores [.Tuple es kk tpos] e X.env = pure none := by rfl) (h1 : (assignEach [.Tuple es kk tpos] X.env).map (·.2) = [assign (.Tuple es kk tpos) X.env] := by rfl) :
    SX μ X (phS G) A (.Assign [.Tuple es kk tpos] e pos) P := sx_of (ps_asg RE.pe RG.pg hs hw h1) fun G0 H0 G1 H σ De ab φ m => he μ G0 H0 G1 H σ _ ab φ fun s v G' H' w g sv => by
  obtain ⟨l, vs, ss, A', rfl, hl, svs, hn, tx, q⟩ := k G' s w (Same.trans φ (g.s rfl))
  cases sv
  have hn2 : (assignEach es X.env).length = vs.length := hn.trans svs.length.symm
  exact RG.of (pg_lst hc RGs.pg rfl hst) ⟨l, vs, rfl, .of (g.i _ _ hl), hn2.symm, tx μ G0 H0 G' H' σ _ _ (ab.step g) svs fun σ' ab' => m.nx (phS G') A' σ' G' H' q (.refl _) g.d ab'⟩
theorem sx_retG (he : EXG X G (fzA A) e W) (k : ∀ G' s, W G' s → Same G G' → P.rt (phS G') s) : SX μ X (phS G) A (.Return (some e) pos) P :=
  sx_of (ps_ret RE.pe) fun G0 H0 G1 H σ De ab φ m => by
    obtain ⟨G2, ab1, sm⟩ := ab.fz
    exact he μ G0 H0 G2 H σ _ ab1 (Same.trans φ sm) fun s v G' H' w g sv => m.rt (phS G') s v G' H' (k G' s w (Same.trans φ (sm.trans (g.s rfl)))) (.refl _) (ab1.gr.trans g.any) sv
variable {Φ : Ph} {We Wz : Ds → Prop} {x : Str} {p : Pos}
/-- f(e, ..), e known by what holds of it -/
theorem exw_callW {ps : List Str} {R : PSpec} {k : Nat} (F : Fn X.prog X.w X.K X.mg X.base x ps R k) (hr : Room k X.A) (he : EXW X Φ A e We) (ha : EA X Φ A es ss) (hR : ∀ G s, Φ.p G → We s → ∃ W', R G (s :: ss) W' ∧ ∀ t, W' t → Wz t) (hg : Gl X x := by rfl) (hdb : (x == ("__debug__" : Str)) = false := by decide)
    (hs : starEach (e :: es) X.env = (false, eval e X.env) :: starEach es X.env := by rfl) (hpl : (backTo pos (starEach es X.env)).any (·.1) = false := by rfl) : EXW X Φ A (.Call (.Name x p) (e :: es) [] pos) Wz := by
  obtain ⟨f, fd, hm, F, hk, hb⟩ := F
  refine exw_of (pe_call F hr hg hm hk hb .nil pass0 RA.pa hdb hs hpl) fun μ G0 H0 G H σ Q ab φ q => RA.of (pa_cons RE.pe RA.pa hs) (he μ G0 H0 G H σ _ ab φ fun s v G1 H1 w g1 sv => ?_)
  refine ha μ G0 H0 G1 H1 σ _ (ab.step g1) (Φ.st _ _ (g1.s rfl) φ) fun vs G2 H2 g2 svs => ?_
  obtain ⟨W', hR, hW⟩ := hR G2 s (Φ.st _ _ (g2.s rfl) (Φ.st _ _ (g1.s rfl) φ)) w
  rw [List.append_nil]
  exact ⟨G2, _, W', g2.i, .cons (sv.mono (g2.s rfl)) svs, hR, fun t u G3 H3 w3 g3 => q t u G3 H3 (hW t w3) ((g1.trans g2).trans g3)⟩
end
end Dl
namespace Dl
open PySem PySem.Spec PyProof.Rows L2
/-! ### sorted of one at most -/
section
variable {X : Cx} {Φ : Ph} {A : List Sl} {a : Expr} {pos p : Pos} {xs : List D}
theorem perm_one {α : Type} : ∀ {l m : List α}, m.length ≤ 1 → l.Perm m → l = m
  | _, [], _, p => List.perm_nil.mp p
  | _, [_], _, p => List.perm_singleton.mp p
  | _, _ :: _ :: _, h, _ => absurd h (by simp)
def rSorted1 (K : PySem.W.Frag) : List V → Hp → VK → Prop := fun vs H Q => ∃ (l : Addr) (ys : List V), vs = [V.ref l] ∧ SqL K H l ys ∧ ys.length ≤ 1 ∧ ∀ q : Addr, H q = none → Q (.ref q) (upd H q (.lst ys))
theorem cr_sorted1 : CallR X (.builtin "sorted") (rSorted1 X.K) := by
  intro pins s σ H vs us Q I r h
  obtain ⟨l, ys, rfl, hs, h1, q⟩ := h
  obtain ⟨its, rv, hl, hz⟩ := I.list hs
  rw [Vals.ref1 r]
  have hi1 : its.length ≤ 1 := by rw [← rv.length]; exact h1
  have hz2 : its.length ≤ sizeLine := by rw [← rv.length]; exact hz
  have no : 2 ≤ its.length → False := fun h2 => by omega
  refine SrtO.sorted_ord SrtO.swo_int hl.isList hz2 (fun h2 => (no h2).elim) fun out o1 o2 => ?_
  have e : out = its := perm_one hi1 o2.perm
  subst e
  obtain ⟨ep, he'⟩ := PyProof.Rows.sortedAll_at s.heap out out.toArray
  exact ⟨.ref _, upd H (s.heap.objs.size + 1) (.lst ys), I.laid (t' := s.toks) (fun _ _ => PyProof.Rows.sortedAll_old) (Nat.le_succ _) ⟨hz, out, ep, rv, he'⟩, rfl, q _ (I.hok.fresh (Nat.le_succ _))⟩
theorem ex_sorted1 (hm : X.mg "sorted" = none) (ha : EX X Φ A a (.dat (.list xs))) (h1 : xs.length ≤ 1) (hg : Gl X "sorted" := by rfl) (he : starEach [a] X.env = (false, eval a X.env) :: starEach [] X.env := by rfl) :
    EX X Φ A (.Call (.Name "sorted" p) [a] [] pos) (.dat (.list xs)) :=
  exw_callB cr_sorted1 hm (by decide +kernel) (ea_cons ha ea_nil he) (hg := hg) (he := he) fun vs G H Q sm svs q => by
    obtain ⟨v, rfl, sv⟩ := svs.one
    cases sv with
    | dat sv => cases sv with
      | lst e1 e2 => exact ⟨_, _, rfl, .of (sm _ _ e1), by rw [e2.length]; exact h1, fun p hp => q _ _ (upd G p (.lst _)) _ rfl (.new sm hp) (.dat (.lst upd_same (e2.mono (same_upd (Same.none sm hp)))))⟩
end
/-! ### rules of the staff; no links -/
structure Rule where
  b : Int
  a : Str
  w : Bool
abbrev wordW (w : Bool) : Str := if w = true then "may" else "not"
def encB (q : Rule) : D := .tuple [.int q.b, .str q.a, .str (wordW q.w)]
abbrev bkD (bk : List Rule) : D := .list (bk.map encB)
def aboutF (bk : List Rule) (b : Int) (a : Str) : List Rule := bk.filter fun q => decide (q.a = a) && decide (q.b = b)
def encBW (q : Rule) : D := .tuple [.int q.b, .str (wordW q.w)]
def allowF (bk : List Rule) (b : Int) (a : Str) : Bool := match aboutF bk b a with
  | [q] => q.w
  | _ => false
section
variable {P : Program} {w : World} {K : PySem.W.Frag} {mg : Str → Option Value} {base : Heap}
abbrev s_next_above : Stmt := topS 69
abbrev N_next_above : List Str := ["links", "holder", "link"]
theorem sc_next_above : FnScope N_next_above ["links", "holder"] (defScope s_next_above) := ⟨rfl, rfl, rfl, by decide +kernel, rfl, by decide +kernel, by decide +kernel⟩
theorem hb_next_above (kV doc pm : Value) (an : Option Addr) (cdv ct : Value) (us : List Value) (hl : us.length = 2) : bindArgs (PySem.W.fnOf "next_above" "next_above" (defArgs s_next_above) (defBody s_next_above) (defScope s_next_above) .none kV doc pm an cdv ct) ⟨us, []⟩ = pure ((["links", "holder"] : List Str).zip us) := match us, hl with
  | [_, _], _ => rfl
def R_next_above : PSpec := fun _ ss W => ∃ (b : Int), ss = [.dat (.list []), di b] ∧ W = (· = .dat (.list []))
theorem ok_next_above (B : Bt mg) (Dd : DefAt K mg "next_above" s_next_above) : Fn P w K mg base "next_above" ["links", "holder"] R_next_above 1 := by
  refine fn_mk Dd sc_next_above (fun G ss W ⟨_, e, _⟩ => by rw [e]; rfl) hb_next_above fun f cdv A outer s H hr G ss W h => ?_
  obtain ⟨b, rfl, rfl⟩ := h
  have nd := (sc_next_above).nd
  exact sxs_one (sx_ret (ex_lc 2 (ys := ([] : List D)) (ι := fun d => .dat d) (fun _ => true) (fun d => d) (ix_lst1 (ex_var 0 rfl)) (Nat.zero_le _) (blkOk_by (N := N_next_above) (sc := defScope s_next_above) (by decide +kernel)) (fun y hy => nomatch hy) (fun y hy => nomatch hy) (fun s H C cl fp => pg_name nd rfl (Or.inl rfl)) nd) fun s w => w)
abbrev s_reached : Stmt := topS 70
abbrev N_reached : List Str := ["links", "holder", "found", "at", "here", "post"]
theorem sc_reached : FnScope N_reached ["links", "holder"] (defScope s_reached) := ⟨rfl, rfl, rfl, by decide +kernel, rfl, by decide +kernel, by decide +kernel⟩
theorem hb_reached (kV doc pm : Value) (an : Option Addr) (cdv ct : Value) (us : List Value) (hl : us.length = 2) : bindArgs (PySem.W.fnOf "reached" "reached" (defArgs s_reached) (defBody s_reached) (defScope s_reached) .none kV doc pm an cdv ct) ⟨us, []⟩ = pure ((["links", "holder"] : List Str).zip us) := match us, hl with
  | [_, _], _ => rfl
def R_reached : PSpec := R_next_above
theorem ok_reached (B : Bt mg) (Dd : DefAt K mg "reached" s_reached) (F_next_above : Fn P w K mg base "next_above" ["links", "holder"] R_next_above 1) : Fn P w K mg base "reached" ["links", "holder"] R_reached 2 := by
  refine fn_mk Dd sc_reached (fun G ss W ⟨_, e, _⟩ => by rw [e]; rfl) hb_reached fun f cdv A outer s H hr G ss W h => ?_
  obtain ⟨b, rfl, rfl⟩ := h
  have nd := (sc_reached).nd
  refine sxs_cons (sx_asg 2 (W := (· = .dat (.list []))) (ex_call F_next_above hr (ea_cons (ex_var 0 rfl) (ea_cons (ex_var 1 rfl) ea_nil)) (fun G _ => ⟨b, rfl, rfl⟩)) (fun s w => ?_) nd)
  subst w
  refine sxs_cons (sx_asg 3 ex_int (fun s w => ?_) nd)
  subst w
  refine sxs_cons (sx_while (fun m Ψ B => Ψ = phS G ∧ B = [.d (.list []), .k (di b), .d (.list []), .k (di 0), .un, .un]) ⟨0, rfl, rfl⟩ fun m Ψ B iv => ?_)
  obtain ⟨rfl, rfl⟩ := iv
  refine ⟨false, (EB.cast (eb_lt (ex_var 3 rfl) (ex_len B.len (ex_var 2 rfl) (.lst _))) (by rfl)).t, nofun, fun _ => ?_⟩
  exact sxs_one (sx_ret (ex_var 2 rfl) fun s w => w)
abbrev s_concerning : Stmt := topS 73
abbrev N_concerning : List Str := ["links", "rules", "badge", "act", "posts", "one"]
theorem sc_concerning : FnScope N_concerning ["links", "rules", "badge", "act"] (defScope s_concerning) := ⟨rfl, rfl, rfl, by decide +kernel, rfl, by decide +kernel, by decide +kernel⟩
theorem hb_concerning (kV doc pm : Value) (an : Option Addr) (cdv ct : Value) (us : List Value) (hl : us.length = 4) : bindArgs (PySem.W.fnOf "concerning" "concerning" (defArgs s_concerning) (defBody s_concerning) (defScope s_concerning) .none kV doc pm an cdv ct) ⟨us, []⟩ = pure ((["links", "rules", "badge", "act"] : List Str).zip us) := match us, hl with
  | [_, _, _, _], _ => rfl
def R_concerning : PSpec := fun _ ss W => ∃ (bk : List Rule) (b : Int) (a : Str), ss = [.dat (.list []), .dat (bkD bk), di b, ds a] ∧ bk.length ≤ 1000 ∧ W = (· = .dat (bkD (aboutF bk b a)))
theorem ok_concerning (B : Bt mg) (Dd : DefAt K mg "concerning" s_concerning) (F_reached : Fn P w K mg base "reached" ["links", "holder"] R_reached 2) : Fn P w K mg base "concerning" ["links", "rules", "badge", "act"] R_concerning 3 := by
  refine fn_mk Dd sc_concerning (fun G ss W ⟨_, _, _, e, _⟩ => by rw [e]; rfl) hb_concerning fun f cdv A outer s H hr G ss W h => ?_
  obtain ⟨bk, b, a, rfl, hz, rfl⟩ := h
  have nd := (sc_concerning).nd
  have hu := hu_of2 hr
  refine sxs_cons (sx_asg 4 (W := (· = .dat (lsD []))) (ex_call F_reached hr (ea_cons (ex_var 0 rfl) (ea_cons (ex_var 2 rfl) ea_nil)) (fun G _ => ⟨b, rfl, rfl⟩)) (fun s w => ?_) nd)
  subst w
  refine sxs_one (sx_ret (ex_lc 5 (ys := bk) (ι := fun q => .dat (encB q)) (fun q : Rule => decide (q.a = a) && decide (q.b = b)) encB (ix_lstM (ex_var 1 rfl)) (by omega) (blkOk_by (N := N_concerning) (sc := defScope s_concerning) (by decide +kernel))
    (fun y hy s H C cl fp => (EB.cast (eb_bop (ew_and (eb_eqS (ex_ixT (ex_var 5 rfl) ex_int rfl) (ex_var 3 rfl)) fun hc => ew_and1 (eb_bop (ew_or (eb_eqI (ex_ixT (ex_var 5 rfl) ex_int rfl) (ex_var 2 rfl)) fun hc => ew_or1 (eb_in (xs := []) (ex_ixT (ex_var 5 rfl) ex_int rfl) (ex_var 4 rfl) hu (sh_int (n := 0) _).ok (by decide +kernel)))))) (by
      show (_ && (_ || false)) = _
      rw [Bool.or_false])).t)
    (fun y hy hq s H C cl fp => ex_var 5 rfl) (fun s H C cl fp => pg_name nd rfl (Or.inl rfl)) nd) fun s w => w)
abbrev s_behind_others : Stmt := topS 74
abbrev N_behind_others : List Str := ["links", "some", "found", "one", "post"]
theorem sc_behind_others : FnScope N_behind_others ["links", "some"] (defScope s_behind_others) := ⟨rfl, rfl, rfl, by decide +kernel, rfl, by decide +kernel, by decide +kernel⟩
theorem hb_behind_others (kV doc pm : Value) (an : Option Addr) (cdv ct : Value) (us : List Value) (hl : us.length = 2) : bindArgs (PySem.W.fnOf "behind_others" "behind_others" (defArgs s_behind_others) (defBody s_behind_others) (defScope s_behind_others) .none kV doc pm an cdv ct) ⟨us, []⟩ = pure ((["links", "some"] : List Str).zip us) := match us, hl with
  | [_, _], _ => rfl
def R_behind_others : PSpec := fun _ ss W => ∃ (bk : List Rule), ss = [.dat (.list []), .dat (bkD bk)] ∧ W = (· = .dic [])
theorem ok_behind_others (B : Bt mg) (Dd : DefAt K mg "behind_others" s_behind_others) (F_reached : Fn P w K mg base "reached" ["links", "holder"] R_reached 2) : Fn P w K mg base "behind_others" ["links", "some"] R_behind_others 3 := by
  refine fn_mk Dd sc_behind_others (fun G ss W ⟨_, e, _⟩ => by rw [e]; rfl) hb_behind_others fun f cdv A outer s H hr G ss W h => ?_
  obtain ⟨bk, rfl, rfl⟩ := h
  have nd := (sc_behind_others).nd
  refine sxs_cons (sx_dict 2 ?_ nd)
  refine sxs_cons (sx_forT (ix_lstM (ex_var 1 rfl)) (fun i Ψ B => Ψ = phS G ∧ ∃ u v, B = [.d (.list []), .d (bkD bk), .dct [], u, v]) ⟨rfl, .un, .un, rfl⟩ (fun i y Ψ B e iv => ?_) fun Ψ B iv => ?_)
  · obtain ⟨rfl, u, v, rfl⟩ := iv
    refine ⟨_, tx_name 3 nd, ?_⟩
    refine sxs_one (sx_forT (ys := ([] : List D)) (ι := fun d => .dat d) (ix_lst1 (ex_call F_reached hr (ea_cons (ex_var 0 rfl) (ea_cons (ex_ixT (ex_var 3 rfl) ex_int rfl) ea_nil)) (W := (· = .dat (.list []))) fun G _ => ⟨y.b, rfl, rfl⟩)) (fun j Ψ B => Ψ = phS G ∧ B = [.d (.list []), .d (bkD bk), .dct [], .d (encB y), v]) ⟨rfl, rfl⟩ (fun i y Ψ B e iv => by simp at e) fun Ψ B iv => ?_)
    obtain ⟨rfl, rfl⟩ := iv
    exact ⟨rfl, .d (encB y), v, rfl⟩
  · obtain ⟨rfl, u, v, rfl⟩ := iv
    exact sxs_one (sx_ret (ex_var 2 rfl) fun s w => w)
abbrev s_nearest : Stmt := topS 75
abbrev N_nearest : List Str := ["links", "rules", "badge", "act", "some", "farther", "one"]
theorem sc_nearest : FnScope N_nearest ["links", "rules", "badge", "act"] (defScope s_nearest) := ⟨rfl, rfl, rfl, by decide +kernel, rfl, by decide +kernel, by decide +kernel⟩
theorem hb_nearest (kV doc pm : Value) (an : Option Addr) (cdv ct : Value) (us : List Value) (hl : us.length = 4) : bindArgs (PySem.W.fnOf "nearest" "nearest" (defArgs s_nearest) (defBody s_nearest) (defScope s_nearest) .none kV doc pm an cdv ct) ⟨us, []⟩ = pure ((["links", "rules", "badge", "act"] : List Str).zip us) := match us, hl with
  | [_, _, _, _], _ => rfl
def R_nearest : PSpec := fun _ ss W => ∃ (bk : List Rule) (b : Int) (a : Str), ss = [.dat (.list []), .dat (bkD bk), di b, ds a] ∧ bk.length ≤ 1000 ∧ (aboutF bk b a).length ≤ 1 ∧ W = (· = .dat (.list ((aboutF bk b a).map encBW)))
theorem ok_nearest (B : Bt mg) (Dd : DefAt K mg "nearest" s_nearest) (F_concerning : Fn P w K mg base "concerning" ["links", "rules", "badge", "act"] R_concerning 3) (F_behind_others : Fn P w K mg base "behind_others" ["links", "some"] R_behind_others 3) :
    Fn P w K mg base "nearest" ["links", "rules", "badge", "act"] R_nearest 4 := by
  refine fn_mk Dd sc_nearest (fun G ss W ⟨_, _, _, e, _⟩ => by rw [e]; rfl) hb_nearest fun f cdv A outer s H hr G ss W h => ?_
  obtain ⟨bk, b, a, rfl, hz, h1, rfl⟩ := h
  have nd := (sc_nearest).nd
  have hu1 := hu_of1 hr
  have hlt : ∀ q : Rule → Bool, ((aboutF bk b a).filter q).length ≤ 1 := fun q => Nat.le_trans (List.length_filter_le _ _) h1
  refine sxs_cons (sx_asg 4 (W := (· = .dat (bkD (aboutF bk b a)))) (ex_call F_concerning hr (ea_cons (ex_var 0 rfl) (ea_cons (ex_var 1 rfl) (ea_cons (ex_var 2 rfl) (ea_cons (ex_var 3 rfl) ea_nil)))) (fun G _ => ⟨bk, b, a, rfl, hz, rfl⟩)) (fun s w => ?_) nd)
  subst w
  refine sxs_cons (sx_asg 5 (W := (· = .dic [])) (ex_call F_behind_others hr (ea_cons (ex_var 0 rfl) (ea_cons (ex_var 4 rfl) ea_nil)) (fun G _ => ⟨_, rfl, rfl⟩)) (fun s w => ?_) nd)
  subst w
  refine sxs_one (sx_ret (ex_sorted1 B.sorted (ex_lc 6 (fun _ : Rule => true) encBW (ix_lstM (ex_var 4 rfl)) (by omega) (blkOk_by (N := N_nearest) (sc := defScope s_nearest) (by decide +kernel)) (fun y hy s H C cl fp => (EB.cast (eb_dninD (ex_ixT (ex_var 6 rfl) ex_int rfl) (ex_var 5 rfl) rfl hu1) (by rfl)).t) (fun y hy hq s H C cl fp => EX.cast (ex_tup (ds := [_, _]) (ea_cons (ex_ixT (ex_var 6 rfl) ex_int rfl) (ea_cons (ex_ixT (ex_var 6 rfl) ex_int rfl) ea_nil)) (Nat.le_of_ble_eq_true rfl)) rfl) (fun s H C cl fp => pg_name nd rfl (Or.inl rfl)) nd) (by rw [List.length_map]; exact hlt _)) fun s w => ?_)
  have w : s = _ := w
  subst w
  rw [List.filter_eq_self.mpr fun _ _ => rfl]
abbrev s_allowed : Stmt := topS 76
abbrev N_allowed : List Str := ["links", "rules", "badge", "act", "pair", "words"]
theorem sc_allowed : FnScope N_allowed ["links", "rules", "badge", "act"] (defScope s_allowed) := ⟨rfl, rfl, rfl, by decide +kernel, rfl, by decide +kernel, by decide +kernel⟩
theorem hb_allowed (kV doc pm : Value) (an : Option Addr) (cdv ct : Value) (us : List Value) (hl : us.length = 4) : bindArgs (PySem.W.fnOf "allowed" "allowed" (defArgs s_allowed) (defBody s_allowed) (defScope s_allowed) .none kV doc pm an cdv ct) ⟨us, []⟩ = pure ((["links", "rules", "badge", "act"] : List Str).zip us) := match us, hl with
  | [_, _, _, _], _ => rfl
def R_allowed : PSpec := fun _ ss W => ∃ (bk : List Rule) (b : Int) (a : Str), ss = [.dat (.list []), .dat (bkD bk), di b, ds a] ∧ bk.length ≤ 1000 ∧ (aboutF bk b a).length ≤ 1 ∧ W = (· = db (allowF bk b a))
theorem ok_allowed (B : Bt mg) (Dd : DefAt K mg "allowed" s_allowed) (F_nearest : Fn P w K mg base "nearest" ["links", "rules", "badge", "act"] R_nearest 4) : Fn P w K mg base "allowed" ["links", "rules", "badge", "act"] R_allowed 5 := by
  refine fn_mk Dd sc_allowed (fun G ss W ⟨_, _, _, e, _⟩ => by rw [e]; rfl) hb_allowed fun f cdv A outer s H hr G ss W h => ?_
  obtain ⟨bk, b, a, rfl, hz, h1, rfl⟩ := h
  have nd := (sc_allowed).nd
  have hu := hu_of2 hr
  refine sxs_cons (sx_lc 5 4 (ys := aboutF bk b a) (ι := fun q => .dat (encBW q)) (fun _ => true) (fun q => .str (wordW q.w)) (ix_lstM (ex_call F_nearest hr (ea_cons (ex_var 0 rfl) (ea_cons (ex_var 1 rfl) (ea_cons (ex_var 2 rfl) (ea_cons (ex_var 3 rfl) ea_nil)))) (W := (· = .dat (.list ((aboutF bk b a).map encBW)))) fun G _ => ⟨bk, b, a, rfl, hz, h1, rfl⟩)) (by omega) (blkOk_by (N := N_allowed) (sc := defScope s_allowed) (by decide +kernel)) (fun y hy s H C cl fp => rfl) (fun y hy hq s H C cl fp => ex_ixT (ex_var 4 rfl) ex_int rfl) (fun s H C cl fp => pg_name nd rfl (Or.inl rfl)) nd ?_)
  rw [List.filter_eq_self.mpr fun _ _ => rfl]
  cases e : aboutF bk b a with
  | nil =>
    refine sxs_one (sx_ret (EX.cast (eb_bop (ew_and (eb_ne (ex_var 5 rfl) (ex_lst (ds := []) ea_nil (Nat.le_of_ble_eq_true rfl)) hu (by decide +kernel) (by decide +kernel)) (fun hc => (ew_and1 (eb_notin ex_str (ex_var 5 rfl) hu (by decide +kernel) (by decide +kernel)))))).v ?_) fun s w => w)
    unfold allowF
    rw [e]
    exact congrArg db (show (!PyData.eqv (.list []) (.list []) && !([] : List D).any fun z => PyData.eqv z (.str "not")) = false by decide +kernel)
  | cons q l => cases l with
    | cons q2 l => rw [e] at h1; simp at h1
    | nil =>
      obtain ⟨qb, qa, qw⟩ := q
      cases qw with
      | true =>
        rw [show ([⟨qb, qa, true⟩] : List Rule).map (fun q => PyData.str (wordW q.w)) = [.str "may"] from rfl]
        refine sxs_one (sx_ret (EX.cast (eb_bop (ew_and (eb_ne (ex_var 5 rfl) (ex_lst (ds := []) ea_nil (Nat.le_of_ble_eq_true rfl)) hu (by decide +kernel) (by decide +kernel)) (fun hc => (ew_and1 (eb_notin ex_str (ex_var 5 rfl) hu (by decide +kernel) (by decide +kernel)))))).v ?_) fun s w => w)
        unfold allowF
        rw [e]
        exact congrArg db (show (!PyData.eqv (.list [.str "may"]) (.list []) && !([.str "may"] : List D).any fun z => PyData.eqv z (.str "not")) = true by decide +kernel)
      | false =>
        rw [show ([⟨qb, qa, false⟩] : List Rule).map (fun q => PyData.str (wordW q.w)) = [.str "not"] from rfl]
        refine sxs_one (sx_ret (EX.cast (eb_bop (ew_and (eb_ne (ex_var 5 rfl) (ex_lst (ds := []) ea_nil (Nat.le_of_ble_eq_true rfl)) hu (by decide +kernel) (by decide +kernel)) (fun hc => (ew_and1 (eb_notin ex_str (ex_var 5 rfl) hu (by decide +kernel) (by decide +kernel)))))).v ?_) fun s w => w)
        unfold allowF
        rw [e]
        exact congrArg db (show (!PyData.eqv (.list [.str "not"]) (.list []) && !([.str "not"] : List D).any fun z => PyData.eqv z (.str "not")) = false by decide +kernel)
end
end Dl
namespace Dl
open PySem PySem.Spec PyProof.Rows L2
/-! ### the staff -/
structure StaffC (K : PySem.W.Frag) (C : Addr) : Prop where
  c : Cls K C
  crew : NoAttr K C "crew"
  chain : NoAttr K C "chain"
  book : NoAttr K C "book"
  tempo : NoAttr K C "tempo"
abbrev stF (v1 v2 v3 v4 : V) : List (Str × V) := [("crew", v1), ("chain", v2), ("book", v3), ("tempo", v4)]
def BookOk (bk : List Rule) : Prop := ∀ b a, (aboutF bk b a).length ≤ 1
structure StaffAt (CS : Addr) (G : Hp) (r : Addr) (crew : List Int) (bk : List Rule) : Prop where
  ex : ∃ dx v1 v2 v3 t, G r = some (.ins CS dx (stF v1 v2 v3 (.ref t))) ∧ Dq G v1 (liD crew) ∧ Dq G v2 (.list []) ∧ Dq G v3 (bkD bk) ∧ G t = some (.dK [])
  few : crew.length ≤ 100
  fewb : bk.length ≤ 100
  bok : BookOk bk
theorem StaffAt.mono {CS : Addr} {G G' : Hp} {r : Addr} {crew : List Int} {bk : List Rule} (h : StaffAt CS G r crew bk) (s : Same G G') : StaffAt CS G' r crew bk := by
  obtain ⟨⟨dx, v1, v2, v3, t, h0, h1, h2, h3, h4⟩, a, b, c⟩ := h
  exact ⟨⟨dx, v1, v2, v3, t, s _ _ h0, h1.mono s, h2.mono s, h3.mono s, s _ _ h4⟩, a, b, c⟩
/-- lists and tuples and one dict stay when one object changes -/
theorem Ch.sameD {G G' : Hp} {r C dx : Addr} {fs : List (Str × V)} (c : Ch G G' r) (h : G r = some (.ins C dx fs)) : SameD G G' := fun b u e n1 n2 => c b u (fun z => by
  rw [z, h] at e
  exact n1 C dx fs (Option.some.inj e).symm) e
theorem book_filter {bk : List Rule} (h : BookOk bk) (q : Rule → Bool) : BookOk (bk.filter q) := fun b a => by
  unfold aboutF
  rw [List.filter_filter]
  refine Nat.le_trans ?_ (h b a)
  unfold aboutF
  rw [← List.countP_eq_length_filter, ← List.countP_eq_length_filter]
  exact List.countP_mono_left fun x _ hx => (Bool.and_eq_true_iff.mp hx).1
def othersF (bk : List Rule) (b : Int) (a : Str) : List Rule := bk.filter fun q => !decide (q.b = b) || !decide (q.a = a)
theorem about_others {bk : List Rule} {b : Int} {a : Str} : aboutF (othersF bk b a) b a = [] := by
  unfold aboutF othersF
  rw [List.filter_filter, List.filter_eq_nil_iff]
  intro q _
  simp only [Bool.and_eq_true, Bool.or_eq_true, decide_eq_true_eq, Bool.not_eq_true', decide_eq_false_iff_not]
  rintro ⟨⟨h1, h2⟩, h3 | h3⟩
  · exact h3 h2
  · exact h3 h1
theorem about_append (bk bk' : List Rule) (b : Int) (a : Str) : aboutF (bk ++ bk') b a = aboutF bk b a ++ aboutF bk' b a := List.filter_append ..
theorem book_rule {bk : List Rule} (h : BookOk bk) (b : Int) (a : Str) (w : Bool) : BookOk (othersF bk b a ++ [⟨b, a, w⟩]) := fun b' a' => by
  rw [about_append, List.length_append]
  by_cases q : a = a' ∧ b = b'
  · obtain ⟨rfl, rfl⟩ := q
    rw [about_others]
    exact Nat.le_trans (Nat.add_le_add_left (List.length_filter_le _ _) 0) (by simp)
  · have e : aboutF [⟨b, a, w⟩] b' a' = [] := by
      unfold aboutF
      rw [List.filter_eq_nil_iff]
      intro r hr
      rw [List.mem_singleton.mp hr]
      simp only [Bool.and_eq_true, decide_eq_true_eq]
      exact fun z => q ⟨z.1, z.2⟩
    rw [e]
    exact book_filter h _ b' a'
section
variable {P : Program} {w : World} {K : PySem.W.Frag} {mg : Str → Option Value} {base : Heap} {CS : Addr}
abbrev s_is_whole : Stmt := topS 31
abbrev N_is_whole : List Str := ["thing"]
theorem sc_is_whole : FnScope N_is_whole ["thing"] (defScope s_is_whole) := ⟨rfl, rfl, rfl, by decide +kernel, rfl, by decide +kernel, by decide +kernel⟩
theorem hb_is_whole (kV doc pm : Value) (an : Option Addr) (cdv ct : Value) (us : List Value) (hl : us.length = 1) : bindArgs (PySem.W.fnOf "is_whole" "is_whole" (defArgs s_is_whole) (defBody s_is_whole) (defScope s_is_whole) .none kV doc pm an cdv ct) ⟨us, []⟩ = pure ((["thing"] : List Str).zip us) := match us, hl with
  | [_], _ => rfl
def R_is_whole : PSpec := fun _ ss W => ∃ (n : Int), ss = [di n] ∧ W = (· = db true)
theorem ok_is_whole (B : Bt mg) (Dd : DefAt K mg "is_whole" s_is_whole) : Fn P w K mg base "is_whole" ["thing"] R_is_whole 1 := by
  refine fn_mk Dd sc_is_whole (fun G ss W ⟨_, e, _⟩ => by rw [e]; rfl) hb_is_whole fun f cdv A outer s H hr G ss W h => ?_
  obtain ⟨n, rfl, rfl⟩ := h
  exact sxs_one (sx_ret (eb_bop (ew_and (eb_isi (k := true) B.isinstance (ex_var 0 rfl) (ex_ty (n := "int") B.int (by decide +kernel)) (by exact (show kitB "int" "int" = some true by decide +kernel))) (fun hc => (ew_and1 (eb_not (eb_isi (k := false) B.isinstance (ex_var 0 rfl) (ex_ty (n := "bool") B.bool (by decide +kernel)) (by exact (show kitB "int" "bool" = some false by decide +kernel)))))))).v fun s w => w)
abbrev s_Staff_need : Stmt := inClass (topS 81) 1
abbrev N_Staff_need : List Str := ["self", "holder"]
theorem sc_Staff_need : FnScope N_Staff_need ["self", "holder"] (defScope s_Staff_need) := ⟨rfl, rfl, rfl, by decide +kernel, rfl, by decide +kernel, by decide +kernel⟩
theorem hb_Staff_need (kV doc pm : Value) (an : Option Addr) (cdv ct : Value) (us : List Value) (hl : us.length = 2) : bindArgs (PySem.W.fnOf "need" "Staff.need" (defArgs s_Staff_need) (defBody s_Staff_need) (defScope s_Staff_need) .none kV doc pm an cdv ct) ⟨us, []⟩ = pure ((["self", "holder"] : List Str).zip us) := match us, hl with
  | [_, _], _ => rfl
def R_need (CS : Addr) : PSpec := fun G ss W => ∃ (r : Addr) (crew : List Int) (bk : List Rule) (b : Int), ss = [.raw (.ref r), di b] ∧ StaffAt CS G r crew bk ∧ b ∈ crew ∧ W = (· = .dat .none)
theorem ok_need (B : Bt mg) (SC : StaffC K CS) (Dd : MetAt K CS "need" "Staff.need" s_Staff_need) (F_is_whole : Fn P w K mg base "is_whole" ["thing"] R_is_whole 1) : Mt P w K mg base CS "need" ["self", "holder"] (R_need CS) 2 := by
  refine mt_mk Dd sc_Staff_need (fun G ss W ⟨_, _, _, _, e, _⟩ => by rw [e]; rfl) hb_Staff_need fun f cdv A outer s H hr G ss W h => ?_
  obtain ⟨r, crew, bk, b, rfl, st, hb, rfl⟩ := h
  obtain ⟨dx, v1, v2, v3, t, hSC, d1, d2, d3, d4⟩ := st.ex
  have s_crew : Sv K G v1 (.dat (liD crew)) := .dat d1
  exact sxs_one (sx_if (k := false) (EB.cast (eb_bop (ew_and (eb_of (ex_call F_is_whole hr (ea_cons (ex_var 1 rfl) ea_nil) (W := (· = db true)) fun G _ => ⟨b, rfl, rfl⟩)) (fun hc => (ew_and1 (eb_ninI (ex_var 1 rfl) (ex_fld SC.c SC.crew (ex_var 0 rfl) hSC (f := "crew") (by rfl) s_crew)))))) (by rw [decide_eq_true hb]; rfl)).t (fun hk => by cases hk) fun _ => sxs_nil rfl)
abbrev s_Staff_others : Stmt := inClass (topS 81) 6
abbrev N_Staff_others : List Str := ["self", "holder", "act", "row"]
theorem sc_Staff_others : FnScope N_Staff_others ["self", "holder", "act"] (defScope s_Staff_others) := ⟨rfl, rfl, rfl, by decide +kernel, rfl, by decide +kernel, by decide +kernel⟩
theorem hb_Staff_others (kV doc pm : Value) (an : Option Addr) (cdv ct : Value) (us : List Value) (hl : us.length = 3) : bindArgs (PySem.W.fnOf "others" "Staff.others" (defArgs s_Staff_others) (defBody s_Staff_others) (defScope s_Staff_others) .none kV doc pm an cdv ct) ⟨us, []⟩ = pure ((["self", "holder", "act"] : List Str).zip us) := match us, hl with
  | [_, _, _], _ => rfl
def R_others (CS : Addr) : PSpec := fun G ss W => ∃ (r : Addr) (crew : List Int) (bk : List Rule) (b : Int) (a : Str), ss = [.raw (.ref r), di b, ds a] ∧ StaffAt CS G r crew bk ∧ W = (· = .dat (bkD (othersF bk b a)))
theorem ok_others (B : Bt mg) (SC : StaffC K CS) (Dd : MetAt K CS "others" "Staff.others" s_Staff_others) : Mt P w K mg base CS "others" ["self", "holder", "act"] (R_others CS) 1 := by
  refine mt_mk Dd sc_Staff_others (fun G ss W ⟨_, _, _, _, _, e, _⟩ => by rw [e]; rfl) hb_Staff_others fun f cdv A outer s H hr G ss W h => ?_
  obtain ⟨r, crew, bk, b, a, rfl, st, rfl⟩ := h
  obtain ⟨dx, v1, v2, v3, t, hSC, d1, d2, d3, d4⟩ := st.ex
  have nd := (sc_Staff_others).nd
  have s_book : Sv K G v3 (.dat (bkD bk)) := .dat d3
  have hz := st.fewb
  exact sxs_one (sx_ret (ex_lc 3 (fun q : Rule => !decide (q.b = b) || !decide (q.a = a)) encB (ix_lstM (ex_fld SC.c SC.book (ex_var 0 rfl) hSC (f := "book") (by rfl) s_book)) (by omega) (blkOk_by (N := N_Staff_others) (sc := defScope s_Staff_others) (by decide +kernel)) (fun y hy s H C cl fp => (EB.cast (eb_bop (ew_or (eb_neI (ex_ixT (ex_var 3 rfl) ex_int rfl) (ex_var 1 rfl)) (fun hc => (ew_or1 (eb_neS (ex_ixT (ex_var 3 rfl) ex_int rfl) (ex_var 2 rfl)))))) rfl).t) (fun y hy hq s H C cl fp => EX.cast (ex_var 3 rfl) rfl) (fun s H C cl fp => pg_name nd rfl (Or.inl rfl)) nd) fun s w => w)
abbrev s_Staff_clerks : Stmt := inClass (topS 81) 10
abbrev N_Staff_clerks : List Str := ["self"]
theorem sc_Staff_clerks : FnScope N_Staff_clerks ["self"] (defScope s_Staff_clerks) := ⟨rfl, rfl, rfl, by decide +kernel, rfl, by decide +kernel, by decide +kernel⟩
theorem hb_Staff_clerks (kV doc pm : Value) (an : Option Addr) (cdv ct : Value) (us : List Value) (hl : us.length = 1) : bindArgs (PySem.W.fnOf "clerks" "Staff.clerks" (defArgs s_Staff_clerks) (defBody s_Staff_clerks) (defScope s_Staff_clerks) .none kV doc pm an cdv ct) ⟨us, []⟩ = pure ((["self"] : List Str).zip us) := match us, hl with
  | [_], _ => rfl
def R_clerks (CS : Addr) : PSpec := fun G ss W => ∃ (r : Addr) (crew : List Int) (bk : List Rule), ss = [.raw (.ref r)] ∧ StaffAt CS G r crew bk ∧ W = (· = .dat (liD crew))
theorem ok_clerks (B : Bt mg) (SC : StaffC K CS) (Dd : MetAt K CS "clerks" "Staff.clerks" s_Staff_clerks) : Mt P w K mg base CS "clerks" ["self"] (R_clerks CS) 1 := by
  refine mt_mk Dd sc_Staff_clerks (fun G ss W ⟨_, _, _, e, _⟩ => by rw [e]; rfl) hb_Staff_clerks fun f cdv A outer s H hr G ss W h => ?_
  obtain ⟨r, crew, bk, rfl, st, rfl⟩ := h
  obtain ⟨dx, v1, v2, v3, t, hSC, d1, d2, d3, d4⟩ := st.ex
  have s_crew : Sv K G v1 (.dat (liD crew)) := .dat d1
  exact sxs_one (sx_ret (ex_list B.list (ex_fld SC.c SC.crew (ex_var 0 rfl) hSC (f := "crew") (by rfl) s_crew)) fun s w => w)
abbrev s_Staff_may : Stmt := inClass (topS 81) 11
abbrev N_Staff_may : List Str := ["self", "badge", "act"]
theorem sc_Staff_may : FnScope N_Staff_may ["self", "badge", "act"] (defScope s_Staff_may) := ⟨rfl, rfl, rfl, by decide +kernel, rfl, by decide +kernel, by decide +kernel⟩
theorem hb_Staff_may (kV doc pm : Value) (an : Option Addr) (cdv ct : Value) (us : List Value) (hl : us.length = 3) : bindArgs (PySem.W.fnOf "may" "Staff.may" (defArgs s_Staff_may) (defBody s_Staff_may) (defScope s_Staff_may) .none kV doc pm an cdv ct) ⟨us, []⟩ = pure ((["self", "badge", "act"] : List Str).zip us) := match us, hl with
  | [_, _, _], _ => rfl
def mayF (crew : List Int) (bk : List Rule) (b : Int) (a : Str) : Bool := decide (b ∈ crew) && allowF bk b a
def R_may (CS : Addr) : PSpec := fun G ss W => ∃ (r : Addr) (crew : List Int) (bk : List Rule) (b : Int) (a : Str), ss = [.raw (.ref r), di b, ds a] ∧ StaffAt CS G r crew bk ∧ W = (· = db (mayF crew bk b a))
theorem ok_may (B : Bt mg) (SC : StaffC K CS) (Dd : MetAt K CS "may" "Staff.may" s_Staff_may) (F_allowed : Fn P w K mg base "allowed" ["links", "rules", "badge", "act"] R_allowed 5) : Mt P w K mg base CS "may" ["self", "badge", "act"] (R_may CS) 6 := by
  refine mt_mk Dd sc_Staff_may (fun G ss W ⟨_, _, _, _, _, e, _⟩ => by rw [e]; rfl) hb_Staff_may fun f cdv A outer s H hr G ss W h => ?_
  obtain ⟨r, crew, bk, b, a, rfl, st, rfl⟩ := h
  obtain ⟨dx, v1, v2, v3, t, hSC, d1, d2, d3, d4⟩ := st.ex
  have s_crew : Sv K G v1 (.dat (liD crew)) := .dat d1
  have s_chain : Sv K G v2 (.dat (.list [])) := .dat d2
  have s_book : Sv K G v3 (.dat (bkD bk)) := .dat d3
  have hz := st.fewb
  exact sxs_one (sx_ret (eb_bop (ew_and (eb_inI (ex_var 1 rfl) (ex_fld SC.c SC.crew (ex_var 0 rfl) hSC (f := "crew") (by rfl) s_crew)) (fun hc => (ew_and1 (eb_of (ex_call F_allowed hr (ea_cons (ex_fld SC.c SC.chain (ex_var 0 rfl) hSC (f := "chain") (by rfl) s_chain) (ea_cons (ex_fld SC.c SC.book (ex_var 0 rfl) hSC (f := "book") (by rfl) s_book) (ea_cons (ex_var 1 rfl) (ea_cons (ex_var 2 rfl) ea_nil)))) fun G _ => ⟨bk, b, a, rfl, by omega, st.bok b a, rfl⟩)))))).v fun s w => w)
abbrev s_Staff_who : Stmt := inClass (topS 81) 13
abbrev N_Staff_who : List Str := ["self", "act", "badge"]
theorem sc_Staff_who : FnScope N_Staff_who ["self", "act"] (defScope s_Staff_who) := ⟨rfl, rfl, rfl, by decide +kernel, rfl, by decide +kernel, by decide +kernel⟩
theorem hb_Staff_who (kV doc pm : Value) (an : Option Addr) (cdv ct : Value) (us : List Value) (hl : us.length = 2) : bindArgs (PySem.W.fnOf "who" "Staff.who" (defArgs s_Staff_who) (defBody s_Staff_who) (defScope s_Staff_who) .none kV doc pm an cdv ct) ⟨us, []⟩ = pure ((["self", "act"] : List Str).zip us) := match us, hl with
  | [_, _], _ => rfl
def whoF (crew : List Int) (bk : List Rule) (a : Str) : List Int := crew.filter fun b => mayF crew bk b a
def R_who (CS : Addr) : PSpec := fun G ss W => ∃ (r : Addr) (crew : List Int) (bk : List Rule) (a : Str), ss = [.raw (.ref r), ds a] ∧ StaffAt CS G r crew bk ∧ W = (· = .dat (liD (whoF crew bk a)))
theorem ok_who (B : Bt mg) (SC : StaffC K CS) (Dd : MetAt K CS "who" "Staff.who" s_Staff_who) (F_may : Mt P w K mg base CS "may" ["self", "badge", "act"] (R_may CS) 6) : Mt P w K mg base CS "who" ["self", "act"] (R_who CS) 7 := by
  refine mt_mk Dd sc_Staff_who (fun G ss W ⟨_, _, _, _, e, _⟩ => by rw [e]; rfl) hb_Staff_who fun f cdv A outer s H hr G ss W h => ?_
  obtain ⟨r, crew, bk, a, rfl, st, rfl⟩ := h
  obtain ⟨dx, v1, v2, v3, t, hSC, d1, d2, d3, d4⟩ := st.ex
  have nd := (sc_Staff_who).nd
  have s_crew : Sv K G v1 (.dat (liD crew)) := .dat d1
  have hz := st.few
  exact sxs_one (sx_ret (ex_lc 2 (fun b => mayF crew bk b a) PyData.int (ix_lstM (ex_fld SC.c SC.crew (ex_var 0 rfl) hSC (f := "crew") (by rfl) s_crew)) (by omega) (blkOk_by (N := N_Staff_who) (sc := defScope s_Staff_who) (by decide +kernel)) (fun y hy s H C cl fp => (EB.cast (eb_of (exw_met F_may hr (ex_var 0 rfl) hSC (by rfl) (ea_cons (ex_var 2 rfl) (ea_cons (ex_var 1 rfl) ea_nil)) fun G' sm => ⟨r, crew, bk, y, a, rfl, st.mono sm, rfl⟩)) rfl).t) (fun y hy hq s H C cl fp => EX.cast (ex_var 2 rfl) rfl) (fun s H C cl fp => pg_name nd rfl (Or.inl rfl)) nd) fun s w => w)
end
end Dl
namespace Dl
open PySem PySem.Spec PyProof.Rows L2
section
variable {P : Program} {w : World} {K : PySem.W.Frag} {mg : Str → Option Value} {base : Heap} {CS : Addr}
/-! ### the staff changed -/
theorem ins_ne {G : Hp} {r t C dx : Addr} {fs : List (Str × V)} {kvs : List (Key × V)} (h : G r = some (.ins C dx fs)) (h2 : G t = some (.dK kvs)) : t ≠ r := fun z => by
  rw [z, h] at h2
  cases h2
abbrev s_Staff___init__ : Stmt := inClass (topS 81) 0
abbrev N_Staff___init__ : List Str := ["self"]
theorem sc_Staff___init__ : FnScope N_Staff___init__ ["self"] (defScope s_Staff___init__) := ⟨rfl, rfl, rfl, by decide +kernel, rfl, by decide +kernel, by decide +kernel⟩
theorem hb_Staff___init__ (kV doc pm : Value) (an : Option Addr) (cdv ct : Value) (us : List Value) (hl : us.length = 1) : bindArgs (PySem.W.fnOf "__init__" "Staff.__init__" (defArgs s_Staff___init__) (defBody s_Staff___init__) (defScope s_Staff___init__) .none kV doc pm an cdv ct) ⟨us, []⟩ = pure ((["self"] : List Str).zip us) := match us, hl with
  | [_], _ => rfl
def R_Staff_init (CS : Addr) : PSpecM := fun G ss W => ∃ (r dx : Addr), ss = [.raw (.ref r)] ∧ G r = some (.ins CS dx []) ∧ W = fun G' s => s = .dat .none ∧ Ch G G' r ∧ StaffAt CS G' r [] []
theorem ok_Staff_init (B : Bt mg) (SC : StaffC K CS) (Dd : MakeAt K mg "Staff" CS "Staff.__init__" s_Staff___init__) : MkM P w K mg base "Staff" CS ["self"] (R_Staff_init CS) 1 := by
  refine mkM_mk Dd sc_Staff___init__ (fun G ss W ⟨_, _, e, _⟩ => by rw [e]; rfl) hb_Staff___init__ fun f cdv A outer s H hr G ss W h => ?_
  obtain ⟨r, dx, rfl, hi, rfl⟩ := h
  refine sxs_cons (sx_fset SC.c SC.crew (ex_lst (ds := []) ea_nil (Nat.le_of_ble_eq_true rfl)) (ex_var 0 rfl) hi (by decide) fun G1 G2 s v1 w s1 sv1 c1 e1 => ?_)
  subst w
  refine sxs_cons (sx_fset SC.c SC.chain (ex_lst (ds := []) ea_nil (Nat.le_of_ble_eq_true rfl)) (ex_var 0 rfl) e1 (show 1 < 1000 by decide) fun G3 G4 s v2 w s3 sv2 c3 e3 => ?_)
  subst w
  refine sxs_cons (sx_fset SC.c SC.book (ex_lst (ds := []) ea_nil (Nat.le_of_ble_eq_true rfl)) (ex_var 0 rfl) e3 (show 2 < 1000 by decide) fun G5 G6 s v3 w s5 sv3 c5 e5 => ?_)
  subst w
  refine sxs_one (sx_fset SC.c SC.tempo ex_dict0 (ex_var 0 rfl) e5 (show 3 < 1000 by decide) fun G7 G8 s v4 w s7 sv4 c7 e7 => ?_)
  subst w
  have h1 := s1 _ _ hi
  have h3 := s3 _ _ e1
  have h5 := s5 _ _ e3
  have h7 := s7 _ _ e5
  refine fun G' s8 => ⟨rfl, ?_, ⟨?_, by decide, by decide, fun _ _ => Nat.zero_le _⟩⟩
  · exact ((Ch.of s1).trans c1).trans (((Ch.of s3).trans c3).trans (((Ch.of s5).trans c5).trans (((Ch.of s7).trans c7).trans (.of s8))))
  · cases sv1 with
    | dat d1 => cases sv2 with
      | dat d2 => cases sv3 with
        | dat d3 => cases sv4 with
          | @dic t _ ht =>
            have d1' := (((((((d1.monoD (c1.sameD h1)).mono s3).monoD (c3.sameD h3)).mono s5).monoD (c5.sameD h5)).mono s7).monoD (c7.sameD h7)).mono s8
            have d2' := (((((d2.monoD (c3.sameD h3)).mono s5).monoD (c5.sameD h5)).mono s7).monoD (c7.sameD h7)).mono s8
            have d3' := (((d3.monoD (c5.sameD h5)).mono s7).monoD (c7.sameD h7)).mono s8
            exact ⟨dx, _, _, _, t, s8 _ _ e7, d1', d2', d3', s8 _ _ (c7 t _ (ins_ne h7 ht) ht)⟩
abbrev s_Staff_hire : Stmt := inClass (topS 81) 2
abbrev N_Staff_hire : List Str := ["self", "badge"]
theorem sc_Staff_hire : FnScope N_Staff_hire ["self", "badge"] (defScope s_Staff_hire) := ⟨rfl, rfl, rfl, by decide +kernel, rfl, by decide +kernel, by decide +kernel⟩
theorem hb_Staff_hire (kV doc pm : Value) (an : Option Addr) (cdv ct : Value) (us : List Value) (hl : us.length = 2) : bindArgs (PySem.W.fnOf "hire" "Staff.hire" (defArgs s_Staff_hire) (defBody s_Staff_hire) (defScope s_Staff_hire) .none kV doc pm an cdv ct) ⟨us, []⟩ = pure ((["self", "badge"] : List Str).zip us) := match us, hl with
  | [_, _], _ => rfl
def hireF (crew : List Int) (b : Int) : List Int := sortI (crew ++ [b])
def R_hire (CS : Addr) : PSpecM := fun G ss W => ∃ (r : Addr) (crew : List Int) (bk : List Rule) (b : Int), ss = [.raw (.ref r), di b] ∧ StaffAt CS G r crew bk ∧ b ∉ crew ∧ crew.length < 12 ∧ W = fun G' s => s = .dat .none ∧ Ch G G' r ∧ StaffAt CS G' r (hireF crew b) bk
theorem ok_hire (B : Bt mg) (SC : StaffC K CS) (Dd : MetAt K CS "hire" "Staff.hire" s_Staff_hire) (F_joined : Fn P w K mg base "joined" ["one", "other"] R_joined 2) : MtM P w K mg base CS "hire" ["self", "badge"] (R_hire CS) 3 := by
  refine mtM_mk Dd sc_Staff_hire (fun G ss W ⟨_, _, _, _, e, _⟩ => by rw [e]; rfl) hb_Staff_hire fun f cdv A outer s H hr G ss W h => ?_
  obtain ⟨r, crew, bk, b, rfl, st, hb, hz, rfl⟩ := h
  obtain ⟨dx, v1, v2, v3, t, hSC, d1, d2, d3, d4⟩ := st.ex
  have s_crew : Sv K G v1 (.dat (liD crew)) := .dat d1
  refine sxs_cons (sx_if (k := false) (EB.cast (eb_inI (ex_var 1 rfl) (ex_fld SC.c SC.crew (ex_var 0 rfl) hSC (f := "crew") (by rfl) s_crew)) (decide_eq_false hb)).t (fun hk => by cases hk) fun _ => sxs_nil ?_)
  refine sxs_cons (sx_if (k := false) (EB.cast (eb_ge (ex_len B.len (ex_fld SC.c SC.crew (ex_var 0 rfl) hSC (f := "crew") (by rfl) s_crew) (.lst _)) (ex_gint B.MOST_CLERKS)) (decide_eq_false (by rw [List.length_map]; omega))).t (fun hk => by cases hk) fun _ => sxs_nil ?_)
  refine sxs_one (sx_fset SC.c SC.crew (Wd := (· = .dat (liD (hireF crew b)))) (ex_call F_joined hr (ea_cons (ex_fld SC.c SC.crew (ex_var 0 rfl) hSC (f := "crew") (by rfl) s_crew) (ea_cons (ex_lst (ds := [_]) (ea_cons (ex_var 1 rfl) ea_nil) (Nat.le_of_ble_eq_true rfl)) ea_nil)) fun G _ => ⟨crew, [b], rfl, by omega, Nat.le_of_ble_eq_true rfl, ?_⟩) (ex_var 0 rfl) hSC (show 4 < 1000 by decide) fun G1 G2 s v w s1 sv c1 e1 => ?_)
  · have e : ([b] : List Int).filter (fun x => !decide (x ∈ crew)) = [b] := by
      rw [List.filter_cons, decide_eq_false hb]
      rfl
    show (fun s => s = Ds.dat (liD (sortI (crew ++ [b])))) = fun s => s = Ds.dat (liD (sortI (crew ++ ([b] : List Int).filter fun x => !decide (x ∈ crew))))
    rw [e]
  · subst w
    have h1 := s1 _ _ hSC
    cases sv with
    | dat d =>
      refine fun G' s8 => ⟨rfl, ((Ch.of s1).trans c1).trans (.of s8), ⟨dx, v, v2, v3, t, s8 _ _ e1, (d.monoD (c1.sameD h1)).mono s8, ((d2.mono s1).monoD (c1.sameD h1)).mono s8, ((d3.mono s1).monoD (c1.sameD h1)).mono s8, s8 _ _ (c1 t _ (ins_ne hSC d4) (s1 _ _ d4))⟩, ?_, st.fewb, st.bok⟩
      unfold hireF
      rw [(sortI_perm _).length_eq, List.length_append]
      show crew.length + 1 ≤ 100
      omega
abbrev s_Staff_rule : Stmt := inClass (topS 81) 7
abbrev N_Staff_rule : List Str := ["self", "holder", "act", "word", "kept"]
theorem sc_Staff_rule : FnScope N_Staff_rule ["self", "holder", "act", "word"] (defScope s_Staff_rule) := ⟨rfl, rfl, rfl, by decide +kernel, rfl, by decide +kernel, by decide +kernel⟩
theorem hb_Staff_rule (kV doc pm : Value) (an : Option Addr) (cdv ct : Value) (us : List Value) (hl : us.length = 4) : bindArgs (PySem.W.fnOf "rule" "Staff.rule" (defArgs s_Staff_rule) (defBody s_Staff_rule) (defScope s_Staff_rule) .none kV doc pm an cdv ct) ⟨us, []⟩ = pure ((["self", "holder", "act", "word"] : List Str).zip us) := match us, hl with
  | [_, _, _, _], _ => rfl
def R_rule (CS : Addr) : PSpecM := fun G ss W => ∃ (r : Addr) (crew : List Int) (bk : List Rule) (b : Int) (a : Str) (q : Bool), ss = [.raw (.ref r), di b, ds a, ds (wordW q)] ∧ StaffAt CS G r crew bk ∧ b ∈ crew ∧ bk.length < 60 ∧ W = fun G' s => s = .dat .none ∧ Ch G G' r ∧ StaffAt CS G' r crew (othersF bk b a ++ [⟨b, a, q⟩])
theorem others_len (bk : List Rule) (b : Int) (a : Str) : (othersF bk b a).length ≤ bk.length := List.length_filter_le _ _
theorem ok_rule (B : Bt mg) (SC : StaffC K CS) (Dd : MetAt K CS "rule" "Staff.rule" s_Staff_rule) (F_need : Mt P w K mg base CS "need" ["self", "holder"] (R_need CS) 2) (F_others : Mt P w K mg base CS "others" ["self", "holder", "act"] (R_others CS) 1) : MtM P w K mg base CS "rule" ["self", "holder", "act", "word"] (R_rule CS) 3 := by
  refine mtM_mk Dd sc_Staff_rule (fun G ss W ⟨_, _, _, _, _, _, e, _⟩ => by rw [e]; rfl) hb_Staff_rule fun f cdv A outer s H hr G ss W h => ?_
  obtain ⟨r, crew, bk, b, a, q, rfl, st, hb, hz, rfl⟩ := h
  obtain ⟨dx, v1, v2, v3, t, hSC, d1, d2, d3, d4⟩ := st.ex
  have nd := (sc_Staff_rule).nd
  have hr1 := hr.mono (show 1 ≤ 2 by decide)
  have s_book : Sv K G v3 (.dat (bkD bk)) := .dat d3
  have ol := others_len bk b a
  refine sxs_cons (sx_expr (W := (· = .dat .none)) (exw_met F_need hr (ex_var 0 rfl) hSC (by rfl) (ea_cons (ex_var 1 rfl) ea_nil) fun G' sm => ⟨r, crew, bk, b, rfl, st.mono sm, hb, rfl⟩) ?_)
  refine sxs_cons (sx_asg 4 (W := (· = .dat (bkD (othersF bk b a)))) (exw_met F_others hr1 (ex_var 0 rfl) hSC (by rfl) (ea_cons (ex_var 1 rfl) (ea_cons (ex_var 2 rfl) ea_nil)) fun G' sm => ⟨r, crew, bk, b, a, rfl, st.mono sm, rfl⟩) (fun s w => ?_) nd)
  subst w
  refine sxs_cons (sx_if (k := false) (EB.cast (eb_bop (ew_and (eb_eqI (ex_len B.len (ex_var 4 rfl) (.lst _)) (ex_len B.len (ex_fld SC.c SC.book (ex_var 0 rfl) hSC (f := "book") (by rfl) s_book) (.lst _))) (fun hc => (ew_and1 (eb_ge (ex_len B.len (ex_var 4 rfl) (.lst _)) (ex_gint B.MOST_RULES)))))) ?_).t (fun hk => by cases hk) fun _ => sxs_nil ?_)
  · rw [List.length_map, List.length_map, decide_eq_false (show ¬ (60 : Int) ≤ ((othersF bk b a).length : Nat) by omega), Bool.and_false]
  refine sxs_one (sx_fset SC.c SC.book (Wd := (· = .dat (bkD (othersF bk b a ++ [⟨b, a, q⟩])))) (EX.cast (ex_cat (ex_var 4 rfl) (ex_lst (ds := [_]) (ea_cons (ex_tup (ds := [_, _, _]) (ea_cons (ex_var 1 rfl) (ea_cons (ex_var 2 rfl) (ea_cons (ex_var 3 rfl) ea_nil))) (Nat.le_of_ble_eq_true rfl)) ea_nil) (Nat.le_of_ble_eq_true rfl)) ?_) ?_) (ex_var 0 rfl) hSC (show 4 < 1000 by decide) fun G1 G2 s v w s1 sv c1 e1 => ?_)
  · rw [List.length_map]
    exact Nat.le_trans (show _ ≤ 100 by show (othersF bk b a).length + 1 ≤ 100; omega) (by decide)
  · rw [show bkD (othersF bk b a ++ [⟨b, a, q⟩]) = .list ((othersF bk b a).map encB ++ [encB ⟨b, a, q⟩]) by rw [show bkD _ = PyData.list _ from rfl, List.map_append]; rfl]
    rfl
  · subst w
    have h1 := s1 _ _ hSC
    cases sv with
    | dat d =>
      refine fun G' s8 => ⟨rfl, ((Ch.of s1).trans c1).trans (.of s8), ⟨dx, v1, v2, v, t, s8 _ _ e1, ((d1.mono s1).monoD (c1.sameD h1)).mono s8, ((d2.mono s1).monoD (c1.sameD h1)).mono s8, (d.monoD (c1.sameD h1)).mono s8, s8 _ _ (c1 t _ (ins_ne hSC d4) (s1 _ _ d4))⟩, st.few, ?_, book_rule st.bok b a q⟩
      rw [List.length_append]
      show (othersF bk b a).length + 1 ≤ 100
      omega
abbrev s_Staff_leave : Stmt := inClass (topS 81) 3
abbrev N_Staff_leave : List Str := ["self", "badge", "pair", "row", "kept"]
theorem sc_Staff_leave : FnScope N_Staff_leave ["self", "badge"] (defScope s_Staff_leave) := ⟨rfl, rfl, rfl, by decide +kernel, rfl, by decide +kernel, by decide +kernel⟩
theorem hb_Staff_leave (kV doc pm : Value) (an : Option Addr) (cdv ct : Value) (us : List Value) (hl : us.length = 2) : bindArgs (PySem.W.fnOf "leave" "Staff.leave" (defArgs s_Staff_leave) (defBody s_Staff_leave) (defScope s_Staff_leave) .none kV doc pm an cdv ct) ⟨us, []⟩ = pure ((["self", "badge"] : List Str).zip us) := match us, hl with
  | [_, _], _ => rfl
def R_leave (CS : Addr) : PSpecM := fun G ss W => ∃ (r : Addr) (crew : List Int) (bk : List Rule) (b : Int), ss = [.raw (.ref r), di b] ∧ StaffAt CS G r crew bk ∧ b ∈ crew ∧ W = fun G' s => s = .dat .none ∧ Ch G G' r ∧ StaffAt CS G' r (crew.filter fun x => !decide (x = b)) (bk.filter fun q => !decide (q.b = b))
set_option maxHeartbeats 1000000 in
theorem ok_leave (B : Bt mg) (SC : StaffC K CS) (Dd : MetAt K CS "leave" "Staff.leave" s_Staff_leave) (F_need : Mt P w K mg base CS "need" ["self", "holder"] (R_need CS) 2) (F_without : Fn P w K mg base "without" ["one", "other"] R_without 1) : MtM P w K mg base CS "leave" ["self", "badge"] (R_leave CS) 3 := by
  refine mtM_mk Dd sc_Staff_leave (fun G ss W ⟨_, _, _, _, e, _⟩ => by rw [e]; rfl) hb_Staff_leave fun f cdv A outer s H hr2 G ss W h => ?_
  obtain ⟨r, crew, bk, b, rfl, st, hb, rfl⟩ := h
  obtain ⟨dx, v1, v2, v3, t, hSC, d1, d2, d3, d4⟩ := st.ex
  have nd := (sc_Staff_leave).nd
  have hr := hr2.mono (show 1 ≤ 2 by decide)
  have s_crew : Sv K G v1 (.dat (liD crew)) := .dat d1
  have few := st.few
  have fewb := st.fewb
  refine sxs_cons (sx_expr (W := (· = .dat .none)) (exw_met F_need hr2 (ex_var 0 rfl) hSC (by rfl) (ea_cons (ex_var 1 rfl) ea_nil) fun G' sm => ⟨r, crew, bk, b, rfl, st.mono sm, hb, rfl⟩) ?_)
  refine sxs_cons (sx_fset SC.c SC.crew (Wd := (· = .dat (liD (crew.filter fun x => !decide (x = b))))) (ex_call F_without hr (ea_cons (ex_fld SC.c SC.crew (ex_var 0 rfl) hSC (f := "crew") (by rfl) s_crew) (ea_cons (ex_lst (ds := [_]) (ea_cons (ex_var 1 rfl) ea_nil) (Nat.le_of_ble_eq_true rfl)) ea_nil)) fun G _ => ⟨crew, [b], rfl, by omega, ?_⟩) (ex_var 0 rfl) hSC (show 4 < 1000 by decide) fun G1 G2 s v1' w s1 sv c1 hSC2 => ?_)
  · have e : (fun x => !decide (x ∈ [b])) = fun x : Int => !decide (x = b) := by
      funext x
      rw [decide_eq_decide.mpr List.mem_singleton]
    rw [e]
  subst w
  have h1 := s1 _ _ hSC
  have p1 := c1.sameD h1
  have s_chain : Sv K G2 v2 (.dat (.list [])) := .dat ((d2.mono s1).monoD p1)
  refine sxs_cons (sx_fset SC.c SC.chain (Wd := (· = .dat (.list []))) (ex_lc 2 (ys := ([] : List D)) (ι := fun d => .dat d) (fun _ => true) (fun d => d) (ix_lst1 (ex_fld SC.c SC.chain (ex_var 0 rfl) hSC2 (f := "chain") (by rfl) s_chain)) (Nat.zero_le _) (blkOk_by (N := N_Staff_leave) (sc := defScope s_Staff_leave) (by decide +kernel)) (fun y hy => nomatch hy) (fun y hy => nomatch hy) (fun s H C cl fp => pg_name nd rfl (Or.inl rfl)) nd) (ex_var 0 rfl) hSC2 (show 4 < 1000 by decide) fun G3 G4 s v2' w s3 sv3 c3 hSC4 => ?_)
  subst w
  have h3 := s3 _ _ hSC2
  have p3 := c3.sameD h3
  have s_book : Sv K G4 v3 (.dat (bkD bk)) := .dat ((((d3.mono s1).monoD p1).mono s3).monoD p3)
  refine sxs_cons (sx_fset SC.c SC.book (Wd := (· = .dat (bkD (bk.filter fun q => !decide (q.b = b))))) (ex_lc 3 (ys := bk) (ι := fun q => .dat (encB q)) (fun q => !decide (q.b = b)) encB (ix_lstM (ex_fld SC.c SC.book (ex_var 0 rfl) hSC4 (f := "book") (by rfl) s_book)) (by omega) (blkOk_by (N := N_Staff_leave) (sc := defScope s_Staff_leave) (by decide +kernel)) (fun y hy s H C cl fp => (eb_neI (ex_ixT (ex_var 3 rfl) ex_int rfl) (ex_var 1 rfl)).t) (fun y hy hq s H C cl fp => ex_var 3 rfl) (fun s H C cl fp => pg_name nd rfl (Or.inl rfl)) nd) (ex_var 0 rfl) hSC4 (show 4 < 1000 by decide) fun G5 G6 s v3' w s5 sv5 c5 hSC6 => ?_)
  subst w
  have h5 := s5 _ _ hSC4
  have p5 := c5.sameD h5
  have t6 : G6 t = some (.dK []) := c5 t _ (ins_ne h5 (s5 _ _ (c3 t _ (ins_ne h3 (s3 _ _ (c1 t _ (ins_ne h1 (s1 _ _ d4)) (s1 _ _ d4)))) (s3 _ _ (c1 t _ (ins_ne h1 (s1 _ _ d4)) (s1 _ _ d4)))))) (s5 _ _ (c3 t _ (ins_ne h3 (s3 _ _ (c1 t _ (ins_ne h1 (s1 _ _ d4)) (s1 _ _ d4)))) (s3 _ _ (c1 t _ (ins_ne h1 (s1 _ _ d4)) (s1 _ _ d4)))))
  refine sxs_cons (sx_dict 4 ?_ nd)
  have hlk : ∀ od G7, Same G6 G7 → upd G7 t (.frz od (.dK [])) r = some (.ins CS dx (stF v1' v2' v3' (.ref t))) := fun od G7 s7 => by
    rw [upd_ne fun z => ins_ne hSC6 t6 z.symm]
    exact s7 _ _ hSC6
  refine sxs_cons (sx_forD0 t6 (fun od G7 s7 => ex_fld SC.c SC.tempo (ex_var 0 rfl) (hlk od G7 s7) (f := "tempo") (by rfl) (.raw _)) ?_)
  refine SXs.fz2 ?_
  show SXs _ _ _ [.k (.raw (.ref r)), .k (di b), .un, .un, .k (.dic [])] _ _
  refine sxs_one (sx_fset SC.c SC.tempo (Wd := (· = .dic [])) (ex_var 4 rfl) (ex_var 0 rfl) hSC6 (show 4 < 1000 by decide) fun G7 G8 s v4' w s7 sv7 c7 e7 => ?_)
  subst w
  have h7 := s7 _ _ hSC6
  have p7 := c7.sameD h7
  cases sv with
  | dat q1 => cases sv3 with
    | dat q2 => cases sv5 with
      | dat q3 => cases sv7 with
        | @dic t' _ ht =>
          refine fun G' s8 => ⟨rfl, ?_, ⟨dx, _, _, _, t', s8 _ _ e7, ?_, ?_, ?_, s8 _ _ (c7 t' _ (ins_ne h7 ht) ht)⟩, ?_, ?_, book_filter st.bok _⟩
          · exact ((Ch.of s1).trans c1).trans (((Ch.of s3).trans c3).trans (((Ch.of s5).trans c5).trans (((Ch.of s7).trans c7).trans (.of s8))))
          · exact (((((((q1.monoD p1).mono s3).monoD p3).mono s5).monoD p5).mono s7).monoD p7).mono s8
          · exact (((((q2.monoD p3).mono s5).monoD p5).mono s7).monoD p7).mono s8
          · exact (((q3.monoD p5).mono s7).monoD p7).mono s8
          · exact Nat.le_trans (List.length_filter_le _ _) few
          · exact Nat.le_trans (List.length_filter_le _ _) fewb
end
end Dl
namespace Dl
open PySem PySem.Spec PyProof.Rows L2
/-! ### files -/
structure CaseC (K : PySem.W.Frag) (C : Addr) : Prop where
  c : Cls K C
  parts : NoAttr K C "parts"
  rows : NoAttr K C "rows"
  bonds : NoAttr K C "bonds"
  marks : NoAttr K C "marks"
abbrev caF (v1 v2 v3 v4 : V) : List (Str × V) := [("parts", v1), ("rows", v2), ("bonds", v3), ("marks", v4)]
structure CaseAt (CC : Addr) (G : Hp) (r : Addr) (acts : List Str) (order : List (Nat × Nat)) (ties : List Tie) (marks : List (Option Int)) : Prop where
  ex : ∃ dx v1 v2 v3 v4, G r = some (.ins CC dx (caF v1 v2 v3 v4)) ∧ Dq G v1 (lsD acts) ∧ Dq G v2 (lpD order) ∧ Dq G v3 (ltD ties) ∧ Dq G v4 (loD marks)
  ro : RoundOk acts order ties
  len : marks.length = acts.length
theorem CaseAt.mono {CC : Addr} {G G' : Hp} {r : Addr} {acts : List Str} {order : List (Nat × Nat)} {ties : List Tie} {marks : List (Option Int)} (h : CaseAt CC G r acts order ties marks) (s : Same G G') : CaseAt CC G' r acts order ties marks := by
  obtain ⟨⟨dx, v1, v2, v3, t, h0, h1, h2, h3, h4⟩, a, b⟩ := h
  exact ⟨⟨dx, v1, v2, v3, t, s _ _ h0, h1.mono s, h2.mono s, h3.mono s, h4.mono s⟩, a, b⟩
section
variable {P : Program} {w : World} {K : PySem.W.Frag} {mg : Str → Option Value} {base : Heap} {CC : Addr}
abbrev s_Case___init__ : Stmt := inClass (topS 24) 0
abbrev N_Case___init__ : List Str := ["self", "parts", "rows", "bonds"]
theorem sc_Case___init__ : FnScope N_Case___init__ ["self", "parts", "rows", "bonds"] (defScope s_Case___init__) := ⟨rfl, rfl, rfl, by decide +kernel, rfl, by decide +kernel, by decide +kernel⟩
theorem hb_Case___init__ (kV doc pm : Value) (an : Option Addr) (cdv ct : Value) (us : List Value) (hl : us.length = 4) : bindArgs (PySem.W.fnOf "__init__" "Case.__init__" (defArgs s_Case___init__) (defBody s_Case___init__) (defScope s_Case___init__) .none kV doc pm an cdv ct) ⟨us, []⟩ = pure ((["self", "parts", "rows", "bonds"] : List Str).zip us) := match us, hl with
  | [_, _, _, _], _ => rfl
def R_Case_init (CC : Addr) : PSpecM := fun G ss W => ∃ (r dx : Addr) (acts : List Str) (order : List (Nat × Nat)) (ties : List Tie), ss = [.raw (.ref r), .dat (lsD acts), .dat (lpD order), .dat (ltD ties)] ∧ G r = some (.ins CC dx []) ∧ RoundOk acts order ties ∧
  W = fun G' s => s = .dat .none ∧ Ch G G' r ∧ CaseAt CC G' r acts order ties (List.replicate acts.length none)
theorem ok_Case_init (B : Bt mg) (CS : CaseC K CC) (Dd : MakeAt K mg "Case" CC "Case.__init__" s_Case___init__) : MkM P w K mg base "Case" CC ["self", "parts", "rows", "bonds"] (R_Case_init CC) 1 := by
  refine mkM_mk Dd sc_Case___init__ (fun G ss W ⟨_, _, _, _, _, e, _⟩ => by rw [e]; rfl) hb_Case___init__ fun f cdv A outer s H hr G ss W h => ?_
  obtain ⟨r, dx, acts, order, ties, rfl, hi, ro, rfl⟩ := h
  have h6 := ro.ac.few
  have hl : (acts.map PyData.str).length = acts.length := List.length_map _
  refine sxs_cons (sx_fset CS.c CS.parts (Wd := (· = .dat (lsD acts))) (ex_list B.list (ex_var 1 rfl)) (ex_var 0 rfl) hi (by decide) fun G1 G2 s v1 w s1 sv1 c1 e1 => ?_)
  subst w
  refine sxs_cons (sx_fset CS.c CS.rows (Wd := (· = .dat (lpD order))) (ex_list B.list (ex_var 2 rfl)) (ex_var 0 rfl) e1 (show 1 < 1000 by decide) fun G3 G4 s v2 w s3 sv2 c3 e3 => ?_)
  subst w
  refine sxs_cons (sx_fset CS.c CS.bonds (Wd := (· = .dat (ltD ties))) (ex_list B.list (ex_var 3 rfl)) (ex_var 0 rfl) e3 (show 2 < 1000 by decide) fun G5 G6 s v3 w s5 sv3 c5 e5 => ?_)
  subst w
  refine sxs_one (sx_fset CS.c CS.marks (Wd := (· = .dat (loD (List.replicate acts.length none)))) (EX.cast (EXN.ex (exn_rep ex_none trivial (ex_len B.len (ex_var 1 rfl) (.lst _)) (by omega) (by omega))) ?_) (ex_var 0 rfl) e5 (show 3 < 1000 by decide) fun G7 G8 s v4 w s7 sv4 c7 e7 => ?_)
  · rw [hl, Int.toNat_natCast, show loD (List.replicate acts.length none) = .list ((List.replicate acts.length none).map encO) from rfl, List.map_replicate]
    rfl
  subst w
  have h1 := s1 _ _ hi
  have h3 := s3 _ _ e1
  have h5 := s5 _ _ e3
  have h7 := s7 _ _ e5
  refine fun G' s8 => ⟨rfl, ?_, ⟨?_, ro, List.length_replicate⟩⟩
  · exact ((Ch.of s1).trans c1).trans (((Ch.of s3).trans c3).trans (((Ch.of s5).trans c5).trans (((Ch.of s7).trans c7).trans (.of s8))))
  · cases sv1 with
    | dat d1 => cases sv2 with
      | dat d2 => cases sv3 with
        | dat d3 => cases sv4 with
          | dat d4 =>
            have d1' := (((((((d1.monoD (c1.sameD h1)).mono s3).monoD (c3.sameD h3)).mono s5).monoD (c5.sameD h5)).mono s7).monoD (c7.sameD h7)).mono s8
            have d2' := (((((d2.monoD (c3.sameD h3)).mono s5).monoD (c5.sameD h5)).mono s7).monoD (c7.sameD h7)).mono s8
            have d3' := (((d3.monoD (c5.sameD h5)).mono s7).monoD (c7.sameD h7)).mono s8
            exact ⟨dx, _, _, _, _, s8 _ _ e7, d1', d2', d3', (d4.monoD (c7.sameD h7)).mono s8⟩
abbrev s_Case_is_finished : Stmt := inClass (topS 24) 1
abbrev N_Case_is_finished : List Str := ["self"]
theorem sc_Case_is_finished : FnScope N_Case_is_finished ["self"] (defScope s_Case_is_finished) := ⟨rfl, rfl, rfl, by decide +kernel, rfl, by decide +kernel, by decide +kernel⟩
theorem hb_Case_is_finished (kV doc pm : Value) (an : Option Addr) (cdv ct : Value) (us : List Value) (hl : us.length = 1) : bindArgs (PySem.W.fnOf "is_finished" "Case.is_finished" (defArgs s_Case_is_finished) (defBody s_Case_is_finished) (defScope s_Case_is_finished) .none kV doc pm an cdv ct) ⟨us, []⟩ = pure ((["self"] : List Str).zip us) := match us, hl with
  | [_], _ => rfl
def R_is_finished (CA : Addr) : PSpec := fun G ss W => ∃ (r : Addr) (acts : List Str) (order : List (Nat × Nat)) (ties : List Tie) (marks : List (Option Int)), ss = [.raw (.ref r)] ∧ CaseAt CA G r acts order ties marks ∧ W = (· = db (!decide (none ∈ marks)))
theorem ok_is_finished (B : Bt mg) {CA : Addr} (CC : CaseC K CA) (Dd : MetAt K CA "is_finished" "Case.is_finished" s_Case_is_finished) : Mt P w K mg base CA "is_finished" ["self"] (R_is_finished CA) 1 := by
  refine mt_mk Dd sc_Case_is_finished (fun G ss W ⟨_, _, _, _, _, e, _⟩ => by rw [e]; rfl) hb_Case_is_finished fun f cdv A outer s H hr G ss W h => ?_
  obtain ⟨r, acts, order, ties, marks, rfl, ca, rfl⟩ := h
  obtain ⟨dx, v1, v2, v3, v4, hCC, d1, d2, d3, d4⟩ := ca.ex
  have s_marks : Sv K G v4 (.dat (loD marks)) := .dat d4
  exact sxs_one (sx_ret (eb_ninO ex_none (ex_fld CC.c CC.marks (ex_var 0 rfl) hCC (f := "marks") (by rfl) s_marks)).v fun s w => w)
abbrev s_Case_place : Stmt := inClass (topS 24) 2
abbrev N_Case_place : List Str := ["self", "act"]
theorem sc_Case_place : FnScope N_Case_place ["self", "act"] (defScope s_Case_place) := ⟨rfl, rfl, rfl, by decide +kernel, rfl, by decide +kernel, by decide +kernel⟩
theorem hb_Case_place (kV doc pm : Value) (an : Option Addr) (cdv ct : Value) (us : List Value) (hl : us.length = 2) : bindArgs (PySem.W.fnOf "place" "Case.place" (defArgs s_Case_place) (defBody s_Case_place) (defScope s_Case_place) .none kV doc pm an cdv ct) ⟨us, []⟩ = pure ((["self", "act"] : List Str).zip us) := match us, hl with
  | [_, _], _ => rfl
def R_place (CA : Addr) : PSpec := fun G ss W => ∃ (r : Addr) (acts : List Str) (order : List (Nat × Nat)) (ties : List Tie) (marks : List (Option Int)) (k : Nat), ss = [.raw (.ref r), ds (actAt acts k)] ∧ CaseAt CA G r acts order ties marks ∧ none ∈ marks ∧ k < acts.length ∧ W = (· = di (k : Nat))
theorem ok_place (B : Bt mg) {CA : Addr} (CC : CaseC K CA) (Dd : MetAt K CA "place" "Case.place" s_Case_place) (F_is_finished : Mt P w K mg base CA "is_finished" ["self"] (R_is_finished CA) 1) : Mt P w K mg base CA "place" ["self", "act"] (R_place CA) 2 := by
  refine mt_mk Dd sc_Case_place (fun G ss W ⟨_, _, _, _, _, _, e, _⟩ => by rw [e]; rfl) hb_Case_place fun f cdv A outer s H hr G ss W h => ?_
  obtain ⟨r, acts, order, ties, marks, k, rfl, ca, hn, hk, rfl⟩ := h
  obtain ⟨dx, v1, v2, v3, v4, hCC, d1, d2, d3, d4⟩ := ca.ex
  have s_parts : Sv K G v1 (.dat (lsD acts)) := .dat d1
  have hu := hu_of2 hr
  refine sxs_cons (sx_if (k := false) (EB.cast (eb_of (exw_met0 F_is_finished hr (ex_var 0 rfl) hCC (by rfl) fun G' sm => ⟨r, acts, order, ties, marks, rfl, ca.mono sm, rfl⟩)) (by rw [decide_eq_true hn]; rfl)).t (fun hk => by cases hk) fun _ => sxs_nil ?_)
  refine sxs_cons (sx_if (k := false) (EB.cast (eb_ninS (ex_var 1 rfl) (ex_fld CC.c CC.parts (ex_var 0 rfl) hCC (f := "parts") (by rfl) s_parts)) (by rw [decide_eq_true (actAt_mem hk)]; rfl)).t (fun hk => by cases hk) fun _ => sxs_nil ?_)
  exact sxs_one (sx_ret (ex_index hu (ex_fld CC.c CC.parts (ex_var 0 rfl) hCC (f := "parts") (by rfl) s_parts) (ex_var 1 rfl) (names_strOk ca.ro.ac) (actAt_get hk) (act_first ca.ro.ac hk)) fun s w => w)
abbrev s_Case_due_place : Stmt := inClass (topS 24) 3
abbrev N_Case_due_place : List Str := ["self", "act", "step"]
theorem sc_Case_due_place : FnScope N_Case_due_place ["self", "act"] (defScope s_Case_due_place) := ⟨rfl, rfl, rfl, by decide +kernel, rfl, by decide +kernel, by decide +kernel⟩
theorem hb_Case_due_place (kV doc pm : Value) (an : Option Addr) (cdv ct : Value) (us : List Value) (hl : us.length = 2) : bindArgs (PySem.W.fnOf "due_place" "Case.due_place" (defArgs s_Case_due_place) (defBody s_Case_due_place) (defScope s_Case_due_place) .none kV doc pm an cdv ct) ⟨us, []⟩ = pure ((["self", "act"] : List Str).zip us) := match us, hl with
  | [_, _], _ => rfl
def R_due_place (CA : Addr) : PSpec := fun G ss W => ∃ (r : Addr) (acts : List Str) (order : List (Nat × Nat)) (ties : List Tie) (marks : List (Option Int)) (k : Nat), ss = [.raw (.ref r), ds (actAt acts k)] ∧ CaseAt CA G r acts order ties marks ∧ marks[k]? = some none ∧ k ∈ readyF order marks ∧ W = (· = di (k : Nat))
theorem ok_due_place (B : Bt mg) {CA : Addr} (CC : CaseC K CA) (Dd : MetAt K CA "due_place" "Case.due_place" s_Case_due_place) (F_place : Mt P w K mg base CA "place" ["self", "act"] (R_place CA) 2) (F_ready : Fn P w K mg base "ready" ["order", "done"] R_ready 2) : Mt P w K mg base CA "due_place" ["self", "act"] (R_due_place CA) 3 := by
  refine mt_mk Dd sc_Case_due_place (fun G ss W ⟨_, _, _, _, _, _, e, _⟩ => by rw [e]; rfl) hb_Case_due_place fun f cdv A outer s H hr G ss W h => ?_
  obtain ⟨r, acts, order, ties, marks, k, rfl, ca, hm, hrd, rfl⟩ := h
  obtain ⟨dx, v1, v2, v3, v4, hCC, d1, d2, d3, d4⟩ := ca.ex
  have nd := (sc_Case_due_place).nd
  have s_marks : Sv K G v4 (.dat (loD marks)) := .dat d4
  have s_rows : Sv K G v2 (.dat (lpD order)) := .dat d2
  have h6 := ca.ro.ac.few
  have hl := ca.len
  have hk : k < acts.length := by
    have := (List.getElem?_eq_some_iff.mp hm).1
    omega
  refine sxs_cons (sx_asg 2 (W := (· = di (k : Nat))) (exw_met F_place hr (ex_var 0 rfl) hCC (by rfl) (ea_cons (ex_var 1 rfl) ea_nil) fun G' sm => ⟨r, acts, order, ties, marks, k, rfl, ca.mono sm, List.mem_of_getElem? hm, hk, rfl⟩) (fun s w => ?_) nd)
  subst w
  refine sxs_cons (sx_if (k := false) (EB.cast (eb_notN (ex_ixM (f := encO) (ex_fld CC.c CC.marks (ex_var 0 rfl) hCC (f := "marks") (by rfl) s_marks) (ex_var 2 rfl) (atN hm))) (by rfl)).t (fun hk => by cases hk) fun _ => sxs_nil ?_)
  refine sxs_cons (sx_if (k := false) (EB.cast (eb_ninN (ex_var 2 rfl) (ex_call F_ready hr (ea_cons (ex_fld CC.c CC.rows (ex_var 0 rfl) hCC (f := "rows") (by rfl) s_rows) (ea_cons (ex_fld CC.c CC.marks (ex_var 0 rfl) hCC (f := "marks") (by rfl) s_marks) ea_nil)) fun G' sm => ⟨order, marks, rfl, by omega, rfl⟩)) (by rw [decide_eq_true hrd]; rfl)).t (fun hk => by cases hk) fun _ => sxs_nil ?_)
  exact sxs_one (sx_ret (ex_var 2 rfl) fun s w => w)
abbrev s_Case_marked : Stmt := inClass (topS 24) 5
abbrev N_Case_marked : List Str := ["self", "step", "badge", "marks"]
theorem sc_Case_marked : FnScope N_Case_marked ["self", "step", "badge"] (defScope s_Case_marked) := ⟨rfl, rfl, rfl, by decide +kernel, rfl, by decide +kernel, by decide +kernel⟩
theorem hb_Case_marked (kV doc pm : Value) (an : Option Addr) (cdv ct : Value) (us : List Value) (hl : us.length = 3) : bindArgs (PySem.W.fnOf "marked" "Case.marked" (defArgs s_Case_marked) (defBody s_Case_marked) (defScope s_Case_marked) .none kV doc pm an cdv ct) ⟨us, []⟩ = pure ((["self", "step", "badge"] : List Str).zip us) := match us, hl with
  | [_, _, _], _ => rfl
def R_marked (CA : Addr) : PSpec := fun G ss W => ∃ (r : Addr) (acts : List Str) (order : List (Nat × Nat)) (ties : List Tie) (marks : List (Option Int)) (k : Nat) (b : Int), ss = [.raw (.ref r), di (k : Nat), di b] ∧ CaseAt CA G r acts order ties marks ∧ k < acts.length ∧ W = (· = .dat (loD (marks.set k (some b))))
theorem ok_marked (B : Bt mg) {CA : Addr} (CC : CaseC K CA) (Dd : MetAt K CA "marked" "Case.marked" s_Case_marked) : Mt P w K mg base CA "marked" ["self", "step", "badge"] (R_marked CA) 1 := by
  refine mt_mk Dd sc_Case_marked (fun G ss W ⟨_, _, _, _, _, _, _, e, _⟩ => by rw [e]; rfl) hb_Case_marked fun f cdv A outer s H hr G ss W h => ?_
  obtain ⟨r, acts, order, ties, marks, k, b, rfl, ca, hk, rfl⟩ := h
  obtain ⟨dx, v1, v2, v3, v4, hCC, d1, d2, d3, d4⟩ := ca.ex
  have nd := (sc_Case_marked).nd
  have s_marks : Sv K G v4 (.dat (loD marks)) := .dat d4
  have hl := ca.len
  refine sxs_cons (sx_own 3 (exn_list B.list (ex_fld CC.c CC.marks (ex_var 0 rfl) hCC (f := "marks") (by rfl) s_marks)) ?_ nd)
  refine sxs_cons (sx_setL 3 rfl (ex_var 2 rfl) (ex_var 1 rfl) (jn := k) ?_ ?_)
  · unfold ixN
    rw [if_pos (Int.natCast_nonneg _), if_pos (by rw [List.length_map]; exact Int.ofNat_lt.mpr (by omega))]
    rfl
  · refine sxs_one (sx_ret (ex_var 3 rfl) fun s w => ?_)
    subst w
    show Ds.dat (.list ((marks.map encO).set k (.int b))) = Ds.dat (.list ((marks.set k (some b)).map encO))
    rw [List.map_set]
    rfl
end
end Dl
namespace Dl
open PySem PySem.Spec PyProof.Rows L2
/-! ### the office, read -/
structure OffC (K : PySem.W.Frag) (C : Addr) : Prop where
  c : Cls K C
  team : NoAttr K C "team"
  forms : NoAttr K C "forms"
  cases : NoAttr K C "cases"
abbrev ofF (v1 v2 v3 : V) : List (Str × V) := [("team", v1), ("forms", v2), ("cases", v3)]
/-- where the office's things lie -/
structure Plc where
  CS : Addr
  CC : Addr
  CO : Addr
  oa : Addr
  sa : Addr
  fd : Addr
  cd : Addr
def OffAt (p : Plc) (G : Hp) : Prop := ∃ dx, G p.oa = some (.ins p.CO dx (ofF (.ref p.sa) (.ref p.fd) (.ref p.cd)))
def FormAt (p : Plc) (G : Hp) (name : Str) (acts : List Str) (order : List (Nat × Nat)) (ties : List Tie) : Prop := RoundOk acts order ties ∧ ∃ v, Rd G p.fd (.dK [(Sum.inr name, v)]) ∧ Dq G v (.tuple [lsD acts, lpD order, ltD ties])
def FileAt (p : Plc) (G : Hp) (n : Int) (ca : Addr) : Prop := Rd G p.cd (.dK [(Sum.inl n, .ref ca)])
theorem OffAt.mono {p : Plc} {G G' : Hp} (h : OffAt p G) (s : Same G G') : OffAt p G' := h.imp fun _ e => s _ _ e
theorem FormAt.mono {p : Plc} {G G' : Hp} {name : Str} {acts : List Str} {order : List (Nat × Nat)} {ties : List Tie} (h : FormAt p G name acts order ties) (s : Same G G') : FormAt p G' name acts order ties := ⟨h.1, h.2.imp fun _ e => ⟨Rd.mono e.1 s, e.2.mono s⟩⟩
theorem FileAt.mono {p : Plc} {G G' : Hp} {n : Int} {ca : Addr} (h : FileAt p G n ca) (s : Same G G') : FileAt p G' n ca := Rd.mono h s
abbrev StfAt (p : Plc) (G : Hp) (crew : List Int) (bk : List Rule) : Prop := StaffAt p.CS G p.sa crew bk
def mayL (crew : List Int) (bk : List Rule) (acts : List Str) : List (List Int) := acts.map (whoF crew bk)
theorem mayL_len (crew : List Int) (bk : List Rule) (acts : List Str) : (mayL crew bk acts).length = acts.length := List.length_map _
theorem mayL_ok {crew : List Int} {bk : List Rule} {acts : List Str} (h : crew.length ≤ 100) (h6 : acts.length ≤ 6) : MayOk (mayL crew bk acts) := ⟨by rw [mayL_len]; exact h6, fun m hm => by
  obtain ⟨a, _, rfl⟩ := List.mem_map.mp hm
  exact Nat.le_trans (List.length_filter_le _ _) h⟩
theorem tiesOk_of {acts : List Str} {order : List (Nat × Nat)} {ties : List Tie} (ro : RoundOk acts order ties) : TiesOk acts.length ties := ⟨fun t ht => (ro.tie t ht).lt, fun t ht => by
  have := tie_few (ro.tie t ht)
  have := ro.ac.few
  omega⟩
section
variable {P : Program} {w : World} {K : PySem.W.Frag} {mg : Str → Option Value} {base : Heap} {p : Plc}
abbrev s_Office_form : Stmt := inClass (topS 67) 1
abbrev N_Office_form : List Str := ["self", "name"]
theorem sc_Office_form : FnScope N_Office_form ["self", "name"] (defScope s_Office_form) := ⟨rfl, rfl, rfl, by decide +kernel, rfl, by decide +kernel, by decide +kernel⟩
theorem hb_Office_form (kV doc pm : Value) (an : Option Addr) (cdv ct : Value) (us : List Value) (hl : us.length = 2) : bindArgs (PySem.W.fnOf "form" "Office.form" (defArgs s_Office_form) (defBody s_Office_form) (defScope s_Office_form) .none kV doc pm an cdv ct) ⟨us, []⟩ = pure ((["self", "name"] : List Str).zip us) := match us, hl with
  | [_, _], _ => rfl
def R_form (p : Plc) : PSpec := fun G ss W => ∃ (name : Str) (acts : List Str) (order : List (Nat × Nat)) (ties : List Tie), ss = [.raw (.ref p.oa), ds name] ∧ OffAt p G ∧ FormAt p G name acts order ties ∧ W = (· = .dat (.tuple [lsD acts, lpD order, ltD ties]))
theorem valV_one {κ : Type} [DecidableEq κ] (k : κ) (v : V) : valV [(k, v)] k = some v := valV_pos rfl
theorem ok_form (B : Bt mg) (OC : OffC K p.CO) (Dd : MetAt K p.CO "form" "Office.form" s_Office_form) : Mt P w K mg base p.CO "form" ["self", "name"] (R_form p) 1 := by
  refine mt_mk Dd sc_Office_form (fun G ss W ⟨_, _, _, _, e, _⟩ => by rw [e]; rfl) hb_Office_form fun f cdv A outer s H hr G ss W h => ?_
  obtain ⟨name, acts, order, ties, rfl, oo, ⟨ro, v, rd, dq⟩, rfl⟩ := h
  obtain ⟨dx, hOC⟩ := oo
  have hu1 := hu_of1 hr
  have s_forms : Sv K G (.ref p.fd) (.raw (.ref p.fd)) := .raw _
  refine sxs_cons (sx_if (k := false) (EB.cast (eb_dninR (ex_var 1 rfl) (ex_fld OC.c OC.forms (ex_var 0 rfl) hOC (f := "forms") (by rfl) s_forms) rd rfl hu1) (by rw [valV_one]; rfl)).t (fun hk => by cases hk) fun _ => sxs_nil ?_)
  exact sxs_one (sx_ret (ex_dgetR (ex_fld OC.c OC.forms (ex_var 0 rfl) hOC (f := "forms") (by rfl) s_forms) (ex_var 1 rfl) rd rfl (valV_one _ _) (.dat dq) hu1) fun s w => w)
abbrev s_Office_case_of : Stmt := inClass (topS 67) 2
abbrev N_Office_case_of : List Str := ["self", "number"]
theorem sc_Office_case_of : FnScope N_Office_case_of ["self", "number"] (defScope s_Office_case_of) := ⟨rfl, rfl, rfl, by decide +kernel, rfl, by decide +kernel, by decide +kernel⟩
theorem hb_Office_case_of (kV doc pm : Value) (an : Option Addr) (cdv ct : Value) (us : List Value) (hl : us.length = 2) : bindArgs (PySem.W.fnOf "case_of" "Office.case_of" (defArgs s_Office_case_of) (defBody s_Office_case_of) (defScope s_Office_case_of) .none kV doc pm an cdv ct) ⟨us, []⟩ = pure ((["self", "number"] : List Str).zip us) := match us, hl with
  | [_, _], _ => rfl
def R_case_of (p : Plc) : PSpec := fun G ss W => ∃ (n : Int) (ca : Addr), ss = [.raw (.ref p.oa), di n] ∧ OffAt p G ∧ FileAt p G n ca ∧ W = (· = .raw (.ref ca))
theorem ok_case_of (B : Bt mg) (OC : OffC K p.CO) (Dd : MetAt K p.CO "case_of" "Office.case_of" s_Office_case_of) : Mt P w K mg base p.CO "case_of" ["self", "number"] (R_case_of p) 1 := by
  refine mt_mk Dd sc_Office_case_of (fun G ss W ⟨_, _, e, _⟩ => by rw [e]; rfl) hb_Office_case_of fun f cdv A outer s H hr G ss W h => ?_
  obtain ⟨n, ca, rfl, oo, rd, rfl⟩ := h
  obtain ⟨dx, hOC⟩ := oo
  have hu1 := hu_of1 hr
  have s_cases : Sv K G (.ref p.cd) (.raw (.ref p.cd)) := .raw _
  refine sxs_cons (sx_if (k := false) (EB.cast (eb_dninR (ex_var 1 rfl) (ex_fld OC.c OC.cases (ex_var 0 rfl) hOC (f := "cases") (by rfl) s_cases) rd rfl hu1) (by rw [valV_one]; rfl)).t (fun hk => by cases hk) fun _ => sxs_nil ?_)
  exact sxs_one (sx_ret (ex_dgetR (ex_fld OC.c OC.cases (ex_var 0 rfl) hOC (f := "cases") (by rfl) s_cases) (ex_var 1 rfl) rd rfl (valV_one _ _) (.raw _) hu1) fun s w => w)
abbrev s_Office_lists : Stmt := inClass (topS 67) 3
abbrev N_Office_lists : List Str := ["self", "parts", "act"]
theorem sc_Office_lists : FnScope N_Office_lists ["self", "parts"] (defScope s_Office_lists) := ⟨rfl, rfl, rfl, by decide +kernel, rfl, by decide +kernel, by decide +kernel⟩
theorem hb_Office_lists (kV doc pm : Value) (an : Option Addr) (cdv ct : Value) (us : List Value) (hl : us.length = 2) : bindArgs (PySem.W.fnOf "lists" "Office.lists" (defArgs s_Office_lists) (defBody s_Office_lists) (defScope s_Office_lists) .none kV doc pm an cdv ct) ⟨us, []⟩ = pure ((["self", "parts"] : List Str).zip us) := match us, hl with
  | [_, _], _ => rfl
def R_lists (p : Plc) : PSpec := fun G ss W => ∃ (acts : List Str) (crew : List Int) (bk : List Rule), ss = [.raw (.ref p.oa), .dat (lsD acts)] ∧ OffAt p G ∧ StfAt p G crew bk ∧ acts.length ≤ 100 ∧ W = (· = .dat (llD (mayL crew bk acts)))
theorem ok_lists (B : Bt mg) (OC : OffC K p.CO) (Dd : MetAt K p.CO "lists" "Office.lists" s_Office_lists) (F_who : Mt P w K mg base p.CS "who" ["self", "act"] (R_who p.CS) 7) : Mt P w K mg base p.CO "lists" ["self", "parts"] (R_lists p) 8 := by
  refine mt_mk Dd sc_Office_lists (fun G ss W ⟨_, _, _, e, _⟩ => by rw [e]; rfl) hb_Office_lists fun f cdv A outer s H hr G ss W h => ?_
  obtain ⟨acts, crew, bk, rfl, oo, st, hz, rfl⟩ := h
  obtain ⟨dx, hOC⟩ := oo
  obtain ⟨dx', v1, v2, v3, t, hSC, _⟩ := id st.ex
  have nd := (sc_Office_lists).nd
  have s_team : Sv K G (.ref p.sa) (.raw (.ref p.sa)) := .raw _
  refine sxs_one (sx_ret (ex_lc 2 (fun _ => true) (fun a => liD (whoF crew bk a)) (ix_lstM (ex_var 1 rfl)) (by omega) (blkOk_by (N := N_Office_lists) (sc := defScope s_Office_lists) (by decide +kernel)) (fun y hy s H C cl fp => rfl) (fun y hy hq s H C cl fp => EX.cast (exw_met F_who hr (ex_fld OC.c OC.team (ex_var 0 rfl) hOC (f := "team") (by rfl) s_team) hSC (by rfl) (ea_cons (ex_var 2 rfl) ea_nil) fun G' sm => ⟨p.sa, crew, bk, y, rfl, st.mono sm, rfl⟩) rfl) (fun s H C cl fp => pg_name nd rfl (Or.inl rfl)) nd) fun s w => ?_)
  subst w
  rw [List.filter_eq_self.mpr fun _ _ => rfl]
  show _ = Ds.dat (.list ((acts.map (whoF crew bk)).map liD))
  rw [List.map_map]
  rfl
abbrev s_Office_told : Stmt := inClass (topS 67) 4
abbrev N_Office_told : List Str := ["self", "one", "marks"]
theorem sc_Office_told : FnScope N_Office_told ["self", "one", "marks"] (defScope s_Office_told) := ⟨rfl, rfl, rfl, by decide +kernel, rfl, by decide +kernel, by decide +kernel⟩
theorem hb_Office_told (kV doc pm : Value) (an : Option Addr) (cdv ct : Value) (us : List Value) (hl : us.length = 3) : bindArgs (PySem.W.fnOf "told" "Office.told" (defArgs s_Office_told) (defBody s_Office_told) (defScope s_Office_told) .none kV doc pm an cdv ct) ⟨us, []⟩ = pure ((["self", "one", "marks"] : List Str).zip us) := match us, hl with
  | [_, _, _], _ => rfl
def R_told (p : Plc) : PSpec := fun G ss W => ∃ (ca : Addr) (acts : List Str) (order : List (Nat × Nat)) (ties : List Tie) (marks done : List (Option Int)) (crew : List Int) (bk : List Rule), ss = [.raw (.ref p.oa), .raw (.ref ca), .dat (loD done)] ∧ OffAt p G ∧ StfAt p G crew bk ∧ CaseAt p.CC G ca acts order ties marks ∧ done.length = acts.length ∧
  W = W_plan (heldF (mayL crew bk acts) done) ties []
theorem ok_told (B : Bt mg) (OC : OffC K p.CO) (CC : CaseC K p.CC) (Dd : MetAt K p.CO "told" "Office.told" s_Office_told) (F_lists : Mt P w K mg base p.CO "lists" ["self", "parts"] (R_lists p) 8) (F_held : Fn P w K mg base "held" ["may", "done"] R_held 1) (F_plan : Fn P w K mg base "plan" ["may", "ties"] R_plan 10) : Mt P w K mg base p.CO "told" ["self", "one", "marks"] (R_told p) 11 := by
  refine mt_mk Dd sc_Office_told (fun G ss W ⟨_, _, _, _, _, _, _, _, e, _⟩ => by rw [e]; rfl) hb_Office_told fun f cdv A outer s H hr10 G ss W h => ?_
  obtain ⟨ca, acts, order, ties, marks, done, crew, bk, rfl, oo, st, cs, hd, rfl⟩ := h
  obtain ⟨dx, hOC⟩ := id oo
  obtain ⟨dx', v1, v2, v3, v4, hCC, d1, d2, d3, d4⟩ := id cs.ex
  have hr8 := hr10.mono (show 8 ≤ 10 by decide)
  have hr1 := hr10.mono (show 1 ≤ 10 by decide)
  have s_parts : Sv K G v1 (.dat (lsD acts)) := .dat d1
  have s_bonds : Sv K G v3 (.dat (ltD ties)) := .dat d3
  have h6 := cs.ro.ac.few
  have ml := mayL_len crew bk acts
  have mo := mayL_ok (bk := bk) st.few h6
  exact sxs_one (sx_ret (ex_call F_plan hr10 (ea_cons (ex_call F_held hr1 (ea_cons (exw_met F_lists hr8 (ex_var 0 rfl) hOC (by rfl) (ea_cons (ex_fld CC.c CC.parts (ex_var 1 rfl) hCC (f := "parts") (by rfl) s_parts) ea_nil) (W := (· = .dat (llD (mayL crew bk acts)))) fun G' sm => ⟨acts, crew, bk, rfl, oo.mono sm, st.mono sm, by omega, rfl⟩) (ea_cons (ex_var 2 rfl) ea_nil)) (W := (· = .dat (llD (heldF (mayL crew bk acts) done)))) fun G' _ => ⟨_, _, rfl, by omega, by omega, rfl⟩) (ea_cons (ex_fld CC.c CC.bonds (ex_var 1 rfl) hCC (f := "bonds") (by rfl) s_bonds) ea_nil)) (W := W_plan (heldF (mayL crew bk acts) done) ties []) fun G' _ => ⟨_, _, rfl, heldF_ok (by omega) mo, by rw [heldF_len (by omega), ml]; exact tiesOk_of cs.ro, rfl⟩) fun s w => w)
abbrev s_Office_plan_for : Stmt := inClass (topS 67) 6
abbrev N_Office_plan_for : List Str := ["self", "name", "acts", "order", "ties"]
theorem sc_Office_plan_for : FnScope N_Office_plan_for ["self", "name"] (defScope s_Office_plan_for) := ⟨rfl, rfl, rfl, by decide +kernel, rfl, by decide +kernel, by decide +kernel⟩
theorem hb_Office_plan_for (kV doc pm : Value) (an : Option Addr) (cdv ct : Value) (us : List Value) (hl : us.length = 2) : bindArgs (PySem.W.fnOf "plan_for" "Office.plan_for" (defArgs s_Office_plan_for) (defBody s_Office_plan_for) (defScope s_Office_plan_for) .none kV doc pm an cdv ct) ⟨us, []⟩ = pure ((["self", "name"] : List Str).zip us) := match us, hl with
  | [_, _], _ => rfl
def R_plan_for (p : Plc) : PSpec := fun G ss W => ∃ (name : Str) (acts : List Str) (order : List (Nat × Nat)) (ties : List Tie) (crew : List Int) (bk : List Rule), ss = [.raw (.ref p.oa), ds name] ∧ OffAt p G ∧ StfAt p G crew bk ∧ FormAt p G name acts order ties ∧ W = W_plan (mayL crew bk acts) ties []
theorem ok_plan_for (B : Bt mg) (OC : OffC K p.CO) (Dd : MetAt K p.CO "plan_for" "Office.plan_for" s_Office_plan_for) (F_form : Mt P w K mg base p.CO "form" ["self", "name"] (R_form p) 1) (F_lists : Mt P w K mg base p.CO "lists" ["self", "parts"] (R_lists p) 8) (F_plan : Fn P w K mg base "plan" ["may", "ties"] R_plan 10) : Mt P w K mg base p.CO "plan_for" ["self", "name"] (R_plan_for p) 11 := by
  refine mt_mk Dd sc_Office_plan_for (fun G ss W ⟨_, _, _, _, _, _, e, _⟩ => by rw [e]; rfl) hb_Office_plan_for fun f cdv A outer s H hr10 G ss W h => ?_
  obtain ⟨name, acts, order, ties, crew, bk, rfl, oo, st, fo, rfl⟩ := h
  obtain ⟨dx, hOC⟩ := id oo
  have nd := (sc_Office_plan_for).nd
  have hr8 := hr10.mono (show 8 ≤ 10 by decide)
  have hr1 := hr10.mono (show 1 ≤ 10 by decide)
  have ro := fo.1
  have h6 := ro.ac.few
  have ml := mayL_len crew bk acts
  have mo := mayL_ok (bk := bk) st.few h6
  refine sxs_cons (sx_unp (W := (· = .dat (.tuple [lsD acts, lpD order, ltD ties]))) (exw_met F_form hr1 (ex_var 0 rfl) hOC (by rfl) (ea_cons (ex_var 1 rfl) ea_nil) fun G' sm => ⟨name, acts, order, ties, rfl, oo.mono sm, fo.mono sm, rfl⟩) fun s w => ?_)
  subst w
  refine ⟨_, tx_tup (txs_cons (tx_name 2 nd) (txs_cons (tx_name 3 nd) (txs_cons (tx_name 4 nd) txs_nil))), ?_⟩
  exact sxs_one (sx_ret (ex_call F_plan hr10 (ea_cons (exw_met F_lists hr8 (ex_var 0 rfl) hOC (by rfl) (ea_cons (ex_var 2 rfl) ea_nil) (W := (· = .dat (llD (mayL crew bk acts)))) fun G' sm => ⟨acts, crew, bk, rfl, oo.mono sm, st.mono sm, by omega, rfl⟩) (ea_cons (ex_var 4 rfl) ea_nil)) (W := W_plan (mayL crew bk acts) ties []) fun G' _ => ⟨_, _, rfl, mo, by rw [ml]; exact tiesOk_of ro, rfl⟩) fun s w => w)
end
end Dl
namespace Dl
open PySem PySem.Spec PyProof.Rows L2
section
variable {P : Program} {w : World} {K : PySem.W.Frag} {mg : Str → Option Value} {base : Heap} {p : Plc}
abbrev s_Office_why : Stmt := inClass (topS 67) 9
abbrev N_Office_why : List Str := ["self", "number", "act", "badge", "one", "step"]
theorem sc_Office_why : FnScope N_Office_why ["self", "number", "act", "badge"] (defScope s_Office_why) := ⟨rfl, rfl, rfl, by decide +kernel, rfl, by decide +kernel, by decide +kernel⟩
theorem hb_Office_why (kV doc pm : Value) (an : Option Addr) (cdv ct : Value) (us : List Value) (hl : us.length = 4) : bindArgs (PySem.W.fnOf "why" "Office.why" (defArgs s_Office_why) (defBody s_Office_why) (defScope s_Office_why) .none kV doc pm an cdv ct) ⟨us, []⟩ = pure ((["self", "number", "act", "badge"] : List Str).zip us) := match us, hl with
  | [_, _, _, _], _ => rfl
def R_why (p : Plc) : PSpec := fun G ss W => ∃ (n : Int) (ca : Addr) (acts : List Str) (order : List (Nat × Nat)) (ties : List Tie) (marks : List (Option Int)) (crew : List Int) (bk : List Rule) (k : Nat) (b : Int), ss = [.raw (.ref p.oa), di n, ds (actAt acts k), di b] ∧
  OffAt p G ∧ StfAt p G crew bk ∧ FileAt p G n ca ∧ CaseAt p.CC G ca acts order ties marks ∧ marks[k]? = some none ∧ k ∈ readyF order marks ∧ mayF crew bk b (actAt acts k) = true ∧ W = W_plan (heldF (mayL crew bk acts) (marks.set k (some b))) ties []
theorem ok_why (B : Bt mg) (OC : OffC K p.CO) (CC : CaseC K p.CC) (Dd : MetAt K p.CO "why" "Office.why" s_Office_why) (F_case_of : Mt P w K mg base p.CO "case_of" ["self", "number"] (R_case_of p) 1) (F_due_place : Mt P w K mg base p.CC "due_place" ["self", "act"] (R_due_place p.CC) 3)
    (F_clerks : Mt P w K mg base p.CS "clerks" ["self"] (R_clerks p.CS) 1) (F_may : Mt P w K mg base p.CS "may" ["self", "badge", "act"] (R_may p.CS) 6) (F_marked : Mt P w K mg base p.CC "marked" ["self", "step", "badge"] (R_marked p.CC) 1) (F_told : Mt P w K mg base p.CO "told" ["self", "one", "marks"] (R_told p) 11) :
    Mt P w K mg base p.CO "why" ["self", "number", "act", "badge"] (R_why p) 12 := by
  refine mt_mk Dd sc_Office_why (fun G ss W ⟨_, _, _, _, _, _, _, _, _, _, e, _⟩ => by rw [e]; rfl) hb_Office_why fun f cdv A outer s H hr11 G ss W h => ?_
  obtain ⟨n, ca, acts, order, ties, marks, crew, bk, k, b, rfl, oo, st, fi, cs, hm, hrd, hmay, rfl⟩ := h
  obtain ⟨dx, hOC⟩ := id oo
  obtain ⟨dx', v1, v2, v3, v4, hCC, _⟩ := id cs.ex
  obtain ⟨dx2, u1, u2, u3, t, hSC, _⟩ := id st.ex
  have nd := (sc_Office_why).nd
  have hr6 := hr11.mono (show 6 ≤ 11 by decide)
  have hr3 := hr11.mono (show 3 ≤ 11 by decide)
  have hr1 := hr11.mono (show 1 ≤ 11 by decide)
  have s_team : Sv K G (.ref p.sa) (.raw (.ref p.sa)) := .raw _
  have hl := cs.len
  have hk : k < acts.length := by
    have := (List.getElem?_eq_some_iff.mp hm).1
    omega
  have hcr : b ∈ crew := of_decide_eq_true (Bool.and_eq_true_iff.mp hmay).1
  refine sxs_cons (sx_asg 4 (W := (· = .raw (.ref ca))) (exw_met F_case_of hr1 (ex_var 0 rfl) hOC (by rfl) (ea_cons (ex_var 1 rfl) ea_nil) fun G' sm => ⟨n, ca, rfl, oo.mono sm, fi.mono sm, rfl⟩) (fun s w => ?_) nd)
  subst w
  refine sxs_cons (sx_asg 5 (W := (· = di (k : Nat))) (exw_met F_due_place hr3 (ex_var 4 rfl) hCC (by rfl) (ea_cons (ex_var 2 rfl) ea_nil) fun G' sm => ⟨ca, acts, order, ties, marks, k, rfl, cs.mono sm, hm, hrd, rfl⟩) (fun s w => ?_) nd)
  subst w
  refine sxs_cons (sx_if (k := false) (EB.cast (eb_ninI (ns := crew) (ex_var 3 rfl) (exw_met0 F_clerks hr1 (ex_fld OC.c OC.team (ex_var 0 rfl) hOC (f := "team") (by rfl) s_team) hSC (by rfl) fun G' sm => ⟨p.sa, crew, bk, rfl, st.mono sm, rfl⟩)) (by rw [decide_eq_true hcr]; rfl)).t (fun hk => by cases hk) fun _ => sxs_nil ?_)
  refine sxs_cons (sx_if (k := false) (EB.cast (eb_not (c1 := mayF crew bk b (actAt acts k)) (eb_of (exw_met F_may hr6 (ex_fld OC.c OC.team (ex_var 0 rfl) hOC (f := "team") (by rfl) s_team) hSC (by rfl) (ea_cons (ex_var 3 rfl) (ea_cons (ex_var 2 rfl) ea_nil)) fun G' sm => ⟨p.sa, crew, bk, b, actAt acts k, rfl, st.mono sm, rfl⟩))) (by rw [hmay]; rfl)).t (fun hk => by cases hk) fun _ => sxs_nil ?_)
  exact sxs_one (sx_ret (exw_met F_told hr11 (ex_var 0 rfl) hOC (by rfl) (ea_cons (ex_var 4 rfl) (ea_cons (exw_met F_marked hr1 (ex_var 4 rfl) hCC (by rfl) (ea_cons (ex_var 5 rfl) (ea_cons (ex_var 3 rfl) ea_nil)) (W := (· = .dat (loD (marks.set k (some b))))) fun G' sm => ⟨ca, acts, order, ties, marks, k, b, rfl, cs.mono sm, hk, rfl⟩) ea_nil)) (W := W_plan (heldF (mayL crew bk acts) (marks.set k (some b))) ties []) fun G' sm => ⟨ca, acts, order, ties, marks, _, crew, bk, rfl, oo.mono sm, st.mono sm, cs.mono sm, by rw [List.length_set]; exact hl, rfl⟩) fun s w => w)
abbrev s_Office_plan_of : Stmt := inClass (topS 67) 16
abbrev N_Office_plan_of : List Str := ["self", "number", "one"]
theorem sc_Office_plan_of : FnScope N_Office_plan_of ["self", "number"] (defScope s_Office_plan_of) := ⟨rfl, rfl, rfl, by decide +kernel, rfl, by decide +kernel, by decide +kernel⟩
theorem hb_Office_plan_of (kV doc pm : Value) (an : Option Addr) (cdv ct : Value) (us : List Value) (hl : us.length = 2) : bindArgs (PySem.W.fnOf "plan_of" "Office.plan_of" (defArgs s_Office_plan_of) (defBody s_Office_plan_of) (defScope s_Office_plan_of) .none kV doc pm an cdv ct) ⟨us, []⟩ = pure ((["self", "number"] : List Str).zip us) := match us, hl with
  | [_, _], _ => rfl
def R_plan_of (p : Plc) : PSpec := fun G ss W => ∃ (n : Int) (ca : Addr) (acts : List Str) (order : List (Nat × Nat)) (ties : List Tie) (marks : List (Option Int)) (crew : List Int) (bk : List Rule), ss = [.raw (.ref p.oa), di n] ∧
  OffAt p G ∧ StfAt p G crew bk ∧ FileAt p G n ca ∧ CaseAt p.CC G ca acts order ties marks ∧ W = W_plan (heldF (mayL crew bk acts) marks) ties []
theorem ok_plan_of (B : Bt mg) (OC : OffC K p.CO) (CC : CaseC K p.CC) (Dd : MetAt K p.CO "plan_of" "Office.plan_of" s_Office_plan_of) (F_case_of : Mt P w K mg base p.CO "case_of" ["self", "number"] (R_case_of p) 1) (F_told : Mt P w K mg base p.CO "told" ["self", "one", "marks"] (R_told p) 11) : Mt P w K mg base p.CO "plan_of" ["self", "number"] (R_plan_of p) 12 := by
  refine mt_mk Dd sc_Office_plan_of (fun G ss W ⟨_, _, _, _, _, _, _, _, e, _⟩ => by rw [e]; rfl) hb_Office_plan_of fun f cdv A outer s H hr11 G ss W h => ?_
  obtain ⟨n, ca, acts, order, ties, marks, crew, bk, rfl, oo, st, fi, cs, rfl⟩ := h
  obtain ⟨dx, hOC⟩ := id oo
  obtain ⟨dx', v1, v2, v3, v4, hCC, d1, d2, d3, d4⟩ := id cs.ex
  have nd := (sc_Office_plan_of).nd
  have hr1 := hr11.mono (show 1 ≤ 11 by decide)
  have s_marks : Sv K G v4 (.dat (loD marks)) := .dat d4
  refine sxs_cons (sx_asg 2 (W := (· = .raw (.ref ca))) (exw_met F_case_of hr1 (ex_var 0 rfl) hOC (by rfl) (ea_cons (ex_var 1 rfl) ea_nil) fun G' sm => ⟨n, ca, rfl, oo.mono sm, fi.mono sm, rfl⟩) (fun s w => ?_) nd)
  subst w
  exact sxs_one (sx_ret (W := W_plan (heldF (mayL crew bk acts) marks) ties []) (exw_met F_told hr11 (ex_var 0 rfl) hOC (by rfl) (ea_cons (ex_var 2 rfl) (ea_cons (ex_fld CC.c CC.marks (ex_var 2 rfl) hCC (f := "marks") (by rfl) s_marks) ea_nil)) fun G' sm => ⟨ca, acts, order, ties, marks, marks, crew, bk, rfl, oo.mono sm, st.mono sm, cs.mono sm, cs.len, rfl⟩) fun s w => w)
abbrev s_Office_mend_of : Stmt := inClass (topS 67) 18
abbrev N_Office_mend_of : List Str := ["self", "number", "one"]
theorem sc_Office_mend_of : FnScope N_Office_mend_of ["self", "number"] (defScope s_Office_mend_of) := ⟨rfl, rfl, rfl, by decide +kernel, rfl, by decide +kernel, by decide +kernel⟩
theorem hb_Office_mend_of (kV doc pm : Value) (an : Option Addr) (cdv ct : Value) (us : List Value) (hl : us.length = 2) : bindArgs (PySem.W.fnOf "mend_of" "Office.mend_of" (defArgs s_Office_mend_of) (defBody s_Office_mend_of) (defScope s_Office_mend_of) .none kV doc pm an cdv ct) ⟨us, []⟩ = pure ((["self", "number"] : List Str).zip us) := match us, hl with
  | [_, _], _ => rfl
def R_mend_of (p : Plc) : PSpec := fun G ss W => ∃ (n : Int) (ca : Addr) (acts : List Str) (order : List (Nat × Nat)) (ties : List Tie) (marks : List (Option Int)) (crew : List Int) (bk : List Rule), ss = [.raw (.ref p.oa), di n] ∧
  OffAt p G ∧ StfAt p G crew bk ∧ FileAt p G n ca ∧ CaseAt p.CC G ca acts order ties marks ∧ W = W_mend (mayL crew bk acts) ties order marks
theorem ok_mend_of (B : Bt mg) (OC : OffC K p.CO) (CC : CaseC K p.CC) (Dd : MetAt K p.CO "mend_of" "Office.mend_of" s_Office_mend_of) (F_case_of : Mt P w K mg base p.CO "case_of" ["self", "number"] (R_case_of p) 1) (F_lists : Mt P w K mg base p.CO "lists" ["self", "parts"] (R_lists p) 8) (F_mend : Fn P w K mg base "mend" ["may", "ties", "order", "done"] R_mend 11) :
    Mt P w K mg base p.CO "mend_of" ["self", "number"] (R_mend_of p) 12 := by
  refine mt_mk Dd sc_Office_mend_of (fun G ss W ⟨_, _, _, _, _, _, _, _, e, _⟩ => by rw [e]; rfl) hb_Office_mend_of fun f cdv A outer s H hr11 G ss W h => ?_
  obtain ⟨n, ca, acts, order, ties, marks, crew, bk, rfl, oo, st, fi, cs, rfl⟩ := h
  obtain ⟨dx, hOC⟩ := id oo
  obtain ⟨dx', v1, v2, v3, v4, hCC, d1, d2, d3, d4⟩ := id cs.ex
  have nd := (sc_Office_mend_of).nd
  have hr1 := hr11.mono (show 1 ≤ 11 by decide)
  have hr8 := hr11.mono (show 8 ≤ 11 by decide)
  have hr := hr11
  have s_parts : Sv K G v1 (.dat (lsD acts)) := .dat d1
  have s_rows : Sv K G v2 (.dat (lpD order)) := .dat d2
  have s_bonds : Sv K G v3 (.dat (ltD ties)) := .dat d3
  have s_marks : Sv K G v4 (.dat (loD marks)) := .dat d4
  have ro := cs.ro
  have h6 := ro.ac.few
  have hl := cs.len
  have ml := mayL_len crew bk acts
  have mo := mayL_ok (bk := bk) st.few h6
  refine sxs_cons (sx_asg 2 (W := (· = .raw (.ref ca))) (exw_met F_case_of hr1 (ex_var 0 rfl) hOC (by rfl) (ea_cons (ex_var 1 rfl) ea_nil) fun G' sm => ⟨n, ca, rfl, oo.mono sm, fi.mono sm, rfl⟩) (fun s w => ?_) nd)
  subst w
  exact sxs_one (sx_ret (W := W_mend (mayL crew bk acts) ties order marks) (ex_call F_mend hr (ea_cons (exw_met F_lists hr8 (ex_var 0 rfl) hOC (by rfl) (ea_cons (ex_fld CC.c CC.parts (ex_var 2 rfl) hCC (f := "parts") (by rfl) s_parts) ea_nil) (W := (· = .dat (llD (mayL crew bk acts)))) fun G' sm => ⟨acts, crew, bk, rfl, oo.mono sm, st.mono sm, by omega, rfl⟩) (ea_cons (ex_fld CC.c CC.bonds (ex_var 2 rfl) hCC (f := "bonds") (by rfl) s_bonds) (ea_cons (ex_fld CC.c CC.rows (ex_var 2 rfl) hCC (f := "rows") (by rfl) s_rows) (ea_cons (ex_fld CC.c CC.marks (ex_var 2 rfl) hCC (f := "marks") (by rfl) s_marks) ea_nil)))) fun G' sm => ⟨_, _, _, _, rfl, mo, by rw [ml]; exact tiesOk_of ro, by omega, fun q hq => by rw [hl]; exact ro.lt2 q hq, rfl⟩) fun s w => w)
abbrev s_Office_is_stuck : Stmt := inClass (topS 67) 20
abbrev N_Office_is_stuck : List Str := ["self", "one"]
theorem sc_Office_is_stuck : FnScope N_Office_is_stuck ["self", "one"] (defScope s_Office_is_stuck) := ⟨rfl, rfl, rfl, by decide +kernel, rfl, by decide +kernel, by decide +kernel⟩
theorem hb_Office_is_stuck (kV doc pm : Value) (an : Option Addr) (cdv ct : Value) (us : List Value) (hl : us.length = 2) : bindArgs (PySem.W.fnOf "is_stuck" "Office.is_stuck" (defArgs s_Office_is_stuck) (defBody s_Office_is_stuck) (defScope s_Office_is_stuck) .none kV doc pm an cdv ct) ⟨us, []⟩ = pure ((["self", "one"] : List Str).zip us) := match us, hl with
  | [_, _], _ => rfl
open Classical in
noncomputable def noPlan (may : List (List Int)) (ties : List Tie) : Bool := decide (¬ ∃ hands, PlanOk may ties hands)
noncomputable def stuckB (may : List (List Int)) (ties : List Tie) (marks : List (Option Int)) : Bool := decide (none ∈ marks) && noPlan (heldF may marks) ties
def R_is_stuck (p : Plc) : PSpec := fun G ss W => ∃ (ca : Addr) (acts : List Str) (order : List (Nat × Nat)) (ties : List Tie) (marks : List (Option Int)) (crew : List Int) (bk : List Rule), ss = [.raw (.ref p.oa), .raw (.ref ca)] ∧
  OffAt p G ∧ StfAt p G crew bk ∧ CaseAt p.CC G ca acts order ties marks ∧ W = (· = db (stuckB (mayL crew bk acts) ties marks))
open Classical in
theorem noPlan_iff {may : List (List Int)} {ties : List Tie} : noPlan may ties = true ↔ ¬ ∃ hands, PlanOk may ties hands := by
  unfold noPlan
  exact decide_eq_true_iff
theorem noPlan_word {may : List (List Int)} {ties : List Tie} {s : Ds} (h : W_plan may ties [] s) : IxD s 0 (ds (if noPlan may ties = true then "none" else "plan")) := by
  rcases h with ⟨hands, pl, rfl⟩ | ⟨pa, sh, rfl⟩
  · rw [if_neg fun z => (noPlan_iff.mp z) ⟨hands, pl⟩]
    exact .tup rfl
  · rw [if_pos (noPlan_iff.mpr fun ⟨hands, pl⟩ => shows_none pl sh)]
    exact .tup rfl
theorem ok_is_stuck (B : Bt mg) (OC : OffC K p.CO) (CC : CaseC K p.CC) (Dd : MetAt K p.CO "is_stuck" "Office.is_stuck" s_Office_is_stuck) (F_is_finished : Mt P w K mg base p.CC "is_finished" ["self"] (R_is_finished p.CC) 1) (F_told : Mt P w K mg base p.CO "told" ["self", "one", "marks"] (R_told p) 11) : Mt P w K mg base p.CO "is_stuck" ["self", "one"] (R_is_stuck p) 12 := by
  refine mt_mk Dd sc_Office_is_stuck (fun G ss W ⟨_, _, _, _, _, _, _, e, _⟩ => by rw [e]; rfl) hb_Office_is_stuck fun f cdv A outer s H hr11 G ss W h => ?_
  obtain ⟨ca, acts, order, ties, marks, crew, bk, rfl, oo, st, cs, rfl⟩ := h
  obtain ⟨dx, hOC⟩ := id oo
  obtain ⟨dx', v1, v2, v3, v4, hCC, d1, d2, d3, d4⟩ := id cs.ex
  have hr1 := hr11.mono (show 1 ≤ 11 by decide)
  have s_marks : Sv K G v4 (.dat (loD marks)) := .dat d4
  have hl := cs.len
  have ml := mayL_len crew bk acts
  refine sxs_one (sx_ret (EX.cast (eb_bop (ew_and (eb_not (c1 := !decide (none ∈ marks)) (eb_of (exw_met0 F_is_finished hr1 (ex_var 1 rfl) hCC (by rfl) fun G' sm => ⟨ca, acts, order, ties, marks, rfl, cs.mono sm, rfl⟩))) fun hc => ew_and1 (eb_eqS (x := if noPlan (heldF (mayL crew bk acts) marks) ties = true then "none" else "plan") (ex_ixW (W := W_plan (heldF (mayL crew bk acts) marks) ties []) (exw_met F_told hr11 (ex_var 0 rfl) hOC (by rfl) (ea_cons (ex_var 1 rfl) (ea_cons (ex_fld CC.c CC.marks (ex_var 1 rfl) hCC (f := "marks") (by rfl) s_marks) ea_nil)) fun G' sm => ⟨ca, acts, order, ties, marks, marks, crew, bk, rfl, oo.mono sm, st.mono sm, cs.mono sm, hl, rfl⟩) ex_int fun s w => noPlan_word w) ex_str))).v ?_) fun s w => w)
  unfold stuckB
  rw [Bool.not_not]
  cases noPlan (heldF (mayL crew bk acts) marks) ties with
  | true =>
    rw [if_pos rfl, decide_eq_true rfl]
  | false =>
    rw [if_neg Bool.false_ne_true, decide_eq_false (show (Str.ofString "plan") ≠ Str.ofString "none" by decide +kernel)]
theorem StaffAt.lock {CS : Addr} {G : Hp} {r d : Addr} {crew : List Int} {bk : List Rule} {kvs : List (Key × V)} {u' : HO} (h : StaffAt CS G r crew bk) (hd : G d = some (.dK kvs)) (hne : kvs ≠ []) : StaffAt CS (upd G d u') r crew bk := by
  obtain ⟨⟨dx, v1, v2, v3, t, h0, h1, h2, h3, h4⟩, a, b, c⟩ := h
  obtain ⟨m1, m2⟩ := lockL (u' := u') hd (fun _ z => by cases z) (fun _ z => by cases z)
  refine ⟨⟨dx, v1, v2, v3, t, ?_, Dq.monoL m1 m2 _ _ h1, Dq.monoL m1 m2 _ _ h2, Dq.monoL m1 m2 _ _ h3, ?_⟩, a, b, c⟩
  · rw [upd_ne fun z => ins_ne h0 hd z.symm]
    exact h0
  · rw [upd_ne fun z => by
      rw [z, hd] at h4
      injection h4 with h4
      injection h4 with h4
      exact hne h4]
    exact h4
theorem CaseAt.lock {CC : Addr} {G : Hp} {r d : Addr} {acts : List Str} {order : List (Nat × Nat)} {ties : List Tie} {marks : List (Option Int)} {kvs : List (Key × V)} {u' : HO} (h : CaseAt CC G r acts order ties marks) (hd : G d = some (.dK kvs)) : CaseAt CC (upd G d u') r acts order ties marks := by
  obtain ⟨⟨dx, v1, v2, v3, t, h0, h1, h2, h3, h4⟩, a, b⟩ := h
  obtain ⟨m1, m2⟩ := lockL (u' := u') hd (fun _ z => by cases z) (fun _ z => by cases z)
  refine ⟨⟨dx, v1, v2, v3, t, ?_, Dq.monoL m1 m2 _ _ h1, Dq.monoL m1 m2 _ _ h2, Dq.monoL m1 m2 _ _ h3, Dq.monoL m1 m2 _ _ h4⟩, a, b⟩
  rw [upd_ne fun z => ins_ne h0 hd z.symm]
  exact h0
abbrev s_Office_stuck : Stmt := inClass (topS 67) 19
abbrev N_Office_stuck : List Str := ["self", "number"]
theorem sc_Office_stuck : FnScope N_Office_stuck ["self"] (defScope s_Office_stuck) := ⟨rfl, rfl, rfl, by decide +kernel, rfl, by decide +kernel, by decide +kernel⟩
theorem hb_Office_stuck (kV doc pm : Value) (an : Option Addr) (cdv ct : Value) (us : List Value) (hl : us.length = 1) : bindArgs (PySem.W.fnOf "stuck" "Office.stuck" (defArgs s_Office_stuck) (defBody s_Office_stuck) (defScope s_Office_stuck) .none kV doc pm an cdv ct) ⟨us, []⟩ = pure ((["self"] : List Str).zip us) := match us, hl with
  | [_], _ => rfl
def R_stuck (p : Plc) : PSpec := fun G ss W => ∃ (n : Int) (ca : Addr) (acts : List Str) (order : List (Nat × Nat)) (ties : List Tie) (marks : List (Option Int)) (crew : List Int) (bk : List Rule), ss = [.raw (.ref p.oa)] ∧
  OffAt p G ∧ StfAt p G crew bk ∧ G p.cd = some (.dK [(Sum.inl n, .ref ca)]) ∧ CaseAt p.CC G ca acts order ties marks ∧ W = (· = .dat (liD (if stuckB (mayL crew bk acts) ties marks = true then [n] else [])))
theorem ok_stuck (B : Bt mg) (OC : OffC K p.CO) (CC : CaseC K p.CC) (Dd : MetAt K p.CO "stuck" "Office.stuck" s_Office_stuck) (F_is_stuck : Mt P w K mg base p.CO "is_stuck" ["self", "one"] (R_is_stuck p) 12) : Mt P w K mg base p.CO "stuck" ["self"] (R_stuck p) 13 := by
  refine mt_mk Dd sc_Office_stuck (fun G ss W ⟨_, _, _, _, _, _, _, _, e, _⟩ => by rw [e]; rfl) hb_Office_stuck fun f cdv A outer s H hr G ss W h => ?_
  obtain ⟨n, ca, acts, order, ties, marks, crew, bk, rfl, oo, st, fi, cs, rfl⟩ := h
  have nd := (sc_Office_stuck).nd
  have hu1 := hu_of1 hr
  obtain ⟨dx, hOC0⟩ := id oo
  let q : Int → Bool := fun _ => stuckB (mayL crew bk acts) ties marks
  refine sxs_one (sx_ret (ex_sortI (ns := ([n] : List Int).filter q) B.sorted (ex_lock fi fun od G1 sm1 => ?_)) fun s w => ?_)
  · have fi1 := sm1 _ _ fi
    have hOC : upd G1 p.cd (.frz od (.dK [(Sum.inl n, .ref ca)])) p.oa = some (.ins p.CO dx (ofF (.ref p.sa) (.ref p.fd) (.ref p.cd))) := by
      rw [upd_ne fun z => ins_ne (sm1 _ _ hOC0) fi1 z.symm]
      exact sm1 _ _ hOC0
    have oo2 : OffAt p (upd G1 p.cd (.frz od (.dK [(Sum.inl n, .ref ca)]))) := ⟨dx, hOC⟩
    have st2 : StfAt p (upd G1 p.cd (.frz od (.dK [(Sum.inl n, .ref ca)]))) crew bk := (st.mono sm1).lock fi1 (by simp)
    have cs2 : CaseAt p.CC (upd G1 p.cd (.frz od (.dK [(Sum.inl n, .ref ca)]))) ca acts order ties marks := (cs.mono sm1).lock fi1
    have s_cases : Sv K (upd G1 p.cd (.frz od (.dK [(Sum.inl n, .ref ca)]))) (.ref p.cd) (.raw (.ref p.cd)) := .raw _
    exact ex_lc 1 (ys := [n]) (ι := fun m => di m) q PyData.int (ix_keys (ns := [n]) (ex_fld OC.c OC.cases (ex_var 0 rfl) hOC (f := "cases") (by rfl) s_cases) upd_same rfl) (Nat.le_of_ble_eq_true rfl) (blkOk_by (N := N_Office_stuck) (sc := defScope s_Office_stuck) (by decide +kernel))
      (fun y hy s H C cl fp => (eb_of (exw_met F_is_stuck hr (ex_var 0 rfl) hOC (by rfl) (ea_cons (ex_dgetR (s := .raw (.ref ca)) (ex_fld OC.c OC.cases (ex_var 0 rfl) hOC (f := "cases") (by rfl) s_cases) (ex_var 1 rfl) (.inr ⟨od, upd_same⟩) (key := Sum.inl y) rfl (by rw [List.mem_singleton.mp hy]; exact valV_one _ _) (.raw _) hu1) ea_nil) fun G' sm => ⟨ca, acts, order, ties, marks, crew, bk, rfl, oo2.mono sm, st2.mono sm, cs2.mono sm, rfl⟩)).t)
      (fun y hy hq s H C cl fp => ex_var 1 rfl) (fun s H C cl fp => pg_name nd rfl (Or.inl rfl)) nd
  · subst w
    have e : ([n] : List Int).filter q = if stuckB (mayL crew bk acts) ties marks = true then [n] else [] := by
      rw [List.filter_cons]
      rfl
    rw [e]
    split
    · rw [← sortI_one (ns := [n]) (List.Perm.refl _) (List.pairwise_singleton _ _)]
    · rw [← sortI_one (ns := []) (List.Perm.refl _) List.Pairwise.nil]
end
end Dl
namespace Dl
open PySem PySem.Spec PyProof.Rows L2
/-! ### the office, changed -/
theorem CaseAt.ch {CC : Addr} {G G' : Hp} {r d : Addr} {acts : List Str} {order : List (Nat × Nat)} {ties : List Tie} {marks : List (Option Int)} {kvs : List (Key × V)} (h : CaseAt CC G r acts order ties marks) (c : Ch G G' d) (hd : G d = some (.dK kvs)) : CaseAt CC G' r acts order ties marks := by
  obtain ⟨⟨dx, v1, v2, v3, t, h0, h1, h2, h3, h4⟩, a, b⟩ := h
  have m1 : ∀ x xs, G x = some (.lst xs) → G' x = some (.lst xs) := fun x xs e => c x _ (fun z => by rw [z, hd] at e; cases e) e
  have m2 : ∀ x xs, G x = some (.tup xs) → G' x = some (.tup xs) := fun x xs e => c x _ (fun z => by rw [z, hd] at e; cases e) e
  exact ⟨⟨dx, v1, v2, v3, t, c r _ (fun z => ins_ne h0 hd z.symm) h0, Dq.monoL m1 m2 _ _ h1, Dq.monoL m1 m2 _ _ h2, Dq.monoL m1 m2 _ _ h3, Dq.monoL m1 m2 _ _ h4⟩, a, b⟩
theorem OffAt.ch {p : Plc} {G G' : Hp} {d : Addr} {kvs : List (Key × V)} (h : OffAt p G) (c : Ch G G' d) (hd : G d = some (.dK kvs)) : OffAt p G' := h.imp fun dx e => c _ _ (fun z => ins_ne e hd z.symm) e
section
variable {P : Program} {w : World} {K : PySem.W.Frag} {mg : Str → Option Value} {base : Heap} {p : Plc}
abbrev s_Office___init__ : Stmt := inClass (topS 67) 0
abbrev N_Office___init__ : List Str := ["self", "staff"]
theorem sc_Office___init__ : FnScope N_Office___init__ ["self", "staff"] (defScope s_Office___init__) := ⟨rfl, rfl, rfl, by decide +kernel, rfl, by decide +kernel, by decide +kernel⟩
theorem hb_Office___init__ (kV doc pm : Value) (an : Option Addr) (cdv ct : Value) (us : List Value) (hl : us.length = 2) : bindArgs (PySem.W.fnOf "__init__" "Office.__init__" (defArgs s_Office___init__) (defBody s_Office___init__) (defScope s_Office___init__) .none kV doc pm an cdv ct) ⟨us, []⟩ = pure ((["self", "staff"] : List Str).zip us) := match us, hl with
  | [_, _], _ => rfl
def R_Office_init (CO : Addr) : PSpecM := fun G ss W => ∃ (r sa dx : Addr), ss = [.raw (.ref r), .raw (.ref sa)] ∧ G r = some (.ins CO dx []) ∧
  W = fun G' s => s = .dat .none ∧ Ch G G' r ∧ ∃ dx fd cd, G' r = some (.ins CO dx (ofF (.ref sa) (.ref fd) (.ref cd))) ∧ G' fd = some (.dK []) ∧ G' cd = some (.dK []) ∧ fd ≠ cd ∧ G fd = none ∧ G cd = none
theorem ok_Office_init (B : Bt mg) {CO : Addr} (OC : OffC K CO) (Dd : MakeAt K mg "Office" CO "Office.__init__" s_Office___init__) : MkM P w K mg base "Office" CO ["self", "staff"] (R_Office_init CO) 1 := by
  refine mkM_mk Dd sc_Office___init__ (fun G ss W ⟨_, _, _, e, _⟩ => by rw [e]; rfl) hb_Office___init__ fun f cdv A outer s H hr G ss W h => ?_
  obtain ⟨r, sa, dx, rfl, hi, rfl⟩ := h
  refine sxs_cons (sx_fset OC.c OC.team (ex_var 1 rfl) (ex_var 0 rfl) hi (by decide) fun G1 G2 s v1 w s1 sv1 c1 e1 => ?_)
  subst w
  cases sv1
  refine sxs_cons (sx_fsetG OC.c OC.forms exg_dict0 (ex_var 0 rfl) e1 (show 1 < 1000 by decide) fun G3 G4 s v2 w s3 sv2 c3 e3 => ?_)
  obtain ⟨fd, rfl, f1, f2⟩ := w
  cases sv2
  refine sxs_one (sx_fsetG OC.c OC.cases exg_dict0 (ex_var 0 rfl) e3 (show 2 < 1000 by decide) fun G5 G6 s v3 w s5 sv3 c5 e5 => ?_)
  obtain ⟨cd, rfl, k1, k2⟩ := w
  cases sv3
  have h1 := s1 _ _ hi
  have h3 := s3 _ _ e1
  have h5 := s5 _ _ e3
  have f4 : G4 fd = some (.dK []) := c3 fd _ (ins_ne h3 f2) f2
  have f6 : G6 fd = some (.dK []) := c5 fd _ (ins_ne h5 (s5 _ _ f4)) (s5 _ _ f4)
  have k6 : G6 cd = some (.dK []) := c5 cd _ (ins_ne h5 k2) k2
  have ne : fd ≠ cd := fun z => by rw [← z, f4] at k1; cases k1
  have g2 : ∀ b, G b ≠ none → G2 b ≠ none := fun b hb e => by
    cases q : G b with
    | none => exact hb q
    | some u =>
      by_cases z : b = r
      · rw [z, e1] at e; cases e
      · rw [c1 b u z (s1 _ _ q)] at e; cases e
  have g4 : ∀ b, G2 b ≠ none → G4 b ≠ none := fun b hb e => by
    cases q : G2 b with
    | none => exact hb q
    | some u =>
      by_cases z : b = r
      · rw [z, e3] at e; cases e
      · rw [c3 b u z (s3 _ _ q)] at e; cases e
  have n1 : G fd = none := Classical.byContradiction fun z => g2 fd z f1
  have n2 : G cd = none := Classical.byContradiction fun z => g4 cd (g2 cd z) k1
  refine fun G' s8 => ⟨rfl, ?_, dx, fd, cd, s8 _ _ e5, s8 _ _ f6, s8 _ _ k6, ne, n1, n2⟩
  exact ((Ch.of s1).trans c1).trans (((Ch.of s3).trans c3).trans (((Ch.of s5).trans c5).trans (.of s8)))
abbrev s_Office_add_round : Stmt := inClass (topS 67) 5
abbrev N_Office_add_round : List Str := ["self", "name", "text", "one"]
theorem sc_Office_add_round : FnScope N_Office_add_round ["self", "name", "text"] (defScope s_Office_add_round) := ⟨rfl, rfl, rfl, by decide +kernel, rfl, by decide +kernel, by decide +kernel⟩
theorem hb_Office_add_round (kV doc pm : Value) (an : Option Addr) (cdv ct : Value) (us : List Value) (hl : us.length = 3) : bindArgs (PySem.W.fnOf "add_round" "Office.add_round" (defArgs s_Office_add_round) (defBody s_Office_add_round) (defScope s_Office_add_round) .none kV doc pm an cdv ct) ⟨us, []⟩ = pure ((["self", "name", "text"] : List Str).zip us) := match us, hl with
  | [_, _, _], _ => rfl
def R_add_round (p : Plc) : PSpecM := fun G ss W => ∃ (name : Str) (acts : List Str) (order : List (Nat × Nat)) (ties : List Tie), ss = [.raw (.ref p.oa), ds name, ds (textF acts order ties)] ∧ OffAt p G ∧ G p.fd = some (.dK []) ∧ RoundOk acts order ties ∧
  W = fun G' s => s = .dat .none ∧ Ch G G' p.fd ∧ FormAt p G' name acts order ties ∧ ∃ v, G' p.fd = some (.dK [(Sum.inr name, v)])
theorem ok_add_round (B : Bt mg) (OC : OffC K p.CO) (Dd : MetAt K p.CO "add_round" "Office.add_round" s_Office_add_round) (F_read_round : Fn P w K mg base "read_round" ["text"] R_read_round 5) : MtM P w K mg base p.CO "add_round" ["self", "name", "text"] (R_add_round p) 6 := by
  refine mtM_mk Dd sc_Office_add_round (fun G ss W ⟨_, _, _, _, e, _⟩ => by rw [e]; rfl) hb_Office_add_round fun f cdv A outer s H hr G ss W h => ?_
  obtain ⟨name, acts, order, ties, rfl, oo, hf, ro, rfl⟩ := h
  obtain ⟨dx, hOC⟩ := id oo
  have nd := (sc_Office_add_round).nd
  have hu1 := hu_of1 hr
  have s_forms : Sv K G (.ref p.fd) (.raw (.ref p.fd)) := .raw _
  refine sxs_cons (sx_asg 3 (W := (· = .dat (.tuple [lsD acts, lpD order, ltD ties]))) (ex_call F_read_round hr (ea_cons (ex_var 2 rfl) ea_nil) fun G _ => ⟨acts, order, ties, rfl, ro, rfl⟩) (fun s w => ?_) nd)
  subst w
  refine sxs_cons (sx_if (k := false) (EB.cast (eb_dinR (ex_var 1 rfl) (ex_fld OC.c OC.forms (ex_var 0 rfl) hOC (f := "forms") (by rfl) s_forms) (.inl hf) rfl hu1) (by rfl)).t (fun hk => by cases hk) fun _ => sxs_nil ?_)
  refine sxs_cons (sx_if (k := false) (EB.cast (eb_ge (ex_lenR B.len (ex_fld OC.c OC.forms (ex_var 0 rfl) hOC (f := "forms") (by rfl) s_forms) hf) (ex_gint B.MOST_ROUNDS)) (by rfl)).t (fun hk => by cases hk) fun _ => sxs_nil ?_)
  refine sxs_one (sx_dset hu1 (ex_var 3 rfl).g (ex_fld OC.c OC.forms (ex_var 0 rfl) hOC (f := "forms") (by rfl) s_forms) (ex_var 1 rfl) (key := Sum.inr name) rfl hf (by decide) fun G2 G' s v w s2 sv c e => ?_)
  subst w
  have hf2 := s2 _ _ hf
  cases sv with
  | dat dq =>
    have m1 : ∀ x xs, G2 x = some (.lst xs) → G' x = some (.lst xs) := fun x xs e => c x _ (fun z => by rw [z, hf2] at e; cases e) e
    have m2 : ∀ x xs, G2 x = some (.tup xs) → G' x = some (.tup xs) := fun x xs e => c x _ (fun z => by rw [z, hf2] at e; cases e) e
    have e : G' p.fd = some (.dK [(Sum.inr name, v)]) := e
    exact fun G8 s8 => ⟨rfl, ((Ch.of s2).trans c).trans (.of s8), ⟨ro, v, .inl (s8 _ _ e), (Dq.monoL m1 m2 _ _ dq).mono s8⟩, v, s8 _ _ e⟩
abbrev s_Office_begin : Stmt := inClass (topS 67) 8
abbrev N_Office_begin : List Str := ["self", "number", "name", "acts", "order", "ties"]
theorem sc_Office_begin : FnScope N_Office_begin ["self", "number", "name"] (defScope s_Office_begin) := ⟨rfl, rfl, rfl, by decide +kernel, rfl, by decide +kernel, by decide +kernel⟩
theorem hb_Office_begin (kV doc pm : Value) (an : Option Addr) (cdv ct : Value) (us : List Value) (hl : us.length = 3) : bindArgs (PySem.W.fnOf "begin" "Office.begin" (defArgs s_Office_begin) (defBody s_Office_begin) (defScope s_Office_begin) .none kV doc pm an cdv ct) ⟨us, []⟩ = pure ((["self", "number", "name"] : List Str).zip us) := match us, hl with
  | [_, _, _], _ => rfl
def R_begin (p : Plc) : PSpecM := fun G ss W => ∃ (n : Int) (name : Str) (acts : List Str) (order : List (Nat × Nat)) (ties : List Tie) (crew : List Int) (bk : List Rule), ss = [.raw (.ref p.oa), di n, ds name] ∧ OffAt p G ∧ StfAt p G crew bk ∧ FormAt p G name acts order ties ∧ G p.cd = some (.dK []) ∧ (∃ hands, PlanOk (mayL crew bk acts) ties hands) ∧
  W = fun G' s => s = .dat .none ∧ Ch G G' p.cd ∧ ∃ ca, G' p.cd = some (.dK [(Sum.inl n, .ref ca)]) ∧ CaseAt p.CC G' ca acts order ties (List.replicate acts.length none)
theorem ok_begin (B : Bt mg) (OC : OffC K p.CO) (Dd : MetAt K p.CO "begin" "Office.begin" s_Office_begin) (F_form : Mt P w K mg base p.CO "form" ["self", "name"] (R_form p) 1) (F_plan_for : Mt P w K mg base p.CO "plan_for" ["self", "name"] (R_plan_for p) 11) (F_Case : MkM P w K mg base "Case" p.CC ["self", "parts", "rows", "bonds"] (R_Case_init p.CC) 1) :
    MtM P w K mg base p.CO "begin" ["self", "number", "name"] (R_begin p) 12 := by
  refine mtM_mk Dd sc_Office_begin (fun G ss W ⟨_, _, _, _, _, _, _, e, _⟩ => by rw [e]; rfl) hb_Office_begin fun f cdv A outer s H hr11 G ss W h => ?_
  obtain ⟨n, name, acts, order, ties, crew, bk, rfl, oo, st, fo, hd, hp, rfl⟩ := h
  obtain ⟨dx, hOC⟩ := id oo
  have nd := (sc_Office_begin).nd
  have hu1 := hu_of1 hr11
  have hr1 := hr11.mono (show 1 ≤ 11 by decide)
  have s_cases : Sv K G (.ref p.cd) (.raw (.ref p.cd)) := .raw _
  refine sxs_cons (sx_unp (W := (· = .dat (.tuple [lsD acts, lpD order, ltD ties]))) (exw_met F_form hr1 (ex_var 0 rfl) hOC (by rfl) (ea_cons (ex_var 2 rfl) ea_nil) fun G' sm => ⟨name, acts, order, ties, rfl, oo.mono sm, fo.mono sm, rfl⟩) fun s w => ?_)
  subst w
  refine ⟨_, tx_tup (txs_cons (tx_name 3 nd) (txs_cons (tx_name 4 nd) (txs_cons (tx_name 5 nd) txs_nil))), ?_⟩
  refine sxs_cons (sx_if (k := false) (EB.cast (eb_dinR (ex_var 1 rfl) (ex_fld OC.c OC.cases (ex_var 0 rfl) hOC (f := "cases") (by rfl) s_cases) (.inl hd) rfl hu1) (by rfl)).t (fun hk => by cases hk) fun _ => sxs_nil ?_)
  refine sxs_cons (sx_if (k := false) (EB.cast (eb_ge (ex_lenR B.len (ex_fld OC.c OC.cases (ex_var 0 rfl) hOC (f := "cases") (by rfl) s_cases) hd) (ex_gint B.MOST_FILES)) (by rfl)).t (fun hk => by cases hk) fun _ => sxs_nil ?_)
  refine sxs_cons (sx_if (k := false) (EB.cast (eb_eqS (x := if noPlan (mayL crew bk acts) ties = true then "none" else "plan") (ex_ixW (W := W_plan (mayL crew bk acts) ties []) (exw_met F_plan_for hr11 (ex_var 0 rfl) hOC (by rfl) (ea_cons (ex_var 2 rfl) ea_nil) fun G' sm => ⟨name, acts, order, ties, crew, bk, rfl, oo.mono sm, st.mono sm, fo.mono sm, rfl⟩) ex_int fun s w => noPlan_word w) ex_str) ?_).t (fun hk => by cases hk) fun _ => sxs_nil ?_)
  · rw [if_neg fun z => noPlan_iff.mp z hp]
    decide +kernel
  refine sxs_one (sx_dset hu1 (W := fun G' s => ∃ y, s = .raw (.ref y) ∧ CaseAt p.CC G' y acts order ties (List.replicate acts.length none)) (exg_make F_Case (hr11.mono (by decide)) (ea_cons (ex_var 3 rfl) (ea_cons (ex_var 4 rfl) (ea_cons (ex_var 5 rfl) ea_nil))) fun G' y dy sm hy hdy hne => ⟨_, ⟨y, dy, acts, order, ties, rfl, upd_same, fo.1, rfl⟩, fun G'' s w => ⟨w.1, w.2.1, y, rfl, w.2.2⟩⟩) (ex_fld OC.c OC.cases (ex_var 0 rfl) hOC (f := "cases") (by rfl) s_cases) (ex_var 1 rfl) (key := Sum.inl n) rfl hd (by decide) fun G2 G' s v w s2 sv c e => ?_)
  obtain ⟨y, rfl, cs⟩ := w
  cases sv
  have hd2 := s2 _ _ hd
  have e : G' p.cd = some (.dK [(Sum.inl n, .ref y)]) := e
  exact fun G8 s8 => ⟨rfl, ((Ch.of s2).trans c).trans (.of s8), y, s8 _ _ e, (cs.ch c hd2).mono s8⟩
abbrev s_Office_take : Stmt := inClass (topS 67) 10
abbrev N_Office_take : List Str := ["self", "number", "act", "badge", "one"]
theorem sc_Office_take : FnScope N_Office_take ["self", "number", "act", "badge"] (defScope s_Office_take) := ⟨rfl, rfl, rfl, by decide +kernel, rfl, by decide +kernel, by decide +kernel⟩
theorem hb_Office_take (kV doc pm : Value) (an : Option Addr) (cdv ct : Value) (us : List Value) (hl : us.length = 4) : bindArgs (PySem.W.fnOf "take" "Office.take" (defArgs s_Office_take) (defBody s_Office_take) (defScope s_Office_take) .none kV doc pm an cdv ct) ⟨us, []⟩ = pure ((["self", "number", "act", "badge"] : List Str).zip us) := match us, hl with
  | [_, _, _, _], _ => rfl
def R_take (p : Plc) : PSpecM := fun G ss W => ∃ (n : Int) (ca : Addr) (acts : List Str) (order : List (Nat × Nat)) (ties : List Tie) (marks : List (Option Int)) (crew : List Int) (bk : List Rule) (k : Nat) (b : Int), ss = [.raw (.ref p.oa), di n, ds (actAt acts k), di b] ∧
  OffAt p G ∧ StfAt p G crew bk ∧ FileAt p G n ca ∧ CaseAt p.CC G ca acts order ties marks ∧ marks[k]? = some none ∧ k ∈ readyF order marks ∧ mayF crew bk b (actAt acts k) = true ∧ (∃ hands, PlanOk (heldF (mayL crew bk acts) (marks.set k (some b))) ties hands) ∧
  W = fun G' s => s = .dat .none ∧ Ch G G' ca ∧ CaseAt p.CC G' ca acts order ties (marks.set k (some b))
theorem ok_take (B : Bt mg) (OC : OffC K p.CO) (CC : CaseC K p.CC) (Dd : MetAt K p.CO "take" "Office.take" s_Office_take) (F_why : Mt P w K mg base p.CO "why" ["self", "number", "act", "badge"] (R_why p) 12) (F_case_of : Mt P w K mg base p.CO "case_of" ["self", "number"] (R_case_of p) 1)
    (F_place : Mt P w K mg base p.CC "place" ["self", "act"] (R_place p.CC) 2) (F_marked : Mt P w K mg base p.CC "marked" ["self", "step", "badge"] (R_marked p.CC) 1) : MtM P w K mg base p.CO "take" ["self", "number", "act", "badge"] (R_take p) 13 := by
  refine mtM_mk Dd sc_Office_take (fun G ss W ⟨_, _, _, _, _, _, _, _, _, _, e, _⟩ => by rw [e]; rfl) hb_Office_take fun f cdv A outer s H hr12 G ss W h => ?_
  obtain ⟨n, ca, acts, order, ties, marks, crew, bk, k, b, rfl, oo, st, fi, cs, hm, hrd, hmay, hp, rfl⟩ := h
  obtain ⟨dx, hOC⟩ := id oo
  obtain ⟨dx', v1, v2, v3, v4, hCC, d1, d2, d3, d4⟩ := id cs.ex
  have nd := (sc_Office_take).nd
  have hr1 := hr12.mono (show 1 ≤ 12 by decide)
  have hr2 := hr12.mono (show 2 ≤ 12 by decide)
  have hl := cs.len
  have hk : k < acts.length := by
    have := (List.getElem?_eq_some_iff.mp hm).1
    omega
  refine sxs_cons (sx_if (k := false) (EB.cast (eb_eqS (x := if noPlan (heldF (mayL crew bk acts) (marks.set k (some b))) ties = true then "none" else "plan") (ex_ixW (W := W_plan (heldF (mayL crew bk acts) (marks.set k (some b))) ties []) (exw_met F_why hr12 (ex_var 0 rfl) hOC (by rfl) (ea_cons (ex_var 1 rfl) (ea_cons (ex_var 2 rfl) (ea_cons (ex_var 3 rfl) ea_nil))) fun G' sm => ⟨n, ca, acts, order, ties, marks, crew, bk, k, b, rfl, oo.mono sm, st.mono sm, fi.mono sm, cs.mono sm, hm, hrd, hmay, rfl⟩) ex_int fun s w => noPlan_word w) ex_str) ?_).t (fun hk => by cases hk) fun _ => sxs_nil ?_)
  · rw [if_neg fun z => noPlan_iff.mp z hp]
    decide +kernel
  refine sxs_cons (sx_asg 4 (W := (· = .raw (.ref ca))) (exw_met F_case_of hr1 (ex_var 0 rfl) hOC (by rfl) (ea_cons (ex_var 1 rfl) ea_nil) fun G' sm => ⟨n, ca, rfl, oo.mono sm, fi.mono sm, rfl⟩) (fun s w => ?_) nd)
  subst w
  refine sxs_one (sx_fset CC.c CC.marks (Wd := (· = .dat (loD (marks.set k (some b))))) (exw_met F_marked hr1 (ex_var 4 rfl) hCC (by rfl) (ea_cons (exw_met F_place hr2 (ex_var 4 rfl) hCC (by rfl) (ea_cons (ex_var 2 rfl) ea_nil) (W := (· = di (k : Nat))) fun G' sm => ⟨ca, acts, order, ties, marks, k, rfl, cs.mono sm, List.mem_of_getElem? hm, hk, rfl⟩) (ea_cons (ex_var 3 rfl) ea_nil)) fun G' sm => ⟨ca, acts, order, ties, marks, k, b, rfl, cs.mono sm, hk, rfl⟩) (ex_var 4 rfl) hCC (show 4 < 1000 by decide) fun G2 G' s v w s2 sv c e => ?_)
  subst w
  have h2 := s2 _ _ hCC
  have sd := c.sameD h2
  cases sv with
  | dat dq =>
    exact fun G8 s8 => ⟨rfl, ((Ch.of s2).trans c).trans (.of s8), ⟨dx', v1, v2, v3, v, s8 _ _ e, ((d1.mono s2).monoD sd).mono s8, ((d2.mono s2).monoD sd).mono s8, ((d3.mono s2).monoD sd).mono s8, (dq.monoD sd).mono s8⟩, cs.ro, by rw [List.length_set]; exact hl⟩
end
end Dl
namespace Dl
open PySem PySem.Spec PyProof.Rows L2
section
variable {P : Program} {w : World} {K : PySem.W.Frag} {mg : Str → Option Value} {base : Heap}
/-! ### the law's own defs: what checks -/
abbrev s__law_whole : Stmt := topS 84
abbrev N__law_whole : List Str := ["found"]
theorem sc__law_whole : FnScope N__law_whole ["found"] (defScope s__law_whole) := ⟨rfl, rfl, rfl, by decide +kernel, rfl, by decide +kernel, by decide +kernel⟩
theorem hb__law_whole (kV doc pm : Value) (an : Option Addr) (cdv ct : Value) (us : List Value) (hl : us.length = 1) : bindArgs (PySem.W.fnOf "_law_whole" "_law_whole" (defArgs s__law_whole) (defBody s__law_whole) (defScope s__law_whole) .none kV doc pm an cdv ct) ⟨us, []⟩ = pure ((["found"] : List Str).zip us) := match us, hl with
  | [_], _ => rfl
def R__law_whole : PSpec := fun _ ss W => ∃ (n : Int), ss = [di n] ∧ W = (· = db true)
theorem ok__law_whole (B : Bt mg) (Dd : DefAt K mg "_law_whole" s__law_whole) : Fn P w K mg base "_law_whole" ["found"] R__law_whole 1 := by
  refine fn_mk Dd sc__law_whole (fun G ss W ⟨_, e, _⟩ => by rw [e]; rfl) hb__law_whole fun f cdv A outer s H hr G ss W h => ?_
  obtain ⟨n, rfl, rfl⟩ := h
  exact sxs_one (sx_ret (eb_bop (ew_and (eb_isi (k := true) B.isinstance (ex_var 0 rfl) (ex_ty (n := "int") B.int (by decide +kernel)) (by exact (show kitB "int" "int" = some true by decide +kernel))) (fun hc => (ew_and1 (eb_not (eb_isi (k := false) B.isinstance (ex_var 0 rfl) (ex_ty (n := "bool") B.bool (by decide +kernel)) (by exact (show kitB "int" "bool" = some false by decide +kernel)))))))).v fun s w => w)
abbrev s__law_held : Stmt := topS 95
abbrev N__law_held : List Str := ["may", "done", "lists", "some", "hand"]
theorem sc__law_held : FnScope N__law_held ["may", "done"] (defScope s__law_held) := ⟨rfl, rfl, rfl, by decide +kernel, rfl, by decide +kernel, by decide +kernel⟩
theorem hb__law_held (kV doc pm : Value) (an : Option Addr) (cdv ct : Value) (us : List Value) (hl : us.length = 2) : bindArgs (PySem.W.fnOf "_law_held" "_law_held" (defArgs s__law_held) (defBody s__law_held) (defScope s__law_held) .none kV doc pm an cdv ct) ⟨us, []⟩ = pure ((["may", "done"] : List Str).zip us) := match us, hl with
  | [_, _], _ => rfl
def R__law_held : PSpec := R_held
theorem ok__law_held (B : Bt mg) (Dd : DefAt K mg "_law_held" s__law_held) : Fn P w K mg base "_law_held" ["may", "done"] R__law_held 1 := by
  refine fn_mk Dd sc__law_held (fun G ss W ⟨_, _, e, _⟩ => by rw [e]; rfl) hb__law_held fun f cdv A outer s H hr G ss W h => ?_
  obtain ⟨may, done, rfl, hl, hz, rfl⟩ := h
  have nd := (sc__law_held).nd
  refine sxs_cons (sx_own 2 exn_nil ?_ nd)
  have hz2 : ((may.map liD).zip (done.map encO)) = (may.zip done).map fun q => (liD q.1, encO q.2) := by
    rw [List.zip_map]
    rfl
  refine sxs_cons (sx_forT (ix_cast (ix_zip B.zip (ex_var 0 rfl) (ex_var 1 rfl) (by rw [List.length_map, List.length_map]; exact hl)) (ys := may.zip done) (ι := fun q => .dat (.tuple [liD q.1, encO q.2])) (by rw [hz2, List.map_map]; rfl)) (fun i Ψ B => Ψ = phS G ∧ ∃ u v, B = [.d (llD may), .d (loD done), .lst (((may.zip done).take i).map fun q => liD (match q.2 with | none => q.1 | some b => [b])), u, v]) ⟨rfl, _, _, rfl⟩ (fun i y Ψ B e iv => ?_) fun Ψ B iv => ?_)
  · obtain ⟨rfl, u, v, rfl⟩ := iv
    have et : (may.zip done).take (i + 1) = (may.zip done).take i ++ [y] := by
      rw [List.take_add_one, e]
      rfl
    have hlt : (((may.zip done).take i).map fun q => liD (match q.2 with | none => q.1 | some b => [b])).length < 100000 := by
      rw [List.length_map, List.length_take, List.length_zip]
      omega
    refine ⟨_, tx_tup (txs_cons (tx_name 3 nd) (txs_cons (tx_name 4 nd) txs_nil)), ?_⟩
    refine sxs_one (sx_if (k := y.2.isNone) (EB.cast (eb_isN (ex_var 4 rfl)) (isN_encO _)).t (fun hk => ?_) fun hk => ?_)
    · refine sxs_one (sx_app 2 rfl (ex_var 3 rfl) hlt ⟨rfl, .d (liD y.1), .d (encO y.2), ?_⟩)
      rw [et, List.map_append]
      have e2 : y.2 = none := Option.isNone_iff_eq_none.mp hk
      rw [List.map_cons, e2]
      rfl
    · refine sxs_one (sx_app 2 rfl (ex_lst (ds := [_]) (ea_cons (ex_var 4 rfl) ea_nil) (Nat.le_of_ble_eq_true rfl)) hlt ⟨rfl, .d (liD y.1), .d (encO y.2), ?_⟩)
      rw [et, List.map_append]
      cases q : y.2 with
      | none =>
        rw [q] at hk
        cases hk
      | some b =>
        rw [List.map_cons, q]
        rfl
  · obtain ⟨rfl, u, v, rfl⟩ := iv
    refine sxs_one (sx_ret (ex_var 2 rfl) fun s w => ?_)
    subst w
    rw [List.take_length]
    unfold heldF llD
    rw [List.map_map]
    rfl
abbrev s__law_marked : Stmt := topS 97
abbrev N__law_marked : List Str := ["done", "step", "badge", "k"]
theorem sc__law_marked : FnScope N__law_marked ["done", "step", "badge"] (defScope s__law_marked) := ⟨rfl, rfl, rfl, by decide +kernel, rfl, by decide +kernel, by decide +kernel⟩
theorem hb__law_marked (kV doc pm : Value) (an : Option Addr) (cdv ct : Value) (us : List Value) (hl : us.length = 3) : bindArgs (PySem.W.fnOf "_law_marked" "_law_marked" (defArgs s__law_marked) (defBody s__law_marked) (defScope s__law_marked) .none kV doc pm an cdv ct) ⟨us, []⟩ = pure ((["done", "step", "badge"] : List Str).zip us) := match us, hl with
  | [_, _, _], _ => rfl
def R__law_marked : PSpec := fun _ ss W => ∃ (done : List (Option Int)) (k : Nat) (b : Int), ss = [.dat (loD done), di (k : Nat), di b] ∧ done.length ≤ 100 ∧ W = (· = .dat (loD (done.set k (some b))))
theorem ok__law_marked (B : Bt mg) (Dd : DefAt K mg "_law_marked" s__law_marked) : Fn P w K mg base "_law_marked" ["done", "step", "badge"] R__law_marked 1 := by
  refine fn_mk Dd sc__law_marked (fun G ss W ⟨_, _, _, e, _⟩ => by rw [e]; rfl) hb__law_marked fun f cdv A outer s H hr G ss W h => ?_
  obtain ⟨done, k, b, rfl, hz, rfl⟩ := h
  have nd := (sc__law_marked).nd
  have hl : (done.map encO).length = done.length := List.length_map _
  have hb : ∀ y ∈ List.range (Int.toNat ((done.map encO).length : Nat)), y < done.length := fun y hy => by
    rw [Int.toNat_natCast, List.mem_range, hl] at hy
    exact hy
  refine sxs_one (sx_ret (ex_lc 3 (fun _ => true) (fun j => encO (if j = k then some b else done.getD j none)) (ix_range B.range (ex_len B.len (ex_var 0 rfl) (.lst _)) (by omega) (by omega)) (by rw [List.length_range]; omega) (blkOk_by (N := N__law_marked) (sc := defScope s__law_marked) (by decide +kernel)) (fun y hy s H C cl fp => rfl) (fun y hy hq s H C cl fp => EX.cast (ex_if (eb_eqI (ex_var 3 rfl) (ex_var 1 rfl)) (fun hc => EX.cast (ex_var 2 rfl) (by rw [if_pos (Int.ofNat_inj.mp (of_decide_eq_true hc))]; rfl)) (fun hc => EX.cast (ex_ixM (f := encO) (ex_var 0 rfl) (ex_var 3 rfl) (atN (getO (hb y hy)))) (by rw [if_neg fun z => (of_decide_eq_false hc) (Int.ofNat_inj.mpr z)]))) rfl) (fun s H C cl fp => pg_name nd rfl (Or.inl rfl)) nd) fun s w => ?_)
  subst w
  rw [List.filter_eq_self.mpr fun _ _ => rfl, Int.toNat_natCast, hl]
  show Ds.dat (.list _) = Ds.dat (.list ((done.set k (some b)).map encO))
  congr 2
  apply List.ext_getElem
  · simp
  · intro i h1 h2
    simp only [List.getElem_map, List.getElem_range, List.getElem_set]
    congr 1
    have hi : i < done.length := by simpa using h1
    by_cases q : i = k
    · rw [if_pos q, if_pos q.symm]
    · rw [if_neg q, if_neg fun z => q z.symm, List.getD_eq_getElem?_getD, List.getElem?_eq_getElem hi]
      rfl
abbrev s__law_undone : Stmt := topS 104
abbrev N__law_undone : List Str := ["done", "steps", "left", "step"]
theorem sc__law_undone : FnScope N__law_undone ["done", "steps"] (defScope s__law_undone) := ⟨rfl, rfl, rfl, by decide +kernel, rfl, by decide +kernel, by decide +kernel⟩
theorem hb__law_undone (kV doc pm : Value) (an : Option Addr) (cdv ct : Value) (us : List Value) (hl : us.length = 2) : bindArgs (PySem.W.fnOf "_law_undone" "_law_undone" (defArgs s__law_undone) (defBody s__law_undone) (defScope s__law_undone) .none kV doc pm an cdv ct) ⟨us, []⟩ = pure ((["done", "steps"] : List Str).zip us) := match us, hl with
  | [_, _], _ => rfl
def R__law_undone : PSpec := R_struck
theorem ok__law_undone (B : Bt mg) (Dd : DefAt K mg "_law_undone" s__law_undone) : Fn P w K mg base "_law_undone" ["done", "steps"] R__law_undone 1 := by
  refine fn_mk Dd sc__law_undone (fun G ss W ⟨_, _, e, _⟩ => by rw [e]; rfl) hb__law_undone fun f cdv A outer s H hr G ss W h => ?_
  obtain ⟨done, steps, rfl, hz, rfl⟩ := h
  have nd := (sc__law_undone).nd
  have hl : (done.map encO).length = done.length := List.length_map _
  have hb : ∀ y ∈ List.range (Int.toNat ((done.map encO).length : Nat)), y < done.length := fun y hy => by
    rw [Int.toNat_natCast, List.mem_range, hl] at hy
    exact hy
  let g : Nat → Option Int := fun k => if k ∈ steps then none else done.getD k none
  refine sxs_cons (sx_own 2 exn_nil ?_ nd)
  refine sxs_cons (sx_forT (ix_range B.range (ex_len B.len (ex_var 0 rfl) (.lst _)) (by omega) (by omega)) (fun i Ψ B => Ψ = phS G ∧ ∃ u, B = [.d (loD done), .d (lnD steps), .lst (((List.range i).map g).map encO), u]) ⟨rfl, _, rfl⟩ (fun i y Ψ B e iv => ?_) fun Ψ B iv => ?_)
  · obtain ⟨rfl, u, rfl⟩ := iv
    have ey : y = i := by
      obtain ⟨h1, h2⟩ := List.getElem?_eq_some_iff.mp e
      rw [List.getElem_range] at h2
      exact h2.symm
    have hy := hb y (List.mem_of_getElem? e)
    subst ey
    have hlt : (((List.range y).map g).map encO).length < 100000 := by
      rw [List.length_map, List.length_map, List.length_range]
      omega
    have et : ((List.range (y + 1)).map g).map encO = ((List.range y).map g).map encO ++ [encO (g y)] := by
      rw [List.range_succ, List.map_append, List.map_append]
      rfl
    refine ⟨_, tx_name 3 nd, sxs_one (sx_if (eb_inN (ex_var 3 rfl) (ex_var 1 rfl)).t (fun hk => ?_) fun hk => ?_)⟩
    · have eg : g y = none := if_pos (of_decide_eq_true hk)
      refine sxs_one (sx_app 2 rfl ex_none hlt ⟨rfl, .k (di (y : Nat)), ?_⟩)
      rw [et, eg]
      rfl
    · have eg : g y = done.getD y none := if_neg (of_decide_eq_false hk)
      refine sxs_one (sx_app 2 rfl (ex_ixM (f := encO) (ex_var 0 rfl) (ex_var 3 rfl) (atN (getO hy))) hlt ⟨rfl, .k (di (y : Nat)), ?_⟩)
      rw [et, eg]
      rfl
  · obtain ⟨rfl, u, rfl⟩ := iv
    refine sxs_one (sx_ret (ex_var 2 rfl) fun s w => ?_)
    subst w
    rw [List.length_range, Int.toNat_natCast, hl]
    rfl
abbrev s__law_breaks : Stmt := topS 99
abbrev N__law_breaks : List Str := ["pattern", "tie", "word", "limit", "steps", "there", "late", "step"]
theorem sc__law_breaks : FnScope N__law_breaks ["pattern", "tie"] (defScope s__law_breaks) := ⟨rfl, rfl, rfl, by decide +kernel, rfl, by decide +kernel, by decide +kernel⟩
theorem hb__law_breaks (kV doc pm : Value) (an : Option Addr) (cdv ct : Value) (us : List Value) (hl : us.length = 2) : bindArgs (PySem.W.fnOf "_law_breaks" "_law_breaks" (defArgs s__law_breaks) (defBody s__law_breaks) (defScope s__law_breaks) .none kV doc pm an cdv ct) ⟨us, []⟩ = pure ((["pattern", "tie"] : List Str).zip us) := match us, hl with
  | [_, _], _ => rfl
def R__law_breaks : PSpec := R_breaks
theorem ok__law_breaks (B : Bt mg) (Dd : DefAt K mg "_law_breaks" s__law_breaks) : Fn P w K mg base "_law_breaks" ["pattern", "tie"] R__law_breaks 1 := by
  refine fn_mk Dd sc__law_breaks (fun G ss W ⟨_, _, e, _⟩ => by rw [e]; rfl) hb__law_breaks fun f cdv A outer s H hr G ss W h => ?_
  obtain ⟨p, t, rfl, hz, rfl⟩ := h
  have nd := (sc__law_breaks).nd
  have hlp : (p.map encN).length = p.length := List.length_map _
  refine sxs_cons (sx_unp (ex_var 1 rfl) fun s w => ⟨_, by
    subst w
    exact tx_tup (txs_cons (tx_name 2 nd) (txs_cons (tx_name 3 nd) (txs_cons (tx_name 4 nd) txs_nil))), ?_⟩)
  refine sxs_cons (sx_own 5 exn_nil ?_ nd)
  refine sxs_cons (sx_asg 6 ex_int (fun s w => ?_) nd)
  subst w
  refine sxs_cons (sx_forT (ix_tupM (ex_var 4 rfl)) (fun i Ψ B => Ψ = phS G ∧ ∃ u, B = [.d (lnD p), .d (encT t), .d (.str (if t.most = true then "most" else "least")), .k (di (t.k : Nat)), .d (.tuple (t.steps.map encN)), .lst ((seenF p (t.steps.take i)).map encN), .k (di (lateF p (t.steps.take i) : Nat)), u]) ⟨rfl, _, rfl⟩ (fun i y Ψ B e iv => ?_) fun Ψ B iv => ?_)
  · obtain ⟨rfl, u, rfl⟩ := iv
    have et : t.steps.take (i + 1) = t.steps.take i ++ [y] := by
      rw [List.take_add_one, e]
      rfl
    have hl : (seenF p (t.steps.take i)).length ≤ 100 := Nat.le_trans (seenF_len _ _) (Nat.le_trans (by rw [List.length_take]; exact Nat.min_le_right _ _) hz)
    refine ⟨_, tx_name 7 nd, sxs_one (sx_if (k := decide (p.length ≤ y)) (EB.cast (eb_ge (ex_var 7 rfl) (ex_len B.len (ex_var 0 rfl) (.lst _))) (by rw [hlp]; exact decide_eq_decide.mpr Int.ofNat_le)).t (fun hk => ?_) fun hk => ?_)⟩
    · have hy : ¬ y < p.length := Nat.not_lt.mpr (of_decide_eq_true hk)
      refine sxs_one (sx_asg 6 (ex_addI (ex_var 6 rfl) ex_int) (fun s w => ⟨rfl, .k (di (y : Nat)), ?_⟩) nd)
      subst w
      rw [et, seenF_snoc, lateF_snoc, if_neg hy, if_neg hy]
      rfl
    · have hy : y < p.length := Nat.not_le.mp (of_decide_eq_false hk)
      have ey : p[y]? = some (p.getD y 0) := by
        rw [List.getD_eq_getElem?_getD, List.getElem?_eq_getElem hy]
        rfl
      refine sxs_one (sx_if (k := !decide (p.getD y 0 ∈ seenF p (t.steps.take i))) (EB.view (EB.cast (eb_ninN (ex_ixM (f := encN) (ex_var 0 rfl) (ex_var 7 rfl) (atN ey)) (ex_var 5 rfl)) (by rfl))).t (fun hk => ?_) fun hk => ?_)
      · have hk : p.getD y 0 ∉ seenF p (t.steps.take i) := of_decide_eq_false (by simpa using hk)
        refine sxs_one (sx_app 5 rfl (ex_ixM (f := encN) (ex_var 0 rfl) (ex_var 7 rfl) (atN ey)) (by rw [List.length_map]; omega) ⟨rfl, .k (di (y : Nat)), ?_⟩)
        rw [et, seenF_snoc, lateF_snoc, if_pos hy, if_pos hy, if_neg hk, List.map_append]
        rfl
      · have hk : p.getD y 0 ∈ seenF p (t.steps.take i) := of_decide_eq_true (by simpa using hk)
        refine sxs_nil ⟨rfl, .k (di (y : Nat)), ?_⟩
        rw [et, seenF_snoc, lateF_snoc, if_pos hy, if_pos hy, if_pos hk]
        rfl
  · obtain ⟨rfl, u, rfl⟩ := iv
    rw [List.take_length]
    refine sxs_cons (sx_if (k := t.most) (EB.cast (eb_eqS (ex_var 2 rfl) ex_str) (by cases t.most <;> decide +kernel)).t (fun hk => ?_) fun hk => sxs_nil ?_)
    · refine sxs_one (sx_ret (eb_gt (ex_len B.len (ex_var 5 rfl) (.lst _)) (ex_var 3 rfl)).v fun s w => ?_)
      subst w
      unfold breaksF
      rw [if_pos hk, List.length_map]
      exact congrArg db (decide_eq_decide.mpr Int.ofNat_lt)
    · refine sxs_one (sx_ret (eb_lt (ex_addI (ex_len B.len (ex_var 5 rfl) (.lst _)) (ex_var 6 rfl)) (ex_var 3 rfl)).v fun s w => ?_)
      subst w
      unfold breaksF
      rw [if_neg (by rw [hk]; decide), List.length_map]
      exact congrArg db (decide_eq_decide.mpr (by omega))
end
end Dl
namespace Dl
open PySem PySem.Spec PyProof.Rows L2
section
variable {P : Program} {w : World} {K : PySem.W.Frag} {mg : Str → Option Value} {base : Heap}
abbrev s__law_sets : Stmt := topS 103
abbrev N__law_sets : List Str := ["order", "done", "rows", "step", "row", "kept", "whole", "first", "second"]
theorem sc__law_sets : FnScope N__law_sets ["order", "done"] (defScope s__law_sets) := ⟨rfl, rfl, rfl, by decide +kernel, rfl, by decide +kernel, by decide +kernel⟩
theorem hb__law_sets (kV doc pm : Value) (an : Option Addr) (cdv ct : Value) (us : List Value) (hl : us.length = 2) : bindArgs (PySem.W.fnOf "_law_sets" "_law_sets" (defArgs s__law_sets) (defBody s__law_sets) (defScope s__law_sets) .none kV doc pm an cdv ct) ⟨us, []⟩ = pure ((["order", "done"] : List Str).zip us) := match us, hl with
  | [_, _], _ => rfl
def R__law_sets : PSpec := fun _ ss W => ∃ (order : List (Nat × Nat)) (done : List (Option Int)), ss = [.dat (lpD order), .dat (loD done)] ∧ (∀ p ∈ order, p.2 < done.length) ∧ done.length ≤ 6 ∧ W = (· = .dat (lnnD (setsF order done)))
set_option maxHeartbeats 1000000 in
theorem ok__law_sets (B : Bt mg) (Dd : DefAt K mg "_law_sets" s__law_sets) : Fn P w K mg base "_law_sets" ["order", "done"] R__law_sets 1 := by
  refine fn_mk Dd sc__law_sets (fun G ss W ⟨_, _, e, _⟩ => by rw [e]; rfl) hb__law_sets fun f cdv A outer s H hr G ss W h => ?_
  obtain ⟨order, done, rfl, ho, hz, rfl⟩ := h
  have nd := (sc__law_sets).nd
  have hl : (done.map encO).length = done.length := List.length_map _
  have few : ∀ n, n ≤ done.length → ((rowsF done n).map lnD).length ≤ 64 := fun n hn => by
    rw [List.length_map]
    exact Nat.le_trans (rowsF_few done n) (Nat.le_trans (Nat.pow_le_pow_right (by decide) (Nat.le_trans hn hz)) (by decide))
  refine sxs_cons (sx_asg 2 (W := (· = .dat (lnnD (rowsF done 0)))) (ex_lst (ds := [_]) (ea_cons (ex_lst (ds := []) ea_nil (Nat.le_of_ble_eq_true rfl)) ea_nil) (Nat.le_of_ble_eq_true rfl)) (fun s w => ?_) nd)
  subst w
  refine sxs_cons (sx_forT (ix_range B.range (ex_len B.len (ex_var 1 rfl) (.lst _)) (by omega) (by omega)) (fun i Ψ B => Ψ = phS G ∧ ∃ u, B = [.d (lpD order), .d (loD done), .d (lnnD (rowsF done i)), u, .un, .un, .un, .un, .un]) ⟨rfl, _, rfl⟩ (fun i n Ψ B e iv => ?_) fun Ψ B iv => ?_)
  · obtain ⟨rfl, u, rfl⟩ := iv
    have hn : n = i ∧ i < done.length := by
      obtain ⟨h1, h2⟩ := List.getElem?_eq_some_iff.mp e
      rw [List.getElem_range] at h2
      rw [List.length_range, Int.toNat_natCast, hl] at h1
      exact ⟨h2.symm, h1⟩
    obtain ⟨rfl, hn⟩ := hn
    have fw := few n (Nat.le_of_lt hn)
    have fw2 : (rowsF done n).length ≤ 64 := by rw [List.length_map] at fw; exact fw
    refine ⟨_, tx_name 3 nd, sxs_one (sx_if (k := (done.getD n none).isSome) (EB.cast (eb_notN (ex_ixM (f := encO) (ex_var 1 rfl) (ex_var 3 rfl) (atN (getO hn)))) (by rw [isN_encO]; cases done.getD n none <;> rfl)).t (fun hk => sxs_one (sx_asg 2 (W := (· = .dat (lnnD (rowsF done (n + 1))))) (EX.cast (ex_cat (ex_var 2 rfl) (ex_lc 4 (fun _ => true) (fun r => lnD (r ++ [n])) (ix_lstM (ex_var 2 rfl)) (by omega) (blkOk_by (N := N__law_sets) (sc := defScope s__law_sets) (by decide +kernel)) (fun y hy s H C cl fp => rfl) (fun y hy hq s H C cl fp => EX.cast (ex_cat (ex_var 4 rfl) (ex_lst (ds := [_]) (ea_cons (ex_var 3 rfl) ea_nil) (Nat.le_of_ble_eq_true rfl)) ?_) ?_) (fun s H C cl fp => pg_name nd rfl (Or.inl rfl)) nd) ?_) ?_) (fun s w => ?_) nd)) fun hk => sxs_nil ⟨rfl, .k (di (n : Nat)), ?_⟩)⟩
    · have := (rowsF_lt done n y hy).1
      rw [List.length_map]
      have : (1000 : Nat) ≤ sizeLine := by decide
      show y.length + 1 ≤ _
      omega
    · show _ = Ds.dat (.list ((y ++ [n]).map encN))
      rw [List.map_append]
      rfl
    · have : (1000 : Nat) ≤ sizeLine := by decide
      rw [List.length_map, List.length_map]
      have := List.length_filter_le (fun _ : List Nat => true) (rowsF done n)
      omega
    · show _ = Ds.dat (.list ((if (done.getD n none).isSome = true then _ else _ : List (List Nat)).map lnD))
      rw [if_pos hk, List.map_append, List.map_map, List.filter_eq_self.mpr fun _ _ => rfl]
      rfl
    · subst w
      exact ⟨rfl, .k (di (n : Nat)), rfl⟩
    · show _ = [_, _, Sl.d (.list ((if (done.getD n none).isSome = true then _ else _ : List (List Nat)).map lnD)), _, _, _, _, _, _]
      rw [if_neg (by rw [hk]; decide)]
      rfl
  · obtain ⟨rfl, u, rfl⟩ := iv
    rw [List.length_range, Int.toNat_natCast, hl]
    have fw := few done.length (Nat.le_refl _)
    have fw2 : (rowsF done done.length).length ≤ 64 := by rw [List.length_map] at fw; exact fw
    refine sxs_cons (sx_own 5 exn_nil ?_ nd)
    refine sxs_cons (sx_forT (ix_lstM (ex_var 2 rfl)) (fun i Ψ B => Ψ = phS G ∧ ∃ u4 u6 u7 u8, B = [.d (lpD order), .d (loD done), .d (lnnD (rowsF done done.length)), u, u4, .lst ((((rowsF done done.length).take i).filter (shutF order done)).map lnD), u6, u7, u8]) ⟨rfl, _, _, _, _, rfl⟩ (fun i row Ψ B e iv => ?_) fun Ψ B iv => ?_)
    · obtain ⟨rfl, u4, u6, u7, u8, rfl⟩ := iv
      have et : (rowsF done done.length).take (i + 1) = (rowsF done done.length).take i ++ [row] := by
        rw [List.take_add_one, e]
        rfl
      refine ⟨_, tx_name 4 nd, ?_⟩
      refine sxs_cons (sx_asg 6 ex_bool (fun s w => ?_) nd)
      subst w
      refine sxs_cons (sx_forT (ix_lstM (ex_var 0 rfl)) (fun j Ψ B => Ψ = phS G ∧ ∃ u7 u8, B = [.d (lpD order), .d (loD done), .d (lnnD (rowsF done done.length)), u, .d (lnD row), .lst ((((rowsF done done.length).take i).filter (shutF order done)).map lnD), .k (db (shutF (order.take j) done row)), u7, u8]) ⟨rfl, _, _, rfl⟩ (fun j q Ψ B e2 iv => ?_) fun Ψ B iv => ?_)
      · obtain ⟨rfl, u7, u8, rfl⟩ := iv
        have eq2 : order.take (j + 1) = order.take j ++ [q] := by
          rw [List.take_add_one, e2]
          rfl
        have hq := ho q (List.mem_of_getElem? e2)
        let c : Bool := decide (q.1 ∈ row) && ((done.getD q.2 none).isSome && !decide (q.2 ∈ row))
        have es : shutF (order.take (j + 1)) done row = (shutF (order.take j) done row && !c) := by
          unfold shutF
          rw [eq2, List.all_append, List.all_cons, List.all_nil, Bool.and_true]
        refine ⟨_, tx_tup (txs_cons (tx_name 7 nd) (txs_cons (tx_name 8 nd) txs_nil)), ?_⟩
        refine sxs_one (sx_if (k := c) (EB.cast (eb_bop (ew_and (eb_inN (ex_var 7 rfl) (ex_var 4 rfl)) (fun hc => (ew_and (eb_notN (ex_ixM (f := encO) (ex_var 1 rfl) (ex_var 8 rfl) (atN (getO hq)))) (fun hc => (ew_and1 (eb_ninN (ex_var 8 rfl) (ex_var 4 rfl)))))))) (by rw [isN_encO]; show _ = (decide (q.1 ∈ row) && ((done.getD q.2 none).isSome && !decide (q.2 ∈ row))); cases done.getD q.2 none <;> rfl)).t (fun hk => sxs_one (sx_asg 6 ex_bool (fun s w => ?_) nd)) fun hk => sxs_nil ?_)
        · subst w
          refine ⟨rfl, .k (di (q.1 : Nat)), .k (di (q.2 : Nat)), ?_⟩
          rw [es, hk, Bool.not_true, Bool.and_false]
          rfl
        · refine ⟨rfl, .k (di (q.1 : Nat)), .k (di (q.2 : Nat)), ?_⟩
          rw [es, hk, Bool.not_false, Bool.and_true]
          rfl
      · obtain ⟨rfl, u7, u8, rfl⟩ := iv
        rw [List.take_length]
        have lf : (((rowsF done done.length).take i).filter (shutF order done)).length ≤ 64 := by
          refine Nat.le_trans (List.length_filter_le _ _) ?_
          rw [List.length_take]
          omega
        refine sxs_one (sx_if (eb_of (ex_var 6 rfl)).t (fun hk => sxs_one (sx_app 5 rfl (ex_var 4 rfl) (by rw [List.length_map]; omega) ?_)) fun hk => sxs_nil ?_)
        · refine ⟨rfl, .d (lnD row), .k (db (shutF order done row)), u7, u8, ?_⟩
          rw [et, List.filter_append, List.filter_cons, if_pos hk, List.map_append]
          rfl
        · refine ⟨rfl, .d (lnD row), .k (db (shutF order done row)), u7, u8, ?_⟩
          rw [et, List.filter_append, List.filter_cons, if_neg (by rw [hk]; decide), List.filter_nil, List.append_nil]
    · obtain ⟨rfl, u4, u6, u7, u8, rfl⟩ := iv
      rw [List.take_length]
      exact sxs_one (sx_ret (ex_var 5 rfl) fun s w => w)
abbrev s__law_fits : Stmt := topS 98
abbrev N__law_fits : List Str := ["hands", "may", "ties", "badge", "some", "word", "limit", "steps", "step", "many"]
theorem sc__law_fits : FnScope N__law_fits ["hands", "may", "ties"] (defScope s__law_fits) := ⟨rfl, rfl, rfl, by decide +kernel, rfl, by decide +kernel, by decide +kernel⟩
theorem hb__law_fits (kV doc pm : Value) (an : Option Addr) (cdv ct : Value) (us : List Value) (hl : us.length = 3) : bindArgs (PySem.W.fnOf "_law_fits" "_law_fits" (defArgs s__law_fits) (defBody s__law_fits) (defScope s__law_fits) .none kV doc pm an cdv ct) ⟨us, []⟩ = pure ((["hands", "may", "ties"] : List Str).zip us) := match us, hl with
  | [_, _, _], _ => rfl
def R__law_fits : PSpec := fun _ ss W => ∃ (hands : List Int) (may : List (List Int)) (ties : List Tie), ss = [.dat (liD hands), .dat (llD may), .dat (ltD ties)] ∧ may.length ≤ 100 ∧ TiesOk may.length ties ∧ PlanOk may ties hands ∧ W = (· = db true)
set_option maxHeartbeats 1000000 in
theorem ok__law_fits (B : Bt mg) (Dd : DefAt K mg "_law_fits" s__law_fits) (F__law_whole : Fn P w K mg base "_law_whole" ["found"] R__law_whole 1) : Fn P w K mg base "_law_fits" ["hands", "may", "ties"] R__law_fits 2 := by
  refine fn_mk Dd sc__law_fits (fun G ss W ⟨_, _, _, e, _⟩ => by rw [e]; rfl) hb__law_fits fun f cdv A outer s H hr G ss W h => ?_
  obtain ⟨hands, may, ties, rfl, hz, to, pl, rfl⟩ := h
  have nd := (sc__law_fits).nd
  have hlen := pl.len
  have hl1 : (hands.map PyData.int).length = hands.length := List.length_map _
  have hl2 : (may.map liD).length = may.length := List.length_map _
  refine sxs_cons (sx_if (k := false) (EB.cast (eb_bop (ew_or (eb_not (eb_isi (k := true) B.isinstance (ex_var 0 rfl) (ex_ty (n := "list") B.list (by decide +kernel)) (by exact (show kitB "list" "list" = some true by decide +kernel)))) (fun hc => (ew_or1 (eb_neI (ex_len B.len (ex_var 0 rfl) (.lst _)) (ex_len B.len (ex_var 1 rfl) (.lst _))))))) (by rw [hl1, hl2, hlen, decide_eq_true rfl]; rfl)).t (fun hk => by cases hk) fun _ => sxs_nil ?_)
  have hz2 : ((hands.map PyData.int).zip (may.map liD)) = (hands.zip may).map fun q => (.int q.1, liD q.2) := by
    rw [List.zip_map]
    rfl
  refine sxs_cons (sx_forT (ix_cast (ix_zip B.zip (ex_var 0 rfl) (ex_var 1 rfl) (by rw [hl1, hl2, hlen])) (ys := hands.zip may) (ι := fun q => .dat (.tuple [.int q.1, liD q.2])) (by rw [hz2, List.map_map]; rfl)) (fun i Ψ B => Ψ = phS G ∧ ∃ u v, B = [.d (liD hands), .d (llD may), .d (ltD ties), u, v, .un, .un, .un, .un, .un]) ⟨rfl, _, _, rfl⟩ (fun i q Ψ B e iv => ?_) fun Ψ B iv => ?_)
  · obtain ⟨rfl, u, v, rfl⟩ := iv
    obtain ⟨e1, e2⟩ := List.getElem?_zip_eq_some.mp e
    have hm := pl.mem i q.1 e1
    rw [List.getD_eq_getElem?_getD, e2] at hm
    refine ⟨_, tx_tup (txs_cons (tx_name 3 nd) (txs_cons (tx_name 4 nd) txs_nil)), ?_⟩
    exact sxs_one (sx_if (k := false) (EB.cast (eb_bop (ew_or (eb_not (eb_of (ex_call F__law_whole hr (ea_cons (ex_var 3 rfl) ea_nil) (W := (· = db true)) fun G _ => ⟨q.1, rfl, rfl⟩))) (fun hc => (ew_or1 (eb_ninI (ex_var 3 rfl) (ex_var 4 rfl)))))) (by rw [decide_eq_true (show q.1 ∈ q.2 from hm)]; rfl)).t (fun hk => by cases hk) fun _ => sxs_nil ⟨rfl, .k (di q.1), .d (liD q.2), rfl⟩)
  · obtain ⟨rfl, u, v, rfl⟩ := iv
    refine sxs_cons (sx_forT (ix_lstM (ex_var 2 rfl)) (fun i Ψ B => Ψ = phS G ∧ ∃ u5 u6 u7 u9, B = [.d (liD hands), .d (llD may), .d (ltD ties), u, v, u5, u6, u7, .un, u9]) ⟨rfl, _, _, _, _, rfl⟩ (fun i t Ψ B e iv => ?_) fun Ψ B iv => ?_)
    · obtain ⟨rfl, u5, u6, u7, u9, rfl⟩ := iv
      have htm := List.mem_of_getElem? e
      have kt := pl.ties t htm
      have hst := to.lt t htm
      have hfw := to.few t htm
      have hat : ∀ y ∈ t.steps, hands[y]? = some (hands.getD y 0) := fun y hy => getDS 0 (by have := hst y hy; omega)
      refine ⟨_, tx_tup (txs_cons (tx_name 5 nd) (txs_cons (tx_name 6 nd) (txs_cons (tx_name 7 nd) txs_nil))), ?_⟩
      have em : uniq (t.steps.map fun s => hands.getD s 0) = uniq (t.steps.map fun s => hands.getD s 0) := rfl
      refine sxs_cons (sx_asg 9 (W := (· = di (manyF hands t.steps : Nat))) (ex_lenset (ns := t.steps.map fun s => hands.getD s 0) B.len B.set (EX.cast (ex_lc 8 (ys := t.steps) (ι := fun s => .dat (encN s)) (fun _ => true) (fun s => .int (hands.getD s 0)) (ix_tupM (ex_var 7 rfl)) (by omega) (blkOk_by (N := N__law_fits) (sc := defScope s__law_fits) (by decide +kernel)) (fun y hy s H C cl fp => rfl) (fun y hy hq s H C cl fp => ex_ixM (f := PyData.int) (ex_var 0 rfl) (ex_var 8 rfl) (atN (hat y hy))) (fun s H C cl fp => pg_name nd rfl (Or.inl rfl)) nd) (by rw [List.filter_eq_self.mpr fun _ _ => rfl, List.map_map]; rfl)) (by rw [List.length_map]; omega)) (fun s w => ?_) nd)
      subst w
      refine sxs_one (sx_if (k := false) (EB.cast (eb_bop (ew_or (eb_bop (ew_and (eb_eqS (ex_var 5 rfl) ex_str) (fun hc => (ew_and1 (eb_gt (ex_var 9 rfl) (ex_var 6 rfl)))))) (fun hc => (ew_or1 (eb_bop (ew_and (eb_eqS (ex_var 5 rfl) ex_str) (fun hc => (ew_and1 (eb_lt (ex_var 9 rfl) (ex_var 6 rfl)))))))))) ?_).t (fun hk => by cases hk) fun _ => sxs_nil ⟨rfl, _, .k (di (t.k : Nat)), .d (.tuple (t.steps.map encN)), .k (di (manyF hands t.steps : Nat)), rfl⟩)
      unfold KeepsT at kt
      cases q : t.most with
      | true =>
        rw [if_pos q] at kt
        rw [if_pos rfl, decide_eq_true rfl, decide_eq_false (show (Str.ofString "most") ≠ Str.ofString "least" by decide +kernel), decide_eq_false (show ¬ ((t.k : Nat) : Int) < (manyF hands t.steps : Nat) by omega)]
        rfl
      | false =>
        rw [if_neg (by rw [q]; decide)] at kt
        rw [if_neg Bool.false_ne_true, decide_eq_true rfl, decide_eq_false (show (Str.ofString "least") ≠ Str.ofString "most" by decide +kernel), decide_eq_false (show ¬ ((manyF hands t.steps : Nat) : Int) < (t.k : Nat) by omega)]
        rfl
    · obtain ⟨rfl, u5, u6, u7, u9, rfl⟩ := iv
      exact sxs_one (sx_ret ex_bool fun s w => w)
end
end Dl
namespace Dl
open PySem PySem.Spec PyProof.Rows L2
section
variable {P : Program} {w : World} {K : PySem.W.Frag} {mg : Str → Option Value} {base : Heap}
def stepsF (p : List Nat) (b : Nat) : List Nat := (List.range p.length).filter fun k => decide (p.getD k 0 = b)
def poolF (p : List Nat) (may : List (List Int)) (b : Nat) : List Int := (may.getD ((stepsF p b).getD 0 0) []).filter fun x => (stepsF p b).all fun k => decide (x ∈ may.getD k [])
theorem stepsF_lt {p : List Nat} {b k : Nat} (h : k ∈ stepsF p b) : k < p.length ∧ p[k]? = some b := by
  unfold stepsF at h
  obtain ⟨h1, h2⟩ := List.mem_filter.mp h
  have h1 := List.mem_range.mp h1
  have e := getDS 0 h1
  rw [of_decide_eq_true h2] at e
  exact ⟨h1, e⟩
theorem stepsF_mem {p : List Nat} {b k : Nat} (e : p[k]? = some b) : k ∈ stepsF p b := by
  have h := (List.getElem?_eq_some_iff.mp e).1
  refine List.mem_filter.mpr ⟨List.mem_range.mpr h, decide_eq_true ?_⟩
  rw [List.getD_eq_getElem?_getD, e]
  rfl
theorem poolF_mem {p : List Nat} {may : List (List Int)} {b : Nat} {x : Int} (h : x ∈ poolF p may b) : ∀ s, p[s]? = some b → x ∈ may.getD s [] := fun s e =>
  of_decide_eq_true (List.all_eq_true.mp (List.mem_filter.mp h).2 s (stepsF_mem e))
theorem poolF_few {p : List Nat} {may : List (List Int)} {b : Nat} (mo : MayOk may) : (poolF p may b).length ≤ 100 := by
  refine Nat.le_trans (List.length_filter_le _ _) ?_
  rw [List.getD_eq_getElem?_getD]
  cases e : may[(stepsF p b).getD 0 0]? with
  | none => exact Nat.zero_le _
  | some m => exact mo.few m (List.mem_of_getElem? e)
theorem look_map {g : Str × NameKind → Str × NameKind} {x : Str} (h1 : ∀ y, (g y).1 = y.1) (h2 : ∀ y, (g y).2 = y.2 ∨ (g y).2 = .cell) : ∀ {l : List (Str × NameKind)}, l.lookup x = some .cell ∨ l.lookup x = some .free → (l.map g).lookup x = some .cell ∨ (l.map g).lookup x = some .free
  | [], h => by simp at h
  | y :: l, h => by
    have ih := @look_map g x h1 h2 l
    have e1 := h1 y
    have e2 := h2 y
    rw [List.map_cons]
    generalize g y = z at e1 e2
    obtain ⟨n, k⟩ := y
    obtain ⟨n', k'⟩ := z
    have e1 : n' = n := e1
    have e2 : k' = k ∨ k' = .cell := e2
    subst e1
    rw [List.lookup_cons] at h
    rw [List.lookup_cons]
    cases hx : x == n' with
    | true =>
      rw [hx] at h
      have h : some k = some NameKind.cell ∨ some k = some NameKind.free := h
      show some k' = some NameKind.cell ∨ some k' = some NameKind.free
      rcases e2 with rfl | rfl
      · exact h
      · exact .inl rfl
    | false =>
      rw [hx] at h
      exact ih h
theorem relabel_cf {env : Env} {sc : Scope} {x : Str} (h : sc.names.lookup x = some .cell ∨ sc.names.lookup x = some .free) : (relabel sc env).names.lookup x = some .cell ∨ (relabel sc env).names.lookup x = some .free :=
  look_map (fun y => by dsimp only; split <;> rfl) (fun y => by dsimp only; split <;> simp) h
theorem blkOk_re {N : List Str} {sc scope : Scope} {own : List (Str × Nat)} {env : Env} (b : BlkOk N sc scope own) : BlkOk N (relabel sc env) scope own := ⟨b.kind, b.uniq, b.ix, fun y hy e => relabel_cf (b.free y hy e), b.own⟩
def lcScope : Stmt → Scope
  | .Return (some (.ListComp _ _ sc _)) _ => sc
  | _ => ⟨.function, [], false, false, []⟩
abbrev s__law_pool : Stmt := topS 100
abbrev N__law_pool : List Str := ["pattern", "may", "block", "k", "steps", "badge"]
theorem sc__law_pool : FnScope N__law_pool ["pattern", "may", "block"] (defScope s__law_pool) := ⟨rfl, rfl, rfl, by decide +kernel, rfl, by decide +kernel, by decide +kernel⟩
theorem hb__law_pool (kV doc pm : Value) (an : Option Addr) (cdv ct : Value) (us : List Value) (hl : us.length = 3) : bindArgs (PySem.W.fnOf "_law_pool" "_law_pool" (defArgs s__law_pool) (defBody s__law_pool) (defScope s__law_pool) .none kV doc pm an cdv ct) ⟨us, []⟩ = pure ((["pattern", "may", "block"] : List Str).zip us) := match us, hl with
  | [_, _, _], _ => rfl
def R__law_pool : PSpec := fun _ ss W => ∃ (p : List Nat) (may : List (List Int)) (b : Nat), ss = [.dat (lnD p), .dat (llD may), di (b : Nat)] ∧ p.length ≤ may.length ∧ MayOk may ∧ b ∈ p ∧ W = (· = .dat (liD (poolF p may b)))
theorem ok__law_pool (B : Bt mg) (Dd : DefAt K mg "_law_pool" s__law_pool) : Fn P w K mg base "_law_pool" ["pattern", "may", "block"] R__law_pool 1 := by
  refine fn_mk Dd sc__law_pool (fun G ss W ⟨_, _, _, e, _⟩ => by rw [e]; rfl) hb__law_pool fun f cdv A outer s H hr G ss W h => ?_
  obtain ⟨p, may, b, rfl, hl, mo, hb, rfl⟩ := h
  have nd := (sc__law_pool).nd
  have h6 := mo.len
  have hlp : (p.map encN).length = p.length := List.length_map _
  have hr0 : ∀ y ∈ List.range (Int.toNat ((p.map encN).length : Nat)), y < p.length := fun y hy => by
    rw [Int.toNat_natCast, List.mem_range, hlp] at hy
    exact hy
  refine sxs_cons (sx_asg 4 (W := (· = .dat (lnD (stepsF p b)))) (EX.cast (ex_lc 3 (fun k => decide (p.getD k 0 = b)) encN (ix_range B.range (ex_len B.len (ex_var 0 rfl) (.lst _)) (by omega) (by omega)) (by rw [List.length_range]; omega) (blkOk_by (N := N__law_pool) (sc := defScope s__law_pool) (by decide +kernel)) (fun y hy s H C cl fp => (EB.cast (eb_eqI (ex_ixM (f := encN) (ex_var 0 rfl) (ex_var 3 rfl) (atN (getDS 0 (hr0 y hy)))) (ex_var 2 rfl)) (decide_eq_decide.mpr Int.ofNat_inj)).t) (fun y hy hq s H C cl fp => EX.cast (ex_var 3 rfl) rfl) (fun s H C cl fp => pg_name nd rfl (Or.inl rfl)) nd) ?_) (fun s w => ?_) nd)
  · rw [Int.toNat_natCast, hlp]
    rfl
  subst w
  obtain ⟨k0, e0⟩ := List.mem_iff_getElem?.mp hb
  have hm0 := stepsF_mem e0
  have hpos : 0 < (stepsF p b).length := List.length_pos_of_mem hm0
  have a0 := getDS 0 hpos
  have hk0 := stepsF_lt (List.mem_of_getElem? a0)
  have hslen : (stepsF p b).length ≤ p.length := by
    unfold stepsF
    refine Nat.le_trans (List.length_filter_le _ _) ?_
    rw [List.length_range]
    exact Nat.le_refl _
  have am := getDS ([] : List Int) (show (stepsF p b).getD 0 0 < may.length by omega)
  have hfew := mo.few _ (List.mem_of_getElem? am)
  refine sxs_one (sx_ret (ex_lc 5 (ys := may.getD ((stepsF p b).getD 0 0) []) (ι := fun x => .dat (.int x)) (fun x => (stepsF p b).all fun k => decide (x ∈ may.getD k [])) PyData.int (ix_lstM (ex_ixM (f := liD) (ex_var 1 rfl) (ex_ixM (f := encN) (ex_var 4 rfl) ex_int (atN (k := 0) a0)) (atN am))) (by omega) (blkOk_by (N := N__law_pool) (sc := defScope s__law_pool) (by decide +kernel))
    (fun y hy s H C cl fp => ?_) (fun y hy hq s H C cl fp => ex_var 5 rfl) (fun s H C cl fp => pg_name nd rfl (Or.inr rfl)) nd) fun s w => w)
  show ET _ _ _ _ _
  refine EB.t (EB.cast (eb_of (ex_all (bs := (stepsF p b).map fun k => decide (y ∈ may.getD k [])) B.all ?_)) ?_)
  · refine EX.cast (ex_lc 3 (ys := stepsF p b) (ι := fun k => .dat (encN k)) (fun _ => true) (fun k => PyData.bool (decide (y ∈ may.getD k []))) (ix_lstM (ex_var 4 rfl)) (by omega) (blkOk_re (blkOk_by (N := N__law_pool) (sc := lcScope ((defBody s__law_pool).getD 1 (.Pass ⟨0, 0, 0, 0⟩))) (by decide +kernel))) (fun k hk s H C cl fp => rfl)
      (fun k hk hq s H C cl fp => EB.v (eb_inI (ex_var 5 rfl) (ex_ixM (f := liD) (ex_var 1 rfl) (ex_var 3 rfl) (atN (getDS [] (by have := (stepsF_lt hk).1; omega)))))) (fun s H C cl fp => pg_name nd rfl (Or.inl rfl)) nd) ?_
    rw [List.filter_eq_self.mpr fun _ _ => rfl, List.map_map]
    rfl
  · rw [List.all_map]
    rfl
end
end Dl
namespace Dl
open PySem PySem.Spec PyProof.Rows L2
section
variable {X : Cx} {Φ : Ph} {A A' : List Sl} {pos : Pos}
theorem tx_lst {es : List Expr} {kk : Nat} {ds : List D} (h : TXs X es (ds.map .dat) A A') (hc : X.calm = true := by rfl) (hn : (assignEach es X.env).length = ds.length := by rfl) (hst : (assignEach es X.env).findIdx? (·.1) = none := by rfl) : TX X (.Tuple es kk pos) (.dat (.list ds)) A A' :=
  fun μ G0 H0 G H σ v Q ab sv q => RG.of (pg_lst hc RGs.pg hn hst) (by
    cases sv with
    | dat sv => cases sv with
      | lst e1 dq => exact ⟨_, _, rfl, .of (ab.i _ _ e1), dq.length, h μ G0 H0 G H σ _ Q ab (.of_dats dq) q⟩)
end
section
variable {P : Program} {w : World} {K : PySem.W.Frag} {mg : Str → Option Value} {base : Heap}
abbrev s__law_shut : Stmt := topS 101
abbrev N__law_shut : List Str := ["paper", "pattern", "may", "ties", "word", "rest", "last", "here", "block"]
theorem sc__law_shut : FnScope N__law_shut ["paper", "pattern", "may", "ties"] (defScope s__law_shut) := ⟨rfl, rfl, rfl, by decide +kernel, rfl, by decide +kernel, by decide +kernel⟩
theorem hb__law_shut (kV doc pm : Value) (an : Option Addr) (cdv ct : Value) (us : List Value) (hl : us.length = 4) : bindArgs (PySem.W.fnOf "_law_shut" "_law_shut" (defArgs s__law_shut) (defBody s__law_shut) (defScope s__law_shut) .none kV doc pm an cdv ct) ⟨us, []⟩ = pure ((["paper", "pattern", "may", "ties"] : List Str).zip us) := match us, hl with
  | [_, _, _, _], _ => rfl
def plainP : Paper → Bool
  | .split _ => false
  | _ => true
def R__law_shut : PSpec := fun _ ss W => ∃ (pa : Paper) (p : List Nat) (may : List (List Int)) (ties : List Tie), ss = [.dat (encPa pa), .dat (lnD p), .dat (llD may), .dat (ltD ties)] ∧ plainP pa = true ∧ Shows may ties p pa ∧ Rgs p ∧ p.length ≤ may.length ∧ MayOk may ∧ TiesOk may.length ties ∧ W = (· = db true)
def lastF (bs : List Nat) (i : Nat) : Int := if i = 0 then -1 else (bs.getD (i - 1) 0 : Nat)
set_option maxHeartbeats 1000000 in
theorem ok__law_shut (B : Bt mg) (Dd : DefAt K mg "_law_shut" s__law_shut) (F__law_whole : Fn P w K mg base "_law_whole" ["found"] R__law_whole 1) (F__law_breaks : Fn P w K mg base "_law_breaks" ["pattern", "tie"] R__law_breaks 1) (F__law_pool : Fn P w K mg base "_law_pool" ["pattern", "may", "block"] R__law_pool 1) :
    Fn P w K mg base "_law_shut" ["paper", "pattern", "may", "ties"] R__law_shut 2 := by
  refine fn_mk Dd sc__law_shut (fun G ss W ⟨_, _, _, _, e, _⟩ => by rw [e]; rfl) hb__law_shut fun f cdv A outer s H hr G ss W h => ?_
  obtain ⟨pa, p, may, ties, rfl, hp, sh, rg, hpl, mo, to, rfl⟩ := h
  have nd := (sc__law_shut).nd
  have h6 := mo.len
  cases sh with
  | split _ _ _ => cases hp
  | @tie _ j t ht hb =>
    have hj := (List.getElem?_eq_some_iff.mp ht).1
    refine sxs_cons (sx_unp (W := (· = .dat (.tuple [.str "tie", .int (j : Nat)]))) (ex_var 0 rfl) fun s w => ⟨_, by
      subst w
      exact tx_tup (txs_cons (tx_name 4 nd) (txs_cons (tx_name 5 nd) txs_nil)), ?_⟩)
    refine sxs_cons (sx_if (k := true) (EB.cast (eb_eqS (ex_var 4 rfl) ex_str) (by decide +kernel)).t (fun _ => ?_) fun hk => by cases hk)
    refine sxs_one (sx_ret (EX.cast (eb_bop (ew_and (eb_of (ex_call F__law_whole hr (ea_cons (ex_var 5 rfl) ea_nil) (W := (· = db true)) fun G _ => ⟨(j : Nat), rfl, rfl⟩)) (fun hc => (ew_and (eb_le ex_int (ex_var 5 rfl)) (fun hc => (ew_and (eb_lt (ex_var 5 rfl) (ex_len B.len (ex_var 3 rfl) (.lst _))) (fun hc => (ew_and1 (eb_of (ex_call F__law_breaks hr (ea_cons (ex_var 1 rfl) (ea_cons (ex_ixM (ex_var 3 rfl) (ex_var 5 rfl) (atN ht)) ea_nil)) (W := (· = db true)) fun G _ => ⟨p, t, rfl, to.few t (List.mem_of_getElem? ht), by rw [hb]⟩)))))))))).v ?_) fun s w => w)
    refine congrArg db ?_
    rw [List.length_map, decide_eq_true (show (0 : Int) ≤ (j : Nat) by omega), decide_eq_true (show ((j : Nat) : Int) < (ties.length : Nat) by omega)]
    rfl
  | @short _ bs sp =>
    have hlt := sp.lt
    have hw : widthF p ≤ p.length := by
      have := widthF_le rg (Nat.le_refl p.length)
      rw [List.take_length] at this
      exact this
    have hbl : bs.length ≤ 6 := by
      have nd2 : bs.Nodup := sp.up.imp fun h => Nat.ne_of_lt h
      have := List.Nodup.length_le_of_subset nd2 (l₂ := List.range (widthF p)) fun b hb => List.mem_range.mpr (hlt b hb)
      rw [List.length_range] at this
      omega
    refine sxs_cons (sx_unp (W := (· = .dat (.tuple [.str "short", lnD bs]))) (ex_var 0 rfl) fun s w => ⟨_, by
      subst w
      exact tx_tup (txs_cons (tx_name 4 nd) (txs_cons (tx_name 5 nd) txs_nil)), ?_⟩)
    refine sxs_cons (sx_if (k := false) (EB.cast (eb_eqS (ex_var 4 rfl) ex_str) (by decide +kernel)).t (fun hk => by cases hk) fun _ => sxs_nil ?_)
    refine sxs_cons (sx_if (k := false) (EB.cast (eb_bop (ew_or (eb_neS (ex_var 4 rfl) ex_str) (fun hc => (ew_or1 (eb_not (eb_isi (k := true) B.isinstance (ex_var 5 rfl) (ex_ty (n := "list") B.list (by decide +kernel)) (by exact (show kitB "list" "list" = some true by decide +kernel)))))))) (by decide +kernel)).t (fun hk => by cases hk) fun _ => sxs_nil ?_)
    refine sxs_cons (sx_asg 6 (W := (· = di (lastF bs 0))) (ex_neg ex_int) (fun s w => ?_) nd)
    subst w
    refine sxs_cons (sx_asg 7 (W := (· = .dat (liD []))) (ex_lst (ds := []) ea_nil (Nat.le_of_ble_eq_true rfl)) (fun s w => ?_) nd)
    subst w
    refine sxs_cons (sx_forT (ix_lstM (ex_var 5 rfl)) (fun i Ψ B => Ψ = phS G ∧ ∃ (hs : List Int) (u : Sl), B = [.d (encPa (.short bs)), .d (lnD p), .d (llD may), .d (ltD ties), .d (.str "short"), .d (lnD bs), .k (di (lastF bs i)), .d (liD hs), u] ∧ hs.length ≤ 100 * i ∧ ∀ x ∈ hs, ∃ b ∈ bs, ∀ s, p[s]? = some b → x ∈ may.getD s []) ⟨rfl, [], _, rfl, Nat.zero_le _, fun x hx => by cases hx⟩ (fun i b Ψ B e iv => ?_) fun Ψ B iv => ?_)
    · obtain ⟨rfl, hs, u, rfl, hz, hm⟩ := iv
      have hi := (List.getElem?_eq_some_iff.mp e).1
      have hbm := List.mem_of_getElem? e
      have hbp := rgs_mem rg (hlt b hbm)
      have hlast : lastF bs i < (b : Nat) := by
        unfold lastF
        split
        · omega
        · rename_i h0
          have e1 : bs[i - 1]? = some (bs.getD (i - 1) 0) := getDS 0 (by omega)
          rw [List.getElem?_eq_getElem (by omega)] at e1
          rw [List.getElem?_eq_getElem hi] at e
          have := (List.pairwise_iff_getElem.mp sp.up) (i - 1) i (by omega) hi (by omega)
          rw [Option.some.inj e1, Option.some.inj e] at this
          omega
      have pf := poolF_few (p := p) (b := b) mo
      refine ⟨_, tx_name 8 nd, ?_⟩
      refine sxs_cons (sx_if (k := false) (EB.cast (eb_bop (ew_or (eb_not (eb_of (ex_call F__law_whole hr (ea_cons (ex_var 8 rfl) ea_nil) (W := (· = db true)) fun G _ => ⟨(b : Nat), rfl, rfl⟩))) (fun hc => (ew_or (eb_le (ex_var 8 rfl) (ex_var 6 rfl)) (fun hc => (ew_or1 (eb_ninN (ex_var 8 rfl) (ex_var 1 rfl)))))))) (by rw [decide_eq_false (show ¬ ((b : Nat) : Int) ≤ lastF bs i by omega), decide_eq_true hbp]; rfl)).t (fun hk => by cases hk) fun _ => sxs_nil ?_)
      refine sxs_cons (sx_asg 7 (W := (· = .dat (liD (hs ++ poolF p may b)))) (EX.cast (ex_cat (ex_var 7 rfl) (ex_call F__law_pool hr (ea_cons (ex_var 1 rfl) (ea_cons (ex_var 2 rfl) (ea_cons (ex_var 8 rfl) ea_nil))) (W := (· = .dat (liD (poolF p may b)))) fun G _ => ⟨p, may, b, rfl, hpl, mo, hbp, rfl⟩) ?_) ?_) (fun s w => ?_) nd)
      · rw [List.length_map, List.length_map]
        exact Nat.le_trans (show _ ≤ 1000 by omega) (by decide)
      · rw [show liD (hs ++ poolF p may b) = .list ((hs ++ poolF p may b).map .int) from rfl, List.map_append]
      subst w
      refine sxs_one (sx_asg 6 (W := (· = di (lastF bs (i + 1)))) (EX.cast (ex_var 8 rfl) ?_) (fun s w => ?_) nd)
      · unfold lastF
        rw [if_neg (Nat.succ_ne_zero i), Nat.add_sub_cancel, List.getD_eq_getElem?_getD, e]
        rfl
      subst w
      refine ⟨rfl, hs ++ poolF p may b, .k (di (b : Nat)), rfl, ?_, fun x hx => ?_⟩
      · rw [List.length_append]
        omega
      · rcases List.mem_append.mp hx with hx | hx
        · exact hm x hx
        · exact ⟨b, hbm, poolF_mem hx⟩
    · obtain ⟨rfl, hs, u, rfl, hz, hm⟩ := iv
      refine sxs_one (sx_ret (EX.cast (eb_lt (ex_lenset B.len B.set (ex_var 7 rfl) (by omega)) (ex_len B.len (ex_var 5 rfl) (.lst _))).v ?_) fun s w => w)
      refine congrArg db (decide_eq_true ?_)
      obtain ⟨u1, u2⟩ := uniq_spec hs
      have := sp.few (uniq hs) u1 fun x hx => hm x ((u2 x).mp hx)
      rw [List.length_map]
      omega
end
end Dl
namespace Dl
open PySem PySem.Spec PyProof.Rows L2
section
variable {P : Program} {w : World} {K : PySem.W.Frag} {mg : Str → Option Value} {base : Heap}
abbrev s__law_shows : Stmt := topS 102
abbrev N__law_shows : List Str := ["paper", "pattern", "may", "ties", "many", "block"]
theorem sc__law_shows : FnScope N__law_shows ["paper", "pattern", "may", "ties"] (defScope s__law_shows) := ⟨rfl, rfl, rfl, by decide +kernel, rfl, by decide +kernel, by decide +kernel⟩
theorem hb__law_shows (kV doc pm : Value) (an : Option Addr) (cdv ct : Value) (us : List Value) (hl : us.length = 4) : bindArgs (PySem.W.fnOf "_law_shows" "_law_shows" (defArgs s__law_shows) (defBody s__law_shows) (defScope s__law_shows) .none kV doc pm an cdv ct) ⟨us, []⟩ = pure ((["paper", "pattern", "may", "ties"] : List Str).zip us) := match us, hl with
  | [_, _, _, _], _ => rfl
def R__law_shows (d : Nat) : PSpec := fun _ ss W => ∃ (pa : Paper) (p : List Nat) (may : List (List Int)) (ties : List Tie), ss = [.dat (encPa pa), .dat (lnD p), .dat (llD may), .dat (ltD ties)] ∧ Shows may ties p pa ∧ Rgs p ∧ p.length ≤ may.length ∧ may.length ≤ p.length + d ∧ MayOk may ∧ TiesOk may.length ties ∧ W = (· = db true)
theorem max_width {p : List Nat} (rg : Rgs p) : ((widthF p : Nat) : Int) - 1 ∈ (p.map fun k : Nat => (k : Int)) ++ [-1] ∧ ∀ y ∈ (p.map fun k : Nat => (k : Int)) ++ [-1], y ≤ ((widthF p : Nat) : Int) - 1 := by
  refine ⟨?_, fun y hy => ?_⟩
  · by_cases q : widthF p = 0
    · rw [q]
      exact List.mem_append_right _ (List.mem_singleton.mpr rfl)
    · refine List.mem_append_left _ (List.mem_map.mpr ⟨widthF p - 1, rgs_mem rg (by omega), by omega⟩)
  · rcases List.mem_append.mp hy with hy | hy
    · obtain ⟨k, hk, rfl⟩ := List.mem_map.mp hy
      obtain ⟨s, e⟩ := List.mem_iff_getElem?.mp hk
      have := widthF_lt e
      show (k : Int) ≤ _
      omega
    · rw [List.mem_singleton.mp hy]
      omega
set_option maxHeartbeats 2000000 in
theorem ok__law_shows (B : Bt mg) (Dd : DefAt K mg "_law_shows" s__law_shows) (F__law_shut : Fn P w K mg base "_law_shut" ["paper", "pattern", "may", "ties"] R__law_shut 2) (d : Nat) (ih : ∀ d', d = d' + 1 → Fn P w K mg base "_law_shows" ["paper", "pattern", "may", "ties"] (R__law_shows d') (3 + d')) :
    Fn P w K mg base "_law_shows" ["paper", "pattern", "may", "ties"] (R__law_shows d) (3 + d) := by
  have e0 : 3 + d = (2 + d) + 1 := by omega
  rw [e0]
  refine fn_mk Dd sc__law_shows (fun G ss W ⟨_, _, _, _, e, _⟩ => by rw [e]; rfl) hb__law_shows fun f cdv A outer s H hr G ss W h => ?_
  obtain ⟨pa, p, may, ties, rfl, sh, rg, hpl, hd, mo, to, rfl⟩ := h
  have nd := (sc__law_shows).nd
  have hr2 := hr.mono (show 2 ≤ 2 + d by omega)
  have h6 := mo.len
  have hlp : (p.map encN).length = p.length := List.length_map _
  have hlm : (may.map liD).length = may.length := List.length_map _
  have hw : widthF p ≤ p.length := by
    have := widthF_le rg (Nat.le_refl p.length)
    rw [List.take_length] at this
    exact this
  have plain : ∀ (ds : List D) (wd : Str), encPa pa = .tuple (.str wd :: ds) → ds.length = 1 → wd ≠ "split" → plainP pa = true → SXs false (cx P w K mg base N__law_shows "_law_shows" (defScope s__law_shows) f cdv A outer s H) (phS G) (st0 N__law_shows [.dat (encPa pa), .dat (lnD p), .dat (llD may), .dat (ltD ties)]) (defBody s__law_shows) { nx := fun _ _ => (fun s => s = db true) (.dat .none), rt := fun _ s => (fun s => s = db true) s } := fun ds wd e hl hne hp => by
    obtain ⟨d1, rfl⟩ := List.length_eq_one_iff.mp hl
    have hr := hr2
    rw [e]
    refine sxs_cons (sx_if (k := false) (EB.cast (eb_bop (ew_or (eb_not (eb_isi (k := true) B.isinstance (ex_var 0 rfl) (ex_ty (n := "tuple") B.tuple (by decide +kernel)) (by exact (show kitB "tuple" "tuple" = some true by decide +kernel)))) (fun hc => (ew_or1 (eb_neI (ex_len B.len (ex_var 0 rfl) (.tup _)) ex_int))))) (by rfl)).t (fun hk => by cases hk) fun _ => sxs_nil ?_)
    refine sxs_cons (sx_if (k := true) (EB.cast (eb_neS (ex_ixT (ex_var 0 rfl) ex_int rfl) ex_str) (by rw [decide_eq_false hne]; rfl)).t (fun _ => sxs_one (sx_ret (W := (· = db true)) (ex_call F__law_shut hr (ea_cons (ex_var 0 rfl) (ea_cons (ex_var 1 rfl) (ea_cons (ex_var 2 rfl) (ea_cons (ex_var 3 rfl) ea_nil)))) fun G _ => ⟨pa, p, may, ties, by rw [e], hp, sh, rg, hpl, mo, to, rfl⟩) fun s w => w)) fun hk => by cases hk)
  cases pa with
  | tie j => exact plain [.int (j : Nat)] "tie" rfl rfl (by decide +kernel) rfl
  | short bs => exact plain [lnD bs] "short" rfl rfl (by decide +kernel) rfl
  | split ps =>
    cases sh with
    | @split _ _ hps hlt hsh =>
      obtain ⟨d', rfl⟩ : ∃ d', d = d' + 1 := ⟨d - 1, by omega⟩
      have F__law_shows := ih d' rfl
      have hr3 := hr.mono (show 3 + d' ≤ 2 + (d' + 1) by omega)
      have ee : encPa (.split ps) = .tuple [.str "split", .list (ps.map encPa)] := by
        unfold encPa
        rw [encPas_map]
      rw [ee]
      have hl0 : (ps.map encPa).length = ps.length := List.length_map _
      obtain ⟨m1, m2⟩ := max_width rg
      refine sxs_cons (sx_if (k := false) (EB.cast (eb_bop (ew_or (eb_not (eb_isi (k := true) B.isinstance (ex_var 0 rfl) (ex_ty (n := "tuple") B.tuple (by decide +kernel)) (by exact (show kitB "tuple" "tuple" = some true by decide +kernel)))) (fun hc => (ew_or1 (eb_neI (ex_len B.len (ex_var 0 rfl) (.tup _)) ex_int))))) (by rfl)).t (fun hk => by cases hk) fun _ => sxs_nil ?_)
      refine sxs_cons (sx_if (k := false) (EB.cast (eb_neS (ex_ixT (ex_var 0 rfl) ex_int rfl) ex_str) (by decide +kernel)).t (fun hk => by cases hk) fun _ => sxs_nil ?_)
      refine sxs_cons (sx_asg 4 (W := (· = di ((widthF p + 1 : Nat) : Int))) (EX.cast (ex_addI (ex_maxL (ns := (p.map fun k : Nat => (k : Int)) ++ [-1]) B.max (EX.cast (ex_cat (EX.ofN (ex_var 1 rfl)) (ex_lst (ds := [_]) (ea_cons (ex_neg ex_int) ea_nil) (Nat.le_of_ble_eq_true rfl)) ?_) ?_) m1 m2) ex_int) ?_) (fun s w => ?_) nd)
      · rw [List.length_map, List.length_map]
        exact Nat.le_trans (show _ ≤ 1000 by show p.length + 1 ≤ 1000; omega) (by decide)
      · rw [List.map_append]
        rfl
      · exact congrArg di (by omega)
      subst w
      refine sxs_cons (sx_if (k := false) (EB.cast (eb_bop (ew_or (eb_not (eb_isi (k := true) B.isinstance (ex_ixT (ex_var 0 rfl) ex_int rfl) (ex_ty (n := "list") B.list (by decide +kernel)) (by exact (show kitB "list" "list" = some true by decide +kernel)))) (fun hc => (ew_or (eb_neI (ex_len B.len (ex_ixT (ex_var 0 rfl) ex_int rfl) (.lst _)) (ex_var 4 rfl)) (fun hc => (ew_or1 (eb_eqI (ex_len B.len (ex_var 1 rfl) (.lst _)) (ex_len B.len (ex_var 2 rfl) (.lst _))))))))) ?_).t (fun hk => by cases hk) fun _ => sxs_nil ?_)
      · rw [hl0, hps, hlp, hlm, decide_eq_true rfl, decide_eq_false (show ¬ ((p.length : Nat) : Int) = (may.length : Nat) by omega)]
        rfl
      refine sxs_cons (sx_forT (ix_range B.range (ex_var 4 rfl) (by omega) (by omega)) (fun i Ψ B => Ψ = phS G ∧ ∃ u, B = [.d (.tuple [.str "split", .list (ps.map encPa)]), .d (lnD p), .d (llD may), .d (ltD ties), .k (di ((widthF p + 1 : Nat) : Int)), u]) ⟨rfl, _, rfl⟩ (fun i b Ψ B e iv => ?_) fun Ψ B iv => ?_)
      · obtain ⟨rfl, u, rfl⟩ := iv
        have hb : b < widthF p + 1 := by
          have := List.mem_of_getElem? e
          rw [Int.toNat_natCast, List.mem_range] at this
          exact this
        have eb : ps[b]? = some ps[b] := List.getElem?_eq_getElem (by omega)
        generalize ps[b] = q at eb
        have shq := hsh b q eb
        refine ⟨_, tx_name 5 nd, ?_⟩
        refine sxs_one (sx_if (k := false) (EB.cast (eb_not (c1 := true) (eb_of (ex_call F__law_shows hr3 (ea_cons (ex_ixM (f := encPa) (ex_ixT (ex_var 0 rfl) ex_int rfl) (ex_var 5 rfl) (atN eb)) (ea_cons (EX.cast (ex_cat (ex_var 1 rfl) (ex_lst (ds := [_]) (ea_cons (ex_var 5 rfl) ea_nil) (Nat.le_of_ble_eq_true rfl)) ?_) (?_ : _ = Ds.dat (lnD (p ++ [b])))) (ea_cons (ex_var 2 rfl) (ea_cons (ex_var 3 rfl) ea_nil)))) (W := (· = db true)) fun G _ => ⟨q, p ++ [b], may, ties, rfl, shq, rgs_snoc rg (by omega), by rw [List.length_append]; show p.length + 1 ≤ _; omega, by rw [List.length_append]; show _ ≤ p.length + 1 + d'; omega, mo, to, rfl⟩))) rfl).t (fun hk => by cases hk) fun _ => sxs_nil ⟨rfl, .k (di (b : Nat)), rfl⟩)
        · rw [hlp]
          exact Nat.le_trans (show _ ≤ 1000 by show p.length + 1 ≤ 1000; omega) (by decide)
        · rw [show lnD (p ++ [b]) = .list ((p ++ [b]).map encN) from rfl, List.map_append]
          rfl
      · obtain ⟨rfl, u, rfl⟩ := iv
        exact sxs_one (sx_ret ex_bool fun s w => w)
theorem ok__law_showsAll (B : Bt mg) (Dd : DefAt K mg "_law_shows" s__law_shows) (F1 : Fn P w K mg base "_law_shut" ["paper", "pattern", "may", "ties"] R__law_shut 2) : ∀ d, Fn P w K mg base "_law_shows" ["paper", "pattern", "may", "ties"] (R__law_shows d) (3 + d)
  | 0 => ok__law_shows B Dd F1 0 (fun d' h => by omega)
  | d + 1 => ok__law_shows B Dd F1 (d + 1) (fun d' h => by
    have : d' = d := by omega
    subst this
    exact ok__law_showsAll B Dd F1 d')
end
end Dl
namespace Dl
open PySem PySem.Spec PyProof.Rows L2
section
variable {P : Program} {w : World} {K : PySem.W.Frag} {mg : Str → Option Value} {base : Heap}
abbrev probD (may : List (List Int)) (ties : List Tie) (done : List (Option Int)) : D := .list [llD may, ltD ties, loD done]
theorem setsF_nodup (order : List (Nat × Nat)) (done : List (Option Int)) : (setsF order done).Nodup := (rowsF_nodup done done.length).filter _
theorem setsF_few (order : List (Nat × Nat)) {done : List (Option Int)} (h : done.length ≤ 6) : (setsF order done).length ≤ 64 :=
  Nat.le_trans (List.length_filter_le _ _) (Nat.le_trans (rowsF_few done done.length) (Nat.le_trans (Nat.pow_le_pow_right (by decide) h) (by decide)))
abbrev s__law_papers : Stmt := topS 105
abbrev N__law_papers : List Str := ["papers", "due", "problem", "may", "ties", "done", "met", "pair", "step"]
theorem sc__law_papers : FnScope N__law_papers ["papers", "due", "problem"] (defScope s__law_papers) := ⟨rfl, rfl, rfl, by decide +kernel, rfl, by decide +kernel, by decide +kernel⟩
theorem hb__law_papers (kV doc pm : Value) (an : Option Addr) (cdv ct : Value) (us : List Value) (hl : us.length = 3) : bindArgs (PySem.W.fnOf "_law_papers" "_law_papers" (defArgs s__law_papers) (defBody s__law_papers) (defScope s__law_papers) .none kV doc pm an cdv ct) ⟨us, []⟩ = pure ((["papers", "due", "problem"] : List Str).zip us) := match us, hl with
  | [_, _, _], _ => rfl
def R__law_papers : PSpec := fun _ ss W => ∃ (ps : List (List Nat × Paper)) (due : List (List Nat)) (may : List (List Int)) (ties : List Tie) (done : List (Option Int)), ss = [.dat (spD ps), .dat (lnnD due), .dat (probD may ties done)] ∧ (ps.map (·.1)).Perm due ∧ due.Nodup ∧ due.length ≤ 64 ∧
  SpOk may ties done ps ∧ MayOk may ∧ TiesOk may.length ties ∧ may.length = done.length ∧ W = (· = db true)
set_option maxHeartbeats 2000000 in
theorem ok__law_papers (B : Bt mg) (Dd : DefAt K mg "_law_papers" s__law_papers) (F__law_whole : Fn P w K mg base "_law_whole" ["found"] R__law_whole 1) (F__law_shows : Fn P w K mg base "_law_shows" ["paper", "pattern", "may", "ties"] (R__law_shows 6) 9) (F__law_held : Fn P w K mg base "_law_held" ["may", "done"] R__law_held 1) (F__law_undone : Fn P w K mg base "_law_undone" ["done", "steps"] R__law_undone 1) :
    Fn P w K mg base "_law_papers" ["papers", "due", "problem"] R__law_papers 10 := by
  refine fn_mk Dd sc__law_papers (fun G ss W ⟨_, _, _, _, _, e, _⟩ => by rw [e]; rfl) hb__law_papers fun f cdv A outer s H hr9 G ss W h => ?_
  obtain ⟨ps, due, may, ties, done, rfl, pm, dn, dz, sp, mo, to, hl, rfl⟩ := h
  have nd := (sc__law_papers).nd
  have hu := hu_of2 hr9
  have hr := hr9.mono (show 1 ≤ 9 by decide)
  have h6 := mo.len
  have hlen : ps.length = due.length := by
    have := pm.length_eq
    rw [List.length_map] at this
    exact this
  have hnd : (ps.map (·.1)).Nodup := pm.nodup_iff.mpr dn
  have hl1 : (ps.map encSP).length = ps.length := List.length_map _
  have hl2 : (due.map lnD).length = due.length := List.length_map _
  refine sxs_cons (sx_unp (ex_var 2 rfl) fun s w => ⟨_, by
    subst w
    exact tx_lst (txs_cons (tx_name 3 nd) (txs_cons (tx_name 4 nd) (txs_cons (tx_name 5 nd) txs_nil))), ?_⟩)
  refine sxs_cons (sx_if (k := false) (EB.cast (eb_bop (ew_or (eb_not (eb_isi (k := true) B.isinstance (ex_var 0 rfl) (ex_ty (n := "list") B.list (by decide +kernel)) (by exact (show kitB "list" "list" = some true by decide +kernel)))) (fun hc => (ew_or1 (eb_neI (ex_len B.len (ex_var 0 rfl) (.lst _)) (ex_len B.len (ex_var 1 rfl) (.lst _))))))) (by rw [hl1, hl2, hlen, decide_eq_true rfl]; rfl)).t (fun hk => by cases hk) fun _ => sxs_nil ?_)
  refine sxs_cons (sx_own 6 exn_nil ?_ nd)
  refine sxs_cons (sx_forT (ix_lstM (ex_var 0 rfl)) (fun i Ψ B => Ψ = phS G ∧ ∃ u v, B = [.d (spD ps), .d (lnnD due), .d (probD may ties done), .d (llD may), .d (ltD ties), .d (loD done), .lst (((ps.take i).map (·.1)).map lnD), u, v]) ⟨rfl, _, _, rfl⟩ (fun i q Ψ B e iv => ?_) fun Ψ B iv => ?_)
  · obtain ⟨rfl, u, v, rfl⟩ := iv
    have hq := List.mem_of_getElem? e
    have hi := (List.getElem?_eq_some_iff.mp e).1
    have et : ps.take (i + 1) = ps.take i ++ [q] := by
      rw [List.take_add_one, e]
      rfl
    have hdue : q.1 ∈ due := pm.mem_iff.mp (List.mem_map.mpr ⟨q, hq, rfl⟩)
    have hnew : q.1 ∉ (ps.take i).map (·.1) := by
      have hn2 : ((ps.take (i + 1)).map (·.1)).Nodup := by
        rw [List.map_take]
        exact hnd.sublist (List.take_sublist _ _)
      rw [et, List.map_append] at hn2
      intro hm
      exact (List.nodup_append.mp hn2).2.2 q.1 hm q.1 (List.mem_singleton.mpr rfl) rfl
    have shq := sp q hq
    have hsl := struckF_len done q.1
    have hml : may.length = (struckF done q.1).length := by rw [hsl, hl]
    refine ⟨_, tx_name 7 nd, ?_⟩
    refine sxs_cons (sx_if (k := false) (EB.view (EB.cast (eb_bop (ew_or (eb_not (eb_isi (k := true) B.isinstance (ex_var 7 rfl) (ex_ty (n := "tuple") B.tuple (by decide +kernel)) (by exact (show kitB "tuple" "tuple" = some true by decide +kernel)))) fun hc => ew_or (eb_neI (ex_len B.len (ex_var 7 rfl) (.tup _)) ex_int) fun hc => ew_or (eb_ninC (k := false) code_lN (ex_ixT (ex_var 7 rfl) ex_int rfl) (ex_var 1 rfl) hu trivial (fun _ _ => trivial) ⟨fun _ => hdue, fun _ => rfl⟩) fun hc => ew_or1 (eb_inC (k := false) (xs := (ps.take i).map (·.1)) code_lN (ex_ixT (ex_var 7 rfl) ex_int rfl) (ex_var 6 rfl) hu trivial (fun _ _ => trivial) ⟨nofun, fun z => absurd z hnew⟩))) (by rfl))).t (fun hk => by cases hk) fun _ => sxs_nil ?_)
    refine sxs_cons (sx_forT (ix_lstM (f := encN) (ys := q.1) (ex_ixT (ex_var 7 rfl) ex_int rfl)) (fun j Ψ B => Ψ = phS G ∧ ∃ v, B = [.d (spD ps), .d (lnnD due), .d (probD may ties done), .d (llD may), .d (ltD ties), .d (loD done), .lst (((ps.take i).map (·.1)).map lnD), .d (encSP q), v]) ⟨rfl, _, rfl⟩ (fun j n Ψ B e2 iv => ?_) fun Ψ B iv => ?_)
    · obtain ⟨rfl, v, rfl⟩ := iv
      refine ⟨_, tx_name 8 nd, sxs_one (sx_if (k := false) (EB.cast (eb_not (c1 := true) (eb_of (ex_call F__law_whole hr (ea_cons (ex_var 8 rfl) ea_nil) (W := (· = db true)) fun G _ => ⟨(n : Nat), rfl, rfl⟩))) rfl).t (fun hk => by cases hk) fun _ => sxs_nil ⟨rfl, .k (di (n : Nat)), rfl⟩)⟩
    · obtain ⟨rfl, v, rfl⟩ := iv
      refine sxs_cons (sx_app 6 rfl (d := lnD q.1) (ex_ixT (ex_var 7 rfl) ex_int rfl) (by rw [List.length_map, List.length_map, List.length_take]; omega) ?_)
      refine sxs_one (sx_if (k := false) (EB.cast (eb_not (c1 := true) (eb_of (ex_call F__law_shows hr9 (ea_cons (ex_ixT (ex_var 7 rfl) ex_int rfl) (ea_cons (ex_lst (ds := []) ea_nil (Nat.le_of_ble_eq_true rfl)) (ea_cons (ex_call F__law_held hr (ea_cons (ex_var 3 rfl) (ea_cons (ex_call F__law_undone hr (ea_cons (ex_var 5 rfl) (ea_cons (ex_ixT (ex_var 7 rfl) ex_int rfl) ea_nil)) (W := (· = .dat (loD (struckF done q.1)))) fun G _ => ⟨done, q.1, rfl, by omega, rfl⟩) ea_nil)) (W := (· = .dat (llD (heldF may (struckF done q.1))))) fun G _ => ⟨_, _, rfl, hml, by omega, rfl⟩) (ea_cons (ex_var 4 rfl) ea_nil)))) (W := (· = db true)) fun G _ => ⟨q.2, [], heldF may (struckF done q.1), ties, rfl, shq, rgs_nil, Nat.zero_le _, by rw [heldF_len hml]; simpa using h6, heldF_ok hml mo, by rw [heldF_len hml]; exact to, rfl⟩))) rfl).t (fun hk => by cases hk) fun _ => sxs_nil ⟨rfl, .d (encSP q), v, ?_⟩)
      rw [et, List.map_append, List.map_append]
      rfl
  · obtain ⟨rfl, u, v, rfl⟩ := iv
    exact sxs_one (sx_ret ex_bool fun s w => w)
abbrev s__law_walked : Stmt := topS 107
abbrev N__law_walked : List Str := ["found", "may", "ties"]
theorem sc__law_walked : FnScope N__law_walked ["found", "may", "ties"] (defScope s__law_walked) := ⟨rfl, rfl, rfl, by decide +kernel, rfl, by decide +kernel, by decide +kernel⟩
theorem hb__law_walked (kV doc pm : Value) (an : Option Addr) (cdv ct : Value) (us : List Value) (hl : us.length = 3) : bindArgs (PySem.W.fnOf "_law_walked" "_law_walked" (defArgs s__law_walked) (defBody s__law_walked) (defScope s__law_walked) .none kV doc pm an cdv ct) ⟨us, []⟩ = pure ((["found", "may", "ties"] : List Str).zip us) := match us, hl with
  | [_, _, _], _ => rfl
def R__law_walked : PSpec := fun _ ss W => ∃ (s0 : Ds) (may : List (List Int)) (ties : List Tie), ss = [s0, .dat (llD may), .dat (ltD ties)] ∧ W_plan may ties [] s0 ∧ MayOk may ∧ TiesOk may.length ties ∧ W = (· = db true)
theorem ok__law_walked (B : Bt mg) (Dd : DefAt K mg "_law_walked" s__law_walked) (F__law_fits : Fn P w K mg base "_law_fits" ["hands", "may", "ties"] R__law_fits 2) (F__law_shows : Fn P w K mg base "_law_shows" ["paper", "pattern", "may", "ties"] (R__law_shows 6) 9) : Fn P w K mg base "_law_walked" ["found", "may", "ties"] R__law_walked 10 := by
  refine fn_mk Dd sc__law_walked (fun G ss W ⟨_, _, _, e, _⟩ => by rw [e]; rfl) hb__law_walked fun f cdv A outer s H hr9 G ss W h => ?_
  obtain ⟨s0, may, ties, rfl, wp, mo, to, rfl⟩ := h
  have hr := hr9.mono (show 2 ≤ 9 by decide)
  have h6 := mo.len
  rcases wp with ⟨hands, pl, rfl⟩ | ⟨pa, sh, rfl⟩
  · refine sxs_cons (sx_if (k := false) (EB.cast (eb_bop (ew_or (eb_not (eb_isi (k := true) B.isinstance (ex_var 0 rfl) (ex_ty (n := "tuple") B.tuple (by decide +kernel)) (by exact (show kitB "tuple" "tuple" = some true by decide +kernel)))) (fun hc => (ew_or1 (eb_neI (ex_len B.len (ex_var 0 rfl) (.tup _)) ex_int))))) (by rfl)).t (fun hk => by cases hk) fun _ => sxs_nil ?_)
    exact sxs_cons (sx_if (k := true) (EB.cast (eb_eqS (ex_ixT (ex_var 0 rfl) ex_int rfl) ex_str) (by decide +kernel)).t (fun _ => sxs_one (sx_ret (W := (· = db true)) (ex_call F__law_fits hr (ea_cons (ex_ixT (ex_var 0 rfl) ex_int rfl) (ea_cons (ex_var 1 rfl) (ea_cons (ex_var 2 rfl) ea_nil))) fun G _ => ⟨hands, may, ties, rfl, by omega, to, pl, rfl⟩) fun s w => w)) fun hk => by cases hk)
  · refine sxs_cons (sx_if (k := false) (EB.cast (eb_bop (ew_or (eb_not (eb_isi (k := true) B.isinstance (ex_var 0 rfl) (ex_ty (n := "tuple") B.tuple (by decide +kernel)) (by exact (show kitB "tuple" "tuple" = some true by decide +kernel)))) (fun hc => (ew_or1 (eb_neI (ex_len B.len (ex_var 0 rfl) (.tup _)) ex_int))))) (by rfl)).t (fun hk => by cases hk) fun _ => sxs_nil ?_)
    refine sxs_cons (sx_if (k := false) (EB.cast (eb_eqS (ex_ixT (ex_var 0 rfl) ex_int rfl) ex_str) (by decide +kernel)).t (fun hk => by cases hk) fun _ => sxs_nil ?_)
    refine sxs_one (sx_ret (EX.cast (eb_bop (ew_and (eb_eqS (ex_ixT (ex_var 0 rfl) ex_int rfl) ex_str) fun hc => ew_and1 (eb_of (ex_call F__law_shows hr9 (ea_cons (ex_ixT (ex_var 0 rfl) ex_int rfl) (ea_cons (ex_lst (ds := []) ea_nil (Nat.le_of_ble_eq_true rfl)) (ea_cons (ex_var 1 rfl) (ea_cons (ex_var 2 rfl) ea_nil)))) (W := (· = db true)) fun G _ => ⟨pa, [], may, ties, rfl, sh, rgs_nil, Nat.zero_le _, by simpa using h6, mo, to, rfl⟩)))).v ?_) fun s w => w)
    rw [decide_eq_true rfl]
    rfl
end
end Dl
namespace Dl
open PySem PySem.Spec PyProof.Rows L2
section
variable {P : Program} {w : World} {K : PySem.W.Frag} {mg : Str → Option Value} {base : Heap}
abbrev s__law_mended : Stmt := topS 106
abbrev N__law_mended : List Str := ["found", "order", "problem", "may", "ties", "done", "sets", "step", "row"]
theorem sc__law_mended : FnScope N__law_mended ["found", "order", "problem"] (defScope s__law_mended) := ⟨rfl, rfl, rfl, by decide +kernel, rfl, by decide +kernel, by decide +kernel⟩
theorem hb__law_mended (kV doc pm : Value) (an : Option Addr) (cdv ct : Value) (us : List Value) (hl : us.length = 3) : bindArgs (PySem.W.fnOf "_law_mended" "_law_mended" (defArgs s__law_mended) (defBody s__law_mended) (defScope s__law_mended) .none kV doc pm an cdv ct) ⟨us, []⟩ = pure ((["found", "order", "problem"] : List Str).zip us) := match us, hl with
  | [_, _, _], _ => rfl
def R__law_mended : PSpec := fun _ ss W => ∃ (s0 : Ds) (order : List (Nat × Nat)) (may : List (List Int)) (ties : List Tie) (done : List (Option Int)), ss = [s0, .dat (lpD order), .dat (probD may ties done)] ∧ W_mend may ties order done s0 ∧ MayOk may ∧ TiesOk may.length ties ∧ may.length = done.length ∧ (∀ p ∈ order, p.2 < done.length) ∧ W = (· = db true)
set_option maxHeartbeats 2000000 in
theorem ok__law_mended (B : Bt mg) (Dd : DefAt K mg "_law_mended" s__law_mended) (F__law_whole : Fn P w K mg base "_law_whole" ["found"] R__law_whole 1) (F__law_sets : Fn P w K mg base "_law_sets" ["order", "done"] R__law_sets 1) (F__law_fits : Fn P w K mg base "_law_fits" ["hands", "may", "ties"] R__law_fits 2)
    (F__law_held : Fn P w K mg base "_law_held" ["may", "done"] R__law_held 1) (F__law_undone : Fn P w K mg base "_law_undone" ["done", "steps"] R__law_undone 1) (F__law_papers : Fn P w K mg base "_law_papers" ["papers", "due", "problem"] R__law_papers 10) :
    Fn P w K mg base "_law_mended" ["found", "order", "problem"] R__law_mended 11 := by
  refine fn_mk Dd sc__law_mended (fun G ss W ⟨_, _, _, _, _, e, _⟩ => by rw [e]; rfl) hb__law_mended fun f cdv A outer s H hr10 G ss W h => ?_
  obtain ⟨s0, order, may, ties, done, rfl, wm, mo, to, hl, ho, rfl⟩ := h
  have nd := (sc__law_mended).nd
  have hu := hu_of2 hr10
  have hr := hr10.mono (show 1 ≤ 10 by decide)
  have hr2 := hr10.mono (show 2 ≤ 10 by decide)
  have h6 := mo.len
  have sf := setsF_few order (done := done) (by omega)
  have sn := setsF_nodup order done
  refine sxs_cons (sx_unp (W := (· = .dat (probD may ties done))) (ex_var 2 rfl) fun s w => ⟨_, by
    subst w
    exact tx_lst (txs_cons (tx_name 3 nd) (txs_cons (tx_name 4 nd) (txs_cons (tx_name 5 nd) txs_nil))), ?_⟩)
  refine sxs_cons (sx_asg 6 (W := (· = .dat (lnnD (setsF order done)))) (ex_call F__law_sets hr (ea_cons (ex_var 1 rfl) (ea_cons (ex_var 5 rfl) ea_nil)) fun G _ => ⟨order, done, rfl, ho, by omega, rfl⟩) (fun s w => ?_) nd)
  subst w
  rcases wm with ⟨steps, hands, sm, hs, pl, pm, sp, rfl⟩ | ⟨ps, pm, sp, rfl⟩
  · have hsl := struckF_len done steps
    have hml : may.length = (struckF done steps).length := by rw [hsl, hl]
    refine sxs_cons (sx_if (k := false) (EB.cast (eb_bop (ew_or (eb_not (eb_isi (k := true) B.isinstance (ex_var 0 rfl) (ex_ty (n := "tuple") B.tuple (by decide +kernel)) (by exact (show kitB "tuple" "tuple" = some true by decide +kernel)))) (fun hc => (ew_or1 (eb_lt (ex_len B.len (ex_var 0 rfl) (.tup _)) ex_int))))) (by rfl)).t (fun hk => by cases hk) fun _ => sxs_nil ?_)
    refine sxs_cons (sx_if (k := false) (EB.cast (eb_eqS (ex_ixT (ex_var 0 rfl) ex_int rfl) ex_str) (by decide +kernel)).t (fun hk => by cases hk) fun _ => sxs_nil ?_)
    refine sxs_cons (sx_if (k := false) (EB.cast (eb_bop (ew_or (eb_neS (ex_ixT (ex_var 0 rfl) ex_int rfl) ex_str) fun hc => ew_or (eb_neI (ex_len B.len (ex_var 0 rfl) (.tup _)) ex_int) fun hc => ew_or1 (eb_ninC (k := false) code_lN (ex_ixT (ex_var 0 rfl) ex_int rfl) (ex_var 6 rfl) hu trivial (fun _ _ => trivial) ⟨fun _ => hs, fun _ => rfl⟩))) ?_).t (fun hk => by cases hk) fun _ => sxs_nil ?_)
    · rw [decide_eq_true rfl]
      rfl
    refine sxs_cons (sx_forT (ix_lstM (f := encN) (ys := steps) (ex_ixT (ex_var 0 rfl) ex_int rfl)) (fun j Ψ B => Ψ = phS G ∧ ∃ v, B = [.d (.tuple [.str "mend", lnD steps, liD hands, spD sm]), .d (lpD order), .d (probD may ties done), .d (llD may), .d (ltD ties), .d (loD done), .d (lnnD (setsF order done)), v, .un]) ⟨rfl, _, rfl⟩ (fun j n Ψ B e2 iv => ?_) fun Ψ B iv => ?_)
    · obtain ⟨rfl, v, rfl⟩ := iv
      refine ⟨_, tx_name 7 nd, sxs_one (sx_if (k := false) (EB.cast (eb_not (c1 := true) (eb_of (ex_call F__law_whole hr (ea_cons (ex_var 7 rfl) ea_nil) (W := (· = db true)) fun G _ => ⟨(n : Nat), rfl, rfl⟩))) rfl).t (fun hk => by cases hk) fun _ => sxs_nil ⟨rfl, .k (di (n : Nat)), rfl⟩)⟩
    · obtain ⟨rfl, v, rfl⟩ := iv
      refine sxs_cons (sx_if (k := false) (EB.cast (eb_not (c1 := true) (eb_of (ex_call F__law_fits hr2 (ea_cons (ex_ixT (ex_var 0 rfl) ex_int rfl) (ea_cons (ex_call F__law_held hr (ea_cons (ex_var 3 rfl) (ea_cons (ex_call F__law_undone hr (ea_cons (ex_var 5 rfl) (ea_cons (ex_ixT (ex_var 0 rfl) ex_int rfl) ea_nil)) (W := (· = .dat (loD (struckF done steps)))) fun G _ => ⟨done, steps, rfl, by omega, rfl⟩) ea_nil)) (W := (· = .dat (llD (heldF may (struckF done steps))))) fun G _ => ⟨_, _, rfl, hml, by omega, rfl⟩) (ea_cons (ex_var 4 rfl) ea_nil))) (W := (· = db true)) fun G _ => ⟨hands, _, ties, rfl, by rw [heldF_len hml]; omega, by rw [heldF_len hml]; exact to, pl, rfl⟩))) rfl).t (fun hk => by cases hk) fun _ => sxs_nil ?_)
      refine sxs_one (sx_ret (ex_call F__law_papers hr10 (ea_cons (ex_ixT (ex_var 0 rfl) ex_int rfl) (ea_cons (ex_lc 8 (ys := setsF order done) (ι := fun r => .dat (lnD r)) (fun r => decide (r.length < steps.length)) lnD (ix_lstM (ex_var 6 rfl)) (by omega) (blkOk_by (N := N__law_mended) (sc := defScope s__law_mended) (by decide +kernel)) (fun y hy s H C cl fp => (EB.cast (eb_lt (ex_len B.len (ex_var 8 rfl) (.lst _)) (ex_len B.len (ex_ixT (ex_var 0 rfl) ex_int rfl) (.lst _))) (decide_eq_decide.mpr (by rw [List.length_map, List.length_map]; exact Int.ofNat_lt))).t) (fun y hy hq s H C cl fp => ex_var 8 rfl) (fun s H C cl fp => pg_name nd rfl (Or.inl rfl)) nd) (ea_cons (ex_var 2 rfl) ea_nil))) (W := (· = db true)) fun G _ => ⟨sm, (setsF order done).filter (fun r => decide (r.length < steps.length)), may, ties, done, rfl, pm, sn.filter _, Nat.le_trans (List.length_filter_le _ _) sf, sp, mo, to, hl, rfl⟩) fun s w => w)
  · have hr := hr10
    refine sxs_cons (sx_if (k := false) (EB.cast (eb_bop (ew_or (eb_not (eb_isi (k := true) B.isinstance (ex_var 0 rfl) (ex_ty (n := "tuple") B.tuple (by decide +kernel)) (by exact (show kitB "tuple" "tuple" = some true by decide +kernel)))) (fun hc => (ew_or1 (eb_lt (ex_len B.len (ex_var 0 rfl) (.tup _)) ex_int))))) (by rfl)).t (fun hk => by cases hk) fun _ => sxs_nil ?_)
    refine sxs_cons (sx_if (k := true) (EB.cast (eb_eqS (ex_ixT (ex_var 0 rfl) ex_int rfl) ex_str) (by decide +kernel)).t (fun _ => sxs_one (sx_ret (EX.cast (eb_bop (ew_and (eb_eqI (ex_len B.len (ex_var 0 rfl) (.tup _)) ex_int) (fun hc => (ew_and1 (eb_of (ex_call F__law_papers hr (ea_cons (ex_ixT (ex_var 0 rfl) ex_int rfl) (ea_cons (ex_var 6 rfl) (ea_cons (ex_var 2 rfl) ea_nil))) (W := (· = db true)) fun G _ => ⟨ps, setsF order done, may, ties, done, rfl, pm, sn, sf, sp, mo, to, hl, rfl⟩)))))).v (by rfl)) fun s w => w)) fun hk => by cases hk)
end
end Dl
namespace Dl
open PySem PySem.Spec PyProof.Rows L2
section
variable {X : Cx} {Φ : Ph} {A : List Sl} {a b : Expr} {pos : Pos} {ns : List Int}
theorem eb_eqQ (ha : EX X Φ A a (.sq ns)) (hb : EX X Φ A b (.dat (.list []))) (hu : X.A.units + 65 < cLine) : EB X Φ A (.Compare a [.Eq] [b] pos) (decide (ns = [])) :=
  EB.cast (c := PyData.eqv (liD ns) (.list [])) (eb_cmp (op_eqD (by omega)) ha hb (nomark _) fun x y G H Q sm h1 h2 q => ⟨liD ns, .list [], by
    cases h1 with
    | sq hS => exact .lst (sm.seq hS) (DqAll.dp (G := H) (ns.map .int) _ (DqAll.of_ints ns)), h2.dp sm, (code_lI.sh ns trivial).ok, by decide +kernel, q⟩) (by
    rw [Bool.eq_iff_iff, decide_eq_true_iff]
    exact (eqv_code code_lI ns []))
end
section
variable {P : Program} {w : World} {K : PySem.W.Frag} {mg : Str → Option Value} {base : Heap}
abbrev s__law_cell : Stmt := topS 83
abbrev N__law_cell : List Str := ["script", "k"]
theorem sc__law_cell : FnScope N__law_cell ["script", "k"] (defScope s__law_cell) := ⟨rfl, rfl, rfl, by decide +kernel, rfl, by decide +kernel, by decide +kernel⟩
theorem hb__law_cell (kV doc pm : Value) (an : Option Addr) (cdv ct : Value) (us : List Value) (hl : us.length = 2) : bindArgs (PySem.W.fnOf "_law_cell" "_law_cell" (defArgs s__law_cell) (defBody s__law_cell) (defScope s__law_cell) .none kV doc pm an cdv ct) ⟨us, []⟩ = pure ((["script", "k"] : List Str).zip us) := match us, hl with
  | [_, _], _ => rfl
def cellF (ns : List Int) (k : Nat) : Int := if k < ns.length then ns.getD k 0 else if ns = [] then (k : Int) * k * 7919 + 13 * k else (ns.getD (k % ns.length) 0 + (k : Int) * k * 7919 + 1) * 48271 % 2147483647
def R__law_cell : PSpec := fun _ ss W => ∃ (ns : List Int) (k : Nat), ss = [.sq ns, di (k : Nat)] ∧ k ≤ 1000 ∧ W = (· = di (cellF ns k))
theorem ok__law_cell (B : Bt mg) (Dd : DefAt K mg "_law_cell" s__law_cell) : Fn P w K mg base "_law_cell" ["script", "k"] R__law_cell 1 := by
  refine fn_mk Dd sc__law_cell (fun G ss W ⟨_, _, e, _⟩ => by rw [e]; rfl) hb__law_cell fun f cdv A outer s H hr G ss W h => ?_
  obtain ⟨ns, k, rfl, hk, rfl⟩ := h
  have nd := (sc__law_cell).nd
  have hu := hu_of2 hr
  refine sxs_cons (sx_if (k := decide (k < ns.length)) (EB.cast (eb_lt (ex_var 1 rfl) (ex_len B.len (ex_var 0 rfl) (.sq _))) (decide_eq_decide.mpr Int.ofNat_lt)).t (fun hk => ?_) fun hk => sxs_nil ?_)
  · have hk := of_decide_eq_true hk
    refine sxs_one (sx_ret (ex_ix (ex_var 0 rfl) (ex_var 1 rfl) (.sq (atN (getDS 0 hk)))) fun s w => ?_)
    subst w
    unfold cellF
    rw [if_pos hk]
  · have hk0 := of_decide_eq_false hk
    refine sxs_cons (sx_if (k := decide (ns = [])) (eb_eqQ (ex_var 0 rfl) (ex_lst (ds := []) ea_nil (Nat.le_of_ble_eq_true rfl)) hu).t (fun he => ?_) fun he => sxs_nil ?_)
    · have he := of_decide_eq_true he
      refine sxs_one (sx_ret (ex_addI (ex_mulI (ex_mulI (ex_var 1 rfl) (ex_var 1 rfl) (.inl ⟨by omega, by omega⟩)) ex_int (.inr ⟨by decide, by decide⟩)) (ex_mulI ex_int (ex_var 1 rfl) (.inl ⟨by decide, by decide⟩))) fun s w => ?_)
      subst w
      unfold cellF
      rw [if_neg hk0, if_pos he]
    · have he := of_decide_eq_false he
      have hp : 0 < ns.length := List.length_pos_iff.mpr he
      have hat : atI ns (((k : Nat) : Int) % ((ns.length : Nat) : Int)) = some (ns.getD (k % ns.length) 0) := by
        rw [show ((k : Nat) : Int) % ((ns.length : Nat) : Int) = ((k % ns.length : Nat) : Int) from rfl]
        exact atN (getDS 0 (Nat.mod_lt k hp))
      refine sxs_one (sx_ret (ex_mod (ex_mulI (ex_addI (ex_addI (ex_ix (ex_var 0 rfl) (ex_mod (ex_var 1 rfl) (ex_len B.len (ex_var 0 rfl) (.sq _)) (by omega)) (.sq hat)) (ex_mulI (ex_mulI (ex_var 1 rfl) (ex_var 1 rfl) (.inl ⟨by omega, by omega⟩)) ex_int (.inr ⟨by decide, by decide⟩))) ex_int) ex_int (.inr ⟨by decide, by decide⟩)) ex_int (by decide)) fun s w => ?_)
      subst w
      unfold cellF
      rw [if_neg hk0, if_neg he]
abbrev s__law_badges : Stmt := topS 86
abbrev N__law_badges : List Str := ["script", "at", "many", "badges", "k", "badge"]
theorem sc__law_badges : FnScope N__law_badges ["script", "at", "many"] (defScope s__law_badges) := ⟨rfl, rfl, rfl, by decide +kernel, rfl, by decide +kernel, by decide +kernel⟩
theorem hb__law_badges (kV doc pm : Value) (an : Option Addr) (cdv ct : Value) (us : List Value) (hl : us.length = 3) : bindArgs (PySem.W.fnOf "_law_badges" "_law_badges" (defArgs s__law_badges) (defBody s__law_badges) (defScope s__law_badges) .none kV doc pm an cdv ct) ⟨us, []⟩ = pure ((["script", "at", "many"] : List Str).zip us) := match us, hl with
  | [_, _, _], _ => rfl
def R__law_badges : PSpec := fun _ ss W => ∃ (ns : List Int) (at_ many : Nat), ss = [.sq ns, di (at_ : Nat), di (many : Nat)] ∧ at_ ≤ 100 ∧ many ≤ 100 ∧ W = fun s => ∃ bs : List Int, s = .dat (liD bs) ∧ bs.length = many ∧ bs.Nodup
def stepB (b0 : Int) (i : Nat) : Int := (b0 - 1 + i) % 1000000000000000000 + 1
theorem stepB_inj {b0 : Int} {i j : Nat} (hi : i < 1000) (hj : j < 1000) (e : stepB b0 i = stepB b0 j) : i = j := by
  unfold stepB at e
  omega
theorem stepB_few {b0 : Int} {bs : List Int} {n : Nat} (hn : n ≤ 1000) (h : ∀ j, j < n → stepB b0 j ∈ bs) : n ≤ bs.length := by
  have nd : ((List.range n).map (stepB b0)).Nodup := nodup_map List.nodup_range fun a ha b hb e => stepB_inj (by have := List.mem_range.mp ha; omega) (by have := List.mem_range.mp hb; omega) e
  have := List.Nodup.length_le_of_subset nd (l₂ := bs) fun x hx => by
    obtain ⟨j, hj, rfl⟩ := List.mem_map.mp hx
    exact h j (List.mem_range.mp hj)
  rw [List.length_map, List.length_range] at this
  exact this
theorem ok__law_badges (B : Bt mg) (Dd : DefAt K mg "_law_badges" s__law_badges) (F__law_cell : Fn P w K mg base "_law_cell" ["script", "k"] R__law_cell 1) : Fn P w K mg base "_law_badges" ["script", "at", "many"] R__law_badges 2 := by
  refine fn_mk Dd sc__law_badges (fun G ss W ⟨_, _, _, e, _⟩ => by rw [e]; rfl) hb__law_badges fun f cdv A outer s H hr G ss W h => ?_
  obtain ⟨ns, at_, many, rfl, ha, hm, rfl⟩ := h
  have nd := (sc__law_badges).nd
  refine sxs_cons (sx_own 3 exn_nil ?_ nd)
  refine sxs_cons (sx_forT (ix_range B.range (ex_var 2 rfl) (by omega) (by omega)) (fun i Ψ B => Ψ = phS G ∧ ∃ (bs : List Int) (u v : Sl), B = [.k (.sq ns), .k (di (at_ : Nat)), .k (di (many : Nat)), .lst (bs.map .int), u, v] ∧ bs.length = i ∧ bs.Nodup) ⟨rfl, [], _, _, rfl, rfl, List.nodup_nil⟩ (fun i k Ψ B e iv => ?_) fun Ψ B iv => ?_)
  · obtain ⟨rfl, bs, u, v, rfl, hl, hnd⟩ := iv
    have hk : k = i ∧ i < many := by
      obtain ⟨h1, h2⟩ := List.getElem?_eq_some_iff.mp e
      rw [List.getElem_range] at h2
      rw [List.length_range, Int.toNat_natCast] at h1
      exact ⟨h2.symm, h1⟩
    obtain ⟨rfl, hk⟩ := hk
    refine ⟨_, tx_name 4 nd, ?_⟩
    obtain ⟨m, hmod, hm5⟩ : ∃ m : Int, atI ([5, 1000000000000000000] : List Int) (cellF ns at_ / 7 % 2) = some m ∧ (m = 5 ∨ m = 1000000000000000000) := by
      have h2 : cellF ns at_ / 7 % 2 = 0 ∨ cellF ns at_ / 7 % 2 = 1 := by omega
      rcases h2 with h2 | h2
      · rw [h2]
        exact ⟨5, rfl, .inl rfl⟩
      · rw [h2]
        exact ⟨_, rfl, .inr rfl⟩
    have hmp : 0 < m := by rcases hm5 with h5 | h5 <;> rw [h5] <;> decide
    have hcd : ∀ x : Nat, ((at_ : Nat) : Int) + ((x : Nat) : Int) = ((at_ + x : Nat) : Int) := fun x => by omega
    obtain ⟨b0, eb0⟩ : ∃ b0 : Int, b0 = 1 + cellF ns (at_ + k) % m := ⟨_, rfl⟩
    have hb1 : 1 ≤ b0 ∧ b0 ≤ 1000000000000000000 := by
      rcases hm5 with h5 | h5
      · rw [h5] at eb0; omega
      · rw [h5] at eb0; omega
    have hp18 : (10 : Int) ^ (18 : Int).toNat = 1000000000000000000 := by decide +kernel
    refine sxs_cons (sx_asg 5 (W := (· = di b0)) (EX.cast (ex_addI ex_int (ex_mod (ex_call F__law_cell hr (ea_cons (ex_var 0 rfl) (ea_cons (EX.cast (ex_addI (ex_var 1 rfl) (ex_var 4 rfl)) (congrArg di (hcd k))) ea_nil)) (W := (· = di (cellF ns (at_ + k)))) fun G _ => ⟨ns, at_ + k, rfl, by omega, rfl⟩) (ex_ixM (f := PyData.int) (xs := [5, 1000000000000000000]) (ex_lst (ds := [.int 5, .int 1000000000000000000]) (ea_cons ex_int (ea_cons (EX.cast (ex_pow ex_int ex_int ⟨by decide, by decide, by decide⟩) (congrArg di hp18)) ea_nil)) (Nat.le_of_ble_eq_true rfl)) (ex_mod (ex_fdiv (ex_call F__law_cell hr (ea_cons (ex_var 0 rfl) (ea_cons (ex_var 1 rfl) ea_nil)) (W := (· = di (cellF ns at_))) fun G _ => ⟨ns, at_, rfl, by omega, rfl⟩) ex_int ⟨by decide, by decide⟩) ex_int (by decide)) hmod) hmp)) (congrArg di eb0.symm)) (fun s w => ?_) nd)
    subst w
    refine sxs_cons (sx_while (fun q Ψ B => Ψ = phS G ∧ ∃ i : Nat, B = [.k (.sq ns), .k (di (at_ : Nat)), .k (di (many : Nat)), .lst (bs.map .int), .k (di (k : Nat)), .k (di (stepB b0 i))] ∧ (∀ j, j < i → stepB b0 j ∈ bs) ∧ i ≤ 200 ∧ q = bs.length - i) ⟨_, rfl, 0, ?_, fun j hj => absurd hj (Nat.not_lt_zero _), Nat.zero_le _, rfl⟩ fun q Ψ B iv => ?_)
    · have : stepB b0 0 = b0 := by unfold stepB; omega
      rw [this]
      rfl
    obtain ⟨rfl, i, rfl, hin, hi2, rfl⟩ := iv
    refine ⟨decide (stepB b0 i ∈ bs), ET.view (EB.cast (eb_inI (ex_var 5 rfl) (ex_var 3 rfl)) (by rfl)).t, fun hk2 => ?_, fun hk2 => ?_⟩
    · have hk2 := of_decide_eq_true hk2
      have hin2 : ∀ j, j < i + 1 → stepB b0 j ∈ bs := fun j hj => by
        by_cases z : j = i
        · rw [z]; exact hk2
        · exact hin j (by omega)
      have hfew := stepB_few (by omega) hin2
      refine sxs_one (sx_asg 5 (W := (· = di (stepB b0 (i + 1)))) (EX.cast (ex_addI (ex_mod (ex_var 5 rfl) (ex_pow ex_int ex_int ⟨by decide, by decide, by decide⟩) (by decide +kernel)) ex_int) ?_) (fun s w => ?_) nd)
      · refine congrArg di ?_
        rw [hp18]
        unfold stepB
        omega
      · subst w
        exact ⟨_, by omega, rfl, i + 1, rfl, hin2, by omega, rfl⟩
    · have hk2 := of_decide_eq_false hk2
      refine sxs_one (sx_app 3 rfl (ex_var 5 rfl) (by rw [List.length_map]; omega) ⟨rfl, bs ++ [stepB b0 i], .k (di (k : Nat)), .k (di (stepB b0 i)), ?_, by rw [List.length_append]; show bs.length + 1 = k + 1; omega, ?_⟩)
      · rw [List.map_append]
        rfl
      · rw [List.nodup_append]
        refine ⟨hnd, by simp, fun a ha b hb => ?_⟩
        rw [List.mem_singleton.mp hb]
        exact fun z => hk2 (z ▸ ha)
  · obtain ⟨rfl, bs, u, v, rfl, hl, hnd⟩ := iv
    rw [List.length_range, Int.toNat_natCast] at hl
    exact sxs_one (sx_ret (ex_var 3 rfl) fun s w => ⟨bs, w, hl, hnd⟩)
end
end Dl
namespace Dl
open PySem PySem.Spec PyProof.Rows L2
/-! ### names -/
abbrev abc : Str := "abcdefghijklmnopqrstuvwxyz"
def strL (l : List Nat) : Str := ⟨l.toArray⟩
theorem tl_strL (l : List Nat) : tl (strL l) = l := rfl
theorem strL_add (l m : List Nat) : strL l ++ strL m = strL (l ++ m) := TL.ext_tl (by rw [TL.tl_append]; rfl)
theorem strL_len (l : List Nat) : (strL l).length = l.length := by rw [TL.len_tl]; rfl
def ltr (i : Int) : Nat := 97 + (i % 26).toNat
theorem abc_at {i : Int} (h0 : 0 ≤ i) (h : i < 26) : atI (tl abc) i = some (97 + i.toNat) := by
  have key : ∀ m : Nat, m < 26 → (tl abc)[m]? = some (97 + m) := by decide +kernel
  have e : i = ((i.toNat : Nat) : Int) := by omega
  rw [e]
  have := key i.toNat (by omega)
  rw [show ((i.toNat : Nat) : Int).toNat = i.toNat by omega]
  exact atN this
theorem abc_ltr (i : Int) : atI (tl abc) (i % 26) = some (ltr i) := abc_at (by omega) (by omega)
theorem abc_few : abc.length ≤ sizeLine := by decide +kernel
def baseF (cell : Int) (j : Nat) : Int := cell / (200 + 7 * (j : Int)) % 26
def sizeF (cell : Int) : Int := 1 + cell / 3 % 8
def placeF (cell : Int) : Int := cell / 24 % sizeF cell
def pickF (cell : Int) (k j : Nat) : Nat := ltr (baseF cell j + (k : Int) * (if ((j : Nat) : Int) = placeF cell then 1 else 0))
def nameL (cell : Int) (k : Nat) : List Nat := if cell % 3 = 1 then ltr (baseF cell 0 + (k : Int) / 8) :: (List.range (k % 8)).map fun j => ltr (baseF cell (j + 1)) else (List.range (sizeF cell).toNat).map (pickF cell k)
def namesF (cell : Int) (many : Nat) : List Str := (List.range many).map fun k => strL (nameL cell k)
section
variable {P : Program} {w : World} {K : PySem.W.Frag} {mg : Str → Option Value} {base : Heap}
abbrev s__law_names : Stmt := topS 85
abbrev N__law_names : List Str := ["number", "many", "letters", "cell", "size", "place", "k", "base", "names", "name", "j"]
theorem sc__law_names : FnScope N__law_names ["number", "many"] (defScope s__law_names) := ⟨rfl, rfl, rfl, by decide +kernel, rfl, by decide +kernel, by decide +kernel⟩
theorem hb__law_names (kV doc pm : Value) (an : Option Addr) (cdv ct : Value) (us : List Value) (hl : us.length = 2) : bindArgs (PySem.W.fnOf "_law_names" "_law_names" (defArgs s__law_names) (defBody s__law_names) (defScope s__law_names) .none kV doc pm an cdv ct) ⟨us, []⟩ = pure ((["number", "many"] : List Str).zip us) := match us, hl with
  | [_, _], _ => rfl
def R__law_names : PSpec := fun _ ss W => ∃ (number : Int) (many : Nat), ss = [di number, di (many : Nat)] ∧ many ≤ 100 ∧ W = (· = .dat (lsD (namesF (number * 16807 % 2147483647) many)))
theorem base_ltr (cell : Int) (j : Nat) : atI (tl abc) (baseF cell j) = some (ltr (baseF cell j)) := by
  have h := abc_ltr (baseF cell j)
  have e : baseF cell j % 26 = baseF cell j := by unfold baseF; omega
  rw [e] at h
  exact h
set_option maxHeartbeats 1000000 in
theorem ok__law_names (B : Bt mg) (Dd : DefAt K mg "_law_names" s__law_names) : Fn P w K mg base "_law_names" ["number", "many"] R__law_names 1 := by
  refine fn_mk Dd sc__law_names (fun G ss W ⟨_, _, e, _⟩ => by rw [e]; rfl) hb__law_names fun f cdv A outer s H hr G ss W h => ?_
  obtain ⟨number, many, rfl, hm, rfl⟩ := h
  have nd := (sc__law_names).nd
  obtain ⟨cell, ec⟩ : ∃ c : Int, number * 16807 % 2147483647 = c := ⟨_, rfl⟩
  have hc0 : 0 ≤ cell := by omega
  have hs : 1 ≤ sizeF cell ∧ sizeF cell ≤ 8 := by unfold sizeF; omega
  refine sxs_cons (sx_asg 2 (W := (· = ds abc)) ex_str (fun s w => ?_) nd)
  subst w
  refine sxs_cons (sx_asg 3 (W := (· = di cell)) (EX.cast (ex_mod (ex_mulI (ex_var 0 rfl) ex_int (.inr ⟨by decide, by decide⟩)) ex_int (by decide)) (congrArg di ec)) (fun s w => ?_) nd)
  subst w
  refine sxs_cons (sx_asg 4 (W := (· = di (sizeF cell))) (ex_addI ex_int (ex_mod (ex_fdiv (ex_var 3 rfl) ex_int ⟨by decide, by decide⟩) ex_int (by decide))) (fun s w => ?_) nd)
  subst w
  refine sxs_cons (sx_asg 5 (W := (· = di (placeF cell))) (ex_mod (ex_fdiv (ex_var 3 rfl) ex_int ⟨by decide, by decide⟩) (ex_var 4 rfl) (by omega)) (fun s w => ?_) nd)
  subst w
  refine sxs_cons (sx_lc 7 6 (fun _ => true) (fun j => PyData.int (baseF cell j)) (ix_range B.range ex_int (by decide) (by decide)) (by decide) (blkOk_by (N := N__law_names) (sc := defScope s__law_names) (by decide +kernel)) (fun y hy s H C cl fp => rfl) (fun y hy hq s H C cl fp => EX.cast (ex_mod (ex_fdiv (ex_var 3 rfl) (ex_addI ex_int (ex_mulI ex_int (ex_var 6 rfl) (.inl ⟨by decide, by decide⟩))) ⟨by omega, by have h9 : y < 9 := List.mem_range.mp hy; omega⟩) ex_int (by decide)) rfl) (fun s H C cl fp => pg_name nd rfl (Or.inl rfl)) nd ?_)
  rw [List.filter_eq_self.mpr fun _ _ => rfl]
  have hbase : ∀ j : Nat, j < 9 → atI ((List.range (Int.toNat 9)).map (baseF cell)) (j : Nat) = some (baseF cell j) := fun j hj => atN (by
    rw [List.getElem?_map, List.getElem?_range (show j < Int.toNat 9 from hj)]
    rfl)
  let bD : D := .list ((List.range (Int.toNat 9)).map fun j => PyData.int (baseF cell j))
  have ebD : bD = .list (((List.range (Int.toNat 9)).map (baseF cell)).map .int) := by
    show PyData.list _ = _
    rw [List.map_map]
    rfl
  have hsz : ((sizeF cell).toNat : Int) = sizeF cell := by omega
  refine sxs_cons (sx_own 8 exn_nil ?_ nd)
  refine sxs_cons (sx_forT (ix_range B.range (ex_var 1 rfl) (by omega) (by omega)) (fun i Ψ B => Ψ = phS G ∧ ∃ u6 u9 u10, B = [.k (di number), .k (di (many : Nat)), .d (.str abc), .k (di cell), .k (di (sizeF cell)), .k (di (placeF cell)), u6, .d bD, .lst (((List.range i).map fun k => strL (nameL cell k)).map .str), u9, u10]) ⟨rfl, _, _, _, rfl⟩ (fun i k Ψ B e iv => ?_) fun Ψ B iv => ?_)
  · obtain ⟨rfl, u6, u9, u10, rfl⟩ := iv
    have hk : k = i ∧ i < many := by
      obtain ⟨h1, h2⟩ := List.getElem?_eq_some_iff.mp e
      rw [List.getElem_range] at h2
      rw [List.length_range, Int.toNat_natCast] at h1
      exact ⟨h2.symm, h1⟩
    obtain ⟨rfl, hk⟩ := hk
    refine ⟨_, tx_name 6 nd, ?_⟩
    refine sxs_cons (sx_asg 9 (W := (· = ds (strL []))) ex_str (fun s w => ?_) nd)
    subst w
    refine sxs_cons (sx_forT (ix_range B.range (ex_var 4 rfl) (by omega) (by omega)) (fun j Ψ B => Ψ = phS G ∧ ∃ u10, B = [.k (di number), .k (di (many : Nat)), .d (.str abc), .k (di cell), .k (di (sizeF cell)), .k (di (placeF cell)), .k (di (k : Nat)), .d bD, .lst (((List.range k).map fun k => strL (nameL cell k)).map .str), .d (.str (strL ((List.range j).map (pickF cell k)))), u10]) ⟨rfl, _, rfl⟩ (fun j y Ψ B e2 iv => ?_) fun Ψ B iv => ?_)
    · obtain ⟨rfl, u10, rfl⟩ := iv
      have hy : y = j ∧ j < (sizeF cell).toNat := by
        obtain ⟨h1, h2⟩ := List.getElem?_eq_some_iff.mp e2
        rw [List.getElem_range] at h2
        rw [List.length_range] at h1
        exact ⟨h2.symm, h1⟩
      obtain ⟨rfl, hy⟩ := hy
      refine ⟨_, tx_name 10 nd, ?_⟩
      have e1 : ((baseF cell y + (k : Int) * (if decide (((y : Nat) : Int) = placeF cell) = true then 1 else 0))) = baseF cell y + (k : Int) * (if ((y : Nat) : Int) = placeF cell then 1 else 0) := by
        by_cases q : ((y : Nat) : Int) = placeF cell
        · rw [if_pos (decide_eq_true q), if_pos q]
        · rw [if_neg (by rw [decide_eq_false q]; decide), if_neg q]
      refine sxs_one (sx_asg 9 (W := (· = ds (strL ((List.range (y + 1)).map (pickF cell k))))) (EX.cast (ex_addS (ex_var 9 rfl) (ex_ix (z := ds ⟨#[pickF cell k y]⟩) (ex_var 2 rfl) (ex_mod (ex_addI (ex_ixM (f := PyData.int) (EX.cast (ex_var 7 rfl) (congrArg Ds.dat ebD)) (ex_var 10 rfl) (hbase y (by omega))) (ex_mulI (ex_var 6 rfl) (ex_intB B.int (eb_eqI (ex_var 10 rfl) (ex_var 5 rfl)).v) (.inl ⟨by omega, by omega⟩))) ex_int (by decide)) (.str abc_few (by rw [e1]; exact abc_ltr _))) ?_) ?_) (fun s w => ?_) nd)
      · rw [strL_len, List.length_map, List.length_range]
        exact Nat.le_trans (show _ ≤ 100 by show y + 1 ≤ 100; omega) (by decide)
      · rw [List.range_succ, List.map_append]
        exact congrArg ds (strL_add _ [pickF cell k y])
      · subst w
        exact ⟨rfl, .k (di (y : Nat)), rfl⟩
    · obtain ⟨rfl, u10, rfl⟩ := iv
      rw [List.length_range]
      have fin : ∀ l : List Nat, l = nameL cell k → (((List.range k).map fun k => strL (nameL cell k)).map PyData.str) ++ [.str (strL l)] = ((List.range (k + 1)).map fun k => strL (nameL cell k)).map PyData.str := fun l hl => by
        rw [List.range_succ, List.map_append, List.map_append, hl]
        rfl
      refine sxs_cons (sx_if (k := decide (cell % 3 = 1)) (EB.cast (eb_eqI (ex_mod (ex_var 3 rfl) ex_int (by decide)) ex_int) (by rfl)).t (fun hk3 => ?_) fun hk3 => sxs_nil ?_)
      · have hk3 := of_decide_eq_true hk3
        refine sxs_cons (sx_asg 9 (W := (· = ds (strL [ltr (baseF cell 0 + (k : Int) / 8)]))) (ex_ix (ex_var 2 rfl) (ex_mod (ex_addI (ex_ixM (f := PyData.int) (EX.cast (ex_var 7 rfl) (congrArg Ds.dat ebD)) ex_int (hbase 0 (by decide))) (ex_fdiv (ex_var 6 rfl) ex_int ⟨by decide, by decide⟩)) ex_int (by decide)) (.str abc_few (abc_ltr _))) (fun s w => ?_) nd)
        subst w
        have hk8 : ((k : Nat) : Int) % 8 = ((k % 8 : Nat) : Int) := rfl
        refine sxs_one (sx_forT (ix_range B.range (EX.cast (ex_mod (ex_var 6 rfl) ex_int (by decide)) (congrArg di hk8)) (by omega) (by omega)) (fun j Ψ B => Ψ = phS G ∧ ∃ u10, B = [.k (di number), .k (di (many : Nat)), .d (.str abc), .k (di cell), .k (di (sizeF cell)), .k (di (placeF cell)), .k (di (k : Nat)), .d bD, .lst (((List.range k).map fun k => strL (nameL cell k)).map .str), .d (.str (strL (ltr (baseF cell 0 + (k : Int) / 8) :: (List.range j).map fun j => ltr (baseF cell (j + 1))))), u10]) ⟨rfl, _, rfl⟩ (fun j y Ψ B e2 iv => ?_) fun Ψ B iv => ?_)
        · obtain ⟨rfl, u10, rfl⟩ := iv
          have hy : y = j ∧ j < k % 8 := by
            obtain ⟨h1, h2⟩ := List.getElem?_eq_some_iff.mp e2
            rw [List.getElem_range] at h2
            rw [List.length_range, Int.toNat_natCast] at h1
            exact ⟨h2.symm, h1⟩
          obtain ⟨rfl, hy⟩ := hy
          have hy8 : y + 1 < 9 := by omega
          refine ⟨_, tx_name 10 nd, ?_⟩
          refine sxs_one (sx_asg 9 (W := (· = ds (strL (ltr (baseF cell 0 + (k : Int) / 8) :: (List.range (y + 1)).map fun j => ltr (baseF cell (j + 1)))))) (EX.cast (ex_addS (ex_var 9 rfl) (ex_ix (z := ds ⟨#[ltr (baseF cell (y + 1))]⟩) (ex_var 2 rfl) (ex_ixM (f := PyData.int) (EX.cast (ex_var 7 rfl) (congrArg Ds.dat ebD)) (EX.cast (ex_addI (ex_var 10 rfl) ex_int) (congrArg di (show ((y : Nat) : Int) + 1 = ((y + 1 : Nat) : Int) by omega))) (hbase (y + 1) hy8)) (.str abc_few (base_ltr cell (y + 1)))) ?_) ?_) (fun s w => ?_) nd)
          · rw [strL_len, List.length_cons, List.length_map, List.length_range]
            exact Nat.le_trans (show _ ≤ 100 by show y + 1 + 1 ≤ 100; omega) (by decide)
          · rw [List.range_succ, List.map_append]
            exact congrArg ds (strL_add _ [ltr (baseF cell (y + 1))])
          · subst w
            exact ⟨rfl, .k (di (y : Nat)), rfl⟩
        · obtain ⟨rfl, u10, rfl⟩ := iv
          rw [List.length_range, Int.toNat_natCast]
          refine sxs_one (sx_app 8 rfl (ex_var 9 rfl) (by rw [List.length_map, List.length_map, List.length_range]; omega) ⟨rfl, .k (di (k : Nat)), .d (.str (strL (nameL cell k))), u10, ?_⟩)
          rw [← fin _ rfl]
          have en : (ltr (baseF cell 0 + (k : Int) / 8) :: (List.range (k % 8)).map fun j => ltr (baseF cell (j + 1))) = nameL cell k := by
            unfold nameL
            rw [if_pos hk3]
          rw [en]
          rfl
      · have hk3 := of_decide_eq_false hk3
        have en : (List.range (sizeF cell).toNat).map (pickF cell k) = nameL cell k := by
          unfold nameL
          rw [if_neg hk3]
        rw [en]
        refine sxs_one (sx_app 8 rfl (ex_var 9 rfl) (by rw [List.length_map, List.length_map, List.length_range]; omega) ⟨rfl, .k (di (k : Nat)), .d (.str (strL (nameL cell k))), u10, ?_⟩)
        rw [← fin _ rfl]
        rfl
  · obtain ⟨rfl, u6, u9, u10, rfl⟩ := iv
    rw [List.length_range, Int.toNat_natCast]
    refine sxs_one (sx_ret (ex_var 8 rfl) fun s w => ?_)
    subst w
    rw [ec]
    rfl
end
end Dl
namespace Dl
open PySem PySem.Spec PyProof.Rows L2
/-! ### names are apart -/
structure NamesOk (names : List Str) : Prop where
  nd : names.Nodup
  name : ∀ a ∈ names, NameOk a
  two : ∀ a ∈ names, a ++ "x" ∉ names ∨ a ++ "q" ∉ names
theorem ltr_ok (i : Int) : 97 ≤ ltr i ∧ ltr i ≤ 122 := by unfold ltr; omega
theorem ltr_ne {b : Int} {i j : Nat} (hi : i < 26) (hj : j < 26) (e : ltr (b + (i : Int)) = ltr (b + (j : Int))) : i = j := by
  unfold ltr at e
  omega
theorem nameL_len (cell : Int) (k : Nat) : (nameL cell k).length = if cell % 3 = 1 then 1 + k % 8 else (sizeF cell).toNat := by
  unfold nameL
  split
  · rw [List.length_cons, List.length_map, List.length_range]
    omega
  · rw [List.length_map, List.length_range]
theorem nameL_abc (cell : Int) (k : Nat) : ∀ n ∈ nameL cell k, 97 ≤ n ∧ n ≤ 122 := fun n hn => by
  unfold nameL at hn
  split at hn
  · rcases List.mem_cons.mp hn with rfl | hn
    · exact ltr_ok _
    · obtain ⟨j, _, rfl⟩ := List.mem_map.mp hn
      exact ltr_ok _
  · obtain ⟨j, _, rfl⟩ := List.mem_map.mp hn
    exact ltr_ok _
theorem strL_inj {l m : List Nat} (h : strL l = strL m) : l = m := congrArg tl h
theorem nameL_inj {cell : Int} (h0 : 0 ≤ cell) {i j : Nat} (hi : i < 8) (hj : j < 8) (e : nameL cell i = nameL cell j) : i = j := by
  have hl := congrArg List.length e
  rw [nameL_len, nameL_len] at hl
  by_cases q : cell % 3 = 1
  · rw [if_pos q, if_pos q] at hl
    omega
  · unfold nameL at e
    rw [if_neg q, if_neg q] at e
    have hs : 1 ≤ sizeF cell := by unfold sizeF; omega
    have hp : 0 ≤ placeF cell ∧ placeF cell < sizeF cell := by
      unfold placeF
      exact ⟨Int.emod_nonneg _ (by omega), Int.emod_lt_of_pos _ (by omega)⟩
    have e2 := congrArg (fun l => l[(placeF cell).toNat]?) e
    simp only [List.getElem?_map] at e2
    rw [List.getElem?_range (by omega)] at e2
    have e3 : pickF cell i (placeF cell).toNat = pickF cell j (placeF cell).toNat := Option.some.inj e2
    unfold pickF at e3
    have e4 : (((placeF cell).toNat : Nat) : Int) = placeF cell := by omega
    rw [if_pos e4, Int.mul_one, Int.mul_one] at e3
    exact ltr_ne (by omega) (by omega) e3
theorem namesF_ok {cell : Int} (h0 : 0 ≤ cell) {many : Nat} (hm : many ≤ 8) : NamesOk (namesF cell many) := by
  have lenS : ∀ k, (strL (nameL cell k)).length = (nameL cell k).length := fun k => strL_len _
  refine ⟨?_, fun a ha => ?_, fun a ha => ?_⟩
  · unfold namesF
    exact nodup_map List.nodup_range fun i hi j hj e => nameL_inj h0 (by have := List.mem_range.mp hi; omega) (by have := List.mem_range.mp hj; omega) (strL_inj e)
  · obtain ⟨k, hk, rfl⟩ := List.mem_map.mp ha
    have hs : 1 ≤ sizeF cell ∧ sizeF cell ≤ 8 := by unfold sizeF; omega
    refine ⟨?_, ?_, nameL_abc cell k⟩
    · rw [lenS, nameL_len]
      split <;> omega
    · rw [lenS, nameL_len]
      split <;> omega
  · by_cases q : a ++ "x" ∈ namesF cell many
    · right
      intro q2
      obtain ⟨i, hi, ei⟩ := List.mem_map.mp q
      obtain ⟨j, hj, ej⟩ := List.mem_map.mp q2
      obtain ⟨k, hk, ek⟩ := List.mem_map.mp ha
      have hi := List.mem_range.mp hi
      have hj := List.mem_range.mp hj
      have l1 : (nameL cell i).length = a.length + 1 := by
        rw [← lenS, ei, Str.length_append]
        rfl
      have l2 : (nameL cell j).length = a.length + 1 := by
        rw [← lenS, ej, Str.length_append]
        rfl
      have l3 : (nameL cell k).length = a.length := by rw [← lenS, ek]
      rw [nameL_len] at l1 l2 l3
      by_cases z : cell % 3 = 1
      · rw [if_pos z] at l1 l2
        have hij : i = j := by omega
        subst hij
        rw [ei] at ej
        have h3 := congrArg TL.tl ej
        rw [TL.tl_append, TL.tl_append] at h3
        have h4 := List.append_cancel_left h3
        exact absurd h4 (by decide +kernel)
      · rw [if_neg z] at l1 l3
        omega
    · exact .inl q
theorem NamesOk.take {names : List Str} (h : NamesOk names) (n : Nat) : NamesOk (names.take n) :=
  ⟨h.nd.sublist (List.take_sublist _ _), fun a ha => h.name a (List.mem_of_mem_take ha), fun a ha => (h.two a (List.mem_of_mem_take ha)).imp (fun z q => z (List.mem_of_mem_take q)) (fun z q => z (List.mem_of_mem_take q))⟩
/-! ### acts -/
def actF (names : List Str) (n : Str) : Str := if n ∈ keysS then (if n ++ "x" ∈ names then n ++ "q" else n ++ "x") else n
theorem key_len {n : Str} (h : n ∈ keysS) : n.length ≤ 6 := by
  have : ∀ m ∈ keysS, m.length ≤ 6 := by decide +kernel
  exact this n h
theorem abc_add {n : Str} {c : Nat} (h : NameOk n) (hl : n.length ≤ 6) (hc : 97 ≤ c ∧ c ≤ 122) : NameOk (n ++ strL [c]) := by
  have h1 := h.one
  refine ⟨?_, ?_, fun m hm => ?_⟩
  · rw [Str.length_append]; omega
  · rw [Str.length_append, strL_len]; show n.length + 1 ≤ 8; omega
  · have hm : m ∈ TL.tl (n ++ strL [c]) := hm
    rw [TL.tl_append] at hm
    rcases List.mem_append.mp hm with hm | hm
    · exact h.abc m hm
    · rw [List.mem_singleton.mp hm]
      exact hc
theorem x_eq : ("x" : Str) = strL [120] := TL.ext_tl (by decide +kernel)
theorem q_eq : ("q" : Str) = strL [113] := TL.ext_tl (by decide +kernel)
theorem snoc_inj {a b : Str} {c d : Nat} (h : a ++ strL [c] = b ++ strL [d]) : a = b ∧ c = d := by
  have h1 := congrArg TL.tl h
  rw [TL.tl_append, TL.tl_append] at h1
  have h2 : TL.tl a ++ [c] = TL.tl b ++ [d] := h1
  obtain ⟨h3, h4⟩ := List.append_inj' h2 rfl
  exact ⟨TL.ext_tl h3, (List.cons.inj h4).1⟩
theorem snoc_key {a : Str} {c : Nat} (hc : c = 120 ∨ c = 113) : a ++ strL [c] ∉ keysS := fun h => by
  have key : ∀ m ∈ keysS, (TL.tl m).getLast? ≠ some 120 ∧ (TL.tl m).getLast? ≠ some 113 := by decide +kernel
  have h1 := key _ h
  rw [TL.tl_append] at h1
  have h2 : (TL.tl a ++ [c]).getLast? = some c := List.getLast?_concat ..
  have h3 : TL.tl (strL [c]) = [c] := rfl
  rw [h3, h2] at h1
  rcases hc with rfl | rfl
  · exact h1.1 rfl
  · exact h1.2 rfl
theorem actF_ok {names : List Str} (h : NamesOk names) (h1 : 1 ≤ names.length) (h6 : names.length ≤ 6) : ActsOk (names.map (actF names)) := by
  have form : ∀ n ∈ names, (n ∉ keysS ∧ actF names n = n) ∨ (n ∈ keysS ∧ ∃ c, (c = 120 ∨ c = 113) ∧ actF names n = n ++ strL [c] ∧ n ++ strL [c] ∉ names) := fun n hn => by
    unfold actF
    by_cases k : n ∈ keysS
    · right
      rw [if_pos k]
      refine ⟨k, ?_⟩
      by_cases q : n ++ "x" ∈ names
      · rw [if_pos q]
        refine ⟨113, .inr rfl, by rw [q_eq], ?_⟩
        rw [← q_eq]
        exact (h.two n hn).resolve_left fun z => z q
      · rw [if_neg q]
        refine ⟨120, .inl rfl, by rw [x_eq], ?_⟩
        rw [← x_eq]
        exact q
    · exact .inl ⟨k, if_neg k⟩
  refine ⟨by rw [List.length_map]; exact h1, by rw [List.length_map]; exact h6, nodup_map h.nd fun a ha b hb e => ?_, fun a ha => ?_, fun a ha => ?_⟩
  · rcases form a ha with ⟨_, ea⟩ | ⟨_, c, _, ea, na⟩ <;> rcases form b hb with ⟨_, eb⟩ | ⟨_, d, _, eb, nb⟩
    · rw [← ea, e, eb]
    · exact absurd (by rw [← eb, ← e, ea]; exact ha) nb
    · exact absurd (by rw [← ea, e, eb]; exact hb) na
    · rw [ea, eb] at e
      exact (snoc_inj e).1
  · obtain ⟨n, hn, rfl⟩ := List.mem_map.mp ha
    rcases form n hn with ⟨_, ea⟩ | ⟨hk, c, hc, ea, _⟩
    · rw [ea]
      exact h.name n hn
    · rw [ea]
      exact abc_add (h.name n hn) (key_len hk) (by rcases hc with rfl | rfl <;> omega)
  · obtain ⟨n, hn, rfl⟩ := List.mem_map.mp ha
    rcases form n hn with ⟨hk, ea⟩ | ⟨_, c, hc, ea, _⟩
    · rw [ea]
      exact hk
    · rw [ea]
      exact snoc_key hc
end Dl
namespace Dl
open PySem PySem.Spec PyProof.Rows L2
section
variable {P : Program} {w : World} {K : PySem.W.Frag} {mg : Str → Option Value} {base : Heap}
abbrev s__law_acts : Stmt := topS 89
abbrev N__law_acts : List Str := ["names", "acts", "name", "longer", "letter"]
theorem sc__law_acts : FnScope N__law_acts ["names"] (defScope s__law_acts) := ⟨rfl, rfl, rfl, by decide +kernel, rfl, by decide +kernel, by decide +kernel⟩
theorem hb__law_acts (kV doc pm : Value) (an : Option Addr) (cdv ct : Value) (us : List Value) (hl : us.length = 1) : bindArgs (PySem.W.fnOf "_law_acts" "_law_acts" (defArgs s__law_acts) (defBody s__law_acts) (defScope s__law_acts) .none kV doc pm an cdv ct) ⟨us, []⟩ = pure ((["names"] : List Str).zip us) := match us, hl with
  | [_], _ => rfl
def R__law_acts : PSpec := fun _ ss W => ∃ (names : List Str), ss = [.dat (lsD names)] ∧ NamesOk names ∧ names.length ≤ 6 ∧ W = (· = .dat (lsD (names.map (actF names))))
def xqF (names : List Str) (n : Str) : List Str := ([120, 113] : List Nat).filter (fun c => !decide (n ++ strL [c] ∈ names)) |>.map fun c => n ++ strL [c]
theorem xqF_head {names : List Str} (h : NamesOk names) {n : Str} (hn : n ∈ names) (hk : n ∈ keysS) : (xqF names n)[0]? = some (actF names n) := by
  unfold xqF actF
  rw [if_pos hk, x_eq, q_eq, List.filter_cons, List.filter_cons, List.filter_nil]
  by_cases q : n ++ strL [120] ∈ names
  · have q2 : n ++ strL [113] ∉ names := by
      have := h.two n hn
      rw [x_eq, q_eq] at this
      exact this.resolve_left fun z => z q
    rw [if_neg (by rw [decide_eq_true q]; decide), if_pos (by rw [decide_eq_false q2]; rfl), if_pos q]
    rfl
  · rw [if_pos (by rw [decide_eq_false q]; rfl), if_neg q]
    rfl
set_option maxHeartbeats 1000000 in
theorem ok__law_acts (B : Bt mg) (Dd : DefAt K mg "_law_acts" s__law_acts) : Fn P w K mg base "_law_acts" ["names"] R__law_acts 1 := by
  refine fn_mk Dd sc__law_acts (fun G ss W ⟨_, e, _⟩ => by rw [e]; rfl) hb__law_acts fun f cdv A outer s H hr G ss W h => ?_
  obtain ⟨names, rfl, no, hz, rfl⟩ := h
  have nd := (sc__law_acts).nd
  refine sxs_cons (sx_own 1 exn_nil ?_ nd)
  refine sxs_cons (sx_forT (ix_lstM (ex_var 0 rfl)) (fun i Ψ B => Ψ = phS G ∧ ∃ u2 u3 u4, B = [.d (lsD names), .lst (((names.take i).map (actF names)).map .str), u2, u3, u4]) ⟨rfl, _, _, _, rfl⟩ (fun i n Ψ B e iv => ?_) fun Ψ B iv => ?_)
  · obtain ⟨rfl, u2, u3, u4, rfl⟩ := iv
    have hn := List.mem_of_getElem? e
    have hnm := no.name n hn
    have et : (names.take (i + 1)).map (actF names) = (names.take i).map (actF names) ++ [actF names n] := by
      rw [List.take_add_one, e, List.map_append]
      rfl
    have hlt : (((names.take i).map (actF names)).map PyData.str).length < 100000 := by
      rw [List.length_map, List.length_map, List.length_take]
      omega
    refine ⟨_, tx_name 2 nd, ?_⟩
    refine sxs_cons (sx_asg 3 (W := (· = .dat (lsD [n]))) (ex_lst (ds := [_]) (ea_cons (ex_var 2 rfl) ea_nil) (Nat.le_of_ble_eq_true rfl)) (fun s w => ?_) nd)
    subst w
    have hadd : ∀ c : Nat, n.length + (⟨#[c]⟩ : Str).length ≤ sizeLine := fun c => by
      have := hnm.few
      have e1 : (⟨#[c]⟩ : Str).length = 1 := rfl
      rw [e1]
      exact Nat.le_trans (show _ ≤ 100 by omega) (by decide)
    refine sxs_cons (sx_if (k := decide (n ∈ keysS)) (EB.cast (eb_inS (xs := keysS) (ex_var 2 rfl) (ex_lst (ds := [_, _, _, _, _, _]) (ea_cons ex_str (ea_cons ex_str (ea_cons ex_str (ea_cons ex_str (ea_cons ex_str (ea_cons ex_str ea_nil)))))) (Nat.le_of_ble_eq_true rfl))) (by rfl)).t (fun hk => ?_) fun hk => sxs_nil ?_)
    · have hk := of_decide_eq_true hk
      refine sxs_one (sx_lc 3 4 (ys := ([120, 113] : List Nat)) (ι := fun c => ds ⟨#[c]⟩) (fun c => !decide (n ++ strL [c] ∈ names)) (fun c => .str (n ++ strL [c])) (ix_cast (ix_str (y := "xq") ex_str) (congrArg (List.map fun c => ds ⟨#[c]⟩) (show ("xq" : Str).cps.toList = [120, 113] by decide +kernel))) (by decide) (blkOk_by (N := N__law_acts) (sc := defScope s__law_acts) (by decide +kernel)) (fun y hy s H C cl fp => (eb_ninS (ex_addS (ex_var 2 rfl) (ex_var 4 rfl) (hadd y)) (ex_var 0 rfl)).t) (fun y hy hq s H C cl fp => ex_addS (ex_var 2 rfl) (ex_var 4 rfl) (hadd y)) (fun s H C cl fp => pg_name nd rfl (Or.inl rfl)) nd ?_)
      have exq : ((([120, 113] : List Nat).filter fun c => !decide (n ++ strL [c] ∈ names)).map fun c => PyData.str (n ++ strL [c])) = (xqF names n).map .str := by
        unfold xqF
        rw [List.map_map]
        rfl
      rw [exq]
      refine sxs_one (sx_app 1 rfl (ex_ixM (f := PyData.str) (ex_var 3 rfl) ex_int (atN (k := 0) (xqF_head no hn hk))) hlt ⟨rfl, .d (.str n), .d (lsD (xqF names n)), u4, ?_⟩)
      rw [et, List.map_append]
      rfl
    · have hk := of_decide_eq_false hk
      have ea : actF names n = n := if_neg hk
      refine sxs_one (sx_app 1 rfl (d := .str n) (ex_ixM (f := PyData.str) (xs := [n]) (ex_var 3 rfl) ex_int (atN (k := 0) rfl)) hlt ⟨rfl, .d (.str n), .d (lsD [n]), u4, ?_⟩)
      rw [et, ea, List.map_append]
      rfl
  · obtain ⟨rfl, u2, u3, u4, rfl⟩ := iv
    rw [List.take_length]
    exact sxs_one (sx_ret (ex_var 1 rfl) fun s w => w)
end
end Dl
namespace Dl
open PySem PySem.Spec PyProof.Rows L2
section
variable {P : Program} {w : World} {K : PySem.W.Frag} {mg : Str → Option Value} {base : Heap}
abbrev s__law_order : Stmt := topS 88
abbrev N__law_order : List Str := ["cells", "row", "order", "number", "cell", "one", "other"]
theorem sc__law_order : FnScope N__law_order ["cells", "row"] (defScope s__law_order) := ⟨rfl, rfl, rfl, by decide +kernel, rfl, by decide +kernel, by decide +kernel⟩
theorem hb__law_order (kV doc pm : Value) (an : Option Addr) (cdv ct : Value) (us : List Value) (hl : us.length = 2) : bindArgs (PySem.W.fnOf "_law_order" "_law_order" (defArgs s__law_order) (defBody s__law_order) (defScope s__law_order) .none kV doc pm an cdv ct) ⟨us, []⟩ = pure ((["cells", "row"] : List Str).zip us) := match us, hl with
  | [_, _], _ => rfl
/-- pairs that go up in the row -/
def R__law_order : PSpec := fun _ ss W => ∃ (cells : List Int) (row : List Nat), ss = [.dat (liD cells), .dat (lnD row)] ∧ cells.length ≤ 100 ∧ 1 ≤ row.length ∧ row.length ≤ 100 ∧
  W = fun s => ∃ order : List (Nat × Nat), s = .dat (lpD order) ∧ order.length ≤ cells.length ∧ ∀ q ∈ order, ∃ i j : Nat, i < j ∧ row[i]? = some q.1 ∧ row[j]? = some q.2
theorem ok__law_order (B : Bt mg) (Dd : DefAt K mg "_law_order" s__law_order) : Fn P w K mg base "_law_order" ["cells", "row"] R__law_order 1 := by
  refine fn_mk Dd sc__law_order (fun G ss W ⟨_, _, e, _⟩ => by rw [e]; rfl) hb__law_order fun f cdv A outer s H hr G ss W h => ?_
  obtain ⟨cells, row, rfl, hz, h1, hz2, rfl⟩ := h
  have nd := (sc__law_order).nd
  have hl : (row.map encN).length = row.length := List.length_map _
  refine sxs_cons (sx_own 2 exn_nil ?_ nd)
  refine sxs_cons (sx_forT (ix_lstM (ex_var 0 rfl)) (fun i Ψ B => Ψ = phS G ∧ ∃ (order : List (Nat × Nat)) (u3 u4 u5 u6 : Sl), B = [.d (liD cells), .d (lnD row), .lst (order.map encP), u3, u4, u5, u6] ∧ order.length ≤ i ∧ ∀ q ∈ order, ∃ i j : Nat, i < j ∧ row[i]? = some q.1 ∧ row[j]? = some q.2) ⟨rfl, [], _, _, _, _, rfl, Nat.le_refl _, fun q hq => by cases hq⟩ (fun i n Ψ B e iv => ?_) fun Ψ B iv => ?_)
  · obtain ⟨rfl, order, u3, u4, u5, u6, rfl, hol, ho⟩ := iv
    have hi := (List.getElem?_eq_some_iff.mp e).1
    obtain ⟨c, ec⟩ : ∃ c : Int, n * 48271 % 2147483647 = c := ⟨_, rfl⟩
    obtain ⟨a, ea⟩ : ∃ a : Nat, c % (row.length : Nat) = (a : Int) := ⟨(c % (row.length : Nat)).toNat, (Int.toNat_of_nonneg (Int.emod_nonneg _ (by omega))).symm⟩
    obtain ⟨b, eb⟩ : ∃ b : Nat, c / 6 % (row.length : Nat) = (b : Int) := ⟨(c / 6 % (row.length : Nat)).toNat, (Int.toNat_of_nonneg (Int.emod_nonneg _ (by omega))).symm⟩
    have ha : a < row.length := by
      have := Int.emod_lt_of_pos c (show 0 < ((row.length : Nat) : Int) by omega)
      omega
    have hb : b < row.length := by
      have := Int.emod_lt_of_pos (c / 6) (show 0 < ((row.length : Nat) : Int) by omega)
      omega
    refine ⟨_, tx_name 3 nd, ?_⟩
    refine sxs_cons (sx_asg 4 (W := (· = di c)) (EX.cast (ex_mod (ex_mulI (ex_var 3 rfl) ex_int (.inr ⟨by decide, by decide⟩)) ex_int (by decide)) (congrArg di ec)) (fun s w => ?_) nd)
    subst w
    refine sxs_cons (sx_asg 5 (W := (· = di (a : Nat))) (EX.cast (ex_mod (ex_var 4 rfl) (ex_len B.len (ex_var 1 rfl) (.lst _)) (by rw [hl]; omega)) (by rw [hl, ea])) (fun s w => ?_) nd)
    subst w
    refine sxs_cons (sx_asg 6 (W := (· = di (b : Nat))) (EX.cast (ex_mod (ex_fdiv (ex_var 4 rfl) ex_int ⟨by decide, by decide⟩) (ex_len B.len (ex_var 1 rfl) (.lst _)) (by rw [hl]; omega)) (by rw [hl, eb])) (fun s w => ?_) nd)
    subst w
    refine sxs_one (sx_if (k := decide (a ≠ b)) (EB.cast (eb_neI (ex_var 5 rfl) (ex_var 6 rfl)) (by
      by_cases q : a = b
      · simp [q]
      · rw [decide_eq_false (show ¬ ((a : Nat) : Int) = (b : Nat) by omega), decide_eq_true q]
        rfl)).t (fun hk => ?_) fun hk => sxs_nil ⟨rfl, order, .k (di n), .k (di c), .k (di (a : Nat)), .k (di (b : Nat)), rfl, by omega, ho⟩)
    have hk := of_decide_eq_true hk
    have emin : (if ((b : Nat) : Int) < (a : Nat) then ((b : Nat) : Int) else (a : Nat)) = ((min a b : Nat) : Int) := by
      split <;> omega
    have emax : (if ((b : Nat) : Int) > (a : Nat) then ((b : Nat) : Int) else (a : Nat)) = ((max a b : Nat) : Int) := by
      split <;> omega
    have g1 := getDS 0 (show min a b < row.length by omega)
    have g2 := getDS 0 (show max a b < row.length by omega)
    refine sxs_one (sx_app 2 rfl (d := encP (row.getD (min a b) 0, row.getD (max a b) 0)) (ex_tup (ds := [_, _]) (ea_cons (ex_ixM (f := encN) (ex_var 1 rfl) (ex_min2 B.min (ex_var 5 rfl) (ex_var 6 rfl)) (by rw [emin]; exact atN g1)) (ea_cons (ex_ixM (f := encN) (ex_var 1 rfl) (ex_max2 B.max (ex_var 5 rfl) (ex_var 6 rfl)) (by rw [emax]; exact atN g2)) ea_nil)) (Nat.le_of_ble_eq_true rfl)) (by rw [List.length_map]; omega) ⟨rfl, order ++ [(row.getD (min a b) 0, row.getD (max a b) 0)], .k (di n), .k (di c), .k (di (a : Nat)), .k (di (b : Nat)), ?_, ?_, fun q hq => ?_⟩)
    · rw [List.map_append]
      rfl
    · rw [List.length_append]
      show order.length + 1 ≤ i + 1
      omega
    · rcases List.mem_append.mp hq with hq | hq
      · exact ho q hq
      · rw [List.mem_singleton.mp hq]
        exact ⟨min a b, max a b, by omega, g1, g2⟩
  · obtain ⟨rfl, order, u3, u4, u5, u6, rfl, hol, ho⟩ := iv
    exact sxs_one (sx_ret (ex_var 2 rfl) fun s w => ⟨order, w, hol, ho⟩)
abbrev s__law_row : Stmt := topS 87
abbrev N__law_row : List Str := ["count", "cell", "row", "rest", "k"]
theorem sc__law_row : FnScope N__law_row ["count", "cell"] (defScope s__law_row) := ⟨rfl, rfl, rfl, by decide +kernel, rfl, by decide +kernel, by decide +kernel⟩
theorem hb__law_row (kV doc pm : Value) (an : Option Addr) (cdv ct : Value) (us : List Value) (hl : us.length = 2) : bindArgs (PySem.W.fnOf "_law_row" "_law_row" (defArgs s__law_row) (defBody s__law_row) (defScope s__law_row) .none kV doc pm an cdv ct) ⟨us, []⟩ = pure ((["count", "cell"] : List Str).zip us) := match us, hl with
  | [_, _], _ => rfl
def R__law_row : PSpec := fun _ ss W => ∃ (n : Nat) (cell : Int), ss = [di (n : Nat), di cell] ∧ n ≤ 100 ∧ W = fun s => ∃ row : List Nat, s = .dat (lnD row) ∧ row.Perm (List.range n)
theorem ok__law_row (B : Bt mg) (Dd : DefAt K mg "_law_row" s__law_row) : Fn P w K mg base "_law_row" ["count", "cell"] R__law_row 1 := by
  refine fn_mk Dd sc__law_row (fun G ss W ⟨_, _, e, _⟩ => by rw [e]; rfl) hb__law_row fun f cdv A outer s H hr G ss W h => ?_
  obtain ⟨n, cell, rfl, hn, rfl⟩ := h
  have nd := (sc__law_row).nd
  have hp9 : (10 : Int) ^ (9 : Int).toNat = 1000000000 := by decide +kernel
  refine sxs_cons (sx_own 2 exn_nil ?_ nd)
  refine sxs_cons (sx_asg 3 (W := (· = di (cell % 1000000000))) (EX.cast (ex_mod (ex_var 1 rfl) (ex_pow ex_int ex_int ⟨by decide, by decide, by decide⟩) (by decide +kernel)) (by rw [hp9])) (fun s w => ?_) nd)
  subst w
  refine sxs_cons (sx_forT (ix_range B.range (ex_var 0 rfl) (by omega) (by omega)) (fun i Ψ B => Ψ = phS G ∧ ∃ (row : List Nat) (rest : Int) (u : Sl), B = [.k (di (n : Nat)), .k (di cell), .lst (row.map encN), .k (di rest), u] ∧ row.Perm (List.range i) ∧ 0 ≤ rest) ⟨rfl, [], _, _, rfl, List.Perm.refl _, by omega⟩ (fun i k Ψ B e iv => ?_) fun Ψ B iv => ?_)
  · obtain ⟨rfl, row, rest, u, rfl, pm, h0⟩ := iv
    have hk : k = i ∧ i < n := by
      obtain ⟨h1, h2⟩ := List.getElem?_eq_some_iff.mp e
      rw [List.getElem_range] at h2
      rw [List.length_range, Int.toNat_natCast] at h1
      exact ⟨h2.symm, h1⟩
    obtain ⟨rfl, hk⟩ := hk
    have hl : row.length = k := by
      have := pm.length_eq
      rw [List.length_range] at this
      exact this
    have hj : 0 ≤ rest % ((k : Nat) + 1) ∧ rest % ((k : Nat) + 1) < (k : Nat) + 1 := ⟨Int.emod_nonneg _ (by omega), Int.emod_lt_of_pos _ (by omega)⟩
    refine ⟨_, tx_name 4 nd, ?_⟩
    refine sxs_cons (sx_ins 2 rfl (ex_mod (ex_var 3 rfl) (ex_addI (ex_var 4 rfl) ex_int) (by omega)) (d := encN k) (ex_var 4 rfl) hj.1 (by omega) (by rw [List.length_map]; omega) ?_)
    refine sxs_one (sx_asg 3 (W := (· = di (rest / 7))) (ex_fdiv (ex_var 3 rfl) ex_int ⟨by decide, by decide⟩) (fun s w => ?_) nd)
    subst w
    refine ⟨rfl, row.take (rest % ((k : Nat) + 1)).toNat ++ [k] ++ row.drop (rest % ((k : Nat) + 1)).toNat, rest / 7, .k (di (k : Nat)), ?_, ?_, by omega⟩
    · rw [List.map_append, List.map_append, List.map_take, List.map_drop]
      rfl
    · rw [List.range_succ]
      have p1 : (row.take (rest % ((k : Nat) + 1)).toNat ++ [k] ++ row.drop (rest % ((k : Nat) + 1)).toNat).Perm (row ++ [k]) := by
        rw [List.append_assoc]
        refine (List.Perm.append_left _ (List.perm_append_comm (l₁ := [k]))).trans ?_
        rw [← List.append_assoc, List.take_append_drop]
      exact p1.trans (pm.append_right _)
  · obtain ⟨rfl, row, rest, u, rfl, pm, h0⟩ := iv
    rw [List.length_range, Int.toNat_natCast] at pm
    exact sxs_one (sx_ret (ex_var 2 rfl) fun s w => ⟨row, w, pm⟩)
end
end Dl
namespace Dl
open PySem PySem.Spec PyProof.Rows L2
section
variable {P : Program} {w : World} {K : PySem.W.Frag} {mg : Str → Option Value} {base : Heap}
/-! ### the text of a round, made -/
theorem tl_part (ws : List Str) : TL.tl (partF ws) = TL.joinL [32] (ws.map TL.tl) := by
  unfold partF
  rw [TL.join_eq, TL.tl_join]
  rw [show TL.tl " " = [32] from tl_sp]
theorem joinL_cons (S p : List Nat) {l : List (List Nat)} (h : l ≠ []) : TL.joinL S (p :: l) = p ++ (S ++ TL.joinL S l) := by
  cases l with
  | nil => exact absurd rfl h
  | cons q r => rfl
theorem part_A {acts : List Str} (h : acts ≠ []) : ("steps " : Str) ++ Txt.join " " acts = partF (wA acts) := TL.ext_tl (by
  rw [TL.tl_append, tl_part]
  show TL.tl "steps " ++ TL.tl (partF acts) = TL.joinL [32] (TL.tl "steps" :: acts.map TL.tl)
  rw [joinL_cons _ _ (by simpa using h), tl_part, show TL.tl "steps " = TL.tl "steps" ++ [32] by decide +kernel, List.append_assoc])
theorem part_O (acts : List Str) (q : Nat × Nat) : actAt acts q.1 ++ " before " ++ actAt acts q.2 = partF (wO acts q) := TL.ext_tl (by
  rw [TL.tl_append, TL.tl_append, tl_part]
  show _ = TL.joinL [32] [TL.tl (actAt acts q.1), TL.tl "before", TL.tl (actAt acts q.2)]
  rw [show TL.tl " before " = [32] ++ (TL.tl "before" ++ [32]) by decide +kernel]
  simp [TL.joinL])
theorem part_T {acts : List Str} {t : Tie} (h : t.steps ≠ []) : wordT t ++ " " ++ numS t.k ++ " " ++ Txt.join " " (t.steps.map (actAt acts)) = partF (wT acts t) := TL.ext_tl (by
  rw [TL.tl_append, TL.tl_append, TL.tl_append, TL.tl_append, tl_part]
  show _ ++ TL.tl (partF (t.steps.map (actAt acts))) = TL.joinL [32] (TL.tl (wordT t) :: TL.tl (numS t.k) :: (t.steps.map (actAt acts)).map TL.tl)
  rw [joinL_cons _ _ (by simp), joinL_cons _ _ (by simpa using h), tl_part, show TL.tl " " = [32] from tl_sp]
  simp only [List.append_assoc])
abbrev s__law_text : Stmt := topS 90
abbrev N__law_text : List Str := ["acts", "order", "ties", "parts", "first", "second", "word", "limit", "steps", "step"]
theorem sc__law_text : FnScope N__law_text ["acts", "order", "ties"] (defScope s__law_text) := ⟨rfl, rfl, rfl, by decide +kernel, rfl, by decide +kernel, by decide +kernel⟩
theorem hb__law_text (kV doc pm : Value) (an : Option Addr) (cdv ct : Value) (us : List Value) (hl : us.length = 3) : bindArgs (PySem.W.fnOf "_law_text" "_law_text" (defArgs s__law_text) (defBody s__law_text) (defScope s__law_text) .none kV doc pm an cdv ct) ⟨us, []⟩ = pure ((["acts", "order", "ties"] : List Str).zip us) := match us, hl with
  | [_, _, _], _ => rfl
def R__law_text : PSpec := fun _ ss W => ∃ (acts : List Str) (order : List (Nat × Nat)) (ties : List Tie), ss = [.dat (lsD acts), .dat (lpD order), .dat (ltD ties)] ∧ RoundOk acts order ties ∧ W = (· = ds (textF acts order ties))
set_option maxHeartbeats 1000000 in
theorem ok__law_text (B : Bt mg) (Dd : DefAt K mg "_law_text" s__law_text) : Fn P w K mg base "_law_text" ["acts", "order", "ties"] R__law_text 1 := by
  refine fn_mk Dd sc__law_text (fun G ss W ⟨_, _, _, e, _⟩ => by rw [e]; rfl) hb__law_text fun f cdv A outer s H hr G ss W h => ?_
  obtain ⟨acts, order, ties, rfl, ro, rfl⟩ := h
  have nd := (sc__law_text).nd
  have ao := ro.ac
  have h1 := ao.one
  have h6 := ao.few
  have hne : acts ≠ [] := fun z => by rw [z] at h1; exact absurd h1 (by decide)
  have hofew := ro.few
  have htfew := ro.few2
  have big : (100000 : Nat) ≤ sizeLine := by decide
  have sumN : ∀ l : List Str, (∀ a ∈ l, a.length ≤ 8) → (l.map (·.length)).sum ≤ l.length * 8 := fun l hl => by
    have := sum_le (k := 8) (xs := l.map (·.length)) fun x hx => by
      obtain ⟨y, hy, rfl⟩ := List.mem_map.mp hx
      exact hl y hy
    rw [List.length_map] at this
    exact this
  have l1 : (" " : Str).length = 1 := by decide +kernel
  have l2 : ("steps " : Str).length = 6 := by decide +kernel
  have l3 : (" before " : Str).length = 8 := by decide +kernel
  have l4 : ("; " : Str).length = 2 := by decide +kernel
  have hA := part_len (m := 7) (show (wA acts).length ≤ 7 by show acts.length + 1 ≤ 7; omega) (words_A ao)
  have jA : (Txt.join " " acts).length ≤ 100 := by
    have e := congrArg Str.length (part_A hne)
    rw [Str.length_append] at e
    omega
  have sA := sumN acts fun a ha => (ao.name a ha).few
  refine sxs_cons (sx_own 3 (exn_lst (ds := [.str (partF (wA acts))]) (ea_cons (EX.cast (ex_addS ex_str (ex_join ex_str (ex_var 0 rfl) (by rw [l1]; omega)) (by rw [l2]; omega)) (congrArg ds (part_A hne))) ea_nil) (Nat.le_of_ble_eq_true rfl)) ?_ nd)
  refine sxs_cons (sx_forT (ix_lstM (ex_var 1 rfl)) (fun i Ψ B => Ψ = phS G ∧ ∃ u v, B = [.d (lsD acts), .d (lpD order), .d (ltD ties), .lst ((partF (wA acts) :: (order.take i).map fun q => partF (wO acts q)).map .str), u, v, .un, .un, .un, .un]) ⟨rfl, _, _, rfl⟩ (fun i q Ψ B e iv => ?_) fun Ψ B iv => ?_)
  · obtain ⟨rfl, u, v, rfl⟩ := iv
    have hq := List.mem_of_getElem? e
    have q1 := ro.lt1 q hq
    have q2 := ro.lt2 q hq
    have n1 := (ao.name _ (actAt_mem q1)).few
    have n2 := (ao.name _ (actAt_mem q2)).few
    refine ⟨_, tx_tup (txs_cons (tx_name 4 nd) (txs_cons (tx_name 5 nd) txs_nil)), ?_⟩
    refine sxs_one (sx_app 3 rfl (d := .str (partF (wO acts q))) (EX.cast (ex_addS (ex_addS (ex_ixM (f := PyData.str) (ex_var 0 rfl) (ex_var 4 rfl) (atN (actAt_get q1))) ex_str (by rw [l3]; omega)) (ex_ixM (f := PyData.str) (ex_var 0 rfl) (ex_var 5 rfl) (atN (actAt_get q2))) (by rw [Str.length_append, l3]; omega)) (congrArg ds (part_O acts q))) (by rw [List.length_map, List.length_cons, List.length_map, List.length_take]; omega) ⟨rfl, .k (di (q.1 : Nat)), .k (di (q.2 : Nat)), ?_⟩)
    rw [List.take_add_one, e, List.map_cons, List.map_append, List.map_cons, List.map_append]
    rfl
  · obtain ⟨rfl, u, v, rfl⟩ := iv
    rw [List.take_length]
    refine sxs_cons (sx_forT (ix_lstM (ex_var 2 rfl)) (fun i Ψ B => Ψ = phS G ∧ ∃ u6 u7 u8, B = [.d (lsD acts), .d (lpD order), .d (ltD ties), .lst (((partF (wA acts) :: order.map fun q => partF (wO acts q)) ++ (ties.take i).map fun t => partF (wT acts t)).map .str), u, v, u6, u7, u8, .un]) ⟨rfl, .un, .un, .un, ?_⟩ (fun i t Ψ B e iv => ?_) fun Ψ B iv => ?_)
    · rw [List.take_zero, List.map_nil, List.append_nil]
    · obtain ⟨rfl, u6, u7, u8, rfl⟩ := iv
      have htm := List.mem_of_getElem? e
      have tt := ro.tie t htm
      have hf := tie_few tt
      have hw := (word_T t).few
      have hn := (word_num tt.few).few
      have hs8 : ∀ a ∈ t.steps.map (actAt acts), a.length ≤ 8 := fun a ha => by
        obtain ⟨s, hs, rfl⟩ := List.mem_map.mp ha
        exact (ao.name _ (actAt_mem (tt.lt s hs))).few
      have sT := sumN _ hs8
      have hlen : (t.steps.map (actAt acts)).length = t.steps.length := List.length_map _
      have hT := part_len (m := 8) (show (wT acts t).length ≤ 8 by show (t.steps.map (actAt acts)).length + 1 + 1 ≤ 8; omega) (words_T ao tt)
      have jT : (Txt.join " " (t.steps.map (actAt acts))).length ≤ 100 := by
        have e := congrArg Str.length (part_T (acts := acts) tt.some1)
        rw [Str.length_append] at e
        omega
      refine ⟨_, tx_tup (txs_cons (tx_name 6 nd) (txs_cons (tx_name 7 nd) (txs_cons (tx_name 8 nd) txs_nil))), ?_⟩
      refine sxs_one (sx_app 3 rfl (d := .str (partF (wT acts t))) (EX.cast (ex_addS (ex_addS (ex_addS (ex_addS (x := wordT t) (ex_var 6 rfl) ex_str (by rw [l1]; omega)) (EX.cast (ex_strI B.str (ex_var 7 rfl) ?_) (show ds (toString ((t.k : Nat) : Int)) = ds (numS t.k) from rfl)) (by rw [Str.length_append, l1]; omega)) ex_str (by rw [Str.length_append, Str.length_append, l1]; omega)) (ex_join (ys := t.steps.map (actAt acts)) ex_str (EX.cast (ex_lc 9 (ys := t.steps) (ι := fun s => .dat (encN s)) (fun _ => true) (fun s => .str (actAt acts s)) (ix_tupM (ex_var 8 rfl)) (by omega) (blkOk_by (N := N__law_text) (sc := defScope s__law_text) (by decide +kernel)) (fun y hy s H C cl fp => rfl) (fun y hy hq s H C cl fp => ex_ixM (f := PyData.str) (ex_var 0 rfl) (ex_var 9 rfl) (atN (actAt_get (tt.lt y hy)))) (fun s H C cl fp => pg_name nd rfl (Or.inl rfl)) nd) ?_) (by rw [l1]; omega)) (by rw [Str.length_append, Str.length_append, Str.length_append, l1]; omega)) (congrArg ds (part_T tt.some1))) (by rw [List.length_map, List.length_append, List.length_cons, List.length_map, List.length_map, List.length_take]; omega) ⟨rfl, .d (.str (wordT t)), .k (di (t.k : Nat)), .d (.tuple (t.steps.map encN)), ?_⟩)
      · have := tt.few
        have e1 : ((t.k : Nat) : Int).natAbs = t.k := by omega
        rw [e1]
        exact Nat.lt_of_le_of_lt (Nat.log2_le_self _) (by omega)
      · rw [List.filter_eq_self.mpr fun _ _ => rfl, show lsD (t.steps.map (actAt acts)) = .list ((t.steps.map (actAt acts)).map .str) from rfl, List.map_map]
        rfl
      · rw [List.take_add_one, e, List.map_append, List.map_append, List.map_append, List.map_append]
        simp only [List.append_assoc]
        rfl
    · obtain ⟨rfl, u6, u7, u8, rfl⟩ := iv
      rw [List.take_length]
      have ep : (partF (wA acts) :: order.map fun q => partF (wO acts q)) ++ ties.map (fun t => partF (wT acts t)) = partsF acts order ties := by
        unfold partsF restF
        rw [List.map_append, List.map_map, List.map_map]
        rfl
      rw [ep]
      have hpl : (partsF acts order ties).length = order.length + ties.length + 1 := by
        unfold partsF restF
        rw [List.length_cons, List.length_map, List.length_append, List.length_map, List.length_map]
      have sp := sum_le (k := 72) (xs := (partsF acts order ties).map (·.length)) fun x hx => by
        obtain ⟨y, hy, rfl⟩ := List.mem_map.mp hx
        exact parts_len ro y hy
      rw [List.length_map] at sp
      exact sxs_one (sx_ret (ex_join (ys := partsF acts order ties) ex_str (ex_var 3 rfl) (by rw [l4]; omega)) fun s w => w)
end
end Dl
namespace Dl
open PySem PySem.Spec PyProof.Rows L2
section
variable {P : Program} {w : World} {K : PySem.W.Frag} {mg : Str → Option Value} {base : Heap}
abbrev s__law_tie : Stmt := topS 91
abbrev N__law_tie : List Str := ["number", "hands", "cell", "step", "steps", "limit", "many"]
theorem sc__law_tie : FnScope N__law_tie ["number", "hands"] (defScope s__law_tie) := ⟨rfl, rfl, rfl, by decide +kernel, rfl, by decide +kernel, by decide +kernel⟩
theorem hb__law_tie (kV doc pm : Value) (an : Option Addr) (cdv ct : Value) (us : List Value) (hl : us.length = 2) : bindArgs (PySem.W.fnOf "_law_tie" "_law_tie" (defArgs s__law_tie) (defBody s__law_tie) (defScope s__law_tie) .none kV doc pm an cdv ct) ⟨us, []⟩ = pure ((["number", "hands"] : List Str).zip us) := match us, hl with
  | [_, _], _ => rfl
def pow6 : List Int := [1, 2, 4, 8, 16, 32]
def tieSt (number : Int) (n : Nat) : List Nat := if (List.range n).filter (fun k => decide (number * 69621 % 2147483629 / pow6.getD k 0 % 2 = 1)) = [] then [(number * 69621 % 2147483629 / 64 % (n : Int)).toNat] else (List.range n).filter (fun k => decide (number * 69621 % 2147483629 / pow6.getD k 0 % 2 = 1))
def tieF (number : Int) (hands : List Int) : Tie := if number * 69621 % 2147483629 / 64 % 2 = 1 then ⟨true, max (1 + number * 69621 % 2147483629 / 128 % 4).toNat (manyF hands (tieSt number hands.length)), tieSt number hands.length⟩ else ⟨false, min (1 + number * 69621 % 2147483629 / 128 % 4).toNat (manyF hands (tieSt number hands.length)), tieSt number hands.length⟩
def W__law_tie (number : Int) (hands : List Int) (s : Ds) : Prop := s = .dat (encT (tieF number hands)) ∧ TieTold hands.length (tieF number hands) ∧ KeepsT hands (tieF number hands)
def R__law_tie : PSpec := fun _ ss W => ∃ (number : Int) (hands : List Int), ss = [di number, .dat (liD hands)] ∧ 1 ≤ hands.length ∧ hands.length ≤ 6 ∧ W = W__law_tie number hands
set_option maxHeartbeats 1000000 in
theorem ok__law_tie (B : Bt mg) (Dd : DefAt K mg "_law_tie" s__law_tie) : Fn P w K mg base "_law_tie" ["number", "hands"] R__law_tie 1 := by
  refine fn_mk Dd sc__law_tie (fun G ss W ⟨_, _, e, _⟩ => by rw [e]; rfl) hb__law_tie fun f cdv A outer s H hr G ss W h => ?_
  obtain ⟨number, hands, rfl, h1, h6, rfl⟩ := h
  have nd := (sc__law_tie).nd
  have hu := hu_of2 hr
  have hl : (hands.map PyData.int).length = hands.length := List.length_map _
  obtain ⟨cell, ec⟩ : ∃ c : Int, number * 69621 % 2147483629 = c := ⟨_, rfl⟩
  have key : ∀ (st : List Nat) (u : Sl), tieSt number hands.length = st → st ≠ [] → st.Pairwise (· < ·) → (∀ x ∈ st, x < hands.length) → SXs false (cx P w K mg base N__law_tie "_law_tie" (defScope s__law_tie) f cdv A outer s H) (phS G) [.k (di number), .d (liD hands), .k (di cell), u, .d (lnD st), .un, .un] ((defBody s__law_tie).drop 3) { nx := fun _ _ => W__law_tie number hands (.dat .none), rt := fun _ s => W__law_tie number hands s } := fun st u hst hne up lt => by
    have hat : ∀ y ∈ st, hands[y]? = some (hands.getD y 0) := fun y hy => getDS 0 (lt y hy)
    have hfew : st.length ≤ hands.length := by
      have nd2 : st.Nodup := up.imp fun h => Nat.ne_of_lt h
      have := List.Nodup.length_le_of_subset nd2 (l₂ := List.range hands.length) fun x hx => List.mem_range.mpr (lt x hx)
      rw [List.length_range] at this
      exact this
    have hm1 : 1 ≤ manyF hands st ∧ manyF hands st ≤ 6 := by
      unfold manyF
      obtain ⟨u1, u2⟩ := uniq_spec (st.map fun s => hands.getD s 0)
      constructor
      · obtain ⟨x, hx⟩ := List.exists_mem_of_ne_nil st hne
        exact List.length_pos_of_mem ((u2 _).mpr (List.mem_map.mpr ⟨x, hx, rfl⟩))
      · have := List.Nodup.length_le_of_subset u1 (l₂ := st.map fun s => hands.getD s 0) fun x hx => (u2 x).mp hx
        rw [List.length_map] at this
        omega
    obtain ⟨lim, el⟩ : ∃ l : Nat, 1 + cell / 128 % 4 = ((l : Nat) : Int) := ⟨(1 + cell / 128 % 4).toNat, by omega⟩
    have hlim : 1 ≤ lim ∧ lim ≤ 4 := by omega
    have elim : (1 + cell / 128 % 4).toNat = lim := by omega
    refine sxs_cons (sx_asg 5 (W := (· = di (lim : Nat))) (EX.cast (ex_addI ex_int (ex_mod (ex_fdiv (ex_var 2 rfl) ex_int ⟨by decide, by decide⟩) ex_int (by decide))) (congrArg di el)) (fun s w => ?_) nd)
    subst w
    refine sxs_cons (sx_asg 6 (W := (· = di (manyF hands st : Nat))) (ex_lenset (ns := st.map fun s => hands.getD s 0) B.len B.set (EX.cast (ex_lc 3 (ys := st) (ι := fun s => .dat (encN s)) (fun _ => true) (fun s => .int (hands.getD s 0)) (ix_lstM (ex_var 4 rfl)) (by omega) (blkOk_by (N := N__law_tie) (sc := defScope s__law_tie) (by decide +kernel)) (fun y hy s H C cl fp => rfl) (fun y hy hq s H C cl fp => ex_ixM (f := PyData.int) (ex_var 1 rfl) (ex_var 3 rfl) (atN (hat y hy))) (fun s H C cl fp => pg_name nd rfl (Or.inl rfl)) nd) (by rw [List.filter_eq_self.mpr fun _ _ => rfl, List.map_map]; rfl)) (by rw [List.length_map]; omega)) (fun s w => ?_) nd)
    subst w
    refine sxs_cons (sx_if (k := decide (cell / 64 % 2 = 1)) (EB.cast (eb_eqI (ex_mod (ex_fdiv (ex_var 2 rfl) ex_int ⟨by decide, by decide⟩) ex_int (by decide)) ex_int) (by rfl)).t (fun hk => ?_) fun hk => sxs_nil ?_)
    · have e1 : (if ((manyF hands st : Nat) : Int) > (lim : Nat) then ((manyF hands st : Nat) : Int) else (lim : Nat)) = ((max lim (manyF hands st) : Nat) : Int) := by split <;> omega
      refine sxs_one (sx_ret (W := (· = .dat (encT ⟨true, max lim (manyF hands st), st⟩))) (EX.cast (ex_tup (ds := [_, _, _]) (ea_cons ex_str (ea_cons (ex_max2 B.max (ex_var 5 rfl) (ex_var 6 rfl)) (ea_cons (ex_tuple B.tuple (ex_var 4 rfl)) ea_nil))) (Nat.le_of_ble_eq_true rfl)) (by rw [e1]; rfl)) fun s w => ?_)
      have et : tieF number hands = ⟨true, max lim (manyF hands st), st⟩ := by
        unfold tieF
        rw [ec, hst, elim, if_pos (of_decide_eq_true hk)]
      show W__law_tie number hands s
      unfold W__law_tie
      rw [et]
      refine ⟨w, ⟨?_, ?_, hne, up, lt⟩, ?_⟩
      · show 1 ≤ max lim (manyF hands st)
        omega
      · show max lim (manyF hands st) ≤ 6
        omega
      · show manyF hands st ≤ max lim (manyF hands st)
        omega
    · have e1 : (if ((manyF hands st : Nat) : Int) < (lim : Nat) then ((manyF hands st : Nat) : Int) else (lim : Nat)) = ((min lim (manyF hands st) : Nat) : Int) := by split <;> omega
      refine sxs_one (sx_ret (W := (· = .dat (encT ⟨false, min lim (manyF hands st), st⟩))) (EX.cast (ex_tup (ds := [_, _, _]) (ea_cons ex_str (ea_cons (ex_min2 B.min (ex_var 5 rfl) (ex_var 6 rfl)) (ea_cons (ex_tuple B.tuple (ex_var 4 rfl)) ea_nil))) (Nat.le_of_ble_eq_true rfl)) (by rw [e1]; rfl)) fun s w => ?_)
      have et : tieF number hands = ⟨false, min lim (manyF hands st), st⟩ := by
        unfold tieF
        rw [ec, hst, elim, if_neg (of_decide_eq_false hk)]
      show W__law_tie number hands s
      unfold W__law_tie
      rw [et]
      refine ⟨w, ⟨?_, ?_, hne, up, lt⟩, ?_⟩
      · show 1 ≤ min lim (manyF hands st)
        omega
      · show min lim (manyF hands st) ≤ 6
        omega
      · show (if false = true then _ else min lim (manyF hands st) ≤ manyF hands st)
        rw [if_neg Bool.false_ne_true]
        omega
  refine sxs_cons (sx_asg 2 (W := (· = di cell)) (EX.cast (ex_mod (ex_mulI (ex_var 0 rfl) ex_int (.inr ⟨by decide, by decide⟩)) ex_int (by decide)) (congrArg di ec)) (fun s w => ?_) nd)
  subst w
  have hrg : ∀ y ∈ List.range (Int.toNat ((hands.map PyData.int).length : Nat)), y < hands.length := fun y hy => by
    rw [Int.toNat_natCast, List.mem_range, hl] at hy
    exact hy
  have hpos : ∀ y : Nat, y < 6 → 0 < pow6.getD y 0 ∧ pow6.getD y 0 < 1073741824 := by decide +kernel
  refine sxs_cons (sx_lc 4 3 (fun k => decide (cell / pow6.getD k 0 % 2 = 1)) encN (ix_range B.range (ex_len B.len (ex_var 1 rfl) (.lst _)) (by omega) (by omega)) (by rw [List.length_range]; omega) (blkOk_by (N := N__law_tie) (sc := defScope s__law_tie) (by decide +kernel)) (fun y hy s H C cl fp => (EB.cast (eb_eqI (ex_mod (ex_fdiv (ex_var 2 rfl) (ex_ixM (f := PyData.int) (xs := pow6) (ex_lst (ds := [_, _, _, _, _, _]) (ea_cons ex_int (ea_cons ex_int (ea_cons ex_int (ea_cons ex_int (ea_cons ex_int (ea_cons ex_int ea_nil)))))) (Nat.le_of_ble_eq_true rfl)) (ex_var 3 rfl) (atN (getDS 0 (show y < 6 from by have := hrg y hy; omega)))) (hpos y (by have := hrg y hy; omega))) ex_int (by decide)) ex_int) (by rfl)).t) (fun y hy hq s H C cl fp => ex_var 3 rfl) (fun s H C cl fp => pg_name nd rfl (Or.inl rfl)) nd ?_)
  obtain ⟨st, est⟩ : ∃ st : List Nat, (List.range (Int.toNat ((hands.map PyData.int).length : Nat))).filter (fun k => decide (cell / pow6.getD k 0 % 2 = 1)) = st := ⟨_, rfl⟩
  rw [est]
  have ets : tieSt number hands.length = if st = [] then [(cell / 64 % (hands.length : Nat)).toNat] else st := by
    rw [Int.toNat_natCast, hl] at est
    unfold tieSt
    rw [ec, est]
  have up : st.Pairwise (· < ·) := by
    rw [← est]
    exact List.Pairwise.filter _ List.pairwise_lt_range
  have lt : ∀ x ∈ st, x < hands.length := fun x hx => by
    rw [← est] at hx
    exact hrg x (List.mem_filter.mp hx).1
  refine sxs_cons (sx_if (k := decide (st = [])) (eb_eqC (f := lnD) (y := []) code_lN (ex_var 4 rfl) (ex_lst (ds := []) ea_nil (Nat.le_of_ble_eq_true rfl)) hu trivial trivial decide_eq_true_iff).t (fun hk => ?_) fun hk => sxs_nil ?_)
  · obtain ⟨b, eb⟩ : ∃ b : Nat, cell / 64 % ((hands.map PyData.int).length : Nat) = ((b : Nat) : Int) := ⟨(cell / 64 % ((hands.map PyData.int).length : Nat)).toNat, (Int.toNat_of_nonneg (Int.emod_nonneg _ (by omega))).symm⟩
    have hb : b < hands.length := by
      have := Int.emod_lt_of_pos (cell / 64) (show 0 < (((hands.map PyData.int).length : Nat) : Int) by omega)
      omega
    refine sxs_one (sx_asg 4 (W := (· = .dat (lnD [b]))) (EX.cast (ex_lst (ds := [_]) (ea_cons (ex_mod (ex_fdiv (ex_var 2 rfl) ex_int ⟨by decide, by decide⟩) (ex_len B.len (ex_var 1 rfl) (.lst _)) (by omega)) ea_nil) (Nat.le_of_ble_eq_true rfl)) (by rw [eb]; rfl)) (fun s w => ?_) nd)
    subst w
    exact key [b] _ (by rw [ets, if_pos (of_decide_eq_true hk), ← hl, eb]; rfl) (by simp) (List.pairwise_singleton _ _) fun x hx => by rw [List.mem_singleton.mp hx]; exact hb
  · exact key st _ (by rw [ets, if_neg (of_decide_eq_false hk)]) (of_decide_eq_false hk) up lt
end
end Dl
namespace Dl
open PySem PySem.Spec PyProof.Rows L2
theorem tieSt_ok (number : Int) {n : Nat} (h1 : 1 ≤ n) : tieSt number n ≠ [] ∧ (tieSt number n).Pairwise (· < ·) ∧ ∀ x ∈ tieSt number n, x < n := by
  unfold tieSt
  split
  · refine ⟨by simp, List.pairwise_singleton _ _, fun x hx => ?_⟩
    rw [List.mem_singleton.mp hx]
    have := Int.emod_lt_of_pos (number * 69621 % 2147483629 / 64) (show 0 < (n : Int) by omega)
    have := Int.emod_nonneg (number * 69621 % 2147483629 / 64) (show (n : Int) ≠ 0 by omega)
    omega
  · rename_i h
    exact ⟨h, List.Pairwise.filter _ List.pairwise_lt_range, fun x hx => List.mem_range.mp (List.mem_filter.mp hx).1⟩
theorem tieF_ok (number : Int) {hands : List Int} (h1 : 1 ≤ hands.length) (h6 : hands.length ≤ 6) : TieTold hands.length (tieF number hands) ∧ KeepsT hands (tieF number hands) := by
  obtain ⟨hne, up, lt⟩ := tieSt_ok number h1
  have hm1 : 1 ≤ manyF hands (tieSt number hands.length) ∧ manyF hands (tieSt number hands.length) ≤ 6 := by
    unfold manyF
    obtain ⟨u1, u2⟩ := uniq_spec ((tieSt number hands.length).map fun s => hands.getD s 0)
    constructor
    · obtain ⟨x, hx⟩ := List.exists_mem_of_ne_nil _ hne
      exact List.length_pos_of_mem ((u2 _).mpr (List.mem_map.mpr ⟨x, hx, rfl⟩))
    · have a := List.Nodup.length_le_of_subset u1 (l₂ := (tieSt number hands.length).map fun s => hands.getD s 0) fun x hx => (u2 x).mp hx
      have nd2 : (tieSt number hands.length).Nodup := up.imp fun h => Nat.ne_of_lt h
      have b := List.Nodup.length_le_of_subset nd2 (l₂ := List.range hands.length) fun x hx => List.mem_range.mpr (lt x hx)
      rw [List.length_range] at b
      rw [List.length_map] at a
      omega
  unfold tieF
  split
  · refine ⟨⟨?_, ?_, hne, up, lt⟩, ?_⟩
    · show 1 ≤ max _ (manyF hands (tieSt number hands.length))
      omega
    · show max _ (manyF hands (tieSt number hands.length)) ≤ 6
      omega
    · show manyF hands (tieSt number hands.length) ≤ max _ (manyF hands (tieSt number hands.length))
      omega
  · refine ⟨⟨?_, ?_, hne, up, lt⟩, ?_⟩
    · show 1 ≤ min _ (manyF hands (tieSt number hands.length))
      omega
    · show min _ (manyF hands (tieSt number hands.length)) ≤ 6
      omega
    · show (if false = true then _ else min _ (manyF hands (tieSt number hands.length)) ≤ manyF hands (tieSt number hands.length))
      rw [if_neg Bool.false_ne_true]
      omega
/-- each but once -/
def onceF (order : List (Nat × Nat)) : List (Nat × Nat) := ((List.range order.length).filter fun k => !decide (order.getD k (0, 0) ∈ order.take k)).map fun k => order.getD k (0, 0)
theorem onceF_mem {order : List (Nat × Nat)} {q : Nat × Nat} (h : q ∈ onceF order) : q ∈ order := by
  obtain ⟨k, hk, rfl⟩ := List.mem_map.mp h
  exact List.mem_of_getElem? (getDS (0, 0) (List.mem_range.mp (List.mem_filter.mp hk).1))
theorem onceF_len (order : List (Nat × Nat)) : (onceF order).length ≤ order.length := by
  unfold onceF
  rw [List.length_map]
  refine Nat.le_trans (List.length_filter_le _ _) ?_
  rw [List.length_range]
  exact Nat.le_refl _
theorem onceF_nodup (order : List (Nat × Nat)) : (onceF order).Nodup := by
  refine nodup_map (List.nodup_range.filter _) fun a ha b hb e => ?_
  obtain ⟨a1, a2⟩ := List.mem_filter.mp ha
  obtain ⟨b1, b2⟩ := List.mem_filter.mp hb
  have a1 := List.mem_range.mp a1
  have b1 := List.mem_range.mp b1
  have a3 : order.getD a (0, 0) ∉ order.take a := by simpa using a2
  have b3 : order.getD b (0, 0) ∉ order.take b := by simpa using b2
  have ga := getDS ((0, 0) : Nat × Nat) a1
  have gb := getDS ((0, 0) : Nat × Nat) b1
  rcases Nat.lt_trichotomy a b with h | h | h
  · refine absurd ?_ b3
    rw [← e]
    exact List.mem_of_getElem? (i := a) (by rw [List.getElem?_take_of_lt h]; exact ga)
  · exact h
  · refine absurd ?_ a3
    rw [e]
    exact List.mem_of_getElem? (i := b) (by rw [List.getElem?_take_of_lt h]; exact gb)
end Dl
namespace Dl
open PySem PySem.Spec PyProof.Rows L2
section
variable {P : Program} {w : World} {K : PySem.W.Frag} {mg : Str → Option Value} {base : Heap}
structure RndOk (hands : List Int) (order : List (Nat × Nat)) (ties : List Tie) : Prop where
  nd : order.Nodup
  lt1 : ∀ p ∈ order, p.1 < hands.length
  lt2 : ∀ p ∈ order, p.2 < hands.length
  rank : ∃ r : Nat → Nat, ∀ p ∈ order, r p.1 < r p.2
  few : order.length ≤ 100
  tie : ∀ t ∈ ties, TieTold hands.length t
  few2 : ties.length ≤ 12
  keep : ∀ t ∈ ties, KeepsT hands t
abbrev s__law_round : Stmt := topS 92
abbrev N__law_round : List Str := ["cells", "hands", "row", "order", "k", "number"]
theorem sc__law_round : FnScope N__law_round ["cells", "hands"] (defScope s__law_round) := ⟨rfl, rfl, rfl, by decide +kernel, rfl, by decide +kernel, by decide +kernel⟩
theorem hb__law_round (kV doc pm : Value) (an : Option Addr) (cdv ct : Value) (us : List Value) (hl : us.length = 2) : bindArgs (PySem.W.fnOf "_law_round" "_law_round" (defArgs s__law_round) (defBody s__law_round) (defScope s__law_round) .none kV doc pm an cdv ct) ⟨us, []⟩ = pure ((["cells", "hands"] : List Str).zip us) := match us, hl with
  | [_, _], _ => rfl
def R__law_round : PSpec := fun _ ss W => ∃ (cells hands : List Int), ss = [.dat (liD cells), .dat (liD hands)] ∧ cells.length = 8 ∧ 1 ≤ hands.length ∧ hands.length ≤ 6 ∧ W = fun s => ∃ order ties, s = .dat (.list [lpD order, ltD ties]) ∧ RndOk hands order ties
set_option maxHeartbeats 1000000 in
theorem ok__law_round (B : Bt mg) (Dd : DefAt K mg "_law_round" s__law_round) (F__law_row : Fn P w K mg base "_law_row" ["count", "cell"] R__law_row 1) (F__law_order : Fn P w K mg base "_law_order" ["cells", "row"] R__law_order 1) (F__law_tie : Fn P w K mg base "_law_tie" ["number", "hands"] R__law_tie 1) :
    Fn P w K mg base "_law_round" ["cells", "hands"] R__law_round 2 := by
  refine fn_mk Dd sc__law_round (fun G ss W ⟨_, _, e, _⟩ => by rw [e]; rfl) hb__law_round fun f cdv A outer s H hr G ss W h => ?_
  obtain ⟨cells, hands, rfl, hc, h1, h6, rfl⟩ := h
  have nd := (sc__law_round).nd
  have hu := hu_of2 hr
  have hl : (hands.map PyData.int).length = hands.length := List.length_map _
  have c0 := getDS (0 : Int) (show 0 < cells.length by omega)
  refine sxs_cons (sx_asg 2 (W := fun s => ∃ row : List Nat, s = .dat (lnD row) ∧ row.Perm (List.range hands.length)) (ex_call F__law_row hr (ea_cons (ex_len B.len (ex_var 1 rfl) (.lst _)) (ea_cons (ex_ixM (f := PyData.int) (ex_var 0 rfl) ex_int (atN (k := 0) c0)) ea_nil)) fun G _ => ⟨hands.length, cells.getD 0 0, by rw [hl], by omega, rfl⟩) (fun s w => ?_) nd)
  obtain ⟨row, rfl, pm⟩ := w
  have rl : row.length = hands.length := by
    have := pm.length_eq
    rw [List.length_range] at this
    exact this
  have rnd : row.Nodup := pm.nodup_iff.mpr List.nodup_range
  have hcut : cutL (cells.map PyData.int) (some 1) (some 4) = ((cells.drop 1).take 3).map PyData.int := by
    unfold cutL
    rw [show (1 : Int) = ((1 : Nat) : Int) from rfl, show (4 : Int) = ((4 : Nat) : Int) from rfl, HT.sIx_nat, HT.sIx_nat, List.length_map, hc, List.map_take, List.map_drop]
    rfl
  refine sxs_cons (sx_asg 3 (W := fun s => ∃ order : List (Nat × Nat), s = .dat (lpD order) ∧ order.length ≤ ((cells.drop 1).take 3).length ∧ ∀ q ∈ order, ∃ i j : Nat, i < j ∧ row[i]? = some q.1 ∧ row[j]? = some q.2) (ex_call F__law_order hr (ea_cons (EX.cast (ex_slice (ex_var 0 rfl) (eo_some ex_int) (eo_some ex_int)) (by rw [hcut])) (ea_cons (ex_var 2 rfl) ea_nil)) fun G _ => ⟨(cells.drop 1).take 3, row, rfl, by rw [List.length_take]; omega, by omega, by omega, rfl⟩) (fun s w => ?_) nd)
  obtain ⟨order, rfl, hol, ho⟩ := w
  have hol : order.length ≤ 3 := by rw [List.length_take] at hol; omega
  have ol : (order.map encP).length = order.length := List.length_map _
  have hrg : ∀ y ∈ List.range (Int.toNat ((order.map encP).length : Nat)), y < order.length := fun y hy => by
    rw [Int.toNat_natCast, List.mem_range, ol] at hy
    exact hy
  have hcut2 : ∀ y : Nat, y < order.length → cutL (order.map encP) none (some (y : Int)) = (order.take y).map encP := fun y hy => by
    unfold cutL
    rw [HT.sIx_nat, HT.sIx_none, List.length_map, Nat.min_eq_left (Nat.le_of_lt hy), List.drop_zero, Nat.sub_zero, List.map_take]
  refine sxs_cons (sx_asg 3 (W := (· = .dat (lpD (onceF order)))) (EX.cast (ex_lc 4 (fun k => !decide (order.getD k (0, 0) ∈ order.take k)) (fun k => encP (order.getD k (0, 0))) (ix_range B.range (ex_len B.len (ex_var 3 rfl) (.lst _)) (by omega) (by omega)) (by rw [List.length_range]; omega) (blkOk_by (N := N__law_round) (sc := defScope s__law_round) (by decide +kernel)) (fun y hy s H C cl fp => (eb_ninC code_P (ex_ixM (f := encP) (ex_var 3 rfl) (ex_var 4 rfl) (atN (getDS (0, 0) (hrg y hy)))) (EX.cast (ex_slice (ex_var 3 rfl) eo_none (eo_some (ex_var 4 rfl))) (by rw [hcut2 y (hrg y hy)])) hu trivial (fun _ _ => trivial) (by simp)).t) (fun y hy hq s H C cl fp => ex_ixM (f := encP) (ex_var 3 rfl) (ex_var 4 rfl) (atN (getDS (0, 0) (hrg y hy)))) (fun s H C cl fp => pg_name nd rfl (Or.inl rfl)) nd) ?_) (fun s w => ?_) nd)
  · rw [Int.toNat_natCast, ol]
    unfold onceF
    rw [show lpD _ = PyData.list _ from rfl, List.map_map]
    rfl
  subst w
  have hcut3 : cutL (cells.map PyData.int) (some 4) none = (cells.drop 4).map PyData.int := by
    unfold cutL
    rw [show (4 : Int) = ((4 : Nat) : Int) from rfl, HT.sIx_nat, HT.sIx_none, List.length_map, hc, List.map_drop, List.take_of_length_le (by simp; omega)]
    rfl
  refine sxs_one (sx_ret (W := (· = .dat (.list [lpD (onceF order), ltD ((cells.drop 4).map fun n => tieF n hands)]))) (ex_lst (ds := [lpD (onceF order), ltD ((cells.drop 4).map fun n => tieF n hands)]) (ea_cons (ex_var 3 rfl) (ea_cons (EX.cast (ex_lc 5 (ys := cells.drop 4) (ι := fun n => di n) (fun _ => true) (fun n => encT (tieF n hands)) (ix_lstM (EX.cast (ex_slice (ex_var 0 rfl) (eo_some ex_int) eo_none) (by rw [hcut3]))) (by rw [List.length_drop]; omega) (blkOk_by (N := N__law_round) (sc := defScope s__law_round) (by decide +kernel)) (fun y hy s H C cl fp => rfl) (fun y hy hq s H C cl fp => EXW.det (ex_call F__law_tie hr (ea_cons (ex_var 5 rfl) (ea_cons (ex_var 1 rfl) ea_nil)) (W := W__law_tie y hands) fun G _ => ⟨y, hands, rfl, h1, h6, rfl⟩) fun t w => w.1) (fun s H C cl fp => pg_name nd rfl (Or.inl rfl)) nd) ?_) ea_nil)) (Nat.le_of_ble_eq_true rfl)) fun s w => ⟨onceF order, _, w, ?_⟩)
  · rw [List.filter_eq_self.mpr fun _ _ => rfl, show ltD _ = PyData.list _ from rfl, List.map_map]
    rfl
  · have mem : ∀ q ∈ onceF order, ∃ i j : Nat, i < j ∧ row[i]? = some q.1 ∧ row[j]? = some q.2 := fun q hq => ho q (onceF_mem hq)
    have inr : ∀ x ∈ row, x < hands.length := fun x hx => List.mem_range.mp (pm.mem_iff.mp hx)
    refine ⟨onceF_nodup _, fun q hq => ?_, fun q hq => ?_, ⟨fun x => row.idxOf x, fun q hq => ?_⟩, Nat.le_trans (onceF_len _) (by omega), fun t ht => ?_, by rw [List.length_map, List.length_drop]; omega, fun t ht => ?_⟩
    · obtain ⟨i, j, _, e1, _⟩ := mem q hq
      exact inr _ (List.mem_of_getElem? e1)
    · obtain ⟨i, j, _, _, e2⟩ := mem q hq
      exact inr _ (List.mem_of_getElem? e2)
    · obtain ⟨i, j, hij, e1, e2⟩ := mem q hq
      have idx : ∀ (k x : Nat), row[k]? = some x → row.idxOf x = k := fun k x e => by
        obtain ⟨hk, ek⟩ := List.getElem?_eq_some_iff.mp e
        rw [← ek]
        exact List.Nodup.idxOf_getElem rnd k hk
      show row.idxOf q.1 < row.idxOf q.2
      rw [idx i _ e1, idx j _ e2]
      exact hij
    · obtain ⟨n, _, rfl⟩ := List.mem_map.mp ht
      exact (tieF_ok n h1 h6).1
    · obtain ⟨n, _, rfl⟩ := List.mem_map.mp ht
      exact (tieF_ok n h1 h6).2
end
end Dl
namespace Dl
open PySem PySem.Spec PyProof.Rows L2
section
variable {P : Program} {w : World} {K : PySem.W.Frag} {mg : Str → Option Value} {base : Heap}
abbrev tbD (tb : List (Int × Str)) : D := .list (tb.map encBA)
abbrev s__law_lists : Stmt := topS 94
abbrev N__law_lists : List Str := ["badges", "acts", "table", "act", "badge"]
theorem sc__law_lists : FnScope N__law_lists ["badges", "acts", "table"] (defScope s__law_lists) := ⟨rfl, rfl, rfl, by decide +kernel, rfl, by decide +kernel, by decide +kernel⟩
theorem hb__law_lists (kV doc pm : Value) (an : Option Addr) (cdv ct : Value) (us : List Value) (hl : us.length = 3) : bindArgs (PySem.W.fnOf "_law_lists" "_law_lists" (defArgs s__law_lists) (defBody s__law_lists) (defScope s__law_lists) .none kV doc pm an cdv ct) ⟨us, []⟩ = pure ((["badges", "acts", "table"] : List Str).zip us) := match us, hl with
  | [_, _, _], _ => rfl
def listsF (badges : List Int) (acts : List Str) (tb : List (Int × Str)) : List (List Int) := acts.map fun a => (sortI badges).filter fun b => decide ((b, a) ∈ tb)
def R__law_lists : PSpec := fun _ ss W => ∃ (badges : List Int) (acts : List Str) (tb : List (Int × Str)), ss = [.dat (liD badges), .dat (lsD acts), .dat (tbD tb)] ∧ badges.length ≤ 100 ∧ acts.length ≤ 100 ∧ (∀ a ∈ acts, PyData.strOk a = true) ∧ (∀ q ∈ tb, PyData.strOk q.2 = true) ∧ W = (· = .dat (llD (listsF badges acts tb)))
theorem ok__law_lists (B : Bt mg) (Dd : DefAt K mg "_law_lists" s__law_lists) : Fn P w K mg base "_law_lists" ["badges", "acts", "table"] R__law_lists 1 := by
  refine fn_mk Dd sc__law_lists (fun G ss W ⟨_, _, _, e, _⟩ => by rw [e]; rfl) hb__law_lists fun f cdv A outer s H hr G ss W h => ?_
  obtain ⟨badges, acts, tb, rfl, hb, ha, hs, ht, rfl⟩ := h
  have nd := (sc__law_lists).nd
  have hu := hu_of2 hr
  have sl : (sortI badges).length = badges.length := (sortI_perm badges).length_eq
  refine sxs_one (sx_ret (EX.cast (ex_lc 3 (ys := acts) (ι := fun a => .dat (.str a)) (fun _ => true) (fun a => liD ((sortI badges).filter fun b => decide ((b, a) ∈ tb))) (ix_lstM (ex_var 1 rfl)) (by omega) (blkOk_by (N := N__law_lists) (sc := defScope s__law_lists) (by decide +kernel)) (fun a hm s H C cl fp => rfl) (fun a hm hq s H C cl fp => ?_) (fun s H C cl fp => pg_name nd rfl (Or.inr rfl)) nd) ?_) fun s w => w)
  · refine ex_lc 4 (ys := sortI badges) (ι := fun b => .dat (.int b)) (fun b => decide ((b, a) ∈ tb)) PyData.int (ix_lstM (ex_sortI B.sorted (ex_var 0 rfl))) (by omega) (blkOk_re (blkOk_by (N := N__law_lists) (sc := lcScope ((defBody s__law_lists).getD 0 (.Pass ⟨0, 0, 0, 0⟩))) (by decide +kernel))) (fun b hb s H C cl fp => ?_) (fun b hb hq s H C cl fp => ex_var 4 rfl) (fun s H C cl fp => pg_name nd rfl (Or.inl rfl)) nd
    show ET _ _ _ _ _
    exact EB.t (eb_inC (y := (b, a)) code_BA (ex_tup (ds := [.int b, .str a]) (ea_cons (ex_var 4 rfl) (ea_cons (ex_var 3 rfl) ea_nil)) (Nat.le_of_ble_eq_true rfl)) (ex_var 2 rfl) hu (hs a hm) ht decide_eq_true_iff)
  · rw [List.filter_eq_self.mpr fun _ _ => rfl]
    unfold listsF
    rw [show llD _ = PyData.list _ from rfl, List.map_map]
    rfl
end
end Dl
namespace Dl
open PySem PySem.Spec PyProof.Rows L2
section
variable {P : Program} {w : World} {K : PySem.W.Frag} {mg : Str → Option Value} {base : Heap}
abbrev rowD (acts : List Str) (order : List (Nat × Nat)) (ties : List Tie) (marks : List (Option Int)) : D := .list [lsD acts, lpD order, ltD ties, loD marks]
abbrev s__law_step_due : Stmt := topS 96
abbrev N__law_step_due : List Str := ["files", "number", "act", "acts", "order", "ties", "done", "first", "second"]
theorem sc__law_step_due : FnScope N__law_step_due ["files", "number", "act"] (defScope s__law_step_due) := ⟨rfl, rfl, rfl, by decide +kernel, rfl, by decide +kernel, by decide +kernel⟩
theorem hb__law_step_due (kV doc pm : Value) (an : Option Addr) (cdv ct : Value) (us : List Value) (hl : us.length = 3) : bindArgs (PySem.W.fnOf "_law_step_due" "_law_step_due" (defArgs s__law_step_due) (defBody s__law_step_due) (defScope s__law_step_due) .none kV doc pm an cdv ct) ⟨us, []⟩ = pure ((["files", "number", "act"] : List Str).zip us) := match us, hl with
  | [_, _, _], _ => rfl
def dueF (order : List (Nat × Nat)) (marks : List (Option Int)) (k : Nat) : Str := if (marks.getD k none).isSome then "Done" else if freeF order (atHand marks) k then "" else "NotYet"
def R__law_step_due : PSpec := fun G ss W => ∃ (acts : List Str) (order : List (Nat × Nat)) (ties : List Tie) (marks : List (Option Int)) (n : Int) (v : V) (k : Nat), ss = [.dic [(.inl n, v)], di n, ds (actAt acts k)] ∧ Dq G v (rowD acts order ties marks) ∧ ActsOk acts ∧ k < acts.length ∧ marks.length = acts.length ∧ none ∈ marks ∧ (∀ q ∈ order, q.1 < acts.length) ∧ order.length ≤ 100 ∧ W = (· = ds (dueF order marks k))
theorem ok__law_step_due (B : Bt mg) (Dd : DefAt K mg "_law_step_due" s__law_step_due) : Fn P w K mg base "_law_step_due" ["files", "number", "act"] R__law_step_due 1 := by
  refine fn_mk Dd sc__law_step_due (fun G ss W ⟨_, _, _, _, _, _, _, e, _⟩ => by rw [e]; rfl) hb__law_step_due fun f cdv A outer s H hr G ss W h => ?_
  obtain ⟨acts, order, ties, marks, n, v, k, rfl, dv, ao, hk, hl, hn, ho, hol, rfl⟩ := h
  have nd := (sc__law_step_due).nd
  have hu := hu_of2 hr
  have hu1 := hu_of1 hr
  have kv : valV [((Sum.inl n : Key), v)] (.inl n) = some v := by simp [valV]
  refine sxs_cons (sx_if (k := false) (EB.cast (eb_dninD (ex_var 1 rfl) (ex_var 0 rfl) rfl hu1) (by rw [kv]; rfl)).t (fun hk => by cases hk) fun _ => sxs_nil ?_)
  refine sxs_cons (sx_unp (W := (· = .dat (rowD acts order ties marks))) (ex_dgetW (ex_var 0 rfl) (ex_var 1 rfl) rfl kv (.dat dv) hu1) fun s w => ⟨_, by
    subst w
    exact tx_lst (txs_cons (tx_name 3 nd) (txs_cons (tx_name 4 nd) (txs_cons (tx_name 5 nd) (txs_cons (tx_name 6 nd) txs_nil)))), ?_⟩)
  refine sxs_cons (sx_if (k := false) (EB.cast (eb_ninO ex_none (ex_var 6 rfl)) (by simp [hn])).t (fun hk => by cases hk) fun _ => sxs_nil ?_)
  refine sxs_cons (sx_if (k := false) (EB.cast (eb_ninS (ex_var 2 rfl) (ex_var 3 rfl)) (by rw [decide_eq_true (actAt_mem hk)]; rfl)).t (fun hk => by cases hk) fun _ => sxs_nil ?_)
  have gk : marks[k]? = some (marks.getD k none) := getO (by omega)
  refine sxs_cons (sx_if (k := (marks.getD k none).isSome) (EB.cast (eb_notN (ex_ixM (f := encO) (ex_var 6 rfl) (ex_index hu (ex_var 3 rfl) (ex_var 2 rfl) (names_strOk ao) (actAt_get hk) (act_first ao hk)) (atN gk))) (by rw [isN_encO]; cases marks.getD k none <;> rfl)).t (fun hk => sxs_one (sx_ret ex_str fun s w => ?_)) fun hk1 => sxs_nil ?_)
  · subst w
    rw [show dueF order marks k = "Done" from if_pos hk]
  have df : dueF order marks k = (if freeF order (atHand marks) k then ("" : Str) else ("NotYet" : Str)) := by
    unfold dueF
    rw [hk1]
    cases freeF order (atHand marks) k <;> rfl
  refine sxs_cons (sx_forT (ix_lstM (ex_var 4 rfl)) (fun i Ψ B => Ψ = phS G ∧ ∃ u1 u2, B = [.k (.dic [(.inl n, v)]), .k (di n), .k (ds (actAt acts k)), .d (lsD acts), .d (lpD order), .d (ltD ties), .d (loD marks), u1, u2] ∧ freeF (order.take i) (atHand marks) k = true) ⟨rfl, _, _, rfl, rfl⟩ (fun i y Ψ B e iv => ?_) fun Ψ B iv => ?_)
  · obtain ⟨rfl, u1, u2, rfl, iv⟩ := iv
    have et : order.take (i + 1) = order.take i ++ [y] := by
      rw [List.take_add_one, e]
      rfl
    have hy := ho y (List.mem_of_getElem? e)
    have gy : marks[y.1]? = some (marks.getD y.1 none) := getO (by omega)
    have mem : decide (y.1 ∈ atHand marks) = (marks.getD y.1 none).isSome := by
      rw [Bool.eq_iff_iff, decide_eq_true_eq]
      simp [atHand, List.mem_filter, List.mem_range, show y.1 < marks.length by omega]
    refine ⟨_, tx_tup (txs_cons (tx_name 7 nd) (txs_cons (tx_name 8 nd) txs_nil)), sxs_one (sx_if (k := decide (y.2 = k) && !decide (y.1 ∈ atHand marks)) (EB.cast (eb_bop (ew_and (eb_eqI (ex_var 8 rfl) (ex_index hu (ex_var 3 rfl) (ex_var 2 rfl) (names_strOk ao) (actAt_get hk) (act_first ao hk))) (fun hc => (ew_and1 (eb_isN (ex_ixM (f := encO) (ex_var 6 rfl) (ex_var 7 rfl) (atN gy))))))) ?_).t (fun hk => sxs_one (sx_ret ex_str fun s w => ?_)) fun hk => sxs_nil ⟨rfl, _, _, rfl, ?_⟩)⟩
    · rw [mem, isN_encO]
      rw [Bool.eq_iff_iff]
      cases marks.getD y.1 none <;> simp [Int.natCast_inj, eq_comm]
    · subst w
      have hf : freeF order (atHand marks) k = false := by
        unfold freeF
        rw [List.all_eq_false]
        refine ⟨y, List.mem_of_getElem? e, ?_⟩
        rw [hk]
        decide
      rw [df, hf]
      rfl
    · unfold freeF at iv ⊢
      rw [et, List.all_append, iv, List.all_cons, List.all_nil, hk]
      rfl
  · obtain ⟨rfl, u1, u2, rfl, iv⟩ := iv
    rw [List.take_length] at iv
    refine sxs_one (sx_ret ex_str fun s w => ?_)
    subst w
    rw [df, if_pos iv]
end
end Dl
namespace Dl
open PySem PySem.Spec PyProof.Rows L2
/-! ### the table and the book tell the same -/
def crewF (badges : List Int) (on : Int → Bool) : List Int := (sortI badges).filter on
structure TInv (on : Int → Bool) (bk : List Rule) (tb : List (Int × Str)) : Prop where
  same : ∀ b a, (b, a) ∈ tb ↔ (⟨b, a, true⟩ : Rule) ∈ bk
  on : ∀ q ∈ tb, on q.1 = true
  bok : BookOk bk
theorem allow_iff {bk : List Rule} (h : BookOk bk) (b : Int) (a : Str) : allowF bk b a = true ↔ (⟨b, a, true⟩ : Rule) ∈ bk := by
  have mem : ∀ q : Rule, q ∈ aboutF bk b a ↔ q ∈ bk ∧ q.a = a ∧ q.b = b := fun q => by
    unfold aboutF
    rw [List.mem_filter, Bool.and_eq_true, decide_eq_true_eq, decide_eq_true_eq]
  have h1 := h b a
  unfold allowF
  cases e : aboutF bk b a with
  | nil =>
    refine ⟨fun z => absurd z Bool.false_ne_true, fun z => ?_⟩
    have := (mem _).mpr ⟨z, rfl, rfl⟩
    rw [e] at this
    cases this
  | cons q qs =>
    cases qs with
    | cons r rs =>
      rw [e] at h1
      exact absurd h1 (by simp)
    | nil =>
      have hq := (mem q).mp (by rw [e]; exact List.mem_cons_self)
      obtain ⟨q1, q2, q3⟩ := hq
      show q.w = true ↔ _
      refine ⟨fun z => ?_, fun z => ?_⟩
      · have : q = ⟨b, a, true⟩ := by
          cases q
          simp only at q2 q3 z
          rw [q2, q3, z]
        rw [← this]
        exact q1
      · have := (mem _).mpr ⟨z, rfl, rfl⟩
        rw [e, List.mem_singleton] at this
        rw [← this]
theorem crew_mem {badges : List Int} {on : Int → Bool} {b : Int} : b ∈ crewF badges on ↔ b ∈ badges ∧ on b = true := by
  unfold crewF
  rw [List.mem_filter, (sortI_perm _).mem_iff]
theorem crew_len (badges : List Int) (on : Int → Bool) : (crewF badges on).length ≤ badges.length := by
  unfold crewF
  refine Nat.le_trans (List.length_filter_le _ _) ?_
  rw [(sortI_perm _).length_eq]
  exact Nat.le_refl _
theorem lists_eq {badges : List Int} {on : Int → Bool} {bk : List Rule} {tb : List (Int × Str)} (t : TInv on bk tb) (acts : List Str) : listsF badges acts tb = mayL (crewF badges on) bk acts := by
  unfold listsF mayL
  refine List.map_congr_left fun a ha => ?_
  unfold whoF
  rw [show (crewF badges on).filter (fun b => mayF (crewF badges on) bk b a) = (sortI badges).filter (fun b => mayF (crewF badges on) bk b a && on b) from List.filter_filter]
  refine List.filter_congr fun b hb => ?_
  have hb : b ∈ badges := (sortI_perm _).mem_iff.mp hb
  rw [Bool.eq_iff_iff, decide_eq_true_eq, Bool.and_eq_true]
  unfold mayF
  rw [Bool.and_eq_true, decide_eq_true_eq, allow_iff t.bok, crew_mem, t.same]
  exact ⟨fun z => ⟨⟨⟨hb, t.on _ ((t.same b a).mpr z)⟩, z⟩, t.on _ ((t.same b a).mpr z)⟩, fun z => z.1.2⟩
theorem mem_others {bk : List Rule} {b b' : Int} {a a' : Str} {w w' : Bool} : (⟨b', a', w'⟩ : Rule) ∈ othersF bk b a ++ [⟨b, a, w⟩] ↔ ((⟨b', a', w'⟩ : Rule) ∈ bk ∧ ¬ (b' = b ∧ a' = a)) ∨ (b' = b ∧ a' = a ∧ w' = w) := by
  unfold othersF
  rw [List.mem_append, List.mem_filter, List.mem_singleton, Bool.or_eq_true, Bool.not_eq_true', Bool.not_eq_true', decide_eq_false_iff_not, decide_eq_false_iff_not]
  constructor
  · rintro (⟨h1, h2⟩ | h)
    · exact .inl ⟨h1, fun ⟨x, y⟩ => h2.elim (fun z => z x) fun z => z y⟩
    · cases h
      exact .inr ⟨rfl, rfl, rfl⟩
  · rintro (⟨h1, h2⟩ | ⟨rfl, rfl, rfl⟩)
    · refine .inl ⟨h1, ?_⟩
      by_cases z : b' = b
      · exact .inr fun y => h2 ⟨z, y⟩
      · exact .inl z
    · exact .inr rfl
theorem TInv.may {on : Int → Bool} {bk : List Rule} {tb tb' : List (Int × Str)} {b : Int} {a : Str} (t : TInv on bk tb) (hb : on b = true) (h : ∀ q, q ∈ tb' ↔ q ∈ tb ∨ q = (b, a)) : TInv on (othersF bk b a ++ [⟨b, a, true⟩]) tb' where
  same := fun b' a' => by
    rw [h, mem_others, t.same, Prod.mk.injEq]
    constructor
    · rintro (z | z)
      · by_cases y : b' = b ∧ a' = a
        · exact .inr ⟨y.1, y.2, rfl⟩
        · exact .inl ⟨z, y⟩
      · exact .inr ⟨z.1, z.2, rfl⟩
    · rintro (z | z)
      · exact .inl z.1
      · exact .inr ⟨z.1, z.2.1⟩
  on := fun q hq => by
    rcases (h q).mp hq with z | z
    · exact t.on q z
    · rw [z]
      exact hb
  bok := book_rule t.bok b a true
theorem TInv.nay {on : Int → Bool} {bk : List Rule} {tb tb' : List (Int × Str)} {b : Int} {a : Str} (t : TInv on bk tb) (h : ∀ q, q ∈ tb' ↔ q ∈ tb ∧ q ≠ (b, a)) : TInv on (othersF bk b a ++ [⟨b, a, false⟩]) tb' where
  same := fun b' a' => by
    rw [h, mem_others, t.same, Ne, Prod.mk.injEq]
    constructor
    · rintro ⟨z, y⟩
      exact .inl ⟨z, y⟩
    · rintro (z | z)
      · exact z
      · exact absurd z.2.2 (by decide)
  on := fun q hq => t.on q ((h q).mp hq).1
  bok := book_rule t.bok b a false
theorem TInv.leave {on : Int → Bool} {bk : List Rule} {tb tb' : List (Int × Str)} {b : Int} (t : TInv on bk tb) (h : ∀ q, q ∈ tb' ↔ q ∈ tb ∧ q.1 ≠ b) : TInv (fun x => on x && !decide (x = b)) (bk.filter fun q => !decide (q.b = b)) tb' where
  same := fun b' a' => by
    rw [h, t.same, List.mem_filter, Bool.not_eq_true', decide_eq_false_iff_not]
  on := fun q hq => by
    obtain ⟨z, y⟩ := (h q).mp hq
    rw [t.on q z, decide_eq_false y]
    rfl
  bok := book_filter t.bok _
theorem TInv.hire {on : Int → Bool} {bk : List Rule} {tb : List (Int × Str)} (t : TInv on bk tb) (b : Int) : TInv (fun x => on x || decide (x = b)) bk tb where
  same := t.same
  on := fun q hq => by rw [t.on q hq]; rfl
  bok := t.bok
theorem crew_leave (badges : List Int) (on : Int → Bool) (b : Int) : ((crewF badges on).filter fun x => !decide (x = b)) = crewF badges fun x => on x && !decide (x = b) := by
  unfold crewF
  rw [List.filter_filter]
  exact List.filter_congr fun x _ => Bool.and_comm _ _
theorem crew_hire {badges : List Int} (nd : badges.Nodup) {on : Int → Bool} {b : Int} (hb : b ∈ badges) (ho : on b = false) : hireF (crewF badges on) b = crewF badges fun x => on x || decide (x = b) := by
  unfold hireF
  have sp : ((sortI badges).filter fun x => on x || decide (x = b)).Pairwise (· ≤ ·) := List.Pairwise.filter _ (sortI_sorted _)
  refine (sortI_one ?_ sp).symm
  rw [List.perm_iff_count]
  intro x
  unfold crewF
  have nd2 : (sortI badges).Nodup := (sortI_perm _).nodup_iff.mpr nd
  rw [List.count_append]
  by_cases e : x = b
  · subst e
    have c1 : ((sortI badges).filter fun y => on y || decide (y = x)).count x = 1 := by
      rw [List.count_filter (by rw [decide_eq_true rfl, Bool.or_true])]
      rw [(sortI_perm _).count_eq]
      rw [List.Nodup.count nd, if_pos hb]
    have c2 : ((sortI badges).filter on).count x = 0 := List.count_eq_zero.mpr fun z => by
      rw [(List.mem_filter.mp z).2] at ho
      cases ho
    rw [c1, c2, List.count_singleton_self]
  · have c3 : List.count x [b] = 0 := List.count_eq_zero.mpr fun z => e (List.mem_singleton.mp z)
    rw [c3, Nat.add_zero]
    by_cases z : on x = true
    · rw [List.count_filter z, List.count_filter (by rw [z]; rfl)]
    · rw [List.count_eq_zero.mpr fun y => z (List.mem_filter.mp y).2, List.count_eq_zero.mpr fun y => by
        have := (List.mem_filter.mp y).2
        rw [decide_eq_false e, Bool.or_false] at this
        exact z this]
/-! ### the table as it is built -/
structure TLoop (badges : List Int) (acts : List Str) (hands : List Int) (i k : Nat) (bk : List Rule) (tb : List (Int × Str)) : Prop where
  t : TInv (fun _ => true) bk tb
  cb : bk.length ≤ 4 * i + k
  ct : tb.length ≤ 4 * i + k
  mem : ∀ q ∈ tb, q.2 ∈ acts ∧ (q.1 ∈ badges.take i ∨ (some q.1 = badges[i]? ∧ q.2 ∈ acts.take k))
  plan : ∀ j, j < acts.length → (hands.getD j 0 ∈ badges.take i ∨ (some (hands.getD j 0) = badges[i]? ∧ j < k)) → (hands.getD j 0, actAt acts j) ∈ tb
theorem TLoop.nil (badges : List Int) (acts : List Str) (hands : List Int) : TLoop badges acts hands 0 0 [] [] where
  t := ⟨fun b a => ⟨nofun, nofun⟩, nofun, fun b a => Nat.zero_le _⟩
  cb := Nat.zero_le _
  ct := Nat.zero_le _
  mem := nofun
  plan := fun j hj h => by
    rcases h with h | h
    · cases h
    · exact absurd h.2 (Nat.not_lt_zero _)
theorem take_get {α : Type} {xs : List α} {i : Nat} {x : α} (h : xs[i]? = some x) : xs.take (i + 1) = xs.take i ++ [x] := by
  rw [List.take_add_one, h]
  rfl
theorem nodup_take {α : Type} {xs : List α} (nd : xs.Nodup) {i : Nat} {x : α} (h : xs[i]? = some x) : x ∉ xs.take i := fun z => by
  have e := nd.sublist (List.take_sublist (i + 1) xs)
  rw [take_get h, List.nodup_append] at e
  exact e.2.2 x z x (List.mem_singleton.mpr rfl) rfl
section
variable {badges : List Int} {acts : List Str} {hands : List Int} {i k : Nat} {bk : List Rule} {tb : List (Int × Str)} {b : Int}
theorem TLoop.new (h : TLoop badges acts hands i k bk tb) (nb : badges.Nodup) (na : acts.Nodup) (hb : badges[i]? = some b) (hk : k < acts.length) : (b, actAt acts k) ∉ tb := fun z => by
  rcases (h.mem _ z).2 with y | y
  · exact nodup_take nb hb y
  · exact nodup_take na (actAt_get hk) y.2
theorem TLoop.may (h : TLoop badges acts hands i k bk tb) (hb : badges[i]? = some b) (hk : k < acts.length) : TLoop badges acts hands i (k + 1) (othersF bk b (actAt acts k) ++ [⟨b, actAt acts k, true⟩]) (tb ++ [(b, actAt acts k)]) where
  t := h.t.may rfl fun q => by rw [List.mem_append, List.mem_singleton]
  cb := by
    have := others_len bk b (actAt acts k)
    have := h.cb
    rw [List.length_append]
    show (othersF bk b (actAt acts k)).length + 1 ≤ _
    omega
  ct := by
    have := h.ct
    rw [List.length_append]
    show tb.length + 1 ≤ _
    omega
  mem := fun q hq => by
    rw [take_get (actAt_get hk)]
    rcases List.mem_append.mp hq with z | z
    · obtain ⟨m1, m2⟩ := h.mem q z
      exact ⟨m1, m2.imp id fun y => ⟨y.1, List.mem_append_left _ y.2⟩⟩
    · rw [List.mem_singleton.mp z]
      exact ⟨actAt_mem hk, .inr ⟨hb.symm, List.mem_append_right _ (List.mem_singleton.mpr rfl)⟩⟩
  plan := fun j hj z => by
    rcases z with z | ⟨z, y⟩
    · exact List.mem_append_left _ (h.plan j hj (.inl z))
    · by_cases e : j = k
      · rw [e] at z ⊢
        rw [hb] at z
        rw [Option.some.inj z]
        exact List.mem_append_right _ (List.mem_singleton.mpr rfl)
      · exact List.mem_append_left _ (h.plan j hj (.inr ⟨z, by omega⟩))
theorem TLoop.skip (h : TLoop badges acts hands i k bk tb) (hb : badges[i]? = some b) (hk : k < acts.length) (hn : hands.getD k 0 ≠ b) : TLoop badges acts hands i (k + 1) bk tb where
  t := h.t
  cb := by have := h.cb; omega
  ct := by have := h.ct; omega
  mem := fun q hq => by
    obtain ⟨m1, m2⟩ := h.mem q hq
    rw [take_get (actAt_get hk)]
    exact ⟨m1, m2.imp id fun y => ⟨y.1, List.mem_append_left _ y.2⟩⟩
  plan := fun j hj z => by
    rcases z with z | ⟨z, y⟩
    · exact h.plan j hj (.inl z)
    · by_cases e : j = k
      · rw [e, hb] at z
        exact absurd (Option.some.inj z) hn
      · exact h.plan j hj (.inr ⟨z, by omega⟩)
theorem TLoop.nay (h : TLoop badges acts hands i k bk tb) (nb : badges.Nodup) (na : acts.Nodup) (hb : badges[i]? = some b) (hk : k < acts.length) (hn : hands.getD k 0 ≠ b) : TLoop badges acts hands i (k + 1) (othersF bk b (actAt acts k) ++ [⟨b, actAt acts k, false⟩]) tb :=
  have s := h.skip hb hk hn
  have new := h.new nb na hb hk
  { s with
    t := h.t.nay fun q => ⟨fun z => ⟨z, fun e => new (e ▸ z)⟩, fun z => z.1⟩
    cb := by
      have := others_len bk b (actAt acts k)
      have := h.cb
      rw [List.length_append]
      show (othersF bk b (actAt acts k)).length + 1 ≤ _
      omega }
theorem TLoop.next (h : TLoop badges acts hands i acts.length bk tb) (hb : badges[i]? = some b) (h4 : acts.length ≤ 4) : TLoop badges acts hands (i + 1) 0 bk tb where
  t := h.t
  cb := by have := h.cb; omega
  ct := by have := h.ct; omega
  mem := fun q hq => by
    obtain ⟨m1, m2⟩ := h.mem q hq
    rw [take_get hb]
    refine ⟨m1, .inl (List.mem_append.mpr (m2.imp id fun y => ?_))⟩
    rw [hb] at y
    exact List.mem_singleton.mpr (Option.some.inj y.1)
  plan := fun j hj z => by
    rw [take_get hb] at z
    rcases z with z | ⟨_, y⟩
    · rcases List.mem_append.mp z with z | z
      · exact h.plan j hj (.inl z)
      · exact h.plan j hj (.inr ⟨by rw [List.mem_singleton.mp z, hb], hj⟩)
    · exact absurd y (Nat.not_lt_zero _)
end
/-- sorted so far, and one more -/
theorem hire_sort (xs : List Int) (b : Int) : hireF (sortI xs) b = sortI (xs ++ [b]) := by
  unfold hireF
  refine (sortI_one ?_ (sortI_sorted _)).symm
  exact (sortI_perm _).trans (List.Perm.append_right [b] (sortI_perm xs).symm)
theorem crew_all (badges : List Int) : sortI badges = crewF badges fun _ => true := (List.filter_eq_self.mpr fun _ _ => rfl).symm
end Dl
namespace Dl
open PySem PySem.Spec PyProof.Rows L2
section
variable {P : Program} {w : World} {K : PySem.W.Frag} {mg : Str → Option Value} {base : Heap} {CS : Addr}
abbrev s__law_team : Stmt := topS 93
abbrev N__law_team : List Str := ["number", "badges", "acts", "hands", "staff", "table", "rest", "badge", "k"]
theorem sc__law_team : FnScope N__law_team ["number", "badges", "acts", "hands"] (defScope s__law_team) := ⟨rfl, rfl, rfl, by decide +kernel, rfl, by decide +kernel, by decide +kernel⟩
theorem hb__law_team (kV doc pm : Value) (an : Option Addr) (cdv ct : Value) (us : List Value) (hl : us.length = 4) : bindArgs (PySem.W.fnOf "_law_team" "_law_team" (defArgs s__law_team) (defBody s__law_team) (defScope s__law_team) .none kV doc pm an cdv ct) ⟨us, []⟩ = pure ((["number", "badges", "acts", "hands"] : List Str).zip us) := match us, hl with
  | [_, _, _, _], _ => rfl
def R__law_team (CS : Addr) : PSpecM := fun G ss W => ∃ (number : Int) (badges : List Int) (acts : List Str) (hands : List Int), ss = [di number, .dat (liD badges), .dat (lsD acts), .dat (liD hands)] ∧ badges.Nodup ∧ badges.length ≤ 4 ∧ acts.Nodup ∧ acts.length ≤ 4 ∧ hands.length = acts.length ∧
  W = fun G' s => ∃ l sa v bk tb, s = .raw (.ref l) ∧ G' l = some (.lst [.ref sa, v]) ∧ Dq G' v (tbD tb) ∧ StaffAt CS G' sa (crewF badges fun _ => true) bk ∧ G sa = none ∧ TLoop badges acts hands badges.length 0 bk tb
set_option maxHeartbeats 1000000 in
theorem ok__law_team (B : Bt mg) (SC : StaffC K CS) (Dd : DefAt K mg "_law_team" s__law_team) (F_Staff : MkM P w K mg base "Staff" CS ["self"] (R_Staff_init CS) 1) (F_hire : MtM P w K mg base CS "hire" ["self", "badge"] (R_hire CS) 3)
    (F_rule : MtM P w K mg base CS "rule" ["self", "holder", "act", "word"] (R_rule CS) 3) : FnG P w K mg base "_law_team" ["number", "badges", "acts", "hands"] (R__law_team CS) 4 := by
  refine fnG_mk Dd sc__law_team (fun G ss W ⟨_, _, _, _, e, _⟩ => by rw [e]; rfl) hb__law_team fun f cdv A outer s H hr G ss W h => ?_
  obtain ⟨number, badges, acts, hands, rfl, nb, b4, na, a4, hl, rfl⟩ := h
  have nd := (sc__law_team).nd
  have la : (acts.map PyData.str).length = acts.length := List.length_map _
  have hp18 : (10 : Int) ^ (18 : Int).toNat = 1000000000000000000 := by decide +kernel
  refine sxs_cons (sx_asgG 4 (W := fun G' s => ∃ sa, s = .raw (.ref sa) ∧ G sa = none ∧ StaffAt CS G' sa [] []) (exg_make0 F_Staff (hr.mono (by decide)) fun G' y dy sm hy hdy hne => ⟨_, ⟨y, dy, rfl, upd_same, rfl⟩, fun G'' s w => ⟨w.1, w.2.1, y, rfl, Same.none sm hy, w.2.2⟩⟩) (fun G1 s w s1 => ?_) nd)
  obtain ⟨sa, rfl, nsa, st⟩ := w
  refine sxs_cons (sx_own 5 exn_nil ?_ nd)
  refine sxs_cons (sx_asg 6 (W := (· = di (number % 1000000000000000000))) (EX.cast (ex_mod (ex_var 0 rfl) (ex_pow ex_int ex_int ⟨by decide, by decide, by decide⟩) (by decide +kernel)) (by rw [hp18])) (fun s w => ?_) nd)
  subst w
  refine sxs_cons (sx_forT (ix_lstM (ex_var 1 rfl)) (fun i Ψ B => ∃ G2 u, Ψ = phS G2 ∧ Same G G2 ∧ StaffAt CS G2 sa (sortI (badges.take i)) [] ∧ B = [.k (di number), .k (.dat (liD badges)), .k (.dat (lsD acts)), .k (.dat (liD hands)), .k (.raw (.ref sa)), .lst [], .k (di (number % 1000000000000000000)), u, .un]) ⟨G1, .un, rfl, s1, (by rw [List.take_zero, ← sortI_one (ns := []) (List.Perm.refl _) List.Pairwise.nil]; exact st), rfl⟩ (fun i b Ψ B e iv => ?_) fun Ψ B iv => ?_)
  · obtain ⟨G2, u, rfl, s2, st2, rfl⟩ := iv
    obtain ⟨dx, v1, v2, v3, t, hSC, _⟩ := id st2.ex
    have lt : (sortI (badges.take i)).length ≤ 4 := by
      rw [(sortI_perm _).length_eq, List.length_take]
      omega
    refine ⟨_, tx_name 7 nd, sxs_one (sx_exprM (W := fun G'' _ => Same G G'' ∧ StaffAt CS G'' sa (sortI (badges.take (i + 1))) []) (exm_met F_hire hr (ex_var 4 rfl) hSC (by rfl) (ea_cons (ex_var 7 rfl) ea_nil) fun G' sm => ⟨_, ⟨sa, _, [], b, rfl, st2.mono sm, fun z => nodup_take nb e ((sortI_perm _).mem_iff.mp z), by omega, rfl⟩, fun G'' s w => ⟨same_ch (s2.trans sm) w.2.1 nsa, ?_⟩⟩) fun G' s w => ⟨G', _, rfl, w.1, w.2, rfl⟩)⟩
    rw [take_get e, ← hire_sort]
    exact w.2.2
  obtain ⟨G2, u, rfl, s2, st2, rfl⟩ := iv
  rw [List.take_length] at st2
  refine sxs_cons (sx_forT (ix_lstM (ex_var 1 rfl)) (fun i Ψ B => ∃ G3 bk tb rest u1 u2, Ψ = phS G3 ∧ Same G G3 ∧ StaffAt CS G3 sa (sortI badges) bk ∧ TLoop badges acts hands i 0 bk tb ∧ B = [.k (di number), .k (.dat (liD badges)), .k (.dat (lsD acts)), .k (.dat (liD hands)), .k (.raw (.ref sa)), .lst (tb.map encBA), .k (di rest), u1, u2]) ⟨G2, [], [], _, _, _, rfl, s2, st2, TLoop.nil badges acts hands, rfl⟩ (fun i b Ψ B e iv => ?_) fun Ψ B iv => ?_)
  · obtain ⟨G3, bk, tb, rest, u1, u2, rfl, s3, st3, tl, rfl⟩ := iv
    have hi : i < badges.length := (List.getElem?_eq_some_iff.mp e).1
    have hbm : b ∈ sortI badges := (sortI_perm _).mem_iff.mpr (List.mem_of_getElem? e)
    refine ⟨_, tx_name 7 nd, sxs_one (sx_forT (ix_range B.range (ex_len B.len (ex_var 2 rfl) (.lst _)) (by omega) (by omega)) (fun k Ψ B => ∃ G4 bk tb rest u2, Ψ = phS G4 ∧ Same G G4 ∧ StaffAt CS G4 sa (sortI badges) bk ∧ TLoop badges acts hands i k bk tb ∧ B = [.k (di number), .k (.dat (liD badges)), .k (.dat (lsD acts)), .k (.dat (liD hands)), .k (.raw (.ref sa)), .lst (tb.map encBA), .k (di rest), .k (di b), u2]) ⟨G3, bk, tb, rest, u2, rfl, s3, st3, tl, rfl⟩ (fun k y Ψ B ey iv => ?_) fun Ψ B iv => ?_)⟩
    · obtain ⟨G4, bk, tb, rest, u2, rfl, s4, st4, tl, rfl⟩ := iv
      have hk : y = k ∧ k < acts.length := by
        obtain ⟨h1, h2⟩ := List.getElem?_eq_some_iff.mp ey
        rw [List.length_range, Int.toNat_natCast, la] at h1
        rw [List.getElem_range] at h2
        exact ⟨h2.symm, h1⟩
      obtain ⟨rfl, hk⟩ := hk
      have gh : hands[y]? = some (hands.getD y 0) := getDS (0 : Int) (by omega)
      have c1 := tl.cb
      have c2 := tl.ct
      obtain ⟨dx, v1, v2, v3, t, hSC, _⟩ := id st4.ex
      refine ⟨_, tx_name 8 nd, ?_⟩
      refine sxs_cons (sx_if (k := decide (rest % 3 = 1) || decide (hands.getD y 0 = b)) (eb_bop (ew_or (eb_eqI (ex_mod (ex_var 6 rfl) ex_int (by decide)) ex_int) (fun hc => (ew_or1 (eb_eqI (ex_ixM (f := PyData.int) (ex_var 3 rfl) (ex_var 8 rfl) (atN gh)) (ex_var 7 rfl)))))).t (fun hc => ?_) fun hc => ?_)
      · refine sxs_cons (sx_exprM (W := fun G'' _ => Same G G'' ∧ StaffAt CS G'' sa (sortI badges) (othersF bk b (actAt acts y) ++ [⟨b, actAt acts y, true⟩])) (exm_met F_rule hr (ex_var 4 rfl) hSC (by rfl) (ea_cons (ex_var 7 rfl) (ea_cons (ex_ixM (f := PyData.str) (ex_var 2 rfl) (ex_var 8 rfl) (atN (actAt_get hk))) (ea_cons ex_str ea_nil))) fun G' sm => ⟨_, ⟨sa, _, bk, b, actAt acts y, true, rfl, st4.mono sm, hbm, by omega, rfl⟩, fun G'' s w => ⟨same_ch (s4.trans sm) w.2.1 nsa, w.2.2⟩⟩) fun G5 s w => ?_)
        refine sxs_one (sx_app 5 rfl (d := encBA (b, actAt acts y)) (ex_tup (ds := [_, _]) (ea_cons (ex_var 7 rfl) (ea_cons (ex_ixM (f := PyData.str) (ex_var 2 rfl) (ex_var 8 rfl) (atN (actAt_get hk))) ea_nil)) (Nat.le_of_ble_eq_true rfl)) (by rw [List.length_map]; omega) ?_)
        refine sxs_one (sx_asg 6 (W := (· = di (rest / 3))) (ex_fdiv (ex_var 6 rfl) ex_int ⟨by decide, by decide⟩) (fun s w2 => ?_) nd)
        subst w2
        refine ⟨G5, _, tb ++ [(b, actAt acts y)], rest / 3, .k (di (y : Nat)), rfl, w.1, w.2, tl.may e hk, ?_⟩
        rw [List.map_append]
        rfl
      · have hn : hands.getD y 0 ≠ b := of_decide_eq_false (Bool.or_eq_false_iff.mp hc).2
        refine sxs_one (sx_if (k := decide (rest % 3 = 2)) (eb_eqI (ex_mod (ex_var 6 rfl) ex_int (by decide)) ex_int).t (fun hc2 => ?_) fun hc2 => ?_)
        · refine sxs_one (sx_exprM (W := fun G'' _ => Same G G'' ∧ StaffAt CS G'' sa (sortI badges) (othersF bk b (actAt acts y) ++ [⟨b, actAt acts y, false⟩])) (exm_met F_rule hr (ex_var 4 rfl) hSC (by rfl) (ea_cons (ex_var 7 rfl) (ea_cons (ex_ixM (f := PyData.str) (ex_var 2 rfl) (ex_var 8 rfl) (atN (actAt_get hk))) (ea_cons ex_str ea_nil))) fun G' sm => ⟨_, ⟨sa, _, bk, b, actAt acts y, false, rfl, st4.mono sm, hbm, by omega, rfl⟩, fun G'' s w => ⟨same_ch (s4.trans sm) w.2.1 nsa, w.2.2⟩⟩) fun G5 s w => ?_)
          refine sxs_one (sx_asg 6 (W := (· = di (rest / 3))) (ex_fdiv (ex_var 6 rfl) ex_int ⟨by decide, by decide⟩) (fun s w2 => ?_) nd)
          subst w2
          exact ⟨G5, _, tb, _, _, rfl, w.1, w.2, tl.nay nb na e hk hn, rfl⟩
        · refine sxs_nil ?_
          refine sxs_one (sx_asg 6 (W := (· = di (rest / 3))) (ex_fdiv (ex_var 6 rfl) ex_int ⟨by decide, by decide⟩) (fun s w2 => ?_) nd)
          subst w2
          exact ⟨G4, bk, tb, _, _, rfl, s4, st4, tl.skip e hk hn, rfl⟩
    · obtain ⟨G4, bk, tb, rest, u2, rfl, s4, st4, tl, rfl⟩ := iv
      rw [List.length_range, Int.toNat_natCast, la] at tl
      exact ⟨G4, bk, tb, rest, _, u2, rfl, s4, st4, tl.next e a4, rfl⟩
  obtain ⟨G3, bk, tb, rest, u1, u2, rfl, s3, st3, tl, rfl⟩ := iv
  refine sxs_one (sx_retG (exg_lstR (ss := [.raw (.ref sa), .dat (tbD tb)]) (ea_cons (ex_var 4 rfl) (ea_cons (ex_var 5 rfl) ea_nil)) (Nat.le_of_ble_eq_true rfl)) fun G' s w sm => ?_)
  obtain ⟨l, vs, rfl, hlst, svs⟩ := w
  obtain ⟨x, v, rfl, sx, sv⟩ := svs.two
  cases sx
  cases sv with
  | dat dv =>
    rw [crew_all] at st3
    exact fun G'' sm2 => ⟨s3.trans (sm.trans sm2), l, sa, v, bk, tb, rfl, sm2 _ _ hlst, dv.mono sm2, st3.mono (sm.trans sm2), nsa, tl⟩
end
end Dl
namespace Dl
open PySem PySem.Spec PyProof.Rows L2
/-! ### marks, and what is ready -/
theorem mem_ready {order : List (Nat × Nat)} {marks : List (Option Int)} {k : Nat} : k ∈ readyF order marks ↔ k < marks.length ∧ marks.getD k none = none ∧ freeF order (atHand marks) k = true := by
  unfold readyF
  rw [List.mem_filter, List.mem_range, Bool.and_eq_true, Option.isNone_iff_eq_none]
theorem due_ready {order : List (Nat × Nat)} {marks : List (Option Int)} {k : Nat} (hk : k < marks.length) : (dueF order marks k = ("" : Str)) ↔ k ∈ readyF order marks := by
  rw [mem_ready]
  unfold dueF
  cases marks.getD k none with
  | some b =>
    rw [if_pos (show (some b : Option Int).isSome = true from rfl)]
    exact ⟨fun z => absurd z (by decide +kernel), fun z => nomatch z.2.1⟩
  | none =>
    rw [if_neg (show ¬ (none : Option Int).isSome = true from Bool.false_ne_true)]
    cases freeF order (atHand marks) k with
    | true =>
      rw [if_pos rfl]
      exact ⟨fun _ => ⟨hk, rfl, rfl⟩, fun _ => rfl⟩
    | false =>
      rw [if_neg Bool.false_ne_true]
      exact ⟨fun z => absurd z (by decide +kernel), fun z => nomatch z.2.2⟩
theorem mem_hand {marks : List (Option Int)} {k : Nat} : k ∈ atHand marks ↔ k < marks.length ∧ (marks.getD k none).isSome = true := by
  unfold atHand
  rw [List.mem_filter, List.mem_range]
theorem ready_some {order : List (Nat × Nat)} {marks : List (Option Int)} {r : Nat → Nat} (hr : ∀ p ∈ order, r p.1 < r p.2) (lt : ∀ p ∈ order, p.1 < marks.length) : ∀ n k, r k ≤ n → k < marks.length → marks.getD k none = none → ∃ j, j ∈ readyF order marks
  | n, k, hn, hk, h => by
    by_cases f : freeF order (atHand marks) k = true
    · exact ⟨k, mem_ready.mpr ⟨hk, h, f⟩⟩
    · have f2 : freeF order (atHand marks) k = false := by
        cases q : freeF order (atHand marks) k with
        | true => exact absurd q f
        | false => rfl
      unfold freeF at f2
      rw [List.all_eq_false] at f2
      obtain ⟨p, hp, hq⟩ := f2
      rw [Bool.not_eq_true, Bool.not_eq_false', Bool.and_eq_true, decide_eq_true_eq, Bool.not_eq_true', decide_eq_false_iff_not] at hq
      have hlt := hr p hp
      rw [hq.1] at hlt
      have hz : marks.getD p.1 none = none := by
        cases q : marks.getD p.1 none with
        | none => rfl
        | some b => exact absurd (mem_hand.mpr ⟨lt p hp, by rw [q]; rfl⟩) hq.2
      match n with
      | 0 => omega
      | n + 1 => exact ready_some hr lt n p.1 (by omega) (lt p hp) hz
theorem ready_ne {order : List (Nat × Nat)} {marks : List (Option Int)} (hr : ∃ r : Nat → Nat, ∀ p ∈ order, r p.1 < r p.2) (lt : ∀ p ∈ order, p.1 < marks.length) (hn : none ∈ marks) : readyF order marks ≠ [] := by
  obtain ⟨r, hr⟩ := hr
  obtain ⟨k, hk, e⟩ := List.mem_iff_getElem.mp hn
  obtain ⟨j, hj⟩ := ready_some hr lt (r k) k (Nat.le_refl _) hk (by rw [List.getD_eq_getElem?_getD, List.getElem?_eq_getElem hk, e]; rfl)
  exact fun z => by
    rw [z] at hj
    cases hj
structure MarkOk (hands : List Int) (marks : List (Option Int)) (i : Nat) : Prop where
  len : marks.length = hands.length
  at_ : ∀ k b, marks[k]? = some (some b) → b = hands.getD k 0
  cnt : marks.count none + i = hands.length
theorem MarkOk.nil (hands : List Int) : MarkOk hands (List.replicate hands.length none) 0 where
  len := List.length_replicate
  at_ := fun k b e => by
    have := List.eq_of_mem_replicate (List.mem_of_getElem? e)
    cases this
  cnt := by rw [List.count_replicate_self]; rfl
theorem MarkOk.has {hands : List Int} {marks : List (Option Int)} {i : Nat} (h : MarkOk hands marks i) (hi : i < hands.length) : none ∈ marks := by
  have := h.cnt
  exact List.count_pos_iff.mp (by omega)
theorem MarkOk.set {hands : List Int} {marks : List (Option Int)} {i k : Nat} (h : MarkOk hands marks i) (hk : marks[k]? = some none) : MarkOk hands (marks.set k (some (hands.getD k 0))) (i + 1) where
  len := by rw [List.length_set]; exact h.len
  at_ := fun j b e => by
    rw [List.getElem?_set] at e
    split at e
    · rename_i hj
      split at e
      · rw [← Option.some.inj (Option.some.inj e), hj]
      · cases e
    · exact h.at_ j b e
  cnt := by
    obtain ⟨h1, h2⟩ := List.getElem?_eq_some_iff.mp hk
    have hc := h.cnt
    have hp : 0 < marks.count none := List.count_pos_iff.mpr (List.mem_of_getElem? hk)
    rw [List.count_set h1, h2]
    simp only [beq_self_eq_true, if_true]
    have : (some (hands.getD k 0) == (none : Option Int)) = false := rfl
    rw [this]
    simp only [Bool.false_eq_true, if_false]
    omega
theorem plan_marks {hands : List Int} {marks : List (Option Int)} {i : Nat} {may : List (List Int)} {ties : List Tie} (h : MarkOk hands marks i) (hp : PlanOk may ties hands) : PlanOk (heldF may marks) ties hands where
  len := by rw [heldF_len (by rw [← hp.len, h.len])]; exact hp.len
  mem := fun s b e => by
    have hs : s < hands.length := (List.getElem?_eq_some_iff.mp e).1
    have m1 := hp.mem s b e
    have l1 := hp.len
    have l2 := h.len
    have gm : may[s]? = some (may.getD s []) := getDS [] (by omega)
    have gk : marks[s]? = some (marks.getD s none) := getO (by omega)
    unfold heldF
    rw [List.getD_eq_getElem?_getD, List.getElem?_map, (List.getElem?_zip_eq_some (z := (may.getD s [], marks.getD s none))).mpr ⟨gm, gk⟩]
    show b ∈ (match marks.getD s none with | none => may.getD s [] | some b => [b])
    cases q : marks.getD s none with
    | none => exact m1
    | some c =>
      rw [q] at gk
      rw [h.at_ s c gk]
      have : hands.getD s 0 = b := by rw [List.getD_eq_getElem?_getD, e]; rfl
      rw [this]
      exact List.mem_singleton.mpr rfl
  ties := hp.ties
theorem mayL_at {crew : List Int} {bk : List Rule} {acts : List Str} {k : Nat} (hk : k < acts.length) : (mayL crew bk acts).getD k [] = whoF crew bk (actAt acts k) := by
  unfold mayL
  rw [List.getD_eq_getElem?_getD, List.getElem?_map, actAt_get hk]
  rfl
theorem listsF_at {badges : List Int} {tb : List (Int × Str)} {acts : List Str} {k : Nat} (hk : k < acts.length) : (listsF badges acts tb).getD k [] = (sortI badges).filter fun b => decide ((b, actAt acts k) ∈ tb) := by
  unfold listsF
  rw [List.getD_eq_getElem?_getD, List.getElem?_map, actAt_get hk]
  rfl
theorem plan_hall {badges hands : List Int} {acts : List Str} {order : List (Nat × Nat)} {ties : List Tie} {bk : List Rule} {tb : List (Int × Str)} (tl : TLoop badges acts hands badges.length 0 bk tb) (hl : hands.length = acts.length) (hb : ∀ k, k < acts.length → hands.getD k 0 ∈ badges) (rn : RndOk hands order ties) :
    PlanOk (mayL (crewF badges fun _ => true) bk acts) ties hands where
  len := by rw [mayL_len]; exact hl
  mem := fun s b e => by
    have hs : s < acts.length := by
      have := (List.getElem?_eq_some_iff.mp e).1
      omega
    have eb : hands.getD s 0 = b := by rw [List.getD_eq_getElem?_getD, e]; rfl
    rw [← lists_eq tl.t acts, listsF_at hs]
    have h1 := tl.plan s hs (.inl (by rw [List.take_length]; exact hb s hs))
    have h2 := hb s hs
    rw [eb] at h1 h2
    exact List.mem_filter.mpr ⟨(sortI_perm _).mem_iff.mpr h2, decide_eq_true h1⟩
  ties := rn.keep
theorem plan_may {crew : List Int} {bk : List Rule} {acts : List Str} {ties : List Tie} {hands : List Int} (hp : PlanOk (mayL crew bk acts) ties hands) {k : Nat} (hk : k < acts.length) (hl : hands.length = acts.length) : mayF crew bk (hands.getD k 0) (actAt acts k) = true := by
  have := hp.mem k (hands.getD k 0) (getDS (0 : Int) (by omega))
  rw [mayL_at hk] at this
  exact (List.mem_filter.mp this).2
/-- the table, told from the lists -/
def tabF (acts : List Str) (may : List (List Int)) (n : Nat) : List (Int × Str) := (List.range n).flatMap fun k => (may.getD k []).map fun b => (b, actAt acts k)
theorem tabF_succ (acts : List Str) (may : List (List Int)) (n : Nat) : tabF acts may (n + 1) = tabF acts may n ++ (may.getD n []).map fun b => (b, actAt acts n) := by
  unfold tabF
  rw [List.range_succ, List.flatMap_append, List.flatMap_cons, List.flatMap_nil, List.append_nil]
theorem tabF_mem {acts : List Str} {may : List (List Int)} {n : Nat} {b : Int} {a : Str} : (b, a) ∈ tabF acts may n ↔ ∃ k, k < n ∧ b ∈ may.getD k [] ∧ a = actAt acts k := by
  unfold tabF
  rw [List.mem_flatMap]
  constructor
  · rintro ⟨k, hk, h⟩
    obtain ⟨x, hx, e⟩ := List.mem_map.mp h
    obtain ⟨rfl, rfl⟩ := Prod.mk.inj e
    exact ⟨k, List.mem_range.mp hk, hx, rfl⟩
  · rintro ⟨k, hk, hx, rfl⟩
    exact ⟨k, List.mem_range.mpr hk, List.mem_map.mpr ⟨b, hx, rfl⟩⟩
theorem tabF_len {acts : List Str} {may : List (List Int)} {m : Nat} (h : ∀ r ∈ may, r.length ≤ m) : ∀ n, (tabF acts may n).length ≤ n * m
  | 0 => Nat.zero_le _
  | n + 1 => by
    have := tabF_len h (acts := acts) n
    have h2 : (may.getD n []).length ≤ m := by
      by_cases z : n < may.length
      · exact h _ (List.mem_of_getElem? (getDS [] z))
      · rw [List.getD_eq_getElem?_getD, List.getElem?_eq_none (by omega)]
        exact Nat.zero_le _
    rw [tabF_succ, List.length_append, List.length_map, Nat.succ_mul]
    omega
theorem tab_hall {badges hands : List Int} {acts : List Str} {bk : List Rule} {tb : List (Int × Str)} (tl : TLoop badges acts hands badges.length 0 bk tb) : TInv (fun _ => true) bk (tabF acts (listsF badges acts tb) acts.length) where
  same := fun b a => by
    rw [← tl.t.same, tabF_mem]
    constructor
    · rintro ⟨k, hk, hb, rfl⟩
      rw [listsF_at hk] at hb
      exact of_decide_eq_true (List.mem_filter.mp hb).2
    · intro h
      obtain ⟨m1, m2⟩ := tl.mem _ h
      obtain ⟨k, hk, e⟩ := List.mem_iff_getElem.mp m1
      have ea : actAt acts k = a := by
        unfold actAt
        rw [List.getD_eq_getElem?_getD, List.getElem?_eq_getElem hk, e]
        rfl
      refine ⟨k, hk, ?_, ea.symm⟩
      rw [listsF_at hk, ea]
      refine List.mem_filter.mpr ⟨(sortI_perm _).mem_iff.mpr ?_, decide_eq_true h⟩
      rcases m2 with z | z
      · exact List.mem_of_mem_take z
      · rw [List.getElem?_eq_none (Nat.le_refl _)] at z
        cases z.1
  on := fun _ _ => rfl
  bok := tl.t.bok
end Dl
namespace Dl
open PySem PySem.Spec PyProof.Rows L2
section
variable {P : Program} {w : World} {K : PySem.W.Frag} {mg : Str → Option Value} {base : Heap} {CS : Addr}
abbrev s__law_turned : Stmt := topS 109
abbrev N__law_turned : List Str := ["staff", "table", "cell", "badges", "acts", "badge", "act", "pair", "left"]
theorem sc__law_turned : FnScope N__law_turned ["staff", "table", "cell", "badges", "acts"] (defScope s__law_turned) := ⟨rfl, rfl, rfl, by decide +kernel, rfl, by decide +kernel, by decide +kernel⟩
theorem hb__law_turned (kV doc pm : Value) (an : Option Addr) (cdv ct : Value) (us : List Value) (hl : us.length = 5) : bindArgs (PySem.W.fnOf "_law_turned" "_law_turned" (defArgs s__law_turned) (defBody s__law_turned) (defScope s__law_turned) .none kV doc pm an cdv ct) ⟨us, []⟩ = pure ((["staff", "table", "cell", "badges", "acts"] : List Str).zip us) := match us, hl with
  | [_, _, _, _, _], _ => rfl
def W__law_turned (CS : Addr) (G : Hp) (sa : Addr) (badges : List Int) (acts : List Str) (bk : List Rule) (tb : List (Int × Str)) : Hp → Ds → Prop := fun G' s => Ch G G' sa ∧ ∃ on bk' tb', s = .dat (tbD tb') ∧ StaffAt CS G' sa (crewF badges on) bk' ∧ TInv on bk' tb' ∧ bk'.length ≤ bk.length + 1 ∧ tb'.length ≤ tb.length + 1 ∧ ∀ q ∈ tb', q.2 ∈ acts
def R__law_turned (CS : Addr) : PSpecM := fun G ss W => ∃ (sa : Addr) (tb : List (Int × Str)) (cell : Int) (badges : List Int) (acts : List Str) (on : Int → Bool) (bk : List Rule), ss = [.raw (.ref sa), .dat (tbD tb), di cell, .dat (liD badges), .dat (lsD acts)] ∧
  badges.Nodup ∧ badges.length = 4 ∧ 1 ≤ acts.length ∧ acts.length ≤ 6 ∧ (∀ a ∈ acts, PyData.strOk a = true) ∧ (∀ q ∈ tb, q.2 ∈ acts) ∧ StaffAt CS G sa (crewF badges on) bk ∧ TInv on bk tb ∧ bk.length < 60 ∧ tb.length < 200 ∧ W = W__law_turned CS G sa badges acts bk tb
set_option maxHeartbeats 1000000 in
theorem ok__law_turned (B : Bt mg) (SC : StaffC K CS) (Dd : DefAt K mg "_law_turned" s__law_turned) (F_clerks : Mt P w K mg base CS "clerks" ["self"] (R_clerks CS) 1) (F_hire : MtM P w K mg base CS "hire" ["self", "badge"] (R_hire CS) 3)
    (F_rule : MtM P w K mg base CS "rule" ["self", "holder", "act", "word"] (R_rule CS) 3) (F_leave : MtM P w K mg base CS "leave" ["self", "badge"] (R_leave CS) 3) : FnM P w K mg base "_law_turned" ["staff", "table", "cell", "badges", "acts"] (R__law_turned CS) 4 := by
  refine fnM_mk Dd sc__law_turned (fun G ss W ⟨_, _, _, _, _, _, _, e, _⟩ => by rw [e]; rfl) hb__law_turned fun f cdv A outer s H hr G ss W h => ?_
  obtain ⟨sa, tb, cell, badges, acts, on, bk, rfl, nb, b4, a1, a6, ha, ht, st, ti, hbk, htb, rfl⟩ := h
  have nd := (sc__law_turned).nd
  have hu := hu_of2 hr
  have hr1 := hr.mono (show 1 ≤ 3 by decide)
  have la : (acts.map PyData.str).length = acts.length := List.length_map _
  obtain ⟨dx, v1, v2, v3, t, hSC, _⟩ := id st.ex
  obtain ⟨j, hj, hj4⟩ : ∃ j : Nat, (j : Int) = cell / 4 % 4 ∧ j < 4 := ⟨(cell / 4 % 4).toNat, by omega, by omega⟩
  obtain ⟨b, hb⟩ : ∃ b, badges[j]? = some b := ⟨_, List.getElem?_eq_getElem (by omega)⟩
  have hbm : b ∈ badges := List.mem_of_getElem? hb
  have hn0 : (0 : Int) < (acts.length : Nat) := by omega
  obtain ⟨k, hk, hk6⟩ : ∃ k : Nat, (k : Int) = cell / 16 % (acts.length : Nat) ∧ k < acts.length := by
    have := Int.emod_nonneg (cell / 16) (show ((acts.length : Nat) : Int) ≠ 0 by omega)
    have := Int.emod_lt_of_pos (cell / 16) hn0
    exact ⟨(cell / 16 % (acts.length : Nat)).toNat, by omega, by omega⟩
  refine sxs_cons (sx_asg 5 (W := (· = di b)) (ex_ixM (f := PyData.int) (ex_var 3 rfl) (ex_mod (ex_fdiv (ex_var 2 rfl) ex_int ⟨by decide, by decide⟩) ex_int (by decide)) (by rw [← hj]; exact atN hb)) (fun s w => ?_) nd)
  subst w
  refine sxs_cons (sx_asg 6 (W := (· = ds (actAt acts k))) (ex_ixM (f := PyData.str) (ex_var 4 rfl) (ex_mod (ex_fdiv (ex_var 2 rfl) ex_int ⟨by decide, by decide⟩) (ex_len B.len (ex_var 4 rfl) (.lst _)) (by rw [la]; exact hn0)) (by rw [la, ← hk]; exact atN (actAt_get hk6))) (fun s w => ?_) nd)
  subst w
  have hbm2 : PyData.strOk (actAt acts k) = true := ha _ (actAt_mem hk6)
  have ht2 : ∀ q ∈ tb, PyData.strOk q.2 = true := fun q hq => ha _ (ht q hq)
  refine sxs_cons (sx_lc 8 7 (ys := tb) (ι := fun q => .dat (encBA q)) (fun q => !decide (q = (b, actAt acts k))) encBA (ix_lstM (ex_var 1 rfl)) (by omega) (blkOk_by (N := N__law_turned) (sc := defScope s__law_turned) (by decide +kernel)) (fun y hy s H C cl fp => (eb_neC (x := y) (y := (b, actAt acts k)) code_BA (ex_var 7 rfl) (ex_tup (ds := [.int b, .str (actAt acts k)]) (ea_cons (ex_var 5 rfl) (ea_cons (ex_var 6 rfl) ea_nil)) (Nat.le_of_ble_eq_true rfl)) hu (ht2 y hy) hbm2 (by simp)).t) (fun y hy hq s H C cl fp => ex_var 7 rfl) (fun s H C cl fp => pg_name nd rfl (Or.inl rfl)) nd ?_)
  obtain ⟨left, hleft⟩ : ∃ left, left = tb.filter fun q => !decide (q = (b, actAt acts k)) := ⟨_, rfl⟩
  have lm : ∀ q, q ∈ left ↔ q ∈ tb ∧ q ≠ (b, actAt acts k) := fun q => by
    rw [hleft, List.mem_filter, Bool.not_eq_true', decide_eq_false_iff_not]
  have ll : left.length ≤ tb.length := by rw [hleft]; exact List.length_filter_le _ _
  rw [← hleft]
  have cl := crew_len badges on
  refine sxs_cons (sx_if (k := !decide (b ∈ crewF badges on)) (eb_ninI (ns := crewF badges on) (ex_var 5 rfl) (exw_met0 F_clerks hr1 (ex_var 0 rfl) hSC (by rfl) fun G' sm => ⟨sa, _, bk, rfl, st.mono sm, rfl⟩)).t (fun hc => ?_) fun hc => sxs_nil ?_)
  · have hnc : b ∉ crewF badges on := of_decide_eq_false (Bool.not_eq_true' _ ▸ hc)
    have hon : on b = false := by
      cases q : on b with
      | false => rfl
      | true => exact absurd (crew_mem.mpr ⟨hbm, q⟩) hnc
    refine sxs_cons (sx_exprM (W := fun G'' _ => Ch G G'' sa ∧ StaffAt CS G'' sa (crewF badges fun x => on x || decide (x = b)) bk) (exm_met F_hire hr (ex_var 0 rfl) hSC (by rfl) (ea_cons (ex_var 5 rfl) ea_nil) fun G' sm => ⟨_, ⟨sa, _, bk, b, rfl, st.mono sm, hnc, by omega, rfl⟩, fun G'' s w => ⟨(Ch.of sm).trans w.2.1, by rw [← crew_hire nb hbm hon]; exact w.2.2⟩⟩) fun G' s w => ?_)
    refine sxs_one (sx_ret (W := (· = .dat (tbD tb))) (ex_var 1 rfl) fun s w2 => ?_)
    subst w2
    exact fun G'' sm => ⟨w.1.trans (.of sm), _, bk, tb, rfl, w.2.mono sm, ti.hire b, by omega, by omega, ht⟩
  have hc : b ∈ crewF badges on := of_decide_eq_true (by simpa using hc)
  have hon : on b = true := (crew_mem.mp hc).2
  refine sxs_cons (sx_if (k := decide (cell % 4 = 0)) (eb_eqI (ex_mod (ex_var 2 rfl) ex_int (by decide)) ex_int).t (fun _ => ?_) fun _ => sxs_nil ?_)
  · refine sxs_cons (sx_exprM (W := fun G'' _ => Ch G G'' sa ∧ StaffAt CS G'' sa (crewF badges fun x => on x && !decide (x = b)) (bk.filter fun q => !decide (q.b = b))) (exm_met F_leave hr (ex_var 0 rfl) hSC (by rfl) (ea_cons (ex_var 5 rfl) ea_nil) fun G' sm => ⟨_, ⟨sa, _, bk, b, rfl, st.mono sm, hc, rfl⟩, fun G'' s w => ⟨(Ch.of sm).trans w.2.1, by rw [← crew_leave]; exact w.2.2⟩⟩) fun G' s w => ?_)
    refine sxs_one (sx_ret (W := (· = .dat (tbD (tb.filter fun q => !decide (q.1 = b))))) (ex_lc 7 (ys := tb) (ι := fun q => .dat (encBA q)) (fun q => !decide (q.1 = b)) encBA (ix_lstM (ex_var 1 rfl)) (by omega) (blkOk_by (N := N__law_turned) (sc := defScope s__law_turned) (by decide +kernel)) (fun y hy s H C cl fp => (eb_neI (ex_ixT (ex_var 7 rfl) ex_int rfl) (ex_var 5 rfl)).t) (fun y hy hq s H C cl fp => ex_var 7 rfl) (fun s H C cl fp => pg_name nd rfl (Or.inl rfl)) nd) fun s w2 => ?_)
    subst w2
    have f1 := List.length_filter_le (fun q : Int × Str => !decide (q.1 = b)) tb
    have f2 := List.length_filter_le (fun q : Rule => !decide (q.b = b)) bk
    exact fun G'' sm => ⟨w.1.trans (.of sm), _, _, _, rfl, w.2.mono sm, ti.leave fun q => by rw [List.mem_filter, Bool.not_eq_true', decide_eq_false_iff_not], by omega, by omega, fun q hq => ht q (List.mem_filter.mp hq).1⟩
  have ol := others_len bk b (actAt acts k)
  have hword : atI (["not", "may"] : List Str) (cell % 2) = some (wordW (decide (cell % 2 = 1))) := by
    have h2 : cell % 2 = 0 ∨ cell % 2 = 1 := by omega
    rcases h2 with h2 | h2
    · rw [h2]; rfl
    · rw [h2]; rfl
  refine sxs_cons (sx_exprM (W := fun G'' _ => Ch G G'' sa ∧ StaffAt CS G'' sa (crewF badges on) (othersF bk b (actAt acts k) ++ [⟨b, actAt acts k, decide (cell % 2 = 1)⟩])) (exm_met F_rule hr (ex_var 0 rfl) hSC (by rfl) (ea_cons (ex_var 5 rfl) (ea_cons (ex_var 6 rfl) (ea_cons (ex_ixM (f := PyData.str) (xs := ["not", "may"]) (ex_lst (ds := [.str "not", .str "may"]) (ea_cons ex_str (ea_cons ex_str ea_nil)) (Nat.le_of_ble_eq_true rfl)) (ex_mod (ex_var 2 rfl) ex_int (by decide)) hword) ea_nil))) fun G' sm => ⟨_, ⟨sa, _, bk, b, actAt acts k, _, rfl, st.mono sm, hc, hbk, rfl⟩, fun G'' s w => ⟨(Ch.of sm).trans w.2.1, w.2.2⟩⟩) fun G' s w => ?_)
  have bl : ∀ q : Bool, (othersF bk b (actAt acts k) ++ [(⟨b, actAt acts k, q⟩ : Rule)]).length ≤ bk.length + 1 := fun q => by
    rw [List.length_append]
    show (othersF bk b (actAt acts k)).length + 1 ≤ _
    omega
  refine sxs_cons (sx_if (k := decide (cell % 2 = 1)) (eb_eqI (ex_mod (ex_var 2 rfl) ex_int (by decide)) ex_int).t (fun h1 => ?_) fun h1 => sxs_nil ?_)
  · refine sxs_one (sx_ret (W := (· = .dat (tbD (left ++ [(b, actAt acts k)])))) (EX.cast (ex_cat (ex_var 8 rfl) (ex_lst (ds := [encBA (b, actAt acts k)]) (ea_cons (ex_tup (ds := [.int b, .str (actAt acts k)]) (ea_cons (ex_var 5 rfl) (ea_cons (ex_var 6 rfl) ea_nil)) (Nat.le_of_ble_eq_true rfl)) ea_nil) (Nat.le_of_ble_eq_true rfl)) ?_) ?_) fun s w2 => ?_)
    · rw [List.length_map]
      exact Nat.le_trans (show _ ≤ 1000 by show left.length + 1 ≤ 1000; omega) (by decide)
    · rw [show tbD (left ++ [(b, actAt acts k)]) = .list (left.map encBA ++ [encBA (b, actAt acts k)]) by rw [show tbD _ = PyData.list _ from rfl, List.map_append]; rfl]
    · subst w2
      rw [h1] at w
      refine fun G'' sm => ⟨w.1.trans (.of sm), on, _, _, rfl, w.2.mono sm, ti.may hon fun q => ?_, bl _, by rw [List.length_append]; show left.length + 1 ≤ _; omega, fun q hq => ?_⟩
      · rw [List.mem_append, List.mem_singleton, lm]
        constructor
        · rintro (z | z)
          · exact .inl z.1
          · exact .inr z
        · rintro (z | z)
          · by_cases y : q = (b, actAt acts k)
            · exact .inr y
            · exact .inl ⟨z, y⟩
          · exact .inr z
      · rcases List.mem_append.mp hq with z | z
        · exact ht q ((lm q).mp z).1
        · rw [List.mem_singleton.mp z]
          exact actAt_mem hk6
  · refine sxs_one (sx_ret (W := (· = .dat (tbD left))) (ex_var 8 rfl) fun s w2 => ?_)
    subst w2
    rw [h1] at w
    exact fun G'' sm => ⟨w.1.trans (.of sm), on, _, left, rfl, w.2.mono sm, ti.nay lm, bl _, by omega, fun q hq => ht q ((lm q).mp hq).1⟩
end
end Dl
namespace Dl
open PySem PySem.Spec PyProof.Rows L2
/-! ### the office at work -/
structure Run (p : Plc) (G : Hp) (n : Int) (name : Str) (ca : Addr) (acts : List Str) (order : List (Nat × Nat)) (ties : List Tie) (marks : List (Option Int)) (crew : List Int) (bk : List Rule) : Prop where
  off : OffAt p G
  stf : StfAt p G crew bk
  form : FormAt p G name acts order ties
  ff : ∃ v, G p.fd = some (.dK [(Sum.inr name, v)])
  file : G p.cd = some (.dK [(Sum.inl n, .ref ca)])
  case_ : CaseAt p.CC G ca acts order ties marks
structure PlcOk (p : Plc) : Prop where
  sc : p.CS ≠ p.CC
  so : p.CS ≠ p.CO
  co : p.CC ≠ p.CO
section
variable {p : Plc} {G G' : Hp} {n : Int} {name : Str} {ca : Addr} {acts : List Str} {order : List (Nat × Nat)} {ties : List Tie} {marks marks' : List (Option Int)} {crew crew' : List Int} {bk bk' : List Rule}
theorem Run.mono (h : Run p G n name ca acts order ties marks crew bk) (s : Same G G') : Run p G' n name ca acts order ties marks crew bk :=
  ⟨h.off.mono s, h.stf.mono s, h.form.mono s, h.ff.imp fun _ e => s _ _ e, s _ _ h.file, h.case_.mono s⟩
theorem ins_ne2 {r r' C C' dx dx' : Addr} {fs fs' : List (Str × V)} (h : G r = some (.ins C dx fs)) (h' : G r' = some (.ins C' dx' fs')) (hn : C ≠ C') : r ≠ r' := fun z => by
  rw [z, h'] at h
  injection h with h
  injection h with h
  exact hn h.symm
theorem FormAt.chI {r C dx : Addr} {fs : List (Str × V)} (h : FormAt p G name acts order ties) (c : Ch G G' r) (hr : G r = some (.ins C dx fs)) : FormAt p G' name acts order ties := by
  obtain ⟨h1, v, h2, h3⟩ := h
  refine ⟨h1, v, ?_, h3.monoD (c.sameD hr)⟩
  rcases h2 with h2 | ⟨o, h2⟩
  · exact .inl (c _ _ (fun z => by rw [z, hr] at h2; cases h2) h2)
  · exact .inr ⟨o, c _ _ (fun z => by rw [z, hr] at h2; cases h2) h2⟩
theorem dK_chI {r C dx d : Addr} {fs : List (Str × V)} {kvs : List (Key × V)} (h : G d = some (.dK kvs)) (c : Ch G G' r) (hr : G r = some (.ins C dx fs)) : G' d = some (.dK kvs) := c _ _ (ins_ne hr h) h
theorem Run.take (h : Run p G n name ca acts order ties marks crew bk) (ok : PlcOk p) (c : Ch G G' ca) (cs : CaseAt p.CC G' ca acts order ties marks') : Run p G' n name ca acts order ties marks' crew bk := by
  obtain ⟨dx, w1, w2, w3, w4, hC, _⟩ := h.case_.ex
  obtain ⟨dx2, ho⟩ := h.off
  obtain ⟨⟨dx3, v1, v2, v3, t, h0, h1, h2, h3, h4⟩, a, b, cc⟩ := h.stf
  have sd := c.sameD hC
  exact ⟨⟨dx2, c _ _ (ins_ne2 ho hC ok.co.symm) ho⟩, ⟨⟨dx3, v1, v2, v3, t, c _ _ (ins_ne2 h0 hC ok.sc) h0, h1.monoD sd, h2.monoD sd, h3.monoD sd, dK_chI h4 c hC⟩, a, b, cc⟩, h.form.chI c hC, h.ff.imp fun _ e => dK_chI e c hC, dK_chI h.file c hC, cs⟩
theorem Run.turn (h : Run p G n name ca acts order ties marks crew bk) (ok : PlcOk p) (c : Ch G G' p.sa) (st : StfAt p G' crew' bk') : Run p G' n name ca acts order ties marks crew' bk' := by
  obtain ⟨dx3, u1, u2, u3, t, hS, _⟩ := h.stf.ex
  obtain ⟨dx2, ho⟩ := h.off
  obtain ⟨⟨dx, v1, v2, v3, v4, h0, h1, h2, h3, h4⟩, a, b⟩ := h.case_
  have sd := c.sameD hS
  exact ⟨⟨dx2, c _ _ (ins_ne2 ho hS ok.so.symm) ho⟩, st, h.form.chI c hS, h.ff.imp fun _ e => dK_chI e c hS, dK_chI h.file c hS, ⟨dx, v1, v2, v3, v4, c _ _ (ins_ne2 h0 hS ok.sc.symm) h0, h1.monoD sd, h2.monoD sd, h3.monoD sd, h4.monoD sd⟩, a, b⟩
end
section
variable {P : Program} {w : World} {K : PySem.W.Frag} {mg : Str → Option Value} {base : Heap} {p : Plc}
abbrev s__law_stands : Stmt := topS 110
abbrev N__law_stands : List Str := ["office", "number", "name", "row", "may", "told", "due"]
theorem sc__law_stands : FnScope N__law_stands ["office", "number", "name", "row", "may"] (defScope s__law_stands) := ⟨rfl, rfl, rfl, by decide +kernel, rfl, by decide +kernel, by decide +kernel⟩
theorem hb__law_stands (kV doc pm : Value) (an : Option Addr) (cdv ct : Value) (us : List Value) (hl : us.length = 5) : bindArgs (PySem.W.fnOf "_law_stands" "_law_stands" (defArgs s__law_stands) (defBody s__law_stands) (defScope s__law_stands) .none kV doc pm an cdv ct) ⟨us, []⟩ = pure ((["office", "number", "name", "row", "may"] : List Str).zip us) := match us, hl with
  | [_, _, _, _, _], _ => rfl
def R__law_stands (p : Plc) : PSpec := fun G ss W => ∃ (n : Int) (name : Str) (ca : Addr) (acts : List Str) (order : List (Nat × Nat)) (ties : List Tie) (marks : List (Option Int)) (crew : List Int) (bk : List Rule), ss = [.raw (.ref p.oa), di n, ds name, .dat (rowD acts order ties marks), .dat (llD (mayL crew bk acts))] ∧
  Run p G n name ca acts order ties marks crew bk ∧ W = (· = db true)
set_option maxHeartbeats 1000000 in
theorem ok__law_stands (B : Bt mg) (OC : OffC K p.CO) (Dd : DefAt K mg "_law_stands" s__law_stands) (F_plan_of : Mt P w K mg base p.CO "plan_of" ["self", "number"] (R_plan_of p) 12) (F_plan_for : Mt P w K mg base p.CO "plan_for" ["self", "name"] (R_plan_for p) 11)
    (F_mend_of : Mt P w K mg base p.CO "mend_of" ["self", "number"] (R_mend_of p) 12) (F_stuck : Mt P w K mg base p.CO "stuck" ["self"] (R_stuck p) 13) (F__law_walked : Fn P w K mg base "_law_walked" ["found", "may", "ties"] R__law_walked 10) (F__law_held : Fn P w K mg base "_law_held" ["may", "done"] R__law_held 1)
    (F__law_mended : Fn P w K mg base "_law_mended" ["found", "order", "problem"] R__law_mended 11) : Fn P w K mg base "_law_stands" ["office", "number", "name", "row", "may"] (R__law_stands p) 14 := by
  refine fn_mk Dd sc__law_stands (fun G ss W ⟨_, _, _, _, _, _, _, _, _, e, _⟩ => by rw [e]; rfl) hb__law_stands fun f cdv A outer s H hr G ss W h => ?_
  obtain ⟨n, name, ca, acts, order, ties, marks, crew, bk, rfl, ru, rfl⟩ := h
  have nd := (sc__law_stands).nd
  have hu := hu_of2 hr
  have hr12 := hr.mono (show 12 ≤ 13 by decide)
  have hr11 := hr.mono (show 11 ≤ 13 by decide)
  have hr10 := hr.mono (show 10 ≤ 13 by decide)
  have hr1 := hr.mono (show 1 ≤ 13 by decide)
  have cs := ru.case_
  have st := ru.stf
  obtain ⟨dx, hOC⟩ := id ru.off
  have ro := cs.ro
  have h6 := ro.ac.few
  have hl := cs.len
  have ml := mayL_len crew bk acts
  have mo := mayL_ok (bk := bk) st.few h6
  have tk := tiesOk_of ro
  have mh : MayOk (heldF (mayL crew bk acts) marks) := heldF_ok (by omega) mo
  have hlh : (heldF (mayL crew bk acts) marks).length = acts.length := by rw [heldF_len (by omega), ml]
  refine sxs_cons (sx_asg 5 (W := W_plan (heldF (mayL crew bk acts) marks) ties []) (exw_met F_plan_of hr12 (ex_var 0 rfl) hOC (by rfl) (ea_cons (ex_var 1 rfl) ea_nil) fun G' sm => ⟨n, ca, acts, order, ties, marks, crew, bk, rfl, ru.off.mono sm, st.mono sm, .inl (sm _ _ ru.file), cs.mono sm, rfl⟩) (fun s0 w0 => ?_) nd)
  refine sxs_cons (sx_if (k := false) (eb_not (c1 := true) (eb_of (ex_call F__law_walked hr10 (ea_cons (ex_var 5 rfl) (ea_cons (ex_call F__law_held hr1 (ea_cons (ex_var 4 rfl) (ea_cons (ex_ixL (ds := [lsD acts, lpD order, ltD ties, loD marks]) (ex_var 3 rfl) ex_int (by rfl)) ea_nil)) (W := (· = .dat (llD (heldF (mayL crew bk acts) marks)))) fun G' _ => ⟨_, _, rfl, by omega, by omega, rfl⟩) (ea_cons (ex_ixL (ds := [lsD acts, lpD order, ltD ties, loD marks]) (ex_var 3 rfl) ex_int (by rfl)) ea_nil))) fun G' _ => ⟨s0, _, ties, rfl, w0, mh, by rw [hlh]; exact tk, rfl⟩))).t (fun hk => by cases hk) fun _ => sxs_nil ?_)
  refine sxs_cons (sx_asg 6 (W := (· = .dat (liD []))) (ex_lst (ds := []) ea_nil (Nat.le_of_ble_eq_true rfl)) (fun s w => ?_) nd)
  subst w
  obtain ⟨sb, hsb⟩ : ∃ sb, sb = stuckB (mayL crew bk acts) ties marks := ⟨_, rfl⟩
  refine sxs_cons (sx_if (k := sb) (EB.cast (eb_bop (ew_and (eb_eqS (x := if noPlan (heldF (mayL crew bk acts) marks) ties = true then "none" else "plan") (ex_ix (ex_var 5 rfl) ex_int (noPlan_word w0)) ex_str) (fun hc => ew_and1 (eb_inO ex_none (ex_ixL (ds := [lsD acts, lpD order, ltD ties, loD marks]) (ex_var 3 rfl) ex_int (by rfl)))))) ?_).t (fun hk => sxs_one (sx_asg 6 (W := (· = .dat (liD [n]))) (ex_lst (ds := [_]) (ea_cons (ex_var 1 rfl) ea_nil) (Nat.le_of_ble_eq_true rfl)) (fun s w => ?_) nd)) fun hk => sxs_nil ?_)
  · rw [hsb]
    unfold stuckB
    rw [Bool.and_comm]
    cases noPlan (heldF (mayL crew bk acts) marks) ties with
    | true => rw [if_pos rfl, decide_eq_true rfl]
    | false => rw [if_neg Bool.false_ne_true, decide_eq_false (show (Str.ofString "plan") ≠ Str.ofString "none" by decide +kernel)]
  · subst w
    have hd : (if stuckB (mayL crew bk acts) ties marks = true then [n] else []) = [n] := by rw [← hsb, if_pos hk]
    refine sxs_cons (sx_if (k := false) (eb_neC code_lI (exw_met0 F_stuck hr (ex_var 0 rfl) hOC (by rfl) fun G' sm => ⟨n, ca, acts, order, ties, marks, crew, bk, rfl, ru.off.mono sm, st.mono sm, sm _ _ ru.file, cs.mono sm, rfl⟩) (ex_var 6 rfl) hu trivial trivial ⟨fun _ => hd, fun _ => rfl⟩).t (fun hk => by cases hk) fun _ => sxs_nil ?_)
    refine sxs_cons (sx_if (k := false) (eb_not (c1 := true) (eb_of (exw_callW F__law_walked hr10 (exw_met F_plan_for hr11 (ex_var 0 rfl) hOC (by rfl) (ea_cons (ex_var 2 rfl) ea_nil) (W := W_plan (mayL crew bk acts) ties []) fun G' sm => ⟨name, acts, order, ties, crew, bk, rfl, ru.off.mono sm, st.mono sm, ru.form.mono sm, rfl⟩) (ea_cons (ex_var 4 rfl) (ea_cons (ex_ixL (ds := [lsD acts, lpD order, ltD ties, loD marks]) (ex_var 3 rfl) ex_int (by rfl)) ea_nil)) fun G' s _ w => ⟨_, ⟨s, _, ties, rfl, w, mo, by rw [ml]; exact tk, rfl⟩, fun t z => z⟩))).t (fun hk => by cases hk) fun _ => sxs_nil ?_)
    exact sxs_one (sx_ret (W := (· = db true)) (exw_callW F__law_mended hr11 (exw_met F_mend_of hr12 (ex_var 0 rfl) hOC (by rfl) (ea_cons (ex_var 1 rfl) ea_nil) (W := W_mend (mayL crew bk acts) ties order marks) fun G' sm => ⟨n, ca, acts, order, ties, marks, crew, bk, rfl, ru.off.mono sm, st.mono sm, .inl (sm _ _ ru.file), cs.mono sm, rfl⟩) (ea_cons (ex_ixL (ds := [lsD acts, lpD order, ltD ties, loD marks]) (ex_var 3 rfl) ex_int (by rfl)) (ea_cons (ex_lst (ds := [llD (mayL crew bk acts), ltD ties, loD marks]) (ea_cons (ex_var 4 rfl) (ea_cons (ex_ixL (ds := [lsD acts, lpD order, ltD ties, loD marks]) (ex_var 3 rfl) ex_int (by rfl)) (ea_cons (ex_ixL (ds := [lsD acts, lpD order, ltD ties, loD marks]) (ex_var 3 rfl) ex_int (by rfl)) ea_nil))) (Nat.le_of_ble_eq_true rfl)) ea_nil)) fun G' s _ w => ⟨_, ⟨s, order, _, ties, marks, rfl, w, mo, by rw [ml]; exact tk, by omega, fun q hq => by rw [hl]; exact ro.lt2 q hq, rfl⟩, fun t z => z⟩) fun s w => w)
  · have hd : (if stuckB (mayL crew bk acts) ties marks = true then [n] else []) = [] := by rw [← hsb, hk]; rfl
    refine sxs_cons (sx_if (k := false) (eb_neC code_lI (exw_met0 F_stuck hr (ex_var 0 rfl) hOC (by rfl) fun G' sm => ⟨n, ca, acts, order, ties, marks, crew, bk, rfl, ru.off.mono sm, st.mono sm, sm _ _ ru.file, cs.mono sm, rfl⟩) (ex_var 6 rfl) hu trivial trivial ⟨fun _ => hd, fun _ => rfl⟩).t (fun hk => by cases hk) fun _ => sxs_nil ?_)
    refine sxs_cons (sx_if (k := false) (eb_not (c1 := true) (eb_of (exw_callW F__law_walked hr10 (exw_met F_plan_for hr11 (ex_var 0 rfl) hOC (by rfl) (ea_cons (ex_var 2 rfl) ea_nil) (W := W_plan (mayL crew bk acts) ties []) fun G' sm => ⟨name, acts, order, ties, crew, bk, rfl, ru.off.mono sm, st.mono sm, ru.form.mono sm, rfl⟩) (ea_cons (ex_var 4 rfl) (ea_cons (ex_ixL (ds := [lsD acts, lpD order, ltD ties, loD marks]) (ex_var 3 rfl) ex_int (by rfl)) ea_nil)) fun G' s _ w => ⟨_, ⟨s, _, ties, rfl, w, mo, by rw [ml]; exact tk, rfl⟩, fun t z => z⟩))).t (fun hk => by cases hk) fun _ => sxs_nil ?_)
    exact sxs_one (sx_ret (W := (· = db true)) (exw_callW F__law_mended hr11 (exw_met F_mend_of hr12 (ex_var 0 rfl) hOC (by rfl) (ea_cons (ex_var 1 rfl) ea_nil) (W := W_mend (mayL crew bk acts) ties order marks) fun G' sm => ⟨n, ca, acts, order, ties, marks, crew, bk, rfl, ru.off.mono sm, st.mono sm, .inl (sm _ _ ru.file), cs.mono sm, rfl⟩) (ea_cons (ex_ixL (ds := [lsD acts, lpD order, ltD ties, loD marks]) (ex_var 3 rfl) ex_int (by rfl)) (ea_cons (ex_lst (ds := [llD (mayL crew bk acts), ltD ties, loD marks]) (ea_cons (ex_var 4 rfl) (ea_cons (ex_ixL (ds := [lsD acts, lpD order, ltD ties, loD marks]) (ex_var 3 rfl) ex_int (by rfl)) (ea_cons (ex_ixL (ds := [lsD acts, lpD order, ltD ties, loD marks]) (ex_var 3 rfl) ex_int (by rfl)) ea_nil))) (Nat.le_of_ble_eq_true rfl)) ea_nil)) fun G' s _ w => ⟨_, ⟨s, order, _, ties, marks, rfl, w, mo, by rw [ml]; exact tk, by omega, fun q hq => by rw [hl]; exact ro.lt2 q hq, rfl⟩, fun t z => z⟩) fun s w => w)
end
end Dl
namespace Dl
open PySem PySem.Spec PyProof.Rows L2
/-! ### the hall -/
def Sep (p : Plc) (G : Hp) : Prop := ∀ dx v1 v2 v3 t, G p.sa = some (.ins p.CS dx (stF v1 v2 v3 (.ref t))) → t ≠ p.fd ∧ t ≠ p.cd
structure HallAt (p : Plc) (G : Hp) (name : Str) (badges : List Int) (acts : List Str) (order : List (Nat × Nat)) (ties : List Tie) (hands : List Int) (bk : List Rule) (tb : List (Int × Str)) : Prop where
  off : OffAt p G
  stf : StfAt p G (crewF badges fun _ => true) bk
  form : FormAt p G name acts order ties
  ff : ∃ v, G p.fd = some (.dK [(Sum.inr name, v)])
  cc : G p.cd = some (.dK [])
  sep : Sep p G
  fc : p.fd ≠ p.cd
  tl : TLoop badges acts hands badges.length 0 bk tb
  a4 : acts.length ≤ 4
  hl : hands.length = acts.length
  hb : ∀ k, k < acts.length → hands.getD k 0 ∈ badges
  b4 : badges.length = 4
  nb : badges.Nodup
  rn : RndOk hands order ties
theorem StaffAt.chK {CS : Addr} {G G' : Hp} {r d : Addr} {crew : List Int} {bk : List Rule} {kvs : List (Key × V)} (h : StaffAt CS G r crew bk) (c : Ch G G' d) (hd : G d = some (.dK kvs)) (hs : ∀ dx v1 v2 v3 t, G r = some (.ins CS dx (stF v1 v2 v3 (.ref t))) → t ≠ d) : StaffAt CS G' r crew bk := by
  obtain ⟨⟨dx, v1, v2, v3, t, h0, h1, h2, h3, h4⟩, a, b, cc⟩ := h
  have m1 : ∀ x xs, G x = some (.lst xs) → G' x = some (.lst xs) := fun x xs e => c x _ (fun z => by rw [z, hd] at e; cases e) e
  have m2 : ∀ x xs, G x = some (.tup xs) → G' x = some (.tup xs) := fun x xs e => c x _ (fun z => by rw [z, hd] at e; cases e) e
  exact ⟨⟨dx, v1, v2, v3, t, c r _ (fun z => ins_ne h0 hd z.symm) h0, Dq.monoL m1 m2 _ _ h1, Dq.monoL m1 m2 _ _ h2, Dq.monoL m1 m2 _ _ h3, c t _ (hs _ _ _ _ _ h0) h4⟩, a, b, cc⟩
theorem Sep.mono {p : Plc} {G G' : Hp} (h : Sep p G) (e : G' p.sa = G p.sa) : Sep p G' := fun dx v1 v2 v3 t z => h dx v1 v2 v3 t (e ▸ z)
section
variable {P : Program} {w : World} {K : PySem.W.Frag} {mg : Str → Option Value} {base : Heap} {CS CC CO : Addr}
abbrev s__law_hall : Stmt := topS 108
abbrev N__law_hall : List Str := ["script", "many", "wide", "names", "acts", "badges", "k", "hands", "staff", "table", "order", "ties", "office", "row"]
theorem sc__law_hall : FnScope N__law_hall ["script", "many", "wide"] (defScope s__law_hall) := ⟨rfl, rfl, rfl, by decide +kernel, rfl, by decide +kernel, by decide +kernel⟩
theorem hb__law_hall (kV doc pm : Value) (an : Option Addr) (cdv ct : Value) (us : List Value) (hl : us.length = 3) : bindArgs (PySem.W.fnOf "_law_hall" "_law_hall" (defArgs s__law_hall) (defBody s__law_hall) (defScope s__law_hall) .none kV doc pm an cdv ct) ⟨us, []⟩ = pure ((["script", "many", "wide"] : List Str).zip us) := match us, hl with
  | [_, _, _], _ => rfl
def W__law_hall (CS CC CO : Addr) : Hp → Ds → Prop := fun G' s => ∃ l oa sa fd cd names badges acts order ties hands bk tb vn vb vr vm vh, s = .raw (.ref l) ∧ G' l = some (.lst [.ref oa, .ref sa, vn, vb, vr, vm, vh]) ∧
  Dq G' vn (lsD names) ∧ Dq G' vb (liD badges) ∧ Dq G' vr (rowD acts order ties (List.replicate acts.length none)) ∧ Dq G' vm (llD (listsF badges acts tb)) ∧ Dq G' vh (liD hands) ∧ names.length = 7 ∧ HallAt ⟨CS, CC, CO, oa, sa, fd, cd⟩ G' (actAt names 6) badges acts order ties hands bk tb
def R__law_hall (CS CC CO : Addr) : PSpecM := fun _ ss W => ∃ (ns : List Int), ss = [.sq ns, di 4, di 4] ∧ W = W__law_hall CS CC CO
set_option maxHeartbeats 2000000 in
theorem ok__law_hall (B : Bt mg) (SC : StaffC K CS) (OC : OffC K CO) (Dd : DefAt K mg "_law_hall" s__law_hall) (F__law_cell : Fn P w K mg base "_law_cell" ["script", "k"] R__law_cell 1) (F__law_names : Fn P w K mg base "_law_names" ["number", "many"] R__law_names 1) (F__law_acts : Fn P w K mg base "_law_acts" ["names"] R__law_acts 1)
    (F__law_badges : Fn P w K mg base "_law_badges" ["script", "at", "many"] R__law_badges 2) (F__law_team : FnG P w K mg base "_law_team" ["number", "badges", "acts", "hands"] (R__law_team CS) 4) (F__law_round : Fn P w K mg base "_law_round" ["cells", "hands"] R__law_round 2)
    (F_Office : MkM P w K mg base "Office" CO ["self", "staff"] (R_Office_init CO) 1) (F_add_round : ∀ oa sa fd cd, MtM P w K mg base CO "add_round" ["self", "name", "text"] (R_add_round ⟨CS, CC, CO, oa, sa, fd, cd⟩) 6) (F__law_text : Fn P w K mg base "_law_text" ["acts", "order", "ties"] R__law_text 1)
    (F__law_lists : Fn P w K mg base "_law_lists" ["badges", "acts", "table"] R__law_lists 1) : FnG P w K mg base "_law_hall" ["script", "many", "wide"] (R__law_hall CS CC CO) 7 := by
  refine fnG_mk Dd sc__law_hall (fun G ss W ⟨_, e, _⟩ => by rw [e]; rfl) hb__law_hall fun f cdv A outer s H hr6 G ss W h => ?_
  obtain ⟨ns, rfl, rfl⟩ := h
  have nd := (sc__law_hall).nd
  have hr4 := hr6.mono (show 4 ≤ 6 by decide)
  have hr2 := hr6.mono (show 2 ≤ 6 by decide)
  have hr := hr6.mono (show 1 ≤ 6 by decide)
  have hcd : ∀ (c : Nat) (x : Nat), ((c : Nat) : Int) + ((x : Nat) : Int) = ((c + x : Nat) : Int) := fun c x => by omega
  obtain ⟨names, hnm⟩ : ∃ names, names = namesF (cellF ns 1 * 16807 % 2147483647) 7 := ⟨_, rfl⟩
  have nok : NamesOk names := by
    rw [hnm]
    exact namesF_ok (by omega) (by decide)
  have n7 : names.length = 7 := by
    rw [hnm]
    unfold namesF
    rw [List.length_map, List.length_range]
  refine sxs_cons (sx_asg 3 (W := (· = .dat (lsD names))) (ex_call F__law_names hr (ea_cons (ex_call F__law_cell hr (ea_cons (ex_var 0 rfl) (ea_cons ex_int ea_nil)) (W := (· = di (cellF ns 1))) fun G _ => ⟨ns, 1, rfl, by omega, rfl⟩) (ea_cons ex_int ea_nil)) fun G _ => ⟨cellF ns 1, 7, rfl, by omega, by rw [hnm]⟩) (fun s w => ?_) nd)
  subst w
  obtain ⟨c, hc, c1, c4⟩ : ∃ c : Nat, (c : Int) = 1 + cellF ns 0 % 4 ∧ 1 ≤ c ∧ c ≤ 4 := ⟨(1 + cellF ns 0 % 4).toNat, by omega, by omega, by omega⟩
  have hcut : cutL (names.map PyData.str) none (some (1 + cellF ns 0 % 4)) = (names.take c).map PyData.str := by
    unfold cutL
    rw [← hc, HT.sIx_nat, HT.sIx_none, List.length_map, Nat.min_eq_left (by omega), List.drop_zero, Nat.sub_zero, List.map_take]
  have ln : (names.take c).length = c := by rw [List.length_take]; omega
  obtain ⟨acts, hacts⟩ : ∃ acts, acts = (names.take c).map (actF (names.take c)) := ⟨_, rfl⟩
  have ao : ActsOk acts := by
    rw [hacts]
    exact actF_ok (nok.take c) (by omega) (by omega)
  have al : acts.length = c := by rw [hacts, List.length_map, ln]
  have la : (acts.map PyData.str).length = acts.length := List.length_map _
  refine sxs_cons (sx_asg 4 (W := (· = .dat (lsD acts))) (ex_call F__law_acts hr (ea_cons (EX.cast (ex_slice (ex_var 3 rfl) eo_none (eo_some (ex_addI ex_int (ex_mod (ex_call F__law_cell hr (ea_cons (ex_var 0 rfl) (ea_cons ex_int ea_nil)) (W := (· = di (cellF ns 0))) fun G _ => ⟨ns, 0, rfl, by omega, rfl⟩) (ex_var 1 rfl) (by decide))))) (by rw [hcut])) ea_nil) fun G _ => ⟨names.take c, rfl, nok.take c, by omega, by rw [hacts]⟩) (fun s w => ?_) nd)
  subst w
  refine sxs_cons (sx_asg 5 (W := fun s => ∃ bs : List Int, s = .dat (liD bs) ∧ bs.length = 4 ∧ bs.Nodup) (ex_call F__law_badges hr2 (ea_cons (ex_var 0 rfl) (ea_cons ex_int (ea_cons (ex_var 2 rfl) ea_nil))) fun G _ => ⟨ns, 2, 4, rfl, by omega, by omega, rfl⟩) (fun s w => ?_) nd)
  obtain ⟨badges, rfl, b4, nb⟩ := w
  have hrg : ∀ y ∈ List.range (Int.toNat ((acts.map PyData.str).length : Nat)), y < acts.length := fun y hy => by
    rw [Int.toNat_natCast, List.mem_range, la] at hy
    exact hy
  have hix : ∀ y : Nat, atI badges (cellF ns 3 / ((y : Int) + 1) % 4) = some (badges.getD (cellF ns 3 / ((y : Int) + 1) % 4).toNat 0) := fun y => by
    have h1 : 0 ≤ cellF ns 3 / ((y : Int) + 1) % 4 := Int.emod_nonneg _ (by decide)
    have h2 : cellF ns 3 / ((y : Int) + 1) % 4 < 4 := Int.emod_lt_of_pos _ (by decide)
    have := atN (getDS (0 : Int) (show (cellF ns 3 / ((y : Int) + 1) % 4).toNat < badges.length by omega))
    rw [Int.toNat_of_nonneg h1] at this
    exact this
  refine sxs_cons (sx_lc 7 6 (fun _ : Nat => true) (fun y : Nat => PyData.int (badges.getD (cellF ns 3 / ((y : Int) + 1) % 4).toNat 0)) (ix_range B.range (ex_len B.len (ex_var 4 rfl) (.lst _)) (by omega) (by omega)) (by rw [List.length_range]; omega) (blkOk_by (N := N__law_hall) (sc := defScope s__law_hall) (by decide +kernel)) (fun y hy s H C cl fp => rfl) (fun y hy hq s H C cl fp => EX.cast (ex_ixM (f := PyData.int) (ex_var 5 rfl) (ex_mod (ex_fdiv (ex_call F__law_cell hr (ea_cons (ex_var 0 rfl) (ea_cons ex_int ea_nil)) (W := (· = di (cellF ns 3))) fun G _ => ⟨ns, 3, rfl, by omega, rfl⟩) (ex_addI (ex_var 6 rfl) ex_int) ⟨by omega, by have := hrg y hy; omega⟩) (ex_var 2 rfl) (by decide)) (hix y)) rfl) (fun s H C cl fp => pg_name nd rfl (Or.inl rfl)) nd ?_)
  obtain ⟨hands, hhands⟩ : ∃ hands, hands = (List.range acts.length).map fun y : Nat => badges.getD (cellF ns 3 / ((y : Int) + 1) % 4).toNat 0 := ⟨_, rfl⟩
  have hl : hands.length = acts.length := by rw [hhands, List.length_map, List.length_range]
  have hb : ∀ k, k < acts.length → hands.getD k 0 ∈ badges := fun k hk => by
    rw [hhands, List.getD_eq_getElem?_getD, List.getElem?_map, List.getElem?_range hk]
    show badges.getD (cellF ns 3 / ((k : Int) + 1) % 4).toNat 0 ∈ badges
    have h1 : 0 ≤ cellF ns 3 / ((k : Int) + 1) % 4 := Int.emod_nonneg _ (by decide)
    have h2 : cellF ns 3 / ((k : Int) + 1) % 4 < 4 := Int.emod_lt_of_pos _ (by decide)
    exact List.mem_of_getElem? (getDS (0 : Int) (show (cellF ns 3 / ((k : Int) + 1) % 4).toNat < badges.length by omega))
  have hh : ((List.range (Int.toNat ((acts.map PyData.str).length : Nat))).filter fun _ => true).map (fun y : Nat => PyData.int (badges.getD (cellF ns 3 / ((y : Int) + 1) % 4).toNat 0)) = hands.map PyData.int := by
    rw [List.filter_eq_self.mpr fun _ _ => rfl, Int.toNat_natCast, la, hhands, List.map_map]
    rfl
  rw [hh]
  refine sxs_cons (sx_unpR (W := fun G' s => ∃ l sa v bk tb, s = .raw (.ref l) ∧ G' l = some (.lst [.ref sa, v]) ∧ Dq G' v (tbD tb) ∧ StaffAt CS G' sa (crewF badges fun _ => true) bk ∧ G sa = none ∧ TLoop badges acts hands badges.length 0 bk tb) (exg_call F__law_team hr4 (ea_cons (ex_call F__law_cell hr (ea_cons (ex_var 0 rfl) (ea_cons ex_int ea_nil)) (W := (· = di (cellF ns 4))) fun G _ => ⟨ns, 4, rfl, by omega, rfl⟩) (ea_cons (ex_var 5 rfl) (ea_cons (ex_var 4 rfl) (ea_cons (ex_var 7 rfl) ea_nil)))) fun G' sm => ⟨_, ⟨cellF ns 4, badges, acts, hands, rfl, nb, by omega, ao.nd, by omega, hl, rfl⟩, fun G'' s w => ?_⟩) fun G1 s w s1 => ?_)
  · obtain ⟨l, sa, v, bk, tb, a, b, c, d, e, g⟩ := w
    exact ⟨l, sa, v, bk, tb, a, b, c, d, Same.none sm e, g⟩
  obtain ⟨l, sa, v, bk, tb, rfl, hll, dv, st, nsa, tl⟩ := w
  refine ⟨l, _, [.raw (.ref sa), .dat (tbD tb)], _, rfl, hll, .cons (.raw _) (.cons (.dat dv) .nil), rfl, txs_cons (tx_name 8 nd) (txs_cons (tx_name 9 nd) txs_nil), ?_⟩
  obtain ⟨cells, hcells⟩ : ∃ cells, cells = (List.range 8).map fun k => cellF ns (5 + k) := ⟨_, rfl⟩
  have lc : cells.length = 8 := by rw [hcells, List.length_map, List.length_range]
  refine sxs_cons (sx_unp (W := fun s => ∃ order ties, s = .dat (.list [lpD order, ltD ties]) ∧ RndOk hands order ties) (ex_call F__law_round hr2 (ea_cons (EX.cast (s2 := .dat (liD cells)) (ex_lc 6 (fun _ => true) (fun k => PyData.int (cellF ns (5 + k))) (ix_range B.range ex_int (by decide) (by decide)) (by decide) (blkOk_by (N := N__law_hall) (sc := defScope s__law_hall) (by decide +kernel)) (fun y hy s H C cl fp => rfl) (fun y hy hq s H C cl fp => EX.cast (ex_call F__law_cell hr (ea_cons (ex_var 0 rfl) (ea_cons (EX.cast (ex_addI ex_int (ex_var 6 rfl)) (congrArg di (hcd 5 y))) ea_nil)) (W := (· = di (cellF ns (5 + y)))) fun G _ => ⟨ns, 5 + y, rfl, by have : y < 8 := List.mem_range.mp hy; omega, rfl⟩) rfl) (fun s H C cl fp => pg_name nd rfl (Or.inl rfl)) nd) ?_) (ea_cons (ex_var 7 rfl) ea_nil)) fun G _ => ⟨cells, hands, rfl, lc, by omega, by omega, rfl⟩) fun s w => ?_)
  · rw [List.filter_eq_self.mpr fun _ _ => rfl, hcells, show liD _ = PyData.list _ from rfl, List.map_map]
    rfl
  obtain ⟨order, ties, rfl, rn⟩ := w
  refine ⟨_, tx_lst (ds := [lpD order, ltD ties]) (txs_cons (tx_name 10 nd) (txs_cons (tx_name 11 nd) txs_nil)), ?_⟩
  show SXs _ _ _ [.k (.sq ns), .k (di 4), .k (di 4), .k (.dat (lsD names)), .k (.dat (lsD acts)), .k (.dat (liD badges)), .un, .k (.dat (liD hands)), .k (.raw (.ref sa)), .k (.dat (tbD tb)), .k (.dat (lpD order)), .k (.dat (ltD ties)), .un, .un] _ _
  have ro : RoundOk acts order ties := ⟨ao, rn.nd, fun q hq => by rw [← hl]; exact rn.lt1 q hq, fun q hq => by rw [← hl]; exact rn.lt2 q hq, rn.rank, rn.few, fun t ht => by rw [← hl]; exact rn.tie t ht, rn.few2⟩
  refine sxs_cons (sx_asgG 12 (W := fun G' s => ∃ oa dx fd cd, s = .raw (.ref oa) ∧ G' oa = some (.ins CO dx (ofF (.ref sa) (.ref fd) (.ref cd))) ∧ G' fd = some (.dK []) ∧ G' cd = some (.dK []) ∧ fd ≠ cd ∧ G1 fd = none ∧ G1 cd = none) (exg_make F_Office hr2 (ea_cons (ex_var 8 rfl) ea_nil) fun G' y dy sm hy hdy hne => ⟨_, ⟨y, sa, dy, rfl, upd_same, rfl⟩, fun G'' s w => ⟨w.1, w.2.1, ?_⟩⟩) (fun G2 s w s2 => ?_) nd)
  · obtain ⟨_, _, dx, fd, cd, e1, e2, e3, e4, e5, e6⟩ := w
    have su : Same G' (upd (upd G' dy (.own y)) y (.ins CO dy [])) := (same_upd hdy).trans (same_upd (by rw [upd_ne (Ne.symm hne)]; exact hy))
    exact ⟨y, dx, fd, cd, rfl, e1, e2, e3, e4, Same.none (sm.trans su) e5, Same.none (sm.trans su) e6⟩
  obtain ⟨oa, dx, fd, cd, rfl, hOC, hfd, hcd2, fc, nfd, ncd⟩ := w
  have st2 := st.mono s2
  have sep2 : Sep ⟨CS, CC, CO, oa, sa, fd, cd⟩ G2 := by
    obtain ⟨dx1, u1, u2, u3, t1, g0, _, _, _, g4⟩ := st.ex
    intro dx v1 v2 v3 t z
    have z : G2 sa = some (.ins CS dx (stF v1 v2 v3 (.ref t))) := z
    rw [s2 _ _ g0] at z
    injection z with z
    injection z with _ _ z
    injection z with _ z
    injection z with _ z
    injection z with _ z
    injection z with z _
    injection z with _ z
    injection z with z
    subst z
    exact ⟨fun e => by rw [e] at g4; exact absurd (nfd.symm.trans g4) nofun, fun e => by rw [e] at g4; exact absurd (ncd.symm.trans g4) nofun⟩
  refine sxs_cons (sx_exprM (W := fun G' _ => Ch G2 G' fd ∧ FormAt ⟨CS, CC, CO, oa, sa, fd, cd⟩ G' (actAt names 6) acts order ties ∧ ∃ v, G' fd = some (.dK [(Sum.inr (actAt names 6), v)])) (exm_met (F_add_round oa sa fd cd) hr6 (ex_var 12 rfl) hOC (by rfl) (ea_cons (ex_ixM (f := PyData.str) (ex_var 3 rfl) ex_int (atN (k := 6) (actAt_get (by omega)))) (ea_cons (ex_call F__law_text hr (ea_cons (ex_var 4 rfl) (ea_cons (ex_var 10 rfl) (ea_cons (ex_var 11 rfl) ea_nil))) (W := (· = ds (textF acts order ties))) fun G _ => ⟨acts, order, ties, rfl, ro, rfl⟩) ea_nil)) fun G' sm => ⟨_, ⟨actAt names 6, acts, order, ties, rfl, ⟨dx, sm _ _ hOC⟩, sm _ _ hfd, ro, rfl⟩, fun G'' s w => ⟨(Ch.of sm).trans w.2.1, w.2.2⟩⟩) fun G3 s w3 => ?_)
  obtain ⟨ch, fo, ff⟩ := w3
  have gfd : G fd = none := Same.none s1 nfd
  have s3 : Same G G3 := same_ch (s1.trans s2) ch gfd
  have esa : G3 sa = G2 sa := by
    obtain ⟨dx1, u1, u2, u3, t1, g0, _⟩ := st2.ex
    rw [g0]
    exact ch _ _ (fun z => ins_ne g0 hfd z.symm) g0
  have off3 : OffAt ⟨CS, CC, CO, oa, sa, fd, cd⟩ G3 := ⟨dx, ch _ _ (fun z => ins_ne hOC hfd z.symm) hOC⟩
  have st3 : StfAt ⟨CS, CC, CO, oa, sa, fd, cd⟩ G3 (crewF badges fun _ => true) bk := st2.chK ch hfd fun dx v1 v2 v3 t z => (sep2 dx v1 v2 v3 t z).1
  have cc3 : G3 cd = some (.dK []) := ch _ _ fc.symm hcd2
  have sep3 : Sep ⟨CS, CC, CO, oa, sa, fd, cd⟩ G3 := sep2.mono esa
  refine sxs_cons (sx_asg 13 (W := (· = .dat (rowD acts order ties (List.replicate acts.length none)))) (ex_lst (ds := [lsD acts, lpD order, ltD ties, loD (List.replicate acts.length none)]) (ea_cons (ex_var 4 rfl) (ea_cons (ex_var 10 rfl) (ea_cons (ex_var 11 rfl) (ea_cons (EX.cast (EXN.ex (exn_rep ex_none trivial (ex_len B.len (ex_var 4 rfl) (.lst _)) (by omega) (by omega))) ?_) ea_nil)))) (Nat.le_of_ble_eq_true rfl)) (fun s w => ?_) nd)
  · rw [la, Int.toNat_natCast, show loD (List.replicate acts.length none) = .list ((List.replicate acts.length none).map encO) from rfl, List.map_replicate]
    rfl
  subst w
  show SXs _ _ _ [.k (.sq ns), .k (di 4), .k (di 4), .k (.dat (lsD names)), .k (.dat (lsD acts)), .k (.dat (liD badges)), .un, .k (.dat (liD hands)), .k (.raw (.ref sa)), .k (.dat (tbD tb)), .k (.dat (lpD order)), .k (.dat (ltD ties)), .k (.raw (.ref oa)), .k (.dat (rowD acts order ties (List.replicate acts.length none)))] _ _
  have hs1 := names_strOk ao
  refine sxs_one (sx_retG (exg_lstR (ss := [.raw (.ref oa), .raw (.ref sa), .dat (lsD names), .dat (liD badges), .dat (rowD acts order ties (List.replicate acts.length none)), .dat (llD (listsF badges acts tb)), .dat (liD hands)]) (ea_cons (ex_var 12 rfl) (ea_cons (ex_var 8 rfl) (ea_cons (ex_var 3 rfl) (ea_cons (ex_var 5 rfl) (ea_cons (ex_var 13 rfl) (ea_cons (ex_call F__law_lists hr (ea_cons (ex_var 5 rfl) (ea_cons (ex_var 4 rfl) (ea_cons (ex_var 9 rfl) ea_nil))) (W := (· = .dat (llD (listsF badges acts tb)))) fun G _ => ⟨badges, acts, tb, rfl, by omega, by omega, hs1, fun q hq => hs1 _ (tl.mem q hq).1, rfl⟩) (ea_cons (ex_var 7 rfl) ea_nil))))))) (Nat.le_of_ble_eq_true rfl)) fun G4 s w s4 => ?_)
  obtain ⟨l4, vs, rfl, hl4, svs⟩ := w
  cases svs with
  | cons q1 svs => cases svs with
    | cons q2 svs => cases svs with
      | cons q3 svs => cases svs with
        | cons q4 svs => cases svs with
          | cons q5 svs => cases svs with
            | cons q6 svs => cases svs with
              | cons q7 svs =>
                cases svs
                cases q1
                cases q2
                cases q3 with
                | dat q3 => cases q4 with
                  | dat q4 => cases q5 with
                    | dat q5 => cases q6 with
                      | dat q6 => cases q7 with
                        | dat q7 =>
                          refine fun G5 s5 => ⟨s3.trans (s4.trans s5), l4, oa, sa, fd, cd, names, badges, acts, order, ties, hands, bk, tb, _, _, _, _, _, rfl, s5 _ _ hl4, q3.mono s5, q4.mono s5, q5.mono s5, q6.mono s5, q7.mono s5, n7, ?_⟩
                          have s45 := s4.trans s5
                          exact ⟨off3.mono s45, st3.mono s45, fo.mono s45, ff.imp fun _ e => s45 _ _ e, s45 _ _ cc3, sep3.mono (by
                            obtain ⟨dx1, u1, u2, u3, t1, g0, _⟩ := st3.ex
                            have g0 : G3 sa = _ := g0
                            show G5 sa = G3 sa
                            rw [g0]
                            exact s45 _ _ g0), fc, tl, by omega, hl, hb, b4, nb, rn⟩
end
end Dl
namespace Dl
open PySem PySem.Spec PyProof.Rows L2
/-! ### the law -/
section
variable {p : Plc} {G G' : Hp} {n : Int} {name : Str} {ca : Addr} {badges : List Int} {acts : List Str} {order : List (Nat × Nat)} {ties : List Tie} {hands : List Int} {marks : List (Option Int)} {bk : List Rule} {tb : List (Int × Str)}
theorem HallAt.begin (h : HallAt p G name badges acts order ties hands bk tb) (c : Ch G G' p.cd) (e : G' p.cd = some (.dK [(Sum.inl n, .ref ca)])) (cs : CaseAt p.CC G' ca acts order ties marks) : Run p G' n name ca acts order ties marks (crewF badges fun _ => true) bk := by
  have hd := h.cc
  have m1 : ∀ x xs, G x = some (.lst xs) → G' x = some (.lst xs) := fun x xs e => c x _ (fun z => by rw [z, hd] at e; cases e) e
  have m2 : ∀ x xs, G x = some (.tup xs) → G' x = some (.tup xs) := fun x xs e => c x _ (fun z => by rw [z, hd] at e; cases e) e
  obtain ⟨v, ef⟩ := h.ff
  have ef' := c _ _ h.fc ef
  obtain ⟨ro, v2, rd, dq⟩ := h.form
  refine ⟨h.off.ch c hd, h.stf.chK c hd fun dx v1 v2 v3 t z => (h.sep dx v1 v2 v3 t z).2, ⟨ro, v2, ?_, Dq.monoL m1 m2 _ _ dq⟩, ⟨v, ef'⟩, e, cs⟩
  rcases rd with rd | ⟨o, rd⟩
  · exact .inl (c _ _ h.fc rd)
  · exact .inr ⟨o, c _ _ h.fc rd⟩
theorem ready_filter (hl : marks.length = acts.length) : (List.range acts.length).filter (fun k => decide (dueF order marks k = ("" : Str))) = readyF order marks := by
  unfold readyF
  rw [hl]
  refine List.filter_congr fun k hk => ?_
  have hk : k < marks.length := by rw [hl]; exact List.mem_range.mp hk
  have h1 := due_ready (order := order) hk
  rw [mem_ready] at h1
  rw [Bool.eq_iff_iff, decide_eq_true_eq, h1, Bool.and_eq_true, Option.isNone_iff_eq_none]
  exact ⟨fun z => z.2, fun z => ⟨hk, z⟩⟩
end
section
variable {P : Program} {w : World} {K : PySem.W.Frag} {mg : Str → Option Value} {base : Heap} {CS CC CO : Addr}
abbrev s_law : Stmt := topS 111
abbrev N_law : List Str := ["script", "hall", "office", "staff", "name", "badges", "row", "may", "hands", "acts", "order", "ties", "done", "number", "k", "act", "free_acts", "step", "table", "badge", "cell"]
theorem sc_law : FnScope N_law ["script"] (defScope s_law) := ⟨rfl, rfl, rfl, by decide +kernel, rfl, by decide +kernel, by decide +kernel⟩
theorem hb_law (kV doc pm : Value) (an : Option Addr) (cdv ct : Value) (us : List Value) (hl : us.length = 1) : bindArgs (PySem.W.fnOf "law" "law" (defArgs s_law) (defBody s_law) (defScope s_law) .none kV doc pm an cdv ct) ⟨us, []⟩ = pure ((["script"] : List Str).zip us) := match us, hl with
  | [_], _ => rfl
def R_law : PSpecM := fun _ ss W => ∃ (ns : List Int), ss = [.sq ns] ∧ W = fun _ s => s = db true
set_option maxHeartbeats 4000000 in
theorem ok_law (B : Bt mg) (SC : StaffC K CS) (CaC : CaseC K CC) (OC : OffC K CO) (hne : CS ≠ CC ∧ CS ≠ CO ∧ CC ≠ CO) {f : Addr} {fd' : FuncData} (Fl : FunD K "law" "law" (defArgs s_law) (defBody s_law) (defScope s_law) [] [] f fd') (F__law_cell : Fn P w K mg base "_law_cell" ["script", "k"] R__law_cell 1)
    (F__law_hall : FnG P w K mg base "_law_hall" ["script", "many", "wide"] (R__law_hall CS CC CO) 7) (F_begin : ∀ oa sa fd cd, MtM P w K mg base CO "begin" ["self", "number", "name"] (R_begin ⟨CS, CC, CO, oa, sa, fd, cd⟩) 12)
    (F_take : ∀ oa sa fd cd, MtM P w K mg base CO "take" ["self", "number", "act", "badge"] (R_take ⟨CS, CC, CO, oa, sa, fd, cd⟩) 13) (F__law_step_due : Fn P w K mg base "_law_step_due" ["files", "number", "act"] R__law_step_due 1)
    (F__law_marked : Fn P w K mg base "_law_marked" ["done", "step", "badge"] R__law_marked 1) (F__law_turned : FnM P w K mg base "_law_turned" ["staff", "table", "cell", "badges", "acts"] (R__law_turned CS) 4)
    (F__law_lists : Fn P w K mg base "_law_lists" ["badges", "acts", "table"] R__law_lists 1) (F__law_stands : ∀ oa sa fd cd, Fn P w K mg base "_law_stands" ["office", "number", "name", "row", "may"] (R__law_stands ⟨CS, CC, CO, oa, sa, fd, cd⟩) 14) :
    FnOk P w K mg base CX0 15 f fd' ["script"] (spM K R_law) := by
  refine fn_M Fl sc_law (fun G ss W ⟨_, e, _⟩ => by rw [e]; rfl) fun cdv A outer s H hr14 G ss W h => ?_
  obtain ⟨ns, rfl, rfl⟩ := h
  have nd := (sc_law).nd
  have hu := hu_of2 hr14
  have hu1 := hu_of1 hr14
  have hr13 := hr14.mono (show 13 ≤ 14 by decide)
  have hr12 := hr14.mono (show 12 ≤ 14 by decide)
  have hr7 := hr14.mono (show 7 ≤ 14 by decide)
  have hr4 := hr14.mono (show 4 ≤ 14 by decide)
  have hr := hr14.mono (show 1 ≤ 14 by decide)
  have hp18 : (10 : Int) ^ (18 : Int).toNat = 1000000000000000000 := by decide +kernel
  have hcd : ∀ (c : Nat) (x : Nat), ((c : Nat) : Int) + ((x : Nat) : Int) = ((c + x : Nat) : Int) := fun c x => by omega
  refine sxs_cons (sx_asgG 1 (W := W__law_hall CS CC CO) (exg_call F__law_hall hr7 (ea_cons (ex_var 0 rfl) (ea_cons ex_int (ea_cons ex_int ea_nil))) fun G' sm => ⟨_, ⟨ns, rfl, rfl⟩, fun G'' s w => w⟩) (fun G1 s w s1 => ?_) nd)
  obtain ⟨l, oa, sa, fd, cd, names, badges, acts, order, ties, hands, bk, tb, vn, vb, vr, vm, vh, rfl, hl, dn, db_, dr, dm, dh, n7, ha⟩ := w
  obtain ⟨name, hname⟩ : ∃ name, name = actAt names 6 := ⟨_, rfl⟩
  obtain ⟨may, hmay⟩ : ∃ may, may = listsF badges acts tb := ⟨_, rfl⟩
  rw [← hname] at ha
  rw [← hmay] at dm
  refine sxs_cons (sx_asg 2 (W := (· = .raw (.ref oa))) (ex_ixR (ex_var 1 rfl) ex_int hl (by rfl) (.raw _)) (fun s w => ?_) nd)
  subst w
  refine sxs_cons (sx_asg 3 (W := (· = .raw (.ref sa))) (ex_ixR (ex_var 1 rfl) ex_int hl (by rfl) (.raw _)) (fun s w => ?_) nd)
  subst w
  refine sxs_cons (sx_asg 4 (W := (· = ds name)) (EX.cast (ex_ixM (f := PyData.str) (xs := names) (ex_ixR (ex_var 1 rfl) ex_int hl (by rfl) (.dat dn)) ex_int (atN (k := 6) (actAt_get (by omega)))) (by rw [hname])) (fun s w => ?_) nd)
  subst w
  refine sxs_cons (sx_asg 5 (W := (· = .dat (liD badges))) (ex_ixR (ex_var 1 rfl) ex_int hl (by rfl) (.dat db_)) (fun s w => ?_) nd)
  subst w
  refine sxs_cons (sx_asg 6 (W := (· = .raw vr)) (ex_ixR (ex_var 1 rfl) ex_int hl (by rfl) (.raw _)) (fun s w => ?_) nd)
  subst w
  refine sxs_cons (sx_asg 7 (W := (· = .dat (llD may))) (ex_ixR (ex_var 1 rfl) ex_int hl (by rfl) (.dat dm)) (fun s w => ?_) nd)
  subst w
  refine sxs_cons (sx_asg 8 (W := (· = .dat (liD hands))) (ex_ixR (ex_var 1 rfl) ex_int hl (by rfl) (.dat dh)) (fun s w => ?_) nd)
  subst w
  show SXs _ _ _ [.k (.sq ns), .k (.raw (.ref l)), .k (.raw (.ref oa)), .k (.raw (.ref sa)), .k (ds name), .k (.dat (liD badges)), .k (.raw vr), .k (.dat (llD may)), .k (.dat (liD hands)), .un, .un, .un, .un, .un, .un, .un, .un, .un, .un, .un, .un] _ _
  refine sxs_cons (sx_unp (W := (· = .dat (rowD acts order ties (List.replicate acts.length none)))) (ex_dq (ex_var 6 rfl) dr) fun s w => ⟨_, by
    subst w
    exact tx_lst (txs_cons (tx_name 9 nd) (txs_cons (tx_name 10 nd) (txs_cons (tx_name 11 nd) (txs_cons (tx_name 12 nd) txs_nil)))), ?_⟩)
  obtain ⟨n, hn⟩ : ∃ n, n = 1 + cellF ns 13 % 1000000000000000000 := ⟨_, rfl⟩
  refine sxs_cons (sx_asg 13 (W := (· = di n)) (EX.cast (ex_addI ex_int (ex_mod (ex_call F__law_cell hr (ea_cons (ex_var 0 rfl) (ea_cons ex_int ea_nil)) (W := (· = di (cellF ns 13))) fun G _ => ⟨ns, 13, rfl, by omega, rfl⟩) (ex_pow ex_int ex_int ⟨by decide, by decide, by decide⟩) (by decide +kernel))) (by rw [hp18, hn])) (fun s w => ?_) nd)
  subst w
  show SXs _ _ _ [.k (.sq ns), .k (.raw (.ref l)), .k (.raw (.ref oa)), .k (.raw (.ref sa)), .k (ds name), .k (.dat (liD badges)), .k (.raw vr), .k (.dat (llD may)), .k (.dat (liD hands)), .k (.dat (lsD acts)), .k (.dat (lpD order)), .k (.dat (ltD ties)), .k (.dat (loD (List.replicate acts.length none))), .k (di n), .un, .un, .un, .un, .un, .un, .un] _ _
  have a4 := ha.a4
  have hhl := ha.hl
  have rn := ha.rn
  have nb := ha.nb
  have b4 := ha.b4
  have ro := ha.form.1
  have ao := ro.ac
  have a1 := ao.one
  have tl := ha.tl
  have la : (acts.map PyData.str).length = acts.length := List.length_map _
  have hplan := plan_hall tl hhl ha.hb rn
  have hmay2 : mayL (crewF badges fun _ => true) bk acts = may := by rw [hmay, lists_eq tl.t acts]
  have ok : PlcOk ⟨CS, CC, CO, oa, sa, fd, cd⟩ := ⟨hne.1, hne.2.1, hne.2.2⟩
  obtain ⟨dx, hOC⟩ := ha.off
  have hcc := ha.cc
  refine sxs_cons (sx_exprM (W := fun G' _ => Ch G1 G' cd ∧ ∃ ca, G' cd = some (.dK [(Sum.inl n, .ref ca)]) ∧ CaseAt CC G' ca acts order ties (List.replicate acts.length none)) (exm_met (F_begin oa sa fd cd) hr12 (ex_var 2 rfl) hOC (by rfl) (ea_cons (ex_var 13 rfl) (ea_cons (ex_var 4 rfl) ea_nil)) fun G' sm => ⟨_, ⟨n, name, acts, order, ties, _, bk, rfl, ha.off.mono sm, ha.stf.mono sm, ha.form.mono sm, sm _ _ hcc, ⟨hands, hplan⟩, rfl⟩, fun G'' s w => ⟨(Ch.of sm).trans w.2.1, w.2.2⟩⟩) fun G2 s w => ?_)
  obtain ⟨ch, ca, e2, cs2⟩ := w
  have ru2 := ha.begin ch e2 cs2
  have dr2 : Dq G2 vr (rowD acts order ties (List.replicate acts.length none)) := by
    have m1 : ∀ x xs, G1 x = some (.lst xs) → G2 x = some (.lst xs) := fun x xs e => ch x _ (fun z => by rw [z, hcc] at e; cases e) e
    have m2 : ∀ x xs, G1 x = some (.tup xs) → G2 x = some (.tup xs) := fun x xs e => ch x _ (fun z => by rw [z, hcc] at e; cases e) e
    exact Dq.monoL m1 m2 _ _ dr
  have mk0 : MarkOk hands (List.replicate acts.length none) 0 := by rw [← hhl]; exact MarkOk.nil hands
  obtain ⟨m, hm, hma⟩ : ∃ m : Nat, (m : Int) = cellF ns 14 % ((acts.length : Nat) + 1) ∧ m ≤ acts.length := by
    have h1 := Int.emod_nonneg (cellF ns 14) (show ((acts.length : Nat) : Int) + 1 ≠ 0 by omega)
    have h2 := Int.emod_lt_of_pos (cellF ns 14) (show (0 : Int) < (acts.length : Nat) + 1 by omega)
    exact ⟨(cellF ns 14 % ((acts.length : Nat) + 1)).toNat, by omega, by omega⟩
  have hfew := ro.few
  have hlt1 := ro.lt1
  refine sxs_cons (sx_forT (ys := List.range m) (ι := fun k : Nat => di (k : Nat)) (ix_cast (ix_range B.range (ex_mod (ex_call F__law_cell hr (ea_cons (ex_var 0 rfl) (ea_cons ex_int ea_nil)) (W := (· = di (cellF ns 14))) fun G _ => ⟨ns, 14, rfl, by omega, rfl⟩) (ex_addI (ex_len B.len (ex_var 9 rfl) (.lst _)) ex_int) (by rw [la]; omega)) (by rw [la, ← hm]; omega) (by rw [la, ← hm]; omega)) (by rw [la, ← hm, Int.toNat_natCast])) (fun i Ψ Bb => ∃ G3 marks vr u14 u15 u16 u17, Ψ = phS G3 ∧ Run ⟨CS, CC, CO, oa, sa, fd, cd⟩ G3 n name ca acts order ties marks (crewF badges fun _ => true) bk ∧ Dq G3 vr (rowD acts order ties marks) ∧ MarkOk hands marks i ∧
    Bb = [.k (.sq ns), .k (.raw (.ref l)), .k (.raw (.ref oa)), .k (.raw (.ref sa)), .k (ds name), .k (.dat (liD badges)), .k (.raw vr), .k (.dat (llD may)), .k (.dat (liD hands)), .k (.dat (lsD acts)), .k (.dat (lpD order)), .k (.dat (ltD ties)), .k (.dat (loD (List.replicate acts.length none))), .k (di n), u14, u15, u16, u17, .un, .un, .un])
    ⟨G2, _, vr, _, _, _, _, rfl, ru2, dr2, mk0, rfl⟩ (fun i k Ψ Bb e iv => ?_) fun Ψ Bb iv => ?_)
  · obtain ⟨G3, marks, vr, u14, u15, u16, u17, rfl, ru, dr3, mk, rfl⟩ := iv
    have hk : k = i ∧ i < m := by
      obtain ⟨h1, h2⟩ := List.getElem?_eq_some_iff.mp e
      rw [List.length_range] at h1
      rw [List.getElem_range] at h2
      exact ⟨h2.symm, h1⟩
    obtain ⟨rfl, hkm⟩ := hk
    have hml : marks.length = acts.length := by rw [mk.len, hhl]
    have hno : none ∈ marks := mk.has (by omega)
    obtain ⟨dx3, hOC3⟩ := id ru.off
    refine ⟨_, tx_name 14 nd, ?_⟩
    refine sxs_cons (sx_lc 16 15 (ys := List.range acts.length) (ι := fun y => ds (actAt acts y)) (fun y => decide (dueF order marks y = ("" : Str))) (fun y => PyData.str (actAt acts y)) (ix_cast (ix_lstM (f := PyData.str) (ex_var 9 rfl)) ?_) (by rw [List.length_range]; omega) (blkOk_by (N := N_law) (sc := defScope s_law) (by decide +kernel)) (fun y hy s H C cl fp => (eb_eqS (x := dueF order marks y) (ex_call F__law_step_due hr (ea_cons (ex_dict1 (ex_var 13 rfl) (ex_var 6 rfl) rfl) (ea_cons (ex_var 13 rfl) (ea_cons (ex_var 15 rfl) ea_nil))) (W := (· = ds (dueF order marks y))) fun G' sm => ⟨acts, order, ties, marks, n, vr, y, rfl, dr3.mono sm, ao, List.mem_range.mp hy, hml, hno, hlt1, hfew, rfl⟩) ex_str).t) (fun y hy hq s H C cl fp => ex_var 15 rfl) (fun s H C cl fp => pg_name nd rfl (Or.inl rfl)) nd ?_)
    · refine List.ext_getElem? fun j => ?_
      rw [List.getElem?_map, List.getElem?_map]
      by_cases hj : j < acts.length
      · rw [actAt_get hj, List.getElem?_range hj]
        rfl
      · rw [List.getElem?_eq_none (by omega), List.getElem?_eq_none (by rw [List.length_range]; omega)]
        rfl
    rw [ready_filter hml]
    have hrne := ready_ne (order := order) (marks := marks) ro.rank (fun q hq => by rw [hml]; exact hlt1 q hq) hno
    have hrl : 0 < (readyF order marks).length := List.length_pos_iff.mpr hrne
    have hrm : ((readyF order marks).map fun y => PyData.str (actAt acts y)).length = (readyF order marks).length := List.length_map _
    obtain ⟨j, hj, hjl⟩ : ∃ j : Nat, (j : Int) = cellF ns (15 + k) % ((readyF order marks).length : Nat) ∧ j < (readyF order marks).length := by
      have h1 := Int.emod_nonneg (cellF ns (15 + k)) (show (((readyF order marks).length : Nat) : Int) ≠ 0 by omega)
      have h2 := Int.emod_lt_of_pos (cellF ns (15 + k)) (show (0 : Int) < ((readyF order marks).length : Nat) by omega)
      exact ⟨(cellF ns (15 + k) % ((readyF order marks).length : Nat)).toNat, by omega, by omega⟩
    obtain ⟨k0, hk0⟩ : ∃ k0, (readyF order marks)[j]? = some k0 := ⟨_, List.getElem?_eq_getElem hjl⟩
    have hrd := List.mem_of_getElem? hk0
    obtain ⟨q1, q2, q3⟩ := mem_ready.mp hrd
    have hk0a : k0 < acts.length := by omega
    have hmk : marks[k0]? = some none := by rw [getO q1, q2]
    have gh : hands[k0]? = some (hands.getD k0 0) := getDS (0 : Int) (by omega)
    refine sxs_cons (sx_asg 15 (W := (· = ds (actAt acts k0))) (ex_ixM (f := fun y => PyData.str (actAt acts y)) (xs := readyF order marks) (ex_var 16 rfl) (ex_mod (ex_call F__law_cell hr (ea_cons (ex_var 0 rfl) (ea_cons (EX.cast (ex_addI ex_int (ex_var 14 rfl)) (congrArg di (hcd 15 k))) ea_nil)) (W := (· = di (cellF ns (15 + k)))) fun G _ => ⟨ns, 15 + k, rfl, by omega, rfl⟩) (ex_len B.len (ex_var 16 rfl) (.lst _)) (by rw [hrm]; omega)) (by rw [hrm, ← hj]; exact atN hk0)) (fun s w => ?_) nd)
    subst w
    have mk2 := mk.set hmk
    have hplan2 : PlanOk (heldF (mayL (crewF badges fun _ => true) bk acts) (marks.set k0 (some (hands.getD k0 0)))) ties hands := plan_marks mk2 hplan
    obtain ⟨dxc, c1, c2, c3, c4, hC, _⟩ := id ru.case_.ex
    refine sxs_cons (sx_exprM (W := fun G' _ => Ch G3 G' ca ∧ CaseAt CC G' ca acts order ties (marks.set k0 (some (hands.getD k0 0)))) (exm_met (F_take oa sa fd cd) hr13 (ex_var 2 rfl) hOC3 (by rfl) (ea_cons (ex_var 13 rfl) (ea_cons (ex_var 15 rfl) (ea_cons (ex_ixM (f := PyData.int) (ex_var 8 rfl) (ex_index hu (ex_var 9 rfl) (ex_var 15 rfl) (names_strOk ao) (actAt_get hk0a) (act_first ao hk0a)) (atN gh)) ea_nil))) fun G' sm => ⟨_, ⟨n, ca, acts, order, ties, marks, _, bk, k0, hands.getD k0 0, rfl, ru.off.mono sm, ru.stf.mono sm, .inl (sm _ _ ru.file), ru.case_.mono sm, hmk, hrd, plan_may hplan hk0a hhl, ⟨hands, hplan2⟩, rfl⟩, fun G'' s w => ⟨(Ch.of sm).trans w.2.1, w.2.2⟩⟩) fun G4 s w => ?_)
    have ru4 := ru.take ok w.1 w.2
    have dr4 := dr3.monoD (w.1.sameD hC)
    refine sxs_cons (sx_asg 17 (W := (· = di (k0 : Nat))) (ex_index hu (ex_var 9 rfl) (ex_var 15 rfl) (names_strOk ao) (actAt_get hk0a) (act_first ao hk0a)) (fun s w => ?_) nd)
    subst w
    refine sxs_one (sx_asgG 6 (exg_raw (d := rowD acts order ties (marks.set k0 (some (hands.getD k0 0)))) (ex_lst (ds := [lsD acts, lpD order, ltD ties, loD (marks.set k0 (some (hands.getD k0 0)))]) (ea_cons (ex_var 9 rfl) (ea_cons (ex_var 10 rfl) (ea_cons (ex_var 11 rfl) (ea_cons (ex_call F__law_marked hr (ea_cons (ex_ixL (ds := [lsD acts, lpD order, ltD ties, loD marks]) (ex_dq (ex_var 6 rfl) dr4) ex_int (by rfl)) (ea_cons (ex_var 17 rfl) (ea_cons (ex_ixM (f := PyData.int) (ex_var 8 rfl) (ex_var 17 rfl) (atN gh)) ea_nil))) (W := (· = .dat (loD (marks.set k0 (some (hands.getD k0 0)))))) fun G _ => ⟨marks, k0, hands.getD k0 0, rfl, by omega, rfl⟩) ea_nil)))) (Nat.le_of_ble_eq_true rfl)) fun s w => w) (fun G5 s w5 s5 => ?_) nd)
    obtain ⟨v5, rfl, dr5⟩ := w5
    exact ⟨G5, _, v5, _, _, _, _, rfl, ru4.mono s5, dr5, mk2, rfl⟩
  obtain ⟨G3, marks, vr, u14, u15, u16, u17, rfl, ru, dr3, mk, rfl⟩ := iv
  refine sxs_cons (sx_asg 18 (W := (· = .dat (tbD []))) (ex_lst (ds := []) ea_nil (Nat.le_of_ble_eq_true rfl)) (fun s w => ?_) nd)
  subst w
  have mlen : may.length = acts.length := by
    rw [← hmay2]
    exact mayL_len _ _ _
  have mrow : ∀ r ∈ may, r.length ≤ 4 := fun r hr => by
    rw [hmay] at hr
    unfold listsF at hr
    obtain ⟨a, _, rfl⟩ := List.mem_map.mp hr
    refine Nat.le_trans (List.length_filter_le _ _) ?_
    rw [(sortI_perm _).length_eq]
    omega
  refine sxs_cons (sx_forT (ix_range B.range (ex_len B.len (ex_var 9 rfl) (.lst _)) (by omega) (by omega)) (fun i Ψ Bb => Ψ = phS G3 ∧ ∃ u14 u15 u16 u17 u19, Bb = [.k (.sq ns), .k (.raw (.ref l)), .k (.raw (.ref oa)), .k (.raw (.ref sa)), .k (ds name), .k (.dat (liD badges)), .k (.raw vr), .k (.dat (llD may)), .k (.dat (liD hands)), .k (.dat (lsD acts)), .k (.dat (lpD order)), .k (.dat (ltD ties)), .k (.dat (loD (List.replicate acts.length none))), .k (di n), u14, u15, u16, u17, .k (.dat (tbD (tabF acts may i))), u19, .un])
    ⟨rfl, _, _, _, _, _, rfl⟩ (fun i k Ψ Bb e iv => ?_) fun Ψ Bb iv => ?_)
  · obtain ⟨rfl, u14, u15, u16, u17, u19, rfl⟩ := iv
    have hk : k = i ∧ i < acts.length := by
      obtain ⟨h1, h2⟩ := List.getElem?_eq_some_iff.mp e
      rw [List.length_range, Int.toNat_natCast, la] at h1
      rw [List.getElem_range] at h2
      exact ⟨h2.symm, h1⟩
    obtain ⟨rfl, hk⟩ := hk
    have gm : may[k]? = some (may.getD k []) := getDS [] (by omega)
    have tlen := tabF_len mrow (acts := acts) k
    have mk4 := mrow _ (List.mem_of_getElem? gm)
    refine ⟨_, tx_name 14 nd, sxs_one (sx_asg 18 (W := (· = .dat (tbD (tabF acts may (k + 1))))) (EX.cast (ex_cat (ex_var 18 rfl) (ex_lc 19 (ys := may.getD k []) (ι := fun b => di b) (fun _ => true) (fun b => encBA (b, actAt acts k)) (ix_lstM (ex_ixM (f := liD) (ex_var 7 rfl) (ex_var 14 rfl) (atN gm))) (by omega) (blkOk_by (N := N_law) (sc := defScope s_law) (by decide +kernel)) (fun y hy s H C cl fp => rfl) (fun y hy hq s H C cl fp => ex_tup (ds := [.int y, .str (actAt acts k)]) (ea_cons (ex_var 19 rfl) (ea_cons (ex_ixM (f := PyData.str) (ex_var 9 rfl) (ex_var 14 rfl) (atN (actAt_get hk))) ea_nil)) (Nat.le_of_ble_eq_true rfl)) (fun s H C cl fp => pg_name nd rfl (Or.inl rfl)) nd) ?_) ?_) (fun s w => ?_) nd)⟩
    · rw [List.filter_eq_self.mpr fun _ _ => rfl, List.length_map, List.length_map]
      exact Nat.le_trans (show _ ≤ 1000 by omega) (by decide)
    · rw [List.filter_eq_self.mpr fun _ _ => rfl, show tbD (tabF acts may (k + 1)) = .list ((tabF acts may (k + 1)).map encBA) from rfl, tabF_succ, List.map_append, List.map_map]
      rfl
    · subst w
      exact ⟨rfl, _, _, _, _, _, rfl⟩
  obtain ⟨rfl, u14, u15, u16, u17, u19, rfl⟩ := iv
  rw [List.length_range, Int.toNat_natCast, la]
  have ti0 : TInv (fun _ => true) bk (tabF acts may acts.length) := by
    rw [hmay]
    exact tab_hall tl
  have tlen0 := tabF_len mrow (acts := acts) acts.length
  have cells6 : (cutL ns (some 19) (some 25)).length ≤ 6 := by
    unfold cutL
    rw [show (19 : Int) = ((19 : Nat) : Int) from rfl, show (25 : Int) = ((25 : Nat) : Int) from rfl, HT.sIx_nat, HT.sIx_nat, List.length_take]
    omega
  have hs1 := names_strOk ao
  have tm0 : ∀ q ∈ tabF acts may acts.length, q.2 ∈ acts := fun q hq => by
    obtain ⟨k, hk, _, e⟩ := tabF_mem.mp (show (q.1, q.2) ∈ _ from hq)
    rw [e]
    exact actAt_mem hk
  have cb := tl.cb
  refine sxs_cons (sx_forT (ix_lstM (ex_sliceQ (ex_var 0 rfl) (eo_some ex_int) (eo_some ex_int))) (fun i Ψ Bb => ∃ G4 on bk tb u14 u15 u16 u17 u19 u20, Ψ = phS G4 ∧ Run ⟨CS, CC, CO, oa, sa, fd, cd⟩ G4 n name ca acts order ties marks (crewF badges on) bk ∧ Dq G4 vr (rowD acts order ties marks) ∧ TInv on bk tb ∧ (∀ q ∈ tb, q.2 ∈ acts) ∧ bk.length ≤ 16 + i ∧ tb.length ≤ 16 + i ∧
    Bb = [.k (.sq ns), .k (.raw (.ref l)), .k (.raw (.ref oa)), .k (.raw (.ref sa)), .k (ds name), .k (.dat (liD badges)), .k (.raw vr), .k (.dat (llD may)), .k (.dat (liD hands)), .k (.dat (lsD acts)), .k (.dat (lpD order)), .k (.dat (ltD ties)), .k (.dat (loD (List.replicate acts.length none))), .k (di n), u14, u15, u16, u17, .k (.dat (tbD tb)), u19, u20])
    ⟨G3, _, bk, _, _, _, _, _, _, _, rfl, ru, dr3, ti0, tm0, by omega, by omega, rfl⟩ (fun i c Ψ Bb e iv => ?_) fun Ψ Bb iv => ?_)
  · obtain ⟨G4, on, bk, tb, u14, u15, u16, u17, u19, u20, rfl, ru, dr4, ti, tm, hb16, ht16, rfl⟩ := iv
    have hi6 : i < 6 := by
      have := (List.getElem?_eq_some_iff.mp e).1
      omega
    refine ⟨_, tx_name 20 nd, ?_⟩
    refine sxs_cons (sx_asgM 18 (W := W__law_turned CS G4 sa badges acts bk tb) (exm_call F__law_turned hr4 (ea_cons (ex_var 3 rfl) (ea_cons (ex_var 18 rfl) (ea_cons (ex_mod (ex_mulI (ex_var 20 rfl) ex_int (.inr ⟨by decide, by decide⟩)) ex_int (by decide)) (ea_cons (ex_var 5 rfl) (ea_cons (ex_var 9 rfl) ea_nil))))) fun G' sm => ⟨_, ⟨sa, tb, c * 48271 % 2147483647, badges, acts, on, bk, rfl, nb, b4, a1, by omega, hs1, tm, ru.stf.mono sm, ti, by omega, by omega, rfl⟩, fun G'' s w => ⟨(Ch.of sm).trans w.1, w.2⟩⟩) (fun G5 s w => ?_) nd)
    obtain ⟨ch5, on', bk', tb', rfl, st5, ti5, hb5, ht5, tm5⟩ := w
    obtain ⟨dx5, w1, w2, w3, t5, hS, _⟩ := id ru.stf.ex
    have ru5 := ru.turn ok ch5 st5
    have dr5 := dr4.monoD (ch5.sameD hS)
    refine sxs_one (sx_if (k := false) (eb_not (c1 := true) (eb_of (ex_call (F__law_stands oa sa fd cd) hr14 (ea_cons (ex_var 2 rfl) (ea_cons (ex_var 13 rfl) (ea_cons (ex_var 4 rfl) (ea_cons (ex_dq (ex_var 6 rfl) dr5) (ea_cons (EX.cast (s2 := .dat (llD (mayL (crewF badges on') bk' acts))) (ex_call F__law_lists hr (ea_cons (ex_var 5 rfl) (ea_cons (ex_var 9 rfl) (ea_cons (ex_var 18 rfl) ea_nil))) (W := (· = .dat (llD (listsF badges acts tb')))) fun G _ => ⟨badges, acts, tb', rfl, by omega, by omega, hs1, fun q hq => hs1 _ (tm5 q hq), rfl⟩) (by rw [lists_eq ti5 acts])) ea_nil))))) (W := (· = db true)) fun G' sm => ⟨n, name, ca, acts, order, ties, marks, _, bk', rfl, ru5.mono sm, rfl⟩))).t (fun hk => by cases hk) fun _ => sxs_nil ?_)
    exact ⟨G5, on', bk', tb', _, _, _, _, _, _, rfl, ru5, dr5, ti5, tm5, by omega, by omega, rfl⟩
  obtain ⟨G5, on', bk', tb', u14, u15, u16, u17, u19, u20, rfl, ru5, dr5, ti5, tm5, hb16, ht16, rfl⟩ := iv
  exact sxs_one (sx_ret (W := (· = db true)) (ex_call (F__law_stands oa sa fd cd) hr14 (ea_cons (ex_var 2 rfl) (ea_cons (ex_var 13 rfl) (ea_cons (ex_var 4 rfl) (ea_cons (ex_dq (ex_var 6 rfl) dr5) (ea_cons (EX.cast (s2 := .dat (llD (mayL (crewF badges on') bk' acts))) (ex_call F__law_lists hr (ea_cons (ex_var 5 rfl) (ea_cons (ex_var 9 rfl) (ea_cons (ex_var 18 rfl) ea_nil))) (W := (· = .dat (llD (listsF badges acts tb')))) fun G _ => ⟨badges, acts, tb', rfl, by omega, by omega, hs1, fun q hq => hs1 _ (tm5 q hq), rfl⟩) (by rw [lists_eq ti5 acts])) ea_nil))))) (W := (· = db true)) fun G' sm => ⟨n, name, ca, acts, order, ties, marks, _, bk', rfl, ru5.mono sm, rfl⟩) fun s w G' _ => w)
end
end Dl
namespace Dl
open PySem PySem.Spec PyProof.Rows L2
/-! ### all the defs together -/
structure Wd (K : PySem.W.Frag) (mg : Str → Option Value) (CS CC CO : Addr) : Prop where
  B : Bt mg
  KY : KeysAt K mg
  SC : StaffC K CS
  CaC : CaseC K CC
  OC : OffC K CO
  ne : CS ≠ CC ∧ CS ≠ CO ∧ CC ≠ CO
  d_free : DefAt K mg "free" s_free
  d_next_free : DefAt K mg "next_free" s_next_free
  d_settled : DefAt K mg "settled" s_settled
  d_ring : DefAt K mg "ring" s_ring
  d_ready : DefAt K mg "ready" s_ready
  d_common : DefAt K mg "common" s_common
  d_without : DefAt K mg "without" s_without
  d_joined : DefAt K mg "joined" s_joined
  d_width : DefAt K mg "width" s_width
  d_grown : DefAt K mg "grown" s_grown
  d_breaks : DefAt K mg "breaks" s_breaks
  d_first_broken : DefAt K mg "first_broken" s_first_broken
  d_pools_of : DefAt K mg "pools_of" s_pools_of
  d_held : DefAt K mg "held" s_held
  d_struck : DefAt K mg "struck" s_struck
  d_seek : DefAt K mg "seek" s_seek
  d_deal : DefAt K mg "deal" s_deal
  d_sought : DefAt K mg "sought" s_sought
  d_plan : DefAt K mg "plan" s_plan
  d_shut : DefAt K mg "shut" s_shut
  d_rank : DefAt K mg "rank" s_rank
  d_strikes : DefAt K mg "strikes" s_strikes
  d_mend : DefAt K mg "mend" s_mend
  d_is_name : DefAt K mg "is_name" s_is_name
  d_acts_of : DefAt K mg "acts_of" s_acts_of
  d_place_of : DefAt K mg "place_of" s_place_of
  d_places_of : DefAt K mg "places_of" s_places_of
  d_tie_of : DefAt K mg "tie_of" s_tie_of
  d_read_round : DefAt K mg "read_round" s_read_round
  d_next_above : DefAt K mg "next_above" s_next_above
  d_reached : DefAt K mg "reached" s_reached
  d_concerning : DefAt K mg "concerning" s_concerning
  d_behind_others : DefAt K mg "behind_others" s_behind_others
  d_nearest : DefAt K mg "nearest" s_nearest
  d_allowed : DefAt K mg "allowed" s_allowed
  d_is_whole : DefAt K mg "is_whole" s_is_whole
  d_Staff_need : MetAt K CS "need" "Staff.need" s_Staff_need
  d_Staff_others : MetAt K CS "others" "Staff.others" s_Staff_others
  d_Staff_clerks : MetAt K CS "clerks" "Staff.clerks" s_Staff_clerks
  d_Staff_may : MetAt K CS "may" "Staff.may" s_Staff_may
  d_Staff_who : MetAt K CS "who" "Staff.who" s_Staff_who
  d_Staff___init__ : MakeAt K mg "Staff" CS "Staff.__init__" s_Staff___init__
  d_Staff_hire : MetAt K CS "hire" "Staff.hire" s_Staff_hire
  d_Staff_rule : MetAt K CS "rule" "Staff.rule" s_Staff_rule
  d_Staff_leave : MetAt K CS "leave" "Staff.leave" s_Staff_leave
  d_Case___init__ : MakeAt K mg "Case" CC "Case.__init__" s_Case___init__
  d_Case_is_finished : MetAt K CC "is_finished" "Case.is_finished" s_Case_is_finished
  d_Case_place : MetAt K CC "place" "Case.place" s_Case_place
  d_Case_due_place : MetAt K CC "due_place" "Case.due_place" s_Case_due_place
  d_Case_marked : MetAt K CC "marked" "Case.marked" s_Case_marked
  d_Office_form : MetAt K CO "form" "Office.form" s_Office_form
  d_Office_case_of : MetAt K CO "case_of" "Office.case_of" s_Office_case_of
  d_Office_lists : MetAt K CO "lists" "Office.lists" s_Office_lists
  d_Office_told : MetAt K CO "told" "Office.told" s_Office_told
  d_Office_plan_for : MetAt K CO "plan_for" "Office.plan_for" s_Office_plan_for
  d_Office_why : MetAt K CO "why" "Office.why" s_Office_why
  d_Office_plan_of : MetAt K CO "plan_of" "Office.plan_of" s_Office_plan_of
  d_Office_mend_of : MetAt K CO "mend_of" "Office.mend_of" s_Office_mend_of
  d_Office_is_stuck : MetAt K CO "is_stuck" "Office.is_stuck" s_Office_is_stuck
  d_Office_stuck : MetAt K CO "stuck" "Office.stuck" s_Office_stuck
  d_Office___init__ : MakeAt K mg "Office" CO "Office.__init__" s_Office___init__
  d_Office_add_round : MetAt K CO "add_round" "Office.add_round" s_Office_add_round
  d_Office_begin : MetAt K CO "begin" "Office.begin" s_Office_begin
  d_Office_take : MetAt K CO "take" "Office.take" s_Office_take
  d__law_whole : DefAt K mg "_law_whole" s__law_whole
  d__law_held : DefAt K mg "_law_held" s__law_held
  d__law_marked : DefAt K mg "_law_marked" s__law_marked
  d__law_undone : DefAt K mg "_law_undone" s__law_undone
  d__law_breaks : DefAt K mg "_law_breaks" s__law_breaks
  d__law_sets : DefAt K mg "_law_sets" s__law_sets
  d__law_fits : DefAt K mg "_law_fits" s__law_fits
  d__law_pool : DefAt K mg "_law_pool" s__law_pool
  d__law_shut : DefAt K mg "_law_shut" s__law_shut
  d__law_shows : DefAt K mg "_law_shows" s__law_shows
  d__law_papers : DefAt K mg "_law_papers" s__law_papers
  d__law_walked : DefAt K mg "_law_walked" s__law_walked
  d__law_mended : DefAt K mg "_law_mended" s__law_mended
  d__law_cell : DefAt K mg "_law_cell" s__law_cell
  d__law_badges : DefAt K mg "_law_badges" s__law_badges
  d__law_names : DefAt K mg "_law_names" s__law_names
  d__law_acts : DefAt K mg "_law_acts" s__law_acts
  d__law_order : DefAt K mg "_law_order" s__law_order
  d__law_row : DefAt K mg "_law_row" s__law_row
  d__law_text : DefAt K mg "_law_text" s__law_text
  d__law_tie : DefAt K mg "_law_tie" s__law_tie
  d__law_round : DefAt K mg "_law_round" s__law_round
  d__law_lists : DefAt K mg "_law_lists" s__law_lists
  d__law_step_due : DefAt K mg "_law_step_due" s__law_step_due
  d__law_team : DefAt K mg "_law_team" s__law_team
  d__law_turned : DefAt K mg "_law_turned" s__law_turned
  d__law_stands : DefAt K mg "_law_stands" s__law_stands
  d__law_hall : DefAt K mg "_law_hall" s__law_hall
  d_law : DefAt K mg "law" s_law
set_option maxHeartbeats 2000000 in
theorem whole_law {P : Program} {w : World} {K : PySem.W.Frag} {mg : Str → Option Value} {base : Heap} {CS CC CO : Addr} (W : Wd K mg CS CC CO) {f : Addr} {fd : FuncData} (Fl : FunD K "law" "law" (defArgs s_law) (defBody s_law) (defScope s_law) [] [] f fd) : FnOk P w K mg base CX0 15 f fd ["script"] (spM K R_law) := by
  have F_free := ok_free (P := P) (w := w) (base := base) W.B W.d_free
  have F_next_free := ok_next_free (P := P) (w := w) (base := base) W.B W.d_next_free F_free
  have F_settled := ok_settled (P := P) (w := w) (base := base) W.B W.d_settled F_next_free
  have F_ring := ok_ring (P := P) (w := w) (base := base) W.B W.d_ring F_settled
  have F_ready := ok_ready (P := P) (w := w) (base := base) W.B W.d_ready F_free
  have F_common := ok_common (P := P) (w := w) (base := base) W.B W.d_common
  have F_without := ok_without (P := P) (w := w) (base := base) W.B W.d_without
  have F_joined := ok_joined (P := P) (w := w) (base := base) W.B W.d_joined F_without
  have F_width := ok_width (P := P) (w := w) (base := base) W.B W.d_width
  have F_grown := ok_grown (P := P) (w := w) (base := base) W.B W.d_grown F_width
  have F_breaks := ok_breaks (P := P) (w := w) (base := base) W.B W.d_breaks
  have F_first_broken := ok_first_broken (P := P) (w := w) (base := base) W.B W.d_first_broken F_breaks
  have F_pools_of := ok_pools_of (P := P) (w := w) (base := base) W.B W.d_pools_of F_common
  have F_held := ok_held (P := P) (w := w) (base := base) W.B W.d_held
  have F_struck := ok_struck (P := P) (w := w) (base := base) W.B W.d_struck
  have F_seek := ok_seek (P := P) (w := w) (base := base) W.B W.d_seek
  have F_deal := ok_deal (P := P) (w := w) (base := base) W.B W.d_deal F_seek
  have F_sought := ok_soughtAll (P := P) (w := w) (base := base) W.B W.d_sought F_first_broken F_deal F_pools_of F_grown
  have F_plan := ok_plan (P := P) (w := w) (base := base) W.B W.d_plan (F_sought 6)
  have F_shut := ok_shut (P := P) (w := w) (base := base) W.B W.d_shut
  have F_rank := ok_rank (P := P) (w := w) (base := base) W.B W.d_rank
  have F_strikes := ok_strikes (P := P) (w := w) (base := base) W.B W.d_strikes F_shut F_rank
  have F_mend := ok_mend (P := P) (w := w) (base := base) W.B W.d_mend F_strikes F_plan F_held F_struck
  have F_is_name := ok_is_name (P := P) (w := w) (base := base) W.B W.d_is_name
  have F_acts_of := ok_acts_of (P := P) (w := w) (base := base) W.B W.KY W.d_acts_of F_is_name
  have F_place_of := ok_place_of (P := P) (w := w) (base := base) W.B W.d_place_of
  have F_places_of := ok_places_of (P := P) (w := w) (base := base) W.B W.d_places_of F_place_of
  have F_tie_of := ok_tie_of (P := P) (w := w) (base := base) W.B W.d_tie_of F_places_of
  have F_read_round := ok_read_round (P := P) (w := w) (base := base) W.B W.d_read_round F_acts_of F_place_of F_tie_of F_ring
  have F_next_above := ok_next_above (P := P) (w := w) (base := base) W.B W.d_next_above
  have F_reached := ok_reached (P := P) (w := w) (base := base) W.B W.d_reached F_next_above
  have F_concerning := ok_concerning (P := P) (w := w) (base := base) W.B W.d_concerning F_reached
  have F_behind_others := ok_behind_others (P := P) (w := w) (base := base) W.B W.d_behind_others F_reached
  have F_nearest := ok_nearest (P := P) (w := w) (base := base) W.B W.d_nearest F_concerning F_behind_others
  have F_allowed := ok_allowed (P := P) (w := w) (base := base) W.B W.d_allowed F_nearest
  have F_is_whole := ok_is_whole (P := P) (w := w) (base := base) W.B W.d_is_whole
  have F_need := ok_need (P := P) (w := w) (base := base) W.B W.SC W.d_Staff_need F_is_whole
  have F_others := ok_others (P := P) (w := w) (base := base) W.B W.SC W.d_Staff_others
  have F_clerks := ok_clerks (P := P) (w := w) (base := base) W.B W.SC W.d_Staff_clerks
  have F_may := ok_may (P := P) (w := w) (base := base) W.B W.SC W.d_Staff_may F_allowed
  have F_who := ok_who (P := P) (w := w) (base := base) W.B W.SC W.d_Staff_who F_may
  have F_Staff := ok_Staff_init (P := P) (w := w) (base := base) W.B W.SC W.d_Staff___init__
  have F_hire := ok_hire (P := P) (w := w) (base := base) W.B W.SC W.d_Staff_hire F_joined
  have F_rule := ok_rule (P := P) (w := w) (base := base) W.B W.SC W.d_Staff_rule F_need F_others
  have F_leave := ok_leave (P := P) (w := w) (base := base) W.B W.SC W.d_Staff_leave F_need F_without
  have F_Case := ok_Case_init (P := P) (w := w) (base := base) W.B W.CaC W.d_Case___init__
  have F_is_finished := ok_is_finished (P := P) (w := w) (base := base) W.B W.CaC W.d_Case_is_finished
  have F_place := ok_place (P := P) (w := w) (base := base) W.B W.CaC W.d_Case_place F_is_finished
  have F_due_place := ok_due_place (P := P) (w := w) (base := base) W.B W.CaC W.d_Case_due_place F_place F_ready
  have F_marked := ok_marked (P := P) (w := w) (base := base) W.B W.CaC W.d_Case_marked
  have F_form := fun oa sa fd cd => ok_form (P := P) (w := w) (base := base) (p := ⟨CS, CC, CO, oa, sa, fd, cd⟩) W.B W.OC W.d_Office_form
  have F_case_of := fun oa sa fd cd => ok_case_of (P := P) (w := w) (base := base) (p := ⟨CS, CC, CO, oa, sa, fd, cd⟩) W.B W.OC W.d_Office_case_of
  have F_lists := fun oa sa fd cd => ok_lists (P := P) (w := w) (base := base) (p := ⟨CS, CC, CO, oa, sa, fd, cd⟩) W.B W.OC W.d_Office_lists F_who
  have F_told := fun oa sa fd cd => ok_told (P := P) (w := w) (base := base) (p := ⟨CS, CC, CO, oa, sa, fd, cd⟩) W.B W.OC W.CaC W.d_Office_told (F_lists oa sa fd cd) F_held F_plan
  have F_plan_for := fun oa sa fd cd => ok_plan_for (P := P) (w := w) (base := base) (p := ⟨CS, CC, CO, oa, sa, fd, cd⟩) W.B W.OC W.d_Office_plan_for (F_form oa sa fd cd) (F_lists oa sa fd cd) F_plan
  have F_why := fun oa sa fd cd => ok_why (P := P) (w := w) (base := base) (p := ⟨CS, CC, CO, oa, sa, fd, cd⟩) W.B W.OC W.CaC W.d_Office_why (F_case_of oa sa fd cd) F_due_place F_clerks F_may F_marked (F_told oa sa fd cd)
  have F_plan_of := fun oa sa fd cd => ok_plan_of (P := P) (w := w) (base := base) (p := ⟨CS, CC, CO, oa, sa, fd, cd⟩) W.B W.OC W.CaC W.d_Office_plan_of (F_case_of oa sa fd cd) (F_told oa sa fd cd)
  have F_mend_of := fun oa sa fd cd => ok_mend_of (P := P) (w := w) (base := base) (p := ⟨CS, CC, CO, oa, sa, fd, cd⟩) W.B W.OC W.CaC W.d_Office_mend_of (F_case_of oa sa fd cd) (F_lists oa sa fd cd) F_mend
  have F_is_stuck := fun oa sa fd cd => ok_is_stuck (P := P) (w := w) (base := base) (p := ⟨CS, CC, CO, oa, sa, fd, cd⟩) W.B W.OC W.CaC W.d_Office_is_stuck F_is_finished (F_told oa sa fd cd)
  have F_stuck := fun oa sa fd cd => ok_stuck (P := P) (w := w) (base := base) (p := ⟨CS, CC, CO, oa, sa, fd, cd⟩) W.B W.OC W.CaC W.d_Office_stuck (F_is_stuck oa sa fd cd)
  have F_Office := ok_Office_init (P := P) (w := w) (base := base) W.B W.OC W.d_Office___init__
  have F_add_round := fun oa sa fd cd => ok_add_round (P := P) (w := w) (base := base) (p := ⟨CS, CC, CO, oa, sa, fd, cd⟩) W.B W.OC W.d_Office_add_round F_read_round
  have F_begin := fun oa sa fd cd => ok_begin (P := P) (w := w) (base := base) (p := ⟨CS, CC, CO, oa, sa, fd, cd⟩) W.B W.OC W.d_Office_begin (F_form oa sa fd cd) (F_plan_for oa sa fd cd) F_Case
  have F_take := fun oa sa fd cd => ok_take (P := P) (w := w) (base := base) (p := ⟨CS, CC, CO, oa, sa, fd, cd⟩) W.B W.OC W.CaC W.d_Office_take (F_why oa sa fd cd) (F_case_of oa sa fd cd) F_place F_marked
  have F__law_whole := ok__law_whole (P := P) (w := w) (base := base) W.B W.d__law_whole
  have F__law_held := ok__law_held (P := P) (w := w) (base := base) W.B W.d__law_held
  have F__law_marked := ok__law_marked (P := P) (w := w) (base := base) W.B W.d__law_marked
  have F__law_undone := ok__law_undone (P := P) (w := w) (base := base) W.B W.d__law_undone
  have F__law_breaks := ok__law_breaks (P := P) (w := w) (base := base) W.B W.d__law_breaks
  have F__law_sets := ok__law_sets (P := P) (w := w) (base := base) W.B W.d__law_sets
  have F__law_fits := ok__law_fits (P := P) (w := w) (base := base) W.B W.d__law_fits F__law_whole
  have F__law_pool := ok__law_pool (P := P) (w := w) (base := base) W.B W.d__law_pool
  have F__law_shut := ok__law_shut (P := P) (w := w) (base := base) W.B W.d__law_shut F__law_whole F__law_breaks F__law_pool
  have F__law_shows := ok__law_showsAll (P := P) (w := w) (base := base) W.B W.d__law_shows F__law_shut
  have F__law_papers := ok__law_papers (P := P) (w := w) (base := base) W.B W.d__law_papers F__law_whole (F__law_shows 6) F__law_held F__law_undone
  have F__law_walked := ok__law_walked (P := P) (w := w) (base := base) W.B W.d__law_walked F__law_fits (F__law_shows 6)
  have F__law_mended := ok__law_mended (P := P) (w := w) (base := base) W.B W.d__law_mended F__law_whole F__law_sets F__law_fits F__law_held F__law_undone F__law_papers
  have F__law_cell := ok__law_cell (P := P) (w := w) (base := base) W.B W.d__law_cell
  have F__law_badges := ok__law_badges (P := P) (w := w) (base := base) W.B W.d__law_badges F__law_cell
  have F__law_names := ok__law_names (P := P) (w := w) (base := base) W.B W.d__law_names
  have F__law_acts := ok__law_acts (P := P) (w := w) (base := base) W.B W.d__law_acts
  have F__law_order := ok__law_order (P := P) (w := w) (base := base) W.B W.d__law_order
  have F__law_row := ok__law_row (P := P) (w := w) (base := base) W.B W.d__law_row
  have F__law_text := ok__law_text (P := P) (w := w) (base := base) W.B W.d__law_text
  have F__law_tie := ok__law_tie (P := P) (w := w) (base := base) W.B W.d__law_tie
  have F__law_round := ok__law_round (P := P) (w := w) (base := base) W.B W.d__law_round F__law_row F__law_order F__law_tie
  have F__law_lists := ok__law_lists (P := P) (w := w) (base := base) W.B W.d__law_lists
  have F__law_step_due := ok__law_step_due (P := P) (w := w) (base := base) W.B W.d__law_step_due
  have F__law_team := ok__law_team (P := P) (w := w) (base := base) W.B W.SC W.d__law_team F_Staff F_hire F_rule
  have F__law_turned := ok__law_turned (P := P) (w := w) (base := base) W.B W.SC W.d__law_turned F_clerks F_hire F_rule F_leave
  have F__law_stands := fun oa sa fd cd => ok__law_stands (P := P) (w := w) (base := base) (p := ⟨CS, CC, CO, oa, sa, fd, cd⟩) W.B W.OC W.d__law_stands (F_plan_of oa sa fd cd) (F_plan_for oa sa fd cd) (F_mend_of oa sa fd cd) (F_stuck oa sa fd cd) F__law_walked F__law_held F__law_mended
  have F__law_hall := ok__law_hall (P := P) (w := w) (base := base) W.B W.SC W.OC W.d__law_hall F__law_cell F__law_names F__law_acts F__law_badges F__law_team F__law_round F_Office F_add_round F__law_text F__law_lists
  have F_law := ok_law (P := P) (w := w) (base := base) W.B W.SC W.CaC W.OC W.ne Fl F__law_cell F__law_hall F_begin F_take F__law_step_due F__law_marked F__law_turned F__law_lists F__law_stands
  exact F_law
end Dl
set_option maxHeartbeats 0
namespace Dl
open PySem PySem.Spec PyProof.Rows L2
section
variable {K : PySem.W.Frag} {h : Heap} {mg : Str → Option Value}
theorem defAt_of (X : K.In h) (G : h.Ns mainGlobals mg) (c : He.SaysD faAll fnAll K) (i j : Nat) {x : Str} {st : Stmt} (hd : fnAll[i]? = some ⟨(x, none), x, x, defArgs st, defBody st, defScope st, [], []⟩) (hf : faAll[j]? = some (.glo x)) : DefAt K mg x st := by
  obtain ⟨fd, F⟩ := c.def_ i hd
  exact ⟨_, fd, F, He.glo_ok X G (c.fact j hf)⟩
theorem metAt_of (c : He.SaysD faAll fnAll K) (i j k : Nat) {x m qual : Str} {st : Stmt} (hd : fnAll[i]? = some ⟨(x, some m), m, qual, defArgs st, defBody st, defScope st, [], []⟩) (hf : faAll[j]? = some (.cls x)) (hm : faAll[k]? = some (.meth x m)) : MetAt K (He.ga K x) m qual st := by
  obtain ⟨fd, F⟩ := c.def_ i hd
  exact ⟨_, fd, F, He.cls_ok (c.fact j hf), He.meth_ok (c.fact k hm)⟩
theorem makeAt_of (X : K.In h) (G : h.Ns mainGlobals mg) (c : He.SaysD faAll fnAll K) (i j k l : Nat) {x qual : Str} {st : Stmt} (hd : fnAll[i]? = some ⟨(x, some "__init__"), "__init__", qual, defArgs st, defBody st, defScope st, [], []⟩) (hf : faAll[j]? = some (.cls x)) (hm : faAll[k]? = some (.mkr x)) (hg : faAll[l]? = some (.glo x)) : MakeAt K mg x (He.ga K x) qual st := by
  obtain ⟨fd, F⟩ := c.def_ i hd
  exact ⟨_, fd, F, He.mkr_ok (c.fact k hm), He.cls_ok (c.fact j hf), He.glo_ok X G (c.fact l hg)⟩
theorem cls_ne {x y m : Str} (c : He.SaysD faAll fnAll K) (i j : Nat) (hm : faAll[i]? = some (.meth x m)) (hn : faAll[j]? = some (.noat y m)) : He.ga K x ≠ He.ga K y := fun e => by
  have a := (He.meth_ok (c.fact i hm)).1
  have b : NoAttr K (He.ga K y) m := He.noat_ok (c.fact j hn)
  rw [e] at a
  exact absurd (a.symm.trans b) nofun
theorem wd_of (X : K.In h) (G : h.Ns mainGlobals mg) (c : He.SaysD faAll fnAll K) (ky : He.tupB K "KEYS" keysDv = true) : Wd K mg (He.ga K "Staff") (He.ga K "Case") (He.ga K "Office") where
  B := ⟨He.free_ok X G (c.fact 99 (f := .free "len") rfl), He.free_ok X G (c.fact 100 (f := .free "range") rfl), He.free_ok X G (c.fact 101 (f := .free "isinstance") rfl), He.free_ok X G (c.fact 102 (f := .free "list") rfl), He.free_ok X G (c.fact 103 (f := .free "tuple") rfl), He.free_ok X G (c.fact 104 (f := .free "sorted") rfl), He.free_ok X G (c.fact 105 (f := .free "set") rfl), He.free_ok X G (c.fact 106 (f := .free "max") rfl), He.free_ok X G (c.fact 107 (f := .free "min") rfl), He.free_ok X G (c.fact 108 (f := .free "str") rfl), He.free_ok X G (c.fact 109 (f := .free "int") rfl), He.free_ok X G (c.fact 110 (f := .free "bool") rfl), He.free_ok X G (c.fact 111 (f := .free "all") rfl), He.free_ok X G (c.fact 112 (f := .free "enumerate") rfl), He.free_ok X G (c.fact 113 (f := .free "zip") rfl), He.int_ok X G (c.fact 114 (f := .int "LONGEST" 8) rfl), He.int_ok X G (c.fact 115 (f := .int "MOST_STEPS" 6) rfl), He.int_ok X G (c.fact 116 (f := .int "MOST_TIES" 12) rfl), He.int_ok X G (c.fact 117 (f := .int "MOST_ROUNDS" 6) rfl), He.int_ok X G (c.fact 118 (f := .int "MOST_FILES" 12) rfl), He.int_ok X G (c.fact 119 (f := .int "MOST_CLERKS" 12) rfl), He.int_ok X G (c.fact 120 (f := .int "MOST_LINKS" 40) rfl), He.int_ok X G (c.fact 121 (f := .int "MOST_RULES" 60) rfl), He.str_ok X G (c.fact 122 (f := .str "LETTERS" "abcdefghijklmnopqrstuvwxyz") rfl), He.str_ok X G (c.fact 123 (f := .str "FIGURES" "123456") rfl)⟩
  KY := ⟨_, He.glo_ok X G (c.fact 124 (f := .glo "KEYS") rfl), fun H => He.tupB_ok ky H⟩
  SC := ⟨He.cls_ok (c.fact 36 (f := .cls "Staff") rfl), He.noat_ok (c.fact 125 (f := .noat "Staff" "crew") rfl), He.noat_ok (c.fact 126 (f := .noat "Staff" "chain") rfl), He.noat_ok (c.fact 127 (f := .noat "Staff" "book") rfl), He.noat_ok (c.fact 128 (f := .noat "Staff" "tempo") rfl)⟩
  CaC := ⟨He.cls_ok (c.fact 47 (f := .cls "Case") rfl), He.noat_ok (c.fact 129 (f := .noat "Case" "parts") rfl), He.noat_ok (c.fact 130 (f := .noat "Case" "rows") rfl), He.noat_ok (c.fact 131 (f := .noat "Case" "bonds") rfl), He.noat_ok (c.fact 132 (f := .noat "Case" "marks") rfl)⟩
  OC := ⟨He.cls_ok (c.fact 54 (f := .cls "Office") rfl), He.noat_ok (c.fact 133 (f := .noat "Office" "team") rfl), He.noat_ok (c.fact 134 (f := .noat "Office" "forms") rfl), He.noat_ok (c.fact 135 (f := .noat "Office" "cases") rfl)⟩
  ne := ⟨cls_ne (m := "hire") c 44 136 rfl rfl, cls_ne (m := "hire") c 44 137 rfl rfl, cls_ne (m := "marked") c 53 138 rfl rfl⟩
  d_free := defAt_of X G c 0 0 rfl rfl
  d_next_free := defAt_of X G c 1 1 rfl rfl
  d_settled := defAt_of X G c 2 2 rfl rfl
  d_ring := defAt_of X G c 3 3 rfl rfl
  d_ready := defAt_of X G c 4 4 rfl rfl
  d_common := defAt_of X G c 5 5 rfl rfl
  d_without := defAt_of X G c 6 6 rfl rfl
  d_joined := defAt_of X G c 7 7 rfl rfl
  d_width := defAt_of X G c 8 8 rfl rfl
  d_grown := defAt_of X G c 9 9 rfl rfl
  d_breaks := defAt_of X G c 10 10 rfl rfl
  d_first_broken := defAt_of X G c 11 11 rfl rfl
  d_pools_of := defAt_of X G c 12 12 rfl rfl
  d_held := defAt_of X G c 13 13 rfl rfl
  d_struck := defAt_of X G c 14 14 rfl rfl
  d_seek := defAt_of X G c 15 15 rfl rfl
  d_deal := defAt_of X G c 16 16 rfl rfl
  d_sought := defAt_of X G c 17 17 rfl rfl
  d_plan := defAt_of X G c 18 18 rfl rfl
  d_shut := defAt_of X G c 19 19 rfl rfl
  d_rank := defAt_of X G c 20 20 rfl rfl
  d_strikes := defAt_of X G c 21 21 rfl rfl
  d_mend := defAt_of X G c 22 22 rfl rfl
  d_is_name := defAt_of X G c 23 23 rfl rfl
  d_acts_of := defAt_of X G c 24 24 rfl rfl
  d_place_of := defAt_of X G c 25 25 rfl rfl
  d_places_of := defAt_of X G c 26 26 rfl rfl
  d_tie_of := defAt_of X G c 27 27 rfl rfl
  d_read_round := defAt_of X G c 28 28 rfl rfl
  d_next_above := defAt_of X G c 29 29 rfl rfl
  d_reached := defAt_of X G c 30 30 rfl rfl
  d_concerning := defAt_of X G c 31 31 rfl rfl
  d_behind_others := defAt_of X G c 32 32 rfl rfl
  d_nearest := defAt_of X G c 33 33 rfl rfl
  d_allowed := defAt_of X G c 34 34 rfl rfl
  d_is_whole := defAt_of X G c 35 35 rfl rfl
  d_Staff_need := metAt_of c 36 36 37 rfl rfl rfl
  d_Staff_others := metAt_of c 37 36 38 rfl rfl rfl
  d_Staff_clerks := metAt_of c 38 36 39 rfl rfl rfl
  d_Staff_may := metAt_of c 39 36 40 rfl rfl rfl
  d_Staff_who := metAt_of c 40 36 41 rfl rfl rfl
  d_Staff___init__ := makeAt_of X G c 41 36 42 43 rfl rfl rfl rfl
  d_Staff_hire := metAt_of c 42 36 44 rfl rfl rfl
  d_Staff_rule := metAt_of c 43 36 45 rfl rfl rfl
  d_Staff_leave := metAt_of c 44 36 46 rfl rfl rfl
  d_Case___init__ := makeAt_of X G c 45 47 48 49 rfl rfl rfl rfl
  d_Case_is_finished := metAt_of c 46 47 50 rfl rfl rfl
  d_Case_place := metAt_of c 47 47 51 rfl rfl rfl
  d_Case_due_place := metAt_of c 48 47 52 rfl rfl rfl
  d_Case_marked := metAt_of c 49 47 53 rfl rfl rfl
  d_Office_form := metAt_of c 50 54 55 rfl rfl rfl
  d_Office_case_of := metAt_of c 51 54 56 rfl rfl rfl
  d_Office_lists := metAt_of c 52 54 57 rfl rfl rfl
  d_Office_told := metAt_of c 53 54 58 rfl rfl rfl
  d_Office_plan_for := metAt_of c 54 54 59 rfl rfl rfl
  d_Office_why := metAt_of c 55 54 60 rfl rfl rfl
  d_Office_plan_of := metAt_of c 56 54 61 rfl rfl rfl
  d_Office_mend_of := metAt_of c 57 54 62 rfl rfl rfl
  d_Office_is_stuck := metAt_of c 58 54 63 rfl rfl rfl
  d_Office_stuck := metAt_of c 59 54 64 rfl rfl rfl
  d_Office___init__ := makeAt_of X G c 60 54 65 66 rfl rfl rfl rfl
  d_Office_add_round := metAt_of c 61 54 67 rfl rfl rfl
  d_Office_begin := metAt_of c 62 54 68 rfl rfl rfl
  d_Office_take := metAt_of c 63 54 69 rfl rfl rfl
  d__law_whole := defAt_of X G c 64 70 rfl rfl
  d__law_held := defAt_of X G c 65 71 rfl rfl
  d__law_marked := defAt_of X G c 66 72 rfl rfl
  d__law_undone := defAt_of X G c 67 73 rfl rfl
  d__law_breaks := defAt_of X G c 68 74 rfl rfl
  d__law_sets := defAt_of X G c 69 75 rfl rfl
  d__law_fits := defAt_of X G c 70 76 rfl rfl
  d__law_pool := defAt_of X G c 71 77 rfl rfl
  d__law_shut := defAt_of X G c 72 78 rfl rfl
  d__law_shows := defAt_of X G c 73 79 rfl rfl
  d__law_papers := defAt_of X G c 74 80 rfl rfl
  d__law_walked := defAt_of X G c 75 81 rfl rfl
  d__law_mended := defAt_of X G c 76 82 rfl rfl
  d__law_cell := defAt_of X G c 77 83 rfl rfl
  d__law_badges := defAt_of X G c 78 84 rfl rfl
  d__law_names := defAt_of X G c 79 85 rfl rfl
  d__law_acts := defAt_of X G c 80 86 rfl rfl
  d__law_order := defAt_of X G c 81 87 rfl rfl
  d__law_row := defAt_of X G c 82 88 rfl rfl
  d__law_text := defAt_of X G c 83 89 rfl rfl
  d__law_tie := defAt_of X G c 84 90 rfl rfl
  d__law_round := defAt_of X G c 85 91 rfl rfl
  d__law_lists := defAt_of X G c 86 92 rfl rfl
  d__law_step_due := defAt_of X G c 87 93 rfl rfl
  d__law_team := defAt_of X G c 88 94 rfl rfl
  d__law_turned := defAt_of X G c 89 95 rfl rfl
  d__law_stands := defAt_of X G c 90 96 rfl rfl
  d__law_hall := defAt_of X G c 91 97 rfl rfl
  d_law := defAt_of X G c 92 98 rfl rfl
end
theorem law_pre {K : PySem.W.Frag} {H : Hp} {a : Addr} {ns : List Int} (hS : SqL K H a (ns.map V.int)) : spM K R_law [.ref a] H (fun v _ => v = .bl true) fun _ _ _ => False :=
  ⟨H, [.sq ns], fun _ s => s = db true, .refl _, .cons (.sq hS) .nil, ⟨ns, rfl, rfl⟩, fun s v G' H' w g sv => by
    subst w
    cases sv with
    | dat d =>
      cases d
      rfl⟩
end Dl
open PySem PySem.W PySem.Calls PyProof.Rows
theorem PySem.Challenge.cw_deskround_k85_whole_files_that_got_stuck_holds : PySem.Challenge.rw_deskround_k85_whole_files_that_got_stuck.Holds := by
  w_on; o_law
  refine HandSHeadRun.head_any (r := OpenLaw.row PySem.Challenge.rw_deskround_k85_whole_files_that_got_stuck) (q := Dl.qv) (H := Dl.hkAll) (ob := Dl.obAll) (M := 20000) (loose := Dl.nmAll) (d := HandSHeadRun.topDef (OpenLaw.row PySem.Challenge.rw_deskround_k85_whole_files_that_got_stuck).prog 111) (kwd := []) Dl.obAll_eq
    (by kernel_rfl) (fun s => by kernel_rfl) Dl.runAll (by kernel_rfl) (by kernel_rfl) (by kernel_rfl) (by rfl) (by first | assumption | decide +kernel) (by decide +kernel) ⟨rfl, rfl, rfl, rfl, rfl, by decide +kernel⟩ ?hw ?hc
  case hw => w_witness2
  case hc =>
    refine L2.walk_ofE (l := PySem.Challenge.rw_deskround_k85_whole_files_that_got_stuck) (n := 63) (k := 15) (x := "script") (CX := L2.CX0) rfl (by decide) (by kernel_rfl) ⟨rfl, by decide, by decide⟩ ?F (fun _ _ _ _ z => z)
    intro w mg fa h Y G hmg0
    obtain ⟨K, KX, c, ky⟩ := Y
    have hmg : mg ("law" : PySem.Str) = some (.ref fa) := by
      have e : (HandSHeadRun.topDef (OpenLaw.row PySem.Challenge.rw_deskround_k85_whole_files_that_got_stuck).prog 111).name = ("law" : PySem.Str) := by kernel_rfl
      rw [← e]
      exact hmg0
    have W := Dl.wd_of KX G c ky
    obtain ⟨f, fd, Fl, hf⟩ := W.d_law
    have e : f = fa := by
      rw [hmg] at hf
      cases hf
      rfl
    subst e
    have b := L2.FunD.bindsA (ps := ["script"]) Fl Dl.hb_law
    exact ⟨K, fd, Dl.spM K Dl.R_law, KX, fun s v => b s [v] rfl, fun H a ns hl _ hS => Dl.law_pre hS, fun base _ _ => Dl.whole_law W Fl⟩
