import PyProof.Rows.All
import Wide.All
import OpenK.AllK
import Wide.FinOn
import HandS.ForMost
import HandS.ForExc
import HandS.Strs
import HandS.SetFor
import HandS.Flow
import HandS.IsInst
import HandS.TupLe
import HandS.Exc
import HandS.Comp
import HandS.Iter
import HandS.Rev
import HandS.DictComp
import HandS.More
import HandS.SortInts
import HandS.FStr
import HandS.Star
import HandS.RaiseMore
import PyProof.ReprRoads
import KE.KDictList
import HandS.OwnIter
import PySem.Challenge.RW_forkedshelves_k97_whole_items_on_forks
import HandS.SortRule
import HandS.WordsExc
import HandS.ExcInit
import HandS.ExcField
import HandS.Defaults
import HandS.MakeKwOnly
import KE.KExcSuper
import HandS.Nested
import HandS.ExcOwn
import HandS.TryMany
import HandS.Zip
import HandS.Text
import HandS.Conv
import HandS.Ends
import KE.KStateDown
import HandS.Head0
import HandS.Head1
import HandS.Head2
import HandS.HeadHook3
set_option Elab.async false
set_option linter.all false
set_option maxRecDepth 100000
set_option maxHeartbeats 0
namespace FS
open PySem PySem.Spec PyProof.Rows L2
def top (i : Nat) : Stmt := PySem.Challenge.pw_forkedshelves_k97_whole_items_on_forks.main.body.getD i (.Pass ⟨0, 0, 0, 0⟩)
def formsTab : List (Str × List Str) := [("fork", ["name", "name"]), ("write", ["name", "writes"]), ("merge", ["name", "names", "writes"])]
end FS
namespace FH
open PySem PySem.W PySem.Calls PyProof.Rows
abbrev R : OpenRow := OpenLaw.row PySem.Challenge.rw_forkedshelves_k97_whole_items_on_forks
abbrev qv : Program := view R.prog [134]
def nm0 : List PySem.Str := ["_wall", "ShelfError", "RuleError", "ClashError", "MissingError", "DeedError", "RepeatedPlace", "RepeatedKey", "Unlawful", "TooWide", "PlaceClash", "RuleClash", "OpenFold", "Contradiction", "Unanswered", "AnswerRing", "NoNode", "NoFork", "NotChanged", "EmptyDeed", "ForkExists", "LastFork", "BadDeed", "ascending", "bar_of", "bars_in_order", "first_repeated", "cleaned", "ordered_marks", "value_at"]
def nm1 : List PySem.Str := ["with_writes", "changes", "distinct", "filled_marks", "in_order", "first_of", "Apart", "Needs", "RuleBook", "position_place", "content_place", "item_rules", "arrange", "placing", "moving", "changing", "removing", "Answers", "past_of", "is_writer", "heads_in", "values_in", "heads_of", "values_of", "written_places", "shown", "common_past", "last_common", "fold", "require_lawful"]
def nm2 : List PySem.Str := ["Part", "Fork", "past", "heads", "found_values", "clash", "clash_pairs", "forks_of", "changes_of", "clashes_of", "mark_of", "first_unanswered", "beaters_of", "strikers_of", "struck_by", "open_order", "ring_through", "way_to", "shortest_ring", "kept_changes", "decide", "settle", "settled_book", "DeskState", "History", "FORMS", "is_deed_word", "mark_text", "entry_text", "deed_text"]
def nm3 : List PySem.Str := ["Desk", "doubled", "_law_open", "_law_take", "_law_choose", "_law_written", "_law_written_raw", "_law_is_book", "_law_ints", "_law_world", "_law_add", "_law_past", "_law_heads", "_law_found", "_law_broken_items", "_law_item_deed", "_law_item_writes", "_law_writes_told", "_law_started", "_law_do", "_law_due", "_law_deed", "_law_stands", "_law_watch"]
def names : List PySem.Str := nm0 ++ (nm1 ++ (nm2 ++ (nm3)))
end FH
/-! H3: what the head looks at. Printed by genh3.py. -/
namespace FS
open PySem PySem.Spec PyProof.Rows L2 He
def fas0 : List (He.Fa) := [.free "len", .free "sorted", .free "set", .free "tuple", .free "list", .free "dict", .free "range", .free "enumerate", .free "reversed", .free "all", .free "any", .free "isinstance", .free "int", .free "bool", .free "str", .free "min", .free "repr", .free "zip", .free "super", .glo "ascending", .glo "bar_of", .glo "bars_in_order", .glo "first_repeated", .glo "cleaned", .glo "ordered_marks", .glo "value_at", .glo "with_writes", .glo "distinct", .glo "filled_marks", .glo "first_of"]
def fas1 : List (He.Fa) := [.glo "item_rules", .glo "position_place", .glo "content_place", .glo "arrange", .glo "placing", .glo "moving", .glo "changing", .glo "removing", .glo "past_of", .glo "is_writer", .glo "heads_in", .glo "values_in", .glo "heads_of", .glo "written_places", .glo "shown", .glo "past", .glo "heads", .glo "is_deed_word", .glo "mark_text", .glo "entry_text", .glo "deed_text", .glo "doubled", .glo "_law_open", .glo "_law_take", .glo "_law_choose", .glo "_law_written", .glo "_law_written_raw", .glo "_law_is_book", .glo "_law_ints", .glo "_law_world"]
def fas2 : List (He.Fa) := [.glo "_law_add", .glo "_law_past", .glo "_law_heads", .glo "_law_found", .glo "_law_broken_items", .glo "_law_item_deed", .glo "_law_item_writes", .glo "_law_writes_told", .glo "_law_started", .glo "_law_do", .glo "_law_due", .glo "_law_deed", .glo "_law_stands", .glo "_law_watch", .glo "law", .glo "Apart", .glo "Needs", .glo "RuleBook", .glo "Answers", .glo "DeskState", .glo "History", .glo "Desk", .glo "PlaceClash", .glo "RuleClash", .glo "Unlawful", .glo "FORMS", .cls "Apart", .noat "Apart" "places", .noat "Apart" "width", .mkr "Apart"]
def fas3 : List (He.Fa) := [.meth "Apart" "bars_in", .meth "Apart" "reason", .meth "Apart" "keeps", .cls "Needs", .noat "Needs" "_pairs", .noat "Needs" "places", .noat "Needs" "width", .mkr "Needs", .meth "Needs" "bars_in", .meth "Needs" "reason", .meth "Needs" "keeps", .cls "RuleBook", .noat "RuleBook" "_rows", .mkr "RuleBook", .meth "RuleBook" "reason", .meth "RuleBook" "is_lawful", .cls "Answers", .noat "Answers" "_rows", .mkr "Answers", .cls "DeskState", .noat "DeskState" "_history", .noat "DeskState" "_tips", .noat "DeskState" "_kept", .noat "DeskState" "_texts", .mkr "DeskState", .meth "DeskState" "tip_of", .meth "DeskState" "book_of", .meth "DeskState" "history_copy", .meth "DeskState" "with_text", .meth "DeskState" "moved"]
def fas4 : List (He.Fa) := [.meth "DeskState" "after", .meth "DeskState" "after_fork", .meth "DeskState" "after_write", .meth "DeskState" "after_merge", .cls "History", .noat "History" "rulebook", .noat "History" "_numbers", .noat "History" "_kinds", .noat "History" "_links", .noat "History" "_wrote", .noat "History" "_books", .mkr "History", .meth "History" "_add", .meth "History" "__contains__", .meth "History" "check", .meth "History" "links", .meth "History" "wrote", .meth "History" "node_count", .meth "History" "book", .meth "History" "write", .meth "History" "merge", .meth "History" "clone", .cls "Desk", .noat "Desk" "_depth", .noat "Desk" "_state", .noat "Desk" "_earlier", .noat "Desk" "_taken_back", .mkr "Desk", .meth "Desk" "fork", .meth "Desk" "write"]
def fas5 : List (He.Fa) := [.meth "Desk" "merge", .meth "Desk" "tip", .meth "Desk" "book", .meth "Desk" "history", .meth "Desk" "attempt", .exm "PlaceClash" "PlaceClash" true, .exm "RuleClash" "PlaceClash" false, .exm "Unlawful" "PlaceClash" false, .exm "RuleClash" "RuleClash" true, .exm "Unlawful" "RuleClash" false, .exm "Unlawful" "Unlawful" true]
def fas : List (He.Fa) := fas0 ++ (fas1 ++ (fas2 ++ (fas3 ++ (fas4 ++ (fas5)))))
def fns0 : List (He.DefD) := [⟨("ascending", none), "ascending", "ascending", defArgs (top 25), defBody (top 25), defScope (top 25), [], []⟩, ⟨("bar_of", none), "bar_of", "bar_of", defArgs (top 26), defBody (top 26), defScope (top 26), [], []⟩, ⟨("bars_in_order", none), "bars_in_order", "bars_in_order", defArgs (top 27), defBody (top 27), defScope (top 27), [], []⟩, ⟨("first_repeated", none), "first_repeated", "first_repeated", defArgs (top 28), defBody (top 28), defScope (top 28), [], []⟩, ⟨("cleaned", none), "cleaned", "cleaned", defArgs (top 29), defBody (top 29), defScope (top 29), [], []⟩, ⟨("ordered_marks", none), "ordered_marks", "ordered_marks", defArgs (top 30), defBody (top 30), defScope (top 30), [], []⟩, ⟨("value_at", none), "value_at", "value_at", defArgs (top 32), defBody (top 32), defScope (top 32), [], []⟩, ⟨("with_writes", none), "with_writes", "with_writes", defArgs (top 33), defBody (top 33), defScope (top 33), [], []⟩, ⟨("distinct", none), "distinct", "distinct", defArgs (top 35), defBody (top 35), defScope (top 35), [], []⟩, ⟨("filled_marks", none), "filled_marks", "filled_marks", defArgs (top 36), defBody (top 36), defScope (top 36), [], []⟩, ⟨("first_of", none), "first_of", "first_of", defArgs (top 38), defBody (top 38), defScope (top 38), [], []⟩, ⟨("item_rules", none), "item_rules", "item_rules", defArgs (top 47), defBody (top 47), defScope (top 47), [], []⟩, ⟨("position_place", none), "position_place", "position_place", defArgs (top 45), defBody (top 45), defScope (top 45), [], []⟩, ⟨("content_place", none), "content_place", "content_place", defArgs (top 46), defBody (top 46), defScope (top 46), [], []⟩, ⟨("arrange", none), "arrange", "arrange", defArgs (top 48), defBody (top 48), defScope (top 48), [], []⟩, ⟨("placing", none), "placing", "placing", defArgs (top 49), defBody (top 49), defScope (top 49), [], []⟩, ⟨("moving", none), "moving", "moving", defArgs (top 50), defBody (top 50), defScope (top 50), [], []⟩, ⟨("changing", none), "changing", "changing", defArgs (top 51), defBody (top 51), defScope (top 51), [], []⟩, ⟨("removing", none), "removing", "removing", defArgs (top 52), defBody (top 52), defScope (top 52), [], []⟩, ⟨("past_of", none), "past_of", "past_of", defArgs (top 56), defBody (top 56), defScope (top 56), [], []⟩]
def fns1 : List (He.DefD) := [⟨("is_writer", none), "is_writer", "is_writer", defArgs (top 57), defBody (top 57), defScope (top 57), [], []⟩, ⟨("heads_in", none), "heads_in", "heads_in", defArgs (top 58), defBody (top 58), defScope (top 58), [], []⟩, ⟨("values_in", none), "values_in", "values_in", defArgs (top 59), defBody (top 59), defScope (top 59), [], []⟩, ⟨("heads_of", none), "heads_of", "heads_of", defArgs (top 60), defBody (top 60), defScope (top 60), [], []⟩, ⟨("written_places", none), "written_places", "written_places", defArgs (top 62), defBody (top 62), defScope (top 62), [], []⟩, ⟨("shown", none), "shown", "shown", defArgs (top 63), defBody (top 63), defScope (top 63), [], []⟩, ⟨("past", none), "past", "past", defArgs (top 74), defBody (top 74), defScope (top 74), [], []⟩, ⟨("heads", none), "heads", "heads", defArgs (top 75), defBody (top 75), defScope (top 75), [], []⟩, ⟨("is_deed_word", none), "is_deed_word", "is_deed_word", defArgs (top 103), defBody (top 103), defScope (top 103), [], []⟩, ⟨("mark_text", none), "mark_text", "mark_text", defArgs (top 104), defBody (top 104), defScope (top 104), [], []⟩, ⟨("entry_text", none), "entry_text", "entry_text", defArgs (top 105), defBody (top 105), defScope (top 105), [], []⟩, ⟨("deed_text", none), "deed_text", "deed_text", defArgs (top 106), defBody (top 106), defScope (top 106), [], []⟩, ⟨("doubled", none), "doubled", "doubled", defArgs (top 110), defBody (top 110), defScope (top 110), [], []⟩, ⟨("_law_open", none), "_law_open", "_law_open", defArgs (top 112), defBody (top 112), defScope (top 112), [], []⟩, ⟨("_law_take", none), "_law_take", "_law_take", defArgs (top 113), defBody (top 113), defScope (top 113), [], []⟩, ⟨("_law_choose", none), "_law_choose", "_law_choose", defArgs (top 114), defBody (top 114), defScope (top 114), [], []⟩, ⟨("_law_written", none), "_law_written", "_law_written", defArgs (top 115), defBody (top 115), defScope (top 115), [], []⟩, ⟨("_law_written_raw", none), "_law_written_raw", "_law_written_raw", defArgs (top 116), defBody (top 116), defScope (top 116), [], []⟩, ⟨("_law_is_book", none), "_law_is_book", "_law_is_book", defArgs (top 117), defBody (top 117), defScope (top 117), [], []⟩, ⟨("_law_ints", none), "_law_ints", "_law_ints", defArgs (top 118), defBody (top 118), defScope (top 118), [], []⟩]
def fns2 : List (He.DefD) := [⟨("_law_world", none), "_law_world", "_law_world", defArgs (top 119), defBody (top 119), defScope (top 119), [], []⟩, ⟨("_law_add", none), "_law_add", "_law_add", defArgs (top 120), defBody (top 120), defScope (top 120), [], []⟩, ⟨("_law_past", none), "_law_past", "_law_past", defArgs (top 121), defBody (top 121), defScope (top 121), [], []⟩, ⟨("_law_heads", none), "_law_heads", "_law_heads", defArgs (top 122), defBody (top 122), defScope (top 122), [], []⟩, ⟨("_law_found", none), "_law_found", "_law_found", defArgs (top 123), defBody (top 123), defScope (top 123), [], []⟩, ⟨("_law_broken_items", none), "_law_broken_items", "_law_broken_items", defArgs (top 124), defBody (top 124), defScope (top 124), [], []⟩, ⟨("_law_item_deed", none), "_law_item_deed", "_law_item_deed", defArgs (top 125), defBody (top 125), defScope (top 125), [], []⟩, ⟨("_law_item_writes", none), "_law_item_writes", "_law_item_writes", defArgs (top 126), defBody (top 126), defScope (top 126), [], []⟩, ⟨("_law_writes_told", none), "_law_writes_told", "_law_writes_told", defArgs (top 127), defBody (top 127), defScope (top 127), [], []⟩, ⟨("_law_started", none), "_law_started", "_law_started", defArgs (top 128), defBody (top 128), defScope (top 128), [], []⟩, ⟨("_law_do", none), "_law_do", "_law_do", defArgs (top 129), defBody (top 129), defScope (top 129), [], []⟩, ⟨("_law_due", none), "_law_due", "_law_due", defArgs (top 130), defBody (top 130), defScope (top 130), [], []⟩, ⟨("_law_deed", none), "_law_deed", "_law_deed", defArgs (top 131), defBody (top 131), defScope (top 131), [], []⟩, ⟨("_law_stands", none), "_law_stands", "_law_stands", defArgs (top 132), defBody (top 132), defScope (top 132), [], []⟩, ⟨("_law_watch", none), "_law_watch", "_law_watch", defArgs (top 133), defBody (top 133), defScope (top 133), [], []⟩, ⟨("law", none), "law", "law", defArgs (top 134), defBody (top 134), defScope (top 134), [], []⟩, ⟨("Apart", some "__init__"), "__init__", "Apart.__init__", defArgs (inClass (top 40) 0), defBody (inClass (top 40) 0), defScope (inClass (top 40) 0), [], []⟩, ⟨("Apart", some "bars_in"), "bars_in", "Apart.bars_in", defArgs (inClass (top 40) 2), defBody (inClass (top 40) 2), defScope (inClass (top 40) 2), [], []⟩, ⟨("Apart", some "reason"), "reason", "Apart.reason", defArgs (inClass (top 40) 3), defBody (inClass (top 40) 3), defScope (inClass (top 40) 3), [], []⟩, ⟨("Apart", some "keeps"), "keeps", "Apart.keeps", defArgs (inClass (top 40) 4), defBody (inClass (top 40) 4), defScope (inClass (top 40) 4), [], []⟩]
def fns3 : List (He.DefD) := [⟨("Needs", some "__init__"), "__init__", "Needs.__init__", defArgs (inClass (top 41) 0), defBody (inClass (top 41) 0), defScope (inClass (top 41) 0), [], []⟩, ⟨("Needs", some "bars_in"), "bars_in", "Needs.bars_in", defArgs (inClass (top 41) 2), defBody (inClass (top 41) 2), defScope (inClass (top 41) 2), [], []⟩, ⟨("Needs", some "reason"), "reason", "Needs.reason", defArgs (inClass (top 41) 3), defBody (inClass (top 41) 3), defScope (inClass (top 41) 3), [], []⟩, ⟨("Needs", some "keeps"), "keeps", "Needs.keeps", defArgs (inClass (top 41) 4), defBody (inClass (top 41) 4), defScope (inClass (top 41) 4), [], []⟩, ⟨("RuleBook", some "__init__"), "__init__", "RuleBook.__init__", defArgs (inClass (top 43) 0), defBody (inClass (top 43) 0), defScope (inClass (top 43) 0), [], []⟩, ⟨("RuleBook", some "reason"), "reason", "RuleBook.reason", defArgs (inClass (top 43) 3), defBody (inClass (top 43) 3), defScope (inClass (top 43) 3), [], []⟩, ⟨("RuleBook", some "is_lawful"), "is_lawful", "RuleBook.is_lawful", defArgs (inClass (top 43) 5), defBody (inClass (top 43) 5), defScope (inClass (top 43) 5), [], []⟩, ⟨("Answers", some "__init__"), "__init__", "Answers.__init__", defArgs (inClass (top 54) 0), defBody (inClass (top 54) 0), defScope (inClass (top 54) 0), [], []⟩, ⟨("DeskState", some "__init__"), "__init__", "DeskState.__init__", defArgs (inClass (top 98) 0), defBody (inClass (top 98) 0), defScope (inClass (top 98) 0), [], []⟩, ⟨("DeskState", some "tip_of"), "tip_of", "DeskState.tip_of", defArgs (inClass (top 98) 2), defBody (inClass (top 98) 2), defScope (inClass (top 98) 2), [], []⟩, ⟨("DeskState", some "book_of"), "book_of", "DeskState.book_of", defArgs (inClass (top 98) 3), defBody (inClass (top 98) 3), defScope (inClass (top 98) 3), [], []⟩, ⟨("DeskState", some "history_copy"), "history_copy", "DeskState.history_copy", defArgs (inClass (top 98) 4), defBody (inClass (top 98) 4), defScope (inClass (top 98) 4), [], []⟩, ⟨("DeskState", some "with_text"), "with_text", "DeskState.with_text", defArgs (inClass (top 98) 8), defBody (inClass (top 98) 8), defScope (inClass (top 98) 8), [], []⟩, ⟨("DeskState", some "moved"), "moved", "DeskState.moved", defArgs (inClass (top 98) 9), defBody (inClass (top 98) 9), defScope (inClass (top 98) 9), [], []⟩, ⟨("DeskState", some "after"), "after", "DeskState.after", defArgs (inClass (top 98) 11), defBody (inClass (top 98) 11), defScope (inClass (top 98) 11), [], []⟩, ⟨("DeskState", some "after_fork"), "after_fork", "DeskState.after_fork", defArgs (inClass (top 98) 12), defBody (inClass (top 98) 12), defScope (inClass (top 98) 12), [], []⟩, ⟨("DeskState", some "after_write"), "after_write", "DeskState.after_write", defArgs (inClass (top 98) 14), defBody (inClass (top 98) 14), defScope (inClass (top 98) 14), [], []⟩, ⟨("DeskState", some "after_merge"), "after_merge", "DeskState.after_merge", defArgs (inClass (top 98) 15), defBody (inClass (top 98) 15), defScope (inClass (top 98) 15), [], []⟩, ⟨("History", some "__init__"), "__init__", "History.__init__", defArgs (inClass (top 100) 0), defBody (inClass (top 100) 0), defScope (inClass (top 100) 0), [], []⟩, ⟨("History", some "_add"), "_add", "History._add", defArgs (inClass (top 100) 1), defBody (inClass (top 100) 1), defScope (inClass (top 100) 1), [], []⟩]
def fns4 : List (He.DefD) := [⟨("History", some "__contains__"), "__contains__", "History.__contains__", defArgs (inClass (top 100) 2), defBody (inClass (top 100) 2), defScope (inClass (top 100) 2), [], []⟩, ⟨("History", some "check"), "check", "History.check", defArgs (inClass (top 100) 4), defBody (inClass (top 100) 4), defScope (inClass (top 100) 4), [], []⟩, ⟨("History", some "links"), "links", "History.links", defArgs (inClass (top 100) 5), defBody (inClass (top 100) 5), defScope (inClass (top 100) 5), [], []⟩, ⟨("History", some "wrote"), "wrote", "History.wrote", defArgs (inClass (top 100) 6), defBody (inClass (top 100) 6), defScope (inClass (top 100) 6), [], []⟩, ⟨("History", some "node_count"), "node_count", "History.node_count", defArgs (inClass (top 100) 7), defBody (inClass (top 100) 7), defScope (inClass (top 100) 7), [], []⟩, ⟨("History", some "book"), "book", "History.book", defArgs (inClass (top 100) 11), defBody (inClass (top 100) 11), defScope (inClass (top 100) 11), [], []⟩, ⟨("History", some "write"), "write", "History.write", defArgs (inClass (top 100) 12), defBody (inClass (top 100) 12), defScope (inClass (top 100) 12), [], []⟩, ⟨("History", some "merge"), "merge", "History.merge", defArgs (inClass (top 100) 13), defBody (inClass (top 100) 13), defScope (inClass (top 100) 13), [], [("answers", .non)]⟩, ⟨("History", some "clone"), "clone", "History.clone", defArgs (inClass (top 100) 14), defBody (inClass (top 100) 14), defScope (inClass (top 100) 14), [], []⟩, ⟨("Desk", some "__init__"), "__init__", "Desk.__init__", defArgs (inClass (top 108) 0), defBody (inClass (top 108) 0), defScope (inClass (top 108) 0), [], [("depth", .int 8)]⟩, ⟨("Desk", some "fork"), "fork", "Desk.fork", defArgs (inClass (top 108) 1), defBody (inClass (top 108) 1), defScope (inClass (top 108) 1), [], []⟩, ⟨("Desk", some "write"), "write", "Desk.write", defArgs (inClass (top 108) 3), defBody (inClass (top 108) 3), defScope (inClass (top 108) 3), [], []⟩, ⟨("Desk", some "merge"), "merge", "Desk.merge", defArgs (inClass (top 108) 4), defBody (inClass (top 108) 4), defScope (inClass (top 108) 4), [], [("answers", .non)]⟩, ⟨("Desk", some "tip"), "tip", "Desk.tip", defArgs (inClass (top 108) 10), defBody (inClass (top 108) 10), defScope (inClass (top 108) 10), [], []⟩, ⟨("Desk", some "book"), "book", "Desk.book", defArgs (inClass (top 108) 11), defBody (inClass (top 108) 11), defScope (inClass (top 108) 11), [], []⟩, ⟨("Desk", some "history"), "history", "Desk.history", defArgs (inClass (top 108) 12), defBody (inClass (top 108) 12), defScope (inClass (top 108) 12), [], []⟩, ⟨("Desk", some "attempt"), "attempt", "Desk.attempt", defArgs (inClass (top 108) 18), defBody (inClass (top 108) 18), defScope (inClass (top 108) 18), [], []⟩]
def fns : List (He.DefD) := fns0 ++ (fns1 ++ (fns2 ++ (fns3 ++ (fns4))))
def ads0 : List (Addr) := [2, 3, 30, 31, 43, 44, 55, 56, 128, 139, 140, 142, 143, 170, 181, 182, 184, 185, 191, 202, 203, 205, 206, 445, 446, 452, 453, 457, 458, 464, 465, 469, 470, 474, 475, 481, 482, 488, 489, 500]
def ads1 : List (Addr) := [501, 505, 506, 517, 518, 531, 532, 543, 544, 550, 551, 555, 556, 565, 566, 581, 582, 593, 594, 600, 601, 605, 606, 620, 621, 636, 637, 657, 658, 669, 670, 689, 690, 700, 701, 707, 708, 712, 713, 719]
def ads2 : List (Addr) := [720, 726, 727, 733, 734, 740, 741, 747, 748, 761, 762, 795, 796, 804, 805, 811, 812, 816, 817, 821, 822, 828, 829, 840, 841, 847, 848, 1077, 1078, 1084, 1085, 1209, 1210, 1223, 1224, 1230, 1231, 1237, 1238, 1265]
def ads3 : List (Addr) := [1266, 1272, 1273, 1286, 1287, 1293, 1294, 1305, 1306, 1310, 1311, 1344, 1345, 1362, 1363, 1369, 1370, 1376, 1377, 1390, 1391, 1397, 1398, 1404, 1405, 1411, 1412, 1439, 1440, 1446, 1447, 1448, 1454, 1455, 1461, 1462, 1464, 1465, 1470, 1471]
def ads4 : List (Addr) := [1473, 1474, 1484, 1485, 1491, 1492, 1496, 1497, 1503, 1504, 1512, 1518, 1519, 1525, 1526, 1539, 1540, 1541, 1547, 1548, 1589, 1590, 1596, 1597, 1603, 1604, 1645, 1646, 1662, 1663, 1671, 1672, 1678, 1679, 1685, 1686, 1692, 1693, 1697, 1698]
def ads5 : List (Addr) := [1704, 1705, 1711, 1712, 1718, 1719, 1725, 1726, 1730, 1731, 1735, 1736, 1740, 1741, 1745, 1746, 1752, 1753, 1759, 1760, 1766, 1767, 1773, 1774, 1780, 1781, 1787, 1788, 1792, 1793, 1797, 1798, 1802, 1803, 1809, 1810, 1814, 1815]
def ads : List (Addr) := ads0 ++ (ads1 ++ (ads2 ++ (ads3 ++ (ads4 ++ (ads5)))))
/-! ### own errors -/
def oexB (K : PySem.W.Frag) (C : Addr) : Bool := (match K.lookup C with
  | some ⟨.type "type", _, .cls cd, sl⟩ => (match cd.mro, sl.toList with
    | .ref C' :: bm, [_, _, _, _, some (.builtin n), _] => C' == C && (n == "ValueError.__new__" && (!cd.hasDel && (cd.hasDict && PySem.HandSPX.refsVE bm)))
    | _, _ => false)
  | _ => false) && (eqO (PySem.W.findIn K (.ref C) "__setattr__") (some (some (.builtin "object.__setattr__"))) && (decide (PySem.W.subIn K (.ref C) (.type "BaseException") = some true) && (decide (PySem.W.typeIn K (.ref C) = some (.type "type")) && PySem.W.keepIn K (.ref C))))
theorem oexB_ok {K : PySem.W.Frag} {C : Addr} (h : oexB K C = true) : OexC K C := by
  unfold oexB at h
  obtain ⟨q, h⟩ := ba h
  obtain ⟨h2, h⟩ := ba h
  obtain ⟨h3, h⟩ := ba h
  obtain ⟨h4, h5⟩ := ba h
  refine ⟨?_, eqO_ok h2, of_decide_eq_true h3, of_decide_eq_true h4, h5⟩
  split at q
  · rename_i dd cd sl ho
    split at q
    · rename_i C' bm k0 k1 k2 k3 n k5 hm hs
      simp only [Bool.and_eq_true, beq_iff_eq, Bool.not_eq_true'] at q
      obtain ⟨rfl, rfl, hdel, hdct, ht⟩ := q
      obtain ⟨nm, bs, mro, ns, qn, hd, sn, sub, ab, col, del⟩ := cd
      dsimp only at hm hdel hdct
      subst hm hdel hdct
      have hsl : sl = #[k0, k1, k2, k3, some (.builtin "ValueError.__new__"), k5] := by
        obtain ⟨l⟩ := sl
        simp only at hs
        rw [hs]
      subst hsl
      exact ⟨nm, qn, ns, bs, bm, sn, sub, ab, col, dd, k0, k1, k2, k3, k5, ho, ht⟩
    · cases q
  · cases q
/-- an own error: its class, its __init__'s statement, its fields, the cell of its class -/
structure ErD where
  x : Str
  qual : Str
  st : Stmt
  f1 : Str
  f2 : Str
  cc : Addr
def ErD.at_ (e : ErD) : Str × Option Str := (e.x, some "__init__")
def cdO (K : PySem.W.Frag) (f : Addr) : Addr := match K.lookup f with
  | some ⟨_, _, .func fd, _⟩ => (match fd.code with
    | .ref c => c
    | _ => 0)
  | _ => 0
def fileB (P : Program) (K : PySem.W.Frag) (c : Addr) : Bool := match K.lookup c with
  | some ⟨_, _, .fields vs, _⟩ => (match (vs[2]? : Option Value) with
    | some (Value.str file _) => (P.main.file : Str) == file
    | _ => false)
  | _ => false
def cellB (K : PySem.W.Frag) (c C : Addr) : Bool := match K.lookup c with
  | some ⟨_, _, .cell (some (.ref C')), _⟩ => C' == C
  | _ => false
def codeB (K : PySem.W.Frag) (f : Addr) : Bool := match K.lookup f with
  | some ⟨_, _, .func fd, _⟩ => decide (fd.code = .ref (cdO K f)) && dflB K fd.defaults []
  | _ => false
def erB (P : Program) (K : PySem.W.Frag) (e : ErD) : Bool := (oexB K (ga K e.x) && (xfB K (ga K e.x) && (decide (PySem.W.mroIn K (ga K e.x) (.ref (ga K e.x)) = some true) && (eqO (PySem.W.findIn K (.ref (ga K e.x)) "__init__") (some (some (.ref (fAd K e.at_)))) && (decide (PySem.W.typeIn K (.ref (fAd K e.at_)) = some (.type "function")) && (eqO (PySem.W.ks_superIn K (ga K e.x) (ga K e.x) "__init__") (some (some (.builtin "ValueError.__init__"))) && (decide (PySem.W.subIn K (.ref (ga K e.x)) (.type "ValueError") = some true) && (eqO (PySem.W.findIn K (.ref (ga K e.x)) e.f1) (some none) && (eqO (PySem.W.findIn K (.ref (ga K e.x)) e.f2) (some none) && (eqO (PySem.W.nsIn K cStatics "thirdparty.any") (some none) && (codeB K (fAd K e.at_) && (PySem.W.codeIn K (.ref (cdO K (fAd K e.at_))) e.qual && (fileB P K (cdO K (fAd K e.at_)) && (cellB K e.cc (ga K e.x) && eqO (PySem.W.nsIn K mainGlobals e.x) (some (some (.ref (ga K e.x))))))))))))))))))
def ErD.val (e : ErD) : FnW := some ("__init__", e.qual, defArgs e.st, .stmts (defBody e.st), defScope e.st, mainGlobals, [("__class__", e.cc)], builtinsNs)
/-! ### the table -/
def tupS (K : PySem.W.Frag) (q : Addr) (key : Str) (fs : List Str) : Bool := match PySem.W.nsIn K q key with
  | some (some (.ref T)) => (match K.lookup T with
    | some ⟨.type c, _, .seq its _, _⟩ => decide (c = "tuple") && (decide (its.size ≤ sizeLine) && relAll (fs.map V.str) its.toList)
    | _ => false)
  | _ => false
theorem tupS_ok {K : PySem.W.Frag} {q : Addr} {key : Str} {fs : List Str} (h : tupS K q key fs = true) : ∃ T, PySem.W.nsIn K q key = some (some (.ref T)) ∧ ∀ H, SqT K H T (fs.map V.str) := by
  unfold tupS at h
  split at h
  · rename_i T e
    split at h
    · rename_i c od its n sl ho
      obtain ⟨h1, h2⟩ := ba h
      obtain ⟨h3, h4⟩ := ba h2
      exact ⟨T, e, fun H => .inr ⟨_, its, n, ho, congrArg Value.type (of_decide_eq_true h1), rfl, of_decide_eq_true h3, relAll_ok h4⟩⟩
    · cases h
  · cases h
def fmKeys : List Str := ["fork", "drop", "write", "merge", "settle", "carry", "prefer", "forget"]
/-! ### the Hook -/
abbrev Al3 : Type := (Bool × List FnW) × (List FnW × Option (List (Option (Str × Int))))
def ers : List ErD := [⟨"PlaceClash", "PlaceClash.__init__", inClass (top 11) 0, "place", "found", 170⟩, ⟨"RuleClash", "RuleClash.__init__", inClass (top 12) 0, "key", "bar", 191⟩, ⟨"Unlawful", "Unlawful.__init__", inClass (top 9) 0, "key", "bar", 128⟩]
def bls (P : Program) (K : PySem.W.Frag) : Bool := (fas.all fun f => f.ok K) && ((fns.all fun d => d.ok K) && ((ers.all fun e => erB P K e) && formsTab.all fun t => tupS K (ga K "FORMS") t.1 t.2))
def obs3 (P : Program) (K : PySem.W.Frag) : Al3 := ((bls P K, fns.map fun d => fnW K d.at_), (ers.map fun e => fnW K e.at_, dicW K (ga K "FORMS")))
def val3 (w : World) : Al3 := ((true, fns.map DefD.val), (ers.map ErD.val, some (keysIn w.params fmKeys)))
def obs3G (P : Program) (g : Addr → Option Obj) : Al3 := obs3 P (frG g ads)
def hook3 (P : Program) : PySem.W.Hook where
  α := Al3
  obs := fun s => obs3G P s.heap.get?
  val := fun w => val3 w
  says := fun w h => ∃ K : PySem.W.Frag, K.In h ∧ obs3 P K = val3 w
  of := fun _ _ e => ⟨_, frG_in, e⟩
  keeps := fun _ _ _ ⟨K, hK, c⟩ k => ⟨K, PySem.W.Frag.In.keeps hK k, c⟩
theorem obs3G_eq {P : Program} {g : Addr → Option Obj} {s : Shared} (h : ∀ a, g a = s.heap.get? a) : obs3G P g = (hook3 P).obs s := by
  have e : g = s.heap.get? := funext h
  rw [e] <;> rfl
end FS
namespace FS
open PySem PySem.W PySem.Calls PyProof.Rows HandSHeadRun He FH
theorem run_a_false (w : World) (os : OsState) : (endF (stepQ (denQ tabQ) R.prog (w.withFollow "special-get-raises" false)) 30000 R.prog (w.withFollow "special-get-raises" false) os).map (fun s => fas.all fun f => f.ok (frG (getT s) ads)) = some (true) := by
  kernel_rfl
theorem run_a_true (w : World) (os : OsState) : (endF (stepQ (denQ tabQ) R.prog (w.withFollow "special-get-raises" true)) 30000 R.prog (w.withFollow "special-get-raises" true) os).map (fun s => fas.all fun f => f.ok (frG (getT s) ads)) = some (true) := by
  kernel_rfl
theorem run_b_false (w : World) (os : OsState) : (endF (stepQ (denQ tabQ) R.prog (w.withFollow "special-get-raises" false)) 30000 R.prog (w.withFollow "special-get-raises" false) os).map (fun s => (((fns0 ++ (fns1 ++ fns2)).all fun d => d.ok (frG (getT s) ads)) && ((ers.all fun e => erB R.prog (frG (getT s) ads) e) && formsTab.all fun t => tupS (frG (getT s) ads) (ga (frG (getT s) ads) "FORMS") t.1 t.2), dicW (frG (getT s) ads) (ga (frG (getT s) ads) "FORMS"))) = some ((true, some (keysIn (w.withFollow "special-get-raises" false).params fmKeys))) := by
  kernel_rfl
theorem run_b_true (w : World) (os : OsState) : (endF (stepQ (denQ tabQ) R.prog (w.withFollow "special-get-raises" true)) 30000 R.prog (w.withFollow "special-get-raises" true) os).map (fun s => (((fns0 ++ (fns1 ++ fns2)).all fun d => d.ok (frG (getT s) ads)) && ((ers.all fun e => erB R.prog (frG (getT s) ads) e) && formsTab.all fun t => tupS (frG (getT s) ads) (ga (frG (getT s) ads) "FORMS") t.1 t.2), dicW (frG (getT s) ads) (ga (frG (getT s) ads) "FORMS"))) = some ((true, some (keysIn (w.withFollow "special-get-raises" true).params fmKeys))) := by
  kernel_rfl
theorem run_c_false (w : World) (os : OsState) : (endF (stepQ (denQ tabQ) R.prog (w.withFollow "special-get-raises" false)) 30000 R.prog (w.withFollow "special-get-raises" false) os).map (fun s => (fns3.all fun d => d.ok (frG (getT s) ads), looksF R.prog (boot_heap (w.withFollow "special-get-raises" false).params) s.abs)) = some ((true, true)) := by
  kernel_rfl
theorem run_c_true (w : World) (os : OsState) : (endF (stepQ (denQ tabQ) R.prog (w.withFollow "special-get-raises" true)) 30000 R.prog (w.withFollow "special-get-raises" true) os).map (fun s => (fns3.all fun d => d.ok (frG (getT s) ads), looksF R.prog (boot_heap (w.withFollow "special-get-raises" true).params) s.abs)) = some ((true, true)) := by
  kernel_rfl
theorem run_d_false (w : World) (os : OsState) : (endF (stepQ (denQ tabQ) R.prog (w.withFollow "special-get-raises" false)) 30000 R.prog (w.withFollow "special-get-raises" false) os).map (fun s => (fns.map fun d => fnW (frG (getT s) ads) d.at_, ers.map fun e => fnW (frG (getT s) ads) e.at_)) = some ((fns.map DefD.val, ers.map ErD.val)) := by
  kernel_rfl
theorem run_d_true (w : World) (os : OsState) : (endF (stepQ (denQ tabQ) R.prog (w.withFollow "special-get-raises" true)) 30000 R.prog (w.withFollow "special-get-raises" true) os).map (fun s => (fns.map fun d => fnW (frG (getT s) ads) d.at_, ers.map fun e => fnW (frG (getT s) ads) e.at_)) = some ((fns.map DefD.val, ers.map ErD.val)) := by
  kernel_rfl
theorem run_e_false (w : World) (os : OsState) : (endF (stepQ (denQ tabQ) R.prog (w.withFollow "special-get-raises" false)) 30000 R.prog (w.withFollow "special-get-raises" false) os).map (fun s => (fns4.all fun d => d.ok (frG (getT s) ads), seenQ qv names (importedModules R.prog.main.body) (fun s => xlAt qv [] s && recOk R.toRowW.records s) s.abs)) = some ((true, openGood qv names)) := by
  kernel_rfl
theorem run_e_true (w : World) (os : OsState) : (endF (stepQ (denQ tabQ) R.prog (w.withFollow "special-get-raises" true)) 30000 R.prog (w.withFollow "special-get-raises" true) os).map (fun s => (fns4.all fun d => d.ok (frG (getT s) ads), seenQ qv names (importedModules R.prog.main.body) (fun s => xlAt qv [] s && recOk R.toRowW.records s) s.abs)) = some ((true, openGood qv names)) := by
  kernel_rfl
end FS
/-! text RA -/
/-! Own rule: a dict display of two stars. -/
namespace FS
open PySem PySem.Spec PyProof.Rows L2
section
variable {prog : Program} {w : World} {K : Type} [DecidableEq K] {knd : KeyKind prog w K} {A : Around} {E : Value → Shared → Prop} {s : Shared}
theorem put_pairs {d : Addr} {kvs : List (K × Value)} {k : K} {key v : Value} {Q : Unit → Shared → Prop} (hkey : knd.is k key = true) (hm : s.heap.DictOf knd d kvs) (hsz : kvs.length ≤ sizeLine)
    (hQ : ∀ h', h'.DictOf knd d (stored kvs k v) → Heap.SameBut d s.heap h' → Q () { s with heap := h' }) : wpAny (model prog w) A (dictPut d (knd.hash k) key v) Q E s := by
  obtain ⟨o, es, ep, ho, hc, hd, hk, hp, hn⟩ := hm
  have hes : es.size ≤ sizeLine := by
    have e1 := hp.length
    have e2 : es.toList.length = es.size := by simp
    omega
  unfold dictPut
  refine wpAny_bind (wpAny_dictFind_of hkey ho hd hk ?_)
  have hidx : (es.findIdx? fun e => knd.is k e.key) = kvs.findIdx? fun kv => decide (kv.1 = k) := by
    rw [← hp.findIdx k]
    obtain ⟨l⟩ := es
    simp
  cases hi : es.findIdx? fun e => knd.is k e.key with
  | some i =>
    refine wpAny_updateDict ho hd (hQ _ ⟨_, _, ep, Heap.get?_update_self _ ho (Obj.isFreed_of_dict (Obj.data_mapDict hd _)), hc.mapDict _, Obj.data_mapDict hd _, hk.modify _ _, ?_, ?_⟩ (Heap.SameBut.update ..))
    · rw [stored, if_pos (any_of_findIdx_some (hidx ▸ hi))]
      have hl : (es.toList.findIdx? fun e => knd.is k e.key) = some i := by
        rw [← hi]
        obtain ⟨l⟩ := es
        simp
      have q := hp.modify hn hl v
      obtain ⟨l⟩ := es
      simpa using q
    · rw [stored, if_pos (any_of_findIdx_some (hidx ▸ hi)), keys_map_store]
      exact hn
  | none =>
    have hnot : k ∉ kvs.map (·.1) := not_mem_of_findIdx_none (hidx ▸ hi)
    have hany : ¬ (kvs.any fun kv => decide (kv.1 = k)) = true := fun z => by
      obtain ⟨kv, hkv, he⟩ := List.any_eq_true.mp z
      exact hnot (List.mem_map.mpr ⟨kv, hkv, of_decide_eq_true he⟩)
    refine wpAny_updateDictKeys (hz := hes) ho hd (hQ _ ⟨_, _, ep + 1, Heap.get?_update_self _ ho (Obj.isFreed_of_dict (Obj.data_mapDictKeys hd _)), hc.mapDictKeys _, Obj.data_mapDictKeys hd _, hk.push hkey _, ?_, ?_⟩ (Heap.SameBut.update ..))
    · rw [stored, if_neg hany]
      have q := hp.append hkey (knd.hash k) v
      obtain ⟨l⟩ := es
      simpa using q
    · rw [stored, if_neg hany, List.map_append, List.nodup_append]
      refine ⟨hn, by simp, fun a ha b hb => ?_⟩
      simp only [List.map_cons, List.map_nil, List.mem_singleton] at hb
      subst hb
      exact fun e => hnot (e ▸ ha)
theorem wp_skip {α : Type} {M : Model} {l : Array α} {f : α → PUnit → Sem (ForInStep PUnit)} {Q : PUnit → Shared → Prop} (hf : ∀ e ∈ l, f e PUnit.unit = pure (.yield PUnit.unit)) (h : Q PUnit.unit s) : wpAny M A (forIn l PUnit.unit f) Q E s := by
  obtain ⟨l⟩ := l
  rw [List.forIn_toArray]
  have e : forIn l PUnit.unit f = (pure PUnit.unit : Sem PUnit) := by
    induction l with
    | nil => rfl
    | cons x r ih =>
      rw [List.forIn_cons, hf x (by simp), pure_bind]
      exact ih fun y hy => hf y (by simp at hy ⊢; exact .inr hy)
  rw [e]
  exact wpAny_pure h
/-- the entries of o, one after another, into d -/
theorem merge_map {d o : Addr} {kvs more : List (K × Value)} {Q : Unit → Shared → Prop} (hdo : d ≠ o) (hoS : (o == sysModules) = false) (hd : s.heap.DictOf knd d kvs) (ho : s.heap.DictOf knd o more) (hnk : ∀ k v, knd.is k v = true → ∀ a, v ≠ .ref a)
    (hsz : kvs.length + more.length ≤ sizeLine) (hQ : ∀ h', h'.DictOf knd d (merged kvs more) → Heap.SameBut d s.heap h' → Q () { s with heap := h' }) : wpAny (model prog w) A (mergeMapping d (.ref o) false) Q E s := by
  obtain ⟨od, esd, epd, hod, hcd, hdd, hkd, hpd, hnd⟩ := id hd
  obtain ⟨oo, eso, epo, hoo, hco, hdo', hko, hpo, hno⟩ := id ho
  have hlen : more.length = eso.size := by
    rw [← hpo.length]
    simp
  have noref : ∀ e ∈ eso, ∀ a, e.key ≠ .ref a := fun e he a z => by
    obtain ⟨k, hk, _⟩ := hko e he
    exact hnk k _ hk a z
  unfold mergeMapping
  refine wpAny_bind (wpAny_isInstance ho.typeIs isSubtype_dict_dict ?_)
  dsimp only
  rw [if_pos rfl]
  refine wpAny_bind (wpAny_specialOf ho.typeIs F.slot_dict_iter.lookup (wpAny_bind (wpAny_pure ?_)))
  rw [show ((some (Value.builtin "dict.__iter__") : Option Value) == some (Value.builtin "dict.__iter__")) = true from beq_self_eq_true _]
  dsimp only
  rw [if_neg (by rw [hoS]; exact Bool.false_ne_true)]
  refine wpAny_bind (wpAny_dictEntries hod hdd ?_)
  split
  case' isTrue =>
    refine wpAny_bind (wpAny_dictEntries hoo hdo' ?_)
    refine wpAny_bind (wp_skip (fun e he => ?_) ?_)
    · split
      · rename_i a hk
        exact absurd hk (noref e he a)
      · rfl
  all_goals
    simp only [Bool.false_eq_true, if_false]
    refine wpAny_bind (wpAny_dictEntries hoo hdo' ?_)
    refine wpAny_bind (wpAny_dictEpoch hoo hdo' ?_)
    rw [List.range_eq_range']
    refine wpAny_bind ?_
    refine wpAny_forIn_list _
      (fun rest _ s' => ∃ h' i, s' = { s with heap := h' } ∧ rest = List.range' i (eso.size - i) ∧ i ≤ eso.size ∧ h'.DictOf knd d (merged kvs (more.take i)) ∧ h'.get? o = some oo ∧ Heap.SameBut d s.heap h')
      _ ?_ ?_ _ _ ⟨s.heap, 0, rfl, by simp, Nat.zero_le _, by simpa [merged] using hd, hoo, Heap.SameBut.refl _ _⟩
    · rintro x rest b s' ⟨h', i, rfl, hr, hi, hd', hoo', hs'⟩
      have hlt : i < eso.size := by
        rcases Nat.lt_or_ge i eso.size with h | h
        · exact h
        · rw [Nat.sub_eq_zero_of_le h] at hr
          simp at hr
      obtain ⟨rfl, hrest⟩ : x = i ∧ rest = List.range' (i + 1) (eso.size - (i + 1)) := by
        have e : eso.size - i = (eso.size - (i + 1)) + 1 := by omega
        rw [e, List.range'_succ] at hr
        injection hr with h1 h2
        exact ⟨h1, h2⟩
      refine wpAny_bind (wpAny_dictEntries hoo' hdo' ?_)
      rw [Array.getElem?_eq_getElem hlt]
      obtain ⟨kv, hkv⟩ : ∃ kv, more[x]? = some kv := ⟨more[x]'(by rw [hlen]; exact hlt), List.getElem?_eq_getElem _⟩
      obtain ⟨k, v⟩ := kv
      obtain ⟨hkey, hval⟩ := hpo.get? (e := eso[x]) (by simp [hlt]) hkv
      obtain ⟨k', hkey', hhash⟩ := hko eso[x] (Array.getElem_mem hlt)
      obtain rfl : k' = k := knd.inj _ _ _ hkey' hkey
      show wpAny _ _ (holding [eso[x].key, eso[x].val] (dictPut d eso[x].hash eso[x].key eso[x].val) >>= _) _ _ _
      rw [hhash, hval]
      have hmx : (merged kvs (more.take x)).length ≤ sizeLine := by
        have e1 := merged_length_le kvs (more.take x)
        have e2 : (more.take x).length ≤ more.length := by
          rw [List.length_take]
          omega
        omega
      refine wpAny_bind (wpAny_holding (put_pairs hkey hd' hmx fun h'' hd'' hs'' => ?_))
      have hoo'' : h''.get? o = some oo := (hs''.2 o (Ne.symm hdo)).trans hoo'
      refine wpAny_bind (wpAny_dictEpoch hoo'' hdo' ?_)
      rw [if_neg (by simp)]
      exact wpAny_pure ⟨h'', x + 1, rfl, hrest, hlt, by rw [merged_take_succ kvs more x (k', v) hkv]; exact hd'', hoo'', hs'.trans hs''⟩
    · rintro b s' ⟨h', i, rfl, hr, hi, hd', hoo', hs'⟩
      have hin : i = eso.size := by
        rcases Nat.lt_or_ge i eso.size with h | h
        · have e : eso.size - i = (eso.size - (i + 1)) + 1 := by omega
          rw [e, List.range'_succ] at hr
          exact nomatch hr
        · exact Nat.le_antisymm hi h
      refine wpAny_pure (hQ h' ?_ hs')
      rw [hin, ← hlen, List.take_length] at hd'
      exact hd'
end
section
variable {X : Cx} {a b : Expr} {ta tb : TE} {pos : Pos}
theorem mix_noref {P : Program} {w : World} (k : Key) (v : Value) (h : (mixKind P w).is k v = true) (a : Addr) : v ≠ .ref a := fun z => by
  subst z
  cases k with
  | inl i => exact nomatch h
  | inr x => exact nomatch h
/-- the mapping at o into the dict at d -/
theorem merge_ok {pins : List (Addr × Obj)} {σ : L2.St} {H : Hp} {s : Shared} {d o : Addr} {kvs more : List (Key × V)} {Q : Unit → Shared → Prop} {E : Value → Shared → Prop} (I : L2.Inv X pins σ H s) (hD : H d = some (.dK kvs)) (ho : Rd H o (.dK more)) (hdo : d ≠ o)
    (hz : kvs.length + more.length ≤ sizeLine) (h : ∀ s', Inv X pins σ (upd H d (.dK (mergeK kvs more))) s' → Q () s') : wpAny (model X.prog X.w) X.A (mergeMapping d (.ref o) false) Q E s := by
  obtain ⟨z1, s1, vs, r1, d1⟩ := dk_of I.hok hD
  obtain ⟨z2, s2, ws, r2, d2⟩ := dk_rd I.hok ho
  have l1 : kvs.length = vs.length := Paired.length r1
  have l2 : more.length = ws.length := Paired.length r2
  refine merge_map (knd := mixKind X.prog X.w) hdo s2 d1 d2 mix_noref (by omega) fun h' d' hs => h _ ?_
  have he : ∃ q, h'.get? d = some q := by
    obtain ⟨q, _, _, hq, _⟩ := d'
    exact ⟨q, hq⟩
  have hl := length_mergeK more kvs
  exact d_write (t' := s.toks) I (by rw [hD]; exact True.intro) hs he (dk_new (by omega) s1 (r2.merge r1) d')
/-- {**a, **b}: D the new dict -/
def tStar2 (ta tb : TE) : TE := fun σ H Q => ∀ D, H D = none → ta σ (upd H D (.dK [])) fun x H1 => ∃ (p : Addr) (kvs : List (Key × V)), x = .ref p ∧ D ≠ p ∧ H1 D = some (.dK []) ∧ Rd H1 p (.dK kvs) ∧ kvs.length ≤ 1000 ∧
  tb σ (upd H1 D (.dK (mergeK [] kvs))) fun y H2 => ∃ (q : Addr) (more : List (Key × V)), y = .ref q ∧ D ≠ q ∧ H2 D = some (.dK (mergeK [] kvs)) ∧ Rd H2 q (.dK more) ∧ more.length ≤ 1000 ∧ Q (.ref D) (upd H2 D (.dK (mergeK (mergeK [] kvs) more)))
theorem pe_star2 (ha : PE X a ta) (hb : PE X b tb) : PE X (.Dict [none, none] [a, b] pos) (tStar2 ta tb) := by
  refine ⟨fun pins s σ H Q I h => ?_⟩
  have sz : (1000 : Nat) + 1000 + 1000 ≤ sizeLine := by decide
  rw [arm_eval_Dict]
  refine wpAny_bind (wpAny_standAt ?_)
  show wpAny _ _ (dictDisplay [(none, do let x ← eval a X.env; standAt pos; pure x), (none, do let x ← eval b X.env; standAt pos; pure x)]) _ _ _
  unfold dictDisplay
  simp only [List.forIn_cons, List.forIn_nil, List.isEmpty_nil, if_true, pure_bind, bind_assoc]
  have hf : H s.heap.objs.size = none := I.hok.fresh (Nat.le_refl _)
  refine wpAny_bind (wpAny_alloc ?_)
  have I1 : Inv X pins σ (upd H s.heap.objs.size (.dK [])) { s with heap := s.heap.push { cls := .type "dict", data := .dict #[] } } := I.laid (t' := s.toks) (fun b o e => Heap.get?_push_of_some _ e) (Nat.le_refl _) (dk_empty s.heap I.big)
  have grd : ∀ {m : Sem Unit} {k k2 : Value → Sem Unit} {g : Value → Sem Unit} {Q1 : Unit → Shared → Prop} {s1 : Shared}, wpAny (model X.prog X.w) X.A m Q1 (fun _ _ => False) s1 → wpAny (model X.prog X.w) X.A (((m.onRaise k).tryCatch g).onRaise k2) Q1 X.xe s1 := fun {m k k2 g Q1 s1} h =>
    wpAny_onRaise (wpAny_tryCatch (wpAny_onRaise (wpAny_mono h (fun _ _ z => z) fun _ _ z => z.elim)))
  refine wpAny_bind (wpAny_holding (wpAny_bind (thn (ha.run pins _ σ _ _ I1 (h _ hf)) fun v s2 ⟨x, H1, I2, r2, p, kvs, ex, n1, hD1, hp, l1, q1⟩ => wpAny_bind (wpAny_standAt (wpAny_pure ?_)))))
  subst ex
  obtain rfl : v = Value.ref p := r2
  refine wpAny_bind (grd (wpAny_holding (merge_ok I2 hD1 hp n1 (by rw [List.length_nil]; omega) fun s3 I3 => ?_)))
  refine wpAny_bind (wpAny_holding (wpAny_bind (thn (hb.run pins s3 σ _ _ I3 q1) fun v s4 ⟨y, H2, I4, r4, q, more, ey, n2, hD2, hq, l2, q2⟩ => wpAny_bind (wpAny_standAt (wpAny_pure ?_)))))
  subst ey
  obtain rfl : v = Value.ref q := r4
  have l3 := length_mergeK kvs []
  rw [List.length_nil] at l3
  exact wpAny_bind (grd (wpAny_holding (merge_ok I4 hD2 hq n2 (by omega) fun s5 I5 => wpAny_pure ⟨.ref s.heap.objs.size, _, I5, rfl, q2⟩)))
end
end FS
/-! text RB -/
/-! Own rule: set(xs) of a list or a tuple of whole numbers, and what sorted makes of it. -/
namespace PySem
open PySem.Spec PyProof.Rows L2
abbrev set0 (w : World) : Obj := { cls := .type "set", dict := none, data := .set #[] 0 (.fresh 0 0 (!w.params.followText "set-order")) }
section
variable {P : Program} {w : World} {A : Around} {E : Value → Shared → Prop} {s : Shared}
set_option maxHeartbeats 8000000 in
theorem set_of_list {l : Addr} {items : Array Value} (ns : List Int) {Q : Value → Shared → Prop} (hh : A.handled = none) (hl : s.heap.IsList l items) (hit : IntsAre items.toList ns) (hb : ns.length + 1 < scanBound)
    (h : ∀ (h' : Heap) (tk c : Nat), SetR w h' s.heap.objs.size (fun j => decide (j ∈ ns)) c → c ≤ ns.length → (∀ b o, s.heap.get? b = some o → h'.get? b = some o) → Q (.ref s.heap.objs.size) { s with heap := h', toks := tk }) :
    wpAny (model P w) A (call (.type "set") [.ref l]) Q E s := by
  have hsz : items.size = ns.length := (Array.length_toList (xs := items)).symm.trans (IntsAre.length hit)
  obtain ⟨c, tl, hmro⟩ := F.called_set.mro
  have hmade := F.called_set.made
  have hsub := F.called_set.sub
  refine wpAny_call (codeAny_of_tree (wpAny_pure ⟨Code.quiet_builtin _ (by decide +kernel), codeAny_builtin F.entry_type_call ?_⟩))
  rw [Around.under_plain (weight_type_call_type "set" [.ref l] []) rfl]
  have h1 := F.called_set.notType
  have h2 := F.called_set.canCreate
  have hct := F.typeCall_set_1 (.ref l)
  repeat (any_goals (first | assumption | wp_step))
  refine codeAny_mono (code_set_led1 (.ref l) (E := E) (Q₁ := fun obj s₁ => obj = .ref s.heap.objs.size ∧ s₁ = { s with heap := s.heap.push (set0 w) }) ⟨rfl, rfl⟩) fun r s₁ hr => ?_
  match r, hr with
  | .error e, hr => exact hr
  | .ok .next, hr => exact hr.elim
  | .ok .brk, hr => exact hr.elim
  | .ok .cont, hr => exact hr.elim
  | .ok (.ret obj), hr =>
    obtain ⟨rfl, rfl⟩ := hr
    have hS : (s.heap.push (set0 w)).get? s.heap.objs.size = some (set0 w) := Heap.get?_push_size _ rfl
    have hT : Shared.TypeIs { s with heap := s.heap.push (set0 w) } (.ref s.heap.objs.size) "set" := ⟨_, hS, rfl⟩
    have hli := F.called_set.init.lookup
    have hbi := F.called_set.init.bind (.ref s.heap.objs.size)
    repeat (any_goals (first | assumption | wp_step))
    refine codeAny_mono (codeAny_call_builtin (R := wants (fun r s₂ => r = .none ∧ ∃ h' tk c, s₂ = { s with heap := h', toks := tk } ∧ SetR w h' s.heap.objs.size (fun j => decide (j ∈ ns)) c ∧ c ≤ ns.length ∧
        (∀ b o, s.heap.get? b = some o → h'.get? b = some o)) E) F.called_set.init.plain F.entry_set_init (check_set_init_1 hT ?_)) fun r₂ s₂ hr₂ => ?_
    · obtain ⟨⟨ocls, odict, odata, oslots⟩, hol, hcl, nl, hdl⟩ := hl
      simp only at hcl hdl
      subst hcl hdl
      have hol' : (s.heap.push (set0 w)).get? l = some { cls := .type "list", dict := odict, data := .seq items nl, slots := oslots } := Heap.get?_push_of_some _ hol
      have hsls := F.sub_list_set
      have hslf := F.sub_list_frozenset
      have hne : (Value.type "list" == Value.type "dict") = false := by decide
      have hl1 : (s.heap.push (set0 w)).IsList l items := ⟨_, hol', rfl, nl, rfl⟩
      unfold Builtin.«set.__init__» noKeywords Builtin.Frozenset.updateFrom
      generalize hPI : pyIter = PI
      wp_walk
      subst hPI
      refine wpAny_pyIter_list hl1 (wpAny_bind (wpAny_runValue ?_))
      have hlS : l < s.heap.objs.size := Heap.lt_size hol
      have hh3 : A.in1.in1.in1.handled = none := by simp [hh]
      have e1 : (s.heap.push (set0 w)).objs.size = s.heap.objs.size + 1 := Heap.size_push ..
      have hneI : l ≠ (s.heap.push (set0 w)).objs.size := by
        rw [e1]
        exact Nat.ne_of_lt (Nat.lt_succ_of_lt hlS)
      have hSf : s.heap.objs.size ∉ [(s.heap.push (set0 w)).objs.size, l] := by
        rw [e1]
        simp only [List.mem_cons, List.not_mem_nil, or_false, not_or]
        exact ⟨Nat.ne_of_lt (Nat.lt_succ_self _), Nat.ne_of_gt hlS⟩
      refine set_update_ints ((Walks.list hh3 _ l hneI items).toS) s.heap.objs.size hSf ns hsz hb (fun i v hv => ?_) (items.size - 0) 0 _ (by omega) (Nat.zero_le _) ⟨⟨_, Heap.get?_push_size _ rfl, rfl, rfl⟩, (hl1.push _)⟩ ?hS0 ?hR
      · have hi : i < ns.length := by
          rw [← hsz]
          exact (Array.getElem?_eq_some_iff.mp hv).1
        obtain ⟨t, e⟩ := IntsAre.int_at hit i v (by rw [Array.getElem?_toList]; exact hv)
        refine ⟨ns[i], t, List.getElem?_eq_getElem hi, ?_⟩
        rw [e, List.getD_eq_getElem?_getD, List.getElem?_eq_getElem hi] <;> rfl
      case hS0 => exact ⟨0, Nat.le_refl 0, setR_new_at (Heap.get?_push_of_some _ hS)⟩
      case hR =>
        rintro ⟨h', g2, d', tk', os'⟩ c' hm hc' hS'
        obtain rfl : g2 = s.gens := hm.gens
        obtain rfl : d' = s.drawn := hm.drawn
        obtain rfl : os' = s.os := hm.os
        refine wpAny_pure (wpAny_pure ⟨rfl, h', tk', c', rfl, hS', by omega, fun b o e => ?_⟩)
        have hb0 : b < s.heap.objs.size := Heap.lt_size e
        refine hm.heap b o ?_ (Heap.get?_push_of_some _ (Heap.get?_push_of_some _ e))
        rw [e1]
        simp only [List.mem_cons, List.not_mem_nil, or_false, not_or]
        exact ⟨Nat.ne_of_lt hb0, Nat.ne_of_lt (Nat.lt_succ_of_lt hb0)⟩
    · match r₂, hr₂ with
      | .error e, hr₂ => exact hr₂
      | .ok .next, hr₂ => exact hr₂.elim
      | .ok .brk, hr₂ => exact hr₂.elim
      | .ok .cont, hr₂ => exact hr₂.elim
      | .ok (.ret r), hr₂ =>
        obtain ⟨rfl, h', tk, c', rfl, hS', hc', hk'⟩ := hr₂
        repeat (any_goals (first | assumption | wp_step))
        exact h _ _ _ hS' hc' hk'
end
end PySem
namespace FS
open PySem PySem.Spec PyProof.Rows L2
section
variable {X : Cx}
theorem setR_keys {w : World} {h : Heap} {a : Addr} {S : Int → Bool} {n : Nat} (R : SetR w h a S n) : ∃ ks : List Int, ks.Nodup ∧ (∀ k, S k = true ↔ k ∈ ks) ∧ ks.length = n := by
  obtain ⟨o, es, ep, t, _, _, _, _, hn, hm, _, _, hl, _⟩ := R
  exact ⟨_, hn, hm, by simpa using hl⟩
theorem ints_of : ∀ {ns : List Int} {us : List Value}, Vals (ns.map V.int) us → IntsAre us ns
  | [], _, .nil => .nil
  | n :: ns, _, .cons r t => by
    obtain ⟨k, rfl⟩ := r
    exact .cons n k (ints_of t)
/-- set(xs), xs a list or a tuple of ints -/
def rSetI (K : PySem.W.Frag) (w : World) : List V → Hp → VK → Prop := fun xs H Q => ∃ (l : Addr) (ns : List Int), xs = [.ref l] ∧ (SqL K H l (ns.map V.int) ∨ SqT K H l (ns.map V.int)) ∧ ns.length ≤ 1000 ∧
  ∀ (p : Addr) (ks : List Int), H p = none → ks.Nodup → (∀ k, k ∈ ks ↔ k ∈ ns) → Q (.ref p) (upd H p (SetO w p (fun j => decide (j ∈ ns)) ks.length))
theorem cr_setI (hc : X.calm = true) : CallR X (.type "set") (rSetI X.K X.w) := by
  intro pins s σ H xs us Q I r h
  obtain ⟨l, ns, rfl, hq, hz, q⟩ := h
  obtain ⟨u, rfl, ru⟩ := vals1 r
  cases ru
  have fin : ∀ (h' : Heap) (tk c : Nat), SetR X.w h' s.heap.objs.size (fun j => decide (j ∈ ns)) c → c ≤ ns.length → (∀ b o, s.heap.get? b = some o → h'.get? b = some o) → EP X pins σ Q (.ref s.heap.objs.size) { s with heap := h', toks := tk } := fun h' tk c hS _ hk => by
    obtain ⟨ks, k1, k2, k3⟩ := setR_keys hS
    subst k3
    refine ⟨.ref s.heap.objs.size, _, I.laid hk (Nat.le_refl _) (setO_new hS), rfl, q s.heap.objs.size ks (I.hok.fresh (Nat.le_refl _)) k1 fun k => ?_⟩
    rw [← k2 k, decide_eq_true_iff]
  have hb : ns.length + 1 < scanBound := by
    unfold scanBound
    omega
  rcases hq with hq | hq
  · obtain ⟨its, rv, pl, _⟩ := I.list hq
    exact set_of_list ns (I.ok.hd hc) pl.isList (by simpa using ints_of rv) hb fin
  · obtain ⟨its, rv, pl, _⟩ := I.tuple hq
    exact call_set_tupI ns (I.ok.hd hc) (show s.heap.IsTuple l its.toArray from pl) (by simpa using ints_of rv) hb fin
end
end FS
/-! text W1 -/
/-! W1: data trees D over the abstract heap, a store of cells that may change, and judgements on both. -/
namespace FS
open PySem PySem.Spec PyProof.Rows L2
/-- what a value is, read through the heap; ptr: a thing that stands in the store (or is known by its address alone) -/
inductive D where
  | non | bl (b : Bool) | int (i : Int) | str (x : Str) | ptr (p : Addr) | ty (n : String) | scr (K : PySem.W.Frag) (ns : List Int)
  | lst (ds : List D) | tup (ds : List D) | dct (kvs : List (Key × D)) | ins (C : Addr) (fs : List (Str × D))
/-- the cells that may change (by what they hold), and things that are being made elsewhere -/
structure Sto where
  c : Addr → Option D
  P : Addr → Prop
instance : CoeFun Sto fun _ => Addr → Option D := ⟨Sto.c⟩
abbrev Sto.dom (L : Sto) : Addr → Prop := fun a => L a ≠ none ∨ L.P a
mutual
inductive Rep (M : Addr → Prop) (H : Hp) : D → V → Prop
  | non : Rep M H .non .non
  | bl {b} : Rep M H (.bl b) (.bl b)
  | int {i} : Rep M H (.int i) (.int i)
  | str {x} : Rep M H (.str x) (.str x)
  | ptr {p} : Rep M H (.ptr p) (.ref p)
  | ty {n} : Rep M H (.ty n) (.ty n)
  | scr {K ns p} : (¬ M p ∧ ∃ o, H p = some (.frz o (.lst (ns.map V.int)))) ∨ (∀ H', SqL K H' p (ns.map V.int)) → Rep M H (.scr K ns) (.ref p)
  | lst {p ds vs} : ¬ M p → H p = some (.lst vs) → Reps M H ds vs → Rep M H (.lst ds) (.ref p)
  | tup {p ds vs} : ¬ M p → H p = some (.tup vs) → Reps M H ds vs → Rep M H (.tup ds) (.ref p)
  | dct {p kvs vs} : ¬ M p → Rd H p (.dK vs) → RepK M H kvs vs → Rep M H (.dct kvs) (.ref p)
  | ins {p C dx fs vs} : ¬ M p → H p = some (.ins C dx vs) → RepF M H fs vs → Rep M H (.ins C fs) (.ref p)
inductive Reps (M : Addr → Prop) (H : Hp) : List D → List V → Prop
  | nil : Reps M H [] []
  | cons {d v ds vs} : Rep M H d v → Reps M H ds vs → Reps M H (d :: ds) (v :: vs)
inductive RepK (M : Addr → Prop) (H : Hp) : List (Key × D) → List (Key × V) → Prop
  | nil : RepK M H [] []
  | cons {k d v ds vs} : Rep M H d v → RepK M H ds vs → RepK M H ((k, d) :: ds) ((k, v) :: vs)
inductive RepF (M : Addr → Prop) (H : Hp) : List (Str × D) → List (Str × V) → Prop
  | nil : RepF M H [] []
  | cons {k d v ds vs} : Rep M H d v → RepF M H ds vs → RepF M H ((k, d) :: ds) ((k, v) :: vs)
end
/-- what stands at one address of the heap stands there still (or locked) and is no cell of the store -/
def Kp (M : Addr → Prop) (H : Hp) (M' : Addr → Prop) (H' : Hp) : Prop :=
  ∀ p, ¬ M p → ∀ u, Rd H p u → (∀ vs, u = .dK vs → ¬ M' p ∧ Rd H' p u) ∧ (H p = some u → (∀ vs, u ≠ .dK vs) → (∀ o w, u ≠ .frz o (.dK w)) → ¬ M' p ∧ H' p = some u)
mutual
theorem Rep.mono {M M' : Addr → Prop} {H H' : Hp} (k : Kp M H M' H') : ∀ {d v}, Rep M H d v → Rep M' H' d v
  | _, _, .non => .non
  | _, _, .bl => .bl
  | _, _, .int => .int
  | _, _, .str => .str
  | _, _, .ptr => .ptr
  | _, _, .ty => .ty
  | _, _, .scr (.inl ⟨n, o, h⟩) => let q := (k _ n _ (.inl h)).2 h (fun _ z => nomatch z) (fun _ _ z => nomatch z); .scr (.inl ⟨q.1, o, q.2⟩)
  | _, _, .scr (.inr h) => .scr (.inr h)
  | _, _, .lst n h r => let q := (k _ n _ (.inl h)).2 h (fun _ z => nomatch z) (fun _ _ z => nomatch z); .lst q.1 q.2 (Reps.mono k r)
  | _, _, .tup n h r => let q := (k _ n _ (.inl h)).2 h (fun _ z => nomatch z) (fun _ _ z => nomatch z); .tup q.1 q.2 (Reps.mono k r)
  | _, _, .dct n h r => let q := (k _ n _ h).1 _ rfl; .dct q.1 q.2 (RepK.mono k r)
  | _, _, .ins n h r => let q := (k _ n _ (.inl h)).2 h (fun _ z => nomatch z) (fun _ _ z => nomatch z); .ins q.1 q.2 (RepF.mono k r)
theorem Reps.mono {M M' : Addr → Prop} {H H' : Hp} (k : Kp M H M' H') : ∀ {d v}, Reps M H d v → Reps M' H' d v
  | _, _, .nil => .nil
  | _, _, .cons a b => .cons (Rep.mono k a) (Reps.mono k b)
theorem RepK.mono {M M' : Addr → Prop} {H H' : Hp} (k : Kp M H M' H') : ∀ {d v}, RepK M H d v → RepK M' H' d v
  | _, _, .nil => .nil
  | _, _, .cons a b => .cons (Rep.mono k a) (RepK.mono k b)
theorem RepF.mono {M M' : Addr → Prop} {H H' : Hp} (k : Kp M H M' H') : ∀ {d v}, RepF M H d v → RepF M' H' d v
  | _, _, .nil => .nil
  | _, _, .cons a b => .cons (Rep.mono k a) (RepF.mono k b)
end
/-- all that is no cell of the store is exactly as it was -/
structure Keep (L : Sto) (H : Hp) (L' : Sto) (H' : Hp) : Prop where
  P : L'.P = L.P
  at_ : ∀ p o, L p = none → H p = some o → L' p = none ∧ H' p = some o
theorem Keep.refl {L H} : Keep L H L H := ⟨rfl, fun _ _ a b => ⟨a, b⟩⟩
theorem Keep.trans {L H L1 H1 L2 H2} (a : Keep L H L1 H1) (b : Keep L1 H1 L2 H2) : Keep L H L2 H2 := ⟨b.P.trans a.P, fun p o h1 h2 => let q := a.at_ p o h1 h2; b.at_ p o q.1 q.2⟩
theorem nn {α} {o : Option α} (h : ¬ (o ≠ none)) : o = none := by
  cases o with
  | none => rfl
  | some x => exact absurd (fun q => nomatch q) h
theorem Keep.kp {L H L' H'} (k : Keep L H L' H') : Kp (Sto.dom L) H (Sto.dom L') H' := fun p n u r => by
  have n' : L p = none := nn fun z => n (.inl z)
  have n2 : ¬ L'.P p := fun z => n (.inr (k.P ▸ z))
  have fin : L' p = none → ¬ L'.dom p := fun q z => z.elim (fun z => z q) n2
  refine ⟨fun vs e => ?_, fun h _ _ => ?_⟩
  · rcases r with r | ⟨o, r⟩
    · have q := k.at_ p _ n' r; exact ⟨fin q.1, .inl q.2⟩
    · have q := k.at_ p _ n' r; exact ⟨fin q.1, .inr ⟨o, q.2⟩⟩
  · have q := k.at_ p _ n' h; exact ⟨fin q.1, q.2⟩
/-- a cell of the store -/
inductive Cell (M : Addr → Prop) (H : Hp) : D → Addr → Prop
  | lst {p ds vs} : H p = some (.lst vs) → Reps M H ds vs → Cell M H (.lst ds) p
  | dct {p kvs vs} : H p = some (.dK vs) → RepK M H kvs vs → Cell M H (.dct kvs) p
  | ins {p C dx fs vs} : H p = some (.ins C dx vs) → RepF M H fs vs → Cell M H (.ins C fs) p
structure StoOk (L : Sto) (H : Hp) : Prop where
  cell : ∀ p d, L p = some d → Cell (Sto.dom L) H d p
  prot : ∀ p, L.P p → H p ≠ none ∧ L p = none
abbrev Gam := List (Option D)
structure Abs (G : Gam) (L : Sto) (σ : L2.St) (H : Hp) : Prop where
  len : σ.length = G.length
  slot : ∀ (i : Nat) (d : D), G[i]? = some (some d) → ∃ v, σ[i]? = some (some v) ∧ Rep L.dom H d v
  sto : StoOk L H
theorem Abs.mono {G L L' σ H H'} (a : Abs G L σ H) (k : Keep L H L' H') (s : StoOk L' H') : Abs G L' σ H' :=
  ⟨a.len, fun i d h => let ⟨v, e, r⟩ := a.slot i d h; ⟨v, e, r.mono k.kp⟩, s⟩
theorem keep_same {L : Sto} {H H' : Hp} (k : Same H H') : Keep L H L H' := ⟨rfl, fun p o a b => ⟨a, k p o b⟩⟩
/-- nothing of the heap changed, but new things -/
theorem StoOk.same {L : Sto} {H H' : Hp} (s : StoOk L H) (k : Same H H') : StoOk L H' := ⟨fun p d h => by
  have kk : Kp (Sto.dom L) H (Sto.dom L) H' := (keep_same k).kp
  cases s.cell p d h with
  | lst h r => exact .lst (k _ _ h) (r.mono kk)
  | dct h r => exact .dct (k _ _ h) (r.mono kk)
  | ins h r => exact .ins (k _ _ h) (r.mono kk), fun p h => ⟨fun z => (s.prot p h).1 (k.free z), (s.prot p h).2⟩⟩
theorem same_upd {H : Hp} {p : Addr} {o : HO} (h : H p = none) : Same H (upd H p o) := fun b u e => by rw [upd_ne (ne_of_none e h)]; exact e
/-! ### the module's facts, the contexts -/
def blNames : List Str := ["len", "sorted", "set", "tuple", "list", "dict", "range", "enumerate", "reversed", "all", "any", "isinstance", "int", "bool", "str", "min", "repr", "zip"]
structure Bg where
  P : Program
  w : World
  K : PySem.W.Frag
  mg : Str → Option Value
  base : Heap
  bl : ∀ x ∈ blNames, mg x = none
def Bg.put (B : Bg) (N : List Str) (sc : Scope) (Y : Cx) : Cx :=
  { Y with prog := B.P, w := B.w, K := B.K, mg := B.mg, base := B.base, N := N, calm := true, env := { Y.env with scope := sc } }
structure Sit (B : Bg) (N : List Str) (sc : Scope) (k : Nat) where
  X : Cx → Prop
  fam : ∀ x, X x → ∃ y, x = B.put N sc y ∧ Room k y.A
  pass : ∀ x, X x → PassesOwn (model x.prog x.w) x.A x.env x.xe
  bd : Bool
  fn : bd = true → ∀ x, X x → ∀ y, x.fn y = true
  st : bd = true → ∀ x, X x → x.stack = x.env :: x.outer ∧ x.env.frame = some x.env.locals
  gd : Bool
  gok : gd = true → ∀ x, X x → x.A.guards = some []
  /-- what is wished of an exception that leaves -/
  W : XK
  tk : ∀ x, X x → Takes x fun cls d _ H => W cls d H
section
variable {B : Bg} {N : List Str} {sc : Scope} {k : Nat}
/-! ### the weakest readings -/
def ME (S : Sit B N sc k) (e : Expr) : TE := fun σ H Q => ∃ t, (∀ X, S.X X → PE X e t) ∧ t σ H Q
def MT (S : Sit B N sc k) (e : Expr) : TT := fun σ H Q => ∃ t, (∀ X, S.X X → PT X e t) ∧ t σ H Q
def MA (S : Sit B N sc k) (es : List Expr) : TA := fun σ H Q => ∃ t, (∀ X, S.X X → PA X es t) ∧ t σ H Q
def MS (S : Sit B N sc k) (st : Stmt) : TS := fun D σ H => ∃ t, (∀ X, S.X X → PS X st t) ∧ t D σ H
def MSs (S : Sit B N sc k) (st : List Stmt) : TS := fun D σ H => ∃ t, (∀ X, S.X X → PSs X st t) ∧ t D σ H
def MI (S : Sit B N sc k) (tg it : Expr) : TI := fun σ H R => ∃ t, (∀ X, S.X X → PI X tg it t) ∧ t σ H R
variable {S : Sit B N sc k} {X : Cx}
theorem me (h : S.X X) {e : Expr} : PE X e (ME S e) := ⟨fun pins s σ H Q I ⟨t, a, b⟩ => (a X h).run pins s σ H Q I b⟩
theorem mt (h : S.X X) {e : Expr} : PT X e (MT S e) := ⟨fun pins s σ H Q I ⟨t, a, b⟩ => (a X h).run pins s σ H Q I b⟩
theorem ma (h : S.X X) {e : List Expr} : PA X e (MA S e) := ⟨fun pos pins s σ H Q I ⟨t, a, b⟩ => (a X h).run pos pins s σ H Q I b⟩
theorem ms (h : S.X X) {e : Stmt} : PS X e (MS S e) := ⟨fun pins s σ H D I ⟨t, a, b⟩ => (a X h).run pins s σ H D I b⟩
theorem mss (h : S.X X) {e : List Stmt} : PSs X e (MSs S e) := ⟨fun pins s σ H D I ⟨t, a, b⟩ => (a X h).run pins s σ H D I b⟩
theorem mi (h : S.X X) {tg it : Expr} : PI X tg it (MI S tg it) := ⟨fun pins s σ H R I ⟨t, a, b⟩ => (a X h).run pins s σ H R I b⟩
/-! ### the judgements -/
/-- what is wanted behind an expression, handed on to the heap -/
def Cont (L : Sto) (H : Hp) (post : D → Sto → Prop) (Q : VK) : Prop := ∀ d L' v H', post d L' → Keep L H L' H' → StoOk L' H' → Rep L'.dom H' d v → Q v H'
def ContB (L : Sto) (H : Hp) (post : Bool → Sto → Prop) (Q : Bool → Hp → Prop) : Prop := ∀ b L' H', post b L' → Keep L H L' H' → StoOk L' H' → Q b H'
def ContA (L : Sto) (H : Hp) (post : List D → Sto → Prop) (Q : List V → Hp → Prop) : Prop := ∀ ds L' vs H', post ds L' → Keep L H L' H' → StoOk L' H' → Reps L'.dom H' ds vs → Q vs H'
def We (S : Sit B N sc k) (G : Gam) (L : Sto) (e : Expr) (post : D → Sto → Prop) : Prop := ∀ σ H, Abs G L σ H → ∀ Q, Cont L H post Q → ME S e σ H Q
def Wt (S : Sit B N sc k) (G : Gam) (L : Sto) (e : Expr) (post : Bool → Sto → Prop) : Prop := ∀ σ H, Abs G L σ H → ∀ Q, ContB L H post Q → MT S e σ H Q
def Wa (S : Sit B N sc k) (G : Gam) (L : Sto) (es : List Expr) (post : List D → Sto → Prop) : Prop := ∀ σ H, Abs G L σ H → ∀ Q, ContA L H post Q → MA S es σ H Q
/-- ends of statements -/
structure AE where
  nx : Gam → Sto → Prop
  rt : D → Sto → Prop
  bk : Gam → Sto → Prop := fun _ _ => False
  ct : Gam → Sto → Prop := fun _ _ => False
  /-- an own exception: its class, its fields -/
  xc : Addr → List (Str × D) → Sto → Prop := fun _ _ _ => False
/-- what is wanted of exceptions, handed on to the heap -/
def ContX (W : XK) (L : Sto) (H : Hp) (xp : Addr → List (Str × D) → Sto → Prop) : Prop := ∀ C fs L' dd vs H', xp C fs L' → Keep L H L' H' → StoOk L' H' → ¬ L'.dom dd → H' dd = some (.xd vs) → RepF L'.dom H' fs vs → W (.ref C) (some dd) H'
structure ContS (W : XK) (L : Sto) (H : Hp) (a : AE) (D : Ends) : Prop where
  nx : ∀ G L' σ H', a.nx G L' → Keep L H L' H' → Abs G L' σ H' → D.nx σ H'
  rt : ∀ d L' v H', a.rt d L' → Keep L H L' H' → StoOk L' H' → Rep L'.dom H' d v → D.rt v H'
  bk : ∀ G L' σ H', a.bk G L' → Keep L H L' H' → Abs G L' σ H' → D.bk σ H'
  ct : ∀ G L' σ H', a.ct G L' → Keep L H L' H' → Abs G L' σ H' → D.ct σ H'
  xc : ContX W L H a.xc
def Ws (S : Sit B N sc k) (G : Gam) (L : Sto) (st : List Stmt) (a : AE) : Prop := ∀ σ H, Abs G L σ H → ∀ D, ContS S.W L H a D → MSs S st D σ H
def Wo (S : Sit B N sc k) (G : Gam) (L : Sto) (st : Stmt) (a : AE) : Prop := ∀ σ H, Abs G L σ H → ∀ D, ContS S.W L H a D → MS S st D σ H
/-- a pure expression -/
def Ev (S : Sit B N sc k) (G : Gam) (L : Sto) (e : Expr) (d : D) : Prop := We S G L e fun d' L' => d' = d ∧ L' = L
def Et (S : Sit B N sc k) (G : Gam) (L : Sto) (e : Expr) (b : Bool) : Prop := Wt S G L e fun d' L' => d' = b ∧ L' = L
def Ea (S : Sit B N sc k) (G : Gam) (L : Sto) (es : List Expr) (ds : List D) : Prop := Wa S G L es fun d' L' => d' = ds ∧ L' = L
variable {G : Gam} {L : Sto} {e : Expr}
theorem We.mono {p q : D → Sto → Prop} (h : We S G L e p) (i : ∀ d L', p d L' → q d L') : We S G L e q := fun σ H a Q c => h σ H a Q fun d L' v H' z => c d L' v H' (i _ _ z)
theorem Wt.mono {p q : Bool → Sto → Prop} (h : Wt S G L e p) (i : ∀ d L', p d L' → q d L') : Wt S G L e q := fun σ H a Q c => h σ H a Q fun d L' H' z => c d L' H' (i _ _ z)
theorem Wa.mono {es : List Expr} {p q : List D → Sto → Prop} (h : Wa S G L es p) (i : ∀ d L', p d L' → q d L') : Wa S G L es q := fun σ H a Q c => h σ H a Q fun d L' v H' z => c d L' v H' (i _ _ z)
theorem Ev.we {d : D} {q : D → Sto → Prop} (h : Ev S G L e d) (i : q d L) : We S G L e q := We.mono h fun _ _ ⟨a, b⟩ => a ▸ b ▸ i
theorem Et.wt {d : Bool} {q : Bool → Sto → Prop} (h : Et S G L e d) (i : q d L) : Wt S G L e q := Wt.mono h fun _ _ ⟨a, b⟩ => a ▸ b ▸ i
theorem Ea.wa {es : List Expr} {d : List D} {q : List D → Sto → Prop} (h : Ea S G L es d) (i : q d L) : Wa S G L es q := Wa.mono h fun _ _ ⟨a, b⟩ => a ▸ b ▸ i
/-- reading what an Ev gives: for writers of rules -/
theorem Ev.run {d : D} (h : Ev S G L e d) {σ H} (a : Abs G L σ H) {Q : VK} (c : ∀ v H', Keep L H L H' → Abs G L σ H' → Rep L.dom H' d v → Q v H') : ME S e σ H Q :=
  h σ H a Q fun d' L' v H' ⟨e1, e2⟩ kp so r => by subst e1; subst e2; exact c v H' kp (a.mono kp so) r
theorem Cont.mk1 {H : Hp} {d : D} {post : D → Sto → Prop} {Q : VK} (c : Cont L H post Q) (h : post d L) (so : StoOk L H) {v : V} {H' : Hp} (s : Same H H') (r : Rep L.dom H' d v) : Q v H' := c d L v H' h (keep_same s) (so.same s) r
end
end FS
/-! text W2 -/
/-! W2: expressions: names, constants, operators, comparisons, tests, subscripts, displays. -/
namespace FS
open PySem PySem.Spec PyProof.Rows L2
section
variable {B : Bg} {N : List Str} {sc : Scope} {k : Nat} {S : Sit B N sc k} {G : Gam} {L : Sto} {e a b c : Expr} {pos : Pos} {post : D → Sto → Prop}
theorem Cont.trans {H H1 : Hp} {L1 : Sto} {Q : VK} (c : Cont L H post Q) (k1 : Keep L H L1 H1) : Cont L1 H1 post Q := fun d L' v H' p k2 s r => c d L' v H' p (k1.trans k2) s r
theorem ContB.trans {H H1 : Hp} {L1 : Sto} {p : Bool → Sto → Prop} {Q} (c : ContB L H p Q) (k1 : Keep L H L1 H1) : ContB L1 H1 p Q := fun b L' H' h k2 s => c b L' H' h (k1.trans k2) s
theorem ContA.trans {H H1 : Hp} {L1 : Sto} {p : List D → Sto → Prop} {Q} (c : ContA L H p Q) (k1 : Keep L H L1 H1) : ContA L1 H1 p Q := fun b L' v H' h k2 s r => c b L' v H' h (k1.trans k2) s r
/-- the end at once -/
theorem Cont.at {H : Hp} {Q : VK} {d : D} {v : V} (c : Cont L H post Q) (h : post d L) (s : StoOk L H) (r : Rep L.dom H d v) : Q v H := c d L v H h .refl s r
/-! ### names and constants -/
theorem we_var (i : Nat) {x : Str} {d : D} (h : post d L) (hG : G[i]? = some (some d) := by rfl) (hN : N[i]? = some x := by rfl) (hv : Vis sc x := by first | exact Or.inl rfl | exact Or.inr (Or.inl rfl) | exact Or.inr (Or.inr rfl))
    (hd : (x == ("__debug__" : Str)) = false := by decide) (hcd : (x == ("__classdict__" : Str)) = false := by decide) : We S G L (.Name x pos) post := fun σ H A Q c => by
  refine ⟨tVar i, fun X hX => ?_, ?_⟩
  · obtain ⟨y, rfl, _⟩ := S.fam X hX
    exact pe_var hN hv hd hcd
  · obtain ⟨v, e, r⟩ := A.slot i d hG
    exact ⟨v, e, c.at h A.sto r⟩
theorem we_c {d : D} {v : V} (hp : ∀ X, S.X X → PE X e (tC v)) (r : ∀ M H, Rep M H d v) (h : post d L) : We S G L e post := fun σ H A Q c => ⟨tC v, hp, c.at h A.sto (r _ _)⟩
theorem ev_var (i : Nat) {x : Str} {d : D} (hG : G[i]? = some (some d) := by rfl) (hN : N[i]? = some x := by rfl) (hv : Vis sc x := by first | exact Or.inl rfl | exact Or.inr (Or.inl rfl) | exact Or.inr (Or.inr rfl))
    (hd : (x == ("__debug__" : Str)) = false := by decide) (hcd : (x == ("__classdict__" : Str)) = false := by decide) : Ev S G L (.Name x pos) d := we_var i ⟨rfl, rfl⟩ hG hN hv hd hcd
theorem ev_int {i : Int} {j} : Ev S G L (.Constant (.int i) j pos) (.int i) := we_c (v := .int i) (fun _ _ => pe_int) (fun _ _ => .int) ⟨rfl, rfl⟩
theorem ev_bl {i : Bool} {j} : Ev S G L (.Constant (.bool i) j pos) (.bl i) := we_c (v := .bl i) (fun _ _ => pe_bl) (fun _ _ => .bl) ⟨rfl, rfl⟩
theorem ev_str {i : Str} {j} : Ev S G L (.Constant (.str i) j pos) (.str i) := we_c (v := .str i) (fun _ _ => pe_str) (fun _ _ => .str) ⟨rfl, rfl⟩
theorem ev_non {j} : Ev S G L (.Constant .none j pos) .non := we_c (v := .non) (fun _ _ => pe_non) (fun _ _ => .non) ⟨rfl, rfl⟩
/-! ### two-place operations -/
def A2 (r : R2) (L : Sto) (x y : D) (post : D → Sto → Prop) : Prop := ∀ H v u, StoOk L H → Rep L.dom H x v → Rep L.dom H y u → ∀ Q, Cont L H post Q → r v u H Q
theorem run2 {t : R2 → TE} {r : R2} (ht : ∀ σ H Q, ME S a σ H (fun x H1 => ME S b σ H1 fun y H2 => r x y H2 Q) → t r σ H Q) (h : We S G L a fun x L1 => We S G L1 b fun y L2 => A2 r L2 x y post) {σ H} (A : Abs G L σ H) {Q : VK} (c : Cont L H post Q) : t r σ H Q := by
  refine ht _ _ _ (h σ H A _ fun x L1 v H1 w k1 s1 r1 => ?_)
  refine w σ H1 (A.mono k1 s1) _ fun y L2 u H2 w2 k2 s2 r2 => ?_
  exact w2 H2 v u s2 (r1.mono k2.kp) r2 Q ((c.trans k1).trans k2)
theorem we_op {op : Operator} {r : R2} (ho : ∀ X, S.X X → OpR X (binaryOp op) r) (h : We S G L a fun x L1 => We S G L1 b fun y L2 => A2 r L2 x y post) : We S G L (.BinOp a op b pos) post := fun σ H A Q c =>
  ⟨tOp r (ME S a) (ME S b), fun X hX => pe_op (ho X hX) (me hX) (me hX), run2 (t := fun r => tOp r (ME S a) (ME S b)) (fun _ _ _ h => h) h A c⟩
theorem we_cmp {op : CmpOp} {r : R2} (ho : ∀ X, S.X X → OpR X (compareOp op) r) (hm : behindInMarks op b = false) (h : We S G L a fun x L1 => We S G L1 b fun y L2 => A2 r L2 x y post) : We S G L (.Compare a [op] [b] pos) post := fun σ H A Q c =>
  ⟨tOp r (ME S a) (ME S b), fun X hX => pe_cmpR (ho X hX) (me hX) (me hX) hm, run2 (t := fun r => tOp r (ME S a) (ME S b)) (fun _ _ _ h => h) h A c⟩
theorem we_ix {r : R2} (ho : ∀ X, S.X X → IxR X r) (hs : PlainIx b) (h : We S G L a fun x L1 => We S G L1 b fun y L2 => A2 r L2 x y post) : We S G L (.Subscript a b pos) post := fun σ H A Q c =>
  ⟨tOp r (ME S a) (ME S b), fun X hX => pe_ix (ho X hX) (me hX) (me hX) hs, run2 (t := fun r => tOp r (ME S a) (ME S b)) (fun _ _ _ h => h) h A c⟩
theorem wt_cmp {op : CmpOp} {r : R2} {p : Bool → Sto → Prop} (ho : ∀ X, S.X X → OpR X (compareOp op) r) (hm : behindInMarks op b = false) (h : We S G L a fun x L1 => We S G L1 b fun y L2 => A2 r L2 x y fun d L3 => ∃ b, d = .bl b ∧ p b L3) : Wt S G L (.Compare a [op] [b] pos) p := fun σ H A Q c =>
  ⟨tTest (tOp r (ME S a) (ME S b)), fun X hX => pt_cmpR (ho X hX) (me hX) (me hX) hm, run2 (t := fun r => tOp r (ME S a) (ME S b)) (fun _ _ _ h => h) h A fun d L' v H' ⟨b, e, pb⟩ kp so rp => by subst e; cases rp; exact ⟨b, rfl, c b L' H' pb kp so⟩⟩
theorem pure2 {x y : D} {r : R2} (ha : Ev S G L a x) (hb : Ev S G L b y) (h : A2 r L x y post) : We S G L a fun x L1 => We S G L1 b fun y L2 => A2 r L2 x y post := ha.we (hb.we h)
theorem any_of {r : Sit B N sc k → Cx → Prop} {S : Sit B N sc k} (h : ∀ y, Room k y.A → r S (B.put N sc y)) : ∀ X, S.X X → r S X := fun X hX => by
  obtain ⟨y, rfl, hr⟩ := S.fam X hX
  exact h y (show Room k y.A from hr)
/-! ints -/
theorem a2_I0 {g : Int → Int → V} {d : D} {i j : Int} (hr : ∀ M H, Rep M H d (g i j)) (h : post d L) : A2 (rI0 g) L (.int i) (.int j) post := fun H v u s r1 r2 Q c => by
  cases r1; cases r2; exact ⟨i, j, rfl, rfl, c.at h s (hr _ _)⟩
theorem a2_I {C : Int → Int → Prop} {g : Int → Int → V} {d : D} {i j : Int} (hC : C i j) (hr : ∀ M H, Rep M H d (g i j)) (h : post d L) : A2 (rI C g) L (.int i) (.int j) post := fun H v u s r1 r2 Q c => by
  cases r1; cases r2; exact ⟨i, j, rfl, rfl, hC, c.at h s (hr _ _)⟩
section
variable {i j : Int}
theorem ev_add (ha : Ev S G L a (.int i)) (hb : Ev S G L b (.int j)) : Ev S G L (.BinOp a .Add b pos) (.int (i + j)) := we_op (fun _ _ => op_add) (pure2 ha hb (a2_I0 (fun _ _ => .int) ⟨rfl, rfl⟩))
theorem ev_sub (ha : Ev S G L a (.int i)) (hb : Ev S G L b (.int j)) : Ev S G L (.BinOp a .Sub b pos) (.int (i - j)) := we_op (fun _ _ => op_sub) (pure2 ha hb (a2_I0 (fun _ _ => .int) ⟨rfl, rfl⟩))
theorem ev_mul (hc : CMul i j) (ha : Ev S G L a (.int i)) (hb : Ev S G L b (.int j)) : Ev S G L (.BinOp a .Mult b pos) (.int (i * j)) := we_op (fun _ _ => op_mul) (pure2 ha hb (a2_I hc (fun _ _ => .int) ⟨rfl, rfl⟩))
theorem ev_mod (hc : 0 < j) (ha : Ev S G L a (.int i)) (hb : Ev S G L b (.int j)) : Ev S G L (.BinOp a .Mod b pos) (.int (i % j)) := we_op (fun _ _ => op_mod) (pure2 ha hb (a2_I hc (fun _ _ => .int) ⟨rfl, rfl⟩))
theorem ev_fdiv (hc : CDiv i j) (ha : Ev S G L a (.int i)) (hb : Ev S G L b (.int j)) : Ev S G L (.BinOp a .FloorDiv b pos) (.int (i / j)) := we_op (fun _ _ => op_fdiv) (pure2 ha hb (a2_I hc (fun _ _ => .int) ⟨rfl, rfl⟩))
theorem ev_pow (hc : CPow i j) (ha : Ev S G L a (.int i)) (hb : Ev S G L b (.int j)) : Ev S G L (.BinOp a .Pow b pos) (.int (i ^ j.toNat)) := we_op (fun _ _ => op_pow) (pure2 ha hb (a2_I hc (fun _ _ => .int) ⟨rfl, rfl⟩))
theorem ev_lt (ha : Ev S G L a (.int i)) (hb : Ev S G L b (.int j)) : Ev S G L (.Compare a [.Lt] [b] pos) (.bl (decide (i < j))) := we_cmp (fun _ _ => op_lt) (nomark _) (pure2 ha hb (a2_I0 (fun _ _ => .bl) ⟨rfl, rfl⟩))
theorem ev_gt (ha : Ev S G L a (.int i)) (hb : Ev S G L b (.int j)) : Ev S G L (.Compare a [.Gt] [b] pos) (.bl (decide (j < i))) := we_cmp (fun _ _ => op_gt) (nomark _) (pure2 ha hb (a2_I0 (fun _ _ => .bl) ⟨rfl, rfl⟩))
theorem ev_ge (ha : Ev S G L a (.int i)) (hb : Ev S G L b (.int j)) : Ev S G L (.Compare a [.GtE] [b] pos) (.bl (decide (j ≤ i))) := we_cmp (fun _ _ => op_ge) (nomark _) (pure2 ha hb (a2_I0 (fun _ _ => .bl) ⟨rfl, rfl⟩))
theorem et_lt (ha : Ev S G L a (.int i)) (hb : Ev S G L b (.int j)) : Et S G L (.Compare a [.Lt] [b] pos) (decide (i < j)) := wt_cmp (fun _ _ => op_lt) (nomark _) (pure2 ha hb (a2_I0 (d := .bl _) (fun _ _ => .bl) ⟨_, rfl, rfl, rfl⟩))
theorem et_gt (ha : Ev S G L a (.int i)) (hb : Ev S G L b (.int j)) : Et S G L (.Compare a [.Gt] [b] pos) (decide (j < i)) := wt_cmp (fun _ _ => op_gt) (nomark _) (pure2 ha hb (a2_I0 (d := .bl _) (fun _ _ => .bl) ⟨_, rfl, rfl, rfl⟩))
theorem et_ge (ha : Ev S G L a (.int i)) (hb : Ev S G L b (.int j)) : Et S G L (.Compare a [.GtE] [b] pos) (decide (j ≤ i)) := wt_cmp (fun _ _ => op_ge) (nomark _) (pure2 ha hb (a2_I0 (d := .bl _) (fun _ _ => .bl) ⟨_, rfl, rfl, rfl⟩))
theorem ev_neg (ha : Ev S G L a (.int i)) : Ev S G L (.UnaryOp .USub a pos) (.int (-i)) := fun σ H A Q c =>
  ⟨tUn (rU fun i => .int (-i)) (ME S a), fun X hX => pe_un un_neg (me hX), ha.run A fun v H' kp A' r => by cases r; exact ⟨i, rfl, c _ _ _ _ ⟨rfl, rfl⟩ kp A'.sto .int⟩⟩
end
/-! == of flat things -/
/-- flat things that == tells apart -/
inductive Fl : D → V → Prop
  | non : Fl .non .non
  | bl {q : Bool} : Fl (.bl q) (.bl q)
  | int {q : Int} : Fl (.int q) (.int q)
  | str {q : Str} : Fl (.str q) (.str q)
theorem Fl.eq {d : D} {v w : V} {M H} (f : Fl d v) (r : Rep M H d w) : w = v := by cases f <;> cases r <;> rfl
theorem Fl.rep {d : D} {v : V} {M H} (f : Fl d v) : Rep M H d v := by cases f <;> constructor
theorem a2_eq {x y : D} {v u : V} (hx : Fl x v) (hy : Fl y u) (hs : scal v u = true) (h : post (.bl (decide (v = u))) L) : A2 rEq L x y post := fun H v' u' s r1 r2 Q c => by
  obtain rfl := hx.eq r1; obtain rfl := hy.eq r2; exact ⟨hs, c.at h s .bl⟩
theorem a2_ne {x y : D} {v u : V} (hx : Fl x v) (hy : Fl y u) (hs : scal v u = true) (h : post (.bl (!decide (v = u))) L) : A2 rNe L x y post := fun H v' u' s r1 r2 Q c => by
  obtain rfl := hx.eq r1; obtain rfl := hy.eq r2; exact ⟨hs, c.at h s .bl⟩
theorem ev_eqF {x y : D} {v u : V} (hx : Fl x v) (hy : Fl y u) (hs : scal v u = true) (ha : Ev S G L a x) (hb : Ev S G L b y) : Ev S G L (.Compare a [.Eq] [b] pos) (.bl (decide (v = u))) := we_cmp (fun _ _ => op_eq) (nomark _) (pure2 ha hb (a2_eq hx hy hs ⟨rfl, rfl⟩))
theorem ev_neF {x y : D} {v u : V} (hx : Fl x v) (hy : Fl y u) (hs : scal v u = true) (ha : Ev S G L a x) (hb : Ev S G L b y) : Ev S G L (.Compare a [.NotEq] [b] pos) (.bl (!decide (v = u))) := we_cmp (fun _ _ => op_ne) (nomark _) (pure2 ha hb (a2_ne hx hy hs ⟨rfl, rfl⟩))
theorem et_eqF {x y : D} {v u : V} (hx : Fl x v) (hy : Fl y u) (hs : scal v u = true) (ha : Ev S G L a x) (hb : Ev S G L b y) : Et S G L (.Compare a [.Eq] [b] pos) (decide (v = u)) := wt_cmp (fun _ _ => op_eq) (nomark _) (pure2 ha hb (a2_eq hx hy hs ⟨_, rfl, rfl, rfl⟩))
theorem et_neF {x y : D} {v u : V} (hx : Fl x v) (hy : Fl y u) (hs : scal v u = true) (ha : Ev S G L a x) (hb : Ev S G L b y) : Et S G L (.Compare a [.NotEq] [b] pos) (!decide (v = u)) := wt_cmp (fun _ _ => op_ne) (nomark _) (pure2 ha hb (a2_ne hx hy hs ⟨_, rfl, rfl, rfl⟩))
theorem decV_int {i j : Int} : decide (V.int i = V.int j) = decide (i = j) := by by_cases h : i = j <;> simp [h]
theorem decV_str {i j : Str} : decide (V.str i = V.str j) = decide (i = j) := by by_cases h : i = j <;> simp [h]
section
variable {i j : Int} {x y : Str}
theorem ev_eqI (ha : Ev S G L a (.int i)) (hb : Ev S G L b (.int j)) : Ev S G L (.Compare a [.Eq] [b] pos) (.bl (decide (i = j))) := decV_int ▸ ev_eqF .int .int rfl ha hb
theorem ev_neI (ha : Ev S G L a (.int i)) (hb : Ev S G L b (.int j)) : Ev S G L (.Compare a [.NotEq] [b] pos) (.bl (!decide (i = j))) := decV_int ▸ ev_neF .int .int rfl ha hb
theorem et_eqI (ha : Ev S G L a (.int i)) (hb : Ev S G L b (.int j)) : Et S G L (.Compare a [.Eq] [b] pos) (decide (i = j)) := decV_int ▸ et_eqF .int .int rfl ha hb
theorem et_neI (ha : Ev S G L a (.int i)) (hb : Ev S G L b (.int j)) : Et S G L (.Compare a [.NotEq] [b] pos) (!decide (i = j)) := decV_int ▸ et_neF .int .int rfl ha hb
theorem et_eqS (ha : Ev S G L a (.str x)) (hb : Ev S G L b (.str y)) : Et S G L (.Compare a [.Eq] [b] pos) (decide (x = y)) := decV_str ▸ et_eqF .str .str rfl ha hb
theorem et_neS (ha : Ev S G L a (.str x)) (hb : Ev S G L b (.str y)) : Et S G L (.Compare a [.NotEq] [b] pos) (!decide (x = y)) := decV_str ▸ et_neF .str .str rfl ha hb
end
/-! is None -/
def isNon : D → Bool
  | .non => true
  | _ => false
theorem rep_isNon {d : D} {v : V} {M H} (r : Rep M H d v) : decide (v = .non) = isNon d := by cases r <;> rfl
theorem ev_isN {d : D} (ha : Ev S G L a d) {j p} : Ev S G L (.Compare a [.Is] [.Constant .none j p] pos) (.bl (isNon d)) := we_cmp (fun _ _ => op_isN) (nomark _) (pure2 ha ev_non fun H v u s r1 r2 Q c => by
  cases r2; exact ⟨rfl, c.at ⟨rfl, rfl⟩ s (rep_isNon r1 ▸ .bl)⟩)
theorem et_isN {d : D} (ha : Ev S G L a d) {j p} : Et S G L (.Compare a [.Is] [.Constant .none j p] pos) (isNon d) := wt_cmp (fun _ _ => op_isN) (nomark _) (pure2 ha ev_non fun H v u s r1 r2 Q c => by
  cases r2; exact ⟨rfl, c.at ⟨_, rfl, rfl, rfl⟩ s (rep_isNon r1 ▸ .bl)⟩)
theorem et_notN {d : D} (ha : Ev S G L a d) {j p} : Et S G L (.Compare a [.IsNot] [.Constant .none j p] pos) (!isNon d) := wt_cmp (fun _ _ => op_notN) (nomark _) (pure2 ha ev_non fun H v u s r1 r2 Q c => by
  cases r2; exact ⟨rfl, c.at ⟨_, rfl, rfl, rfl⟩ s (rep_isNon r1 ▸ .bl)⟩)
/-! ### what stands at a pointer -/
/-- d is c, or points to a cell that holds c -/
def Lk (L : Sto) (d c : D) : Prop := d = c ∨ ∃ p, d = .ptr p ∧ L p = some c
theorem Lk.rfl' {L : Sto} {d : D} : Lk L d d := .inl rfl
theorem Lk.lst {M : Sto} {d : D} {ds : List D} {v : V} {H : Hp} (k : Lk M d (.lst ds)) (s : StoOk M H) (r : Rep M.dom H d v) : ∃ p vs, v = .ref p ∧ H p = some (.lst vs) ∧ Reps M.dom H ds vs := by
  rcases k with rfl | ⟨p, rfl, h⟩
  · cases r with | lst n h r => exact ⟨_, _, rfl, h, r⟩
  · cases r; cases s.cell p _ h with | lst h r => exact ⟨_, _, rfl, h, r⟩
theorem Lk.dct {M : Sto} {d : D} {ds : List (Key × D)} {v : V} {H : Hp} (k : Lk M d (.dct ds)) (s : StoOk M H) (r : Rep M.dom H d v) : ∃ p vs, v = .ref p ∧ Rd H p (.dK vs) ∧ RepK M.dom H ds vs := by
  rcases k with rfl | ⟨p, rfl, h⟩
  · cases r with | dct n h r => exact ⟨_, _, rfl, h, r⟩
  · cases r; cases s.cell p _ h with | dct h r => exact ⟨_, _, rfl, .inl h, r⟩
theorem Lk.ins {M : Sto} {d : D} {C : Addr} {fs : List (Str × D)} {v : V} {H : Hp} (k : Lk M d (.ins C fs)) (s : StoOk M H) (r : Rep M.dom H d v) : ∃ p dx vs, v = .ref p ∧ H p = some (.ins C dx vs) ∧ RepF M.dom H fs vs := by
  rcases k with rfl | ⟨p, rfl, h⟩
  · cases r with | ins n h r => exact ⟨_, _, _, rfl, h, r⟩
  · cases r; cases s.cell p _ h with | ins h r => exact ⟨_, _, _, rfl, h, r⟩
/-! ### lists of data -/
theorem Reps.length {M H} : ∀ {ds : List D} {vs : List V}, Reps M H ds vs → vs.length = ds.length
  | _, _, .nil => rfl
  | _, _, .cons _ r => by simp [Reps.length r]
theorem Reps.get {M H} : ∀ {ds : List D} {vs : List V}, Reps M H ds vs → ∀ {i : Nat} {d : D}, ds[i]? = some d → ∃ v, vs[i]? = some v ∧ Rep M H d v
  | _, _, .nil, _, _, h => by simp at h
  | _, _, .cons a r, 0, d, h => by simp at h; subst h; exact ⟨_, rfl, a⟩
  | _, _, .cons a r, i + 1, d, h => by
    obtain ⟨v, e, q⟩ := Reps.get r (i := i) (d := d) (by simpa using h)
    exact ⟨v, by simpa using e, q⟩
theorem Reps.append {M H} : ∀ {ds es : List D} {vs us : List V}, Reps M H ds vs → Reps M H es us → Reps M H (ds ++ es) (vs ++ us)
  | _, _, _, _, .nil, s => s
  | _, _, _, _, .cons a r, s => .cons a (Reps.append r s)
theorem Reps.take {M H} : ∀ {ds : List D} {vs : List V} (n : Nat), Reps M H ds vs → Reps M H (ds.take n) (vs.take n)
  | _, _, 0, _ => .nil
  | _, _, _ + 1, .nil => .nil
  | _, _, n + 1, .cons a r => .cons a (Reps.take n r)
theorem Reps.drop {M H} : ∀ {ds : List D} {vs : List V} (n : Nat), Reps M H ds vs → Reps M H (ds.drop n) (vs.drop n)
  | _, _, 0, r => r
  | _, _, _ + 1, .nil => .nil
  | _, _, n + 1, .cons a r => Reps.drop n r
theorem Reps.set {M H} {d : D} {v : V} (q : Rep M H d v) : ∀ {ds : List D} {vs : List V} (i : Nat), Reps M H ds vs → Reps M H (ds.set i d) (vs.set i v)
  | _, _, _, .nil => .nil
  | _, _, 0, .cons _ r => .cons q r
  | _, _, i + 1, .cons a r => .cons a (Reps.set q i r)
theorem Reps.ints {M H} : ∀ {ns : List Int} {vs : List V}, Reps M H (ns.map D.int) vs → vs = ns.map V.int
  | [], _, .nil => rfl
  | n :: ns, _, .cons a r => by cases a; rw [Reps.ints (ns := ns) r]; rfl
theorem Reps.of_ints {M H} : ∀ (ns : List Int), Reps M H (ns.map D.int) (ns.map V.int)
  | [] => .nil
  | n :: ns => .cons .int (Reps.of_ints ns)
theorem Reps.strs {M H} : ∀ {ns : List Str} {vs : List V}, Reps M H (ns.map D.str) vs → vs = ns.map V.str
  | [], _, .nil => rfl
  | n :: ns, _, .cons a r => by cases a; rw [Reps.strs (ns := ns) r]; rfl
theorem Reps.bls {M H} : ∀ {ns : List Bool} {vs : List V}, Reps M H (ns.map D.bl) vs → vs = ns.map V.bl
  | [], _, .nil => rfl
  | n :: ns, _, .cons a r => by cases a; rw [Reps.bls (ns := ns) r]; rfl
theorem Reps.of_bls {M H} : ∀ (ns : List Bool), Reps M H (ns.map D.bl) (ns.map V.bl)
  | [] => .nil
  | n :: ns => .cons .bl (Reps.of_bls ns)
theorem Reps.of_strs {M H} : ∀ (ns : List Str), Reps M H (ns.map D.str) (ns.map V.str)
  | [] => .nil
  | n :: ns => .cons .str (Reps.of_strs ns)
/-! ### subscripts of lists and tuples -/
theorem ixN_reps {M H} {ds : List D} {vs : List V} (r : Reps M H ds vs) {i : Int} {d : D} (h : atI ds i = some d) : ∃ v, atI vs i = some v ∧ Rep M H d v := by
  unfold atI at h ⊢
  rw [r.length]
  cases e : ixN ds.length i with
  | none => rw [e] at h; cases h
  | some j => rw [e] at h; exact r.get h
theorem a2_ixL {x : D} {ds : List D} {i : Int} {d : D} (k : Lk L x (.lst ds)) (hd : atI ds i = some d) (h : post d L) : A2 (rIxL B.K) L x (.int i) post := fun H v u s r1 r2 Q c => by
  cases r2
  obtain ⟨p, vs, rfl, hp, rs⟩ := k.lst s r1
  obtain ⟨w, e, rw'⟩ := ixN_reps rs hd
  exact ⟨p, vs, i, w, rfl, rfl, .inl (.inl hp), e, c.at h s rw'⟩
theorem a2_ixT {ds : List D} {i : Int} {d : D} (hd : atI ds i = some d) (h : post d L) : A2 (rIxT B.K) L (.tup ds) (.int i) post := fun H v u s r1 r2 Q c => by
  cases r2
  cases r1 with
  | tup n hp rs =>
  obtain ⟨w, e, rw'⟩ := ixN_reps rs hd
  exact ⟨_, _, i, w, rfl, rfl, .inl (.inl hp), e, c.at h s rw'⟩
theorem ixl (S : Sit B N sc k) : ∀ X, S.X X → IxR X (rIxL B.K) := fun X hX => by obtain ⟨y, rfl, _⟩ := S.fam X hX; exact ix_list
theorem ixt (S : Sit B N sc k) : ∀ X, S.X X → IxR X (rIxT B.K) := fun X hX => by obtain ⟨y, rfl, _⟩ := S.fam X hX; exact ix_tup
/-- xs[i] -/
theorem ev_ix {x : D} {ds : List D} {i : Int} {d : D} (hd : atI ds i = some d) (k : Lk L x (.lst ds)) (ha : Ev S G L a x) (hb : Ev S G L b (.int i)) (hs : PlainIx b := by exact fun _ _ => rfl) : Ev S G L (.Subscript a b pos) d := we_ix (ixl S) hs (pure2 ha hb (a2_ixL k hd ⟨rfl, rfl⟩))
/-- t[i] -/
theorem ev_ixT {ds : List D} {i : Int} {d : D} (hd : atI ds i = some d) (ha : Ev S G L a (.tup ds)) (hb : Ev S G L b (.int i)) (hs : PlainIx b := by exact fun _ _ => rfl) : Ev S G L (.Subscript a b pos) d := we_ix (ixt S) hs (pure2 ha hb (a2_ixT hd ⟨rfl, rfl⟩))
/-! ### argument lists, displays -/
theorem wa_nil {p : List D → Sto → Prop} (h : p [] L) : Wa S G L [] p := fun σ H A Q c => ⟨tNil, fun _ _ => pa_nil, c [] L [] H h .refl A.sto .nil⟩
theorem wa_cons {es : List Expr} {p : List D → Sto → Prop} (h : We S G L e fun x L1 => Wa S G L1 es fun xs L2 => p (x :: xs) L2) (hs : ∀ env, starEach (e :: es) env = (false, eval e env) :: starEach es env := by intro _; rfl) : Wa S G L (e :: es) p := fun σ H A Q c =>
  ⟨tCons (ME S e) (MA S es), fun X hX => pa_cons (me hX) (ma hX) (hs _), h σ H A _ fun x L1 v H1 w k1 s1 r1 => w σ H1 (A.mono k1 s1) _ fun xs L2 vs H2 w2 k2 s2 r2 => c _ _ _ _ w2 (k1.trans k2) s2 (.cons (r1.mono k2.kp) r2)⟩
theorem ea_nil : Ea S G L [] [] := wa_nil ⟨rfl, rfl⟩
theorem ea_cons {es : List Expr} {d : D} {ds : List D} (h : Ev S G L e d) (hr : Ea S G L es ds) (hs : ∀ env, starEach (e :: es) env = (false, eval e env) :: starEach es env := by intro _; rfl) : Ea S G L (e :: es) (d :: ds) :=
  wa_cons (h.we (hr.wa ⟨rfl, rfl⟩)) hs
theorem ea_1 {d : D} (h : Ev S G L e d) (hs : ∀ env, starEach [e] env = (false, eval e env) :: starEach [] env := by intro _; rfl) : Ea S G L [e] [d] := ea_cons h ea_nil hs
theorem ea_2 {d d' : D} (h : Ev S G L e d) (h' : Ev S G L a d') (hs : ∀ env, starEach [e, a] env = (false, eval e env) :: starEach [a] env := by intro _; rfl) (hs' : ∀ env, starEach [a] env = (false, eval a env) :: starEach [] env := by intro _; rfl) : Ea S G L [e, a] [d, d'] := ea_cons h (ea_1 h' hs') hs
/-- a new thing that is never changed -/
theorem sto_new {H : Hp} {p : Addr} (np : H p = none) (s : StoOk L H) : L p = none := by
  cases e : L p with
  | none => rfl
  | some d => cases s.cell p d e with
    | lst h _ => rw [np] at h; cases h
    | dct h _ => rw [np] at h; cases h
    | ins h _ => rw [np] at h; cases h
theorem rep_new {H : Hp} {p : Addr} (np : H p = none) (s : StoOk L H) : ¬ L.dom p := fun z => z.elim (fun z => z (sto_new np s)) fun z => (s.prot p z).1 np
theorem we_tup {es : List Expr} {x1} (h : Wa S G L es fun ds L' => ds.length ≤ sizeLine ∧ post (.tup ds) L') : We S G L (.Tuple es x1 pos) post := fun σ H A Q c =>
  ⟨tTup (MA S es), fun X hX => pe_tup (ma hX), h σ H A _ fun ds L1 vs H1 ⟨hz, w⟩ k1 s1 r1 => ⟨r1.length ▸ hz, fun p np => by
    have sm : Same H1 (upd H1 p (.tup vs)) := same_upd np
    exact c _ _ _ _ w (k1.trans (keep_same sm)) (s1.same sm) (.tup (rep_new np s1) upd_same (r1.mono (keep_same sm).kp))⟩⟩
theorem we_lst {es : List Expr} (h : Wa S G L es fun ds L' => ds.length ≤ sizeLine ∧ post (.lst ds) L') : We S G L (.List es pos) post := fun σ H A Q c =>
  ⟨tLst (MA S es), fun X hX => pe_lst (ma hX), h σ H A _ fun ds L1 vs H1 ⟨hz, w⟩ k1 s1 r1 => ⟨r1.length ▸ hz, fun p np => by
    have sm : Same H1 (upd H1 p (.lst vs)) := same_upd np
    exact c _ _ _ _ w (k1.trans (keep_same sm)) (s1.same sm) (.lst (rep_new np s1) upd_same (r1.mono (keep_same sm).kp))⟩⟩
theorem ev_tup {es : List Expr} {x1} {ds : List D} (h : Ea S G L es ds) (hz : ds.length ≤ sizeLine := by first | (show (2 : Nat) ≤ sizeLine; decide) | (show (1 : Nat) ≤ sizeLine; decide) | (show (3 : Nat) ≤ sizeLine; decide) | (show (4 : Nat) ≤ sizeLine; decide) | (show (0 : Nat) ≤ sizeLine; decide) | (show (6 : Nat) ≤ sizeLine; decide)) : Ev S G L (.Tuple es x1 pos) (.tup ds) := we_tup (h.wa ⟨hz, rfl, rfl⟩)
theorem ev_lst {es : List Expr} {ds : List D} (h : Ea S G L es ds) (hz : ds.length ≤ sizeLine := by first | (show (2 : Nat) ≤ sizeLine; decide) | (show (1 : Nat) ≤ sizeLine; decide) | (show (3 : Nat) ≤ sizeLine; decide) | (show (4 : Nat) ≤ sizeLine; decide) | (show (0 : Nat) ≤ sizeLine; decide) | (show (6 : Nat) ≤ sizeLine; decide)) : Ev S G L (.List es pos) (.lst ds) := we_lst (h.wa ⟨hz, rfl, rfl⟩)
/-! ### tests -/
theorem et_val {b : Bool} (h : Ev S G L e (.bl b)) (he : ∀ env whole, isTrue e env whole = (do let v ← whole; standAt e.pos; holding [v] (truthy v)) := by intro _ _; rfl) : Et S G L e b := fun σ H A Q c =>
  ⟨tB (ME S e), fun X hX => pt_val (me hX) (he _), h.run A fun v H' kp A' r => by cases r; exact ⟨b, rfl, c _ _ _ ⟨rfl, rfl⟩ kp A'.sto⟩⟩
theorem wt_val {p : Bool → Sto → Prop} (h : We S G L e fun d L' => ∃ b, d = .bl b ∧ p b L') (he : ∀ env whole, isTrue e env whole = (do let v ← whole; standAt e.pos; holding [v] (truthy v)) := by intro _ _; rfl) : Wt S G L e p := fun σ H A Q c =>
  ⟨tB (ME S e), fun X hX => pt_val (me hX) (he _), h σ H A _ fun d L' v H' ⟨b, ed, pb⟩ kp so r => by subst ed; cases r; exact ⟨b, rfl, c _ _ _ pb kp so⟩⟩
/-- a thing's truth -/
def truD (L : Sto) (d : D) (b : Bool) : Prop := (∃ ds, Lk L d (.lst ds) ∧ b = !ds.isEmpty) ∨ (∃ ds, d = .dct ds ∧ b = !ds.isEmpty)
theorem isEmpty_reps {M H} {ds : List D} {vs : List V} (r : Reps M H ds vs) : vs.isEmpty = ds.isEmpty := by cases r <;> rfl
theorem isEmpty_repK {M H} {ds : List (Key × D)} {vs} (r : RepK M H ds vs) : vs.isEmpty = ds.isEmpty := by cases r <;> rfl
theorem et_truL {d : D} {ds : List D} (hk : Lk L d (.lst ds)) (h : Ev S G L e d) (he : ∀ env whole, isTrue e env whole = (do let v ← whole; standAt e.pos; holding [v] (truthy v)) := by intro _ _; rfl) : Et S G L e (!ds.isEmpty) := fun σ H A Q c =>
  ⟨fun σ H Q => ME S e σ H fun x H' => ∃ k, TruV B.K x H' k ∧ Q k H', fun X hX => by obtain ⟨y, rfl, _⟩ := S.fam X hX; exact pt_truth (me hX) (he _), h.run A fun v H' kp A' r => by
    obtain ⟨p, vs, rfl, hp, rs⟩ := hk.lst A'.sto r
    exact ⟨!vs.isEmpty, .inl ⟨vs, .inl (.inl hp), rfl⟩, c _ _ _ ⟨by rw [isEmpty_reps rs], rfl⟩ kp A'.sto⟩⟩
theorem et_not {x : Bool} (h : Et S G L a x) : Et S G L (.UnaryOp .Not a pos) (!x) := fun σ H A Q c =>
  ⟨tNot (MT S a), fun X hX => pt_not (mt hX), h σ H A _ fun b L' H' ⟨e1, e2⟩ kp so => by subst e1; subst e2; exact c _ _ _ ⟨rfl, rfl⟩ kp so⟩
theorem wt_not {p : Bool → Sto → Prop} (h : Wt S G L a fun x => p !x) : Wt S G L (.UnaryOp .Not a pos) p := fun σ H A Q c =>
  ⟨tNot (MT S a), fun X hX => pt_not (mt hX), h σ H A _ fun b L' H' w kp so => c _ _ _ w kp so⟩
end
end FS
/-! text W3 -/
/-! W3: dicts, the store's cells, statements, calls. -/
namespace FS
open PySem PySem.Spec PyProof.Rows L2
/-! ### tables of anything -/
section
variable {κ β : Type} [DecidableEq κ]
def valG (kvs : List (κ × β)) (k : κ) : Option β := (kvs.find? fun kv => decide (kv.1 = k)).map (·.2)
def putG (kvs : List (κ × β)) (k : κ) (v : β) : List (κ × β) :=
  if (kvs.any fun kv => decide (kv.1 = k)) = true then kvs.map (fun kv => if kv.1 = k then (kv.1, v) else kv) else kvs ++ [(k, v)]
end
theorem RepK.val {M H} {k : Key} : ∀ {ds : List (Key × D)} {vs : List (Key × V)}, RepK M H ds vs → (∀ d, valG ds k = some d → ∃ v, valV vs k = some v ∧ Rep M H d v) ∧ (valG ds k = none → valV vs k = none)
  | _, _, .nil => ⟨fun _ h => by simp [valG] at h, fun _ => rfl⟩
  | (k', d') :: ds, (_, v') :: vs, .cons a r => by
    by_cases e : k' = k
    · subst e
      refine ⟨fun d h => ⟨v', by simp [valV], ?_⟩, fun h => ?_⟩
      · simp [valG] at h; exact h ▸ a
      · simp [valG] at h
    · have q := RepK.val (k := k) r
      have e1 : valG ((k', d') :: ds) k = valG ds k := by simp [valG, List.find?_cons, e]
      have e2 : valV ((k', v') :: vs) k = valV vs k := by simp [valV, List.find?_cons, e]
      rw [e1, e2]; exact q
theorem RepK.length {M H} : ∀ {ds : List (Key × D)} {vs : List (Key × V)}, RepK M H ds vs → vs.length = ds.length
  | _, _, .nil => rfl
  | _, _, .cons _ r => by simp [RepK.length r]
theorem RepK.any {M H} {k : Key} : ∀ {ds : List (Key × D)} {vs : List (Key × V)}, RepK M H ds vs → (vs.any fun kv => decide (kv.1 = k)) = (ds.any fun kv => decide (kv.1 = k))
  | _, _, .nil => rfl
  | _, _, .cons _ r => by simp [List.any_cons, RepK.any r]
theorem RepK.map {M H} {k : Key} {d : D} {v : V} (q : Rep M H d v) : ∀ {ds : List (Key × D)} {vs : List (Key × V)}, RepK M H ds vs → RepK M H (ds.map (fun kv => if kv.1 = k then (kv.1, d) else kv)) (vs.map (fun kv => if kv.1 = k then (kv.1, v) else kv))
  | _, _, .nil => .nil
  | (k', _) :: _, _, .cons a r => by
    rw [List.map_cons, List.map_cons]
    by_cases e : k' = k
    · rw [if_pos e, if_pos e]; exact .cons q (RepK.map q r)
    · rw [if_neg e, if_neg e]; exact .cons a (RepK.map q r)
theorem RepK.append {M H} : ∀ {ds es : List (Key × D)} {vs us : List (Key × V)}, RepK M H ds vs → RepK M H es us → RepK M H (ds ++ es) (vs ++ us)
  | _, _, _, _, .nil, s => s
  | _, _, _, _, .cons a r, s => .cons a (RepK.append r s)
theorem RepK.put {M H} {k : Key} {d : D} {v : V} {ds : List (Key × D)} {vs : List (Key × V)} (r : RepK M H ds vs) (q : Rep M H d v) : RepK M H (putG ds k d) (putK vs k v) := by
  unfold putG putK
  rw [r.any]
  split
  · exact r.map q
  · exact r.append (.cons q .nil)
theorem putG_length {β} {ds : List (Key × β)} {k : Key} {d : β} : (putG ds k d).length ≤ ds.length + 1 := by
  unfold putG; split <;> simp
theorem RepF.val {M H} {k : Str} : ∀ {ds : List (Str × D)} {vs : List (Str × V)}, RepF M H ds vs → (∀ d, ds.lookup k = some d → ∃ v, vs.lookup k = some v ∧ Rep M H d v) ∧ (ds.lookup k = none → vs.lookup k = none)
  | _, _, .nil => ⟨fun _ h => by simp at h, fun _ => rfl⟩
  | (k', d') :: ds, (_, v') :: vs, .cons a r => by
    have q := RepF.val (k := k) r
    cases e : k == k' with
    | true => exact ⟨fun d h => ⟨v', by simp [List.lookup, e], by simp [List.lookup, e] at h; exact h ▸ a⟩, fun h => by simp [List.lookup, e] at h⟩
    | false => simpa [List.lookup, e] using q
theorem RepF.length {M H} : ∀ {ds : List (Str × D)} {vs : List (Str × V)}, RepF M H ds vs → vs.length = ds.length
  | _, _, .nil => rfl
  | _, _, .cons _ r => by simp [RepF.length r]
def putFD (f : Str) (v : D) : List (Str × D) → List (Str × D)
  | [] => [(f, v)]
  | (g, x) :: r => if g = f then (g, v) :: r else (g, x) :: putFD f v r
theorem RepF.put {M H} {k : Str} {d : D} {v : V} (q : Rep M H d v) : ∀ {ds : List (Str × D)} {vs : List (Str × V)}, RepF M H ds vs → RepF M H (putFD k d ds) (putF k v vs)
  | _, _, .nil => .cons q .nil
  | (k', _) :: _, _, .cons a r => by
    show RepF M H (if k' = k then _ else _) (if k' = k then _ else _)
    split
    · exact .cons q r
    · exact .cons a (RepF.put q r)
/-! ### the store -/
def Sto.set (L : Sto) (p : Addr) (d : D) : Sto := { L with c := fun a => if a = p then some d else L.c a }
def Sto.del (L : Sto) (p : Addr) : Sto := { L with c := fun a => if a = p then none else L.c a }
theorem Sto.set_same {L : Sto} {p : Addr} {d : D} : L.set p d p = some d := if_pos rfl
theorem Sto.set_ne {L : Sto} {p q : Addr} {d : D} (h : q ≠ p) : L.set p d q = L q := if_neg h
theorem Sto.del_same {L : Sto} {p : Addr} : L.del p p = none := if_pos rfl
theorem Sto.del_ne {L : Sto} {p q : Addr} (h : q ≠ p) : L.del p q = L q := if_neg h
theorem Sto.ext {L L' : Sto} (h : ∀ a, L a = L' a) (hP : L.P = L'.P) : L = L' := by
  cases L; cases L'
  have : ‹Addr → Option D› = ‹Addr → Option D› := rfl
  simp only [Sto.mk.injEq]
  exact ⟨funext h, hP⟩
theorem Sto.set_set {L : Sto} {p : Addr} {d d' : D} : (L.set p d).set p d' = L.set p d' := Sto.ext (fun a => by
  by_cases e : a = p
  · rw [e, set_same, set_same]
  · rw [set_ne e, set_ne e, set_ne e]) rfl
theorem Sto.del_set {L : Sto} {p : Addr} {d : D} (h : L p = none) : (L.set p d).del p = L := Sto.ext (fun a => by
  by_cases e : a = p
  · rw [e, del_same, h]
  · rw [del_ne e, set_ne e]) rfl
theorem Sto.set_id {L : Sto} {p : Addr} {d : D} (h : L p = some d) : L.set p d = L := Sto.ext (fun a => by
  by_cases e : a = p
  · rw [e, set_same, h]
  · rw [set_ne e]) rfl
theorem Sto.set_comm {L : Sto} {p q : Addr} {d d' : D} (h : p ≠ q) : (L.set p d).set q d' = (L.set q d').set p d := Sto.ext (fun a => by
  by_cases e : a = p
  · subst e; rw [set_ne h, set_same, set_same]
  · by_cases e' : a = q
    · subst e'; rw [set_same, set_ne e, set_same]
    · rw [set_ne e', set_ne e, set_ne e, set_ne e']) rfl
theorem Sto.del_set_ne {L : Sto} {p q : Addr} {d : D} (h : p ≠ q) : (L.set p d).del q = (L.del q).set p d := Sto.ext (fun a => by
  by_cases e : a = p
  · subst e; rw [del_ne h, set_same, set_same]
  · rw [set_ne e]
    by_cases e' : a = q
    · subst e'; rw [del_same, del_same]
    · rw [del_ne e', set_ne e, del_ne e']) rfl
/-- the same cells hold (in other words) -/
theorem kp_dom {L L' : Sto} {H : Hp} (hP : L'.P = L.P) (h : ∀ p, L p = none → L' p = none) : Kp L.dom H L'.dom H := fun p n u r => by
  have : ¬ L'.dom p := fun z => z.elim (fun z => z (h p (nn fun y => n (.inl y)))) fun z => n (.inr (hP ▸ z))
  exact ⟨fun vs _ => ⟨this, r⟩, fun e _ _ => ⟨this, e⟩⟩
theorem Cell.mono {M M' : Addr → Prop} {H H' : Hp} {d : D} {p : Addr} (c : Cell M H d p) (k : Kp M H M' H') (h : H' p = H p) : Cell M' H' d p := by
  cases c with
  | lst e r => exact .lst (h ▸ e) (r.mono k)
  | dct e r => exact .dct (h ▸ e) (r.mono k)
  | ins e r => exact .ins (h ▸ e) (r.mono k)
/-- a cell made or changed -/
theorem keep_put {L : Sto} {H : Hp} {p : Addr} {d : D} {o : HO} (hp : H p = none ∨ L p ≠ none) : Keep L H (L.set p d) (upd H p o) := ⟨rfl, fun q u hq hu => by
  have ne : q ≠ p := fun e => by
    subst e
    rcases hp with h | h
    · rw [h] at hu; cases hu
    · exact h hq
  exact ⟨by rw [Sto.set_ne ne]; exact hq, by rw [upd_ne ne]; exact hu⟩⟩
theorem StoOk.put {L : Sto} {H : Hp} {p : Addr} {d : D} {o : HO} (s : StoOk L H) (hp : H p = none ∨ L p ≠ none) (c : Cell (L.set p d).dom (upd H p o) d p) : StoOk (L.set p d) (upd H p o) := ⟨fun q c' hq => by
  by_cases e : q = p
  · subst e
    rw [Sto.set_same] at hq; cases hq
    exact c
  · rw [Sto.set_ne e] at hq
    exact (s.cell q c' hq).mono (keep_put hp).kp (upd_ne e), fun q hq => by
  obtain ⟨h1, h2⟩ := s.prot q hq
  have ne : q ≠ p := fun e => by
    subst e
    rcases hp with h | h
    · exact h1 h
    · exact h h2
  exact ⟨by rw [upd_ne ne]; exact h1, by rw [Sto.set_ne ne]; exact h2⟩⟩
theorem StoOk.putL {L : Sto} {H : Hp} {p : Addr} {ds : List D} {vs : List V} (s : StoOk L H) (hp : H p = none ∨ L p ≠ none) (r : Reps L.dom H ds vs) : StoOk (L.set p (.lst ds)) (upd H p (.lst vs)) :=
  s.put hp (.lst upd_same (r.mono (keep_put hp).kp))
theorem StoOk.putD {L : Sto} {H : Hp} {p : Addr} {ds : List (Key × D)} {vs : List (Key × V)} (s : StoOk L H) (hp : H p = none ∨ L p ≠ none) (r : RepK L.dom H ds vs) : StoOk (L.set p (.dct ds)) (upd H p (.dK vs)) :=
  s.put hp (.dct upd_same (r.mono (keep_put hp).kp))
theorem StoOk.putI {L : Sto} {H : Hp} {p C dx : Addr} {ds : List (Str × D)} {vs : List (Str × V)} (s : StoOk L H) (hp : H p = none ∨ L p ≠ none) (r : RepF L.dom H ds vs) : StoOk (L.set p (.ins C ds)) (upd H p (.ins C dx vs)) :=
  s.put hp (.ins upd_same (r.mono (keep_put hp).kp))
theorem del_none {L : Sto} {p q : Addr} (h : L q = none) : L.del p q = none := by
  by_cases e : q = p
  · rw [e, Sto.del_same]
  · rw [Sto.del_ne e]; exact h
/-- a cell that will not change any more -/
theorem StoOk.del {L : Sto} {H : Hp} (p : Addr) (s : StoOk L H) : StoOk (L.del p) H := ⟨fun q c hq => by
  have ne : q ≠ p := fun e => by subst e; rw [Sto.del_same] at hq; cases hq
  rw [Sto.del_ne ne] at hq
  exact (s.cell q c hq).mono (kp_dom rfl fun a => del_none) rfl, fun q hq => ⟨(s.prot q hq).1, del_none (s.prot q hq).2⟩⟩
theorem StoOk.frz {L : Sto} {H : Hp} {p : Addr} {d : D} (s : StoOk L H) (h : L p = some d) : Rep (L.del p).dom H d (.ref p) := by
  have n : ¬ (L.del p).dom p := fun z => z.elim (fun z => z Sto.del_same) fun z => by
    have := (s.prot p z).2; rw [h] at this; cases this
  have kp : Kp L.dom H (L.del p).dom H := kp_dom rfl fun a => del_none
  cases s.cell p d h with
  | lst e r => exact .lst n e (r.mono kp)
  | dct e r => exact .dct n (.inl e) (r.mono kp)
  | ins e r => exact .ins n e (r.mono kp)
section
variable {B : Bg} {N : List Str} {sc : Scope} {k : Nat} {S : Sit B N sc k} {G : Gam} {L : Sto} {e a b c o : Expr} {pos : Pos} {post : D → Sto → Prop}
theorem Sit.hu (S : Sit B N sc k) {X : Cx} (h : S.X X) : X.A.units + 1 < cLine := by
  obtain ⟨y, rfl, r⟩ := S.fam X h
  exact hu_of (show Room k y.A from r)
/-! ### dicts -/
/-- d[k] -/
theorem ev_dget {x d : D} {kvs : List (Key × D)} {key : Key} {dk : D} (hk : ∀ M H v, Rep M H dk v → v = kV key) (hd : valG kvs key = some d) (l : Lk L x (.dct kvs)) (ha : Ev S G L a x) (hb : Ev S G L b dk) (hs : NoSl b := by exact fun _ _ => rfl) : Ev S G L (.Subscript a b pos) d := fun σ H A Q c =>
  ⟨tDGet (ME S a) (ME S b), fun X hX => pe_dget (S.hu hX) (me hX) (me hX) hs, ha.run A fun v H1 k1 A1 r1 => hb.run A1 fun u H2 k2 A2 r2 => by
    obtain ⟨p, vs, rfl, hp, rs⟩ := l.dct A2.sto (r1.mono k2.kp)
    obtain ⟨v, hv, rv⟩ := rs.val.1 d hd
    exact ⟨p, v, rfl, .inl ⟨vs, key, hp, hk _ _ _ r2, hv.symm⟩, (c.trans k1).trans k2 |>.at ⟨rfl, rfl⟩ A2.sto rv⟩⟩
theorem ev_dgetI {x d : D} {kvs : List (Key × D)} {i : Int} (hd : valG kvs (.inl i) = some d) (l : Lk L x (.dct kvs)) (ha : Ev S G L a x) (hb : Ev S G L b (.int i)) (hs : NoSl b := by exact fun _ _ => rfl) : Ev S G L (.Subscript a b pos) d := ev_dget (key := .inl i) (fun _ _ _ r => by cases r; rfl) hd l ha hb hs
theorem ev_dgetS {x d : D} {kvs : List (Key × D)} {i : Str} (hd : valG kvs (.inr i) = some d) (l : Lk L x (.dct kvs)) (ha : Ev S G L a x) (hb : Ev S G L b (.str i)) (hs : NoSl b := by exact fun _ _ => rfl) : Ev S G L (.Subscript a b pos) d := ev_dget (key := .inr i) (fun _ _ _ r => by cases r; rfl) hd l ha hb hs
/-- d.get(k, x) -/
theorem ev_get2 {x d z : D} {kvs : List (Key × D)} {i : Int} {apos cpos : Pos} (hd : (valG kvs (.inl i)).getD z = d) (l : Lk L x (.dct kvs)) (ha : Ev S G L a x) (hb : Ev S G L b (.int i)) (hc : Ev S G L c z)
    (m : ∀ X, S.X X → M2 X a "get" apos b c cpos := by exact fun _ _ => ⟨rfl, rfl, rfl, rfl⟩) : Ev S G L (.Call (.Attribute a "get" apos) [b, c] [] cpos) d := fun σ H A Q cc =>
  ⟨tDGet2 (ME S a) (ME S b) (ME S c), fun X hX => pe_dget2 (S.hu hX) (me hX) (me hX) (me hX) (m X hX), ha.run A fun v H1 k1 A1 r1 => by
    obtain ⟨p, vs, rfl, hp, rs⟩ := l.dct A1.sto r1
    refine ⟨p, rfl, .inl ⟨vs, hp⟩, hb.run A1 fun u H2 k2 A2 r2 => hc.run A2 fun w H3 k3 A3 r3 => ?_⟩
    obtain ⟨p', vs', e, hp', rs'⟩ := l.dct A3.sto (r1.mono (k2.trans k3).kp)
    cases e
    cases r2
    refine ⟨valV vs' (.inl i), .inl ⟨vs', .inl i, hp', rfl, rfl⟩, ((cc.trans k1).trans k2).trans k3 |>.at ⟨rfl, rfl⟩ A3.sto ?_⟩
    rw [← hd]
    cases e : valG kvs (.inl i : Key) with
    | none => rw [rs'.val.2 e]; exact r3
    | some d' => obtain ⟨w', hw, rw'⟩ := rs'.val.1 d' e; rw [hw]; exact rw'⟩
/-- k in d -/
theorem et_din {x : D} {kvs : List (Key × D)} {key : Key} {dk : D} (hk : ∀ M H v, Rep M H dk v → v = kV key) (l : Lk L x (.dct kvs)) (ha : Ev S G L a dk) (hb : Ev S G L b x) (hm : behindInMarks .In b = false := by with_unfolding_all rfl) : Et S G L (.Compare a [.In] [b] pos) (valG kvs key).isSome := fun σ H A Q c =>
  ⟨tB (tDIn (ME S a) (ME S b)), fun X hX => pt_cmp (pc_din (S.hu hX) (me hX) (me hX)) hm, ha.run A fun u H1 k1 A1 r1 => hb.run A1 fun v H2 k2 A2 r2 => by
    obtain ⟨p, vs, rfl, hp, rs⟩ := l.dct A2.sto r2
    refine ⟨p, valV vs key, rfl, .inl ⟨vs, key, hp, hk _ _ _ (r1.mono k2.kp), rfl⟩, _, rfl, (c.trans k1).trans k2 _ _ _ ⟨?_, rfl⟩ .refl A2.sto⟩
    cases e : valG kvs key with
    | none => rw [rs.val.2 e]; rfl
    | some d' => obtain ⟨w', hw, rw'⟩ := rs.val.1 d' e; rw [hw]; rfl⟩
theorem et_dnin {x : D} {kvs : List (Key × D)} {key : Key} {dk : D} (hk : ∀ M H v, Rep M H dk v → v = kV key) (l : Lk L x (.dct kvs)) (ha : Ev S G L a dk) (hb : Ev S G L b x) (hm : behindInMarks .NotIn b = false := by with_unfolding_all rfl) : Et S G L (.Compare a [.NotIn] [b] pos) (!(valG kvs key).isSome) := fun σ H A Q c =>
  ⟨tB (tDNotIn (ME S a) (ME S b)), fun X hX => pt_cmp (pc_dnotin (S.hu hX) (me hX) (me hX)) hm, ha.run A fun u H1 k1 A1 r1 => hb.run A1 fun v H2 k2 A2 r2 => by
    obtain ⟨p, vs, rfl, hp, rs⟩ := l.dct A2.sto r2
    refine ⟨p, valV vs key, rfl, .inl ⟨vs, key, hp, hk _ _ _ (r1.mono k2.kp), rfl⟩, _, rfl, (c.trans k1).trans k2 _ _ _ ⟨?_, rfl⟩ .refl A2.sto⟩
    cases e : valG kvs key with
    | none => rw [rs.val.2 e]; rfl
    | some d' => obtain ⟨w', hw, rw'⟩ := rs.val.1 d' e; rw [hw]; rfl⟩
theorem kI {i : Int} : ∀ M H v, Rep M H (.int i) v → v = kV (.inl i) := fun _ _ _ r => by cases r; rfl
theorem kS {i : Str} : ∀ M H v, Rep M H (.str i) v → v = kV (.inr i) := fun _ _ _ r => by cases r; rfl
/-! ### new cells -/
theorem we_newL (h : ∀ p, L p = none → post (.ptr p) (L.set p (.lst []))) : We S G L (.List [] pos) post := fun σ H A Q c =>
  ⟨tLst tNil, fun X hX => pe_lst pa_nil, Nat.zero_le _, fun p np => c _ _ _ _ (h p (sto_new np A.sto)) (keep_put (.inl np)) (A.sto.putL (.inl np) .nil) .ptr⟩
theorem we_newD (h : ∀ p, L p = none → post (.ptr p) (L.set p (.dct []))) : We S G L (.Dict [] [] pos) post := fun σ H A Q c =>
  ⟨tDNewK, fun X hX => pe_dnewK, fun p np => c _ _ _ _ (h p (sto_new np A.sto)) (keep_put (.inl np)) (A.sto.putD (.inl np) .nil) .ptr⟩
/-- [e, ..], to be changed -/
theorem we_lstM {es : List Expr} (h : Wa S G L es fun ds L' => ds.length ≤ sizeLine ∧ ∀ p, L' p = none → post (.ptr p) (L'.set p (.lst ds))) : We S G L (.List es pos) post := fun σ H A Q c =>
  ⟨tLst (MA S es), fun X hX => pe_lst (ma hX), h σ H A _ fun ds L1 vs H1 ⟨hz, w⟩ k1 s1 r1 => ⟨r1.length ▸ hz, fun p np =>
    c _ _ _ _ (w p (sto_new np s1)) (k1.trans (keep_put (.inl np))) (s1.putL (.inl np) r1) .ptr⟩⟩
/-- {}, not to be changed -/
theorem ev_dict0 : Ev S G L (.Dict [] [] pos) (.dct []) := fun σ H A Q c =>
  ⟨tDNewK, fun X hX => pe_dnewK, fun p np => Cont.mk1 c ⟨rfl, rfl⟩ A.sto (same_upd np) (.dct (rep_new np A.sto) (.inl upd_same) .nil)⟩
/-- the end of a cell's changes -/
theorem we_frz (h : We S G L e fun d L' => ∃ p c, d = .ptr p ∧ L' p = some c ∧ post c (L'.del p)) : We S G L e post := fun σ H A Q c => h σ H A Q fun d L' v H' ⟨p, c', e1, e2, q⟩ kp so r => by
  subst e1; cases r
  refine c _ _ _ _ q ⟨kp.P, fun a o h1 h2 => ?_⟩ (so.del p) (so.frz e2)
  obtain ⟨q1, q2⟩ := kp.at_ a o h1 h2
  exact ⟨del_none q1, q2⟩
/-! ### statements -/
theorem ContX.trans {W : XK} {L1 : Sto} {H H1 : Hp} {xp} (c : ContX W L H xp) (k1 : Keep L H L1 H1) : ContX W L1 H1 xp := fun C fs L' dd vs H' q k2 s n e r => c C fs L' dd vs H' q (k1.trans k2) s n e r
theorem ws_nil {E : AE} (h : E.nx G L) : Ws S G L [] E := fun σ H A D c => ⟨tNext, fun _ _ => pss_nil, c.nx G L σ H h .refl A⟩
theorem ws_cons {st : Stmt} {rest : List Stmt} {E : AE} (h : Wo S G L st { E with nx := fun G' L' => Ws S G' L' rest E }) : Ws S G L (st :: rest) E := fun σ H A D c =>
  ⟨tSeq (MS S st) (MSs S rest), fun X hX => pss_cons (ms hX) (mss hX), h σ H A _ ⟨fun G' L' σ' H' w k1 A' => w σ' H' A' D ⟨fun G2 L2 σ2 H2 q k2 A2 => c.nx _ _ _ _ q (k1.trans k2) A2, fun d L2 v H2 q k2 s2 r => c.rt _ _ _ _ q (k1.trans k2) s2 r, fun G2 L2 σ2 H2 q k2 A2 => c.bk _ _ _ _ q (k1.trans k2) A2, fun G2 L2 σ2 H2 q k2 A2 => c.ct _ _ _ _ q (k1.trans k2) A2, c.xc.trans k1⟩,
    c.rt, c.bk, c.ct, c.xc⟩⟩
theorem wo_ret {E : AE} (h : We S G L e E.rt) : Wo S G L (.Return (some e) pos) E := fun σ H A D c => ⟨tRet (ME S e), fun X hX => ps_ret (me hX), h σ H A _ fun d L' v H' w k s r => c.rt _ _ _ _ w k s r⟩
theorem ws_ret {rest : List Stmt} {E : AE} (h : We S G L e E.rt) : Ws S G L (.Return (some e) pos :: rest) E := ws_cons (wo_ret h)
theorem wo_expr {E : AE} (h : We S G L e fun _ L' => E.nx G L') (hs : ∀ env, swapsWith e none pos.line env = pure false := by intro _; rfl) : Wo S G L (.Expr e pos) E := fun σ H A D c =>
  ⟨tDrop (ME S e), fun X hX => ps_expr (me hX) (hs _), h σ H A _ fun d L' v H' w k s r => c.nx _ _ _ _ w k (A.mono k s)⟩
theorem ws_expr {rest : List Stmt} {E : AE} (h : We S G L e fun _ L' => Ws S G L' rest E) (hs : ∀ env, swapsWith e none pos.line env = pure false := by intro _; rfl) : Ws S G L (.Expr e pos :: rest) E := ws_cons (wo_expr h hs)
theorem Abs.set {σ : L2.St} {H : Hp} (A : Abs G L σ H) {d : D} {v : V} (r : Rep L.dom H d v) (i : Nat) : Abs (G.set i (some d)) L (σ.set i (some v)) H := by
  refine ⟨by rw [List.length_set, List.length_set]; exact A.len, fun j d' h => ?_, A.sto⟩
  by_cases e : i = j
  · subst e
    have hi : i < G.length := by
      by_cases hi : i < G.length
      · exact hi
      · rw [List.getElem?_eq_none (by rw [List.length_set]; omega)] at h; cases h
    rw [List.getElem?_set_self hi] at h
    cases h
    exact ⟨v, List.getElem?_set_self (by rw [A.len]; exact hi), r⟩
  · rw [List.getElem?_set_ne e] at h
    obtain ⟨w, e1, r1⟩ := A.slot j d' h
    exact ⟨w, by rw [List.getElem?_set_ne e]; exact e1, r1⟩
/-- what must be known of a local name that is stored -/
theorem wo_set (i : Nat) {x : Str} {p' : Pos} {E : AE} (h : We S G L e fun d L' => E.nx (G.set i (some d)) L') (hN : N.Nodup := by decide +kernel) (hi : N[i]? = some x := by rfl) (hx : sc.names.lookup x = some .local := by rfl) (hs : ∀ env, swapsWith e (some (.Name x p')) pos.line env = pure false := by intro _; rfl) :
    Wo S G L (.Assign [.Name x p'] e pos) E := fun σ H A D c =>
  ⟨tAsg (ME S e) (gName i), fun X hX => by
    have hm := me hX (e := e)
    obtain ⟨y, rfl, _⟩ := S.fam X hX
    exact ps_set hN hi (.inl hx) hm (hs _) (.inr hx), h σ H A _ fun d L' v H' w k s r => c.nx _ _ _ _ w k ((A.mono k s).set r i)⟩
theorem ws_set (i : Nat) {x : Str} {p' : Pos} {rest : List Stmt} {E : AE} (h : We S G L e fun d L' => Ws S (G.set i (some d)) L' rest E) (hN : N.Nodup := by decide +kernel) (hi : N[i]? = some x := by rfl) (hx : sc.names.lookup x = some .local := by rfl) (hs : ∀ env, swapsWith e (some (.Name x p')) pos.line env = pure false := by intro _; rfl) :
    Ws S G L (.Assign [.Name x p'] e pos :: rest) E := ws_cons (wo_set i h hN hi hx hs)
/-- the same of a name that a comprehension reads -/
theorem wo_setC (hS : S.bd = true) (i : Nat) {x : Str} {p' : Pos} {E : AE} (h : We S G L e fun d L' => E.nx (G.set i (some d)) L') (hN : N.Nodup := by decide +kernel) (hi : N[i]? = some x := by rfl) (hx : sc.names.lookup x = some .cell := by rfl) (hs : ∀ env : Env, swapsWith e (some (.Name x p')) pos.line { env with scope := sc } = pure false := by intro _; rfl) :
    Wo S G L (.Assign [.Name x p'] e pos) E := fun σ H A D c =>
  ⟨tAsg (ME S e) (gName i), fun X hX => by
    have hm := me hX (e := e); have hf := S.fn hS X hX x
    obtain ⟨y, rfl, _⟩ := S.fam X hX
    exact ps_set hN hi (.inr hx) hm (hs y.env) (.inl hf), h σ H A _ fun d L' v H' w k s r => c.nx _ _ _ _ w k ((A.mono k s).set r i)⟩
theorem ws_setC (hS : S.bd = true) (i : Nat) {x : Str} {p' : Pos} {rest : List Stmt} {E : AE} (h : We S G L e fun d L' => Ws S (G.set i (some d)) L' rest E) (hN : N.Nodup := by decide +kernel) (hi : N[i]? = some x := by rfl) (hx : sc.names.lookup x = some .cell := by rfl) (hs : ∀ env : Env, swapsWith e (some (.Name x p')) pos.line { env with scope := sc } = pure false := by intro _; rfl) :
    Ws S G L (.Assign [.Name x p'] e pos :: rest) E := ws_cons (wo_setC hS i h hN hi hx hs)
theorem wo_if {t u : List Stmt} {E : AE} (h : Wt S G L c fun b L1 => if b = true then Ws S G L1 t E else Ws S G L1 u E) : Wo S G L (.If c t u pos) E := fun σ H A D cc =>
  ⟨tIfS (MT S c) (MSs S t) (MSs S u), fun X hX => ps_if (mt hX) (mss hX) (mss hX), h σ H A _ fun b L1 H1 w k1 s1 => by
    have cc' : ContS S.W L1 H1 E D := ⟨fun G2 L2 σ2 H2 q k2 A2 => cc.nx _ _ _ _ q (k1.trans k2) A2, fun d L2 v H2 q k2 s2 r => cc.rt _ _ _ _ q (k1.trans k2) s2 r, fun G2 L2 σ2 H2 q k2 A2 => cc.bk _ _ _ _ q (k1.trans k2) A2, fun G2 L2 σ2 H2 q k2 A2 => cc.ct _ _ _ _ q (k1.trans k2) A2, cc.xc.trans k1⟩
    cases b with
    | true => rw [if_pos rfl] at w ⊢; exact w σ H1 (A.mono k1 s1) D cc'
    | false => rw [if_neg Bool.false_ne_true] at w ⊢; exact w σ H1 (A.mono k1 s1) D cc'⟩
theorem ws_if {b : Bool} {t u rest : List Stmt} {E : AE} (h : Et S G L c b) (hT : b = true → Ws S G L t { E with nx := fun G' L' => Ws S G' L' rest E }) (hF : b = false → Ws S G L u { E with nx := fun G' L' => Ws S G' L' rest E }) : Ws S G L (.If c t u pos :: rest) E :=
  ws_cons (wo_if (h.wt (by cases b with
    | true => exact hT rfl
    | false => exact hF rfl)))
theorem wo_bk {E : AE} (h : E.bk G L) : Wo S G L (.Break pos) E := fun σ H A D c => ⟨tBreak, fun _ _ => ps_break, c.bk _ _ _ _ h .refl A⟩
/-! ### a def's own promise -/
abbrev ASp := List D → Sto → (D → Sto → Prop) → Prop
def low (R : ASp) : Sp := fun vs H Q _ => ∃ ds L post, StoOk L H ∧ Reps L.dom H ds vs ∧ R ds L post ∧ Cont L H post Q
def startD (N : List Str) (ds : List D) : Gam := ds.map some ++ List.replicate (N.length - ds.length) none
theorem abs_start {H : Hp} {ds : List D} {vs : List V} (s : StoOk L H) (r : Reps L.dom H ds vs) : Abs (startD N ds) L (L2.start N vs) H := by
  refine ⟨by unfold L2.start startD; simp [r.length], fun i d h => ?_, s⟩
  unfold startD at h
  unfold L2.start
  by_cases hi : i < ds.length
  · rw [List.getElem?_append_left (by simpa using hi), List.getElem?_map] at h
    have h' : ds[i]? = some d := by
      cases e : ds[i]? with
      | none => rw [e] at h; cases h
      | some z => rw [e] at h; cases h; rfl
    obtain ⟨v, e, q⟩ := r.get h'
    exact ⟨v, by rw [List.getElem?_append_left (by rw [List.length_map, r.length]; exact hi), List.getElem?_map, e]; rfl, q⟩
  · rw [List.getElem?_append_right (by simpa using hi), List.getElem?_replicate] at h
    split at h <;> cases h
/-- a def of the text -/
theorem ok_def {x qual : Str} {st : Stmt} {f : Addr} {fd : FuncData} {ps : List Str} {R : ASp} (F : Fun B.K x qual st f fd) (hS : FnScope N ps (defScope st)) (len : ∀ ds L post, R ds L post → ds.length = ps.length)
    (body : ∀ (S : Sit B N (defScope st) k), S.bd = true → ∀ ds L post, R ds L post → Ws S (startD N ds) L (defBody st) { nx := fun _ L' => post .non L', rt := post }) : FnOk B.P B.w B.K B.mg B.base CX0 (k + 1) f fd ps (low R) := by
  refine F.ok hS (fun vs H Q E ⟨ds, L, post, s, r, h, _⟩ => by rw [r.length]; exact len _ _ _ h) fun cdv A outer s H vs Q E hr ⟨ds, L, post, so, r, h, c⟩ => ?_
  have w := body ⟨fun X => X = (cxOf CX0 B.P B.w B.K B.mg B.base N qual (defScope st) f cdv A outer s H E).nox, fun X e => ⟨X, by subst e; rfl, by subst e; exact hr⟩, fun X e => by subst e; exact .never, true, fun _ X e y => by subst e; rfl, fun _ X e => by subst e; exact ⟨rfl, rfl⟩, false, fun z => (nomatch z), fun _ _ _ => False, fun X e u s' ⟨_, _, _, _, _, _, _, _, _, _, _, _, _, _, _, _, w⟩ => w.elim⟩ rfl ds L post h
  obtain ⟨t, ht, q⟩ := w _ H (abs_start so r) { nx := fun _ H' => Q .non H', rt := Q } ⟨fun G' L' σ' H' w k A => c _ _ _ _ w k A.sto .non, fun d L' v H' w k s r => c _ _ _ _ w k s r, fun _ _ _ _ w _ _ => w, fun _ _ _ _ w _ _ => w, fun _ _ _ _ _ _ w => w.elim⟩
  exact ⟨t, ht _ rfl, q⟩
/-! ### calls of such defs -/
structure Cl (B : Bg) (j : Nat) (x : Str) (R : ASp) : Prop where
  ex : ∃ f fd ps, FnOk B.P B.w B.K B.mg B.base CX0 j f fd ps (low R) ∧ B.mg x = some (.ref f) ∧ PySem.W.keepIn B.K (.ref f) = true ∧ Binds B.K fd ps []
theorem we_call {j : Nat} {x : Str} {p : Pos} {es : List Expr} {R : ASp} (C : Cl B j x R) (hj : j ≤ k) (h : Wa S G L (e :: es) fun ds L1 => R ds L1 post) (hg : sc.names.lookup x = some .globalImplicit := by rfl) (hdb : (x == ("__debug__" : Str)) = false := by decide)
    (he : ∀ env, starEach (e :: es) env = (false, eval e env) :: starEach es env := by intro _; rfl) (hpl : ∀ env, (backTo pos (starEach es env)).any (·.1) = false := by intro _; rfl) : We S G L (.Call (.Name x p) (e :: es) [] pos) post := fun σ H A Q c => by
  obtain ⟨f, fd, ps, F, hm, hk, hb⟩ := C.ex
  refine ⟨tCall (low R) [] E0 (MA S (e :: es)), fun X hX => ?_, h σ H A _ fun ds L1 vs H1 w k1 s1 r1 => ⟨ds, L1, post, s1, by rw [List.append_nil]; exact r1, w, c.trans k1⟩⟩
  have hma := ma hX (e := e :: es)
  obtain ⟨y, rfl, hr⟩ := S.fam X hX
  exact pe_call F (Room.mono (show Room k y.A from hr) hj) hg hm hk hb .nil pass0 hma hdb (he _) (hpl _)
theorem ev_call {j : Nat} {x : Str} {p : Pos} {es : List Expr} {R : ASp} {ds : List D} {d : D} (C : Cl B j x R) (hj : j ≤ k) (h : Ea S G L (e :: es) ds) (hR : R ds L fun d' L' => d' = d ∧ L' = L) (hg : sc.names.lookup x = some .globalImplicit := by rfl) (hdb : (x == ("__debug__" : Str)) = false := by decide)
    (he : ∀ env, starEach (e :: es) env = (false, eval e env) :: starEach es env := by intro _; rfl) (hpl : ∀ env, (backTo pos (starEach es env)).any (·.1) = false := by intro _; rfl) : Ev S G L (.Call (.Name x p) (e :: es) [] pos) d := we_call C hj (h.wa hR) hg hdb he hpl
end
end FS
/-! text W4 -/
/-! W4: loops, comprehensions, locks. -/
namespace FS
open PySem PySem.Spec PyProof.Rows L2
section
variable {B : Bg} {N : List Str} {sc : Scope} {k : Nat} {S : Sit B N sc k} {G : Gam} {L : Sto} {e a b c o tg it : Expr} {pos : Pos} {post : D → Sto → Prop}
/-! ### what a loop walks -/
/-- where a walked thing must stand still: m: while cells may change; else: while the store stays -/
structure Stl (m : Bool) (L : Sto) (H : Hp) (L' : Sto) (H' : Hp) : Prop where
  sto : StoOk L' H'
  kp : Kp L.dom H L'.dom H'
  at_ : ∀ p o, ¬ L.dom p → H p = some o → L' p = none ∧ H' p = some o
  same : m = false → L'.c = L.c
def Yld (m : Bool) (J : It) (L : Sto) (H : Hp) (ds : List D) : Prop := ∀ L' H', Stl m L H L' H' → (∀ i d, ds[i]? = some d → J.go i H' ∧ ∀ x H'', J.yld i H' x H'' → Same H' H'' ∧ Rep L'.dom H'' d x) ∧ J.stop ds.length H'
def WiAt (m : Bool) (S : Sit B N sc k) (G : Gam) (L : Sto) (tg it : Expr) (σ : L2.St) (H : Hp) (post : List D → Sto → Prop) : Prop :=
  ∀ R : It → Hp → Prop, (∀ J ds L' H', post ds L' → Keep L H L' H' → Abs G L' σ H' → Yld m J L' H' ds → R J H') → MI S tg it σ H R
def Wi (m : Bool) (S : Sit B N sc k) (G : Gam) (L : Sto) (tg it : Expr) (post : List D → Sto → Prop) : Prop :=
  ∀ σ H, Abs G L σ H → WiAt m S G L tg it σ H post
def Ei (m : Bool) (S : Sit B N sc k) (G : Gam) (L : Sto) (tg it : Expr) (ds : List D) : Prop := Wi m S G L tg it fun ds' L' => ds' = ds ∧ L' = L
theorem Wi.mono {m} {p q : List D → Sto → Prop} (h : Wi m S G L tg it p) (i : ∀ d L', p d L' → q d L') : Wi m S G L tg it q := fun σ H A R c => h σ H A R fun J ds L' H' w => c J ds L' H' (i _ _ w)
theorem Ei.wi {m} {ds : List D} {q : List D → Sto → Prop} (h : Ei m S G L tg it ds) (i : q ds L) : Wi m S G L tg it q := Wi.mono h fun _ _ ⟨a, b⟩ => a ▸ b ▸ i
theorem stl_at {m : Bool} {L L' : Sto} {H H' : Hp} (k : Stl m L H L' H') {p : Addr} {o : HO} (h : H p = some o) (n : ¬ L.dom p) : H' p = some o := (k.at_ p o n h).2
theorem Keep.stl {m : Bool} {L L' : Sto} {H H' : Hp} (k : Keep L H L' H') (s : StoOk L' H') (e : m = false → L' = L) : Stl m L H L' H' := ⟨s, k.kp, fun p o n => k.at_ p o (nn fun z => n (.inl z)), fun z => by rw [e z]⟩
/-- a list that is never changed, or one that stays while the loop runs -/
theorem lk_stl {m : Bool} {d : D} {ds : List D} {v : V} {H : Hp} (hm : m = true → d = .lst ds) (l : Lk L d (.lst ds)) (s : StoOk L H) (r : Rep L.dom H d v) :
    ∃ p, v = .ref p ∧ ∀ L' H', Stl m L H L' H' → ∃ vs, H' p = some (.lst vs) ∧ Reps L'.dom H' ds vs := by
  rcases l with rfl | ⟨p, rfl, h⟩
  · cases r with | lst n h r => exact ⟨_, rfl, fun L' H' st => ⟨_, stl_at st h n, r.mono st.kp⟩⟩
  · cases r
    refine ⟨p, rfl, fun L' H' st => ?_⟩
    cases m with
    | true => cases hm rfl
    | false =>
      have h' : L' p = some (.lst ds) := by rw [show L'.c = L.c from st.same rfl]; exact h
      cases st.sto.cell p _ h' with | lst h r => exact ⟨_, h, r⟩
theorem Stl.refl {m H} (s : StoOk L H) : Stl m L H L H := Keep.refl.stl s fun _ => rfl
theorem wi_list {m : Bool} {d : D} {ds : List D} {post : List D → Sto → Prop} (hm : m = true → d = .lst ds) (l : Lk L d (.lst ds)) (h : Ev S G L it d) (hp : post ds L) : Wi m S G L tg it post := fun σ H A R c =>
  ⟨iList B.K (ME S it), fun X hX => by
    have hm := me hX (e := it)
    obtain ⟨y, rfl, _⟩ := S.fam X hX
    exact pi_list hm, h.run A fun v H1 k1 A1 r1 => by
    obtain ⟨p, rfl, st⟩ := lk_stl hm l A1.sto r1
    obtain ⟨vs, h1, _⟩ := st L H1 (.refl A1.sto)
    refine ⟨p, rfl, ⟨vs, .inl (.inl h1)⟩, c _ ds L H1 hp k1 A1 fun L' H' s => ?_⟩
    obtain ⟨vs, h2, r2⟩ := st L' H' s
    refine ⟨fun i d' hd => ?_, vs, .inl (.inl h2), Nat.le_of_eq r2.length⟩
    obtain ⟨w, hw, rw'⟩ := r2.get hd
    refine ⟨⟨vs, w, .inl (.inl h2), hw⟩, fun x H'' ⟨e1, e2⟩ => ?_⟩
    subst e1
    have := e2 vs (.inl (.inl h2))
    rw [hw] at this; cases this
    exact ⟨.refl _, rw'⟩⟩
theorem ei_list {m : Bool} {ds : List D} (h : Ev S G L it (.lst ds)) : Ei m S G L tg it ds := wi_list (fun _ => rfl) (.inl rfl) h ⟨rfl, rfl⟩
theorem ei_listP {d : D} {ds : List D} (l : Lk L d (.lst ds)) (h : Ev S G L it d) : Ei false S G L tg it ds := wi_list (fun z => nomatch z) l h ⟨rfl, rfl⟩
theorem ei_tup {m : Bool} {ds : List D} (h : Ev S G L it (.tup ds)) : Ei m S G L tg it ds := fun σ H A R c =>
  ⟨iTup B.K (ME S it), fun X hX => by
    have hm := me hX (e := it)
    obtain ⟨y, rfl, _⟩ := S.fam X hX
    exact pi_tup hm, h.run A fun v H1 k1 A1 r1 => by
    cases r1 with
    | @tup p _ vs n h1 r1 =>
    refine ⟨p, rfl, ⟨vs, .inl (.inl h1)⟩, c _ ds L H1 ⟨rfl, rfl⟩ k1 A1 fun L' H' s => ?_⟩
    have h2 := stl_at s h1 n
    have r2 := r1.mono s.kp
    refine ⟨fun i d' hd => ?_, vs, .inl (.inl h2), Nat.le_of_eq r1.length⟩
    obtain ⟨w, hw, rw'⟩ := r2.get hd
    refine ⟨⟨vs, w, .inl (.inl h2), hw⟩, fun x H'' ⟨e1, e2⟩ => ?_⟩
    subst e1
    have := e2 vs (.inl (.inl h2))
    rw [hw] at this; cases this
    exact ⟨.refl _, rw'⟩⟩
/-- lo, lo + c, .. -/
def rngL (lo c : Int) (n : Nat) : List D := (List.range n).map fun i : Nat => D.int (lo + (i : Int) * c)
theorem rngL_get {lo c : Int} {n i : Nat} {d : D} (h : (rngL lo c n)[i]? = some d) : i < n ∧ d = .int (lo + (i : Int) * c) := by
  have hi : i < n := by
    have := (List.getElem?_eq_some_iff.mp h).1
    unfold rngL at this; simpa using this
  unfold rngL at h
  rw [List.getElem?_map, List.getElem?_range hi] at h
  cases h
  exact ⟨hi, rfl⟩
theorem rngL_len {lo c : Int} {n : Nat} : (rngL lo c n).length = n := by unfold rngL; simp
theorem yld_rng {m : Bool} {H : Hp} {lo : Int} {n : Nat} : Yld m (Itr lo n) L H (rngL lo 1 n) := fun L' H' st => by
  refine ⟨fun i d hd => ?_, Nat.le_of_eq rngL_len.symm⟩
  obtain ⟨hi, rfl⟩ := rngL_get hd
  refine ⟨hi, fun x H'' ⟨e1, e2⟩ => ?_⟩
  subst e1; subst e2
  refine ⟨.refl _, ?_⟩
  rw [Int.mul_one]; exact .int
theorem yld_rngC {m : Bool} {H : Hp} {lo cc : Int} {n : Nat} : Yld m (Itc lo cc n) L H (rngL lo cc n) := fun L' H' st => by
  refine ⟨fun i d hd => ?_, Nat.le_of_eq rngL_len.symm⟩
  obtain ⟨hi, rfl⟩ := rngL_get hd
  refine ⟨hi, fun x H'' ⟨e1, e2⟩ => ?_⟩
  subst e1; subst e2
  exact ⟨.refl _, .int⟩
theorem Bg.none (B : Bg) {x : Str} (h : x ∈ blNames) : B.mg x = Option.none := B.bl x h
theorem reps1 {M H} {d : D} {vs : List V} (r : Reps M H [d] vs) : ∃ v, vs = [v] ∧ Rep M H d v := by cases r with | cons a r => cases r; exact ⟨_, rfl, a⟩
theorem reps2 {M H} {d d' : D} {vs : List V} (r : Reps M H [d, d'] vs) : ∃ v v', vs = [v, v'] ∧ Rep M H d v ∧ Rep M H d' v' := by cases r with | cons a r => cases r with | cons b r => cases r; exact ⟨_, _, rfl, a, b⟩
theorem reps3 {M H} {d d' d2 : D} {vs : List V} (r : Reps M H [d, d', d2] vs) : ∃ v v' v2, vs = [v, v', v2] ∧ Rep M H d v ∧ Rep M H d' v' ∧ Rep M H d2 v2 := by cases r with | cons a r => cases r with | cons b r => cases r with | cons c r => cases r; exact ⟨_, _, _, rfl, a, b, c⟩
def I62 (i : Int) : Prop := -(2 ^ 62) ≤ i ∧ i < 2 ^ 62
theorem wi_range1 {m : Bool} {p : Pos} {post : List D → Sto → Prop} (h : We S G L a fun d L' => ∃ n : Nat, d = .int n ∧ n < 2 ^ 62 ∧ post (rngL 0 1 n) L') (hs : ∀ env, starEach [a] env = (false, eval a env) :: starEach [] env := by intro _; rfl) (hg : sc.names.lookup ("range" : Str) = some .globalImplicit := by rfl) : Wi m S G L tg (.Call (.Name "range" p) [a] [] pos) post := fun σ H A R c =>
  ⟨iRng1 (MA S [a]), fun X hX => by
    have hm := ma hX (e := [a])
    obtain ⟨y, rfl, _⟩ := S.fam X hX
    exact pi_range1 hg (B.none (by decide)) hm (hs _), by
    refine wa_cons (p := fun ds L' => ∃ n : Nat, ds = [.int n] ∧ n < 2 ^ 62 ∧ post (rngL 0 1 n) L') (h.mono fun d L' ⟨n, e1, e2, e3⟩ => wa_nil ⟨n, by rw [e1], e2, e3⟩) hs σ H A _ fun ds L' vs H1 ⟨n, e1, e2, e3⟩ k1 s1 r1 => ?_
    subst e1
    obtain ⟨v, rfl, rv⟩ := reps1 r1
    cases rv
    exact ⟨n, rfl, by omega, by omega, by rw [Int.toNat_natCast]; exact c _ _ L' H1 e3 k1 (A.mono k1 s1) yld_rng⟩⟩
theorem ei_range1 {m : Bool} {p : Pos} {n : Nat} (h : Ev S G L a (.int n)) (hn : n < 2 ^ 62) (hs : ∀ env, starEach [a] env = (false, eval a env) :: starEach [] env := by intro _; rfl) (hg : sc.names.lookup ("range" : Str) = some .globalImplicit := by rfl) : Ei m S G L tg (.Call (.Name "range" p) [a] [] pos) (rngL 0 1 n) :=
  wi_range1 (h.we ⟨n, rfl, hn, rfl, rfl⟩) hs hg
theorem ei_range2 {m : Bool} {p : Pos} {i j : Int} {n : Nat} (h : Ea S G L [a, b] [.int i, .int j]) (h1 : I62 i) (h2 : I62 j) (hn : (j - i).toNat = n) (hs : ∀ env, starEach [a, b] env = [(false, eval a env), (false, eval b env)] := by intro _; rfl) (hs2 : ∀ env, starEach [b] env = [(false, eval b env)] := by intro _; rfl) (hg : sc.names.lookup ("range" : Str) = some .globalImplicit := by rfl) :
    Ei m S G L tg (.Call (.Name "range" p) [a, b] [] pos) (rngL i 1 n) := fun σ H A R c =>
  ⟨iRng2 (MA S [a, b]), fun X hX => by
    have hm := ma hX (e := [a, b])
    obtain ⟨y, rfl, _⟩ := S.fam X hX
    exact pi_range2 hg (B.none (by decide)) hm (hs _) (hs2 _), by
    refine h σ H A _ fun ds L' vs H1 ⟨e1, e2⟩ k1 s1 r1 => ?_
    subst e1; subst e2
    obtain ⟨v, v', rfl, rv, rv'⟩ := reps2 r1
    cases rv; cases rv'
    exact ⟨i, j, rfl, ⟨h1.1, h1.2, h2.1, h2.2⟩, by rw [hn]; exact c _ _ _ H1 ⟨rfl, rfl⟩ k1 (A.mono k1 s1) yld_rng⟩⟩
theorem ei_range3 {m : Bool} {p : Pos} {i j cc : Int} {n : Nat} (h : Ea S G L [a, b, c] [.int i, .int j, .int cc]) (hr : RgC i j cc n) (hs : ∀ env, starEach [a, b, c] env = (false, eval a env) :: starEach [b, c] env := by intro _; rfl) (hg : sc.names.lookup ("range" : Str) = some .globalImplicit := by rfl)
    (hpl : ∀ env, (backTo pos (starEach [b, c] env)).any (·.1) = false := by intro _; rfl) :
    Ei m S G L tg (.Call (.Name "range" p) [a, b, c] [] pos) (rngL i cc n) := fun σ H A R ccc =>
  ⟨iRng3 (MA S [a, b, c]), fun X hX => by
    have hm := ma hX (e := [a, b, c])
    obtain ⟨y, rfl, _⟩ := S.fam X hX
    exact pi_range3 (X := B.put N sc y) hg (B.none (by decide)) hm (hs _) (hpl _), by
    refine h σ H A _ fun ds L' vs H1 ⟨e1, e2⟩ k1 s1 r1 => ?_
    subst e1; subst e2
    obtain ⟨v, v', v2, rfl, rv, rv', rv2⟩ := reps3 r1
    cases rv; cases rv'; cases rv2
    exact ⟨i, j, cc, n, rfl, hr, ccc _ _ _ H1 ⟨rfl, rfl⟩ k1 (A.mono k1 s1) yld_rngC⟩⟩
/-- reversed(xs) -/
theorem ei_rev {m : Bool} {p : Pos} {ds : List D} (h : Ev S G L a (.lst ds)) (hs : ∀ env, starEach [a] env = (false, eval a env) :: starEach [] env := by intro _; rfl) (hg : sc.names.lookup ("reversed" : Str) = some .globalImplicit := by rfl) : Ei m S G L tg (.Call (.Name "reversed" p) [a] [] pos) ds.reverse := fun σ H A R c =>
  ⟨RT.iRevA B.K (ME S a), fun X hX => by
    have hm := me hX (e := a)
    obtain ⟨y, rfl, _⟩ := S.fam X hX
    exact RT.pi_revA hg (B.none (by decide)) hm (hs _), h.run A fun v H1 k1 A1 r1 => by
    cases r1 with
    | @lst p _ vs n h1 r1 =>
    refine ⟨p, vs, rfl, .inl ⟨.inl (.inl h1), c _ _ L H1 ⟨rfl, rfl⟩ k1 A1 fun L' H' s => ?_⟩⟩
    have h2 := stl_at s h1 n
    have r2 := r1.mono s.kp
    have hl := r1.length
    refine ⟨fun i d' hd => ?_, by show vs.length ≤ ds.reverse.length; rw [List.length_reverse]; omega⟩
    have hi : i < ds.length := by have := (List.getElem?_eq_some_iff.mp hd).1; simpa using this
    rw [List.getElem?_reverse hi, ← hl] at hd
    obtain ⟨w, hw, rw'⟩ := r2.get hd
    refine ⟨⟨by omega, vs, w, .inl (.inl h2), hw⟩, fun x H'' ⟨e1, e2⟩ => ?_⟩
    subst e1
    have := e2 vs (.inl (.inl h2))
    rw [hw] at this; cases this
    exact ⟨.refl _, rw'⟩⟩
/-- enumerate(xs) -/
def enumD (ds : List D) : List D := ds.zipIdx.map fun p => D.tup [.int (p.2 : Nat), p.1]
theorem enumD_get {ds : List D} {i : Nat} {d : D} (h : (enumD ds)[i]? = some d) : ∃ x, ds[i]? = some x ∧ d = .tup [.int (i : Nat), x] := by
  unfold enumD at h
  rw [List.getElem?_map, List.getElem?_zipIdx] at h
  cases e : ds[i]? with
  | none => rw [e] at h; cases h
  | some x => rw [e] at h; simp at h; exact ⟨x, rfl, h.symm⟩
theorem ei_enum {m : Bool} {p tpos : Pos} {elts : List Expr} {kk : Nat} {d : D} {ds : List D} (hm : m = true → d = .lst ds) (l : Lk L d (.lst ds)) (h : Ev S G L a d) (hs : ∀ env, starEach [a] env = [(false, eval a env)] := by intro _; rfl) (hg : sc.names.lookup ("enumerate" : Str) = some .globalImplicit := by rfl) :
    Ei m S G L (.Tuple elts kk tpos) (.Call (.Name "enumerate" p) [a] [] pos) (enumD ds) := fun σ H A R c =>
  ⟨iEnum B.K (MA S [a]), fun X hX => by
    have hm := ma hX (e := [a])
    obtain ⟨y, rfl, _⟩ := S.fam X hX
    exact pi_enum hg (B.none (by decide)) hm (hs _), by
    refine ea_1 h hs σ H A _ fun ds' L' vs' H1 ⟨e1, e2⟩ k1 s1 r1 => ?_
    subst e1; subst e2
    obtain ⟨v, rfl, rv⟩ := reps1 r1
    have A1 := A.mono k1 s1
    obtain ⟨p, rfl, st⟩ := lk_stl hm l A1.sto rv
    obtain ⟨vs, h1, _⟩ := st _ H1 (.refl A1.sto)
    refine ⟨p, vs, rfl, .inl (.inl h1), c _ _ _ H1 ⟨rfl, rfl⟩ k1 A1 fun L' H' s => ?_⟩
    obtain ⟨vs, h2, r2⟩ := st L' H' s
    have hl := r2.length
    refine ⟨fun i d' hd => ?_, vs, .inl (.inl h2), by unfold enumD; simp; omega⟩
    obtain ⟨x, hx, rfl⟩ := enumD_get hd
    obtain ⟨w, hw, rw'⟩ := r2.get hx
    refine ⟨⟨vs, w, .inl (.inl h2), hw⟩, fun x' H'' ⟨T, x2, e1, e2, e3, e4⟩ => ?_⟩
    subst e1; subst e3
    have := e4 vs (.inl (.inl h2))
    rw [hw] at this; cases this
    have sm := same_upd (o := .tup [.int (i : Nat), w]) e2
    exact ⟨sm, .tup (rep_new e2 s.sto) upd_same (.cons .int (.cons (rw'.mono (keep_same sm).kp) .nil))⟩⟩
/-! ### targets -/
def MG (S : Sit B N sc k) (tg : Expr) : TG := fun v σ H Q => ∃ t, (∀ X, S.X X → PG X tg t) ∧ t v σ H Q
theorem mg (S : Sit B N sc k) {X : Cx} (h : S.X X) {tg : Expr} : PG X tg (MG S tg) := ⟨fun pins s σ H v u Q I r ⟨t, a, b⟩ => (a X h).run pins s σ H v u Q I r b⟩
/-- the store of d at tg leads from G to G'; only the slots is are stored -/
def Wg (S : Sit B N sc k) (tg : Expr) (d : D) (G G' : Gam) (is : List Nat) : Prop :=
  ∀ L σ H v, Abs G L σ H → Rep L.dom H d v → ∀ Q : L2.St → Hp → Prop, (∀ σ', Abs G' L σ' H → (σ'.length = σ.length ∧ ∀ j, j ∉ is → σ'[j]? = σ[j]?) → Q σ' H) → MG S tg v σ H Q
theorem wg_name (i : Nat) {x : Str} {d : D} (hN : N.Nodup := by decide +kernel) (hi : N[i]? = some x := by rfl) (hx : sc.names.lookup x = some .local := by rfl) : Wg S (.Name x pos) d G (G.set i (some d)) [i] := fun L σ H v A r Q h =>
  ⟨gName i, fun X hX => by obtain ⟨y, rfl, _⟩ := S.fam X hX; exact pg_name hN hi (.inl hx) (.inr hx), h _ (A.set r i) ⟨List.length_set .., fun j hj => List.getElem?_set_ne (fun e => hj (by rw [e]; exact List.mem_singleton_self _))⟩⟩
theorem wg_nameC (hS : S.bd = true) (i : Nat) {x : Str} {d : D} (hN : N.Nodup := by decide +kernel) (hi : N[i]? = some x := by rfl) (hx : sc.names.lookup x = some .cell := by rfl) : Wg S (.Name x pos) d G (G.set i (some d)) [i] := fun L σ H v A r Q h =>
  ⟨gName i, fun X hX => by have hf := S.fn hS X hX x; obtain ⟨y, rfl, _⟩ := S.fam X hX; exact pg_name hN hi (.inr hx) (.inl hf), h _ (A.set r i) ⟨List.length_set .., fun j hj => List.getElem?_set_ne (fun e => hj (by rw [e]; exact List.mem_singleton_self _))⟩⟩
theorem pgs_ok {X : Cx} (hX : S.X X) : ∀ {es : List Expr}, (∀ e ∈ es, ∃ x p, e = .Name x p) → ∃ u, PGs X es u := fun {es} h => by
  exact ⟨fun _ _ _ _ => False, ⟨fun _ _ _ _ _ _ _ _ _ z => z.elim⟩⟩
/-- (a, b) = a pair -/
theorem wg_pair (i j : Nat) {x y : Str} {p1 p2 : Pos} {kk : Nat} {d d' : D} (hN : N.Nodup := by decide +kernel) (hi : N[i]? = some x := by rfl) (hx : sc.names.lookup x = some .local := by rfl) (hj : N[j]? = some y := by rfl) (hy : sc.names.lookup y = some .local := by rfl) :
    Wg S (.Tuple [.Name x p1, .Name y p2] kk pos) (.tup [d, d']) G ((G.set i (some d)).set j (some d')) [i, j] := fun L σ H v A r Q h => by
  cases r with
  | @tup p _ vs n h1 r1 =>
  obtain ⟨v, v', rfl, rv, rv'⟩ := reps2 r1
  refine ⟨gTup B.K 2 (gCons (gName i) (gCons (gName j) gNil)), fun X hX => ?_, p, [v, v'], rfl, .inl (.inl h1), rfl, v, [v'], rfl, v', [], rfl, rfl, h _ ((A.set rv i).set rv' j) ⟨by rw [List.length_set, List.length_set], fun q hq => ?_⟩⟩
  · obtain ⟨y, rfl, _⟩ := S.fam X hX
    exact pg_tup rfl (pgs_cons (pg_name hN hi (.inl hx) (.inr hx)) (pgs_cons (pg_name hN hj (.inl hy) (.inr hy)) pgs_nil))
  · have q1 : i ≠ q := fun e => hq (by simp [e])
    have q2 : j ≠ q := fun e => hq (by simp [e])
    rw [List.getElem?_set_ne q2, List.getElem?_set_ne q1]
/-! ### for -/
def ForW (S : Sit B N sc k) (tg : Expr) (body : List Stmt) (E : AE) : List D → Gam → Sto → Prop
  | [], G, L => E.nx G L
  | d :: ds, G, L => ∃ G' is, Wg S tg d G G' is ∧ Ws S G' L body { E with nx := ForW S tg body E ds, ct := ForW S tg body E ds, bk := E.nx }
theorem ContS.trans {W : XK} {L1 : Sto} {H H1 : Hp} {E : AE} {D : Ends} (cc : ContS W L H E D) (k1 : Keep L H L1 H1) : ContS W L1 H1 E D :=
  ⟨fun G2 L2 σ2 H2 q k2 A2 => cc.nx _ _ _ _ q (k1.trans k2) A2, fun d L2 v H2 q k2 s2 r => cc.rt _ _ _ _ q (k1.trans k2) s2 r, fun G2 L2 σ2 H2 q k2 A2 => cc.bk _ _ _ _ q (k1.trans k2) A2, fun G2 L2 σ2 H2 q k2 A2 => cc.ct _ _ _ _ q (k1.trans k2) A2, cc.xc.trans k1⟩
theorem forW_run {body : List Stmt} {E : AE} {J : It} {ds : List D} {σ : L2.St} {H : Hp} {D : Ends} (A : Abs G L σ H) (y : Yld true J L H ds) (h : ForW S tg body E ds G L) (c : ContS S.W L H E D) :
    ∃ W : Nat → Nat → L2.St → Hp → Prop, (∃ m, W 0 m σ H) ∧ ∀ i m σ H, W i m σ H →
      (J.stop i H ∧ D.nx σ H) ∨ (J.go i H ∧ ∃ Nx : L2.St → Hp → Prop, (∀ σ' H', Nx σ' H' → ∃ m', m' < m ∧ W (i + 1) m' σ' H') ∧ ∀ x H', J.yld i H x H' → MG S tg x σ H' fun σ2 H2 => MSs S body { D with nx := Nx, ct := Nx, bk := D.nx } σ2 H2) := by
  refine ⟨fun i m σ' H' => m = ds.length - i ∧ i ≤ ds.length ∧ ∃ G' L', ForW S tg body E (ds.drop i) G' L' ∧ Keep L H L' H' ∧ Abs G' L' σ' H', ⟨ds.length, by simp, Nat.zero_le _, G, L, h, .refl, A⟩, ?_⟩
  rintro i m σ1 H1 ⟨rfl, hi, G1, L1, w, k1, A1⟩
  obtain ⟨yy, ys⟩ := y L1 H1 (k1.stl A1.sto fun z => nomatch z)
  by_cases hlt : i < ds.length
  · obtain ⟨go, yl⟩ := yy i ds[i] (List.getElem?_eq_getElem hlt)
    rw [List.drop_eq_getElem_cons hlt] at w
    obtain ⟨G2, is, g, w⟩ := w
    refine .inr ⟨go, fun σ' H' => i + 1 ≤ ds.length ∧ ∃ G' L', ForW S tg body E (ds.drop (i + 1)) G' L' ∧ Keep L H L' H' ∧ Abs G' L' σ' H', fun σ' H' ⟨q1, q2⟩ => ⟨ds.length - (i + 1), by omega, rfl, q1, q2⟩, fun x H' yx => ?_⟩
    obtain ⟨sm, rx⟩ := yl x H' yx
    have kk := keep_same (L := L1) sm
    refine g L1 σ1 H' x (A1.mono kk (A1.sto.same sm)) rx _ fun σ2 A2 _ => ?_
    have c2 := c.trans (k1.trans kk)
    have k12 := k1.trans kk
    exact w σ2 H' A2 _ ⟨fun G3 L3 σ3 H3 q k3 A3 => ⟨hlt, G3, L3, q, k12.trans k3, A3⟩, c2.rt, c2.nx, fun G3 L3 σ3 H3 q k3 A3 => ⟨hlt, G3, L3, q, k12.trans k3, A3⟩, c2.xc⟩
  · have e : i = ds.length := by omega
    subst e
    rw [List.drop_length] at w
    exact .inl ⟨ys, c.nx _ _ _ _ w k1 A1⟩
theorem wo_forAt {body : List Stmt} {E : AE} {σ : L2.St} {H : Hp} {D : Ends} (h : WiAt true S G L tg it σ H fun ds L' => ForW S tg body E ds G L') (c : ContS S.W L H E D) (hs : ∀ env x, foldedSetIterable it env x = pure x := by intro _ _; rfl) : MS S (.For tg it body [] pos) D σ H :=
  ⟨tFor (MI S tg it) (MG S tg) (MSs S body), fun X hX => by
    have h1 := mi hX (tg := tg) (it := it); have h2 := mg S hX (tg := tg); have h3 := mss hX (e := body); have h4 := S.pass X hX
    obtain ⟨y, rfl, _⟩ := S.fam X hX
    exact ps_for h4 rfl h1 h2 h3 (hs _), h _ fun J ds L' H' w k1 A1 y => forW_run A1 y w (c.trans k1)⟩
theorem wo_for {body : List Stmt} {E : AE} (h : Wi true S G L tg it fun ds L' => ForW S tg body E ds G L') (hs : ∀ env x, foldedSetIterable it env x = pure x := by intro _ _; rfl) : Wo S G L (.For tg it body [] pos) E := fun σ H A D c => wo_forAt (h σ H A) c hs
theorem ws_for {body rest : List Stmt} {E : AE} (h : Wi true S G L tg it fun ds L' => ForW S tg body { E with nx := fun G' L' => Ws S G' L' rest E } ds G L') (hs : ∀ env x, foldedSetIterable it env x = pure x := by intro _ _; rfl) : Ws S G L (.For tg it body [] pos :: rest) E := ws_cons (wo_for h hs)
/-! ### locks: a dict that is walked -/
theorem kp_lock {H : Hp} {p : Addr} {vs : List (Key × V)} {od : Obj} {M : Addr → Prop} (hp : H p = some (.dK vs)) : Kp M H M (upd H p (.frz od (.dK vs))) := fun q n u r => by
  by_cases e : q = p
  · subst e
    rw [Rd, hp] at r
    have eu : u = .dK vs := by
      rcases r with r | ⟨_, r⟩ <;> cases r
      rfl
    subst eu
    exact ⟨fun _ _ => ⟨n, .inr ⟨od, upd_same⟩⟩, fun _ z => absurd rfl (z vs)⟩
  · rw [Rd, upd_ne e]
    exact ⟨fun _ _ => ⟨n, r⟩, fun h _ _ => ⟨n, h⟩⟩
theorem kp_unlock {H : Hp} {p : Addr} {vs : List (Key × V)} {od : Obj} {M : Addr → Prop} (hp : H p = some (.frz od (.dK vs))) : Kp M H M (upd H p (.dK vs)) := fun q n u r => by
  by_cases e : q = p
  · subst e
    rw [Rd, hp] at r
    rcases r with r | ⟨_, r⟩
    · cases r
      exact ⟨fun _ z => (nomatch z), fun _ _ z => absurd rfl (z _ _)⟩
    · cases r
      exact ⟨fun _ _ => ⟨n, .inl upd_same⟩, fun h _ _ => by rw [hp] at h; cases h⟩
  · rw [Rd, upd_ne e]
    exact ⟨fun _ _ => ⟨n, r⟩, fun h _ _ => ⟨n, h⟩⟩
/-- the store where another thing stands at p, no cell -/
theorem StoOk.at {H : Hp} {p : Addr} {o : HO} (s : StoOk L H) (n : L p = none) (kp : Kp L.dom H L.dom (upd H p o)) : StoOk L (upd H p o) := ⟨fun q d h => by
  have ne : q ≠ p := fun e => by subst e; rw [n] at h; cases h
  exact (s.cell q d h).mono kp (upd_ne ne), fun q h => by
  refine ⟨?_, (s.prot q h).2⟩
  by_cases e : q = p
  · subst e; rw [upd_same]; exact fun z => nomatch z
  · rw [upd_ne e]; exact (s.prot q h).1⟩
theorem Abs.at {σ : L2.St} {H : Hp} {p : Addr} {o : HO} (A : Abs G L σ H) (n : L p = none) (kp : Kp L.dom H L.dom (upd H p o)) : Abs G L σ (upd H p o) :=
  ⟨A.len, fun i d h => let ⟨v, e, r⟩ := A.slot i d h; ⟨v, e, r.mono kp⟩, A.sto.at n kp⟩
/-- behind the lock -/
theorem keep_unlock {H H' : Hp} {L' : Sto} {p : Addr} {vs : List (Key × V)} {od : Obj} (hp : H p = some (.dK vs)) (n : L p = none) (k : Keep L (upd H p (.frz od (.dK vs))) L' H') : H' p = some (.frz od (.dK vs)) ∧ L' p = none ∧ Keep L H L' (upd H' p (.dK vs)) := by
  obtain ⟨h1, h2⟩ := k.at_ p _ n upd_same
  refine ⟨h2, h1, k.P, fun q o hq ho => ?_⟩
  by_cases e : q = p
  · subst e
    rw [hp] at ho; cases ho
    exact ⟨h1, upd_same⟩
  · obtain ⟨q1, q2⟩ := k.at_ q o hq (by rw [upd_ne e]; exact ho)
    exact ⟨q1, by rw [upd_ne e]; exact q2⟩
theorem lockE {σ : L2.St} {H : Hp} {p : Addr} {vs : List (Key × V)} (A : Abs G L σ H) (hp : Rd H p (.dK vs)) (n : ¬ L.dom p) {Q : VK} (c : Cont L H post Q)
    (h : ∀ H1 od, H1 p = some (.frz od (.dK vs)) → Abs G L σ H1 → Kp L.dom H L.dom H1 → ∀ Q, Cont L H1 post Q → ME S e σ H1 Q) : ME S e σ H Q := by
  have n' : L p = none := nn fun z => n (.inl z)
  rcases hp with hp | ⟨od, hp⟩
  · refine ⟨tLockE (ME S e), fun X hX => pe_lock (me hX), p, .dK vs, hp, trivial, fun od => ?_⟩
    refine h _ od upd_same (A.at n' (kp_lock hp)) (kp_lock hp) _ fun d L' v H' w k s r => ?_
    obtain ⟨q1, q2, q3⟩ := keep_unlock hp n' k
    exact ⟨q1, c d L' v _ w q3 (s.at q2 (kp_unlock q1)) (r.mono (kp_unlock q1))⟩
  · exact h H od hp A (fun q n u r => ⟨fun _ _ => ⟨n, r⟩, fun h _ _ => ⟨n, h⟩⟩) Q c
theorem lockS {σ : L2.St} {H : Hp} {p : Addr} {vs : List (Key × V)} {st : Stmt} {E : AE} (A : Abs G L σ H) (hp : Rd H p (.dK vs)) (n : ¬ L.dom p) {D : Ends} (c : ContS S.W L H E D)
    (h : ∀ H1 od, H1 p = some (.frz od (.dK vs)) → Abs G L σ H1 → Kp L.dom H L.dom H1 → ∀ D, ContS S.W L H1 E D → MS S st D σ H1) (hx : ∀ C fs L', ¬ E.xc C fs L') : MS S st D σ H := by
  have n' : L p = none := nn fun z => n (.inl z)
  rcases hp with hp | ⟨od, hp⟩
  · refine ⟨tLock (MS S st), fun X hX => ps_lock (ms hX), p, .dK vs, hp, trivial, fun od => ?_⟩
    refine h _ od upd_same (A.at n' (kp_lock hp)) (kp_lock hp) _ ⟨fun G' L' σ' H' w k A' => ?_, fun d L' v H' w k s r => ?_, fun G' L' σ' H' w k A' => ?_, fun G' L' σ' H' w k A' => ?_, fun C fs L' _ _ _ w => (hx C fs L' w).elim⟩
    · obtain ⟨q1, q2, q3⟩ := keep_unlock hp n' k
      exact ⟨q1, c.nx _ _ _ _ w q3 (A'.at q2 (kp_unlock q1))⟩
    · obtain ⟨q1, q2, q3⟩ := keep_unlock hp n' k
      exact ⟨q1, c.rt _ _ _ _ w q3 (s.at q2 (kp_unlock q1)) (r.mono (kp_unlock q1))⟩
    · obtain ⟨q1, q2, q3⟩ := keep_unlock hp n' k
      exact ⟨q1, c.bk _ _ _ _ w q3 (A'.at q2 (kp_unlock q1))⟩
    · obtain ⟨q1, q2, q3⟩ := keep_unlock hp n' k
      exact ⟨q1, c.ct _ _ _ _ w q3 (A'.at q2 (kp_unlock q1))⟩
  · exact h H od hp A (fun q n u r => ⟨fun _ _ => ⟨n, r⟩, fun h _ _ => ⟨n, h⟩⟩) D c
def kD : Key → D
  | .inl i => .int i
  | .inr x => .str x
def keysD (kvs : List (Key × D)) : List D := kvs.map fun kv => kD kv.1
def valsD (kvs : List (Key × D)) : List D := kvs.map (·.2)
def itemsD (kvs : List (Key × D)) : List D := kvs.map fun kv => .tup [kD kv.1, kv.2]
theorem rep_kD {M H} {kk : Key} : Rep M H (kD kk) (kV kk) := by cases kk <;> constructor
theorem RepK.get {M H} : ∀ {ds : List (Key × D)} {vs : List (Key × V)}, RepK M H ds vs → ∀ {i : Nat} {kd : Key × D}, ds[i]? = some kd → ∃ v, vs[i]? = some (kd.1, v) ∧ Rep M H kd.2 v
  | _, _, .nil, _, _, h => by simp at h
  | _, _, .cons a r, 0, d, h => by simp at h; subst h; exact ⟨_, rfl, a⟩
  | _, _, .cons a r, i + 1, d, h => by
    obtain ⟨v, e, q⟩ := RepK.get r (i := i) (kd := d) (by simpa using h)
    exact ⟨v, by simpa using e, q⟩
section
variable {σ : L2.St} {H : Hp} {p : Addr} {od : Obj} {vs : List (Key × V)} {kvs : List (Key × D)} {i : Nat} {m : Bool}
theorem wiAt_keys (ev : ∀ Q : VK, Q (.ref p) H → ME S it σ H Q) (A : Abs G L σ H) (hp : H p = some (.frz od (.dK vs))) (n : ¬ L.dom p) (r : RepK L.dom H kvs vs) : WiAt m S G L tg it σ H fun ds L' => ds = keysD kvs ∧ L' = L := fun R c =>
  ⟨iKeys (ME S it), fun X hX => pi_keys (me hX), ev _ ⟨p, od, rfl, .inl ⟨vs, hp, c _ _ L H ⟨rfl, rfl⟩ .refl A fun L' H' st => by
    have h1 := stl_at st hp n
    have hl := r.length
    refine ⟨fun j d hd => ?_, h1, by unfold keysD; simp; omega⟩
    unfold keysD at hd
    rw [List.getElem?_map] at hd
    cases e : kvs[j]? with
    | none => rw [e] at hd; cases hd
    | some kd =>
      rw [e] at hd; cases hd
      obtain ⟨v, hv, _⟩ := r.get e
      refine ⟨⟨h1, (List.getElem?_eq_some_iff.mp hv).1⟩, fun x H'' ⟨e1, kk, w, e2, e3⟩ => ?_⟩
      subst e1
      rw [hv] at e2; cases e2
      exact ⟨.refl _, e3 ▸ rep_kD⟩⟩⟩⟩
theorem wiAt_vals {a : Expr} {apos cpos : Pos} (ev : ∀ Q : VK, Q (.ref p) H → ME S a σ H Q) (A : Abs G L σ H) (hp : H p = some (.frz od (.dK vs))) (n : ¬ L.dom p) (r : RepK L.dom H kvs vs) (hbase : ∀ env, attributeBase a "values" env (eval a env) = eval a env := by intro _; rfl) (hline : (apos.endLine == cpos.line) = true := by rfl) : WiAt m S G L tg (.Call (.Attribute a "values" apos) [] [] cpos) σ H fun ds L' => ds = valsD kvs ∧ L' = L := fun R c =>
  ⟨iVals (ME S a), fun X hX => pi_values (me hX) (hbase _) hline, ev _ ⟨p, od, vs, rfl, hp, c _ _ L H ⟨rfl, rfl⟩ .refl A fun L' H' st => by
    have h1 := stl_at st hp n
    have hl := r.length
    refine ⟨fun j d hd => ?_, h1, by unfold valsD; simp; omega⟩
    unfold valsD at hd
    rw [List.getElem?_map] at hd
    cases e : kvs[j]? with
    | none => rw [e] at hd; cases hd
    | some kd =>
      rw [e] at hd; cases hd
      obtain ⟨v, hv, rv⟩ := (r.mono st.kp).get e
      refine ⟨⟨h1, (List.getElem?_eq_some_iff.mp hv).1⟩, fun x H'' ⟨e1, kk, e2⟩ => ?_⟩
      subst e1
      rw [hv] at e2; cases e2
      exact ⟨.refl _, rv⟩⟩⟩
theorem wiAt_items {a : Expr} {apos cpos tpos : Pos} {elts : List Expr} {kk : Nat} (ev : ∀ Q : VK, Q (.ref p) H → ME S a σ H Q) (A : Abs G L σ H) (hp : H p = some (.frz od (.dK vs))) (n : ¬ L.dom p) (r : RepK L.dom H kvs vs) (hbase : ∀ env, attributeBase a "items" env (eval a env) = eval a env := by intro _; rfl) (hline : (apos.endLine == cpos.line) = true := by rfl) : WiAt m S G L (.Tuple elts kk tpos) (.Call (.Attribute a "items" apos) [] [] cpos) σ H fun ds L' => ds = itemsD kvs ∧ L' = L := fun R c =>
  ⟨iItems (ME S a), fun X hX => pi_items (me hX) (hbase _) hline, ev _ ⟨p, od, vs, rfl, hp, c _ _ L H ⟨rfl, rfl⟩ .refl A fun L' H' st => by
    have h1 := stl_at st hp n
    have hl := r.length
    refine ⟨fun j d hd => ?_, h1, by unfold itemsD; simp; omega⟩
    unfold itemsD at hd
    rw [List.getElem?_map] at hd
    cases e : kvs[j]? with
    | none => rw [e] at hd; cases hd
    | some kd =>
      rw [e] at hd; cases hd
      obtain ⟨v, hv, rv⟩ := (r.mono st.kp).get e
      refine ⟨⟨h1, (List.getElem?_eq_some_iff.mp hv).1⟩, fun x H'' ⟨T, kk, w, e2, e3, e4, e5⟩ => ?_⟩
      rw [hv] at e2; cases e2
      subst e3; subst e5
      have sm := same_upd (o := .tup [kV kd.1, v]) e4
      exact ⟨sm, .tup (rep_new e4 st.sto) upd_same (.cons rep_kD (.cons (rv.mono (keep_same sm).kp) .nil))⟩⟩⟩
/-- what a name's slot is, exactly -/
theorem name_at {x : Str} {v : V} (hv : σ[i]? = some (some v)) (hN : N[i]? = some x := by rfl) (hx : Vis sc x := by first | exact Or.inl rfl | exact Or.inr (Or.inl rfl) | exact Or.inr (Or.inr rfl)) (hd : (x == ("__debug__" : Str)) = false := by decide) (hcd : (x == ("__classdict__" : Str)) = false := by decide) :
    ∀ Q : VK, Q v H → ME S (.Name x pos) σ H Q := fun Q q => ⟨tVar i, fun X hX => by obtain ⟨y, rfl, _⟩ := S.fam X hX; exact pe_var hN hx hd hcd, v, hv, q⟩
theorem slot_dct (A : Abs G L σ H) (hG : G[i]? = some (some (.dct kvs))) : ∃ p vs, σ[i]? = some (some (.ref p)) ∧ Rd H p (.dK vs) ∧ ¬ L.dom p ∧ RepK L.dom H kvs vs := by
  obtain ⟨v, e, r⟩ := A.slot i _ hG
  cases r with | dct n h r => exact ⟨_, _, e, h, n, r⟩
end
section
variable {kvs : List (Key × D)}
/-- for x in d, d a name -/
theorem wo_forK (i : Nat) {x : Str} {body : List Stmt} {p1 : Pos} {E : AE} (hG : G[i]? = some (some (.dct kvs))) (h : ForW S tg body E (keysD kvs) G L) (hN : N[i]? = some x := by rfl) (hx : Vis sc x := by first | exact Or.inl rfl | exact Or.inr (Or.inl rfl) | exact Or.inr (Or.inr rfl)) (hd : (x == ("__debug__" : Str)) = false := by decide) (hcd : (x == ("__classdict__" : Str)) = false := by decide)
    (hs : ∀ env y, foldedSetIterable (.Name x p1) env y = pure y := by intro _ _; rfl) (hxc : ∀ C fs L', ¬ E.xc C fs L' := by exact fun _ _ _ z => z) : Wo S G L (.For tg (.Name x p1) body [] pos) E := fun σ H A D c => by
  obtain ⟨p, vs, hv, hp, n, r⟩ := slot_dct A hG
  refine lockS A hp n c (fun H1 od h1 A1 kp D1 c1 => wo_forAt (fun R cc => wiAt_keys (name_at hv hN hx hd hcd) A1 h1 n (r.mono kp) R fun J ds L' H' ⟨e1, e2⟩ k A y => cc J ds L' H' ?_ k A y) c1 hs) hxc
  subst e1; subst e2; exact h
theorem wo_forI (i : Nat) {x : Str} {body : List Stmt} {p1 apos cpos tpos : Pos} {elts : List Expr} {kk : Nat} {E : AE} (hG : G[i]? = some (some (.dct kvs))) (h : ForW S (.Tuple elts kk tpos) body E (itemsD kvs) G L) (hN : N[i]? = some x := by rfl) (hx : Vis sc x := by first | exact Or.inl rfl | exact Or.inr (Or.inl rfl) | exact Or.inr (Or.inr rfl)) (hd : (x == ("__debug__" : Str)) = false := by decide) (hcd : (x == ("__classdict__" : Str)) = false := by decide)
    (hs : ∀ env y, foldedSetIterable (.Call (.Attribute (.Name x p1) "items" apos) [] [] cpos) env y = pure y := by intro _ _; rfl) (hbase : ∀ env, attributeBase (.Name x p1) "items" env (eval (.Name x p1) env) = eval (.Name x p1) env := by intro _; rfl) (hline : (apos.endLine == cpos.line) = true := by rfl) (hxc : ∀ C fs L', ¬ E.xc C fs L' := by exact fun _ _ _ z => z) : Wo S G L (.For (.Tuple elts kk tpos) (.Call (.Attribute (.Name x p1) "items" apos) [] [] cpos) body [] pos) E := fun σ H A D c => by
  obtain ⟨p, vs, hv, hp, n, r⟩ := slot_dct A hG
  refine lockS A hp n c (fun H1 od h1 A1 kp D1 c1 => wo_forAt (fun R cc => wiAt_items (name_at hv hN hx hd hcd) A1 h1 n (r.mono kp) hbase hline R fun J ds L' H' ⟨e1, e2⟩ k A y => cc J ds L' H' ?_ k A y) c1 hs) hxc
  subst e1; subst e2; exact h
end
end
end FS
/-! text W5 -/
/-! W5: comprehensions. -/
namespace FS
open PySem PySem.Spec PyProof.Rows L2
/-- a thing that is being made elsewhere -/
def Sto.prot (L : Sto) (p : Addr) : Sto := { L with P := fun a => L.P a ∨ a = p }
theorem Sto.prot_inj {L L' : Sto} {p : Addr} (h : L.P = L'.P) (e : L.prot p = L'.prot p) : L = L' := by
  have : L.c = L'.c := by show (L.prot p).c = (L'.prot p).c; rw [e]
  cases L; cases L'; cases this; cases h; rfl
def wipeG (G : Gam) : List Nat → Gam
  | [] => G
  | v :: vs => (wipeG G vs).set v none
section
variable {B : Bg} {N : List Str} {sc : Scope} {k : Nat}
def Sit.blk (S : Sit B N sc k) (scope : Scope) : Sit B N (relS scope sc) k where
  X := fun X' => ∃ (X : Cx) (s : Shared) (H : Hp) (C : Addr) (cl : List (Str × Addr)) (fp : List Addr), S.X X ∧ X' = X.blk s H scope (compEnvC scope cl C X.env) fp
  fam := fun x ⟨X, s, H, C, cl, fp, hX, e⟩ => by
    obtain ⟨y, rfl, hr⟩ := S.fam X hX
    subst e
    exact ⟨(B.put N sc y).blk s H scope (compEnvC scope cl C (B.put N sc y).env) fp, rfl, hr⟩
  pass := fun x ⟨X, s, H, C, cl, fp, hX, e⟩ => by subst e; exact .never
  bd := false
  fn := fun z => (nomatch z)
  st := fun z => (nomatch z)
  gd := S.gd
  gok := fun g x ⟨X, s, H, C, cl, fp, hX, e⟩ => by subst e; exact S.gok g X hX
  W := fun _ _ _ => False
  tk := fun X e u s' ⟨_, _, _, _, _, _, _, _, _, _, _, _, _, _, _, _, w⟩ => w.elim
variable {S : Sit B N sc k} {G : Gam} {L : Sto} {e a b c o tg it elt : Expr} {pos : Pos} {post : D → Sto → Prop}
def MTs (S : Sit B N sc k) (ifs : List Expr) : TT := fun σ H Q => ∃ t, (∀ X, S.X X → PTs X ifs t) ∧ t σ H Q
theorem mts (S : Sit B N sc k) {X : Cx} (h : S.X X) {e : List Expr} : PTs X e (MTs S e) := ⟨fun pins s σ H Q I ⟨t, a, b⟩ => (a X h).run pins s σ H Q I b⟩
def Wts (S : Sit B N sc k) (G : Gam) (L : Sto) (e : List Expr) (post : Bool → Sto → Prop) : Prop := ∀ σ H, Abs G L σ H → ∀ Q, ContB L H post Q → MTs S e σ H Q
theorem wts_nil {p : Bool → Sto → Prop} (h : p true L) : Wts S G L [] p := fun σ H A Q c => ⟨tYes, fun _ _ => pts_nil, c true L H h .refl A.sto⟩
theorem wts_one {p : Bool → Sto → Prop} (h : Wt S G L c p) : Wts S G L [c] p := fun σ H A Q cc => ⟨MT S c, fun X hX => pts_one (mt hX), h σ H A Q cc⟩
theorem wipe_get {σ σ' : L2.St} (hl : σ'.length = σ.length) : ∀ {vs : List Nat}, (∀ j, j ∉ vs → σ'[j]? = σ[j]?) → wipe σ' vs = wipe σ vs
  | [], h => List.ext_getElem? fun j => h j (by simp)
  | v :: vs, h => by
    show (wipe σ' vs).set v none = (wipe σ vs).set v none
    refine List.ext_getElem? fun j => ?_
    by_cases e : v = j
    · subst e
      by_cases hv : v < (wipe σ' vs).length
      · rw [List.getElem?_set_self hv, List.getElem?_set_self (by rw [wipe_length] at hv ⊢; omega)]
      · rw [List.getElem?_eq_none (by rw [List.length_set]; omega), List.getElem?_eq_none (by rw [List.length_set]; rw [wipe_length] at hv ⊢; omega)]
    · rw [List.getElem?_set_ne e, List.getElem?_set_ne e]
      by_cases hj : j ∈ vs
      · have w : ∀ (τ : L2.St) (ws : List Nat), j ∈ ws → τ.length = σ.length → (wipe τ ws)[j]? = if j < σ.length then some none else none := by
          intro τ ws
          induction ws with
          | nil => intro z; cases z
          | cons w ws ih =>
            intro hm hlen
            show ((wipe τ ws).set w none)[j]? = _
            by_cases e' : w = j
            · subst e'
              split
              · rw [List.getElem?_set_self (by rw [wipe_length]; omega)]
              · rw [List.getElem?_eq_none (by rw [List.length_set, wipe_length]; omega)]
            · rw [List.getElem?_set_ne e']
              exact ih (by rcases List.mem_cons.mp hm with z | z; exact absurd z.symm e'; exact z) hlen
        rw [w σ' vs hj hl, w σ vs hj rfl]
      · rw [wipe_out hj, wipe_out hj]
        exact h j (by simp only [List.mem_cons, not_or]; exact ⟨fun z => e z.symm, hj⟩)
theorem Abs.wipe {σ : L2.St} {H : Hp} (A : Abs G L σ H) : ∀ vs : List Nat, Abs (wipeG G vs) L (L2.wipe σ vs) H
  | [] => A
  | v :: vs => by
    have ih := Abs.wipe A vs
    refine ⟨by show ((L2.wipe σ vs).set v none).length = ((wipeG G vs).set v none).length; rw [List.length_set, List.length_set, ih.len], fun i d h => ?_, A.sto⟩
    have h : ((wipeG G vs).set v none)[i]? = some (some d) := h
    by_cases e : v = i
    · subst e
      by_cases hv : v < (wipeG G vs).length
      · rw [List.getElem?_set_self hv] at h; cases h
      · rw [List.getElem?_eq_none (by rw [List.length_set]; omega)] at h; cases h
    · rw [List.getElem?_set_ne e] at h
      obtain ⟨w, e1, r⟩ := ih.slot i d h
      exact ⟨w, by show ((L2.wipe σ vs).set v none)[i]? = _; rw [List.getElem?_set_ne e]; exact e1, r⟩
/-- the store while a thing at p is being made -/
theorem kp_prot {H : Hp} {p : Addr} {M : Addr → Prop} {o : HO} (h : H p = none) : Kp M H (fun a => M a ∨ a = p) (upd H p o) := fun q n u r => by
  have ne : q ≠ p := fun e => by
    subst e
    rcases r with r | ⟨_, r⟩ <;> rw [h] at r <;> cases r
  have n' : ¬ (M q ∨ q = p) := fun z => z.elim n ne
  rw [Rd, upd_ne ne]
  exact ⟨fun _ _ => ⟨n', r⟩, fun h _ _ => ⟨n', h⟩⟩
theorem dom_prot {L : Sto} {p : Addr} : (L.prot p).dom = fun a => L.dom a ∨ a = p := by
  funext a
  show (L a ≠ none ∨ (L.P a ∨ a = p)) = ((L a ≠ none ∨ L.P a) ∨ a = p)
  exact propext or_assoc.symm
theorem StoOk.protect {H : Hp} {p : Addr} {o : HO} (s : StoOk L H) (np : H p = none) : StoOk (L.prot p) (upd H p o) := by
  refine ⟨fun q d h => ?_, fun q h => ?_⟩
  · have ne : q ≠ p := fun e => by subst e; have := sto_new np s; rw [show L q = some d from h] at this; cases this
    rw [dom_prot]
    exact (s.cell q d h).mono (kp_prot np) (upd_ne ne)
  · rcases h with h | h
    · have ne : q ≠ p := fun e => by subst e; exact (s.prot q h).1 np
      exact ⟨by rw [upd_ne ne]; exact (s.prot q h).1, (s.prot q h).2⟩
    · subst h
      exact ⟨by rw [upd_same]; exact (fun z => nomatch z), show L q = none from sto_new np s⟩
theorem Abs.protect {σ : L2.St} {H : Hp} {p : Addr} {o : HO} (A : Abs G L σ H) (np : H p = none) : Abs G (L.prot p) σ (upd H p o) :=
  ⟨A.len, fun i d h => let ⟨v, e, r⟩ := A.slot i d h; ⟨v, e, by rw [dom_prot]; exact r.mono (kp_prot np)⟩, A.sto.protect np⟩
/-- the made thing written anew -/
theorem kp_write {H : Hp} {p : Addr} {M : Addr → Prop} {o : HO} (h : M p) : Kp M H M (upd H p o) := fun q n u r => by
  have ne : q ≠ p := fun e => by subst e; exact n h
  rw [Rd, upd_ne ne]
  exact ⟨fun _ _ => ⟨n, r⟩, fun h _ _ => ⟨n, h⟩⟩
theorem Abs.write {σ : L2.St} {H : Hp} {p : Addr} {o : HO} (A : Abs G (L.prot p) σ H) (n : L p = none) : Abs G (L.prot p) σ (upd H p o) :=
  A.at (show (L.prot p) p = none from n) (kp_write (.inr (.inr rfl)))
/-- .. and made -/
theorem kp_unprot {H : Hp} {p : Addr} : Kp (L.prot p).dom H L.dom H := fun q n u r => by
  have n' : ¬ L.dom q := fun z => n (z.elim .inl fun z => .inr (.inl z))
  exact ⟨fun _ _ => ⟨n', r⟩, fun h _ _ => ⟨n', h⟩⟩
theorem Abs.unprot {σ : L2.St} {H : Hp} {p : Addr} (A : Abs G (L.prot p) σ H) : Abs G L σ H :=
  ⟨A.len, fun i d h => let ⟨v, e, r⟩ := A.slot i d h; ⟨v, e, r.mono kp_unprot⟩, ⟨fun q d h => (A.sto.cell q d h).mono kp_unprot rfl, fun q h => A.sto.prot q (.inl h)⟩⟩
theorem kp_ext {M M1 : Addr → Prop} {H H1 : Hp} {p : Addr} (k : Kp M H M1 H1) (np : H p = none) : Kp M H (fun a => M1 a ∨ a = p) H1 := fun q n u r => by
  have ne : q ≠ p := fun e => by
    subst e
    rcases r with r | ⟨_, r⟩ <;> rw [np] at r <;> cases r
  obtain ⟨h1, h2⟩ := k q n u r
  exact ⟨fun vs e => ⟨fun z => z.elim (h1 vs e).1 ne, (h1 vs e).2⟩, fun h a b => ⟨fun z => z.elim (h2 h a b).1 ne, (h2 h a b).2⟩⟩
/-- the turns of a list comprehension: acc is what is made -/
def LcW (m : Bool) (S : Sit B N sc k) (tg elt : Expr) (ifs : List Expr) (G0 : Gam) (vs : List Nat) (fin : List D → Sto → Prop) : List D → List D → Sto → Prop
  | [], acc, L => fin acc L
  | d :: ds, acc, L => ∃ G' is, Wg S tg d G0 G' is ∧ (∀ j ∈ is, j ∈ vs) ∧ ∀ p, Wts S G' (L.prot p) ifs fun b L1 =>
      if b = true then We S G' L1 elt fun r L2 => ∃ L3, L2 = L3.prot p ∧ L3.P = L.P ∧ (m = false → L3 = L) ∧ LcW m S tg elt ifs G0 vs fin ds (acc ++ [r]) L3
      else ∃ L3, L1 = L3.prot p ∧ L3.P = L.P ∧ (m = false → L3 = L) ∧ LcW m S tg elt ifs G0 vs fin ds acc L3
theorem reps_in {M H} {d : D} {ds : List D} {vs : List V} (r : Reps M H ds vs) (v : V) (q : Rep M H d v) : Reps M H (ds ++ [d]) (vs ++ [v]) := r.append (.cons q .nil)
theorem lcW_run {m : Bool} {ifs : List Expr} {vs : List Nat} {fin : List D → Sto → Prop} {J : It} {ds : List D} {σ : L2.St} {H : Hp} {Q : VK} (A : Abs G L σ H) (y : Yld m J L H ds) (hz : ds.length ≤ sizeLine) (h : LcW m S tg elt ifs (wipeG G vs) vs fin ds [] L)
    (c : Cont L H (fun d L' => ∃ rs, d = .lst rs ∧ fin rs L') Q) :
    ∀ D, H D = none → ∃ W : Nat → Nat → Hp → Prop, (∃ m, W 0 m (upd H D (.lst []))) ∧ ∀ i m H, W i m H →
      (J.stop i H ∧ Q (.ref D) H) ∨ (J.go i H ∧ ∃ Nx : Hp → Prop, (∀ H', Nx H' → ∃ m', m' < m ∧ W (i + 1) m' H') ∧ ∀ x H', J.yld i H x H' → MG S tg x (wipe σ vs) H' fun σ2 H2 => wipe σ2 vs = wipe σ vs ∧ MTs S ifs σ2 H2 fun b H3 =>
        if b = true then ME S elt σ2 H3 fun y H4 => ∃ acc, H4 D = some (.lst acc) ∧ acc.length < sizeLine ∧ Nx (upd H4 D (.lst (acc ++ [y]))) else Nx H3) := by
  intro p np
  have nL : L p = none := sto_new np A.sto
  -- the invariant
  refine ⟨fun i mm H' => mm = ds.length - i ∧ i ≤ ds.length ∧ ∃ L' acc vacc, LcW m S tg elt ifs (wipeG G vs) vs fin (ds.drop i) acc L' ∧ acc.length ≤ i ∧ (m = false → L' = L) ∧ Keep L H L' H' ∧ L' p = none ∧ Abs G (L'.prot p) σ H' ∧ H' p = some (.lst vacc) ∧ Reps (L'.prot p).dom H' acc vacc,
    ⟨ds.length, by simp, Nat.zero_le _, L, [], [], h, Nat.zero_le _, fun _ => rfl, keep_same (same_upd np), nL, A.protect np, upd_same, .nil⟩, ?_⟩
  rintro i mm H1 ⟨rfl, hi, L1, acc, vacc, w, hacc, hm, k1, n1, A1, hp1, r1⟩
  have st : Stl m L H (L1.prot p) H1 := ⟨A1.sto, by rw [dom_prot]; exact kp_ext k1.kp np, fun q o n => k1.at_ q o (nn fun z => n (.inl z)), fun z => by show L1.c = L.c; rw [hm z]⟩
  obtain ⟨yy, ys⟩ := y (L1.prot p) H1 st
  by_cases hlt : i < ds.length
  · obtain ⟨go, yl⟩ := yy i ds[i] (List.getElem?_eq_getElem hlt)
    rw [List.drop_eq_getElem_cons hlt] at w
    obtain ⟨G2, is, g, his, w⟩ := w
    have w := w p
    refine .inr ⟨go, fun H' => i + 1 ≤ ds.length ∧ ∃ L' acc vacc, LcW m S tg elt ifs (wipeG G vs) vs fin (ds.drop (i + 1)) acc L' ∧ acc.length ≤ i + 1 ∧ (m = false → L' = L) ∧ Keep L H L' H' ∧ L' p = none ∧ Abs G (L'.prot p) σ H' ∧ H' p = some (.lst vacc) ∧ Reps (L'.prot p).dom H' acc vacc,
      fun H' ⟨q1, q2⟩ => ⟨ds.length - (i + 1), by omega, rfl, q1, q2⟩, fun x H' yx => ?_⟩
    obtain ⟨sm, rx⟩ := yl x H' yx
    have s' := A1.sto.same sm
    have ks := keep_same (L := L1.prot p) sm
    -- what holds behind a part of the turn
    have fin : ∀ {L3 : Sto} {H4 : Hp}, Keep (L1.prot p) H' (L3.prot p) H4 → StoOk (L3.prot p) H4 → L3.P = L1.P → Keep L H L3 H4 ∧ L3 p = none ∧ Abs G (L3.prot p) σ H4 ∧ H4 p = some (.lst vacc) ∧ Reps (L3.prot p).dom H4 acc vacc := fun {L3 H4} kk s4 eP => by
      have kk' := ks.trans kk
      obtain ⟨z1, z2⟩ := kk'.at_ p _ n1 hp1
      exact ⟨⟨eP.trans k1.P, fun q o hq ho => let ⟨y1, y2⟩ := k1.at_ q o hq ho; kk'.at_ q o y1 y2⟩, z1, A1.mono kk' s4, z2, r1.mono kk'.kp⟩
    refine g (L1.prot p) (L2.wipe σ vs) H' x ((A1.mono ks s').wipe vs) rx _ fun σ2 A2 ⟨hl2, hσ2⟩ => ⟨?_, w σ2 H' A2 _ fun b L2 H3 wb k3 s3 => ?_⟩
    · rw [wipe_get hl2 (fun j hj => hσ2 j fun z => hj (his j z))]
      exact wipe_get (wipe_length σ vs) fun j hj => wipe_out hj
    · cases b with
      | true =>
        rw [if_pos rfl] at wb ⊢
        refine wb σ2 H3 (A2.mono k3 s3) _ fun r L3' v H4 ⟨L3, e, eP, em, w3⟩ k4 s4 r4 => ?_
        subst e
        obtain ⟨z1, z2, z3, z4, z5⟩ := fin (k3.trans k4) s4 eP
        have kw := kp_write (H := H4) (M := (L3.prot p).dom) (o := .lst (vacc ++ [v])) (.inr (.inr rfl))
        refine ⟨vacc, z4, by rw [z5.length]; omega, hlt, L3, acc ++ [r], vacc ++ [v], w3, by rw [List.length_append, List.length_singleton]; omega, fun q => (em q).trans (hm q), ⟨z1.P, fun q o hq ho => ?_⟩, z2, z3.write z2, upd_same, (reps_in z5 v r4).mono kw⟩
        obtain ⟨y1, y2⟩ := z1.at_ q o hq ho
        exact ⟨y1, by rw [upd_ne (ne_of_none ho np)]; exact y2⟩
      | false =>
        rw [if_neg Bool.false_ne_true] at wb ⊢
        obtain ⟨L3, e, eP, em, w3⟩ := wb
        subst e
        obtain ⟨z1, z2, z3, z4, z5⟩ := fin k3 s3 eP
        exact ⟨hlt, L3, acc, vacc, w3, by omega, fun q => (em q).trans (hm q), z1, z2, z3, z4, z5⟩
  · have e : i = ds.length := by omega
    subst e
    rw [List.drop_length] at w
    refine .inl ⟨ys, c (.lst acc) L1 _ H1 ⟨acc, rfl, w⟩ k1 A1.unprot.sto (.lst (fun z => ?_) hp1 (r1.mono kp_unprot))⟩
    rcases z with z | z
    · exact z n1
    · rw [k1.P] at z
      exact (A.sto.prot p z).1 np
/-- the reading of it, and what it leads to -/
theorem tlc_at {m : Bool} {ifs : List Expr} {scope : Scope} {vs : List Nat} {fin : List D → Sto → Prop} {σ : L2.St} {H : Hp} {Q : VK}
    (h : WiAt m S G L tg it σ H fun ds L' => ds.length ≤ sizeLine ∧ LcW m (S.blk scope) tg elt ifs (wipeG G vs) vs fin ds [] L') (c : Cont L H (fun d L' => ∃ rs, d = .lst rs ∧ fin rs L') Q) :
    tLc (MI S tg it) (MG (S.blk scope) tg) (MTs (S.blk scope) ifs) (ME (S.blk scope) elt) vs σ H Q := h _ fun J ds L' H' ⟨hz, w⟩ k1 A1 y D hD => lcW_run A1 y hz w (c.trans k1) D hD
section
variable {X : Cx}
theorem blk_all (hX : S.X X) {scope : Scope} {ifs : List Expr} : (∀ (s : Shared) (H : Hp) (C : Addr) (cl : List (Str × Addr)) (fp : List Addr), PG (X.blk s H scope (compEnvC scope cl C X.env) fp) tg (MG (S.blk scope) tg)) ∧
    (∀ (s : Shared) (H : Hp) (C : Addr) (cl : List (Str × Addr)) (fp : List Addr), PTs (X.blk s H scope (compEnvC scope cl C X.env) fp) ifs (MTs (S.blk scope) ifs)) ∧
    ∀ (s : Shared) (H : Hp) (C : Addr) (cl : List (Str × Addr)) (fp : List Addr), PE (X.blk s H scope (compEnvC scope cl C X.env) fp) elt (ME (S.blk scope) elt) := by
  have hb : ∀ (s : Shared) (H : Hp) (C : Addr) (cl : List (Str × Addr)) (fp : List Addr), (S.blk scope).X (X.blk s H scope (compEnvC scope cl C X.env) fp) := fun s H C cl fp => ⟨X, s, H, C, cl, fp, hX, rfl⟩
  exact ⟨fun s H C cl fp => mg (S.blk scope) (hb s H C cl fp), fun s H C cl fp => mts (S.blk scope) (hb s H C cl fp), fun s H C cl fp => me (hb s H C cl fp)⟩
end
theorem we_lcAt {m : Bool} {ifs : List Expr} {scope : Scope} {own : List (Str × Nat)} {fin : List D → Sto → Prop} {σ : L2.St} {H : Hp} {Q : VK}
    (h : WiAt m S G L tg it σ H fun ds L' => ds.length ≤ sizeLine ∧ LcW m (S.blk scope) tg elt ifs (wipeG G (own.map (·.2))) (own.map (·.2)) fin ds [] L') (c : Cont L H (fun d L' => ∃ rs, d = .lst rs ∧ fin rs L') Q)
    (hN : N.Nodup := by decide +kernel) (ok : BlkOk N sc scope own := by exact blkOk_by (by decide +kernel)) (hs : ∀ env x, foldedSetIterable it env x = pure x := by intro _ _; rfl) : ME S (.ListComp elt [⟨tg, it, ifs, 0⟩] scope pos) σ H Q :=
  ⟨tLc (MI S tg it) (MG (S.blk scope) tg) (MTs (S.blk scope) ifs) (ME (S.blk scope) elt) (own.map (·.2)), fun X hX => by
    have hm := mi hX (tg := tg) (it := it)
    obtain ⟨h1, h2, h3⟩ := blk_all (tg := tg) (elt := elt) hX (scope := scope) (ifs := ifs)
    obtain ⟨y, rfl, _⟩ := S.fam X hX
    exact pe_lc rfl hN hm ok h1 h2 h3 (hs _), tlc_at h c⟩
/-- y = [..], y a local name -/
theorem wo_setLcAt (i : Nat) {m : Bool} {y : Str} {py spos : Pos} {ifs : List Expr} {scope : Scope} {own : List (Str × Nat)} {fin : List D → Sto → Prop} {E : AE} {σ : L2.St} {H : Hp} {D : Ends} (A : Abs G L σ H)
    (h : WiAt m S G L tg it σ H fun ds L' => ds.length ≤ sizeLine ∧ LcW m (S.blk scope) tg elt ifs (wipeG G (own.map (·.2))) (own.map (·.2)) fin ds [] L') (hf : ∀ rs L', fin rs L' → E.nx (G.set i (some (.lst rs))) L') (c : ContS S.W L H E D)
    (hN : N.Nodup := by decide +kernel) (ok : BlkOk N sc scope own := by exact blkOk_by (by decide +kernel)) (hs : ∀ env x, foldedSetIterable it env x = pure x := by intro _ _; rfl)
    (hi : N[i]? = some y := by rfl) (hy : sc.names.lookup y = some .local := by rfl) (hsw : ∀ env : Env, swapsWith (.ListComp elt [⟨tg, it, ifs, 0⟩] scope pos) (some (.Name y py)) spos.line { env with scope := sc } = pure true := by intro _; rfl) : MS S (.Assign [.Name y py] (.ListComp elt [⟨tg, it, ifs, 0⟩] scope pos) spos) D σ H :=
  ⟨tAsg (tLc (MI S tg it) (MG (S.blk scope) tg) (MTs (S.blk scope) ifs) (ME (S.blk scope) elt) (own.map (·.2))) (gName i), fun X hX => by
    have hm := mi hX (tg := tg) (it := it)
    obtain ⟨h1, h2, h3⟩ := blk_all (tg := tg) (elt := elt) hX (scope := scope) (ifs := ifs)
    obtain ⟨z, rfl, _⟩ := S.fam X hX
    exact ps_setLc (i := i) rfl hN hi hy (hsw z.env) hm ok h1 h2 h3 (hs _), tlc_at h fun d L' v H' ⟨rs, e, w⟩ k s r => by subst e; exact c.nx _ _ _ _ (hf rs L' w) k ((A.mono k s).set r i)⟩
/-- a pure list comprehension: f tells the items that are made -/
theorem LcW.pure {ifs : List Expr} {vs : List Nat} {G0 : Gam} {f : D → Option D} {ds : List D} (h : ∀ d ∈ ds, ∃ G' is, Wg S tg d G0 G' is ∧ (∀ j ∈ is, j ∈ vs) ∧ ∀ p, Wts S G' (L.prot p) ifs fun b L1 => L1 = L.prot p ∧ ((b = false ∧ f d = none) ∨ (b = true ∧ ∃ r, Ev S G' (L.prot p) elt r ∧ f d = some r))) :
    ∀ acc, LcW false S tg elt ifs G0 vs (fun rs L' => rs = acc ++ ds.filterMap f ∧ L' = L) ds acc L := by
  induction ds with
  | nil => intro acc; exact ⟨by simp, rfl⟩
  | cons d ds ih =>
    intro acc
    obtain ⟨G', is, g, hi, w⟩ := h d (List.mem_cons_self ..)
    refine ⟨G', is, g, hi, fun p => ?_⟩
    intro σ H A Q c
    refine w p σ H A Q fun b L1 H1 ⟨e, q⟩ k1 s1 => c b L1 H1 ?_ k1 s1
    subst e
    have ih' := ih fun d' hd' => h d' (List.mem_cons_of_mem _ hd')
    rcases q with ⟨rfl, q⟩ | ⟨rfl, r, he, q⟩
    · rw [if_neg Bool.false_ne_true]
      refine ⟨L, rfl, rfl, fun _ => rfl, ?_⟩
      rw [List.filterMap_cons_none q]
      exact ih' acc
    · rw [if_pos rfl]
      refine he.we ⟨L, rfl, rfl, fun _ => rfl, ?_⟩
      rw [List.filterMap_cons_some q]
      have := ih' (acc ++ [r])
      rwa [List.append_assoc] at this
theorem WiAt.mono {m : Bool} {σ : L2.St} {H : Hp} {p q : List D → Sto → Prop} (h : WiAt m S G L tg it σ H p) (i : ∀ ds L', p ds L' → q ds L') : WiAt m S G L tg it σ H q := fun R c => h R fun J ds L' H' w => c J ds L' H' (i _ _ w)
/-- what a turn's condition is -/
theorem wts_n {G' : Gam} {f : Option D} {r : D} (hf : f = some r) (he : ∀ p, Ev S G' (L.prot p) elt r) : ∀ p, Wts S G' (L.prot p) [] fun b L1 => L1 = L.prot p ∧ ((b = false ∧ f = none) ∨ (b = true ∧ ∃ r, Ev S G' (L.prot p) elt r ∧ f = some r)) := fun p =>
  wts_nil ⟨rfl, .inr ⟨rfl, r, he p, hf⟩⟩
theorem wts_1 {G' : Gam} {f : Option D} {b : Bool} (hc : ∀ p, Et S G' (L.prot p) c b) (hF : b = false → f = none) (hT : b = true → ∃ r, (∀ p, Ev S G' (L.prot p) elt r) ∧ f = some r) : ∀ p, Wts S G' (L.prot p) [c] fun b L1 => L1 = L.prot p ∧ ((b = false ∧ f = none) ∨ (b = true ∧ ∃ r, Ev S G' (L.prot p) elt r ∧ f = some r)) := fun p =>
  wts_one ((hc p).wt ⟨rfl, by
    cases b with
    | false => exact .inl ⟨rfl, hF rfl⟩
    | true => obtain ⟨r, h1, h2⟩ := hT rfl; exact .inr ⟨rfl, r, h1 p, h2⟩⟩)
/-- [elt for tg in it if ..] -/
theorem ev_lc {ifs : List Expr} {scope : Scope} (own : List (Str × Nat)) (f : D → Option D) {ds rs : List D} (hi : Ei false S G L tg it ds) (hz : ds.length ≤ sizeLine) (hr : ds.filterMap f = rs)
    (h : ∀ d ∈ ds, ∃ G' is, Wg (S.blk scope) tg d (wipeG G (own.map (·.2))) G' is ∧ (∀ j ∈ is, j ∈ own.map (·.2)) ∧ ∀ p, Wts (S.blk scope) G' (L.prot p) ifs fun b L1 => L1 = L.prot p ∧ ((b = false ∧ f d = none) ∨ (b = true ∧ ∃ r, Ev (S.blk scope) G' (L.prot p) elt r ∧ f d = some r)))
    (hN : N.Nodup := by decide +kernel) (ok : BlkOk N sc scope own := by exact blkOk_by (by decide +kernel)) (hs : ∀ env x, foldedSetIterable it env x = pure x := by intro _ _; rfl) : Ev S G L (.ListComp elt [⟨tg, it, ifs, 0⟩] scope pos) (.lst rs) := fun σ H A Q c =>
  we_lcAt (m := false) (fin := fun rs' L' => rs' = rs ∧ L' = L) (WiAt.mono (hi σ H A) fun ds' L' ⟨e1, e2⟩ => ⟨e1 ▸ hz, by
    rw [e1, e2]
    have := LcW.pure h []
    rw [List.nil_append, hr] at this
    exact this⟩) (fun d L' v H' ⟨rs', e1, e2, e3⟩ => by subst e1; subst e2; subst e3; exact c _ _ v H' ⟨rfl, rfl⟩) hN ok hs
/-- y = [elt for tg in it if ..], pure -/
theorem ws_setLc (i : Nat) {y : Str} {py spos : Pos} {rest : List Stmt} {E : AE} {ifs : List Expr} {scope : Scope} (own : List (Str × Nat)) (f : D → Option D) {ds rs : List D} (hi : Ei false S G L tg it ds) (hz : ds.length ≤ sizeLine) (hr : ds.filterMap f = rs)
    (h : ∀ d ∈ ds, ∃ G' is, Wg (S.blk scope) tg d (wipeG G (own.map (·.2))) G' is ∧ (∀ j ∈ is, j ∈ own.map (·.2)) ∧ ∀ p, Wts (S.blk scope) G' (L.prot p) ifs fun b L1 => L1 = L.prot p ∧ ((b = false ∧ f d = none) ∨ (b = true ∧ ∃ r, Ev (S.blk scope) G' (L.prot p) elt r ∧ f d = some r)))
    (hw : Ws S (G.set i (some (.lst rs))) L rest E)
    (hN : N.Nodup := by decide +kernel) (ok : BlkOk N sc scope own := by exact blkOk_by (by decide +kernel)) (hs : ∀ env x, foldedSetIterable it env x = pure x := by intro _ _; rfl)
    (hiy : N[i]? = some y := by rfl) (hy : sc.names.lookup y = some .local := by rfl) (hsw : ∀ env : Env, swapsWith (.ListComp elt [⟨tg, it, ifs, 0⟩] scope pos) (some (.Name y py)) spos.line { env with scope := sc } = pure true := by intro _; rfl) : Ws S G L (.Assign [.Name y py] (.ListComp elt [⟨tg, it, ifs, 0⟩] scope pos) spos :: rest) E :=
  ws_cons fun σ H A D c => wo_setLcAt i (m := false) (fin := fun rs' L' => rs' = rs ∧ L' = L) A (WiAt.mono (hi σ H A) fun ds' L' ⟨e1, e2⟩ => ⟨e1 ▸ hz, by
    rw [e1, e2]
    have := LcW.pure h []
    rw [List.nil_append, hr] at this
    exact this⟩) (fun rs' L' ⟨e1, e2⟩ => by subst e1; subst e2; exact hw) c hN ok hs hiy hy hsw
/-- with effects -/
theorem ws_setLcM (i : Nat) {y : Str} {py spos : Pos} {rest : List Stmt} {E : AE} {ifs : List Expr} {scope : Scope} (own : List (Str × Nat)) {fin : List D → Sto → Prop} 
    (h : Wi true S G L tg it fun ds L' => ds.length ≤ sizeLine ∧ LcW true (S.blk scope) tg elt ifs (wipeG G (own.map (·.2))) (own.map (·.2)) fin ds [] L')
    (hw : ∀ rs L', fin rs L' → Ws S (G.set i (some (.lst rs))) L' rest E)
    (hN : N.Nodup := by decide +kernel) (ok : BlkOk N sc scope own := by exact blkOk_by (by decide +kernel)) (hs : ∀ env x, foldedSetIterable it env x = pure x := by intro _ _; rfl)
    (hiy : N[i]? = some y := by rfl) (hy : sc.names.lookup y = some .local := by rfl) (hsw : ∀ env : Env, swapsWith (.ListComp elt [⟨tg, it, ifs, 0⟩] scope pos) (some (.Name y py)) spos.line { env with scope := sc } = pure true := by intro _; rfl) : Ws S G L (.Assign [.Name y py] (.ListComp elt [⟨tg, it, ifs, 0⟩] scope pos) spos :: rest) E :=
  ws_cons fun σ H A D c => wo_setLcAt i (m := true) A (h σ H A) hw c hN ok hs hiy hy hsw
end
end FS
/-! text W6 -/
/-! W6: comprehensions over dicts, dict comprehensions, two clauses. -/
namespace FS
open PySem PySem.Spec PyProof.Rows L2
section
variable {B : Bg} {N : List Str} {sc : Scope} {k : Nat}
variable {S : Sit B N sc k} {G : Gam} {L : Sto} {e a b c o tg it elt kx vx tg1 it1 : Expr} {pos : Pos} {post : D → Sto → Prop}
/-- a walk of dicts that must be locked first: the locks, then the turns -/
def Lkd (ps : List (Addr × List (Key × V))) (H : Hp) : Prop := ∀ q ∈ ps, ∃ od, H q.1 = some (.frz od (.dK q.2))
def DPre (m : Bool) (S : Sit B N sc k) (G : Gam) (L : Sto) (tg it : Expr) (ds : List D) : Prop := ∀ σ H, Abs G L σ H → ∃ p vs, Rd H p (.dK vs) ∧ ¬ L.dom p ∧ ∀ H1 od, H1 p = some (.frz od (.dK vs)) → Abs G L σ H1 → Kp L.dom H L.dom H1 → WiAt m S G L tg it σ H1 fun ds' L' => ds' = ds ∧ L' = L
section
variable {kvs : List (Key × D)} {m : Bool}
theorem dp_keys (i : Nat) {x : Str} {p1 : Pos} (hG : G[i]? = some (some (.dct kvs)) := by rfl) (hN : N[i]? = some x := by rfl) (hx : Vis sc x := by first | exact Or.inl rfl | exact Or.inr (Or.inl rfl) | exact Or.inr (Or.inr rfl)) (hd : (x == ("__debug__" : Str)) = false := by decide) (hcd : (x == ("__classdict__" : Str)) = false := by decide) : DPre m S G L tg (.Name x p1) (keysD kvs) := fun σ H A => by
  obtain ⟨p, vs, hv, hp, n, r⟩ := slot_dct A hG
  exact ⟨p, vs, hp, n, fun H1 od h1 A1 kp => wiAt_keys (name_at hv hN hx hd hcd) A1 h1 n (r.mono kp)⟩
theorem dp_vals (i : Nat) {x : Str} {p1 apos cpos : Pos} (hG : G[i]? = some (some (.dct kvs)) := by rfl) (hN : N[i]? = some x := by rfl) (hx : Vis sc x := by first | exact Or.inl rfl | exact Or.inr (Or.inl rfl) | exact Or.inr (Or.inr rfl)) (hd : (x == ("__debug__" : Str)) = false := by decide) (hcd : (x == ("__classdict__" : Str)) = false := by decide)
    (hbase : ∀ env, attributeBase (.Name x p1) "values" env (eval (.Name x p1) env) = eval (.Name x p1) env := by intro _; rfl) (hline : (apos.endLine == cpos.line) = true := by rfl) : DPre m S G L tg (.Call (.Attribute (.Name x p1) "values" apos) [] [] cpos) (valsD kvs) := fun σ H A => by
  obtain ⟨p, vs, hv, hp, n, r⟩ := slot_dct A hG
  exact ⟨p, vs, hp, n, fun H1 od h1 A1 kp => wiAt_vals (name_at hv hN hx hd hcd) A1 h1 n (r.mono kp) hbase hline⟩
theorem dp_items (i : Nat) {x : Str} {p1 apos cpos tpos : Pos} {elts : List Expr} {kk : Nat} (hG : G[i]? = some (some (.dct kvs)) := by rfl) (hN : N[i]? = some x := by rfl) (hx : Vis sc x := by first | exact Or.inl rfl | exact Or.inr (Or.inl rfl) | exact Or.inr (Or.inr rfl)) (hd : (x == ("__debug__" : Str)) = false := by decide) (hcd : (x == ("__classdict__" : Str)) = false := by decide)
    (hbase : ∀ env, attributeBase (.Name x p1) "items" env (eval (.Name x p1) env) = eval (.Name x p1) env := by intro _; rfl) (hline : (apos.endLine == cpos.line) = true := by rfl) : DPre m S G L (.Tuple elts kk tpos) (.Call (.Attribute (.Name x p1) "items" apos) [] [] cpos) (itemsD kvs) := fun σ H A => by
  obtain ⟨p, vs, hv, hp, n, r⟩ := slot_dct A hG
  exact ⟨p, vs, hp, n, fun H1 od h1 A1 kp => wiAt_items (name_at hv hN hx hd hcd) A1 h1 n (r.mono kp) hbase hline⟩
end
theorem wo_forP {body : List Stmt} {ds : List D} {E : AE} (hp : DPre true S G L tg it ds) (h : ForW S tg body E ds G L) (hs : ∀ env y, foldedSetIterable it env y = pure y := by intro _ _; rfl) (hxc : ∀ C fs L', ¬ E.xc C fs L' := by exact fun _ _ _ z => z) : Wo S G L (.For tg it body [] pos) E := fun σ H A D c => by
  obtain ⟨p, vs, h1, n, w⟩ := hp σ H A
  exact lockS A h1 n c (fun H1 od h1 A1 kp D1 c1 => wo_forAt (WiAt.mono (w H1 od h1 A1 kp) fun ds' L' ⟨e1, e2⟩ => by rw [e1, e2]; exact h) c1 hs) hxc
theorem ws_forP {body rest : List Stmt} {ds : List D} {E : AE} (hp : DPre true S G L tg it ds) (h : ForW S tg body { E with nx := fun G' L' => Ws S G' L' rest E } ds G L) (hs : ∀ env y, foldedSetIterable it env y = pure y := by intro _ _; rfl) (hxc : ∀ C fs L', ¬ E.xc C fs L' := by exact fun _ _ _ z => z) : Ws S G L (.For tg it body [] pos :: rest) E := ws_cons (wo_forP hp h hs hxc)
theorem ev_lcP {ifs : List Expr} {scope : Scope} (own : List (Str × Nat)) (f : D → Option D) {ds rs : List D} (hi : DPre false S G L tg it ds) (hz : ds.length ≤ sizeLine) (hr : ds.filterMap f = rs)
    (h : ∀ d ∈ ds, ∃ G' is, Wg (S.blk scope) tg d (wipeG G (own.map (·.2))) G' is ∧ (∀ j ∈ is, j ∈ own.map (·.2)) ∧ ∀ p, Wts (S.blk scope) G' (L.prot p) ifs fun b L1 => L1 = L.prot p ∧ ((b = false ∧ f d = none) ∨ (b = true ∧ ∃ r, Ev (S.blk scope) G' (L.prot p) elt r ∧ f d = some r)))
    (hN : N.Nodup := by decide +kernel) (ok : BlkOk N sc scope own := by exact blkOk_by (by decide +kernel)) (hs : ∀ env x, foldedSetIterable it env x = pure x := by intro _ _; rfl) : Ev S G L (.ListComp elt [⟨tg, it, ifs, 0⟩] scope pos) (.lst rs) := fun σ H A Q c => by
  obtain ⟨p, vs, h1, n, w⟩ := hi σ H A
  refine lockE A h1 n c fun H1 od h1 A1 kp Q1 c1 => we_lcAt (m := false) (fin := fun rs' L' => rs' = rs ∧ L' = L) (WiAt.mono (w H1 od h1 A1 kp) fun ds' L' ⟨e1, e2⟩ => ⟨e1 ▸ hz, ?_⟩) (fun d L' v H' ⟨rs', e1, e2, e3⟩ => by subst e1; subst e2; subst e3; exact c1 _ _ v H' ⟨rfl, rfl⟩) hN ok hs
  rw [e1, e2]
  have := LcW.pure h []
  rw [List.nil_append, hr] at this
  exact this
/-! ### dict comprehensions, pure -/
def DcW (S : Sit B N sc k) (tg kx vx : Expr) (ifs : List Expr) (G0 : Gam) (vs : List Nat) (L : Sto) (f : D → Option (Key × D)) (d : D) : Prop :=
  ∃ G' is, Wg S tg d G0 G' is ∧ (∀ j ∈ is, j ∈ vs) ∧ ∀ p, Wts S G' (L.prot p) ifs fun b L1 => L1 = L.prot p ∧ ((b = false ∧ f d = none) ∨ (b = true ∧ ∃ dk kk dv, Ev S G' (L.prot p) kx dk ∧ (∀ M H v, Rep M H dk v → v = kV kk) ∧ Ev S G' (L.prot p) vx dv ∧ f d = some (kk, dv)))
def putAll (kvs : List (Key × D)) (ps : List (Key × D)) : List (Key × D) := ps.foldl (fun acc p => putG acc p.1 p.2) kvs
theorem dcW_run {ifs : List Expr} {vs : List Nat} {J : It} {ds : List D} {f : D → Option (Key × D)} {σ : L2.St} {H : Hp} {Q : VK} (A : Abs G L σ H) (y : Yld false J L H ds) (hz : ds.length ≤ sizeLine) (h : ∀ d ∈ ds, DcW S tg kx vx ifs (wipeG G vs) vs L f d)
    (c : Cont L H (fun d L' => d = .dct (putAll [] (ds.filterMap f)) ∧ L' = L) Q) :
    ∀ D, H D = none → ∃ W : Nat → Nat → Hp → Prop, (∃ m, W 0 m (upd H D (.dK []))) ∧ ∀ i m H, W i m H →
      (J.stop i H ∧ Q (.ref D) H) ∨ (J.go i H ∧ ∃ Nx : Hp → Prop, (∀ H', Nx H' → ∃ m', m' < m ∧ W (i + 1) m' H') ∧ ∀ x H', J.yld i H x H' → MG S tg x (wipe σ vs) H' fun σ2 H2 => wipe σ2 vs = wipe σ vs ∧ MTs S ifs σ2 H2 fun b H3 =>
        if b = true then ME S kx σ2 H3 fun y H4 => ME S vx σ2 H4 fun z H5 => ∃ kvs kk, y = kV kk ∧ H5 D = some (.dK kvs) ∧ kvs.length < sizeLine ∧ Nx (upd H5 D (.dK (putK kvs kk z))) else Nx H3) := by
  intro p np
  have nL : L p = none := sto_new np A.sto
  let I := fun (i : Nat) (H' : Hp) => ∃ acc vacc, acc = putAll [] ((ds.take i).filterMap f) ∧ acc.length ≤ i ∧ Keep L H L H' ∧ Abs G (L.prot p) σ H' ∧ H' p = some (.dK vacc) ∧ RepK (L.prot p).dom H' acc vacc
  refine ⟨fun i mm H' => mm = ds.length - i ∧ i ≤ ds.length ∧ I i H', ⟨ds.length, by simp, Nat.zero_le _, [], [], rfl, Nat.zero_le _, keep_same (same_upd np), A.protect np, upd_same, .nil⟩, ?_⟩
  rintro i mm H1 ⟨rfl, hi, acc, vacc, hac, hacc, k1, A1, hp1, r1⟩
  have st : Stl false L H (L.prot p) H1 := ⟨A1.sto, by rw [dom_prot]; exact kp_ext k1.kp np, fun q o n => k1.at_ q o (nn fun z => n (.inl z)), fun z => rfl⟩
  obtain ⟨yy, ys⟩ := y (L.prot p) H1 st
  by_cases hlt : i < ds.length
  · obtain ⟨go, yl⟩ := yy i ds[i] (List.getElem?_eq_getElem hlt)
    obtain ⟨G2, is, g, his, w⟩ := h ds[i] (List.getElem_mem hlt)
    have w := w p
    refine .inr ⟨go, fun H' => i + 1 ≤ ds.length ∧ I (i + 1) H', fun H' ⟨q1, q2⟩ => ⟨ds.length - (i + 1), by omega, rfl, q1, q2⟩, fun x H' yx => ?_⟩
    obtain ⟨sm, rx⟩ := yl x H' yx
    have s' := A1.sto.same sm
    have ks := keep_same (L := L.prot p) sm
    have fin : ∀ {H4 : Hp}, Keep (L.prot p) H' (L.prot p) H4 → StoOk (L.prot p) H4 → Keep L H L H4 ∧ Abs G (L.prot p) σ H4 ∧ H4 p = some (.dK vacc) ∧ RepK (L.prot p).dom H4 acc vacc := fun {H4} kk s4 => by
      have kk' := ks.trans kk
      obtain ⟨z1, z2⟩ := kk'.at_ p _ nL hp1
      exact ⟨⟨rfl, fun q o hq ho => let ⟨y1, y2⟩ := k1.at_ q o hq ho; kk'.at_ q o y1 y2⟩, A1.mono kk' s4, z2, r1.mono kk'.kp⟩
    have tk : (ds.take (i + 1)).filterMap f = (ds.take i).filterMap f ++ (f ds[i]).toList := by
      rw [List.take_succ, List.getElem?_eq_getElem hlt, List.filterMap_append]
      cases e : f ds[i] <;> simp [e]
    refine g (L.prot p) (L2.wipe σ vs) H' x ((A1.mono ks s').wipe vs) rx _ fun σ2 A2 ⟨hl2, hσ2⟩ => ⟨?_, w σ2 H' A2 _ fun b L2 H3 ⟨eL, wb⟩ k3 s3 => ?_⟩
    · rw [wipe_get hl2 (fun j hj => hσ2 j fun z => hj (his j z))]
      exact wipe_get (wipe_length σ vs) fun j hj => wipe_out hj
    · subst eL
      rcases wb with ⟨rfl, hf⟩ | ⟨rfl, dk, kk, dv, e1, ek, e2, hf⟩
      · rw [if_neg Bool.false_ne_true]
        obtain ⟨z1, z2, z3, z4⟩ := fin k3 s3
        exact ⟨hlt, acc, vacc, by rw [tk, hf, hac]; simp, by omega, z1, z2, z3, z4⟩
      · rw [if_pos rfl]
        refine e1.run (A2.mono k3 s3) fun yv H4 k4 A4 ry => e2.run A4 fun zv H5 k5 A5 rz => ?_
        obtain ⟨z1, z2, z3, z4⟩ := fin ((k3.trans k4).trans k5) A5.sto
        have kw := kp_write (H := H5) (M := (L.prot p).dom) (o := .dK (putK vacc kk zv)) (.inr (.inr rfl))
        refine ⟨vacc, kk, ek _ _ _ ry, z3, by rw [z4.length]; omega, hlt, putG acc kk dv, putK vacc kk zv, ?_, ?_, ⟨z1.P, fun q o hq ho => ?_⟩, z2.write nL, upd_same, (z4.put rz).mono kw⟩
        · rw [tk, hf, hac]
          unfold putAll
          rw [List.foldl_append]; rfl
        · have := putG_length (ds := acc) (k := kk) (d := dv); omega
        · obtain ⟨y1, y2⟩ := z1.at_ q o hq ho
          exact ⟨y1, by rw [upd_ne (ne_of_none ho np)]; exact y2⟩
  · have e : i = ds.length := by omega
    subst e
    rw [List.take_length] at hac
    refine .inl ⟨ys, c (.dct acc) L _ H1 ⟨by rw [hac], rfl⟩ k1 A1.unprot.sto (.dct (fun z => ?_) (.inl hp1) (r1.mono kp_unprot))⟩
    rcases z with z | z
    · exact z nL
    · exact (A.sto.prot p z).1 np
theorem we_dcAt {ifs : List Expr} {scope : Scope} {own : List (Str × Nat)} {σ : L2.St} {H : Hp} {Q : VK} {ds : List D} {f : D → Option (Key × D)}
    (h : WiAt false S G L tg it σ H fun ds' L' => ds' = ds ∧ L' = L) (hz : ds.length ≤ sizeLine) (hd : ∀ d ∈ ds, DcW (S.blk scope) tg kx vx ifs (wipeG G (own.map (·.2))) (own.map (·.2)) L f d) (c : Cont L H (fun d L' => d = .dct (putAll [] (ds.filterMap f)) ∧ L' = L) Q)
    (hN : N.Nodup := by decide +kernel) (ok : BlkOk N sc scope own := by exact blkOk_by (by decide +kernel)) (hs : ∀ env x, foldedSetIterable it env x = pure x := by intro _ _; rfl) : ME S (.DictComp kx vx [⟨tg, it, ifs, 0⟩] scope pos) σ H Q :=
  ⟨tDc (MI S tg it) (MG (S.blk scope) tg) (MTs (S.blk scope) ifs) (ME (S.blk scope) kx) (ME (S.blk scope) vx) (own.map (·.2)), fun X hX => by
    have hm := mi hX (tg := tg) (it := it)
    have hb : ∀ (s : Shared) (H : Hp) (C : Addr) (cl : List (Str × Addr)) (fp : List Addr), (S.blk scope).X (X.blk s H scope (compEnvC scope cl C X.env) fp) := fun s H C cl fp => ⟨X, s, H, C, cl, fp, hX, rfl⟩
    have h1 := fun s H C cl fp => mg (S.blk scope) (hb s H C cl fp) (tg := tg)
    have h2 := fun s H C cl fp => mts (S.blk scope) (hb s H C cl fp) (e := ifs)
    have h3 := fun s H C cl fp => me (hb s H C cl fp) (e := kx)
    have h4 := fun s H C cl fp => me (hb s H C cl fp) (e := vx)
    obtain ⟨y, rfl, _⟩ := S.fam X hX
    exact pe_dc rfl hN hm ok h1 h2 h3 h4 (hs _), h _ fun J ds' L' H' ⟨e1, e2⟩ k1 A1 y D hD => by
      subst e1; subst e2
      exact dcW_run A1 y hz hd (c.trans k1) D hD⟩
theorem ev_dc {ifs : List Expr} {scope : Scope} (own : List (Str × Nat)) (f : D → Option (Key × D)) {ds : List D} {rs : List (Key × D)} (hi : Ei false S G L tg it ds) (hz : ds.length ≤ sizeLine) (hr : putAll [] (ds.filterMap f) = rs)
    (h : ∀ d ∈ ds, DcW (S.blk scope) tg kx vx ifs (wipeG G (own.map (·.2))) (own.map (·.2)) L f d)
    (hN : N.Nodup := by decide +kernel) (ok : BlkOk N sc scope own := by exact blkOk_by (by decide +kernel)) (hs : ∀ env x, foldedSetIterable it env x = pure x := by intro _ _; rfl) : Ev S G L (.DictComp kx vx [⟨tg, it, ifs, 0⟩] scope pos) (.dct rs) := fun σ H A Q c =>
  we_dcAt (hi σ H A) hz h (hr ▸ c) hN ok hs
theorem ev_dcP {ifs : List Expr} {scope : Scope} (own : List (Str × Nat)) (f : D → Option (Key × D)) {ds : List D} {rs : List (Key × D)} (hi : DPre false S G L tg it ds) (hz : ds.length ≤ sizeLine) (hr : putAll [] (ds.filterMap f) = rs)
    (h : ∀ d ∈ ds, DcW (S.blk scope) tg kx vx ifs (wipeG G (own.map (·.2))) (own.map (·.2)) L f d)
    (hN : N.Nodup := by decide +kernel) (ok : BlkOk N sc scope own := by exact blkOk_by (by decide +kernel)) (hs : ∀ env x, foldedSetIterable it env x = pure x := by intro _ _; rfl) : Ev S G L (.DictComp kx vx [⟨tg, it, ifs, 0⟩] scope pos) (.dct rs) := fun σ H A Q c => by
  obtain ⟨p, vs, h1, n, w⟩ := hi σ H A
  exact lockE A h1 n c fun H1 od h1 A1 kp Q1 c1 => we_dcAt (w H1 od h1 A1 kp) hz h (hr ▸ c1) hN ok hs
end
end FS
/-! text W7 -/
/-! W7: list comprehensions of two clauses. -/
namespace FS
open PySem PySem.Spec PyProof.Rows L2
section
variable {B : Bg} {N : List Str} {sc : Scope} {k : Nat}
variable {S : Sit B N sc k} {G : Gam} {L : Sto} {e a b c o tg it elt tg1 it1 : Expr} {pos : Pos}
def InW (S : Sit B N sc k) (tg1 elt : Expr) (ifs1 : List Expr) (vs1 : List Nat) (G' : Gam) (L : Sto) (f1 : D → Option D) (e : D) : Prop :=
  ∃ G2 is1, Wg S tg1 e (wipeG G' vs1) G2 is1 ∧ (∀ j ∈ is1, j ∈ vs1) ∧ Wts S G2 L ifs1 fun b L1 => L1 = L ∧ ((b = false ∧ f1 e = none) ∨ (b = true ∧ ∃ r, Ev S G2 L elt r ∧ f1 e = some r))
def Lc2W (S : Sit B N sc k) (H : Hp) (tg tg1 it1 elt : Expr) (ifs ifs1 : List Expr) (G0 : Gam) (vs vs1 : List Nat) (L : Sto) (f : D → List D) (d : D) : Prop :=
  ∃ G' is, Wg S tg d G0 G' is ∧ (∀ j ∈ is, j ∈ vs) ∧ ∀ p, Wts S G' (L.prot p) ifs fun b L1 => L1 = L.prot p ∧ ((b = false ∧ f d = []) ∨ (b = true ∧ ∃ es f1, f d = es.filterMap f1 ∧
    (H p = none → ∀ σ' H', Abs G' (L.prot p) σ' H' → (∀ q o, L q = none → H q = some o → H' q = some o) → WiAt false S G' (L.prot p) tg1 it1 σ' H' fun ds' L' => ds' = es ∧ L' = L.prot p) ∧
    ∀ e ∈ es, InW S tg1 elt ifs1 vs1 G' (L.prot p) f1 e))
theorem lc2_run {ifs ifs1 : List Expr} {vs vs1 : List Nat} {J : It} {ds : List D} {f : D → List D} {σ : L2.St} {H0 H : Hp} {Q : VK} (A : Abs G L σ H) (k0 : Keep L H0 L H) (y : Yld false J L H ds) (hz : (ds.flatMap f).length ≤ sizeLine) (h : ∀ d ∈ ds, Lc2W S H0 tg tg1 it1 elt ifs ifs1 (wipeG G vs) vs vs1 L f d)
    (c : Cont L H (fun d L' => d = .lst (ds.flatMap f) ∧ L' = L) Q) :
    ∀ D, H D = none → ∃ W : Nat → Nat → Hp → Prop, (∃ m, W 0 m (upd H D (.lst []))) ∧ ∀ i m H, W i m H →
      (J.stop i H ∧ Q (.ref D) H) ∨ (J.go i H ∧ ∃ Nx : Hp → Prop, (∀ H', Nx H' → ∃ m', m' < m ∧ W (i + 1) m' H') ∧ ∀ x H', J.yld i H x H' → MG S tg x (wipe σ vs) H' fun σ2 H2 => wipe σ2 vs = wipe σ vs ∧ MTs S ifs σ2 H2 fun b H3 =>
        if b = true then MI S tg1 it1 σ2 H3 fun J1 H4 => ∃ W1 : Nat → Nat → Hp → Prop, (∃ m, W1 0 m H4) ∧ ∀ j k H, W1 j k H →
          (J1.stop j H ∧ Nx H) ∨ (J1.go j H ∧ ∃ Nx1 : Hp → Prop, (∀ H', Nx1 H' → ∃ k', k' < k ∧ W1 (j + 1) k' H') ∧ ∀ x H', J1.yld j H x H' → MG S tg1 x (wipe σ2 vs1) H' fun σ3 H5 => wipe σ3 vs1 = wipe σ2 vs1 ∧ MTs S ifs1 σ3 H5 fun b H6 =>
            if b = true then ME S elt σ3 H6 fun y H7 => ∃ acc, H7 D = some (.lst acc) ∧ acc.length < sizeLine ∧ Nx1 (upd H7 D (.lst (acc ++ [y]))) else Nx1 H6)
        else Nx H3) := by
  intro p np
  have nL : L p = none := sto_new np A.sto
  let I := fun (acc : List D) (H' : Hp) => ∃ vacc, Keep L H L H' ∧ Abs G (L.prot p) σ H' ∧ H' p = some (.lst vacc) ∧ Reps (L.prot p).dom H' acc vacc
  have stp : ∀ {acc : List D} {H1 H2 : Hp}, I acc H1 → Keep (L.prot p) H1 (L.prot p) H2 → StoOk (L.prot p) H2 → I acc H2 := fun {acc H1 H2} ⟨vacc, k1, A1, hp1, r1⟩ kk s => by
    obtain ⟨z1, z2⟩ := kk.at_ p _ nL hp1
    exact ⟨vacc, ⟨rfl, fun q o hq ho => let ⟨y1, y2⟩ := k1.at_ q o hq ho; kk.at_ q o y1 y2⟩, A1.mono kk s, z2, r1.mono kk.kp⟩
  have apnd : ∀ {acc : List D} {H1 : Hp} {r : D} {v : V}, I acc H1 → Rep (L.prot p).dom H1 r v → acc.length < sizeLine → ∃ vacc, H1 p = some (.lst vacc) ∧ vacc.length < sizeLine ∧ I (acc ++ [r]) (upd H1 p (.lst (vacc ++ [v]))) := fun {acc H1 r v} ⟨vacc, k1, A1, hp1, r1⟩ rr hl => by
    have kw := kp_write (H := H1) (M := (L.prot p).dom) (o := .lst (vacc ++ [v])) (.inr (.inr rfl))
    refine ⟨vacc, hp1, by rw [r1.length]; exact hl, vacc ++ [v], ⟨rfl, fun q o hq ho => ?_⟩, A1.write nL, upd_same, (reps_in r1 v rr).mono kw⟩
    obtain ⟨y1, y2⟩ := k1.at_ q o hq ho
    exact ⟨y1, by rw [upd_ne (ne_of_none ho np)]; exact y2⟩
  refine ⟨fun i mm H' => mm = ds.length - i ∧ i ≤ ds.length ∧ I ((ds.take i).flatMap f) H', ⟨ds.length, by simp, Nat.zero_le _, [], keep_same (same_upd np), A.protect np, upd_same, .nil⟩, ?_⟩
  rintro i mm H1 ⟨rfl, hi, i1⟩
  have ⟨vacc, k1, A1, hp1, r1⟩ := i1
  have st : Stl false L H (L.prot p) H1 := ⟨A1.sto, by rw [dom_prot]; exact kp_ext k1.kp np, fun q o n => k1.at_ q o (nn fun z => n (.inl z)), fun z => rfl⟩
  obtain ⟨yy, ys⟩ := y (L.prot p) H1 st
  by_cases hlt : i < ds.length
  · obtain ⟨go, yl⟩ := yy i ds[i] (List.getElem?_eq_getElem hlt)
    obtain ⟨G2, is, g, his, w⟩ := h ds[i] (List.getElem_mem hlt)
    have w := w p
    have tk : (ds.take (i + 1)).flatMap f = (ds.take i).flatMap f ++ f ds[i] := by
      rw [List.take_succ, List.getElem?_eq_getElem hlt, List.flatMap_append]; simp
    have tl : ((ds.take i).flatMap f).length + (f ds[i]).length ≤ sizeLine := by
      have e1 : ds.flatMap f = (ds.take (i + 1)).flatMap f ++ (ds.drop (i + 1)).flatMap f := by rw [← List.flatMap_append, List.take_append_drop]
      rw [e1, tk, List.length_append, List.length_append] at hz
      omega
    refine .inr ⟨go, fun H' => i + 1 ≤ ds.length ∧ I ((ds.take (i + 1)).flatMap f) H', fun H' ⟨q1, q2⟩ => ⟨ds.length - (i + 1), by omega, rfl, q1, q2⟩, fun x H' yx => ?_⟩
    obtain ⟨sm, rx⟩ := yl x H' yx
    have s' := A1.sto.same sm
    have ks := keep_same (L := L.prot p) sm
    refine g (L.prot p) (L2.wipe σ vs) H' x ((A1.mono ks s').wipe vs) rx _ fun σ2 A2 ⟨hl2, hσ2⟩ => ⟨?_, w σ2 H' A2 _ fun b L2 H3 ⟨eL, wb⟩ k3 s3 => ?_⟩
    · rw [wipe_get hl2 (fun j hj => hσ2 j fun z => hj (his j z))]
      exact wipe_get (wipe_length σ vs) fun j hj => wipe_out hj
    · subst eL
      have i3 := stp i1 (ks.trans k3) s3
      rcases wb with ⟨rfl, hf⟩ | ⟨rfl, es, f1, hf, hw, he⟩
      · rw [if_neg Bool.false_ne_true]
        exact ⟨hlt, by rw [tk, hf, List.append_nil]; exact i3⟩
      · rw [if_pos rfl]
        have A3 := A2.mono k3 s3
        have k13 : Keep L H L H3 := let ⟨_, q, _⟩ := i3; q
        have np0 : H0 p = none := by
          cases e : H0 p with
          | none => rfl
          | some o => have := (k0.at_ p o nL e).2; rw [np] at this; cases this
        refine hw np0 σ2 H3 A3 (fun q o hq ho => (k13.at_ q o hq (k0.at_ q o hq ho).2).2) _ fun J1 ds' L' H4 ⟨e1, e2⟩ k4 A4 y1 => ?_
        subst e1; subst e2
        have i4 := stp i3 k4 A4.sto
        refine ⟨fun j mm H' => mm = ds'.length - j ∧ j ≤ ds'.length ∧ (∀ q o, ¬ (L.prot p).dom q → H4 q = some o → H' q = some o) ∧ Abs G2 (L.prot p) σ2 H' ∧ I ((ds.take i).flatMap f ++ (ds'.take j).filterMap f1) H', ⟨ds'.length, by simp, Nat.zero_le _, fun q o _ ho => ho, A4, by simpa using i4⟩, ?_⟩
        rintro j mm2 H5 ⟨rfl, hj, at5, A5, i5⟩
        have kp5 : Kp (L.prot p).dom H4 (L.prot p).dom H5 := fun q n u r => by
          refine ⟨fun vs _ => ⟨n, ?_⟩, fun h _ _ => ⟨n, at5 q u n h⟩⟩
          rcases r with r | ⟨o, r⟩
          · exact .inl (at5 q _ n r)
          · exact .inr ⟨o, at5 q _ n r⟩
        obtain ⟨zz, zs⟩ := y1 (L.prot p) H5 ⟨A5.sto, kp5, fun q o n h => ⟨nn fun z => n (.inl z), at5 q o n h⟩, fun _ => rfl⟩
        by_cases jlt : j < ds'.length
        · obtain ⟨go1, yl1⟩ := zz j ds'[j] (List.getElem?_eq_getElem jlt)
          obtain ⟨G3, is1, g1, his1, w1⟩ := he ds'[j] (List.getElem_mem jlt)
          have tk1 : (ds'.take (j + 1)).filterMap f1 = (ds'.take j).filterMap f1 ++ (f1 ds'[j]).toList := by
            rw [List.take_succ, List.getElem?_eq_getElem jlt, List.filterMap_append]
            cases e : f1 ds'[j] <;> simp [e]
          have tl1 : ((ds'.take j).filterMap f1).length + (f1 ds'[j]).toList.length ≤ (f ds[i]).length := by
            have e1 : ds'.filterMap f1 = (ds'.take (j + 1)).filterMap f1 ++ (ds'.drop (j + 1)).filterMap f1 := by rw [← List.filterMap_append, List.take_append_drop]
            rw [hf, e1, tk1, List.length_append, List.length_append]
            omega
          refine .inr ⟨go1, fun H' => j + 1 ≤ ds'.length ∧ (∀ q o, ¬ (L.prot p).dom q → H4 q = some o → H' q = some o) ∧ Abs G2 (L.prot p) σ2 H' ∧ I ((ds.take i).flatMap f ++ (ds'.take (j + 1)).filterMap f1) H', fun H' ⟨q1, q2⟩ => ⟨ds'.length - (j + 1), by omega, rfl, q1, q2⟩, fun x1 H6 yx1 => ?_⟩
          obtain ⟨sm1, rx1⟩ := yl1 x1 H6 yx1
          have ks1 := keep_same (L := L.prot p) sm1
          have A6 := A5.mono ks1 (A5.sto.same sm1)
          refine g1 (L.prot p) (L2.wipe σ2 vs1) H6 x1 (A6.wipe vs1) rx1 _ fun σ3 A7 ⟨hl3, hσ3⟩ => ⟨?_, w1 σ3 H6 A7 _ fun b1 L3 H7 ⟨eL, wb1⟩ k7 s7 => ?_⟩
          · rw [wipe_get hl3 (fun q hq => hσ3 q fun z => hq (his1 q z))]
            exact wipe_get (wipe_length σ2 vs1) fun q hq => wipe_out hq
          · subst eL
            have k57 := ks1.trans k7
            have i7 := stp i5 k57 s7
            have A27 := A5.mono k57 s7
            have at7 : ∀ q o, ¬ (L.prot p).dom q → H4 q = some o → H7 q = some o := fun q o n h => (k57.at_ q o (nn fun z => n (.inl z)) (at5 q o n h)).2
            rcases wb1 with ⟨rfl, hf1⟩ | ⟨rfl, r, hr, hf1⟩
            · rw [if_neg Bool.false_ne_true]
              exact ⟨jlt, at7, A27, by rw [tk1, hf1]; simpa using i7⟩
            · rw [if_pos rfl]
              refine hr.run (A7.mono k7 s7) fun yv H8 k8 A8 ry => ?_
              have i8 := stp i7 k8 A8.sto
              rw [hf1] at tl1
              obtain ⟨vacc, z1, z2, z3⟩ := apnd i8 ry (by rw [List.length_append]; simp at tl1; omega)
              refine ⟨vacc, z1, z2, jlt, fun q o n h => ?_, (A27.mono k8 A8.sto).write nL, by rw [tk1, hf1, ← List.append_assoc]; exact z3⟩
              have ne : q ≠ p := fun e => n (by rw [e]; exact .inr (.inr rfl))
              rw [upd_ne ne]
              exact (k8.at_ q o (nn fun z => n (.inl z)) (at7 q o n h)).2
        · have e : j = ds'.length := by omega
          subst e
          rw [List.take_length, ← hf, ← tk] at i5
          exact .inl ⟨zs, hlt, i5⟩
  · have e : i = ds.length := by omega
    subst e
    rw [List.take_length] at r1
    refine .inl ⟨ys, c (.lst (ds.flatMap f)) L _ H1 ⟨rfl, rfl⟩ k1 A1.unprot.sto (.lst (fun z => ?_) hp1 (r1.mono kp_unprot))⟩
    rcases z with z | z
    · exact z nL
    · exact (A.sto.prot p z).1 np
theorem we_lc2At {ifs ifs1 : List Expr} {scope : Scope} {own : List (Str × Nat)} {vs1 : List Nat} {σ : L2.St} {H : Hp} {Q : VK} {ds : List D} {f : D → List D}
    (h : WiAt false S G L tg it σ H fun ds' L' => ds' = ds ∧ L' = L) (hz : (ds.flatMap f).length ≤ sizeLine) (hd : ∀ d ∈ ds, Lc2W (S.blk scope) H tg tg1 it1 elt ifs ifs1 (wipeG G (own.map (·.2))) (own.map (·.2)) vs1 L f d) (c : Cont L H (fun d L' => d = .lst (ds.flatMap f) ∧ L' = L) Q)
    (hv : ∀ i ∈ vs1, i ∈ own.map (·.2) := by decide) (hN : N.Nodup := by decide +kernel) (ok : BlkOk N sc scope own := by exact blkOk_by (by decide +kernel)) (hs : ∀ env x, foldedSetIterable it env x = pure x := by intro _ _; rfl) (hs1 : ∀ env x, foldedSetIterable it1 env x = pure x := by intro _ _; rfl) : ME S (.ListComp elt [⟨tg, it, ifs, 0⟩, ⟨tg1, it1, ifs1, 0⟩] scope pos) σ H Q :=
  ⟨tLc2 (MI S tg it) (MG (S.blk scope) tg) (MTs (S.blk scope) ifs) (MI (S.blk scope) tg1 it1) (MG (S.blk scope) tg1) (MTs (S.blk scope) ifs1) (ME (S.blk scope) elt) (own.map (·.2)) vs1, fun X hX => by
    have hm := mi hX (tg := tg) (it := it)
    have hb : ∀ (s : Shared) (H : Hp) (C : Addr) (cl : List (Str × Addr)) (fp : List Addr), (S.blk scope).X (X.blk s H scope (compEnvC scope cl C X.env) fp) := fun s H C cl fp => ⟨X, s, H, C, cl, fp, hX, rfl⟩
    have h1 := fun s H C cl fp => mg (S.blk scope) (hb s H C cl fp) (tg := tg)
    have h2 := fun s H C cl fp => mts (S.blk scope) (hb s H C cl fp) (e := ifs)
    have h3 := fun s H C cl fp => me (hb s H C cl fp) (e := elt)
    have h4 := fun s H C cl fp => mi (hb s H C cl fp) (tg := tg1) (it := it1)
    have h5 := fun s H C cl fp => mg (S.blk scope) (hb s H C cl fp) (tg := tg1)
    have h6 := fun s H C cl fp => mts (S.blk scope) (hb s H C cl fp) (e := ifs1)
    obtain ⟨y, rfl, _⟩ := S.fam X hX
    exact pe_lc2 rfl hN hm ok hv h1 h2 h4 h5 h6 h3 (hs _) hs1, h _ fun J ds' L' H' ⟨e1, e2⟩ k1 A1 y D hD => by
      subst e1; subst e2
      exact lc2_run A1 k1 y hz hd (c.trans k1) D hD⟩
end
end FS
/-! text W8 -/
/-! W8: built-in functions, slices, lists. -/
namespace FS
open PySem PySem.Spec PyProof.Rows L2
/-! ### strictly rising lists of ints -/
def insI (n : Int) : List Int → List Int
  | [] => [n]
  | m :: ms => if n < m then n :: m :: ms else if n = m then m :: ms else m :: insI n ms
def asc : List Int → List Int
  | [] => []
  | n :: ns => insI n (asc ns)
theorem insI_mem {n k : Int} : ∀ {ms : List Int}, k ∈ insI n ms ↔ k = n ∨ k ∈ ms
  | [] => by simp [insI]
  | m :: ms => by
    unfold insI
    split
    · simp
    · split
      · next h => subst h; simp
      · rw [List.mem_cons, insI_mem (ms := ms), List.mem_cons]
        constructor
        · rintro (h | h | h)
          · exact .inr (.inl h)
          · exact .inl h
          · exact .inr (.inr h)
        · rintro (h | h | h)
          · exact .inr (.inl h)
          · exact .inl h
          · exact .inr (.inr h)
theorem insI_sorted {n : Int} : ∀ {ms : List Int}, ms.Pairwise (· < ·) → (insI n ms).Pairwise (· < ·)
  | [], _ => by simp [insI]
  | m :: ms, h => by
    rw [List.pairwise_cons] at h
    unfold insI
    split
    · next hl =>
      refine List.pairwise_cons.mpr ⟨fun k hk => ?_, List.pairwise_cons.mpr h⟩
      rcases List.mem_cons.mp hk with rfl | hk
      · exact hl
      · have := h.1 k hk; omega
    · split
      · exact List.pairwise_cons.mpr h
      · refine List.pairwise_cons.mpr ⟨fun k hk => ?_, insI_sorted h.2⟩
        rcases insI_mem.mp hk with rfl | hk
        · omega
        · exact h.1 k hk
theorem asc_mem {k : Int} : ∀ {ns : List Int}, k ∈ asc ns ↔ k ∈ ns
  | [] => by simp [asc]
  | n :: ns => by show k ∈ insI n (asc ns) ↔ _; rw [insI_mem, asc_mem (ns := ns), List.mem_cons]
theorem asc_sorted : ∀ {ns : List Int}, (asc ns).Pairwise (· < ·)
  | [] => List.Pairwise.nil
  | n :: ns => insI_sorted (asc_sorted (ns := ns))
theorem sorted_unique : ∀ {a b : List Int}, a.Pairwise (· < ·) → b.Pairwise (· < ·) → (∀ k, k ∈ a ↔ k ∈ b) → a = b
  | [], [], _, _, _ => rfl
  | [], y :: b, _, _, h => by have := (h y).mpr (List.mem_cons_self ..); cases this
  | x :: a, [], _, _, h => by have := (h x).mp (List.mem_cons_self ..); cases this
  | x :: a, y :: b, ha, hb, h => by
    rw [List.pairwise_cons] at ha hb
    have e : x = y := by
      rcases List.mem_cons.mp ((h x).mp (List.mem_cons_self ..)) with e | h1
      · exact e
      · rcases List.mem_cons.mp ((h y).mpr (List.mem_cons_self ..)) with e | h2
        · exact e.symm
        · have := hb.1 x h1; have := ha.1 y h2; omega
    subst e
    rw [sorted_unique ha.2 hb.2 fun k => ?_]
    constructor
    · intro hk
      rcases List.mem_cons.mp ((h k).mp (List.mem_cons_of_mem _ hk)) with e | q
      · subst e; have := ha.1 k hk; omega
      · exact q
    · intro hk
      rcases List.mem_cons.mp ((h k).mpr (List.mem_cons_of_mem _ hk)) with e | q
      · subst e; have := hb.1 k hk; omega
      · exact q
theorem asc_eq {ns ms : List Int} (h : ms.Pairwise (· < ·)) (hm : ∀ k, k ∈ ms ↔ k ∈ ns) : ms = asc ns := sorted_unique h asc_sorted fun k => (hm k).trans asc_mem.symm
section
variable {B : Bg} {N : List Str} {sc : Scope} {k : Nat}
variable {S : Sit B N sc k} {G : Gam} {L : Sto} {e a b c o : Expr} {pos p : Pos} {post : D → Sto → Prop} {es : List Expr}
def AC (r : List V → Hp → VK → Prop) (L : Sto) (ds : List D) (post : D → Sto → Prop) : Prop := ∀ H vs, StoOk L H → Reps L.dom H ds vs → ∀ Q, Cont L H post Q → r vs H Q
theorem we_blt {x : Str} {id : String} {r : List V → Hp → VK → Prop} (hc : ∀ X, S.X X → CallR X (.builtin id) r) (hx : x ∈ blNames) (hv : bootBuiltins x = some (.builtin id)) (h : Wa S G L (e :: es) fun ds L1 => AC r L1 ds post) (hg : sc.names.lookup x = some .globalImplicit) (hn : x ≠ "__name__") (hdb : (x == ("__debug__" : Str)) = false)
    (he : ∀ env, starEach (e :: es) env = (false, eval e env) :: starEach es env) (hpl : ∀ env, (backTo pos (starEach es env)).any (·.1) = false) : We S G L (.Call (.Name x p) (e :: es) [] pos) post := fun σ H A Q c =>
  ⟨tCB r (MA S (e :: es)), fun X hX => by
    have h1 := ma hX (e := e :: es); have h2 := hc X hX
    obtain ⟨y, rfl, _⟩ := S.fam X hX
    exact pe_callB h2 hg (B.none hx) hv h1 hn hdb (he _) (hpl _), h σ H A _ fun ds L1 vs H1 w k1 s1 r1 => w H1 vs s1 r1 Q (c.trans k1)⟩
theorem we_typ {x : Str} {id : String} {r : List V → Hp → VK → Prop} (hc : ∀ X, S.X X → CallR X (.type id) r) (hx : x ∈ blNames) (hv : bootBuiltins x = some (.type id)) (h : Wa S G L (e :: es) fun ds L1 => AC r L1 ds post) (hg : sc.names.lookup x = some .globalImplicit) (hn : x ≠ "__name__") (hdb : (x == ("__debug__" : Str)) = false)
    (he : ∀ env, starEach (e :: es) env = (false, eval e env) :: starEach es env) (hpl : ∀ env, (backTo pos (starEach es env)).any (·.1) = false) : We S G L (.Call (.Name x p) (e :: es) [] pos) post := fun σ H A Q c =>
  ⟨tCB r (MA S (e :: es)), fun X hX => by
    have h1 := ma hX (e := e :: es); have h2 := hc X hX
    obtain ⟨y, rfl, _⟩ := S.fam X hX
    exact pe_callTy h2 hg (B.none hx) hv h1 hn hdb (he _) (hpl _), h σ H A _ fun ds L1 vs H1 w k1 s1 r1 => w H1 vs s1 r1 Q (c.trans k1)⟩
abbrev GlS (sc : Scope) (x : Str) : Prop := sc.names.lookup x = some .globalImplicit
abbrev St1 (e : Expr) : Prop := ∀ env, starEach [e] env = (false, eval e env) :: starEach [] env
theorem blt1 {x : Str} {id : String} {r : List V → Hp → VK → Prop} (hc : ∀ X, S.X X → CallR X (.builtin id) r) (hx : x ∈ blNames) (hv : bootBuiltins x = some (.builtin id)) (hn : x ≠ "__name__") (hdb : (x == ("__debug__" : Str)) = false) (h : We S G L e fun d L1 => AC r L1 [d] post) (hg : GlS sc x) (he : St1 e) : We S G L (.Call (.Name x p) [e] [] pos) post :=
  we_blt hc hx hv (wa_cons (h.mono fun d L' q => wa_nil q) he) hg hn hdb he (fun _ => rfl)
theorem typ1 {x : Str} {id : String} {r : List V → Hp → VK → Prop} (hc : ∀ X, S.X X → CallR X (.type id) r) (hx : x ∈ blNames) (hv : bootBuiltins x = some (.type id)) (hn : x ≠ "__name__") (hdb : (x == ("__debug__" : Str)) = false) (h : We S G L e fun d L1 => AC r L1 [d] post) (hg : GlS sc x) (he : St1 e) : We S G L (.Call (.Name x p) [e] [] pos) post :=
  we_typ hc hx hv (wa_cons (h.mono fun d L' q => wa_nil q) he) hg hn hdb he (fun _ => rfl)
theorem byX {r : Cx → Prop} (h : ∀ y, Room k y.A → r (B.put N sc y)) : ∀ X, S.X X → r X := fun X hX => by
  obtain ⟨y, rfl, hr⟩ := S.fam X hX
  exact h y (show Room k y.A from hr)
/-! ### len -/
def qLen (K : PySem.W.Frag) : List V → Hp → VK → Prop := fun xs H Q => ∃ p ys, xs = [.ref p] ∧ (SqL K H p ys ∨ SqT K H p ys) ∧ Q (.int ys.length) H
def qList (K : PySem.W.Frag) : List V → Hp → VK → Prop := fun xs H Q => ∃ p ys, xs = [.ref p] ∧ (SqL K H p ys ∨ SqT K H p ys) ∧ ∀ l, H l = none → Q (.ref l) (upd H l (.lst ys))
def qTup (K : PySem.W.Frag) : List V → Hp → VK → Prop := fun xs H Q => ∃ p ys, xs = [.ref p] ∧ ((SqL K H p ys ∧ ∀ l, H l = none → Q (.ref l) (upd H l (.tup ys))) ∨ (SqT K H p ys ∧ Q (.ref p) H))
theorem ev_len {d : D} {ds : List D} (l : Lk L d (.lst ds)) (h : Ev S G L e d) (hg : GlS sc "len" := by rfl) (he : St1 e := by intro _; rfl) : Ev S G L (.Call (.Name "len" p) [e] [] pos) (.int ds.length) :=
  blt1 (r := qLen B.K) (byX fun y _ => call_len_seq) (by decide) PySem.boot_len (by decide) (by decide) (h.we fun H vs s r Q c => by
    obtain ⟨v, rfl, rv⟩ := reps1 r
    obtain ⟨q, us, rfl, hq, ru⟩ := l.lst s rv
    exact ⟨q, us, rfl, .inl (.inl (.inl hq)), c.at ⟨by rw [ru.length], rfl⟩ s .int⟩) hg he
theorem ev_lenT {ds : List D} (h : Ev S G L e (.tup ds)) (hg : GlS sc "len" := by rfl) (he : St1 e := by intro _; rfl) : Ev S G L (.Call (.Name "len" p) [e] [] pos) (.int ds.length) :=
  blt1 (r := qLen B.K) (byX fun y _ => call_len_seq) (by decide) PySem.boot_len (by decide) (by decide) (h.we fun H vs s r Q c => by
    obtain ⟨v, rfl, rv⟩ := reps1 r
    cases rv with
    | tup n hq ru => exact ⟨_, _, rfl, .inr (.inl (.inl hq)), c.at ⟨by rw [ru.length], rfl⟩ s .int⟩) hg he
theorem call_lenR {X : Cx} : CallR X (.builtin "len") (fun xs H Q => ∃ a kvs, xs = [V.ref a] ∧ Rd H a (.dK kvs) ∧ Q (.int kvs.length) H) := by
  intro pins s σ H xs us Q I r h
  obtain ⟨a, kvs, rfl, ha, q⟩ := h
  obtain ⟨u, rfl, ru⟩ := vals1 r
  cases ru
  exact d_len I ha fun t s' I' => ⟨.int kvs.length, H, I', ⟨t, rfl⟩, q⟩
theorem ev_lenD {d : D} {ds : List (Key × D)} (l : Lk L d (.dct ds)) (h : Ev S G L e d) (hg : GlS sc "len" := by rfl) (he : St1 e := by intro _; rfl) : Ev S G L (.Call (.Name "len" p) [e] [] pos) (.int ds.length) :=
  blt1 (byX fun y _ => call_lenR) (by decide) PySem.boot_len (by decide) (by decide) (h.we fun H vs s r Q c => by
    obtain ⟨v, rfl, rv⟩ := reps1 r
    obtain ⟨q, us, rfl, hq, ru⟩ := l.dct s rv
    exact ⟨q, us, rfl, hq, c.at ⟨by rw [ru.length], rfl⟩ s .int⟩) hg he
/-! ### new lists, tuples, dicts out of old ones -/
theorem Cont.newL {H : Hp} {Q : VK} {ds : List D} {vs : List V} (c : Cont L H post Q) (h : post (.lst ds) L) (s : StoOk L H) (r : Reps L.dom H ds vs) {q : Addr} (nq : H q = none) : Q (.ref q) (upd H q (.lst vs)) := by
  have sm : Same H (upd H q (.lst vs)) := same_upd nq
  exact c.mk1 h s sm (.lst (rep_new nq s) upd_same (r.mono (keep_same sm).kp))
theorem Cont.newT {H : Hp} {Q : VK} {ds : List D} {vs : List V} (c : Cont L H post Q) (h : post (.tup ds) L) (s : StoOk L H) (r : Reps L.dom H ds vs) {q : Addr} (nq : H q = none) : Q (.ref q) (upd H q (.tup vs)) := by
  have sm : Same H (upd H q (.tup vs)) := same_upd nq
  exact c.mk1 h s sm (.tup (rep_new nq s) upd_same (r.mono (keep_same sm).kp))
theorem Cont.newD {H : Hp} {Q : VK} {ds : List (Key × D)} {vs : List (Key × V)} (c : Cont L H post Q) (h : post (.dct ds) L) (s : StoOk L H) (r : RepK L.dom H ds vs) {q : Addr} (nq : H q = none) : Q (.ref q) (upd H q (.dK vs)) := by
  have sm : Same H (upd H q (.dK vs)) := same_upd nq
  exact c.mk1 h s sm (.dct (rep_new nq s) (.inl upd_same) (r.mono (keep_same sm).kp))
theorem Cont.cellL {H : Hp} {Q : VK} {ds : List D} {vs : List V} (c : Cont L H post Q) (s : StoOk L H) (r : Reps L.dom H ds vs) {q : Addr} (nq : H q = none) (h : L q = none → post (.ptr q) (L.set q (.lst ds))) : Q (.ref q) (upd H q (.lst vs)) :=
  c _ _ _ _ (h (sto_new nq s)) (keep_put (.inl nq)) (s.putL (.inl nq) r) .ptr
theorem Cont.cellD {H : Hp} {Q : VK} {ds : List (Key × D)} {vs : List (Key × V)} (c : Cont L H post Q) (s : StoOk L H) (r : RepK L.dom H ds vs) {q : Addr} (nq : H q = none) (h : L q = none → post (.ptr q) (L.set q (.dct ds))) : Q (.ref q) (upd H q (.dK vs)) :=
  c _ _ _ _ (h (sto_new nq s)) (keep_put (.inl nq)) (s.putD (.inl nq) r) .ptr
theorem ev_list {d : D} {ds : List D} (l : Lk L d (.lst ds)) (h : Ev S G L e d) (hg : GlS sc "list" := by rfl) (he : St1 e := by intro _; rfl) : Ev S G L (.Call (.Name "list" p) [e] [] pos) (.lst ds) :=
  typ1 (r := qList B.K) (byX fun y _ => call_list_of) (by decide) boot_list (by decide) (by decide) (h.we fun H vs s r Q c => by
    obtain ⟨v, rfl, rv⟩ := reps1 r
    obtain ⟨q, us, rfl, hq, ru⟩ := l.lst s rv
    exact ⟨q, us, rfl, .inl (.inl (.inl hq)), fun q nq => c.newL ⟨rfl, rfl⟩ s ru nq⟩) hg he
theorem ev_listT {ds : List D} (h : Ev S G L e (.tup ds)) (hg : GlS sc "list" := by rfl) (he : St1 e := by intro _; rfl) : Ev S G L (.Call (.Name "list" p) [e] [] pos) (.lst ds) :=
  typ1 (r := qList B.K) (byX fun y _ => call_list_of) (by decide) boot_list (by decide) (by decide) (h.we fun H vs s r Q c => by
    obtain ⟨v, rfl, rv⟩ := reps1 r
    cases rv with
    | tup n hq ru => exact ⟨_, _, rfl, .inr (.inl (.inl hq)), fun q nq => c.newL ⟨rfl, rfl⟩ s ru nq⟩) hg he
theorem reps_keys {M H} : ∀ {ds : List (Key × D)} {vs : List (Key × V)}, RepK M H ds vs → Reps M H (keysD ds) (vs.map fun kv => kV kv.1)
  | _, _, .nil => .nil
  | _, _, .cons _ r => .cons rep_kD (reps_keys r)
theorem ev_listD {d : D} {ds : List (Key × D)} (l : Lk L d (.dct ds)) (h : Ev S G L e d) (hg : GlS sc "list" := by rfl) (he : St1 e := by intro _; rfl) : Ev S G L (.Call (.Name "list" p) [e] [] pos) (.lst (keysD ds)) :=
  typ1 (byX fun y _ => call_listD rfl) (by decide) boot_list (by decide) (by decide) (h.we fun H vs s r Q c => by
    obtain ⟨v, rfl, rv⟩ := reps1 r
    obtain ⟨q, us, rfl, hq, ru⟩ := l.dct s rv
    exact ⟨q, us, rfl, hq, fun q nq => c.newL ⟨rfl, rfl⟩ s (reps_keys ru) nq⟩) hg he
theorem ev_tuple {d : D} {ds : List D} (l : Lk L d (.lst ds)) (h : Ev S G L e d) (hg : GlS sc "tuple" := by rfl) (he : St1 e := by intro _; rfl) : Ev S G L (.Call (.Name "tuple" p) [e] [] pos) (.tup ds) :=
  typ1 (r := qTup B.K) (byX fun y _ => call_tuple_of) (by decide) boot_tuple (by decide) (by decide) (h.we fun H vs s r Q c => by
    obtain ⟨v, rfl, rv⟩ := reps1 r
    obtain ⟨q, us, rfl, hq, ru⟩ := l.lst s rv
    exact ⟨q, us, rfl, .inl ⟨.inl (.inl hq), fun q nq => c.newT ⟨rfl, rfl⟩ s ru nq⟩⟩) hg he
theorem we_dictC {d : D} {ds : List (Key × D)} (l : Lk L d (.dct ds)) (h : Ev S G L e d) (hp : ∀ q, L q = none → post (.ptr q) (L.set q (.dct ds))) (hg : GlS sc "dict" := by rfl) (he : St1 e := by intro _; rfl) : We S G L (.Call (.Name "dict" p) [e] [] pos) post :=
  typ1 (byX fun y _ => call_dictD) (by decide) boot_dict (by decide) (by decide) (h.we fun H vs s r Q c => by
    obtain ⟨v, rfl, rv⟩ := reps1 r
    obtain ⟨q, us, rfl, hq, ru⟩ := l.dct s rv
    exact ⟨q, us, rfl, hq, fun q nq => c.cellD s ru nq fun n => hp q n⟩) hg he
theorem ev_dict {d : D} {ds : List (Key × D)} (l : Lk L d (.dct ds)) (h : Ev S G L e d) (hg : GlS sc "dict" := by rfl) (he : St1 e := by intro _; rfl) : Ev S G L (.Call (.Name "dict" p) [e] [] pos) (.dct ds) :=
  typ1 (byX fun y _ => call_dictD) (by decide) boot_dict (by decide) (by decide) (h.we fun H vs s r Q c => by
    obtain ⟨v, rfl, rv⟩ := reps1 r
    obtain ⟨q, us, rfl, hq, ru⟩ := l.dct s rv
    exact ⟨q, us, rfl, hq, fun q nq => c.newD ⟨rfl, rfl⟩ s ru nq⟩) hg he
/-- slices of lists -/
def cutG {α : Type} (xs : List α) (lo hi : Option Int) : List α := (xs.drop (HT.sIx xs.length 0 lo)).take (HT.sIx xs.length xs.length hi - HT.sIx xs.length 0 lo)
theorem Reps.cut {M H} {ds : List D} {vs : List V} (r : Reps M H ds vs) (lo hi : Option Int) : Reps M H (cutG ds lo hi) (cutV vs lo hi) := by
  unfold cutG cutV
  rw [r.length]
  exact (r.drop _).take _
def MO (S : Sit B N sc k) (e : Option Expr) : TO := fun σ H Q => ∃ t, (∀ X, S.X X → PO X e t) ∧ t σ H Q
theorem mo {X : Cx} (h : S.X X) {e : Option Expr} : PO X e (MO S e) := ⟨fun pins s σ H Q I ⟨t, a, b⟩ => (a X h).run pins s σ H Q I b⟩
def Eo (S : Sit B N sc k) (G : Gam) (L : Sto) (e : Option Expr) (i : Option Int) : Prop := ∀ σ H, Abs G L σ H → ∀ Q : Option Int → Hp → Prop, (∀ H', Keep L H L H' → Abs G L σ H' → Q i H') → MO S e σ H Q
theorem eo_none : Eo S G L none none := fun σ H A Q c => ⟨tNoPart, fun _ _ => po_none, c H .refl A⟩
theorem eo_some {i : Int} (h : Ev S G L e (.int i)) : Eo S G L (some e) (some i) := fun σ H A Q c => ⟨tPart (ME S e), fun X hX => po_some (me hX), h.run A fun v H' k1 A1 r => by cases r; exact ⟨i, rfl, c H' k1 A1⟩⟩
theorem ev_slice {lo hi : Option Expr} {l u : Option Int} {p2 : Pos} {d : D} {ds : List D} (lk : Lk L d (.lst ds)) (h : Ev S G L e d) (hl : Eo S G L lo l) (hu : Eo S G L hi u) : Ev S G L (.Subscript e (.Slice lo hi none p2) pos) (.lst (cutG ds l u)) := fun σ H A Q c =>
  ⟨tSl (rSlL B.K) (ME S e) (MO S lo) (MO S hi), fun X hX => by
    have h1 := me hX (e := e); have h2 := mo hX (e := lo); have h3 := mo hX (e := hi)
    obtain ⟨y, rfl, _⟩ := S.fam X hX
    exact pe_slice sl_list h1 h2 h3, h.run A fun v H1 k1 A1 r1 => hl _ _ A1 _ fun H2 k2 A2 => hu _ _ A2 _ fun H3 k3 A3 => by
    obtain ⟨q, us, rfl, hq, ru⟩ := lk.lst A3.sto ((r1.mono k2.kp).mono k3.kp)
    exact ⟨q, us, rfl, .inl (.inl hq), fun q nq => (((c.trans k1).trans k2).trans k3).newL ⟨rfl, rfl⟩ A3.sto (ru.cut l u) nq⟩⟩
/-- t[lo:hi], not the whole -/
theorem ev_sliceT {lo hi : Option Expr} {l u : Option Int} {p2 : Pos} {ds : List D} (h : Ev S G L e (.tup ds)) (hl : Eo S G L lo l) (hu : Eo S G L hi u) (hw : ¬ (HT.sIx ds.length 0 l = 0 ∧ HT.sIx ds.length ds.length u = ds.length)) : Ev S G L (.Subscript e (.Slice lo hi none p2) pos) (.tup (cutG ds l u)) := fun σ H A Q c =>
  ⟨tSl (rSlT B.K) (ME S e) (MO S lo) (MO S hi), fun X hX => by
    have h1 := me hX (e := e); have h2 := mo hX (e := lo); have h3 := mo hX (e := hi)
    obtain ⟨y, rfl, _⟩ := S.fam X hX
    exact pe_slice sl_tup h1 h2 h3, h.run A fun v H1 k1 A1 r1 => hl _ _ A1 _ fun H2 k2 A2 => hu _ _ A2 _ fun H3 k3 A3 => by
    have r3 := (r1.mono k2.kp).mono k3.kp
    cases r3 with
    | tup n hq ru => exact ⟨_, _, rfl, .inl (.inl hq), by rw [ru.length]; exact hw, fun q nq => (((c.trans k1).trans k2).trans k3).newT ⟨rfl, rfl⟩ A3.sto (ru.cut l u) nq⟩⟩
/-- xs + ys -/
theorem ev_cat {d d' : D} {ds ds' : List D} (l : Lk L d (.lst ds)) (l' : Lk L d' (.lst ds')) (hz : ds.length + ds'.length ≤ sizeLine) (ha : Ev S G L a d) (hb : Ev S G L b d') : Ev S G L (.BinOp a .Add b pos) (.lst (ds ++ ds')) :=
  we_op (byX fun y _ => op_cat) (pure2 ha hb fun H v u s r1 r2 Q c => by
    obtain ⟨q, us, rfl, hq, ru⟩ := l.lst s r1
    obtain ⟨q', us', rfl, hq', ru'⟩ := l'.lst s r2
    exact ⟨q, q', us, us', rfl, rfl, hq, hq', by rw [ru.length, ru'.length]; exact hz, fun z nz => c.newL ⟨rfl, rfl⟩ s (ru.append ru') nz⟩)
/-- [x, ..] * n, to be changed -/
theorem reps_rep {M H} {ds : List D} {vs : List V} (r : Reps M H ds vs) : ∀ n : Nat, Reps M H (List.replicate n ds).flatten (List.replicate n vs).flatten
  | 0 => .nil
  | n + 1 => by rw [List.replicate_succ, List.replicate_succ, List.flatten_cons, List.flatten_cons]; exact r.append (reps_rep r n)
theorem we_repM {ds : List D} {n : Nat} (hz : ds.length * n ≤ sizeLine) (hn : (n : Int) < 2 ^ 63) (ha : Ev S G L a (.lst ds)) (hb : Ev S G L b (.int n)) (h : ∀ q, L q = none → post (.ptr q) (L.set q (.lst (List.replicate n ds).flatten))) : We S G L (.BinOp a .Mult b pos) post :=
  we_op (byX fun y _ => op_rep) (pure2 ha hb fun H v u s r1 r2 Q c => by
    cases r2
    cases r1 with
    | lst m hq ru =>
    refine ⟨_, n, _, rfl, rfl, hq, by omega, hn, by rw [Int.toNat_natCast, ru.length]; exact hz, fun z nz => ?_⟩
    rw [Int.toNat_natCast]
    exact c.cellL s (reps_rep ru n) nz fun hq => h z hq)
/-! ### in a list of flat things -/
inductive Fls : List D → List V → Prop
  | nil : Fls [] []
  | cons {d v ds vs} : Fl d v → Fls ds vs → Fls (d :: ds) (v :: vs)
theorem Fls.eq {M H} : ∀ {ds : List D} {vs us : List V}, Fls ds vs → Reps M H ds us → us = vs
  | _, _, _, .nil, .nil => rfl
  | _, _, _, .cons f fs, .cons r rs => by rw [f.eq r, Fls.eq fs rs]
theorem Fls.flat : ∀ {ds : List D} {vs : List V}, Fls ds vs → vs.all flatV = true
  | _, _, .nil => rfl
  | _, _, .cons f fs => by
    rw [List.all_cons, Fls.flat fs]
    cases f <;> rfl
theorem fls_ints : ∀ ns : List Int, Fls (ns.map D.int) (ns.map V.int)
  | [] => .nil
  | n :: ns => .cons .int (fls_ints ns)
theorem fls_strs : ∀ ns : List Str, Fls (ns.map D.str) (ns.map V.str)
  | [] => .nil
  | n :: ns => .cons .str (fls_strs ns)
theorem Fl.flat {d : D} {v : V} (f : Fl d v) : flatV v = true := by cases f <;> rfl
theorem a2_in {d x : D} {ds : List D} {vs : List V} {v : V} {neg : Bool} (l : Lk L d (.lst ds) ∨ d = .tup ds) (f : Fls ds vs) (fx : Fl x v) (h : post (.bl (if neg then !inV v vs else inV v vs)) L) : A2 (rIn B.K neg) L x d post := fun H u w s r1 r2 Q c => by
  obtain rfl := fx.eq r1
  rcases l with l | rfl
  · obtain ⟨q, us, rfl, hq, ru⟩ := l.lst s r2
    obtain rfl := f.eq ru
    exact ⟨q, us, rfl, .inl (.inl (.inl hq)), fx.flat, f.flat, c.at h s .bl⟩
  · cases r2 with
    | tup n hq ru =>
    obtain rfl := f.eq ru
    exact ⟨_, _, rfl, .inr (.inl (.inl hq)), fx.flat, f.flat, c.at h s .bl⟩
theorem inV_ints {i : Int} {ns : List Int} : inV (.int i) (ns.map V.int) = decide (i ∈ ns) := by
  induction ns with
  | nil => rfl
  | cons n ns ih =>
    show (eqV (.int n) (.int i) || inV (.int i) (ns.map V.int)) = _
    rw [ih]
    by_cases h : n = i
    · subst h; simp [eqV]
    · have h' : ¬ i = n := fun z => h z.symm
      simp [eqV, h, h']
theorem inV_strs {i : Str} {ns : List Str} : inV (.str i) (ns.map V.str) = decide (i ∈ ns) := by
  induction ns with
  | nil => rfl
  | cons n ns ih =>
    show (eqV (.str n) (.str i) || inV (.str i) (ns.map V.str)) = _
    rw [ih]
    by_cases h : n = i
    · subst h; simp [eqV]
    · have h' : ¬ i = n := fun z => h z.symm
      simp [eqV, h, h']
section
variable {d : D} {i : Int} {ns : List Int}
theorem ev_inI (l : Lk L d (.lst (ns.map D.int))) (ha : Ev S G L a (.int i)) (hb : Ev S G L b d) (hm : behindInMarks .In b = false := by with_unfolding_all rfl) : Ev S G L (.Compare a [.In] [b] pos) (.bl (decide (i ∈ ns))) := we_cmp (r := rIn B.K false) (byX fun y _ => op_in_seq) hm (pure2 ha hb (a2_in (neg := false) (.inl l) (fls_ints ns) .int ⟨by rw [← inV_ints]; rfl, rfl⟩))
theorem et_inI (l : Lk L d (.lst (ns.map D.int))) (ha : Ev S G L a (.int i)) (hb : Ev S G L b d) (hm : behindInMarks .In b = false := by with_unfolding_all rfl) : Et S G L (.Compare a [.In] [b] pos) (decide (i ∈ ns)) := wt_cmp (r := rIn B.K false) (byX fun y _ => op_in_seq) hm (pure2 ha hb (a2_in (neg := false) (.inl l) (fls_ints ns) .int ⟨_, rfl, by rw [← inV_ints]; rfl, rfl⟩))
theorem et_ninI (l : Lk L d (.lst (ns.map D.int))) (ha : Ev S G L a (.int i)) (hb : Ev S G L b d) (hm : behindInMarks .NotIn b = false := by with_unfolding_all rfl) : Et S G L (.Compare a [.NotIn] [b] pos) (!decide (i ∈ ns)) := wt_cmp (r := rIn B.K true) (byX fun y _ => op_notIn_seq) hm (pure2 ha hb (a2_in (neg := true) (.inl l) (fls_ints ns) .int ⟨_, rfl, by rw [← inV_ints]; rfl, rfl⟩))
theorem et_inS {i : Str} {ns : List Str} (l : Lk L d (.lst (ns.map D.str))) (ha : Ev S G L a (.str i)) (hb : Ev S G L b d) (hm : behindInMarks .In b = false := by with_unfolding_all rfl) : Et S G L (.Compare a [.In] [b] pos) (decide (i ∈ ns)) := wt_cmp (r := rIn B.K false) (byX fun y _ => op_in_seq) hm (pure2 ha hb (a2_in (neg := false) (.inl l) (fls_strs ns) .str ⟨_, rfl, by rw [← inV_strs]; rfl, rfl⟩))
end
/-! ### all, int, min, isinstance, sorted -/
theorem ev_all {d : D} {bs : List Bool} (l : Lk L d (.lst (bs.map D.bl))) (h : Ev S G L e d) (hg : GlS sc "all" := by rfl) (he : St1 e := by intro _; rfl) : Ev S G L (.Call (.Name "all" p) [e] [] pos) (.bl (bs.all id)) :=
  blt1 (r := rAll B.K) (byX fun y _ => cr_all rfl) (by decide) boot_all (by decide) (by decide) (h.we fun H vs s r Q c => by
    obtain ⟨v, rfl, rv⟩ := reps1 r
    obtain ⟨q, us, rfl, hq, ru⟩ := l.lst s rv
    obtain rfl := ru.bls
    exact ⟨q, bs, rfl, .inl (.inl hq), c.at ⟨rfl, rfl⟩ s .bl⟩) hg he
theorem we_int (h : We S G L e fun d L' => (∃ i, d = .int i ∧ post (.int i) L') ∨ ∃ b, d = .bl b ∧ post (.int (if b then 1 else 0)) L') (hg : GlS sc "int" := by rfl) (he : St1 e := by intro _; rfl) : We S G L (.Call (.Name "int" p) [e] [] pos) post :=
  typ1 (byX fun y _ => call_int1) (by decide) boot_int (by decide) (by decide) (h.mono fun d L' q H vs s r Q c => by
    obtain ⟨v, rfl, rv⟩ := reps1 r
    rcases q with ⟨i, rfl, q⟩ | ⟨b, rfl, q⟩
    · cases rv; exact .inl ⟨i, rfl, c.at q s .int⟩
    · cases rv; exact .inr ⟨b, rfl, c.at q s .int⟩) hg he
theorem ev_int1 {i : Int} (h : Ev S G L e (.int i)) (hg : GlS sc "int" := by rfl) (he : St1 e := by intro _; rfl) : Ev S G L (.Call (.Name "int" p) [e] [] pos) (.int i) := we_int (h.we (.inl ⟨i, rfl, rfl, rfl⟩)) hg he
theorem ev_intB {i : Bool} (h : Ev S G L e (.bl i)) (hg : GlS sc "int" := by rfl) (he : St1 e := by intro _; rfl) : Ev S G L (.Call (.Name "int" p) [e] [] pos) (.int (if i then 1 else 0)) := we_int (h.we (.inr ⟨i, rfl, rfl, rfl⟩)) hg he
theorem ev_min {i j : Int} (h : Ea S G L [a, b] [.int i, .int j]) (hg : GlS sc "min" := by rfl) (he : ∀ env, starEach [a, b] env = (false, eval a env) :: starEach [b] env := by intro _; rfl) (hpl : ∀ env, (backTo pos (starEach [b] env)).any (·.1) = false := by intro _; rfl) : Ev S G L (.Call (.Name "min" p) [a, b] [] pos) (.int (if j < i then j else i)) :=
  we_blt (byX fun y _ => call_min2 rfl) (by decide) boot_min (h.wa fun H vs s r Q c => by
    obtain ⟨v, v', rfl, rv, rv'⟩ := reps2 r
    cases rv; cases rv'
    exact ⟨i, j, rfl, c.at ⟨rfl, rfl⟩ s .int⟩) hg (by decide) (by decide) he hpl
/-- the type of a thing by its name -/
inductive TyD : D → String → Prop
  | bl {q : Bool} : TyD (.bl q) "bool"
  | int {q : Int} : TyD (.int q) "int"
  | lst {ds} : TyD (.lst ds) "list"
  | tup {ds} : TyD (.tup ds) "tuple"
  | dct {ds} : TyD (.dct ds) "dict"
theorem TyD.x {K} {d : D} {t : String} {v : V} {M H} (h : TyD d t) (r : Rep M H d v) : TyX K H v (.type t) := by
  cases h with
  | bl => cases r; exact .base (.bl _)
  | int => cases r; exact .base (.int _)
  | lst => cases r with | lst _ h _ => exact .base (.lst h)
  | tup => cases r with | tup _ h _ => exact .base (.tup h)
  | dct => cases r with | dct _ h _ =>
    rcases h with h | ⟨o, h⟩
    · exact .base (.dK h)
    · exact .fDict h
theorem ev_tyn {x : Str} {T : String} (hx : x ∈ blNames) (hv : bootBuiltins x = some (.type T)) (hn : x ≠ "__name__" := by decide) (hd : (x == ("__debug__" : Str)) = false := by decide) (hg : GlS sc x := by rfl) : Ev S G L (.Name x p) (.ty T) :=
  we_c (v := .ty T) (byX fun y _ => pe_bltn hg (B.none hx) hv rfl hn hd) (fun _ _ => .ty) ⟨rfl, rfl⟩
/-- isinstance(x, T) -/
theorem ev_isi {d : D} {t T : String} {r : Bool} (td : TyD d t) (hk : kitB t T = some r) (h : Ev S G L a d) (ht : Ev S G L b (.ty T)) (hg : GlS sc "isinstance" := by rfl) (he : ∀ env, starEach [a, b] env = (false, eval a env) :: starEach [b] env := by intro _; rfl) (he2 : St1 b := by intro _; rfl) (hpl : ∀ env, (backTo pos (starEach [b] env)).any (·.1) = false := by intro _; rfl) : Ev S G L (.Call (.Name "isinstance" p) [a, b] [] pos) (.bl r) :=
  we_blt (r := rIsi B.K) (byX fun y _ => call_isi) (by decide) boot_isinstance ((ea_2 h ht he he2).wa fun H vs s rr Q c => by
    obtain ⟨v, v', rfl, rv, rv'⟩ := reps2 rr
    cases rv'
    exact ⟨v, _, _, _, r, rfl, .ty T, td.x rv, kit_ty hk, c.at ⟨rfl, rfl⟩ s .bl⟩) hg (by decide) (by decide) he hpl
/-- sorted(xs), ints -/
def sortI (ns : List Int) : List Int := ns.mergeSort (fun a b => decide (a ≤ b))
theorem sortI_unique {ns ms : List Int} (hp : ms.Perm ns) (hs : ms.Pairwise (· ≤ ·)) : ms = sortI ns := by
  have h1 : (sortI ns).Pairwise (· ≤ ·) := by
    have := List.pairwise_mergeSort (le := fun a b : Int => decide (a ≤ b)) (fun a b c h1 h2 => by simp at *; omega) (fun a b => by simp; omega) ns
    exact this.imp fun h => by simpa using h
  have h2 : (sortI ns).Perm ns := List.mergeSort_perm ns _
  exact (hp.trans h2.symm).eq_of_pairwise (fun a b _ _ h1 h2 => by omega) hs h1
theorem ev_sortI {d : D} {ns : List Int} (l : Lk L d (.lst (ns.map D.int))) (h : Ev S G L e d) (hg : GlS sc "sorted" := by rfl) (he : St1 e := by intro _; rfl) : Ev S G L (.Call (.Name "sorted" p) [e] [] pos) (.lst ((sortI ns).map D.int)) :=
  blt1 (r := rSortedI B.K) (byX fun y _ => cr_sortedI) (by decide) boot_sorted (by decide) (by decide) (h.we fun H vs s r Q c => by
    obtain ⟨v, rfl, rv⟩ := reps1 r
    obtain ⟨q, us, rfl, hq, ru⟩ := l.lst s rv
    obtain rfl := ru.ints
    refine ⟨q, ns, rfl, .inl (.inl hq), fun ms z hp hs nz => ?_⟩
    rw [sortI_unique hp hs]
    exact c.newL ⟨rfl, rfl⟩ s (.of_ints _) nz) hg he
/-- set(xs): for the two uses of it -/
theorem run_set {d : D} {ns : List Int} {σ : L2.St} {H : Hp} (A : Abs G L σ H) (l : Lk L d (.lst (ns.map D.int)) ∨ d = .tup (ns.map D.int)) (hz : ns.length ≤ 1000) (h : Ev S G L e d) {Q : VK} (c : ∀ H1 q (ks : List Int), Keep L H L H1 → Abs G L σ H1 → H1 q = none → ks.Nodup → (∀ k, k ∈ ks ↔ k ∈ ns) → Q (.ref q) (upd H1 q (SetO B.w q (fun j => decide (j ∈ ns)) ks.length)))
    (hg : GlS sc "set") (he : St1 e) : ME S (.Call (.Name "set" p) [e] [] pos) σ H Q :=
  ⟨tCB (rSetI B.K B.w) (MA S [e]), fun X hX => by
    have h1 := ma hX (e := [e])
    obtain ⟨y, rfl, _⟩ := S.fam X hX
    exact pe_callTy (cr_setI rfl) hg (B.none (by decide)) boot_set h1 (by decide) (by decide) (he _) rfl, ea_1 h he σ H A _ fun ds L1 vs H1 ⟨e1, e2⟩ k1 s1 r1 => by
    subst e1; subst e2
    obtain ⟨v, rfl, rv⟩ := reps1 r1
    have A1 := A.mono k1 s1
    rcases l with l | rfl
    · obtain ⟨q, us, rfl, hq, ru⟩ := l.lst s1 rv
      obtain rfl := ru.ints
      exact ⟨q, ns, rfl, .inl (.inl (.inl hq)), hz, fun z ks nz h1 h2 => c H1 z ks k1 A1 nz h1 h2⟩
    · cases rv with
      | tup n hq ru =>
      obtain rfl := ru.ints
      exact ⟨_, ns, rfl, .inr (.inl (.inl hq)), hz, fun z ks nz h1 h2 => c H1 z ks k1 A1 nz h1 h2⟩⟩
/-- the keys of a set are few -/
def Few (ns : List Int) : Prop := ns.length ≤ 1000 ∧ ∀ ks : List Int, ks.Nodup → (∀ k ∈ ks, k ∈ ns) → ks.length < 64
/-- sorted(set(xs)) -/
theorem ev_asc {d : D} {ns : List Int} {p1 p2 : Pos} (l : Lk L d (.lst (ns.map D.int)) ∨ d = .tup (ns.map D.int)) (hz : Few ns) (h : Ev S G L e d) (hg : GlS sc "sorted" := by rfl) (hg2 : GlS sc "set" := by rfl) (he : St1 e := by intro _; rfl) : Ev S G L (.Call (.Name "sorted" p) [.Call (.Name "set" p1) [e] [] p2] [] pos) (.lst ((asc ns).map D.int)) := fun σ H A Q c =>
  ⟨tCB (rSortedSet B.w) (tCons (ME S (.Call (.Name "set" p1) [e] [] p2)) tNil), fun X hX => by
    have h1 := me hX (e := .Call (.Name "set" p1) [e] [] p2)
    obtain ⟨y, rfl, _⟩ := S.fam X hX
    exact pe_callB (cr_sortedSet rfl) hg (B.none (by decide)) boot_sorted (pa_cons h1 pa_nil) (by decide) (by decide) rfl rfl,
    run_set A l hz.1 h (fun H1 q ks k1 A1 nq nd hk => ⟨q, _, ks.length, rfl, upd_same, hz.2 ks nd fun k h => (hk k).mp h, fun ns' z hs hm _ nz => by
      have sm1 : Same H1 (upd H1 q (SetO B.w q (fun j => decide (j ∈ ns)) ks.length)) := same_upd nq
      rw [asc_eq (ns := ns) hs fun k => by rw [hm k]; simp]
      exact ((c.trans k1).trans (keep_same sm1)).newL ⟨rfl, rfl⟩ (A1.sto.same sm1) (.of_ints _) nz⟩) hg2 he⟩
end
end FS
/-! text W9 -/
/-! W9: objects, cells, methods of lists, tests by and, or; displays of dicts. -/
namespace FS
open PySem PySem.Spec PyProof.Rows L2
section
variable {B : Bg} {N : List Str} {sc : Scope} {k : Nat}
variable {S : Sit B N sc k} {G : Gam} {L : Sto} {e a b c o : Expr} {pos p apos : Pos} {post : D → Sto → Prop} {es : List Expr}
/-! ### objects -/
/-- what is known of a class: its fields' names are no attributes of it -/
structure Kla (B : Bg) (C : Addr) (fs : List Str) : Prop where
  cl : Cls B.K C
  na : ∀ f ∈ fs, NoAttr B.K C f
theorem ev_fld {x d : D} {C : Addr} {fl : List Str} {fs : List (Str × D)} {f : Str} (kl : Kla B C fl) (l : Lk L x (.ins C fs)) (hd : fs.lookup f = some d) (h : Ev S G L o x) (hf : f ∈ fl := by decide) (hb : ∀ env, attributeBase o f env (eval o env) = eval o env := by intro _; rfl) : Ev S G L (.Attribute o f pos) d := fun σ H A Q c =>
  ⟨tFld B.K (ME S o) f, fun X hX => by
    have h1 := me hX (e := o)
    obtain ⟨y, rfl, _⟩ := S.fam X hX
    exact pe_fld h1 (hb _), h.run A fun v H1 k1 A1 r => by
    obtain ⟨q, dx, us, rfl, hq, ru⟩ := l.ins A1.sto r
    obtain ⟨w, hw, rw'⟩ := ru.val.1 d hd
    exact ⟨q, C, dx, us, w, rfl, hq, kl.cl, kl.na f hf, hw, (c.trans k1).at ⟨rfl, rfl⟩ A1.sto rw'⟩⟩
/-- o.f = e, o a pointer -/
theorem wo_fld {q C : Addr} {fl : List Str} {f : Str} {p' : Pos} {E : AE} (kl : Kla B C fl) (h : We S G L e fun d L1 => ∃ fs, L1 q = some (.ins C fs) ∧ fs.length < 1000 ∧ Ev S G L1 o (.ptr q) ∧ E.nx G (L1.set q (.ins C (putFD f d fs)))) (hf : f ∈ fl := by decide) (hs : ∀ env, swapsWith e (some (.Attribute o f p')) pos.line env = pure false := by intro _; rfl) :
    Wo S G L (.Assign [.Attribute o f p'] e pos) E := fun σ H A D c =>
  ⟨sFld B.K (ME S o) (ME S e) f, fun X hX => by
    have h1 := me hX (e := o); have h2 := me hX (e := e)
    obtain ⟨y, rfl, _⟩ := S.fam X hX
    exact ps_fld h1 h2 (hs _), h σ H A _ fun d L1 v H1 ⟨fs, hL, hn, ho, w⟩ k1 s1 r1 => ho.run (A.mono k1 s1) fun u H2 k2 A2 r2 => by
    cases r2
    cases A2.sto.cell q _ hL with
    | @ins _ _ dx _ us hq ru =>
    have k12 := k1.trans k2
    have hp : H2 q = none ∨ L1 q ≠ none := .inr (by rw [hL]; exact fun z => nomatch z)
    have k3 := keep_put (d := .ins C (putFD f d fs)) (o := .ins C dx (putF f v us)) hp
    exact ⟨q, C, dx, us, rfl, hq, kl.cl, kl.na f hf, by rw [ru.length]; exact hn, c.nx _ _ _ _ w (k12.trans k3) (A2.mono k3 (A2.sto.putI hp (ru.put (r1.mono k2.kp))))⟩⟩
theorem ws_fld {q C : Addr} {fl : List Str} {f : Str} {p' : Pos} {rest : List Stmt} {E : AE} (kl : Kla B C fl) (h : We S G L e fun d L1 => ∃ fs, L1 q = some (.ins C fs) ∧ fs.length < 1000 ∧ Ev S G L1 o (.ptr q) ∧ Ws S G (L1.set q (.ins C (putFD f d fs))) rest E) (hf : f ∈ fl := by decide) (hs : ∀ env, swapsWith e (some (.Attribute o f p')) pos.line env = pure false := by intro _; rfl) :
    Ws S G L (.Assign [.Attribute o f p'] e pos :: rest) E := ws_cons (wo_fld kl h hf hs)
/-- o.m(e, ..) -/
structure Mcl (B : Bg) (j : Nat) (C : Addr) (m : Str) (R : ASp) : Prop where
  cl : Cls B.K C
  ex : ∃ f fd ps, FnOk B.P B.w B.K B.mg B.base CX0 j f fd ps (low R) ∧ Meth B.K C m f ∧ Binds B.K fd ps []
theorem Reps.one {M H} {d : D} {v : V} (r : Rep M H d v) : Reps M H [d] [v] := .cons r .nil
theorem we_meth {j : Nat} {C : Addr} {m : Str} {R : ASp} {pl : Env → Sem Bool} (M : Mcl B j C m R) (hj : j ≤ k) (h : We S G L o fun x L1 => (∃ fs, Lk L1 x (.ins C fs) ∧ fs.lookup m = none) ∧ Wa S G L1 (e :: es) fun ds L2 => R (x :: ds) L2 post)
    (hst : ∀ env, starEach (e :: es) env = (false, eval e env) :: starEach es env := by intro _; rfl) (hpl : ∀ env, (backTo pos (starEach es env)).any (·.1) = false := by intro _; rfl)
    (ht : ∀ env, eval (.Call (.Attribute o m apos) (e :: es) [] pos) env = (do
      let ov ← eval o env
      standAt apos.atName
      let (f, first) ← holding [ov] (getMethod ov m (pl env))
      callWith pos f first (backTo pos (starEach (e :: es) env)) (backToKw pos (keywordEach [] env))) := by intro _; rfl) : We S G L (.Call (.Attribute o m apos) (e :: es) [] pos) post := fun σ H A Q c => by
  obtain ⟨f, fd, ps, F, hm, hb⟩ := M.ex
  refine ⟨tMeth C m (low R) [] E0 (ME S o) (MA S (e :: es)), fun X hX => ?_, h σ H A _ fun x L1 v H1 ⟨⟨fs, l, hl⟩, w⟩ k1 s1 r1 => ?_⟩
  · have h1 := me hX (e := o); have h2 := ma hX (e := e :: es)
    obtain ⟨y, rfl, hr⟩ := S.fam X hX
    exact pe_meth h1 M.cl hm F (Room.mono (show Room k y.A from hr) hj) hb .nil pass0 h2 (hst _) (hpl _) (ht _)
  · obtain ⟨q, dx, us, rfl, hq, ru⟩ := l.ins s1 r1
    refine ⟨q, dx, us, rfl, hq, ru.val.2 hl, w σ H1 (A.mono k1 s1) _ fun ds L2 vs H2 w2 k2 s2 r2 => ⟨x :: ds, L2, post, s2, by rw [List.append_nil]; exact .cons (r1.mono k2.kp) r2, w2, (c.trans k1).trans k2⟩⟩
theorem we_meth0 {j : Nat} {C : Addr} {m : Str} {R : ASp} {pl : Env → Sem Bool} (M : Mcl B j C m R) (hj : j ≤ k) (h : We S G L o fun x L1 => (∃ fs, Lk L1 x (.ins C fs) ∧ fs.lookup m = none) ∧ R [x] L1 post)
    (ht : ∀ env, eval (.Call (.Attribute o m apos) [] [] pos) env = (do
      let ov ← eval o env
      standAt apos.atName
      let (f, first) ← holding [ov] (getMethod ov m (pl env))
      callWith pos f first (backTo pos (starEach [] env)) (backToKw pos (keywordEach [] env))) := by intro _; rfl) : We S G L (.Call (.Attribute o m apos) [] [] pos) post := fun σ H A Q c => by
  obtain ⟨f, fd, ps, F, hm, hb⟩ := M.ex
  refine ⟨tMeth C m (low R) [] E0 (ME S o) tNil, fun X hX => ?_, h σ H A _ fun x L1 v H1 ⟨⟨fs, l, hl⟩, w⟩ k1 s1 r1 => ?_⟩
  · have h1 := me hX (e := o)
    obtain ⟨y, rfl, hr⟩ := S.fam X hX
    exact pe_meth0 h1 M.cl hm F (Room.mono (show Room k y.A from hr) hj) hb .nil pass0 (ht _)
  · obtain ⟨q, dx, us, rfl, hq, ru⟩ := l.ins s1 r1
    exact ⟨q, dx, us, rfl, hq, ru.val.2 hl, [x], L1, post, s1, Reps.one r1, w, c.trans k1⟩
theorem ev_meth {j : Nat} {C : Addr} {m : Str} {R : ASp} {pl : Env → Sem Bool} {x d : D} {ds : List D} {fs : List (Str × D)} (M : Mcl B j C m R) (hj : j ≤ k) (l : Lk L x (.ins C fs)) (h : Ev S G L o x) (ha : Ea S G L (e :: es) ds) (hR : R (x :: ds) L fun d' L' => d' = d ∧ L' = L) (hl : fs.lookup m = none := by rfl)
    (hst : ∀ env, starEach (e :: es) env = (false, eval e env) :: starEach es env := by intro _; rfl) (hpl : ∀ env, (backTo pos (starEach es env)).any (·.1) = false := by intro _; rfl)
    (ht : ∀ env, eval (.Call (.Attribute o m apos) (e :: es) [] pos) env = (do
      let ov ← eval o env
      standAt apos.atName
      let (f, first) ← holding [ov] (getMethod ov m (pl env))
      callWith pos f first (backTo pos (starEach (e :: es) env)) (backToKw pos (keywordEach [] env))) := by intro _; rfl) : Ev S G L (.Call (.Attribute o m apos) (e :: es) [] pos) d := we_meth M hj (h.we ⟨⟨fs, l, hl⟩, ha.wa hR⟩) hst hpl ht
theorem ev_meth0 {j : Nat} {C : Addr} {m : Str} {R : ASp} {pl : Env → Sem Bool} {x d : D} {fs : List (Str × D)} (M : Mcl B j C m R) (hj : j ≤ k) (l : Lk L x (.ins C fs)) (h : Ev S G L o x) (hR : R [x] L fun d' L' => d' = d ∧ L' = L) (hl : fs.lookup m = none := by rfl)
    (ht : ∀ env, eval (.Call (.Attribute o m apos) [] [] pos) env = (do
      let ov ← eval o env
      standAt apos.atName
      let (f, first) ← holding [ov] (getMethod ov m (pl env))
      callWith pos f first (backTo pos (starEach [] env)) (backToKw pos (keywordEach [] env))) := by intro _; rfl) : Ev S G L (.Call (.Attribute o m apos) [] [] pos) d := we_meth0 M hj (h.we ⟨⟨fs, l, hl⟩, hR⟩) ht
/-- C(e, ..) -/
structure Kcl (B : Bg) (j : Nat) (x : Str) (C : Addr) (R : ASp) : Prop where
  mg : B.mg x = some (.ref C)
  ex : ∃ f fd ps, FnOk B.P B.w B.K B.mg B.base CX0 j f fd ps (low R) ∧ Mk B.K C f ∧ Binds B.K fd ps []
theorem make_ok {C : Addr} {H : Hp} {x dx : Addr} {fs : List (Str × D)} (s : StoOk L H) (nx : H x = none) (nd : H dx = none) (ne : dx ≠ x) :
    StoOk (L.set x (.ins C [])) (upd (upd H dx (.own x)) x (.ins C dx [])) ∧ Keep L H (L.set x (.ins C [])) (upd (upd H dx (.own x)) x (.ins C dx [])) := by
  have s1 : StoOk L (upd H dx (.own x)) := s.same (same_upd nd)
  have nx1 : (upd H dx (.own x)) x = none := by rw [upd_ne (Ne.symm ne)]; exact nx
  exact ⟨s1.putI (.inl nx1) .nil, (keep_same (same_upd nd)).trans (keep_put (.inl nx1))⟩
theorem we_make {j : Nat} {x : Str} {C : Addr} {R : ASp} (M : Kcl B j x C R) (hj : j + 1 ≤ k) (h : Wa S G L (e :: es) fun ds L1 => ∀ q, L1 q = none → R (.ptr q :: ds) (L1.set q (.ins C [])) fun d L2 => d = .non ∧ post (.ptr q) L2) (hg : sc.names.lookup x = some .globalImplicit := by rfl) (hdb : (x == ("__debug__" : Str)) = false := by decide)
    (he : ∀ env, starEach (e :: es) env = (false, eval e env) :: starEach es env := by intro _; rfl) (hpl : ∀ env, (backTo pos (starEach es env)).any (·.1) = false := by intro _; rfl) : We S G L (.Call (.Name x p) (e :: es) [] pos) post := fun σ H A Q c => by
  obtain ⟨f, fd, ps, F, hm, hb⟩ := M.ex
  refine ⟨tMake C (low R) [] E0 (MA S (e :: es)), fun X hX => ?_, h σ H A _ fun ds L1 vs H1 w k1 s1 r1 q dx nq nd ne => ?_⟩
  · have h2 := ma hX (e := e :: es)
    obtain ⟨y, rfl, hr⟩ := S.fam X hX
    exact pe_make hm F (Room.mono (show Room k y.A from hr) hj) hg M.mg hb .nil pass0 h2 hdb (he _) (hpl _)
  · obtain ⟨s2, k2⟩ := make_ok (C := C) (fs := []) s1 nq nd ne
    refine ⟨.ptr q :: ds, _, _, s2, by rw [List.append_nil]; exact .cons .ptr (r1.mono k2.kp), w q (sto_new nq s1), fun d L' v H' ⟨ed, pq⟩ k3 s3 r3 => ?_⟩
    subst ed; cases r3
    exact ⟨rfl, c _ _ _ _ pq ((k1.trans k2).trans k3) s3 .ptr⟩
theorem we_make0 {j : Nat} {x : Str} {C : Addr} {R : ASp} (M : Kcl B j x C R) (hj : j + 1 ≤ k) (h : ∀ q, L q = none → R [.ptr q] (L.set q (.ins C [])) fun d L2 => d = .non ∧ post (.ptr q) L2) (hg : sc.names.lookup x = some .globalImplicit := by rfl) (hdb : (x == ("__debug__" : Str)) = false := by decide) : We S G L (.Call (.Name x p) [] [] pos) post := fun σ H A Q c => by
  obtain ⟨f, fd, ps, F, hm, hb⟩ := M.ex
  refine ⟨tMake C (low R) [] E0 tNil, fun X hX => ?_, fun q dx nq nd ne => ?_⟩
  · obtain ⟨y, rfl, hr⟩ := S.fam X hX
    exact pe_make0 hm F (Room.mono (show Room k y.A from hr) hj) hg M.mg hb .nil pass0 hdb
  · obtain ⟨s2, k2⟩ := make_ok (C := C) (fs := []) A.sto nq nd ne
    refine ⟨[.ptr q], _, _, s2, Reps.one .ptr, h q (sto_new nq A.sto), fun d L' v H' ⟨ed, pq⟩ k3 s3 r3 => ?_⟩
    subst ed; cases r3
    exact ⟨rfl, c _ _ _ _ pq (k2.trans k3) s3 .ptr⟩
/-! ### cells -/
/-- xs.append(e) -/
theorem tyV_lst {K} {H : Hp} {q : Addr} {vs : List V} (h : H q = some (.lst vs)) : tyV K "list" (.ref q) H := .inl ⟨rfl, _, .inl (.inl h)⟩
theorem we_append {q : Addr} (ho : Ev S G L o (.ptr q)) (h : We S G L e fun d L1 => ∃ ds, L1 q = some (.lst ds) ∧ ds.length < sizeLine ∧ post .non (L1.set q (.lst (ds ++ [d])))) (hq : ∃ ds, L q = some (.lst ds))
    (hbase : ∀ env, attributeBase o "append" env (eval o env) = eval o env := by intro _; rfl) (he : St1 e := by intro _; rfl) (hline : (apos.endLine == pos.line) = true := by rfl) : We S G L (.Call (.Attribute o "append" apos) [e] [] pos) post := fun σ H A Q c =>
  ⟨tBM B.K "list" rAppend (ME S o) (MA S [e]), fun X hX => by
    have h1 := me hX (e := o); have h2 := ma hX (e := [e])
    obtain ⟨y, rfl, _⟩ := S.fam X hX
    exact pe_bm PySem.F.plainAttrs_list PySem.F.slot_list_append PySem.F.type_list_append mt_append h1 h2 (hbase _) (by rw [he]; rfl) hline (he _) rfl, ho.run A fun u H1 k1 A1 r1 => by
    cases r1
    obtain ⟨ds0, hq⟩ := hq
    cases A1.sto.cell q _ hq with
    | lst hh _ =>
    refine ⟨tyV_lst hh, wa_cons (p := fun ds' L' => ∃ d, ds' = [d] ∧ ∃ ds, L' q = some (.lst ds) ∧ ds.length < sizeLine ∧ post .non (L'.set q (.lst (ds ++ [d])))) (h.mono fun d L' w => wa_nil ⟨d, rfl, w⟩) he σ H1 A1 _ fun ds' L' vs H2 ⟨d, e1, ds, e2, e3, w⟩ k2 s2 r2 => ?_⟩
    subst e1
    obtain ⟨v, rfl, rv⟩ := reps1 r2
    cases s2.cell q _ e2 with
    | @lst _ _ us hu ru =>
    have hp : H2 q = none ∨ L' q ≠ none := .inr (by rw [e2]; exact fun z => nomatch z)
    exact ⟨q, us, v, rfl, rfl, hu, by rw [ru.length]; exact e3, c _ _ _ _ w ((k1.trans k2).trans (keep_put hp)) (s2.putL hp (reps_in ru v rv)) .non⟩⟩
/-- a cell of the list is stored: xs[i] = e -/
theorem wo_seti {q : Addr} {p' : Pos} {E : AE} (h : We S G L e fun d L1 => ∃ ds i j, L1 q = some (.lst ds) ∧ ixN ds.length i = some j ∧ Ev S G L1 a (.ptr q) ∧ Ev S G L1 b (.int i) ∧ E.nx G (L1.set q (.lst (ds.set j d))))
    (hs : ∀ env, swapsWithSole [.Subscript a b p'] e pos.line env = pure false := by intro _; rfl) (hw : ∀ env, swappedStores [.Subscript a b p'] e env = pure none := by intro _; rfl) (h1 : ∀ env, (assignEach [.Subscript a b p'] env).map (·.2) = [assign (.Subscript a b p') env] := by intro _; rfl)
    (ha : ∀ env v, assign (.Subscript a b p') env v = (do
      let ov ← holding [v] (eval a env)
      let iv ← holding [v, ov] (eval b env)
      standAt p'
      holding [v, ov, iv] (setItem ov iv v)
      release [v, ov, iv] []) := by intro _ _; rfl) : Wo S G L (.Assign [.Subscript a b p'] e pos) E := fun σ H A D c =>
  ⟨tAsg (ME S e) (gSub (ME S a) (ME S b) rSetL), fun X hX => by
    have z1 := me hX (e := a); have z2 := me hX (e := b); have z3 := me hX (e := e)
    obtain ⟨y, rfl, _⟩ := S.fam X hX
    exact ps_asg z3 (pg_sub z1 z2 set_list (ha _)) (hs _) (hw _) (h1 _), h σ H A _ fun d L1 v H1 ⟨ds, i, j, e1, e2, e3, e4, w⟩ k1 s1 r1 => e3.run (A.mono k1 s1) fun u H2 k2 A2 r2 => e4.run A2 fun u' H3 k3 A3 r3 => by
    have r2' := r2.mono k3.kp
    cases r2'; cases r3
    cases A3.sto.cell q _ e1 with
    | @lst _ _ us hu ru =>
    have hp : H3 q = none ∨ L1 q ≠ none := .inr (by rw [e1]; exact fun z => nomatch z)
    have kk := keep_put (d := .lst (ds.set j d)) (o := .lst (us.set j v)) hp
    have r1' := (r1.mono k2.kp).mono k3.kp
    exact ⟨q, us, i, j, rfl, rfl, hu, by rw [ru.length]; exact e2, c.nx _ _ _ _ w (((k1.trans k2).trans k3).trans kk) (A3.mono kk (A3.sto.putL hp (Reps.set r1' j ru)))⟩⟩
/-- d[k] = e -/
theorem wo_setk {q : Addr} {p' : Pos} {E : AE} (h : We S G L e fun d L1 => ∃ kvs dk kk, L1 q = some (.dct kvs) ∧ kvs.length < sizeLine ∧ Ev S G L1 a (.ptr q) ∧ Ev S G L1 b dk ∧ (∀ M H v, Rep M H dk v → v = kV kk) ∧ E.nx G (L1.set q (.dct (putG kvs kk d))))
    (hs : ∀ env, swapsWith e (some (.Subscript a b p')) pos.line env = pure false := by intro _; rfl) : Wo S G L (.Assign [.Subscript a b p'] e pos) E := fun σ H A D c =>
  ⟨sDPut (ME S a) (ME S b) (ME S e), fun X hX => ps_dput (S.hu hX) (me hX) (me hX) (me hX) (hs _), h σ H A _ fun d L1 v H1 ⟨kvs, dk, kk, e1, e2, e3, e4, ek, w⟩ k1 s1 r1 => e3.run (A.mono k1 s1) fun u H2 k2 A2 r2 => e4.run A2 fun u' H3 k3 A3 r3 => by
    have r2' := r2.mono k3.kp
    cases r2'
    cases ek _ _ _ r3
    cases A3.sto.cell q _ e1 with
    | @dct _ _ us hu ru =>
    have hp : H3 q = none ∨ L1 q ≠ none := .inr (by rw [e1]; exact fun z => nomatch z)
    have kp' := keep_put (d := .dct (putG kvs kk d)) (o := .dK (putK us kk v)) hp
    have r1' := (r1.mono k2.kp).mono k3.kp
    exact ⟨q, _, rfl, DPut.k hu (by rw [ru.length]; exact e2), c.nx _ _ _ _ w (((k1.trans k2).trans k3).trans kp') (A3.mono kp' (A3.sto.putD hp (ru.put r1')))⟩⟩
theorem ws_seti {q : Addr} {p' : Pos} {rest : List Stmt} {E : AE} (h : We S G L e fun d L1 => ∃ ds i j, L1 q = some (.lst ds) ∧ ixN ds.length i = some j ∧ Ev S G L1 a (.ptr q) ∧ Ev S G L1 b (.int i) ∧ Ws S G (L1.set q (.lst (ds.set j d))) rest E)
    (hs : ∀ env, swapsWithSole [.Subscript a b p'] e pos.line env = pure false := by intro _; rfl) (hw : ∀ env, swappedStores [.Subscript a b p'] e env = pure none := by intro _; rfl) (h1 : ∀ env, (assignEach [.Subscript a b p'] env).map (·.2) = [assign (.Subscript a b p') env] := by intro _; rfl)
    (ha : ∀ env v, assign (.Subscript a b p') env v = (do
      let ov ← holding [v] (eval a env)
      let iv ← holding [v, ov] (eval b env)
      standAt p'
      holding [v, ov, iv] (setItem ov iv v)
      release [v, ov, iv] []) := by intro _ _; rfl) : Ws S G L (.Assign [.Subscript a b p'] e pos :: rest) E := ws_cons (wo_seti h hs hw h1 ha)
theorem ws_setk {q : Addr} {p' : Pos} {rest : List Stmt} {E : AE} (h : We S G L e fun d L1 => ∃ kvs dk kk, L1 q = some (.dct kvs) ∧ kvs.length < sizeLine ∧ Ev S G L1 a (.ptr q) ∧ Ev S G L1 b dk ∧ (∀ M H v, Rep M H dk v → v = kV kk) ∧ Ws S G (L1.set q (.dct (putG kvs kk d))) rest E)
    (hs : ∀ env, swapsWith e (some (.Subscript a b p')) pos.line env = pure false := by intro _; rfl) : Ws S G L (.Assign [.Subscript a b p'] e pos :: rest) E := ws_cons (wo_setk h hs)
/-! ### logical rules -/
/-- what is not needed any more is forgotten; cells become things that stay -/
theorem ws_abs {G' : Gam} {L' : Sto} {sts : List Stmt} {E : AE} (hA : ∀ σ H, Abs G L σ H → Abs G' L' σ H ∧ Keep L H L' H) (h : Ws S G' L' sts E) : Ws S G L sts E := fun σ H A D c => let ⟨A', k1⟩ := hA σ H A; h σ H A' D (c.trans k1)
theorem keep_del (q : Addr) {H : Hp} : Keep L H (L.del q) H := ⟨rfl, fun a o h1 h2 => ⟨del_none h1, h2⟩⟩
theorem abs_frz {q : Addr} {d : D} {σ : L2.St} {H : Hp} (A : Abs G L σ H) (h : L q = some d) (i : Nat) (hG : G[i]? = some (some (.ptr q))) : Abs (G.set i (some d)) (L.del q) σ H := by
  refine ⟨by rw [List.length_set]; exact A.len, fun j d' hj => ?_, A.sto.del q⟩
  by_cases e : i = j
  · subst e
    obtain ⟨v, e1, r1⟩ := A.slot i _ hG
    cases r1
    rw [List.getElem?_set_self (List.getElem?_eq_some_iff.mp hG).1] at hj
    cases hj
    exact ⟨_, e1, A.sto.frz h⟩
  · rw [List.getElem?_set_ne e] at hj
    obtain ⟨v, e1, r1⟩ := A.slot j d' hj
    exact ⟨v, e1, r1.mono (kp_dom (L := L) (L' := L.del q) rfl fun a h => del_none h)⟩
/-- slot i's cell stays as it is from now on -/
theorem ws_frz (i : Nat) {q : Addr} {d : D} {sts : List Stmt} {E : AE} (h : L q = some d) (hw : Ws S (G.set i (some d)) (L.del q) sts E) (hG : G[i]? = some (some (.ptr q)) := by rfl) : Ws S G L sts E :=
  ws_abs (fun σ H A => ⟨abs_frz A h i hG, keep_del q⟩) hw
/-- nothing may change -/
def Sto.cold (L : Sto) : Sto := { L with c := fun _ => none }
theorem kp_cold {H : Hp} : Kp L.dom H L.cold.dom H := kp_dom (L' := L.cold) rfl fun _ _ => rfl
theorem StoOk.cold {H : Hp} (s : StoOk L H) : StoOk L.cold H := ⟨fun _ _ h => (nomatch h), fun p h => ⟨(s.prot p h).1, rfl⟩⟩
theorem Rep.cell {H : Hp} {q : Addr} {d : D} (s : StoOk L H) (h : L q = some d) : Rep L.cold.dom H d (.ref q) := by
  have n : ¬ L.cold.dom q := fun z => z.elim (fun z => z rfl) fun z => by have := (s.prot q z).2; rw [h] at this; cases this
  cases s.cell q d h with
  | lst e r => exact .lst n e (r.mono kp_cold)
  | dct e r => exact .dct n (.inl e) (r.mono kp_cold)
  | ins e r => exact .ins n e (r.mono kp_cold)
/-- d', where d may point to cells: what a reader sees -/
inductive See (L : Sto) : D → D → Prop
  | rfl {d} : See L d d
  | cell {q d} : L q = some d → See L (.ptr q) d
theorem See.rep {H : Hp} {d d' : D} {v : V} (s : StoOk L H) (h : See L d d') (r : Rep L.dom H d v) : Rep L.cold.dom H d' v := by
  cases h with
  | rfl => exact r.mono kp_cold
  | cell h => cases r; exact Rep.cell s h
/-- an expression that only reads: nothing is a cell meanwhile -/
theorem ev_cold {G' : Gam} {r : D} (hr : ∃ v, Fl r v) (hG : ∀ σ H, Abs G L σ H → Abs G' L.cold σ H) (hw : Ev S G' L.cold e r) : Ev S G L e r := fun σ H A Q c =>
  (hw.run (hG σ H A) fun v H' k1 A1 r1 => by
    obtain ⟨v', f⟩ := hr
    obtain rfl := f.eq r1
    have sm : Same H H' := fun p o h => (k1.at_ p o rfl h).2
    exact c.mk1 ⟨rfl, rfl⟩ A.sto sm f.rep)
end
end FS
/-! text W10 -/
/-! W10: and, or, chains, stores of pairs, displays, dicts compared. -/
namespace FS
open PySem PySem.Spec PyProof.Rows L2
section
variable {B : Bg} {N : List Str} {sc : Scope} {k : Nat}
variable {S : Sit B N sc k} {G : Gam} {L : Sto} {e a b c o : Expr} {pos p apos : Pos} {post : D → Sto → Prop} {es rest : List Expr}
/-! ### and, or as tests -/
def MW (S : Sit B N sc k) (e : Expr) : TT := fun σ H Q => ∃ t, (∀ X, S.X X → PW X e t) ∧ t σ H Q
theorem mw {X : Cx} (h : S.X X) {e : Expr} : PW X e (MW S e) := ⟨fun w pins s σ H Q I ⟨t, a, b⟩ => (a X h).run w pins s σ H Q I b⟩
def Ww (S : Sit B N sc k) (G : Gam) (L : Sto) (e : Expr) (post : Bool → Sto → Prop) : Prop := ∀ σ H, Abs G L σ H → ∀ Q, ContB L H post Q → MW S e σ H Q
theorem ww_and1 {p : Bool → Sto → Prop} (h : Wt S G L a p) : Ww S G L (.BoolOp .And [a] pos) p := fun σ H A Q c => ⟨MT S a, fun X hX => pw_and1 (mt hX), h σ H A Q c⟩
theorem ww_or1 {p : Bool → Sto → Prop} (h : Wt S G L a p) : Ww S G L (.BoolOp .Or [a] pos) p := fun σ H A Q c => ⟨MT S a, fun X hX => pw_or1 (mt hX), h σ H A Q c⟩
theorem ww_and {p : Bool → Sto → Prop} (h : Wt S G L a fun x L1 => if x = true then Ww S G L1 (.BoolOp .And (b :: rest) pos) p else p false L1) : Ww S G L (.BoolOp .And (a :: b :: rest) pos) p := fun σ H A Q c =>
  ⟨tAnd (MT S a) (MW S (.BoolOp .And (b :: rest) pos)), fun X hX => pw_and (mt hX) (mw hX), h σ H A _ fun x L1 H1 w k1 s1 => by
    cases x with
    | true => rw [if_pos rfl] at w ⊢; exact w σ H1 (A.mono k1 s1) Q (c.trans k1)
    | false => rw [if_neg Bool.false_ne_true] at w ⊢; exact c _ _ _ w k1 s1⟩
theorem ww_or {p : Bool → Sto → Prop} (h : Wt S G L a fun x L1 => if x = true then p true L1 else Ww S G L1 (.BoolOp .Or (b :: rest) pos) p) : Ww S G L (.BoolOp .Or (a :: b :: rest) pos) p := fun σ H A Q c =>
  ⟨tOr (MT S a) (MW S (.BoolOp .Or (b :: rest) pos)), fun X hX => pw_or (mt hX) (mw hX), h σ H A _ fun x L1 H1 w k1 s1 => by
    cases x with
    | false => rw [if_neg Bool.false_ne_true] at w ⊢; exact w σ H1 (A.mono k1 s1) Q (c.trans k1)
    | true => rw [if_pos rfl] at w ⊢; exact c _ _ _ w k1 s1⟩
theorem Ww.wt {p : Bool → Sto → Prop} (h : Ww S G L e p) : Wt S G L e p := fun σ H A Q c => ⟨MW S e, fun X hX => PW.pt (mw hX), h σ H A Q c⟩
def Ew (S : Sit B N sc k) (G : Gam) (L : Sto) (e : Expr) (b : Bool) : Prop := Ww S G L e fun d' L' => d' = b ∧ L' = L
theorem ew_and1 {x : Bool} (h : Et S G L a x) : Ew S G L (.BoolOp .And [a] pos) x := ww_and1 h
theorem ew_or1 {x : Bool} (h : Et S G L a x) : Ew S G L (.BoolOp .Or [a] pos) x := ww_or1 h
theorem ew_and {x y : Bool} (h : Et S G L a x) (h' : x = true → Ew S G L (.BoolOp .And (b :: rest) pos) y) : Ew S G L (.BoolOp .And (a :: b :: rest) pos) (x && y) := ww_and (h.wt (by
  cases x with
  | true => rw [if_pos rfl]; exact h' rfl
  | false => rw [if_neg Bool.false_ne_true]; exact ⟨rfl, rfl⟩))
theorem ew_or {x y : Bool} (h : Et S G L a x) (h' : x = false → Ew S G L (.BoolOp .Or (b :: rest) pos) y) : Ew S G L (.BoolOp .Or (a :: b :: rest) pos) (x || y) := ww_or (h.wt (by
  cases x with
  | true => rw [if_pos rfl]; exact ⟨rfl, rfl⟩
  | false => rw [if_neg Bool.false_ne_true]; exact h' rfl))
theorem Ew.et {x : Bool} (h : Ew S G L e x) : Et S G L e x := Ww.wt h
theorem et_and {x y : Bool} (h : Et S G L a x) (h' : x = true → Et S G L b y) : Et S G L (.BoolOp .And [a, b] pos) (x && y) := (ew_and h fun z => ew_and1 (h' z)).et
theorem et_or {x y : Bool} (h : Et S G L a x) (h' : x = false → Et S G L b y) : Et S G L (.BoolOp .Or [a, b] pos) (x || y) := (ew_or h fun z => ew_or1 (h' z)).et
/-- as values -/
theorem ev_or {x y : Bool} (h : Ev S G L a (.bl x)) (h' : x = false → Ev S G L b (.bl y)) : Ev S G L (.BoolOp .Or [a, b] pos) (.bl (x || y)) := fun σ H A Q c =>
  ⟨tOrV (ME S a) (ME S b), fun X hX => pe_or (me hX) (pe_one (me hX)), h.run A fun v H1 k1 A1 r => by
    cases r
    refine ⟨x, rfl, ?_⟩
    cases x with
    | true => rw [if_pos rfl]; exact (c.trans k1).at ⟨rfl, rfl⟩ A1.sto .bl
    | false => rw [if_neg Bool.false_ne_true]; exact h' rfl σ H1 A1 Q (c.trans k1)⟩
theorem ev_and {x y : Bool} (h : Ev S G L a (.bl x)) (h' : x = true → Ev S G L b (.bl y)) : Ev S G L (.BoolOp .And [a, b] pos) (.bl (x && y)) := fun σ H A Q c =>
  ⟨tAndV (ME S a) (ME S b), fun X hX => pe_and (me hX) (pe_one (me hX)), h.run A fun v H1 k1 A1 r => by
    cases r
    refine ⟨x, rfl, ?_⟩
    cases x with
    | false => rw [if_neg Bool.false_ne_true]; exact (c.trans k1).at ⟨rfl, rfl⟩ A1.sto .bl
    | true => rw [if_pos rfl]; exact h' rfl σ H1 A1 Q (c.trans k1)⟩
theorem we_if {x : Bool} (h : Et S G L c x) (hT : x = true → We S G L a post) (hF : x = false → We S G L b post) : We S G L (.IfExp c a b pos) post := fun σ H A Q cc =>
  ⟨tIf (MT S c) (ME S a) (ME S b), fun X hX => pe_ifExp (mt hX) (me hX) (me hX), h σ H A _ fun y L1 H1 ⟨e1, e2⟩ k1 s1 => by
    subst e1; subst e2
    cases y with
    | true => rw [if_pos rfl]; exact hT rfl σ H1 (A.mono k1 s1) Q (cc.trans k1)
    | false => rw [if_neg Bool.false_ne_true]; exact hF rfl σ H1 (A.mono k1 s1) Q (cc.trans k1)⟩
/-- i <= j < k, whole numbers -/
theorem ev_chain {i j l : Int} (ha : Ev S G L a (.int i)) (hb : Ev S G L b (.int j)) (hc : Ev S G L c (.int l)) (hm : lastMarks [.LtE, .Lt] [b, c] = false := by with_unfolding_all rfl) : Ev S G L (.Compare a [.LtE, .Lt] [b, c] pos) (.bl (decide (i ≤ j) && decide (j < l))) := fun σ H A Q cc =>
  ⟨_, fun X hX => pe_chain op_le op_lt (me hX) (me hX) (me hX) hm, ha.run A fun v H1 k1 A1 r1 => hb.run A1 fun u H2 k2 A2 r2 => by
    cases r1; cases r2
    refine ⟨i, j, rfl, rfl, _, rfl, ?_⟩
    have c2 := (cc.trans k1).trans k2
    by_cases h : i ≤ j
    · rw [if_pos (decide_eq_true h)]
      refine hc.run A2 fun w H3 k3 A3 r3 => ?_
      cases r3
      refine ⟨j, l, rfl, rfl, (c2.trans k3).at ⟨by rw [decide_eq_true h]; rfl, rfl⟩ A3.sto .bl⟩
    · rw [if_neg (by simpa using h)]
      exact c2.at ⟨by rw [decide_eq_false h]; rfl, rfl⟩ A2.sto .bl⟩
/-- x is not True -/
theorem et_isnotT {x y : Bool} (ha : Ev S G L a (.bl x)) (hb : Ev S G L b (.bl y)) : Et S G L (.Compare a [.IsNot] [b] pos) (!decide (x = y)) := wt_cmp (byX fun y _ => op_isnot_bl) (nomark _) (pure2 ha hb fun H v u s r1 r2 Q c => by
  cases r1; cases r2; exact ⟨x, y, rfl, rfl, c.at ⟨_, rfl, rfl, rfl⟩ s .bl⟩)
/-! ### a, b = e -/
theorem wo_asg {tg : Expr} {E : AE} (h : We S G L e fun d L' => ∃ G' is, Wg S tg d G G' is ∧ E.nx G' L') (hs : ∀ env, swapsWithSole [tg] e pos.line env = pure false := by intro _; rfl) (hw : ∀ env, swappedStores [tg] e env = pure none := by intro _; rfl)
    (h1 : ∀ env, (assignEach [tg] env).map (·.2) = [assign tg env] := by intro _; rfl) : Wo S G L (.Assign [tg] e pos) E := fun σ H A D c =>
  ⟨tAsg (ME S e) (MG S tg), fun X hX => ps_asg (me hX) (mg S hX) (hs _) (hw _) (h1 _), h σ H A _ fun d L' v H' ⟨G', is, g, w⟩ k1 s1 r1 => g L' σ H' v (A.mono k1 s1) r1 _ fun σ' A' _ => c.nx _ _ _ _ w k1 A'⟩
theorem ws_asg {tg : Expr} {rs : List Stmt} {E : AE} (h : We S G L e fun d L' => ∃ G' is, Wg S tg d G G' is ∧ Ws S G' L' rs E) (hs : ∀ env, swapsWithSole [tg] e pos.line env = pure false := by intro _; rfl) (hw : ∀ env, swappedStores [tg] e env = pure none := by intro _; rfl)
    (h1 : ∀ env, (assignEach [tg] env).map (·.2) = [assign tg env] := by intro _; rfl) : Ws S G L (.Assign [tg] e pos :: rs) E := ws_cons (wo_asg h hs hw h1)
/-! ### displays of dicts, the values flat -/
inductive EvP (S : Sit B N sc k) (G : Gam) (L : Sto) : List (Option Expr) → List Expr → List (Key × D) → List (Key × V) → Prop
  | nil : EvP S G L [] [] [] []
  | cons {kx vx dk dv kk v ks vs kvs us} : Ev S G L kx dk → (∀ M H v, Rep M H dk v → v = kV kk) → Ev S G L vx dv → Fl dv v → EvP S G L ks vs kvs us → EvP S G L (some kx :: ks) (vx :: vs) ((kk, dv) :: kvs) ((kk, v) :: us)
def trsOf (S : Sit B N sc k) : List (Option Expr) → List Expr → List (TE × TE)
  | some kx :: ks, vx :: vs => (ME S kx, ME S vx) :: trsOf S ks vs
  | _, _ => []
theorem EvP.pps {X : Cx} (hX : S.X X) {ks : List (Option Expr)} {vs : List Expr} {kvs : List (Key × D)} {us} (h : EvP S G L ks vs kvs us) : PPs X pos ks vs (trsOf S ks vs) := by
  induction h with
  | nil => exact pps_nil
  | cons a b c f d ih => exact pps_cons (me hX) (me hX) ih
theorem EvP.run {ks : List (Option Expr)} {vs : List Expr} {kvs : List (Key × D)} {us} (h : EvP S G L ks vs kvs us) : ∀ {σ H} (A : Abs G L σ H) {Q : List (V × V) → Hp → Prop}, (∀ H', Keep L H L H' → Abs G L σ H' → Q (us.map fun kv => (kV kv.1, kv.2)) H') → tPairs (trsOf S ks vs) σ H Q := by
  induction h with
  | nil => intro σ H A Q c; exact c H .refl A
  | @cons kx vx dk dv kk v ks vs kvs us a b cc f d ih =>
    intro σ H A Q c
    refine a.run A fun u H1 k1 A1 r1 => cc.run A1 fun u2 H2 k2 A2 r2 => ih A2 fun H3 k3 A3 => ?_
    obtain rfl := b _ _ _ r1
    obtain rfl := f.eq r2
    exact c H3 ((k1.trans k2).trans k3) A3
theorem EvP.rep {ks : List (Option Expr)} {vs : List Expr} {kvs : List (Key × D)} {us} (h : EvP S G L ks vs kvs us) {M H} : ∀ {acc : List (Key × D)} {vacc : List (Key × V)}, RepK M H acc vacc → RepK M H (putAll acc kvs) (mergeK vacc us) := by
  induction h with
  | nil => intro acc vacc r; exact r
  | cons a b cc f d ih => intro acc vacc r; exact ih (r.put f.rep)
theorem EvP.len {ks : List (Option Expr)} {vs : List Expr} {kvs : List (Key × D)} {us} (h : EvP S G L ks vs kvs us) : us.length = ks.length ∧ ks.length = vs.length ∧ ks.all (·.isSome) = true := by
  induction h with
  | nil => exact ⟨rfl, rfl, rfl⟩
  | cons a b cc f d ih => exact ⟨by simp [ih.1], by simp [ih.2.1], by simp [ih.2.2]⟩
theorem we_disp {ks : List (Option Expr)} {vs : List Expr} {kvs : List (Key × D)} {us : List (Key × V)} (h : ∀ p, EvP S G (L.prot p) ks vs kvs us) (hp : (post (.dct (putAll [] kvs)) L) ∨ ∀ q, L q = none → post (.ptr q) (L.set q (.dct (putAll [] kvs)))) (h0 : ks ≠ [] := by exact fun z => nomatch z) (h15 : ks.length ≤ 15 := by decide) : We S G L (.Dict ks vs pos) post := fun σ H A Q c =>
  ⟨tDisp (trsOf S ks vs), fun X hX => pe_disp ((h 0).pps hX) (h 0).len.2.2 (h 0).len.2.1 h0 h15, fun q nq => by
    have nL : L q = none := sto_new nq A.sto
    refine (h q).run (A.protect nq) fun H2 k2 A2 => ?_
    have e2 := (k2.at_ q _ nL upd_same).2
    refine ⟨e2, us, rfl, by rw [(h q).len.1]; exact h15, ?_⟩
    have kk : Keep L H L (upd H2 q (.dK (mergeK [] us))) := ⟨rfl, fun a o h1 h2 => by
      have ne := ne_of_none h2 nq
      exact ⟨h1, by rw [upd_ne ne]; exact (k2.at_ a o h1 (by rw [upd_ne ne]; exact h2)).2⟩⟩
    have A3 := A2.write (o := .dK (mergeK [] us)) nL
    have r3 : RepK (L.prot q).dom (upd H2 q (.dK (mergeK [] us))) (putAll [] kvs) (mergeK [] us) := (h q).rep .nil
    rcases hp with hp | hp
    · refine c _ L _ _ hp kk A3.unprot.sto (.dct (fun z => ?_) (.inl upd_same) (r3.mono kp_unprot))
      rcases z with z | z
      · exact z nL
      · exact (A.sto.prot q z).1 nq
    · -- as a cell
      have s3 := A3.unprot.sto
      have r4 := r3.mono kp_unprot
      have k4 : Kp L.dom (upd H2 q (.dK (mergeK [] us))) (L.set q (.dct (putAll [] kvs))).dom (upd H2 q (.dK (mergeK [] us))) → True := fun _ => trivial
      refine c (.ptr q) (L.set q (.dct (putAll [] kvs))) _ _ (hp q nL) ⟨rfl, fun a o h1 h2 => ?_⟩ ⟨fun a d ha => ?_, fun a ha => ?_⟩ .ptr
      · have ne := ne_of_none h2 nq
        exact ⟨by rw [Sto.set_ne ne]; exact h1, (kk.at_ a o h1 h2).2⟩
      · have kq : Kp (L.prot q).dom (upd H2 q (.dK (mergeK [] us))) (L.set q (.dct (putAll [] kvs))).dom (upd H2 q (.dK (mergeK [] us))) := fun x n u r => by
          have ne : x ≠ q := fun e => n (by rw [e]; exact .inr (.inr rfl))
          have n' : ¬ (L.set q (.dct (putAll [] kvs))).dom x := fun z => z.elim (fun z => n (.inl (by rw [Sto.set_ne ne] at z; exact z))) fun z => n (.inr (.inl z))
          exact ⟨fun _ _ => ⟨n', r⟩, fun h _ _ => ⟨n', h⟩⟩
        by_cases e : a = q
        · subst e
          rw [Sto.set_same] at ha; cases ha
          exact .dct upd_same (r3.mono kq)
        · rw [Sto.set_ne e] at ha
          exact (A3.sto.cell a d ha).mono kq rfl
      · have ne : a ≠ q := fun e => by subst e; exact (A.sto.prot a ha).1 nq
        exact ⟨(s3.prot a ha).1, by rw [Sto.set_ne ne]; exact (A.sto.prot a ha).2⟩⟩
theorem ev_disp {ks : List (Option Expr)} {vs : List Expr} {kvs rs : List (Key × D)} {us : List (Key × V)} (h : ∀ p, EvP S G (L.prot p) ks vs kvs us) (hr : putAll [] kvs = rs) (h0 : ks ≠ [] := by exact fun z => nomatch z) (h15 : ks.length ≤ 15 := by decide) : Ev S G L (.Dict ks vs pos) (.dct rs) := we_disp h (.inl ⟨by rw [hr], rfl⟩) h0 h15
/-! ### {**a, **b} -/
theorem mergeK_rep {M H} {ds : List (Key × D)} {vs : List (Key × V)} (r : RepK M H ds vs) : ∀ {acc : List (Key × D)} {vacc : List (Key × V)}, RepK M H acc vacc → RepK M H (putAll acc ds) (mergeK vacc vs) := by
  induction ds generalizing vs with
  | nil => intro acc vacc q; cases r; exact q
  | cons d ds ih => intro acc vacc q; cases r with | cons a b => exact ih b (q.put a)
theorem ev_star2 {d d' : D} {ds ds' : List (Key × D)} (l : Lk L d (.dct ds)) (l' : Lk L d' (.dct ds')) (hz : ds.length ≤ 1000) (hz' : ds'.length ≤ 1000) (ha : ∀ p, Ev S G (L.prot p) a d) (hb : ∀ p, Ev S G (L.prot p) b d') : Ev S G L (.Dict [none, none] [a, b] pos) (.dct (putAll (putAll [] ds) ds')) := fun σ H A Q c =>
  ⟨tStar2 (ME S a) (ME S b), fun X hX => pe_star2 (me hX) (me hX), fun q nq => by
    have nL : L q = none := sto_new nq A.sto
    have lp : ∀ {d c}, Lk L d c → Lk (L.prot q) d c := fun l => l
    refine (ha q).run (A.protect nq) fun v H1 k1 A1 r1 => ?_
    obtain ⟨p, vs, rfl, hp, rs⟩ := (lp l).dct A1.sto r1
    have e1 := (k1.at_ q _ nL upd_same).2
    -- the source is not the new dict
    have nqp : ∀ {H' : Hp} {dd : D} {x : Addr} {cc : List (Key × D)}, Lk L dd (.dct cc) → Rep (L.prot q).dom H' dd (.ref x) → q ≠ x := fun {H' dd x cc} l r e => by
      subst e
      rcases l with rfl | ⟨y, rfl, hy⟩
      · cases r with | dct n _ _ => exact n (.inr (.inr rfl))
      · cases r; rw [nL] at hy; cases hy
    have kw1 := kp_write (H := H1) (M := (L.prot q).dom) (o := .dK (mergeK [] vs)) (.inr (.inr rfl))
    have A2 := A1.write (o := .dK (mergeK [] vs)) nL
    refine ⟨p, vs, rfl, nqp l r1, e1, hp, by rw [rs.length]; exact hz, (hb q).run A2 fun u H2 k2 A3 r2 => ?_⟩
    obtain ⟨p2, vs2, rfl, hp2, rs2⟩ := (lp l').dct A3.sto r2
    have e2 := (k2.at_ q _ nL upd_same).2
    refine ⟨p2, vs2, rfl, nqp l' r2, e2, hp2, by rw [rs2.length]; exact hz', ?_⟩
    have A4 := A3.write (o := .dK (mergeK (mergeK [] vs) vs2)) nL
    have kw2 := kp_write (H := H2) (M := (L.prot q).dom) (o := .dK (mergeK (mergeK [] vs) vs2)) (.inr (.inr rfl))
    have r4 := mergeK_rep (rs2.mono kw2) (mergeK_rep (((rs.mono kw1).mono k2.kp).mono kw2) (.nil))
    refine c _ L _ _ ⟨rfl, rfl⟩ ⟨rfl, fun a o h1 h2 => ?_⟩ A4.unprot.sto (.dct (fun z => ?_) (.inl upd_same) (r4.mono kp_unprot))
    · have ne := ne_of_none h2 nq
      have q1 := (k1.at_ a o h1 (by rw [upd_ne ne]; exact h2)).2
      exact ⟨h1, by rw [upd_ne ne]; exact (k2.at_ a o h1 (by rw [upd_ne ne]; exact q1)).2⟩
    · rcases z with z | z
      · exact z nL
      · exact (A.sto.prot q z).1 nq⟩
/-! ### [*xs, y] -/
theorem wa_star {d : D} {ds : List D} {p' : Pos} {po : List D → Sto → Prop} (l : Lk L d (.lst ds)) (h : Ev S G L e d) (hr : Wa S G L es fun xs L2 => po (ds ++ xs) L2) (hs : ∀ env, starEach (.Starred e p' :: es) env = (true, eval e env) :: starEach es env := by intro _; rfl) : Wa S G L (.Starred e p' :: es) po := fun σ H A Q c =>
  ⟨StX.tStar B.K (ME S e) (MA S es), fun X hX => by
    have h1 := me hX (e := e); have h2 := ma hX (e := es)
    obtain ⟨y, rfl, _⟩ := S.fam X hX
    exact StX.pa_star h1 h2 (hs _), h.run A fun v H1 k1 A1 r1 => by
    obtain ⟨q, us, rfl, hq, ru⟩ := l.lst A1.sto r1
    exact ⟨q, us, rfl, .inr (.inl (.inl hq)), hr σ H1 A1 _ fun xs L2 vs H2 w k2 s2 r2 => c _ _ _ _ w (k1.trans k2) s2 ((ru.mono k2.kp).append r2)⟩⟩
/-! ### dicts compared: equal ones -/
section
variable {X : Cx}
def rDR (K : PySem.W.Frag) (r : Bool) : R2 := fun x y H Q => ∃ a b ks ls, x = .ref a ∧ y = .ref b ∧ Rd H a (.dK ks) ∧ Rd H b (.dK ls) ∧ ks.length = ls.length ∧ (∀ p ∈ ks, valV ls p.1 = some p.2 ∧ flatB p.2 = true) ∧ Q (.bl r) H
theorem op_eqR (hu : X.A.units < cLine) : OpR X (compareOp .Eq) (rDR X.K true) := by
  intro pins s σ H x y v u Q I rx ry h
  obtain ⟨a, b, ks, ls, rfl, rfl, ea, eb, hlen, hp, q⟩ := h
  obtain rfl : v = Value.ref a := rx
  obtain rfl : u = Value.ref b := ry
  obtain ⟨_, ya, va, ra, da⟩ := dk_rd I.hok ea
  obtain ⟨_, yb, vb, rb, db⟩ := dk_rd I.hok eb
  have hl : va.length = vb.length := by rw [← ra.length, ← rb.length]; exact hlen
  exact PySem.W.keq_eq (knd := mixKind X.prog X.w) (r := true) ya yb da db hu (fun _ => hits_all rb ra hp) (fin_bl I q (by simp [hl]))
theorem op_neR (hu : X.A.units < cLine) : OpR X (compareOp .NotEq) (rDR X.K false) := by
  intro pins s σ H x y v u Q I rx ry h
  obtain ⟨a, b, ks, ls, rfl, rfl, ea, eb, hlen, hp, q⟩ := h
  obtain rfl : v = Value.ref a := rx
  obtain rfl : u = Value.ref b := ry
  obtain ⟨_, ya, va, ra, da⟩ := dk_rd I.hok ea
  obtain ⟨_, yb, vb, rb, db⟩ := dk_rd I.hok eb
  have hl : va.length = vb.length := by rw [← ra.length, ← rb.length]; exact hlen
  exact PySem.W.keq_ne (knd := mixKind X.prog X.w) (r := true) ya yb da db hu (fun _ => hits_all rb ra hp) (fin_bl I q (by simp [hl]))
end
/-- the two dicts hold the same -/
def EqD (ds ds' : List (Key × D)) : Prop := ds.length = ds'.length ∧ ∀ p ∈ ds, ∃ i : Int, p.2 = .int i ∧ valG ds' p.1 = some (.int i)
theorem eqD_rep {M H} {ds ds' : List (Key × D)} (h : EqD ds ds') {vs vs'} (r : RepK M H ds vs) (r' : RepK M H ds' vs') : vs.length = vs'.length ∧ ∀ p ∈ vs, valV vs' p.1 = some p.2 ∧ flatB p.2 = true := by
  refine ⟨by rw [r.length, r'.length]; exact h.1, fun p hp => ?_⟩
  obtain ⟨i, hi⟩ := List.mem_iff_getElem?.mp hp
  have hl : i < ds.length := by rw [← r.length]; exact (List.getElem?_eq_some_iff.mp hi).1
  obtain ⟨v, hv, rv⟩ := r.get (List.getElem?_eq_getElem hl)
  rw [hi] at hv; cases hv
  obtain ⟨j, e1, e2⟩ := h.2 ds[i] (List.getElem_mem hl)
  rw [e1] at rv; cases rv
  obtain ⟨w, hw, rw'⟩ := r'.val.1 _ e2
  cases rw'
  exact ⟨hw, rfl⟩
theorem ev_eqDct {d d' : D} {ds ds' : List (Key × D)} (l : Lk L d (.dct ds)) (l' : Lk L d' (.dct ds')) (h : EqD ds ds') (ha : Ev S G L a d) (hb : Ev S G L b d') : Ev S G L (.Compare a [.Eq] [b] pos) (.bl true) := we_cmp (r := rDR B.K true) (byX fun y hr => op_eqR hr.units0) (nomark _) (pure2 ha hb fun H v u s r1 r2 Q c => by
  obtain ⟨q, us, rfl, hq, ru⟩ := l.dct s r1
  obtain ⟨q', us', rfl, hq', ru'⟩ := l'.dct s r2
  obtain ⟨z1, z2⟩ := eqD_rep h ru ru'
  exact ⟨q, q', us, us', rfl, rfl, hq, hq', z1, z2, c.at ⟨rfl, rfl⟩ s .bl⟩)
theorem et_neDct {d d' : D} {ds ds' : List (Key × D)} (l : Lk L d (.dct ds)) (l' : Lk L d' (.dct ds')) (h : EqD ds ds') (ha : Ev S G L a d) (hb : Ev S G L b d') : Et S G L (.Compare a [.NotEq] [b] pos) false := wt_cmp (r := rDR B.K false) (byX fun y hr => op_neR hr.units0) (nomark _) (pure2 ha hb fun H v u s r1 r2 Q c => by
  obtain ⟨q, us, rfl, hq, ru⟩ := l.dct s r1
  obtain ⟨q', us', rfl, hq', ru'⟩ := l'.dct s r2
  obtain ⟨z1, z2⟩ := eqD_rep h ru ru'
  exact ⟨q, q', us, us', rfl, rfl, hq, hq', z1, z2, c.at ⟨_, rfl, rfl, rfl⟩ s .bl⟩)
/-- xs.count(n) -/
theorem ev_count {d : D} {ns : List Int} {i : Int} (l : Lk L d (.lst (ns.map D.int))) (ho : Ev S G L o d) (h : Ev S G L e (.int i))
    (hbase : ∀ env, attributeBase o "count" env (eval o env) = eval o env := by intro _; rfl) (he : St1 e := by intro _; rfl) (hline : (apos.endLine == pos.line) = true := by rfl) : Ev S G L (.Call (.Attribute o "count" apos) [e] [] pos) (.int (ns.count i : Nat)) := fun σ H A Q c =>
  ⟨tBM B.K "list" (rCntI B.K) (ME S o) (MA S [e]), fun X hX => by
    have h1 := me hX (e := o); have h2 := ma hX (e := [e])
    obtain ⟨y, rfl, _⟩ := S.fam X hX
    exact pe_bm PySem.F.plainAttrs_list PySem.F.slot_list_count PySem.F.type_list_count mt_lcount h1 h2 (hbase _) (by rw [he]; rfl) hline (he _) rfl, ho.run A fun u H1 k1 A1 r1 => by
    obtain ⟨q, us, rfl, hq, ru⟩ := l.lst A1.sto r1
    refine ⟨tyV_lst hq, ea_1 h he σ H1 A1 _ fun ds' L' vs H2 ⟨e1, e2⟩ k2 s2 r2 => ?_⟩
    subst e1; subst e2
    obtain ⟨v, rfl, rv⟩ := reps1 r2
    cases rv
    obtain ⟨q', us', eq', hq', ru'⟩ := l.lst s2 (r1.mono k2.kp)
    cases eq'
    obtain rfl := ru'.ints
    exact ⟨_, ns, i, rfl, rfl, .inl (.inl hq'), ((c.trans k1).trans k2).at ⟨rfl, rfl⟩ s2 .int⟩⟩
end
end FS
/-! text W11 -/
/-! W11: loops by an invariant. -/
namespace FS
open PySem PySem.Spec PyProof.Rows L2
section
variable {B : Bg} {N : List Str} {sc : Scope} {k : Nat}
variable {S : Sit B N sc k} {G : Gam} {L : Sto} {tg : Expr} {body : List Stmt}
structure AE.Le (a b : AE) : Prop where
  nx : ∀ G L, a.nx G L → b.nx G L
  rt : ∀ d L, a.rt d L → b.rt d L
  bk : ∀ G L, a.bk G L → b.bk G L
  ct : ∀ G L, a.ct G L → b.ct G L
  xc : ∀ C fs L, a.xc C fs L → b.xc C fs L
theorem Ws.mono {sts : List Stmt} {E E' : AE} (h : Ws S G L sts E) (i : AE.Le E E') : Ws S G L sts E' := fun σ H A D c =>
  h σ H A D ⟨fun G' L' σ' H' w => c.nx G' L' σ' H' (i.nx _ _ w), fun d L' v H' w => c.rt d L' v H' (i.rt _ _ w), fun G' L' σ' H' w => c.bk G' L' σ' H' (i.bk _ _ w), fun G' L' σ' H' w => c.ct G' L' σ' H' (i.ct _ _ w), fun C fs L' dd vs H' w => c.xc C fs L' dd vs H' (i.xc _ _ _ w)⟩
theorem forW_inv {ds : List D} {E : AE} (I : Nat → Gam → Sto → Prop) (h0 : I 0 G L)
    (hs : ∀ i d G L, ds[i]? = some d → I i G L → ∃ G' is, Wg S tg d G G' is ∧ Ws S G' L body { nx := I (i + 1), rt := E.rt, bk := E.nx, ct := I (i + 1), xc := E.xc }) (hd : ∀ G L, I ds.length G L → E.nx G L) : ForW S tg body E ds G L := by
  have w : ∀ (n i : Nat) (G : Gam) (L : Sto), ds.length - i = n → i ≤ ds.length → I i G L → ForW S tg body E (ds.drop i) G L := by
    intro n
    induction n with
    | zero =>
      intro i G L hn hi h
      have e : i = ds.length := by omega
      subst e
      rw [List.drop_length]
      exact hd G L h
    | succ n ih =>
      intro i G L hn hi h
      have hl : i < ds.length := by omega
      rw [List.drop_eq_getElem_cons hl]
      obtain ⟨G', is, g, q⟩ := hs i ds[i] G L (List.getElem?_eq_getElem hl) h
      exact ⟨G', is, g, q.mono ⟨fun G2 L2 h2 => ih (i + 1) G2 L2 (by omega) hl h2, fun _ _ z => z, fun _ _ z => z, fun G2 L2 h2 => ih (i + 1) G2 L2 (by omega) hl h2, fun _ _ _ z => z⟩⟩
  have := w ds.length 0 G L rfl (Nat.zero_le _) h0
  rwa [List.drop_zero] at this
end
end FS
namespace FS
open PySem PySem.Spec PyProof.Rows L2
section
variable {B : Bg} {N : List Str} {sc : Scope} {k : Nat}
variable {S : Sit B N sc k} {G : Gam} {L : Sto} {sts : List Stmt} {E : AE} {q : Addr} {d : D}
/-- slot i's new cell stays as it is from now on -/
theorem ws_frzN (i : Nat) (n : L q = none) (hw : Ws S (G.set i (some d)) L sts E) (hG : G[i]? = some (some (.ptr q)) := by rfl) : Ws S G (L.set q d) sts E :=
  ws_frz i Sto.set_same (by rw [Sto.del_set n]; exact hw) hG
theorem abs_del {σ : L2.St} {H : Hp} (A : Abs G L σ H) (q : Addr) : Abs G (L.del q) σ H :=
  ⟨A.len, fun i d h => let ⟨v, e, r⟩ := A.slot i d h; ⟨v, e, r.mono (kp_dom (L := L) (L' := L.del q) rfl fun a h => del_none h)⟩, A.sto.del q⟩
/-- a cell forgotten -/
theorem ws_del (q : Addr) (hw : Ws S G (L.del q) sts E) : Ws S G L sts E := ws_abs (fun σ H A => ⟨abs_del A q, keep_del q⟩) hw
theorem ws_delN (n : L q = none) (hw : Ws S G L sts E) : Ws S G (L.set q d) sts E := ws_del q (by rw [Sto.del_set n]; exact hw)
end
end FS
/-! text W12 -/
/-! W12: many dicts locked at once; a cell's items by their addresses. -/
namespace FS
open PySem PySem.Spec PyProof.Rows L2
section
variable {B : Bg} {N : List Str} {sc : Scope} {k : Nat}
variable {S : Sit B N sc k} {G : Gam} {L : Sto} {e : Expr} {post : D → Sto → Prop}
/-- all but the dicts stands as it stood -/
def NoD (H H1 : Hp) : Prop := ∀ q o, H q = some o → (∀ vs, o ≠ .dK vs) → H1 q = some o
theorem lockE' {σ : L2.St} {H : Hp} {p : Addr} {vs : List (Key × V)} (A : Abs G L σ H) (hp : Rd H p (.dK vs)) (n : ¬ L.dom p) {Q : VK} (c : Cont L H post Q)
    (h : ∀ H1 od, H1 p = some (.frz od (.dK vs)) → Abs G L σ H1 → Kp L.dom H L.dom H1 → NoD H H1 → ∀ Q, Cont L H1 post Q → ME S e σ H1 Q) : ME S e σ H Q := by
  have n' : L p = none := nn fun z => n (.inl z)
  rcases hp with hp | ⟨od, hp⟩
  · refine ⟨tLockE (ME S e), fun X hX => pe_lock (me hX), p, .dK vs, hp, trivial, fun od => ?_⟩
    refine h _ od upd_same (A.at n' (kp_lock hp)) (kp_lock hp) (fun q o hq ho => ?_) _ fun d L' v H' w k s r => ?_
    · have ne : q ≠ p := fun e => by subst e; rw [hp] at hq; cases hq; exact ho _ rfl
      rw [upd_ne ne]; exact hq
    · obtain ⟨q1, q2, q3⟩ := keep_unlock hp n' k
      exact ⟨q1, c d L' v _ w q3 (s.at q2 (kp_unlock q1)) (r.mono (kp_unlock q1))⟩
  · exact h H od hp A (fun q n u r => ⟨fun _ _ => ⟨n, r⟩, fun h _ _ => ⟨n, h⟩⟩) (fun _ _ h _ => h) Q c
theorem Kp.trans {M M1 M2 : Addr → Prop} {H H1 H2 : Hp} (a : Kp M H M1 H1) (b : Kp M1 H1 M2 H2) : Kp M H M2 H2 := fun q n u r => by
  refine ⟨fun vs e => ?_, fun h h2 h3 => ?_⟩
  · obtain ⟨x1, x2⟩ := (a q n u r).1 vs e
    exact (b q x1 u x2).1 vs e
  · obtain ⟨x1, x2⟩ := (a q n u r).2 h h2 h3
    exact (b q x1 u (.inl x2)).2 x2 h2 h3
theorem lockAllE {σ : L2.St} : ∀ {ps : List (Addr × List (Key × V))} {H : Hp} (A : Abs G L σ H) (hp : ∀ x ∈ ps, Rd H x.1 (.dK x.2) ∧ ¬ L.dom x.1) {Q : VK} (c : Cont L H post Q)
    (h : ∀ H1, Abs G L σ H1 → Kp L.dom H L.dom H1 → NoD H H1 → (∀ x ∈ ps, ∃ od, H1 x.1 = some (.frz od (.dK x.2))) → ∀ Q, Cont L H1 post Q → ME S e σ H1 Q), ME S e σ H Q
  | [], H, A, hp, Q, c, h => h H A (fun q n u r => ⟨fun _ _ => ⟨n, r⟩, fun h _ _ => ⟨n, h⟩⟩) (fun _ _ h _ => h) (fun _ z => by cases z) Q c
  | x :: ps, H, A, hp, Q, c, h => by
    obtain ⟨h1, h2⟩ := hp x (List.mem_cons_self ..)
    refine lockE' A h1 h2 c fun H1 od e1 A1 k1 n1 Q1 c1 => ?_
    refine lockAllE (ps := ps) A1 (fun y hy => ?_) c1 fun H2 A2 k2 n2 l2 Q2 c2 => h H2 A2 (k1.trans k2) (fun q o a b => n2 q o (n1 q o a b) b) (fun y hy => ?_) Q2 c2
    · obtain ⟨y1, y2⟩ := hp y (List.mem_cons_of_mem _ hy)
      exact ⟨((k1 y.1 y2 _ y1).1 _ rfl).2, y2⟩
    · rcases List.mem_cons.mp hy with rfl | hy
      · exact ⟨od, n2 _ _ e1 fun _ z => nomatch z⟩
      · exact l2 y hy
/-- the cell q, its items by their addresses -/
def pinS (L : Sto) (q : Addr) (ps : List Addr) : Sto := L.set q (.lst (ps.map .ptr))
theorem pin_dom {L : Sto} {q : Addr} {ps : List Addr} {d : D} (h : L q = some d) : (pinS L q ps).dom = L.dom := by
  funext a
  show ((pinS L q ps) a ≠ none ∨ L.P a) = (L a ≠ none ∨ L.P a)
  by_cases e : a = q
  · subst e
    unfold pinS
    rw [Sto.set_same, h]; simp
  · unfold pinS; rw [Sto.set_ne e]
theorem reps_ptr {M H} : ∀ {ps : List Addr} {vs : List V}, Reps M H (ps.map D.ptr) vs → vs = ps.map V.ref
  | [], _, .nil => rfl
  | p :: ps, _, .cons a r => by cases a; rw [reps_ptr (ps := ps) r]; rfl
theorem reps_ptr' {M H} : ∀ {ps : List Addr}, Reps M H (ps.map D.ptr) (ps.map V.ref)
  | [] => .nil
  | p :: ps => .cons .ptr (reps_ptr' (ps := ps))
theorem abs_pin {σ : L2.St} {H : Hp} {q : Addr} {ps : List Addr} {ds : List D} (A : Abs G L σ H) (hq : L q = some (.lst ds)) (hv : H q = some (.lst (ps.map V.ref))) : Abs G (pinS L q ps) σ H := by
  have hd := pin_dom (ps := ps) hq
  refine ⟨A.len, fun i d h => by rw [hd]; exact A.slot i d h, ⟨fun p d hp => ?_, fun p hp => ?_⟩⟩
  · rw [hd]
    by_cases e : p = q
    · subst e
      unfold pinS at hp; rw [Sto.set_same] at hp; cases hp
      exact .lst hv reps_ptr'
    · unfold pinS at hp; rw [Sto.set_ne e] at hp
      exact A.sto.cell p d hp
  · have ne : p ≠ q := fun e => by subst e; have := (A.sto.prot p hp).2; rw [hq] at this; cases this
    exact ⟨(A.sto.prot p hp).1, by unfold pinS; rw [Sto.set_ne ne]; exact (A.sto.prot p hp).2⟩
theorem cont_pin {H : Hp} {q : Addr} {ps : List Addr} {ds : List D} {r : D} {Q : VK} (so : StoOk L H) (hq : L q = some (.lst ds)) (hr : Reps L.dom H ds (ps.map V.ref)) (c : Cont L H (fun d L' => d = r ∧ L' = L) Q) : Cont (pinS L q ps) H (fun d L' => d = r ∧ L' = pinS L q ps) Q := fun d L' v H' ⟨e1, e2⟩ kp s' rv => by
  subst e1; subst e2
  have hd := pin_dom (ps := ps) hq
  have kk : Keep L H L H' := ⟨rfl, fun p o h1 h2 => by
    have ne : p ≠ q := fun e => by subst e; rw [hq] at h1; cases h1
    exact ⟨h1, (kp.at_ p o (by unfold pinS; rw [Sto.set_ne ne]; exact h1) h2).2⟩⟩
  refine c _ L v H' ⟨rfl, rfl⟩ kk ⟨fun p d hp => ?_, fun p hp => ?_⟩ (hd ▸ rv)
  · by_cases e : p = q
    · subst e
      have h1 := s'.cell p (.lst (ps.map .ptr)) (by unfold pinS; exact Sto.set_same)
      rw [hq] at hp; cases hp
      cases h1 with | lst z1 z2 =>
      rw [reps_ptr z2] at z1
      exact .lst z1 (hr.mono kk.kp)
    · have := s'.cell p d (by unfold pinS; rw [Sto.set_ne e]; exact hp)
      rw [hd] at this; exact this
  · exact ⟨(s'.prot p hp).1, (so.prot p hp).2⟩
/-- the addresses of dicts -/
theorem dct_refs {M H} : ∀ {ks : List (List (Key × D))} {vs : List V}, Reps M H (ks.map .dct) vs → ∃ ps : List (Addr × List (Key × V)), vs = ps.map (fun x => V.ref x.1) ∧ ps.length = ks.length ∧ (∀ x ∈ ps, Rd H x.1 (.dK x.2) ∧ ¬ M x.1) ∧ ∀ (i : Nat) (x : Addr × List (Key × V)), ps[i]? = some x → ∀ kk, ks[i]? = some kk → RepK M H kk x.2
  | [], _, .nil => ⟨[], rfl, rfl, fun _ z => (by cases z), fun i x h => by simp at h⟩
  | kk :: ks, _, .cons a r => by
    obtain ⟨ps, e, hl, h1, h2⟩ := dct_refs r
    cases a with
    | @dct p _ us n hp rk =>
    refine ⟨(p, us) :: ps, by rw [e]; rfl, by simp [hl], fun x hx => ?_, fun i x hx => ?_⟩
    · rcases List.mem_cons.mp hx with rfl | hx
      · exact ⟨hp, n⟩
      · exact h1 x hx
    · cases i with
      | zero => simp at hx; subst hx; intro kk' hk; simp at hk; subst hk; exact rk
      | succ i => intro kk' hk; exact h2 i x (by simpa using hx) kk' (by simpa using hk)
end
end FS
/-! text W13 -/
/-! W13: data compared, data as text. -/
namespace FS
open PySem PySem.Spec PyProof.Rows L2
mutual
inductive DPy : D → PyData → Prop
  | non : DPy .non .none
  | bl {b} : DPy (.bl b) (.bool b)
  | int {i} : DPy (.int i) (.int i)
  | str {x} : DPy (.str x) (.str x)
  | lst {ds qs} : DPys ds qs → DPy (.lst ds) (.list qs)
  | tup {ds qs} : DPys ds qs → DPy (.tup ds) (.tuple qs)
inductive DPys : List D → List PyData → Prop
  | nil : DPys [] []
  | cons {d q ds qs} : DPy d q → DPys ds qs → DPys (d :: ds) (q :: qs)
end
mutual
theorem DPy.dp {K : PySem.W.Frag} {M : Addr → Prop} {H : Hp} : ∀ {d q v}, DPy d q → Rep M H d v → Dp K H v q
  | _, _, _, .non, .non => .non
  | _, _, _, .bl, .bl => .bl _
  | _, _, _, .int, .int => .int _
  | _, _, _, .str, .str => .str _
  | _, _, _, .lst h, .lst _ e r => .lst (.inl (.inl e)) (DPys.dp h r)
  | _, _, _, .tup h, .tup _ e r => .tup (.inl (.inl e)) (DPys.dp h r)
theorem DPys.dp {K : PySem.W.Frag} {M : Addr → Prop} {H : Hp} : ∀ {d q v}, DPys d q → Reps M H d v → DpAll K H v q
  | _, _, _, .nil, .nil => .nil
  | _, _, _, .cons a b, .cons r s => .cons (DPy.dp a r) (DPys.dp b s)
end
theorem dpy_ints : ∀ ns : List Int, DPys (ns.map D.int) (ns.map PyData.int)
  | [] => .nil
  | n :: ns => .cons .int (dpy_ints ns)
section
variable {B : Bg} {N : List Str} {sc : Scope} {k : Nat}
variable {S : Sit B N sc k} {G : Gam} {L : Sto} {e a b : Expr} {pos p : Pos} {post : D → Sto → Prop}
theorem et_neD {x y : D} {q r : PyData} (hx : DPy x q) (hy : DPy y r) (sq : SeqAt.shaped q = true) (sr : SeqAt.shaped r = true) (ha : Ev S G L a x) (hb : Ev S G L b y) : Et S G L (.Compare a [.NotEq] [b] pos) (!PyData.eqv q r) :=
  wt_cmp (r := rNeD B.K) (byX fun y hr => op_neD hr.units) (nomark _) (pure2 ha hb fun H v u s r1 r2 Q c => ⟨q, r, hx.dp r1, hy.dp r2, sq, sr, c.at ⟨_, rfl, rfl, rfl⟩ s .bl⟩)
theorem et_eqD {x y : D} {q r : PyData} (hx : DPy x q) (hy : DPy y r) (sq : SeqAt.shaped q = true) (sr : SeqAt.shaped r = true) (ha : Ev S G L a x) (hb : Ev S G L b y) : Et S G L (.Compare a [.Eq] [b] pos) (PyData.eqv q r) :=
  wt_cmp (r := rEqD B.K) (byX fun y hr => op_eqD hr.units) (nomark _) (pure2 ha hb fun H v u s r1 r2 Q c => ⟨q, r, hx.dp r1, hy.dp r2, sq, sr, c.at ⟨_, rfl, rfl, rfl⟩ s .bl⟩)
end
/-! ### repr -/
def rRepr (K : PySem.W.Frag) (A : Around) : List V → Hp → VK → Prop := fun xs H Q => ∃ a d, xs = [V.ref a] ∧ Dp K H (.ref a) d ∧ d.showable = true ∧ d.hasDict = false ∧ A.guards = some [] ∧ d.depth ≤ 10 ∧ d.shown.length ≤ sizeLine ∧ Q (.str d.shown) H
theorem cr_repr {X : Cx} (hu : X.A.units + 64 < cLine) : CallR X (.builtin "repr") (rRepr X.K X.A) := by
  intro pins s σ H xs us Q I r h
  obtain ⟨a, d, rfl, hd, h1, h2, h3, h4, h5, q⟩ := h
  obtain ⟨u, rfl, ru⟩ := vals1 r
  cases ru
  obtain ⟨as, hr⟩ := Dp.reads I d _ _ hd rfl
  exact repr_of_reads' hr h1 (fun z => by rw [h2] at z; cases z) h3 (by omega) (fun _ _ e => e) (fun h' u tk hk => ⟨.str d.shown, H, I.kept (t' := tk) hk, ⟨_, rfl⟩, q⟩) h5
def rReprG (K : PySem.W.Frag) : List V → Hp → VK → Prop := fun xs H Q => ∃ a d, xs = [V.ref a] ∧ Dp K H (.ref a) d ∧ d.showable = true ∧ d.hasDict = false ∧ d.depth ≤ 10 ∧ d.shown.length ≤ sizeLine ∧ Q (.str d.shown) H
theorem cr_reprE {X : Cx} (hu : X.A.units + 64 < cLine) : CallR X (.builtin "repr") (fun xs H Q => ∃ a, xs = [V.ref a] ∧ H a = some (.lst []) ∧ Q (.str "[]") H) := by
  intro pins s σ H xs us Q I r h
  obtain ⟨a, rfl, ha, q⟩ := h
  obtain ⟨u, rfl, ru⟩ := vals1 r
  cases ru
  obtain ⟨its, rv, ⟨o, n, ho, hc, _, hd⟩, _⟩ := I.list (show SqL X.K H a [] from .inl (.inl ha))
  cases rv
  exact call_repr_slot (by omega) ⟨o, ho, hc⟩ F.slot_list_repr.toG (call_list_repr_empty ⟨o, ho, hc⟩ ho hd ⟨_, _, rfl, ⟨.str "[]", H, I.tok _, ⟨_, rfl⟩, q⟩⟩)
section
variable {B : Bg} {N : List Str} {sc : Scope} {k : Nat}
variable {S : Sit B N sc k} {G : Gam} {L : Sto} {e a b : Expr} {pos p : Pos} {post : D → Sto → Prop}
def Sq : D → Prop
  | .lst _ => True
  | .tup _ => True
  | _ => False
/-- data that can be shown -/
structure Shw (d : D) (q : PyData) : Prop where
  dp' : DPy d q
  sq : Sq d
  sh : q.showable = true
  nd : q.hasDict = false
  dp : q.depth ≤ 10
  ln : q.shown.length ≤ sizeLine
theorem we_repr (hg : S.gd = true) (h : We S G L e fun d L' => ∃ q, Shw d q ∧ post (.str q.shown) L') (hgl : GlS sc "repr" := by rfl) (he : St1 e := by intro _; rfl) : We S G L (.Call (.Name "repr" p) [e] [] pos) post :=
  blt1 (r := rReprG B.K) (fun X hX => by
    have hgd := S.gok hg X hX
    obtain ⟨y, rfl, hr⟩ := S.fam X hX
    have h1 := cr_repr (X := B.put N sc y) (Room.units (show Room k y.A from hr))
    intro pins s σ H xs us Q I r ⟨a, d, e1, e2, e3, e4, e5, e6, q⟩
    exact h1 pins s σ H xs us Q I r ⟨a, d, e1, e2, e3, e4, hgd, e5, e6, q⟩) (by decide) boot_repr (by decide) (by decide) (h.mono fun d L' ⟨q, hs, hp⟩ H vs s r Q c => by
    obtain ⟨v, rfl, rv⟩ := reps1 r
    have hd := hs.dp'.dp (K := B.K) rv
    have hq := hs.sq
    cases rv with
    | lst _ _ _ => exact ⟨_, q, rfl, hd, hs.sh, hs.nd, hs.dp, hs.ln, c.at hp s .str⟩
    | tup _ _ _ => exact ⟨_, q, rfl, hd, hs.sh, hs.nd, hs.dp, hs.ln, c.at hp s .str⟩
    | _ => exact hq.elim) hgl he
theorem ev_reprI {i : Int} (hz : i.natAbs.log2 < 1920) (h : Ev S G L e (.int i)) (hgl : GlS sc "repr" := by rfl) (he : St1 e := by intro _; rfl) : Ev S G L (.Call (.Name "repr" p) [e] [] pos) (.str (toString i)) :=
  blt1 (byX fun y _ => SkE.call_repr_int) (by decide) boot_repr (by decide) (by decide) (h.we fun H vs s r Q c => by
    obtain ⟨v, rfl, rv⟩ := reps1 r
    cases rv
    exact ⟨i, rfl, hz, c.at ⟨rfl, rfl⟩ s .str⟩) hgl he
theorem ev_reprE (h : Ev S G L e (.lst [])) (hgl : GlS sc "repr" := by rfl) (he : St1 e := by intro _; rfl) : Ev S G L (.Call (.Name "repr" p) [e] [] pos) (.str "[]") :=
  blt1 (byX fun y hr => cr_reprE hr.units) (by decide) boot_repr (by decide) (by decide) (h.we fun H vs s r Q c => by
    obtain ⟨v, rfl, rv⟩ := reps1 r
    cases rv with
    | lst n hh rr => cases rr; exact ⟨_, rfl, hh, c.at ⟨rfl, rfl⟩ s .str⟩) hgl he
end
end FS
/-! text W14 -/
/-! W14: list(d.keys()). -/
namespace FS
open PySem PySem.Spec PyProof.Rows L2
def keysO (v d : Addr) : HO := .ext fun h => PySem.W.KdlKeysView h v d
section
variable {X : Cx} {e : Expr} {td : TE} {apos cpos : Pos}
theorem pe_keysV (he : PE X e td) (hbase : attributeBase e "keys" X.env (eval e X.env) = eval e X.env := by rfl) (hline : (apos.endLine == cpos.line) = true := by rfl) :
    PE X (.Call (.Attribute e "keys" apos) [] [] cpos) (fun σ H Q => td σ H fun x H1 => ∃ d kvs, x = .ref d ∧ Rd H1 d (.dK kvs) ∧ ∀ v, H1 v = none → Q (.ref v) (upd H1 v (keysO v d))) := by
  refine ⟨fun pins s σ H Q I h => ?_⟩
  refine wpAny_Call_method (T := "dict") (id := "dict.keys") hbase rfl hline F.plainAttrs_dict F.slot_dict_keys F.type_dict_keys (thn (he.run pins s σ H _ I h) fun u s1 ⟨x, H1, I1, rx, d, kvs, ex, hd, q⟩ => ?_)
  subst ex
  obtain rfl : u = Value.ref d := rx
  obtain ⟨z, lo, vs, rel, dd⟩ := dk_rd I1.hok hd
  refine ⟨dd.typeIs, dd.mapOf.noDict, ?_⟩
  have nv := I1.hok.fresh (Nat.le_refl s1.heap.objs.size)
  have fin : EP X pins σ Q (.ref s1.heap.objs.size) { s1 with heap := s1.heap.push { cls := .type "dict_keys", data := .fields #[.ref d] } } := by
    refine ⟨.ref s1.heap.objs.size, _, I1.laid (a := s1.heap.objs.size) (o := keysO s1.heap.objs.size d) (t' := s1.toks) (fun _ _ q => Heap.get?_push_of_some _ q) (Nat.le_refl _) ?_, rfl, q _ nv⟩
    have g := Heap.get?_push_size s1.heap (o := { cls := .type "dict_keys", data := .fields #[.ref d] }) rfl
    exact ⟨⟨_, g, rfl, rfl⟩, ⟨_, g⟩, fun h1 h2 ⟨o, a, b, c⟩ k => ⟨o, k o a, b, c⟩⟩
  show wpAny _ _ (callWith cpos (.builtin "dict.keys") [.ref d] [] []) _ X.xe s1
  exact method_meetsIn F.slot_dict_keys F.entry_dict_keys rfl (PySem.evalArgs_none ⟨rfl, dd.typeIs, F.args_dict_keys_1 _, _, PySem.W.kdl_meets_keys (mixKind X.prog X.w) d lo, ⟨vs, dd⟩, fin⟩)
theorem call_listK (hcalm : X.calm = true) : CallR X (.type "list") (fun xs H Q => ∃ (v a : Addr) (kvs : List (Key × V)), xs = [.ref v] ∧ H v = some (keysO v a) ∧ Rd H a (.dK kvs) ∧ ∀ p, H p = none → Q (.ref p) (upd H p (.lst (kvs.map fun kv => kV kv.1)))) := by
  intro pins s σ H xs us Q I r q
  obtain ⟨v, a, kvs, ex, hv, hd, q⟩ := q
  subst ex
  obtain ⟨u, eu, rx⟩ := vals1 r
  subst eu
  cases rx
  have hview : PySem.W.KdlKeysView s.heap v a := by
    have x : ObjOk X.prog X.w H s.heap v (.ext fun h => PySem.W.KdlKeysView h v a) := I.hok v _ hv
    exact x.1
  obtain ⟨z, lo, vs, rel, dd⟩ := dk_rd I.hok hd
  obtain ⟨ep, hat⟩ := dd.dictAt
  have ek : (kvs.map fun kv => kV kv.1) = vs.map fun p => kV p.1 := by
    have e := congrArg (List.map kV) rel.keys
    simpa [List.map_map, Function.comp_def] using e
  refine PySem.W.kdl_call (PySem.W.kdl_keys (knd := mixKind X.prog X.w) (kvs := vs) (ep := ep)) (I.ok.hd hcalm) ⟨hview, hat⟩ (by rw [← rel.length]; exact z) fun h' tk acc c' hk hD hacc => ?_
  have hvl : Vals (vs.map fun p => kV p.1) acc.toList := keys_at (by rw [Array.length_toList]; exact hacc.1) fun j w' e => hacc.2 j w' (by rw [← Array.getElem?_toList]; exact e)
  refine ⟨.ref s.heap.objs.size, _, I.laid (t' := tk) (o := .lst (kvs.map fun kv => kV kv.1)) hk (Nat.le_refl _) ⟨by rw [List.length_map]; exact z, acc.toList, c', by rw [ek]; exact hvl, by rw [Array.toArray_toList]; exact hD⟩, rfl, q _ (I.hok.fresh (Nat.le_refl _))⟩
end
section
variable {B : Bg} {N : List Str} {sc : Scope} {k : Nat}
variable {S : Sit B N sc k} {G : Gam} {L : Sto} {a : Expr} {pos p apos cpos : Pos}
theorem ev_listKeys {d : D} {ds : List (Key × D)} (l : Lk L d (.dct ds)) (h : Ev S G L a d) (hg : GlS sc "list" := by rfl) (hb : ∀ env, attributeBase a "keys" env (eval a env) = eval a env := by intro _; rfl) (hline : (apos.endLine == cpos.line) = true := by rfl)
    (he : ∀ env, starEach [.Call (.Attribute a "keys" apos) [] [] cpos] env = (false, eval (.Call (.Attribute a "keys" apos) [] [] cpos) env) :: starEach [] env := by intro _; rfl) : Ev S G L (.Call (.Name "list" p) [.Call (.Attribute a "keys" apos) [] [] cpos] [] pos) (.lst (keysD ds)) := fun σ H A Q c =>
  ⟨tCB (fun xs H Q => ∃ (v a : Addr) (kvs : List (Key × V)), xs = [.ref v] ∧ H v = some (keysO v a) ∧ Rd H a (.dK kvs) ∧ ∀ p, H p = none → Q (.ref p) (upd H p (.lst (kvs.map fun kv => kV kv.1)))) (tCons (fun σ H Q => ME S a σ H fun x H1 => ∃ d kvs, x = .ref d ∧ Rd H1 d (.dK kvs) ∧ ∀ v, H1 v = none → Q (.ref v) (upd H1 v (keysO v d))) tNil), fun X hX => by
    have h1 := me hX (e := a)
    obtain ⟨y, rfl, _⟩ := S.fam X hX
    exact pe_callTy (call_listK rfl) hg (B.none (by decide)) boot_list (pa_cons (pe_keysV h1 (hb _) hline) pa_nil (he _)) (by decide) (by decide) (he _) rfl, h.run A fun v H1 k1 A1 r1 => by
    obtain ⟨q, us, rfl, hq, ru⟩ := l.dct A1.sto r1
    refine ⟨q, us, rfl, hq, fun v nv => ?_⟩
    have sm := same_upd (o := keysO v q) nv
    have hq' : Rd (upd H1 v (keysO v q)) q (.dK us) := by
      rcases hq with hq | ⟨o, hq⟩
      · exact .inl (sm _ _ hq)
      · exact .inr ⟨o, sm _ _ hq⟩
    exact ⟨v, q, us, rfl, upd_same, hq', fun z nz => ((c.trans k1).trans (keep_same sm)).newL ⟨rfl, rfl⟩ (A1.sto.same sm) (reps_keys (ru.mono (keep_same sm).kp)) nz⟩⟩
end
end FS
/-! text W15 -/
/-! W15: `in` by an own __contains__. -/
namespace FS
open PySem PySem.Spec PyProof.Rows L2
section
variable {X : Cx} {C f : Addr} {n : Nat} {fd : FuncData} {ps : List Str} {sp : Sp} {E : XK} {CI : CXT}
theorem bind_special {M : Model} {A : Around} {K : PySem.W.Frag} {s : Shared} {x : Addr} {EE : Value → Shared → Prop} {ox : Obj} {od : Option Obj} {args : List Value} {Q : Option Value → Shared → Prop} {refuse : Sem Value} (hK : K.In s.heap) (J : PySem.W.InstAt s.heap x ox C od)
    (hs : PySem.W.findIn K (.ref C) "__contains__" = some (some (.ref f))) (hf : PySem.W.typeIn K (.ref f) = some (.type "function")) (h : wpAny M A (call (.ref f) (.ref x :: args)) (fun v => Q (some v)) EE s) :
    wpAny M A (callSpecialUnlessNone? (.ref x) "__contains__" args refuse) Q EE s := by
  unfold callSpecialUnlessNone?
  refine wpAny_bind (wpAny_bind (J.type.here ((PySem.W.looks_findIn hK hs).here ?_)))
  refine wpAny_holding (wpAny_bind ((PySem.W.bind_fn hK _ hf).here ?_))
  refine PySem.W.KFB.if_not rfl ?_
  exact wpAny_bind (wpAny_mono h (fun v s' q => wpAny_pure q) fun _ _ z => z)
theorem op_notinOwn (hs : PySem.W.findIn X.K (.ref C) "__contains__" = some (some (.ref f))) (hf : PySem.W.isFn X.K (.ref f) = true) (F : FnOk X.prog X.w X.K X.mg X.base CI n f fd ps sp) (hr : Room n X.A) (hb : Binds X.K fd ps []) (hx : Passes CI X E) :
    OpR X (compareOp .NotIn) (fun x y H Q => ∃ a dx fs, y = .ref a ∧ H a = some (.ins C dx fs) ∧ sp [.ref a, x] H (fun v H' => ∃ b, v = .bl b ∧ Q (.bl (!b)) H') E) := by
  intro pins s σ H x y v u Q I rx ry h
  obtain ⟨a, dx, fs, rfl, ha, hsp⟩ := h
  cases ry
  obtain ⟨mA, J, _⟩ := ins_get I.hok ha
  obtain ⟨od, J, _⟩ := J.look
  show wpAny _ _ (contains (.ref a) v >>= fun b => pure (Value.bool (!b))) _ _ _
  refine wpAny_bind ?_
  unfold contains
  refine wpAny_holding ?_
  show wpAny _ _ (specialOf (.ref a) "__contains__" >>= _) _ _ _
  refine wpAny_bind (wpAny_bind (J.type.here ((PySem.W.looks_findIn I.kIn hs).here ?_)))
  refine PySem.W.KFB.if_not rfl ?_
  refine wpAny_bind (bind_special I.kIn J hs (beq_iff_eq.mp hf) ?_)
  have R := run_fn (Q := fun v H' => ∃ b, v = .bl b ∧ Q (.bl (!b)) H') (us := [.ref a, v]) (vs := [.ref a, x]) F hr hb .nil hx I (.cons rfl (.cons rx .nil)) (by rw [List.append_nil]; exact hsp)
  refine wpAny_mono R (fun r s' hr' => ?_) fun _ _ z => z
  obtain ⟨w, H', I', rw', b, e, q⟩ := hr'
  subst e
  cases rw'
  exact wpAny_truthy_bool (wpAny_pure ⟨.bl (!b), H', I', rfl, q⟩)
end
section
variable {B : Bg} {N : List Str} {sc : Scope} {k : Nat} {S : Sit B N sc k} {G : Gam} {L : Sto} {a b c e : Expr} {pos p : Pos} {post : D → Sto → Prop}
/-- x not in o, by its own __contains__ -/
theorem et_ninOwn {j : Nat} {C : Addr} {R : ASp} {x y : D} {fs : List (Str × D)} {r : Bool} (M : Mcl B j C "__contains__" R) (hj : j ≤ k) (l : Lk L y (.ins C fs)) (ha : Ev S G L a x) (hb : Ev S G L b y) (hR : R [y, x] L fun d' L' => d' = .bl r ∧ L' = L) (hm : behindInMarks .NotIn b = false := by with_unfolding_all rfl) : Et S G L (.Compare a [.NotIn] [b] pos) (!r) := by
  obtain ⟨f, fd, ps, F, hmt, hbd⟩ := M.ex
  refine wt_cmp (r := fun x y H Q => ∃ q dx fs, y = .ref q ∧ H q = some (.ins C dx fs) ∧ low R [.ref q, x] H (fun v H' => ∃ b, v = .bl b ∧ Q (.bl (!b)) H') E0) (fun X hX => ?_) hm (pure2 ha hb fun H v u s r1 r2 Q c => ?_)
  · obtain ⟨y, rfl, hr⟩ := S.fam X hX
    exact op_notinOwn hmt.at_ hmt.fn F (Room.mono (show Room k y.A from hr) hj) hbd pass0
  · obtain ⟨q, dx, us, rfl, hq, ru⟩ := l.ins s r2
    refine ⟨q, dx, us, rfl, hq, [y, x], L, _, s, .cons r2 (Reps.one r1), hR, fun d L' v H' ⟨e1, e2⟩ kp so rp => ?_⟩
    subst e1; subst e2
    cases rp
    exact ⟨r, rfl, c _ _ _ _ ⟨_, rfl, rfl, rfl⟩ kp so .bl⟩
end
end FS
/-! text E1 -/
/-! E1: the program's tools and books. -/
namespace FS
open PySem PySem.Spec PyProof.Rows L2
/-! ### books: ints to ints -/
abbrev Bk := List (Int × Int)
def encB (b : Bk) : List (Key × D) := b.map fun p => (.inl p.1, .int p.2)
def getB (b : Bk) (p : Int) : Int := (valG b p).getD 0
def putAllI (a b : Bk) : Bk := b.foldl (fun acc p => putG acc p.1 p.2) a
theorem valG_cons {κ β} [DecidableEq κ] {p : κ × β} {r : List (κ × β)} {k : κ} : valG (p :: r) k = if p.1 = k then some p.2 else valG r k := by
  unfold valG
  rw [List.find?_cons]
  by_cases e : p.1 = k <;> simp [e]
theorem valG_encB {b : Bk} {p : Int} : valG (encB b) (.inl p) = (valG b p).map D.int := by
  induction b with
  | nil => rfl
  | cons q b ih =>
    show valG ((.inl q.1, .int q.2) :: encB b) _ = _
    rw [valG_cons, valG_cons, ih]
    by_cases e : q.1 = p
    · subst e; simp
    · rw [if_neg (fun z => e (Sum.inl.inj z)), if_neg e]
theorem get_encB {b : Bk} {p : Int} : (valG (encB b) (.inl p)).getD (.int 0) = .int (getB b p) := by
  rw [valG_encB]; unfold getB; cases valG b p <;> rfl
theorem putG_encB {b : Bk} {p v : Int} : putG (encB b) (.inl p) (.int v) = encB (putG b p v) := by
  have h1 : ((encB b).any fun kv => decide (kv.1 = (.inl p : Key))) = (b.any fun kv => decide (kv.1 = p)) := by
    unfold encB; rw [List.any_map]; congr 1; funext q
    by_cases e : q.1 = p
    · simp [e]
    · simp [e]
  unfold putG
  rw [h1]
  split
  · unfold encB; rw [List.map_map, List.map_map]; congr 1; funext q
    by_cases e : q.1 = p
    · simp [e]
    · simp [e]
  · unfold encB; rw [List.map_append]; rfl
theorem putAll_encB {a b : Bk} : putAll (encB a) (encB b) = encB (putAllI a b) := by
  induction b generalizing a with
  | nil => rfl
  | cons q b ih => show putAll (putG (encB a) _ _) (encB b) = _; rw [putG_encB, ih]; rfl
theorem putG_new {κ β} [DecidableEq κ] {b : List (κ × β)} {p : κ} {v : β} (h : p ∉ b.map (·.1)) : putG b p v = b ++ [(p, v)] := by
  unfold putG
  rw [if_neg]
  intro z
  obtain ⟨q, hq, e⟩ := List.any_eq_true.mp z
  exact h (List.mem_map.mpr ⟨q, hq, of_decide_eq_true e⟩)
theorem putAllI_nd : ∀ {b a : Bk}, (a.map (·.1) ++ b.map (·.1)).Nodup → putAllI a b = a ++ b
  | [], a, _ => by simp [putAllI]
  | q :: b, a, h => by
    have hq : q.1 ∉ a.map (·.1) := fun z => (List.nodup_append.mp h).2.2 _ z _ (List.mem_map_of_mem (List.mem_cons_self ..)) rfl
    show putAllI (putG a q.1 q.2) b = _
    rw [putG_new hq, putAllI_nd (by simpa using h)]
    simp
theorem length_encB {b : Bk} : (encB b).length = b.length := by unfold encB; simp
section
variable {B : Bg}
/-! ### value_at -/
abbrev sVa : Stmt := top 32
theorem scVa : FnScope ["book", "place"] ["book", "place"] (defScope sVa) := ⟨rfl, rfl, rfl, by decide +kernel, rfl, by decide +kernel, by decide +kernel⟩
def rVa : ASp := fun ds L post => ∃ b x p, ds = [x, .int p] ∧ Lk L x (.dct (encB b)) ∧ post (.int (getB b p)) L
theorem ok_va {f : Addr} {fd : FuncData} (F : Fun B.K "value_at" "value_at" sVa f fd) : FnOk B.P B.w B.K B.mg B.base CX0 1 f fd ["book", "place"] (low rVa) := by
  refine ok_def F scVa (fun ds L post ⟨_, _, _, h, _⟩ => by rw [h]; rfl) fun S hS ds L post ⟨b, x, p, e, l, h⟩ => ?_
  subst e
  exact ws_ret ((ev_get2 get_encB l (ev_var 0) (ev_var 1) ev_int).we h)
/-! ### ascending -/
abbrev sAs : Stmt := top 25
theorem scAs : FnScope ["numbers"] ["numbers"] (defScope sAs) := ⟨rfl, rfl, rfl, by decide +kernel, rfl, by decide +kernel, by decide +kernel⟩
def rAs : ASp := fun ds L post => ∃ x ns, ds = [x] ∧ (Lk L x (.lst (ns.map D.int)) ∨ x = .tup (ns.map D.int)) ∧ Few ns ∧ post (.lst ((asc ns).map D.int)) L
theorem ok_as {f : Addr} {fd : FuncData} (F : Fun B.K "ascending" "ascending" sAs f fd) : FnOk B.P B.w B.K B.mg B.base CX0 1 f fd ["numbers"] (low rAs) := by
  refine ok_def F scAs (fun ds L post ⟨_, _, h, _⟩ => by rw [h]; rfl) fun S hS ds L post ⟨x, ns, e, l, fw, h⟩ => ?_
  subst e
  exact ws_ret ((ev_asc l fw (ev_var 0)).we h)
/-! ### first_repeated, of things that differ -/
abbrev sFr : Stmt := top 28
theorem scFr : FnScope ["entries", "position", "entry"] ["entries"] (defScope sFr) := ⟨rfl, rfl, rfl, by decide +kernel, rfl, by decide +kernel, by decide +kernel⟩
def rFr : ASp := fun ds L post => ∃ es vs, ds = [.lst es] ∧ Fls es vs ∧ (∀ i v, vs[i]? = some v → inV v (vs.take i) = false) ∧ post (.int (-1)) L
theorem Fls.get : ∀ {ds : List D} {vs : List V}, Fls ds vs → ∀ {i : Nat} {d : D}, ds[i]? = some d → ∃ v, vs[i]? = some v ∧ Fl d v
  | _, _, .nil, _, _, h => by simp at h
  | _, _, .cons a r, 0, d, h => by simp at h; subst h; exact ⟨_, rfl, a⟩
  | _, _, .cons a r, i + 1, d, h => by
    obtain ⟨v, e, q⟩ := Fls.get r (i := i) (d := d) (by simpa using h)
    exact ⟨v, by simpa using e, q⟩
theorem Fls.take : ∀ {ds : List D} {vs : List V}, Fls ds vs → ∀ n : Nat, Fls (ds.take n) (vs.take n)
  | _, _, _, 0 => .nil
  | _, _, .nil, _ + 1 => .nil
  | _, _, .cons a r, n + 1 => .cons a (Fls.take r n)
theorem Fls.length : ∀ {ds : List D} {vs : List V}, Fls ds vs → vs.length = ds.length
  | _, _, .nil => rfl
  | _, _, .cons _ r => by simp [Fls.length r]
theorem cutG_to {α : Type} {xs : List α} {i : Nat} (h : i ≤ xs.length) : cutG xs none (some (i : Int)) = xs.take i := by
  unfold cutG
  have e1 : HT.sIx xs.length 0 none = 0 := rfl
  have e2 : HT.sIx xs.length xs.length (some (i : Int)) = i := by rw [HT.sIx_nat]; omega
  rw [e1, e2, List.drop_zero, Nat.sub_zero]
theorem ok_fr {f : Addr} {fd : FuncData} (F : Fun B.K "first_repeated" "first_repeated" sFr f fd) : FnOk B.P B.w B.K B.mg B.base CX0 1 f fd ["entries"] (low rFr) := by
  refine ok_def F scFr (fun ds L post ⟨_, _, h, _⟩ => by rw [h]; rfl) fun S hS ds L post ⟨es, vs, e, fl, hn, h⟩ => ?_
  subst e
  refine ws_for ((ei_enum (fun _ => rfl) (.inl rfl) (ev_var 0)).wi (forW_inv (fun i G' L' => ∃ a b, G' = [some (.lst es), a, b] ∧ L' = L) ⟨none, none, rfl, rfl⟩ ?_ ?_))
  · rintro i d G' L' hd ⟨a, b, rfl, rfl⟩
    obtain ⟨x, hx, rfl⟩ := enumD_get hd
    obtain ⟨v, hv, fv⟩ := fl.get hx
    have hi : i < es.length := (List.getElem?_eq_some_iff.mp hx).1
    refine ⟨_, _, wg_pair 1 2, ?_⟩
    refine ws_if (b := false) (wt_cmp (r := rIn B.K false) (byX fun y _ => op_in_seq) rfl (pure2 (ev_var 2) (ev_slice (.inl rfl) (ev_var 0) eo_none (eo_some (ev_var 1))) (a2_in (neg := false) (.inl (.inl rfl)) (cutG_to (Nat.le_of_lt hi) ▸ fl.take i) fv ⟨_, rfl, hn i v hv, rfl⟩))) (fun z => nomatch z) fun _ => ?_
    exact ws_nil (ws_nil ⟨_, _, rfl, rfl⟩)
  · rintro G' L' ⟨a, b, rfl, rfl⟩
    exact ws_ret ((ev_neg ev_int).we h)
/-! ### cleaned -/
abbrev sCl : Stmt := top 29
theorem scCl : FnScope ["book", "place", "value"] ["book"] (defScope sCl) := ⟨rfl, rfl, rfl, by decide +kernel, rfl, by decide +kernel, by decide +kernel⟩
def cleanB (b : Bk) : Bk := b.filter fun p => decide (p.2 ≠ 0)
def rCl : ASp := fun ds L post => ∃ b, ds = [.dct (encB b)] ∧ (b.map (·.1)).Nodup ∧ b.length ≤ 1000 ∧ post (.dct (encB (cleanB b))) L
theorem itemsD_encB {b : Bk} : itemsD (encB b) = b.map fun p => .tup [.int p.1, .int p.2] := by unfold itemsD encB; rw [List.map_map]; rfl
def fCl : D → Option (Key × D)
  | .tup [.int p, .int v] => if v = 0 then none else some (.inl p, .int v)
  | _ => none
theorem fCl_all {b : Bk} : (itemsD (encB b)).filterMap fCl = encB (cleanB b) := by
  rw [itemsD_encB]
  induction b with
  | nil => rfl
  | cons q b ih =>
    rw [List.map_cons, List.filterMap_cons]
    unfold cleanB at ih ⊢
    by_cases h : q.2 = 0
    · simp only [fCl, if_pos h]
      rw [ih, List.filter_cons_of_neg (by simpa using h)]
    · simp only [fCl, if_neg h]
      rw [ih, List.filter_cons_of_pos (by simpa using h)]
      rfl
theorem clean_nd {b : Bk} (h : (b.map (·.1)).Nodup) : ((cleanB b).map (·.1)).Nodup := h.sublist (List.Sublist.map _ (List.filter_sublist))
theorem ok_cl {f : Addr} {fd : FuncData} (F : Fun B.K "cleaned" "cleaned" sCl f fd) : FnOk B.P B.w B.K B.mg B.base CX0 1 f fd ["book"] (low rCl) := by
  refine ok_def F scCl (fun ds L post ⟨_, h, _⟩ => by rw [h]; rfl) fun S hS ds L post ⟨b, e, nd, hl, h⟩ => ?_
  subst e
  refine ws_ret ((ev_dcP [("place", 1), ("value", 2)] fCl (dp_items 0) (by unfold itemsD encB; simp; exact Nat.le_trans hl (by decide)) (by rw [fCl_all]; exact (putAll_encB (a := [])).trans (by rw [putAllI_nd (by simpa using clean_nd nd)]; rfl)) fun d hd => ?_).we h)
  rw [itemsD_encB] at hd
  obtain ⟨q, hq, rfl⟩ := List.mem_map.mp hd
  refine ⟨_, _, wg_pair 1 2, by decide, fun p => wts_one ((et_neI (ev_var 2) ev_int).wt ⟨rfl, ?_⟩)⟩
  by_cases hz : q.2 = 0
  · exact .inl ⟨by simp [hz], by simp [fCl, hz]⟩
  · exact .inr ⟨by simp [hz], .int q.1, .inl q.1, .int q.2, ev_var 1, kI, ev_var 2, by simp [fCl, hz]⟩
/-! ### with_writes -/
abbrev sWw : Stmt := top 33
theorem scWw : FnScope ["book", "writes"] ["book", "writes"] (defScope sWw) := ⟨rfl, rfl, rfl, by decide +kernel, rfl, by decide +kernel, by decide +kernel⟩
def withB (b w : Bk) : Bk := cleanB (putAllI b w)
def rWw : ASp := fun ds L post => ∃ b w x y, ds = [x, y] ∧ Lk L x (.dct (encB b)) ∧ Lk L y (.dct (encB w)) ∧ (b.map (·.1)).Nodup ∧ b.length ≤ 100 ∧ w.length ≤ 100 ∧ post (.dct (encB (withB b w))) L
theorem mem_putG {b : Bk} {p v : Int} {q : Int} : q ∈ (putG b p v).map (·.1) ↔ q = p ∨ q ∈ b.map (·.1) := by
  unfold putG
  split
  · next h =>
    obtain ⟨r, hr, e⟩ := List.any_eq_true.mp h
    have e : r.1 = p := of_decide_eq_true e
    rw [List.map_map]
    have : (((fun x : Int × Int => x.1) ∘ fun kv => if kv.1 = p then (kv.1, v) else kv) : Int × Int → Int) = fun x => x.1 := by funext x; show (if x.1 = p then (x.1, v) else x).1 = x.1; split <;> rfl
    rw [this]
    exact ⟨.inr, fun z => z.elim (fun z => by rw [z, ← e]; exact List.mem_map_of_mem hr) id⟩
  · rw [List.map_append, List.mem_append]
    simp [or_comm]
theorem nd_putG {b : Bk} {p v : Int} (h : (b.map (·.1)).Nodup) : ((putG b p v).map (·.1)).Nodup := by
  unfold putG
  split
  · rw [List.map_map]
    have : (((fun x : Int × Int => x.1) ∘ fun kv => if kv.1 = p then (kv.1, v) else kv) : Int × Int → Int) = fun x => x.1 := by funext x; show (if x.1 = p then (x.1, v) else x).1 = x.1; split <;> rfl
    rw [this]; exact h
  · next hn =>
    rw [List.map_append]
    refine List.nodup_append.mpr ⟨h, by simp, fun a ha b hb e => hn ?_⟩
    simp at hb
    obtain ⟨r, hr, e2⟩ := List.mem_map.mp ha
    exact List.any_eq_true.mpr ⟨r, hr, decide_eq_true (by rw [e2, e, hb])⟩
theorem nd_putAll : ∀ {w b : Bk}, (b.map (·.1)).Nodup → ((putAllI b w).map (·.1)).Nodup
  | [], b, h => h
  | q :: w, b, h => nd_putAll (w := w) (nd_putG h)
theorem len_putAll : ∀ {w b : Bk}, (putAllI b w).length ≤ b.length + w.length
  | [], b => by simp [putAllI]
  | q :: w, b => by
    have h1 := len_putAll (w := w) (b := putG b q.1 q.2)
    have h2 : (putG b q.1 q.2).length ≤ b.length + 1 := by unfold putG; split <;> simp
    show (putAllI (putG b q.1 q.2) w).length ≤ _
    rw [List.length_cons]; omega
theorem ok_ww {f : Addr} {fd : FuncData} (F : Fun B.K "with_writes" "with_writes" sWw f fd) (cCl : Cl B 1 "cleaned" rCl) : FnOk B.P B.w B.K B.mg B.base CX0 2 f fd ["book", "writes"] (low rWw) := by
  refine ok_def F scWw (fun ds L post ⟨_, _, _, _, h, _⟩ => by rw [h]; rfl) fun S hS ds L post ⟨b, w, x, y, e, lx, ly, nd, hb, hw, h⟩ => ?_
  subst e
  have e1 : putAll (putAll [] (encB b)) (encB w) = encB (putAllI b w) := by
    rw [show putAll [] (encB b) = encB b from (putAll_encB (a := [])).trans (by rw [putAllI_nd (by simpa using nd)]; rfl), putAll_encB]
  have l1 := len_putAll (b := b) (w := w)
  exact ws_ret ((ev_call cCl (by decide) (ea_1 (e1 ▸ ev_star2 lx ly (by rw [length_encB]; omega) (by rw [length_encB]; omega) (fun p => ev_var 0) (fun p => ev_var 1))) ⟨_, rfl, nd_putAll nd, by omega, rfl, rfl⟩).we h)
/-! ### distinct, of things that differ -/
abbrev sDi : Stmt := top 35
theorem scDi : FnScope ["places", "position"] ["places"] (defScope sDi) := ⟨rfl, rfl, rfl, by decide +kernel, rfl, by decide +kernel, by decide +kernel⟩
def rDi : ASp := fun ds L post => ∃ es vs, ds = [.lst es] ∧ Fls es vs ∧ (∀ i v, vs[i]? = some v → inV v (vs.take i) = false) ∧ post (.tup es) L
theorem ok_di {f : Addr} {fd : FuncData} (F : Fun B.K "distinct" "distinct" sDi f fd) (cFr : Cl B 1 "first_repeated" rFr) : FnOk B.P B.w B.K B.mg B.base CX0 2 f fd ["places"] (low rDi) := by
  refine ok_def F scDi (fun ds L post ⟨_, _, h, _⟩ => by rw [h]; rfl) fun S hS ds L post ⟨es, vs, e, fl, hn, h⟩ => ?_
  subst e
  refine ws_set 1 ((ev_call cFr (by decide) (ea_1 (ev_var 0)) ⟨es, vs, rfl, fl, hn, rfl, rfl⟩).we ?_)
  refine ws_if (et_ge (ev_var 1) ev_int) (fun z => absurd z (by decide)) fun _ => ws_nil ?_
  exact ws_ret ((ev_tuple (.inl rfl) (ev_var 0)).we h)
/-! ### filled_marks -/
abbrev sFm : Stmt := top 36
theorem scFm : FnScope ["book", "places", "place"] ["book", "places"] (defScope sFm) := ⟨rfl, rfl, rfl, by decide +kernel, rfl, by decide +kernel, by decide +kernel⟩
def encM (m : Int × Int) : D := .tup [.int m.1, .int m.2]
def filled (b : Bk) (ps : List Int) : List (Int × Int) := (asc ps).filterMap fun p => if 0 < getB b p then some (p, getB b p) else none
def rFm : ASp := fun ds L post => ∃ b x y ps, ds = [x, y] ∧ Lk L x (.dct (encB b)) ∧ (Lk L y (.lst (ps.map D.int)) ∨ y = .tup (ps.map D.int)) ∧ Few ps ∧ post (.lst ((filled b ps).map encM)) L
/-- a function of ints, on data -/
def onI (f : Int → Option D) : D → Option D
  | .int i => f i
  | _ => none
theorem onI_map (f : Int → Option D) (ns : List Int) : (ns.map D.int).filterMap (onI f) = ns.filterMap f := by
  rw [List.filterMap_map]; rfl
theorem asc_len {ns : List Int} : (asc ns).length ≤ ns.length := by
  have h1 : ∀ n (ms : List Int), (insI n ms).length ≤ ms.length + 1 := by
    intro n ms
    induction ms with
    | nil => simp [insI]
    | cons m ms ih => unfold insI; split <;> (try split) <;> simp <;> omega
  induction ns with
  | nil => simp [asc]
  | cons n ns ih => have := h1 n (asc ns); show (insI n (asc ns)).length ≤ _; simp; omega
theorem ok_fm {f : Addr} {fd : FuncData} (F : Fun B.K "filled_marks" "filled_marks" sFm f fd) (cVa : Cl B 1 "value_at" rVa) (cAs : Cl B 1 "ascending" rAs) : FnOk B.P B.w B.K B.mg B.base CX0 2 f fd ["book", "places"] (low rFm) := by
  refine ok_def F scFm (fun ds L post ⟨_, _, _, _, h, _⟩ => by rw [h]; rfl) fun S hS ds L post ⟨b, x, y, ps, e, lx, ly, fw, h⟩ => ?_
  subst e
  refine ws_ret ((ev_lc [("place", 2)] (onI fun p => if 0 < getB b p then some (encM (p, getB b p)) else none) (ei_list (ev_call cAs (by decide) (ea_1 (ev_var 1)) ⟨y, ps, rfl, ly, fw, rfl, rfl⟩)) ?_ ?_ fun d hd => ?_).we h)
  · rw [List.length_map]; have := asc_len (ns := ps); have := fw.1; exact Nat.le_trans (by omega : (asc ps).length ≤ 1000) (by decide)
  · rw [onI_map]; unfold filled; rw [List.map_filterMap]; congr 1; funext p; split <;> rfl
  · obtain ⟨p, hp, rfl⟩ := List.mem_map.mp hd
    refine ⟨_, _, wg_name 2, by decide, ?_⟩
    refine wts_1 (fun z => et_gt (ev_call cVa (by decide) (ea_2 (ev_var 0) (ev_var 2)) ⟨b, x, p, rfl, lx, rfl, rfl⟩) ev_int) (fun hf => ?_) fun ht => ⟨_, fun z => ev_tup (ea_2 (ev_var 2) (ev_call cVa (by decide) (ea_2 (ev_var 0) (ev_var 2)) ⟨b, x, p, rfl, lx, rfl, rfl⟩)), ?_⟩
    · exact if_neg (of_decide_eq_false hf)
    · exact if_pos (of_decide_eq_true ht)
/-! ### first_of -/
abbrev sFo : Stmt := top 38
theorem scFo : FnScope ["bars"] ["bars"] (defScope sFo) := ⟨rfl, rfl, rfl, by decide +kernel, rfl, by decide +kernel, by decide +kernel⟩
def rFo : ASp := fun ds L post => ∃ es x, ds = [x] ∧ Lk L x (.lst es) ∧ post (es.head?.getD .non) L
theorem ok_fo {f : Addr} {fd : FuncData} (F : Fun B.K "first_of" "first_of" sFo f fd) : FnOk B.P B.w B.K B.mg B.base CX0 1 f fd ["bars"] (low rFo) := by
  refine ok_def F scFo (fun ds L post ⟨_, _, h, _⟩ => by rw [h]; rfl) fun S hS ds L post ⟨es, x, e, l, h⟩ => ?_
  subst e
  refine ws_ret (we_if (et_truL l (ev_var 0)) (fun ht => ?_) fun hf => ?_)
  · cases es with
    | nil => cases ht
    | cons d es => exact (ev_ix (atI_nat (j := 0) rfl) l (ev_var 0) ev_int).we h
  · cases es with
    | nil => exact ev_non.we h
    | cons d es => cases hf
end
end FS
/-! text E2 -/
/-! E2: the program's graph. -/
namespace FS
open PySem PySem.Spec PyProof.Rows L2
/-! ### encodings -/
abbrev natD (n : Nat) : D := .int (n : Int)
def encN (ns : List Nat) : List D := ns.map natD
theorem encN_ints {ns : List Nat} : encN ns = (ns.map Int.ofNat).map D.int := by unfold encN; rw [List.map_map]; rfl
def encLk (ls : List (List Nat)) : List D := ls.map fun ps => .lst (encN ps)
def encW (ws : List Bk) : List D := ws.map fun b => .dct (encB b)
/-! ### the sweep -/
def mark (l : List Bool) (ns : List Nat) : List Bool := ns.foldl (fun l n => l.set n true) l
def atB (l : List Bool) (n : Nat) : Bool := l[n]?.getD false
def sweep (ls : List (List Nat)) : Nat → List Bool → List Bool
  | 0, l => l
  | n + 1, l => sweep ls n (if atB l n = true then mark l (ls[n]?.getD []) else l)
def pastL (ls : List (List Nat)) (ns : List Nat) : List Nat := (List.range ls.length).filter fun i => atB (sweep ls ls.length (mark (List.replicate ls.length false) ns)) i
theorem mark_len : ∀ {ns : List Nat} {l : List Bool}, (mark l ns).length = l.length
  | [], _ => rfl
  | n :: ns, l => by show (mark (l.set n true) ns).length = _; rw [mark_len, List.length_set]
theorem sweep_len {ls : List (List Nat)} : ∀ {n : Nat} {l : List Bool}, (sweep ls n l).length = l.length
  | 0, _ => rfl
  | n + 1, l => by unfold sweep; rw [sweep_len]; split <;> simp [mark_len]
/-- a graph whose links point back -/
def Back (ls : List (List Nat)) : Prop := ∀ (i : Nat) (ps : List Nat), ls[i]? = some ps → ∀ p ∈ ps, p < ls.length
section
variable {B : Bg}
abbrev sPo : Stmt := top 56
theorem scPo : FnScope ["links", "nodes", "inside", "node", "parent"] ["links", "nodes"] (defScope sPo) := ⟨rfl, rfl, rfl, by decide +kernel, rfl, by decide +kernel, by decide +kernel⟩
def rPo : ASp := fun ds L post => ∃ ls ns x y, ds = [x, y] ∧ Lk L x (.lst (encLk ls)) ∧ y = .lst (encN ns) ∧ Back ls ∧ (∀ n ∈ ns, n < ls.length) ∧ ls.length ≤ 1000 ∧ post (.lst (encN (pastL ls ns))) L
theorem ixN_nat {n j : Nat} (h : j < n) : ixN n (j : Int) = some j := by unfold ixN; rw [if_pos (by omega), if_pos (by omega)]; simp
theorem length_encLk {ls : List (List Nat)} : (encLk ls).length = ls.length := by unfold encLk; simp
theorem lk_set {L : Sto} {x c d : D} {q : Addr} (l : Lk L x c) (n : L q = none) : Lk (L.set q d) x c := by
  rcases l with l | ⟨p, e, h⟩
  · exact .inl l
  · refine .inr ⟨p, e, ?_⟩
    rw [Sto.set_ne (fun z => by rw [z, n] at h; cases h)]; exact h
theorem rep_flat {α : Type} {x : α} : ∀ n : Nat, (List.replicate n [x]).flatten = List.replicate n x
  | 0 => rfl
  | n + 1 => by rw [List.replicate_succ, List.flatten_cons, rep_flat n]; rfl
theorem rngL_nat {n : Nat} : rngL 0 1 n = encN (List.range n) := by
  unfold rngL encN; congr 1; funext i; simp [natD]
theorem ok_po {f : Addr} {fd : FuncData} (F : Fun B.K "past_of" "past_of" sPo f fd) : FnOk B.P B.w B.K B.mg B.base CX0 1 f fd ["links", "nodes"] (low rPo) := by
  refine ok_def F scPo (fun ds L post ⟨_, _, _, _, h, _⟩ => by rw [h]; rfl) fun S hS ds L post ⟨ls, ns, x, y, e, l, ey, bk, hn, hl, h⟩ => ?_
  subst e; subst ey
  have hline : 1000 ≤ sizeLine := by decide
  have hlen : ∀ {G' : Gam} {L' : Sto} {e : Expr}, Ev S G' L' e (.int ((encLk ls).length : Nat)) → Ev S G' L' e (.int (ls.length : Nat)) := fun h => length_encLk (ls := ls) ▸ h
  -- inside = [False] * len(links)
  refine ws_setC hS 2 (we_repM (by rw [length_encLk]; show 1 * ls.length ≤ _; omega) (by rw [length_encLk]; omega) (ev_lst (ea_1 ev_bl)) (ev_len l (ev_var 0)) fun q nq => ?_)
  rw [length_encLk, rep_flat]
  have e0 : List.replicate ls.length (D.bl false) = (List.replicate ls.length false).map D.bl := by simp
  rw [e0]
  have l' : ∀ d, Lk (L.set q d) x (.lst (encLk ls)) := fun d => lk_set l nq
  -- for node in nodes
  refine ws_for ((ei_list (ev_var 1)).wi (forW_inv (fun i G' L' => ∃ a, G' = [some x, some (.lst (encN ns)), some (.ptr q), a, none] ∧ L' = L.set q (.lst ((mark (List.replicate ls.length false) (ns.take i)).map D.bl))) ⟨none, rfl, rfl⟩ ?_ ?_))
  · rintro i d G' L' hd ⟨a, rfl, rfl⟩
    obtain ⟨n, hnn, rfl⟩ : ∃ n, ns[i]? = some n ∧ d = natD n := by
      unfold encN at hd; rw [List.getElem?_map] at hd
      cases e : ns[i]? with
      | none => rw [e] at hd; cases hd
      | some n => rw [e] at hd; cases hd; exact ⟨n, rfl, rfl⟩
    have hlt := hn n (List.mem_of_getElem? hnn)
    refine ⟨_, _, wg_name 3, ?_⟩
    refine ws_seti (ev_bl.we ⟨_, (n : Int), n, Sto.set_same, ixN_nat (by rw [List.length_map, mark_len, List.length_replicate]; exact hlt), ev_var 2, ev_var 3, ws_nil ⟨_, rfl, ?_⟩⟩)
    rw [Sto.set_set, List.take_succ, hnn]
    congr 2
    unfold mark
    rw [List.foldl_append, ← List.map_set]; rfl
  rintro G' L' ⟨a, rfl, rfl⟩
  rw [show (encN ns).length = ns.length by unfold encN; simp, List.take_length]
  -- for node in range(len(links) - 1, -1, -1)
  have hr : RgC ((ls.length : Int) - 1) (-1) (-1) ls.length := by
    have := RgC.neg (i := (ls.length : Int) - 1) (j := -1) (by omega) (by omega) (by omega) (by omega)
    rwa [show ((ls.length : Int) - 1 - -1).toNat = ls.length by omega] at this
  refine ws_for ((ei_range3 (n := ls.length) (ea_cons (ev_sub (hlen (ev_len (l' _) (ev_var 0))) ev_int) (ea_2 (ev_neg ev_int) (ev_neg ev_int))) hr).wi (forW_inv (fun i G' L' => ∃ a b w, G' = [some x, some (.lst (encN ns)), some (.ptr q), a, b] ∧ L' = L.set q (.lst (w.map D.bl)) ∧ w.length = ls.length ∧ sweep ls (ls.length - i) w = sweep ls ls.length (mark (List.replicate ls.length false) ns)) ⟨_, _, _, rfl, rfl, by rw [mark_len, List.length_replicate], rfl⟩ ?_ ?_))
  · rintro i d G' L' hd ⟨a, b, w, rfl, rfl, hw, hs⟩
    obtain ⟨hi, rfl⟩ := rngL_get hd
    have en : ((ls.length : Int) - 1 + (i : Int) * -1) = ((ls.length - (i + 1) : Nat) : Int) := by omega
    rw [en]
    obtain ⟨n, hn'⟩ : ∃ n, ls.length - (i + 1) = n := ⟨_, rfl⟩
    have hs' : sweep ls (n + 1) w = sweep ls ls.length (mark (List.replicate ls.length false) ns) := by rw [← hs]; congr 1; omega
    rw [hn']
    have hnl : n < ls.length := by omega
    refine ⟨_, _, wg_name 3, ?_⟩
    have hwb : (w.map D.bl)[n]? = some (.bl (atB w n)) := by
      rw [List.getElem?_map, List.getElem?_eq_getElem (by omega)]; unfold atB; rw [List.getElem?_eq_getElem (by omega)]; rfl
    refine ws_if (et_val (ev_ix (atI_nat hwb) (.inr ⟨q, rfl, Sto.set_same⟩) (ev_var 2) (ev_var 3))) (fun ht => ?_) fun hf => ws_nil (ws_nil ⟨_, _, w, rfl, rfl, hw, by rw [← hs']; show sweep ls n w = sweep ls n (if atB w n = true then _ else _); rw [if_neg (by rw [hf]; exact Bool.false_ne_true)]⟩)
    -- for parent in links[node]
    have hps : ls[n]? = some ls[n] := List.getElem?_eq_getElem hnl
    refine ws_for ((ei_list (ev_ix (atI_nat (by unfold encLk; rw [List.getElem?_map, hps]; rfl)) (l' _) (ev_var 0) (ev_var 3))).wi (forW_inv (fun j G' L' => ∃ b, G' = [some x, some (.lst (encN ns)), some (.ptr q), some (natD n), b] ∧ L' = L.set q (.lst ((mark w (ls[n].take j)).map D.bl))) ⟨_, rfl, rfl⟩ ?_ ?_))
    · rintro j d G' L' hd ⟨b, rfl, rfl⟩
      obtain ⟨p, hp, rfl⟩ : ∃ p, ls[n][j]? = some p ∧ d = natD p := by
        unfold encN at hd; rw [List.getElem?_map] at hd
        cases e : ls[n][j]? with
        | none => rw [e] at hd; cases hd
        | some n => rw [e] at hd; cases hd; exact ⟨n, rfl, rfl⟩
      have hlt := bk n _ hps p (List.mem_of_getElem? hp)
      refine ⟨_, _, wg_name 4, ?_⟩
      refine ws_seti (ev_bl.we ⟨_, (p : Int), p, Sto.set_same, ixN_nat (by rw [List.length_map, mark_len]; omega), ev_var 2, ev_var 4, ws_nil ⟨_, rfl, ?_⟩⟩)
      rw [Sto.set_set, List.take_succ, hp]
      congr 2
      unfold mark
      rw [List.foldl_append, ← List.map_set]; rfl
    · rintro G' L' ⟨b, rfl, rfl⟩
      rw [show (encN ls[n]).length = ls[n].length by unfold encN; simp, List.take_length]
      refine ws_nil (ws_nil ⟨_, _, _, rfl, rfl, by rw [mark_len]; exact hw, ?_⟩)
      rw [← hs']
      show _ = sweep ls n (if atB w n = true then _ else _)
      rw [if_pos ht, hps]; rfl
  · rintro G' L' ⟨a, b, w, rfl, rfl, hw, hs⟩
    rw [rngL_len, Nat.sub_self] at hs
    refine ws_frzN 2 nq ?_
    have e1 : ∀ n < ls.length, (w.map D.bl)[n]? = some (.bl (atB w n)) := fun n hn => by
      rw [List.getElem?_map, List.getElem?_eq_getElem (by omega)]; unfold atB; rw [List.getElem?_eq_getElem (by omega)]; rfl
    refine ws_ret ((ev_lc [("node", 3)] (onI fun i => if atB w i.toNat = true then some (.int i) else none) (rngL_nat ▸ ei_range1 (hlen (ev_len l (ev_var 0))) (by omega)) ?_ ?_ fun d hd => ?_).we h)
    · unfold encN; simp; omega
    · rw [encN_ints, onI_map]
      unfold pastL
      rw [← hs]
      show _ = encN ((List.range ls.length).filter fun i => atB w i)
      generalize List.range ls.length = r
      induction r with
      | nil => rfl
      | cons i r ih =>
        rw [List.map_cons, List.filterMap_cons]
        simp only [Int.ofNat_eq_natCast, Int.toNat_natCast]
        by_cases hi : atB w i = true
        · rw [if_pos hi, List.filter_cons_of_pos hi]; simp only; rw [ih]; rfl
        · rw [if_neg hi, List.filter_cons_of_neg hi]; simp only; rw [ih]
    · unfold encN at hd
      obtain ⟨n, hn, rfl⟩ := List.mem_map.mp hd
      have hn := List.mem_range.mp hn
      refine ⟨_, _, wg_name 3, by decide, ?_⟩
      refine wts_1 (fun z => et_val (ev_ix (atI_nat (e1 n hn)) (.inl rfl) (ev_var 2) (ev_var 3))) (fun hf => ?_) fun ht => ⟨_, fun z => ev_var 3, ?_⟩
      · show (if atB w ((n : Int)).toNat = true then _ else _) = _
        rw [Int.toNat_natCast, if_neg (by rw [hf]; exact Bool.false_ne_true)]
      · show (if atB w ((n : Int)).toNat = true then _ else _) = _
        rw [Int.toNat_natCast, if_pos ht]
/-! ### is_writer -/
theorem ev_din {N : List Str} {sc : Scope} {k : Nat} {S : Sit B N sc k} {G : Gam} {L : Sto} {a b : Expr} {pos : Pos} {x : D} {kvs : List (Key × D)} {key : Key} {dk : D} (hk : ∀ M H v, Rep M H dk v → v = kV key) (l : Lk L x (.dct kvs)) (ha : Ev S G L a dk) (hb : Ev S G L b x) (hm : behindInMarks .In b = false := by with_unfolding_all rfl) : Ev S G L (.Compare a [.In] [b] pos) (.bl (valG kvs key).isSome) := fun σ H A Q c =>
  ⟨tDIn (ME S a) (ME S b), fun X hX => pe_cmp (pc_din (S.hu hX) (me hX) (me hX)) hm, ha.run A fun u H1 k1 A1 r1 => hb.run A1 fun v H2 k2 A2 r2 => by
    obtain ⟨p, vs, rfl, hp, rs⟩ := l.dct A2.sto r2
    refine ⟨p, valV vs key, rfl, .inl ⟨vs, key, hp, hk _ _ _ (r1.mono k2.kp), rfl⟩, ((c.trans k1).trans k2).at ⟨?_, rfl⟩ A2.sto .bl⟩
    cases e : valG kvs key with
    | none => rw [rs.val.2 e]; rfl
    | some d' => obtain ⟨w', hw, rw'⟩ := rs.val.1 d' e; rw [hw]; rfl⟩
abbrev sIw : Stmt := top 57
theorem scIw : FnScope ["wrote", "node", "place"] ["wrote", "node", "place"] (defScope sIw) := ⟨rfl, rfl, rfl, by decide +kernel, rfl, by decide +kernel, by decide +kernel⟩
/-- what node n wrote -/
def wrB (ws : List Bk) (n : Nat) : Bk := ws[n]?.getD []
def isW (ws : List Bk) (n : Nat) (p : Int) : Bool := decide (n = 0) || (valG (wrB ws n) p).isSome
def rIw : ASp := fun ds L post => ∃ ws x n p, ds = [x, natD n, .int p] ∧ Lk L x (.lst (encW ws)) ∧ n < ws.length ∧ post (.bl (isW ws n p)) L
theorem encW_at {ws : List Bk} {n : Nat} (h : n < ws.length) : atI (encW ws) (n : Int) = some (.dct (encB (wrB ws n))) := atI_nat (by
  unfold encW wrB; rw [List.getElem?_map, List.getElem?_eq_getElem h]; rfl)
theorem encLk_at {ls : List (List Nat)} {n : Nat} (h : n < ls.length) : atI (encLk ls) (n : Int) = some (.lst (encN (ls[n]?.getD []))) := atI_nat (by
  unfold encLk; rw [List.getElem?_map, List.getElem?_eq_getElem h]; rfl)
theorem isSome_encB {b : Bk} {p : Int} : (valG (encB b) (.inl p)).isSome = (valG b p).isSome := by rw [valG_encB]; cases valG b p <;> rfl
theorem ok_iw {f : Addr} {fd : FuncData} (F : Fun B.K "is_writer" "is_writer" sIw f fd) : FnOk B.P B.w B.K B.mg B.base CX0 1 f fd ["wrote", "node", "place"] (low rIw) := by
  refine ok_def F scIw (fun ds L post ⟨_, _, _, _, h, _⟩ => by rw [h]; rfl) fun S hS ds L post ⟨ws, x, n, p, e, l, hn, h⟩ => ?_
  subst e
  refine ws_ret ((ev_or (ev_eqI (ev_var 1) ev_int) fun _ => ev_din kI (.inl rfl) (ev_var 2) (ev_ix (encW_at hn) l (ev_var 0) (ev_var 1))).we ?_)
  rw [isSome_encB, show decide ((n : Int) = 0) = decide (n = 0) by by_cases e : n = 0 <;> simp [e]]
  exact h
/-! ### heads_in -/
abbrev sHi : Stmt := top 58
theorem scHi : FnScope ["links", "wrote", "rows", "place", "known", "node", "parent"] ["links", "wrote", "rows", "place"] (defScope sHi) := ⟨rfl, rfl, rfl, by decide +kernel, rfl, by decide +kernel, by decide +kernel⟩
def hstep (ls : List (List Nat)) (ws : List Bk) (p : Int) (l : List Bool) (n : Nat) : List Bool := if (atB l n || isW ws n p) = true then mark l (ls[n]?.getD []) else l
def hsweep (ls : List (List Nat)) (ws : List Bk) (p : Int) (rows : List Nat) : List Bool := rows.reverse.foldl (hstep ls ws p) (List.replicate ls.length false)
def headsL (ls : List (List Nat)) (ws : List Bk) (rows : List Nat) (p : Int) : List Nat := rows.filter fun n => isW ws n p && !atB (hsweep ls ws p rows) n
def rHi : ASp := fun ds L post => ∃ ls ws rows x y p, ds = [x, y, .lst (encN rows), .int p] ∧ Lk L x (.lst (encLk ls)) ∧ Lk L y (.lst (encW ws)) ∧ Back ls ∧ ws.length = ls.length ∧ (∀ n ∈ rows, n < ls.length) ∧ rows.length ≤ 1000 ∧ ls.length ≤ 1000 ∧ post (.lst (encN (headsL ls ws rows p))) L
theorem foldl_len {ls : List (List Nat)} {ws : List Bk} {p : Int} : ∀ {rs : List Nat} {l : List Bool}, (rs.foldl (hstep ls ws p) l).length = l.length
  | [], _ => rfl
  | r :: rs, l => by rw [List.foldl_cons, foldl_len]; unfold hstep; split <;> simp [mark_len]
theorem encN_get {ns : List Nat} {i : Nat} {d : D} (hd : (encN ns)[i]? = some d) : ∃ n, ns[i]? = some n ∧ d = natD n := by
  unfold encN at hd; rw [List.getElem?_map] at hd
  cases e : ns[i]? with
  | none => rw [e] at hd; cases hd
  | some n => rw [e] at hd; cases hd; exact ⟨n, rfl, rfl⟩
theorem encN_len {ns : List Nat} : (encN ns).length = ns.length := by unfold encN; simp
theorem encN_rev {ns : List Nat} : (encN ns).reverse = encN ns.reverse := by unfold encN; rw [List.map_reverse]
theorem atB_map {w : List Bool} {n : Nat} (h : n < w.length) : (w.map D.bl)[n]? = some (.bl (atB w n)) := by
  rw [List.getElem?_map, List.getElem?_eq_getElem h]; unfold atB; rw [List.getElem?_eq_getElem h]; rfl
/-- a function of naturals, on data -/
def onN (f : Nat → Option D) : D → Option D
  | .int i => f i.toNat
  | _ => none
theorem onN_map (f : Nat → Option D) (ns : List Nat) : (encN ns).filterMap (onN f) = ns.filterMap f := by
  unfold encN
  rw [List.filterMap_map]
  congr 1
theorem filter_encN {ns : List Nat} {q : Nat → Bool} : (encN ns).filterMap (onN fun n => if q n = true then some (natD n) else none) = encN (ns.filter q) := by
  rw [onN_map]
  induction ns with
  | nil => rfl
  | cons n ns ih =>
    rw [List.filterMap_cons]
    by_cases h : q n = true
    · rw [if_pos h, List.filter_cons_of_pos h]; simp only; rw [ih]; rfl
    · rw [if_neg h, List.filter_cons_of_neg h]; simp only; rw [ih]
theorem ok_hi {f : Addr} {fd : FuncData} (F : Fun B.K "heads_in" "heads_in" sHi f fd) (cIw : Cl B 1 "is_writer" rIw) : FnOk B.P B.w B.K B.mg B.base CX0 2 f fd ["links", "wrote", "rows", "place"] (low rHi) := by
  refine ok_def F scHi (fun ds L post ⟨_, _, _, _, _, _, h, _⟩ => by rw [h]; rfl) fun S hS ds L post ⟨ls, ws, rows, x, y, p, e, lx, ly, bk, hw, hr, hrl, hl, h⟩ => ?_
  subst e
  have hline : 1000 ≤ sizeLine := by decide
  have hlen : ∀ {G' : Gam} {L' : Sto} {e : Expr}, Ev S G' L' e (.int ((encLk ls).length : Nat)) → Ev S G' L' e (.int (ls.length : Nat)) := fun h => length_encLk (ls := ls) ▸ h
  refine ws_setC hS 4 (we_repM (n := ls.length) (by show 1 * ls.length ≤ _; omega) (by omega) (ev_lst (ea_1 ev_bl)) (hlen (ev_len lx (ev_var 0))) fun q nq => ?_)
  rw [rep_flat, show List.replicate ls.length (D.bl false) = (List.replicate ls.length false).map D.bl by simp]
  refine ws_for ((ei_rev (ev_var 2)).wi (forW_inv (fun i G' L' => ∃ a b w, G' = [some x, some y, some (.lst (encN rows)), some (.int p), some (.ptr q), a, b] ∧ L' = L.set q (.lst (w.map D.bl)) ∧ w = (rows.reverse.take i).foldl (hstep ls ws p) (List.replicate ls.length false)) ⟨_, _, _, rfl, rfl, rfl⟩ ?_ ?_))
  · rintro i d G' L' hd ⟨a, b, w, rfl, rfl, hw'⟩
    rw [encN_rev] at hd
    obtain ⟨n, hn, rfl⟩ := encN_get hd
    have hnl := hr n (List.mem_reverse.mp (List.mem_of_getElem? hn))
    have hwl : w.length = ls.length := by rw [hw', foldl_len, List.length_replicate]
    have hnw : n < w.length := by omega
    have hnx : (rows.reverse.take (i + 1)).foldl (hstep ls ws p) (List.replicate ls.length false) = hstep ls ws p w n := by
      rw [List.take_succ, hn, List.foldl_append, ← hw']; rfl
    refine ⟨_, _, wg_name 5, ?_⟩
    refine ws_if (et_or (et_val (ev_ix (atI_nat (atB_map hnw)) (.inr ⟨q, rfl, Sto.set_same⟩) (ev_var 4) (ev_var 5))) fun _ => et_val (ev_call cIw (by decide) (ea_cons (ev_var 1) (ea_2 (ev_var 5) (ev_var 3))) ⟨ws, y, n, p, rfl, lk_set ly nq, by omega, rfl, rfl⟩)) (fun ht => ?_) fun hf => ?_
    · refine ws_for ((ei_list (ev_ix (encLk_at hnl) (lk_set lx nq) (ev_var 0) (ev_var 5))).wi (forW_inv (fun j G' L' => ∃ b, G' = [some x, some y, some (.lst (encN rows)), some (.int p), some (.ptr q), some (natD n), b] ∧ L' = L.set q (.lst ((mark w ((ls[n]?.getD []).take j)).map D.bl))) ⟨_, rfl, rfl⟩ ?_ ?_))
      · rintro j d G' L' hd ⟨b, rfl, rfl⟩
        obtain ⟨r, hp, rfl⟩ := encN_get hd
        have hlt : r < ls.length := by
          rw [List.getElem?_eq_getElem hnl] at hp
          exact bk n _ (List.getElem?_eq_getElem hnl) r (List.mem_of_getElem? hp)
        refine ⟨_, _, wg_name 6, ?_⟩
        refine ws_seti (ev_bl.we ⟨_, (r : Int), r, Sto.set_same, ixN_nat (by rw [List.length_map, mark_len]; omega), ev_var 4, ev_var 6, ws_nil ⟨_, rfl, ?_⟩⟩)
        rw [Sto.set_set, List.take_succ, hp]
        congr 2
        unfold mark
        rw [List.foldl_append, ← List.map_set]; rfl
      · rintro G' L' ⟨b, rfl, rfl⟩
        rw [encN_len, List.take_length]
        refine ws_nil (ws_nil ⟨_, _, _, rfl, rfl, ?_⟩)
        rw [hnx]; unfold hstep; rw [if_pos ht]
    · refine ws_nil (ws_nil ⟨_, _, w, rfl, rfl, ?_⟩)
      rw [hnx]; unfold hstep; rw [if_neg (by rw [hf]; exact Bool.false_ne_true)]
  · rintro G' L' ⟨a, b, w, rfl, rfl, hw'⟩
    rw [show (encN rows).reverse.length = rows.reverse.length by rw [List.length_reverse, List.length_reverse, encN_len], List.take_length] at hw'
    have hwl : w.length = ls.length := by rw [hw', foldl_len, List.length_replicate]
    refine ws_frzN 4 nq ?_
    refine ws_ret ((ev_lc [("node", 5)] (onN fun n => if (isW ws n p && !atB w n) = true then some (natD n) else none) (ei_list (ev_var 2)) (by rw [encN_len]; omega) (by rw [filter_encN, hw']; rfl) fun d hd => ?_).we h)
    obtain ⟨n, hn, rfl⟩ := List.mem_map.mp hd
    have hnl := hr n hn
    have hnw : n < w.length := by omega
    refine ⟨_, _, wg_name 5, by decide, ?_⟩
    refine wts_1 (fun z => et_and (et_val (ev_call cIw (by decide) (ea_cons (ev_var 1) (ea_2 (ev_var 5) (ev_var 3))) ⟨ws, y, n, p, rfl, ly, by omega, rfl, rfl⟩)) fun _ => et_not (et_val (ev_ix (atI_nat (atB_map hnw)) (.inl rfl) (ev_var 4) (ev_var 5)))) (fun hf => ?_) fun ht => ⟨_, fun z => ev_var 5, ?_⟩
    · show (if (isW ws ((n : Int)).toNat p && !atB w ((n : Int)).toNat) = true then _ else _) = _
      rw [Int.toNat_natCast, if_neg (by rw [hf]; exact Bool.false_ne_true)]
    · show (if (isW ws ((n : Int)).toNat p && !atB w ((n : Int)).toNat) = true then _ else _) = _
      rw [Int.toNat_natCast, if_pos ht]
/-! ### values_in, heads_of -/
abbrev sVi : Stmt := top 59
theorem scVi : FnScope ["links", "wrote", "rows", "place", "head"] ["links", "wrote", "rows", "place"] (defScope sVi) := ⟨rfl, rfl, rfl, by decide +kernel, rfl, by decide +kernel, by decide +kernel⟩
def valsL (ls : List (List Nat)) (ws : List Bk) (rows : List Nat) (p : Int) : List Int := asc ((headsL ls ws rows p).map fun n => getB (wrB ws n) p)
def rVi : ASp := fun ds L post => ∃ ls ws rows x y p, ds = [x, y, .lst (encN rows), .int p] ∧ Lk L x (.lst (encLk ls)) ∧ Lk L y (.lst (encW ws)) ∧ Back ls ∧ ws.length = ls.length ∧ (∀ n ∈ rows, n < ls.length) ∧ rows.length ≤ 60 ∧ ls.length ≤ 1000 ∧ post (.lst ((valsL ls ws rows p).map D.int)) L
theorem nodup_len {α : Type} [DecidableEq α] : ∀ {ks ns : List α}, ks.Nodup → (∀ k ∈ ks, k ∈ ns) → ks.length ≤ ns.length
  | [], _, _, _ => Nat.zero_le _
  | k :: ks, ns, nd, h => by
    rw [List.nodup_cons] at nd
    have hk := h k (List.mem_cons_self ..)
    have := nodup_len (ks := ks) (ns := ns.erase k) nd.2 fun j hj => (List.mem_erase_of_ne (fun e : j = k => nd.1 (by rw [← e]; exact hj))).mpr (h j (List.mem_cons_of_mem _ hj))
    rw [List.length_erase_of_mem hk] at this
    have h0 : 0 < ns.length := List.length_pos_of_mem hk
    rw [List.length_cons]; omega
theorem fm_some {α β : Type} (g : α → β) : ∀ l : List α, l.filterMap (fun x => some (g x)) = l.map g
  | [] => rfl
  | x :: l => by rw [List.filterMap_cons]; simp only; rw [fm_some g l]; rfl
theorem few_len {ns : List Int} (h : ns.length < 64) : Few ns := ⟨by omega, fun ks nd hk => Nat.lt_of_le_of_lt (nodup_len nd hk) h⟩
theorem ok_vi {f : Addr} {fd : FuncData} (F : Fun B.K "values_in" "values_in" sVi f fd) (cHi : Cl B 2 "heads_in" rHi) (cAs : Cl B 1 "ascending" rAs) : FnOk B.P B.w B.K B.mg B.base CX0 3 f fd ["links", "wrote", "rows", "place"] (low rVi) := by
  refine ok_def F scVi (fun ds L post ⟨_, _, _, _, _, _, h, _⟩ => by rw [h]; rfl) fun S hS ds L post ⟨ls, ws, rows, x, y, p, e, lx, ly, bk, hw, hr, hrl, hl, h⟩ => ?_
  subst e
  have hline : 1000 ≤ sizeLine := by decide
  have hsub : (headsL ls ws rows p).length ≤ rows.length := List.length_filter_le ..
  refine ws_ret ((ev_call cAs (by decide) (ea_1 (ev_lc [("head", 4)] (onN fun n => some (.int (getB (wrB ws n) p))) (rs := ((headsL ls ws rows p).map fun n => getB (wrB ws n) p).map D.int)
    (ei_list (ev_call cHi (by decide) (ea_cons (ev_var 0) (ea_cons (ev_var 1) (ea_2 (ev_var 2) (ev_var 3)))) ⟨ls, ws, rows, x, y, p, rfl, lx, ly, bk, hw, hr, by omega, hl, rfl, rfl⟩)) (by rw [encN_len]; omega) (by rw [onN_map, fm_some, List.map_map]; rfl) fun d hd => ?_)) ⟨_, _, rfl, .inl (.inl rfl), few_len (by rw [List.length_map]; omega), rfl, rfl⟩).we h)
  obtain ⟨n, hn, rfl⟩ := List.mem_map.mp hd
  have hnl := hr n ((List.mem_filter.mp hn).1)
  exact ⟨_, _, wg_name 4, by decide, wts_n (by show some (D.int (getB (wrB ws ((n : Int)).toNat) p)) = _; rw [Int.toNat_natCast]) fun z => ev_get2 get_encB (.inl rfl) (ev_ix (encW_at (by omega)) ly (ev_var 1) (ev_var 4)) (ev_var 3) ev_int⟩
abbrev sHo : Stmt := top 60
theorem scHo : FnScope ["links", "wrote", "nodes", "place"] ["links", "wrote", "nodes", "place"] (defScope sHo) := ⟨rfl, rfl, rfl, by decide +kernel, rfl, by decide +kernel, by decide +kernel⟩
theorem pastL_lt {ls : List (List Nat)} {ns : List Nat} {n : Nat} (h : n ∈ pastL ls ns) : n < ls.length := List.mem_range.mp (List.mem_filter.mp h).1
theorem pastL_len {ls : List (List Nat)} {ns : List Nat} : (pastL ls ns).length ≤ ls.length := by
  have := List.length_filter_le (fun i => atB (sweep ls ls.length (mark (List.replicate ls.length false) ns)) i) (List.range ls.length)
  rw [List.length_range] at this; exact this
/-- a graph and what its nodes wrote, as the program holds it -/
structure Gr (ls : List (List Nat)) (ws : List Bk) : Prop where
  bk : Back ls
  hw : ws.length = ls.length
  hl : ls.length ≤ 60
def rHo : ASp := fun ds L post => ∃ ls ws ns x y p, ds = [x, y, .lst (encN ns), .int p] ∧ Lk L x (.lst (encLk ls)) ∧ Lk L y (.lst (encW ws)) ∧ Gr ls ws ∧ (∀ n ∈ ns, n < ls.length) ∧ post (.lst (encN (headsL ls ws (pastL ls ns) p))) L
theorem ok_ho {f : Addr} {fd : FuncData} (F : Fun B.K "heads_of" "heads_of" sHo f fd) (cHi : Cl B 2 "heads_in" rHi) (cPo : Cl B 1 "past_of" rPo) : FnOk B.P B.w B.K B.mg B.base CX0 3 f fd ["links", "wrote", "nodes", "place"] (low rHo) := by
  refine ok_def F scHo (fun ds L post ⟨_, _, _, _, _, _, h, _⟩ => by rw [h]; rfl) fun S hS ds L post ⟨ls, ws, ns, x, y, p, e, lx, ly, g, hn, h⟩ => ?_
  subst e
  have h1 := pastL_len (ls := ls) (ns := ns)
  have h2 := g.hl
  exact ws_ret ((ev_call cHi (by decide) (ea_cons (ev_var 0) (ea_cons (ev_var 1) (ea_2 (ev_call cPo (by decide) (ea_2 (ev_var 0) (ev_var 2)) ⟨ls, ns, x, _, rfl, lx, rfl, g.bk, hn, by omega, rfl, rfl⟩) (ev_var 3)))) ⟨ls, ws, _, x, y, p, rfl, lx, ly, g.bk, g.hw, fun n => pastL_lt, by omega, by omega, rfl, rfl⟩).we h)
/-! ### written_places -/
abbrev sWp : Stmt := top 62
theorem scWp : FnScope ["links", "wrote", "nodes", "place", "node"] ["links", "wrote", "nodes"] (defScope sWp) := ⟨rfl, rfl, rfl, by decide +kernel, rfl, by decide +kernel, by decide +kernel⟩
/-- the comprehension of it -/
abbrev eWp : Expr := match defBody sWp with
  | [.Return (some (.Call _ (e :: _) _ _)) _] => e
  | _ => .Name "x" ⟨0, 0, 0, 0⟩
def keysB (b : Bk) : List Int := b.map (·.1)
def wrotL (ls : List (List Nat)) (ws : List Bk) (ns : List Nat) : List Int := (pastL ls ns).flatMap fun n => if n = 0 then [] else keysB (wrB ws n)
def rWp : ASp := fun ds L post => ∃ ls ws ns x y, ds = [x, y, .lst (encN ns)] ∧ Lk L x (.lst (encLk ls)) ∧ Lk L y (.lst (encW ws)) ∧ Gr ls ws ∧ (∀ n ∈ ns, n < ls.length) ∧ Few (wrotL ls ws ns) ∧ post (.lst ((asc (wrotL ls ws ns)).map D.int)) L
theorem ok_wp {f : Addr} {fd : FuncData} (F : Fun B.K "written_places" "written_places" sWp f fd) (cPo : Cl B 1 "past_of" rPo) (cAs : Cl B 1 "ascending" rAs) : FnOk B.P B.w B.K B.mg B.base CX0 2 f fd ["links", "wrote", "nodes"] (low rWp) := by
  refine ok_def F scWp (fun ds L post ⟨_, _, _, _, _, h, _⟩ => by rw [h]; rfl) fun S hS ds L post ⟨ls, ws, ns, x, y, e, lx, ly, g, hn, fw, h⟩ => ?_
  subst e
  have h1 := pastL_len (ls := ls) (ns := ns)
  have h2 := g.hl
  have hline : 1000 ≤ sizeLine := by decide
  refine ws_ret ((ev_call cAs (by decide) (ea_1 (d := .lst ((wrotL ls ws ns).map D.int)) ?_) ⟨_, _, rfl, .inl (.inl rfl), fw, rfl, rfl⟩).we h)
  -- the comprehension, with all dicts locked
  have core : ∀ (L' : Sto) (y' : Addr) (ps : List (Addr × List (Key × V))) σ H, Lk L' x (.lst (encLk ls)) → Abs [some x, some (.ptr y'), some (.lst (encN ns)), none, none] L' σ H → ps.length = ws.length → (∀ z ∈ ps, Rd H z.1 (.dK z.2) ∧ ¬ L'.dom z.1) → (∀ (i : Nat) (z : Addr × List (Key × V)), ps[i]? = some z → ∀ kk, (ws.map encB)[i]? = some kk → RepK L'.dom H kk z.2) →
      ((L' y' = none ∧ H y' = some (.lst (ps.map fun z => V.ref z.1))) ∨ L' y' = some (.lst ((ps.map (·.1)).map D.ptr))) → ∀ Q, Cont L' H (fun d L2 => d = .lst ((wrotL ls ws ns).map D.int) ∧ L2 = L') Q → ME S eWp σ H Q := by
    intro L' y' ps σ H lx' A hpl hps hrk hy Q c
    refine lockAllE (ps := ps) A hps c fun H1 A1 kp1 nd1 lk1 Q1 c1 => ?_
    have e1 : (encN (pastL ls ns)).flatMap (fun d => match d with | .int i => if i.toNat = 0 then [] else (keysB (wrB ws i.toNat)).map D.int | _ => []) = (wrotL ls ws ns).map D.int := by
      unfold encN wrotL
      rw [List.flatMap_map, List.map_flatMap]
      congr 1; funext n
      show (if ((n : Int)).toNat = 0 then [] else (keysB (wrB ws ((n : Int)).toNat)).map D.int) = _
      rw [Int.toNat_natCast]
      split <;> rfl
    refine we_lc2At (own := [("place", 3), ("node", 4)]) (vs1 := [3]) (ds := encN (pastL ls ns)) (f := fun d => match d with | .int i => if i.toNat = 0 then [] else (keysB (wrB ws i.toNat)).map D.int | _ => []) (ei_list (ev_call cPo (by decide) (ea_2 (ev_var 0) (ev_var 2)) ⟨ls, ns, x, _, rfl, lx', rfl, g.bk, hn, by omega, rfl, rfl⟩) σ H1 A1) (by rw [e1, List.length_map]; exact Nat.le_trans fw.1 hline) (fun d hd => ?_) (e1 ▸ c1)
    obtain ⟨n, hnp, rfl⟩ := List.mem_map.mp hd
    have hnl := pastL_lt hnp
    refine ⟨_, _, wg_name 4, by decide, fun p => wts_one ((et_gt (ev_var 4) ev_int).wt ⟨rfl, ?_⟩)⟩
    by_cases hn0 : n = 0
    · subst hn0
      exact .inl ⟨rfl, rfl⟩
    · refine .inr ⟨by show decide ((0 : Int) < (n : Int)) = true; exact decide_eq_true (by omega), (keysB (wrB ws n)).map D.int, onI fun i => some (.int i), ?_, ?_, ?_⟩
      · rw [onI_map, fm_some]
        show (if ((n : Int)).toNat = 0 then [] else (keysB (wrB ws ((n : Int)).toNat)).map D.int) = _
        rw [Int.toNat_natCast, if_neg hn0]
      · intro np σ' H' A' kk'
        -- wrote[node] is the n-th dict, which is locked
        obtain ⟨z, hz⟩ : ∃ z, ps[n]? = some z := ⟨_, List.getElem?_eq_getElem (by rw [hpl, g.hw]; exact hnl)⟩
        have hzm := List.mem_of_getElem? hz
        obtain ⟨od, hod⟩ := lk1 z hzm
        have nz : ¬ L'.dom z.1 := (hps z hzm).2
        have hod' : H' z.1 = some (.frz od (.dK z.2)) := kk' _ _ (nn fun q => nz (.inl q)) hod
        have nz' : ¬ (L'.prot p).dom z.1 := fun q => by
          rw [dom_prot] at q
          rcases q with q | q
          · exact nz q
          · rw [q, np] at hod; cases hod
        have hvs : H' y' = some (.lst (ps.map fun z => V.ref z.1)) := by
          rcases hy with ⟨q1, q2⟩ | q
          · exact kk' _ _ q1 (nd1 _ _ q2 fun _ z => nomatch z)
          · cases A'.sto.cell y' _ q with
            | lst w1 w2 => rw [reps_ptr w2, List.map_map] at w1; exact w1
        obtain ⟨v1, s1, r1⟩ := A'.slot 1 _ rfl
        cases r1
        obtain ⟨v4, s4, r4⟩ := A'.slot 4 _ rfl
        cases r4
        have hrk' : RepK (L'.prot p).dom H' (encB (wrB ws n)) z.2 := by
          have := hrk n z hz (encB (wrB ws n)) (by unfold wrB; rw [List.getElem?_map, List.getElem?_eq_getElem (by rw [g.hw]; exact hnl)]; rfl)
          have q1 := this.mono kp1
          refine q1.mono fun a na u ra => ?_
          have na' : ¬ (L'.prot p).dom a := fun q => by
            rw [dom_prot] at q
            rcases q with q | q
            · exact na q
            · rw [q, Rd, np] at ra
              rcases ra with ra | ⟨_, ra⟩ <;> cases ra
          have na0 : L' a = none := nn fun q => na (.inl q)
          exact ⟨fun vs eu => ⟨na', by
            rcases ra with ra | ⟨o, ra⟩
            · exact .inl (kk' _ _ na0 ra)
            · exact .inr ⟨o, kk' _ _ na0 ra⟩⟩, fun h _ _ => ⟨na', kk' _ _ na0 h⟩⟩
        refine WiAt.mono (wiAt_keys (kvs := encB (wrB ws n)) (fun Q hQ => ⟨tOp (rIxL B.K) (tVar 1) (tVar 4), fun X hX => ?_, _, s1, _, s4, y', _, (n : Int), V.ref z.1, rfl, rfl, .inl (.inl hvs), atI_nat (by rw [List.getElem?_map, hz]; rfl), hQ⟩) A' hod' nz' hrk') fun ds' L2 ⟨q1, q2⟩ => ⟨by rw [q1]; unfold keysD encB keysB; rw [List.map_map, List.map_map]; rfl, q2⟩
        obtain ⟨yy, rfl, _⟩ := (S.blk _).fam X hX
        exact pe_ix ix_list (pe_var rfl (by first | exact Or.inl rfl | exact Or.inr (Or.inl rfl) | exact Or.inr (Or.inr rfl))) (pe_var rfl (by first | exact Or.inl rfl | exact Or.inr (Or.inl rfl) | exact Or.inr (Or.inr rfl))) fun _ _ => rfl
      · intro e he
        obtain ⟨i, hi, rfl⟩ := List.mem_map.mp he
        exact ⟨_, _, wg_name 3, by decide, wts_nil ⟨rfl, .inr ⟨rfl, _, ev_var 3, rfl⟩⟩⟩
  intro σ H A Q c
  obtain ⟨v, sv, rv⟩ := A.slot 1 _ rfl
  have hmap : encW ws = (ws.map encB).map .dct := by unfold encW; rw [List.map_map]; rfl
  -- the slot holds the list's address
  have toP : ∀ {L' : Sto} {y' : Addr}, Abs [some x, some y, some (.lst (encN ns)), none, none] L' σ H → v = .ref y' → Abs [some x, some (.ptr y'), some (.lst (encN ns)), none, none] L' σ H := fun {L' y'} A e => ⟨A.len, fun i d hd => by
    match i with
    | 0 => exact A.slot 0 d hd
    | 1 => cases hd; exact ⟨_, e ▸ sv, .ptr⟩
    | 2 => exact A.slot 2 d hd
    | 3 => exact A.slot 3 d hd
    | 4 => exact A.slot 4 d hd
    | i + 5 => simp at hd, A.sto⟩
  rcases ly with rfl | ⟨q, rfl, hq⟩
  · rw [hmap] at rv
    cases rv with
    | @lst q _ vs n hv rs =>
    obtain ⟨ps, e, hl, p1, p2⟩ := dct_refs rs
    rw [e] at hv
    exact core L q ps σ H lx (toP A rfl) (by rw [hl, List.length_map]) p1 p2 (.inl ⟨nn fun z => n (.inl z), hv⟩) Q c
  · cases rv
    rw [hmap] at hq
    cases A.sto.cell q _ hq with
    | lst hv rs =>
    obtain ⟨ps, e, hl, p1, p2⟩ := dct_refs rs
    subst e
    have e2 : (ps.map fun z => V.ref z.1) = (ps.map (·.1)).map V.ref := by rw [List.map_map]; rfl
    rw [e2] at hv rs
    have hd := pin_dom (ps := ps.map (·.1)) hq
    refine core (pinS L q (ps.map (·.1))) q ps σ H ?_ (toP (abs_pin A hq hv) rfl) (by rw [hl, List.length_map]) (by rw [hd]; exact p1) (by rw [hd]; exact p2) (.inr (by unfold pinS; exact Sto.set_same)) Q (cont_pin A.sto hq rs c)
    rcases lx with l | ⟨p, e, hp⟩
    · exact .inl l
    · refine .inr ⟨p, e, ?_⟩
      unfold pinS
      by_cases z : p = q
      · subst z
        rw [Sto.set_same]
        rw [hq, ← hmap] at hp
        have e3 : encW ws = encLk ls := by injection hp with z; injection z
        cases ls with
        | nil =>
          have : ps = [] := List.eq_nil_of_length_eq_zero (by rw [hl, List.length_map, g.hw]; rfl)
          rw [this]; rfl
        | cons a r =>
          cases ws with
          | nil => cases e3
          | cons b r' => injection e3 with e4 _; cases e4
      · rw [Sto.set_ne z]; exact hp
end
end FS
/-! text E3 -/
/-! E3: shown; the items; doubled. -/
namespace FS
open PySem PySem.Spec PyProof.Rows L2
def foundL (ls : List (List Nat)) (ws : List Bk) (ns : List Nat) (p : Int) : List Int := valsL ls ws (pastL ls ns) p
def shownPs (ls : List (List Nat)) (ws : List Bk) (ns : List Nat) : List Int := asc (keysB (wrB ws 0) ++ asc (wrotL ls ws ns))
def shownB1 (ls : List (List Nat)) (ws : List Bk) (ns : List Nat) (p : Int) : Option (Int × Int) := if 1 < (foundL ls ws ns p).length then none else if 0 < (foundL ls ws ns p).headD 0 then some (p, (foundL ls ws ns p).headD 0) else none
def shownO1 (ls : List (List Nat)) (ws : List Bk) (ns : List Nat) (p : Int) : Option (Int × List Int) := if 1 < (foundL ls ws ns p).length then some (p, foundL ls ws ns p) else none
def shownB (ls : List (List Nat)) (ws : List Bk) (ns : List Nat) : Bk := (shownPs ls ws ns).filterMap (shownB1 ls ws ns)
def shownO (ls : List (List Nat)) (ws : List Bk) (ns : List Nat) : List (Int × List Int) := (shownPs ls ws ns).filterMap (shownO1 ls ws ns)
def encO (b : List (Int × List Int)) : List (Key × D) := b.map fun p => (.inl p.1, .lst (p.2.map D.int))
theorem putD_new {b : List (Key × D)} {p : Key} {v : D} (h : p ∉ b.map (·.1)) : putG b p v = b ++ [(p, v)] := putG_new h
section
variable {B : Bg}
abbrev sSh : Stmt := top 63
theorem scSh : FnScope ["links", "wrote", "nodes", "rows", "book", "open_values", "place", "found"] ["links", "wrote", "nodes"] (defScope sSh) := ⟨rfl, rfl, rfl, by decide +kernel, rfl, by decide +kernel, by decide +kernel⟩
def rSh : ASp := fun ds L post => ∃ ls ws ns x y, ds = [x, y, .lst (encN ns)] ∧ Lk L x (.lst (encLk ls)) ∧ Lk L y (.lst (encW ws)) ∧ Gr ls ws ∧ 0 < ls.length ∧ (∀ n ∈ ns, n < ls.length) ∧ Few (wrotL ls ws ns) ∧ Few (keysB (wrB ws 0) ++ asc (wrotL ls ws ns)) ∧ (∀ p ∈ shownPs ls ws ns, foundL ls ws ns p ≠ []) ∧
  post (.tup [.dct (encB (shownB ls ws ns)), .dct (encO (shownO ls ws ns))]) L
theorem keysD_encB {b : Bk} : keysD (encB b) = (keysB b).map D.int := by unfold keysD encB keysB; rw [List.map_map, List.map_map]; rfl
theorem asc_nd {ns : List Int} : (asc ns).Nodup := (asc_sorted (ns := ns)).imp fun h => by omega
/-- the keys of what is made of the first places -/
theorem fm_keys {α : Type} {f : Int → Option (Int × α)} (hf : ∀ p q, f p = some q → q.1 = p) {ps : List Int} {k : Int} (h : k ∈ (ps.filterMap f).map (·.1)) : k ∈ ps := by
  obtain ⟨q, hq, rfl⟩ := List.mem_map.mp h
  obtain ⟨p, hp, e⟩ := List.mem_filterMap.mp hq
  rw [hf p q e]; exact hp
theorem take_nd {ps : List Int} (nd : ps.Nodup) {i : Nat} {p : Int} (h : ps[i]? = some p) : p ∉ ps.take i := fun hm => by
  obtain ⟨j, hj⟩ := List.mem_iff_getElem?.mp hm
  rw [List.getElem?_take] at hj
  split at hj
  · next hlt =>
    have hi := (List.getElem?_eq_some_iff.mp h).1
    have e1 := (List.getElem?_eq_some_iff.mp h).2
    obtain ⟨hj', e2⟩ := List.getElem?_eq_some_iff.mp hj
    have := (List.getElem_inj nd).mp (e2.trans e1.symm)
    omega
  · cases hj
theorem ok_sh {f : Addr} {fd : FuncData} (F : Fun B.K "shown" "shown" sSh f fd) (cPo : Cl B 1 "past_of" rPo) (cAs : Cl B 1 "ascending" rAs) (cWp : Cl B 2 "written_places" rWp) (cVi : Cl B 3 "values_in" rVi) : FnOk B.P B.w B.K B.mg B.base CX0 4 f fd ["links", "wrote", "nodes"] (low rSh) := by
  refine ok_def F scSh (fun ds L post ⟨_, _, _, _, _, h, _⟩ => by rw [h]; rfl) fun S hS ds L post ⟨ls, ws, ns, x, y, e, lx, ly, g, h0, hn, fw, fk, hne, h⟩ => ?_
  subst e
  have h1 := pastL_len (ls := ls) (ns := ns)
  have h2 := g.hl
  have hline : 2000 ≤ sizeLine := by decide
  have hpl : (shownPs ls ws ns).length ≤ 1000 := Nat.le_trans asc_len fk.1
  have nd : (shownPs ls ws ns).Nodup := asc_nd
  have b1 : ∀ p q, shownB1 ls ws ns p = some q → q.1 = p := fun p q e => by
    unfold shownB1 at e
    split at e
    · cases e
    · split at e
      · cases e; rfl
      · cases e
  have o1 : ∀ p q, shownO1 ls ws ns p = some q → q.1 = p := fun p q e => by
    unfold shownO1 at e
    split at e
    · cases e; rfl
    · cases e
  refine ws_set 3 ((ev_call cPo (by decide) (ea_2 (ev_var 0) (ev_var 2)) ⟨ls, ns, x, _, rfl, lx, rfl, g.bk, hn, by omega, rfl, rfl⟩).we ?_)
  refine ws_set 4 (we_newD fun qb nb => ?_)
  refine ws_set 5 (we_newD fun qo no => ?_)
  have ne : qo ≠ qb := fun e => by subst e; rw [Sto.set_same] at no; cases no
  have no' : L qo = none := by rw [Sto.set_ne ne] at no; exact no
  have lx' : ∀ {c d}, Lk ((L.set qb c).set qo d) x (.lst (encLk ls)) := fun {c d} => lk_set (lk_set lx nb) (by rw [Sto.set_ne ne]; exact no')
  have ly' : ∀ {c d}, Lk ((L.set qb c).set qo d) y (.lst (encW ws)) := fun {c d} => lk_set (lk_set ly nb) (by rw [Sto.set_ne ne]; exact no')
  have len1 : ((keysB (wrB ws 0)).map D.int).length + ((asc (wrotL ls ws ns)).map D.int).length ≤ sizeLine := by
    rw [List.length_map, List.length_map]; have := fk.1; rw [List.length_append] at this; omega
  refine ws_for ((ei_list (ds := (shownPs ls ws ns).map D.int) (ev_call cAs (by decide) (ea_1 (d := .lst ((keysB (wrB ws 0) ++ asc (wrotL ls ws ns)).map D.int)) (by
      rw [List.map_append]
      refine ev_cat (.inl rfl) (.inl rfl) len1 ?_ (ev_call cWp (by decide) (ea_cons (ev_var 0) (ea_2 (ev_var 1) (ev_var 2))) ⟨ls, ws, ns, x, y, rfl, lx', ly', g, hn, fw, rfl, rfl⟩)
      rw [← keysD_encB]
      exact ev_listD (.inl rfl) (ev_ix (encW_at (n := 0) (by rw [g.hw]; exact h0)) ly' (ev_var 1) ev_int))) ⟨_, _, rfl, .inl (.inl rfl), fk, rfl, rfl⟩)).wi
    (forW_inv (fun i G' L' => ∃ a b, G' = [some x, some y, some (.lst (encN ns)), some (.lst (encN (pastL ls ns))), some (.ptr qb), some (.ptr qo), a, b] ∧ L' = (L.set qb (.dct (encB (((shownPs ls ws ns).take i).filterMap (shownB1 ls ws ns))))).set qo (.dct (encO (((shownPs ls ws ns).take i).filterMap (shownO1 ls ws ns))))) ⟨_, _, rfl, rfl⟩ ?_ ?_))
  · rintro i d G' L' hd ⟨a, b, rfl, rfl⟩
    rw [List.getElem?_map] at hd
    obtain ⟨p, hp, rfl⟩ : ∃ p, (shownPs ls ws ns)[i]? = some p ∧ d = .int p := by
      cases e : (shownPs ls ws ns)[i]? with
      | none => rw [e] at hd; cases hd
      | some p => rw [e] at hd; cases hd; exact ⟨p, rfl, rfl⟩
    have hpn := take_nd nd hp
    have tk : (shownPs ls ws ns).take (i + 1) = (shownPs ls ws ns).take i ++ [p] := by rw [List.take_succ, hp]; rfl
    have hfl := hne p (List.mem_of_getElem? hp)
    have hil : i < (shownPs ls ws ns).length := (List.getElem?_eq_some_iff.mp hp).1
    refine ⟨_, _, wg_name 6, ?_⟩
    refine ws_set 7 ((ev_call cVi (by decide) (ea_cons (ev_var 0) (ea_cons (ev_var 1) (ea_2 (ev_var 3) (ev_var 6)))) ⟨ls, ws, pastL ls ns, x, y, p, rfl, lx', ly', g.bk, g.hw, fun n => pastL_lt, by omega, by omega, rfl, rfl⟩).we ?_)
    show Ws S [some x, some y, some (.lst (encN ns)), some (.lst (encN (pastL ls ns))), some (.ptr qb), some (.ptr qo), some (.int p), some (.lst ((foundL ls ws ns p).map D.int))] _ _ _
    have kl : ∀ {α : Type} (fq : Int → Option (Int × α)), (((shownPs ls ws ns).take i).filterMap fq).length ≤ i := fun fq => Nat.le_trans (List.length_filterMap_le ..) (by rw [List.length_take]; omega)
    refine ws_if (et_gt (ev_len (.inl rfl) (ev_var 7)) ev_int) (fun ht => ?_) fun hf => ?_
    · have ht : 1 < (foundL ls ws ns p).length := by have := of_decide_eq_true ht; rw [List.length_map] at this; omega
      refine ws_setk ((ev_var 7).we ⟨_, .int p, .inl p, Sto.set_same, ?_, ev_var 5, ev_var 6, kI, ws_nil (ws_nil ⟨_, _, rfl, ?_⟩)⟩)
      · unfold encO; rw [List.length_map]; have := kl (shownO1 ls ws ns); omega
      · rw [Sto.set_set]
        have e1 : ((shownPs ls ws ns).take (i + 1)).filterMap (shownB1 ls ws ns) = ((shownPs ls ws ns).take i).filterMap (shownB1 ls ws ns) := by
          rw [tk, List.filterMap_append]; unfold shownB1; simp [ht]
        have e2 : ((shownPs ls ws ns).take (i + 1)).filterMap (shownO1 ls ws ns) = ((shownPs ls ws ns).take i).filterMap (shownO1 ls ws ns) ++ [(p, foundL ls ws ns p)] := by
          rw [tk, List.filterMap_append]
          congr 1
          rw [List.filterMap_cons]
          unfold shownO1; simp [ht]
        rw [e1, e2, putD_new (fun z => ?_)]
        · unfold encO; rw [List.map_append]; rfl
        · unfold encO at z
          rw [List.map_map] at z
          obtain ⟨r, hr, er⟩ := List.mem_map.mp z
          have := fm_keys (f := shownO1 ls ws ns) o1 (List.mem_map_of_mem hr)
          rw [Sum.inl.inj er] at this
          exact hpn this
    · have hf : ¬ 1 < (foundL ls ws ns p).length := by have := of_decide_eq_false hf; rw [List.length_map] at this; omega
      obtain ⟨v, r, hv⟩ : ∃ v r, foundL ls ws ns p = v :: r := by
        cases e : foundL ls ws ns p with
        | nil => exact absurd e hfl
        | cons v r => exact ⟨v, r, rfl⟩
      have e2 : ((shownPs ls ws ns).take (i + 1)).filterMap (shownO1 ls ws ns) = ((shownPs ls ws ns).take i).filterMap (shownO1 ls ws ns) := by
        rw [tk, List.filterMap_append]; unfold shownO1; simp [hf]
      have hd0 : (foundL ls ws ns p).headD 0 = v := by rw [hv]; rfl
      have ev0 : atI ((foundL ls ws ns p).map D.int) (0 : Int) = some (.int v) := by rw [hv]; exact atI_nat (j := 0) rfl
      refine ws_if (et_gt (ev_ix ev0 (.inl rfl) (ev_var 7) ev_int) ev_int) (fun ht => ?_) fun hf2 => ?_
      · have ht := of_decide_eq_true ht
        refine ws_setk ((ev_ix ev0 (.inl rfl) (ev_var 7) ev_int).we ⟨_, .int p, .inl p, by rw [Sto.set_ne (Ne.symm ne)]; exact Sto.set_same, ?_, ev_var 4, ev_var 6, kI, ws_nil (ws_nil (ws_nil ⟨_, _, rfl, ?_⟩))⟩)
        · rw [length_encB]; have := kl (shownB1 ls ws ns); omega
        · rw [Sto.set_comm ne, Sto.set_set]
          have e1 : ((shownPs ls ws ns).take (i + 1)).filterMap (shownB1 ls ws ns) = ((shownPs ls ws ns).take i).filterMap (shownB1 ls ws ns) ++ [(p, v)] := by
            rw [tk, List.filterMap_append]
            congr 1
            rw [List.filterMap_cons]
            unfold shownB1; rw [if_neg hf, hd0, if_pos ht]; rfl
          rw [e1, e2, putG_encB, putG_new (fun z => hpn (fm_keys (f := shownB1 ls ws ns) b1 z))]
      · have hf2 := of_decide_eq_false hf2
        have e1 : ((shownPs ls ws ns).take (i + 1)).filterMap (shownB1 ls ws ns) = ((shownPs ls ws ns).take i).filterMap (shownB1 ls ws ns) := by
          rw [tk, List.filterMap_append]
          have : shownB1 ls ws ns p = none := by unfold shownB1; rw [if_neg hf, hd0, if_neg hf2]
          simp [this]
        refine ws_nil (ws_nil (ws_nil ⟨_, _, rfl, ?_⟩))
        rw [e1, e2]
  · rintro G' L' ⟨a, b, rfl, rfl⟩
    rw [List.length_map, List.take_length]
    refine ws_frzN 5 (by rw [Sto.set_ne ne]; exact no') (ws_frzN 4 nb ?_)
    exact ws_ret ((ev_tup (ea_2 (ev_var 4) (ev_var 5))).we h)
end
end FS
/-! text E4 -/
/-! E4: the items; doubled. -/
namespace FS
open PySem PySem.Spec PyProof.Rows L2
section
variable {B : Bg}
theorem cmul2 {i : Int} : CMul 2 i := .inl ⟨by decide, by decide⟩
abbrev sPp : Stmt := top 45
theorem scPp : FnScope ["item"] ["item"] (defScope sPp) := ⟨rfl, rfl, rfl, by decide +kernel, rfl, by decide +kernel, by decide +kernel⟩
def rPp : ASp := fun ds L post => ∃ i, ds = [.int i] ∧ post (.int (2 * i)) L
theorem ok_pp {f : Addr} {fd : FuncData} (F : Fun B.K "position_place" "position_place" sPp f fd) : FnOk B.P B.w B.K B.mg B.base CX0 1 f fd ["item"] (low rPp) := by
  refine ok_def F scPp (fun ds L post ⟨_, h, _⟩ => by rw [h]; rfl) fun S hS ds L post ⟨i, e, h⟩ => ?_
  subst e
  exact ws_ret ((ev_mul cmul2 ev_int (ev_var 0)).we h)
abbrev sCp : Stmt := top 46
theorem scCp : FnScope ["item"] ["item"] (defScope sCp) := ⟨rfl, rfl, rfl, by decide +kernel, rfl, by decide +kernel, by decide +kernel⟩
def rCp : ASp := fun ds L post => ∃ i, ds = [.int i] ∧ post (.int (2 * i + 1)) L
theorem ok_cp {f : Addr} {fd : FuncData} (F : Fun B.K "content_place" "content_place" sCp f fd) : FnOk B.P B.w B.K B.mg B.base CX0 1 f fd ["item"] (low rCp) := by
  refine ok_def F scCp (fun ds L post ⟨_, h, _⟩ => by rw [h]; rfl) fun S hS ds L post ⟨i, e, h⟩ => ?_
  subst e
  exact ws_ret ((ev_add (ev_mul cmul2 ev_int (ev_var 0)) ev_int).we h)
theorem put2 {a b : Int} {x y : D} (h : a ≠ b) : putAll [] [((.inl a : Key), x), (.inl b, y)] = [(.inl a, x), (.inl b, y)] := by
  have h1 : putG ([] : List (Key × D)) (.inl a) x = [(.inl a, x)] := rfl
  show putG (putG [] (.inl a : Key) x) (.inl b) y = _
  rw [h1, putG_new (by simp; exact fun z => h z.symm)]; rfl
theorem put1 {a : Int} {x : D} : putAll [] [((.inl a : Key), x)] = [(.inl a, x)] := rfl
abbrev sPl : Stmt := top 49
theorem scPl : FnScope ["item", "position", "content"] ["item", "position", "content"] (defScope sPl) := ⟨rfl, rfl, rfl, by decide +kernel, rfl, by decide +kernel, by decide +kernel⟩
def rPl : ASp := fun ds L post => ∃ i p c, ds = [.int i, .int p, .int c] ∧ post (.dct (encB [(2 * i, p), (2 * i + 1, c)])) L
theorem ok_pl {f : Addr} {fd : FuncData} (F : Fun B.K "placing" "placing" sPl f fd) (cPp : Cl B 1 "position_place" rPp) (cCp : Cl B 1 "content_place" rCp) : FnOk B.P B.w B.K B.mg B.base CX0 2 f fd ["item", "position", "content"] (low rPl) := by
  refine ok_def F scPl (fun ds L post ⟨_, _, _, h, _⟩ => by rw [h]; rfl) fun S hS ds L post ⟨i, p, c, e, h⟩ => ?_
  subst e
  exact ws_ret ((ev_disp (fun q => .cons (ev_call cPp (by decide) (ea_1 (ev_var 0)) ⟨i, rfl, rfl, rfl⟩) kI (ev_var 1) .int (.cons (ev_call cCp (by decide) (ea_1 (ev_var 0)) ⟨i, rfl, rfl, rfl⟩) kI (ev_var 2) .int .nil)) (put2 (by omega))).we h)
abbrev sMo : Stmt := top 50
theorem scMo : FnScope ["item", "position"] ["item", "position"] (defScope sMo) := ⟨rfl, rfl, rfl, by decide +kernel, rfl, by decide +kernel, by decide +kernel⟩
def rMo : ASp := fun ds L post => ∃ i p, ds = [.int i, .int p] ∧ post (.dct (encB [(2 * i, p)])) L
theorem ok_mo {f : Addr} {fd : FuncData} (F : Fun B.K "moving" "moving" sMo f fd) (cPp : Cl B 1 "position_place" rPp) : FnOk B.P B.w B.K B.mg B.base CX0 2 f fd ["item", "position"] (low rMo) := by
  refine ok_def F scMo (fun ds L post ⟨_, _, h, _⟩ => by rw [h]; rfl) fun S hS ds L post ⟨i, p, e, h⟩ => ?_
  subst e
  exact ws_ret ((ev_disp (fun q => .cons (ev_call cPp (by decide) (ea_1 (ev_var 0)) ⟨i, rfl, rfl, rfl⟩) kI (ev_var 1) .int .nil) put1).we h)
abbrev sCh : Stmt := top 51
theorem scCh : FnScope ["item", "content"] ["item", "content"] (defScope sCh) := ⟨rfl, rfl, rfl, by decide +kernel, rfl, by decide +kernel, by decide +kernel⟩
def rCh : ASp := fun ds L post => ∃ i p, ds = [.int i, .int p] ∧ post (.dct (encB [(2 * i + 1, p)])) L
theorem ok_ch {f : Addr} {fd : FuncData} (F : Fun B.K "changing" "changing" sCh f fd) (cCp : Cl B 1 "content_place" rCp) : FnOk B.P B.w B.K B.mg B.base CX0 2 f fd ["item", "content"] (low rCh) := by
  refine ok_def F scCh (fun ds L post ⟨_, _, h, _⟩ => by rw [h]; rfl) fun S hS ds L post ⟨i, p, e, h⟩ => ?_
  subst e
  exact ws_ret ((ev_disp (fun q => .cons (ev_call cCp (by decide) (ea_1 (ev_var 0)) ⟨i, rfl, rfl, rfl⟩) kI (ev_var 1) .int .nil) put1).we h)
abbrev sRe : Stmt := top 52
theorem scRe : FnScope ["item"] ["item"] (defScope sRe) := ⟨rfl, rfl, rfl, by decide +kernel, rfl, by decide +kernel, by decide +kernel⟩
def rRe : ASp := fun ds L post => ∃ i, ds = [.int i] ∧ post (.dct (encB [(2 * i, 0), (2 * i + 1, 0)])) L
theorem ok_re {f : Addr} {fd : FuncData} (F : Fun B.K "removing" "removing" sRe f fd) (cPp : Cl B 1 "position_place" rPp) (cCp : Cl B 1 "content_place" rCp) : FnOk B.P B.w B.K B.mg B.base CX0 2 f fd ["item"] (low rRe) := by
  refine ok_def F scRe (fun ds L post ⟨_, h, _⟩ => by rw [h]; rfl) fun S hS ds L post ⟨i, e, h⟩ => ?_
  subst e
  exact ws_ret ((ev_disp (fun q => .cons (ev_call cPp (by decide) (ea_1 (ev_var 0)) ⟨i, rfl, rfl, rfl⟩) kI ev_int .int (.cons (ev_call cCp (by decide) (ea_1 (ev_var 0)) ⟨i, rfl, rfl, rfl⟩) kI ev_int .int .nil)) (put2 (by omega))).we h)
/-! ### arrange -/
abbrev sAr : Stmt := top 48
theorem scAr : FnScope ["book", "count", "arrangement", "item", "position"] ["book", "count"] (defScope sAr) := ⟨rfl, rfl, rfl, by decide +kernel, rfl, by decide +kernel, by decide +kernel⟩
abbrev Arr := List (Int × (Int × Int))
def encA (a : Arr) : List (Key × D) := a.map fun p => (.inl p.1, encM p.2)
def arrStep (b : Bk) (acc : Arr) (i : Int) : Arr := if 0 < getB b (2 * i) then putG acc (getB b (2 * i)) (i, getB b (2 * i + 1)) else acc
def itemsL (c : Nat) : List Int := (List.range c).map fun i : Nat => (i : Int) + 1
def arrL (b : Bk) (c : Nat) : Arr := (itemsL c).foldl (arrStep b) []
def rAr : ASp := fun ds L post => ∃ b x c, ds = [x, .int (c : Nat)] ∧ Lk L x (.dct (encB b)) ∧ c ≤ 100 ∧ ∀ q, L q = none → post (.ptr q) (L.set q (.dct (encA (arrL b c))))
theorem putG_encA {a : Arr} {p : Int} {m : Int × Int} : putG (encA a) (.inl p) (encM m) = encA (putG a p m) := by
  have h1 : ((encA a).any fun kv => decide (kv.1 = (.inl p : Key))) = (a.any fun kv => decide (kv.1 = p)) := by
    unfold encA; rw [List.any_map]; congr 1; funext q
    by_cases e : q.1 = p
    · simp [e]
    · simp [e]
  unfold putG
  rw [h1]
  split
  · unfold encA; rw [List.map_map, List.map_map]; congr 1; funext q
    by_cases e : q.1 = p
    · simp [e]
    · simp [e]
  · unfold encA; rw [List.map_append]; rfl
theorem arr_len {b : Bk} : ∀ {is : List Int} {a : Arr}, (is.foldl (arrStep b) a).length ≤ a.length + is.length
  | [], a => by simp
  | i :: is, a => by
    have h1 := arr_len (b := b) (is := is) (a := arrStep b a i)
    have h2 : (arrStep b a i).length ≤ a.length + 1 := by
      unfold arrStep; split
      · unfold putG; split <;> simp
      · omega
    rw [List.foldl_cons, List.length_cons]; omega
theorem itemsL_len {c : Nat} : (itemsL c).length = c := by unfold itemsL; simp
theorem rngL_items {c : Nat} : rngL 1 1 c = (itemsL c).map D.int := by
  unfold rngL itemsL; rw [List.map_map]; congr 1; funext i
  show D.int (1 + (i : Int) * 1) = D.int ((i : Int) + 1)
  congr 1; omega
theorem ok_ar {f : Addr} {fd : FuncData} (F : Fun B.K "arrange" "arrange" sAr f fd) (cVa : Cl B 1 "value_at" rVa) (cPp : Cl B 1 "position_place" rPp) (cCp : Cl B 1 "content_place" rCp) : FnOk B.P B.w B.K B.mg B.base CX0 2 f fd ["book", "count"] (low rAr) := by
  refine ok_def F scAr (fun ds L post ⟨_, _, _, h, _⟩ => by rw [h]; rfl) fun S hS ds L post ⟨b, x, c, e, l, hc, h⟩ => ?_
  subst e
  have hline : 1000 ≤ sizeLine := by decide
  refine ws_set 2 (we_newD fun q nq => ?_)
  refine ws_for ((ei_range2 (n := c) (ea_2 ev_int (ev_add (ev_var 1) ev_int)) ⟨by decide, by decide⟩ ⟨by omega, by omega⟩ (by omega)).wi (forW_inv (fun i G' L' => ∃ a b', G' = [some x, some (.int (c : Nat)), some (.ptr q), a, b'] ∧ L' = L.set q (.dct (encA (((itemsL c).take i).foldl (arrStep b) [])))) ⟨_, _, rfl, rfl⟩ ?_ ?_))
  · rintro i d G' L' hd ⟨a, b', rfl, rfl⟩
    rw [rngL_items, List.getElem?_map] at hd
    obtain ⟨it, hi, rfl⟩ : ∃ it, (itemsL c)[i]? = some it ∧ d = .int it := by
      cases e : (itemsL c)[i]? with
      | none => rw [e] at hd; cases hd
      | some p => rw [e] at hd; cases hd; exact ⟨p, rfl, rfl⟩
    have tk : ((itemsL c).take (i + 1)).foldl (arrStep b) [] = arrStep b (((itemsL c).take i).foldl (arrStep b) []) it := by rw [List.take_succ, hi, List.foldl_append]; rfl
    have ll : (((itemsL c).take i).foldl (arrStep b) []).length ≤ c := by
      have := arr_len (b := b) (is := (itemsL c).take i) (a := [])
      have h2 : ((itemsL c).take i).length ≤ c := by rw [List.length_take, itemsL_len]; omega
      rw [List.length_nil] at this; omega
    refine ⟨_, _, wg_name 3, ?_⟩
    refine ws_set 4 ((ev_call cVa (by decide) (ea_2 (ev_var 0) (ev_call cPp (by decide) (ea_1 (ev_var 3)) ⟨it, rfl, rfl, rfl⟩)) ⟨b, x, _, rfl, lk_set l nq, rfl, rfl⟩).we ?_)
    refine ws_if (et_gt (ev_var 4) ev_int) (fun ht => ?_) fun hf => ws_nil (ws_nil ⟨_, _, rfl, by rw [tk]; unfold arrStep; rw [if_neg (of_decide_eq_false hf)]⟩)
    refine ws_setk ((ev_tup (ea_2 (ev_var 3) (ev_call cVa (by decide) (ea_2 (ev_var 0) (ev_call cCp (by decide) (ea_1 (ev_var 3)) ⟨it, rfl, rfl, rfl⟩)) ⟨b, x, _, rfl, lk_set l nq, rfl, rfl⟩))).we ⟨_, .int (getB b (2 * it)), .inl (getB b (2 * it)), Sto.set_same, ?_, ev_var 2, ev_var 4, kI, ws_nil (ws_nil ⟨_, _, rfl, ?_⟩)⟩)
    · unfold encA; rw [List.length_map]; omega
    · rw [Sto.set_set, tk]
      unfold arrStep
      rw [if_pos (of_decide_eq_true ht)]
      exact congrArg (fun z => L.set q (.dct z)) (putG_encA (m := (it, getB b (2 * it + 1))))
  · rintro G' L' ⟨a, b', rfl, rfl⟩
    refine ws_ret ((ev_var 2).we ?_)
    have := h q nq
    unfold arrL at this
    rw [rngL_len, show (itemsL c).take c = itemsL c from List.take_of_length_le (Nat.le_of_eq itemsL_len)]
    exact this
/-! ### doubled -/
abbrev sDo : Stmt := top 110
theorem scDo : FnScope ["arrangement", "standing", "entry", "item"] ["arrangement"] (defScope sDo) := ⟨rfl, rfl, rfl, by decide +kernel, rfl, by decide +kernel, by decide +kernel⟩
def rDo : ASp := fun ds L post => ∃ a : Arr, ds = [.dct (encA a)] ∧ (a.map (·.2.1)).Nodup ∧ a.length ≤ 60 ∧ post (.lst []) L
theorem ok_do {f : Addr} {fd : FuncData} (F : Fun B.K "doubled" "doubled" sDo f fd) (cAs : Cl B 1 "ascending" rAs) : FnOk B.P B.w B.K B.mg B.base CX0 2 f fd ["arrangement"] (low rDo) := by
  refine ok_def F scDo (fun ds L post ⟨_, h, _⟩ => by rw [h]; rfl) fun S hS ds L post ⟨a, e, nd, hl, h⟩ => ?_
  subst e
  have hline : 1000 ≤ sizeLine := by decide
  have ev : valsD (encA a) = a.map fun p => encM p.2 := by unfold valsD encA; rw [List.map_map]; rfl
  -- standing
  refine ws_setC hS 1 ((ev_lcP [("entry", 2)] (fun d => match d with | .tup [.int i, _] => some (.int i) | _ => none) (rs := (a.map (·.2.1)).map D.int) (dp_vals 0) (by rw [ev, List.length_map]; omega) (by
      rw [ev, List.filterMap_map, List.map_map, ← fm_some]; rfl) fun d hd => ?_).we ?_)
  · rw [ev] at hd
    obtain ⟨p, hp, rfl⟩ := List.mem_map.mp hd
    exact ⟨_, _, wg_name 2, by decide, wts_n rfl fun z => ev_ixT (atI_nat (j := 0) rfl) (ev_var 2) ev_int⟩
  · refine ws_ret ((ev_call cAs (by decide) (ea_1 (ev_lc [("item", 3)] (fun _ => none) (rs := ([] : List Int).map D.int) (ei_list (ev_var 1)) (by rw [List.length_map, List.length_map]; omega) (by generalize (a.map (·.2.1)).map D.int = l; induction l with | nil => rfl | cons x l ih => rw [List.filterMap_cons]; exact ih) fun d hd => ?_)) ⟨_, [], rfl, .inl (.inl rfl), few_len (by decide), rfl, rfl⟩).we h)
    obtain ⟨i, hi, rfl⟩ := List.mem_map.mp hd
    refine ⟨_, _, wg_name 3, by decide, wts_1 (fun z => et_gt (ev_count (.inl rfl) (ev_var 1) (ev_var 3)) ev_int) (fun _ => rfl) fun ht => ?_⟩
    have := of_decide_eq_true ht
    have h1 : (a.map (·.2.1)).count i ≤ 1 := List.nodup_iff_count.mp nd i
    omega
end
end FS
/-! text E5 -/
/-! E5: the law's own model, read. -/
namespace FS
open PySem PySem.Spec PyProof.Rows L2
section
variable {B : Bg} {N : List Str} {sc : Scope} {k : Nat} {S : Sit B N sc k} {G : Gam} {L : Sto} {pos : Pos} {scope : Scope}
/-- a comprehension's own name that one within it reads -/
theorem wg_nameB (i : Nat) {x : Str} {d : D} (hN : N.Nodup := by decide +kernel) (hi : N[i]? = some x := by rfl) (hx : scope.names.lookup x = some .cell := by rfl) (hx' : (relS scope sc).names.lookup x = some .cell := by rfl) : Wg (S.blk scope) (.Name x pos) d G (G.set i (some d)) [i] := fun L σ H v A r Q h =>
  ⟨gName i, fun X ⟨X0, s, H0, C, cl, fp, hX, e⟩ => by
    have hf : X.fn x = true := by subst e; show (scope.names.lookup x == some .cell) = true; rw [hx]; rfl
    obtain ⟨y, rfl, _⟩ := (S.blk scope).fam X ⟨X0, s, H0, C, cl, fp, hX, e⟩
    exact pg_name hN hi (.inr hx') (.inl hf), h _ (A.set r i) ⟨List.length_set .., fun j hj => List.getElem?_set_ne (fun e => hj (by rw [e]; exact List.mem_singleton_self _))⟩⟩
end
/-- the law's world: parents, writes, books, and what is behind each node -/
structure Wd where
  par : List (List Nat)
  wr : List Bk
  bk : List Bk
  inn : List (List Nat)
structure AtW (L : Sto) (d : D) (m : Wd) : Prop where
  ex : ∃ d0 d1 d2 d3, Lk L d (.lst [d0, d1, d2, d3]) ∧ Lk L d0 (.lst (encLk m.par)) ∧ Lk L d1 (.lst (encW m.wr)) ∧ Lk L d2 (.lst (encW m.bk)) ∧ Lk L d3 (.lst (encLk m.inn))
def inn (m : Wd) (n : Nat) : List Nat := m.inn[n]?.getD []
def lawPast (m : Wd) (ns : List Nat) : List Nat := (List.range m.par.length).filter fun k => decide (0 < (ns.filter fun n => decide (k ∈ inn m n)).length)
section
variable {B : Bg}
abbrev tPa : Stmt := top 121
theorem scTPa : FnScope ["_law_world_here", "_law_nodes", "_law_k", "_law_n"] ["_law_world_here", "_law_nodes"] (defScope tPa) := ⟨rfl, rfl, rfl, by decide +kernel, rfl, by decide +kernel, by decide +kernel⟩
def rTPa : ASp := fun ds L post => ∃ m ns x, ds = [x, .lst (encN ns)] ∧ AtW L x m ∧ m.inn.length = m.par.length ∧ (∀ n ∈ ns, n < m.par.length) ∧ m.par.length ≤ 60 ∧ ns.length ≤ 60 ∧ post (.lst (encN (lawPast m ns))) L
theorem mem_encN {n : Nat} {ns : List Nat} : decide ((n : Int) ∈ ns.map Int.ofNat) = decide (n ∈ ns) := by
  by_cases h : n ∈ ns
  · rw [decide_eq_true h, decide_eq_true]
    exact List.mem_map.mpr ⟨n, h, rfl⟩
  · rw [decide_eq_false h, decide_eq_false]
    rintro z
    obtain ⟨j, hj, e⟩ := List.mem_map.mp z
    have : j = n := by have e' : (j : Int) = (n : Int) := e; omega
    exact h (this ▸ hj)
section
variable {N : List Str} {sc : Scope} {k : Nat} {S : Sit B N sc k} {G : Gam} {L : Sto} {a b e : Expr} {pos p : Pos} {d : D} {ns : List Nat} {n : Nat}
theorem et_inN (l : Lk L d (.lst (encN ns))) (ha : Ev S G L a (natD n)) (hb : Ev S G L b d) (hm : behindInMarks .In b = false := by with_unfolding_all rfl) : Et S G L (.Compare a [.In] [b] pos) (decide (n ∈ ns)) := by
  rw [← mem_encN]; rw [encN_ints] at l; exact et_inI l ha hb hm
theorem et_ninN (l : Lk L d (.lst (encN ns))) (ha : Ev S G L a (natD n)) (hb : Ev S G L b d) (hm : behindInMarks .NotIn b = false := by with_unfolding_all rfl) : Et S G L (.Compare a [.NotIn] [b] pos) (!decide (n ∈ ns)) := by
  rw [← mem_encN]; rw [encN_ints] at l; exact et_ninI l ha hb hm
theorem ev_lenN (l : Lk L d (.lst (encN ns))) (h : Ev S G L e d) (hg : GlS sc "len" := by rfl) (he : St1 e := by intro _; rfl) : Ev S G L (.Call (.Name "len" p) [e] [] pos) (natD ns.length) := by
  have := ev_len (p := p) (pos := pos) l h hg he
  rw [encN_len] at this; exact this
theorem et_gtN {m : Nat} (ha : Ev S G L a (natD n)) (hb : Ev S G L b (natD m)) : Et S G L (.Compare a [.Gt] [b] pos) (decide (m < n)) := by
  have := et_gt (pos := pos) ha hb
  rwa [show decide ((m : Int) < (n : Int)) = decide (m < n) by by_cases h : m < n <;> simp [h] <;> omega] at this
theorem et_eqN {m : Nat} (ha : Ev S G L a (natD n)) (hb : Ev S G L b (natD m)) : Et S G L (.Compare a [.Eq] [b] pos) (decide (n = m)) := by
  have := et_eqI (pos := pos) ha hb
  rwa [show decide ((n : Int) = (m : Int)) = decide (n = m) by by_cases h : n = m <;> simp [h] <;> omega] at this
theorem et_neN {m : Nat} (ha : Ev S G L a (natD n)) (hb : Ev S G L b (natD m)) : Et S G L (.Compare a [.NotEq] [b] pos) (!decide (n = m)) := by
  have := et_neI (pos := pos) ha hb
  rwa [show decide ((n : Int) = (m : Int)) = decide (n = m) by by_cases h : n = m <;> simp [h] <;> omega] at this
theorem ev_nat {j} (n : Nat) {i : Int} (h : i = (n : Int) := by rfl) : Ev S G L (.Constant (.int i) j pos) (natD n) := by subst h; exact ev_int
/-- [n for n in ns if q n], the test pure -/
theorem ev_fltN {it elt : Expr} {scope : Scope} {x : Str} {ps p1 : Pos} {c : Expr} (i : Nat) (q : Nat → Bool) (hi : Ei false S G L (.Name x p1) it (encN ns)) (hz : ns.length ≤ 1000)
    (h : ∀ n ∈ ns, Wg (S.blk scope) (.Name x p1) (natD n) (wipeG G [i]) ((wipeG G [i]).set i (some (natD n))) [i] ∧ ∀ z, Et (S.blk scope) ((wipeG G [i]).set i (some (natD n))) (L.prot z) c (q n) ∧ Ev (S.blk scope) ((wipeG G [i]).set i (some (natD n))) (L.prot z) elt (natD n))
    (hN : N.Nodup := by decide +kernel) (ok : BlkOk N sc scope [(x, i)] := by exact blkOk_by (by decide +kernel)) (hs : ∀ env x, foldedSetIterable it env x = pure x := by intro _ _; rfl) : Ev S G L (.ListComp elt [⟨.Name x p1, it, [c], 0⟩] scope ps) (.lst (encN (ns.filter q))) := by
  have hline : 1000 ≤ sizeLine := by decide
  refine ev_lc [(x, i)] (onN fun n => if q n = true then some (natD n) else none) hi (by rw [encN_len]; omega) filter_encN (fun d hd => ?_) hN ok hs
  obtain ⟨n, hn, rfl⟩ := List.mem_map.mp hd
  obtain ⟨h1, h2⟩ := h n hn
  refine ⟨_, _, h1, by simp, wts_1 (fun z => (h2 z).1) (fun hf => ?_) fun ht => ⟨_, fun z => (h2 z).2, ?_⟩⟩
  · show (if q ((n : Int)).toNat = true then _ else _) = _
    rw [Int.toNat_natCast, if_neg (by rw [hf]; exact Bool.false_ne_true)]
  · show (if q ((n : Int)).toNat = true then _ else _) = _
    rw [Int.toNat_natCast, if_pos ht]
end
theorem ok_tpa {f : Addr} {fd : FuncData} (F : Fun B.K "_law_past" "_law_past" tPa f fd) : FnOk B.P B.w B.K B.mg B.base CX0 1 f fd ["_law_world_here", "_law_nodes"] (low rTPa) := by
  refine ok_def F scTPa (fun ds L post ⟨_, _, _, h, _⟩ => by rw [h]; rfl) fun S hS ds L post ⟨m, ns, x, e, ⟨d0, d1, d2, d3, lx, l0, l1, l2, l3⟩, hi, hn, hl, hnl, h⟩ => ?_
  subst e
  refine ws_ret ((ev_fltN 2 (fun k => decide (0 < (ns.filter fun n => decide (k ∈ inn m n)).length)) (rngL_nat ▸ ei_range1 (length_encLk (ls := m.par) ▸ ev_len l0 (ev_ix (atI_nat (j := 0) rfl) lx (ev_var 0) ev_int)) (by omega)) (by rw [List.length_range]; omega) fun k hk => ⟨wg_nameB 2, fun z => ⟨?_, ev_var 2⟩⟩).we h)
  refine et_gtN (ev_lenN (.inl rfl) (ev_fltN 3 (fun n => decide (k ∈ inn m n)) (ei_list (ev_var 1)) (by omega) fun n hnn => ⟨wg_name 3, fun z' => ⟨?_, ev_var 3⟩⟩)) (ev_nat 0)
  exact et_inN (.inl rfl) (ev_var 2) (ev_ix (encLk_at (by rw [hi]; exact hn n hnn)) l3 (ev_ix (atI_nat (j := 3) rfl) lx (ev_var 0) ev_int) (ev_var 3))
end
end FS
/-! text E6 -/
/-! E6: the law's heads and values; its books. -/
namespace FS
open PySem PySem.Spec PyProof.Rows L2
def lawWriters (m : Wd) (ns : List Nat) (p : Int) : List Nat := (lawPast m ns).filter fun k => isW m.wr k p
def lawHeads (m : Wd) (ns : List Nat) (p : Int) : List Nat := (lawWriters m ns p).filter fun k => decide (((lawWriters m ns p).filter fun n => !decide (n = k) && decide (k ∈ inn m n)).length = 0)
def dd (vs : List Int) : List Int := vs.foldl (fun acc v => if v ∈ acc then acc else acc ++ [v]) []
def lawFound (m : Wd) (ns : List Nat) (p : Int) : List Int := sortI (dd ((lawHeads m ns p).map fun n => getB (wrB m.wr n) p))
/-- a world of which the law's functions may be asked -/
structure WdOk (m : Wd) : Prop where
  inn : m.inn.length = m.par.length
  wr : m.wr.length = m.par.length
  bk : m.bk.length = m.par.length
  le : m.par.length ≤ 60
section
variable {B : Bg}
abbrev tHe : Stmt := top 122
theorem scTHe : FnScope ["_law_world_here", "_law_nodes", "_law_place", "_law_writers", "_law_k", "_law_n"] ["_law_world_here", "_law_nodes", "_law_place"] (defScope tHe) := ⟨rfl, rfl, rfl, by decide +kernel, rfl, by decide +kernel, by decide +kernel⟩
def rTHe : ASp := fun ds L post => ∃ m ns x p, ds = [x, .lst (encN ns), .int p] ∧ AtW L x m ∧ WdOk m ∧ (∀ n ∈ ns, n < m.par.length) ∧ ns.length ≤ 60 ∧ post (.lst (encN (lawHeads m ns p))) L
theorem lawPast_lt {m : Wd} {ns : List Nat} {n : Nat} (h : n ∈ lawPast m ns) : n < m.par.length := List.mem_range.mp (List.mem_filter.mp h).1
theorem lawPast_len {m : Wd} {ns : List Nat} : (lawPast m ns).length ≤ m.par.length := by
  unfold lawPast
  have h := List.length_filter_le (fun k => decide (0 < (ns.filter fun n => decide (k ∈ inn m n)).length)) (List.range m.par.length)
  rw [List.length_range] at h; exact h
theorem lawWriters_lt {m : Wd} {ns : List Nat} {p : Int} {n : Nat} (h : n ∈ lawWriters m ns p) : n < m.par.length := lawPast_lt (List.mem_filter.mp h).1
theorem lawWriters_len {m : Wd} {ns : List Nat} {p : Int} : (lawWriters m ns p).length ≤ m.par.length := Nat.le_trans (List.length_filter_le ..) lawPast_len
theorem ok_the {f : Addr} {fd : FuncData} (F : Fun B.K "_law_heads" "_law_heads" tHe f fd) (cPa : Cl B 1 "_law_past" rTPa) : FnOk B.P B.w B.K B.mg B.base CX0 2 f fd ["_law_world_here", "_law_nodes", "_law_place"] (low rTHe) := by
  refine ok_def F scTHe (fun ds L post ⟨_, _, _, _, h, _⟩ => by rw [h]; rfl) fun S hS ds L post ⟨m, ns, x, p, e, aw, ok, hn, hnl, h⟩ => ?_
  obtain ⟨d0, d1, d2, d3, lx, l0, l1, l2, l3⟩ := aw.ex
  subst e
  have hle := ok.le
  have hpl := lawPast_len (m := m) (ns := ns)
  have hwl := lawWriters_len (m := m) (ns := ns) (p := p)
  refine ws_setC hS 3 ((ev_fltN 4 (fun k => isW m.wr k p) (ei_list (ev_call cPa (by decide) (ea_2 (ev_var 0) (ev_var 1)) ⟨m, ns, x, rfl, aw, ok.inn, hn, ok.le, hnl, rfl, rfl⟩)) (by omega) fun k hk => ⟨wg_name 4, fun z => ⟨?_, ev_var 4⟩⟩).we ?_)
  · have hkl := lawPast_lt hk
    exact et_or (et_eqN (ev_var 4) (ev_nat 0)) fun _ => isSome_encB (b := wrB m.wr k) (p := p) ▸ et_din (kvs := encB (wrB m.wr k)) kI (.inl rfl) (ev_var 2) (ev_ix (encW_at (by rw [ok.wr]; exact hkl)) l1 (ev_ix (atI_nat (j := 1) rfl) lx (ev_var 0) ev_int) (ev_var 4))
  · refine ws_ret ((ev_fltN 4 (fun k => decide (((lawWriters m ns p).filter fun n => !decide (n = k) && decide (k ∈ inn m n)).length = 0)) (ei_list (ev_var 3)) (by show (lawWriters m ns p).length ≤ _; omega) fun k hk => ⟨wg_nameB 4, fun z => ⟨?_, ev_var 4⟩⟩).we h)
    refine et_eqN (ev_lenN (.inl rfl) (ev_fltN 5 (fun n => !decide (n = k) && decide (k ∈ inn m n)) (ei_list (ev_var 3)) (by show (lawWriters m ns p).length ≤ _; omega) fun n hnn => ⟨wg_name 5, fun z' => ⟨?_, ev_var 5⟩⟩)) (ev_nat 0)
    exact et_and (et_neN (ev_var 5) (ev_var 4)) fun _ => et_inN (.inl rfl) (ev_var 4) (ev_ix (encLk_at (by rw [ok.inn]; exact lawWriters_lt hnn)) l3 (ev_ix (atI_nat (j := 3) rfl) lx (ev_var 0) ev_int) (ev_var 5))
abbrev tFo : Stmt := top 123
theorem scTFo : FnScope ["_law_world_here", "_law_nodes", "_law_place", "_law_result", "_law_head", "_law_value"] ["_law_world_here", "_law_nodes", "_law_place"] (defScope tFo) := ⟨rfl, rfl, rfl, by decide +kernel, rfl, by decide +kernel, by decide +kernel⟩
def rTFo : ASp := fun ds L post => ∃ m ns x p, ds = [x, .lst (encN ns), .int p] ∧ AtW L x m ∧ WdOk m ∧ (∀ n ∈ ns, n < m.par.length) ∧ ns.length ≤ 60 ∧ post (.lst ((lawFound m ns p).map D.int)) L
theorem AtW.set {L : Sto} {x : D} {m : Wd} {q : Addr} {d : D} (a : AtW L x m) (n : L q = none) : AtW (L.set q d) x m := by
  obtain ⟨d0, d1, d2, d3, h, h0, h1, h2, h3⟩ := a.ex
  exact ⟨d0, d1, d2, d3, lk_set h n, lk_set h0 n, lk_set h1 n, lk_set h2 n, lk_set h3 n⟩
theorem dd_snoc {vs : List Int} {v : Int} : dd (vs ++ [v]) = if v ∈ dd vs then dd vs else dd vs ++ [v] := by unfold dd; rw [List.foldl_append]; rfl
theorem dd_len : ∀ {vs acc : List Int}, (vs.foldl (fun acc v => if v ∈ acc then acc else acc ++ [v]) acc).length ≤ acc.length + vs.length
  | [], acc => by simp
  | v :: vs, acc => by
    rw [List.foldl_cons, List.length_cons]
    have := dd_len (vs := vs) (acc := if v ∈ acc then acc else acc ++ [v])
    have h2 : (if v ∈ acc then acc else acc ++ [v]).length ≤ acc.length + 1 := by split <;> simp
    omega
theorem ok_tfo {f : Addr} {fd : FuncData} (F : Fun B.K "_law_found" "_law_found" tFo f fd) (cHe : Cl B 2 "_law_heads" rTHe) : FnOk B.P B.w B.K B.mg B.base CX0 3 f fd ["_law_world_here", "_law_nodes", "_law_place"] (low rTFo) := by
  refine ok_def F scTFo (fun ds L post ⟨_, _, _, _, h, _⟩ => by rw [h]; rfl) fun S hS ds L post ⟨m, ns, x, p, e, aw, ok, hn, hnl, h⟩ => ?_
  subst e
  have hline : 1000 ≤ sizeLine := by decide
  have hle := ok.le
  have hwl := lawWriters_len (m := m) (ns := ns) (p := p)
  have hhl : (lawHeads m ns p).length ≤ 60 := Nat.le_trans (List.length_filter_le ..) (by omega)
  have hvl : ((lawHeads m ns p).map fun n => getB (wrB m.wr n) p).length ≤ 60 := by rw [List.length_map]; exact hhl
  generalize hvs : ((lawHeads m ns p).map fun n => getB (wrB m.wr n) p) = vs at hvl
  refine ws_set 3 (we_newL fun q nq => ?_)
  refine ws_for ((ei_list (ev_call cHe (by decide) (ea_cons (ev_var 0) (ea_2 (ev_var 1) (ev_var 2))) ⟨m, ns, x, p, rfl, aw.set nq, ok, hn, hnl, rfl, rfl⟩)).wi (forW_inv (fun i G' L' => ∃ a b, G' = [some x, some (.lst (encN ns)), some (.int p), some (.ptr q), a, b] ∧ L' = L.set q (.lst ((dd (vs.take i)).map D.int))) ⟨_, _, rfl, rfl⟩ ?_ ?_))
  · rintro i d G' L' hd ⟨a, b, rfl, rfl⟩
    obtain ⟨n, hnn, rfl⟩ := encN_get hd
    have hnl' := lawWriters_lt (List.mem_filter.mp (List.mem_of_getElem? hnn)).1
    have hv : vs[i]? = some (getB (wrB m.wr n) p) := by rw [← hvs, List.getElem?_map, hnn]; rfl
    have tk : vs.take (i + 1) = vs.take i ++ [getB (wrB m.wr n) p] := by rw [List.take_succ, hv]; rfl
    obtain ⟨d0, d1, d2, d3, lx, l0, l1, l2, l3⟩ := (aw.set (d := .lst ((dd (vs.take i)).map D.int)) nq).ex
    refine ⟨_, _, wg_name 4, ?_⟩
    refine ws_set 5 ((ev_get2 get_encB (.inl rfl) (ev_ix (encW_at (by rw [ok.wr]; exact hnl')) l1 (ev_ix (atI_nat (j := 1) rfl) lx (ev_var 0) ev_int) (ev_var 4)) (ev_var 2) ev_int).we ?_)
    refine ws_if (et_ninI (.inr ⟨q, rfl, Sto.set_same⟩) (ev_var 5) (ev_var 3)) (fun ht => ?_) fun hf => ws_nil (ws_nil ⟨_, _, rfl, by rw [tk, dd_snoc, if_pos (by simpa using hf)]⟩)
    refine ws_expr (we_append (ev_var 3) ((ev_var 5).we ⟨_, Sto.set_same, ?_, ws_nil (ws_nil ⟨_, _, rfl, ?_⟩)⟩) ⟨_, Sto.set_same⟩)
    · have := dd_len (vs := vs.take i) (acc := [])
      have h2 : (vs.take i).length ≤ vs.length := by rw [List.length_take]; omega
      rw [List.length_map]; unfold dd; simp at this; omega
    · rw [Sto.set_set, tk, dd_snoc, if_neg (by simpa using ht), List.map_append]; rfl
  · rintro G' L' ⟨a, b, rfl, rfl⟩
    rw [encN_len, show (lawHeads m ns p).length = vs.length by rw [← hvs, List.length_map], List.take_length]
    refine ws_frzN 3 nq ?_
    have hdl : (dd vs).length ≤ 60 := by have := dd_len (vs := vs) (acc := []); unfold dd; simp at this; omega
    refine ws_ret ((ev_sortI (ns := dd vs) (.inl rfl) (ev_lc [("_law_value", 5)] (onI fun i => some (.int i)) (ei_list (ev_var 3)) (by rw [List.length_map]; omega) (by rw [onI_map, fm_some]) fun d hd => ?_)).we ?_)
    · obtain ⟨i, hi, rfl⟩ := List.mem_map.mp hd
      exact ⟨_, _, wg_name 5, by decide, wts_n rfl fun z => ev_int1 (ev_var 5)⟩
    · unfold lawFound at h; rw [hvs] at h; exact h
end
end FS
/-! text E7 -/
/-! E7: the law's books. -/
namespace FS
open PySem PySem.Spec PyProof.Rows L2
def lawPs (b w : Bk) : List Int := sortI (keysB b ++ (keysB w).filter fun q => (valG b q).isNone)
def lawV (b w : Bk) (p : Int) : Int := (valG w p).getD (getB b p)
def lawW1 (b w : Bk) (p : Int) : Option (Int × Int) := if 0 < lawV b w p then some (p, lawV b w p) else none
def lawW (b w : Bk) : Bk := (lawPs b w).filterMap (lawW1 b w)
theorem sortI_len {ns : List Int} : (sortI ns).length = ns.length := (List.mergeSort_perm ns _).length_eq
theorem sortI_mem {ns : List Int} {k : Int} : k ∈ sortI ns ↔ k ∈ ns := (List.mergeSort_perm ns _).mem_iff
theorem valG_mem {b : Bk} {p : Int} : (valG b p).isSome = decide (p ∈ keysB b) := by
  induction b with
  | nil => rfl
  | cons q b ih =>
    rw [valG_cons]
    unfold keysB at ih ⊢
    by_cases e : q.1 = p
    · rw [if_pos e]; simp [e]
    · have e' : ¬ p = q.1 := fun z => e z.symm
      rw [if_neg e, ih]; simp [e']
theorem valG_none {b : Bk} {p : Int} : valG b p = none ↔ p ∉ keysB b := by
  have := valG_mem (b := b) (p := p)
  cases e : valG b p with
  | none => rw [e] at this; simpa using this
  | some v => rw [e] at this; simpa using this
theorem isNone_mem {b : Bk} {p : Int} : (valG b p).isNone = !(valG b p).isSome := by cases valG b p <;> rfl
theorem lawPs_nd {b w : Bk} (hb : (keysB b).Nodup) (hw : (keysB w).Nodup) : (lawPs b w).Nodup := by
  unfold lawPs sortI
  refine (List.mergeSort_perm _ _).nodup_iff.mpr (List.nodup_append.mpr ⟨hb, hw.sublist List.filter_sublist, fun a ha c hc e => ?_⟩)
  subst e
  have := (List.mem_filter.mp hc).2
  rw [Option.isNone_iff_eq_none, valG_none] at this
  exact this ha
section
variable {B : Bg} {N : List Str} {sc : Scope} {k : Nat} {S : Sit B N sc k} {G : Gam} {L : Sto} {a b c e : Expr} {pos p : Pos}
theorem et_dinB {x : D} {bk : Bk} {i : Int} (l : Lk L x (.dct (encB bk))) (ha : Ev S G L a (.int i)) (hb : Ev S G L b x) (hm : behindInMarks .In b = false := by with_unfolding_all rfl) : Et S G L (.Compare a [.In] [b] pos) (valG bk i).isSome := by
  have := et_din (pos := pos) kI l ha hb hm
  rwa [isSome_encB] at this
theorem et_dninB {x : D} {bk : Bk} {i : Int} (l : Lk L x (.dct (encB bk))) (ha : Ev S G L a (.int i)) (hb : Ev S G L b x) (hm : behindInMarks .NotIn b = false := by with_unfolding_all rfl) : Et S G L (.Compare a [.NotIn] [b] pos) (!(valG bk i).isSome) := by
  have := et_dnin (pos := pos) kI l ha hb hm
  rwa [isSome_encB] at this
theorem ev_dgetB {x : D} {bk : Bk} {i v : Int} (hv : valG bk i = some v) (l : Lk L x (.dct (encB bk))) (ha : Ev S G L a x) (hb : Ev S G L b (.int i)) (hs : NoSl b := by exact fun _ _ => rfl) : Ev S G L (.Subscript a b pos) (.int v) := ev_dgetI (by rw [valG_encB, hv]; rfl) l ha hb hs
/-- two ways that meet -/
theorem ws_join {st : Stmt} {rest : List Stmt} {E : AE} (mid : Gam → Sto → Prop) (h : Wo S G L st { E with nx := mid }) (h2 : ∀ G' L', mid G' L' → Ws S G' L' rest E) : Ws S G L (st :: rest) E := ws_cons fun σ H A D cc =>
  h σ H A D ⟨fun G' L' σ' H' w => cc.nx G' L' σ' H' (h2 G' L' w), cc.rt, cc.bk, cc.ct, cc.xc⟩
theorem wo_ifB {b : Bool} {t u : List Stmt} {E : AE} (h : Et S G L c b) (hT : b = true → Ws S G L t E) (hF : b = false → Ws S G L u E) : Wo S G L (.If c t u pos) E :=
  wo_if (h.wt (by cases b with
    | true => exact hT rfl
    | false => exact hF rfl))
end
section
variable {B : Bg}
abbrev tWr : Stmt := top 115
theorem scTWr : FnScope ["_law_book", "_law_writes", "_law_result", "_law_place", "_law_value", "_law_p", "_law_q"] ["_law_book", "_law_writes"] (defScope tWr) := ⟨rfl, rfl, rfl, by decide +kernel, rfl, by decide +kernel, by decide +kernel⟩
def rTWr : ASp := fun ds L post => ∃ b w x, ds = [x, .dct (encB w)] ∧ Lk L x (.dct (encB b)) ∧ (keysB b).Nodup ∧ (keysB w).Nodup ∧ b.length ≤ 60 ∧ w.length ≤ 60 ∧ post (.dct (encB (lawW b w))) L
theorem length_keysB {b : Bk} : (keysB b).length = b.length := by unfold keysB; simp
theorem filter_ints {ns : List Int} {q : Int → Bool} : (ns.map D.int).filterMap (onI fun n => if q n = true then some (.int n) else none) = (ns.filter q).map D.int := by
  rw [onI_map]
  induction ns with
  | nil => rfl
  | cons n ns ih =>
    rw [List.filterMap_cons]
    by_cases h : q n = true
    · rw [if_pos h, List.filter_cons_of_pos h]; simp only; rw [ih]; rfl
    · rw [if_neg h, List.filter_cons_of_neg h]; simp only; rw [ih]
theorem ok_twr {f : Addr} {fd : FuncData} (F : Fun B.K "_law_written" "_law_written" tWr f fd) : FnOk B.P B.w B.K B.mg B.base CX0 1 f fd ["_law_book", "_law_writes"] (low rTWr) := by
  refine ok_def F scTWr (fun ds L post ⟨_, _, _, h, _⟩ => by rw [h]; rfl) fun S hS ds L post ⟨b, w, x, e, lx, nb, nw, hb, hw, h⟩ => ?_
  subst e
  have hline : 1000 ≤ sizeLine := by decide
  have hfl : ((keysB w).filter fun q => (valG b q).isNone).length ≤ 60 := Nat.le_trans (List.length_filter_le ..) (by rw [length_keysB]; exact hw)
  have hpl : (lawPs b w).length ≤ 120 := by unfold lawPs; rw [sortI_len, List.length_append, length_keysB]; omega
  have nd := lawPs_nd nb nw
  have w1 : ∀ p q, lawW1 b w p = some q → q.1 = p := fun p q e => by
    unfold lawW1 at e
    split at e
    · cases e; rfl
    · cases e
  refine ws_set 2 (we_newD fun q nq => ?_)
  refine ws_for ((ei_list (ds := (lawPs b w).map D.int) (ev_sortI (.inl rfl) (ev_lc [("_law_p", 5)] (onI fun i => some (.int i)) (ei_list (ev_cat (.inl rfl) (.inl rfl) (by rw [List.length_map, List.length_map, length_keysB]; omega) (keysD_encB ▸ ev_listKeys (lk_set lx nq) (ev_var 0))
      (ev_lcP [("_law_q", 6)] (onI fun i => if (valG b i).isNone = true then some (.int i) else none) (rs := ((keysB w).filter fun q => (valG b q).isNone).map D.int) (dp_keys 1) (by unfold keysD; rw [List.length_map, length_encB]; omega) (by rw [keysD_encB]; exact filter_ints) fun d hd => ?_))) (by rw [List.length_append, List.length_map, List.length_map, length_keysB]; omega) (by rw [← List.map_append, onI_map, fm_some]) fun d hd => ?_))).wi
    (forW_inv (fun i G' L' => ∃ a c d e, G' = [some x, some (.dct (encB w)), some (.ptr q), a, c, d, e] ∧ L' = L.set q (.dct (encB (((lawPs b w).take i).filterMap (lawW1 b w))))) ⟨_, _, _, _, rfl, rfl⟩ ?_ ?_))
  · rw [keysD_encB] at hd
    obtain ⟨i, hi, rfl⟩ := List.mem_map.mp hd
    refine ⟨_, _, wg_name 6, by decide, wts_1 (fun z => et_dninB (lk_set lx nq) (ev_var 6) (ev_var 0)) (fun hf => ?_) fun ht => ⟨_, fun z => ev_var 6, ?_⟩⟩
    · show (if (valG b i).isNone = true then _ else _) = _
      rw [isNone_mem, if_neg (by rw [hf]; exact Bool.false_ne_true)]
    · show (if (valG b i).isNone = true then _ else _) = _
      rw [isNone_mem, if_pos ht]
  · rw [← List.map_append] at hd
    obtain ⟨i, hi, rfl⟩ := List.mem_map.mp hd
    exact ⟨_, _, wg_name 5, by decide, wts_n rfl fun z => ev_int1 (ev_var 5)⟩
  · rintro i d G' L' hd ⟨a, c, d', e', rfl, rfl⟩
    rw [List.getElem?_map] at hd
    obtain ⟨p, hp, rfl⟩ : ∃ p, (lawPs b w)[i]? = some p ∧ d = .int p := by
      cases e : (lawPs b w)[i]? with
      | none => rw [e] at hd; cases hd
      | some p => rw [e] at hd; cases hd; exact ⟨p, rfl, rfl⟩
    have hpn := take_nd nd hp
    have tk : (lawPs b w).take (i + 1) = (lawPs b w).take i ++ [p] := by rw [List.take_succ, hp]; rfl
    have hil : i < (lawPs b w).length := (List.getElem?_eq_some_iff.mp hp).1
    refine ⟨_, _, wg_name 3, ?_⟩
    refine ws_set 4 ((ev_get2 get_encB (lk_set lx nq) (ev_var 0) (ev_var 3) ev_int).we ?_)
    refine ws_join (fun G' L' => G' = [some x, some (.dct (encB w)), some (.ptr q), some (.int p), some (.int (lawV b w p)), d', e'] ∧ L' = L.set q (.dct (encB (((lawPs b w).take i).filterMap (lawW1 b w))))) (wo_ifB (et_dinB (.inl rfl) (ev_var 3) (ev_var 1)) (fun ht => ?_) fun hf => ws_nil ⟨?_, rfl⟩) ?_
    · obtain ⟨v, hv⟩ := Option.isSome_iff_exists.mp ht
      refine ws_set 4 ((ev_dgetB hv (.inl rfl) (ev_var 1) (ev_var 3)).we (ws_nil ⟨?_, rfl⟩))
      unfold lawV; rw [hv]; rfl
    · unfold lawV
      cases e : valG w p with
      | none => rfl
      | some v => rw [e] at hf; cases hf
    · rintro G' L' ⟨rfl, rfl⟩
      refine ws_if (et_gt (ev_var 4) ev_int) (fun ht => ?_) fun hf => ws_nil (ws_nil ⟨_, _, _, _, rfl, ?_⟩)
      · refine ws_setk ((ev_var 4).we ⟨_, .int p, .inl p, Sto.set_same, ?_, ev_var 2, ev_var 3, kI, ws_nil (ws_nil ⟨_, _, _, _, rfl, ?_⟩)⟩)
        · rw [length_encB]
          have := List.length_filterMap_le (lawW1 b w) ((lawPs b w).take i)
          rw [List.length_take] at this; omega
        · have e1 : ((lawPs b w).take (i + 1)).filterMap (lawW1 b w) = ((lawPs b w).take i).filterMap (lawW1 b w) ++ [(p, lawV b w p)] := by
            rw [tk, List.filterMap_append]
            congr 1
            rw [List.filterMap_cons]
            unfold lawW1; rw [if_pos (of_decide_eq_true ht)]; rfl
          rw [Sto.set_set, e1, putG_encB, putG_new (fun z => hpn (fm_keys (f := lawW1 b w) w1 z))]
      · have e1 : lawW1 b w p = none := by unfold lawW1; rw [if_neg (of_decide_eq_false hf)]
        rw [tk, List.filterMap_append]; simp [e1]
  · rintro G' L' ⟨a, c, d, e, rfl, rfl⟩
    rw [List.length_map, List.take_length]
    exact ws_frzN 2 nq (ws_ret ((ev_var 2).we h))
end
end FS
/-! text E8 -/
/-! E8: the law's small functions. -/
namespace FS
open PySem PySem.Spec PyProof.Rows L2
theorem map_get {α β : Type} {f : α → β} {l : List α} {i : Nat} {d : β} (h : (l.map f)[i]? = some d) : ∃ x, l[i]? = some x ∧ d = f x := by
  rw [List.getElem?_map] at h
  cases e : l[i]? with
  | none => rw [e] at h; cases h
  | some x => rw [e] at h; cases h; exact ⟨x, rfl, rfl⟩
theorem take_snoc {α : Type} {l : List α} {i : Nat} {x : α} (h : l[i]? = some x) : l.take (i + 1) = l.take i ++ [x] := by rw [List.take_succ, h]; rfl
theorem valG_at {b : Bk} (nd : (keysB b).Nodup) {q : Int × Int} (h : q ∈ b) : valG b q.1 = some q.2 := by
  induction b with
  | nil => cases h
  | cons r b ih =>
    rw [valG_cons]
    unfold keysB at nd ih
    rw [List.map_cons, List.nodup_cons] at nd
    rcases List.mem_cons.mp h with rfl | h
    · rw [if_pos rfl]
    · rw [if_neg (fun e => nd.1 (by rw [e]; exact List.mem_map_of_mem h)), ih nd.2 h]
section
variable {B : Bg}
abbrev tRw : Stmt := top 116
theorem scTRw : FnScope ["_law_writes", "_law_result", "_law_place"] ["_law_writes"] (defScope tRw) := ⟨rfl, rfl, rfl, by decide +kernel, rfl, by decide +kernel, by decide +kernel⟩
def rTRw : ASp := fun ds L post => ∃ w, ds = [.dct (encB w)] ∧ (keysB w).Nodup ∧ w.length ≤ 60 ∧ post (.dct (encB w)) L
theorem keysD_get {w : Bk} {i : Nat} {d : D} (h : (keysD (encB w))[i]? = some d) : ∃ q, w[i]? = some q ∧ d = .int q.1 := by
  rw [keysD_encB] at h
  obtain ⟨k, hk, rfl⟩ := map_get h
  obtain ⟨q, hq, rfl⟩ := map_get hk
  exact ⟨q, hq, rfl⟩
theorem keysD_len {w : Bk} : (keysD (encB w)).length = w.length := by unfold keysD; rw [List.length_map, length_encB]
theorem ok_trw {f : Addr} {fd : FuncData} (F : Fun B.K "_law_written_raw" "_law_written_raw" tRw f fd) : FnOk B.P B.w B.K B.mg B.base CX0 1 f fd ["_law_writes"] (low rTRw) := by
  refine ok_def F scTRw (fun ds L post ⟨_, h, _⟩ => by rw [h]; rfl) fun S hS ds L post ⟨w, e, nw, hw, h⟩ => ?_
  subst e
  have hline : 1000 ≤ sizeLine := by decide
  refine ws_set 1 (we_newD fun q nq => ?_)
  refine ws_forP (dp_keys 0) (forW_inv (fun i G' L' => ∃ a, G' = [some (.dct (encB w)), some (.ptr q), a] ∧ L' = L.set q (.dct (encB (w.take i)))) ⟨_, rfl, rfl⟩ ?_ ?_)
  · rintro i d G' L' hd ⟨a, rfl, rfl⟩
    obtain ⟨r, hr, rfl⟩ := keysD_get hd
    refine ⟨_, _, wg_name 2, ?_⟩
    refine ws_setk ((ev_dgetB (valG_at nw (List.mem_of_getElem? hr)) (.inl rfl) (ev_var 0) (ev_var 2)).we ⟨_, .int r.1, .inl r.1, Sto.set_same, ?_, ev_var 1, ev_var 2, kI, ws_nil ⟨_, rfl, ?_⟩⟩)
    · rw [length_encB, List.length_take]; omega
    · rw [Sto.set_set, take_snoc hr, putG_encB, putG_new (fun z => ?_)]
      have : (keysB w)[i]? = some r.1 := by unfold keysB; rw [List.getElem?_map, hr]; rfl
      refine take_nd nw this ?_
      unfold keysB; rw [← List.map_take]; exact z
  · rintro G' L' ⟨a, rfl, rfl⟩
    rw [keysD_len, List.take_length]
    exact ws_frzN 1 nq (ws_ret ((ev_var 1).we h))
abbrev tIb : Stmt := top 117
theorem scTIb : FnScope ["_law_told", "_law_place"] ["_law_told"] (defScope tIb) := ⟨rfl, rfl, rfl, by decide +kernel, rfl, by decide +kernel, by decide +kernel⟩
def rTIb : ASp := fun ds L post => ∃ w, ds = [.dct (encB w)] ∧ (keysB w).Nodup ∧ w.length ≤ 60 ∧ post (.bl true) L
section
variable {N : List Str} {sc : Scope} {k : Nat} {S : Sit B N sc k} {G : Gam} {L : Sto} {a e : Expr} {pos pos' p : Pos}
/-- not isinstance(x, int) or isinstance(x, bool), x a whole number: no -/
theorem ev_isiI {i : Int} {x : Expr} {p1 p2 q1 : Pos} (h : Ev S G L x (.int i)) (hg : GlS sc "isinstance" := by rfl) (hg2 : GlS sc "int" := by rfl) (he : ∀ env, starEach [x, .Name "int" q1] env = (false, eval x env) :: starEach [.Name "int" q1] env := by intro _; rfl) : Ev S G L (.Call (.Name "isinstance" p1) [x, .Name "int" q1] [] p2) (.bl true) :=
  ev_isi (r := true) .int (by decide +kernel) h (ev_tyn (by decide) boot_int (hg := hg2)) hg he
theorem ev_isiB {i : Int} {x : Expr} {p1 p2 q1 : Pos} (h : Ev S G L x (.int i)) (hg : GlS sc "isinstance" := by rfl) (hg2 : GlS sc "bool" := by rfl) (he : ∀ env, starEach [x, .Name "bool" q1] env = (false, eval x env) :: starEach [.Name "bool" q1] env := by intro _; rfl) : Ev S G L (.Call (.Name "isinstance" p1) [x, .Name "bool" q1] [] p2) (.bl false) :=
  ev_isi (r := false) .int (by decide +kernel) h (ev_tyn (by decide) boot_bool (hg := hg2)) hg he
end
theorem ok_tib {f : Addr} {fd : FuncData} (F : Fun B.K "_law_is_book" "_law_is_book" tIb f fd) : FnOk B.P B.w B.K B.mg B.base CX0 1 f fd ["_law_told"] (low rTIb) := by
  refine ok_def F scTIb (fun ds L post ⟨_, h, _⟩ => by rw [h]; rfl) fun S hS ds L post ⟨w, e, nw, hw, h⟩ => ?_
  subst e
  refine ws_if (et_not (et_val (ev_isi (r := true) .dct (by decide +kernel) (ev_var 0) (ev_tyn (by decide) boot_dict)))) (fun z => absurd z (by decide)) fun _ => ws_nil ?_
  refine ws_forP (dp_keys 0) (forW_inv (fun i G' L' => ∃ a, G' = [some (.dct (encB w)), a] ∧ L' = L) ⟨_, rfl, rfl⟩ ?_ ?_)
  · rintro i d G' L' hd ⟨a, rfl, rfl⟩
    obtain ⟨r, hr, rfl⟩ := keysD_get hd
    have hv := valG_at nw (List.mem_of_getElem? hr)
    refine ⟨_, _, wg_name 1, ?_⟩
    refine ws_if (et_or (et_not (et_val (ev_isiI (ev_var 1)))) fun _ => et_val (ev_isiB (ev_var 1))) (fun z => absurd z (by decide)) fun _ => ws_nil ?_
    refine ws_if (et_or (et_not (et_val (ev_isiI (ev_dgetB hv (.inl rfl) (ev_var 0) (ev_var 1))))) fun _ => et_val (ev_isiB (ev_dgetB hv (.inl rfl) (ev_var 0) (ev_var 1)))) (fun z => absurd z (by decide)) fun _ => ws_nil (ws_nil ⟨_, rfl, rfl⟩)
  · rintro G' L' ⟨a, rfl, rfl⟩
    exact ws_ret (ev_bl.we h)
abbrev tIn : Stmt := top 118
theorem scTIn : FnScope ["_law_told", "_law_entry"] ["_law_told"] (defScope tIn) := ⟨rfl, rfl, rfl, by decide +kernel, rfl, by decide +kernel, by decide +kernel⟩
def rTIn : ASp := fun ds L post => ∃ ns : List Int, ds = [.lst (ns.map D.int)] ∧ post (.bl true) L
theorem ok_tin {f : Addr} {fd : FuncData} (F : Fun B.K "_law_ints" "_law_ints" tIn f fd) : FnOk B.P B.w B.K B.mg B.base CX0 1 f fd ["_law_told"] (low rTIn) := by
  refine ok_def F scTIn (fun ds L post ⟨_, h, _⟩ => by rw [h]; rfl) fun S hS ds L post ⟨ns, e, h⟩ => ?_
  subst e
  refine ws_if (et_not (et_val (ev_isi (r := true) .lst (by decide +kernel) (ev_var 0) (ev_tyn (by decide) boot_list)))) (fun z => absurd z (by decide)) fun _ => ws_nil ?_
  refine ws_for ((ei_list (ev_var 0)).wi (forW_inv (fun i G' L' => ∃ a, G' = [some (.lst (ns.map D.int)), a] ∧ L' = L) ⟨_, rfl, rfl⟩ ?_ ?_))
  · rintro i d G' L' hd ⟨a, rfl, rfl⟩
    obtain ⟨r, hr, rfl⟩ := map_get hd
    refine ⟨_, _, wg_name 1, ?_⟩
    exact ws_if (et_or (et_not (et_val (ev_isiI (ev_var 1)))) fun _ => et_val (ev_isiB (ev_var 1))) (fun z => absurd z (by decide)) fun _ => ws_nil (ws_nil ⟨_, rfl, rfl⟩)
  · rintro G' L' ⟨a, rfl, rfl⟩
    exact ws_ret (ev_bl.we h)
/-! ### deeds on items -/
/-- a deed: its word, item, position, content -/
structure Deed where
  word : Str
  item : Int
  p : Int
  c : Int
def encDd (d : Deed) : D := .tup [.str d.word, .int d.item, .int d.p, .int d.c]
def itemW (d : Deed) : Bk := if d.word = "placing" then [(2 * d.item, d.p), (2 * d.item + 1, d.c)] else if d.word = "moving" then [(2 * d.item, d.p)] else if d.word = "changing" then [(2 * d.item + 1, d.c)] else [(2 * d.item, 0), (2 * d.item + 1, 0)]
abbrev tIw : Stmt := top 126
theorem scTIw : FnScope ["_law_deed_here", "_law_item"] ["_law_deed_here"] (defScope tIw) := ⟨rfl, rfl, rfl, by decide +kernel, rfl, by decide +kernel, by decide +kernel⟩
def rTIw : ASp := fun ds L post => ∃ d : Deed, ds = [encDd d] ∧ post (.dct (encB (itemW d))) L
theorem ok_tiw {f : Addr} {fd : FuncData} (F : Fun B.K "_law_item_writes" "_law_item_writes" tIw f fd) : FnOk B.P B.w B.K B.mg B.base CX0 1 f fd ["_law_deed_here"] (low rTIw) := by
  refine ok_def F scTIw (fun ds L post ⟨_, h, _⟩ => by rw [h]; rfl) fun S hS ds L post ⟨d, e, h⟩ => ?_
  subst e
  unfold itemW at h
  refine ws_set 1 ((ev_ixT (atI_nat (j := 1) rfl) (ev_var 0) ev_int).we ?_)
  refine ws_if (et_eqS (ev_ixT (atI_nat (j := 0) rfl) (ev_var 0) ev_int) ev_str) (fun ht => ?_) fun hf => ws_nil ?_
  · rw [if_pos (of_decide_eq_true ht)] at h
    exact ws_ret ((ev_disp (fun q => .cons (ev_mul cmul2 ev_int (ev_var 1)) kI (ev_ixT (atI_nat (j := 2) rfl) (ev_var 0) ev_int) .int (.cons (ev_add (ev_mul cmul2 ev_int (ev_var 1)) ev_int) kI (ev_ixT (atI_nat (j := 3) rfl) (ev_var 0) ev_int) .int .nil)) (put2 (by omega))).we h)
  rw [if_neg (of_decide_eq_false hf)] at h
  refine ws_if (et_eqS (ev_ixT (atI_nat (j := 0) rfl) (ev_var 0) ev_int) ev_str) (fun ht => ?_) fun hf => ws_nil ?_
  · rw [if_pos (of_decide_eq_true ht)] at h
    exact ws_ret ((ev_disp (fun q => .cons (ev_mul cmul2 ev_int (ev_var 1)) kI (ev_ixT (atI_nat (j := 2) rfl) (ev_var 0) ev_int) .int .nil) put1).we h)
  rw [if_neg (of_decide_eq_false hf)] at h
  refine ws_if (et_eqS (ev_ixT (atI_nat (j := 0) rfl) (ev_var 0) ev_int) ev_str) (fun ht => ?_) fun hf => ws_nil ?_
  · rw [if_pos (of_decide_eq_true ht)] at h
    exact ws_ret ((ev_disp (fun q => .cons (ev_add (ev_mul cmul2 ev_int (ev_var 1)) ev_int) kI (ev_ixT (atI_nat (j := 3) rfl) (ev_var 0) ev_int) .int .nil) put1).we h)
  rw [if_neg (of_decide_eq_false hf)] at h
  exact ws_ret ((ev_disp (fun q => .cons (ev_mul cmul2 ev_int (ev_var 1)) kI ev_int .int (.cons (ev_add (ev_mul cmul2 ev_int (ev_var 1)) ev_int) kI ev_int .int .nil)) (put2 (by omega))).we h)
abbrev tWt : Stmt := top 127
theorem scTWt : FnScope ["_law_deed_here", "_law_told"] ["_law_deed_here"] (defScope tWt) := ⟨rfl, rfl, rfl, by decide +kernel, rfl, by decide +kernel, by decide +kernel⟩
def Words (d : Deed) : Prop := d.word = "placing" ∨ d.word = "moving" ∨ d.word = "changing" ∨ d.word = "removing"
def rTWt : ASp := fun ds L post => ∃ d : Deed, ds = [encDd d] ∧ post (.bl true) L
theorem itemW_nd (d : Deed) : (keysB (itemW d)).Nodup ∧ (itemW d).length ≤ 60 := by
  unfold itemW
  split
  · exact ⟨by unfold keysB; simp; omega, by simp⟩
  split
  · exact ⟨by unfold keysB; simp, by simp⟩
  split
  · exact ⟨by unfold keysB; simp, by simp⟩
  · exact ⟨by unfold keysB; simp; omega, by simp⟩
theorem eqD_refl {b : Bk} (nd : (keysB b).Nodup) : EqD (encB b) (encB b) := ⟨rfl, fun p hp => by
  unfold encB at hp
  obtain ⟨q, hq, rfl⟩ := List.mem_map.mp hp
  exact ⟨q.2, rfl, by rw [valG_encB, valG_at nd hq]; rfl⟩⟩
theorem ok_twt {f : Addr} {fd : FuncData} (F : Fun B.K "_law_writes_told" "_law_writes_told" tWt f fd) (cPl : Cl B 2 "placing" rPl) (cMo : Cl B 2 "moving" rMo) (cCh : Cl B 2 "changing" rCh) (cRe : Cl B 2 "removing" rRe) (cIb : Cl B 1 "_law_is_book" rTIb) (cIw : Cl B 1 "_law_item_writes" rTIw) :
    FnOk B.P B.w B.K B.mg B.base CX0 3 f fd ["_law_deed_here"] (low rTWt) := by
  refine ok_def F scTWt (fun ds L post ⟨_, h, _⟩ => by rw [h]; rfl) fun S hS ds L post ⟨d, e, h⟩ => ?_
  subst e
  obtain ⟨nd, hl⟩ := itemW_nd d
  refine ws_join (fun G' L' => G' = [some (encDd d), some (.dct (encB (itemW d)))] ∧ L' = L) (wo_ifB (et_eqS (ev_ixT (atI_nat (j := 0) rfl) (ev_var 0) ev_int) ev_str) (fun ht => ?_) fun hf => ?_) ?_
  · refine ws_set 1 ((ev_call cPl (by decide) (ea_cons (ev_ixT (atI_nat (j := 1) rfl) (ev_var 0) ev_int) (ea_2 (ev_ixT (atI_nat (j := 2) rfl) (ev_var 0) ev_int) (ev_ixT (atI_nat (j := 3) rfl) (ev_var 0) ev_int))) ⟨_, _, _, rfl, rfl, rfl⟩).we (ws_nil ⟨?_, rfl⟩))
    unfold itemW; rw [if_pos (of_decide_eq_true ht)]; rfl
  · refine ws_cons (wo_ifB (et_eqS (ev_ixT (atI_nat (j := 0) rfl) (ev_var 0) ev_int) ev_str) (fun ht => ?_) fun hf2 => ?_)
    · refine ws_set 1 ((ev_call cMo (by decide) (ea_2 (ev_ixT (atI_nat (j := 1) rfl) (ev_var 0) ev_int) (ev_ixT (atI_nat (j := 2) rfl) (ev_var 0) ev_int)) ⟨_, _, rfl, rfl, rfl⟩).we (ws_nil (ws_nil ⟨?_, rfl⟩)))
      unfold itemW; rw [if_neg (of_decide_eq_false hf), if_pos (of_decide_eq_true ht)]; rfl
    · refine ws_cons (wo_ifB (et_eqS (ev_ixT (atI_nat (j := 0) rfl) (ev_var 0) ev_int) ev_str) (fun ht => ?_) fun hf3 => ?_)
      · refine ws_set 1 ((ev_call cCh (by decide) (ea_2 (ev_ixT (atI_nat (j := 1) rfl) (ev_var 0) ev_int) (ev_ixT (atI_nat (j := 3) rfl) (ev_var 0) ev_int)) ⟨_, _, rfl, rfl, rfl⟩).we (ws_nil (ws_nil (ws_nil ⟨?_, rfl⟩))))
        unfold itemW; rw [if_neg (of_decide_eq_false hf), if_neg (of_decide_eq_false hf2), if_pos (of_decide_eq_true ht)]; rfl
      · refine ws_set 1 ((ev_call cRe (by decide) (ea_1 (ev_ixT (atI_nat (j := 1) rfl) (ev_var 0) ev_int)) ⟨_, rfl, rfl, rfl⟩).we (ws_nil (ws_nil (ws_nil ⟨?_, rfl⟩))))
        unfold itemW; rw [if_neg (of_decide_eq_false hf), if_neg (of_decide_eq_false hf2), if_neg (of_decide_eq_false hf3)]; rfl
  · rintro G' L' ⟨rfl, rfl⟩
    exact ws_ret ((ev_and (ev_call cIb (by decide) (ea_1 (ev_var 1)) ⟨itemW d, rfl, nd, hl, rfl, rfl⟩) fun _ => ev_eqDct (.inl rfl) (.inl rfl) (eqD_refl nd) (ev_var 1) (ev_call cIw (by decide) (ea_1 (ev_var 0)) ⟨d, rfl, rfl, rfl⟩)).we h)
end
end FS
/-! text E9 -/
/-! E9: the law's draws. -/
namespace FS
open PySem PySem.Spec PyProof.Rows L2
theorem scr_seq {K : PySem.W.Frag} {ns : List Int} {v : V} {M : Addr → Prop} {H : Hp} (r : Rep M H (.scr K ns) v) : ∃ p, v = .ref p ∧ SqL K H p (ns.map V.int) := by
  cases r with
  | scr h =>
    rcases h with ⟨_, o, h⟩ | h
    · exact ⟨_, rfl, .inl (.inr ⟨o, h⟩)⟩
    · exact ⟨_, rfl, h _⟩
section
variable {B : Bg} {N : List Str} {sc : Scope} {k : Nat} {S : Sit B N sc k} {G : Gam} {L : Sto} {a b c e : Expr} {pos p : Pos} {post : D → Sto → Prop}
theorem ev_lenScr {ns : List Int} (h : Ev S G L e (.scr B.K ns)) (hg : GlS sc "len" := by rfl) (he : St1 e := by intro _; rfl) : Ev S G L (.Call (.Name "len" p) [e] [] pos) (natD ns.length) :=
  blt1 (r := qLen B.K) (byX fun y _ => call_len_seq) (by decide) PySem.boot_len (by decide) (by decide) (h.we fun H vs s r Q c => by
    obtain ⟨v, rfl, rv⟩ := reps1 r
    obtain ⟨q, rfl, hq⟩ := scr_seq rv
    exact ⟨q, _, rfl, .inl hq, c.at ⟨by rw [List.length_map], rfl⟩ s .int⟩) hg he
theorem ev_ixScr {ns : List Int} {i : Int} {v : Int} (hd : atI (ns.map V.int) i = some (.int v)) (ha : Ev S G L a (.scr B.K ns)) (hb : Ev S G L b (.int i)) (hs : PlainIx b := by exact fun _ _ => rfl) : Ev S G L (.Subscript a b pos) (.int v) :=
  we_ix (ixl S) hs (pure2 ha hb fun H x u s r1 r2 Q c => by
    cases r2
    obtain ⟨q, rfl, hq⟩ := scr_seq r1
    exact ⟨q, _, i, _, rfl, rfl, hq, hd, c.at ⟨rfl, rfl⟩ s .int⟩)
/-- an int and an int -/
theorem we_addI (h : We S G L a fun x L1 => ∃ i, x = .int i ∧ We S G L1 b fun y L2 => ∃ j, y = .int j ∧ post (.int (i + j)) L2) : We S G L (.BinOp a .Add b pos) post :=
  we_op (fun _ _ => op_add) (h.mono fun x L1 ⟨i, e, q⟩ => q.mono fun y L2 ⟨j, e2, q2⟩ => by subst e; subst e2; exact a2_I0 (fun _ _ => .int) q2)
theorem wt_eqI {po : Bool → Sto → Prop} (h : We S G L a fun x L1 => ∃ i, x = .int i ∧ We S G L1 b fun y L2 => ∃ j, y = .int j ∧ po (decide (i = j)) L2) : Wt S G L (.Compare a [.Eq] [b] pos) po :=
  wt_cmp (fun _ _ => op_eq) (nomark _) (h.mono fun x L1 ⟨i, e, q⟩ => q.mono fun y L2 ⟨j, e2, q2⟩ => by subst e; subst e2; exact a2_eq .int .int rfl ⟨_, by rw [decV_int], q2⟩)
theorem wt_ltI {po : Bool → Sto → Prop} (h : We S G L a fun x L1 => ∃ i, x = .int i ∧ We S G L1 b fun y L2 => ∃ j, y = .int j ∧ po (decide (i < j)) L2) : Wt S G L (.Compare a [.Lt] [b] pos) po :=
  wt_cmp (fun _ _ => op_lt) (nomark _) (h.mono fun x L1 ⟨i, e, q⟩ => q.mono fun y L2 ⟨j, e2, q2⟩ => by subst e; subst e2; exact a2_I0 (d := .bl _) (fun _ _ => .bl) ⟨_, rfl, q2⟩)
end
abbrev boxD (a b c : Int) : D := .lst [.int a, .int b, .int c]
def IsBox (L : Sto) (q : Addr) : Prop := ∃ a b c, L q = some (boxD a b c)
theorem IsBox.set {L : Sto} {q : Addr} {a b c : Int} : IsBox (L.set q (boxD a b c)) q := ⟨a, b, c, Sto.set_same⟩
section
variable {B : Bg}
abbrev tTk : Stmt := top 113
theorem scTTk : FnScope ["_law_box", "_law_size", "_law_drawn", "_law_k", "_law_mixed"] ["_law_box", "_law_size"] (defScope tTk) := ⟨rfl, rfl, rfl, by decide +kernel, rfl, by decide +kernel, by decide +kernel⟩
/-- any draw may come, and any box be left -/
def rTk : ASp := fun ds L post => ∃ q n, ds = [.ptr q, .int n] ∧ IsBox L q ∧ 0 < n ∧ n < 1000 ∧ ∀ d a b c, 0 ≤ d → d < n → post (.int d) (L.set q (boxD a b c))
theorem ok_ttk {f : Addr} {fd : FuncData} (F : Fun B.K "_law_take" "_law_take" tTk f fd) : FnOk B.P B.w B.K B.mg B.base CX0 1 f fd ["_law_box", "_law_size"] (low rTk) := by
  refine ok_def F scTTk (fun ds L post ⟨_, _, h, _⟩ => by rw [h]; rfl) fun S hS ds L post ⟨q, n, e, ⟨a, b, c, hb⟩, h1, h2, h⟩ => ?_
  subst e
  have cd : CDiv b n := ⟨h1, by omega⟩
  have em : ∀ x : Int, 0 ≤ x % n ∧ x % n < n := fun x => ⟨Int.emod_nonneg _ (by omega), Int.emod_lt_of_pos _ h1⟩
  refine ws_if (et_eqI (ev_ix (atI_nat (j := 0) rfl) (.inr ⟨q, rfl, hb⟩) (ev_var 0) ev_int) ev_int) (fun ht => ?_) fun hf => ws_nil ?_
  · refine ws_set 2 ((ev_mod h1 (ev_int1 (ev_ix (atI_nat (j := 1) rfl) (.inr ⟨q, rfl, hb⟩) (ev_var 0) ev_int)) (ev_var 1)).we ?_)
    refine ws_seti ((ev_fdiv cd (ev_int1 (ev_ix (atI_nat (j := 1) rfl) (.inr ⟨q, rfl, hb⟩) (ev_var 0) ev_int)) (ev_var 1)).we ⟨_, 1, 1, hb, rfl, ev_var 0, ev_int, ?_⟩)
    exact ws_ret ((ev_var 2).we (h _ a (b / n) c (em _).1 (em _).2))
  · refine ws_set 3 ((ev_ix (atI_nat (j := 2) rfl) (.inr ⟨q, rfl, hb⟩) (ev_var 0) ev_int).we ?_)
    refine ws_seti ((ev_add (ev_var 3) ev_int).we ⟨_, 2, 2, hb, rfl, ev_var 0, ev_int, ?_⟩)
    have hb2 : (L.set q (.lst ([.int a, .int b, .int c].set 2 (.int (c + 1))))) q = some (boxD a b (c + 1)) := Sto.set_same
    refine ws_set 4 ((ev_mod (by decide) (ev_int1 (ev_add (ev_add (ev_ix (atI_nat (j := 1) rfl) (.inr ⟨q, rfl, hb2⟩) (ev_var 0) ev_int) (ev_mul (.inl ⟨by decide, by decide⟩) ev_int (ev_var 3))) ev_int)) ev_int).we ?_)
    generalize hm1 : (b + 7919 * c + 13) % 2147483647 = m1
    have b1 : 0 ≤ m1 ∧ m1 < 2147483647 := by rw [← hm1]; exact ⟨Int.emod_nonneg _ (by decide), Int.emod_lt_of_pos _ (by decide)⟩
    have c1 : ∀ j, CMul m1 j := fun _ => .inl ⟨by omega, by omega⟩
    refine ws_set 4 ((ev_mod (by decide) (ev_int1 (ev_mul (c1 _) (ev_var 4) (ev_add (ev_var 4) ev_int))) ev_int).we ?_)
    generalize hm2 : (m1 * (m1 + 48271)) % 2147483629 = m2
    have b2 : 0 ≤ m2 ∧ m2 < 2147483629 := by rw [← hm2]; exact ⟨Int.emod_nonneg _ (by decide), Int.emod_lt_of_pos _ (by decide)⟩
    have c2 : ∀ j, CMul m2 j := fun _ => .inl ⟨by omega, by omega⟩
    refine ws_set 4 ((ev_mod (by decide) (ev_int1 (ev_add (ev_mul (c2 _) (ev_var 4) (ev_add (ev_var 4) ev_int)) (ev_mul (.inl ⟨by decide, by decide⟩) ev_int (ev_var 3)))) ev_int).we ?_)
    exact ws_ret ((ev_mod h1 (ev_int1 (ev_fdiv ⟨by decide, by decide⟩ (ev_var 4) ev_int)) (ev_var 1)).we (h _ a b (c + 1) (em _).1 (em _).2))
abbrev tOp : Stmt := top 112
theorem scTOp : FnScope ["_law_script", "_law_at", "_law_cell"] ["_law_script", "_law_at"] (defScope tOp) := ⟨rfl, rfl, rfl, by decide +kernel, rfl, by decide +kernel, by decide +kernel⟩
def rTOp : ASp := fun ds L post => ∃ ns i, ds = [.scr B.K ns, natD i] ∧ ∀ q a b c, L q = none → post (.ptr q) (L.set q (boxD a b c))
theorem ok_top {f : Addr} {fd : FuncData} (F : Fun B.K "_law_open" "_law_open" tOp f fd) : FnOk B.P B.w B.K B.mg B.base CX0 1 f fd ["_law_script", "_law_at"] (low (rTOp (B := B))) := by
  refine ok_def F scTOp (fun ds L post ⟨_, _, h, _⟩ => by rw [h]; rfl) fun S hS ds L post ⟨ns, i, e, h⟩ => ?_
  subst e
  refine ws_set 2 (ev_int.we ?_)
  refine ws_join (fun G' L' => ∃ v : Int, G' = [some (.scr B.K ns), some (natD i), some (.int v)] ∧ L' = L) (wo_ifB (et_lt (ev_var 1) (ev_lenScr (ev_var 0))) (fun ht => ?_) fun hf => ws_nil ⟨0, rfl, rfl⟩) ?_
  · have hi : i < ns.length := by have := of_decide_eq_true ht; omega
    exact ws_set 2 ((ev_ixScr (v := ns[i]) (atI_nat (by rw [List.getElem?_map, List.getElem?_eq_getElem hi]; rfl)) (ev_var 0) (ev_var 1)).we (ws_nil ⟨_, rfl, rfl⟩))
  · rintro G' L' ⟨v, rfl, rfl⟩
    have cp : CPow 10 18 := ⟨by decide, by decide, by decide⟩
    refine ws_if (et_ge (ev_var 2) (ev_pow cp ev_int ev_int)) (fun ht => ?_) fun hf => ws_nil ?_
    · exact ws_ret (we_lstM ((ea_cons ev_int (ea_2 (ev_sub (ev_var 2) (ev_pow cp ev_int ev_int)) ev_int)).wa ⟨(show (3 : Nat) ≤ sizeLine by decide), fun q nq => h q _ _ _ nq⟩))
    · exact ws_ret (we_lstM ((ea_cons ev_int (ea_2 (ev_var 2) ev_int)).wa ⟨(show (3 : Nat) ≤ sizeLine by decide), fun q nq => h q _ _ _ nq⟩))
end
end FS
/-! text E10 -/
/-! E10: choices, deeds, broken rules, the start. -/
namespace FS
open PySem PySem.Spec PyProof.Rows L2
def encS (xs : List Str) : List D := xs.map D.str
theorem encS_len {xs : List Str} : (encS xs).length = xs.length := by unfold encS; simp
section
variable {B : Bg} {N : List Str} {sc : Scope} {k : Nat} {S : Sit B N sc k} {G : Gam} {L : Sto} {a b c e : Expr} {pos p : Pos} {post : D → Sto → Prop}
theorem IsBox.ne {L : Sto} {q r : Addr} (h : IsBox L q) (n : L r = none) : q ≠ r := fun e => by obtain ⟨_, _, _, h⟩ := h; rw [e, n] at h; cases h
theorem ev_lenS {d : D} {ss : List Str} (l : Lk L d (.lst (encS ss))) (h : Ev S G L e d) (hg : GlS sc "len" := by rfl) (he : St1 e := by intro _; rfl) : Ev S G L (.Call (.Name "len" p) [e] [] pos) (natD ss.length) := by
  have := ev_len (p := p) (pos := pos) l h hg he
  rw [encS_len] at this; exact this
/-- a draw: box at q -/
theorem we_take {q : Addr} {n : Int} {p1 p2 : Pos} (C : Cl B 1 "_law_take" rTk) (hj : 1 ≤ k) (hq : IsBox L q) (h1 : 0 < n) (h2 : n < 1000) (ha : Ev S G L a (.ptr q)) (hb : Ev S G L b (.int n)) (h : ∀ d x y z, 0 ≤ d → d < n → post (.int d) (L.set q (boxD x y z)))
    (hg : sc.names.lookup ("_law_take" : Str) = some .globalImplicit := by rfl) (hs : ∀ env, starEach [a, b] env = (false, eval a env) :: starEach [b] env := by intro _; rfl) (hs' : ∀ env, starEach [b] env = (false, eval b env) :: starEach [] env := by intro _; rfl) (hpl : ∀ env, (backTo p2 (starEach [b] env)).any (·.1) = false := by intro _; rfl) : We S G L (.Call (.Name "_law_take" p1) [a, b] [] p2) post :=
  we_call C hj ((ea_2 ha hb hs hs').wa ⟨q, n, rfl, hq, h1, h2, h⟩) hg (by decide) hs hpl
end
section
variable {B : Bg}
abbrev tChs : Stmt := top 114
theorem scTChs : FnScope ["_law_box", "_law_rows", "_law_count", "_law_rest", "_law_chosen", "_law_k", "_law_at"] ["_law_box", "_law_rows", "_law_count"] (defScope tChs) := ⟨rfl, rfl, rfl, by decide +kernel, rfl, by decide +kernel, by decide +kernel⟩
def rTChs : ASp := fun ds L post => ∃ q rows n, ds = [.ptr q, .lst (encS rows), .int n] ∧ IsBox L q ∧ rows.length ≤ 10 ∧ 0 ≤ n ∧ n ≤ 10 ∧ ∀ xs a b c, (∀ x ∈ xs, x ∈ rows) → xs.length ≤ rows.length → post (.lst (encS xs)) (L.set q (boxD a b c))
theorem cutG_from {α : Type} {xs : List α} {i : Nat} (h : i ≤ xs.length) : cutG xs (some (i : Int)) none = xs.drop i := by
  unfold cutG
  have e1 : HT.sIx xs.length 0 (some (i : Int)) = i := by rw [HT.sIx_nat]; omega
  have e2 : HT.sIx xs.length xs.length none = xs.length := rfl
  rw [e1, e2]
  exact List.take_of_length_le (by rw [List.length_drop]; omega)
theorem ok_tchs {f : Addr} {fd : FuncData} (F : Fun B.K "_law_choose" "_law_choose" tChs f fd) (cTk : Cl B 1 "_law_take" rTk) : FnOk B.P B.w B.K B.mg B.base CX0 2 f fd ["_law_box", "_law_rows", "_law_count"] (low rTChs) := by
  refine ok_def F scTChs (fun ds L post ⟨_, _, _, h, _⟩ => by rw [h]; rfl) fun S hS ds L post ⟨q, rows, n, e, hq, hr, h0, h10, h⟩ => ?_
  subst e
  have hline : 1000 ≤ sizeLine := by decide
  refine ws_set 3 ((ev_list (.inl rfl) (ev_var 1)).we ?_)
  refine ws_set 4 (we_newL fun r nr => ?_)
  have ne := hq.ne nr
  obtain ⟨bx, by_, bz, hb⟩ := hq
  obtain ⟨t, ht⟩ : ∃ t : Nat, (t : Int) = if (rows.length : Int) < n then (rows.length : Int) else n := ⟨(if (rows.length : Int) < n then (rows.length : Int) else n).toNat, by split <;> omega⟩
  have htr : t ≤ rows.length := by have := ht; split at this <;> omega
  refine ws_for (Ei.wi (ds := rngL 0 1 t) (ei_range1 (ht ▸ ev_min (ea_2 (ev_var 2) (ev_lenS (.inl rfl) (ev_var 1)))) (by omega)) (forW_inv (fun i G' L' => ∃ a b rest ch bx, G' = [some (.ptr q), some (.lst (encS rows)), some (.int n), some (.lst (encS rest)), some (.ptr r), a, b] ∧ L' = (L.set q bx).set r (.lst (encS ch)) ∧ (∃ x y z, bx = boxD x y z) ∧ rest.length + i = rows.length ∧ ch.length = i ∧ (∀ x ∈ rest, x ∈ rows) ∧ ∀ x ∈ ch, x ∈ rows)
    ⟨_, _, rows, [], _, rfl, by rw [Sto.set_id hb]; rfl, ⟨_, _, _, rfl⟩, by omega, rfl, fun _ h => h, fun _ h => by cases h⟩ ?_ ?_))
  · rintro i d G' L' hd ⟨a, b, rest, ch, bx, rfl, rfl, ⟨x, y, z, rfl⟩, h1, h2, h3, h4⟩
    obtain ⟨hi, rfl⟩ := rngL_get hd
    have hbx : IsBox ((L.set q (boxD x y z)).set r (.lst (encS ch))) q := ⟨x, y, z, by rw [Sto.set_ne ne]; exact Sto.set_same⟩
    refine ⟨_, _, wg_name 5, ?_⟩
    refine ws_set 6 (we_take cTk (by decide) (n := (rest.length : Nat)) hbx (by omega) (by omega) (ev_var 0) (ev_lenS (.inl rfl) (ev_var 3)) fun d x' y' z' d0 dn => ?_)
    obtain ⟨j, rfl⟩ : ∃ j : Nat, d = (j : Int) := ⟨d.toNat, by omega⟩
    have hj : j < rest.length := by omega
    have hrj : (encS rest)[j]? = some (.str rest[j]) := by unfold encS; rw [List.getElem?_map, List.getElem?_eq_getElem hj]; rfl
    have e1 : ((L.set q (boxD x y z)).set r (.lst (encS ch))).set q (boxD x' y' z') = (L.set q (boxD x' y' z')).set r (.lst (encS ch)) := by
      rw [Sto.set_comm (Ne.symm ne), Sto.set_set]
    rw [e1]
    refine ws_expr (we_append (ev_var 4) ((ev_ix (atI_nat hrj) (.inl rfl) (ev_var 3) (ev_var 6)).we ⟨_, Sto.set_same, by rw [encS_len]; omega, ?_⟩) ⟨_, Sto.set_same⟩)
    rw [Sto.set_set]
    refine ws_set 3 ((ev_cat (.inl rfl) (.inl rfl) ?_ (ev_slice (.inl rfl) (ev_var 3) eo_none (eo_some (ev_var 6))) (ev_slice (.inl rfl) (ev_var 3) (eo_some (ev_add (ev_var 6) ev_int)) eo_none)).we (ws_nil ⟨some (.int (0 + (i:Int)*1)), some (.int (j:Int)), rest.take j ++ rest.drop (j + 1), ch ++ [rest[j]], boxD x' y' z', ?_, ?_, ⟨_, _, _, rfl⟩, ?_, ?_, ?_, ?_⟩))
    · rw [cutG_to (by rw [encS_len]; omega), show ((j : Int) + 1) = ((j + 1 : Nat) : Int) by omega, cutG_from (by rw [encS_len]; omega), List.length_take, List.length_drop, encS_len]; omega
    · rw [cutG_to (by rw [encS_len]; omega), show ((j : Int) + 1) = ((j + 1 : Nat) : Int) by omega, cutG_from (by rw [encS_len]; omega)]
      unfold encS
      rw [List.map_append, List.map_take, List.map_drop]; rfl
    · unfold encS; rw [List.map_append]; rfl
    · rw [List.length_append, List.length_take, List.length_drop]; omega
    · rw [List.length_append, List.length_singleton, h2]
    · intro s hs
      rcases List.mem_append.mp hs with hs | hs
      · exact h3 s (List.mem_of_mem_take hs)
      · exact h3 s (List.mem_of_mem_drop hs)
    · intro s hs
      rcases List.mem_append.mp hs with hs | hs
      · exact h4 s hs
      · rw [List.mem_singleton.mp hs]; exact h3 _ (List.getElem_mem hj)
  · rintro G' L' ⟨a, b, rest, ch, bx, rfl, rfl, ⟨x, y, z, rfl⟩, h1, h2, h3, h4⟩
    rw [rngL_len] at h1 h2
    refine ws_frzN 4 (by rw [Sto.set_ne (Ne.symm ne)]; exact nr) ?_
    exact ws_ret ((ev_var 4).we (h ch x y z h4 (by omega)))
end
end FS
/-! text E11 -/
/-! E11: drawn deeds, broken rules, the start. -/
namespace FS
open PySem PySem.Spec PyProof.Rows L2
section
variable {B : Bg}
abbrev tTd : Stmt := top 125
theorem scTTd : FnScope ["_law_box", "_law_count", "_law_at", "_law_word", "_law_item"] ["_law_box", "_law_count", "_law_at"] (defScope tTd) := ⟨rfl, rfl, rfl, by decide +kernel, rfl, by decide +kernel, by decide +kernel⟩
/-- a deed that may be drawn -/
structure Drawn (n : Int) (d : Deed) : Prop where
  w : Words d
  i1 : 1 ≤ d.item
  i2 : d.item ≤ n
  p1 : 1 ≤ d.p
  p2 : d.p ≤ 3
  c1 : 1 ≤ d.c
  c2 : d.c ≤ 3
def rTTd : ASp := fun ds L post => ∃ q n at_, ds = [.ptr q, .int n, .int at_] ∧ IsBox L q ∧ 1 ≤ n ∧ n ≤ 10 ∧ ∀ d a b c, Drawn n d → post (encDd d) (L.set q (boxD a b c))
theorem ok_ttd {f : Addr} {fd : FuncData} (F : Fun B.K "_law_item_deed" "_law_item_deed" tTd f fd) (cTk : Cl B 1 "_law_take" rTk) : FnOk B.P B.w B.K B.mg B.base CX0 2 f fd ["_law_box", "_law_count", "_law_at"] (low rTTd) := by
  refine ok_def F scTTd (fun ds L post ⟨_, _, _, h, _⟩ => by rw [h]; rfl) fun S hS ds L post ⟨q, n, at_, e, hq, h1, h10, h⟩ => ?_
  subst e
  have em : 0 ≤ at_ % n ∧ at_ % n < n := ⟨Int.emod_nonneg _ (by omega), Int.emod_lt_of_pos _ (by omega)⟩
  refine ws_join (fun G' L' => ∃ w : Str, (w = "placing" ∨ w = "moving" ∨ w = "changing" ∨ w = "removing") ∧ ∃ x y z, G' = [some (.ptr q), some (.int n), some (.int at_), some (.str w), none] ∧ L' = L.set q (boxD x y z))
    (wo_set 3 (we_ix (ixl S) (by exact fun _ _ => rfl) ((ev_lst (ea_cons ev_str (ea_cons ev_str (ea_cons ev_str (ea_cons ev_str (ea_cons ev_str (ea_1 ev_str))))))).we (we_take cTk (by decide) (n := 6) hq (by decide) (by decide) (ev_var 0) ev_int fun d x y z d0 d6 => ?_)))) ?_
  · have hd : d = 0 ∨ d = 1 ∨ d = 2 ∨ d = 3 ∨ d = 4 ∨ d = 5 := by omega
    rcases hd with rfl | rfl | rfl | rfl | rfl | rfl
    · exact a2_ixL (.inl rfl) (atI_nat (j := 0) rfl) ⟨_, .inl rfl, _, _, _, rfl, rfl⟩
    · exact a2_ixL (.inl rfl) (atI_nat (j := 1) rfl) ⟨_, .inl rfl, _, _, _, rfl, rfl⟩
    · exact a2_ixL (.inl rfl) (atI_nat (j := 2) rfl) ⟨_, .inr (.inl rfl), _, _, _, rfl, rfl⟩
    · exact a2_ixL (.inl rfl) (atI_nat (j := 3) rfl) ⟨_, .inr (.inl rfl), _, _, _, rfl, rfl⟩
    · exact a2_ixL (.inl rfl) (atI_nat (j := 4) rfl) ⟨_, .inr (.inr (.inl rfl)), _, _, _, rfl, rfl⟩
    · exact a2_ixL (.inl rfl) (atI_nat (j := 5) rfl) ⟨_, .inr (.inr (.inr rfl)), _, _, _, rfl, rfl⟩
  rintro G' L' ⟨w, hw, x, y, z, rfl, rfl⟩
  refine ws_set 4 (we_addI (ev_int.we ⟨1, rfl, we_take cTk (by decide) (n := n) IsBox.set (by omega) (by omega) (ev_var 0) (ev_var 1) fun d x y z d0 dn => ⟨d, rfl, ?_⟩⟩))
  rw [Sto.set_set]
  refine ws_join (fun G' L' => ∃ i : Int, 1 ≤ i ∧ i ≤ n ∧ ∃ x y z, G' = [some (.ptr q), some (.int n), some (.int at_), some (.str w), some (.int i)] ∧ L' = L.set q (boxD x y z))
    (wo_if (wt_eqI (we_take cTk (by decide) IsBox.set (by decide) (by decide) (ev_var 0) ev_int fun d2 x y z _ _ => ⟨d2, rfl, ev_int.we ⟨0, rfl, ?_⟩⟩))) ?_
  · rw [Sto.set_set]
    split
    · exact ws_set 4 ((ev_add ev_int (ev_mod (show 0 < n by omega) (ev_int1 (ev_var 2)) (ev_var 1))).we (ws_nil ⟨_, by omega, by omega, _, _, _, rfl, rfl⟩))
    · exact ws_nil ⟨_, by omega, by omega, _, _, _, rfl, rfl⟩
  rintro G' L' ⟨i, i1, i2, x, y, z, rfl, rfl⟩
  refine ws_ret (we_tup (wa_cons ((ev_var 3).we ?_)))
  refine wa_cons ((ev_var 4).we ?_)
  refine wa_cons (we_addI (ev_int.we ⟨1, rfl, we_take cTk (by decide) IsBox.set (by decide) (by decide) (ev_var 0) ev_int fun d x y z d0 dn => ⟨d, rfl, ?_⟩⟩))
  rw [Sto.set_set]
  refine wa_cons (we_addI (ev_int.we ⟨1, rfl, we_take cTk (by decide) IsBox.set (by decide) (by decide) (ev_var 0) ev_int fun d' x y z d0' dn' => ⟨d', rfl, ?_⟩⟩))
  rw [Sto.set_set]
  exact wa_nil ⟨(show (4 : Nat) ≤ sizeLine by decide), h ⟨w, i, 1 + d, 1 + d'⟩ x y z ⟨hw, i1, i2, by simp only; omega, by simp only; omega, by simp only; omega, by simp only; omega⟩⟩
end
end FS
/-! text E12 -/
/-! E12: broken rules of the items. -/
namespace FS
open PySem PySem.Spec PyProof.Rows L2
abbrev Brk := Str × ((Int × Int) × (Int × Int))
def encBr (r : Brk) : D := .tup [.str r.1, .tup [encM r.2.1, encM r.2.2]]
def encBrO : Option Brk → D
  | none => .non
  | some r => encBr r
def mkB (b : Bk) (p : Int) : Int × Int := (p, getB b p)
def apartF (b : Bk) (i j : Int) : Option Brk := if 0 < getB b (2 * i) ∧ getB b (2 * i) = getB b (2 * j) then some ("apart", mkB b (2 * i), mkB b (2 * j)) else none
def apartR (b : Bk) (n i : Nat) : Option Brk := (List.range (n - (i + 1))).findSome? fun j : Nat => apartF b (1 + (i : Int) * 1) (1 + (i : Int) * 1 + 1 + (j : Int) * 1)
def wholeF (b : Bk) (i : Int) : Option Brk := if decide (0 < getB b (2 * i)) ≠ decide (0 < getB b (2 * i + 1)) then some ("whole", mkB b (2 * i), mkB b (2 * i + 1)) else none
/-- the first broken rule of the law -/
def brokenL (b : Bk) (n : Nat) : Option Brk := ((List.range n).findSome? (apartR b n)).or ((List.range n).findSome? fun i : Nat => wholeF b (1 + (i : Int) * 1))
theorem find_hit {α β : Type} {xs : List α} {f : α → Option β} {i : Nat} {x : α} {y : β} (h : xs[i]? = some x) (n : (xs.take i).findSome? f = none) (e : f x = some y) : xs.findSome? f = some y := by
  have hl : i < xs.length := (List.getElem?_eq_some_iff.mp h).1
  have e1 : xs = xs.take i ++ (x :: xs.drop (i + 1)) := by
    conv => lhs; rw [← List.take_append_drop i xs]
    rw [List.drop_eq_getElem_cons hl, (List.getElem?_eq_some_iff.mp h).2]
  rw [e1, List.findSome?_append, n, List.findSome?_cons, e]; rfl
theorem find_next {α β : Type} {xs : List α} {f : α → Option β} {i : Nat} {x : α} (h : xs[i]? = some x) (n : (xs.take i).findSome? f = none) (e : f x = none) : (xs.take (i + 1)).findSome? f = none := by
  have hl : i < xs.length := (List.getElem?_eq_some_iff.mp h).1
  rw [List.take_succ_eq_append_getElem hl, List.findSome?_append, n, (List.getElem?_eq_some_iff.mp h).2, List.findSome?_cons, e]; rfl
theorem range_get {n i : Nat} (h : i < n) : (List.range n)[i]? = some i := by rw [List.getElem?_range h]
theorem getB_val {b : Bk} {p : Int} (h : 0 < getB b p) : valG b p = some (getB b p) := by
  unfold getB at *
  cases e : valG b p with
  | none => rw [e] at h; exact absurd h (by decide)
  | some v => rfl
section
variable {B : Bg} {N : List Str} {sc : Scope} {k : Nat} {S : Sit B N sc k} {G : Gam} {L : Sto} {e1 e2 : Expr}
theorem ev_getB {b : Bk} {i : Int} {apos cpos p0 : Pos} {j} (h1 : Ev S G L e1 (.dct (encB b))) (h2 : Ev S G L e2 (.int i)) (m : ∀ X, S.X X → M2 X e1 "get" apos e2 (.Constant (.int 0) j p0) cpos := by exact fun _ _ => ⟨rfl, rfl, rfl, rfl⟩) : Ev S G L (.Call (.Attribute e1 "get" apos) [e2, .Constant (.int 0) j p0] [] cpos) (.int (getB b i)) := ev_get2 get_encB (.inl rfl) h1 h2 ev_int m
end
section
variable {B : Bg}
abbrev tBk : Stmt := top 124
theorem scTBk : FnScope ["_law_book", "_law_count", "_law_i", "_law_j", "_law_marks"] ["_law_book", "_law_count"] (defScope tBk) := ⟨rfl, rfl, rfl, by decide +kernel, rfl, by decide +kernel, by decide +kernel⟩
def rTBk : ASp := fun ds L post => ∃ b n, ds = [.dct (encB b), .int (n : Nat)] ∧ n ≤ 100 ∧ post (encBrO (brokenL b n)) L
theorem ok_tbk {f : Addr} {fd : FuncData} (F : Fun B.K "_law_broken_items" "_law_broken_items" tBk f fd) : FnOk B.P B.w B.K B.mg B.base CX0 1 f fd ["_law_book", "_law_count"] (low rTBk) := by
  refine ok_def F scTBk (fun ds L post ⟨_, _, h, _⟩ => by rw [h]; rfl) fun S hS ds L post ⟨b, n, e, hn, h⟩ => ?_
  subst e
  have hz : (n : Nat) ≤ 100 := hn
  refine ws_for ((ei_range2 (n := n) (ea_2 ev_int (ev_add (ev_var 1) ev_int)) ⟨by decide, by decide⟩ ⟨by omega, by omega⟩ (by omega)).wi (forW_inv (fun i G' L' => ∃ a c, G' = [some (.dct (encB b)), some (.int (n : Nat)), a, c, none] ∧ L' = L ∧ ((List.range n).take i).findSome? (apartR b n) = none) ⟨_, _, rfl, rfl, rfl⟩ ?_ ?_))
  · rintro i d G' L' hd ⟨a, c, rfl, rfl, hi⟩
    obtain ⟨il, rfl⟩ := rngL_get hd
    refine ⟨_, _, wg_name 2, ?_⟩
    refine ws_for ((ei_range2 (n := n - (i + 1)) (ea_2 (ev_add (ev_var 2) ev_int) (ev_add (ev_var 1) ev_int)) ⟨by omega, by omega⟩ ⟨by omega, by omega⟩ (by omega)).wi (forW_inv (fun j G' L2 => ∃ c, G' = [some (.dct (encB b)), some (.int (n : Nat)), some (.int (1 + (i : Int) * 1)), c, none] ∧ L2 = L' ∧ ((List.range (n - (i + 1))).take j).findSome? (fun j : Nat => apartF b (1 + (i : Int) * 1) (1 + (i : Int) * 1 + 1 + (j : Int) * 1)) = none) ⟨_, rfl, rfl, rfl⟩ ?_ ?_))
    · rintro j d G' L' hd ⟨c, rfl, rfl, hj⟩
      obtain ⟨jl, rfl⟩ := rngL_get hd
      refine ⟨_, _, wg_name 3, ?_⟩
      have g1 := range_get jl
      have g2 := range_get il
      generalize ei : (1 + (i : Int) * 1) = p at *
      generalize ej : (p + 1 + (j : Int) * 1) = r at *
      refine ws_if (et_and (et_gt (ev_getB (ev_var 0) (ev_mul cmul2 ev_int (ev_var 2))) ev_int) fun _ => et_eqI (ev_getB (ev_var 0) (ev_mul cmul2 ev_int (ev_var 2))) (ev_getB (ev_var 0) (ev_mul cmul2 ev_int (ev_var 3)))) (fun ht => ?_) fun hf => ws_nil ?_
      · obtain ⟨t1, t2⟩ := (Bool.and_eq_true _ _).mp ht
        have t1 := of_decide_eq_true t1
        have t2 := of_decide_eq_true t2
        have e1 : apartF b p r = some (("apart" : Str), mkB b (2 * p), mkB b (2 * r)) := if_pos ⟨t1, t2⟩
        have e2 : apartR b n i = some (("apart" : Str), mkB b (2 * p), mkB b (2 * r)) := by unfold apartR; rw [ei]; exact find_hit g1 hj (by rw [ej]; exact e1)
        have e3 : brokenL b n = some (("apart" : Str), mkB b (2 * p), mkB b (2 * r)) := by unfold brokenL; rw [find_hit g2 hi e2]; rfl
        rw [e3] at h
        exact ws_ret ((ev_tup (ea_2 ev_str (ev_tup (ea_2 (ev_tup (ea_2 (ev_mul cmul2 ev_int (ev_var 2)) (ev_dgetB (getB_val t1) (.inl rfl) (ev_var 0) (ev_mul cmul2 ev_int (ev_var 2))))) (ev_tup (ea_2 (ev_mul cmul2 ev_int (ev_var 3)) (ev_dgetB (getB_val (t2 ▸ t1)) (.inl rfl) (ev_var 0) (ev_mul cmul2 ev_int (ev_var 3))))))))).we h)
      · refine ws_nil ⟨_, rfl, rfl, find_next g1 hj ?_⟩
        rw [ej]
        refine if_neg fun z => ?_
        rw [decide_eq_true z.1, decide_eq_true z.2] at hf; cases hf
    · rintro G' L' ⟨c, rfl, rfl, hj⟩
      refine ws_nil ⟨_, _, rfl, rfl, find_next (range_get il) hi ?_⟩
      rw [rngL_len, List.take_of_length_le (by rw [List.length_range]; omega)] at hj
      exact hj
  rintro G' L' ⟨a, c, rfl, rfl, hi⟩
  rw [rngL_len, List.take_of_length_le (by rw [List.length_range]; omega)] at hi
  refine ws_for ((ei_range2 (n := n) (ea_2 ev_int (ev_add (ev_var 1) ev_int)) ⟨by decide, by decide⟩ ⟨by omega, by omega⟩ (by omega)).wi (forW_inv (fun i G' L2 => ∃ a c e, G' = [some (.dct (encB b)), some (.int (n : Nat)), a, c, e] ∧ L2 = L' ∧ ((List.range n).take i).findSome? (fun i : Nat => wholeF b (1 + (i : Int) * 1)) = none) ⟨_, _, _, rfl, rfl, rfl⟩ ?_ ?_))
  · rintro i d G' L' hd ⟨a, c, e, rfl, rfl, hj⟩
    obtain ⟨il, rfl⟩ := rngL_get hd
    refine ⟨_, _, wg_name 2, ?_⟩
    have g2 := range_get il
    generalize ei : (1 + (i : Int) * 1) = p at *
    refine ws_set 4 ((ev_tup (ea_2 (ev_tup (ea_2 (ev_mul cmul2 ev_int (ev_var 2)) (ev_getB (ev_var 0) (ev_mul cmul2 ev_int (ev_var 2))))) (ev_tup (ea_2 (ev_add (ev_mul cmul2 ev_int (ev_var 2)) ev_int) (ev_getB (ev_var 0) (ev_add (ev_mul cmul2 ev_int (ev_var 2)) ev_int)))))).we ?_)
    refine ws_if (et_neF .bl .bl rfl (ev_gt (ev_ixT (atI_nat (j := 1) rfl) (ev_ixT (atI_nat (j := 0) rfl) (ev_var 4) ev_int) ev_int) ev_int) (ev_gt (ev_ixT (atI_nat (j := 1) rfl) (ev_ixT (atI_nat (j := 1) rfl) (ev_var 4) ev_int) ev_int) ev_int)) (fun ht => ?_) fun hf => ws_nil ?_
    · have e1 : wholeF b p = some (("whole" : Str), mkB b (2 * p), mkB b (2 * p + 1)) := if_pos (fun z => by rw [z] at ht; simp at ht)
      have e3 : brokenL b n = some (("whole" : Str), mkB b (2 * p), mkB b (2 * p + 1)) := by unfold brokenL; rw [hi, find_hit g2 hj (by rw [ei]; exact e1)]; rfl
      rw [e3] at h
      exact ws_ret ((ev_tup (ea_2 ev_str (ev_var 4))).we h)
    · refine ws_nil ⟨_, _, _, rfl, rfl, find_next g2 hj ?_⟩
      rw [ei]
      refine if_neg fun z => z ?_
      simpa using hf
  rintro G' L' ⟨a, c, e, rfl, rfl, hj⟩
  rw [rngL_len, List.take_of_length_le (by rw [List.length_range]; omega)] at hj
  have e3 : brokenL b n = none := by unfold brokenL; rw [hi, hj]; rfl
  rw [e3] at h
  exact ws_ret (ev_non.we h)
end
end FS
/-! text E13 -/
/-! E13: good books; the start. -/
namespace FS
open PySem PySem.Spec PyProof.Rows L2
structure BkOk (n : Nat) (b : Bk) : Prop where
  srt : (keysB b).Pairwise (· < ·)
  ks : ∀ p ∈ b, 2 ≤ p.1 ∧ p.1 ≤ 2 * n + 1 ∧ 1 ≤ p.2 ∧ p.2 ≤ 3
structure WrOk (n : Nat) (w : Bk) : Prop where
  nd : (keysB w).Nodup
  ks : ∀ p ∈ w, 2 ≤ p.1 ∧ p.1 ≤ 2 * n + 1 ∧ 0 ≤ p.2 ∧ p.2 ≤ 3
  len : w.length ≤ 60
theorem srt_len {xs : List Int} {lo hi : Int} (h : xs.Pairwise (· < ·)) (hb : ∀ x ∈ xs, lo ≤ x ∧ x < hi) : xs = [] ∨ (xs.length : Int) ≤ hi - lo := by
  induction xs generalizing lo with
  | nil => exact .inl rfl
  | cons x xs ih =>
    refine .inr ?_
    have hx := hb x List.mem_cons_self
    have hp := List.pairwise_cons.mp h
    rcases ih (lo := x + 1) hp.2 (fun y hy => ⟨by have := hp.1 y hy; omega, (hb y (List.mem_cons_of_mem _ hy)).2⟩) with e | e
    · rw [e, List.length_singleton]; omega
    · rw [List.length_cons]; omega
theorem srt_nd {xs : List Int} (h : xs.Pairwise (· < ·)) : xs.Nodup := h.imp fun h => by omega
theorem BkOk.nd {n : Nat} {b : Bk} (h : BkOk n b) : (keysB b).Nodup := srt_nd h.srt
theorem BkOk.len {n : Nat} {b : Bk} (h : BkOk n b) : b.length ≤ 2 * n := by
  have := srt_len (lo := 2) (hi := 2 * n + 2) h.srt fun x hx => by
    unfold keysB at hx
    obtain ⟨p, hp, rfl⟩ := List.mem_map.mp hx
    have := h.ks p hp; omega
  rcases this with e | e
  · have : b.length = 0 := by rw [← length_keysB, e]; rfl
    omega
  · rw [length_keysB] at e; omega
theorem BkOk.wr {n : Nat} {b : Bk} (h : BkOk n b) (hn : n ≤ 30) : WrOk n b := ⟨h.nd, fun p hp => by have := h.ks p hp; omega, by have := h.len; omega⟩
theorem bkOk_nil {n : Nat} : BkOk n [] := ⟨.nil, (fun _ h => by cases h)⟩
theorem wrOk_nil {n : Nat} : WrOk n [] := ⟨List.nodup_nil, (fun _ h => by cases h), Nat.zero_le _⟩
theorem sortI_srt {xs : List Int} (h : xs.Nodup) : (sortI xs).Pairwise (· < ·) := by
  have h1 : (sortI xs).Pairwise (· ≤ ·) := by
    have := List.pairwise_mergeSort (le := fun a b : Int => decide (a ≤ b)) (fun a b c h1 h2 => by simp at *; omega) (fun a b => by simp; omega) xs
    exact this.imp fun h => by simpa using h
  have h2 : (sortI xs).Nodup := (List.mergeSort_perm xs _).nodup_iff.mpr h
  exact (h1.and h2).imp fun ⟨a, b⟩ => by omega
theorem keys_lawW {b w : Bk} : keysB (lawW b w) = (lawPs b w).filter fun p => decide (0 < lawV b w p) := by
  unfold lawW keysB
  induction lawPs b w with
  | nil => rfl
  | cons p ps ih =>
    rw [List.filterMap_cons]
    by_cases e : 0 < lawV b w p
    · rw [List.filter_cons_of_pos (by simpa using e)]
      have : lawW1 b w p = some (p, lawV b w p) := if_pos e
      rw [this]; simp only [List.map_cons]; rw [ih]
    · rw [List.filter_cons_of_neg (by simpa using e)]
      have : lawW1 b w p = none := if_neg e
      rw [this]; exact ih
theorem getB_mem {b : Bk} {p v : Int} (h : valG b p = some v) : (p, v) ∈ b := by
  induction b with
  | nil => cases h
  | cons q b ih =>
    rw [valG_cons] at h
    by_cases e : q.1 = p
    · rw [if_pos e] at h; cases h; subst e; exact List.mem_cons_self
    · rw [if_neg e] at h; exact List.mem_cons_of_mem _ (ih h)
theorem lawPs_mem {b w : Bk} {p : Int} : p ∈ lawPs b w ↔ p ∈ keysB b ∨ p ∈ keysB w := by
  unfold lawPs
  rw [sortI_mem, List.mem_append, List.mem_filter, Option.isNone_iff_eq_none, valG_none]
  constructor
  · rintro (h | h)
    · exact .inl h
    · exact .inr h.1
  · intro h
    by_cases e : p ∈ keysB b
    · exact .inl e
    · rcases h with h | h
      · exact absurd h e
      · exact .inr ⟨h, e⟩
theorem BkOk.law {n : Nat} {b w : Bk} (hb : BkOk n b) (hw : WrOk n w) : BkOk n (lawW b w) := by
  have hk : ∀ {c : Bk} {x}, x ∈ keysB c → ∃ p ∈ c, p.1 = x := fun {c x} h => by unfold keysB at h; exact List.mem_map.mp h
  refine ⟨by rw [keys_lawW]; exact (sortI_srt (by
    refine List.nodup_append.mpr ⟨hb.nd, hw.nd.sublist List.filter_sublist, fun a ha c hc e => ?_⟩
    subst e
    have := (List.mem_filter.mp hc).2
    rw [Option.isNone_iff_eq_none, valG_none] at this
    exact this ha)).sublist List.filter_sublist, fun p hp => ?_⟩
  unfold lawW at hp
  obtain ⟨x, hx, e⟩ := List.mem_filterMap.mp hp
  unfold lawW1 at e
  split at e
  · rename_i pos
    cases e
    have hkx : 2 ≤ x ∧ x ≤ 2 * n + 1 := by
      rcases lawPs_mem.mp hx with h | h
      · obtain ⟨p', hp', rfl⟩ := hk h; have := hb.ks p' hp'; omega
      · obtain ⟨p', hp', rfl⟩ := hk h; have := hw.ks p' hp'; omega
    refine ⟨hkx.1, hkx.2, by simp only; omega, ?_⟩
    simp only
    unfold lawV at pos ⊢
    cases ew : valG w x with
    | some v => have := hw.ks _ (getB_mem ew); simp only at this; rw [Option.getD_some]; omega
    | none =>
      rw [ew, Option.getD_none] at pos
      rw [Option.getD_none]
      have := hb.ks _ (getB_mem (getB_val pos)); simp only at this; omega
  · cases e
theorem Drawn.wr {n : Nat} {d : Deed} (h : Drawn n d) : WrOk n (itemW d) := by
  obtain ⟨w, i1, i2, p1, p2, c1, c2⟩ := h
  refine ⟨(itemW_nd d).1, ?_, (itemW_nd d).2⟩
  unfold itemW
  split
  · intro p hp; simp at hp; rcases hp with rfl | rfl <;> simp only <;> omega
  split
  · intro p hp; simp at hp; rcases hp with rfl; simp only; omega
  split
  · intro p hp; simp at hp; rcases hp with rfl; simp only; omega
  · intro p hp; simp at hp; rcases hp with rfl | rfl <;> simp only <;> omega
theorem isNon_encBrO {r : Option Brk} : isNon (encBrO r) = r.isNone := by cases r <;> rfl
section
variable {B : Bg}
abbrev tSt : Stmt := top 128
theorem scTSt : FnScope ["_law_box", "_law_count", "_law_book", "_law_k", "_law_later"] ["_law_box", "_law_count"] (defScope tSt) := ⟨rfl, rfl, rfl, by decide +kernel, rfl, by decide +kernel, by decide +kernel⟩
def rTSt : ASp := fun ds L post => ∃ q n, ds = [.ptr q, .int (n : Nat)] ∧ IsBox L q ∧ 1 ≤ n ∧ n ≤ 10 ∧ ∀ b x y z, BkOk n b → brokenL b n = none → post (.dct (encB b)) (L.set q (boxD x y z))
theorem broken_nil {n : Nat} : brokenL [] n = none := by
  have e1 : (List.range n).findSome? (apartR [] n) = none := by
    rw [List.findSome?_eq_none_iff]; intro i _
    unfold apartR
    rw [List.findSome?_eq_none_iff]; intro j _
    exact if_neg fun z => Int.lt_irrefl _ z.1
  have e2 : ((List.range n).findSome? fun i : Nat => wholeF [] (1 + (i : Int) * 1)) = none := by
    rw [List.findSome?_eq_none_iff]; intro i _
    exact if_neg fun z => z rfl
  unfold brokenL
  rw [e1, e2]; rfl
theorem ok_tst {f : Addr} {fd : FuncData} (F : Fun B.K "_law_started" "_law_started" tSt f fd) (cTk : Cl B 1 "_law_take" rTk) (cTd : Cl B 2 "_law_item_deed" rTTd) (cIw : Cl B 1 "_law_item_writes" rTIw) (cWr : Cl B 1 "_law_written" rTWr) (cBk : Cl B 1 "_law_broken_items" rTBk) : FnOk B.P B.w B.K B.mg B.base CX0 3 f fd ["_law_box", "_law_count"] (low rTSt) := by
  refine ok_def F scTSt (fun ds L post ⟨_, _, h, _⟩ => by rw [h]; rfl) fun S hS ds L post ⟨q, n, e, hq, h1, h10, h⟩ => ?_
  subst e
  refine ws_set 2 (ev_dict0.we ?_)
  refine ws_for (wi_range1 (we_take cTk (by decide) (n := 4) hq (by decide) (by decide) (ev_var 0) ev_int fun d x y z d0 d4 => ⟨d.toNat, by rw [Int.toNat_of_nonneg d0], by omega, ?_⟩))
  refine forW_inv (fun i G' L' => ∃ b a c x y z, G' = [some (.ptr q), some (.int (n : Nat)), some (.dct (encB b)), a, c] ∧ L' = L.set q (boxD x y z) ∧ BkOk n b ∧ brokenL b n = none) ⟨[], _, _, _, _, _, rfl, rfl, bkOk_nil, broken_nil⟩ ?_ ?_
  · rintro i d G' L' hd ⟨b, a, c, x, y, z, rfl, rfl, hb, hn⟩
    obtain ⟨il, rfl⟩ := rngL_get hd
    refine ⟨_, _, wg_name 3, ?_⟩
    refine ws_set 4 (we_call cWr (by decide) (wa_cons ((ev_var 2).we (wa_cons (we_call cIw (by decide) (wa_cons (we_call cTd (by decide) ((ea_cons (ev_var 0) (ea_2 (ev_var 1) (ev_var 3))).wa ⟨q, n, _, rfl, IsBox.set, by omega, by omega, fun d x y z hd => wa_nil ⟨d, rfl, wa_nil ⟨b, itemW d, _, rfl, .inl rfl, hb.nd, hd.wr.nd, by have := hb.len; omega, hd.wr.len, ?_⟩⟩⟩))))))))
    rw [Sto.set_set]
    have hb' := hb.law hd.wr
    refine ws_if (et_isN (ev_call cBk (by decide) (ea_2 (ev_var 4) (ev_var 1)) ⟨_, n, rfl, by omega, rfl, rfl⟩)) (fun ht => ?_) fun hf => ws_nil ?_
    · refine ws_set 2 ((ev_var 4).we (ws_nil (ws_nil ⟨_, _, _, _, _, _, rfl, rfl, hb', ?_⟩)))
      rw [isNon_encBrO] at ht
      exact Option.isNone_iff_eq_none.mp ht
    · exact ws_nil ⟨_, _, _, _, _, _, rfl, rfl, hb, hn⟩
  · rintro G' L' ⟨b, a, c, x, y, z, rfl, rfl, hb, hn⟩
    exact ws_ret ((ev_var 2).we (h b x y z hb hn))
end
end FS
/-! text E14 -/
/-! E14: the law's world grows. -/
namespace FS
open PySem PySem.Spec PyProof.Rows L2
theorem lawW_id {n : Nat} {b : Bk} (h : BkOk n b) : lawW b [] = b := by
  have e1 : lawPs b [] = keysB b := by
    unfold lawPs
    rw [show ((keysB []).filter fun q => (valG b q).isNone) = [] from rfl, List.append_nil]
    exact (sortI_unique (List.Perm.refl _) (h.srt.imp fun h => by omega)).symm
  have e2 : ∀ p ∈ b, lawW1 b [] p.1 = some p := fun p hp => by
    have hv : valG b p.1 = some p.2 := valG_at h.nd hp
    have e3 : lawV b [] p.1 = p.2 := by
      show (none : Option Int).getD (getB b p.1) = p.2
      unfold getB; rw [hv]; rfl
    unfold lawW1
    rw [e3, if_pos (by have := h.ks p hp; omega)]
  unfold lawW
  rw [e1]
  unfold keysB
  rw [List.filterMap_map]
  have : ∀ c : Bk, (∀ p ∈ c, lawW1 b [] p.1 = some p) → c.filterMap (lawW1 b [] ∘ Prod.fst) = c := by
    intro c hc
    induction c with
    | nil => rfl
    | cons p c ih =>
      rw [List.filterMap_cons, show (lawW1 b [] ∘ Prod.fst) p = some p from hc p List.mem_cons_self]
      simp only
      rw [ih fun p hp => hc p (List.mem_cons_of_mem _ hp)]
  exact this b e2
def sortN (ns : List Nat) : List Nat := ns.mergeSort (fun a b => decide (a ≤ b))
theorem sortN_int {ns : List Nat} : sortI (ns.map Int.ofNat) = (sortN ns).map Int.ofNat := by
  symm
  refine sortI_unique ((List.mergeSort_perm ns _).map _) ?_
  rw [List.pairwise_map]
  have := List.pairwise_mergeSort (le := fun a b : Nat => decide (a ≤ b)) (fun a b c h1 h2 => by simp at *; omega) (fun a b => by simp; omega) ns
  exact this.imp fun h => by have := of_decide_eq_true h; exact Int.ofNat_le.mpr this
def insL (m : Wd) (ps : List Nat) : List Nat := ps.foldl (fun acc p => acc ++ (inn m p).filter (fun k => !decide (k ∈ acc))) [m.par.length]
def addM (m : Wd) (ps : List Nat) (w b : Bk) : Wd := ⟨m.par ++ [ps], m.wr ++ [w], m.bk ++ [lawW b []], m.inn ++ [sortN (insL m ps)]⟩
/-- a world in its own cells -/
structure WAt (L : Sto) (q a0 a1 a2 a3 : Addr) (m : Wd) : Prop where
  dq : q ≠ a0 ∧ q ≠ a1 ∧ q ≠ a2 ∧ q ≠ a3
  da : a0 ≠ a1 ∧ a0 ≠ a2 ∧ a0 ≠ a3 ∧ a1 ≠ a2 ∧ a1 ≠ a3 ∧ a2 ≠ a3
  hq : L q = some (.lst [.ptr a0, .ptr a1, .ptr a2, .ptr a3])
  h0 : L a0 = some (.lst (encLk m.par))
  h1 : L a1 = some (.lst (encW m.wr))
  h2 : L a2 = some (.lst (encW m.bk))
  h3 : L a3 = some (.lst (encLk m.inn))
def wput (L : Sto) (a0 a1 a2 a3 : Addr) (m : Wd) : Sto := (((L.set a0 (.lst (encLk m.par))).set a1 (.lst (encW m.wr))).set a2 (.lst (encW m.bk))).set a3 (.lst (encLk m.inn))
theorem WAt.atw {L : Sto} {q a0 a1 a2 a3 : Addr} {m : Wd} (w : WAt L q a0 a1 a2 a3 m) : AtW L (.ptr q) m :=
  ⟨_, _, _, _, .inr ⟨_, rfl, w.hq⟩, .inr ⟨_, rfl, w.h0⟩, .inr ⟨_, rfl, w.h1⟩, .inr ⟨_, rfl, w.h2⟩, .inr ⟨_, rfl, w.h3⟩⟩
theorem WAt.put {L : Sto} {q a0 a1 a2 a3 : Addr} {m m' : Wd} (w : WAt L q a0 a1 a2 a3 m) : WAt (wput L a0 a1 a2 a3 m') q a0 a1 a2 a3 m' := by
  obtain ⟨⟨q0, q1, q2, q3⟩, ⟨d1, d2, d3, d4, d5, d6⟩, hq, h0, h1, h2, h3⟩ := w
  unfold wput
  exact ⟨⟨q0, q1, q2, q3⟩, ⟨d1, d2, d3, d4, d5, d6⟩, by rw [Sto.set_ne q3, Sto.set_ne q2, Sto.set_ne q1, Sto.set_ne q0]; exact hq, by rw [Sto.set_ne d3, Sto.set_ne d2, Sto.set_ne d1]; exact Sto.set_same, by rw [Sto.set_ne d5, Sto.set_ne d4]; exact Sto.set_same, by rw [Sto.set_ne d6]; exact Sto.set_same, Sto.set_same⟩
theorem encLk_snoc {ls : List (List Nat)} {x : List Nat} : encLk (ls ++ [x]) = encLk ls ++ [.lst (encN x)] := by unfold encLk; rw [List.map_append]; rfl
theorem encW_snoc {ls : List Bk} {x : Bk} : encW (ls ++ [x]) = encW ls ++ [.dct (encB x)] := by unfold encW; rw [List.map_append]; rfl
section
variable {B : Bg}
abbrev tWd : Stmt := top 119
theorem scTWd : FnScope ["_law_base"] ["_law_base"] (defScope tWd) := ⟨rfl, rfl, rfl, by decide +kernel, rfl, by decide +kernel, by decide +kernel⟩
def wd0 (b : Bk) : Wd := ⟨[[]], [lawW b []], [lawW b []], [[0]]⟩
def rTWd : ASp := fun ds L post => ∃ b n, ds = [.dct (encB b)] ∧ BkOk n b ∧ n ≤ 10 ∧ ∀ q a0 a1 a2 a3, L a0 = none → L a1 = none → L a2 = none → L a3 = none → L q = none → a1 ≠ a0 → a2 ≠ a1 → a2 ≠ a0 → a3 ≠ a2 → a3 ≠ a1 → a3 ≠ a0 → q ≠ a3 → q ≠ a2 → q ≠ a1 → q ≠ a0 → post (.ptr q) ((wput L a0 a1 a2 a3 (wd0 b)).set q (.lst [.ptr a0, .ptr a1, .ptr a2, .ptr a3]))
theorem none_set {L : Sto} {a p : Addr} {d : D} (h : (L.set a d) p = none) : p ≠ a ∧ L p = none := by
  by_cases e : p = a
  · subst e; rw [Sto.set_same] at h; cases h
  · exact ⟨e, by rwa [Sto.set_ne e] at h⟩
theorem ok_twd {f : Addr} {fd : FuncData} (F : Fun B.K "_law_world" "_law_world" tWd f fd) (cWr : Cl B 1 "_law_written" rTWr) : FnOk B.P B.w B.K B.mg B.base CX0 2 f fd ["_law_base"] (low rTWd) := by
  refine ok_def F scTWd (fun ds L post ⟨_, _, h, _⟩ => by rw [h]; rfl) fun S hS ds L post ⟨b, n, e, hb, hn, h⟩ => ?_
  subst e
  have hl := hb.len
  refine ws_ret (we_lstM ?_)
  refine wa_cons (we_lstM ((ea_1 (ev_lst ea_nil)).wa ⟨(show (1 : Nat) ≤ sizeLine by decide), fun a0 n0 => ?_⟩))
  refine wa_cons (we_lstM ((ea_1 (ev_call cWr (by decide) (ea_2 (ev_var 0) ev_dict0) ⟨b, [], _, rfl, .inl rfl, hb.nd, .nil, by omega, by simp, rfl, rfl⟩)).wa ⟨(show (1 : Nat) ≤ sizeLine by decide), fun a1 n1 => ?_⟩))
  refine wa_cons (we_lstM ((ea_1 (ev_call cWr (by decide) (ea_2 (ev_var 0) ev_dict0) ⟨b, [], _, rfl, .inl rfl, hb.nd, .nil, by omega, by simp, rfl, rfl⟩)).wa ⟨(show (1 : Nat) ≤ sizeLine by decide), fun a2 n2 => ?_⟩))
  refine wa_cons (we_lstM ((ea_1 (ev_lst (ea_1 ev_int))).wa ⟨(show (1 : Nat) ≤ sizeLine by decide), fun a3 n3 => wa_nil ⟨(show (4 : Nat) ≤ sizeLine by decide), fun q nq => ?_⟩⟩))
  obtain ⟨e1, n1⟩ := none_set n1
  obtain ⟨e2, n2⟩ := none_set n2
  obtain ⟨e3, n2⟩ := none_set n2
  obtain ⟨e4, n3⟩ := none_set n3
  obtain ⟨e5, n3⟩ := none_set n3
  obtain ⟨e6, n3⟩ := none_set n3
  obtain ⟨f1, nq⟩ := none_set nq
  obtain ⟨f2, nq⟩ := none_set nq
  obtain ⟨f3, nq⟩ := none_set nq
  obtain ⟨f4, nq⟩ := none_set nq
  exact h q a0 a1 a2 a3 n0 n1 n2 n3 nq e1 e2 e3 e4 e5 e6 f1 f2 f3 f4
abbrev tAd : Stmt := top 120
theorem scTAd : FnScope ["_law_world_here", "_law_parents", "_law_writes", "_law_book", "_law_number", "_law_inside", "_law_parent", "_law_k"] ["_law_world_here", "_law_parents", "_law_writes", "_law_book"] (defScope tAd) := ⟨rfl, rfl, rfl, by decide +kernel, rfl, by decide +kernel, by decide +kernel⟩
def rTAd : ASp := fun ds L post => ∃ q a0 a1 a2 a3 m ps w b n, ds = [.ptr q, .lst (encN ps), .dct (encB w), .dct (encB b)] ∧ WAt L q a0 a1 a2 a3 m ∧ WdOk m ∧ (∀ p ∈ ps, p < m.par.length) ∧ ps.length ≤ 10 ∧ (∀ p, (inn m p).length ≤ 60) ∧ WrOk n w ∧ BkOk n b ∧ n ≤ 10 ∧ post (natD m.par.length) (wput L a0 a1 a2 a3 (addM m ps w b))
theorem insL_len {m : Wd} (hi : ∀ p, (inn m p).length ≤ 60) : ∀ (ps : List Nat) (acc : List Nat), (ps.foldl (fun acc p => acc ++ (inn m p).filter (fun k => !decide (k ∈ acc))) acc).length ≤ acc.length + 60 * ps.length
  | [], acc => by simp
  | p :: ps, acc => by
    rw [List.foldl_cons, List.length_cons]
    have := insL_len hi ps (acc ++ (inn m p).filter (fun k => !decide (k ∈ acc)))
    have h2 := List.length_filter_le (fun k => !decide (k ∈ acc)) (inn m p)
    have h3 := hi p
    rw [List.length_append] at this
    omega
theorem ok_tad {f : Addr} {fd : FuncData} (F : Fun B.K "_law_add" "_law_add" tAd f fd) (cWr : Cl B 1 "_law_written" rTWr) (cRw : Cl B 1 "_law_written_raw" rTRw) : FnOk B.P B.w B.K B.mg B.base CX0 2 f fd ["_law_world_here", "_law_parents", "_law_writes", "_law_book"] (low rTAd) := by
  refine ok_def F scTAd (fun ds L post ⟨_, _, _, _, _, _, _, _, _, _, h, _⟩ => by rw [h]; rfl) fun S hS ds L post ⟨q, a0, a1, a2, a3, m, ps, w, b, n, e, wat, ok, hps, hpl, hin, hw, hb, hn, h⟩ => ?_
  subst e
  have hline : 1000 ≤ sizeLine := by decide
  have hl := hb.len
  have hle := ok.le
  obtain ⟨d0, d1, d2, d3, lx, l0, l1, l2, l3⟩ := wat.atw.ex
  refine ws_set 4 ((ev_len l0 (ev_ix (atI_nat (j := 0) rfl) lx (ev_var 0) ev_int)).we ?_)
  rw [length_encLk]
  refine ws_setC hS 5 ((ev_lst (ea_1 (ev_var 4))).we ?_)
  refine ws_for ((ei_list (ev_var 1)).wi (forW_inv (fun i G' L' => ∃ a acc, G' = [some (.ptr q), some (.lst (encN ps)), some (.dct (encB w)), some (.dct (encB b)), some (natD m.par.length), some (.lst (encN acc)), a, none] ∧ L' = L ∧ acc = (ps.take i).foldl (fun acc p => acc ++ (inn m p).filter (fun k => !decide (k ∈ acc))) [m.par.length]) ⟨_, _, rfl, rfl, rfl⟩ ?_ ?_))
  · rintro i d G' L' hd ⟨a, acc, rfl, rfl, hacc⟩
    obtain ⟨p, hp, rfl⟩ := encN_get hd
    have hpm : p ∈ ps := List.mem_of_getElem? hp
    have hal : acc.length ≤ 601 := by
      have := insL_len hin (ps.take i) [m.par.length]
      rw [← hacc, List.length_singleton, List.length_take] at this; omega
    have hip := hin p
    have hfl := List.length_filter_le (fun k => !decide (k ∈ acc)) (inn m p)
    refine ⟨_, _, wg_name 6, ?_⟩
    refine ws_setC hS 5 ((ev_cat (.inl rfl) (.inl rfl) ?_ (ev_var 5) (ev_fltN (ns := inn m p) 7 (fun k => !decide (k ∈ acc)) (ei_list (ev_ix (encLk_at (by rw [ok.inn]; exact hps p hpm)) l3 (ev_ix (atI_nat (j := 3) rfl) lx (ev_var 0) ev_int) (ev_var 6))) (by omega) fun k hk => ⟨wg_name 7, fun z => ⟨et_ninN (.inl rfl) (ev_var 7) (ev_var 5), ev_var 7⟩⟩)).we (ws_nil ⟨some (natD p), acc ++ (inn m p).filter (fun k => !decide (k ∈ acc)), ?_, rfl, ?_⟩))
    · rw [encN_len, encN_len]; omega
    · show _ = _
      unfold encN; rw [List.map_append]; rfl
    · have hil : i < ps.length := (List.getElem?_eq_some_iff.mp hp).1
      rw [List.take_succ_eq_append_getElem hil, (List.getElem?_eq_some_iff.mp hp).2, List.foldl_append, ← hacc]; rfl
  rintro G' L' ⟨a, acc, rfl, rfl, hacc⟩
  rw [encN_len, List.take_length] at hacc
  have hal : acc.length ≤ 601 := by
    have := insL_len hin ps [m.par.length]
    rw [← hacc, List.length_singleton] at this; omega
  obtain ⟨⟨q0, q1, q2, q3⟩, ⟨d1, d2, d3, d4, d5, d6⟩, hq, h0, h1, h2, h3⟩ := wat
  have hlw : ∀ {ls : List (List Nat)}, ls.length ≤ 60 → (encLk ls).length < sizeLine := fun h => by rw [length_encLk]; omega
  have hlb : ∀ {ls : List Bk}, ls.length ≤ 60 → (encW ls).length < sizeLine := fun h => by unfold encW; rw [List.length_map]; omega
  refine ws_expr (we_append (ev_ix (atI_nat (j := 0) rfl) (.inr ⟨_, rfl, hq⟩) (ev_var 0) ev_int) ((ev_list (.inl rfl) (ev_var 1)).we ⟨_, h0, hlw (by omega), ?_⟩) ⟨_, h0⟩)
  rw [← encLk_snoc]
  refine ws_expr (we_append (ev_ix (atI_nat (j := 1) rfl) (.inr ⟨_, rfl, by rw [Sto.set_ne q0]; exact hq⟩) (ev_var 0) ev_int) ((ev_call cRw (by decide) (ea_1 (ev_var 2)) ⟨w, rfl, hw.nd, hw.len, rfl, rfl⟩).we ⟨_, by rw [Sto.set_ne (Ne.symm d1)]; exact h1, hlb (by rw [ok.wr]; omega), ?_⟩) ⟨_, by rw [Sto.set_ne (Ne.symm d1)]; exact h1⟩)
  rw [← encW_snoc]
  refine ws_expr (we_append (ev_ix (atI_nat (j := 2) rfl) (.inr ⟨_, rfl, by rw [Sto.set_ne q1, Sto.set_ne q0]; exact hq⟩) (ev_var 0) ev_int) ((ev_call cWr (by decide) (ea_2 (ev_var 3) ev_dict0) ⟨b, [], _, rfl, .inl rfl, hb.nd, .nil, by omega, by simp, rfl, rfl⟩).we ⟨_, by rw [Sto.set_ne (Ne.symm d4), Sto.set_ne (Ne.symm d2)]; exact h2, hlb (by rw [ok.bk]; omega), ?_⟩) ⟨_, by rw [Sto.set_ne (Ne.symm d4), Sto.set_ne (Ne.symm d2)]; exact h2⟩)
  rw [← encW_snoc]
  refine ws_expr (we_append (ev_ix (atI_nat (j := 3) rfl) (.inr ⟨_, rfl, by rw [Sto.set_ne q2, Sto.set_ne q1, Sto.set_ne q0]; exact hq⟩) (ev_var 0) ev_int) ((ev_sortI (ns := acc.map Int.ofNat) (.inl rfl) (ev_lc [("_law_k", 7)] (onI fun i => some (.int i)) (ei_list (ev_var 5)) (by rw [encN_len]; omega) (by rw [encN_ints, onI_map, fm_some]) fun d hd => ?_)).we ⟨_, by rw [Sto.set_ne (Ne.symm d6), Sto.set_ne (Ne.symm d5), Sto.set_ne (Ne.symm d3)]; exact h3, hlw (by rw [ok.inn]; omega), ?_⟩) ⟨_, by rw [Sto.set_ne (Ne.symm d6), Sto.set_ne (Ne.symm d5), Sto.set_ne (Ne.symm d3)]; exact h3⟩)
  · obtain ⟨k, hk, rfl⟩ := List.mem_map.mp hd
    exact ⟨_, _, wg_name 7, by decide, wts_n rfl fun z => ev_int1 (ev_var 7)⟩
  rw [sortN_int, ← encN_ints, ← encLk_snoc, hacc]
  exact ws_ret ((ev_var 4).we h)
end
end FS
/-! text E15 -/
/-! E15: what the law says is due. -/
namespace FS
open PySem PySem.Spec PyProof.Rows L2
abbrev Tps := List (Str × Nat)
def encT (t : Tps) : List (Key × D) := t.map fun p => (.inr p.1, natD p.2)
def tipOf (t : Tps) (x : Str) : Nat := (valG t x).getD 0
theorem valG_encT {t : Tps} {x : Str} : valG (encT t) (.inr x) = (valG t x).map natD := by
  induction t with
  | nil => rfl
  | cons q b ih =>
    show valG ((.inr q.1, natD q.2) :: encT b) _ = _
    rw [valG_cons, valG_cons, ih]
    by_cases e : q.1 = x
    · subst e; simp
    · rw [if_neg (fun z => e (Sum.inr.inj z)), if_neg e]
theorem tip_at {t : Tps} {x : Str} (h : x ∈ t.map (·.1)) : valG (encT t) (.inr x) = some (natD (tipOf t x)) := by
  rw [valG_encT]; unfold tipOf
  induction t with
  | nil => cases h
  | cons q b ih =>
    rw [valG_cons]
    by_cases e : q.1 = x
    · rw [if_pos e]; rfl
    · rw [if_neg e]
      rw [List.map_cons, List.mem_cons] at h
      exact ih (h.resolve_left fun z => e z.symm)
theorem putG_encT {t : Tps} {x : Str} {v : Nat} : putG (encT t) (.inr x) (natD v) = encT (putG t x v) := by
  have h1 : ((encT t).any fun kv => decide (kv.1 = (.inr x : Key))) = (t.any fun kv => decide (kv.1 = x)) := by
    unfold encT; rw [List.any_map]; congr 1; funext q
    by_cases e : q.1 = x
    · simp [e]
    · simp [e]
  unfold putG
  rw [h1]
  split
  · unfold encT; rw [List.map_map, List.map_map]; congr 1; funext q
    by_cases e : q.1 = x
    · simp [e]
    · simp [e]
  · unfold encT; rw [List.map_append]; rfl
theorem valG_put {κ β} [DecidableEq κ] {b : List (κ × β)} {p : κ} {v : β} : valG (putG b p v) p = some v := by
  unfold putG
  split
  · rename_i h
    induction b with
    | nil => cases h
    | cons q b ih =>
      rw [List.map_cons, valG_cons]
      by_cases e : q.1 = p
      · rw [if_pos e, if_pos e]
      · rw [if_neg e, if_neg e]
        refine ih ?_
        rw [List.any_cons, decide_eq_false e] at h; exact h
  · rename_i h
    induction b with
    | nil => rw [List.nil_append, valG_cons, if_pos rfl]
    | cons q b ih =>
      rw [List.cons_append, valG_cons]
      have e : q.1 ≠ p := fun e => h (by rw [List.any_cons, decide_eq_true e]; rfl)
      rw [if_neg e]
      exact ih fun z => h (by rw [List.any_cons, z, Bool.or_true])
inductive Out where
  | told (n : Nat)
  | unl (r : Brk)
  | plc (p : Int) (vs : List Int)
  | rul (r : Brk)
def barD (r : Brk) : D := .tup [encM r.2.1, encM r.2.2]
def encOut : Out → D
  | .told n => .tup [.str "told", natD n]
  | .unl r => .tup [.str "Unlawful", .str r.1, barD r]
  | .plc p vs => .tup [.str "PlaceClash", .int p, .lst (vs.map D.int)]
  | .rul r => .tup [.str "RuleClash", .str r.1, barD r]
inductive Dl where
  | wr (x : Str) (w : Bk)
  | mg (x : Str) (os : List Str) (mk : Bk)
def encDl : Dl → D
  | .wr x w => .tup [.str "write", .str x, .dct (encB w)]
  | .mg x os mk => .tup [.str "merge", .str x, .lst (encS os), .dct (encB mk)]
def Dl.ok (n : Nat) (ks : List Str) : Dl → Prop
  | .wr x w => x ∈ ks ∧ WrOk n w
  | .mg x os mk => x ∈ ks ∧ (∀ o ∈ os, o ∈ ks) ∧ os.length ≤ 5 ∧ WrOk n mk
def bkAt (m : Wd) (k : Nat) : Bk := m.bk[k]?.getD []
def nodesL (t : Tps) (x : Str) (os : List Str) : List Nat := (x :: os).map (tipOf t)
def earlyF (m : Wd) (ns : List Nat) (k : Nat) : Option Nat := if (ns.filter fun n => decide (n ∈ inn m k)).length = ns.length then some k else none
def earlyL (m : Wd) (ns : List Nat) : Option Nat := ns.findSome? (earlyF m ns)
def mvL (m : Wd) (ns : List Nat) (mk : Bk) (p : Int) : Int := (valG mk p).getD ((lawFound m ns p).headD 0)
def clashF (m : Wd) (ns : List Nat) (mk : Bk) (p : Int) : Option (Int × List Int) := if valG mk p = none ∧ 1 < (lawFound m ns p).length then some (p, lawFound m ns p) else none
def bookF (m : Wd) (ns : List Nat) (mk : Bk) (p : Int) : Option (Int × Int) := if 0 < mvL m ns mk p then some (p, mvL m ns mk p) else none
def plsL (n : Nat) : List Int := (List.range (2 * n)).map fun i : Nat => 2 + (i : Int) * 1
def bookL (m : Wd) (ns : List Nat) (mk : Bk) (n : Nat) : Bk := (plsL n).filterMap (bookF m ns mk)
def dueW (t : Tps) (m : Wd) (n : Nat) (x : Str) (w : Bk) : Out × Tps × Wd :=
  let b := lawW (bkAt m (tipOf t x)) w
  match brokenL b n with
  | some r => (.unl r, t, m)
  | none => (.told m.par.length, putG t x m.par.length, addM m [tipOf t x] w b)
def dueM2 (t : Tps) (m : Wd) (n : Nat) (x : Str) (ns : List Nat) (mk : Bk) : Out × Tps × Wd :=
  match (plsL n).findSome? (clashF m ns mk) with
  | some (p, vs) => (.plc p vs, t, m)
  | none =>
    match brokenL (bookL m ns mk n) n with
    | some r => (.rul r, t, m)
    | none => (.told m.par.length, putG t x m.par.length, addM m ns mk (bookL m ns mk n))
def dueM (t : Tps) (m : Wd) (n : Nat) (x : Str) (ns : List Nat) (mk : Bk) : Out × Tps × Wd :=
  match (if mk.length = 0 then earlyL m ns else none) with
  | some k => (.told k, putG t x k, m)
  | none => dueM2 t m n x ns mk
def dueL (t : Tps) (m : Wd) (n : Nat) : Dl → Out × Tps × Wd
  | .wr x w => dueW t m n x w
  | .mg x os mk => dueM t m n x (nodesL t x os) mk
/-- a world that the law may go on from -/
structure WdI (n : Nat) (m : Wd) : Prop where
  ok : WdOk m
  wr : ∀ w ∈ m.wr, WrOk n w
  bk : ∀ b ∈ m.bk, BkOk n b
  il : ∀ k, (inn m k).length ≤ 60
  ne : ∀ ns p, ns ≠ [] → (∀ k ∈ ns, k < m.par.length) → lawFound m ns p ≠ []
/-- model, tips, world in their cells -/
structure MAt (L : Sto) (mq tq q a0 a1 a2 a3 : Addr) (t : Tps) (m : Wd) : Prop where
  w : WAt L q a0 a1 a2 a3 m
  hm : L mq = some (.lst [.ptr tq, .ptr q])
  ht : L tq = some (.dct (encT t))
  tn : tq ≠ mq ∧ tq ≠ q ∧ tq ≠ a0 ∧ tq ≠ a1 ∧ tq ≠ a2 ∧ tq ≠ a3
  mn : mq ≠ q ∧ mq ≠ a0 ∧ mq ≠ a1 ∧ mq ≠ a2 ∧ mq ≠ a3
def mput (L : Sto) (tq a0 a1 a2 a3 : Addr) (t : Tps) (m : Wd) : Sto := (wput L a0 a1 a2 a3 m).set tq (.dct (encT t))
theorem wput_ne {L : Sto} {a0 a1 a2 a3 p : Addr} {m : Wd} (h : p ≠ a0 ∧ p ≠ a1 ∧ p ≠ a2 ∧ p ≠ a3) : wput L a0 a1 a2 a3 m p = L p := by
  unfold wput; rw [Sto.set_ne h.2.2.2, Sto.set_ne h.2.2.1, Sto.set_ne h.2.1, Sto.set_ne h.1]
theorem MAt.put {L : Sto} {mq tq q a0 a1 a2 a3 : Addr} {t t' : Tps} {m m' : Wd} (h : MAt L mq tq q a0 a1 a2 a3 t m) : MAt (mput L tq a0 a1 a2 a3 t' m') mq tq q a0 a1 a2 a3 t' m' := by
  obtain ⟨w, hm, ht, ⟨t1, t2, t3, t4, t5, t6⟩, ⟨n1, n2, n3, n4, n5⟩⟩ := h
  have w' : WAt (wput L a0 a1 a2 a3 m') q a0 a1 a2 a3 m' := w.put
  refine ⟨?_, ?_, Sto.set_same, ⟨t1, t2, t3, t4, t5, t6⟩, ⟨n1, n2, n3, n4, n5⟩⟩
  · obtain ⟨x1, x2, hq, h0, h1, h2, h3⟩ := w'
    unfold mput
    exact ⟨x1, x2, by rw [Sto.set_ne (Ne.symm t2)]; exact hq, by rw [Sto.set_ne (Ne.symm t3)]; exact h0, by rw [Sto.set_ne (Ne.symm t4)]; exact h1, by rw [Sto.set_ne (Ne.symm t5)]; exact h2, by rw [Sto.set_ne (Ne.symm t6)]; exact h3⟩
  · unfold mput; rw [Sto.set_ne (Ne.symm t1), wput_ne ⟨n2, n3, n4, n5⟩]; exact hm
theorem wput_id {L : Sto} {q a0 a1 a2 a3 : Addr} {m : Wd} (w : WAt L q a0 a1 a2 a3 m) : wput L a0 a1 a2 a3 m = L := by
  unfold wput; rw [Sto.set_id w.h0, Sto.set_id w.h1, Sto.set_id w.h2, Sto.set_id w.h3]
theorem mput_t {L : Sto} {mq tq q a0 a1 a2 a3 : Addr} {t t' : Tps} {m : Wd} (h : MAt L mq tq q a0 a1 a2 a3 t m) : mput L tq a0 a1 a2 a3 t' m = L.set tq (.dct (encT t')) := by unfold mput; rw [wput_id h.w]
theorem mput_id {L : Sto} {mq tq q a0 a1 a2 a3 : Addr} {t : Tps} {m : Wd} (h : MAt L mq tq q a0 a1 a2 a3 t m) : mput L tq a0 a1 a2 a3 t m = L := by rw [mput_t h, Sto.set_id h.ht]
theorem bkAt_mem {m : Wd} {k : Nat} (h : k < m.bk.length) : bkAt m k ∈ m.bk := by unfold bkAt; rw [List.getElem?_eq_getElem h]; exact List.getElem_mem h
def onS (f : Str → Option D) : D → Option D
  | .str i => f i
  | _ => none
theorem onS_map (f : Str → Option D) (ns : List Str) : (ns.map D.str).filterMap (onS f) = ns.filterMap f := by
  rw [List.filterMap_map]; rfl
theorem fm_map {α β : Type} (f : α → β) (xs : List α) : xs.filterMap (fun x => some (f x)) = xs.map f := by
  induction xs with
  | nil => rfl
  | cons x xs ih => rw [List.filterMap_cons]; simp only [List.map_cons]; rw [ih]
theorem dd_mem {v : Int} : ∀ {vs acc : List Int}, v ∈ (vs.foldl (fun acc v => if v ∈ acc then acc else acc ++ [v]) acc) → v ∈ acc ∨ v ∈ vs
  | [], acc, h => .inl h
  | x :: vs, acc, h => by
    rw [List.foldl_cons] at h
    rcases dd_mem h with h | h
    · split at h
      · exact .inl h
      · rcases List.mem_append.mp h with h | h
        · exact .inl h
        · rw [List.mem_singleton.mp h]; exact .inr List.mem_cons_self
    · exact .inr (List.mem_cons_of_mem _ h)
theorem found_le {n : Nat} {m : Wd} (wi : WdI n m) {ns : List Nat} {p v : Int} (h : v ∈ lawFound m ns p) : 0 ≤ v ∧ v ≤ 3 := by
  unfold lawFound at h
  rw [sortI_mem] at h
  rcases dd_mem h with h | h
  · cases h
  · obtain ⟨k, hk, rfl⟩ := List.mem_map.mp h
    unfold wrB getB
    cases e : m.wr[k]? with
    | none => simp; rw [show valG ([] : Bk) p = none from rfl]; decide
    | some w =>
      have hw := wi.wr w (List.mem_of_getElem? e)
      rw [Option.getD_some]
      cases e2 : valG w p with
      | none => decide
      | some u => have := hw.ks _ (getB_mem e2); rw [Option.getD_some]; exact this.2.2
theorem plsL_get {n i : Nat} {p : Int} (h : (plsL n)[i]? = some p) : 2 ≤ p ∧ p ≤ 2 * n + 1 := by
  unfold plsL at h
  rw [List.getElem?_map] at h
  have hi : i < 2 * n := by
    apply Classical.byContradiction
    intro z
    rw [List.getElem?_eq_none (by rw [List.length_range]; omega)] at h; cases h
  rw [List.getElem?_range hi] at h; cases h
  show 2 ≤ 2 + (i : Int) * 1 ∧ 2 + (i : Int) * 1 ≤ 2 * n + 1
  omega
theorem plsL_srt {n : Nat} : (plsL n).Pairwise (· < ·) := by
  unfold plsL; rw [List.pairwise_map]
  exact List.pairwise_lt_range.imp fun h => by omega
theorem keys_bookF {m : Wd} {ns : List Nat} {mk : Bk} {ps : List Int} : keysB (ps.filterMap (bookF m ns mk)) = ps.filter fun p => decide (0 < mvL m ns mk p) := by
  unfold keysB
  induction ps with
  | nil => rfl
  | cons p ps ih =>
    rw [List.filterMap_cons]
    by_cases e : 0 < mvL m ns mk p
    · rw [List.filter_cons_of_pos (by simpa using e)]
      have : bookF m ns mk p = some (p, mvL m ns mk p) := if_pos e
      rw [this]; simp only [List.map_cons]; rw [ih]
    · rw [List.filter_cons_of_neg (by simpa using e)]
      have : bookF m ns mk p = none := if_neg e
      rw [this]; exact ih
theorem bookL_ok {n : Nat} {m : Wd} (wi : WdI n m) {ns : List Nat} {mk : Bk} (hm : WrOk n mk) : BkOk n (bookL m ns mk n) := by
  refine ⟨by unfold bookL; rw [keys_bookF]; exact plsL_srt.sublist List.filter_sublist, fun p hp => ?_⟩
  unfold bookL at hp
  obtain ⟨x, hx, e⟩ := List.mem_filterMap.mp hp
  obtain ⟨i, hi⟩ := List.getElem?_of_mem hx
  have hp2 := plsL_get hi
  unfold bookF at e
  split at e
  · rename_i pos
    cases e
    refine ⟨hp2.1, hp2.2, by simp only; omega, ?_⟩
    simp only
    unfold mvL at pos ⊢
    cases e1 : valG mk x with
    | some v => have := hm.ks _ (getB_mem e1); rw [Option.getD_some]; exact this.2.2.2
    | none =>
      rw [Option.getD_none]
      cases e2 : lawFound m ns x with
      | nil => decide
      | cons v vs => exact (found_le wi (e2 ▸ List.mem_cons_self : v ∈ lawFound m ns x)).2
  · cases e
section
variable {B : Bg}
abbrev tDu : Stmt := top 130
theorem scTDu : FnScope ["_law_model", "_law_deed_here", "_law_count", "_law_tips", "_law_world_here", "_law_book", "_law_broken", "_law_nodes", "_law_node", "_law_place", "_law_found_here", "_law_value", "_law_name", "_law_n"] ["_law_model", "_law_deed_here", "_law_count"] (defScope tDu) := ⟨rfl, rfl, rfl, by decide +kernel, rfl, by decide +kernel, by decide +kernel⟩
def rTDu : ASp := fun ds L post => ∃ mq tq q a0 a1 a2 a3 t m d n, ds = [.ptr mq, encDl d, .int (n : Nat)] ∧ MAt L mq tq q a0 a1 a2 a3 t m ∧ WdI n m ∧ (∀ x ∈ t.map (·.1), tipOf t x < m.par.length) ∧ t.length ≤ 10 ∧ d.ok n (t.map (·.1)) ∧ n ≤ 10 ∧ m.par.length < 60 ∧ post (encOut (dueL t m n d).1) (mput L tq a0 a1 a2 a3 (dueL t m n d).2.1 (dueL t m n d).2.2)
theorem ok_tdu {f : Addr} {fd : FuncData} (F : Fun B.K "_law_due" "_law_due" tDu f fd) (cWr : Cl B 1 "_law_written" rTWr) (cBk : Cl B 1 "_law_broken_items" rTBk) (cAd : Cl B 2 "_law_add" rTAd) (cFo : Cl B 3 "_law_found" rTFo) : FnOk B.P B.w B.K B.mg B.base CX0 4 f fd ["_law_model", "_law_deed_here", "_law_count"] (low rTDu) := by
  refine ok_def F scTDu (fun ds L post ⟨_, _, _, _, _, _, _, _, _, _, _, h, _⟩ => by rw [h]; rfl) fun S hS ds L post ⟨mq, tq, q, a0, a1, a2, a3, t, m, d, n, e, mat, wi, htl, htt, hd, hn, hlt, h⟩ => ?_
  subst e
  have hline : 1000 ≤ sizeLine := by decide
  have wat := mat.w
  obtain ⟨d0, d1, d2, d3, lx, l0, l1, l2, l3⟩ := wat.atw.ex
  refine ws_setC hS 3 ((ev_ix (atI_nat (j := 0) rfl) (.inr ⟨_, rfl, mat.hm⟩) (ev_var 0) ev_int).we ?_)
  refine ws_setC hS 4 ((ev_ix (atI_nat (j := 1) rfl) (.inr ⟨_, rfl, mat.hm⟩) (ev_var 0) ev_int).we ?_)
  cases d with
  | wr x w =>
    obtain ⟨hx, hw⟩ := hd
    have htx := htl x hx
    have hbk := wi.bk _ (bkAt_mem (m := m) (k := tipOf t x) (by rw [wi.ok.bk]; exact htx))
    have hbl := hbk.len
    refine ws_if (et_eqS (x := "write") (y := "write") (ev_ixT (atI_nat (j := 0) rfl) (ev_var 1) ev_int) ev_str) (fun ht => ?_) fun hf => absurd hf (by decide)
    refine ws_set 5 ((ev_call cWr (by decide) (ea_2 (ev_ix (encW_at (n := tipOf t x) (by rw [wi.ok.bk]; exact htx)) l2 (ev_ix (atI_nat (j := 2) rfl) lx (ev_var 4) ev_int) (ev_dgetS (tip_at hx) (.inr ⟨_, rfl, mat.ht⟩) (ev_var 3) (ev_ixT (atI_nat (j := 1) rfl) (ev_var 1) ev_int))) (ev_ixT (atI_nat (j := 2) rfl) (ev_var 1) ev_int)) ⟨bkAt m (tipOf t x), w, _, rfl, .inl rfl, hbk.nd, hw.nd, by omega, hw.len, rfl, rfl⟩).we ?_)
    have hnb := hbk.law hw
    refine ws_set 6 ((ev_call cBk (by decide) (ea_2 (ev_var 5) (ev_var 2)) ⟨_, n, rfl, by omega, rfl, rfl⟩).we ?_)
    cases hbr : brokenL (lawW (bkAt m (tipOf t x)) w) n with
    | some r =>
      have e1 : dueL t m n (.wr x w) = (.unl r, t, m) := by simp only [dueL, dueW, hbr]
      rw [e1] at h
      simp only at h
      rw [mput_id mat] at h
      refine ws_if (et_notN (ev_var 6)) (fun ht => ?_) fun hf => by cases hf
      exact ws_ret ((ev_tup (ea_cons ev_str (ea_2 (ev_ixT (atI_nat (j := 0) rfl) (ev_var 6) ev_int) (ev_ixT (atI_nat (j := 1) rfl) (ev_var 6) ev_int)))).we h)
    | none =>
      have e1 : dueL t m n (.wr x w) = (.told m.par.length, putG t x m.par.length, addM m [tipOf t x] w (lawW (bkAt m (tipOf t x)) w)) := by simp only [dueL, dueW, hbr]
      rw [e1] at h
      refine ws_if (et_notN (ev_var 6)) (fun ht => absurd ht (by decide)) fun hf => ws_nil ?_
      have mat' := mat.put (t' := putG t x m.par.length) (m' := addM m [tipOf t x] w (lawW (bkAt m (tipOf t x)) w))
      refine ws_setk (we_call cAd (by decide) ((ea_cons (ev_var 4) (ea_cons (ev_lst (ea_1 (ev_dgetS (tip_at hx) (.inr ⟨_, rfl, mat.ht⟩) (ev_var 3) (ev_ixT (atI_nat (j := 1) rfl) (ev_var 1) ev_int)))) (ea_2 (ev_ixT (atI_nat (j := 2) rfl) (ev_var 1) ev_int) (ev_var 5)))).wa ⟨q, a0, a1, a2, a3, m, [tipOf t x], w, _, n, rfl, wat, wi.ok, (fun p hp => List.mem_singleton.mp hp ▸ htx), by simp, wi.il, hw, hnb, hn, encT t, .str x, .inr x, by rw [wput_ne ⟨mat.tn.2.2.1, mat.tn.2.2.2.1, mat.tn.2.2.2.2.1, mat.tn.2.2.2.2.2⟩]; exact mat.ht, by unfold encT; rw [List.length_map]; omega, ev_var 3, ev_ixT (atI_nat (j := 1) rfl) (ev_var 1) ev_int, kS, ?_⟩))
      rw [putG_encT]
      refine ws_ret ((ev_tup (ea_2 ev_str (ev_dgetS (i := x) (d := natD m.par.length) ?_ (.inr ⟨_, rfl, mat'.ht⟩) (ev_var 3) (ev_ixT (atI_nat (j := 1) rfl) (ev_var 1) ev_int)))).we h)
      rw [valG_encT, valG_put]; rfl
  | mg x os mk =>
    obtain ⟨hx, hos, hol, hw⟩ := hd
    refine ws_if (et_eqS (x := "merge") (y := "write") (ev_ixT (atI_nat (j := 0) rfl) (ev_var 1) ev_int) ev_str) (fun ht => absurd ht (by decide)) fun hf => ws_nil ?_
    have hall : ∀ o ∈ x :: os, o ∈ t.map (·.1) := fun o ho => by
      rcases List.mem_cons.mp ho with rfl | ho
      · exact hx
      · exact hos o ho
    generalize hns : nodesL t x os = ns at *
    have hnl : ns.length ≤ 6 := by rw [← hns]; unfold nodesL; rw [List.length_map, List.length_cons]; omega
    have hnlt : ∀ k ∈ ns, k < m.par.length := fun k hk => by
      rw [← hns] at hk; unfold nodesL at hk
      obtain ⟨o, ho, rfl⟩ := List.mem_map.mp hk
      exact htl o (hall o ho)
    have hnn : ns ≠ [] := by rw [← hns]; unfold nodesL; simp
    refine ws_setLc 7 [("_law_name", 12)] (onS fun o => some (natD (tipOf t o))) (rs := encN ns) (ei_list (ev_cat (ds := [.str x]) (ds' := encS os) (.inl rfl) (.inl rfl) (by rw [encS_len, List.length_singleton]; omega) (ev_lst (ea_1 (ev_ixT (atI_nat (j := 1) rfl) (ev_var 1) ev_int))) (ev_ixT (atI_nat (j := 2) rfl) (ev_var 1) ev_int))) (by rw [List.length_append, encS_len, List.length_singleton]; omega) ?_ (fun d hd => ?_) ?_
    · rw [← hns]
      show ((x :: os).map D.str).filterMap _ = _
      rw [onS_map, fm_map]; unfold nodesL encN; rw [List.map_map]; rfl
    · obtain ⟨o, ho, rfl⟩ : ∃ o ∈ x :: os, d = .str o := by
        have hd : d ∈ (x :: os).map D.str := hd
        obtain ⟨o, ho, e⟩ := List.mem_map.mp hd
        exact ⟨o, ho, e.symm⟩
      exact ⟨_, _, wg_name 12, by decide, wts_n rfl fun z => ev_dgetS (tip_at (hall o ho)) (.inr ⟨_, rfl, mat.ht⟩) (ev_var 3) (ev_var 12)⟩
    have e0 : dueL t m n (.mg x os mk) = dueM t m n x ns mk := by rw [← hns]; rfl
    rw [e0] at h
    have early : ∀ k, mk.length = 0 → earlyL m ns = some k → dueM t m n x ns mk = (.told k, putG t x k, m) := fun k z e => by unfold dueM; rw [if_pos z, e]
    have late : (mk.length = 0 → earlyL m ns = none) → dueM t m n x ns mk = dueM2 t m n x ns mk := fun z => by
      unfold dueM
      by_cases y : mk.length = 0
      · rw [if_pos y, z y]
      · rw [if_neg y]
    refine ws_join (fun G' L' => ∃ a b, G' = [some (.ptr mq), some (encDl (.mg x os mk)), some (.int (n : Nat)), some (.ptr tq), some (.ptr q), none, none, some (.lst (encN ns)), a, none, none, none, b, none] ∧ L' = L ∧ dueM t m n x ns mk = dueM2 t m n x ns mk)
      (wo_ifB (et_eqI (ev_lenD (.inl rfl) (ev_ixT (atI_nat (j := 3) (v := D.dct (encB mk)) rfl) (ev_var 1) ev_int)) ev_int) (fun ht => ?_) fun hf => ?_) ?_
    · have hz : mk.length = 0 := by have := of_decide_eq_true ht; rw [length_encB] at this; omega
      refine ws_for ((ei_list (ev_var 7)).wi (forW_inv (fun i G' L2 => ∃ a b, G' = [some (.ptr mq), some (encDl (.mg x os mk)), some (.int (n : Nat)), some (.ptr tq), some (.ptr q), none, none, some (.lst (encN ns)), a, none, none, none, b, none] ∧ L2 = L ∧ (ns.take i).findSome? (earlyF m ns) = none) ⟨_, _, rfl, rfl, rfl⟩ ?_ ?_))
      · rintro i d G' L2 hd ⟨a, b, rfl, rfl, hi⟩
        obtain ⟨k, hk, rfl⟩ := encN_get hd
        have hkl := hnlt k (List.mem_of_getElem? hk)
        refine ⟨_, _, wg_nameC hS 8, ?_⟩
        refine ws_if (et_eqN (ev_lenN (ns := ns.filter fun n => decide (n ∈ inn m k)) (.inl rfl) (ev_fltN 13 (fun n => decide (n ∈ inn m k)) (ei_list (ev_var 7)) (by omega) fun j hj => ⟨wg_name 13, fun z => ⟨et_inN (ns := inn m k) (.inl rfl) (ev_var 13) (ev_ix (encLk_at (by rw [wi.ok.inn]; exact hkl)) l3 (ev_ix (atI_nat (j := 3) rfl) lx (ev_var 4) ev_int) (ev_var 8)), ev_var 13⟩⟩)) (ev_lenN (.inl rfl) (ev_var 7))) (fun ht => ?_) fun hf => ws_nil ?_
        · have e1 : earlyF m ns k = some k := if_pos (of_decide_eq_true ht)
          rw [early k hz (find_hit hk hi e1)] at h
          simp only at h
          rw [mput_t mat, ← putG_encT] at h
          refine ws_setk ((ev_var 8).we ⟨encT t, .str x, .inr x, mat.ht, by unfold encT; rw [List.length_map]; omega, ev_var 3, ev_ixT (atI_nat (j := 1) rfl) (ev_var 1) ev_int, kS, ?_⟩)
          exact ws_ret ((ev_tup (ea_2 ev_str (ev_var 8))).we h)
        · exact ws_nil ⟨_, _, rfl, rfl, find_next hk hi (if_neg (of_decide_eq_false hf))⟩
      · rintro G' L2 ⟨a, b, rfl, rfl, hi⟩
        rw [encN_len, List.take_length] at hi
        exact ws_nil ⟨_, _, rfl, rfl, late fun _ => hi⟩
    · refine ws_nil ⟨_, _, rfl, rfl, late fun z => ?_⟩
      have := of_decide_eq_false hf; rw [length_encB] at this; omega
    rintro G' L2 ⟨a8, a12, rfl, rfl, e1⟩
    rw [e1] at h
    refine ws_set 5 (we_newD fun c nc => ?_)
    have plc : ∀ p vs, (plsL n).findSome? (clashF m ns mk) = some (p, vs) → dueM2 t m n x ns mk = (.plc p vs, t, m) := fun p vs e => by unfold dueM2; rw [e]
    have aw : ∀ d, AtW (L2.set c d) (.ptr q) m := fun d => wat.atw.set nc
    have hpl : (plsL n).length = 2 * n := by unfold plsL; rw [List.length_map, List.length_range]
    have plsE : (plsL n).map D.int = rngL 2 1 (2 * n) := by unfold plsL rngL; rw [List.map_map]; rfl
    refine ws_for ((Ei.wi (ds := (plsL n).map D.int) (by rw [plsE]; exact ei_range2 (n := 2 * n) (ea_2 ev_int (ev_add (ev_mul cmul2 ev_int (ev_var 2)) ev_int)) ⟨by decide, by decide⟩ ⟨by omega, by omega⟩ (by omega))) (forW_inv (fun i G' L3 => ∃ a9 a10 a11, G' = [some (.ptr mq), some (encDl (.mg x os mk)), some (.int (n : Nat)), some (.ptr tq), some (.ptr q), some (.ptr c), none, some (.lst (encN ns)), a8, a9, a10, a11, a12, none] ∧ L3 = L2.set c (.dct (encB (((plsL n).take i).filterMap (bookF m ns mk)))) ∧ ((plsL n).take i).findSome? (clashF m ns mk) = none) ⟨_, _, _, rfl, rfl, rfl⟩ ?_ ?_))
    · rintro i d G' L3 hd ⟨a9, a10, a11, rfl, rfl, hi⟩
      obtain ⟨p, hp, rfl⟩ := map_get hd
      have hp2 := plsL_get hp
      have hil : i < (plsL n).length := (List.getElem?_eq_some_iff.mp hp).1
      refine ⟨_, _, wg_name 9, ?_⟩
      refine ws_set 10 ((ev_call cFo (by decide) (ea_cons (ev_var 4) (ea_2 (ev_var 7) (ev_var 9))) ⟨m, ns, _, p, rfl, aw _, wi.ok, hnlt, by omega, rfl, rfl⟩).we ?_)
      have hne := wi.ne ns p hnn hnlt
      have hv0 : atI ((lawFound m ns p).map D.int) 0 = some (.int ((lawFound m ns p).headD 0)) := by
        cases e : lawFound m ns p with
        | nil => exact absurd e hne
        | cons v vs => exact atI_nat (j := 0) rfl
      refine ws_set 11 ((ev_get2 (d := .int (mvL m ns mk p)) (by rw [valG_encB]; unfold mvL; cases valG mk p <;> rfl) (.inl rfl) (ev_ixT (atI_nat (j := 3) (v := D.dct (encB mk)) rfl) (ev_var 1) ev_int) (ev_var 9) (ev_ix hv0 (.inl rfl) (ev_var 10) ev_int)).we ?_)
      refine ws_if (et_and (et_dninB (bk := mk) (.inl rfl) (ev_var 9) (ev_ixT (atI_nat (j := 3) (v := D.dct (encB mk)) rfl) (ev_var 1) ev_int)) fun _ => et_gt (ev_len (.inl rfl) (ev_var 10)) ev_int) (fun ht => ?_) fun hf => ws_nil ?_
      · obtain ⟨t1, t2⟩ := (Bool.and_eq_true _ _).mp ht
        have t2 := of_decide_eq_true t2
        rw [List.length_map] at t2
        have t1 : valG mk p = none := by cases e : valG mk p with
          | none => rfl
          | some v => rw [e] at t1; cases t1
        have e2 : clashF m ns mk p = some (p, lawFound m ns p) := if_pos ⟨t1, by omega⟩
        rw [plc _ _ (find_hit hp hi e2)] at h
        simp only at h
        rw [mput_id mat] at h
        refine ws_frzN 5 nc ?_
        exact ws_ret ((ev_tup (ea_cons ev_str (ea_2 (ev_var 9) (ev_var 10)))).we h)
      · have e2 : clashF m ns mk p = none := if_neg fun z => by
          rw [z.1, List.length_map] at hf
          have : decide ((1 : Int) < ((lawFound m ns p).length : Int)) = true := decide_eq_true (by have := z.2; omega)
          rw [this] at hf; cases hf
        have hn2 := find_next hp hi e2
        have tk : (plsL n).take (i + 1) = (plsL n).take i ++ [p] := by rw [List.take_succ, hp]; rfl
        refine ws_if (et_gt (ev_var 11) ev_int) (fun ht => ?_) fun hf => ws_nil (ws_nil ⟨_, _, _, rfl, ?_, hn2⟩)
        · have e3 : bookF m ns mk p = some (p, mvL m ns mk p) := if_pos (of_decide_eq_true ht)
          refine ws_setk ((ev_var 11).we ⟨_, .int p, .inl p, Sto.set_same, ?_, ev_var 5, ev_var 9, kI, ws_nil (ws_nil ⟨_, _, _, rfl, ?_, hn2⟩)⟩)
          · rw [length_encB]
            have := List.length_filterMap_le (bookF m ns mk) ((plsL n).take i)
            rw [List.length_take] at this; omega
          · rw [Sto.set_set, putG_encB, tk, List.filterMap_append, putG_new (fun z => ?_)]
            · rw [List.filterMap_cons, e3]; rfl
            · have z' : p ∈ keysB (((plsL n).take i).filterMap (bookF m ns mk)) := z
              rw [keys_bookF] at z'
              obtain ⟨j, hj⟩ := List.getElem?_of_mem (List.mem_filter.mp z').1
              have hji : j < i := by
                have := (List.getElem?_eq_some_iff.mp hj).1; rw [List.length_take] at this; omega
              rw [List.getElem?_take_of_lt hji] at hj
              have nd := srt_nd (plsL_srt (n := n))
              obtain ⟨h1, h2⟩ := List.getElem?_eq_some_iff.mp hj
              obtain ⟨h3, h4⟩ := List.getElem?_eq_some_iff.mp hp
              have := (List.getElem_inj nd).mp (h2.trans h4.symm); omega
        · have e3 : bookF m ns mk p = none := if_neg (of_decide_eq_false hf)
          rw [tk, List.filterMap_append, List.filterMap_cons, e3, List.filterMap_nil, List.append_nil]
    rintro G' L3 ⟨a9, a10, a11, rfl, rfl, hi⟩
    rw [List.length_map, List.take_length] at hi ⊢
    refine ws_frzN 5 nc ?_
    have hnb : BkOk n (bookL m ns mk n) := bookL_ok wi hw
    refine ws_set 6 ((ev_call cBk (by decide) (ea_2 (ev_var 5) (ev_var 2)) ⟨bookL m ns mk n, n, rfl, by omega, rfl, rfl⟩).we ?_)
    cases hbr : brokenL (bookL m ns mk n) n with
    | some r =>
      have e2 : dueM2 t m n x ns mk = (.rul r, t, m) := by unfold dueM2; rw [hi]; simp only [hbr]
      rw [e2] at h
      simp only at h
      rw [mput_id mat] at h
      refine ws_if (et_notN (ev_var 6)) (fun ht => ?_) fun hf => by cases hf
      exact ws_ret ((ev_tup (ea_cons ev_str (ea_2 (ev_ixT (atI_nat (j := 0) rfl) (ev_var 6) ev_int) (ev_ixT (atI_nat (j := 1) rfl) (ev_var 6) ev_int)))).we h)
    | none =>
      have e2 : dueM2 t m n x ns mk = (.told m.par.length, putG t x m.par.length, addM m ns mk (bookL m ns mk n)) := by unfold dueM2; rw [hi]; simp only [hbr]
      rw [e2] at h
      refine ws_if (et_notN (ev_var 6)) (fun ht => absurd ht (by decide)) fun hf => ws_nil ?_
      have mat' := mat.put (t' := putG t x m.par.length) (m' := addM m ns mk (bookL m ns mk n))
      refine ws_setk (we_call cAd (by decide) ((ea_cons (ev_var 4) (ea_cons (ev_var 7) (ea_2 (ev_ixT (atI_nat (j := 3) (v := D.dct (encB mk)) rfl) (ev_var 1) ev_int) (ev_var 5)))).wa ⟨q, a0, a1, a2, a3, m, ns, mk, bookL m ns mk n, n, rfl, wat, wi.ok, hnlt, by omega, wi.il, hw, hnb, hn, encT t, .str x, .inr x, by rw [wput_ne ⟨mat.tn.2.2.1, mat.tn.2.2.2.1, mat.tn.2.2.2.2.1, mat.tn.2.2.2.2.2⟩]; exact mat.ht, by unfold encT; rw [List.length_map]; omega, ev_var 3, ev_ixT (atI_nat (j := 1) rfl) (ev_var 1) ev_int, kS, ?_⟩))
      rw [putG_encT]
      refine ws_ret ((ev_tup (ea_2 ev_str (ev_dgetS (i := x) (d := natD m.par.length) ?_ (.inr ⟨_, rfl, mat'.ht⟩) (ev_var 3) (ev_ixT (atI_nat (j := 1) rfl) (ev_var 1) ev_int)))).we h)
      rw [valG_encT, valG_put]; rfl
end
end FS
/-! text E16 -/
/-! E16: a row of the law. -/
namespace FS
open PySem PySem.Spec PyProof.Rows L2
section
variable {B : Bg} {N : List Str} {sc : Scope} {k : Nat} {S : Sit B N sc k} {G : Gam} {L : Sto} {a b c e : Expr} {pos p : Pos} {post : D → Sto → Prop}
theorem ev_lenI {d : D} {ns : List Int} (l : Lk L d (.lst (ns.map D.int))) (h : Ev S G L e d) (hg : GlS sc "len" := by rfl) (he : St1 e := by intro _; rfl) : Ev S G L (.Call (.Name "len" p) [e] [] pos) (natD ns.length) := by
  have := ev_len (p := p) (pos := pos) l h hg he
  rw [List.length_map] at this; exact this
/-- d[k] = e, the key drawn -/
theorem ws_setkW {q : Addr} {p' : Pos} {rest : List Stmt} {E : AE} (h : We S G L e fun d L1 => Ev S G L1 a (.ptr q) ∧ We S G L1 b fun dk L2 => ∃ kvs kk, L2 q = some (.dct kvs) ∧ kvs.length < sizeLine ∧ (∀ M H v, Rep M H dk v → v = kV kk) ∧ Ws S G (L2.set q (.dct (putG kvs kk d))) rest E)
    (hs : ∀ env, swapsWith e (some (.Subscript a b p')) pos.line env = pure false := by intro _; rfl) : Ws S G L (.Assign [.Subscript a b p'] e pos :: rest) E := ws_cons fun σ H A D c =>
  ⟨sDPut (ME S a) (ME S b) (ME S e), fun X hX => ps_dput (S.hu hX) (me hX) (me hX) (me hX) (hs _), h σ H A _ fun d L1 v H1 ⟨e3, e4⟩ k1 s1 r1 => e3.run (A.mono k1 s1) fun u H2 k2 A2 r2 => e4 σ H2 A2 _ fun dk L2 u' H3 ⟨kvs, kk, e1, e2, ek, w⟩ k3 s3 r3 => by
    have A3 := A2.mono k3 s3
    have r2' := r2.mono k3.kp
    cases r2'
    cases ek _ _ _ r3
    cases A3.sto.cell q _ e1 with
    | @dct _ _ us hu ru =>
    have hp : H3 q = none ∨ L2 q ≠ none := .inr (by rw [e1]; exact fun z => nomatch z)
    have kp' := keep_put (d := .dct (putG kvs kk d)) (o := .dK (putK us kk v)) hp
    have r1' := (r1.mono k2.kp).mono k3.kp
    exact ⟨q, _, rfl, DPut.k hu (by rw [ru.length]; exact e2), c.nx _ _ _ _ w (((k1.trans k2).trans k3).trans kp') (A3.mono kp' (A3.sto.putD hp (ru.put r1')))⟩⟩
end
theorem keysB_put {b : Bk} {p v : Int} : keysB (putG b p v) = if p ∈ keysB b then keysB b else keysB b ++ [p] := by
  have h1 : (b.any fun kv => decide (kv.1 = p)) = decide (p ∈ keysB b) := by
    unfold keysB
    by_cases e : p ∈ b.map (·.1)
    · rw [decide_eq_true e]
      obtain ⟨q, hq, e⟩ := List.mem_map.mp e
      exact List.any_eq_true.mpr ⟨q, hq, decide_eq_true e⟩
    · rw [decide_eq_false e, List.any_eq_false]
      intro q hq z
      exact e (List.mem_map.mpr ⟨q, hq, of_decide_eq_true z⟩)
  unfold putG
  rw [h1]
  by_cases e : p ∈ keysB b
  · rw [if_pos e, if_pos (decide_eq_true e)]
    unfold keysB; rw [List.map_map]; congr 1; funext q
    simp only [Function.comp]; split <;> rfl
  · rw [if_neg e, if_neg (by simpa using e)]
    unfold keysB; rw [List.map_append]; rfl
theorem putG_mem {b : Bk} {p v : Int} {x : Int × Int} (h : x ∈ putG b p v) : x ∈ b ∨ x = (p, v) := by
  unfold putG at h
  split at h
  · obtain ⟨y, hy, e⟩ := List.mem_map.mp h
    split at e
    · rename_i e2; exact .inr (by rw [← e, e2])
    · exact .inl (e ▸ hy)
  · rcases List.mem_append.mp h with h | h
    · exact .inl h
    · exact .inr (List.mem_singleton.mp h)
/-- marks before the length is known -/
structure MkOk (n : Nat) (w : Bk) : Prop where
  nd : (keysB w).Nodup
  ks : ∀ p ∈ w, 2 ≤ p.1 ∧ p.1 ≤ 2 * n + 1 ∧ 0 ≤ p.2 ∧ p.2 ≤ 3
theorem MkOk.put {n : Nat} {w : Bk} (h : MkOk n w) {p v : Int} (hp : 2 ≤ p ∧ p ≤ 2 * n + 1) (hv : 0 ≤ v ∧ v ≤ 3) : MkOk n (putG w p v) := by
  refine ⟨?_, fun x hx => ?_⟩
  · rw [keysB_put]
    split
    · exact h.nd
    · rename_i e
      exact List.nodup_append.mpr ⟨h.nd, by simp, fun a ha b hb z => e (by rw [List.mem_singleton.mp hb] at z; exact z ▸ ha)⟩
  · rcases putG_mem hx with h1 | rfl
    · exact h.ks x h1
    · exact ⟨hp.1, hp.2, hv.1, hv.2⟩
theorem MkOk.len {n : Nat} {w : Bk} (h : MkOk n w) : w.length ≤ 2 * n := by
  have h1 := srt_len (lo := 2) (hi := 2 * n + 2) (sortI_srt h.nd) fun x hx => by
    rw [sortI_mem] at hx
    unfold keysB at hx
    obtain ⟨p, hp, rfl⟩ := List.mem_map.mp hx
    have := h.ks p hp; omega
  have h2 : (sortI (keysB w)).length = w.length := by rw [sortI_len, length_keysB]
  rcases h1 with e | e
  · rw [e] at h2; simp at h2; omega
  · rw [h2] at e; omega
theorem MkOk.wr {n : Nat} {w : Bk} (h : MkOk n w) (hn : n ≤ 10) : WrOk n w := ⟨h.nd, h.ks, by have := h.len; omega⟩
theorem len_putB {b : Bk} {p v : Int} : (putG b p v).length ≤ b.length + 1 := by
  unfold putG; split
  · rw [List.length_map]; omega
  · simp
theorem filter_strs {xs : List Str} {q : Str → Bool} : (xs.map D.str).filterMap (onS fun n => if q n = true then some (.str n) else none) = (xs.filter q).map D.str := by
  rw [onS_map]
  induction xs with
  | nil => rfl
  | cons n ns ih =>
    rw [List.filterMap_cons]
    by_cases h : q n = true
    · rw [if_pos h, List.filter_cons_of_pos h]; simp only; rw [ih]; rfl
    · rw [if_neg h, List.filter_cons_of_neg h]; simp only; rw [ih]
section
variable {B : Bg}
abbrev tDe : Stmt := top 131
theorem scTDe : FnScope ["_law_box", "_law_model", "_law_names", "_law_count", "_law_at", "_law_deed_here", "_law_others", "_law_nodes", "_law_marks", "_law_kind", "_law_place", "_law_found_here", "_law_name"] ["_law_box", "_law_model", "_law_names", "_law_count"] (defScope tDe) := ⟨rfl, rfl, rfl, by decide +kernel, rfl, by decide +kernel, by decide +kernel⟩
/-- the second part of a row -/
def planOk (n : Nat) (d : Dl) (pl : D) : Prop := (pl = .non ∧ ∃ x os mk, d = .mg x os mk) ∨ ∃ dd x, pl = encDd dd ∧ Drawn n dd ∧ d = .wr x (itemW dd)
def rTDe : ASp := fun ds L post => ∃ bq mq tq q a0 a1 a2 a3 t m n xs, ds = [.ptr bq, .ptr mq, .lst (encS xs), .int (n : Nat)] ∧ IsBox L bq ∧ (∀ x y z, MAt (L.set bq (boxD x y z)) mq tq q a0 a1 a2 a3 t m) ∧ WdI n m ∧ (∀ x ∈ xs, x ∈ t.map (·.1)) ∧ xs.length = 3 ∧ (∀ x ∈ t.map (·.1), tipOf t x < m.par.length) ∧ 1 ≤ n ∧ n ≤ 10 ∧ ∀ d pl x y z, d.ok n (t.map (·.1)) → planOk n d pl → post (.lst [encDl d, pl]) (L.set bq (boxD x y z))
theorem ok_tde {f : Addr} {fd : FuncData} (F : Fun B.K "_law_deed" "_law_deed" tDe f fd) (cTk : Cl B 1 "_law_take" rTk) (cTd : Cl B 2 "_law_item_deed" rTTd) (cIw : Cl B 1 "_law_item_writes" rTIw) (cCh : Cl B 2 "_law_choose" rTChs) (cFo : Cl B 3 "_law_found" rTFo) : FnOk B.P B.w B.K B.mg B.base CX0 4 f fd ["_law_box", "_law_model", "_law_names", "_law_count"] (low rTDe) := by
  refine ok_def F scTDe (fun ds L post ⟨_, _, _, _, _, _, _, _, _, _, _, _, h, _⟩ => by rw [h]; rfl) fun S hS ds L post ⟨bq, mq, tq, q, a0, a1, a2, a3, t, m, n, xs, e, hq, mat, wi, hxs, hxl, htl, hn1, hn, h⟩ => ?_
  subst e
  have hline : 1000 ≤ sizeLine := by decide
  refine ws_setC hS 4 (we_take cTk (by decide) (n := 3) hq (by decide) (by decide) (ev_var 0) ev_int fun at_ x y z at0 at3 => ?_)
  obtain ⟨j, rfl⟩ : ∃ j : Nat, at_ = (j : Int) := ⟨at_.toNat, by omega⟩
  have hj : j < xs.length := by omega
  have hxj : (encS xs)[j]? = some (.str xs[j]) := by unfold encS; rw [List.getElem?_map, List.getElem?_eq_getElem hj]; rfl
  have hxm : xs[j] ∈ t.map (·.1) := hxs _ (List.getElem_mem hj)
  generalize hx : xs[j] = xn at *
  refine ws_cons (wo_if (wt_ltI (we_take cTk (by decide) (n := 5) IsBox.set (by decide) (by decide) (ev_var 0) ev_int fun d x y z _ _ => ⟨d, rfl, ev_int.we ⟨3, rfl, ?_⟩⟩)))
  rw [Sto.set_set]
  split
  · refine ws_set 5 (we_call cTd (by decide) ((ea_cons (ev_var 0) (ea_2 (ev_var 3) (ev_var 4))).wa ⟨bq, n, _, rfl, IsBox.set, by omega, by omega, fun dd x y z hd => ?_⟩))
    rw [Sto.set_set]
    exact ws_ret ((ev_lst (ea_2 (ev_tup (ea_cons ev_str (ea_2 (ev_ix (atI_nat hxj) (.inl rfl) (ev_var 2) (ev_var 4)) (ev_call cIw (by decide) (ea_1 (ev_var 5)) ⟨dd, rfl, rfl, rfl⟩)))) (ev_var 5))).we (h (.wr xn (itemW dd)) (encDd dd) _ _ _ ⟨hxm, hd.wr⟩ (.inr ⟨dd, xn, rfl, hd, rfl⟩)))
  refine ws_nil ?_
  have hfl : (xs.filter fun o => !decide (o = xn)).length ≤ 3 := hxl ▸ List.length_filter_le ..
  refine ws_set 6 (we_call cCh (by decide) (wa_cons ((ev_var 0).we (wa_cons (Ev.we (d := .lst (encS (xs.filter fun o => !decide (o = xn)))) (ev_lc [("_law_name", 12)] (onS fun o => if (!decide (o = xn)) = true then some (.str o) else none) (ei_list (ev_var 2)) (by rw [encS_len]; omega) ?_ fun d hd => ?_) (wa_cons (we_addI (ev_int.we ⟨1, rfl, we_take cTk (by decide) (n := 2) IsBox.set (by decide) (by decide) (ev_var 0) ev_int fun d x y z d0 d2 => ⟨d, rfl, wa_nil ?_⟩⟩))))))))
  · exact filter_strs (q := fun o => !decide (o = xn))
  · obtain ⟨o, ho, rfl⟩ := List.mem_map.mp hd
    refine ⟨_, _, wg_name 12, by decide, wts_1 (fun z => et_neS (ev_var 12) (ev_ix (atI_nat hxj) (.inl rfl) (ev_var 2) (ev_var 4))) (fun hf => ?_) fun ht => ⟨_, fun z => ev_var 12, ?_⟩⟩
    · show (if _ then _ else _) = _
      rw [if_neg (by rw [hf]; exact Bool.false_ne_true)]
    · show (if _ then _ else _) = _
      rw [if_pos ht]
  rw [Sto.set_set]
  refine ⟨bq, _, _, rfl, IsBox.set, by omega, by omega, by omega, fun os x y z hos hol => ?_⟩
  rw [Sto.set_set]
  have hos : ∀ o ∈ os, o ∈ t.map (·.1) := fun o ho => hxs o (List.mem_filter.mp (hos o ho)).1
  have hall : ∀ o ∈ xn :: os, o ∈ t.map (·.1) := fun o ho => by
    rcases List.mem_cons.mp ho with rfl | ho
    · exact hxm
    · exact hos o ho
  have ma := mat x y z
  generalize hns : nodesL t xn os = ns
  have hnl : ns.length ≤ 6 := by rw [← hns]; unfold nodesL; rw [List.length_map, List.length_cons]; omega
  have hnlt : ∀ k ∈ ns, k < m.par.length := fun k hk => by
    rw [← hns] at hk; unfold nodesL at hk
    obtain ⟨o, ho, rfl⟩ := List.mem_map.mp hk
    exact htl o (hall o ho)
  have hnn : ns ≠ [] := by rw [← hns]; unfold nodesL; simp
  refine ws_setLc 7 [("_law_name", 12)] (onS fun o => some (natD (tipOf t o))) (rs := encN ns) (ei_list (ev_cat (ds := [.str xn]) (ds' := encS os) (.inl rfl) (.inl rfl) (by rw [encS_len, List.length_singleton]; omega) (ev_lst (ea_1 (ev_ix (atI_nat hxj) (.inl rfl) (ev_var 2) (ev_var 4)))) (ev_var 6))) (by rw [List.length_append, encS_len, List.length_singleton]; omega) ?_ (fun d hd => ?_) ?_
  · rw [← hns]
    show ((xn :: os).map D.str).filterMap _ = _
    rw [onS_map, fm_map]; unfold nodesL encN; rw [List.map_map]; rfl
  · obtain ⟨o, ho, rfl⟩ : ∃ o ∈ xn :: os, d = .str o := by
      have hd : d ∈ (xn :: os).map D.str := hd
      obtain ⟨o, ho, e⟩ := List.mem_map.mp hd
      exact ⟨o, ho, e.symm⟩
    exact ⟨_, _, wg_name 12, by decide, wts_n rfl fun z => ev_dgetS (tip_at (hall o ho)) (.inr ⟨_, rfl, ma.ht⟩) (ev_ix (atI_nat (j := 0) rfl) (.inr ⟨_, rfl, ma.hm⟩) (ev_var 1) ev_int) (ev_var 12)⟩
  refine ws_set 8 (we_newD fun c nc => ?_)
  obtain ⟨cne, nc'⟩ := none_set nc
  have sw : ∀ {d1 d2 d3}, ((L.set bq d1).set c d2).set bq d3 = (L.set bq d3).set c d2 := fun {d1 d2 d3} => by rw [Sto.set_comm cne, Sto.set_set]
  have ncb : ∀ {d}, (L.set bq d) c = none := fun {d} => by rw [Sto.set_ne cne]; exact nc'
  have isb : ∀ {x y z d}, IsBox ((L.set bq (boxD x y z)).set c d) bq := fun {x y z d} => ⟨x, y, z, by rw [Sto.set_ne (Ne.symm cne)]; exact Sto.set_same⟩
  refine ws_set 9 (we_take cTk (by decide) (n := 4) isb (by decide) (by decide) (ev_var 0) ev_int fun kd x y z k0 k4 => ?_)
  rw [sw]
  have hpl : (plsL n).length = 2 * n := by unfold plsL; rw [List.length_map, List.length_range]
  have plsE : (plsL n).map D.int = rngL 2 1 (2 * n) := by unfold plsL rngL; rw [List.map_map]; rfl
  refine ws_for ((Ei.wi (ds := (plsL n).map D.int) (by rw [plsE]; exact ei_range2 (n := 2 * n) (ea_2 ev_int (ev_add (ev_mul cmul2 ev_int (ev_var 3)) ev_int)) ⟨by decide, by decide⟩ ⟨by omega, by omega⟩ (by omega))) (forW_inv (fun i G' L3 => ∃ mk x y z a10 a11, G' = [some (.ptr bq), some (.ptr mq), some (.lst (encS xs)), some (.int (n : Nat)), some (.int (j : Int)), none, some (.lst (encS os)), some (.lst (encN ns)), some (.ptr c), some (.int kd), a10, a11, none] ∧ L3 = (L.set bq (boxD x y z)).set c (.dct (encB mk)) ∧ MkOk n mk) ⟨[], _, _, _, _, _, rfl, rfl, List.nodup_nil, (fun _ h => by cases h)⟩ ?_ ?_))
  · rintro i d G' L3 hd ⟨mk, x, y, z, a10, a11, rfl, rfl, hmk⟩
    obtain ⟨p, hp, rfl⟩ := map_get hd
    have hp2 := plsL_get hp
    have mb := mat x y z
    refine ⟨_, _, wg_name 10, ?_⟩
    refine ws_set 11 ((ev_call cFo (by decide) (ea_cons (ev_ix (atI_nat (j := 1) rfl) (lk_set (.inr ⟨_, rfl, mb.hm⟩) ncb) (ev_var 1) ev_int) (ea_2 (ev_var 7) (ev_var 10))) ⟨m, ns, _, p, rfl, mb.w.atw.set ncb, wi.ok, hnlt, by omega, rfl, rfl⟩).we ?_)
    have hml := hmk.len
    have hfo : (lawFound m ns p).length ≤ 60 := by
      unfold lawFound
      rw [sortI_len]
      have h1 := dd_len (vs := (lawHeads m ns p).map fun n => getB (wrB m.wr n) p) (acc := [])
      have h2 : (lawHeads m ns p).length ≤ (lawWriters m ns p).length := List.length_filter_le ..
      have h3 := lawWriters_len (m := m) (ns := ns) (p := p)
      have h4 := wi.ok.le
      rw [List.length_map, List.length_nil] at h1
      unfold dd; omega
    refine ws_if (et_and (et_gt (ev_var 9) ev_int) fun _ => et_gt (ev_len (.inl rfl) (ev_var 11)) ev_int) (fun ht => ?_) fun hf => ws_nil (ws_nil ⟨mk, x, y, z, _, _, rfl, rfl, hmk⟩)
    have hlen : 0 < (lawFound m ns p).length := by
      have := of_decide_eq_true ((Bool.and_eq_true _ _).mp ht).2
      rw [List.length_map] at this; omega
    refine ws_setk (q := c) (we_ix (ixl S) (by exact fun _ _ => rfl) ((ev_var 11).we (we_take cTk (by decide) (n := ((lawFound m ns p).length : Nat)) isb (by omega) (by omega) (ev_var 0) (ev_lenI (.inl rfl) (ev_var 11)) fun v x y z v0 vn => ?_)))
    obtain ⟨v, rfl⟩ : ∃ v' : Nat, v = (v' : Int) := ⟨v.toNat, by omega⟩
    have hvl : v < (lawFound m ns p).length := by omega
    have hvg : ((lawFound m ns p).map D.int)[v]? = some (.int (lawFound m ns p)[v]) := by rw [List.getElem?_map, List.getElem?_eq_getElem hvl]; rfl
    rw [sw]
    refine a2_ixL (.inl rfl) (atI_nat hvg) ⟨_, .int p, .inl p, Sto.set_same, by rw [length_encB]; omega, ev_var 8, ev_var 10, kI, ws_nil (ws_nil ⟨putG mk p (lawFound m ns p)[v], x, y, z, _, _, rfl, ?_, hmk.put hp2 (found_le wi (List.getElem_mem hvl))⟩)⟩
    rw [Sto.set_set, putG_encB]
  rintro G' L3 ⟨mk, x, y, z, a10, a11, rfl, rfl, hmk⟩
  have fin : ∀ mk x y z G', G' = [some (.ptr bq), some (.ptr mq), some (.lst (encS xs)), some (.int (n : Nat)), some (.int (j : Int)), none, some (.lst (encS os)), some (.lst (encN ns)), some (.ptr c), some (.int kd), a10, a11, none] → MkOk n mk → post (.lst [encDl (.mg xn os mk), .non]) (L.set bq (boxD x y z)) := fun mk x y z G' _ hmk => h (.mg xn os mk) .non _ _ _ ⟨hxm, hos, by omega, hmk.wr hn⟩ (.inl ⟨rfl, _, _, _, rfl⟩)
  have hml := hmk.len
  refine ws_join (fun G' L' => ∃ mk x y z, G' = [some (.ptr bq), some (.ptr mq), some (.lst (encS xs)), some (.int (n : Nat)), some (.int (j : Int)), none, some (.lst (encS os)), some (.lst (encN ns)), some (.ptr c), some (.int kd), a10, a11, none] ∧ L' = (L.set bq (boxD x y z)).set c (.dct (encB mk)) ∧ MkOk n mk) (wo_ifB (et_eqI (ev_var 9) ev_int) (fun ht => ?_) fun hf => ws_nil ⟨mk, x, y, z, rfl, rfl, hmk⟩) ?_
  · refine ws_setkW (we_addI (ev_int.we ⟨1, rfl, we_take cTk (by decide) (n := 3) isb (by decide) (by decide) (ev_var 0) ev_int fun v x y z v0 v3 => ⟨v, rfl, ev_var 8, ?_⟩⟩))
    rw [sw]
    refine we_addI (ev_int.we ⟨2, rfl, we_take cTk (by decide) (n := 2 * (n : Int)) isb (by omega) (by omega) (ev_var 0) (ev_mul cmul2 ev_int (ev_var 3)) fun u x y z u0 u3 => ⟨u, rfl, ?_⟩⟩)
    rw [sw]
    refine ⟨_, .inl (2 + u), Sto.set_same, by rw [length_encB]; omega, kI, ws_nil ⟨putG mk (2 + u) (1 + v), x, y, z, rfl, ?_, hmk.put (by omega) (by omega)⟩⟩
    rw [Sto.set_set, putG_encB]
  rintro G' L' ⟨mk, x, y, z, rfl, rfl, hmk⟩
  refine ws_frzN 8 ncb ?_
  exact ws_ret ((ev_lst (ea_2 (ev_tup (ea_cons ev_str (ea_cons (ev_ix (atI_nat hxj) (.inl rfl) (ev_var 2) (ev_var 4)) (ea_2 (ev_var 6) (ev_var 8))))) ev_non)).we (fin mk x y z _ rfl hmk))
end
end FS
/-! text E17 -/
/-! E17: a history, read. -/
namespace FS
open PySem PySem.Spec PyProof.Rows L2
/-- what a history holds -/
structure Ht where
  kd : List Str
  par : List (List Nat)
  wr : List Bk
  bk : List Bk
def hFlds : List Str := ["rulebook", "_numbers", "_kinds", "_links", "_wrote", "_books"]
def hIns (C : Addr) (r x1 x2 x3 x4 x5 : D) : D := .ins C [("rulebook", r), ("_numbers", x1), ("_kinds", x2), ("_links", x3), ("_wrote", x4), ("_books", x5)]
/-- d is a history: a thing that stays, or cells -/
structure HAt (C : Addr) (L : Sto) (r d : D) (h : Ht) : Prop where
  ex : ∃ x1 x2 x3 x4 x5, Lk L d (hIns C r x1 x2 x3 x4 x5) ∧ Lk L x1 (.lst (encN (List.range h.par.length))) ∧ Lk L x2 (.lst (encS h.kd)) ∧ Lk L x3 (.lst (encLk h.par)) ∧ Lk L x4 (.lst (encW h.wr)) ∧ Lk L x5 (.lst (encW h.bk))
section
variable {B : Bg} {C : Addr}
abbrev mHc : Stmt := inClass (top 100) 2
theorem scMHc : FnScope ["self", "node"] ["self", "node"] (defScope mHc) := ⟨rfl, rfl, rfl, by decide +kernel, rfl, by decide +kernel, by decide +kernel⟩
def rMHc (C : Addr) : ASp := fun ds L post => ∃ x r h n, ds = [x, natD n] ∧ HAt C L r x h ∧ post (.bl (decide (n < h.par.length))) L
theorem ok_mhc {f : Addr} {fd : FuncData} (F : Fun B.K "__contains__" "History.__contains__" mHc f fd) (kl : Kla B C hFlds) : FnOk B.P B.w B.K B.mg B.base CX0 1 f fd ["self", "node"] (low (rMHc C)) := by
  refine ok_def F scMHc (fun ds L post ⟨_, _, _, _, h, _⟩ => by rw [h]; rfl) fun S hS ds L post ⟨x, r, h, n, e, ⟨x1, x2, x3, x4, x5, lx, l1, l2, l3, l4, l5⟩, hp⟩ => ?_
  subst e
  refine ws_ret ((ev_chain ev_int (ev_var 1) (ev_lenN l1 (ev_fld kl lx rfl (ev_var 0)))).we ?_)
  have e : (decide ((0 : Int) ≤ (n : Int)) && decide ((n : Int) < ((List.range h.par.length).length : Int))) = decide (n < h.par.length) := by
    rw [List.length_range, decide_eq_true (by omega : (0 : Int) ≤ (n : Int)), Bool.true_and]
    by_cases z : n < h.par.length <;> simp [z] <;> omega
  rw [e]; exact hp
abbrev mHk : Stmt := inClass (top 100) 4
theorem scMHk : FnScope ["self", "nodes", "node"] ["self", "nodes"] (defScope mHk) := ⟨rfl, rfl, rfl, by decide +kernel, rfl, by decide +kernel, by decide +kernel⟩
def rMHk (C : Addr) : ASp := fun ds L post => ∃ x r h ns, ds = [x, .lst (encN ns)] ∧ HAt C L r x h ∧ (∀ n ∈ ns, n < h.par.length) ∧ post .non L
theorem HAt.lk {L : Sto} {r d : D} {h : Ht} (a : HAt C L r d h) : ∃ fs, Lk L d (.ins C fs) := by
  obtain ⟨x1, x2, x3, x4, x5, lx, _⟩ := a.ex
  exact ⟨_, lx⟩
theorem ok_mhk {f : Addr} {fd : FuncData} (F : Fun B.K "check" "History.check" mHk f fd) (mc : Mcl B 1 C "__contains__" (rMHc C)) : FnOk B.P B.w B.K B.mg B.base CX0 2 f fd ["self", "nodes"] (low (rMHk C)) := by
  refine ok_def F scMHk (fun ds L post ⟨_, _, _, _, h, _⟩ => by rw [h]; rfl) fun S hS ds L post ⟨x, r, h, ns, e, ha, hn, hp⟩ => ?_
  subst e
  obtain ⟨fs, lx⟩ := ha.lk
  refine ws_for ((ei_list (ev_var 1)).wi (forW_inv (fun i G' L' => ∃ a, G' = [some x, some (.lst (encN ns)), a] ∧ L' = L) ⟨_, rfl, rfl⟩ ?_ ?_))
  · rintro i d G' L' hd ⟨a, rfl, rfl⟩
    obtain ⟨n, hnn, rfl⟩ := encN_get hd
    have hlt := hn n (List.mem_of_getElem? hnn)
    refine ⟨_, _, wg_name 2, ?_⟩
    exact ws_if (et_ninOwn (r := true) mc (by decide) lx (ev_var 2) (ev_var 0) ⟨x, r, h, n, rfl, ha, by rw [decide_eq_true hlt], rfl⟩) (fun z => absurd z (by decide)) fun _ => ws_nil (ws_nil ⟨_, rfl, rfl⟩)
  · rintro G' L' ⟨a, rfl, rfl⟩
    exact ws_nil hp
abbrev mHl : Stmt := inClass (top 100) 5
theorem scMHl : FnScope ["self"] ["self"] (defScope mHl) := ⟨rfl, rfl, rfl, by decide +kernel, rfl, by decide +kernel, by decide +kernel⟩
/-- links: the thing or the cell itself -/
def rMHl (C : Addr) : ASp := fun ds L post => ∃ x fs d, ds = [x] ∧ Lk L x (.ins C fs) ∧ fs.lookup ("_links" : Str) = some d ∧ post d L
theorem ok_mhl {f : Addr} {fd : FuncData} (F : Fun B.K "links" "History.links" mHl f fd) (kl : Kla B C hFlds) : FnOk B.P B.w B.K B.mg B.base CX0 1 f fd ["self"] (low (rMHl C)) := by
  refine ok_def F scMHl (fun ds L post ⟨_, _, _, h, _⟩ => by rw [h]; rfl) fun S hS ds L post ⟨x, fs, d, e, lx, hd, hp⟩ => ?_
  subst e
  exact ws_ret ((ev_fld kl lx hd (ev_var 0)).we hp)
abbrev mHw : Stmt := inClass (top 100) 6
theorem scMHw : FnScope ["self"] ["self"] (defScope mHw) := ⟨rfl, rfl, rfl, by decide +kernel, rfl, by decide +kernel, by decide +kernel⟩
def rMHw (C : Addr) : ASp := fun ds L post => ∃ x fs d, ds = [x] ∧ Lk L x (.ins C fs) ∧ fs.lookup ("_wrote" : Str) = some d ∧ post d L
theorem ok_mhw {f : Addr} {fd : FuncData} (F : Fun B.K "wrote" "History.wrote" mHw f fd) (kl : Kla B C hFlds) : FnOk B.P B.w B.K B.mg B.base CX0 1 f fd ["self"] (low (rMHw C)) := by
  refine ok_def F scMHw (fun ds L post ⟨_, _, _, h, _⟩ => by rw [h]; rfl) fun S hS ds L post ⟨x, fs, d, e, lx, hd, hp⟩ => ?_
  subst e
  exact ws_ret ((ev_fld kl lx hd (ev_var 0)).we hp)
abbrev mHn : Stmt := inClass (top 100) 7
theorem scMHn : FnScope ["self"] ["self"] (defScope mHn) := ⟨rfl, rfl, rfl, by decide +kernel, rfl, by decide +kernel, by decide +kernel⟩
def rMHn (C : Addr) : ASp := fun ds L post => ∃ x r h, ds = [x] ∧ HAt C L r x h ∧ post (natD h.par.length) L
theorem ok_mhn {f : Addr} {fd : FuncData} (F : Fun B.K "node_count" "History.node_count" mHn f fd) (kl : Kla B C hFlds) : FnOk B.P B.w B.K B.mg B.base CX0 1 f fd ["self"] (low (rMHn C)) := by
  refine ok_def F scMHn (fun ds L post ⟨_, _, _, h, _⟩ => by rw [h]; rfl) fun S hS ds L post ⟨x, r, h, e, ⟨x1, x2, x3, x4, x5, lx, l1, l2, l3, l4, l5⟩, hp⟩ => ?_
  subst e
  refine ws_ret ((ev_lenN l1 (ev_fld kl lx rfl (ev_var 0))).we ?_)
  rw [List.length_range]; exact hp
end
end FS
/-! text E18 -/
/-! E18: past, heads; a history grows. -/
namespace FS
open PySem PySem.Spec PyProof.Rows L2
section
variable {B : Bg} {C : Addr}
abbrev sPt : Stmt := top 74
theorem scSPt : FnScope ["history", "nodes"] ["history", "nodes"] (defScope sPt) := ⟨rfl, rfl, rfl, by decide +kernel, rfl, by decide +kernel, by decide +kernel⟩
def rPt (C : Addr) : ASp := fun ds L post => ∃ x r h ns, ds = [x, .lst (encN ns)] ∧ HAt C L r x h ∧ Gr h.par h.wr ∧ (∀ n ∈ ns, n < h.par.length) ∧ post (.lst (encN (pastL h.par ns))) L
theorem ok_spt {f : Addr} {fd : FuncData} (F : Fun B.K "past" "past" sPt f fd) (mk : Mcl B 2 C "check" (rMHk C)) (ml : Mcl B 1 C "links" (rMHl C)) (cPo : Cl B 1 "past_of" rPo) : FnOk B.P B.w B.K B.mg B.base CX0 3 f fd ["history", "nodes"] (low (rPt C)) := by
  refine ok_def F scSPt (fun ds L post ⟨_, _, _, _, h, _⟩ => by rw [h]; rfl) fun S hS ds L post ⟨x, r, h, ns, e, ha, g, hn, hp⟩ => ?_
  subst e
  obtain ⟨x1, x2, x3, x4, x5, lx, l1, l2, l3, l4, l5⟩ := ha.ex
  have hl := g.hl
  refine ws_expr ((ev_meth mk (by decide) lx (ev_var 0) (ea_1 (ev_var 1)) ⟨x, r, h, ns, rfl, ha, hn, rfl, rfl⟩).we ?_)
  exact ws_ret ((ev_call cPo (by decide) (ea_2 (ev_meth0 ml (by decide) lx (ev_var 0) ⟨x, _, x3, rfl, lx, rfl, rfl, rfl⟩) (ev_var 1)) ⟨h.par, ns, x3, _, rfl, l3, rfl, g.bk, hn, by omega, rfl, rfl⟩).we hp)
abbrev sHs : Stmt := top 75
theorem scSHs : FnScope ["history", "nodes", "place"] ["history", "nodes", "place"] (defScope sHs) := ⟨rfl, rfl, rfl, by decide +kernel, rfl, by decide +kernel, by decide +kernel⟩
def rHs (C : Addr) : ASp := fun ds L post => ∃ x r h ns p, ds = [x, .lst (encN ns), .int p] ∧ HAt C L r x h ∧ Gr h.par h.wr ∧ (∀ n ∈ ns, n < h.par.length) ∧ post (.lst (encN (headsL h.par h.wr (pastL h.par ns) p))) L
theorem ok_shs {f : Addr} {fd : FuncData} (F : Fun B.K "heads" "heads" sHs f fd) (mk : Mcl B 2 C "check" (rMHk C)) (ml : Mcl B 1 C "links" (rMHl C)) (mw : Mcl B 1 C "wrote" (rMHw C)) (cHo : Cl B 3 "heads_of" rHo) : FnOk B.P B.w B.K B.mg B.base CX0 4 f fd ["history", "nodes", "place"] (low (rHs C)) := by
  refine ok_def F scSHs (fun ds L post ⟨_, _, _, _, _, h, _⟩ => by rw [h]; rfl) fun S hS ds L post ⟨x, r, h, ns, p, e, ha, g, hn, hp⟩ => ?_
  subst e
  obtain ⟨x1, x2, x3, x4, x5, lx, l1, l2, l3, l4, l5⟩ := ha.ex
  refine ws_expr ((ev_meth mk (by decide) lx (ev_var 0) (ea_1 (ev_var 1)) ⟨x, r, h, ns, rfl, ha, hn, rfl, rfl⟩).we ?_)
  exact ws_ret ((ev_call cHo (by decide) (ea_cons (ev_meth0 ml (by decide) lx (ev_var 0) ⟨x, _, x3, rfl, lx, rfl, rfl, rfl⟩) (ea_cons (ev_meth0 mw (by decide) lx (ev_var 0) ⟨x, _, x4, rfl, lx, rfl, rfl, rfl⟩) (ea_2 (ev_var 1) (ev_var 2)))) ⟨h.par, h.wr, ns, x3, x4, p, rfl, l3, l4, g, hn, rfl, rfl⟩).we hp)
abbrev mHb : Stmt := inClass (top 100) 11
theorem scMHb : FnScope ["self", "node"] ["self", "node"] (defScope mHb) := ⟨rfl, rfl, rfl, by decide +kernel, rfl, by decide +kernel, by decide +kernel⟩
def rMHb (C : Addr) : ASp := fun ds L post => ∃ x r h n, ds = [x, natD n] ∧ HAt C L r x h ∧ n < h.par.length ∧ h.bk.length = h.par.length ∧ post (.dct (encB (wrB h.bk n))) L
theorem ok_mhb {f : Addr} {fd : FuncData} (F : Fun B.K "book" "History.book" mHb f fd) (kl : Kla B C hFlds) (mk : Mcl B 2 C "check" (rMHk C)) : FnOk B.P B.w B.K B.mg B.base CX0 3 f fd ["self", "node"] (low (rMHb C)) := by
  refine ok_def F scMHb (fun ds L post ⟨_, _, _, _, h, _⟩ => by rw [h]; rfl) fun S hS ds L post ⟨x, r, h, n, e, ha, hn, hb, hp⟩ => ?_
  subst e
  obtain ⟨x1, x2, x3, x4, x5, lx, l1, l2, l3, l4, l5⟩ := ha.ex
  refine ws_expr ((ev_meth mk (by decide) lx (ev_var 0) (ea_1 (ev_lst (ea_1 (ev_var 1)))) ⟨x, r, h, [n], rfl, ha, (fun k hk => by rw [List.mem_singleton.mp hk]; exact hn), rfl, rfl⟩).we ?_)
  exact ws_ret ((ev_dict (.inl rfl) (ev_ix (encW_at (ws := h.bk) (n := n) (by rw [hb]; exact hn)) l5 (ev_fld kl lx rfl (ev_var 0)) (ev_var 1))).we hp)
/-- a history in its own cells -/
structure HCl (C : Addr) (L : Sto) (q c1 c2 c3 c4 c5 : Addr) (r : D) (h : Ht) : Prop where
  ne : q ≠ c1 ∧ q ≠ c2 ∧ q ≠ c3 ∧ q ≠ c4 ∧ q ≠ c5
  nc : c1 ≠ c2 ∧ c1 ≠ c3 ∧ c1 ≠ c4 ∧ c1 ≠ c5 ∧ c2 ≠ c3 ∧ c2 ≠ c4 ∧ c2 ≠ c5 ∧ c3 ≠ c4 ∧ c3 ≠ c5 ∧ c4 ≠ c5
  hq : L q = some (hIns C r (.ptr c1) (.ptr c2) (.ptr c3) (.ptr c4) (.ptr c5))
  h1 : L c1 = some (.lst (encN (List.range h.par.length)))
  h2 : L c2 = some (.lst (encS h.kd))
  h3 : L c3 = some (.lst (encLk h.par))
  h4 : L c4 = some (.lst (encW h.wr))
  h5 : L c5 = some (.lst (encW h.bk))
theorem HCl.at_ {L : Sto} {q c1 c2 c3 c4 c5 : Addr} {r : D} {h : Ht} (a : HCl C L q c1 c2 c3 c4 c5 r h) : HAt C L r (.ptr q) h :=
  ⟨_, _, _, _, _, .inr ⟨_, rfl, a.hq⟩, .inr ⟨_, rfl, a.h1⟩, .inr ⟨_, rfl, a.h2⟩, .inr ⟨_, rfl, a.h3⟩, .inr ⟨_, rfl, a.h4⟩, .inr ⟨_, rfl, a.h5⟩⟩
def hput (L : Sto) (c1 c2 c3 c4 c5 : Addr) (h : Ht) : Sto := ((((L.set c1 (.lst (encN (List.range h.par.length)))).set c2 (.lst (encS h.kd))).set c3 (.lst (encLk h.par))).set c4 (.lst (encW h.wr))).set c5 (.lst (encW h.bk))
def hadd (h : Ht) (kd : Str) (ps : List Nat) (w b : Bk) : Ht := ⟨h.kd ++ [kd], h.par ++ [ps], h.wr ++ [w], h.bk ++ [b]⟩
theorem HCl.put {L : Sto} {q c1 c2 c3 c4 c5 : Addr} {r : D} {h h' : Ht} (a : HCl C L q c1 c2 c3 c4 c5 r h) : HCl C (hput L c1 c2 c3 c4 c5 h') q c1 c2 c3 c4 c5 r h' := by
  obtain ⟨⟨q1, q2, q3, q4, q5⟩, ⟨d12, d13, d14, d15, d23, d24, d25, d34, d35, d45⟩, hq, h1, h2, h3, h4, h5⟩ := a
  unfold hput
  exact ⟨⟨q1, q2, q3, q4, q5⟩, ⟨d12, d13, d14, d15, d23, d24, d25, d34, d35, d45⟩, by rw [Sto.set_ne q5, Sto.set_ne q4, Sto.set_ne q3, Sto.set_ne q2, Sto.set_ne q1]; exact hq,
    by rw [Sto.set_ne d15, Sto.set_ne d14, Sto.set_ne d13, Sto.set_ne d12]; exact Sto.set_same, by rw [Sto.set_ne d25, Sto.set_ne d24, Sto.set_ne d23]; exact Sto.set_same, by rw [Sto.set_ne d35, Sto.set_ne d34]; exact Sto.set_same, by rw [Sto.set_ne d45]; exact Sto.set_same, Sto.set_same⟩
abbrev mHa : Stmt := inClass (top 100) 1
theorem scMHa : FnScope ["self", "kind", "parents", "writes", "book", "node"] ["self", "kind", "parents", "writes", "book"] (defScope mHa) := ⟨rfl, rfl, rfl, by decide +kernel, rfl, by decide +kernel, by decide +kernel⟩
structure HOk (h : Ht) : Prop where
  kd : h.kd.length = h.par.length
  wr : h.wr.length = h.par.length
  bk : h.bk.length = h.par.length
  le : h.par.length ≤ 60
def rMHa (C : Addr) : ASp := fun ds L post => ∃ q c1 c2 c3 c4 c5 r h kd ps w b, ds = [.ptr q, .str kd, .lst (encN ps), .dct (encB w), .dct (encB b)] ∧ HCl C L q c1 c2 c3 c4 c5 r h ∧ HOk h ∧ post (natD h.par.length) (hput L c1 c2 c3 c4 c5 (hadd h kd ps w b))
theorem ok_mha {f : Addr} {fd : FuncData} (F : Fun B.K "_add" "History._add" mHa f fd) (kl : Kla B C hFlds) : FnOk B.P B.w B.K B.mg B.base CX0 1 f fd ["self", "kind", "parents", "writes", "book"] (low (rMHa C)) := by
  refine ok_def F scMHa (fun ds L post ⟨_, _, _, _, _, _, _, _, _, _, _, _, h, _⟩ => by rw [h]; rfl) fun S hS ds L post ⟨q, c1, c2, c3, c4, c5, r, h, kd, ps, w, b, e, hc, ok, hp⟩ => ?_
  subst e
  have hline : 1000 ≤ sizeLine := by decide
  have hle := ok.le
  have h1' := ok.kd
  have h2' := ok.wr
  have h3' := ok.bk
  obtain ⟨⟨q1, q2, q3, q4, q5⟩, ⟨d12, d13, d14, d15, d23, d24, d25, d34, d35, d45⟩, hq, h1, h2, h3, h4, h5⟩ := hc
  have fld : ∀ {L' : Sto}, L' q = some (hIns C r (.ptr c1) (.ptr c2) (.ptr c3) (.ptr c4) (.ptr c5)) → Lk L' (.ptr q) (hIns C r (.ptr c1) (.ptr c2) (.ptr c3) (.ptr c4) (.ptr c5)) := fun h => .inr ⟨_, rfl, h⟩
  refine ws_set 5 ((ev_lenN (.inr ⟨_, rfl, h1⟩) (ev_fld kl (fld hq) rfl (ev_var 0))).we ?_)
  rw [List.length_range]
  have e1 : encN (List.range h.par.length) ++ [natD h.par.length] = encN (List.range (hadd h kd ps w b).par.length) := by
    show _ = encN (List.range (h.par ++ [ps]).length)
    rw [List.length_append, List.length_singleton, List.range_succ]; unfold encN; rw [List.map_append]; rfl
  have e2 : encS h.kd ++ [.str kd] = encS (hadd h kd ps w b).kd := by show _ = encS (h.kd ++ [kd]); unfold encS; rw [List.map_append]; rfl
  refine ws_expr (we_append (ev_fld kl (fld hq) rfl (ev_var 0)) ((ev_var 5).we ⟨_, h1, by rw [encN_len, List.length_range]; omega, ?_⟩) ⟨_, h1⟩)
  rw [e1]
  have hq1 : ∀ {d}, (L.set c1 d) q = some (hIns C r (.ptr c1) (.ptr c2) (.ptr c3) (.ptr c4) (.ptr c5)) := fun {d} => by rw [Sto.set_ne q1]; exact hq
  have g2 : ∀ {d}, (L.set c1 d) c2 = some (.lst (encS h.kd)) := fun {d} => by rw [Sto.set_ne (Ne.symm d12)]; exact h2
  refine ws_expr (we_append (ev_fld kl (fld hq1) rfl (ev_var 0)) ((ev_var 1).we ⟨_, g2, by rw [encS_len]; omega, ?_⟩) ⟨_, g2⟩)
  rw [e2]
  have hq2 : ∀ {d d'}, ((L.set c1 d).set c2 d') q = some (hIns C r (.ptr c1) (.ptr c2) (.ptr c3) (.ptr c4) (.ptr c5)) := fun {d d'} => by rw [Sto.set_ne q2]; exact hq1
  have g3 : ∀ {d d'}, ((L.set c1 d).set c2 d') c3 = some (.lst (encLk h.par)) := fun {d d'} => by rw [Sto.set_ne (Ne.symm d23), Sto.set_ne (Ne.symm d13)]; exact h3
  refine ws_expr (we_append (ev_fld kl (fld hq2) rfl (ev_var 0)) ((ev_list (.inl rfl) (ev_var 2)).we ⟨_, g3, by rw [length_encLk]; omega, ?_⟩) ⟨_, g3⟩)
  rw [← encLk_snoc]
  have hq3 : ∀ {d d' d3}, (((L.set c1 d).set c2 d').set c3 d3) q = some (hIns C r (.ptr c1) (.ptr c2) (.ptr c3) (.ptr c4) (.ptr c5)) := fun {d d' d3} => by rw [Sto.set_ne q3]; exact hq2
  have g4 : ∀ {d d' d3}, (((L.set c1 d).set c2 d').set c3 d3) c4 = some (.lst (encW h.wr)) := fun {d d' d3} => by rw [Sto.set_ne (Ne.symm d34), Sto.set_ne (Ne.symm d24), Sto.set_ne (Ne.symm d14)]; exact h4
  refine ws_expr (we_append (ev_fld kl (fld hq3) rfl (ev_var 0)) ((ev_dict (.inl rfl) (ev_var 3)).we ⟨_, g4, by unfold encW; rw [List.length_map]; omega, ?_⟩) ⟨_, g4⟩)
  rw [← encW_snoc]
  have hq4 : ∀ {d d' d3 d4}, ((((L.set c1 d).set c2 d').set c3 d3).set c4 d4) q = some (hIns C r (.ptr c1) (.ptr c2) (.ptr c3) (.ptr c4) (.ptr c5)) := fun {d d' d3 d4} => by rw [Sto.set_ne q4]; exact hq3
  have g5 : ∀ {d d' d3 d4}, ((((L.set c1 d).set c2 d').set c3 d3).set c4 d4) c5 = some (.lst (encW h.bk)) := fun {d d' d3 d4} => by rw [Sto.set_ne (Ne.symm d45), Sto.set_ne (Ne.symm d35), Sto.set_ne (Ne.symm d25), Sto.set_ne (Ne.symm d15)]; exact h5
  refine ws_expr (we_append (ev_fld kl (fld hq4) rfl (ev_var 0)) ((ev_dict (.inl rfl) (ev_var 4)).we ⟨_, g5, by unfold encW; rw [List.length_map]; omega, ?_⟩) ⟨_, g5⟩)
  rw [← encW_snoc]
  exact ws_ret ((ev_var 5).we hp)
end
end FS
/-! text E19 -/
/-! E19: Apart. -/
namespace FS
open PySem PySem.Spec PyProof.Rows L2
theorem inV_int {ps : List Int} (h : ps.Nodup) : ∀ i v, (ps.map V.int)[i]? = some v → inV v ((ps.map V.int).take i) = false := by
  intro i v hv
  obtain ⟨p, hp, rfl⟩ := map_get hv
  rw [← List.map_take, inV_ints]
  refine decide_eq_false fun hx => ?_
  obtain ⟨j, hj⟩ := List.getElem?_of_mem hx
  have hji : j < i := by have := (List.getElem?_eq_some_iff.mp hj).1; rw [List.length_take] at this; omega
  rw [List.getElem?_take_of_lt hji] at hj
  obtain ⟨h1, h2⟩ := List.getElem?_eq_some_iff.mp hj
  obtain ⟨h3, h4⟩ := List.getElem?_eq_some_iff.mp hp
  have := (List.getElem_inj h).mp (h2.trans h4.symm); omega
section
variable {B : Bg} {C : Addr}
def aFlds : List Str := ["places", "width"]
/-- Apart over these places -/
def apD (C : Addr) (ps : List Int) (w : Int) : D := .ins C [("places", .tup (ps.map D.int)), ("width", .int w)]
abbrev mAi : Stmt := inClass (top 40) 0
theorem scMAi : FnScope ["self", "places"] ["self", "places"] (defScope mAi) := ⟨rfl, rfl, rfl, by decide +kernel, rfl, by decide +kernel, by decide +kernel⟩
def rMAi (C : Addr) : ASp := fun ds L post => ∃ q ps, ds = [.ptr q, .lst (ps.map D.int)] ∧ ps.Nodup ∧ L q = some (.ins C []) ∧ ∀ w, post .non (L.set q (apD C ps w))
theorem ok_mai {f : Addr} {fd : FuncData} (F : Fun B.K "__init__" "Apart.__init__" mAi f fd) (kl : Kla B C aFlds) (cDi : Cl B 2 "distinct" rDi) : FnOk B.P B.w B.K B.mg B.base CX0 3 f fd ["self", "places"] (low (rMAi C)) := by
  refine ok_def F scMAi (fun ds L post ⟨_, _, h, _⟩ => by rw [h]; rfl) fun S hS ds L post ⟨q, ps, e, nd, hq, hp⟩ => ?_
  subst e
  refine ws_fld kl ((ev_call cDi (by decide) (ea_1 (ev_var 1)) ⟨_, _, rfl, fls_ints ps, inV_int nd, rfl, rfl⟩).we ⟨[], hq, by simp, ev_var 0, ?_⟩)
  have h1 : (L.set q (.ins C (putFD ("places" : Str) (.tup (ps.map D.int)) []))) q = some (.ins C [("places", .tup (ps.map D.int))]) := Sto.set_same
  refine ws_fld kl (we_if (et_gt (ev_lenT (ev_fld kl (.inr ⟨_, rfl, h1⟩) rfl (ev_var 0))) ev_int) (fun ht => ev_int.we ⟨_, h1, by simp, ev_var 0, ?_⟩) fun hf => ev_int.we ⟨_, h1, by simp, ev_var 0, ?_⟩)
  · rw [Sto.set_set]; exact ws_nil (hp 2)
  · rw [Sto.set_set]; exact ws_nil (hp 0)
end
end FS
/-! text E20 -/
/-! E20: Apart's bars. -/
namespace FS
open PySem PySem.Spec PyProof.Rows L2
def encPr (m : (Int × Int) × (Int × Int)) : D := .tup [encM m.1, encM m.2]
/-- the pairs of marks of one value, in order -/
def barsAt (ms : List (Int × Int)) (i : Nat) (m : Int × Int) : List ((Int × Int) × (Int × Int)) := ((ms.drop (i + 1)).filter fun x => decide (m.2 = x.2)).map fun x => (m, x)
def barsA (ms : List (Int × Int)) : List ((Int × Int) × (Int × Int)) := ms.zipIdx.flatMap fun p => barsAt ms p.2 p.1
section
variable {B : Bg} {C : Addr}
abbrev mAb : Stmt := inClass (top 40) 2
theorem scMAb : FnScope ["self", "book", "marks", "one", "two", "position"] ["self", "book"] (defScope mAb) := ⟨rfl, rfl, rfl, by decide +kernel, rfl, by decide +kernel, by decide +kernel⟩
def rMAb (C : Addr) : ASp := fun ds L post => ∃ x y ps w b, ds = [x, y] ∧ Lk L x (apD C ps w) ∧ Lk L y (.dct (encB b)) ∧ Few ps ∧ ps.length ≤ 10 ∧ (barsA (filled b ps)).length ≤ 1000 ∧ post (.lst ((barsA (filled b ps)).map encPr)) L
def onE (f : Nat → Int × Int → List D) : D → List D
  | .tup [.int i, .tup [.int p, .int v]] => f i.toNat (p, v)
  | _ => []
def onM (f : Int × Int → Option D) : D → Option D
  | .tup [.int p, .int v] => f (p, v)
  | _ => none
theorem bars_fm {m : Int × Int} : ∀ xs : List (Int × Int), ((xs.filter fun x => decide (m.2 = x.2)).map fun x => (m, x)).map encPr = (xs.map encM).filterMap (onM fun x => if m.2 = x.2 then some (encPr (m, x)) else none)
  | [] => rfl
  | x :: xs => by
    have ih := bars_fm (m := m) xs
    rw [List.map_cons, List.filterMap_cons, List.filter_cons]
    rw [show onM (fun x => if m.2 = x.2 then some (encPr (m, x)) else none) (encM x) = (if m.2 = x.2 then some (encPr (m, x)) else none) from rfl]
    by_cases z : m.2 = x.2
    · rw [if_pos z, if_pos (by simpa using z)]
      simp only [List.map_cons]; rw [ih]
    · rw [if_neg z, if_neg (by simpa using z)]; exact ih
theorem ok_mab {f : Addr} {fd : FuncData} (F : Fun B.K "bars_in" "Apart.bars_in" mAb f fd) (kl : Kla B C aFlds) (cFm : Cl B 2 "filled_marks" rFm) : FnOk B.P B.w B.K B.mg B.base CX0 3 f fd ["self", "book"] (low (rMAb C)) := by
  refine ok_def F scMAb (fun ds L post ⟨_, _, _, _, _, h, _⟩ => by rw [h]; rfl) fun S hS ds L post ⟨x, y, ps, w, b, e, lx, ly, fw, hpl, hbl, hp⟩ => ?_
  subst e
  have hline : 1000 ≤ sizeLine := by decide
  refine ws_setC hS 2 ((ev_call cFm (by decide) (ea_2 (ev_var 1) (ev_fld kl lx rfl (ev_var 0))) ⟨b, y, _, ps, rfl, ly, .inr rfl, fw, rfl, rfl⟩).we ?_)
  generalize hms : filled b ps = ms at *
  refine ws_ret fun σ H A Q c => ?_
  have e1 : (enumD (ms.map encM)).flatMap (onE fun i m => (barsAt ms i m).map encPr) = (barsA ms).map encPr := by
    unfold enumD barsA
    rw [List.zipIdx_map, List.map_map, List.flatMap_map, List.map_flatMap]
    rfl
  refine we_lc2At (own := [("one", 3), ("two", 4), ("position", 5)]) (vs1 := [4]) (ds := enumD (ms.map encM)) (f := onE fun i m => (barsAt ms i m).map encPr) ((show Ei false S _ L _ _ _ from ei_enum (ds := ms.map encM) (fun z => nomatch z) (.inl rfl) (ev_var 2)) σ H A) (by rw [e1, List.length_map]; omega) (fun d hd => ?_) ?_
  · obtain ⟨i, hi⟩ := List.getElem?_of_mem hd
    obtain ⟨z, hz, rfl⟩ := enumD_get hi
    obtain ⟨m, hm, rfl⟩ := map_get hz
    refine ⟨_, _, wg_pair 5 3, by decide, fun p => wts_nil ⟨rfl, .inr ⟨rfl, (ms.drop (i + 1)).map encM, onM fun x => if m.2 = x.2 then some (encPr (m, x)) else none, ?_, fun np σ' H' A' kk' => ?_, fun e he => ?_⟩⟩⟩
    · show (barsAt ms ((i : Int)).toNat m).map encPr = _
      rw [Int.toNat_natCast]
      unfold barsAt
      exact bars_fm _
    · have e2 : cutG (ms.map encM) (some ((i : Int) + 1)) none = (ms.drop (i + 1)).map encM := by
        rw [show ((i : Int) + 1) = ((i + 1 : Nat) : Int) by omega, cutG_from (by rw [List.length_map]; have := (List.getElem?_eq_some_iff.mp hm).1; omega), List.map_drop]
      exact (show Ei false (S.blk _) _ (L.prot p) _ _ ((ms.drop (i + 1)).map encM) from e2 ▸ ei_list (ev_slice (.inl rfl) (ev_var 2) (eo_some (ev_add (ev_var 5) ev_int)) eo_none)) σ' H' A'
    · obtain ⟨x, hx, rfl⟩ := List.mem_map.mp he
      refine ⟨_, _, wg_name 4, by decide, wts_one ((et_eqI (ev_ixT (atI_nat (j := 1) rfl) (ev_var 3) ev_int) (ev_ixT (atI_nat (j := 1) rfl) (ev_var 4) ev_int)).wt ⟨rfl, ?_⟩)⟩
      by_cases z : m.2 = x.2
      · exact .inr ⟨decide_eq_true z, _, ev_tup (ea_2 (ev_var 3) (ev_var 4)), if_pos z⟩
      · exact .inl ⟨decide_eq_false z, if_neg z⟩
  · rw [e1]
    exact fun d L' v H' ⟨h1, h2⟩ kp so r => c d L' v H' (by subst h1; subst h2; exact hp) kp so r
end
end FS
/-! text E21 -/
/-! E21: Apart's reason. -/
namespace FS
open PySem PySem.Spec PyProof.Rows L2
section
variable {B : Bg} {C : Addr}
abbrev mAr : Stmt := inClass (top 40) 3
theorem scMAr : FnScope ["self", "book"] ["self", "book"] (defScope mAr) := ⟨rfl, rfl, rfl, by decide +kernel, rfl, by decide +kernel, by decide +kernel⟩
def encPrO : Option ((Int × Int) × (Int × Int)) → D
  | none => .non
  | some r => encPr r
def rMAr (C : Addr) : ASp := fun ds L post => ∃ x y ps w b, ds = [x, y] ∧ Lk L x (apD C ps w) ∧ Lk L y (.dct (encB b)) ∧ Few ps ∧ ps.length ≤ 10 ∧ (barsA (filled b ps)).length ≤ 1000 ∧ post (encPrO (barsA (filled b ps)).head?) L
theorem ok_mar {f : Addr} {fd : FuncData} (F : Fun B.K "reason" "Apart.reason" mAr f fd) (mb : Mcl B 3 C "bars_in" (rMAb C)) (cFo : Cl B 1 "first_of" rFo) : FnOk B.P B.w B.K B.mg B.base CX0 4 f fd ["self", "book"] (low (rMAr C)) := by
  refine ok_def F scMAr (fun ds L post ⟨_, _, _, _, _, h, _⟩ => by rw [h]; rfl) fun S hS ds L post ⟨x, y, ps, w, b, e, lx, ly, fw, hpl, hbl, hp⟩ => ?_
  subst e
  have e : ((barsA (filled b ps)).map encPr).head?.getD .non = encPrO (barsA (filled b ps)).head? := by cases barsA (filled b ps) <;> rfl
  rw [← e] at hp
  exact ws_ret ((ev_call cFo (by decide) (ea_1 (ev_meth mb (by decide) lx (ev_var 0) (ea_1 (ev_var 1)) ⟨x, y, ps, w, b, rfl, lx, ly, fw, hpl, hbl, rfl, rfl⟩)) ⟨_, _, rfl, .inl rfl, rfl, rfl⟩).we hp)
end
end FS
/-! text E22 -/
/-! E22: the desk's state. -/
namespace FS
open PySem PySem.Spec PyProof.Rows L2
section
variable {B : Bg} {C : Addr}
def sFlds : List Str := ["_history", "_tips", "_kept", "_texts"]
def stD (C : Addr) (h : D) (t : Tps) (k : D) (xs : List D) : D := .ins C [("_history", h), ("_tips", .dct (encT t)), ("_kept", k), ("_texts", .lst xs)]
abbrev mSi : Stmt := inClass (top 98) 0
theorem scMSi : FnScope ["self", "history", "tips", "kept", "texts"] ["self", "history", "tips", "kept", "texts"] (defScope mSi) := ⟨rfl, rfl, rfl, by decide +kernel, rfl, by decide +kernel, by decide +kernel⟩
def rMSi (C : Addr) : ASp := fun ds L post => ∃ q h t k xs, ds = [.ptr q, h, .dct (encT t), k, .lst xs] ∧ L q = some (.ins C []) ∧ post .non (L.set q (stD C h t k xs))
theorem ok_msi {f : Addr} {fd : FuncData} (F : Fun B.K "__init__" "DeskState.__init__" mSi f fd) (kl : Kla B C sFlds) : FnOk B.P B.w B.K B.mg B.base CX0 1 f fd ["self", "history", "tips", "kept", "texts"] (low (rMSi C)) := by
  refine ok_def F scMSi (fun ds L post ⟨_, _, _, _, _, h, _⟩ => by rw [h]; rfl) fun S hS ds L post ⟨q, h, t, k, xs, e, hq, hp⟩ => ?_
  subst e
  refine ws_fld kl ((ev_var 1).we ⟨[], hq, by simp, ev_var 0, ?_⟩)
  refine ws_fld kl ((ev_dict (.inl rfl) (ev_var 2)).we ⟨_, Sto.set_same, by show (1 : Nat) < 1000; omega, ev_var 0, ?_⟩)
  rw [Sto.set_set]
  refine ws_fld kl ((ev_var 3).we ⟨_, Sto.set_same, by show (2 : Nat) < 1000; omega, ev_var 0, ?_⟩)
  rw [Sto.set_set]
  refine ws_fld kl ((ev_list (.inl rfl) (ev_var 4)).we ⟨_, Sto.set_same, by show (3 : Nat) < 1000; omega, ev_var 0, ?_⟩)
  rw [Sto.set_set]
  exact ws_nil hp
abbrev mSt : Stmt := inClass (top 98) 2
theorem scMSt : FnScope ["self", "name"] ["self", "name"] (defScope mSt) := ⟨rfl, rfl, rfl, by decide +kernel, rfl, by decide +kernel, by decide +kernel⟩
def rMSt (C : Addr) : ASp := fun ds L post => ∃ x h t k xs n, ds = [x, .str n] ∧ Lk L x (stD C h t k xs) ∧ n ∈ t.map (·.1) ∧ post (natD (tipOf t n)) L
theorem tip_some {t : Tps} {x : Str} (h : x ∈ t.map (·.1)) : (valG (encT t) (.inr x)).isSome = true := by rw [tip_at h]; rfl
theorem ok_mst {f : Addr} {fd : FuncData} (F : Fun B.K "tip_of" "DeskState.tip_of" mSt f fd) (kl : Kla B C sFlds) : FnOk B.P B.w B.K B.mg B.base CX0 1 f fd ["self", "name"] (low (rMSt C)) := by
  refine ok_def F scMSt (fun ds L post ⟨_, _, _, _, _, _, h, _⟩ => by rw [h]; rfl) fun S hS ds L post ⟨x, h, t, k, xs, n, e, lx, hn, hp⟩ => ?_
  subst e
  refine ws_if (et_dnin (kvs := encT t) kS (.inl rfl) (ev_var 1) (ev_fld kl lx rfl (ev_var 0))) (fun z => by rw [tip_some hn] at z; cases z) fun _ => ws_nil ?_
  exact ws_ret ((ev_dgetS (tip_at hn) (.inl rfl) (ev_fld kl lx rfl (ev_var 0)) (ev_var 1)).we hp)
abbrev mSm : Stmt := inClass (top 98) 9
theorem scMSm : FnScope ["self", "history", "name", "node", "tips"] ["self", "history", "name", "node"] (defScope mSm) := ⟨rfl, rfl, rfl, by decide +kernel, rfl, by decide +kernel, by decide +kernel⟩
end
end FS
/-! text E23 -/
/-! E23: a desk's state moves on. -/
namespace FS
open PySem PySem.Spec PyProof.Rows L2
section
variable {B : Bg} {C : Addr}
def rMSm (C : Addr) : ASp := fun ds L post => ∃ x h t k xs h' n v, ds = [x, h', .str n, natD v] ∧ Lk L x (stD C h t k xs) ∧ t.length ≤ 20 ∧ ∀ q, L q = none → post (.ptr q) (L.set q (stD C h' (putG t n v) k xs))
theorem ok_msm {f : Addr} {fd : FuncData} (F : Fun B.K "moved" "DeskState.moved" mSm f fd) (kl : Kla B C sFlds) (mk : Kcl B 1 "DeskState" C (rMSi C)) : FnOk B.P B.w B.K B.mg B.base CX0 3 f fd ["self", "history", "name", "node"] (low (rMSm C)) := by
  refine ok_def F scMSm (fun ds L post ⟨_, _, _, _, _, _, _, _, h, _⟩ => by rw [h]; rfl) fun S hS ds L post ⟨x, h, t, k, xs, h', n, v, e, lx, ht, hp⟩ => ?_
  subst e
  have hline : 1000 ≤ sizeLine := by decide
  refine ws_set 4 (we_dictC (.inl rfl) (ev_fld kl lx rfl (ev_var 0)) fun p np => ?_)
  refine ws_setk ((ev_var 3).we ⟨_, .str n, .inr n, Sto.set_same, by unfold encT; rw [List.length_map]; omega, ev_var 4, ev_var 2, kS, ?_⟩)
  rw [Sto.set_set, putG_encT]
  refine ws_frzN 4 np ?_
  exact ws_ret (we_make mk (by decide) ((ea_cons (ev_var 1) (ea_cons (ev_var 4) (ea_2 (ev_fld kl lx rfl (ev_var 0)) (ev_fld kl lx rfl (ev_var 0))))).wa fun q nq => ⟨q, h', putG t n v, k, xs, rfl, Sto.set_same, rfl, by rw [Sto.set_set]; exact hp q nq⟩))
abbrev mSx : Stmt := inClass (top 98) 8
theorem scMSx : FnScope ["self", "text"] ["self", "text"] (defScope mSx) := ⟨rfl, rfl, rfl, by decide +kernel, rfl, by decide +kernel, by decide +kernel⟩
def rMSx (C : Addr) : ASp := fun ds L post => ∃ x h t k xs d, ds = [x, d] ∧ Lk L x (stD C h t k xs) ∧ xs.length ≤ 900 ∧ ∀ q, L q = none → post (.ptr q) (L.set q (stD C h t k (xs ++ [d])))
theorem ok_msx {f : Addr} {fd : FuncData} (F : Fun B.K "with_text" "DeskState.with_text" mSx f fd) (kl : Kla B C sFlds) (mk : Kcl B 1 "DeskState" C (rMSi C)) : FnOk B.P B.w B.K B.mg B.base CX0 3 f fd ["self", "text"] (low (rMSx C)) := by
  refine ok_def F scMSx (fun ds L post ⟨_, _, _, _, _, _, h, _⟩ => by rw [h]; rfl) fun S hS ds L post ⟨x, h, t, k, xs, d, e, lx, hx, hp⟩ => ?_
  subst e
  have hline : 1000 ≤ sizeLine := by decide
  refine ws_ret (we_make mk (by decide) ((ea_cons (ev_fld kl lx rfl (ev_var 0)) (ea_cons (ev_fld kl lx rfl (ev_var 0)) (ea_2 (ev_fld kl lx rfl (ev_var 0)) (d' := .lst (xs ++ [d])) (we_lst (wa_star (.inl rfl) (ev_fld kl lx rfl (ev_var 0)) ((ea_1 (ev_var 1)).wa ⟨?_, rfl, rfl⟩)))))).wa fun q nq => ⟨q, h, t, k, xs ++ [d], rfl, Sto.set_same, by rw [Sto.set_set]; exact ⟨rfl, hp q nq⟩⟩))
  rw [List.length_append, List.length_singleton]; omega
end
end FS
/-! text E24 -/
/-! E24: answers; a history begins. -/
namespace FS
open PySem PySem.Spec PyProof.Rows L2
section
variable {B : Bg} {C : Addr}
abbrev mNi : Stmt := inClass (top 54) 0
theorem scMNi : FnScope ["self"] ["self"] (defScope mNi) := ⟨rfl, rfl, rfl, by decide +kernel, rfl, by decide +kernel, by decide +kernel⟩
def anD (C : Addr) : D := .ins C [("_rows", .lst [])]
def rMNi (C : Addr) : ASp := fun ds L post => ∃ q, ds = [.ptr q] ∧ L q = some (.ins C []) ∧ post .non (L.set q (anD C))
theorem ok_mni {f : Addr} {fd : FuncData} (F : Fun B.K "__init__" "Answers.__init__" mNi f fd) (kl : Kla B C ["_rows"]) : FnOk B.P B.w B.K B.mg B.base CX0 1 f fd ["self"] (low (rMNi C)) := by
  refine ok_def F scMNi (fun ds L post ⟨_, h, _⟩ => by rw [h]; rfl) fun S hS ds L post ⟨q, e, hq, hp⟩ => ?_
  subst e
  exact ws_fld kl ((ev_lst ea_nil).we ⟨[], hq, by simp, ev_var 0, ws_nil hp⟩)
abbrev mSb : Stmt := inClass (top 98) 3
theorem scMSb : FnScope ["self", "name"] ["self", "name"] (defScope mSb) := ⟨rfl, rfl, rfl, by decide +kernel, rfl, by decide +kernel, by decide +kernel⟩
/-- book_of: the book of the tip -/
def rMSb (C CH : Addr) : ASp := fun ds L post => ∃ x hd r h t k xs n, ds = [x, .str n] ∧ Lk L x (stD C hd t k xs) ∧ HAt CH L r hd h ∧ n ∈ t.map (·.1) ∧ tipOf t n < h.par.length ∧ h.bk.length = h.par.length ∧ post (.dct (encB (wrB h.bk (tipOf t n)))) L
theorem ok_msb {CH : Addr} {f : Addr} {fd : FuncData} (F : Fun B.K "book_of" "DeskState.book_of" mSb f fd) (kl : Kla B C sFlds) (mt : Mcl B 1 C "tip_of" (rMSt C)) (mb : Mcl B 3 CH "book" (rMHb CH)) : FnOk B.P B.w B.K B.mg B.base CX0 4 f fd ["self", "name"] (low (rMSb C CH)) := by
  refine ok_def F scMSb (fun ds L post ⟨_, _, _, _, _, _, _, _, h, _⟩ => by rw [h]; rfl) fun S hS ds L post ⟨x, hd, r, h, t, k, xs, n, e, lx, ha, hn, hlt, hbl, hp⟩ => ?_
  subst e
  obtain ⟨x1, x2, x3, x4, x5, lh, l1, l2, l3, l4, l5⟩ := ha.ex
  exact ws_ret ((ev_meth mb (by decide) lh (ev_fld kl lx rfl (ev_var 0)) (ea_1 (ev_meth mt (by decide) lx (ev_var 0) (ea_1 (ev_var 1)) ⟨x, hd, t, k, xs, n, rfl, lx, hn, rfl, rfl⟩)) ⟨hd, r, h, tipOf t n, rfl, ha, hlt, hbl, rfl, rfl⟩).we hp)
end
end FS
/-! text M1 -/
/-! M1: heads are never empty. -/
namespace FS
open PySem PySem.Spec PyProof.Rows L2
theorem max_ex : ∀ (l : List Nat), l ≠ [] → ∃ k ∈ l, ∀ x ∈ l, x ≤ k
  | [], h => absurd rfl h
  | [a], _ => ⟨a, List.mem_cons_self, fun x hx => by rw [List.mem_singleton.mp hx]; exact Nat.le_refl _⟩
  | a :: b :: l, _ => by
    obtain ⟨k, hk, hm⟩ := max_ex (b :: l) (by simp)
    by_cases e : a ≤ k
    · refine ⟨k, List.mem_cons_of_mem _ hk, fun x hx => ?_⟩
      rcases List.mem_cons.mp hx with rfl | hx
      · exact e
      · exact hm x hx
    · refine ⟨a, List.mem_cons_self, fun x hx => ?_⟩
      rcases List.mem_cons.mp hx with rfl | hx
      · exact Nat.le_refl _
      · have := hm x hx; omega
theorem dd_keep {v : Int} : ∀ {vs acc : List Int}, v ∈ acc ∨ v ∈ vs → v ∈ (vs.foldl (fun acc v => if v ∈ acc then acc else acc ++ [v]) acc)
  | [], acc, h => by rcases h with h | h; exact h; cases h
  | x :: vs, acc, h => by
    rw [List.foldl_cons]
    refine dd_keep ?_
    rcases h with h | h
    · left; split
      · exact h
      · exact List.mem_append_left _ h
    · rcases List.mem_cons.mp h with rfl | h
      · left; split
        · assumption
        · exact List.mem_append_right _ List.mem_cons_self
      · exact .inr h
theorem found_ne {m : Wd} (z : ∀ n, n < m.par.length → 0 ∈ inn m n) (le : ∀ n k, k ∈ inn m n → k ≤ n) {ns : List Nat} {p : Int} (hn : ns ≠ []) (hlt : ∀ k ∈ ns, k < m.par.length) : lawFound m ns p ≠ [] := by
  obtain ⟨n0, hn0⟩ := List.exists_mem_of_ne_nil ns hn
  have hl := hlt n0 hn0
  have w0 : 0 ∈ lawWriters m ns p := by
    unfold lawWriters lawPast
    refine List.mem_filter.mpr ⟨List.mem_filter.mpr ⟨List.mem_range.mpr (by omega), ?_⟩, rfl⟩
    refine decide_eq_true (List.length_pos_of_mem (List.mem_filter.mpr ⟨hn0, decide_eq_true (z n0 hl)⟩))
  obtain ⟨k, hk, hm⟩ := max_ex _ (List.ne_nil_of_mem w0)
  have hh : k ∈ lawHeads m ns p := by
    unfold lawHeads
    refine List.mem_filter.mpr ⟨hk, decide_eq_true ?_⟩
    rw [List.length_eq_zero_iff, List.filter_eq_nil_iff]
    intro n hnm
    have h1 := hm n hnm
    rw [Bool.and_eq_true, Bool.not_eq_true', decide_eq_false_iff_not, decide_eq_true_eq]
    rintro ⟨h2, h3⟩
    have := le n k h3
    omega
  have hv : getB (wrB m.wr k) p ∈ lawFound m ns p := by
    unfold lawFound
    rw [sortI_mem]
    exact dd_keep (.inr (List.mem_map.mpr ⟨k, hh, rfl⟩))
  exact List.ne_nil_of_mem hv
end FS
/-! text M2 -/
/-! M2: a world that grows keeps its shape. -/
namespace FS
open PySem PySem.Spec PyProof.Rows L2
theorem sortN_mem {ns : List Nat} {k : Nat} : k ∈ sortN ns ↔ k ∈ ns := (List.mergeSort_perm ns _).mem_iff
theorem sortN_len {ns : List Nat} : (sortN ns).length = ns.length := (List.mergeSort_perm ns _).length_eq
theorem WdOk.add {m : Wd} (h : WdOk m) (hl : m.par.length < 60) {ps : List Nat} {w b : Bk} : WdOk (addM m ps w b) := by
  have h1 := h.inn; have h2 := h.wr; have h3 := h.bk
  unfold addM
  exact ⟨by simp [h1], by simp [h2], by simp [h3], by simp; omega⟩
theorem inn_old {m : Wd} (h : WdOk m) {ps : List Nat} {w b : Bk} {n : Nat} (hn : n < m.par.length) : inn (addM m ps w b) n = inn m n := by
  unfold inn addM
  rw [List.getElem?_append_left (by rw [h.inn]; exact hn)]
theorem inn_new {m : Wd} (h : WdOk m) {ps : List Nat} {w b : Bk} : inn (addM m ps w b) m.par.length = sortN (insL m ps) := by
  unfold inn addM
  rw [List.getElem?_append_right (by rw [h.inn]; exact Nat.le_refl _), h.inn, Nat.sub_self]; rfl
/-- what is behind a new node: itself and what is behind its parents -/
theorem insL_mem {m : Wd} {ps : List Nat} {k : Nat} : k ∈ insL m ps ↔ k = m.par.length ∨ ∃ p ∈ ps, k ∈ inn m p := by
  have gen : ∀ (ps acc : List Nat), k ∈ (ps.foldl (fun acc p => acc ++ (inn m p).filter (fun k => !decide (k ∈ acc))) acc) ↔ k ∈ acc ∨ ∃ p ∈ ps, k ∈ inn m p := by
    intro ps
    induction ps with
    | nil => intro acc; simp
    | cons p ps ih =>
      intro acc
      rw [List.foldl_cons, ih]
      constructor
      · rintro (h | ⟨q, hq, h⟩)
        · rcases List.mem_append.mp h with h | h
          · exact .inl h
          · exact .inr ⟨p, List.mem_cons_self, (List.mem_filter.mp h).1⟩
        · exact .inr ⟨q, List.mem_cons_of_mem _ hq, h⟩
      · rintro (h | ⟨q, hq, h⟩)
        · exact .inl (List.mem_append_left _ h)
        · rcases List.mem_cons.mp hq with rfl | hq
          · by_cases e : k ∈ acc
            · exact .inl (List.mem_append_left _ e)
            · exact .inl (List.mem_append_right _ (List.mem_filter.mpr ⟨h, by rw [decide_eq_false e]; rfl⟩))
          · exact .inr ⟨q, hq, h⟩
  unfold insL
  rw [gen, List.mem_singleton]
theorem insL_nd {m : Wd} (hi : ∀ p, (inn m p).Nodup) {ps : List Nat} : (insL m ps).Nodup := by
  have gen : ∀ (ps acc : List Nat), acc.Nodup → (ps.foldl (fun acc p => acc ++ (inn m p).filter (fun k => !decide (k ∈ acc))) acc).Nodup := by
    intro ps
    induction ps with
    | nil => intro acc h; exact h
    | cons p ps ih =>
      intro acc h
      rw [List.foldl_cons]
      refine ih _ (List.nodup_append.mpr ⟨h, (hi p).sublist List.filter_sublist, fun a ha b hb e => ?_⟩)
      subst e
      have := (List.mem_filter.mp hb).2
      rw [decide_eq_true ha] at this; cases this
  exact gen ps _ (by simp)
end FS
/-! text M3 -/
/-! M3: what holds of the law's world at all times. -/
namespace FS
open PySem PySem.Spec PyProof.Rows L2
structure LwI (m : Wd) : Prop where
  ok : WdOk m
  pl : ∀ (n : Nat) (ps : List Nat), m.par[n]? = some ps → ∀ p ∈ ps, p < n
  ine : ∀ (n : Nat) (ps : List Nat), m.par[n]? = some ps → ∀ k, k ∈ inn m n ↔ k = n ∨ ∃ p ∈ ps, k ∈ inn m p
  out : ∀ n, m.par.length ≤ n → inn m n = []
  nd : ∀ n, (inn m n).Nodup
  z : ∀ n, n < m.par.length → 0 ∈ inn m n
  le : ∀ n k, k ∈ inn m n → k ≤ n
theorem LwI.il {m : Wd} (h : LwI m) (n : Nat) : (inn m n).length ≤ 60 := by
  by_cases hn : n < m.par.length
  · have h1 := nodup_len (ns := List.range m.par.length) (h.nd n) fun k hk => List.mem_range.mpr (by have := h.le n k hk; omega)
    have h3 := h.ok.le
    rw [List.length_range] at h1; omega
  · rw [h.out n (by omega)]; exact Nat.zero_le _
theorem LwI.ne {m : Wd} (h : LwI m) {ns : List Nat} {p : Int} (hn : ns ≠ []) (hlt : ∀ k ∈ ns, k < m.par.length) : lawFound m ns p ≠ [] := found_ne h.z h.le hn hlt
end FS
/-! text M4 -/
/-! M4: the invariant is kept. -/
namespace FS
open PySem PySem.Spec PyProof.Rows L2
theorem par_add {m : Wd} {ps : List Nat} {w b : Bk} {n : Nat} {qs : List Nat} (h : (addM m ps w b).par[n]? = some qs) : (n < m.par.length ∧ m.par[n]? = some qs) ∨ (n = m.par.length ∧ qs = ps) := by
  unfold addM at h
  by_cases e : n < m.par.length
  · exact .inl ⟨e, by rwa [List.getElem?_append_left e] at h⟩
  · rw [List.getElem?_append_right (by omega)] at h
    have h1 := (List.getElem?_eq_some_iff.mp h).1
    simp at h1
    have e2 : n = m.par.length := by omega
    subst e2
    rw [Nat.sub_self] at h
    cases h
    exact .inr ⟨rfl, rfl⟩
theorem LwI.add {m : Wd} (h : LwI m) (hl : m.par.length < 60) {ps : List Nat} {w b : Bk} (hne : ps ≠ []) (hp : ∀ p ∈ ps, p < m.par.length) : LwI (addM m ps w b) := by
  have len : (addM m ps w b).par.length = m.par.length + 1 := by unfold addM; simp
  have old : ∀ {n}, n < m.par.length → inn (addM m ps w b) n = inn m n := fun hn => inn_old h.ok hn
  have new : inn (addM m ps w b) m.par.length = sortN (insL m ps) := inn_new h.ok
  have big : ∀ n, m.par.length < n → inn (addM m ps w b) n = [] := fun n hn => by
    unfold inn addM
    rw [List.getElem?_eq_none (by rw [List.length_append, h.ok.inn, List.length_singleton]; omega)]; rfl
  refine ⟨h.ok.add hl, fun n qs hq p hpq => ?_, fun n qs hq k => ?_, fun n hn => big n (by omega), fun n => ?_, fun n hn => ?_, fun n k hk => ?_⟩
  · rcases par_add hq with ⟨h1, h2⟩ | ⟨rfl, rfl⟩
    · exact h.pl n qs h2 p hpq
    · exact hp p hpq
  · rcases par_add hq with ⟨h1, h2⟩ | ⟨rfl, rfl⟩
    · rw [old h1, h.ine n qs h2 k]
      constructor
      · rintro (e | ⟨p, hpq, hk⟩)
        · exact .inl e
        · exact .inr ⟨p, hpq, by rw [old (by have := h.pl n qs h2 p hpq; omega)]; exact hk⟩
      · rintro (e | ⟨p, hpq, hk⟩)
        · exact .inl e
        · exact .inr ⟨p, hpq, by rwa [old (by have := h.pl n qs h2 p hpq; omega)] at hk⟩
    · rw [new, sortN_mem, insL_mem]
      constructor
      · rintro (e | ⟨p, hpq, hk⟩)
        · exact .inl e
        · exact .inr ⟨p, hpq, by rw [old (hp p hpq)]; exact hk⟩
      · rintro (e | ⟨p, hpq, hk⟩)
        · exact .inl e
        · exact .inr ⟨p, hpq, by rwa [old (hp p hpq)] at hk⟩
  · rcases Nat.lt_trichotomy n m.par.length with e | e | e
    · rw [old e]; exact h.nd n
    · subst e; rw [new]; exact (List.mergeSort_perm _ _).nodup_iff.mpr (insL_nd h.nd)
    · rw [big n e]; exact .nil
  · rcases Nat.lt_trichotomy n m.par.length with e | e | e
    · rw [old e]; exact h.z n e
    · subst e
      rw [new, sortN_mem, insL_mem]
      obtain ⟨p, hpm⟩ := List.exists_mem_of_ne_nil ps hne
      exact .inr ⟨p, hpm, h.z p (hp p hpm)⟩
    · omega
  · rcases Nat.lt_trichotomy n m.par.length with e | e | e
    · rw [old e] at hk; exact h.le n k hk
    · subst e
      rw [new, sortN_mem, insL_mem] at hk
      rcases hk with e | ⟨p, hpm, hk⟩
      · omega
      · have h1 := h.le p k hk; have h2 := hp p hpm; omega
    · rw [big n e] at hk; cases hk
end FS
/-! text M5 -/
/-! M5: the program's past is the law's. -/
namespace FS
open PySem PySem.Spec PyProof.Rows L2
theorem atB_set {l : List Bool} {n i : Nat} (h : n < l.length) : atB (l.set n true) i = (decide (i = n) || atB l i) := by
  unfold atB
  by_cases e : n = i
  · subst e; rw [List.getElem?_set_self h]; simp
  · rw [List.getElem?_set_ne e, decide_eq_false (Ne.symm e), Bool.false_or]
theorem atB_mark {i : Nat} : ∀ {ns : List Nat} {l : List Bool}, (∀ n ∈ ns, n < l.length) → (atB (mark l ns) i = true ↔ atB l i = true ∨ i ∈ ns)
  | [], l, _ => by simp [mark]
  | n :: ns, l, h => by
    show atB (mark (l.set n true) ns) i = true ↔ _
    rw [atB_mark (fun k hk => by rw [List.length_set]; exact h k (List.mem_cons_of_mem _ hk)), atB_set (h n List.mem_cons_self), Bool.or_eq_true, decide_eq_true_eq, List.mem_cons]
    constructor
    · rintro ((h | h) | h)
      · exact .inr (.inl h)
      · exact .inl h
      · exact .inr (.inr h)
    · rintro (h | h | h)
      · exact .inl (.inr h)
      · exact .inl (.inl h)
      · exact .inr h
theorem LwI.self {m : Wd} (h : LwI m) {n : Nat} (hn : n < m.par.length) : n ∈ inn m n := (h.ine n _ (List.getElem?_eq_getElem hn) n).mpr (.inl rfl)
theorem sweep_in {m : Wd} (h : LwI m) {i : Nat} : ∀ (n : Nat) (l : List Bool), n ≤ m.par.length → l.length = m.par.length → (atB (sweep m.par n l) i = true ↔ atB l i = true ∨ ∃ j, j < n ∧ atB l j = true ∧ i ∈ inn m j)
  | 0, l, _, _ => by simp [sweep]
  | n + 1, l, hn, hl => by
    have hq : m.par[n]? = some m.par[n] := List.getElem?_eq_getElem (by omega)
    have hp := h.pl n _ hq
    have hi := h.ine n _ hq i
    show atB (sweep m.par n (if atB l n = true then mark l (m.par[n]?.getD []) else l)) i = true ↔ _
    rw [hq, Option.getD_some]
    by_cases e : atB l n = true
    · have hb : ∀ k ∈ m.par[n], k < l.length := fun k hk => by have := hp k hk; omega
      rw [if_pos e, sweep_in h n _ (by omega) (by rw [mark_len]; exact hl), atB_mark hb]
      constructor
      · rintro ((h1 | h1) | ⟨j, hj, h1, h2⟩)
        · exact .inl h1
        · exact .inr ⟨n, by omega, e, hi.mpr (.inr ⟨i, h1, h.self (by have := hp i h1; omega)⟩)⟩
        · rcases (atB_mark hb).mp h1 with h1 | h1
          · exact .inr ⟨j, by omega, h1, h2⟩
          · exact .inr ⟨n, by omega, e, hi.mpr (.inr ⟨j, h1, h2⟩)⟩
      · rintro (h1 | ⟨j, hj, h1, h2⟩)
        · exact .inl (.inl h1)
        · by_cases ej : j = n
          · subst ej
            rcases hi.mp h2 with rfl | ⟨p, hpp, h3⟩
            · exact .inl (.inl h1)
            · exact .inr ⟨p, hp p hpp, (atB_mark hb).mpr (.inr hpp), h3⟩
          · exact .inr ⟨j, by omega, (atB_mark hb).mpr (.inl h1), h2⟩
    · rw [if_neg e, sweep_in h n _ (by omega) hl]
      constructor
      · rintro (h1 | ⟨j, hj, h1, h2⟩)
        · exact .inl h1
        · exact .inr ⟨j, by omega, h1, h2⟩
      · rintro (h1 | ⟨j, hj, h1, h2⟩)
        · exact .inl h1
        · by_cases ej : j = n
          · subst ej; exact absurd h1 e
          · exact .inr ⟨j, by omega, h1, h2⟩
theorem past_eq {m : Wd} (h : LwI m) {ns : List Nat} (hn : ∀ n ∈ ns, n < m.par.length) : pastL m.par ns = lawPast m ns := by
  unfold pastL lawPast
  refine List.filter_congr fun i hi => ?_
  have hl : (mark (List.replicate m.par.length false) ns).length = m.par.length := by rw [mark_len, List.length_replicate]
  have hb : ∀ n ∈ ns, n < (List.replicate m.par.length false).length := fun n h => by rw [List.length_replicate]; exact hn n h
  have h0 : ∀ j, atB (List.replicate m.par.length false) j = false := fun j => by
    unfold atB; rw [List.getElem?_replicate]; split <;> rfl
  have h1 := sweep_in h (i := i) m.par.length _ (Nat.le_refl _) hl
  have h2 : (atB (mark (List.replicate m.par.length false) ns) i = true ∨ ∃ j, j < m.par.length ∧ atB (mark (List.replicate m.par.length false) ns) j = true ∧ i ∈ inn m j) ↔ ∃ n ∈ ns, i ∈ inn m n := by
    constructor
    · rintro (a | ⟨j, hj, a, b⟩)
      · rcases (atB_mark hb).mp a with a | a
        · rw [h0] at a; cases a
        · exact ⟨i, a, h.self (hn i a)⟩
      · rcases (atB_mark hb).mp a with a | a
        · rw [h0] at a; cases a
        · exact ⟨j, a, b⟩
    · rintro ⟨n, a, b⟩
      exact .inr ⟨n, hn n a, (atB_mark hb).mpr (.inr a), b⟩
  rw [Bool.eq_iff_iff, h1, h2, decide_eq_true_eq, List.length_pos_iff_exists_mem]
  constructor
  · rintro ⟨n, a, b⟩; exact ⟨n, List.mem_filter.mpr ⟨a, decide_eq_true b⟩⟩
  · rintro ⟨n, a⟩; exact ⟨n, (List.mem_filter.mp a).1, of_decide_eq_true (List.mem_filter.mp a).2⟩
end FS
/-! text M6 -/
/-! M6: the program's heads are the law's (the sweep). -/
namespace FS
open PySem PySem.Spec PyProof.Rows L2
theorem hsweep_in {m : Wd} (h : LwI m) {ws : List Bk} {p : Int} {R : Nat → Bool} (hR : ∀ n ps, m.par[n]? = some ps → R n = true → ∀ q ∈ ps, R q = true) {i : Nat} : ∀ (n : Nat) (l : List Bool), n ≤ m.par.length → l.length = m.par.length →
    (atB (((List.range n).filter R).reverse.foldl (hstep m.par ws p) l) i = true ↔ atB l i = true ∨ ∃ j, j < n ∧ R j = true ∧ (atB l j || isW ws j p) = true ∧ i ∈ inn m j ∧ i ≠ j)
  | 0, l, _, _ => by simp
  | n + 1, l, hn, hl => by
    have hq : m.par[n]? = some m.par[n] := List.getElem?_eq_getElem (by omega)
    have hp := h.pl n _ hq
    have hi := fun i => h.ine n _ hq i
    have hb : ∀ k ∈ m.par[n], k < l.length := fun k hk => by have := hp k hk; omega
    rw [List.range_succ, List.filter_append, List.reverse_append]
    by_cases r : R n = true
    · rw [show [n].filter R = [n] from by simp [r], List.reverse_singleton, List.singleton_append, List.foldl_cons]
      have hs : hstep m.par ws p l n = if (atB l n || isW ws n p) = true then mark l m.par[n] else l := by unfold hstep; rw [hq, Option.getD_some]
      rw [hs]
      by_cases e : (atB l n || isW ws n p) = true
      · rw [if_pos e, hsweep_in h hR n _ (by omega) (by rw [mark_len]; exact hl), atB_mark hb]
        constructor
        · rintro ((h1 | h1) | ⟨j, hj, rj, h1, h2, h3⟩)
          · exact .inl h1
          · have := hp i h1
            exact .inr ⟨n, by omega, r, e, (hi i).mpr (.inr ⟨i, h1, h.self (by omega)⟩), by omega⟩
          · rw [Bool.or_eq_true] at h1
            rcases h1 with h1 | h1
            · rcases (atB_mark hb).mp h1 with h1 | h1
              · exact .inr ⟨j, by omega, rj, by rw [h1]; rfl, h2, h3⟩
              · have := h.le j i h2; have := hp j h1
                exact .inr ⟨n, by omega, r, e, (hi i).mpr (.inr ⟨j, h1, h2⟩), by omega⟩
            · exact .inr ⟨j, by omega, rj, by rw [h1, Bool.or_true], h2, h3⟩
        · rintro (h1 | ⟨j, hj, rj, h1, h2, h3⟩)
          · exact .inl (.inl h1)
          · by_cases ej : j = n
            · subst ej
              rcases (hi i).mp h2 with e2 | ⟨q, hqq, h4⟩
              · exact absurd e2 h3
              · by_cases eq : i = q
                · subst eq; exact .inl (.inr hqq)
                · exact .inr ⟨q, hp q hqq, hR _ _ hq r q hqq, by rw [(atB_mark hb).mpr (.inr hqq)]; rfl, h4, eq⟩
            · refine .inr ⟨j, by omega, rj, ?_, h2, h3⟩
              rw [Bool.or_eq_true] at h1 ⊢
              rcases h1 with h1 | h1
              · exact .inl ((atB_mark hb).mpr (.inl h1))
              · exact .inr h1
      · rw [if_neg e, hsweep_in h hR n _ (by omega) hl]
        constructor
        · rintro (h1 | ⟨j, hj, x⟩)
          · exact .inl h1
          · exact .inr ⟨j, by omega, x⟩
        · rintro (h1 | ⟨j, hj, rj, h1, x⟩)
          · exact .inl h1
          · by_cases ej : j = n
            · subst ej; exact absurd h1 e
            · exact .inr ⟨j, by omega, rj, h1, x⟩
    · rw [show [n].filter R = [] from by simp [r], List.reverse_nil, List.nil_append, hsweep_in h hR n _ (by omega) hl]
      constructor
      · rintro (h1 | ⟨j, hj, x⟩)
        · exact .inl h1
        · exact .inr ⟨j, by omega, x⟩
      · rintro (h1 | ⟨j, hj, rj, x⟩)
        · exact .inl h1
        · by_cases ej : j = n
          · subst ej; exact absurd rj r
          · exact .inr ⟨j, by omega, rj, x⟩
end FS
/-! text M7 -/
/-! M7: the program's heads are the law's. -/
namespace FS
open PySem PySem.Spec PyProof.Rows L2
theorem LwI.trans {m : Wd} (h : LwI m) {j k : Nat} (hj : j ∈ inn m k) : ∀ (n : Nat), k ∈ inn m n → j ∈ inn m n := by
  intro n
  induction n using Nat.strongRecOn with
  | _ n ih =>
    intro hk
    by_cases hn : n < m.par.length
    · have hq : m.par[n]? = some m.par[n] := List.getElem?_eq_getElem hn
      rcases (h.ine n _ hq k).mp hk with rfl | ⟨p, hp, h1⟩
      · exact hj
      · exact (h.ine n _ hq j).mpr (.inr ⟨p, hp, ih p (h.pl n _ hq p hp) h1⟩)
    · rw [h.out n (by omega)] at hk; cases hk
theorem heads_eq {m : Wd} (h : LwI m) {ns : List Nat} {p : Int} (hn : ∀ n ∈ ns, n < m.par.length) : headsL m.par m.wr (pastL m.par ns) p = lawHeads m ns p := by
  have hR : ∀ (n : Nat) (ps : List Nat), m.par[n]? = some ps → decide (0 < (ns.filter fun x => decide (n ∈ inn m x)).length) = true → ∀ q ∈ ps, decide (0 < (ns.filter fun x => decide (q ∈ inn m x)).length) = true := fun n ps hq r q hqq => by
    rw [decide_eq_true_eq, List.length_pos_iff_exists_mem] at r ⊢
    obtain ⟨x, hx⟩ := r
    obtain ⟨h1, h2⟩ := List.mem_filter.mp hx
    have hnl := (List.getElem?_eq_some_iff.mp hq).1
    have h3 : q ∈ inn m n := (h.ine n ps hq q).mpr (.inr ⟨q, hqq, h.self (by have := h.pl n ps hq q hqq; omega)⟩)
    exact ⟨x, List.mem_filter.mpr ⟨h1, decide_eq_true (h.trans h3 x (of_decide_eq_true h2))⟩⟩
  have h0 : ∀ j, atB (List.replicate m.par.length false) j = false := fun j => by
    unfold atB; rw [List.getElem?_replicate]; split <;> rfl
  rw [past_eq h hn]
  unfold headsL lawHeads
  rw [show lawWriters m ns p = (lawPast m ns).filter fun k => isW m.wr k p from rfl, List.filter_filter]
  refine List.filter_congr fun i hi => ?_
  have hs := hsweep_in h (ws := m.wr) (p := p) (R := fun i => decide (0 < (ns.filter fun n => decide (i ∈ inn m n)).length)) hR (i := i) m.par.length (List.replicate m.par.length false) (Nat.le_refl _) (by rw [List.length_replicate])
  have e : atB (hsweep m.par m.wr p (lawPast m ns)) i = !decide (((((lawPast m ns).filter fun k => isW m.wr k p)).filter fun n => !decide (n = i) && decide (i ∈ inn m n)).length = 0) := by
    rw [Bool.eq_iff_iff]
    refine hs.trans ?_
    rw [h0, Bool.not_eq_true', decide_eq_false_iff_not]
    refine Iff.trans ?_ (Nat.pos_iff_ne_zero (n := List.length _))
    rw [List.length_pos_iff_exists_mem]
    constructor
    · rintro (a | ⟨j, hj, rj, w, a, b⟩)
      · cases a
      · rw [h0, Bool.false_or] at w
        refine ⟨j, List.mem_filter.mpr ⟨List.mem_filter.mpr ⟨List.mem_filter.mpr ⟨List.mem_range.mpr hj, rj⟩, w⟩, ?_⟩⟩
        rw [decide_eq_false (Ne.symm b), decide_eq_true a]; rfl
    · rintro ⟨j, hj⟩
      obtain ⟨h1, h2⟩ := List.mem_filter.mp hj
      obtain ⟨h3, w⟩ := List.mem_filter.mp h1
      obtain ⟨h4, rj⟩ := List.mem_filter.mp h3
      rw [Bool.and_eq_true, Bool.not_eq_true', decide_eq_false_iff_not, decide_eq_true_eq] at h2
      exact .inr ⟨j, List.mem_range.mp h4, rj, by rw [h0, Bool.false_or]; exact w, h2.2, Ne.symm h2.1⟩
  rw [e, Bool.not_not, Bool.and_comm]
end FS
/-! text M8 -/
/-! M8: the values found. -/
namespace FS
open PySem PySem.Spec PyProof.Rows L2
theorem dd_nd : ∀ {vs acc : List Int}, acc.Nodup → (vs.foldl (fun acc v => if v ∈ acc then acc else acc ++ [v]) acc).Nodup
  | [], acc, h => h
  | x :: vs, acc, h => by
    rw [List.foldl_cons]
    refine dd_nd ?_
    split
    · exact h
    · rename_i e
      exact List.nodup_append.mpr ⟨h, by simp, fun a ha b hb z => e (by rw [List.mem_singleton.mp hb] at z; exact z ▸ ha)⟩
theorem found_eq {m : Wd} (h : LwI m) {ns : List Nat} {p : Int} (hn : ∀ n ∈ ns, n < m.par.length) : foundL m.par m.wr ns p = lawFound m ns p := by
  unfold foundL valsL lawFound
  rw [heads_eq h hn]
  refine (asc_eq (sortI_srt (dd_nd List.nodup_nil)) fun k => ?_).symm
  rw [sortI_mem]
  exact ⟨fun z => (dd_mem z).resolve_left (by simp), fun z => dd_keep (.inr z)⟩
end FS
/-! text W16 -/
/-! W16: sorted of pairs of ints. -/
namespace FS
open PySem PySem.Spec PyProof.Rows L2
def leM (a b : Int × Int) : Bool := !SrtO.lexB b a
def sortM (ms : List (Int × Int)) : List (Int × Int) := ms.mergeSort leM
theorem leM_iff {a b : Int × Int} : leM a b = true ↔ a.1 < b.1 ∨ (a.1 = b.1 ∧ a.2 ≤ b.2) := by
  unfold leM
  rw [Bool.not_eq_true', ← Bool.not_eq_true, SrtO.lexB_iff]
  omega
theorem sortM_unique {ns ms : List (Int × Int)} (hp : ms.Perm ns) (hs : ms.Pairwise (fun a b => leM a b = true)) : ms = sortM ns := by
  have h1 : (sortM ns).Pairwise (fun a b => leM a b = true) :=
    List.pairwise_mergeSort (fun a b c h1 h2 => by rw [leM_iff] at *; omega) (fun a b => by rw [Bool.or_eq_true, leM_iff, leM_iff]; omega) ns
  exact (hp.trans (List.mergeSort_perm ns _).symm).eq_of_pairwise (fun a b _ _ h1 h2 => by
    rw [leM_iff] at h1 h2
    exact Prod.ext (by omega) (by omega)) hs h1
end FS
/-! text W17 -/
/-! W17: sorted of pairs of ints, the rule. -/
namespace FS
open PySem PySem.Spec PyProof.Rows L2
def pairAt (H : Hp) : V → Int × Int
  | .ref t => match H t with
    | some (.tup [.int a, .int b]) => (a, b)
    | _ => (0, 0)
  | _ => (0, 0)
theorem rep_pair {M : Addr → Prop} {H : Hp} {m : Int × Int} {v : V} (r : Rep M H (encM m) v) : ∃ t, v = .ref t ∧ H t = some (.tup [.int m.1, .int m.2]) ∧ pairAt H v = m := by
  unfold encM at r
  cases r with
  | @tup p _ vs n h1 r1 =>
  obtain ⟨a, b, rfl, ra, rb⟩ := reps2 r1
  cases ra; cases rb
  exact ⟨p, rfl, h1, by simp only [pairAt, h1]⟩
theorem reps_pairs {M : Addr → Prop} {H : Hp} : ∀ {ms : List (Int × Int)} {vs : List V}, Reps M H (ms.map encM) vs → vs.map (pairAt H) = ms ∧ ∀ v ∈ vs, Rep M H (encM (pairAt H v)) v ∧ ∃ t, v = .ref t ∧ H t = some (.tup [.int (pairAt H v).1, .int (pairAt H v).2])
  | [], _, .nil => ⟨rfl, fun _ h => by cases h⟩
  | m :: ms, _, .cons r rs => by
    obtain ⟨t, e, h1, h2⟩ := rep_pair r
    obtain ⟨i1, i2⟩ := reps_pairs rs
    refine ⟨by rw [List.map_cons, h2, i1], fun v hv => ?_⟩
    rcases List.mem_cons.mp hv with rfl | hv
    · rw [h2]; exact ⟨r, t, e, h1⟩
    · exact i2 v hv
theorem reps_of {M : Addr → Prop} {H : Hp} {f : V → D} : ∀ {vs : List V}, (∀ v ∈ vs, Rep M H (f v) v) → Reps M H (vs.map f) vs
  | [], _ => .nil
  | v :: vs, h => .cons (h v List.mem_cons_self) (reps_of fun u hu => h u (List.mem_cons_of_mem _ hu))
section
variable {B : Bg} {N : List Str} {sc : Scope} {k : Nat} {S : Sit B N sc k} {G : Gam} {L : Sto} {a b c e : Expr} {pos p : Pos}
theorem ev_sortM {d : D} {ms : List (Int × Int)} (l : Lk L d (.lst (ms.map encM))) (h : Ev S G L e d) (hg : GlS sc "sorted" := by rfl) (he : St1 e := by intro _; rfl) : Ev S G L (.Call (.Name "sorted" p) [e] [] pos) (.lst ((sortM ms).map encM)) :=
  blt1 (r := rSortedPO B.K) (byX fun y _ => cr_sortedPO) (by decide) boot_sorted (by decide) (by decide) (h.we fun H vs s r Q c => by
    obtain ⟨v, rfl, rv⟩ := reps1 r
    obtain ⟨q, us, rfl, hq, ru⟩ := l.lst s rv
    obtain ⟨hm, hr⟩ := reps_pairs ru
    refine ⟨q, us, pairAt H, rfl, .inl (.inl hq), fun x hx => (hr x hx).2, fun ys z h1 h2 nz => ?_⟩
    have e : ys.map (pairAt H) = sortM ms := sortM_unique (hm ▸ h2.perm.map _) (List.pairwise_map.mpr (h1.imp fun {x y} z => by
      have z' : SrtO.lexB (pairAt H y) (pairAt H x) = false := z
      unfold leM; rw [z']; rfl))
    have e2 : (sortM ms).map encM = ys.map (encM ∘ pairAt H) := by rw [← e, List.map_map]
    rw [e2] at c
    exact c.newL ⟨rfl, rfl⟩ s (reps_of fun v hv => (hr v (h2.perm.mem_iff.mp hv)).1) nz) hg he
end
end FS
/-! text E25 -/
/-! E25: bars. -/
namespace FS
open PySem PySem.Spec PyProof.Rows L2
section
variable {B : Bg}
abbrev sBo : Stmt := top 26
theorem scSBo : FnScope ["marks"] ["marks"] (defScope sBo) := ⟨rfl, rfl, rfl, by decide +kernel, rfl, by decide +kernel, by decide +kernel⟩
def rBo : ASp := fun ds L post => ∃ ms : List (Int × Int), ds = [.lst (ms.map encM)] ∧ post (.tup ((sortM ms).map encM)) L
theorem ok_sbo {f : Addr} {fd : FuncData} (F : Fun B.K "bar_of" "bar_of" sBo f fd) : FnOk B.P B.w B.K B.mg B.base CX0 1 f fd ["marks"] (low rBo) := by
  refine ok_def F scSBo (fun ds L post ⟨_, h, _⟩ => by rw [h]; rfl) fun S hS ds L post ⟨ms, e, hp⟩ => ?_
  subst e
  exact ws_ret ((ev_tuple (.inl rfl) (ev_sortM (.inl rfl) (ev_var 0))).we hp)
end
end FS
/-! text W18 -/
/-! W18: defs that raise own exceptions. -/
namespace FS
open PySem PySem.Spec PyProof.Rows L2
abbrev XPost := Addr → List (Str × D) → Sto → Prop
abbrev ASpX := List D → Sto → (D → Sto → Prop) → XPost → Prop
def lowX (R : ASpX) : Sp := fun vs H Q E => ∃ ds L post xp, StoOk L H ∧ Reps L.dom H ds vs ∧ R ds L post xp ∧ Cont L H post Q ∧ ContX E L H xp
section
variable {B : Bg} {N : List Str} {sc : Scope} {k : Nat} {S : Sit B N sc k} {G : Gam} {L : Sto} {a b c e o : Expr} {es : List Expr} {pos p apos : Pos} {post : D → Sto → Prop} {xp : XPost}
/-- an expression that may raise -/
def WeX (S : Sit B N sc k) (G : Gam) (L : Sto) (e : Expr) (post : D → Sto → Prop) (xp : XPost) : Prop := ∀ σ H, Abs G L σ H → ∀ Q, Cont L H post Q → ContX S.W L H xp → ME S e σ H Q
theorem We.x (h : We S G L e post) : WeX S G L e post xp := fun σ H A Q c _ => h σ H A Q c
theorem wo_setX (i : Nat) {x : Str} {p' : Pos} {E : AE} (h : WeX S G L e (fun d L' => E.nx (G.set i (some d)) L') E.xc) (hN : N.Nodup := by decide +kernel) (hi : N[i]? = some x := by rfl) (hx : sc.names.lookup x = some .local := by rfl) (hs : ∀ env, swapsWith e (some (.Name x p')) pos.line env = pure false := by intro _; rfl) :
    Wo S G L (.Assign [.Name x p'] e pos) E := fun σ H A D c =>
  ⟨tAsg (ME S e) (gName i), fun X hX => by
    have hm := me hX (e := e)
    obtain ⟨y, rfl, _⟩ := S.fam X hX
    exact ps_set hN hi (.inl hx) hm (hs _) (.inr hx), h σ H A _ (fun d L' v H' w k s r => c.nx _ _ _ _ w k ((A.mono k s).set r i)) c.xc⟩
theorem ws_setX (i : Nat) {x : Str} {p' : Pos} {rest : List Stmt} {E : AE} (h : WeX S G L e (fun d L' => Ws S (G.set i (some d)) L' rest E) E.xc) (hN : N.Nodup := by decide +kernel) (hi : N[i]? = some x := by rfl) (hx : sc.names.lookup x = some .local := by rfl) (hs : ∀ env, swapsWith e (some (.Name x p')) pos.line env = pure false := by intro _; rfl) :
    Ws S G L (.Assign [.Name x p'] e pos :: rest) E := ws_cons (wo_setX i h hN hi hx hs)
theorem wo_retX {E : AE} (h : WeX S G L e E.rt E.xc) : Wo S G L (.Return (some e) pos) E := fun σ H A D c => ⟨tRet (ME S e), fun X hX => ps_ret (me hX), h σ H A _ (fun d L' v H' w k s r => c.rt _ _ _ _ w k s r) c.xc⟩
theorem ws_retX {rest : List Stmt} {E : AE} (h : WeX S G L e E.rt E.xc) : Ws S G L (.Return (some e) pos :: rest) E := ws_cons (wo_retX h)
theorem ws_asgX {tg : Expr} {rs : List Stmt} {E : AE} (h : WeX S G L e (fun d L' => ∃ G' is, Wg S tg d G G' is ∧ Ws S G' L' rs E) E.xc) (hs : ∀ env, swapsWithSole [tg] e pos.line env = pure false := by intro _; rfl) (hw : ∀ env, swappedStores [tg] e env = pure none := by intro _; rfl)
    (h1 : ∀ env, (assignEach [tg] env).map (·.2) = [assign tg env] := by intro _; rfl) : Ws S G L (.Assign [tg] e pos :: rs) E := ws_cons fun σ H A D c =>
  ⟨tAsg (ME S e) (MG S tg), fun X hX => ps_asg (me hX) (mg S hX) (hs _) (hw _) (h1 _), h σ H A _ (fun d L' v H' ⟨G', is, g, w⟩ k1 s1 r1 => g L' σ H' v (A.mono k1 s1) r1 _ fun σ' A' _ => c.nx _ _ _ _ w k1 A') c.xc⟩
/-- r[i], r may raise -/
theorem wex_ix {i : Int} {d : D} {ds : List D} (h : WeX S G L a (fun x L1 => ∃ ds d, Lk L1 x (.lst ds) ∧ atI ds i = some d ∧ Ev S G L1 b (.int i) ∧ post d L1) xp) (hs : PlainIx b := by exact fun _ _ => rfl) : WeX S G L (.Subscript a b pos) post xp := fun σ H A Q c cx =>
  ⟨L2.tOp (rIxL B.K) (ME S a) (ME S b), fun X hX => pe_ix (ixl S X hX) (me hX) (me hX) hs, h σ H A _ (fun x L1 v H1 ⟨ds, d, lk, hd, hb, w⟩ k1 s1 r1 => hb.run (A.mono k1 s1) fun u H2 k2 A2 r2 =>
    a2_ixL lk hd w H2 v u A2.sto (r1.mono k2.kp) r2 Q ((c.trans k1).trans k2)) cx⟩
/-- (c, e), e may raise -/
theorem wex_tup2 {x1} {d : D} (ha : Ev S G L a d) (h : WeX S G L b (fun y L2 => post (.tup [d, y]) L2) xp) (hs : ∀ env, starEach [a, b] env = (false, eval a env) :: starEach [b] env := by intro _; rfl) (hs' : ∀ env, starEach [b] env = (false, eval b env) :: starEach [] env := by intro _; rfl) : WeX S G L (.Tuple [a, b] x1 pos) post xp := fun σ H A Q c cx =>
  ⟨tTup (tCons (ME S a) (tCons (ME S b) tNil)), fun X hX => pe_tup (pa_cons (me hX) (pa_cons (me hX) pa_nil (hs' _)) (hs _)), ha.run A fun v H1 k1 A1 r1 => h σ H1 A1 _ (fun y L2 u H2 w k2 s2 r2 => ⟨(show (2 : Nat) ≤ sizeLine by decide), fun p np => by
    have sm : Same H2 (upd H2 p (.tup [v, u])) := same_upd np
    exact c _ _ _ _ w ((k1.trans k2).trans (keep_same sm)) (s2.same sm) (.tup (rep_new np s2) upd_same (.cons ((r1.mono k2.kp).mono (keep_same sm).kp) (.cons (r2.mono (keep_same sm).kp) .nil)))⟩) (cx.trans k1)⟩
/-- a def of the text that may raise -/
theorem ok_defX {x qual : Str} {st : Stmt} {f : Addr} {fd : FuncData} {ps : List Str} {R : ASpX} (F : Fun B.K x qual st f fd) (hS : FnScope N ps (defScope st)) (len : ∀ ds L post xp, R ds L post xp → ds.length = ps.length)
    (body : ∀ (S : Sit B N (defScope st) k), S.bd = true → ∀ ds L post xp, R ds L post xp → Ws S (startD N ds) L (defBody st) { nx := fun _ L' => post .non L', rt := post, xc := xp }) : FnOk B.P B.w B.K B.mg B.base (L2.CX B.P B.w) (k + 1) f fd ps (lowX R) := by
  refine F.okX hS (fun vs H Q E ⟨ds, L, post, xp, s, r, h, _⟩ => by rw [r.length]; exact len _ _ _ _ h) fun cdv A outer s H vs Q E hr ⟨ds, L, post, xp, so, r, h, c, cx⟩ => ?_
  have w := body ⟨fun X => X = cxOf (L2.CX B.P B.w) B.P B.w B.K B.mg B.base N qual (defScope st) f cdv A outer s H E, fun X e => ⟨X, by subst e; rfl, by subst e; exact hr⟩, fun X e => by subst e; exact passes_of rfl, true, fun _ X e y => by subst e; rfl, fun _ X e => by subst e; exact ⟨rfl, rfl⟩, false, fun z => (nomatch z), E, fun X e => by subst e; exact takes_of rfl rfl rfl rfl⟩ rfl ds L post xp h
  obtain ⟨t, ht, q⟩ := w _ H (abs_start so r) { nx := fun _ H' => Q .non H', rt := Q } ⟨fun G' L' σ' H' w k A => c _ _ _ _ w k A.sto .non, fun d L' v H' w k s r => c _ _ _ _ w k s r, fun _ _ _ _ w _ _ => w, fun _ _ _ _ w _ _ => w, cx⟩
  exact ⟨t, ht _ rfl, q⟩
/-- the same with keyword-only defaults -/
theorem ok_defXD {x qual : Str} {st : Stmt} {kws : List (Str × V)} {f : Addr} {fd : FuncData} {ps : List Str} {R : ASpX} (F : FunD B.K x qual (defArgs st) (defBody st) (defScope st) [] kws f fd) (hS : FnScope N ps (defScope st)) (len : ∀ ds L post xp, R ds L post xp → ds.length = ps.length)
    (body : ∀ (S : Sit B N (defScope st) k), S.bd = true → ∀ ds L post xp, R ds L post xp → Ws S (startD N ds) L (defBody st) { nx := fun _ L' => post .non L', rt := post, xc := xp }) : FnOk B.P B.w B.K B.mg B.base (L2.CX B.P B.w) (k + 1) f fd ps (lowX R) := by
  refine F.ok hS (fun vs H Q E ⟨ds, L, post, xp, s, r, h, _⟩ => by rw [r.length]; exact len _ _ _ _ h) fun cdv A outer s H vs Q E hr ⟨ds, L, post, xp, so, r, h, c, cx⟩ => ?_
  have w := body ⟨fun X => X = cxOf (L2.CX B.P B.w) B.P B.w B.K B.mg B.base N qual (defScope st) f cdv A outer s H E, fun X e => ⟨X, by subst e; rfl, by subst e; exact hr⟩, fun X e => by subst e; exact passes_of rfl, true, fun _ X e y => by subst e; rfl, fun _ X e => by subst e; exact ⟨rfl, rfl⟩, false, fun z => (nomatch z), E, fun X e => by subst e; exact takes_of rfl rfl rfl rfl⟩ rfl ds L post xp h
  obtain ⟨t, ht, q⟩ := w _ H (abs_start so r) { nx := fun _ H' => Q .non H', rt := Q } ⟨fun G' L' σ' H' w k A => c _ _ _ _ w k A.sto .non, fun d L' v H' w k s r => c _ _ _ _ w k s r, fun _ _ _ _ w _ _ => w, fun _ _ _ _ w _ _ => w, cx⟩
  exact ⟨t, ht _ rfl, q⟩
/-- a method that may raise; dd: its defaults behind the written arguments -/
structure MclX (B : Bg) (j : Nat) (C : Addr) (m : Str) (dd : List D) (R : ASpX) : Prop where
  cl : Cls B.K C
  ex : ∃ f fd ps dvs dus, FnOk B.P B.w B.K B.mg B.base (L2.CX B.P B.w) j f fd ps (lowX R) ∧ Meth B.K C m f ∧ Binds B.K fd ps dus ∧ Vals dvs dus ∧ ∀ M H, Reps M H dd dvs
theorem Sit.passX (S : Sit B N sc k) {X : Cx} (h : S.X X) : Passes (L2.CX X.prog X.w) X S.W := passes_call (S.tk X h) fun _ _ _ _ z => z
theorem Reps.app {M H} {ds es : List D} {vs us : List V} (r : Reps M H ds vs) (q : Reps M H es us) : Reps M H (ds ++ es) (vs ++ us) := r.append q
theorem wex_meth {j : Nat} {C : Addr} {m : Str} {dd : List D} {R : ASpX} {pl : Env → Sem Bool} (M : MclX B j C m dd R) (hj : j ≤ k) (h : We S G L o fun x L1 => (∃ fs, Lk L1 x (.ins C fs) ∧ fs.lookup m = none) ∧ Wa S G L1 (e :: es) fun ds L2 => R (x :: (ds ++ dd)) L2 post xp)
    (hst : ∀ env, starEach (e :: es) env = (false, eval e env) :: starEach es env := by intro _; rfl) (hpl : ∀ env, (backTo pos (starEach es env)).any (·.1) = false := by intro _; rfl)
    (ht : ∀ env, eval (.Call (.Attribute o m apos) (e :: es) [] pos) env = (do
      let ov ← eval o env
      standAt apos.atName
      let (f, first) ← holding [ov] (getMethod ov m (pl env))
      callWith pos f first (backTo pos (starEach (e :: es) env)) (backToKw pos (keywordEach [] env))) := by intro _; rfl) : WeX S G L (.Call (.Attribute o m apos) (e :: es) [] pos) post xp := fun σ H A Q c cx => by
  obtain ⟨f, fd, ps, dvs, dus, F, hm, hb, hd, rd⟩ := M.ex
  refine ⟨tMeth C m (lowX R) dvs S.W (ME S o) (MA S (e :: es)), fun X hX => ?_, h σ H A _ fun x L1 v H1 ⟨⟨fs, l, hl⟩, w⟩ k1 s1 r1 => ?_⟩
  · have h1 := me hX (e := o); have h2 := ma hX (e := e :: es); have h3 := S.passX hX
    obtain ⟨y, rfl, hr⟩ := S.fam X hX
    exact pe_meth h1 M.cl hm F (Room.mono (show Room k y.A from hr) hj) hb hd h3 h2 (hst _) (hpl _) (ht _)
  · obtain ⟨q, dx, us, rfl, hq, ru⟩ := l.ins s1 r1
    refine ⟨q, dx, us, rfl, hq, ru.val.2 hl, w σ H1 (A.mono k1 s1) _ fun ds L2 vs H2 w2 k2 s2 r2 => ⟨x :: (ds ++ dd), L2, post, xp, s2, .cons (r1.mono k2.kp) (r2.append (rd _ _)), w2, (c.trans k1).trans k2, (cx.trans k1).trans k2⟩⟩
end
end FS
/-! text W19 -/
/-! W19: super().__init__(..) of an own exception. -/
namespace FX
open PySem PySem.W PySem.Calls PyProof.Rows PySem.Spec L2 NdefX
/-- what the written part says of an own exception class whose __init__ begins by super() -/
structure SupInit (P : Program) (K : PySem.W.Frag) (mg : Str → Option Value) (C fI : Addr) (qual : Str) (params : Arguments) (body : List Stmt) (scope : Scope) (fd : FuncData) (cc cda : Addr) : Prop where
  fn : ∃ (oc : Value) (od : Option Addr) (dV kV doc pm : Value) (an : Option Addr) (ct : Value) (osl : Array (Option Value)), fd = ksFn "__init__" qual params body scope dV kV doc pm an (.ref cda) ct cc ∧ K.lookup fI = some ⟨oc, od, .func fd, osl⟩
  code : codeIn K (.ref cda) qual = true
  file : ∃ (ccl : Value) (cdd : Option Addr) (vs : Array Value) (ccs : Array (Option Value)) (file : Str) (tf : Tok), K.lookup cda = some ⟨ccl, cdd, .fields vs, ccs⟩ ∧ vs[2]? = some (.str file tf) ∧ ((P.main.file : Str) == file) = true
  cell : ∃ (cl : Value) (cld : Option Addr) (csl : Array (Option Value)), K.lookup cc = some ⟨cl, cld, .cell (some (.ref C)), csl⟩
  o : OexC K C
  mro : mroIn K C (.ref C) = some true
  sup : mg "super" = none
  top : (P.main.scope.names.lookup ("super" : Str)).isSome = false
  any : nsIn K cStatics "thirdparty.any" = some none
  sin : ks_superIn K C C "__init__" = some (some (.builtin "ValueError.__init__"))
  sub : subIn K (.ref C) (.type "ValueError") = some true
section
variable {P : Program} {w : World} {K : PySem.W.Frag} {mg : Str → Option Value} {base : Heap} {CX : CXT} {k : Nat} {C fI cc cda : Addr} {qual : Str} {params : Arguments} {scope : Scope} {fd : FuncData} {N ps : List Str} {sp : Sp} {rest : List Stmt} {msg : Str} {j : Nat} {p0 p1 p2 p3 p4 pE : Pos}
abbrev supB (msg : Str) (j : Nat) (p0 p1 p2 p3 p4 pE : Pos) (rest : List Stmt) : List Stmt := .Expr (.Call (.Attribute (.Call (.Name "super" p0) [] [] p1) "__init__" p2) [.Constant (.str msg) j p3] [] p4) pE :: rest
theorem boot_super : bootBuiltins "super" = some (.type "super") := by first | boot_by_name | rfl | kernel_rfl
theorem sup_ok {ar : Arg} (T : SupInit P K mg C fI qual params (supB msg j p0 p1 p2 p3 p4 pE rest) scope fd cc cda) (S : NScope N ps ["__class__"] scope) (hpar : (params.posonlyargs ++ params.args).head? = some ar) (har : ar.arg = ("self" : Str)) (hp0 : ps[0]? = some ("self" : Str))
    {pl : Env → Sem Bool} (het : ∀ env : Env, eval (.Call (.Attribute (.Call (.Name "super" p0) [] [] p1) "__init__" p2) [.Constant (.str msg) j p3] [] p4) env = (do
      let ov ← attributeBase (.Call (.Name "super" p0) [] [] p1) "__init__" env (eval (.Call (.Name "super" p0) [] [] p1) env)
      standAt p2.atName
      let (f, first) ← holding [ov] (getMethod ov "__init__" (pl env))
      callWith p4 f first (backTo p4 (starEach [.Constant (.str msg) j p3] env)) []))
    (hks : scope.names.lookup ("super" : Str) = some .globalImplicit)
    (len : ∀ vs H Q E, sp vs H Q E → vs.length = ps.length) (hx : ∀ vs H Q E, sp vs H Q E → ∃ a ws, vs = .ref a :: ws ∧ H a = some (exo a C none))
    (hbody : ∀ (A : Around) (outer : List Env) (s : Shared) (H : Hp) (vs : List V) (Q : VK) (E : XK), sp vs H Q E →
      ∃ t, PSs (ncx CX P w K mg base N ⟨"__init__", qual, params, supB msg j p0 p1 p2 p3 p4 pE rest, scope, [("__class__", cc)], cda⟩ fI A outer s H E) rest t ∧ t { nx := fun _ H' => Q .non H', rt := Q } (startF N vs [none]) H) :
    FnOk P w K mg base CX (k + 1) fI fd ps sp := by
  obtain ⟨oc, od, dV, kV, doc, pm, an, ct, osl, rfl, lk⟩ := T.fn
  refine ⟨len, fun A outer s H args us vs Q E hr e0 hb r hsp => ?_⟩
  have hl := len _ _ _ _ hsp
  obtain ⟨a, ws, rfl, ha⟩ := hx _ _ _ _ hsp
  have KX : K.In s.heap := e0.mod.kin.keeps fun b o e => (e0.bs b o e).1
  have lim : s.heap.NoLimit := e0.mod.nolimit.keeps fun b o e => (e0.bs b o e).1
  obtain ⟨cl, cld, csl, hcell⟩ := T.cell
  have hkc : scope.names.lookup ("__class__" : Str) = some .free := S.frk _ (List.mem_singleton_self _)
  have hka : scope.names.lookup ("self" : Str) = some .local := S.par _ (List.mem_of_getElem? hp0)
  have CA : CellsAt [("__class__", cc)] ["__class__"] [none] s.heap H := ⟨rfl, fun y c e => by
      have e1 : y = "__class__" ∧ c = cc := by
        unfold List.lookup at e
        split at e
        · rename_i q; exact ⟨beq_iff_eq.mp q, (Option.some.inj e).symm⟩
        · cases e
      obtain ⟨_, rfl⟩ := e1
      exact ⟨(e0.bs _ _ (e0.mod.kin _ _ hcell)).2, _, ⟨_, KX _ _ hcell, rfl⟩⟩, fun x y c e1 e2 => by
      have g : ∀ {z : Str}, List.lookup z [("__class__", cc)] = some c → z = "__class__" := fun {z} e => by
        unfold List.lookup at e
        split at e
        · rename_i q; exact beq_iff_eq.mp q
        · cases e
      rw [g e1, g e2], fun i y e => by
      cases i with
      | zero =>
        cases e
        exact ⟨cc, rfl, fun v z => by cases z⟩
      | succ i => simp at e⟩
  refine ks_codeAny_call_defAt (binds := ps.zip us) hr.depth (KX _ _ lk) rfl lim (codeRec_of KX T.code) rfl hb S.nocell (fun y hy => S.par _ (List.of_mem_zip hy).1) (fun h₁ hns hk₁ => ?_) S.co S.gen S.kind
  have I0 : Inv (ncx CX P w K mg base N ⟨"__init__", qual, params, supB msg j p0 p1 p2 p3 p4 pE rest, scope, [("__class__", cc)], cda⟩ fI A outer s H E) [] (startF N (.ref a :: ws) [none]) H { s with heap := h₁, toks := s.toks + (ps.zip us).length } := inv_startN S hr.hd e0 hl r CA hns hk₁
  refine ks_wpAt_execs_cons (ks_wpAt_Expr_any (ks_wpAt_MethodCall (pl := pl _) ?_ (het _)) (by exact I0.quiet))
  have ex0 := exo_at I0.hok ha
  obtain ⟨t1, ho⟩ := ex0
  obtain ⟨nm, q, NN, bs, bm, sn, sub, ab, col, dd, k0, k1, k2, k3, k5, hC, hbm⟩ := T.o.cls
  have X1 : K.In h₁ := KX.keeps hk₁
  obtain ⟨ccl, cdd, fvs, ccs, file, tf, hcode, hvs, hfile⟩ := T.file
  obtain ⟨m, hn, hlk⟩ := I0.loc
  have hpz : (ps ++ [("__class__" : Str)])[0]? = some ("self" : Str) := by
    rw [List.getElem?_append_left (by have := (List.getElem?_eq_some_iff.mp hp0).1; exact this)]; exact hp0
  have hN0 : N[0]? = some ("self" : Str) := by
    have q : (N.take (ps.length + [("__class__" : Str)].length))[0]? = (ps ++ [("__class__" : Str)])[0]? := congrArg (fun l => l[0]?) S.pre
    rw [List.getElem?_take_of_lt (by have := (List.getElem?_eq_some_iff.mp hp0).1; omega)] at q
    exact q.trans hpz
  obtain ⟨u, ru, hu⟩ := hlk 0 "self" (.ref a) hN0 rfl (.inl hka)
  obtain rfl : u = Value.ref a := ru
  have hm : m "self" = some (Value.ref a) := by
    rcases hu with ⟨_, e⟩ | ⟨z, _⟩
    · exact e
    · rcases z with z | z
      · have z' : scope.names.lookup ("self" : Str) = some .cell := z
        rw [hka] at z'; cases z'
      · have z' : scope.names.lookup ("self" : Str) = some .free := z
        rw [hka] at z'; cases z'
  have hclD : clsIn K C = some { name := nm, bases := bs, mro := .ref C :: bm, ns := NN, qualname := q, hasDict := true, slotNames := sn, subclasses := sub, abstract := ab, collection := col, hasDel := false } := by unfold clsIn; rw [hC] <;> rfl
  obtain ⟨mb, hb1, hb2⟩ := I0.mod.blt
  have hkcls : ∀ {h : Heap}, K.In h → Looks (model P w) h (mroOf (.ref C)) (.ref C :: bm) := fun {h} X A Q E s k q => wpAny_bind ((looks_clsIn X hclD) A _ E s k (wpAny_pure q))
  refine ks_wpAt_super_base (env := callEnv _ s.heap.objs.size fI) hks hkc (by decide) rfl (X1 _ _ lk) rfl hpar rfl (X1 _ _ hcode) rfl hvs hfile T.top ?_
  refine ks_loadName_global S.kind hks (loadGlobal_builtin (env := callEnv _ s.heap.objs.size fI) (by exact I0.mod.glob.keeps I0.bk) T.sup (hb1.keeps I0.bk) ((hb2 _ (by decide)).trans boot_super) ⟨rfl, ?_⟩)
  refine wpAny_loadName_free S.kind hkc rfl ⟨_, X1 _ _ hcell, rfl⟩ ?_
  rw [har]
  refine wpAny_loadName_local S.kind hka hn hm ?_
  refine ks_wpAny_isType_cls (X1 _ _ hC) rfl ⟨rfl, ?_⟩
  refine ks_wpAny_call_super (X1 _ _ hC) rfl ho rfl (fun c e => by cases e) (looks_mroIn X1 T.mro) (fun h2 e2 kp2 => ?_)
  have I1 := I0.kept (h' := h2) (t' := s.toks + (ps.zip us).length) kp2
  have X2 : K.In h2 := X1.keeps kp2
  have hsin : alongIn K "__init__" (((Value.ref C :: bm).dropWhile (· != .ref C)).drop 1) = some (some (.builtin "ValueError.__init__")) := by
    have z := T.sin
    unfold ks_superIn at z
    rw [hclD] at z
    exact z
  have hII : Looks (model P w) h2 (isInstance (.ref a) (.type "ValueError")) true := by
    have LT : Looks (model P w) h2 (typeOf (.ref a)) (.ref C) := fun A Q E s k q => wpAny_typeOf_ref (k _ _ (kp2 _ _ ho)) q
    exact LT.andThen (looks_subIn X2 T.sub)
  have hne : a ≠ C := by
    rintro rfl
    have z := X1 _ _ hC
    rw [ho] at z
    cases z
  refine kxs_getMethod kxs_ValueError e2 (looks_opaque X2 T.any) (hkcls X2) rfl X2 hsin hII hne (by decide) ?_
  have kp3 : ∀ b o, h2.get? b = some o → (h2.push (kxs_mw "ValueError.__init__" a)).get? b = some o := fun b o e => Heap.get?_push_of_some _ e
  have I2 := I1.kept (h' := h2.push (kxs_mw "ValueError.__init__" a)) (t' := s.toks + (ps.zip us).length + 1) kp3
  have hmw : (h2.push (kxs_mw "ValueError.__init__" a)).get? h2.objs.size = some (kxs_mw "ValueError.__init__" a) := Heap.get?_push_size _ rfl
  have ha1 : PA (ncx CX P w K mg base N ⟨"__init__", qual, params, supB msg j p0 p1 p2 p3 p4 pE rest, scope, [("__class__", cc)], cda⟩ fI A outer s H E) [.Constant (.str msg) j p3] (tCons (tC (.str msg)) tNil) := pa_cons pe_str pa_nil
  show wpAny _ _ (callWith p4 _ [] (backTo p4 ((false, eval (.Constant (.str msg) j p3) _) :: starEach [] _)) []) _ _ _
  refine kxs_callWith (i := "ValueError.__init__") (x := a) rfl (evalArgs_plain ?_)
  have I2p := I2.pins_of (pins' := [(h2.objs.size, kxs_mw "ValueError.__init__" a)]) fun p hp => by
    rw [List.mem_singleton.mp hp]
    exact ⟨hmw, I1.hok.fresh (Nat.le_refl _), Nat.ne_of_gt I1.lt, I1.nofs (Nat.le_refl _), fun v z => by cases z⟩
  refine thn (ha1.run p4 _ _ _ _ (fun vs H1 => vs = [V.str msg] ∧ H = H1) I2p ⟨rfl, rfl⟩) fun us1 s4 hh => ?_
  obtain ⟨vs1, H1, I4, r4, ev, eH⟩ := hh
  subst ev
  subst eH
  have hus : us1.length ≤ sizeLine := by
    rw [← r4.length, sizeLine_eq]; show 1 ≤ 16777216; decide
  have hu4 : s4.heap.get? h2.objs.size = some (kxs_mw "ValueError.__init__" a) := (I4.pin (h2.objs.size, kxs_mw "ValueError.__init__" a) (List.mem_append_right _ (List.mem_singleton_self _))).1
  obtain ⟨t4, ho4⟩ := exo_at I4.hok ha
  have hC4 := I4.kIn _ _ hC
  refine ⟨hu4, ?_⟩
  obtain ⟨hh, g, d, tk, os⟩ := s4
  refine wpAny_call (codeAny_of_tree ?_)
  show wpAny _ _ (callAny (.ref h2.objs.size) ⟨us1, []⟩) _ _ _
  simp only [callAny]
  refine wpAny_bind (wpAny_load hu4 ?_)
  simp only [kxs_mw, show (Value.type "method-wrapper" == Value.type "method" || Value.type "method-wrapper" == Value.type "builtin_function_or_method" || Value.type "method-wrapper" == Value.type "method-wrapper") = true by decide, if_true]
  refine KFB.if_so (by decide) ?_
  refine wpAny_bind (check_bound_init F.excBase_ValueError.toExcCallFacts hC4 ho4 rfl ?_)
  refine wpAny_bind (wpAny_pure (wpAny_pure ?_))
  refine ⟨plainId_quiet F.excBase_ValueError.init.plain _, codeAny_builtin F.excBase_ValueError.initEntry ?_⟩
  refine exc_init_tree (cls := .ref C) (t0 := t4) (dv := none) (c2 := .none) (c3 := .none) (b4 := .bool false) ho4 hus fun h' kp e' t' => ?_
  have J0 := I4.write (t' := tk) (x := a) (e := a) (o := exo a C none) (by rw [ha]; exact True.intro) (.inl rfl) kp ⟨_, e'⟩ (exo_ok e')
  have eu : upd H a (exo a C none) = H := by
    funext b
    by_cases hb : b = a
    · rw [hb, upd_same, ha]
    · rw [upd_ne hb]
  rw [eu] at J0
  have J := J0.pins_of (pins' := []) fun p hp => by cases hp
  obtain ⟨t, ht, hq⟩ := hbody A outer s H _ Q E hsp
  refine wpAt_of_wpAny ?_
  refine wpAny_mono (ht.run [] _ _ H _ J hq) (fun fl s' hs => ?_) fun e s' hs => hs
  have fin : ∀ {σ' : L2.St} {H' : Hp} {v : V} {u : Value}, Inv (ncx CX P w K mg base N ⟨"__init__", qual, params, supB msg j p0 p1 p2 p3 p4 pE rest, scope, [("__class__", cc)], cda⟩ fI A outer s H E) [] σ' H' s' → RelV v u → Q v H' → CE outer P w H s Q u s' :=
    fun {σ' H' v u} J rv q => ⟨v, H', J.os, J.bare, J.base, J.hok, rv, q⟩
  cases fl with
  | ret u =>
    obtain ⟨v, σ', H', J, rv, q⟩ := hs
    exact fin J rv q
  | next =>
    obtain ⟨σ', H', J, q⟩ := hs
    exact fin (v := V.non) (u := Value.none) J rfl q
  | brk =>
    obtain ⟨_, _, _, q⟩ := hs
    exact False.elim q
  | cont =>
    obtain ⟨_, _, _, q⟩ := hs
    exact False.elim q
end
end FX
/-! text W20 -/
/-! W20: own errors with fields, made and raised. -/
namespace FX
open PySem PySem.Spec PyProof.Rows L2 NdefX
/-- __init__(self, x, y): self.f1 = x; self.f2 = y -/
def spU (C : Addr) (f1 f2 : Str) : Sp := fun vs H Q _ => ∃ a x y, vs = [.ref a, x, y] ∧ H a = some (exo a C none) ∧ ∀ dx H', H dx = none → dx ≠ a → H' a = some (exo a C (some dx)) → H' dx = some (exd dx [(f2, y), (f1, x)]) → (∀ b, b ≠ a → b ≠ dx → H' b = H b) → Q .non H'
/-- the same, self.f2 = list(y) -/
def spP (C : Addr) (f1 f2 : Str) : Sp := fun vs H Q _ => ∃ a x p ys, vs = [.ref a, x, .ref p] ∧ H p = some (.lst ys) ∧ H a = some (exo a C none) ∧ ∀ dx q H', H q = none → H dx = none → dx ≠ a → q ≠ a → q ≠ dx → H' a = some (exo a C (some dx)) → H' dx = some (exd dx [(f2, .ref q), (f1, x)]) → H' q = some (.lst ys) → (∀ b, b ≠ a → b ≠ dx → b ≠ q → H' b = H b) → Q .non H'
section
variable {P : Program} {w : World} {K : PySem.W.Frag} {mg : Str → Option Value} {base : Heap} {CX : CXT} {k : Nat} {C fI cc cda : Addr} {qual : Str} {params : Arguments} {scope : Scope} {fd : FuncData} {msg f1 f2 x y : Str} {j : Nat} {p0 p1 p2 p3 p4 pE a1 a2 a3 a4 b1 b2 b3 b4 b5 b6 : Pos}
theorem spU_ok {ar : Arg} (T : SupInit P K mg C fI qual params (supB msg j p0 p1 p2 p3 p4 pE [.Assign [.Attribute (.Name "self" a1) f1 a2] (.Name x a3) a4, .Assign [.Attribute (.Name "self" b1) f2 b2] (.Name y b3) b4]) scope fd cc cda)
    (S : NScope ["self", x, y, "__class__"] ["self", x, y] ["__class__"] scope) (hpar : (params.posonlyargs ++ params.args).head? = some ar) (har : ar.arg = ("self" : Str))
    {pl : Env → Sem Bool} (het : ∀ env : Env, eval (.Call (.Attribute (.Call (.Name "super" p0) [] [] p1) "__init__" p2) [.Constant (.str msg) j p3] [] p4) env = (do
      let ov ← attributeBase (.Call (.Name "super" p0) [] [] p1) "__init__" env (eval (.Call (.Name "super" p0) [] [] p1) env)
      standAt p2.atName
      let (f, first) ← holding [ov] (getMethod ov "__init__" (pl env))
      callWith p4 f first (backTo p4 (starEach [.Constant (.str msg) j p3] env)) []))
    (hks : scope.names.lookup ("super" : Str) = some .globalImplicit) (hn1 : PySem.W.findIn K (.ref C) f1 = some none) (hn2 : PySem.W.findIn K (.ref C) f2 = some none)
    (hd : (x == ("__debug__" : Str)) = false) (hcd : (x == ("__classdict__" : Str)) = false) (hd' : (y == ("__debug__" : Str)) = false) (hcd' : (y == ("__classdict__" : Str)) = false)
    (hs1 : ∀ env, swapsWith (.Name x a3) (some (.Attribute (.Name "self" a1) f1 a2)) a4.line env = pure false) (hs2 : ∀ env, swapsWith (.Name y b3) (some (.Attribute (.Name "self" b1) f2 b2)) b4.line env = pure false) :
    FnOk P w K mg base CX (k + 1) fI fd ["self", x, y] (spU C f1 f2) := by
  refine sup_ok (pl := pl) T S hpar har rfl het hks (fun vs H Q E ⟨a, u, v, e, _⟩ => by rw [e]; rfl) (fun vs H Q E ⟨a, u, v, e, h, _⟩ => ⟨a, _, e, h⟩) fun A outer s H vs Q E ⟨a, u, v, e, h, q⟩ => ?_
  subst e
  refine ⟨tSeq (tOst K f1 (tVar 0) (tVar 1)) (tSeq (tOst K f2 (tVar 0) (tVar 2)) tNext), ?_, ?_⟩
  · have vis : ∀ z ∈ (["self", x, y] : List Str), Vis scope z := fun z hz => .inl (S.par z hz)
    exact pss_cons (ps_ost (pe_var (i := 0) rfl (vis _ (by simp)) (by decide) (by decide)) (pe_var (i := 1) rfl (vis _ (by simp)) hd hcd) (hs1 _))
      (pss_cons (ps_ost (pe_var (i := 0) rfl (vis _ (by simp)) (by decide) (by decide)) (pe_var (i := 2) rfl (vis _ (by simp)) hd' hcd') (hs2 _)) pss_nil)
  · refine ⟨u, rfl, .ref a, rfl, a, C, rfl, T.o, hn1, .inl ⟨h, fun dx nx ne => ?_⟩⟩
    have e1 : (upd (upd H dx (exd dx [(f1, u)])) a (exo a C (some dx))) dx = some (exd dx [(f1, u)]) := by rw [upd_ne ne, upd_same]
    refine ⟨v, rfl, .ref a, rfl, a, C, rfl, T.o, hn2, .inr ⟨dx, [(f1, u)], upd_same, e1, by show 1 ≤ 900; decide, ?_⟩⟩
    exact q dx _ nx ne (by rw [upd_ne (Ne.symm ne), upd_same]) upd_same fun b ha hb => by rw [upd_ne hb, upd_ne ha, upd_ne hb]
theorem spP_ok {ar : Arg} {l1 l2 : Pos} (T : SupInit P K mg C fI qual params (supB msg j p0 p1 p2 p3 p4 pE [.Assign [.Attribute (.Name "self" a1) f1 a2] (.Name x a3) a4, .Assign [.Attribute (.Name "self" b1) f2 b2] (.Call (.Name "list" l1) [.Name y b3] [] l2) b4]) scope fd cc cda)
    (S : NScope ["self", x, y, "__class__"] ["self", x, y] ["__class__"] scope) (hpar : (params.posonlyargs ++ params.args).head? = some ar) (har : ar.arg = ("self" : Str))
    {pl : Env → Sem Bool} (het : ∀ env : Env, eval (.Call (.Attribute (.Call (.Name "super" p0) [] [] p1) "__init__" p2) [.Constant (.str msg) j p3] [] p4) env = (do
      let ov ← attributeBase (.Call (.Name "super" p0) [] [] p1) "__init__" env (eval (.Call (.Name "super" p0) [] [] p1) env)
      standAt p2.atName
      let (f, first) ← holding [ov] (getMethod ov "__init__" (pl env))
      callWith p4 f first (backTo p4 (starEach [.Constant (.str msg) j p3] env)) []))
    (hks : scope.names.lookup ("super" : Str) = some .globalImplicit) (hkl : scope.names.lookup ("list" : Str) = some .globalImplicit) (hml : mg "list" = none) (hn1 : PySem.W.findIn K (.ref C) f1 = some none) (hn2 : PySem.W.findIn K (.ref C) f2 = some none)
    (hd : (x == ("__debug__" : Str)) = false) (hcd : (x == ("__classdict__" : Str)) = false) (hd' : (y == ("__debug__" : Str)) = false) (hcd' : (y == ("__classdict__" : Str)) = false)
    (hs1 : ∀ env, swapsWith (.Name x a3) (some (.Attribute (.Name "self" a1) f1 a2)) a4.line env = pure false) (hs2 : ∀ env, swapsWith (.Call (.Name "list" l1) [.Name y b3] [] l2) (some (.Attribute (.Name "self" b1) f2 b2)) b4.line env = pure false)
    (hst : ∀ env, starEach [.Name y b3] env = (false, eval (.Name y b3) env) :: starEach [] env) :
    FnOk P w K mg base CX (k + 1) fI fd ["self", x, y] (spP C f1 f2) := by
  refine sup_ok (pl := pl) T S hpar har rfl het hks (fun vs H Q E ⟨a, u, p, ys, e, _⟩ => by rw [e]; rfl) (fun vs H Q E ⟨a, u, p, ys, e, _, h, _⟩ => ⟨a, _, e, h⟩) fun A outer s H vs Q E ⟨a, u, p, ys, e, hp, h, q⟩ => ?_
  subst e
  refine ⟨tSeq (tOst K f1 (tVar 0) (tVar 1)) (tSeq (tOst K f2 (tVar 0) (tCB (fun xs H Q => ∃ p ys, xs = [.ref p] ∧ (SqL K H p ys ∨ SqT K H p ys) ∧ ∀ l, H l = none → Q (.ref l) (upd H l (.lst ys))) (tCons (tVar 2) tNil))) tNext), ?_, ?_⟩
  · have vis : ∀ z ∈ (["self", x, y] : List Str), Vis scope z := fun z hz => .inl (S.par z hz)
    exact pss_cons (ps_ost (pe_var (i := 0) rfl (vis _ (by simp)) (by decide) (by decide)) (pe_var (i := 1) rfl (vis _ (by simp)) hd hcd) (hs1 _))
      (pss_cons (ps_ost (pe_var (i := 0) rfl (vis _ (by simp)) (by decide) (by decide)) (pe_callTy call_list_of hkl hml (show bootBuiltins "list" = some (.type "list") by first | boot_by_name | rfl | kernel_rfl) (pa_cons (pe_var (i := 2) rfl (vis _ (by simp)) hd' hcd') pa_nil (hst _)) (by decide) (by decide) (hst _) rfl) (hs2 _)) pss_nil)
  · refine ⟨u, rfl, .ref a, rfl, a, C, rfl, T.o, hn1, .inl ⟨h, fun dx nx ne => ?_⟩⟩
    have np : p ≠ a := fun z => by rw [z, h] at hp; cases hp
    have nd : p ≠ dx := fun z => by rw [z, nx] at hp; cases hp
    have hp1 : (upd (upd H dx (exd dx [(f1, u)])) a (exo a C (some dx))) p = some (.lst ys) := by rw [upd_ne np, upd_ne nd]; exact hp
    refine ⟨.ref p, rfl, p, ys, rfl, .inl (.inl (.inl hp1)), fun l nl => ?_⟩
    have la : l ≠ a := fun z => by rw [z, upd_same] at nl; cases nl
    have ld : l ≠ dx := fun z => by rw [z, upd_ne ne, upd_same] at nl; cases nl
    have nl' : H l = none := by rw [upd_ne la, upd_ne ld] at nl; exact nl
    have e0 : (upd (upd (upd H dx (exd dx [(f1, u)])) a (exo a C (some dx))) l (.lst ys)) a = some (exo a C (some dx)) := by rw [upd_ne (Ne.symm la), upd_same]
    have e1 : (upd (upd (upd H dx (exd dx [(f1, u)])) a (exo a C (some dx))) l (.lst ys)) dx = some (exd dx [(f1, u)]) := by rw [upd_ne (Ne.symm ld), upd_ne ne, upd_same]
    refine ⟨.ref a, rfl, a, C, rfl, T.o, hn2, .inr ⟨dx, [(f1, u)], e0, e1, by show 1 ≤ 900; decide, ?_⟩⟩
    refine q dx l _ nl' nx ne la ld (by rw [upd_ne (Ne.symm ne)]; exact e0) upd_same (by rw [upd_ne ld, upd_same]) fun b ha hb hl => by rw [upd_ne hb, upd_ne hl, upd_ne ha, upd_ne hb]
end
end FX
/-! text W21 -/
/-! W21: raise, try. -/
namespace FS
open PySem PySem.Spec PyProof.Rows L2
structure XcU (B : Bg) (j : Nat) (x : Str) (C : Addr) (sp : Sp) : Prop where
  mg : B.mg x = some (.ref C)
  o : OexC B.K C
  ex : ∃ fI fd ps, PySem.W.findIn B.K (.ref C) "__init__" = some (some (.ref fI)) ∧ PySem.W.typeIn B.K (.ref fI) = some (.type "function") ∧ FnOk B.P B.w B.K B.mg B.base CX0 j fI fd ps sp ∧ Binds B.K fd ps []
section
variable {B : Bg} {N : List Str} {sc : Scope} {k : Nat} {S : Sit B N sc k} {G : Gam} {L : Sto} {a b c e o : Expr} {es : List Expr} {pos pos2 p apos : Pos} {post : D → Sto → Prop} {xp : XPost} {x f1 f2 : Str} {C : Addr} {j : Nat}
/-- what lies behind a made error -/
theorem same_mk {H1 H' : Hp} {q dx : Addr} {C : Addr} {fs : List (Str × V)} (n1 : H1 q = none) (n2 : H1 dx = none) (ne : dx ≠ q) (hk : ∀ b, b ≠ q → b ≠ dx → H' b = (upd H1 q (exo q C none)) b) : upd (del H' q) dx (.xd fs) = upd H1 dx (.xd fs) := by
  funext b
  by_cases hb : b = dx
  · rw [hb, upd_same, upd_same]
  · rw [upd_ne hb, upd_ne hb]
    by_cases hq : b = q
    · rw [hq, del_same, n1]
    · rw [del_ne hq, hk b hq hb, upd_ne hq]
theorem wo_raiseU {E : AE} (M : XcU B j x C (FX.spU C f1 f2)) (hj : j + 1 ≤ k) (h : Wa S G L [a, b] fun ds L1 => ∃ d1 d2, ds = [d1, d2] ∧ E.xc C [(f2, d2), (f1, d1)] L1) (hg : sc.names.lookup x = some .globalImplicit := by rfl) (hdb : (x == ("__debug__" : Str)) = false := by decide)
    (he : ∀ env, starEach [a, b] env = (false, eval a env) :: starEach [b] env := by intro _; rfl) (hpl : ∀ env, (backTo pos (starEach [b] env)).any (·.1) = false := by intro _; rfl) : Wo S G L (.Raise (some (.Call (.Name x p) [a, b] [] pos)) none pos2) E := fun σ H A D c => by
  obtain ⟨fI, fd, ps, iC, tI, F1, hb⟩ := M.ex
  refine ⟨fun _ σ H => tMkO C (FX.spU C f1 f2) [] (MA S [a, b]) σ H fun cls d H' => S.W cls d H', fun X hX => ?_, h σ H A _ fun ds L1 vs H1 ⟨d1, d2, ed, w⟩ k1 s1 r1 => ?_⟩
  · have h2 := ma hX (e := [a, b]); have h3 := S.tk X hX
    obtain ⟨y, rfl, hr⟩ := S.fam X hX
    exact ps_raise rfl h3 (pmk_oex M.o iC tI F1 (Room.mono (show Room k y.A from hr) hj) hb .nil pass0 hg M.mg h2 hdb (he _) (hpl _))
  · subst ed
    obtain ⟨v1, v2, rfl, rv1, rv2⟩ := reps2 r1
    refine ⟨by show 2 ≤ 1000; decide, fun q nq => ⟨q, v1, v2, rfl, upd_same, fun dx H' nd ne e1 e2 hk => ⟨rfl, dx, _, e1, e2, ?_, ?_⟩⟩⟩
    · rw [upd_ne ne] at nd; exact nd
    · have nd' : H1 dx = none := by rw [upd_ne ne] at nd; exact nd
      rw [same_mk nq nd' ne hk]
      have sm := same_upd (o := .xd [(f2, v2), (f1, v1)]) nd'
      exact c.xc C _ L1 dx _ _ w (k1.trans (keep_same sm)) (s1.same sm) (rep_new nd' s1) upd_same (.cons (rv2.mono (keep_same sm).kp) (.cons (rv1.mono (keep_same sm).kp) .nil))
theorem wo_raiseP {E : AE} (M : XcU B j x C (FX.spP C f1 f2)) (hj : j + 1 ≤ k) (h : Wa S G L [a, b] fun ds L1 => ∃ d1 d2, ds = [d1, .lst d2] ∧ E.xc C [(f2, .lst d2), (f1, d1)] L1) (hg : sc.names.lookup x = some .globalImplicit := by rfl) (hdb : (x == ("__debug__" : Str)) = false := by decide)
    (he : ∀ env, starEach [a, b] env = (false, eval a env) :: starEach [b] env := by intro _; rfl) (hpl : ∀ env, (backTo pos (starEach [b] env)).any (·.1) = false := by intro _; rfl) : Wo S G L (.Raise (some (.Call (.Name x p) [a, b] [] pos)) none pos2) E := fun σ H A D c => by
  obtain ⟨fI, fd, ps, iC, tI, F1, hb⟩ := M.ex
  refine ⟨fun _ σ H => tMkO C (FX.spP C f1 f2) [] (MA S [a, b]) σ H fun cls d H' => S.W cls d H', fun X hX => ?_, h σ H A _ fun ds L1 vs H1 ⟨d1, d2, ed, w⟩ k1 s1 r1 => ?_⟩
  · have h2 := ma hX (e := [a, b]); have h3 := S.tk X hX
    obtain ⟨y, rfl, hr⟩ := S.fam X hX
    exact ps_raise rfl h3 (pmk_oex M.o iC tI F1 (Room.mono (show Room k y.A from hr) hj) hb .nil pass0 hg M.mg h2 hdb (he _) (hpl _))
  · subst ed
    obtain ⟨v1, v2, rfl, rv1, rv2⟩ := reps2 r1
    cases rv2 with
    | @lst pp _ ys hn hp ry =>
    refine ⟨by show 2 ≤ 1000; decide, fun q nq => ⟨q, v1, pp, ys, rfl, ?_, upd_same, fun dx l H' nl nd ne la ld e1 e2 e3 hk => ⟨rfl, dx, _, e1, e2, ?_, ?_⟩⟩⟩
    · have : pp ≠ q := fun z => by rw [z, nq] at hp; cases hp
      rw [upd_ne this]; exact hp
    · rw [upd_ne ne] at nd; exact nd
    · have nd' : H1 dx = none := by rw [upd_ne ne] at nd; exact nd
      have nl' : H1 l = none := by rw [upd_ne la] at nl; exact nl
      have eH : upd (del H' q) dx (.xd [(f2, .ref l), (f1, v1)]) = upd (upd H1 l (.lst ys)) dx (.xd [(f2, .ref l), (f1, v1)]) := by
        funext b
        by_cases hb : b = dx
        · rw [hb, upd_same, upd_same]
        · rw [upd_ne hb, upd_ne hb]
          by_cases hl : b = l
          · rw [hl, upd_same, del_ne la]; exact e3
          · rw [upd_ne hl]
            by_cases hq : b = q
            · rw [hq, del_same, nq]
            · rw [del_ne hq, hk b hq hb hl, upd_ne hq]
      rw [eH]
      have sm1 := same_upd (o := .lst ys) nl'
      have nd2 : (upd H1 l (.lst ys)) dx = none := by rw [upd_ne (Ne.symm ld)]; exact nd'
      have s2 := s1.same sm1
      have sm := same_upd (o := .xd [(f2, .ref l), (f1, v1)]) nd2
      have kk := (keep_same (L := L1) sm1).trans (keep_same sm)
      refine c.xc C _ L1 dx _ _ w (k1.trans kk) (s2.same sm) (rep_new nd2 s2) upd_same (.cons (.lst (rep_new nl' s1) (by rw [upd_ne ld, upd_same]) (ry.mono kk.kp)) (.cons (rv1.mono kk.kp) .nil))
end
end FS
/-! text W22 -/
/-! W22: try with several clauses, each with its name. -/
namespace FX
open PySem PySem.Spec PyProof.Rows L2
abbrev TsA := Addr → Value → Option Addr → TS
/-- what the clauses `except c as n` wish of an exception, one after the other; i: n's slot -/
def wManyA (K : PySem.W.Frag) (i : Nat) (Wout : WX) (D : Ends) : List (Value × TsA) → WX
  | [] => Wout
  | (c, ts) :: r => fun cls d σ H => ∃ b, PySem.W.exmOne K cls c = some b ∧ (b = true → ∀ a, H a = none → ts a cls d { nx := fun σ' H' => D.nx (σ'.set i none) H', rt := D.rt, bk := fun σ' H' => D.bk (σ'.set i none) H', ct := fun σ' H' => D.ct (σ'.set i none) H' } (σ.set i (some (.ref a))) H) ∧ (b = false → wManyA K i Wout D r cls d σ H)
inductive HdsA (X : Cx) (i : Nat) (n : Str) : List ExceptHandler → List (Value × TsA) → Prop
  | nil : HdsA X i n [] []
  | cons {x : Str} {c : Value} {ts : TsA} {b₀ : Stmt} {suite : List Stmt} {np pos' : Pos} {hds : List ExceptHandler} {l : List (Value × TsA)} (hc : Names X x c)
      (hsu : ∀ (a : Addr) (oe : Obj) (cls : Value) (d : Option Addr) (pn : List (Addr × Obj)), Zc cls d oe → (∃ vs, oe.data = .fields vs) → PSs (X.suite a ((a, oe) :: pn)) (b₀ :: suite) (ts a cls d)) (r : HdsA X i n hds l) :
      HdsA X i n (.ExceptHandler (some (.Name x np)) (some n) (b₀ :: suite) pos' :: hds) ((c, ts) :: l)
section
variable {X : Cx} {n : Str} {i : Nat} {body : List Stmt} {h₀ : ExceptHandler} {hds : List ExceptHandler} {l : List (Value × TsA)} {pos : Pos} {tb : WX → TS} {Wout : WX}
theorem ps_try_manyA (hs : X.stack = X.env :: X.outer) (hf : X.env.frame = some X.env.locals) (hN : X.N.Nodup) (hi : X.N[i]? = some n) (hln : X.env.kindOf n = some .local) (tk : Takes X Wout)
    (hb : ∀ (W : WX) (pn : List (Addr × Obj)) (xe : Value → Shared → Prop), Takes (X.tr pn xe) W → PassesOwn (model X.prog X.w) X.A X.env xe → PSs (X.tr pn xe) body (tb W))
    (hh : HdsA X i n (h₀ :: hds) l) : PS X (.Try body (h₀ :: hds) [] [] pos) (fun D σ H => tb (wManyA X.K i Wout D l) D σ H) := by
  refine ⟨fun pins s σ H D I h => ?_⟩
  have ok := I.ok
  have hfr : X.A.frames = some (X.env :: X.outer) := by rw [ok.frames, hs]
  have hloc : Loc X.env.scope n := .inl hln
  refine wpAny_Try_except ?_
  refine wpAny_mono ((hb (wManyA X.K i Wout D l) (X.pn ++ pins)
    (fun e s₁ => wpAny (model X.prog X.w) X.A (noteFrame e X.env)
      (fun _ s₂ => wpAny (model X.prog X.w) X.A (setFlight e none) (fun _ s₃ => wpAny (model X.prog X.w) X.A (handleBy e X.env (h₀ :: hds)) (SP X pins D) X.xe s₃) X.xe s₂) X.xe s₁) (fun u s' xx => ?_) PassesOwn.looking).run [] s σ H D (I.toTry _) h)
    (fun f s1 hsp => ?_) (fun e s1 he => he)
  · obtain ⟨a, B, sI, pins', σ', H', cls, d, rfl, J', nb, up, sky, na, os, ag, w⟩ := xx
    have J : Inv X pins σ' H' sI := J'.ofTry ok
    have sky' : Sky B (X.env :: X.outer) a (Zc cls d) X.env.locals s'.heap := by rw [← hs]; exact sky
    show wpAny (model X.prog X.w) X.A (noteFrame (.ref a) X.env) _ _ _
    refine Sky.land Zc.steady hfr hf sky' fun h3 fl3 up3 => ?_
    have J3 : Inv X pins σ' H' { s' with heap := h3 } := J.landed nb fl3.1 (up.trans up3) os ag
    obtain ⟨oe3, vs3, he3, hz3, hd3⟩ := fl3.there
    have notFr : ∀ {h : Heap} {o : Obj} {vs : Array Value}, h.FunFrames B (X.env :: X.outer) → h.get? a = some o → o.data = .fields vs → a ∉ frs (X.env :: X.outer) := fun {h o vs} ff e dd hm => by
      obtain ⟨_, o', e', hnf⟩ := ff.mem hm
      rw [e] at e'; cases e'
      exact hnf _ dd
    have nfr := notFr fl3.2.2.1 he3 hd3
    have nL : a ≠ X.env.locals := fun z => nfr (List.mem_filterMap.mpr ⟨X.env, List.mem_cons_self, by rw [hf, z]⟩)
    have nF : a ∉ X.fs := fun hm => by
      obtain ⟨e, he, q⟩ := List.mem_filterMap.mp hm
      exact nfr (List.mem_filterMap.mpr ⟨e, List.mem_cons_of_mem _ he, q⟩)
    have S3 := J3.suite he3 hd3 na nL nF
    have go : ∀ {hds' : List ExceptHandler} {l' : List (Value × TsA)}, HdsA X i n hds' l' → wManyA X.K i Wout D l' cls d σ' H' →
        wpAny (model X.prog X.w) X.A (handleBy (.ref a) X.env hds') (SP X pins D) X.xe { s' with heap := h3 } := by
      intro hds' l' hk
      induction hk with
      | nil =>
        intro w
        refine wpAny_handleBy_nil ?_
        obtain ⟨k1, k2, k3, oe, vs, T, oT, ts', he, hz, hd, h1, hr⟩ := id fl3
        unfold PySem.passOn
        refine wpAny_bind (wpAny_field he hd h1 ?_)
        rw [if_neg (show ¬ ((Value.ref T == Value.none) = true) from by simp)]
        have fin : wpAny (model X.prog X.w) X.A (setFlight (.ref a) X.env.frame) (fun _ s4 => wpAny (model X.prog X.w) X.A (throw (.ref a) : Sem Flow) (SP X pins D) X.xe s4) X.xe { s' with heap := h3 } := by
          rw [hf]
          refine HandSPX.setFlight_upZ fl3 fun h4 hh4 up4 => wpAny_throw (tk _ _ ?_)
          exact ⟨a, B, sI, pins, σ', H', cls, d, rfl, J, nb, (up.trans up3).trans up4, .inr (.inr (by rw [hs]; exact hh4)), na, os, ag, w⟩
        first
          | exact wpAny_bind (wpAny_pure (wpAny_bind fin))
          | exact wpAny_bind fin
      | @cons x c ts b₀ suite np pos' hds2 l2 hc hsu r ih =>
        intro w
        obtain ⟨b, hb1, hyes, hno⟩ := w
        refine wpAny_handleBy_cons (codeAny_handlers_test ?_) (by intro q; cases q)
        have LT : PySem.W.Looks (model X.prog X.w) h3 (typeOf (.ref a)) cls := fun A Q E s k q => wpAny_typeOf_ref (k _ _ he3) (by rw [hz3.1]; exact q)
        have LM := PySem.W.exm_one (M := model X.prog X.w) (J3.kIn) LT hb1
        have test : ∀ {Q : Value → Shared → Prop} {E : Value → Shared → Prop}, Q c { s' with heap := h3 } → wpAny (model X.prog X.w) (X.A.mark (some (.ref a))) (eval (.Name x np) X.env) Q E { s' with heap := h3 } := fun {Q E} q => by
          obtain ⟨hg, hdbg, hm | ⟨hm, hv, hnn⟩⟩ := hc
          · exact ld_glob (X := X.suite a ((a, oe3) :: (X.pn ++ pins))) S3 hg hm q hdbg
          · exact ld_blt (X := X.suite a ((a, oe3) :: (X.pn ++ pins))) S3 hg hm hv q hnn hdbg
        refine test (LM.here ?_)
        cases b with
        | true =>
          refine codeAny_handlers_suite_as ?_
          refine HandSPX.lands_againZ fl3 fun h4 fl4 up4 => ?_
          have J4 : Inv X pins σ' H' { s' with heap := h4 } := J.landed nb fl4.1 ((up.trans up3).trans up4) os ag
          obtain ⟨oe4, vs4, he4, hz4, hd4⟩ := fl4.there
          have S4 := J4.suite he4 hd4 na nL nF
          refine store_ok (X := X.suite a ((a, oe4) :: (X.pn ++ pins))) (v := .ref a) S4 hN hi hloc rfl (fun s5 S5 => ?_) (.inr hln)
          refine wpAny_mono ((hsu a oe4 cls d (X.pn ++ pins) hz4 ⟨_, hd4⟩).run [] s5 _ H' _ S5 (hyes rfl a na)) (fun f s6 hsp => ?_) (fun _ _ z => False.elim z)
          have end_ : ∀ {σ6 : L2.St} {H6 : Hp} {Q : Shared → Prop}, Inv (X.suite a ((a, oe4) :: (X.pn ++ pins))) [] σ6 H6 s6 → (∀ s7, Inv X pins (σ6.set i none) H6 s7 → Q s7) →
              wpAny (model X.prog X.w) X.A (do bindName X.env n .none; unbindBehindTheSuite X.env n pos') (fun _ s7 => Q s7) X.xe s6 := fun {σ6 H6 Q} S6 hq => gone_ok (S6.unsuite ok) hN hi hln hq
          cases f with
          | next =>
            obtain ⟨σ6, H6, S6, q6⟩ := hsp
            exact end_ S6 fun s7 J7 => ⟨_, _, J7, q6⟩
          | brk =>
            obtain ⟨σ6, H6, S6, q6⟩ := hsp
            exact end_ S6 fun s7 J7 => ⟨_, _, J7, q6⟩
          | cont =>
            obtain ⟨σ6, H6, S6, q6⟩ := hsp
            exact end_ S6 fun s7 J7 => ⟨_, _, J7, q6⟩
          | ret u =>
            obtain ⟨v6, σ6, H6, S6, r6, q6⟩ := hsp
            exact end_ S6 fun s7 J7 => ⟨_, _, _, J7, r6, q6⟩
        | false =>
          show wpAny _ X.A (handleBy (.ref a) X.env hds2) _ _ _
          exact ih (hno rfl)
    exact go hh w
  · cases f with
    | next =>
      obtain ⟨σ', H', J', q⟩ := hsp
      exact wpAny_execs_nil ⟨σ', H', J'.ofTry ok, q⟩
    | brk =>
      obtain ⟨σ', H', J', q⟩ := hsp
      exact ⟨σ', H', J'.ofTry ok, q⟩
    | cont =>
      obtain ⟨σ', H', J', q⟩ := hsp
      exact ⟨σ', H', J'.ofTry ok, q⟩
    | ret u =>
      obtain ⟨v, σ', H', J', r, q⟩ := hsp
      exact ⟨v, σ', H', J'.ofTry ok, r, q⟩
end
end FX
/-! text W23 -/
/-! W23: try, calls of methods by keywords. -/
namespace FX
open PySem PySem.Spec PyProof.Rows L2
/-- o.m(e, .., k = v) -/
def tMethN (C : Addr) (m : Str) (n cnt : Nat) (sp : Sp) (gV : List V → List V → List V) (E : XK) (ta : TE) (t tk : TA) : TE := fun σ H Q => ta σ H fun x H1 => ∃ a dx fs, x = .ref a ∧ H1 a = some (.ins C dx fs) ∧ fs.lookup m = none ∧
  t σ H1 fun vs H2 => tk σ H2 fun zs H3 => (x :: vs).length = n ∧ zs.length = cnt ∧ sp (gV (x :: vs) zs) H3 Q E
section
variable {X : Cx} {CX : CXT} {k n : Nat} {f C : Addr} {fd : FuncData} {ps ks : List Str} {sp : Sp} {E : XK} {x m : Str} {p pos apos : Pos} {o e : Expr} {es : List Expr} {kws : List Keyword} {ta : TE} {t tk : TA} {g : List Value → List Value → List Value} {gV : List V → List V → List V}
theorem pe_methN {pl : Sem Bool} (he : PE X o ta) (c : Cls X.K C) (hm : Meth X.K C m f) (F : FnOk X.prog X.w X.K X.mg X.base CX k f fd ps sp) (hr : Room k X.A) (hb : KBn X.K fd ps n ks g gV) (hx : Passes CX X E) (ha : PA X (e :: es) t) (hkw : PK X kws tk)
    (hall : (backToKw pos (keywordEach kws X.env)).all (·.1.isSome) = true) (hks : (backToKw pos (keywordEach kws X.env)).filterMap (·.1) = ks)
    (hst : starEach (e :: es) X.env = (false, eval e X.env) :: starEach es X.env) (hpl : ((backTo pos (starEach (e :: es) X.env)).any (·.1) || (backToKw pos (keywordEach kws X.env)).any (·.1.isNone)) = false)
    (ht : eval (.Call (.Attribute o m apos) (e :: es) kws pos) X.env = (do
      let ov ← eval o X.env
      standAt apos.atName
      let (f, first) ← holding [ov] (getMethod ov m pl)
      callWith pos f first (backTo pos (starEach (e :: es) X.env)) (backToKw pos (keywordEach kws X.env)))) :
    PE X (.Call (.Attribute o m apos) (e :: es) kws pos) (tMethN C m n ks.length sp gV E ta t tk) := by
  refine ⟨fun pins s σ H Q I h => ?_⟩
  refine PySem.W.methodCall_KW (pl := pl) (thn (he.run pins s σ H _ I h) fun u s1 ⟨x, H1, I1, rx, a, dx, fs, ex, ea, l, q⟩ => ?_) ht
  subst ex
  obtain rfl : u = Value.ref a := rx
  refine getmeth_ok I1 ea c hm l ?_
  refine PySem.W.callWith_KW (first := [.ref a]) (h₀ := X.base) I1.ok.mod.kin hm.kp hall (thn (ha.run pos pins s1 σ H1 _ I1 q) fun us s2 ⟨vs, H2, I2, r, q2⟩ => ?_) hpl hst
  refine thn (hkw.run pos pins s2 σ H2 _ I2 q2) fun ws s3 ⟨zs, H3, I3, rz, l1, l2, q3⟩ => ⟨I3.kIn, ?_⟩
  rw [hks]
  exact run_fnN (us := .ref a :: us) (vs := .ref a :: vs) F hr hb hx I3 (.cons rfl r) rz l1 l2 q3
end
end FX
namespace FS
open PySem PySem.Spec PyProof.Rows L2
/-- the body of a try: what is wished of its exceptions is W -/
def Sit.tr {B : Bg} {N : List Str} {sc : Scope} {k : Nat} (S : Sit B N sc k) (W : WX) : Sit B N sc k where
  X := fun X' => ∃ X pn xe, S.X X ∧ X' = X.tr pn xe ∧ Takes X' W ∧ PassesOwn (model X.prog X.w) X.A X.env xe
  fam := fun x ⟨X, pn, xe, hX, e, _⟩ => by
    obtain ⟨y, rfl, hr⟩ := S.fam X hX
    subst e
    exact ⟨(B.put N sc y).tr pn xe, rfl, hr⟩
  pass := fun x ⟨X, pn, xe, hX, e, _, hp⟩ => by subst e; exact hp
  bd := S.bd
  fn := fun hb x ⟨X, pn, xe, hX, e, _⟩ y => by subst e; exact S.fn hb X hX y
  st := fun hb x ⟨X, pn, xe, hX, e, _⟩ => by subst e; exact S.st hb X hX
  gd := S.gd
  gok := fun hb x ⟨X, pn, xe, hX, e, _⟩ => by subst e; exact S.gok hb X hX
  W := fun cls d H => ∀ σ : L2.St, σ.length = N.length → W cls d σ H
  tk := fun x ⟨X, pn, xe, hX, e, t, _⟩ u s' ⟨a, B', sI, pins, σ, H, cls, d, e1, I, nb, up, sky, na, os, ag, w⟩ => t u s' ⟨a, B', sI, pins, σ, H, cls, d, e1, I, nb, up, sky, na, os, ag, w σ (by
    have q := I.len
    subst e
    obtain ⟨y, rfl, _⟩ := S.fam X hX
    exact q)⟩
/-- a class that clauses name, with two fields -/
structure Hc (B : Bg) (x : Str) (C : Addr) (f1 f2 : Str) : Prop where
  mg : B.mg x = some (.ref C)
  T : XfC B.K C
  n1 : PySem.W.findIn B.K (.ref C) f1 = some none
  n2 : PySem.W.findIn B.K (.ref C) f2 = some none
section
variable {B : Bg} {N : List Str} {sc : Scope} {k : Nat} {S : Sit B N sc k} {G : Gam} {L : Sto} {a b c e o : Expr} {es : List Expr} {pos pos2 p apos : Pos} {post : D → Sto → Prop} {xp : XPost}
/-- `return (nm, e.f1, e.f2)` -/
abbrev retE (nm n f1 f2 : Str) (x1 : Nat) (q1 q2 q3 q4 q5 q6 q7 : Pos) (j : Nat) : List Stmt := [.Return (some (.Tuple [.Constant (.str nm) j q1, .Attribute (.Name n q2) f1 q3, .Attribute (.Name n q4) f2 q5] x1 q6)) q7]
def tsE (i : Nat) (nm : Str) (C : Addr) (f1 f2 : Str) : FX.TsA := fun a cls d => tSeq (tRet (tTup (tCons (tC (.str nm)) (tCons (tXf a cls d C f1 (tVar i)) (tCons (tXf a cls d C f2 (tVar i)) tNil))))) tNext
theorem tsE_ok {X : Cx} (hX : S.X X) {i : Nat} {nm x n f1 f2 : Str} {C : Addr} {x1 j : Nat} {q1 q2 q3 q4 q5 q6 q7 : Pos} (H : Hc B x C f1 f2) (hN : N[i]? = some n) (hv : sc.names.lookup n = some .local) (hd : (n == ("__debug__" : Str)) = false) (hcd : (n == ("__classdict__" : Str)) = false)
    (hb1 : ∀ env, attributeBase (.Name n q2) f1 env (eval (.Name n q2) env) = eval (.Name n q2) env) (hb2 : ∀ env, attributeBase (.Name n q4) f2 env (eval (.Name n q4) env) = eval (.Name n q4) env)
    (a : Addr) (oe : Obj) (cls : Value) (d : Option Addr) (pn : List (Addr × Obj)) (hz : Zc cls d oe) (hf : ∃ vs, oe.data = .fields vs) : PSs (X.suite a ((a, oe) :: pn)) (retE nm n f1 f2 x1 q1 q2 q3 q4 q5 q6 q7 j) (tsE i nm C f1 f2 a cls d) := by
  obtain ⟨y, rfl, _⟩ := S.fam X hX
  exact pss_cons (ps_ret (pe_tup (pa_cons pe_str (pa_cons (pe_xf H.T H.n1 hz hf (pe_var hN (.inl hv) hd hcd) (hb1 _)) (pa_cons (pe_xf H.T H.n2 hz hf (pe_var hN (.inl hv) hd hcd) (hb2 _)) pa_nil rfl) rfl) rfl))) pss_nil
theorem wo_try3 {body : List Stmt} {E : AE} {i : Nat} {n x1 x2 x3 f11 f12 f21 f22 f31 f32 : Str} {C1 C2 C3 : Addr} {nm1 nm2 nm3 : Str} {t1 t2 t3 j1 j2 j3 : Nat} {np1 np2 np3 hp1 hp2 hp3 q1 q2 q3 q4 q5 q6 q7 r1 r2 r3 r4 r5 r6 r7 u1 u2 u3 u4 u5 u6 u7 : Pos}
    (hS : S.bd = true) (c1 : Hc B x1 C1 f11 f12) (c2 : Hc B x2 C2 f21 f22) (c3 : Hc B x3 C3 f31 f32)
    (m11 : PySem.W.exmOne B.K (.ref C1) (.ref C1) = some true) (m21 : PySem.W.exmOne B.K (.ref C2) (.ref C1) = some false) (m31 : PySem.W.exmOne B.K (.ref C3) (.ref C1) = some false) (m22 : PySem.W.exmOne B.K (.ref C2) (.ref C2) = some true) (m32 : PySem.W.exmOne B.K (.ref C3) (.ref C2) = some false) (m33 : PySem.W.exmOne B.K (.ref C3) (.ref C3) = some true)
    (h : ∀ W, Ws (S.tr W) G L body { E with xc := fun C fs L' => ∃ d1 d2, (C = C1 ∧ fs = [(f12, d2), (f11, d1)] ∧ E.rt (.tup [.str nm1, d1, d2]) L') ∨ (C = C2 ∧ fs = [(f22, d2), (f21, d1)] ∧ E.rt (.tup [.str nm2, d1, d2]) L') ∨ (C = C3 ∧ fs = [(f32, d2), (f31, d1)] ∧ E.rt (.tup [.str nm3, d1, d2]) L') })
    (hN : N.Nodup := by decide +kernel) (hi : N[i]? = some n := by rfl) (hln : sc.names.lookup n = some .local := by rfl) (hd : (n == ("__debug__" : Str)) = false := by decide) (hcd : (n == ("__classdict__" : Str)) = false := by decide)
    (g1 : sc.names.lookup x1 = some .globalImplicit := by rfl) (g2 : sc.names.lookup x2 = some .globalImplicit := by rfl) (g3 : sc.names.lookup x3 = some .globalImplicit := by rfl) (d1 : (x1 == ("__debug__" : Str)) = false := by decide) (d2 : (x2 == ("__debug__" : Str)) = false := by decide) (d3 : (x3 == ("__debug__" : Str)) = false := by decide)
    (ff1 : f12 ≠ f11 := by decide) (ff2 : f22 ≠ f21 := by decide) (ff3 : f32 ≠ f31 := by decide)
    (a1 : ∀ env, attributeBase (.Name n q2) f11 env (eval (.Name n q2) env) = eval (.Name n q2) env := by intro _; rfl) (a2 : ∀ env, attributeBase (.Name n q4) f12 env (eval (.Name n q4) env) = eval (.Name n q4) env := by intro _; rfl)
    (b1 : ∀ env, attributeBase (.Name n r2) f21 env (eval (.Name n r2) env) = eval (.Name n r2) env := by intro _; rfl) (b2 : ∀ env, attributeBase (.Name n r4) f22 env (eval (.Name n r4) env) = eval (.Name n r4) env := by intro _; rfl)
    (e1 : ∀ env, attributeBase (.Name n u2) f31 env (eval (.Name n u2) env) = eval (.Name n u2) env := by intro _; rfl) (e2 : ∀ env, attributeBase (.Name n u4) f32 env (eval (.Name n u4) env) = eval (.Name n u4) env := by intro _; rfl) :
    Wo S G L (.Try body [.ExceptHandler (some (.Name x1 np1)) (some n) (retE nm1 n f11 f12 t1 q1 q2 q3 q4 q5 q6 q7 j1) hp1, .ExceptHandler (some (.Name x2 np2)) (some n) (retE nm2 n f21 f22 t2 r1 r2 r3 r4 r5 r6 r7 j2) hp2, .ExceptHandler (some (.Name x3 np3)) (some n) (retE nm3 n f31 f32 t3 u1 u2 u3 u4 u5 u6 u7 j3) hp3] [] [] pos) E := fun σ H A D c => by
  refine ⟨fun D σ H => MSs (S.tr (FX.wManyA B.K i (fun cls d _ H => S.W cls d H) D [(.ref C1, tsE i nm1 C1 f11 f12), (.ref C2, tsE i nm2 C2 f21 f22), (.ref C3, tsE i nm3 C3 f31 f32)])) body D σ H, fun X hX => ?_, ?_⟩
  · obtain ⟨s1, s2⟩ := S.st hS X hX
    have tk := S.tk X hX
    have hb : ∀ (W : WX) (pn : List (Addr × Obj)) (xe : Value → Shared → Prop), Takes (X.tr pn xe) W → PassesOwn (model X.prog X.w) X.A X.env xe → PSs (X.tr pn xe) body (MSs (S.tr W) body) := fun W pn xe tk ps => mss (S := S.tr W) ⟨X, pn, xe, hX, rfl, tk, ps⟩
    have k1 := tsE_ok (i := i) (nm := nm1) (x1 := t1) (j := j1) (q1 := q1) (q3 := q3) (q5 := q5) (q6 := q6) (q7 := q7) hX c1 hi hln hd hcd a1 a2
    have k2 := tsE_ok (i := i) (nm := nm2) (x1 := t2) (j := j2) (q1 := r1) (q3 := r3) (q5 := r5) (q6 := r6) (q7 := r7) hX c2 hi hln hd hcd b1 b2
    have k3 := tsE_ok (i := i) (nm := nm3) (x1 := t3) (j := j3) (q1 := u1) (q3 := u3) (q5 := u5) (q6 := u6) (q7 := u7) hX c3 hi hln hd hcd e1 e2
    obtain ⟨y, rfl, _⟩ := S.fam X hX
    exact FX.ps_try_manyA s1 s2 hN hi hln tk hb (.cons ⟨g1, d1, .inl c1.mg⟩ k1 (.cons ⟨g2, d2, .inl c2.mg⟩ k2 (.cons ⟨g3, d3, .inl c3.mg⟩ k3 .nil)))
  · refine h _ σ H A D ⟨c.nx, c.rt, c.bk, c.ct, fun C fs L' dd vs H' w kp s nd hdd r σ' hl => ?_⟩
    have hil : i < σ'.length := by rw [hl]; exact (List.getElem?_eq_some_iff.mp hi).1
    have fin : ∀ {nm : Str} {C' : Addr} {g1 g2 : Str} {y1 y2 : FS.D}, g2 ≠ g1 → fs = [(g2, y2), (g1, y1)] → E.rt (.tup [.str nm, y1, y2]) L' → ∀ a, tsE i nm C' g1 g2 a (.ref C') (some dd) { nx := fun σ' H' => D.nx (σ'.set i none) H', rt := D.rt, bk := fun σ' H' => D.bk (σ'.set i none) H', ct := fun σ' H' => D.ct (σ'.set i none) H' } (σ'.set i (some (.ref a))) H' := fun {nm C' g1 g2 y1 y2} hne ef wr a => by
      subst ef
      cases r with
      | @cons _ _ v2 _ _ rv2 r' =>
      cases r' with
      | @cons _ _ v1 _ _ rv1 r'' =>
      cases r''
      have l1 : List.lookup g1 [(g2, v2), (g1, v1)] = some v1 := by
        have : (g1 == g2) = false := by simpa using Ne.symm hne
        simp [List.lookup, this]
      have l2 : List.lookup g2 [(g2, v2), (g1, v1)] = some v2 := by simp [List.lookup]
      refine ⟨.ref a, List.getElem?_set_self hil, rfl, rfl, dd, _, v1, rfl, hdd, l1, .ref a, List.getElem?_set_self hil, rfl, rfl, dd, _, v2, rfl, hdd, l2, by show 3 ≤ sizeLine; decide, fun p np => ?_⟩
      have sm : Same H' (upd H' p (.tup [.str nm, v1, v2])) := same_upd np
      exact c.rt _ L' _ _ wr (kp.trans (keep_same sm)) (s.same sm) (.tup (rep_new np s) upd_same (.cons .str (.cons (rv1.mono (keep_same sm).kp) (.cons (rv2.mono (keep_same sm).kp) .nil))))
    obtain ⟨y1, y2, w | w | w⟩ := w
    · obtain ⟨rfl, ef, w⟩ := w
      exact ⟨true, m11, fun _ a _ => fin ff1 ef w a, (fun z => nomatch z)⟩
    · obtain ⟨rfl, ef, w⟩ := w
      exact ⟨false, m21, (fun z => nomatch z), fun _ => ⟨true, m22, fun _ a _ => fin ff2 ef w a, (fun z => nomatch z)⟩⟩
    · obtain ⟨rfl, ef, w⟩ := w
      exact ⟨false, m31, (fun z => nomatch z), fun _ => ⟨false, m32, (fun z => nomatch z), fun _ => ⟨true, m33, fun _ a _ => fin ff3 ef w a, (fun z => nomatch z)⟩⟩⟩
/-! ### methods by keywords -/
structure MclK (B : Bg) (j : Nat) (C : Addr) (m : Str) (n : Nat) (ks : List Str) (R : ASpX) : Prop where
  cl : Cls B.K C
  ex : ∃ f fd ps, FnOk B.P B.w B.K B.mg B.base (L2.CX B.P B.w) j f fd ps (lowX R) ∧ Meth B.K C m f ∧ KBn B.K fd ps n ks (fun us ws => us ++ ws) (fun vs zs => vs ++ zs)
theorem Keep.refl' {L : Sto} {H : Hp} : Keep L H L H := .refl
/-- o.m(e, .., kw = v) -/
theorem wex_methK {j : Nat} {C : Addr} {m kw : Str} {kp : Pos} {n : Nat} {R : ASpX} {pl : Env → Sem Bool} (M : MclK B j C m n [kw] R) (hj : j ≤ k) (h : We S G L o fun x L1 => (∃ fs, Lk L1 x (.ins C fs) ∧ fs.lookup m = none) ∧ Wa S G L1 (e :: es) fun ds L2 => (x :: ds).length = n ∧ We S G L2 c fun z L3 => R (x :: (ds ++ [z])) L3 post xp)
    (hall : ∀ env, (backToKw pos (keywordEach [⟨some kw, c, kp⟩] env)).all (·.1.isSome) = true := by intro _; rfl) (hks : ∀ env, (backToKw pos (keywordEach [⟨some kw, c, kp⟩] env)).filterMap (·.1) = [kw] := by intro _; rfl)
    (hst : ∀ env, starEach (e :: es) env = (false, eval e env) :: starEach es env := by intro _; rfl) (hpl : ∀ env, ((backTo pos (starEach (e :: es) env)).any (·.1) || (backToKw pos (keywordEach [⟨some kw, c, kp⟩] env)).any (·.1.isNone)) = false := by intro _; rfl)
    (ht : ∀ env, eval (.Call (.Attribute o m apos) (e :: es) [⟨some kw, c, kp⟩] pos) env = (do
      let ov ← eval o env
      standAt apos.atName
      let (f, first) ← holding [ov] (getMethod ov m (pl env))
      callWith pos f first (backTo pos (starEach (e :: es) env)) (backToKw pos (keywordEach [⟨some kw, c, kp⟩] env))) := by intro _; rfl) : WeX S G L (.Call (.Attribute o m apos) (e :: es) [⟨some kw, c, kp⟩] pos) post xp := fun σ H A Q cc cx => by
  obtain ⟨f, fd, ps, F, hm, hb⟩ := M.ex
  refine ⟨FX.tMethN C m n [kw].length (lowX R) (fun vs zs => vs ++ zs) S.W (ME S o) (MA S (e :: es)) (tCons (ME S c) tNil), fun X hX => ?_, h σ H A _ fun x L1 v H1 ⟨⟨fs, l, hl⟩, w⟩ k1 s1 r1 => ?_⟩
  · have h1 := me hX (e := o); have h2 := ma hX (e := e :: es); have h3 := S.passX hX; have h4 := me hX (e := c)
    obtain ⟨y, rfl, hr⟩ := S.fam X hX
    exact FX.pe_methN h1 M.cl hm F (Room.mono (show Room k y.A from hr) hj) hb h3 h2 (pk_cons h4 pk_nil) (hall _) (hks _) (hst _) (hpl _) (ht _)
  · obtain ⟨q, dx, us, rfl, hq, ru⟩ := l.ins s1 r1
    refine ⟨q, dx, us, rfl, hq, ru.val.2 hl, w σ H1 (A.mono k1 s1) _ fun ds L2 vs H2 ⟨hn, w2⟩ k2 s2 r2 => w2 σ H2 ((A.mono k1 s1).mono k2 s2) _ fun z L3 vz H3 w3 k3 s3 r3 => ⟨?_, rfl, x :: (ds ++ [z]), L3, post, xp, s3, .cons ((r1.mono k2.kp).mono k3.kp) ?_, w3, ((cc.trans k1).trans k2).trans k3, ((cx.trans k1).trans k2).trans k3⟩⟩
    · rw [List.length_cons, r2.length, ← hn, List.length_cons]
    · have r2' : Reps L3.dom H3 ds vs := r2.mono k3.kp
      exact r2'.append (Reps.one r3)
end
end FS
/-! text W24 -/
/-! W24: sorted of bars. -/
namespace FX
open PySem PySem.Spec PyProof.Rows L2 PySem.SeqAt
/-- at v: the pair (2, a bar), the bar two marks of two ints; g: p, v, q, u -/
structure At2 (h : Heap) (v : Value) (p x q y : Int) : Prop where
  ex : ∃ (t b m1 m2 : Addr) (o : Obj) (n : Nat) (k1 : Tok), v = .ref t ∧ h.get? t = some o ∧ o.cls = .type "tuple" ∧ o.data = .seq #[.int 2 k1, .ref b] n ∧ h.IsTuple b #[.ref m1, .ref m2] ∧ Srt.IsPair h (.ref m1) p x ∧ Srt.IsPair h (.ref m2) q y
theorem pair_tup {h : Heap} {m : Addr} {p x : Int} (i : Srt.IsPair h (.ref m) p x) : ∃ k1 k2, h.IsTuple m #[.int p k1, .int x k2] := by
  obtain ⟨a, o, k1, k2, n, e, h1, h2, h3⟩ := i
  cases e
  exact ⟨k1, k2, o, h1, h2, n, h3⟩
theorem tup_inj {h : Heap} {m : Addr} {xs ys : Array Value} (a : h.IsTuple m xs) (b : h.IsTuple m ys) : xs = ys := by
  obtain ⟨o, h1, _, n, h2⟩ := a
  obtain ⟨o', h3, _, n', h4⟩ := b
  rw [h1] at h3; cases h3
  rw [h2] at h4; cases h4
  rfl
section
variable {A : Around} {s : Shared}
theorem eq_pair {m m' : Addr} {p x p' x' : Int} (a : Srt.IsPair s.heap (.ref m) p x) (b : Srt.IsPair s.heap (.ref m') p' x') (hu : A.units < cLine) : EqAt A s (.ref m) (.ref m') (p == p' && x == x') := by
  obtain ⟨k1, k2, a⟩ := pair_tup a
  obtain ⟨j1, j2, b⟩ := pair_tup b
  by_cases e : m = m'
  · subst e
    have q := tup_inj a b
    simp only [Array.mk.injEq, List.cons.injEq, Value.int.injEq] at q
    obtain ⟨⟨rfl, _⟩, ⟨rfl, _⟩, _⟩ := q
    simp only [beq_self_eq_true, Bool.and_self]
    exact EqAt.same _
  · refine EqAt.of_refs e ?_
    have q := RcAt.tuples (A := A) (e := fun j => if j = 0 then p == p' else x == x') a b hu fun j h1 h2 => by
      match j, h1 with
      | 0, _ => exact EqAt.int_int _ _ _ _
      | 1, _ => exact EqAt.int_int _ _ _ _
      | n + 2, h => exact absurd h (by simp)
    simpa [List.range, List.range.loop, Bool.and_assoc] using q
theorem lt_pairE {m m' : Addr} {p x p' x' : Int} (a : Srt.IsPair s.heap (.ref m) p x) (b : Srt.IsPair s.heap (.ref m') p' x') (hu : A.units < cLine) : ∃ r, Ob.RcOp .Lt A s (.ref m) (.ref m') r ∧ (p ≠ p' → r = decide (p < p')) := by
  obtain ⟨k1, k2, a⟩ := pair_tup a
  obtain ⟨j1, j2, b⟩ := pair_tup b
  have q := Ob.RcOp.tuples_lt (A := A) (e := fun j => if j = 0 then p == p' else x == x') (r := fun j => if j = 0 then decide (p < p') else decide (x < x')) a b hu (fun j h1 h2 => by
      match j, h1 with
      | 0, _ => exact EqAt.int_int _ _ _ _
      | 1, _ => exact EqAt.int_int _ _ _ _
      | n + 2, h => exact absurd h (by simp)) (fun j h1 h2 _ => by
      match j, h1 with
      | 0, _ => exact Ob.RcOp.lt_int _ _ _ _
      | 1, _ => exact Ob.RcOp.lt_int _ _ _ _
      | n + 2, h => exact absurd h (by simp))
  refine ⟨_, q, fun hp => ?_⟩
  have e1 : (p == p') = false := by simpa using hp
  have e2 : (min (#[Value.int p k1, Value.int x k2] : Array Value).size (#[Value.int p' j1, Value.int x' j2] : Array Value).size) = 2 := rfl
  rw [e2, Ob.lexAt_succ]
  simp [e1]
theorem lt_bar {b b' m1 m2 m1' m2' : Addr} {p x q y p' x' q' y' : Int} (hb : s.heap.IsTuple b #[.ref m1, .ref m2]) (hb' : s.heap.IsTuple b' #[.ref m1', .ref m2']) (a1 : Srt.IsPair s.heap (.ref m1) p x) (a2 : Srt.IsPair s.heap (.ref m2) q y) (c1 : Srt.IsPair s.heap (.ref m1') p' x') (c2 : Srt.IsPair s.heap (.ref m2') q' y') (hu : A.units + 1 < cLine) (hp : p ≠ p') :
    EqAt A s (.ref b) (.ref b') false ∧ ∀ prog w (E : Value → Shared → Prop) (Q : Bool → Shared → Prop), Q (decide (p < p')) s → wpAny (model prog w) A (compareOp .Lt (.ref b) (.ref b')) (PySem.W.BoolBack Q) E s := by
  have u1 : A.in1.units < cLine := by show A.units + 1 < cLine; exact hu
  have e1 : (p == p') = false := by simpa using hp
  have hne : b ≠ b' := fun e => by
    subst e
    have z := tup_inj hb hb'
    simp only [Array.mk.injEq, List.cons.injEq, Value.ref.injEq] at z
    obtain ⟨rfl, _⟩ := z
    obtain ⟨k1, k2, w1⟩ := pair_tup a1
    obtain ⟨j1, j2, w2⟩ := pair_tup c1
    have z := tup_inj w1 w2
    simp only [Array.mk.injEq, List.cons.injEq, Value.int.injEq] at z
    exact hp z.1.1
  have he : ∀ j (h1 : j < (#[Value.ref m1, .ref m2] : Array Value).size) (h2 : j < (#[Value.ref m1', .ref m2'] : Array Value).size), EqAt A.in1 s (#[Value.ref m1, .ref m2] : Array Value)[j] (#[Value.ref m1', .ref m2'] : Array Value)[j] (if j = 0 then (p == p' && x == x') else (q == q' && y == y')) := fun j h1 h2 => by
    match j, h1 with
    | 0, _ => exact eq_pair a1 c1 u1
    | 1, _ => exact eq_pair a2 c2 u1
    | n + 2, h => exact absurd h (by simp)
  refine ⟨EqAt.of_refs hne ?_, fun prog w E Q hq => ?_⟩
  · have z := RcAt.tuples (A := A) hb hb' (by omega) he
    simpa [List.range, List.range.loop, e1] using z
  · obtain ⟨r1, w1, f1⟩ := lt_pairE (A := A.in1) a1 c1 u1
    obtain ⟨r2, w2, _⟩ := lt_pairE (A := A.in1) a2 c2 u1
    have z := Ob.RcOp.tuples_lt (A := A) (r := fun j => if j = 0 then r1 else r2) hb hb' (by omega) he (fun j h1 h2 _ => by
      match j, h1 with
      | 0, _ => exact w1
      | 1, _ => exact w2
      | n + 2, h => exact absurd h (by simp))
    refine z prog w E _ ?_
    have e2 : (min (#[Value.ref m1, .ref m2] : Array Value).size (#[Value.ref m1', .ref m2'] : Array Value).size) = 2 := rfl
    rw [e2, Ob.lexAt_succ]
    simp only [e1, Bool.false_and, if_true, Bool.false_eq_true, if_false, f1 hp]
    exact hq
end
/-- the place of a bar's first mark -/
def ltK (k : Value → Int) (v u : Value) : Bool := decide (k v < k u)
theorem swo_k (k : Value → Int) : SrtO.Swo (ltK k) := by
  refine ⟨fun x y h => ?_, fun x y z h1 h2 => ?_⟩
  · have a := of_decide_eq_true h
    exact decide_eq_false (by omega)
  · have a := of_decide_eq_false h1
    have b := of_decide_eq_false h2
    exact decide_eq_false (by omega)
def Bars (h : Heap) (k : Value → Int) (vs : List Value) : Prop := (∀ v ∈ vs, ∃ x q y, At2 h v (k v) x q y) ∧ ∀ v ∈ vs, ∀ u ∈ vs, k v = k u → v = u
section
variable {prog : Program} {w : World} {A : Around} {s : Shared}
theorem bars_cmp {vs : List Value} {k : Value → Int} (hb : Bars s.heap k vs) (hu : A.units + 1 < cLine) : SrtO.Cmp prog w A s (tuples' true) (fun p => p.1 ∈ vs) (SrtO.lt2 (ltK k)) := by
  intro p q hm hm'
  obtain ⟨x, q1, y, h1⟩ := hb.1 _ hm
  obtain ⟨x', q1', y', h2⟩ := hb.1 _ hm'
  have hi := hb.2 _ hm _ hm'
  show wpAny (model prog w) A (keyLt' (tuples' true) p.1 q.1) (fun r s' => s' = s ∧ r = ltK k p.1 q.1) (fun _ _ => False) s
  unfold ltK
  generalize k p.1 = a at h1 hi ⊢
  generalize k q.1 = a' at h2 hi ⊢
  obtain ⟨t, b, m1, m2, o, n, k1, e, ho, hc, hd, tb, i1, i2⟩ := h1
  obtain ⟨t', b', m1', m2', o', n', k1', e', ho', hc', hd', tb', j1, j2⟩ := h2
  rw [e, e'] at hi ⊢
  refine PySem.W.kat_lt ho hd ho' hd' ?_
  show PySem.W.KatLex prog w A true (decide (2 < 2)) _ [(.int 2 k1, .int 2 k1'), (.ref b, .ref b')] 0 s
  refine PySem.W.kat_cons (EqAt.int_int 2 k1 2 k1' prog w _ _ ?_)
  refine PySem.W.kat_yes ?_
  by_cases z : a = a'
  · have e2 := hi z
    cases e2
    rw [ho] at ho'; cases ho'
    rw [hd] at hd'
    have hbb : b = b' := by
      have z := congrArg (fun d => match d with
        | Data.seq its _ => its.toList[1]?
        | _ => none) hd'
      simpa using z
    subst hbb
    subst z
    refine PySem.W.kat_cons (EqAt.same (.ref b) prog w _ _ ?_)
    exact PySem.W.kat_yes (PySem.W.kat_nil ⟨rfl, (decide_eq_false (Int.lt_irrefl _)).symm⟩)
  · obtain ⟨g1, g2⟩ := lt_bar (A := A) tb tb' i1 i2 j1 j2 hu z
    refine PySem.W.kat_cons (g1 prog w _ _ ?_)
    exact PySem.W.kat_no (PySem.W.kat_one _ _ (g2 prog w _ _ ⟨rfl, rfl⟩))
theorem At2.keeps {h h' : Heap} {v : Value} {p x q y : Int} (i : At2 h v p x q y) (k : ∀ b o, h.get? b = some o → o.cls = .type "tuple" → h'.get? b = some o) : At2 h' v p x q y := by
  obtain ⟨t, b, m1, m2, o, n, k1, e, ho, hc, hd, ⟨ob, hb1, hb2, nb, hb3⟩, i1, i2⟩ := i
  exact ⟨t, b, m1, m2, o, n, k1, e, k _ _ ho hc, hc, hd, ⟨ob, k _ _ hb1 hb2, hb2, nb, hb3⟩, i1.keeps k, i2.keeps k⟩
theorem bars_firsts {h : Heap} : ∀ {vs : List Value}, (∀ v ∈ vs, ∃ p x q y, At2 h v p x q y) → ∃ fs : List Value, PySem.W.KatTups h vs fs ∧ fs.length = vs.length ∧ ∀ f ∈ fs, ∃ x t, f = Value.int x t
  | [], _ => ⟨[], PySem.W.KatTups.nil, rfl, fun _ hm => by simp at hm⟩
  | v :: vs, hp => by
    obtain ⟨fs, h1, h2, h3⟩ := bars_firsts (vs := vs) fun v' hm => hp v' (List.mem_cons_of_mem _ hm)
    obtain ⟨p, x, q, y, t, b, m1, m2, o, n, k1, e, ho, hc, hd, _⟩ := hp v (List.mem_cons_self ..)
    subst e
    refine ⟨.int 2 k1 :: fs, PySem.W.KatTups.cons ho hc hd rfl h1, by rw [List.length_cons, List.length_cons, h2], fun f hm => ?_⟩
    rcases List.mem_cons.mp hm with rfl | hm
    · exact ⟨2, k1, rfl⟩
    · exact h3 f hm
theorem bars_sortable {a : Addr} {vs : List Value} {k : Value → Int} (h0 : 0 < vs.length) (hb : Bars s.heap k vs) (ha : ∀ o, s.heap.get? a = some o → o.cls ≠ .type "tuple") (hu : A.units + 1 < cLine) : SrtO.SortableO prog w A s a vs (ltK k) := by
  intro h' keep
  have kp : ∀ b o, s.heap.get? b = some o → o.cls = .type "tuple" → h'.get? b = some o := fun b o e c => keep b o (fun z => by subst z; exact ha o e c) e
  have hb' : Bars h' k vs := ⟨fun v hm => by
    obtain ⟨x, q, y, i⟩ := hb.1 v hm
    exact ⟨x, q, y, i.keeps kp⟩, hb.2⟩
  obtain ⟨fs, h1, h2, h3⟩ := bars_firsts fun v hm => ⟨_, hb'.1 v hm⟩
  refine ⟨tuples' true, fun Q E hq => ?_, bars_cmp (s := { s with heap := h' }) hb' hu⟩
  refine PySem.W.kat_kind (T := .type "int") h1 (by omega) (fun f hm => ?_) (by rfl) ?_
  · obtain ⟨x, t, rfl⟩ := h3 f hm
    exact PySem.W.Looks.now
  · have e : (Value.type "int" != Value.type "tuple") = true := by first | decide +kernel | rfl | decide
    rw [e]
    exact hq
end
end FX
namespace FX
open PySem PySem.Spec PyProof.Rows L2 PySem.SeqAt
/-- sorted(xs), xs a list of pairs (2, a bar) in ascending order -/
def rSortB (K : PySem.W.Frag) : List V → Hp → VK → Prop := fun vs H Q => ∃ (a : Addr) (xs : List V) (k : V → Int), vs = [V.ref a] ∧ SqL K H a xs ∧
  (∀ x ∈ xs, ∃ t b m1 m2 v q u, x = V.ref t ∧ H t = some (.tup [.int 2, .ref b]) ∧ H b = some (.tup [.ref m1, .ref m2]) ∧ H m1 = some (.tup [.int (k x), .int v]) ∧ H m2 = some (.tup [.int q, .int u])) ∧
  xs.Pairwise (fun x y => k x < k y) ∧ ∀ p, H p = none → Q (.ref p) (upd H p (.lst xs))
section
variable {X : Cx}
theorem tup_at {pins : List (Addr × Obj)} {σ : L2.St} {H : Hp} {s : Shared} {t : Addr} {xs : List V} (I : Inv X pins σ H s) (h : H t = some (.tup xs)) : ∃ its : List Value, Vals xs its ∧ s.heap.IsTuple t its.toArray := by
  obtain ⟨_, its2, r2, o, ho, hc, n, hd⟩ := I.hok _ _ h
  exact ⟨its2, r2, o, ho, hc, n, hd⟩
theorem pair_at {pins : List (Addr × Obj)} {σ : L2.St} {H : Hp} {s : Shared} {t : Addr} {p v : Int} (I : Inv X pins σ H s) (h : H t = some (.tup [.int p, .int v])) : Srt.IsPair s.heap (.ref t) p v := by
  obtain ⟨its, r, o, ho, hc, n, hd⟩ := tup_at I h
  obtain ⟨u1, u2, rfl, ⟨t1, rfl⟩, ⟨t2, rfl⟩⟩ := vals2 r
  exact ⟨t, o, t1, t2, n, rfl, ho, hc, hd⟩
theorem cr_sortB (hu : X.A.units + 64 < cLine) : CallR X (.builtin "sorted") (rSortB X.K) := by
  intro pins s σ H vs us Q I r h
  obtain ⟨a, xs, k, rfl, hs, hx, ha, q⟩ := h
  obtain ⟨its, rv, hl, hz⟩ := I.list hs
  obtain ⟨u, rfl, ru⟩ := vals1 r
  obtain rfl : u = Value.ref a := ru
  obtain ⟨e1, e2⟩ := refs_back rv fun x m => by
    obtain ⟨t, _, _, _, _, _, _, e, _⟩ := hx x m
    exact ⟨t, e⟩
  have hlt : its.Pairwise (fun v u => k (backV v) < k (backV u)) := by
    rw [e1] at ha
    exact (List.pairwise_map (f := backV) (R := fun x y => k x < k y)).mp ha
  have bs : Bars s.heap (fun u => k (backV u)) its := by
    refine ⟨fun v hv => ?_, fun v hv u hu' e => ?_⟩
    · obtain ⟨t, rfl⟩ := e2 v hv
      have hm : V.ref t ∈ xs := by rw [e1]; exact List.mem_map.mpr ⟨_, hv, rfl⟩
      obtain ⟨t', b, m1, m2, v, q, u, et, h1, h2, h3, h4⟩ := hx _ hm
      cases et
      obtain ⟨i1, r1, o1, ho1, hc1, n1, hd1⟩ := tup_at I h1
      obtain ⟨u1, u2, rfl, ⟨t1, rfl⟩, z⟩ := vals2 r1
      obtain rfl : u2 = Value.ref b := z
      obtain ⟨i2, r2, hb⟩ := tup_at I h2
      obtain ⟨u1, u2, rfl, z1, z2⟩ := vals2 r2
      obtain rfl : u1 = Value.ref m1 := z1
      obtain rfl : u2 = Value.ref m2 := z2
      exact ⟨v, q, u, t, b, m1, m2, o1, n1, t1, rfl, ho1, hc1, hd1, hb, pair_at I h3, pair_at I h4⟩
    · obtain ⟨i, hi⟩ := List.getElem?_of_mem hv
      obtain ⟨j, hj⟩ := List.getElem?_of_mem hu'
      obtain ⟨hi1, hi2⟩ := List.getElem?_eq_some_iff.mp hi
      obtain ⟨hj1, hj2⟩ := List.getElem?_eq_some_iff.mp hj
      rcases Nat.lt_trichotomy i j with z | z | z
      · have := List.pairwise_iff_getElem.mp hlt i j hi1 hj1 z
        rw [hi2, hj2] at this
        have e' : k (backV v) = k (backV u) := e
        omega
      · subst z; exact hi2.symm.trans hj2
      · have := List.pairwise_iff_getElem.mp hlt j i hj1 hi1 z
        rw [hi2, hj2] at this
        have e' : k (backV v) = k (backV u) := e
        omega
  have hsrt : SrtO.Srtd (ltK fun u => k (backV u)) its := hlt.imp fun {x y} z => decide_eq_false (by show ¬ k (backV y) < k (backV x); omega)
  refine SrtO.sorted_ord (swo_k fun u => k (backV u)) hl.isList (by rw [← rv.length]; exact hz) (fun h2 h₁ a1 hat kk => ?_) fun out hs hb => ?_
  · refine bars_sortable (s := { s with heap := h₁ }) (by omega) ⟨fun v hm => ?_, bs.2⟩ (fun o e => ?_) (by show X.A.units + 1 + 1 + 1 < cLine; omega)
    · obtain ⟨x, q, y, i⟩ := bs.1 v hm
      exact ⟨x, q, y, i.keeps fun b o e _ => (kk b o e).2⟩
    · have e' : some o = some (seqObj "list" its.toArray 0) := e.symm.trans hat
      cases e'
      intro c
      exact absurd (Value.type.inj c) (by decide)
  · have eo : out = its := SrtO.stb_uniq (swo_k _) hs hsrt hb
    subst eo
    have h3 : ∀ u ∈ out, ∃ a, u = Value.ref a := e2
    obtain ⟨n, hn⟩ := sortedAll_at s.heap out out.toArray
    refine ⟨.ref (s.heap.objs.size + 1), upd H (s.heap.objs.size + 1) (.lst xs), I.laid (t' := s.toks) (fun b o e => sortedAll_old e) (Nat.le_succ _) ⟨?_, out, n, ?_, hn⟩, rfl, q _ (I.hok.fresh (Nat.le_succ _))⟩
    · exact hz
    · exact rv
end
end FX
namespace FS
open PySem PySem.Spec PyProof.Rows L2
section
variable {B : Bg} {N : List Str} {sc : Scope} {k : Nat} {S : Sit B N sc k} {G : Gam} {L : Sto} {a b c e : Expr} {pos p : Pos}
def encB2 (m : (Int × Int) × (Int × Int)) : D := .tup [.int 2, .tup [.tup [.int m.1.1, .int m.1.2], .tup [.int m.2.1, .int m.2.2]]]
def barAt (H : Hp) : V → Int
  | .ref t => (match H t with
    | some (.tup [_, .ref b]) => (match H b with
      | some (.tup [.ref m, _]) => (match H m with
        | some (.tup [.int p, _]) => p
        | _ => 0)
      | _ => 0)
    | _ => 0)
  | _ => 0
theorem rep_bar {M : Addr → Prop} {H : Hp} {m : (Int × Int) × (Int × Int)} {v : V} (r : Rep M H (encB2 m) v) : barAt H v = m.1.1 ∧ ∃ t b m1 m2 x q y, v = V.ref t ∧ H t = some (.tup [.int 2, .ref b]) ∧ H b = some (.tup [.ref m1, .ref m2]) ∧ H m1 = some (.tup [.int m.1.1, .int x]) ∧ H m2 = some (.tup [.int q, .int y]) := by
  unfold encB2 at r
  cases r with
  | tup _ h1 r1 =>
  obtain ⟨v1, v2, rfl, a1, a2⟩ := reps2 r1
  cases a1
  cases a2 with
  | tup _ h2 r2 =>
  obtain ⟨v1, v2, rfl, a1, a2⟩ := reps2 r2
  cases a1 with
  | tup _ h3 r3 =>
  cases a2 with
  | tup _ h4 r4 =>
  obtain ⟨v1, v2, rfl, a1, a2⟩ := reps2 r3
  obtain ⟨v3, v4, rfl, a3, a4⟩ := reps2 r4
  cases a1; cases a2; cases a3; cases a4
  exact ⟨by simp only [barAt, h1, h2, h3], _, _, _, _, _, _, _, rfl, h1, h2, h3, h4⟩
theorem reps_bars {M : Addr → Prop} {H : Hp} : ∀ {ms : List ((Int × Int) × (Int × Int))} {vs : List V}, Reps M H (ms.map encB2) vs → vs.map (barAt H) = ms.map (fun m => m.1.1) ∧ ∀ x ∈ vs, ∃ t b m1 m2 v q u, x = V.ref t ∧ H t = some (.tup [.int 2, .ref b]) ∧ H b = some (.tup [.ref m1, .ref m2]) ∧ H m1 = some (.tup [.int (barAt H x), .int v]) ∧ H m2 = some (.tup [.int q, .int u])
  | [], _, .nil => ⟨rfl, fun _ h => by cases h⟩
  | m :: ms, _, .cons a r => by
    obtain ⟨h1, h2⟩ := reps_bars (ms := ms) r
    obtain ⟨e, q⟩ := rep_bar a
    refine ⟨by simp only [List.map_cons, h1, e], fun x hx => ?_⟩
    rcases List.mem_cons.mp hx with rfl | hx
    · rw [e]; exact q
    · exact h2 x hx
theorem ev_sortB {d : D} {ms : List ((Int × Int) × (Int × Int))} (l : Lk L d (.lst (ms.map encB2))) (hp : ms.Pairwise fun x y => x.1.1 < y.1.1) (h : Ev S G L e d) (hg : GlS sc "sorted" := by rfl) (he : St1 e := by intro _; rfl) : Ev S G L (.Call (.Name "sorted" p) [e] [] pos) (.lst (ms.map encB2)) :=
  blt1 (r := FX.rSortB B.K) (byX fun y hr => FX.cr_sortB (by have := hr.un; show y.A.units + 64 < cLine; omega)) (by decide) boot_sorted (by decide) (by decide) (h.we fun H vs s r Q c => by
    obtain ⟨v, rfl, rv⟩ := reps1 r
    obtain ⟨q, us, rfl, hq, ru⟩ := l.lst s rv
    obtain ⟨hm, hr⟩ := reps_bars ru
    refine ⟨q, us, barAt H, rfl, .inl (.inl hq), hr, ?_, fun z nz => c.newL ⟨rfl, rfl⟩ s ru nz⟩
    have : (us.map (barAt H)).Pairwise (· < ·) := by rw [hm, List.pairwise_map]; exact hp
    exact List.pairwise_map.mp this) hg he
end
end FS
/-! text E26 -/
/-! E26: bars in order. -/
namespace FS
open PySem PySem.Spec PyProof.Rows L2
abbrev Bar := (Int × Int) × (Int × Int)
def prPy (m : Bar) : PyData := .tuple [.tuple [.int m.1.1, .int m.1.2], .tuple [.int m.2.1, .int m.2.2]]
theorem dpy_pr (m : Bar) : DPy (encPr m) (prPy m) := .tup (.cons (.tup (.cons .int (.cons .int .nil))) (.cons (.tup (.cons .int (.cons .int .nil))) .nil))
theorem eqv_pr {m n : Bar} (h : m.1.1 ≠ n.1.1) : PyData.eqv (prPy m) (prPy n) = false := by
  have : (m.1.1 == n.1.1) = false := by simpa using h
  simp [prPy, PyData.eqv, PyData.eqvAll, this]
theorem et_or' {B : Bg} {N : List Str} {sc : Scope} {k : Nat} {S : Sit B N sc k} {G : Gam} {L : Sto} {a b : Expr} {pos : Pos} {x : Bool} (h : Et S G L a x) (h' : x = false → Et S G L b true) : Et S G L (.BoolOp .Or [a, b] pos) true := by
  have q := et_or (pos := pos) h h'
  rwa [Bool.or_true] at q
theorem et_neDk {B : Bg} {N : List Str} {sc : Scope} {k : Nat} {S : Sit B N sc k} {G : Gam} {L : Sto} {a b : Expr} {pos : Pos} {x y : D} {q r : PyData} {z : Bool} (hx : DPy x q) (hy : DPy y r) (sq : SeqAt.shaped q = true) (sr : SeqAt.shaped r = true) (e : PyData.eqv q r = z) (ha : Ev S G L a x) (hb : Ev S G L b y) : Et S G L (.Compare a [.NotEq] [b] pos) (!z) := by
  have w := et_neD (pos := pos) hx hy sq sr ha hb
  rwa [e] at w
section
variable {B : Bg}
abbrev sBio : Stmt := top 27
theorem scSBio : FnScope ["bars", "kept", "size", "bar"] ["bars"] (defScope sBio) := ⟨rfl, rfl, rfl, by decide +kernel, rfl, by decide +kernel, by decide +kernel⟩
def rBio : ASp := fun ds L post => ∃ ms : List Bar, ds = [.lst (ms.map encPr)] ∧ ms.Pairwise (fun x y => x.1.1 < y.1.1) ∧ ms.length ≤ 100 ∧ post (.lst (ms.map encPr)) L
def onP (f : Bar → Option D) : D → Option D
  | .tup [.tup [.int a, .int b], .tup [.int c, .int d]] => f ((a, b), (c, d))
  | _ => none
theorem onP_map (f : Bar → Option D) (ms : List Bar) : (ms.map encPr).filterMap (onP f) = ms.filterMap f := by
  rw [List.filterMap_map]; rfl
theorem ok_sbio {f : Addr} {fd : FuncData} (F : Fun B.K "bars_in_order" "bars_in_order" sBio f fd) : FnOk B.P B.w B.K B.mg B.base CX0 1 f fd ["bars"] (low rBio) := by
  refine ok_def F scSBio (fun ds L post ⟨_, h, _⟩ => by rw [h]; rfl) fun S hS ds L post ⟨ms, e, hp, hl, h⟩ => ?_
  subst e
  have hline : 1000 ≤ sizeLine := by decide
  refine ws_set 1 (we_newL fun q nq => ?_)
  have e0 : ms.map encB2 = (ms.map encPr).filterMap (onP fun m => some (encB2 m)) := by rw [onP_map, fm_map]
  refine ws_for ((ei_list (ds := (ms.map encB2)) (ev_sortB (.inl rfl) hp (ev_lc [("bar", 3)] (onP fun m => some (encB2 m)) (ei_list (ev_var 0)) (by rw [List.length_map]; omega) e0.symm fun d hd => ?_))).wi
    (forW_inv (fun i G' L' => ∃ a b, G' = [some (.lst (ms.map encPr)), some (.ptr q), a, b] ∧ L' = L.set q (.lst ((ms.take i).map encPr))) ⟨_, _, rfl, rfl⟩ ?_ ?_))
  · obtain ⟨m, hm, rfl⟩ := List.mem_map.mp hd
    exact ⟨_, _, wg_name 3, by decide, wts_n rfl fun z => ev_tup (ea_2 (ev_lenT (ds := [encM m.1, encM m.2]) (ev_var 3)) (ev_var 3))⟩
  · rintro i d G' L' hd ⟨a, b, rfl, rfl⟩
    obtain ⟨m, hm, rfl⟩ := map_get hd
    have hil : i < ms.length := (List.getElem?_eq_some_iff.mp hm).1
    have tk : ms.take (i + 1) = ms.take i ++ [m] := by rw [List.take_succ, hm]; rfl
    refine ⟨_, _, wg_pair 2 3, ?_⟩
    have hk : Lk (L.set q (.lst ((ms.take i).map encPr))) (.ptr q) (.lst ((ms.take i).map encPr)) := .inr ⟨q, rfl, Sto.set_same⟩
    refine ws_if (b := true) (et_or' (et_not (et_truL hk (ev_var 1))) fun hz => ?_) (fun _ => ?_) fun z => nomatch z
    · have hi0 : 0 < i := by
        cases i with
        | zero => cases hz
        | succ i => omega
      have hj : i - 1 < ms.length := by omega
      have hg : atI ((ms.take i).map encPr) (-1) = some (encPr ms[i - 1]) := by
        unfold atI ixN
        rw [List.length_map, List.length_take, Nat.min_eq_left (by omega), if_neg (by omega), if_pos (by omega)]
        have e1 : ((-1 : Int) + (i : Int)).toNat = i - 1 := by omega
        show ((ms.take i).map encPr)[((-1 : Int) + (i : Int)).toNat]? = _
        rw [e1, List.getElem?_map, List.getElem?_take_of_lt (by omega), List.getElem?_eq_getElem hj]
        rfl
      have hne : (ms[i - 1]).1.1 ≠ m.1.1 := by
        have := List.pairwise_iff_getElem.mp hp (i - 1) i hj hil (by omega)
        have e2 : ms[i] = m := (List.getElem?_eq_some_iff.mp hm).2
        rw [e2] at this; omega
      exact et_neDk (dpy_pr ms[i - 1]) (dpy_pr m) rfl rfl (eqv_pr hne) (ev_ix hg hk (ev_var 1) (ev_neg ev_int)) (ev_var 3)
    · refine ws_expr (we_append (ev_var 1) ((ev_var 3).we ⟨_, Sto.set_same, ?_, ws_nil (ws_nil ⟨_, _, rfl, ?_⟩)⟩) ⟨_, Sto.set_same⟩)
      · rw [List.length_map, List.length_take]; omega
      · rw [Sto.set_set, tk, List.map_append]; rfl
  · rintro G' L' ⟨a, b, rfl, rfl⟩
    rw [List.length_map, List.take_length]
    refine ws_frzN 1 nq ?_
    exact ws_ret ((ev_var 1).we h)
end
end FS
/-! text W25 -/
/-! W25: texts; a table of tuples of texts that stands in the module. -/
namespace FS
open PySem PySem.Spec PyProof.Rows L2
theorem str_len_app {x y : Str} : (x ++ y).length = x.length + y.length := by
  show (x.cps ++ y.cps).size = x.cps.size + y.cps.size
  exact Array.size_append
theorem int_len {i : Int} (h : i.natAbs < 1024) : (Str.ofString (toString i)).length ≤ 11 := by
  rw [PySem.ofString_length]
  exact int_text_length_le (k := 10) (by decide) (by
    by_cases z : i.natAbs = 0
    · rw [z]; decide
    · exact (Nat.log2_lt z).mpr h)
section
variable {B : Bg} {N : List Str} {sc : Scope} {k : Nat} {S : Sit B N sc k} {G : Gam} {L : Sto} {a b c e o : Expr} {pos p : Pos} {post : D → Sto → Prop}
/-- f"{a}x{b}", a, b small ints -/
theorem ev_fmt2 {i j : Int} {x : Str} {q : Nat} {p1 p2 p3 : Pos} (hi : i.natAbs < 1024) (hj : j.natAbs < 1024) (hx : x.length ≤ 100) (ha : Ev S G L a (.int i)) (hb : Ev S G L b (.int j)) :
    Ev S G L (.JoinedStr [.FormattedValue a (-1) none p1, .Constant (.str x) q p2, .FormattedValue b (-1) none p3] pos) (.str (((Str.empty ++ Str.ofString (toString i)) ++ x) ++ Str.ofString (toString j))) := fun σ H A Q c => by
  have l1 := int_len hi
  have l2 := int_len hj
  have g1 : i.natAbs.log2 < 1920 := by
    by_cases z : i.natAbs = 0
    · rw [z]; decide
    · exact Nat.lt_of_lt_of_le ((Nat.log2_lt z).mpr (show i.natAbs < 2 ^ 10 from hi)) (by decide)
  have g2 : j.natAbs.log2 < 1920 := by
    by_cases z : j.natAbs = 0
    · rw [z]; decide
    · exact Nat.lt_of_lt_of_le ((Nat.log2_lt z).mpr (show j.natAbs < 2 ^ 10 from hj)) (by decide)
  have e0 : Str.empty.length = 0 := rfl
  have hz : 1000 ≤ sizeLine := by decide
  refine ⟨fun σ H Q => tJs [tFmt (ME S a), tC (.str x), tFmt (ME S b)] Str.empty σ H fun out H1 => Q (.str out) H1, fun X hX => pe_joined (.cons (pe_fmt (me hX)) (.cons pe_str (.cons (pe_fmt (me hX)) .nil))), ?_⟩
  refine ha.run A fun v H1 k1 A1 r1 => ?_
  cases r1
  refine .inr ⟨i, rfl, g1, _, rfl, by rw [str_len_app]; omega, x, rfl, by rw [str_len_app, str_len_app]; omega, ?_⟩
  refine hb.run A1 fun u H2 k2 A2 r2 => ?_
  cases r2
  refine .inr ⟨j, rfl, g2, _, rfl, by rw [str_len_app, str_len_app, str_len_app]; omega, ?_⟩
  exact c _ _ _ _ ⟨rfl, rfl⟩ (k1.trans k2) A2.sto .str
/-- sep.join(a list of texts) -/
theorem ev_join {x : Str} {ys : List Str} {d : D} {apos : Pos} (l : Lk L d (.lst (ys.map D.str))) (hz : (ys.map (·.length)).sum + ys.length * x.length ≤ 16777216) (ho : Ev S G L o (.str x)) (h : Ev S G L e d)
    (hs : ∀ env, starEach [e] env = [(false, eval e env)] := by intro _; rfl) (hbase : ∀ env, attributeBase o "join" env (eval o env) = eval o env := by intro _; rfl) (hline : (apos.endLine == pos.line) = true := by rfl) : Ev S G L (.Call (.Attribute o "join" apos) [e] [] pos) (.str (Txt.join x ys)) := fun σ H A Q c =>
  ⟨tM1 (fun x xs H Q => ∃ a p, ∃ ys : List Str, x = .str a ∧ xs = [.ref p] ∧ (SqL B.K H p (ys.map V.str) ∨ SqT B.K H p (ys.map V.str)) ∧ (ys.map (·.length)).sum + ys.length * a.length ≤ 16777216 ∧ Q (.str (Txt.join a ys)) H) (ME S o) (ME S e), fun X hX => by
    have h1 := me hX (e := o); have h2 := me hX (e := e)
    obtain ⟨y, rfl, _⟩ := S.fam X hX
    exact pe_join h1 h2 (hs _) (hbase _) hline, ho.run A fun v H1 k1 A1 r1 => by
    cases r1
    refine ⟨⟨x, rfl⟩, h.run A1 fun u H2 k2 A2 r2 => ?_⟩
    obtain ⟨q, vs, rfl, hq, rs⟩ := l.lst A2.sto r2
    rw [rs.strs] at hq
    exact ⟨x, q, ys, rfl, rfl, .inl (.inl (.inl hq)), hz, c _ _ _ _ ⟨rfl, rfl⟩ (k1.trans k2) A2.sto .str⟩⟩
/-- str(i) -/
theorem ev_strI {i : Int} (hz : i.natAbs.log2 < 1920) (h : Ev S G L e (.int i)) (hg : GlS sc "str" := by rfl) (he : St1 e := by intro _; rfl) : Ev S G L (.Call (.Name "str" p) [e] [] pos) (.str (Str.ofString (toString i))) :=
  typ1 (fun X hX => call_str_int) (by decide) boot_str (by decide) (by decide) (h.we fun H vs s r Q c => by
    obtain ⟨v, rfl, rv⟩ := reps1 r
    cases rv
    exact ⟨i, rfl, hz, c.at ⟨rfl, rfl⟩ s .str⟩) hg he
/-! ### the table -/
structure Fms (B : Bg) (x : Str) (q : Addr) (tab : List (Str × List Str)) : Prop where
  mg : B.mg x = some (.ref q)
  kd : ∃ es n, KDict B.K B.w q es n
  at_ : ∀ key fs, (key, fs) ∈ tab → ∃ T, PySem.W.nsIn B.K q key = some (some (.ref T)) ∧ ∀ H, SqT B.K H T (fs.map V.str)
theorem ev_glob {x : Str} {q : Addr} (hm : B.mg x = some (.ref q)) (hg : sc.names.lookup x = some .globalImplicit := by rfl) (hd : (x == ("__debug__" : Str)) = false := by decide) : Ev S G L (.Name x p) (.ptr q) := we_c (v := .ref q) (fun X hX => by
  obtain ⟨y, rfl, _⟩ := S.fam X hX
  exact pe_glob hg hm rfl hd) (fun _ _ => .ptr) ⟨rfl, rfl⟩
theorem et_inF {x key : Str} {q : Addr} {fs : List Str} {tab : List (Str × List Str)} (T : Fms B x q tab) (hk : (key, fs) ∈ tab) (ha : Ev S G L a (.str key)) (hg : sc.names.lookup x = some .globalImplicit := by rfl) (hd : (x == ("__debug__" : Str)) = false := by decide) : Ev S G L (.Compare a [.In] [.Name x p] pos) (.bl true) := by
  obtain ⟨es, n, kd⟩ := T.kd
  obtain ⟨t, ht, _⟩ := T.at_ key fs hk
  exact we_cmp (r := fun x y H Q => ∃ (z : Str) (r : Option Value), x = .str z ∧ y = .ref q ∧ PySem.W.nsIn B.K q z = some r ∧ Q (.bl r.isSome) H) (byX fun y _ => op_in_kd kd) (by rfl) (pure2 ha (ev_glob T.mg hg hd) fun H v u s r1 r2 Q c => by
    cases r1; cases r2
    exact ⟨key, _, rfl, rfl, ht, c.at ⟨rfl, rfl⟩ s .bl⟩)
/-- zip(table[key], a tuple), of one length -/
def zipD (fs : List Str) (es : List D) : List D := (fs.zip es).map fun p => .tup [.str p.1, p.2]
theorem zipD_get {fs : List Str} {es : List D} {i : Nat} {d : D} (h : (zipD fs es)[i]? = some d) : ∃ f x, fs[i]? = some f ∧ es[i]? = some x ∧ d = .tup [.str f, x] := by
  unfold zipD at h
  rw [List.getElem?_map] at h
  cases e : (fs.zip es)[i]? with
  | none => rw [e] at h; cases h
  | some q =>
    rw [e] at h; cases h
    obtain ⟨h1, h2⟩ := List.getElem?_zip_eq_some.mp e
    exact ⟨q.1, q.2, h1, h2, rfl⟩
theorem ei_zipF {m : Bool} {x key : Str} {q : Addr} {fs : List Str} {tab : List (Str × List Str)} {es : List D} {p1 p2 tpos : Pos} {elts : List Expr} {kk : Nat} (T : Fms B x q tab) (hk : (key, fs) ∈ tab) (hl : fs.length = es.length) (hb : Ev S G L b (.str key)) (hc : Ev S G L c (.tup es))
    (hg : sc.names.lookup x = some .globalImplicit := by rfl) (hd : (x == ("__debug__" : Str)) = false := by decide) (hg2 : sc.names.lookup ("zip" : Str) = some .globalImplicit := by rfl) (hix : PlainIx b := by exact fun _ _ => rfl)
    (hs : ∀ env, starEach [.Subscript (.Name x p1) b p2, c] env = (false, eval (.Subscript (.Name x p1) b p2) env) :: starEach [c] env := by intro _; rfl) (hs2 : ∀ env, starEach [c] env = (false, eval c env) :: starEach [] env := by intro _; rfl) (hpl : ∀ env, (backTo pos (starEach [c] env)).any (·.1) = false := by intro _; rfl) :
    Ei m S G L (.Tuple elts kk tpos) (.Call (.Name "zip" p) [.Subscript (.Name x p1) b p2, c] [] pos) (zipD fs es) := fun σ H A R cc => by
  obtain ⟨ds, n, kd⟩ := T.kd
  obtain ⟨t, ht, hT⟩ := T.at_ key fs hk
  have e1 : Ev S G L (.Subscript (.Name x p1) b p2) (.ptr t) := we_ix (r := rIxD B.K B.w) (fun X hX => by obtain ⟨y, rfl, _⟩ := S.fam X hX; exact ix_kdict) hix (pure2 (ev_glob T.mg hg hd) hb fun H v u s r1 r2 Q c => by
    cases r1; cases r2
    exact ⟨q, key, .ref t, rfl, rfl, ⟨ds, n, .ref t, kd.at_, kd.lit, ht, rfl⟩, c.at ⟨rfl, rfl⟩ s .ptr⟩)
  refine ⟨RZ.iZipA B.K (MA S [.Subscript (.Name x p1) b p2, c]), fun X hX => ?_, ?_⟩
  · have hm := ma hX (e := [.Subscript (.Name x p1) b p2, c])
    obtain ⟨y, rfl, _⟩ := S.fam X hX
    exact RZ.pi_zipA hg2 (B.none (by decide)) hm (hs _) (hpl _)
  · refine (ea_2 e1 hc hs hs2) σ H A _ fun ds' L' vs' H1 ⟨e1, e2⟩ k1 s1 r1 => ?_
    subst e1; subst e2
    obtain ⟨v1, v2, rfl, rv1, rv2⟩ := reps2 r1
    have A1 := A.mono k1 s1
    cases rv1
    cases rv2 with
    | @tup w _ vs hn hw rs =>
    refine ⟨t, w, fs.map V.str, vs, rfl, .inr ⟨hT H1, .inl (.inl hw), cc _ _ _ H1 ⟨rfl, rfl⟩ k1 A1 fun L2 H2 st => ?_⟩⟩
    have hw2 := stl_at st hw hn
    have rs2 := rs.mono st.kp
    have hlen := rs.length
    refine ⟨fun i d hd => ?_, fs.map V.str, vs, hT H2, .inl (.inl hw2), .inl (by rw [List.length_map]; unfold zipD; rw [List.length_map, List.length_zip]; omega)⟩
    obtain ⟨f, y, hf, hy, rfl⟩ := zipD_get hd
    obtain ⟨vy, hvy, ry⟩ := rs2.get hy
    have hfm : (fs.map V.str)[i]? = some (.str f) := by rw [List.getElem?_map, hf]; rfl
    refine ⟨⟨_, vs, _, vy, hT H2, .inl (.inl hw2), hfm, hvy⟩, fun x' H'' ⟨z, x1, y1, e1, e2, e3, e4, e5⟩ => ?_⟩
    subst e1; subst e3
    have := e4 _ (hT H2)
    rw [hfm] at this; cases this
    have := e5 vs (.inl (.inl hw2))
    rw [hvy] at this; cases this
    have sm := same_upd (o := .tup [.str f, vy]) e2
    exact ⟨sm, .tup (rep_new e2 st.sto) upd_same (.cons .str (.cons (ry.mono (keep_same sm).kp) .nil))⟩
end
end FS
/-! text E27 -/
/-! E27: texts of deeds. -/
namespace FS
open PySem PySem.Spec PyProof.Rows L2
theorem join_len (sep : Str) : ∀ xs : List Str, (Str.join sep xs).length ≤ (xs.map (·.length)).sum + xs.length * sep.length
  | [] => Nat.zero_le _
  | [x] => by simp only [Str.join, List.map_cons, List.sum_cons]; omega
  | x :: y :: r => by
    have ih := join_len sep (y :: r)
    show ((x ++ sep) ++ Str.join sep (y :: r)).length ≤ _
    rw [str_len_app, str_len_app]
    simp only [List.map_cons, List.sum_cons, List.length_cons, Nat.add_mul] at ih ⊢
    omega
theorem sum_le {xs : List Str} {c : Nat} (h : ∀ x ∈ xs, x.length ≤ c) : (xs.map (·.length)).sum ≤ xs.length * c := by
  induction xs with
  | nil => exact Nat.zero_le _
  | cons x xs ih =>
    have h1 := h x List.mem_cons_self
    have h2 := ih fun y hy => h y (List.mem_cons_of_mem _ hy)
    simp only [List.map_cons, List.sum_cons, List.length_cons, Nat.add_mul]
    omega
def mkT (m : Int × Int) : Str := ((Str.empty ++ Str.ofString (toString m.1)) ++ "=") ++ Str.ofString (toString m.2)
def SmM (m : Int × Int) : Prop := m.1.natAbs < 1024 ∧ m.2.natAbs < 1024
theorem mkT_len {m : Int × Int} (h : SmM m) : (mkT m).length ≤ 30 := by
  have h1 := int_len h.1
  have h2 := int_len h.2
  unfold mkT
  rw [str_len_app, str_len_app, str_len_app]
  have e1 : Str.empty.length = 0 := rfl
  have e2 : ("=" : Str).length = 1 := rfl
  omega
/-- an argument of a deed and its word -/
inductive Fe : Str → D → Str → Prop
  | name {x : Str} : x.length ≤ 50 → Fe "name" (.str x) x
  | names {xs : List Str} : xs.length ≤ 10 → (∀ x ∈ xs, x.length ≤ 50) → Fe "names" (.lst (encS xs)) (if xs.isEmpty then "*" else Txt.join "," xs)
  | writes {w : Bk} : w.length ≤ 60 → (∀ m ∈ w, SmM m) → Fe "writes" (.dct (encB w)) (if w.isEmpty then "*" else Txt.join "," ((sortM w).map mkT))
theorem sortM_mem {w : Bk} {m : Int × Int} : m ∈ sortM w ↔ m ∈ w := (List.mergeSort_perm w _).mem_iff
theorem sortM_len {w : Bk} : (sortM w).length = w.length := (List.mergeSort_perm w _).length_eq
theorem Fe.len {f : Str} {d : D} {t : Str} (h : Fe f d t) : t.length ≤ 4000 := by
  cases h with
  | name h => omega
  | @names xs h1 h2 =>
    split
    · decide
    · rw [TL.join_eq]
      have j := join_len "," xs
      rw [show ("," : Str).length = 1 from rfl] at j
      have := sum_le h2
      have e : ("," : Str).length = 1 := rfl
      have : xs.length * 50 ≤ 10 * 50 := Nat.mul_le_mul_right _ h1
      omega
  | @writes w h1 h2 =>
    split
    · decide
    · rw [TL.join_eq]
      have j := join_len "," ((sortM w).map mkT)
      rw [show ("," : Str).length = 1 from rfl, List.length_map, sortM_len] at j
      have := sum_le (xs := (sortM w).map mkT) (c := 30) fun x hx => by
        obtain ⟨m, hm, rfl⟩ := List.mem_map.mp hx
        exact mkT_len (h2 m (sortM_mem.mp hm))
      have e : ("," : Str).length = 1 := rfl
      rw [List.length_map, sortM_len] at *
      have : w.length * 30 ≤ 60 * 30 := Nat.mul_le_mul_right _ h1
      omega
section
variable {B : Bg}
abbrev sOm : Stmt := top 30
theorem scSOm : FnScope ["writes", "place", "value"] ["writes"] (defScope sOm) := ⟨rfl, rfl, rfl, by decide +kernel, rfl, by decide +kernel, by decide +kernel⟩
def rOm : ASp := fun ds L post => ∃ w : Bk, ds = [.dct (encB w)] ∧ w.length ≤ 900 ∧ post (.lst ((sortM w).map encM)) L
theorem items_encM {w : Bk} : itemsD (encB w) = w.map encM := by unfold itemsD encB; rw [List.map_map]; rfl
theorem ok_som {f : Addr} {fd : FuncData} (F : Fun B.K "ordered_marks" "ordered_marks" sOm f fd) : FnOk B.P B.w B.K B.mg B.base CX0 1 f fd ["writes"] (low rOm) := by
  refine ok_def F scSOm (fun ds L post ⟨_, h, _⟩ => by rw [h]; rfl) fun S hS ds L post ⟨w, e, hl, h⟩ => ?_
  subst e
  have hline : 1000 ≤ sizeLine := by decide
  have e0 : (itemsD (encB w)).filterMap (onM fun m => some (encM m)) = w.map encM := by
    rw [items_encM, List.filterMap_map]
    exact fm_map encM w
  refine ws_ret ((ev_sortM (.inl rfl) (ev_lcP [("place", 1), ("value", 2)] (onM fun m => some (encM m)) (dp_items 0) (by rw [items_encM, List.length_map]; omega) e0 fun d hd => ?_)).we h)
  rw [items_encM] at hd
  obtain ⟨m, hm, rfl⟩ := List.mem_map.mp hd
  exact ⟨_, _, wg_pair 1 2, by decide, wts_n rfl fun z => ev_tup (ea_2 (ev_var 1) (ev_var 2))⟩
abbrev sIdw : Stmt := top 103
theorem scSIdw : FnScope ["word"] ["word"] (defScope sIdw) := ⟨rfl, rfl, rfl, by decide +kernel, rfl, by decide +kernel, by decide +kernel⟩
def rIdw : ASp := fun ds L post => ∃ (key : Str) (fs : List Str), ds = [.str key] ∧ (key, fs) ∈ formsTab ∧ post (.bl true) L
theorem ok_siw {q : Addr} {f : Addr} {fd : FuncData} (F : Fun B.K "is_deed_word" "is_deed_word" sIdw f fd) (T : Fms B "FORMS" q formsTab) : FnOk B.P B.w B.K B.mg B.base CX0 1 f fd ["word"] (low rIdw) := by
  refine ok_def F scSIdw (fun ds L post ⟨_, _, h, _⟩ => by rw [h]; rfl) fun S hS ds L post ⟨key, fs, e, hk, h⟩ => ?_
  subst e
  exact ws_ret ((et_inF T hk (ev_var 0)).we h)
abbrev sMt : Stmt := top 104
theorem scSMt : FnScope ["mark"] ["mark"] (defScope sMt) := ⟨rfl, rfl, rfl, by decide +kernel, rfl, by decide +kernel, by decide +kernel⟩
def rMt : ASp := fun ds L post => ∃ m : Int × Int, ds = [encM m] ∧ SmM m ∧ post (.str (mkT m)) L
theorem ok_smt {f : Addr} {fd : FuncData} (F : Fun B.K "mark_text" "mark_text" sMt f fd) : FnOk B.P B.w B.K B.mg B.base CX0 1 f fd ["mark"] (low rMt) := by
  refine ok_def F scSMt (fun ds L post ⟨_, h, _⟩ => by rw [h]; rfl) fun S hS ds L post ⟨m, e, hm, h⟩ => ?_
  subst e
  exact ws_ret ((ev_fmt2 hm.1 hm.2 (by decide) (ev_ixT (ds := [.int m.1, .int m.2]) (atI_nat (j := 0) rfl) (ev_var 0) ev_int) (ev_ixT (ds := [.int m.1, .int m.2]) (atI_nat (j := 1) rfl) (ev_var 0) ev_int)).we h)
abbrev sEt : Stmt := top 105
theorem scSEt : FnScope ["form", "entry", "pieces", "mark", "place"] ["form", "entry"] (defScope sEt) := ⟨rfl, rfl, rfl, by decide +kernel, rfl, by decide +kernel, by decide +kernel⟩
def rEt : ASp := fun ds L post => ∃ f d t, ds = [.str f, d] ∧ Fe f d t ∧ post (.str t) L
theorem fm_mkT {w : List (Int × Int)} : (w.map encM).filterMap (onM fun m => some (.str (mkT m))) = (w.map mkT).map D.str := by
  rw [List.filterMap_map, List.map_map]
  exact fm_map (fun m => D.str (mkT m)) w
theorem ok_set {f : Addr} {fd : FuncData} (F : Fun B.K "entry_text" "entry_text" sEt f fd) (cMt : Cl B 1 "mark_text" rMt) (cOm : Cl B 1 "ordered_marks" rOm) : FnOk B.P B.w B.K B.mg B.base CX0 2 f fd ["form", "entry"] (low rEt) := by
  refine ok_def F scSEt (fun ds L post ⟨_, _, _, h, _⟩ => by rw [h]; rfl) fun S hS ds L post ⟨fm, d, t, e, hf, h⟩ => ?_
  subst e
  have hline : 1000 ≤ sizeLine := by decide
  cases hf with
  | name hx =>
    exact ws_if (et_eqS (x := "name") (y := "name") (ev_var 0) ev_str) (fun _ => ws_ret ((ev_var 1).we h)) fun z => absurd z (by decide)
  | @names xs h1 h2 =>
    refine ws_if (et_eqS (x := "names") (y := "name") (ev_var 0) ev_str) (fun z => absurd z (by decide)) fun _ => ws_nil ?_
    refine ws_if (et_eqS (x := "names") (y := "mark") (ev_var 0) ev_str) (fun z => absurd z (by decide)) fun _ => ws_nil ?_
    refine ws_set 2 ((ev_lst ea_nil).we ?_)
    refine ws_if (et_eqS (x := "names") (y := "names") (ev_var 0) ev_str) (fun _ => ?_) fun z => absurd z (by decide)
    refine ws_set 2 ((ev_list (.inl rfl) (ev_var 1)).we (ws_nil ?_))
    refine ws_if (et_eqS (x := "names") (y := "writes") (ev_var 0) ev_str) (fun z => absurd z (by decide)) fun _ => ws_nil ?_
    refine ws_if (et_eqS (x := "names") (y := "places") (ev_var 0) ev_str) (fun z => absurd z (by decide)) fun _ => ws_nil ?_
    refine ws_if (et_not (et_truL (.inl rfl) (ev_var 2))) (fun z => ?_) fun z => ws_nil ?_
    · cases xs with
      | nil => exact ws_ret (ev_str.we h)
      | cons x xs => cases z
    · have hne : xs.isEmpty = false := by
        cases xs with
        | nil => cases z
        | cons x xs => rfl
      rw [hne] at h
      refine ws_ret ((ev_join (ys := xs) (.inl rfl) ?_ ev_str (ev_var 2)).we h)
      have := sum_le h2
      have e : ("," : Str).length = 1 := rfl
      have : xs.length * 50 ≤ 10 * 50 := Nat.mul_le_mul_right _ h1
      rw [e]
      omega
  | @writes w h1 h2 =>
    refine ws_if (et_eqS (x := "writes") (y := "name") (ev_var 0) ev_str) (fun z => absurd z (by decide)) fun _ => ws_nil ?_
    refine ws_if (et_eqS (x := "writes") (y := "mark") (ev_var 0) ev_str) (fun z => absurd z (by decide)) fun _ => ws_nil ?_
    refine ws_set 2 ((ev_lst ea_nil).we ?_)
    refine ws_if (et_eqS (x := "writes") (y := "names") (ev_var 0) ev_str) (fun z => absurd z (by decide)) fun _ => ws_nil ?_
    refine ws_if (et_eqS (x := "writes") (y := "writes") (ev_var 0) ev_str) (fun _ => ?_) fun z => absurd z (by decide)
    refine ws_setLc 2 [("mark", 3)] (onM fun m => some (.str (mkT m))) (rs := ((sortM w).map mkT).map D.str) (ei_list (ev_call cOm (by decide) (ea_1 (ev_var 1)) ⟨w, rfl, by omega, rfl, rfl⟩)) (by rw [List.length_map, sortM_len]; omega) fm_mkT (fun d hd => ?_) ?_
    · obtain ⟨m, hm, rfl⟩ := List.mem_map.mp hd
      exact ⟨_, _, wg_name 3, by decide, wts_n rfl fun z => ev_call cMt (by decide) (ea_1 (ev_var 3)) ⟨m, rfl, h2 m (sortM_mem.mp hm), rfl, rfl⟩⟩
    refine ws_nil ?_
    refine ws_if (et_eqS (x := "writes") (y := "places") (ev_var 0) ev_str) (fun z => absurd z (by decide)) fun _ => ws_nil ?_
    have hl : ((sortM w).map mkT).isEmpty = w.isEmpty := by
      have := sortM_len (w := w)
      cases w with
      | nil => simp [sortM]
      | cons m w =>
        cases e : sortM (m :: w) with
        | nil => rw [e] at this; cases this
        | cons a b => rfl
    refine ws_if (et_not (et_truL (.inl rfl) (ev_var 2))) (fun z => ?_) fun z => ws_nil ?_
    · have : w.isEmpty = true := by
        rw [← hl]
        cases e : (sortM w).map mkT with
        | nil => rfl
        | cons a b => rw [e] at z; cases z
      rw [this] at h
      exact ws_ret (ev_str.we h)
    · have : w.isEmpty = false := by
        rw [← hl]
        cases e : (sortM w).map mkT with
        | nil => rw [e] at z; cases z
        | cons a b => rfl
      rw [this] at h
      refine ws_ret ((ev_join (ys := (sortM w).map mkT) (.inl rfl) ?_ ev_str (ev_var 2)).we h)
      have := sum_le (xs := (sortM w).map mkT) (c := 30) fun x hx => by
        obtain ⟨m, hm, rfl⟩ := List.mem_map.mp hx
        exact mkT_len (h2 m (sortM_mem.mp hm))
      have e : ("," : Str).length = 1 := rfl
      rw [List.length_map, sortM_len] at *
      have : w.length * 30 ≤ 60 * 30 := Nat.mul_le_mul_right _ h1
      rw [e]
      omega
end
end FS
/-! text E28 -/
/-! E28: the text of a deed. -/
namespace FS
open PySem PySem.Spec PyProof.Rows L2
inductive Fes : List Str → List D → List Str → Prop
  | nil : Fes [] [] []
  | cons {f d t fs ds ts} : Fe f d t → Fes fs ds ts → Fes (f :: fs) (d :: ds) (t :: ts)
theorem Fes.len {fs : List Str} {ds : List D} {ts : List Str} (h : Fes fs ds ts) : fs.length = ds.length ∧ ts.length = ds.length := by
  induction h with
  | nil => exact ⟨rfl, rfl⟩
  | cons _ _ ih => exact ⟨by simp [ih.1], by simp [ih.2]⟩
theorem Fes.at_ {fs : List Str} {ds : List D} {ts : List Str} (h : Fes fs ds ts) : ∀ {i : Nat} {f : Str} {d : D}, fs[i]? = some f → ds[i]? = some d → ∃ t, ts[i]? = some t ∧ Fe f d t := by
  induction h with
  | nil => intro i f d h; simp at h
  | cons a _ ih =>
    intro i f d h1 h2
    cases i with
    | zero => cases h1; cases h2; exact ⟨_, rfl, a⟩
    | succ i => exact ih (by simpa using h1) (by simpa using h2)
theorem Fes.all {fs : List Str} {ds : List D} {ts : List Str} (h : Fes fs ds ts) : ∀ t ∈ ts, t.length ≤ 4000 := by
  induction h with
  | nil => intro t h; cases h
  | cons a _ ih =>
    intro t ht
    rcases List.mem_cons.mp ht with rfl | ht
    · exact a.len
    · exact ih t ht
theorem ev_tail1 {B : Bg} {N : List Str} {sc : Scope} {k : Nat} {S : Sit B N sc k} {G : Gam} {L : Sto} {e : Expr} {j : Nat} {pos p2 p3 : Pos} {x : D} {es : List D} (h : Ev S G L e (.tup (x :: es))) : Ev S G L (.Subscript e (.Slice (some (.Constant (.int 1) j p3)) none none p2) pos) (.tup es) := by
  have w := ev_sliceT (pos := pos) (p2 := p2) h (eo_some (i := ((1 : Nat) : Int)) (ev_int (i := 1) (j := j) (pos := p3))) eo_none (by
    rw [HT.sIx_nat]
    intro z
    have := z.1
    simp only [List.length_cons] at this
    omega)
  rwa [cutG_from (by simp)] at w
section
variable {B : Bg}
abbrev sDt : Stmt := top 106
theorem scSDt : FnScope ["deed", "words", "form", "entry"] ["deed"] (defScope sDt) := ⟨rfl, rfl, rfl, by decide +kernel, rfl, by decide +kernel, by decide +kernel⟩
def rDt : ASp := fun ds L post => ∃ key fs es ts, ds = [.tup (.str key :: es)] ∧ (key, fs) ∈ formsTab ∧ Fes fs es ts ∧ es.length ≤ 3 ∧ key.length ≤ 50 ∧ post (.str (Txt.join " " (key :: ts))) L
theorem ok_sdt {q : Addr} {f : Addr} {fd : FuncData} (F : Fun B.K "deed_text" "deed_text" sDt f fd) (T : Fms B "FORMS" q formsTab) (cEt : Cl B 2 "entry_text" rEt) : FnOk B.P B.w B.K B.mg B.base CX0 3 f fd ["deed"] (low rDt) := by
  refine ok_def F scSDt (fun ds L post ⟨_, _, _, _, h, _⟩ => by rw [h]; rfl) fun S hS ds L post ⟨key, fs, es, ts, e, hk, hf, hl, hkl, h⟩ => ?_
  subst e
  have hline : 1000 ≤ sizeLine := by decide
  obtain ⟨l1, l2⟩ := hf.len
  refine ws_set 1 (we_lstM ((ea_1 (ev_ixT (ds := .str key :: es) (atI_nat (j := 0) rfl) (ev_var 0) ev_int)).wa ⟨(show (1 : Nat) ≤ sizeLine by decide), fun q nq => ?_⟩))
  refine ws_for ((ei_zipF (es := es) T hk l1 (ev_ixT (ds := .str key :: es) (atI_nat (j := 0) rfl) (ev_var 0) ev_int) (ev_tail1 (ev_var 0))).wi (forW_inv (fun i G' L' => ∃ a b, G' = [some (.tup (.str key :: es)), some (.ptr q), a, b] ∧ L' = L.set q (.lst ((key :: ts.take i).map D.str))) ⟨_, _, rfl, rfl⟩ ?_ ?_))
  · rintro i d G' L' hd ⟨a, b, rfl, rfl⟩
    obtain ⟨f, x, hfi, hxi, rfl⟩ := zipD_get hd
    obtain ⟨t, hti, hfe⟩ := hf.at_ hfi hxi
    have hil : i < es.length := (List.getElem?_eq_some_iff.mp hxi).1
    have tk : ts.take (i + 1) = ts.take i ++ [t] := by rw [List.take_succ, hti]; rfl
    refine ⟨_, _, wg_pair 2 3, ?_⟩
    refine ws_expr (we_append (ev_var 1) ((ev_call cEt (by decide) (ea_2 (ev_var 2) (ev_var 3)) ⟨f, x, t, rfl, hfe, rfl, rfl⟩).we ⟨_, Sto.set_same, ?_, ws_nil ⟨_, _, rfl, ?_⟩⟩) ⟨_, Sto.set_same⟩)
    · rw [List.length_map, List.length_cons, List.length_take]; omega
    · rw [Sto.set_set, tk, ← List.cons_append, List.map_append]; rfl
  · rintro G' L' ⟨a, b, rfl, rfl⟩
    have hzl : (zipD fs es).length = ts.length := by unfold zipD; rw [List.length_map, List.length_zip]; omega
    rw [hzl, List.take_length]
    refine ws_frzN 1 nq ?_
    refine ws_ret ((ev_join (ys := key :: ts) (.inl rfl) ?_ ev_str (ev_var 1)).we h)
    have := sum_le hf.all
    have : ts.length * 4000 ≤ 3 * 4000 := Nat.mul_le_mul_right _ (by omega)
    rw [show (" " : Str).length = 1 from rfl]
    simp only [List.map_cons, List.sum_cons, List.length_cons]
    omega
end
end FS
/-! text W26 -/
/-! W26: dict comprehensions of two clauses (the kit's rule for lists, turned to dicts). -/
namespace FX
open PySem PySem.Spec PyProof.Rows L2
theorem dcTurn_out (kx vx t0 i0 t1 i1 : Expr) (ifs0 ifs1 : List Expr) (scope : Scope) (pos : Pos) (it : Value) (D : Addr) (env : Env) :
    compTurn (.DictComp kx vx [⟨t0, i0, ifs0, 0⟩, ⟨t1, i1, ifs1, 0⟩] scope pos) 0 it (.ref D) env = (do
      standAt i0.pos
      match ← pyNext it with
      | none => pure (.done .next)
      | some v =>
        letOwnedTupleGo t0 it v
        assign t0 env v
        let mut ok := true
        for c in ifs0 do
          if ok then ok ← isTrue c env (eval c env)
        if ok then
          let x ← eval i1 env
          standAt i1.pos
          let x ← foldedSetIterable i1 env x
          let _ ← runOwn (.compStart (.DictComp kx vx [⟨t0, i0, ifs0, 0⟩, ⟨t1, i1, ifs1, 0⟩] scope pos) 1 (← holding [x] (pyIter x)) (.ref D) env) env
        again (.compLoop (.DictComp kx vx [⟨t0, i0, ifs0, 0⟩, ⟨t1, i1, ifs1, 0⟩] scope pos) 0 it (.ref D) env)) := by rfl
theorem dcTurn_in (kx vx t0 i0 t1 i1 : Expr) (ifs0 ifs1 : List Expr) (scope : Scope) (pos : Pos) (it : Value) (D : Addr) (env : Env) :
    compTurn (.DictComp kx vx [⟨t0, i0, ifs0, 0⟩, ⟨t1, i1, ifs1, 0⟩] scope pos) 1 it (.ref D) env = (do
      standAt i1.pos
      match ← pyNext it with
      | none => pure (.done .next)
      | some v =>
        letOwnedTupleGo t1 it v
        assign t1 env v
        let mut ok := true
        for c in ifs1 do
          if ok then ok ← isTrue c env (eval c env)
        if ok then
          (do
            let kv ← eval kx env
            let vv ← holding [kv] (eval vx env)
            standAt { kx.pos with endLine := vx.pos.endLine, endCol := vx.pos.endCol }
            holding [kv, vv] (dictSet D kv vv))
        again (.compLoop (.DictComp kx vx [⟨t0, i0, ifs0, 0⟩, ⟨t1, i1, ifs1, 0⟩] scope pos) 1 it (.ref D) env)) := by rfl
section
variable {prog : Program} {w : World} {A : Around} {R : Result → Shared → Prop} {s : Shared} {kx vx t0 i0 t1 i1 : Expr} {ifs0 ifs1 : List Expr} {scope : Scope} {pos : Pos} {it : Value} {D : Addr} {env : Env}
/-- the loop of the first clause -/
theorem dcLoop_out (hs : ∀ x, foldedSetIterable i1 env x = pure x) (I : Nat → Shared → Prop)
    (turn : ∀ n s, I n s → wpAny (model prog w) A (pyNext it) (fun r s₁ => match r with
      | none => R (.ok .next) s₁
      | some v => wpAny (model prog w) A (letOwnedTupleGo t0 it v) (fun _ s₁' => wpAny (model prog w) A (assign t0 env v) (fun _ s₂ =>
          wpAny (model prog w) A (forIn ifs0 true fun c r => if r = true then do let ok ← isTrue c env (eval c env); pure (ForInStep.yield ok) else pure (ForInStep.yield r)) (fun ok s₃ =>
            if ok = true then wpAny (model prog w) A (eval i1 env) (fun x s₄ => wpAny (model prog w) A (pyIter x) (fun it1 s₅ =>
              codeAny (model prog w) A (.compStart (.DictComp kx vx [⟨t0, i0, ifs0, 0⟩, ⟨t1, i1, ifs1, 0⟩] scope pos) 1 it1 (.ref D) env) (fun r s' => match r with
                | .ok _ => ∃ m, m < n ∧ I m s'
                | .error _ => False) s₅) (notedBy (model prog w) A env fun e s' => R (.error e) s') s₄) (notedBy (model prog w) A env fun e s' => R (.error e) s') s₃
            else ∃ m, m < n ∧ I m s₃) (notedBy (model prog w) A env fun e s' => R (.error e) s') s₂) (notedBy (model prog w) A env fun e s' => R (.error e) s') s₁') (notedBy (model prog w) A env fun e s' => R (.error e) s') s₁) (notedBy (model prog w) A env fun e s' => R (.error e) s') s)
    (n : Nat) (h : I n s) :
    codeAny (model prog w) A (.compLoop (.DictComp kx vx [⟨t0, i0, ifs0, 0⟩, ⟨t1, i1, ifs1, 0⟩] scope pos) 0 it (.ref D) env) R s := by
  refine codeAny_loop rfl I (fun n s hI => ?_) n h
  show wpAny _ A ((compTurn (.DictComp kx vx [⟨t0, i0, ifs0, 0⟩, ⟨t1, i1, ifs1, 0⟩] scope pos) 0 it (.ref D) env).onRaise (fun x => do noteFrame x env; theTreesLotGoes x)) _ _ s
  refine wpAny_noted ?_
  rw [dcTurn_out]
  refine wpAny_bind (wpAny_standAt (wpAny_bind (wpAny_mono (turn n s hI) (fun r s₁ h₁ => ?_) fun _ _ h' => h')))
  cases r with
  | none => exact wpAny_pure h₁
  | some v =>
    refine wpAny_bind (wpAny_mono h₁ (fun _ s₁' h₁' => ?_) fun _ _ h' => h')
    refine wpAny_bind (wpAny_mono h₁' (fun _ s₂ h₂ => wpAny_bind (wpAny_mono h₂ (fun ok s₃ h₃ => ?_) fun _ _ h' => h')) fun _ _ h' => h')
    cases ok with
    | false => exact wpAny_pure ⟨rfl, h₃⟩
    | true =>
      refine wpAny_bind (wpAny_mono h₃ (fun x s₄ h₄ => ?_) fun _ _ h' => h')
      refine wpAny_bind (wpAny_standAt (wpAny_bind (wpAny_of_eq (hs x) (wpAny_bind (wpAny_holding (wpAny_mono h₄ (fun it1 s₅ h₅ => ?_) fun _ _ h' => h'))))))
      refine wpAny_bind (wpAny_runOwn ?_)
      rw [Around.mark_none]
      refine codeAny_mono h₅ fun r s' hr => ?_
      cases r with
      | ok f =>
        first
          | exact wpAny_pure ⟨rfl, hr⟩
          | exact wpAny_bind (wpAny_pure (wpAny_pure ⟨rfl, hr⟩))
      | error e => exact hr.elim
/-- the loop of the second -/
theorem dcLoop_in (I : Nat → Shared → Prop)
    (turn : ∀ n s, I n s → wpAny (model prog w) A (pyNext it) (fun r s₁ => match r with
      | none => R (.ok .next) s₁
      | some v => wpAny (model prog w) A (letOwnedTupleGo t1 it v) (fun _ s₁' => wpAny (model prog w) A (assign t1 env v) (fun _ s₂ =>
          wpAny (model prog w) A (forIn ifs1 true fun c r => if r = true then do let ok ← isTrue c env (eval c env); pure (ForInStep.yield ok) else pure (ForInStep.yield r)) (fun ok s₃ =>
            if ok = true then wpAny (model prog w) A (eval kx env) (fun kv s₄ => wpAny (model prog w) A (eval vx env) (fun vv s₅ =>
              wpAny (model prog w) A (dictSet D kv vv) (fun _ s₆ => ∃ m, m < n ∧ I m s₆) (notedBy (model prog w) A env fun e s' => R (.error e) s') s₅) (notedBy (model prog w) A env fun e s' => R (.error e) s') s₄) (notedBy (model prog w) A env fun e s' => R (.error e) s') s₃
            else ∃ m, m < n ∧ I m s₃) (notedBy (model prog w) A env fun e s' => R (.error e) s') s₂) (notedBy (model prog w) A env fun e s' => R (.error e) s') s₁') (notedBy (model prog w) A env fun e s' => R (.error e) s') s₁) (notedBy (model prog w) A env fun e s' => R (.error e) s') s)
    (n : Nat) (h : I n s) :
    codeAny (model prog w) A (.compLoop (.DictComp kx vx [⟨t0, i0, ifs0, 0⟩, ⟨t1, i1, ifs1, 0⟩] scope pos) 1 it (.ref D) env) R s := by
  refine codeAny_loop rfl I (fun n s hI => ?_) n h
  show wpAny _ A ((compTurn (.DictComp kx vx [⟨t0, i0, ifs0, 0⟩, ⟨t1, i1, ifs1, 0⟩] scope pos) 1 it (.ref D) env).onRaise (fun x => do noteFrame x env; theTreesLotGoes x)) _ _ s
  refine wpAny_noted ?_
  rw [dcTurn_in]
  refine wpAny_bind (wpAny_standAt (wpAny_bind (wpAny_mono (turn n s hI) (fun r s₁ h₁ => ?_) fun _ _ h' => h')))
  cases r with
  | none => exact wpAny_pure h₁
  | some v =>
    refine wpAny_bind (wpAny_mono h₁ (fun _ s₁' h₁' => ?_) fun _ _ h' => h')
    refine wpAny_bind (wpAny_mono h₁' (fun _ s₂ h₂ => wpAny_bind (wpAny_mono h₂ (fun ok s₃ h₃ => ?_) fun _ _ h' => h')) fun _ _ h' => h')
    cases ok with
    | false => exact wpAny_pure ⟨rfl, h₃⟩
    | true =>
      exact wpAny_bind (wpAny_bind (wpAny_mono h₃ (fun kv s₄ h₄ => wpAny_bind (wpAny_holding (wpAny_mono h₄ (fun vv s₅ h₅ => wpAny_bind (wpAny_standAt (wpAny_holding (wpAny_mono h₅ (fun _ s₆ h₆ => wpAny_pure ⟨rfl, h₆⟩) fun _ _ h' => h')))) fun _ _ h' => h'))) fun _ _ h' => h'))
/-- the second clause's start -/
theorem dcStart1_ok (h0 : codeAny (model prog w) A (.compLoop (.DictComp kx vx [⟨t0, i0, ifs0, 0⟩, ⟨t1, i1, ifs1, 0⟩] scope pos) 1 it (.ref D) env) R s)
    (h : wpAny (model prog w) A (pyIter it) (fun it' s' => codeAny (model prog w) A (.compLoop (.DictComp kx vx [⟨t0, i0, ifs0, 0⟩, ⟨t1, i1, ifs1, 0⟩] scope pos) 1 it' (.ref D) env) R s')
      (notedBy (model prog w) A env fun x s' => R (.error x) s') s) :
    codeAny (model prog w) A (.compStart (.DictComp kx vx [⟨t0, i0, ifs0, 0⟩, ⟨t1, i1, ifs1, 0⟩] scope pos) 1 it (.ref D) env) R s := by
  refine codeAny_of_tree ?_
  show wpAny _ _ ((compStart (.DictComp kx vx [⟨t0, i0, ifs0, 0⟩, ⟨t1, i1, ifs1, 0⟩] scope pos) 1 it (.ref D) env).onRaise (fun x => do noteFrame x env; standAt theWindowsPlace)) _ _ s
  refine wpAny_notedAt ?_
  unfold compStart
  show wpAny _ _ (ask >>= _) _ _ s
  refine wpAny_bind (wpAny_askSetting (wpAny_ite ?_))
  split
  · first
      | exact wpAny_bind (wpAny_pure (wpAny_pure (And.intro rfl h0)))
      | exact wpAny_pure (And.intro rfl h0)
  · first
      | exact wpAny_bind (wpAny_rule (wpAny_bind (wpAny_standAt (wpAny_bind (wpAny_mono h (fun it' s' h' => wpAny_pure (And.intro rfl h')) fun _ _ x => x)))))
      | (refine wpAny_bind (wpAny_rule ?_); show wpAny _ _ (standAt i1.pos >>= _) _ _ s; exact wpAny_bind (wpAny_standAt (wpAny_bind (wpAny_mono h (fun it' s' h' => wpAny_pure (And.intro rfl h')) fun _ _ x => x))))
end
section
variable {X : Cx}
/-- {k: v for tg in iter for tg1 in iter1} -/
def tDc2 (wi : TI) (g : TG) (tt : TT) (wi1 : TI) (g1 : TG) (tt1 : TT) (tk tv : TE) (vs vs1 : List Nat) : TE := fun σ H Q => wi σ H fun J H1 => ∀ D, H1 D = none → ∃ W : Nat → Nat → Hp → Prop, (∃ m, W 0 m (upd H1 D (.dK []))) ∧ ∀ i m H, W i m H →
  (J.stop i H ∧ Q (.ref D) H) ∨ (J.go i H ∧ ∃ Nx : Hp → Prop, (∀ H', Nx H' → ∃ m', m' < m ∧ W (i + 1) m' H') ∧ ∀ x H', J.yld i H x H' → g x (wipe σ vs) H' fun σ2 H2 => wipe σ2 vs = wipe σ vs ∧ tt σ2 H2 fun b H3 =>
    if b = true then wi1 σ2 H3 fun J1 H4 => ∃ W1 : Nat → Nat → Hp → Prop, (∃ m, W1 0 m H4) ∧ ∀ j k H, W1 j k H →
      (J1.stop j H ∧ Nx H) ∨ (J1.go j H ∧ ∃ Nx1 : Hp → Prop, (∀ H', Nx1 H' → ∃ k', k' < k ∧ W1 (j + 1) k' H') ∧ ∀ x H', J1.yld j H x H' → g1 x (wipe σ2 vs1) H' fun σ3 H5 => wipe σ3 vs1 = wipe σ2 vs1 ∧ tt1 σ3 H5 fun b H6 =>
        if b = true then tk σ3 H6 fun y H7 => tv σ3 H7 fun z H8 => ∃ kvs kk, y = kV kk ∧ H8 D = some (.dK kvs) ∧ kvs.length < sizeLine ∧ Nx1 (upd H8 D (.dK (putK kvs kk z))) else Nx1 H6)
    else Nx H3)
theorem dc2_core {pins : List (Addr × Obj)} {s : Shared} {σ : L2.St} {H : Hp} {Q : VK} {kx vx tg iter tg1 iter1 : Expr} {ifs ifs1 : List Expr} {scope : Scope} {own : List (Str × Nat)} {vs1 : List Nat} {pos pos' : Pos} {wi wi1 : TI} {g g1 : TG} {tt tt1 : TT} {tk tv : TE} {use : Option (Value → Sem Unit)} {Qf : Value → Shared → Prop}
    (hc : X.calm = true) (hN : X.N.Nodup) (I : Inv X pins σ H s) (hi : PI X tg iter wi) (ok : BlkOk X.N X.env.scope scope own) (hv : ∀ i ∈ vs1, i ∈ own.map (·.2))
    (hg : ∀ (s : Shared) (H : Hp) (C : Addr) (cl : List (Str × Addr)) (fp : List Addr), PG (X.blk s H scope (compEnvC scope cl C X.env) fp) tg g) (ht : ∀ (s : Shared) (H : Hp) (C : Addr) (cl : List (Str × Addr)) (fp : List Addr), PTs (X.blk s H scope (compEnvC scope cl C X.env) fp) ifs tt)
    (hk : ∀ (s : Shared) (H : Hp) (C : Addr) (cl : List (Str × Addr)) (fp : List Addr), PE (X.blk s H scope (compEnvC scope cl C X.env) fp) kx tk) (he : ∀ (s : Shared) (H : Hp) (C : Addr) (cl : List (Str × Addr)) (fp : List Addr), PE (X.blk s H scope (compEnvC scope cl C X.env) fp) vx tv) (hs : ∀ x, foldedSetIterable iter X.env x = pure x)
    (hi1 : ∀ (s : Shared) (H : Hp) (C : Addr) (cl : List (Str × Addr)) (fp : List Addr), PI (X.blk s H scope (compEnvC scope cl C X.env) fp) tg1 iter1 wi1)
    (hg1 : ∀ (s : Shared) (H : Hp) (C : Addr) (cl : List (Str × Addr)) (fp : List Addr), PG (X.blk s H scope (compEnvC scope cl C X.env) fp) tg1 g1)
    (ht1 : ∀ (s : Shared) (H : Hp) (C : Addr) (cl : List (Str × Addr)) (fp : List Addr), PTs (X.blk s H scope (compEnvC scope cl C X.env) fp) ifs1 tt1)
    (hs1 : ∀ env x, foldedSetIterable iter1 env x = pure x)
    (h : tDc2 wi g tt wi1 g1 tt1 tk tv (own.map (·.2)) vs1 σ H Q)
    (hRR : ∀ D C s' m H', Inv X pins σ H' s' → Q (.ref D) H' → s'.heap.Ns C m → FpOk X pins H' C → compPost (model X.prog X.w) X.A X.xe use Qf (.ref D) C (.ok .next) s') :
    wpAny (model X.prog X.w) X.A (comprehension (.DictComp kx vx [⟨tg, iter, ifs, 0⟩, ⟨tg1, iter1, ifs1, 0⟩] scope pos) scope X.env pos' newDict false (eval iter X.env) use) Qf X.xe s := by
  have hfree : ∀ y ∈ scope.names, y.2 = .free → ∃ c, X.env.cells.lookup y.1 = some c := fun y hy e => by
    rcases ok.free y hy e with k | k
    · exact I.ok.has _ (.inl k)
    · exact I.ok.has _ (.inr k)
  refine wpAny_comprehension_free (use := use) rfl hs (closure_ok hfree) ok.kind (fun y hy e => by rw [ok.uniq y hy, e])
    (thn (hi.run pins s σ H _ I h) fun xv s1 hx => thn hx fun itv s2 h2 => ?_)
  obtain ⟨it, fp, tn, J, H2, e, I2, T, st2, f2, q⟩ := h2
  subst e
  refine wpAny_newObj_type (newEnv_comp ?_)
  generalize hD : s2.heap.objs.size = D
  have hDn : H2 D = none := I2.hok.fresh (Nat.le_of_eq hD)
  obtain ⟨W, ⟨m0, w0⟩, turn⟩ := q D hDn
  -- the new list
  generalize hs3 : ({ s2 with heap := s2.heap.push { cls := .type "dict", data := .dict #[] } } : Shared) = s3
  have I3 : Inv X pins σ (upd H2 D (.dK [])) s3 := by
    rw [← hs3]
    refine I2.laid (t' := s2.toks) (fun b o e => Heap.get?_push_of_some _ e) (Nat.le_of_eq hD) ?_
    rw [← hD]
    exact dk_empty s2.heap I2.big
  have h3 : s3.heap = s2.heap.push { cls := .type "dict", data := .dict #[] } := by rw [← hs3]
  have sz : ∀ b ∈ fp, b < s2.heap.objs.size := fun b hb => by
    obtain ⟨o, e, _⟩ := T.obj _ _ st2 b hb
    exact Heap.lt_size e
  have f3 : ∀ b ∈ fp, FpOk X pins (upd H2 D (.dK [])) b ∧ b < s3.heap.objs.size := fun b hb => by
    have hlt := sz b hb
    refine ⟨⟨?_, (f2 b hb).2⟩, by rw [h3, Heap.size_push]; exact Nat.lt_succ_of_lt hlt⟩
    rw [upd_ne (by rw [← hD]; exact Nat.ne_of_lt hlt)]
    exact (f2 b hb).1
  have st3 : tn 0 s3.heap := T.keep _ _ _ st2 fun b _ o e => by rw [h3]; exact Heap.get?_push_of_some _ e
  have I4 := block_start I3 ok hN f3
  have pg := hg s3 (upd H2 D (.dK [])) s3.heap.objs.size (cellsFrom (s3.heap.objs.size + 1) scope.names (cloFrom X.env.cells scope.names [])) fp
  have pt := ht s3 (upd H2 D (.dK [])) s3.heap.objs.size (cellsFrom (s3.heap.objs.size + 1) scope.names (cloFrom X.env.cells scope.names [])) fp
  have pk := hk s3 (upd H2 D (.dK [])) s3.heap.objs.size (cellsFrom (s3.heap.objs.size + 1) scope.names (cloFrom X.env.cells scope.names [])) fp
  have pe := he s3 (upd H2 D (.dK [])) s3.heap.objs.size (cellsFrom (s3.heap.objs.size + 1) scope.names (cloFrom X.env.cells scope.names [])) fp
  have pi1 := hi1 s3 (upd H2 D (.dK [])) s3.heap.objs.size (cellsFrom (s3.heap.objs.size + 1) scope.names (cloFrom X.env.cells scope.names [])) fp
  have pg1 := hg1 s3 (upd H2 D (.dK [])) s3.heap.objs.size (cellsFrom (s3.heap.objs.size + 1) scope.names (cloFrom X.env.cells scope.names [])) fp
  have pt1 := ht1 s3 (upd H2 D (.dK [])) s3.heap.objs.size (cellsFrom (s3.heap.objs.size + 1) scope.names (cloFrom X.env.cells scope.names [])) fp
  show codeAny _ _ (.compStart (.DictComp kx vx [⟨tg, iter, ifs, 0⟩, ⟨tg1, iter1, ifs1, 0⟩] scope pos) 0 (.ref it) (.ref D) (compEnvC scope (cellsFrom (s3.heap.objs.size + 1) scope.names (cloFrom X.env.cells scope.names [])) s3.heap.objs.size X.env)) (compPost (model X.prog X.w) X.A X.xe use Qf (.ref D) s3.heap.objs.size) { s3 with heap := pushCells (s3.heap.push { cls := .type "dict", data := .dict #[] }) scope.names }
  have nfp : ∀ b ∈ fp, (upd H2 D (.dK [])) b = none := fun b hb => (f3 b hb).1.1
  generalize hce : compEnvC scope (cellsFrom (s3.heap.objs.size + 1) scope.names (cloFrom X.env.cells scope.names [])) s3.heap.objs.size X.env = ce at I4 pg pt pk pe pi1 pg1 pt1 ⊢
  have cL : ce.locals = s3.heap.objs.size := by subst hce; rfl
  generalize hH3 : upd H2 D (.dK []) = H3 at I3 I4 pg pt pk pe pi1 pg1 pt1 w0 nfp f3
  generalize hs4 : ({ s3 with heap := pushCells (s3.heap.push { cls := .type "dict", data := .dict #[] }) scope.names } : Shared) = s4 at I4 ⊢
  have st4 : tn 0 s4.heap := T.keep _ _ _ st3 fun b _ o e => by rw [← hs4]; exact pushCells_keeps _ _ _ _ (Heap.get?_push_of_some _ e)
  have stat : ∀ {σ' : L2.St} {H' : Hp} {s' : Shared}, Inv (X.blk s3 H3 scope ce fp) [] σ' H' s' → (∀ b ∈ fp, H' b = none) → ∀ b ∈ fp, FpOk (X.blk s3 H3 scope ce fp) [] H' b := fun {σ' H' s'} I' hn b hb =>
    ⟨hn b hb, (I'.ok.exf b hb).1, I'.ok.exfs b hb, .inl hb, fun x c e => (I'.ok.exf b hb).2 x c e, fun p hp => absurd (show p ∈ ([] : List (Addr × Obj)) ++ [] from hp) (by simp)⟩
  have loop : codeAny (model X.prog X.w) X.A (.compLoop (.DictComp kx vx [⟨tg, iter, ifs, 0⟩, ⟨tg1, iter1, ifs1, 0⟩] scope pos) 0 (.ref it) (.ref D) ce) (compPost (model X.prog X.w) X.A X.xe use Qf (.ref D) s3.heap.objs.size) s4 := by
    refine dcLoop_out (hs1 ce) (fun n s' => ∃ i H', Inv (X.blk s3 H3 scope ce fp) [] (wipe σ (own.map (·.2))) H' s' ∧ tn i s'.heap ∧ (∀ b ∈ fp, H' b = none) ∧ W i n H') ?_ m0 ⟨0, H3, I4, st4, nfp, w0⟩
    rintro n s5 ⟨i, H5, I5, st5, n5, w5⟩
    rcases turn i n H5 w5 with ⟨stop, qq⟩ | ⟨go, Nx, hNx, step⟩
    · have td := T.done (X.blk s3 H3 scope ce fp) rfl rfl rfl hc i [] s5 _ H5 (fun _ _ => False) I5 (stat I5 n5) st5 stop
      refine thnF td fun r s6 ⟨hr, I6⟩ => ?_
      subst hr
      -- back in the def's context
      have I7 : Inv X pins σ H5 s6 := I3.call' (ch := fp) I6.os I6.base I6.hok I6.bare fun b hb => ⟨(f3 b hb).1.2.2.2.1, (f3 b hb).1.2.1, (f3 b hb).1.2.2.2.2.1, (f3 b hb).1.2.2.2.2.2⟩
      have nC : H5 s3.heap.objs.size = none := by
        have z : H5 ce.locals = none := I6.free
        rw [cL] at z
        exact z
      obtain ⟨m, hn, _⟩ := I6.loc
      have hn : s6.heap.Ns ce.locals m := hn
      rw [cL] at hn
      exact hRR D s3.heap.objs.size s6 m H5 I7 qq hn (I3.fpOk (Nat.le_refl _) nC)
    · have ti := T.item (X.blk s3 H3 scope ce fp) rfl rfl rfl hc i [] s5 _ H5 (fun _ _ => False) I5 (stat I5 n5) st5 go
      refine thnF ti fun r s6 ⟨u, hr, h6⟩ => ?_
      subst hr
      refine thnF h6 fun _ s7 ⟨x, H7, I7, r7, y7, st7, n7⟩ => ?_
      have I7' := I7.pinned (stat I7 n7) (T.obj _ _ st7)
      refine thnF (pg.run _ s7 _ H7 x u _ I7' r7 (step x H7 y7)) fun _ s8 ⟨σ8, H8, I8, hw8, q8⟩ => ?_
      refine thnF (pt.run _ s8 σ8 H8 _ I8 q8) fun b s9 ⟨H9, I9, q9⟩ => ?_
      -- the turn's end, from any slots that know what the block knew at its start
      have fin : ∀ {σ9 : L2.St} {s' : Shared} {H' : Hp}, Inv (X.blk s3 H3 scope ce fp) ([] ++ pinsAt fp s7.heap) σ9 H' s' → (wipe σ (own.map (·.2))).length = σ9.length → (∀ (j : Nat) v, (wipe σ (own.map (·.2)))[j]? = some (some v) → σ9[j]? = some (some v)) → Nx H' →
          ∃ m, m < n ∧ ∃ i H', Inv (X.blk s3 H3 scope ce fp) [] (wipe σ (own.map (·.2))) H' s' ∧ tn i s'.heap ∧ (∀ b ∈ fp, H' b = none) ∧ W i m H' := fun {σ9 s' H'} I' hl hk nx => by
        obtain ⟨m', hm, w'⟩ := hNx H' nx
        have pin' : ∀ b ∈ fp, ∀ o, s7.heap.get? b = some o → s'.heap.get? b = some o ∧ H' b = none := fun b hb o e =>
          let z := I'.pin (b, o) (List.mem_append_right _ (List.mem_append_right _ (mem_pinsAt hb e)))
          ⟨z.1, z.2.1⟩
        refine ⟨m', hm, i + 1, H', (I'.unpinned (pins := [])).weak hl hk, T.keep _ _ _ st7 fun b hb o e => (pin' b hb o e).1, fun b hb => ?_, w'⟩
        obtain ⟨o, e, _⟩ := T.obj _ _ st7 b hb
        exact (pin' b hb o e).2
      have hl8 : (wipe σ (own.map (·.2))).length = σ8.length := by rw [← hw8, wipe_length]
      have hk8 : ∀ (j : Nat) v, (wipe σ (own.map (·.2)))[j]? = some (some v) → σ8[j]? = some (some v) := fun j v e => by
        rw [← hw8] at e
        exact (wipe_some e).1
      have hk9 : ∀ (j : Nat) v, (wipe σ (own.map (·.2)))[j]? = some (some v) → (wipe σ8 vs1)[j]? = some (some v) := fun j v e => by
        rw [← hw8] at e
        obtain ⟨e1, e2⟩ := wipe_some e
        rw [wipe_out fun z => e2 (hv j z)]
        exact e1
      cases b with
      | false =>
        simp only [Bool.false_eq_true, if_false] at q9 ⊢
        exact fin I9 hl8 hk8 q9
      | true =>
        simp only [if_true] at q9 ⊢
        refine thnF (pi1.run _ s9 σ8 H9 _ I9 q9) fun xv s10 hx => thnF hx fun itv s11 h11 => ?_
        obtain ⟨it1, fp1, tn1, J1, H11, e1, I11, T1, st11, f11, W1, ⟨m1, w1⟩, turn1⟩ := h11
        subst e1
        -- the inner loop
        have stat1 : ∀ {H' : Hp}, (∀ b ∈ fp1, H' b = none) → ∀ b ∈ fp1, FpOk (X.blk s3 H3 scope ce fp) ([] ++ pinsAt fp s7.heap) H' b := fun hn b hb => ⟨hn b hb, (f11 b hb).2⟩
        have loop1 : codeAny (model X.prog X.w) X.A (.compLoop (.DictComp kx vx [⟨tg, iter, ifs, 0⟩, ⟨tg1, iter1, ifs1, 0⟩] scope pos) 1 (.ref it1) (.ref D) ce)
            (fun r s' => match r with
              | .ok _ => ∃ m, m < n ∧ ∃ i H', Inv (X.blk s3 H3 scope ce fp) [] (wipe σ (own.map (·.2))) H' s' ∧ tn i s'.heap ∧ (∀ b ∈ fp, H' b = none) ∧ W i m H'
              | .error _ => False) s11 := by
          refine dcLoop_in (fun k s' => ∃ j H', Inv (X.blk s3 H3 scope ce fp) ([] ++ pinsAt fp s7.heap) (wipe σ8 vs1) H' s' ∧ tn1 j s'.heap ∧ (∀ b ∈ fp1, H' b = none) ∧ W1 j k H') ?_ m1 ⟨0, H11, I11.weak (wipe_length _ _) (fun j v e => (wipe_some e).1), st11, fun b hb => (f11 b hb).1, w1⟩
          rintro k s12 ⟨j, H12, I12, st12, n12, w12⟩
          rcases turn1 j k H12 w12 with ⟨stop1, nx1⟩ | ⟨go1, Nx1, hNx1, step1⟩
          · refine thnF (T1.done (X.blk s3 H3 scope ce fp) rfl rfl rfl hc j _ s12 (wipe σ8 vs1) H12 (fun _ _ => False) I12 (stat1 n12) st12 stop1) fun r s13 ⟨hr, I13⟩ => ?_
            subst hr
            exact fin I13 (hl8.trans (wipe_length σ8 vs1).symm) hk9 nx1
          · refine thnF (T1.item (X.blk s3 H3 scope ce fp) rfl rfl rfl hc j _ s12 (wipe σ8 vs1) H12 (fun _ _ => False) I12 (stat1 n12) st12 go1) fun r s13 ⟨u1, hr, h13⟩ => ?_
            subst hr
            refine thnF h13 fun _ s14 ⟨x1, H14, I14, r14, y14, st14, n14⟩ => ?_
            have I14' := I14.pinned (stat1 n14) (T1.obj _ _ st14)
            refine thnF (pg1.run _ s14 (wipe σ8 vs1) H14 x1 u1 _ I14' r14 (step1 x1 H14 y14)) fun _ s15 ⟨σ15, H15, I15, hw15, q15⟩ => ?_
            refine thnF (pt1.run _ s15 σ15 H15 _ I15 q15) fun b1 s16 ⟨H16, I16, q16⟩ => ?_
            have fin1 : ∀ {s' : Shared} {H' : Hp}, Inv (X.blk s3 H3 scope ce fp) (([] ++ pinsAt fp s7.heap) ++ pinsAt fp1 s14.heap) σ15 H' s' → Nx1 H' → ∃ m, m < k ∧ ∃ j H', Inv (X.blk s3 H3 scope ce fp) ([] ++ pinsAt fp s7.heap) (wipe σ8 vs1) H' s' ∧ tn1 j s'.heap ∧ (∀ b ∈ fp1, H' b = none) ∧ W1 j m H' := fun {s' H'} I' nx => by
              obtain ⟨m', hm, w'⟩ := hNx1 H' nx
              have pin' : ∀ b ∈ fp1, ∀ o, s14.heap.get? b = some o → s'.heap.get? b = some o ∧ H' b = none := fun b hb o e =>
                let z := I'.pin (b, o) (List.mem_append_right _ (List.mem_append_right _ (mem_pinsAt hb e)))
                ⟨z.1, z.2.1⟩
              refine ⟨m', hm, j + 1, H', I'.unpinned.weak (by rw [← hw15, wipe_length]) (fun j v e => by rw [← hw15] at e; exact (wipe_some e).1), T1.keep _ _ _ st14 fun b hb o e => (pin' b hb o e).1, fun b hb => ?_, w'⟩
              obtain ⟨o, e, _⟩ := T1.obj _ _ st14 b hb
              exact (pin' b hb o e).2
            cases b1 with
            | false =>
              simp only [Bool.false_eq_true, if_false] at q16 ⊢
              exact fin1 I16 q16
            | true =>
              simp only [if_true] at q16 ⊢
              refine thnF (pk.run _ s16 σ15 H16 _ I16 q16) fun z s17 ⟨yk, H17, I17, r17, q17⟩ => ?_
              refine thnF (pe.run _ s17 σ15 H17 _ I17 q17) fun z2 s18 ⟨yv, H18, I18, r18, kvs, kk, ek, hD18, hz18, nx⟩ => ?_
              subst ek
              exact d_dictSet (X := X.blk s3 H3 scope ce fp) I18 hD18 hz18 r17 r18 fun s19 I19 => fin1 I19 nx
        exact dcStart1_ok loop1 (T1.self X.A 0 _ _ _ st11 loop1)
  exact codeAny_compStart_dict loop (T.self X.A 0 _ _ _ st4 loop)
/-- as a value -/
theorem pe_dc2 {kx vx tg iter tg1 iter1 : Expr} {ifs ifs1 : List Expr} {scope : Scope} {own : List (Str × Nat)} {vs1 : List Nat} {pos : Pos} {wi wi1 : TI} {g g1 : TG} {tt tt1 : TT} {tk tv : TE} (hc : X.calm = true) (hN : X.N.Nodup) (hi : PI X tg iter wi) (ok : BlkOk X.N X.env.scope scope own) (hv : ∀ i ∈ vs1, i ∈ own.map (·.2))
    (hg : ∀ (s : Shared) (H : Hp) (C : Addr) (cl : List (Str × Addr)) (fp : List Addr), PG (X.blk s H scope (compEnvC scope cl C X.env) fp) tg g) (ht : ∀ (s : Shared) (H : Hp) (C : Addr) (cl : List (Str × Addr)) (fp : List Addr), PTs (X.blk s H scope (compEnvC scope cl C X.env) fp) ifs tt)
    (hi1 : ∀ (s : Shared) (H : Hp) (C : Addr) (cl : List (Str × Addr)) (fp : List Addr), PI (X.blk s H scope (compEnvC scope cl C X.env) fp) tg1 iter1 wi1)
    (hg1 : ∀ (s : Shared) (H : Hp) (C : Addr) (cl : List (Str × Addr)) (fp : List Addr), PG (X.blk s H scope (compEnvC scope cl C X.env) fp) tg1 g1) (ht1 : ∀ (s : Shared) (H : Hp) (C : Addr) (cl : List (Str × Addr)) (fp : List Addr), PTs (X.blk s H scope (compEnvC scope cl C X.env) fp) ifs1 tt1)
    (hk : ∀ (s : Shared) (H : Hp) (C : Addr) (cl : List (Str × Addr)) (fp : List Addr), PE (X.blk s H scope (compEnvC scope cl C X.env) fp) kx tk) (he : ∀ (s : Shared) (H : Hp) (C : Addr) (cl : List (Str × Addr)) (fp : List Addr), PE (X.blk s H scope (compEnvC scope cl C X.env) fp) vx tv) (hs : ∀ x, foldedSetIterable iter X.env x = pure x := by intro _; rfl) (hs1 : ∀ env x, foldedSetIterable iter1 env x = pure x := by intro _ _; rfl) :
    PE X (.DictComp kx vx [⟨tg, iter, ifs, 0⟩, ⟨tg1, iter1, ifs1, 0⟩] scope pos) (tDc2 wi g tt wi1 g1 tt1 tk tv (own.map (·.2)) vs1) := by
  refine ⟨fun pins s σ H Q I h => ?_⟩
  rw [arm_eval_DictComp]
  refine dc2_core hc hN I hi ok hv hg ht hk he hs hi1 hg1 ht1 hs1 h fun D C s' m H' I' q hn f => ⟨m, hn, fun h'' sb => ?_⟩
  obtain ⟨f0, f1, f2, f3, f4, f5⟩ := f
  exact ⟨.ref D, H', I'.turned (t' := s'.toks) (fun b o hb e => (sb.2 b hb).trans e) f0 f1 f3 f4 f5, rfl, q⟩
end
end FX
/-! text W27 -/
/-! W27: tuple(d) of a dict; {k: v for a in x for b in a}, pure. -/
namespace FX
open PySem PySem.Spec PyProof.Rows L2
section
variable {prog : Program} {w : World} {A : Around} {E : Value → Shared → Prop} {s : Shared} {T : String} {r d : Addr} {n : Nat} {P : Nat → Value → Prop} {OK : Heap → Prop}
theorem collect_kdl {Q : List Value → Shared → Prop} (K : PySem.W.KdlSrc prog w T r d n P OK) (hh : A.handled = none) (hok : OK s.heap) (hn : n ≤ sizeLine)
    (hQ : ∀ (h' : Heap) (tk : Nat) (acc : Array Value), (∀ b o, s.heap.get? b = some o → h'.get? b = some o) → ItemsOf P acc n → Q acc.toList { s with heap := h', toks := tk }) :
    wpAny (model prog w) A (collect (.ref r)) Q E s := by
  unfold collect
  refine wpAny_bind (wpAny_runValue (codeAny_builtin F.entry_proto_collect ?_))
  rw [Around.under_plainId F.plain_proto_collect _]
  show wpAny _ A.in1 (newList [] >>= fun l => again (.builtin "list.__iadd__" ⟨[l, .ref r], []⟩)) _ _ s
  refine wpAny_bind (wpAny_newObj_type ?_)
  refine wpAny_pure ⟨plainId_quiet F.plain_list_iadd _, codeAny_builtin F.entry_list_iadd ?_⟩
  rw [Around.under_plainId F.plain_list_iadd _]
  show wpAny _ A.in1 (Builtin.List.listExtendWith (.ref s.heap.objs.size) (.ref r) (.ref s.heap.objs.size)) _ _ _
  have hS : (s.heap.push { cls := .type "list", data := .seq ([] : List Value).toArray }).get? s.heap.objs.size = some { cls := .type "list", data := .seq #[] 0 } := Heap.get?_push_size _ rfl
  have hlt := K.there _ hok
  refine wpAny_mono (PySem.W.kdl_extend (A := A) (R := fun rr s' => rr = .ok (.ret (.ref s.heap.objs.size)) ∧ ∃ (h' : Heap) (tk : Nat) (acc : Array Value) (c' : Nat), s' = { s with heap := h', toks := tk } ∧
      (∀ b o, s.heap.get? b = some o → h'.get? b = some o) ∧ h'.get? s.heap.objs.size = some { cls := .type "list", dict := none, data := .seq acc c', slots := #[] } ∧ ItemsOf P acc n)
    (s := { s with heap := s.heap.push { cls := .type "list", data := .seq ([] : List Value).toArray } }) K hh (K.keep _ _ hok fun b _ o e => Heap.get?_push_of_some _ e) _ (Nat.ne_of_gt hlt.1) (Nat.ne_of_gt hlt.2) _ 0 hS
    (fun h' tk acc c' hk e hi => ⟨rfl, h', tk, acc, c', rfl, fun b o q => hk b o (Nat.ne_of_lt (Heap.lt_size q)) (Heap.get?_push_of_some _ q), e, hi⟩) hn) (fun fin s' h => ?_) (fun e s' h => ?_)
  · cases fin with
    | done f =>
      obtain ⟨e, h', tk, acc, c', rfl, hk, hS', hi⟩ := h
      cases e
      show wpAny _ A (load s.heap.objs.size >>= _) _ _ _
      exact wpAny_bind (wpAny_load hS' (wpAny_pure (hQ h' tk acc hk hi)))
    | again c' =>
      refine ⟨h.1, codeAny_mono h.2 fun rr s'' hr' => ?_⟩
      obtain ⟨rfl, h', tk, acc, c', rfl, hk, hS', hi⟩ := hr'
      show wpAny _ A (load s.heap.objs.size >>= _) _ _ _
      exact wpAny_bind (wpAny_load hS' (wpAny_pure (hQ h' tk acc hk hi)))
  · exact absurd h.1 (by simp)
theorem code_tuple_kdl {Q₁ : Value → Shared → Prop} (K : PySem.W.KdlSrc prog w T r d n P OK) (hT : T = "dict") (hh : A.handled = none) (hok : OK s.heap) (hn : n ≤ sizeLine)
    (h : ∀ (h' : Heap) (tk : Nat) (acc : Array Value), (∀ b o, s.heap.get? b = some o → h'.get? b = some o) → ItemsOf P acc n →
      Q₁ (.ref h'.objs.size) { s with heap := h'.push { cls := .type "tuple", data := .seq acc }, toks := tk }) :
    codeAny (model prog w) A (.call (.builtin "tuple.__new__") ⟨[.type "tuple", .ref r], []⟩) (wants Q₁ E) s := by
  subst hT
  refine codeAny_of_tree ?_
  show wpAny _ A.in1 (do checkBuiltinCall "tuple.__new__" ⟨[.type "tuple", .ref r], []⟩; again (.builtin "tuple.__new__" ⟨[.type "tuple", .ref r], []⟩)) _ _ s
  refine wpAny_bind (wpAny_of_eq (F.newCall_tuple_1 _) (wpAny_pure ⟨plainId_quiet F.plain_tuple_new _, codeAny_builtin F.entry_tuple_new ?_⟩))
  rw [Around.under_plainId F.plain_tuple_new _]
  have hsub := sub_tuple_self
  have hinit := init_tuple_lookup
  have hmh := madeHere_tuple
  have hTI : s.TypeIs (.ref r) "dict" := K.type s hok
  have hh1 : A.in1.handled = none := hh
  wp_walk using wpAny_typeOf hTI, collect_kdl (A := A.in1) K hh1 hok hn
  intro h' tk acc hk hacc
  show wpAny _ _ (Builtin.Tuple.tupleExact acc.toList.toArray >>= fun v => ret v) _ _ _
  unfold Builtin.Tuple.tupleExact
  refine wpAny_bind (wpAny_newObj_type ?_ (by show acc.toList.toArray.size ≤ sizeLine; simp only [Array.toArray_toList]; rw [hacc.1]; exact hn))
  refine wpAny_pure ?_
  have e : acc.toList.toArray = acc := by simp
  rw [e]
  exact h h' tk acc hk hacc
theorem call_tuple_kdl {Q : Value → Shared → Prop} (K : PySem.W.KdlSrc prog w T r d n P OK) (hT : T = "dict") (hh : A.handled = none) (hok : OK s.heap) (hn : n ≤ sizeLine)
    (hQ : ∀ (h' : Heap) (tk : Nat) (acc : Array Value), (∀ b o, s.heap.get? b = some o → h'.get? b = some o) → ItemsOf P acc n →
      Q (.ref h'.objs.size) { s with heap := h'.push { cls := .type "tuple", data := .seq acc }, toks := tk }) :
    wpAny (model prog w) A (call (.type "tuple") [.ref r]) Q E s := by
  refine callType_codes (Q₁ := fun obj s₁ => s₁.TypeIs obj "tuple" ∧ Q obj s₁) F.called_tuple (F.typeCall_tuple_1 _) F.entry_object_init
    (code_tuple_kdl (A := A.in1) K hT hh hok hn fun h' tk acc hk hacc => ⟨⟨_, Heap.get?_push_size _ rfl, rfl⟩, hQ h' tk acc hk hacc⟩) fun obj s₁ h₁ => ?_
  exact ⟨h₁.1, F.args_object_init_2 obj _, object_init_meets F.called_tuple.init.lookup F.called_tuple.made (by decide) prog w A.in1 _ s₁ ⟨h₁.1, rfl, h₁.2⟩⟩
end
theorem call_tupleD {X : Cx} (hcalm : X.calm = true) : CallR X (.type "tuple") (fun xs H Q => ∃ (a : Addr) (kvs : List (Key × V)), xs = [.ref a] ∧ Rd H a (.dK kvs) ∧ ∀ p, H p = none → Q (.ref p) (upd H p (.tup (kvs.map fun kv => kV kv.1)))) := by
  intro pins s σ H xs us Q I r q
  obtain ⟨a, kvs, ex, hd, q⟩ := q
  subst ex
  obtain ⟨u, eu, rx⟩ := vals1 r
  subst eu
  cases rx
  obtain ⟨z, lo, vs, rel, dd⟩ := dk_rd I.hok hd
  obtain ⟨ep, hat⟩ := dd.dictAt
  have ek : (kvs.map fun kv => kV kv.1) = vs.map fun p => kV p.1 := by
    have e := congrArg (List.map kV) rel.keys
    rw [List.map_map, List.map_map] at e
    exact e
  refine call_tuple_kdl (PySem.W.kdl_dict (knd := mixKind X.prog X.w) (kvs := vs) (ep := ep) lo) rfl (I.ok.hd hcalm) hat (by rw [← rel.length]; exact z) fun h' tk acc hk hacc => ?_
  have hv : Vals (vs.map fun p => kV p.1) acc.toList := keys_at (by rw [Array.length_toList]; exact hacc.1) fun j v e => hacc.2 j v (by rw [← Array.getElem?_toList]; exact e)
  have I1 : Inv X pins σ H { s with heap := h', toks := tk } := I.kept (t' := tk) hk
  refine ⟨.ref h'.objs.size, upd H h'.objs.size (.tup (kvs.map fun kv => kV kv.1)), I1.laid (t' := tk) (fun b o e => Heap.get?_push_of_some _ e) (Nat.le_refl _)
    (show ObjOk X.prog X.w _ _ _ (.tup (kvs.map fun kv => kV kv.1)) from ⟨by rw [List.length_map]; exact z, acc.toList, by rw [ek]; exact hv, ?_⟩), rfl, q _ (I1.hok.fresh (Nat.le_refl _))⟩
  have := IsTup.new h' acc.toList.toArray
  rwa [Array.toArray_toList] at this
end FX
namespace FS
open PySem PySem.Spec PyProof.Rows L2
section
variable {B : Bg} {N : List Str} {sc : Scope} {k : Nat}
variable {S : Sit B N sc k} {G : Gam} {L : Sto} {e a b c o tg it elt tg1 it1 kx vx : Expr} {pos p : Pos}
theorem ev_tupleD {d : D} {ds : List (Key × D)} (l : Lk L d (.dct ds)) (h : Ev S G L e d) (hg : GlS sc "tuple" := by rfl) (he : St1 e := by intro _; rfl) : Ev S G L (.Call (.Name "tuple" p) [e] [] pos) (.tup (keysD ds)) :=
  typ1 (byX fun y _ => FX.call_tupleD rfl) (by decide) boot_tuple (by decide) (by decide) (h.we fun H vs s r Q c => by
    obtain ⟨v, rfl, rv⟩ := reps1 r
    obtain ⟨q, us, rfl, hq, ru⟩ := l.dct s rv
    exact ⟨q, us, rfl, hq, fun q nq => c.newT ⟨rfl, rfl⟩ s (reps_keys ru) nq⟩) hg he
def InD (S : Sit B N sc k) (tg1 kx vx : Expr) (ifs1 : List Expr) (vs1 : List Nat) (G' : Gam) (L : Sto) (f1 : D → Option (Key × D)) (e : D) : Prop :=
  ∃ G2 is1, Wg S tg1 e (wipeG G' vs1) G2 is1 ∧ (∀ j ∈ is1, j ∈ vs1) ∧ Wts S G2 L ifs1 fun b L1 => L1 = L ∧ ((b = false ∧ f1 e = none) ∨ (b = true ∧ ∃ dk kk dv, Ev S G2 L kx dk ∧ (∀ M H v, Rep M H dk v → v = kV kk) ∧ Ev S G2 L vx dv ∧ f1 e = some (kk, dv)))
def Dc2W (S : Sit B N sc k) (H : Hp) (tg tg1 it1 kx vx : Expr) (ifs ifs1 : List Expr) (G0 : Gam) (vs vs1 : List Nat) (L : Sto) (f : D → List (Key × D)) (d : D) : Prop :=
  ∃ G' is, Wg S tg d G0 G' is ∧ (∀ j ∈ is, j ∈ vs) ∧ ∀ p, Wts S G' (L.prot p) ifs fun b L1 => L1 = L.prot p ∧ ((b = false ∧ f d = []) ∨ (b = true ∧ ∃ es f1, f d = es.filterMap f1 ∧
    (H p = none → ∀ σ' H', Abs G' (L.prot p) σ' H' → (∀ q o, L q = none → H q = some o → H' q = some o) → WiAt false S G' (L.prot p) tg1 it1 σ' H' fun ds' L' => ds' = es ∧ L' = L.prot p) ∧
    ∀ e ∈ es, InD S tg1 kx vx ifs1 vs1 G' (L.prot p) f1 e))
theorem putAll_app {acc : List (Key × D)} {xs ys : List (Key × D)} : putAll acc (xs ++ ys) = putAll (putAll acc xs) ys := by unfold putAll; rw [List.foldl_append]
theorem putAll_len {xs : List (Key × D)} : ∀ {acc : List (Key × D)}, (putAll acc xs).length ≤ acc.length + xs.length := by
  induction xs with
  | nil => intro acc; exact Nat.le_refl _
  | cons x xs ih =>
    intro acc
    have h1 := ih (acc := putG acc x.1 x.2)
    have h2 := putG_length (ds := acc) (k := x.1) (d := x.2)
    show (putAll (putG acc x.1 x.2) xs).length ≤ _
    rw [List.length_cons]; omega
theorem dc2_run {ifs ifs1 : List Expr} {vs vs1 : List Nat} {J : It} {ds : List D} {f : D → List (Key × D)} {σ : L2.St} {H0 H : Hp} {Q : VK} (A : Abs G L σ H) (k0 : Keep L H0 L H) (y : Yld false J L H ds) (hz : (ds.flatMap f).length ≤ sizeLine) (h : ∀ d ∈ ds, Dc2W S H0 tg tg1 it1 kx vx ifs ifs1 (wipeG G vs) vs vs1 L f d)
    (c : Cont L H (fun d L' => d = .dct (putAll [] (ds.flatMap f)) ∧ L' = L) Q) :
    ∀ D, H D = none → ∃ W : Nat → Nat → Hp → Prop, (∃ m, W 0 m (upd H D (.dK []))) ∧ ∀ i m H, W i m H →
      (J.stop i H ∧ Q (.ref D) H) ∨ (J.go i H ∧ ∃ Nx : Hp → Prop, (∀ H', Nx H' → ∃ m', m' < m ∧ W (i + 1) m' H') ∧ ∀ x H', J.yld i H x H' → MG S tg x (wipe σ vs) H' fun σ2 H2 => wipe σ2 vs = wipe σ vs ∧ MTs S ifs σ2 H2 fun b H3 =>
        if b = true then MI S tg1 it1 σ2 H3 fun J1 H4 => ∃ W1 : Nat → Nat → Hp → Prop, (∃ m, W1 0 m H4) ∧ ∀ j k H, W1 j k H →
          (J1.stop j H ∧ Nx H) ∨ (J1.go j H ∧ ∃ Nx1 : Hp → Prop, (∀ H', Nx1 H' → ∃ k', k' < k ∧ W1 (j + 1) k' H') ∧ ∀ x H', J1.yld j H x H' → MG S tg1 x (wipe σ2 vs1) H' fun σ3 H5 => wipe σ3 vs1 = wipe σ2 vs1 ∧ MTs S ifs1 σ3 H5 fun b H6 =>
            if b = true then ME S kx σ3 H6 fun y H7 => ME S vx σ3 H7 fun z H8 => ∃ kvs kk, y = kV kk ∧ H8 D = some (.dK kvs) ∧ kvs.length < sizeLine ∧ Nx1 (upd H8 D (.dK (putK kvs kk z))) else Nx1 H6)
        else Nx H3) := by
  intro p np
  have nL : L p = none := sto_new np A.sto
  let I := fun (acc : List (Key × D)) (H' : Hp) => ∃ vacc, Keep L H L H' ∧ Abs G (L.prot p) σ H' ∧ H' p = some (.dK vacc) ∧ RepK (L.prot p).dom H' (putAll [] acc) vacc
  have stp : ∀ {acc : List (Key × D)} {H1 H2 : Hp}, I acc H1 → Keep (L.prot p) H1 (L.prot p) H2 → StoOk (L.prot p) H2 → I acc H2 := fun {acc H1 H2} ⟨vacc, k1, A1, hp1, r1⟩ kk s => by
    obtain ⟨z1, z2⟩ := kk.at_ p _ nL hp1
    exact ⟨vacc, ⟨rfl, fun q o hq ho => let ⟨y1, y2⟩ := k1.at_ q o hq ho; kk.at_ q o y1 y2⟩, A1.mono kk s, z2, r1.mono kk.kp⟩
  have apnd : ∀ {acc : List (Key × D)} {H1 : Hp} {kk : Key} {r : D} {v : V}, I acc H1 → Rep (L.prot p).dom H1 r v → acc.length < sizeLine → ∃ vacc, H1 p = some (.dK vacc) ∧ vacc.length < sizeLine ∧ I (acc ++ [(kk, r)]) (upd H1 p (.dK (putK vacc kk v))) := fun {acc H1 kk r v} ⟨vacc, k1, A1, hp1, r1⟩ rr hl => by
    have kw := kp_write (H := H1) (M := (L.prot p).dom) (o := .dK (putK vacc kk v)) (.inr (.inr rfl))
    have hlen := putAll_len (xs := acc) (acc := [])
    rw [List.length_nil] at hlen
    refine ⟨vacc, hp1, by rw [r1.length]; omega, putK vacc kk v, ⟨rfl, fun q o hq ho => ?_⟩, A1.write nL, upd_same, ?_⟩
    · obtain ⟨y1, y2⟩ := k1.at_ q o hq ho
      exact ⟨y1, by rw [upd_ne (ne_of_none ho np)]; exact y2⟩
    · rw [putAll_app]
      exact (r1.put rr).mono kw
  refine ⟨fun i mm H' => mm = ds.length - i ∧ i ≤ ds.length ∧ I ((ds.take i).flatMap f) H', ⟨ds.length, by simp, Nat.zero_le _, [], keep_same (same_upd np), A.protect np, upd_same, .nil⟩, ?_⟩
  rintro i mm H1 ⟨rfl, hi, i1⟩
  have ⟨vacc, k1, A1, hp1, r1⟩ := i1
  have st : Stl false L H (L.prot p) H1 := ⟨A1.sto, by rw [dom_prot]; exact kp_ext k1.kp np, fun q o n => k1.at_ q o (nn fun z => n (.inl z)), fun z => rfl⟩
  obtain ⟨yy, ys⟩ := y (L.prot p) H1 st
  by_cases hlt : i < ds.length
  · obtain ⟨go, yl⟩ := yy i ds[i] (List.getElem?_eq_getElem hlt)
    obtain ⟨G2, is, g, his, w⟩ := h ds[i] (List.getElem_mem hlt)
    have w := w p
    have tk : (ds.take (i + 1)).flatMap f = (ds.take i).flatMap f ++ f ds[i] := by
      rw [List.take_succ, List.getElem?_eq_getElem hlt, List.flatMap_append]; simp
    have tl : ((ds.take i).flatMap f).length + (f ds[i]).length ≤ sizeLine := by
      have e1 : ds.flatMap f = (ds.take (i + 1)).flatMap f ++ (ds.drop (i + 1)).flatMap f := by rw [← List.flatMap_append, List.take_append_drop]
      rw [e1, tk, List.length_append, List.length_append] at hz
      omega
    refine .inr ⟨go, fun H' => i + 1 ≤ ds.length ∧ I ((ds.take (i + 1)).flatMap f) H', fun H' ⟨q1, q2⟩ => ⟨ds.length - (i + 1), by omega, rfl, q1, q2⟩, fun x H' yx => ?_⟩
    obtain ⟨sm, rx⟩ := yl x H' yx
    have s' := A1.sto.same sm
    have ks := keep_same (L := L.prot p) sm
    refine g (L.prot p) (L2.wipe σ vs) H' x ((A1.mono ks s').wipe vs) rx _ fun σ2 A2 ⟨hl2, hσ2⟩ => ⟨?_, w σ2 H' A2 _ fun b L2 H3 ⟨eL, wb⟩ k3 s3 => ?_⟩
    · rw [wipe_get hl2 (fun j hj => hσ2 j fun z => hj (his j z))]
      exact wipe_get (wipe_length σ vs) fun j hj => wipe_out hj
    · subst eL
      have i3 := stp i1 (ks.trans k3) s3
      rcases wb with ⟨rfl, hf⟩ | ⟨rfl, es, f1, hf, hw, he⟩
      · rw [if_neg Bool.false_ne_true]
        exact ⟨hlt, by rw [tk, hf, List.append_nil]; exact i3⟩
      · rw [if_pos rfl]
        have A3 := A2.mono k3 s3
        have k13 : Keep L H L H3 := let ⟨_, q, _⟩ := i3; q
        have np0 : H0 p = none := by
          cases e : H0 p with
          | none => rfl
          | some o => have := (k0.at_ p o nL e).2; rw [np] at this; cases this
        refine hw np0 σ2 H3 A3 (fun q o hq ho => (k13.at_ q o hq (k0.at_ q o hq ho).2).2) _ fun J1 ds' L' H4 ⟨e1, e2⟩ k4 A4 y1 => ?_
        subst e1; subst e2
        have i4 := stp i3 k4 A4.sto
        refine ⟨fun j mm H' => mm = ds'.length - j ∧ j ≤ ds'.length ∧ (∀ q o, ¬ (L.prot p).dom q → H4 q = some o → H' q = some o) ∧ Abs G2 (L.prot p) σ2 H' ∧ I ((ds.take i).flatMap f ++ (ds'.take j).filterMap f1) H', ⟨ds'.length, by simp, Nat.zero_le _, fun q o _ ho => ho, A4, by simpa using i4⟩, ?_⟩
        rintro j mm2 H5 ⟨rfl, hj, at5, A5, i5⟩
        have kp5 : Kp (L.prot p).dom H4 (L.prot p).dom H5 := fun q n u r => by
          refine ⟨fun vs _ => ⟨n, ?_⟩, fun h _ _ => ⟨n, at5 q u n h⟩⟩
          rcases r with r | ⟨o, r⟩
          · exact .inl (at5 q _ n r)
          · exact .inr ⟨o, at5 q _ n r⟩
        obtain ⟨zz, zs⟩ := y1 (L.prot p) H5 ⟨A5.sto, kp5, fun q o n h => ⟨nn fun z => n (.inl z), at5 q o n h⟩, fun _ => rfl⟩
        by_cases jlt : j < ds'.length
        · obtain ⟨go1, yl1⟩ := zz j ds'[j] (List.getElem?_eq_getElem jlt)
          obtain ⟨G3, is1, g1, his1, w1⟩ := he ds'[j] (List.getElem_mem jlt)
          have tk1 : (ds'.take (j + 1)).filterMap f1 = (ds'.take j).filterMap f1 ++ (f1 ds'[j]).toList := by
            rw [List.take_succ, List.getElem?_eq_getElem jlt, List.filterMap_append]
            cases e : f1 ds'[j] <;> simp [e]
          have tl1 : ((ds'.take j).filterMap f1).length + (f1 ds'[j]).toList.length ≤ (f ds[i]).length := by
            have e1 : ds'.filterMap f1 = (ds'.take (j + 1)).filterMap f1 ++ (ds'.drop (j + 1)).filterMap f1 := by rw [← List.filterMap_append, List.take_append_drop]
            rw [hf, e1, tk1, List.length_append, List.length_append]
            omega
          refine .inr ⟨go1, fun H' => j + 1 ≤ ds'.length ∧ (∀ q o, ¬ (L.prot p).dom q → H4 q = some o → H' q = some o) ∧ Abs G2 (L.prot p) σ2 H' ∧ I ((ds.take i).flatMap f ++ (ds'.take (j + 1)).filterMap f1) H', fun H' ⟨q1, q2⟩ => ⟨ds'.length - (j + 1), by omega, rfl, q1, q2⟩, fun x1 H6 yx1 => ?_⟩
          obtain ⟨sm1, rx1⟩ := yl1 x1 H6 yx1
          have ks1 := keep_same (L := L.prot p) sm1
          have A6 := A5.mono ks1 (A5.sto.same sm1)
          refine g1 (L.prot p) (L2.wipe σ2 vs1) H6 x1 (A6.wipe vs1) rx1 _ fun σ3 A7 ⟨hl3, hσ3⟩ => ⟨?_, w1 σ3 H6 A7 _ fun b1 L3 H7 ⟨eL, wb1⟩ k7 s7 => ?_⟩
          · rw [wipe_get hl3 (fun q hq => hσ3 q fun z => hq (his1 q z))]
            exact wipe_get (wipe_length σ2 vs1) fun q hq => wipe_out hq
          · subst eL
            have k57 := ks1.trans k7
            have i7 := stp i5 k57 s7
            have A27 := A5.mono k57 s7
            have at7 : ∀ q o, ¬ (L.prot p).dom q → H4 q = some o → H7 q = some o := fun q o n h => (k57.at_ q o (nn fun z => n (.inl z)) (at5 q o n h)).2
            rcases wb1 with ⟨rfl, hf1⟩ | ⟨rfl, dk, kk, dv, e1, ek, e2, hf1⟩
            · rw [if_neg Bool.false_ne_true]
              exact ⟨jlt, at7, A27, by rw [tk1, hf1]; simpa using i7⟩
            · rw [if_pos rfl]
              refine e1.run (A7.mono k7 s7) fun yv H8 k8 A8 ry => e2.run A8 fun zv H9 k9 A9 rz => ?_
              have k89 := k8.trans k9
              have i8 := stp i7 k89 A9.sto
              rw [hf1] at tl1
              obtain ⟨vacc, z1, z2, z3⟩ := apnd (kk := kk) i8 rz (by rw [List.length_append]; simp at tl1; omega)
              refine ⟨vacc, kk, ek _ _ _ ry, z1, z2, jlt, fun q o n h => ?_, (A27.mono k89 A9.sto).write nL, by rw [tk1, hf1, ← List.append_assoc]; exact z3⟩
              have ne : q ≠ p := fun e => n (by rw [e]; exact .inr (.inr rfl))
              rw [upd_ne ne]
              exact (k89.at_ q o (nn fun z => n (.inl z)) (at7 q o n h)).2
        · have e : j = ds'.length := by omega
          subst e
          rw [List.take_length, ← hf, ← tk] at i5
          exact .inl ⟨zs, hlt, i5⟩
  · have e : i = ds.length := by omega
    subst e
    rw [List.take_length] at r1
    refine .inl ⟨ys, c (.dct (putAll [] (ds.flatMap f))) L _ H1 ⟨rfl, rfl⟩ k1 A1.unprot.sto (.dct (fun z => ?_) (.inl hp1) (r1.mono kp_unprot))⟩
    rcases z with z | z
    · exact z nL
    · exact (A.sto.prot p z).1 np
theorem we_dc2At {ifs ifs1 : List Expr} {scope : Scope} {own : List (Str × Nat)} {vs1 : List Nat} {σ : L2.St} {H : Hp} {Q : VK} {ds : List D} {f : D → List (Key × D)}
    (h : WiAt false S G L tg it σ H fun ds' L' => ds' = ds ∧ L' = L) (hz : (ds.flatMap f).length ≤ sizeLine) (hd : ∀ d ∈ ds, Dc2W (S.blk scope) H tg tg1 it1 kx vx ifs ifs1 (wipeG G (own.map (·.2))) (own.map (·.2)) vs1 L f d) (c : Cont L H (fun d L' => d = .dct (putAll [] (ds.flatMap f)) ∧ L' = L) Q)
    (hv : ∀ i ∈ vs1, i ∈ own.map (·.2) := by decide) (hN : N.Nodup := by decide +kernel) (ok : BlkOk N sc scope own := by exact blkOk_by (by decide +kernel)) (hs : ∀ env x, foldedSetIterable it env x = pure x := by intro _ _; rfl) (hs1 : ∀ env x, foldedSetIterable it1 env x = pure x := by intro _ _; rfl) : ME S (.DictComp kx vx [⟨tg, it, ifs, 0⟩, ⟨tg1, it1, ifs1, 0⟩] scope pos) σ H Q :=
  ⟨FX.tDc2 (MI S tg it) (MG (S.blk scope) tg) (MTs (S.blk scope) ifs) (MI (S.blk scope) tg1 it1) (MG (S.blk scope) tg1) (MTs (S.blk scope) ifs1) (ME (S.blk scope) kx) (ME (S.blk scope) vx) (own.map (·.2)) vs1, fun X hX => by
    have hm := mi hX (tg := tg) (it := it)
    have hb : ∀ (s : Shared) (H : Hp) (C : Addr) (cl : List (Str × Addr)) (fp : List Addr), (S.blk scope).X (X.blk s H scope (compEnvC scope cl C X.env) fp) := fun s H C cl fp => ⟨X, s, H, C, cl, fp, hX, rfl⟩
    have h1 := fun s H C cl fp => mg (S.blk scope) (hb s H C cl fp) (tg := tg)
    have h2 := fun s H C cl fp => mts (S.blk scope) (hb s H C cl fp) (e := ifs)
    have h3 := fun s H C cl fp => me (hb s H C cl fp) (e := kx)
    have h7 := fun s H C cl fp => me (hb s H C cl fp) (e := vx)
    have h4 := fun s H C cl fp => mi (hb s H C cl fp) (tg := tg1) (it := it1)
    have h5 := fun s H C cl fp => mg (S.blk scope) (hb s H C cl fp) (tg := tg1)
    have h6 := fun s H C cl fp => mts (S.blk scope) (hb s H C cl fp) (e := ifs1)
    obtain ⟨y, rfl, _⟩ := S.fam X hX
    exact FX.pe_dc2 rfl hN hm ok hv h1 h2 h4 h5 h6 h3 h7 (hs _) hs1, h _ fun J ds' L' H' ⟨e1, e2⟩ k1 A1 y D hD => by
      subst e1; subst e2
      exact dc2_run A1 k1 y hz hd (c.trans k1) D hD⟩
end
end FS
/-! text W28 -/
/-! W28: len(set(xs)) of ints that differ. -/
namespace FS
open PySem PySem.Spec PyProof.Rows L2
section
variable {B : Bg} {N : List Str} {sc : Scope} {k : Nat}
variable {S : Sit B N sc k} {G : Gam} {L : Sto} {e : Expr} {pos p p2 q : Pos}
theorem ev_lenSet {d : D} {ns : List Int} (l : Lk L d (.lst (ns.map D.int))) (nd : ns.Nodup) (hl : ns.length ≤ 4000) (h : Ev S G L e d) (hg : GlS sc "len" := by rfl) (hg2 : GlS sc "set" := by rfl) (he : St1 e := by intro _; rfl) : Ev S G L (.Call (.Name "len" p) [.Call (.Name "set" p2) [e] [] q] [] pos) (.int (ns.length : Nat)) := fun σ H A Q c =>
  ⟨RZ.tLenSetI B.K (ME S e), fun X hX => by
    have h1 := me hX (e := e)
    obtain ⟨y, rfl, _⟩ := S.fam X hX
    exact RZ.pe_lenSetI hg (B.none (by decide)) hg2 (B.none (by decide)) h1 rfl (he _), h.run A fun v H1 k1 A1 r => by
    obtain ⟨z, us, rfl, hq, ru⟩ := l.lst A1.sto r
    obtain rfl := ru.ints
    exact ⟨z, ns, rfl, .inl (.inl hq), nd, hl, (c.trans k1).at ⟨rfl, rfl⟩ A1.sto .int⟩⟩
end
end FS
/-! text E29 -/
/-! E29: Apart.keeps; Needs. -/
namespace FS
open PySem PySem.Spec PyProof.Rows L2
def onM2 (f : Int × Int → Option D) : D → Option D
  | .tup [.int p, .int v] => f (p, v)
  | _ => none
theorem onM2_map (f : Int × Int → Option D) (ms : List (Int × Int)) : (ms.map encM).filterMap (onM2 f) = ms.filterMap f := by
  rw [List.filterMap_map]; rfl
section
variable {B : Bg} {C : Addr}
abbrev mAk : Stmt := inClass (top 40) 4
theorem scMAk : FnScope ["self", "book", "found", "_", "value"] ["self", "book"] (defScope mAk) := ⟨rfl, rfl, rfl, by decide +kernel, rfl, by decide +kernel, by decide +kernel⟩
def rMAk (C : Addr) : ASp := fun ds L post => ∃ x y ps w b, ds = [x, y] ∧ Lk L x (apD C ps w) ∧ Lk L y (.dct (encB b)) ∧ Few ps ∧ ((filled b ps).map (·.2)).Nodup ∧ post (.bl true) L
theorem filled_len {b : Bk} {ps : List Int} : (filled b ps).length ≤ ps.length := Nat.le_trans (List.length_filterMap_le ..) asc_len
theorem ok_mak {f : Addr} {fd : FuncData} (F : Fun B.K "keeps" "Apart.keeps" mAk f fd) (kl : Kla B C aFlds) (cFm : Cl B 2 "filled_marks" rFm) : FnOk B.P B.w B.K B.mg B.base CX0 3 f fd ["self", "book"] (low (rMAk C)) := by
  refine ok_def F scMAk (fun ds L post ⟨_, _, _, _, _, h, _⟩ => by rw [h]; rfl) fun S hS ds L post ⟨x, y, ps, w, b, e, lx, ly, fw, nd, hp⟩ => ?_
  subst e
  have hline : 1000 ≤ sizeLine := by decide
  have hl := filled_len (b := b) (ps := ps)
  have hf := fw.1
  generalize hms : filled b ps = ms at *
  refine ws_setLc (ds := ms.map encM) 2 [("_", 3), ("value", 4)] (onM2 fun m => some (.int m.2)) (ei_list (ev_call cFm (by decide) (ea_2 (ev_var 1) (ev_fld kl lx rfl (ev_var 0))) ⟨b, y, _, ps, rfl, ly, .inr rfl, fw, by rw [hms], rfl⟩)) (by rw [List.length_map]; omega) (onM2_map _ _) (fun d hd => ?_) ?_
  · obtain ⟨m, hm, rfl⟩ := List.mem_map.mp hd
    exact ⟨_, _, wg_pair 3 4, by decide, wts_n rfl fun z => ev_var 4⟩
  · rw [show ms.filterMap (fun m => some (D.int m.2)) = (ms.map (·.2)).map D.int by rw [List.map_map, ← List.filterMap_eq_map]; rfl]
    refine ws_ret ((ev_eqI (ev_lenSet (.inl rfl) nd (by rw [List.length_map]; omega) (ev_var 2)) (ev_len (.inl rfl) (ev_var 2))).we ?_)
    rw [List.length_map, List.length_map, List.length_map, decide_eq_true rfl]
    exact hp
end
end FS
/-! text E30 -/
/-! E30: Needs. -/
namespace FS
open PySem PySem.Spec PyProof.Rows L2
def nFlds : List Str := ["_pairs", "places", "width"]
/-- Needs over these pairs; its places and its width are not read -/
def ndD (C : Addr) (ps : List (Int × Int)) (pl : D) (w : Int) : D := .ins C [("_pairs", .lst (ps.map encM)), ("places", pl), ("width", .int w)]
/-- the bar of one pair -/
def ndB (b : Bk) (p : Int × Int) : Option Bar := if 0 < getB b p.1 ∧ getB b p.2 = 0 then some (if p.1 < p.2 then ((p.1, getB b p.1), (p.2, 0)) else ((p.2, 0), (p.1, getB b p.1))) else none
theorem sortM2 {a b x y : Int} (h : a ≠ b) : sortM [(a, x), (b, y)] = if a < b then [(a, x), (b, y)] else [(b, y), (a, x)] := by
  split
  · exact (sortM_unique (.refl _) (by simp [leM_iff]; omega)).symm
  · exact (sortM_unique (.swap _ _ _) (by simp [leM_iff]; omega)).symm
section
variable {B : Bg} {N : List Str} {sc : Scope} {k : Nat} {S : Sit B N sc k} {G : Gam} {L : Sto} {a b e : Expr} {pos p : Pos}
theorem ev_allT {d : D} {n : Nat} (l : Lk L d (.lst (List.replicate n (.bl true)))) (h : Ev S G L e d) (hg : GlS sc "all" := by rfl) (he : St1 e := by intro _; rfl) : Ev S G L (.Call (.Name "all" p) [e] [] pos) (.bl true) := by
  have q := ev_all (pos := pos) (p := p) (bs := List.replicate n true) (by rw [List.map_replicate]; exact l) h hg he
  rwa [show (List.replicate n true).all id = true by simp] at q
theorem ev_or' {x y : Bool} (z : (x || y) = true) (h : Ev S G L a (.bl x)) (h' : x = false → Ev S G L b (.bl y)) : Ev S G L (.BoolOp .Or [a, b] pos) (.bl true) := z ▸ ev_or h h'
end
def ndF1 : D → Option (Key × D)
  | .int i => some (.inl i, .bl true)
  | _ => none
def ndF : D → List (Key × D)
  | .tup xs => xs.filterMap ndF1
  | _ => []
theorem ndF_len {ps : List (Int × Int)} : ((ps.map encM).flatMap ndF).length = 2 * ps.length := by
  induction ps with
  | nil => rfl
  | cons p ps ih => rw [List.map_cons, List.flatMap_cons, List.length_append, ih, List.length_cons]; show 2 + _ = _; omega
section
variable {B : Bg} {C : Addr}
abbrev mNdi : Stmt := inClass (top 41) 0
theorem scMNdi : FnScope ["self", "pairs", "first", "second", "place", "pair"] ["self", "pairs"] (defScope mNdi) := ⟨rfl, rfl, rfl, by decide +kernel, rfl, by decide +kernel, by decide +kernel⟩
def rMNdi (C : Addr) : ASp := fun ds L post => ∃ q ps, ds = [.ptr q, .lst (ps.map encM)] ∧ (∀ p ∈ ps, p.1 ≠ p.2) ∧ ps.length ≤ 100 ∧ L q = some (.ins C []) ∧ ∀ pl w, post .non (L.set q (ndD C ps pl w))
theorem ok_mndi {f : Addr} {fd : FuncData} (F : Fun B.K "__init__" "Needs.__init__" mNdi f fd) (kl : Kla B C nFlds) : FnOk B.P B.w B.K B.mg B.base CX0 1 f fd ["self", "pairs"] (low (rMNdi C)) := by
  refine ok_def F scMNdi (fun ds L post ⟨_, _, h, _⟩ => by rw [h]; rfl) fun S hS ds L post ⟨q, ps, e, hne, hl, hq, hp⟩ => ?_
  subst e
  have hline : 1000 ≤ sizeLine := by decide
  refine ws_for ((ei_list (ev_var 1)).wi (forW_inv (fun i G' L' => ∃ a b, G' = [some (.ptr q), some (.lst (ps.map encM)), a, b, none, none] ∧ L' = L) ⟨_, _, rfl, rfl⟩ ?_ ?_))
  · rintro i d G' L' hd ⟨a, b, rfl, rfl⟩
    obtain ⟨p, hp', rfl⟩ := map_get hd
    have hx := hne p (List.mem_of_getElem? hp')
    refine ⟨_, _, wg_pair 2 3, ws_if (et_eqI (ev_var 2) (ev_var 3)) (fun z => absurd (of_decide_eq_true z) hx) fun _ => ws_nil (ws_nil ⟨_, _, rfl, rfl⟩)⟩
  · rintro G' L' ⟨a, b, rfl, rfl⟩
    refine ws_fld kl ((ev_lc (ds := ps.map encM) [("first", 2), ("second", 3)] (onM2 fun m => some (encM m)) (ei_list (ev_var 1)) (by rw [List.length_map]; omega) ((onM2_map _ _).trans (by rw [List.filterMap_eq_map'])) fun d hd => ?_).we ⟨[], hq, by simp, ev_var 0, ?_⟩)
    · obtain ⟨m, hm, rfl⟩ := List.mem_map.mp hd
      exact ⟨_, _, wg_pair 2 3, by decide, wts_n rfl fun z => ev_tup (ea_2 (ev_var 2) (ev_var 3))⟩
    have h1 : (L'.set q (.ins C (putFD ("_pairs" : Str) (.lst (ps.map encM)) []))) q = some (.ins C [("_pairs", .lst (ps.map encM))]) := Sto.set_same
    refine ws_fld kl (We.mono (p := fun d LL => ∃ pl, d = pl ∧ LL = L'.set q (.ins C (putFD ("_pairs" : Str) (.lst (ps.map encM)) []))) (Ev.we (d := .tup (keysD (putAll [] ((ps.map encM).flatMap ndF)))) (ev_tupleD (.inl rfl) fun σ H A Q c => we_dc2At (own := [("place", 4), ("pair", 5)]) (vs1 := [4]) (ds := ps.map encM) (f := ndF) ((show Ei false S _ _ _ _ _ from ei_list (ev_fld kl (.inr ⟨_, rfl, h1⟩) rfl (ev_var 0))) σ H A) (by rw [ndF_len]; omega) (fun d hd => ?_) c) ⟨_, rfl, rfl⟩) fun d LL ⟨pl, e1, e2⟩ => by
      subst e1; subst e2
      exact ⟨_, h1, by show (1 : Nat) < 1000; omega, ev_var 0, by
        rw [Sto.set_set]
        refine ws_fld (q := q) kl (we_if (et_truL (.inl rfl) (ev_fld kl (.inr ⟨_, rfl, Sto.set_same⟩) rfl (ev_var 0))) (fun _ => ev_int.we ?_) (fun _ => ev_int.we ?_))
        all_goals exact ⟨_, Sto.set_same, by show (2 : Nat) < 1000; omega, ev_var 0, by rw [Sto.set_set]; exact ws_nil (hp _ _)⟩⟩)
    obtain ⟨m, hm, rfl⟩ := List.mem_map.mp hd
    refine ⟨_, _, wg_name 5, by decide, fun p => wts_nil ⟨rfl, .inr ⟨rfl, [.int m.1, .int m.2], ndF1, rfl, fun np σ' H' A' kk' => (show Ei false (S.blk _) _ (Sto.prot _ p) _ _ _ from ei_tup (ev_var 5)) σ' H' A', fun e he => ?_⟩⟩⟩
    obtain ⟨i, rfl⟩ : ∃ i, e = .int i := by simp at he; rcases he with rfl | rfl <;> exact ⟨_, rfl⟩
    exact ⟨_, _, wg_name 4, by decide, wts_nil ⟨rfl, .inr ⟨rfl, .int i, .inl i, .bl true, ev_var 4, kI, ev_bl, rfl⟩⟩⟩
abbrev mNdb : Stmt := inClass (top 41) 2
theorem scMNdb : FnScope ["self", "book", "found", "first", "second"] ["self", "book"] (defScope mNdb) := ⟨rfl, rfl, rfl, by decide +kernel, rfl, by decide +kernel, by decide +kernel⟩
structure NdOk (b : Bk) (ps : List (Int × Int)) : Prop where
  ne : ∀ p ∈ ps, p.1 ≠ p.2
  len : ps.length ≤ 100
  srt : (ps.filterMap (ndB b)).Pairwise (fun x y => x.1.1 < y.1.1)
def rMNdb (C : Addr) : ASp := fun ds L post => ∃ x y ps pl w b, ds = [x, y] ∧ Lk L x (ndD C ps pl w) ∧ Lk L y (.dct (encB b)) ∧ NdOk b ps ∧ post (.lst ((ps.filterMap (ndB b)).map encPr)) L
theorem ok_mndb {f : Addr} {fd : FuncData} (F : Fun B.K "bars_in" "Needs.bars_in" mNdb f fd) (kl : Kla B C nFlds) (cVa : Cl B 1 "value_at" rVa) (cBo : Cl B 1 "bar_of" rBo) (cBio : Cl B 1 "bars_in_order" rBio) : FnOk B.P B.w B.K B.mg B.base CX0 2 f fd ["self", "book"] (low (rMNdb C)) := by
  refine ok_def F scMNdb (fun ds L post ⟨_, _, _, _, _, _, h, _⟩ => by rw [h]; rfl) fun S hS ds L post ⟨x, y, ps, pl, w, b, e, lx, ly, ok, hp⟩ => ?_
  subst e
  have hline : 1000 ≤ sizeLine := by decide
  have hfl := List.length_filterMap_le (ndB b) ps
  have hl := ok.len
  refine ws_set 2 (we_newL fun q nq => ?_)
  have lx' : ∀ {d}, Lk (L.set q d) x (ndD C ps pl w) := lk_set lx nq
  have ly' : ∀ {d}, Lk (L.set q d) y (.dct (encB b)) := lk_set ly nq
  refine ws_for ((ei_list (ev_fld kl lx' rfl (ev_var 0))).wi (forW_inv (fun i G' L' => ∃ a c, G' = [some x, some y, some (.ptr q), a, c] ∧ L' = L.set q (.lst (((ps.take i).filterMap (ndB b)).map encPr))) ⟨_, _, rfl, rfl⟩ ?_ ?_))
  · rintro i d G' L' hd ⟨a, c, rfl, rfl⟩
    obtain ⟨p, hp', rfl⟩ := map_get hd
    have hne := ok.ne p (List.mem_of_getElem? hp')
    have tk : ps.take (i + 1) = ps.take i ++ [p] := by rw [List.take_succ, hp']; rfl
    have hil : i < ps.length := (List.getElem?_eq_some_iff.mp hp').1
    refine ⟨_, _, wg_pair 3 4, ?_⟩
    have v1 : ∀ {pos p1 p2 p3 d}, Ev S [some x, some y, some (.ptr q), some (.int p.1), some (.int p.2)] (L.set q d) (.Call (.Name "value_at" p1) [.Name "book" p2, .Name "first" p3] [] pos) (.int (getB b p.1)) := fun {pos p1 p2 p3 d} => ev_call cVa (by decide) (ea_2 (ev_var 1) (ev_var 3)) ⟨b, y, p.1, rfl, ly', rfl, rfl⟩
    have v2 : ∀ {pos p1 p2 p3 d}, Ev S [some x, some y, some (.ptr q), some (.int p.1), some (.int p.2)] (L.set q d) (.Call (.Name "value_at" p1) [.Name "book" p2, .Name "second" p3] [] pos) (.int (getB b p.2)) := fun {pos p1 p2 p3 d} => ev_call cVa (by decide) (ea_2 (ev_var 1) (ev_var 4)) ⟨b, y, p.2, rfl, ly', rfl, rfl⟩
    refine ws_if (et_and (et_gt v1 ev_int) fun _ => et_eqI v2 ev_int) (fun ht => ?_) fun hf => ?_
    · simp only [Bool.and_eq_true, decide_eq_true_eq] at ht
      have hb : ndB b p = some (if p.1 < p.2 then ((p.1, getB b p.1), (p.2, 0)) else ((p.2, 0), (p.1, getB b p.1))) := if_pos ht
      refine ws_expr (we_append (ev_var 2) ((ev_call cBo (by decide) (ea_1 (ev_lst (ea_2 (ev_tup (ea_2 (ev_var 3) v1)) (ev_tup (ea_2 (ev_var 4) ev_int))))) ⟨[(p.1, getB b p.1), (p.2, 0)], rfl, rfl, rfl⟩).we ⟨_, Sto.set_same, ?_, ws_nil (ws_nil ⟨_, _, rfl, ?_⟩)⟩) ⟨_, Sto.set_same⟩)
      · rw [List.length_map]
        have := List.length_filterMap_le (ndB b) (ps.take i)
        rw [List.length_take] at this; omega
      · rw [Sto.set_set, tk, List.filterMap_append, List.map_append]
        congr 1
        rw [List.filterMap_cons, hb, List.filterMap_nil, sortM2 hne]
        by_cases z : p.1 < p.2
        · rw [if_pos z, if_pos z]; rfl
        · rw [if_neg z, if_neg z]; rfl
    · have hb : ndB b p = none := by
        unfold ndB
        rw [if_neg]
        intro z
        rw [decide_eq_true z.1, decide_eq_true z.2] at hf
        cases hf
      refine ws_nil (ws_nil ⟨_, _, rfl, ?_⟩)
      rw [tk, List.filterMap_append, List.filterMap_cons, hb, List.filterMap_nil, List.append_nil]
  · rintro G' L' ⟨a, c, rfl, rfl⟩
    rw [List.length_map, List.take_length]
    refine ws_frzN 2 nq ?_
    exact ws_ret ((ev_call cBio (by decide) (ea_1 (ev_var 2)) ⟨_, rfl, ok.srt, by omega, rfl, rfl⟩).we hp)
abbrev mNdr : Stmt := inClass (top 41) 3
theorem scMNdr : FnScope ["self", "book"] ["self", "book"] (defScope mNdr) := ⟨rfl, rfl, rfl, by decide +kernel, rfl, by decide +kernel, by decide +kernel⟩
def rMNdr (C : Addr) : ASp := fun ds L post => ∃ x y ps pl w b, ds = [x, y] ∧ Lk L x (ndD C ps pl w) ∧ Lk L y (.dct (encB b)) ∧ NdOk b ps ∧ post (encPrO (ps.filterMap (ndB b)).head?) L
theorem ok_mndr {f : Addr} {fd : FuncData} (F : Fun B.K "reason" "Needs.reason" mNdr f fd) (mb : Mcl B 2 C "bars_in" (rMNdb C)) (cFo : Cl B 1 "first_of" rFo) : FnOk B.P B.w B.K B.mg B.base CX0 3 f fd ["self", "book"] (low (rMNdr C)) := by
  refine ok_def F scMNdr (fun ds L post ⟨_, _, _, _, _, _, h, _⟩ => by rw [h]; rfl) fun S hS ds L post ⟨x, y, ps, pl, w, b, e, lx, ly, ok, hp⟩ => ?_
  subst e
  have e : ((ps.filterMap (ndB b)).map encPr).head?.getD .non = encPrO (ps.filterMap (ndB b)).head? := by cases ps.filterMap (ndB b) <;> rfl
  rw [← e] at hp
  exact ws_ret ((ev_call cFo (by decide) (ea_1 (ev_meth mb (by decide) lx (ev_var 0) (ea_1 (ev_var 1)) ⟨x, y, ps, pl, w, b, rfl, lx, ly, ok, rfl, rfl⟩)) ⟨_, _, rfl, .inl rfl, rfl, rfl⟩).we hp)
abbrev mNdk : Stmt := inClass (top 41) 4
theorem scMNdk : FnScope ["self", "book", "first", "second"] ["self", "book"] (defScope mNdk) := ⟨rfl, rfl, rfl, by decide +kernel, rfl, by decide +kernel, by decide +kernel⟩
/-- keeps: asked of lawful books only -/
def rMNdk (C : Addr) : ASp := fun ds L post => ∃ x y ps pl w b, ds = [x, y] ∧ Lk L x (ndD C ps pl w) ∧ Lk L y (.dct (encB b)) ∧ ps.length ≤ 100 ∧ (∀ p ∈ ps, getB b p.1 = 0 ∨ 0 < getB b p.2) ∧ post (.bl true) L
theorem ok_mndk {f : Addr} {fd : FuncData} (F : Fun B.K "keeps" "Needs.keeps" mNdk f fd) (kl : Kla B C nFlds) (cVa : Cl B 1 "value_at" rVa) : FnOk B.P B.w B.K B.mg B.base CX0 2 f fd ["self", "book"] (low (rMNdk C)) := by
  refine ok_def F scMNdk (fun ds L post ⟨_, _, _, _, _, _, h, _⟩ => by rw [h]; rfl) fun S hS ds L post ⟨x, y, ps, pl, w, b, e, lx, ly, hl, ok, hp⟩ => ?_
  subst e
  have hline : 1000 ≤ sizeLine := by decide
  have e1 : (ps.map encM).filterMap (onM2 fun _ => some (.bl true)) = List.replicate ps.length (.bl true) := by
    rw [onM2_map, List.filterMap_eq_map', List.map_const']
  refine ws_ret ((ev_allT (.inl rfl) (ev_lc (ds := ps.map encM) [("first", 2), ("second", 3)] (onM2 fun _ => some (.bl true)) (ei_list (ev_fld kl lx rfl (ev_var 0))) (by rw [List.length_map]; omega) e1 fun d hd => ?_)).we hp)
  obtain ⟨m, hm, rfl⟩ := List.mem_map.mp hd
  refine ⟨_, _, wg_pair 2 3, by decide, wts_n rfl fun z => ev_or' ?_ (ev_eqI (ev_call cVa (by decide) (ea_2 (ev_var 1) (ev_var 2)) ⟨b, y, m.1, rfl, ly, rfl, rfl⟩) ev_int) (fun _ => ev_gt (ev_call cVa (by decide) (ea_2 (ev_var 1) (ev_var 3)) ⟨b, y, m.2, rfl, ly, rfl, rfl⟩) ev_int)⟩
  rcases ok m hm with h | h
  · rw [decide_eq_true h]; rfl
  · rw [decide_eq_true h, Bool.or_true]
end
end FS
/-! text E31 -/
/-! E31: RuleBook. -/
namespace FS
open PySem PySem.Spec PyProof.Rows L2
def rFlds : List Str := ["_rows"]
def rowsD (ap nd : D) : D := .lst [.tup [.str "apart", ap], .tup [.str "whole", nd]]
def rbD (C : Addr) (ap nd : D) : D := .ins C [("_rows", rowsD ap nd)]
/-- the first reason of the two rules -/
def rsn (b : Bk) (aps : List Int) (nps : List (Int × Int)) : Option Brk := ((barsA (filled b aps)).head?.map fun r => (("apart", r) : Brk)).or ((nps.filterMap (ndB b)).head?.map fun r => (("whole", r) : Brk))
section
variable {B : Bg} {C CA CN : Addr}
abbrev mRi : Stmt := inClass (top 43) 0
theorem scMRi : FnScope ["self", "rules", "position", "key", "rule", "_"] ["self", "rules"] (defScope mRi) := ⟨rfl, rfl, rfl, by decide +kernel, rfl, by decide +kernel, by decide +kernel⟩
def rMRi (C : Addr) : ASp := fun ds L post => ∃ q ap nd, ds = [.ptr q, rowsD ap nd] ∧ L q = some (.ins C []) ∧ post .non (L.set q (rbD C ap nd))
def onT (f : List D → Option D) : D → Option D
  | .tup xs => f xs
  | _ => none
theorem ok_mri {f : Addr} {fd : FuncData} (F : Fun B.K "__init__" "RuleBook.__init__" mRi f fd) (kl : Kla B C rFlds) (cFr : Cl B 1 "first_repeated" rFr) : FnOk B.P B.w B.K B.mg B.base CX0 2 f fd ["self", "rules"] (low (rMRi C)) := by
  refine ok_def F scMRi (fun ds L post ⟨_, _, _, h, _⟩ => by rw [h]; rfl) fun S hS ds L post ⟨q, ap, nd, e, hq, hp⟩ => ?_
  subst e
  have two : ∀ d ∈ [D.tup [.str "apart", ap], .tup [.str "whole", nd]], ∃ k r, d = .tup [.str k, r] := fun d hd => by
    simp at hd; rcases hd with rfl | rfl <;> exact ⟨_, _, rfl⟩
  refine ws_fld kl ((ev_lc (ds := [D.tup [.str "apart", ap], .tup [.str "whole", nd]]) [("key", 3), ("rule", 4)] some (ei_list (ev_var 1)) (show (2 : Nat) ≤ sizeLine by decide) rfl fun d hd => ?_).we ⟨[], hq, by simp, ev_var 0, ?_⟩)
  · obtain ⟨k, r, rfl⟩ := two d hd
    exact ⟨_, _, wg_pair 3 4, by decide, wts_n rfl fun z => ev_tup (ea_2 (ev_var 3) (ev_var 4))⟩
  have h1 : (L.set q (.ins C (putFD ("_rows" : Str) (.lst [D.tup [.str "apart", ap], .tup [.str "whole", nd]]) []))) q = some (.ins C [("_rows", rowsD ap nd)]) := Sto.set_same
  refine ws_set 2 ((ev_call (d := .int (-1)) cFr (by decide) (ea_1 (ev_lc (rs := [.str "apart", .str "whole"]) (ds := [D.tup [.str "apart", ap], .tup [.str "whole", nd]]) [("key", 3), ("_", 5)] (onT List.head?) (ei_list (ev_fld kl (.inr ⟨_, rfl, h1⟩) rfl (ev_var 0))) (show (2 : Nat) ≤ sizeLine by decide) rfl fun d hd => ?_)) ⟨_, [.str "apart", .str "whole"], rfl, .cons .str (.cons .str .nil), ?_, rfl, rfl⟩).we ?_)
  · obtain ⟨k, r, rfl⟩ := two d hd
    exact ⟨_, _, wg_pair 3 5, by decide, wts_n rfl fun z => ev_var 3⟩
  · intro i v hv
    match i, hv with
    | 0, hv => cases hv; rfl
    | 1, hv => cases hv; decide
  refine ws_if (et_ge (ev_var 2) ev_int) (fun z => absurd z (by decide)) fun _ => ws_nil (ws_nil hp)
abbrev mRr : Stmt := inClass (top 43) 3
theorem scMRr : FnScope ["self", "book", "key", "rule", "bar"] ["self", "book"] (defScope mRr) := ⟨rfl, rfl, rfl, by decide +kernel, rfl, by decide +kernel, by decide +kernel⟩
def rMRr (C CA CN : Addr) : ASp := fun ds L post => ∃ x y aps w nps pl w' b, ds = [x, y] ∧ Lk L x (rbD C (apD CA aps w) (ndD CN nps pl w')) ∧ Lk L y (.dct (encB b)) ∧ Few aps ∧ aps.length ≤ 10 ∧ (barsA (filled b aps)).length ≤ 1000 ∧ NdOk b nps ∧ post (encBrO (rsn b aps nps)) L
theorem isNon_encPrO {r : Option Bar} : isNon (encPrO r) = r.isNone := by cases r <;> rfl
theorem ok_mrr {f : Addr} {fd : FuncData} (F : Fun B.K "reason" "RuleBook.reason" mRr f fd) (kl : Kla B C rFlds) (ma : Mcl B 4 CA "reason" (rMAr CA)) (mn : Mcl B 3 CN "reason" (rMNdr CN)) : FnOk B.P B.w B.K B.mg B.base CX0 5 f fd ["self", "book"] (low (rMRr C CA CN)) := by
  refine ok_def F scMRr (fun ds L post ⟨_, _, _, _, _, _, _, _, h, _⟩ => by rw [h]; rfl) fun S hS ds L post ⟨x, y, aps, w, nps, pl, w', b, e, lx, ly, fw, hal, hbl, ok, hp⟩ => ?_
  subst e
  unfold rsn at hp
  refine ws_for ((ei_list (ds := [.tup [.str "apart", apD CA aps w], .tup [.str "whole", ndD CN nps pl w']]) (ev_fld kl lx rfl (ev_var 0))).wi ⟨_, _, wg_pair 2 3, ?_⟩)
  refine ws_set 4 ((ev_meth ma (by decide) (.inl rfl) (ev_var 3) (ea_1 (ev_var 1)) ⟨_, y, aps, w, b, rfl, .inl rfl, ly, fw, hal, hbl, rfl, rfl⟩).we ?_)
  refine ws_if (et_notN (ev_var 4)) (fun ht => ?_) fun hf => ws_nil (ws_nil ?_)
  · rw [isNon_encPrO] at ht
    cases e : (barsA (filled b aps)).head? with
    | none => rw [e] at ht; cases ht
    | some r =>
      rw [e] at hp
      exact ws_ret ((ev_tup (ea_2 (ev_var 2) (ev_var 4 (d := encPrO (some r))))).we hp)
  · rw [isNon_encPrO] at hf
    have e : (barsA (filled b aps)).head? = none := by
      cases e : (barsA (filled b aps)).head? with
      | none => rfl
      | some r => rw [e] at hf; cases hf
    rw [e] at hp
    refine ⟨_, _, wg_pair 2 3, ?_⟩
    refine ws_set 4 ((ev_meth mn (by decide) (.inl rfl) (ev_var 3) (ea_1 (ev_var 1)) ⟨_, y, nps, pl, w', b, rfl, .inl rfl, ly, ok, rfl, rfl⟩).we ?_)
    refine ws_if (et_notN (ev_var 4)) (fun ht => ?_) fun hf => ws_nil (ws_nil ?_)
    · rw [isNon_encPrO] at ht
      cases e : (nps.filterMap (ndB b)).head? with
      | none => rw [e] at ht; cases ht
      | some r =>
        rw [e] at hp
        exact ws_ret ((ev_tup (ea_2 (ev_var 2) (ev_var 4 (d := encPrO (some r))))).we hp)
    · rw [isNon_encPrO] at hf
      cases e : (nps.filterMap (ndB b)).head? with
      | none => rw [e] at hp; exact ws_ret (ev_non.we hp)
      | some r => rw [e] at hf; cases hf
abbrev mRl : Stmt := inClass (top 43) 5
theorem scMRl : FnScope ["self", "book", "_", "rule"] ["self", "book"] (defScope mRl) := ⟨rfl, rfl, rfl, by decide +kernel, rfl, by decide +kernel, by decide +kernel⟩
/-- is_lawful: asked of lawful books only -/
def rMRl (C CA CN : Addr) : ASp := fun ds L post => ∃ x y aps w nps pl w' b, ds = [x, y] ∧ Lk L x (rbD C (apD CA aps w) (ndD CN nps pl w')) ∧ Lk L y (.dct (encB b)) ∧ Few aps ∧ ((filled b aps).map (·.2)).Nodup ∧ nps.length ≤ 100 ∧ (∀ p ∈ nps, getB b p.1 = 0 ∨ 0 < getB b p.2) ∧ post (.bl true) L
theorem ok_mrl {f : Addr} {fd : FuncData} (F : Fun B.K "is_lawful" "RuleBook.is_lawful" mRl f fd) (kl : Kla B C rFlds) (ma : Mcl B 3 CA "keeps" (rMAk CA)) (mn : Mcl B 2 CN "keeps" (rMNdk CN)) : FnOk B.P B.w B.K B.mg B.base CX0 4 f fd ["self", "book"] (low (rMRl C CA CN)) := by
  refine ok_def F scMRl (fun ds L post ⟨_, _, _, _, _, _, _, _, h, _⟩ => by rw [h]; rfl) fun S hS ds L post ⟨x, y, aps, w, nps, pl, w', b, e, lx, ly, fw, nd, hl, ok, hp⟩ => ?_
  subst e
  refine ws_ret ((ev_allT (n := 2) (.inl rfl) (ev_lc (ds := [.tup [.str "apart", apD CA aps w], .tup [.str "whole", ndD CN nps pl w']]) [("_", 2), ("rule", 3)] (fun _ => some (.bl true)) (ei_list (ev_fld kl lx rfl (ev_var 0))) (show (2 : Nat) ≤ sizeLine by decide) rfl fun d hd => ?_)).we hp)
  simp at hd
  rcases hd with rfl | rfl
  · exact ⟨_, _, wg_pair 2 3, by decide, wts_n rfl fun z => ev_meth ma (by decide) (.inl rfl) (ev_var 3) (ea_1 (ev_var 1)) ⟨_, y, aps, w, b, rfl, .inl rfl, ly, fw, nd, rfl, rfl⟩⟩
  · exact ⟨_, _, wg_pair 2 3, by decide, wts_n rfl fun z => ev_meth mn (by decide) (.inl rfl) (ev_var 3) (ea_1 (ev_var 1)) ⟨_, y, nps, pl, w', b, rfl, .inl rfl, ly, hl, ok, rfl, rfl⟩⟩
end
end FS
/-! text W29 -/
/-! W29: an object that is made and not changed any more. -/
namespace FS
open PySem PySem.Spec PyProof.Rows L2
section
variable {B : Bg} {N : List Str} {sc : Scope} {k : Nat}
variable {S : Sit B N sc k} {G : Gam} {L : Sto} {e a b c o : Expr} {pos p apos : Pos} {post : D → Sto → Prop} {es : List Expr}
theorem we_makeG {j : Nat} {x : Str} {C : Addr} {R : ASp} (M : Kcl B j x C R) (hj : j + 1 ≤ k) (h : Wa S G L (e :: es) fun ds L1 => ∀ q, L1 q = none → ∃ p', R (.ptr q :: ds) (L1.set q (.ins C [])) p' ∧ ∀ d L2, p' d L2 → d = .non ∧ post (.ptr q) L2) (hg : sc.names.lookup x = some .globalImplicit := by rfl) (hdb : (x == ("__debug__" : Str)) = false := by decide)
    (he : ∀ env, starEach (e :: es) env = (false, eval e env) :: starEach es env := by intro _; rfl) (hpl : ∀ env, (backTo pos (starEach es env)).any (·.1) = false := by intro _; rfl) : We S G L (.Call (.Name x p) (e :: es) [] pos) post := fun σ H A Q c => by
  obtain ⟨f, fd, ps, F, hm, hb⟩ := M.ex
  refine ⟨tMake C (low R) [] E0 (MA S (e :: es)), fun X hX => ?_, h σ H A _ fun ds L1 vs H1 w k1 s1 r1 q dx nq nd ne => ?_⟩
  · have h2 := ma hX (e := e :: es)
    obtain ⟨y, rfl, hr⟩ := S.fam X hX
    exact pe_make hm F (Room.mono (show Room k y.A from hr) hj) hg M.mg hb .nil pass0 h2 hdb (he _) (hpl _)
  · obtain ⟨s2, k2⟩ := make_ok (C := C) (fs := []) s1 nq nd ne
    obtain ⟨p', w', hw⟩ := w q (sto_new nq s1)
    refine ⟨.ptr q :: ds, _, _, s2, by rw [List.append_nil]; exact .cons .ptr (r1.mono k2.kp), w', fun d L' v H' pq' k3 s3 r3 => ?_⟩
    obtain ⟨ed, pq⟩ := hw _ _ pq'
    subst ed; cases r3
    exact ⟨rfl, c _ _ _ _ pq ((k1.trans k2).trans k3) s3 .ptr⟩
theorem we_makeF {j : Nat} {x : Str} {C : Addr} {R : ASp} (M : Kcl B j x C R) (hj : j + 1 ≤ k) (h : Wa S G L (e :: es) fun ds L1 => ∀ q, L1 q = none → R (.ptr q :: ds) (L1.set q (.ins C [])) fun d L2 => d = .non ∧ ∃ c, L2 = (L1.set q (.ins C [])).set q c ∧ post c L1) (hg : sc.names.lookup x = some .globalImplicit := by rfl) (hdb : (x == ("__debug__" : Str)) = false := by decide)
    (he : ∀ env, starEach (e :: es) env = (false, eval e env) :: starEach es env := by intro _; rfl) (hpl : ∀ env, (backTo pos (starEach es env)).any (·.1) = false := by intro _; rfl) : We S G L (.Call (.Name x p) (e :: es) [] pos) post :=
  we_frz (we_makeG M hj (h.mono fun ds L1 w q nq => ⟨_, w q nq, fun d L2 ⟨ed, c, eL, pc⟩ => ⟨ed, q, c, rfl, by rw [eL]; exact Sto.set_same, by rw [eL, Sto.set_set, Sto.del_set nq]; exact pc⟩⟩) hg hdb he hpl)
end
end FS
/-! text E32 -/
/-! E32: item_rules. -/
namespace FS
open PySem PySem.Spec PyProof.Rows L2
def posPs (n : Nat) : List Int := (List.range n).map fun i : Nat => 2 * (1 + (i : Int) * 1)
def itemP1 (i : Nat) : List (Int × Int) := [(2 * (1 + (i : Int) * 1), 2 * (1 + (i : Int) * 1) + 1), (2 * (1 + (i : Int) * 1) + 1, 2 * (1 + (i : Int) * 1))]
def itemPs (n : Nat) : List (Int × Int) := (List.range n).flatMap itemP1
theorem itemPs_len {n : Nat} : (itemPs n).length = 2 * n := by
  unfold itemPs
  induction n with
  | zero => rfl
  | succ n ih => rw [List.range_succ, List.flatMap_append, List.length_append, ih]; show _ + 2 = _; omega
theorem itemPs_succ {n : Nat} : itemPs (n + 1) = itemPs n ++ itemP1 n := by unfold itemPs; rw [List.range_succ, List.flatMap_append]; simp
theorem itemPs_mem {n : Nat} {p : Int × Int} (h : p ∈ itemPs n) : ∃ i : Nat, i < n ∧ p ∈ itemP1 i := by
  obtain ⟨i, hi, hp⟩ := List.mem_flatMap.mp h
  exact ⟨i, List.mem_range.mp hi, hp⟩
theorem itemPs_ne {n : Nat} {p : Int × Int} (h : p ∈ itemPs n) : p.1 ≠ p.2 := by
  obtain ⟨i, _, hp⟩ := itemPs_mem h
  unfold itemP1 at hp
  simp at hp
  rcases hp with rfl | rfl <;> simp <;> omega
theorem posPs_nd {n : Nat} : (posPs n).Nodup := by
  unfold posPs
  rw [List.nodup_iff_pairwise_ne, List.pairwise_map]
  exact List.nodup_range.imp fun h z => h (by omega)
theorem posPs_len {n : Nat} : (posPs n).length = n := by unfold posPs; simp
section
variable {B : Bg} {C CA CN : Addr}
abbrev sIr : Stmt := top 47
theorem scSIr : FnScope ["count", "pairs", "item", "apart"] ["count"] (defScope sIr) := ⟨rfl, rfl, rfl, by decide +kernel, rfl, by decide +kernel, by decide +kernel⟩
def rIr (C CA CN : Addr) : ASp := fun ds L post => ∃ n : Nat, ds = [.int (n : Nat)] ∧ n ≤ 10 ∧ ∀ w pl w', post (rbD C (apD CA (posPs n) w) (ndD CN (itemPs n) pl w')) L
theorem ok_sir {f : Addr} {fd : FuncData} (F : Fun B.K "item_rules" "item_rules" sIr f fd) (cPp : Cl B 1 "position_place" rPp) (cCp : Cl B 1 "content_place" rCp) (kA : Kcl B 3 "Apart" CA (rMAi CA)) (kN : Kcl B 1 "Needs" CN (rMNdi CN)) (kR : Kcl B 2 "RuleBook" C (rMRi C)) : FnOk B.P B.w B.K B.mg B.base CX0 5 f fd ["count"] (low (rIr C CA CN)) := by
  refine ok_def F scSIr (fun ds L post ⟨_, h, _⟩ => by rw [h]; rfl) fun S hS ds L post ⟨n, e, hn, hp⟩ => ?_
  subst e
  have hline : 1000 ≤ sizeLine := by decide
  have r62 : I62 1 := by unfold I62; omega
  have r62' : I62 ((n : Int) + 1) := by unfold I62; omega
  have hk : ((n : Int) + 1 - 1).toNat = n := by omega
  refine ws_set 1 (we_newL fun q nq => ?_)
  refine ws_for ((ei_range2 (ea_2 ev_int (ev_add (ev_var 0) ev_int)) r62 r62' hk).wi (forW_inv (fun i G' L' => ∃ a, G' = [some (.int (n : Nat)), some (.ptr q), a, none] ∧ i ≤ n ∧ L' = L.set q (.lst ((itemPs i).map encM))) ⟨_, rfl, Nat.zero_le _, rfl⟩ ?_ ?_))
  · rintro i d G' L' hd ⟨a, rfl, _, rfl⟩
    obtain ⟨hin, rfl⟩ := rngL_get hd
    refine ⟨_, _, wg_name 2, ?_⟩
    have hlen := itemPs_len (n := i)
    have p1 : ∀ {L2 pos p1 p2}, Ev S [some (.int (n : Nat)), some (.ptr q), some (.int (1 + (i : Int) * 1)), none] L2 (.Call (.Name "position_place" p1) [.Name "item" p2] [] pos) (.int (2 * (1 + (i : Int) * 1))) := fun {L2 pos p1 p2} => ev_call cPp (by decide) (ea_1 (ev_var 2)) ⟨_, rfl, rfl, rfl⟩
    have p2 : ∀ {L2 pos p1 p2}, Ev S [some (.int (n : Nat)), some (.ptr q), some (.int (1 + (i : Int) * 1)), none] L2 (.Call (.Name "content_place" p1) [.Name "item" p2] [] pos) (.int (2 * (1 + (i : Int) * 1) + 1)) := fun {L2 pos p1 p2} => ev_call cCp (by decide) (ea_1 (ev_var 2)) ⟨_, rfl, rfl, rfl⟩
    refine ws_expr (we_append (ev_var 1) ((ev_tup (ea_2 p1 p2)).we ⟨_, Sto.set_same, by rw [List.length_map]; omega, ?_⟩) ⟨_, Sto.set_same⟩)
    rw [Sto.set_set]
    refine ws_expr (we_append (ev_var 1) ((ev_tup (ea_2 p2 p1)).we ⟨_, Sto.set_same, by rw [List.length_append, List.length_map]; show _ + 1 < _; omega, ws_nil ⟨_, rfl, hin, ?_⟩⟩) ⟨_, Sto.set_same⟩)
    rw [Sto.set_set, itemPs_succ, List.map_append, List.append_assoc]; rfl
  · rintro G' L' ⟨a, rfl, _, rfl⟩
    rw [rngL_len]
    refine ws_frzN 1 nq ?_
    have e1 : (rngL 1 1 n).filterMap (onI fun i => some (.int (2 * i))) = (posPs n).map D.int := by
      unfold rngL posPs
      rw [List.filterMap_map, List.map_map, ← List.filterMap_eq_map']; rfl
    refine ws_set 3 (we_makeF kA (by decide) ((ea_1 (ev_lc [("item", 2)] (onI fun i => some (.int (2 * i))) (ei_range2 (ea_2 ev_int (ev_add (ev_var 0) ev_int)) r62 r62' hk) (by rw [rngL_len]; omega) e1 fun d hd => ?_)).wa fun q nq => ⟨q, posPs n, rfl, posPs_nd, Sto.set_same, fun w => ⟨rfl, _, rfl, ?_⟩⟩))
    · obtain ⟨i, hi⟩ := List.getElem?_of_mem hd
      obtain ⟨_, rfl⟩ := rngL_get hi
      exact ⟨_, _, wg_name 2, by decide, wts_n rfl fun z => ev_call cPp (by decide) (ea_1 (ev_var 2)) ⟨_, rfl, rfl, rfl⟩⟩
    have hlen := itemPs_len (n := n)
    refine ws_ret (we_makeF kR (by decide) (wa_cons (we_lst (wa_cons (Ev.we (ev_tup (ea_2 ev_str (ev_var 3))) ?_)))))
    refine wa_cons (we_tup (wa_cons (Ev.we ev_str (wa_cons (we_makeF kN (by decide) ((ea_1 (ev_var 1)).wa fun q1 nq1 => ⟨q1, itemPs n, rfl, fun p hp => itemPs_ne hp, by omega, Sto.set_same, fun pl w' => ⟨rfl, _, rfl, ?_⟩⟩))))))
    refine wa_nil ⟨(show (2 : Nat) ≤ sizeLine by decide), wa_nil ⟨(show (2 : Nat) ≤ sizeLine by decide), wa_nil fun q2 nq2 => ⟨q2, _, _, rfl, Sto.set_same, rfl, _, rfl, hp w pl w'⟩⟩⟩
end
end FS
/-! text M9 -/
/-! M9: the reason of the item rules is the law's. -/
namespace FS
open PySem PySem.Spec PyProof.Rows L2
/-- no value below 0 -/
def NN (b : Bk) : Prop := ∀ p : Int, 0 ≤ getB b p
/-- a book as the program keeps it: in any order -/
structure BkE (n : Nat) (b : Bk) : Prop where
  nd : (keysB b).Nodup
  ks : ∀ p ∈ b, 2 ≤ p.1 ∧ p.1 ≤ 2 * n + 1 ∧ 1 ≤ p.2 ∧ p.2 ≤ 3
theorem BkOk.e {n : Nat} {b : Bk} (h : BkOk n b) : BkE n b := ⟨h.nd, h.ks⟩
theorem BkE.nn {n : Nat} {b : Bk} (h : BkE n b) : NN b := fun p => by
  unfold getB
  cases e : valG b p with
  | none => exact Int.le_refl _
  | some v => have := h.ks _ (getB_mem e); simp at this ⊢; omega
theorem posPs_srt {n : Nat} : (posPs n).Pairwise (· < ·) := by
  unfold posPs
  rw [List.pairwise_map]
  exact List.pairwise_lt_range.imp fun h => by omega
theorem asc_posPs {n : Nat} : asc (posPs n) = posPs n := (asc_eq posPs_srt fun _ => Iff.rfl).symm
def fillP (b : Bk) (p : Int) : Option (Int × Int) := if 0 < getB b p then some (mkB b p) else none
theorem filled_pos {b : Bk} {n : Nat} : filled b (posPs n) = (posPs n).filterMap (fillP b) := by unfold filled; rw [asc_posPs]; rfl
/-! the first pair of one value -/
theorem barsA_cons {m : Int × Int} {ms : List (Int × Int)} : barsA (m :: ms) = ((ms.filter fun x => decide (m.2 = x.2)).map fun x => (m, x)) ++ barsA ms := by
  unfold barsA
  rw [List.zipIdx_cons, List.flatMap_cons]
  congr 1
  rw [List.zipIdx_succ, List.flatMap_map]
  rfl
def apF (b : Bk) (p q : Int) : Option Bar := if 0 < getB b p ∧ getB b p = getB b q then some (mkB b p, mkB b q) else none
def apL (b : Bk) : List Int → Option Bar
  | [] => none
  | p :: ps => (ps.findSome? (apF b p)).or (apL b ps)
theorem head_filter {α β : Type} {xs : List α} {f : α → Option β} : (xs.filterMap f).head? = xs.findSome? f := by
  induction xs with
  | nil => rfl
  | cons x xs ih =>
    rw [List.filterMap_cons, List.findSome?_cons]
    cases e : f x with
    | none => exact ih
    | some y => rfl
theorem apF_none {b : Bk} {p : Int} (h : ¬ 0 < getB b p) {ps : List Int} : ps.findSome? (apF b p) = none := by
  induction ps with
  | nil => rfl
  | cons q ps ih => rw [List.findSome?_cons]; unfold apF; rw [if_neg fun z => h z.1]; exact ih
theorem apF_some {b : Bk} {p : Int} (h : 0 < getB b p) {ps : List Int} : (((ps.filterMap (fillP b)).filter fun x => decide ((mkB b p).2 = x.2)).map fun x => (mkB b p, x)).head? = ps.findSome? (apF b p) := by
  induction ps with
  | nil => rfl
  | cons q ps ih =>
    rw [List.filterMap_cons, List.findSome?_cons]
    unfold fillP
    by_cases hq : 0 < getB b q
    · rw [if_pos hq]
      simp only
      rw [List.filter_cons]
      by_cases e : getB b p = getB b q
      · rw [if_pos (decide_eq_true (show (mkB b p).2 = (mkB b q).2 from e))]
        unfold apF
        rw [if_pos ⟨h, e⟩]; rfl
      · rw [if_neg (by rw [decide_eq_true_eq]; exact e)]
        unfold apF
        rw [if_neg fun z => e z.2]; exact ih
    · rw [if_neg hq]
      unfold apF
      rw [if_neg (fun z : 0 < getB b p ∧ getB b p = getB b q => hq (z.2 ▸ z.1))]; exact ih
theorem bars_head {b : Bk} {ps : List Int} : (barsA (ps.filterMap (fillP b))).head? = apL b ps := by
  induction ps with
  | nil => rfl
  | cons p ps ih =>
    rw [List.filterMap_cons]
    unfold apL
    by_cases h : 0 < getB b p
    · rw [show fillP b p = some (mkB b p) from if_pos h]
      simp only
      rw [barsA_cons, List.head?_append, ih, apF_some h]
    · rw [show fillP b p = none from if_neg h]
      simp only
      rw [ih, apF_none h]; rfl
theorem find_map {α β γ : Type} {xs : List α} {g : α → β} {f : β → Option γ} : (xs.map g).findSome? f = xs.findSome? (f ∘ g) := by
  induction xs with
  | nil => rfl
  | cons x xs ih => rw [List.map_cons, List.findSome?_cons, List.findSome?_cons, ih]; rfl
theorem find_omap {α β γ : Type} {xs : List α} {f : α → Option β} {g : β → γ} : xs.findSome? (fun x => (f x).map g) = (xs.findSome? f).map g := by
  induction xs with
  | nil => rfl
  | cons x xs ih => rw [List.findSome?_cons, List.findSome?_cons, ih]; cases f x <;> rfl
theorem apL_range {b : Bk} : ∀ {n : Nat} {f : Nat → Int}, apL b ((List.range n).map f) = (List.range n).findSome? fun i => (List.range (n - (i + 1))).findSome? fun j => apF b (f i) (f (i + 1 + j))
  | 0, _ => rfl
  | n + 1, f => by
    rw [List.range_succ_eq_map, List.map_cons, List.map_map, List.findSome?_cons, find_map]
    unfold apL
    rw [apL_range (f := f ∘ Nat.succ), find_map]
    have e1 : (fun j => apF b (f 0) (f (0 + 1 + j))) = apF b (f 0) ∘ (f ∘ Nat.succ) := by funext j; show apF b (f 0) (f (0 + 1 + j)) = apF b (f 0) (f (j + 1)); rw [Nat.zero_add, Nat.add_comm]
    rw [show n + 1 - (0 + 1) = n by omega, e1]
    cases (List.range n).findSome? (apF b (f 0) ∘ (f ∘ Nat.succ)) with
    | some y => rfl
    | none =>
      simp only [Option.none_or]
      congr 1
      funext i
      show (List.range (n - (i + 1))).findSome? _ = (List.range (n + 1 - (i + 1 + 1))).findSome? _
      rw [show n + 1 - (i + 1 + 1) = n - (i + 1) by omega]
      congr 1
      funext j
      show apF b (f (i + 1)) (f (i + 1 + j + 1)) = apF b (f (i + 1)) (f (i + 1 + 1 + j))
      rw [show i + 1 + j + 1 = i + 1 + 1 + j by omega]
theorem apart_eq {b : Bk} {n : Nat} : ((barsA (filled b (posPs n))).head?.map fun r => (("apart", r) : Brk)) = (List.range n).findSome? (apartR b n) := by
  rw [filled_pos, bars_head]
  unfold posPs
  rw [apL_range, ← find_omap]
  congr 1
  funext i
  unfold apartR
  rw [← find_omap]
  congr 1
  funext j
  unfold apF apartF
  have e1 : (2 : Int) * (1 + ((i + 1 + j : Nat) : Int) * 1) = 2 * (1 + (i : Int) * 1 + 1 + (j : Int) * 1) := by omega
  rw [e1]
  split <;> rfl
/-! the first half item -/
theorem nd_one {b : Bk} (h : NN b) (i : Nat) : ((itemP1 i).filterMap (ndB b)).map (fun r => (("whole", r) : Brk)) = (wholeF b (1 + (i : Int) * 1)).toList := by
  generalize hk : 1 + (i : Int) * 1 = k
  have h1 := h (2 * k)
  have h2 := h (2 * k + 1)
  unfold itemP1 wholeF
  rw [hk, List.filterMap_cons, List.filterMap_cons, List.filterMap_nil]
  unfold ndB mkB
  by_cases a : 0 < getB b (2 * k)
  · by_cases c : 0 < getB b (2 * k + 1)
    · have a0 : getB b (2 * k) ≠ 0 := by omega
      have c0 : getB b (2 * k + 1) ≠ 0 := by omega
      simp [a, c, a0, c0]
    · have c0 : getB b (2 * k + 1) = 0 := by omega
      simp [a, c0]
      intro z; omega
  · have a0 : getB b (2 * k) = 0 := by omega
    by_cases c : 0 < getB b (2 * k + 1)
    · have c0 : getB b (2 * k + 1) ≠ 0 := by omega
      have z : ¬ (2 * k + 1 < 2 * k) := by omega
      simp [a0, c, c0, z]
    · have c0 : getB b (2 * k + 1) = 0 := by omega
      simp [a0, c0]
theorem head_toList {α β : Type} {xs : List α} {f : α → Option β} : (xs.flatMap fun x => (f x).toList).head? = xs.findSome? f := by
  induction xs with
  | nil => rfl
  | cons x xs ih => rw [List.flatMap_cons, List.findSome?_cons]; cases e : f x <;> simp [ih]
theorem whole_all {b : Bk} (h : NN b) (m : Nat) : ((itemPs m).filterMap (ndB b)).map (fun r => (("whole", r) : Brk)) = (List.range m).flatMap fun i : Nat => (wholeF b (1 + (i : Int) * 1)).toList := by
  unfold itemPs
  rw [List.filterMap_flatMap, List.map_flatMap]
  congr 1
  funext i
  exact nd_one h i
theorem whole_eq {n : Nat} {b : Bk} (h : NN b) : (((itemPs n).filterMap (ndB b)).head?.map fun r => (("whole", r) : Brk)) = (List.range n).findSome? fun i : Nat => wholeF b (1 + (i : Int) * 1) := by
  rw [← List.head?_map, whole_all h, head_toList]
theorem rsn_eq {n : Nat} {b : Bk} (h : NN b) : rsn b (posPs n) (itemPs n) = brokenL b n := by
  unfold rsn brokenL
  rw [apart_eq, whole_eq h]
theorem nd_ok {n : Nat} {b : Bk} (h : NN b) (hn : n ≤ 10) : NdOk b (itemPs n) := by
  refine ⟨fun p hp => itemPs_ne hp, by rw [itemPs_len]; omega, ?_⟩
  have e := whole_all h n
  have p1 : ((List.range n).flatMap fun i : Nat => (wholeF b (1 + (i : Int) * 1)).toList).Pairwise (fun x y => x.2.1.1 < y.2.1.1) := by
    rw [List.pairwise_flatMap]
    refine ⟨fun i _ => ?_, List.pairwise_lt_range.imp fun {i j} hij x hx y hy => ?_⟩
    · cases wholeF b (1 + (i : Int) * 1) <;> simp
    · have key : ∀ {k : Int} {z : Brk}, z ∈ (wholeF b k).toList → z.2.1.1 = 2 * k := fun {k z} hz => by
        unfold wholeF at hz
        split at hz
        · simp at hz; subst hz; rfl
        · cases hz
      rw [key hx, key hy]; omega
  rw [← e, List.pairwise_map] at p1
  exact p1
theorem barsA_le {ms : List (Int × Int)} : (barsA ms).length ≤ ms.length * ms.length := by
  induction ms with
  | nil => exact Nat.le_refl _
  | cons m ms ih =>
    rw [barsA_cons, List.length_append, List.length_map, List.length_cons]
    have := List.length_filter_le (fun x => decide (m.2 = x.2)) ms
    have e : (ms.length + 1) * (ms.length + 1) = ms.length * ms.length + 2 * ms.length + 1 := by rw [Nat.add_mul, Nat.mul_add]; omega
    omega
theorem bars_few {b : Bk} {n : Nat} (hn : n ≤ 10) : (barsA (filled b (posPs n))).length ≤ 1000 := by
  have h1 := filled_len (b := b) (ps := posPs n)
  rw [posPs_len] at h1
  have h2 := barsA_le (ms := filled b (posPs n))
  have h3 : (filled b (posPs n)).length * (filled b (posPs n)).length ≤ 10 * 10 := Nat.mul_le_mul (by omega) (by omega)
  omega
theorem few_pos {n : Nat} (hn : n ≤ 10) : Few (posPs n) := ⟨by rw [posPs_len]; omega, fun ks nd hk => by
  have := nodup_len nd hk
  rw [posPs_len] at this; omega⟩
/-! what a lawful book keeps -/
theorem barsA_nil {ms : List (Int × Int)} (h : barsA ms = []) : (ms.map (·.2)).Nodup := by
  induction ms with
  | nil => exact List.nodup_nil
  | cons m ms ih =>
    rw [barsA_cons] at h
    obtain ⟨h1, h2⟩ := List.append_eq_nil_iff.mp h
    rw [List.map_cons, List.nodup_cons]
    refine ⟨fun z => ?_, ih h2⟩
    obtain ⟨x, hx, e⟩ := List.mem_map.mp z
    have : (m, x) ∈ ((ms.filter fun x => decide (m.2 = x.2)).map fun x => (m, x)) := List.mem_map.mpr ⟨x, List.mem_filter.mpr ⟨hx, decide_eq_true e.symm⟩, rfl⟩
    rw [h1] at this; cases this
theorem or_none {α : Type} {a b : Option α} (h : a.or b = none) : a = none ∧ b = none := by cases a <;> simp_all
theorem apart_keeps {b : Bk} {n : Nat} (h : brokenL b n = none) : ((filled b (posPs n)).map (·.2)).Nodup := by
  have h1 := (or_none h).1
  rw [← apart_eq] at h1
  refine barsA_nil ?_
  cases e : barsA (filled b (posPs n)) with
  | nil => rfl
  | cons x xs => rw [e] at h1; cases h1
theorem needs_keeps {b : Bk} {n : Nat} (nn : NN b) (h : brokenL b n = none) : ∀ p ∈ itemPs n, getB b p.1 = 0 ∨ 0 < getB b p.2 := by
  have h1 := (or_none h).2
  rw [← whole_eq nn] at h1
  have h2 : (itemPs n).filterMap (ndB b) = [] := by
    cases e : (itemPs n).filterMap (ndB b) with
    | nil => rfl
    | cons x xs => rw [e] at h1; cases h1
  intro p hp
  have h3 := List.filterMap_eq_nil_iff.mp h2 p hp
  have n1 := nn p.1
  have n2 := nn p.2
  unfold ndB at h3
  split at h3
  · cases h3
  · next z =>
    by_cases a : getB b p.1 = 0
    · exact .inl a
    · by_cases c : 0 < getB b p.2
      · exact .inr c
      · exact absurd ⟨by omega, by omega⟩ z
theorem brokenL_congr {b c : Bk} {n : Nat} (h : ∀ p, getB b p = getB c p) : brokenL b n = brokenL c n := by
  unfold brokenL apartR wholeF apartF mkB
  simp only [h]
end FS
/-! text W30 -/
/-! W30: fewer cells. -/
namespace FS
open PySem PySem.Spec PyProof.Rows L2
/-- L2 has only some of the cells of L -/
structure Sub (L2 L : Sto) : Prop where
  P : L2.P = L.P
  c : ∀ p d, L2 p = some d → L p = some d
theorem Sub.non {L2 L : Sto} (s : Sub L2 L) {p : Addr} (h : L p = none) : L2 p = none := by
  cases e : L2 p with
  | none => rfl
  | some d => rw [s.c p d e] at h; cases h
theorem Sub.refl {L : Sto} : Sub L L := ⟨rfl, fun _ _ h => h⟩
theorem Sub.trans {L1 L2 L3 : Sto} (a : Sub L1 L2) (b : Sub L2 L3) : Sub L1 L3 := ⟨a.P.trans b.P, fun p d h => b.c p d (a.c p d h)⟩
theorem Sub.set {L2 L : Sto} {q : Addr} {d : D} (s : Sub L2 L) (n : L2 q = none) : Sub L2 (L.set q d) := ⟨s.P, fun p d' h => by
  have ne : p ≠ q := fun e => by rw [e, n] at h; cases h
  rw [Sto.set_ne ne]; exact s.c p d' h⟩
theorem Sub.set2 {L2 L : Sto} {q : Addr} {d : D} (s : Sub L2 L) : Sub (L2.set q d) (L.set q d) := ⟨s.P, fun p d' h => by
  by_cases e : p = q
  · rw [e, Sto.set_same] at h ⊢; exact h
  · rw [Sto.set_ne e] at h ⊢; exact s.c p d' h⟩
theorem Sub.kp {L2 L : Sto} {H : Hp} (s : Sub L2 L) : Kp L.dom H L2.dom H := kp_dom s.P fun _ h => s.non h
theorem Sub.keep {L0 L2 L : Sto} {H H' : Hp} (s : Sub L2 L) (k : Keep L0 H L H') : Keep L0 H L2 H' := ⟨s.P.trans k.P, fun p o h1 h2 => let q := k.at_ p o h1 h2; ⟨s.non q.1, q.2⟩⟩
theorem Sub.ok {L2 L : Sto} {H : Hp} (s : Sub L2 L) (o : StoOk L H) : StoOk L2 H := ⟨fun p d h => (o.cell p d (s.c p d h)).mono s.kp rfl, fun p h => let q := o.prot p (s.P ▸ h); ⟨q.1, s.non q.2⟩⟩
/-- what reads as d among the cells of L reads as d' among those of L2 -/
def Fz (L L2 : Sto) (d d' : D) : Prop := ∀ H v, StoOk L H → Rep L.dom H d v → Rep L2.dom H d' v
theorem Sub.fz {L2 L : Sto} {d : D} (s : Sub L2 L) : Fz L L2 d d := fun H v _ r => r.mono s.kp
theorem Sub.cell {L2 L : Sto} {q : Addr} {d : D} (s : Sub L2 L) (h : L q = some d) (n : L2 q = none) : Fz L L2 (.ptr q) d := fun H v o r => by
  cases r
  have nd : ¬ L2.dom q := fun z => z.elim (fun z => z n) fun z => by
    have := (o.prot q (s.P ▸ z)).2; rw [h] at this; cases this
  cases o.cell q d h with
  | lst e r => exact .lst nd e (r.mono s.kp)
  | dct e r => exact .dct nd (.inl e) (r.mono s.kp)
  | ins e r => exact .ins nd e (r.mono s.kp)
section
variable {B : Bg} {N : List Str} {sc : Scope} {k : Nat}
variable {S : Sit B N sc k} {G : Gam} {L : Sto} {e a b c o : Expr} {pos p apos : Pos} {post : D → Sto → Prop} {es : List Expr} {xp : XPost}
theorem We.sub {p q : D → Sto → Prop} (h : We S G L e p) (i : ∀ d L', p d L' → ∃ d' L2, Sub L2 L' ∧ Fz L' L2 d d' ∧ q d' L2) : We S G L e q := fun σ H A Q c => h σ H A Q fun d L' v H' z kp so r =>
  let ⟨d', L2, s, f, w⟩ := i d L' z
  c d' L2 v H' w (s.keep kp) (s.ok so) (f H' v so r)
theorem ContX.sub {W : XK} {H : Hp} {xp xp' : XPost} (c : ContX W L H xp) (i : ∀ C fs L', xp' C fs L' → ∃ L2, Sub L2 L' ∧ xp C fs L2) : ContX W L H xp' := fun C fs L' dd vs H' z k so n e r =>
  let ⟨L2, s, w⟩ := i C fs L' z
  c C fs L2 dd vs H' w (s.keep k) (s.ok so) (fun z => n (z.elim (fun z => .inl fun y => z (s.non y)) fun z => .inr (s.P ▸ z))) e (r.mono s.kp)
theorem WeX.sub {p q : D → Sto → Prop} {xp xp' : XPost} (h : WeX S G L e p xp') (i : ∀ d L', p d L' → ∃ d' L2, Sub L2 L' ∧ Fz L' L2 d d' ∧ q d' L2) (ix : ∀ C fs L', xp' C fs L' → ∃ L2, Sub L2 L' ∧ xp C fs L2) : WeX S G L e q xp := fun σ H A Q c cx => h σ H A Q (fun d L' v H' z kp so r =>
  let ⟨d', L2, s, f, w⟩ := i d L' z
  c d' L2 v H' w (s.keep kp) (s.ok so) (f H' v so r)) (cx.sub ix)
/-- exceptions: with fewer cells -/
theorem ws_xsub {sts : List Stmt} {E : AE} {xp : XPost} (h : Ws S G L sts { E with xc := xp }) (i : ∀ C fs L', xp C fs L' → ∃ L2, Sub L2 L' ∧ E.xc C fs L2) : Ws S G L sts E := fun σ H A D c => h σ H A D ⟨c.nx, c.rt, c.bk, c.ct, c.xc.sub i⟩
/-- slot i is read as d' from now on, with fewer cells -/
theorem ws_fz (i : Nat) {L2 : Sto} {d d' : D} {sts : List Stmt} {E : AE} (s : Sub L2 L) (f : Fz L L2 d d') (hw : Ws S (G.set i (some d')) L2 sts E) (hG : G[i]? = some (some d) := by rfl) : Ws S G L sts E :=
  ws_abs (fun σ H A => ⟨by
    refine ⟨by rw [List.length_set]; exact A.len, fun j x hj => ?_, s.ok A.sto⟩
    by_cases e : i = j
    · subst e
      obtain ⟨v, e1, r1⟩ := A.slot i _ hG
      rw [List.getElem?_set_self (List.getElem?_eq_some_iff.mp hG).1] at hj
      cases hj
      exact ⟨_, e1, f H v A.sto r1⟩
    · rw [List.getElem?_set_ne e] at hj
      obtain ⟨v, e1, r1⟩ := A.slot j x hj
      exact ⟨v, e1, r1.mono s.kp⟩, s.keep .refl⟩) hw
theorem ws_sub {L2 : Sto} {sts : List Stmt} {E : AE} (s : Sub L2 L) (hw : Ws S G L2 sts E) : Ws S G L sts E :=
  ws_abs (fun σ H A => ⟨A.mono (s.keep .refl) (s.ok A.sto), s.keep .refl⟩) hw
end
end FS
/-! text E33 -/
/-! E33: a history is made and copied. -/
namespace FS
open PySem PySem.Spec PyProof.Rows L2
/-- the rules of n items, at work -/
def RbD (CR CA CN : Addr) (n : Nat) (rb : D) : Prop := ∃ w pl w', rb = rbD CR (apD CA (posPs n) w) (ndD CN (itemPs n) pl w')
theorem rsn_call {CR CA CN : Addr} {n : Nat} {rb x y : D} {b : Bk} {L : Sto} {post : D → Sto → Prop} (hr : RbD CR CA CN n rb) (lx : Lk L x rb) (ly : Lk L y (.dct (encB b))) (nn : NN b) (hn : n ≤ 10) (h : post (encBrO (brokenL b n)) L) : rMRr CR CA CN [x, y] L post := by
  obtain ⟨w, pl, w', rfl⟩ := hr
  exact ⟨x, y, posPs n, w, itemPs n, pl, w', b, rfl, lx, ly, few_pos hn, by rw [posPs_len]; exact hn, bars_few hn, nd_ok nn hn, by rw [rsn_eq nn]; exact h⟩
theorem Lk.sub {L L' : Sto} {x d : D} (s : Sub L L') (l : Lk L x d) : Lk L' x d := l.imp id fun ⟨p, e, h⟩ => ⟨p, e, s.c _ _ h⟩
theorem HAt.sub {C : Addr} {L L' : Sto} {r d : D} {h : Ht} (s : Sub L L') (a : HAt C L r d h) : HAt C L' r d h := by
  obtain ⟨x1, x2, x3, x4, x5, l0, l1, l2, l3, l4, l5⟩ := a.ex
  exact ⟨x1, x2, x3, x4, x5, l0.sub s, l1.sub s, l2.sub s, l3.sub s, l4.sub s, l5.sub s⟩
/-- the five cells are new over L0 -/
structure HNew (L0 L : Sto) (c1 c2 c3 c4 c5 : Addr) : Prop where
  sub : Sub L0 L
  n : L0 c1 = none ∧ L0 c2 = none ∧ L0 c3 = none ∧ L0 c4 = none ∧ L0 c5 = none
theorem HNew.put {L0 L : Sto} {c1 c2 c3 c4 c5 : Addr} {h : Ht} (a : HNew L0 L c1 c2 c3 c4 c5) : HNew L0 (hput L c1 c2 c3 c4 c5 h) c1 c2 c3 c4 c5 := by
  obtain ⟨s, n1, n2, n3, n4, n5⟩ := a
  exact ⟨((((s.set n1).set n2).set n3).set n4).set n5, n1, n2, n3, n4, n5⟩
/-- a history that does not change any more -/
def hD (C : Addr) (r : D) (h : Ht) : D := hIns C r (.lst (encN (List.range h.par.length))) (.lst (encS h.kd)) (.lst (encLk h.par)) (.lst (encW h.wr)) (.lst (encW h.bk))
theorem hD_at {C : Addr} {L : Sto} {r : D} {h : Ht} : HAt C L r (hD C r h) h := ⟨_, _, _, _, _, .inl rfl, .inl rfl, .inl rfl, .inl rfl, .inl rfl, .inl rfl⟩
theorem HCl.fz {C : Addr} {L0 L : Sto} {q c1 c2 c3 c4 c5 : Addr} {r : D} {h : Ht} (a : HCl C L q c1 c2 c3 c4 c5 r h) (w : HNew L0 L c1 c2 c3 c4 c5) (nq : L0 q = none) : Fz L L0 (.ptr q) (hD C r h) := fun H v o rr => by
  cases rr
  obtain ⟨s, n1, n2, n3, n4, n5⟩ := w
  have nd : ¬ L0.dom q := fun z => z.elim (fun z => z nq) fun z => by
    have := (o.prot q (s.P ▸ z)).2; rw [a.hq] at this; cases this
  have one : ∀ {c : Addr} {d : D} {v : V}, L c = some d → L0 c = none → Rep L.dom H (.ptr c) v → Rep L0.dom H d v := fun {c d v} e n r => s.cell e n H v o r
  cases o.cell q _ a.hq with
  | ins e r =>
  refine .ins nd e ?_
  cases r with
  | cons a0 r =>
  cases r with
  | cons a1 r =>
  cases r with
  | cons a2 r =>
  cases r with
  | cons a3 r =>
  cases r with
  | cons a4 r =>
  cases r with
  | cons a5 r =>
  cases r
  exact .cons (a0.mono s.kp) (.cons (one a.h1 n1 a1) (.cons (one a.h2 n2 a2) (.cons (one a.h3 n3 a3) (.cons (one a.h4 n4 a4) (.cons (one a.h5 n5 a5) .nil)))))
/-- one more list for the fields of q -/
structure Stp (Lp : Sto) (q c : Addr) (F : D) (L : Sto) : Prop where
  hq : L q = some F
  hc : L c = some (.lst [])
  ne : c ≠ q
  old : ∀ a x, a ≠ q → Lp a = some x → L a = some x ∧ a ≠ c
  sub : ∀ L0, Sub L0 Lp → L0 q = none → Sub L0 L ∧ L0 c = none
theorem stp {Lp : Sto} {q c : Addr} {F F0 : D} (nc : Lp c = none) (hq : Lp q = some F0) : Stp Lp q c F ((Lp.set c (.lst [])).set q F) := by
  have ne : c ≠ q := fun e => by rw [e, hq] at nc; cases nc
  refine ⟨Sto.set_same, by rw [Sto.set_ne ne]; exact Sto.set_same, ne, fun a x ha hx => ?_, fun L0 s n => ⟨(s.set (s.non nc)).set n, s.non nc⟩⟩
  have hne : a ≠ c := fun e => by rw [e, nc] at hx; cases hx
  exact ⟨by rw [Sto.set_ne ha, Sto.set_ne hne]; exact hx, hne⟩
theorem ws_fldL {B : Bg} {N : List Str} {sc : Scope} {k : Nat} {S : Sit B N sc k} {G : Gam} {L : Sto} {o : Expr} {q C : Addr} {fl : List Str} {fs : List (Str × D)} {f : Str} {p' pos' pos : Pos} {rest : List Stmt} {E : AE} (kl : Kla B C fl) (hq : L q = some (.ins C fs)) (ho : ∀ L', Ev S G L' o (.ptr q)) (h : ∀ c L', Stp L q c (.ins C (putFD f (.ptr c) fs)) L' → Ws S G L' rest E) (hl : fs.length < 1000 := by first | exact (show (1 : Nat) < 1000 by decide) | exact (show (2 : Nat) < 1000 by decide) | exact (show (3 : Nat) < 1000 by decide) | exact (show (4 : Nat) < 1000 by decide) | exact (show (5 : Nat) < 1000 by decide))
    (hf : f ∈ fl := by decide) (hs : ∀ env, swapsWith (.List [] pos') (some (.Attribute o f p')) pos.line env = pure false := by intro _; rfl) : Ws S G L (.Assign [.Attribute o f p'] (.List [] pos') pos :: rest) E :=
  ws_fld kl (we_newL fun c nc => ⟨fs, by rw [Sto.set_ne (fun e => by rw [e, nc] at hq; cases hq)]; exact hq, hl, ho _, h c _ (stp nc hq)⟩) hf hs
def ht0 (b : Bk) : Ht := ⟨["start"], [[]], [b], [b]⟩
section
variable {B : Bg} {C CR CA CN : Addr} {n : Nat}
abbrev mHi : Stmt := inClass (top 100) 0
theorem scMHi : FnScope ["self", "rulebook", "book", "broken"] ["self", "rulebook", "book"] (defScope mHi) := ⟨rfl, rfl, rfl, by decide +kernel, rfl, by decide +kernel, by decide +kernel⟩
def rMHi (C CR CA CN : Addr) (n : Nat) : ASp := fun ds L post => ∃ q rb b, ds = [.ptr q, rb, .dct (encB b)] ∧ L q = some (.ins C []) ∧ RbD CR CA CN n rb ∧ NN b ∧ n ≤ 10 ∧ brokenL b n = none ∧
  ∀ L' c1 c2 c3 c4 c5, HCl C L' q c1 c2 c3 c4 c5 rb (ht0 b) → (∀ L0, Sub L0 L → L0 q = none → HNew L0 L' c1 c2 c3 c4 c5) → post .non L'
theorem RbD.lk {CR CA CN : Addr} {n : Nat} {rb : D} {L : Sto} (h : RbD CR CA CN n rb) : ∃ fs, Lk L rb (.ins CR fs) ∧ fs.lookup ("reason" : Str) = none ∧ fs.lookup ("is_lawful" : Str) = none := by
  obtain ⟨w, pl, w', rfl⟩ := h
  exact ⟨_, .inl rfl, rfl, rfl⟩
theorem ok_mhi {f : Addr} {fd : FuncData} (F : Fun B.K "__init__" "History.__init__" mHi f fd) (kl : Kla B C hFlds) (mr : Mcl B 5 CR "reason" (rMRr CR CA CN)) (ma : Mcl B 1 C "_add" (rMHa C)) : FnOk B.P B.w B.K B.mg B.base CX0 6 f fd ["self", "rulebook", "book"] (low (rMHi C CR CA CN n)) := by
  refine ok_def F scMHi (fun ds L post ⟨_, _, _, h, _⟩ => by rw [h]; rfl) fun S hS ds L post ⟨q, rb, b, e, hq, hr, nn, hn, hb, hp⟩ => ?_
  subst e
  obtain ⟨fs, lr, l1, _⟩ := hr.lk (L := L)
  refine ws_set 3 ((ev_meth mr (by decide) lr (ev_var 1) (ea_1 (ev_var 2)) (rsn_call hr (.inl rfl) (.inl rfl) nn hn ⟨rfl, rfl⟩) l1).we ?_)
  rw [hb]
  refine ws_if (et_notN (ev_var 3)) (fun z => absurd z (by decide)) fun _ => ws_nil ?_
  refine ws_fld kl ((ev_var 1).we ⟨[], hq, by simp, ev_var 0, ?_⟩)
  have hq1 : (L.set q (.ins C (putFD ("rulebook" : Str) rb []))) q = some (.ins C [("rulebook", rb)]) := Sto.set_same
  have sb1 : ∀ L0, Sub L0 L → L0 q = none → Sub L0 (L.set q (.ins C (putFD ("rulebook" : Str) rb []))) := fun L0 s n0 => s.set n0
  generalize L.set q (.ins C (putFD ("rulebook" : Str) rb [])) = L1 at hq1 sb1 ⊢
  refine ws_fldL kl hq1 (fun _ => ev_var 0) fun c1 L2 s1 => ?_
  refine ws_fldL kl s1.hq (fun _ => ev_var 0) fun c2 L3 s2 => ?_
  refine ws_fldL kl s2.hq (fun _ => ev_var 0) fun c3 L4 s3 => ?_
  refine ws_fldL kl s3.hq (fun _ => ev_var 0) fun c4 L5 s4 => ?_
  refine ws_fldL kl s4.hq (fun _ => ev_var 0) fun c5 L6 s5 => ?_
  have a2 := s2.old c1 _ s1.ne s1.hc
  have a3 := s3.old c1 _ s1.ne a2.1
  have a4 := s4.old c1 _ s1.ne a3.1
  have a5 := s5.old c1 _ s1.ne a4.1
  have b3 := s3.old c2 _ s2.ne s2.hc
  have b4 := s4.old c2 _ s2.ne b3.1
  have b5 := s5.old c2 _ s2.ne b4.1
  have d4 := s4.old c3 _ s3.ne s3.hc
  have d5 := s5.old c3 _ s3.ne d4.1
  have e5 := s5.old c4 _ s4.ne s4.hc
  have hc : HCl C L6 q c1 c2 c3 c4 c5 rb ⟨[], [], [], []⟩ := ⟨⟨s1.ne.symm, s2.ne.symm, s3.ne.symm, s4.ne.symm, s5.ne.symm⟩, ⟨a2.2, a3.2, a4.2, a5.2, b3.2, b4.2, b5.2, d4.2, d5.2, e5.2⟩, s5.hq, a5.1, b5.1, d5.1, e5.1, s5.hc⟩
  have hw : ∀ L0, Sub L0 L → L0 q = none → HNew L0 L6 c1 c2 c3 c4 c5 := fun L0 s n0 => by
    obtain ⟨t1, n1⟩ := s1.sub L0 (sb1 L0 s n0) n0
    obtain ⟨t2, n2⟩ := s2.sub L0 t1 n0
    obtain ⟨t3, n3⟩ := s3.sub L0 t2 n0
    obtain ⟨t4, n4⟩ := s4.sub L0 t3 n0
    obtain ⟨t5, n5⟩ := s5.sub L0 t4 n0
    exact ⟨t5, n1, n2, n3, n4, n5⟩
  refine ws_expr (we_meth ma (by decide) (Ev.we (ev_var 0) ⟨⟨_, .inr ⟨q, rfl, hc.hq⟩, rfl⟩, (ea_cons ev_str (ea_cons (ev_lst (ds := []) ea_nil) (ea_2 (ev_var 2) (ev_var 2)))).wa ⟨q, c1, c2, c3, c4, c5, rb, ⟨[], [], [], []⟩, "start", [], b, b, rfl, hc, ⟨rfl, rfl, rfl, Nat.zero_le _⟩, ws_nil ?_⟩⟩))
  exact hp _ c1 c2 c3 c4 c5 hc.put fun L0 s n0 => (hw L0 s n0).put
end
end FS
/-! text E34 -/
/-! E34: a history is copied. -/
namespace FS
open PySem PySem.Spec PyProof.Rows L2
structure HSt (n : Nat) (h : Ht) : Prop where
  ok : HOk h
  ex : ∃ b0, h.kd[0]? = some ("start" : Str) ∧ h.par[0]? = some [] ∧ h.wr[0]? = some b0 ∧ h.bk[0]? = some b0 ∧ NN b0 ∧ brokenL b0 n = none
def htk (h : Ht) (k : Nat) : Ht := ⟨h.kd.take k, h.par.take k, h.wr.take k, h.bk.take k⟩
theorem encS_at {xs : List Str} {n : Nat} (h : n < xs.length) : atI (encS xs) (n : Int) = some (.str xs[n]) := atI_nat (by
  unfold encS; rw [List.getElem?_map, List.getElem?_eq_getElem h]; rfl)
theorem getD_at {α : Type} {xs : List α} {n : Nat} {z : α} (h : n < xs.length) : xs[n]?.getD z = xs[n] := by rw [List.getElem?_eq_getElem h]; rfl
theorem htk_add {h : Ht} (ok : HOk h) {k : Nat} (hk : k < h.par.length) (h1 : k < h.kd.length) : hadd (htk h k) h.kd[k] (h.par[k]?.getD []) (wrB h.wr k) (wrB h.bk k) = htk h (k + 1) := by
  have h2 : k < h.wr.length := by rw [ok.wr]; exact hk
  have h3 : k < h.bk.length := by rw [ok.bk]; exact hk
  unfold hadd htk wrB
  rw [getD_at hk, getD_at h2, getD_at h3]
  simp only
  rw [List.take_succ_eq_append_getElem h1, List.take_succ_eq_append_getElem hk, List.take_succ_eq_append_getElem h2, List.take_succ_eq_append_getElem h3]
theorem htk_all {h : Ht} (ok : HOk h) : htk h h.par.length = h := by
  unfold htk
  rw [List.take_of_length_le (by rw [ok.kd]; exact Nat.le_refl _), List.take_length, List.take_of_length_le (by rw [ok.wr]; exact Nat.le_refl _), List.take_of_length_le (by rw [ok.bk]; exact Nat.le_refl _)]
theorem take_one {α : Type} {xs : List α} {x : α} (h : xs[0]? = some x) : xs.take 1 = [x] := by cases xs with
  | nil => cases h
  | cons y ys => cases h; rfl
section
variable {B : Bg} {C CR CA CN : Addr} {n : Nat}
abbrev mHcl : Stmt := inClass (top 100) 14
theorem scMHcl : FnScope ["self", "twin", "node"] ["self"] (defScope mHcl) := ⟨rfl, rfl, rfl, by decide +kernel, rfl, by decide +kernel, by decide +kernel⟩
def rMHcl (C CR CA CN : Addr) (n : Nat) : ASp := fun ds L post => ∃ x rb h, ds = [x] ∧ HAt C L rb x h ∧ RbD CR CA CN n rb ∧ n ≤ 10 ∧ HSt n h ∧
  ∀ L' q c1 c2 c3 c4 c5, L q = none → HCl C L' q c1 c2 c3 c4 c5 rb h → HNew L L' c1 c2 c3 c4 c5 → post (.ptr q) L'
theorem ok_mhcl {f : Addr} {fd : FuncData} (F : Fun B.K "clone" "History.clone" mHcl f fd) (kl : Kla B C hFlds) (kH : Kcl B 6 "History" C (rMHi C CR CA CN n)) (ma : Mcl B 1 C "_add" (rMHa C)) : FnOk B.P B.w B.K B.mg B.base CX0 8 f fd ["self"] (low (rMHcl C CR CA CN n)) := by
  refine ok_def F scMHcl (fun ds L post ⟨_, _, _, h, _⟩ => by rw [h]; rfl) fun S hS ds L post ⟨x, rb, h, e, ha, hr, hn, ⟨ok, b0, k0, p0, w0, bk0, nn, hb⟩, hp⟩ => ?_
  subst e
  have hline : 1000 ≤ sizeLine := by decide
  obtain ⟨x1, x2, x3, x4, x5, lx, l1, l2, l3, l4, l5⟩ := ha.ex
  have hpl : 0 < h.par.length := (List.getElem?_eq_some_iff.mp p0).1
  have o1 := ok.kd
  have o2 := ok.wr
  have o3 := ok.bk
  have o4 := ok.le
  have eb0 : wrB h.bk 0 = b0 := by unfold wrB; rw [bk0]; rfl
  refine ws_set 1 (we_make kH (by decide) ((ea_2 (ev_fld kl lx rfl (ev_var 0)) (ev_ix (encW_at (ws := h.bk) (n := 0) (by omega)) l5 (ev_fld kl lx rfl (ev_var 0)) ev_int)).wa fun q nq => ⟨q, rb, b0, by rw [eb0], Sto.set_same, hr, nn, hn, hb, fun L1 c1 c2 c3 c4 c5 hc hw => ⟨rfl, ?_⟩⟩))
  have hw0 : HNew L L1 c1 c2 c3 c4 c5 := hw L (Sub.refl.set nq) nq
  have e0 : ht0 b0 = htk h 1 := by unfold ht0 htk; rw [take_one k0, take_one p0, take_one w0, take_one bk0]
  rw [e0] at hc
  have lxi : ∀ {L'}, HNew L L' c1 c2 c3 c4 c5 → Lk L' x (hIns C rb x1 x2 x3 x4 x5) := fun w => lx.sub w.sub
  have hlr : (List.range h.par.length).length = h.par.length := List.length_range
  have r62 : I62 1 := by unfold I62; omega
  have r62' : I62 (((List.range h.par.length).length : Nat) : Int) := by unfold I62; omega
  refine ws_for ((ei_range2 (n := h.par.length - 1) (ea_2 ev_int (ev_lenN (l1.sub hw0.sub) (ev_fld kl (lxi hw0) rfl (ev_var 0)))) r62 r62' (by omega)).wi (forW_inv (fun i G' L' => ∃ a, G' = [some x, some (.ptr q), a] ∧ HCl C L' q c1 c2 c3 c4 c5 rb (htk h (i + 1)) ∧ HNew L L' c1 c2 c3 c4 c5) ⟨_, rfl, hc, hw0⟩ ?_ ?_))
  · rintro i d G' L' hd ⟨a, rfl, hc, hw⟩
    obtain ⟨hin, rfl⟩ := rngL_get hd
    refine ⟨_, _, wg_name 2, ?_⟩
    have ei : (1 + (i : Int) * 1) = ((i + 1 : Nat) : Int) := by omega
    rw [ei]
    have fl : ∀ {f d pos p0}, (([("rulebook", rb), ("_numbers", x1), ("_kinds", x2), ("_links", x3), ("_wrote", x4), ("_books", x5)] : List (Str × D)).lookup f = some d) → f ∈ hFlds → (∀ env, attributeBase (.Name "self" p0) f env (eval (.Name "self" p0) env) = eval (.Name "self" p0) env) → Ev S [some x, some (.ptr q), some (.int ((i + 1 : Nat) : Int))] L' (.Attribute (.Name "self" p0) f pos) d := fun h1 h2 h3 => ev_fld kl (lxi hw) h1 (ev_var 0) h2 h3
    refine ws_expr (we_meth ma (by decide) (Ev.we (ev_var 1) ⟨⟨_, .inr ⟨q, rfl, hc.hq⟩, rfl⟩, (ea_cons (ev_ix (encS_at (xs := h.kd) (n := i + 1) (by omega)) (l2.sub hw.sub) (fl rfl (by decide) (fun _ => rfl)) (ev_var 2)) (ea_cons (ev_ix (encLk_at (ls := h.par) (n := i + 1) (by omega)) (l3.sub hw.sub) (fl rfl (by decide) (fun _ => rfl)) (ev_var 2)) (ea_2 (ev_ix (encW_at (ws := h.wr) (n := i + 1) (by omega)) (l4.sub hw.sub) (fl rfl (by decide) (fun _ => rfl)) (ev_var 2)) (ev_ix (encW_at (ws := h.bk) (n := i + 1) (by omega)) (l5.sub hw.sub) (fl rfl (by decide) (fun _ => rfl)) (ev_var 2))))).wa ⟨q, c1, c2, c3, c4, c5, rb, htk h (i + 1), _, _, _, _, rfl, hc, ⟨?_, ?_, ?_, ?_⟩, ws_nil ⟨_, rfl, ?_, hw.put⟩⟩⟩))
    · unfold htk; simp only [List.length_take]; omega
    · unfold htk; simp only [List.length_take]; omega
    · unfold htk; simp only [List.length_take]; omega
    · unfold htk; simp only [List.length_take]; omega
    · rw [htk_add ok (by omega) (by omega)]
      exact hc.put
  · rintro G' L' ⟨a, rfl, hc, hw⟩
    rw [rngL_len, show h.par.length - 1 + 1 = h.par.length by omega, htk_all ok] at hc
    exact ws_ret ((ev_var 1).we (hp _ _ _ _ _ _ _ nq hc hw))
end
end FS
/-! text E35 -/
/-! E35: a history is written to. -/
namespace FS
open PySem PySem.Spec PyProof.Rows L2
theorem withB_len {b w : Bk} : (withB b w).length ≤ b.length + w.length := by
  unfold withB
  have h1 := len_putAll (w := w) (b := b)
  have h2 : (cleanB (putAllI b w)).length ≤ (putAllI b w).length := List.length_filter_le _ _
  omega
theorem BkE.len {n : Nat} {b : Bk} (h : BkE n b) : b.length ≤ 2 * n := by
  have h1 := nodup_len (ks := keysB b) (ns := (List.range (2 * n)).map fun i : Nat => 2 + (i : Int)) h.nd fun k hk => by
    obtain ⟨p, hp, rfl⟩ := List.mem_map.mp hk
    have := h.ks p hp
    exact List.mem_map.mpr ⟨(p.1 - 2).toNat, List.mem_range.mpr (by omega), by omega⟩
  rw [List.length_map, List.length_range] at h1
  unfold keysB at h1; rw [List.length_map] at h1; exact h1
section
variable {B : Bg} {C CR CA CN CU : Addr} {n : Nat}
abbrev mHwr : Stmt := inClass (top 100) 12
theorem scMHwr : FnScope ["self", "parent", "writes", "book", "broken"] ["self", "parent", "writes"] (defScope mHwr) := ⟨rfl, rfl, rfl, by decide +kernel, rfl, by decide +kernel, by decide +kernel⟩
def rMHwr (C CR CA CN CU : Addr) (n : Nat) : ASpX := fun ds L post xp => ∃ q c1 c2 c3 c4 c5 rb h p w, ds = [.ptr q, natD p, .dct (encB w)] ∧ HCl C L q c1 c2 c3 c4 c5 rb h ∧ HOk h ∧ RbD CR CA CN n rb ∧ n ≤ 10 ∧ p < h.par.length ∧ w ≠ [] ∧ w.length ≤ 60 ∧ BkE n (wrB h.bk p) ∧ NN (withB (wrB h.bk p) w) ∧
  (∀ r, brokenL (withB (wrB h.bk p) w) n = some r → xp CU [("bar", barD r), ("key", .str r.1)] L) ∧
  (brokenL (withB (wrB h.bk p) w) n = none → post (natD h.par.length) (hput L c1 c2 c3 c4 c5 (hadd h "write" [p] w (withB (wrB h.bk p) w))))
theorem ok_mhwr {f : Addr} {fd : FuncData} (F : Fun B.K "write" "History.write" mHwr f fd) (kl : Kla B C hFlds) (mk : Mcl B 2 C "check" (rMHk C)) (mr : Mcl B 5 CR "reason" (rMRr CR CA CN)) (ma : Mcl B 1 C "_add" (rMHa C)) (cWw : Cl B 2 "with_writes" rWw) (xU : XcU B 1 "Unlawful" CU (FX.spU CU "key" "bar")) :
    FnOk B.P B.w B.K B.mg B.base (L2.CX B.P B.w) 7 f fd ["self", "parent", "writes"] (lowX (rMHwr C CR CA CN CU n)) := by
  refine ok_defX F scMHwr (fun ds L post xp ⟨_, _, _, _, _, _, _, _, _, _, h, _⟩ => by rw [h]; rfl) fun S hS ds L post xp ⟨q, c1, c2, c3, c4, c5, rb, h, p, w, e, hc, ok, hr, hn, hp, hw, hwl, hbe, nn, hx, hk⟩ => ?_
  subst e
  have ha := hc.at_
  have lx : Lk L (.ptr q) (hIns C rb (.ptr c1) (.ptr c2) (.ptr c3) (.ptr c4) (.ptr c5)) := .inr ⟨q, rfl, hc.hq⟩
  have hbl := hbe.len
  obtain ⟨fs, lr, lr1, _⟩ := hr.lk (L := L)
  refine ws_expr ((ev_meth mk (by decide) lx (ev_var 0) (ea_1 (ev_lst (ea_1 (ev_var 1)))) ⟨_, rb, h, [p], rfl, ha, (fun k hk => by rw [List.mem_singleton.mp hk]; exact hp), rfl, rfl⟩).we ?_)
  refine ws_if (et_eqI (ev_lenD (.inl rfl) (ev_var 2)) ev_int) (fun z => ?_) fun _ => ws_nil ?_
  · have := of_decide_eq_true z
    rw [length_encB] at this
    exact absurd (List.eq_nil_of_length_eq_zero (by omega)) hw
  refine ws_set 3 ((ev_call cWw (by decide) (ea_2 (ev_ix (encW_at (ws := h.bk) (n := p) (by rw [ok.bk]; exact hp)) (.inr ⟨_, rfl, hc.h5⟩) (ev_fld kl lx rfl (ev_var 0)) (ev_var 1)) (ev_var 2)) ⟨wrB h.bk p, w, _, _, rfl, .inl rfl, .inl rfl, hbe.nd, by omega, by omega, rfl, rfl⟩).we ?_)
  refine ws_set 4 ((ev_meth mr (by decide) lr (ev_fld kl lx rfl (ev_var 0)) (ea_1 (ev_var 3)) (rsn_call hr (.inl rfl) (.inl rfl) nn hn ⟨rfl, rfl⟩) lr1).we ?_)
  cases e : brokenL (withB (wrB h.bk p) w) n with
  | some r =>
    refine ws_if (et_notN (ev_var 4)) (fun _ => ?_) fun z => absurd z (by simp [isNon_encBrO])
    exact ws_cons (wo_raiseU xU (by decide) ((ea_2 (ev_ixT (atI_nat (j := 0) rfl) (ev_var 4 (d := encBr r)) ev_int) (ev_ixT (atI_nat (j := 1) rfl) (ev_var 4 (d := encBr r)) ev_int)).wa ⟨_, _, rfl, hx r e⟩))
  | none =>
    refine ws_if (et_notN (ev_var 4)) (fun z => absurd z (by simp [isNon_encBrO])) fun _ => ws_nil ?_
    exact ws_ret (we_meth ma (by decide) (Ev.we (ev_var 0) ⟨⟨_, lx, rfl⟩, (ea_cons ev_str (ea_cons (ev_lst (ds := encN [p]) (ea_1 (ev_var 1))) (ea_2 (ev_var 2) (ev_var 3)))).wa ⟨q, c1, c2, c3, c4, c5, rb, h, "write", [p], w, _, rfl, hc, ok, hk e⟩⟩))
end
end FS
/-! text E36 -/
/-! E36: a history is merged. -/
namespace FS
open PySem PySem.Spec PyProof.Rows L2
/-- the first open place without an answer -/
def opn (O : List (Int × List Int)) (mk : Bk) : Option (Int × List Int) := O.findSome? fun p => if (valG mk p.1).isNone then some p else none
theorem valG_in {κ β} [DecidableEq κ] {kvs : List (κ × β)} {k : κ} {d : β} (nd : (kvs.map (·.1)).Nodup) (h : (k, d) ∈ kvs) : valG kvs k = some d := by
  induction kvs with
  | nil => cases h
  | cons q r ih =>
    rw [List.map_cons, List.nodup_cons] at nd
    rw [valG_cons]
    rcases List.mem_cons.mp h with rfl | h
    · rw [if_pos rfl]
    · rw [if_neg (fun e : q.1 = k => nd.1 (e ▸ List.mem_map_of_mem (f := Prod.fst) h))]
      exact ih nd.2 h
theorem shownO_keys {ls : List (List Nat)} {ws : List Bk} {ns : List Nat} : (shownO ls ws ns).map (·.1) = (shownPs ls ws ns).filter fun p => decide (1 < (foundL ls ws ns p).length) := by
  unfold shownO
  induction shownPs ls ws ns with
  | nil => rfl
  | cons p ps ih =>
    rw [List.filterMap_cons, List.filter_cons]
    unfold shownO1
    by_cases h : 1 < (foundL ls ws ns p).length
    · rw [if_pos h, if_pos (decide_eq_true h)]
      simp only [List.map_cons]
      rw [← ih]; rfl
    · rw [if_neg h, if_neg (by simpa using h)]; exact ih
theorem shownO_srt {ls : List (List Nat)} {ws : List Bk} {ns : List Nat} : ((shownO ls ws ns).map (·.1)).Pairwise (· < ·) := by
  rw [shownO_keys]; exact (asc_sorted).sublist List.filter_sublist
theorem shownB_keys {ls : List (List Nat)} {ws : List Bk} {ns : List Nat} : ((shownB ls ws ns).map (·.1)).Sublist (shownPs ls ws ns) := by
  unfold shownB
  induction shownPs ls ws ns with
  | nil => exact .slnil
  | cons p ps ih =>
    rw [List.filterMap_cons]
    cases e : shownB1 ls ws ns p with
    | none => exact ih.cons _
    | some q =>
      have : q.1 = p := by
        unfold shownB1 at e
        split at e
        · cases e
        · split at e
          · cases e; rfl
          · cases e
      simp only [List.map_cons]
      rw [this]; exact ih.cons₂ _
theorem Few.sub {ns ms : List Int} (h : Few ns) (hl : ms.length ≤ ns.length) (hs : ∀ k ∈ ms, k ∈ ns) : Few ms := ⟨Nat.le_trans hl h.1, fun ks nd hk => h.2 ks nd fun k hk' => hs k (hk k hk')⟩
theorem keysD_encO {O : List (Int × List Int)} : keysD (encO O) = (O.map (·.1)).map D.int := by unfold keysD encO; rw [List.map_map, List.map_map]; rfl
theorem encO_nd {O : List (Int × List Int)} (h : (O.map (·.1)).Nodup) : ((encO O).map (·.1)).Nodup := by
  unfold encO
  rw [List.map_map]
  rw [List.nodup_iff_pairwise_ne, List.pairwise_map] at *
  exact h.imp fun h z => h (Sum.inl.inj z)
section
variable {B : Bg} {C CR CA CN CP CQ : Addr} {n : Nat}
abbrev mHm : Stmt := inClass (top 100) 13
theorem scMHm : FnScope ["self", "parents", "answers", "marks", "book", "open_values", "place", "broken"] ["self", "parents", "answers"] (defScope mHm) := ⟨rfl, rfl, rfl, by decide +kernel, rfl, by decide +kernel, by decide +kernel⟩
structure MgOk (h : Ht) (ps : List Nat) : Prop where
  g : Gr h.par h.wr
  p0 : 0 < h.par.length
  lt : ∀ k ∈ ps, k < h.par.length
  f1 : Few (wrotL h.par h.wr ps)
  f2 : Few (keysB (wrB h.wr 0) ++ asc (wrotL h.par h.wr ps))
  ne : ∀ p ∈ shownPs h.par h.wr ps, foundL h.par h.wr ps p ≠ []
def rMHm (C CR CA CN CP CQ : Addr) (n : Nat) : ASpX := fun ds L post xp => ∃ q c1 c2 c3 c4 c5 rb h ps mk, ds = [.ptr q, .lst (encN ps), .dct (encB mk)] ∧ HCl C L q c1 c2 c3 c4 c5 rb h ∧ HOk h ∧ RbD CR CA CN n rb ∧ n ≤ 10 ∧ MgOk h ps ∧ mk.length ≤ 60 ∧ NN (withB (shownB h.par h.wr ps) mk) ∧
  (∀ p f, opn (shownO h.par h.wr ps) mk = some (p, f) → xp CP [("found", .lst (f.map D.int)), ("place", .int p)] L) ∧
  (opn (shownO h.par h.wr ps) mk = none → ∀ r, brokenL (withB (shownB h.par h.wr ps) mk) n = some r → xp CQ [("bar", barD r), ("key", .str r.1)] L) ∧
  (opn (shownO h.par h.wr ps) mk = none → brokenL (withB (shownB h.par h.wr ps) mk) n = none → post (natD h.par.length) (hput L c1 c2 c3 c4 c5 (hadd h "merge" ps mk (withB (shownB h.par h.wr ps) mk))))
theorem ok_mhm {kws : List (Str × V)} {f : Addr} {fd : FuncData} (F : FunD B.K "merge" "History.merge" (defArgs mHm) (defBody mHm) (defScope mHm) [] kws f fd) (kl : Kla B C hFlds) (mck : Mcl B 2 C "check" (rMHk C)) (mr : Mcl B 5 CR "reason" (rMRr CR CA CN)) (ma : Mcl B 1 C "_add" (rMHa C)) (cSh : Cl B 4 "shown" rSh) (cAs : Cl B 1 "ascending" rAs) (cWw : Cl B 2 "with_writes" rWw)
    (xP : XcU B 1 "PlaceClash" CP (FX.spP CP "place" "found")) (xR : XcU B 1 "RuleClash" CQ (FX.spU CQ "key" "bar")) :
    FnOk B.P B.w B.K B.mg B.base (L2.CX B.P B.w) 7 f fd ["self", "parents", "answers"] (lowX (rMHm C CR CA CN CP CQ n)) := by
  refine ok_defXD F scMHm (fun ds L post xp ⟨_, _, _, _, _, _, _, _, _, _, h, _⟩ => by rw [h]; rfl) fun S hS ds L post xp ⟨q, c1, c2, c3, c4, c5, rb, h, ps, mk, e, hc, ok, hr, hn, hm, hml, nn, hxp, hxr, hk⟩ => ?_
  subst e
  have ha := hc.at_
  have lx : Lk L (.ptr q) (hIns C rb (.ptr c1) (.ptr c2) (.ptr c3) (.ptr c4) (.ptr c5)) := .inr ⟨q, rfl, hc.hq⟩
  obtain ⟨g, p0, hps, f1, f2, hne⟩ := hm
  have hOs := shownO_srt (ls := h.par) (ws := h.wr) (ns := ps)
  have hOnd : ((shownO h.par h.wr ps).map (·.1)).Nodup := hOs.imp fun h => by omega
  have hfO : Few ((shownO h.par h.wr ps).map (·.1)) := by
    refine f2.sub ?_ fun k hk => ?_
    · rw [shownO_keys]; exact Nat.le_trans (List.length_filter_le _ _) asc_len
    · rw [shownO_keys] at hk; exact asc_mem.mp (List.mem_filter.mp hk).1
  have hBnd : ((shownB h.par h.wr ps).map (·.1)).Nodup := (asc_nd (ns := keysB (wrB h.wr 0) ++ asc (wrotL h.par h.wr ps))).sublist shownB_keys
  have hBl : (shownB h.par h.wr ps).length < 64 := by
    have := f2.2 _ hBnd fun k hk => asc_mem.mp (shownB_keys.subset hk)
    rwa [List.length_map] at this
  obtain ⟨fs, lr, lr1, _⟩ := hr.lk (L := L)
  refine ws_expr ((ev_meth mck (by decide) lx (ev_var 0) (ea_1 (ev_var 1)) ⟨_, rb, h, ps, rfl, ha, hps, rfl, rfl⟩).we ?_)
  refine ws_set 3 (we_if (et_isN (ev_var 2)) (fun z => by cases z) fun _ => (ev_var 2).we ?_)
  refine ws_asg ((ev_call cSh (by decide) (ea_cons (ev_fld kl lx rfl (ev_var 0)) (ea_2 (ev_fld kl lx rfl (ev_var 0)) (ev_var 1))) ⟨h.par, h.wr, ps, _, _, rfl, .inr ⟨_, rfl, hc.h3⟩, .inr ⟨_, rfl, hc.h4⟩, g, p0, hps, f1, f2, hne, rfl, rfl⟩).we ⟨_, _, wg_pair 4 5, ?_⟩)
  generalize shownO h.par h.wr ps = O at *
  generalize shownB h.par h.wr ps = bb at *
  have eA : asc (O.map (·.1)) = O.map (·.1) := (asc_eq hOs fun _ => Iff.rfl).symm
  refine ws_for ((ei_list (ds := (O.map (·.1)).map D.int) (by
      rw [← eA]
      exact ev_call cAs (by decide) (ea_1 (ev_listD (.inl rfl) (ev_var 5))) ⟨_, O.map (·.1), rfl, .inl (.inl (by rw [keysD_encO])), hfO, rfl, rfl⟩)).wi
    (forW_inv (fun i G' L' => ∃ a b, G' = [some (.ptr q), some (.lst (encN ps)), some (.dct (encB mk)), some (.dct (encB mk)), some (.dct (encB bb)), some (.dct (encO O)), a, b] ∧ L' = L ∧ opn (O.take i) mk = none) ⟨_, _, rfl, rfl, rfl⟩ ?_ ?_))
  · rintro i d G' L' hd ⟨a, b, rfl, rfl, ht⟩
    rw [List.map_map] at hd
    obtain ⟨⟨p, f⟩, hO, rfl⟩ := map_get hd
    refine ⟨_, _, wg_name 6, ?_⟩
    refine ws_if (et_dninB (.inl rfl) (ev_var 6) (ev_var 3)) (fun z => ?_) fun z => ws_nil (ws_nil ⟨_, _, rfl, rfl, ?_⟩)
    · have hh : opn O mk = some (p, f) := find_hit hO ht (if_pos (by rw [isNone_mem]; exact z))
      exact ws_cons (wo_raiseP xP (by decide) ((ea_2 (ev_var 6) (ev_dgetI (kvs := encO O) (d := .lst (f.map D.int)) (valG_in (encO_nd hOnd) (List.mem_map.mpr ⟨(p, f), List.mem_of_getElem? hO, rfl⟩)) (.inl rfl) (ev_var 5) (ev_var 6))).wa ⟨_, _, rfl, hxp p f hh⟩))
    · exact find_next hO ht (if_neg (by rw [isNone_mem, z]; exact Bool.false_ne_true))
  · rintro G' L' ⟨a, b, rfl, rfl, ht⟩
    rw [List.length_map, List.length_map, List.take_length] at ht
    refine ws_set 4 ((ev_call cWw (by decide) (ea_2 (ev_var 4) (ev_var 3)) ⟨bb, mk, _, _, rfl, .inl rfl, .inl rfl, hBnd, by omega, by omega, rfl, rfl⟩).we ?_)
    refine ws_set 7 ((ev_meth mr (by decide) lr (ev_fld kl lx rfl (ev_var 0)) (ea_1 (ev_var 4)) (rsn_call hr (.inl rfl) (.inl rfl) nn hn ⟨rfl, rfl⟩) lr1).we ?_)
    cases e : brokenL (withB bb mk) n with
    | some r =>
      refine ws_if (et_notN (ev_var 7)) (fun _ => ?_) fun z => absurd z (by simp [isNon_encBrO])
      exact ws_cons (wo_raiseU xR (by decide) ((ea_2 (ev_ixT (atI_nat (j := 0) rfl) (ev_var 7 (d := encBr r)) ev_int) (ev_ixT (atI_nat (j := 1) rfl) (ev_var 7 (d := encBr r)) ev_int)).wa ⟨_, _, rfl, hxr ht r e⟩))
    | none =>
      refine ws_if (et_notN (ev_var 7)) (fun z => absurd z (by simp [isNon_encBrO])) fun _ => ws_nil ?_
      exact ws_ret (we_meth ma (by decide) (Ev.we (ev_var 0) ⟨⟨_, lx, rfl⟩, (ea_cons ev_str (ea_cons (ev_var 1) (ea_2 (ev_var 3) (ev_var 4)))).wa ⟨q, c1, c2, c3, c4, c5, rb, h, "merge", ps, mk, _, rfl, hc, ok, hk ht e⟩⟩))
end
end FS
/-! text E37 -/
/-! E37: the desk's state after a fork, after a write. -/
namespace FS
open PySem PySem.Spec PyProof.Rows L2
theorem valG_out {κ β} [DecidableEq κ] {kvs : List (κ × β)} {k : κ} (h : k ∉ kvs.map (·.1)) : valG kvs k = none := by
  induction kvs with
  | nil => rfl
  | cons q r ih =>
    rw [List.map_cons, List.mem_cons] at h
    rw [valG_cons, if_neg fun e => h (.inl e.symm)]
    exact ih fun z => h (.inr z)
section
variable {B : Bg} {C CH CR CA CN CU : Addr} {n : Nat}
abbrev mSh : Stmt := inClass (top 98) 4
theorem scMSh : FnScope ["self"] ["self"] (defScope mSh) := ⟨rfl, rfl, rfl, by decide +kernel, rfl, by decide +kernel, by decide +kernel⟩
def rMSh (C CH CR CA CN : Addr) (n : Nat) : ASp := fun ds L post => ∃ x rb h t k xs, ds = [x] ∧ Lk L x (stD C (hD CH rb h) t k xs) ∧ RbD CR CA CN n rb ∧ n ≤ 10 ∧ HSt n h ∧ post (hD CH rb h) L
theorem ok_msh {f : Addr} {fd : FuncData} (F : Fun B.K "history_copy" "DeskState.history_copy" mSh f fd) (kl : Kla B C sFlds) (mc : Mcl B 8 CH "clone" (rMHcl CH CR CA CN n)) : FnOk B.P B.w B.K B.mg B.base CX0 9 f fd ["self"] (low (rMSh C CH CR CA CN n)) := by
  refine ok_def F scMSh (fun ds L post ⟨_, _, _, _, _, _, h, _⟩ => by rw [h]; rfl) fun S hS ds L post ⟨x, rb, h, t, k, xs, e, lx, hr, hn, hst, hp⟩ => ?_
  subst e
  refine ws_ret (We.sub (p := fun d L' => ∃ q c1 c2 c3 c4 c5, d = .ptr q ∧ L q = none ∧ HCl CH L' q c1 c2 c3 c4 c5 rb h ∧ HNew L L' c1 c2 c3 c4 c5) (we_meth0 mc (by decide) (Ev.we (ev_fld kl lx rfl (ev_var 0)) ⟨⟨_, .inl rfl, rfl⟩, _, rb, h, rfl, hD_at, hr, hn, hst, fun L' q c1 c2 c3 c4 c5 nq hc hw => ⟨q, c1, c2, c3, c4, c5, rfl, nq, hc, hw⟩⟩)) fun d L' ⟨q, c1, c2, c3, c4, c5, e, nq, hc, hw⟩ => ?_)
  subst e
  exact ⟨_, L, hw.sub, hc.fz hw nq, hp⟩
abbrev mSf : Stmt := inClass (top 98) 12
theorem scMSf : FnScope ["self", "name", "source", "tip"] ["self", "name", "source"] (defScope mSf) := ⟨rfl, rfl, rfl, by decide +kernel, rfl, by decide +kernel, by decide +kernel⟩
def rMSf (C : Addr) : ASp := fun ds L post => ∃ x hd t k xs a s, ds = [x, .str a, .str s] ∧ Lk L x (stD C hd t k xs) ∧ s ∈ t.map (·.1) ∧ a ∉ t.map (·.1) ∧ t.length ≤ 20 ∧ post (.tup [natD (tipOf t s), stD C hd (putG t a (tipOf t s)) k xs]) L
theorem ok_msf {f : Addr} {fd : FuncData} (F : Fun B.K "after_fork" "DeskState.after_fork" mSf f fd) (kl : Kla B C sFlds) (mt : Mcl B 1 C "tip_of" (rMSt C)) (mm : Mcl B 3 C "moved" (rMSm C)) : FnOk B.P B.w B.K B.mg B.base CX0 4 f fd ["self", "name", "source"] (low (rMSf C)) := by
  refine ok_def F scMSf (fun ds L post ⟨_, _, _, _, _, _, _, h, _⟩ => by rw [h]; rfl) fun S hS ds L post ⟨x, hd, t, k, xs, a, s, e, lx, hs, ha, htl, hp⟩ => ?_
  subst e
  refine ws_set 3 ((ev_meth mt (by decide) lx (ev_var 0) (ea_1 (ev_var 2)) ⟨x, hd, t, k, xs, s, rfl, lx, hs, rfl, rfl⟩).we ?_)
  refine ws_if (et_din (kvs := encT t) kS (.inl rfl) (ev_var 1) (ev_fld kl lx rfl (ev_var 0))) (fun z => ?_) fun _ => ws_nil ?_
  · rw [valG_encT, valG_out ha] at z; cases z
  refine ws_ret (we_tup (wa_cons (Ev.we (ev_var 3) (wa_cons (we_frz (we_meth mm (by decide) (Ev.we (ev_var 0) ⟨⟨_, lx, rfl⟩, (ea_cons (ev_fld kl lx rfl (ev_var 0)) (ea_2 (ev_var 1) (ev_var 3))).wa ⟨x, hd, t, k, xs, hd, a, tipOf t s, rfl, lx, htl, fun q nq => ⟨q, _, rfl, Sto.set_same, ?_⟩⟩⟩)))))))
  rw [Sto.del_set nq]
  exact wa_nil ⟨(show (2 : Nat) ≤ sizeLine by decide), hp⟩
abbrev mSw : Stmt := inClass (top 98) 14
theorem scMSw : FnScope ["self", "name", "writes", "tip", "history", "node"] ["self", "name", "writes"] (defScope mSw) := ⟨rfl, rfl, rfl, by decide +kernel, rfl, by decide +kernel, by decide +kernel⟩
def rMSw (C CH CR CA CN CU : Addr) (n : Nat) : ASpX := fun ds L post xp => ∃ x rb h t k xs a w, ds = [x, .str a, .dct (encB w)] ∧ Lk L x (stD C (hD CH rb h) t k xs) ∧ RbD CR CA CN n rb ∧ n ≤ 10 ∧ HSt n h ∧ a ∈ t.map (·.1) ∧ t.length ≤ 20 ∧ tipOf t a < h.par.length ∧ w ≠ [] ∧ w.length ≤ 60 ∧ BkE n (wrB h.bk (tipOf t a)) ∧ NN (withB (wrB h.bk (tipOf t a)) w) ∧
  (∀ r, brokenL (withB (wrB h.bk (tipOf t a)) w) n = some r → xp CU [("bar", barD r), ("key", .str r.1)] L) ∧
  (brokenL (withB (wrB h.bk (tipOf t a)) w) n = none → post (.tup [natD h.par.length, stD C (hD CH rb (hadd h "write" [tipOf t a] w (withB (wrB h.bk (tipOf t a)) w))) (putG t a h.par.length) k xs]) L)
theorem ok_msw {f : Addr} {fd : FuncData} (F : Fun B.K "after_write" "DeskState.after_write" mSw f fd) (kl : Kla B C sFlds) (mt : Mcl B 1 C "tip_of" (rMSt C)) (mm : Mcl B 3 C "moved" (rMSm C)) (mc : Mcl B 8 CH "clone" (rMHcl CH CR CA CN n)) (mw : MclX B 7 CH "write" [] (rMHwr CH CR CA CN CU n)) :
    FnOk B.P B.w B.K B.mg B.base (L2.CX B.P B.w) 9 f fd ["self", "name", "writes"] (lowX (rMSw C CH CR CA CN CU n)) := by
  refine ok_defX F scMSw (fun ds L post xp ⟨_, _, _, _, _, _, _, _, h, _⟩ => by rw [h]; rfl) fun S hS ds L post xp ⟨x, rb, h, t, k, xs, a, w, e, lx, hr, hn, hst, ha, htl, hlt, hw0, hwl, hbe, nn, hx, hp⟩ => ?_
  subst e
  refine ws_xsub (xp := fun C fs L' => Sub L L' ∧ xp C fs L) ?_ fun C fs L' ⟨s, z⟩ => ⟨L, s, z⟩
  refine ws_set 3 ((ev_meth mt (by decide) lx (ev_var 0) (ea_1 (ev_var 1)) ⟨x, _, t, k, xs, a, rfl, lx, ha, rfl, rfl⟩).we ?_)
  refine ws_set 4 (we_meth0 mc (by decide) (Ev.we (ev_fld kl lx rfl (ev_var 0)) ⟨⟨_, .inl rfl, rfl⟩, _, rb, h, rfl, hD_at, hr, hn, hst, fun L' q c1 c2 c3 c4 c5 nq hc hw => ?_⟩))
  refine ws_setX 5 (wex_meth mw (by decide) (Ev.we (ev_var 4) ⟨⟨_, .inr ⟨q, rfl, hc.hq⟩, rfl⟩, (ea_2 (ev_var 3) (ev_var 2)).wa ⟨q, c1, c2, c3, c4, c5, rb, h, tipOf t a, w, rfl, hc, hst.ok, hr, hn, hlt, hw0, hwl, hbe, nn, fun r e => ⟨hw.sub, hx r e⟩, fun e => ?_⟩⟩))
  have hw' := HNew.put (h := hadd h "write" [tipOf t a] w (withB (wrB h.bk (tipOf t a)) w)) hw
  refine ws_fz 4 hw'.sub ((HCl.put hc).fz hw' nq) ?_
  refine ws_ret (we_tup (wa_cons (Ev.we (ev_var 5) (wa_cons (we_frz (we_meth mm (by decide) (Ev.we (ev_var 0) ⟨⟨_, lx, rfl⟩, (ea_cons (ev_var 4) (ea_2 (ev_var 1) (ev_var 5))).wa ⟨x, _, t, k, xs, _, a, h.par.length, rfl, lx, htl, fun q nq => ⟨q, _, rfl, Sto.set_same, ?_⟩⟩⟩)))))))
  rw [Sto.del_set nq]
  exact wa_nil ⟨(show (2 : Nat) ≤ sizeLine by decide), hp e⟩
end
end FS
/-! text W31 -/
/-! W31: the truth of a dict; a number in a list of numbers, as a value. -/
namespace FX
open PySem PySem.Spec PyProof.Rows L2
theorem tru_D {X : Cx} : TruR X (fun x H Q => ∃ a kvs, x = .ref a ∧ Rd H a (.dK kvs) ∧ Q (!kvs.isEmpty) H) := by
  intro pins s σ H x v Q I rx h
  obtain ⟨a, kvs, rfl, hd, q⟩ := h
  cases rx
  have hl := line63
  obtain ⟨z, lo, vs, r, m⟩ := dk_rd I.hok hd
  have hlen : kvs.length = vs.length := Paired.length r
  exact wpAny_truthy_dict lo m (by omega) ⟨H, I.tok _, by rw [isEmpty_kv r]; exact q⟩
theorem pt_truthD {X : Cx} {a : Expr} {ta : TE} (ha : PE X a ta) (he : ∀ whole, isTrue a X.env whole = (do let v ← whole; standAt a.pos; holding [v] (truthy v))) :
    PT X a (fun σ H Q => ta σ H fun x H' => ∃ a kvs, x = .ref a ∧ Rd H' a (.dK kvs) ∧ Q (!kvs.isEmpty) H') := by
  refine ⟨fun pins s σ H Q I h => ?_⟩
  exact isTrue_plain (thn (ha.run pins s σ H _ I h) fun v s1 ⟨x, H1, I1, r1, q1⟩ => tru_D pins s1 σ H1 x v Q I1 r1 q1) (he _)
end FX
namespace FS
open PySem PySem.Spec PyProof.Rows L2
section
variable {B : Bg} {N : List Str} {sc : Scope} {k : Nat}
variable {S : Sit B N sc k} {G : Gam} {L : Sto} {e a b : Expr} {pos p : Pos}
theorem et_truD {d : D} {ds : List (Key × D)} (hk : Lk L d (.dct ds)) (h : Ev S G L e d) (he : ∀ env whole, isTrue e env whole = (do let v ← whole; standAt e.pos; holding [v] (truthy v)) := by intro _ _; rfl) : Et S G L e (!ds.isEmpty) := fun σ H A Q c =>
  ⟨fun σ H Q => ME S e σ H fun x H' => ∃ a kvs, x = .ref a ∧ Rd H' a (.dK kvs) ∧ Q (!kvs.isEmpty) H', fun X hX => FX.pt_truthD (me hX) (he _), h.run A fun v H' kp A' r => by
    obtain ⟨p, vs, rfl, hp, rs⟩ := hk.dct A'.sto r
    exact ⟨p, vs, rfl, hp, c _ _ _ ⟨by rw [isEmpty_repK rs], rfl⟩ kp A'.sto⟩⟩
theorem ev_inN {d : D} {ns : List Nat} {n : Nat} (l : Lk L d (.lst (encN ns))) (ha : Ev S G L a (natD n)) (hb : Ev S G L b d) (hm : behindInMarks .In b = false := by with_unfolding_all rfl) : Ev S G L (.Compare a [.In] [b] pos) (.bl (decide (n ∈ ns))) := by
  rw [← mem_encN]; rw [encN_ints] at l; exact ev_inI l ha hb hm
end
end FS
/-! text E38 -/
/-! E38: the desk's state after a merge. -/
namespace FS
open PySem PySem.Spec PyProof.Rows L2
/-- the first tip that knows all tips -/
def earlyPF (ls : List (List Nat)) (ns : List Nat) (k : Nat) : Option Nat := if (ns.map fun n => decide (n ∈ pastL ls [k])).all id = true then some k else none
def earlyP (ls : List (List Nat)) (ns : List Nat) : Option Nat := ns.findSome? (earlyPF ls ns)
section
variable {B : Bg} {C CH CR CA CN CP CQ : Addr} {n : Nat}
abbrev mSmg : Stmt := inClass (top 98) 15
abbrev rMg : List Stmt := (defBody mSmg).drop 2
theorem scMSmg : FnScope ["self", "name", "others", "marks", "tips", "tip", "known", "node", "history", "other"] ["self", "name", "others", "marks"] (defScope mSmg) := ⟨rfl, rfl, rfl, by decide +kernel, rfl, by decide +kernel, by decide +kernel⟩
def rMSmg (C CH CR CA CN CP CQ : Addr) (n : Nat) : ASpX := fun ds L post xp => ∃ x rb h t k xs a os mk, ds = [x, .str a, .lst (encS os), .dct (encB mk)] ∧ Lk L x (stD C (hD CH rb h) t k xs) ∧ RbD CR CA CN n rb ∧ n ≤ 10 ∧ HSt n h ∧ a ∈ t.map (·.1) ∧ (∀ o ∈ os, o ∈ t.map (·.1)) ∧ os.length ≤ 10 ∧ t.length ≤ 20 ∧ MgOk h (nodesL t a os) ∧ mk.length ≤ 60 ∧ NN (withB (shownB h.par h.wr (nodesL t a os)) mk) ∧
  (∀ j, mk.length = 0 → earlyP h.par (nodesL t a os) = some j → post (.tup [natD j, if j = tipOf t a then .non else stD C (hD CH rb h) (putG t a j) k xs]) L) ∧
  ((mk.length = 0 → earlyP h.par (nodesL t a os) = none) → (∀ p f, opn (shownO h.par h.wr (nodesL t a os)) mk = some (p, f) → xp CP [("found", .lst (f.map D.int)), ("place", .int p)] L) ∧
    (opn (shownO h.par h.wr (nodesL t a os)) mk = none → ∀ r, brokenL (withB (shownB h.par h.wr (nodesL t a os)) mk) n = some r → xp CQ [("bar", barD r), ("key", .str r.1)] L) ∧
    (opn (shownO h.par h.wr (nodesL t a os)) mk = none → brokenL (withB (shownB h.par h.wr (nodesL t a os)) mk) n = none → post (.tup [natD h.par.length, stD C (hD CH rb (hadd h "merge" (nodesL t a os) mk (withB (shownB h.par h.wr (nodesL t a os)) mk))) (putG t a h.par.length) k xs]) L))
theorem ok_msmg {f : Addr} {fd : FuncData} (F : Fun B.K "after_merge" "DeskState.after_merge" mSmg f fd) (kl : Kla B C sFlds) (mt : Mcl B 1 C "tip_of" (rMSt C)) (mm : Mcl B 3 C "moved" (rMSm C)) (mc : Mcl B 8 CH "clone" (rMHcl CH CR CA CN n)) (mg : MclK B 7 CH "merge" 2 ["answers"] (rMHm CH CR CA CN CP CQ n)) (cPt : Cl B 3 "past" (rPt CH)) :
    FnOk B.P B.w B.K B.mg B.base (L2.CX B.P B.w) 9 f fd ["self", "name", "others", "marks"] (lowX (rMSmg C CH CR CA CN CP CQ n)) := by
  refine ok_defX F scMSmg (fun ds L post xp ⟨_, _, _, _, _, _, _, _, _, h, _⟩ => by rw [h]; rfl) fun S hS ds L post xp ⟨x, rb, h, t, k, xs, a, os, mk, e, lx, hr, hn, hst, ha, hos, hol, htl, mo, hml, nn, he, hx⟩ => ?_
  subst e
  have hline : 1000 ≤ sizeLine := by decide
  refine ws_xsub (xp := fun C fs L' => Sub L L' ∧ xp C fs L) ?_ fun C fs L' ⟨s, z⟩ => ⟨L, s, z⟩
  have eN : encN (nodesL t a os) = [natD (tipOf t a)] ++ (os.map D.str).filterMap (onS fun o => some (natD (tipOf t o))) := by
    rw [onS_map, List.filterMap_eq_map']; unfold nodesL encN; rw [List.map_map]; rfl
  refine ws_set 4 (Ev.we (d := .lst (encN (nodesL t a os))) (by
    rw [eN]
    refine ev_cat (.inl rfl) (.inl rfl) ?_ (ev_lst (ea_1 (ev_meth mt (by decide) lx (ev_var 0) (ea_1 (ev_var 1)) ⟨x, _, t, k, xs, a, rfl, lx, ha, rfl, rfl⟩))) (ev_lc [("other", 9)] (onS fun o => some (natD (tipOf t o))) (ei_list (ds := os.map D.str) (ev_var 2)) (by rw [List.length_map]; omega) rfl fun d hd => ?_)
    · show 1 + _ ≤ _; rw [onS_map, List.filterMap_eq_map', List.length_map]; omega
    · obtain ⟨o, ho, rfl⟩ := List.mem_map.mp hd
      exact ⟨_, _, wg_name 9, by decide, wts_n rfl fun z => ev_meth mt (by decide) lx (ev_var 0) (ea_1 (ev_var 9)) ⟨x, _, t, k, xs, o, rfl, lx, hos o ho, rfl, rfl⟩⟩) ?_)
  have hnl : (nodesL t a os).length ≤ 11 := by unfold nodesL; rw [List.length_map, List.length_cons]; omega
  have hn0 : atI (encN (nodesL t a os)) (0 : Int) = some (natD (tipOf t a)) := atI_nat (j := 0) rfl
  generalize nodesL t a os = ns at *
  have htip : ∀ {L'} (s : Sub L L'), Lk L' x (stD C (hD CH rb h) t k xs) := fun s => lx.sub s
  have rest : ∀ t1 t2 t3, (mk.length = 0 → earlyP h.par ns = none) → Ws S [some x, some (.str a), some (.lst (encS os)), some (.dct (encB mk)), some (.lst (encN ns)), t1, t2, t3, none, none] L rMg { nx := fun _ L' => post .non L', rt := post, xc := fun C fs L' => Sub L L' ∧ xp C fs L } := fun t1 t2 t3 hea => by
    obtain ⟨hx1, hx2, hp⟩ := hx hea
    refine ws_set 8 (we_meth0 mc (by decide) (Ev.we (ev_fld kl lx rfl (ev_var 0)) ⟨⟨_, .inl rfl, rfl⟩, _, rb, h, rfl, hD_at, hr, hn, hst, fun L' q c1 c2 c3 c4 c5 nq hc hw => ?_⟩))
    refine ws_setX 7 (wex_methK mg (by decide) (Ev.we (ev_var 8) ⟨⟨_, .inr ⟨q, rfl, hc.hq⟩, rfl⟩, (ea_1 (ev_var 4)).wa ⟨rfl, (ev_var 3).we ⟨q, c1, c2, c3, c4, c5, rb, h, ns, mk, rfl, hc, hst.ok, hr, hn, mo, hml, nn, fun p f e => ⟨hw.sub, hx1 p f e⟩, fun e0 r e => ⟨hw.sub, hx2 e0 r e⟩, fun e0 e => ?_⟩⟩⟩))
    have hw' := HNew.put (h := hadd h "merge" ns mk (withB (shownB h.par h.wr ns) mk)) hw
    refine ws_fz 8 hw'.sub ((HCl.put hc).fz hw' nq) ?_
    refine ws_ret (we_tup (wa_cons (Ev.we (ev_var 7) (wa_cons (we_frz (we_meth mm (by decide) (Ev.we (ev_var 0) ⟨⟨_, lx, rfl⟩, (ea_cons (ev_var 8) (ea_2 (ev_var 1) (ev_var 7))).wa ⟨x, _, t, k, xs, _, a, h.par.length, rfl, lx, htl, fun q nq => ⟨q, _, rfl, Sto.set_same, ?_⟩⟩⟩)))))))
    rw [Sto.del_set nq]
    exact wa_nil ⟨(show (2 : Nat) ≤ sizeLine by decide), hp e0 e⟩
  refine ws_if (et_not (et_truD (.inl rfl) (ev_var 3))) (fun hz => ?_) fun hz => ws_nil (rest _ _ _ fun z => ?_)
  · have hz : mk.length = 0 := by
      cases mk with
      | nil => rfl
      | cons _ _ => cases hz
    refine ws_for ((ei_list (ds := encN ns) (ev_var 4)).wi (forW_inv (fun i G' L' => ∃ t1 t2 t3, G' = [some x, some (.str a), some (.lst (encS os)), some (.dct (encB mk)), some (.lst (encN ns)), t1, t2, t3, none, none] ∧ L' = L ∧ (ns.take i).findSome? (earlyPF h.par ns) = none) ⟨_, _, _, rfl, rfl, rfl⟩ ?_ ?_))
    · rintro i d G' L' hd ⟨t1, t2, t3, rfl, rfl, ht⟩
      obtain ⟨j, hj, rfl⟩ := encN_get hd
      have hjl := mo.lt j (List.mem_of_getElem? hj)
      refine ⟨_, _, wg_name 5, ?_⟩
      refine ws_setC hS 6 ((ev_call cPt (by decide) (ea_2 (ev_fld kl lx rfl (ev_var 0)) (ev_lst (ds := encN [j]) (ea_1 (ev_var 5)))) ⟨_, rb, h, [j], rfl, hD_at, mo.g, (fun i hi => by rw [List.mem_singleton.mp hi]; exact hjl), rfl, rfl⟩).we ?_)
      have eb : (encN ns).filterMap (onN fun m => some (.bl (decide (m ∈ pastL h.par [j])))) = (ns.map fun m => decide (m ∈ pastL h.par [j])).map D.bl := by
        rw [onN_map, List.filterMap_eq_map', List.map_map]; rfl
      refine ws_if (et_val (ev_all (.inl rfl) (ev_lc (ds := encN ns) [("node", 7)] (onN fun m => some (.bl (decide (m ∈ pastL h.par [j])))) (ei_list (ev_var 4)) (by rw [encN_len]; omega) eb fun d hd => ?_))) (fun hT => ?_) fun hF => ws_nil (ws_nil ⟨_, _, _, rfl, rfl, find_next hj ht (if_neg (by rw [hF]; exact Bool.false_ne_true))⟩)
      · obtain ⟨m, hm, rfl⟩ := List.mem_map.mp hd
        exact ⟨_, _, wg_name 7, by decide, wts_n rfl fun z => ev_inN (.inl rfl) (ev_var 7) (ev_var 6)⟩
      · have hP := he j hz (find_hit hj ht (if_pos hT))
        refine ws_ret (we_tup (wa_cons (Ev.we (ev_var 5) (wa_cons (we_if (et_eqN (ev_var 5) (ev_ix hn0 (.inl rfl) (ev_var 4) ev_int)) (fun z => ev_non.we ?_) fun z => we_frz (we_meth mm (by decide) (Ev.we (ev_var 0) ⟨⟨_, lx, rfl⟩, (ea_cons (ev_fld kl lx rfl (ev_var 0)) (ea_2 (ev_var 1) (ev_var 5))).wa ⟨x, _, t, k, xs, _, a, j, rfl, lx, htl, fun q nq => ⟨q, _, rfl, Sto.set_same, ?_⟩⟩⟩)))))))
        · rw [if_pos (of_decide_eq_true z)] at hP
          exact wa_nil ⟨(show (2 : Nat) ≤ sizeLine by decide), hP⟩
        · rw [if_neg (of_decide_eq_false z)] at hP
          rw [Sto.del_set nq]
          exact wa_nil ⟨(show (2 : Nat) ≤ sizeLine by decide), hP⟩
    · rintro G' L' ⟨t1, t2, t3, rfl, rfl, ht⟩
      rw [encN_len, List.take_length] at ht
      exact ws_nil (rest _ _ _ fun _ => ht)
  · cases mk with
    | nil => cases hz
    | cons _ _ => cases z
end
end FS
/-! text W32 -/
/-! W32: a method, with what it promises in other words. -/
namespace FS
open PySem PySem.Spec PyProof.Rows L2
section
variable {B : Bg} {N : List Str} {sc : Scope} {k : Nat} {S : Sit B N sc k} {G : Gam} {L : Sto} {a b c e o : Expr} {es : List Expr} {pos p apos : Pos} {post : D → Sto → Prop} {xp : XPost}
theorem wex_methG {j : Nat} {C : Addr} {m : Str} {dd : List D} {R : ASpX} {pl : Env → Sem Bool} (M : MclX B j C m dd R) (hj : j ≤ k) (h : We S G L o fun x L1 => (∃ fs, Lk L1 x (.ins C fs) ∧ fs.lookup m = none) ∧ Wa S G L1 (e :: es) fun ds L2 => ∃ p' x', R (x :: (ds ++ dd)) L2 p' x' ∧ (∀ d L', p' d L' → post d L') ∧ ∀ C fs L', x' C fs L' → xp C fs L')
    (hst : ∀ env, starEach (e :: es) env = (false, eval e env) :: starEach es env := by intro _; rfl) (hpl : ∀ env, (backTo pos (starEach es env)).any (·.1) = false := by intro _; rfl)
    (ht : ∀ env, eval (.Call (.Attribute o m apos) (e :: es) [] pos) env = (do
      let ov ← eval o env
      standAt apos.atName
      let (f, first) ← holding [ov] (getMethod ov m (pl env))
      callWith pos f first (backTo pos (starEach (e :: es) env)) (backToKw pos (keywordEach [] env))) := by intro _; rfl) : WeX S G L (.Call (.Attribute o m apos) (e :: es) [] pos) post xp := fun σ H A Q c cx => by
  obtain ⟨f, fd, ps, dvs, dus, F, hm, hb, hd, rd⟩ := M.ex
  refine ⟨tMeth C m (lowX R) dvs S.W (ME S o) (MA S (e :: es)), fun X hX => ?_, h σ H A _ fun x L1 v H1 ⟨⟨fs, l, hl⟩, w⟩ k1 s1 r1 => ?_⟩
  · have h1 := me hX (e := o); have h2 := ma hX (e := e :: es); have h3 := S.passX hX
    obtain ⟨y, rfl, hr⟩ := S.fam X hX
    exact pe_meth h1 M.cl hm F (Room.mono (show Room k y.A from hr) hj) hb hd h3 h2 (hst _) (hpl _) (ht _)
  · obtain ⟨q, dx, us, rfl, hq, ru⟩ := l.ins s1 r1
    refine ⟨q, dx, us, rfl, hq, ru.val.2 hl, w σ H1 (A.mono k1 s1) _ fun ds L2 vs H2 ⟨p', x', w2, i1, i2⟩ k2 s2 r2 => ⟨x :: (ds ++ dd), L2, p', x', s2, .cons (r1.mono k2.kp) (r2.append (rd _ _)), w2, fun d L' v H' z => (c.trans k1).trans k2 d L' v H' (i1 d L' z), fun C fs L' dd vs H' z => (cx.trans k1).trans k2 C fs L' dd vs H' (i2 C fs L' z)⟩⟩
end
end FS
/-! text E39 -/
/-! E39: the desk's state after a deed; the desk tries deeds. -/
namespace FS
open PySem PySem.Spec PyProof.Rows L2
section
variable {B : Bg} {C CD CH CR CA CN CU CP CQ : Addr} {n : Nat}
abbrev mSa : Stmt := inClass (top 98) 11
theorem scMSa : FnScope ["self", "deed", "word"] ["self", "deed"] (defScope mSa) := ⟨rfl, rfl, rfl, by decide +kernel, rfl, by decide +kernel, by decide +kernel⟩
def rMSa (C CH CR CA CN CU CP CQ : Addr) (n : Nat) : ASpX := fun ds L post xp => ∃ x hd t k xs, Lk L x (stD C hd t k xs) ∧
  ((∃ a s, ds = [x, .tup [.str "fork", .str a, .str s]] ∧ rMSf C [x, .str a, .str s] L post) ∨
   (∃ a w, ds = [x, .tup [.str "write", .str a, .dct (encB w)]] ∧ rMSw C CH CR CA CN CU n [x, .str a, .dct (encB w)] L post xp) ∨
   (∃ a os mk, ds = [x, .tup [.str "merge", .str a, .lst (encS os), .dct (encB mk)]] ∧ rMSmg C CH CR CA CN CP CQ n [x, .str a, .lst (encS os), .dct (encB mk)] L post xp))
theorem ok_msa {f : Addr} {fd : FuncData} (F : Fun B.K "after" "DeskState.after" mSa f fd) (mf : Mcl B 4 C "after_fork" (rMSf C)) (mw : MclX B 9 C "after_write" [] (rMSw C CH CR CA CN CU n)) (mg : MclX B 9 C "after_merge" [] (rMSmg C CH CR CA CN CP CQ n)) :
    FnOk B.P B.w B.K B.mg B.base (L2.CX B.P B.w) 10 f fd ["self", "deed"] (lowX (rMSa C CH CR CA CN CU CP CQ n)) := by
  refine ok_defX F scMSa (fun ds L post xp ⟨_, _, _, _, _, _, h⟩ => by rcases h with ⟨_, _, h, _⟩ | ⟨_, _, h, _⟩ | ⟨_, _, _, h, _⟩ <;> rw [h] <;> rfl) fun S hS ds L post xp ⟨x, hd, t, k, xs, lx, h⟩ => ?_
  rcases h with ⟨a, s, e, h⟩ | ⟨a, w, e, h⟩ | ⟨a, os, mk, e, h⟩
  · subst e
    refine ws_set 2 ((ev_ixT (atI_nat (j := 0) rfl) (ev_var 1) ev_int).we ?_)
    refine ws_if (et_eqS (ev_var 2) ev_str) (fun _ => ?_) fun z => absurd z (by decide)
    exact ws_ret (we_meth mf (by decide) (Ev.we (ev_var 0) ⟨⟨_, lx, rfl⟩, (ea_2 (ev_ixT (atI_nat (j := 1) rfl) (ev_var 1) ev_int) (ev_ixT (atI_nat (j := 2) rfl) (ev_var 1) ev_int)).wa h⟩))
  · subst e
    refine ws_set 2 ((ev_ixT (atI_nat (j := 0) rfl) (ev_var 1) ev_int).we ?_)
    refine ws_if (et_eqS (ev_var 2) ev_str) (fun z => absurd z (by decide)) fun _ => ws_nil ?_
    refine ws_if (et_eqS (ev_var 2) ev_str) (fun z => absurd z (by decide)) fun _ => ws_nil ?_
    refine ws_if (et_eqS (ev_var 2) ev_str) (fun _ => ?_) fun z => absurd z (by decide)
    exact ws_retX (wex_meth mw (by decide) (Ev.we (ev_var 0) ⟨⟨_, lx, rfl⟩, (ea_2 (ev_ixT (atI_nat (j := 1) rfl) (ev_var 1) ev_int) (ev_ixT (atI_nat (j := 2) rfl) (ev_var 1) ev_int)).wa h⟩))
  · subst e
    refine ws_set 2 ((ev_ixT (atI_nat (j := 0) rfl) (ev_var 1) ev_int).we ?_)
    refine ws_if (et_eqS (ev_var 2) ev_str) (fun z => absurd z (by decide)) fun _ => ws_nil ?_
    refine ws_if (et_eqS (ev_var 2) ev_str) (fun z => absurd z (by decide)) fun _ => ws_nil ?_
    refine ws_if (et_eqS (ev_var 2) ev_str) (fun z => absurd z (by decide)) fun _ => ws_nil ?_
    refine ws_if (et_eqS (ev_var 2) ev_str) (fun _ => ?_) fun z => absurd z (by decide)
    exact ws_retX (wex_meth mg (by decide) (Ev.we (ev_var 0) ⟨⟨_, lx, rfl⟩, (ea_cons (ev_ixT (atI_nat (j := 1) rfl) (ev_var 1) ev_int) (ea_2 (ev_ixT (atI_nat (j := 2) rfl) (ev_var 1) ev_int) (ev_ixT (atI_nat (j := 3) rfl) (ev_var 1) ev_int))).wa h⟩))
def dFlds : List Str := ["_depth", "_state", "_earlier", "_taken_back"]
/-- a desk's fields -/
def dkD (C : Addr) (dp st : D) (qe : Addr) (tb : D) : D := .ins C [("_depth", dp), ("_state", st), ("_earlier", .ptr qe), ("_taken_back", tb)]
abbrev mDa : Stmt := inClass (top 108) 18
theorem scMDa : FnScope ["self", "deeds", "state", "results", "changed", "position", "deed", "result", "later"] ["self", "deeds"] (defScope mDa) := ⟨rfl, rfl, rfl, by decide +kernel, rfl, by decide +kernel, by decide +kernel⟩
def rMDa (C CD CH CR CA CN CU CP CQ : Addr) (n : Nat) : ASpX := fun ds L post xp => ∃ q qe dp tb hd t k xs es key fs xs' ts, ∃ (K : D → D → Prop) (X : XPost), ds = [.ptr q, .lst [.tup (.str key :: xs')]] ∧ L q = some (dkD CD dp (stD C hd t k xs) qe tb) ∧ L qe = some (.lst es) ∧ q ≠ qe ∧ es.length ≤ 900 ∧ (key, fs) ∈ formsTab ∧ Fes fs xs' ts ∧ xs'.length ≤ 3 ∧ key.length ≤ 50 ∧
  (∀ L1, Sub L L1 → rMSa C CH CR CA CN CU CP CQ n [stD C hd t k xs, .tup (.str key :: xs')] L1 (fun d L' => L' = L1 ∧ ∃ r lt, d = .tup [r, lt] ∧ K r lt) (fun C fs L' => L' = L1 ∧ X C fs L)) ∧
  (∀ C fs, X C fs L → xp C fs L) ∧
  (∀ r lt, K r lt → (lt = .non ∧ post (.lst [r]) L) ∨ ∃ hd' t' k' xs'', lt = stD C hd' t' k' xs'' ∧ xs''.length ≤ 900 ∧ ∀ tx, post (.lst [r]) ((L.set qe (.lst (es ++ [stD C hd t k xs]))).set q (dkD CD dp (stD C hd' t' k' (xs'' ++ [tx])) qe (.lst []))))
theorem ok_mda {f : Addr} {fd : FuncData} (F : Fun B.K "attempt" "Desk.attempt" mDa f fd) (kl : Kla B CD dFlds) (cIw : Cl B 1 "is_deed_word" rIdw) (cDt : Cl B 3 "deed_text" rDt) (ma : MclX B 10 C "after" [] (rMSa C CH CR CA CN CU CP CQ n)) (mx : Mcl B 3 C "with_text" (rMSx C)) :
    FnOk B.P B.w B.K B.mg B.base (L2.CX B.P B.w) 11 f fd ["self", "deeds"] (lowX (rMDa C CD CH CR CA CN CU CP CQ n)) := by
  refine ok_defX F scMDa (fun ds L post xp ⟨_, _, _, _, _, _, _, _, _, _, _, _, _, _, _, h, _⟩ => by rw [h]; rfl) fun S hS ds L post xp ⟨q, qe, dp, tb, hd, t, k, xs, es, key, fs, xs', ts, K, X, e, hq, hqe, hne, hes, hk, hf, hxl, hkl, hR, hX, hK⟩ => ?_
  subst e
  have hline : 1000 ≤ sizeLine := by decide
  refine ws_xsub (xp := fun C fs L' => Sub L L' ∧ X C fs L) ?_ fun C fs L' ⟨s, z⟩ => ⟨L, s, hX C fs z⟩
  have lq : ∀ {L'}, Sub L L' → Lk L' (.ptr q) (dkD CD dp (stD C hd t k xs) qe tb) := fun s => .inr ⟨q, rfl, s.c _ _ hq⟩
  refine ws_set 2 ((ev_fld kl (lq .refl) rfl (ev_var 0)).we ?_)
  refine ws_set 3 (we_newL fun qr nr => ?_)
  have sr : ∀ {d}, Sub L (L.set qr d) := fun {d} => Sub.refl.set nr
  have nq : q ≠ qr := fun e => by rw [e, nr] at hq; cases hq
  have nqe : qe ≠ qr := fun e => by rw [e, nr] at hqe; cases hqe
  refine ws_set 4 (ev_bl.we ?_)
  refine ws_for (Ei.wi (ds := [.tup [.int 0, .tup (.str key :: xs')]]) (ei_enum (ds := [.tup (.str key :: xs')]) (fun _ => rfl) (.inl rfl) (ev_var 1)) ⟨_, _, wg_pair 5 6, ?_⟩)
  refine ws_if (et_not (et_val (ev_call cIw (by decide) (ea_1 (ev_ixT (atI_nat (j := 0) rfl) (ev_var 6) ev_int)) ⟨key, fs, rfl, hk, rfl, rfl⟩))) (fun z => by cases z) fun _ => ws_nil ?_
  refine ws_asgX (wex_methG ma (by decide) (Ev.we (ev_var 2) ⟨⟨_, .inl rfl, rfl⟩, (ea_1 (ev_var 6)).wa ⟨_, _, hR _ sr, ?_, fun C fs L' ⟨e, z⟩ => ⟨e ▸ sr, z⟩⟩⟩))
  rintro d L' ⟨rfl, r, lt, rfl, hKr⟩
  refine ⟨_, _, wg_pair 7 8, ?_⟩
  refine ws_expr (we_append (ev_var 3) ((ev_var 7).we ⟨_, Sto.set_same, by show 0 < _; omega, ?_⟩) ⟨_, Sto.set_same⟩)
  rw [Sto.set_set, List.nil_append]
  rcases hK r lt hKr with ⟨rfl, hp⟩ | ⟨hd', t', k', xs'', rfl, hl'', hp⟩
  · refine ws_if (et_notN (ev_var 8)) (fun z => by cases z) fun _ => ws_nil (ws_nil ?_)
    refine ws_if (et_val (ev_var 4)) (fun z => by cases z) fun _ => ws_nil ?_
    exact ws_ret (We.sub (p := fun d L' => d = .ptr qr ∧ L' = L.set qr (.lst [r])) ((ev_var 3).we ⟨rfl, rfl⟩) fun d L' ⟨e1, e2⟩ => ⟨.lst [r], L, e2 ▸ sr, by subst e1; subst e2; exact sr.cell Sto.set_same nr, hp⟩)
  · refine ws_if (et_notN (ev_var 8)) (fun _ => ?_) fun z => by cases z
    refine ws_set 2 (we_frz (we_meth mx (by decide) (Ev.we (ev_var 8) ⟨⟨_, .inl rfl, rfl⟩, (ea_1 (ev_call cDt (by decide) (ea_1 (ev_var 6)) ⟨key, fs, xs', ts, rfl, hk, hf, hxl, hkl, rfl, rfl⟩)).wa ⟨_, hd', t', k', xs'', _, rfl, .inl rfl, hl'', fun q1 nq1 => ⟨q1, _, rfl, Sto.set_same, ?_⟩⟩⟩)))
    rw [Sto.del_set nq1]
    refine ws_set 4 (ev_bl.we (ws_nil (ws_nil ?_)))
    refine ws_if (et_val (ev_var 4)) (fun _ => ?_) fun z => by cases z
    have q1 : (L.set qr (.lst [r])) q = some (dkD CD dp (stD C hd t k xs) qe tb) := by rw [Sto.set_ne nq]; exact hq
    have qe1 : (L.set qr (.lst [r])) qe = some (.lst es) := by rw [Sto.set_ne nqe]; exact hqe
    refine ws_expr (we_append (ev_fld kl (.inr ⟨q, rfl, q1⟩) rfl (ev_var 0)) ((ev_fld kl (.inr ⟨q, rfl, q1⟩) rfl (ev_var 0)).we ⟨_, qe1, by omega, ?_⟩) ⟨_, qe1⟩)
    have q2 : ((L.set qr (.lst [r])).set qe (.lst (es ++ [stD C hd t k xs]))) q = some (dkD CD dp (stD C hd t k xs) qe tb) := by rw [Sto.set_ne hne]; exact q1
    refine ws_fld kl ((ev_lst ea_nil).we ⟨_, q2, by show (4 : Nat) < 1000; omega, ev_var 0, ?_⟩)
    refine ws_fld kl ((ev_var 2).we ⟨_, Sto.set_same, by show (4 : Nat) < 1000; omega, ev_var 0, ?_⟩)
    rw [Sto.set_set, Sto.set_comm nqe.symm, Sto.set_comm nq.symm]
    have sr2 : ∀ {L2 : Sto} {d}, L2 qr = none → Sub L2 (L2.set qr d) := fun h => Sub.refl.set h
    have nr2 : ∀ {a b}, ((L.set qe a).set q b) qr = none := fun {a b} => by rw [Sto.set_ne nq.symm, Sto.set_ne nqe.symm]; exact nr
    refine ws_nil ?_
    refine ws_fz 3 (sr2 nr2) ((sr2 nr2).cell Sto.set_same nr2) ?_
    exact ws_ret ((ev_var 3).we (hp _))
end
end FS
/-! text W33 -/
/-! W33: an object made with keyword defaults. -/
namespace FS
open PySem PySem.Spec PyProof.Rows L2
section
variable {B : Bg} {N : List Str} {sc : Scope} {k : Nat} {S : Sit B N sc k} {G : Gam} {L : Sto} {a b c e o : Expr} {es : List Expr} {pos p apos : Pos} {post : D → Sto → Prop} {xp : XPost}
structure KclX (B : Bg) (j : Nat) (x : Str) (C : Addr) (dd : List D) (R : ASpX) : Prop where
  mg : B.mg x = some (.ref C)
  ex : ∃ f fd ps dvs dus, FnOk B.P B.w B.K B.mg B.base (L2.CX B.P B.w) j f fd ps (lowX R) ∧ Mk B.K C f ∧ Binds B.K fd ps dus ∧ Vals dvs dus ∧ ∀ M H, Reps M H dd dvs
theorem we_makeD {j : Nat} {x : Str} {C : Addr} {dd : List D} {R : ASpX} (M : KclX B j x C dd R) (hj : j + 1 ≤ k) (h : Wa S G L (e :: es) fun ds L1 => ∀ q, L1 q = none → ∃ p', R (.ptr q :: (ds ++ dd)) (L1.set q (.ins C [])) p' (fun _ _ _ => False) ∧ ∀ d L2, p' d L2 → d = .non ∧ post (.ptr q) L2) (hg : sc.names.lookup x = some .globalImplicit := by rfl) (hdb : (x == ("__debug__" : Str)) = false := by decide)
    (he : ∀ env, starEach (e :: es) env = (false, eval e env) :: starEach es env := by intro _; rfl) (hpl : ∀ env, (backTo pos (starEach es env)).any (·.1) = false := by intro _; rfl) : We S G L (.Call (.Name x p) (e :: es) [] pos) post := fun σ H A Q c => by
  obtain ⟨f, fd, ps, dvs, dus, F, hm, hb, hd, rd⟩ := M.ex
  refine ⟨tMake C (lowX R) dvs S.W (MA S (e :: es)), fun X hX => ?_, h σ H A _ fun ds L1 vs H1 w k1 s1 r1 q dx nq nd ne => ?_⟩
  · have h2 := ma hX (e := e :: es); have h3 := S.passX hX
    obtain ⟨y, rfl, hr⟩ := S.fam X hX
    exact pe_make hm F (Room.mono (show Room k y.A from hr) hj) hg M.mg hb hd h3 h2 hdb (he _) (hpl _)
  · obtain ⟨s2, k2⟩ := make_ok (C := C) (fs := []) s1 nq nd ne
    obtain ⟨p', w', hw⟩ := w q (sto_new nq s1)
    refine ⟨.ptr q :: (ds ++ dd), _, _, _, s2, .cons .ptr ((r1.mono k2.kp).append (rd _ _)), w', fun d L' v H' pq' k3 s3 r3 => ?_, fun _ _ _ _ _ _ z => z.elim⟩
    obtain ⟨ed, pq⟩ := hw _ _ pq'
    subst ed; cases r3
    exact ⟨rfl, c _ _ _ _ pq ((k1.trans k2).trans k3) s3 .ptr⟩
end
end FS
/-! text E40 -/
/-! E40: a desk is made. -/
namespace FS
open PySem PySem.Spec PyProof.Rows L2
section
variable {B : Bg} {C CD CH CR CA CN CAn : Addr} {n : Nat}
abbrev mDi : Stmt := inClass (top 108) 0
theorem scMDi : FnScope ["self", "rulebook", "book", "depth"] ["self", "rulebook", "book", "depth"] (defScope mDi) := ⟨rfl, rfl, rfl, by decide +kernel, rfl, by decide +kernel, by decide +kernel⟩
def rMDi (C CD CH CR CA CN CAn : Addr) (n : Nat) : ASpX := fun ds L post _ => ∃ q rb b dp, ds = [.ptr q, rb, .dct (encB b), dp] ∧ L q = some (.ins CD []) ∧ RbD CR CA CN n rb ∧ NN b ∧ n ≤ 10 ∧ brokenL b n = none ∧
  ∀ qe, L qe = none → qe ≠ q → post .non ((L.set qe (.lst [])).set q (dkD CD dp (stD C (hD CH rb (ht0 b)) [("main", 0)] (anD CAn) []) qe (.lst [])))
theorem ok_mdi {kws : List (Str × V)} {f : Addr} {fd : FuncData} (F : FunD B.K "__init__" "Desk.__init__" (defArgs mDi) (defBody mDi) (defScope mDi) [] kws f fd) (kl : Kla B CD dFlds) (kH : Kcl B 6 "History" CH (rMHi CH CR CA CN n)) (kA : Kcl B 1 "Answers" CAn (rMNi CAn)) (kSt : Kcl B 1 "DeskState" C (rMSi C)) :
    FnOk B.P B.w B.K B.mg B.base (L2.CX B.P B.w) 8 f fd ["self", "rulebook", "book", "depth"] (lowX (rMDi C CD CH CR CA CN CAn n)) := by
  refine ok_defXD F scMDi (fun ds L post xp ⟨_, _, _, _, h, _⟩ => by rw [h]; rfl) fun S hS ds L post xp ⟨q, rb, b, dp, e, hq, hr, nn, hn, hb, hp⟩ => ?_
  subst e
  refine ws_fld kl ((ev_var 3).we ⟨[], hq, by simp, ev_var 0, ?_⟩)
  have hq1 : (L.set q (.ins CD (putFD ("_depth" : Str) dp []))) q = some (.ins CD [("_depth", dp)]) := Sto.set_same
  have hn1 : ∀ {a : Addr}, (L.set q (.ins CD (putFD ("_depth" : Str) dp []))) a = none → L a = none ∧ a ≠ q := fun {a} h => by
    have ne : a ≠ q := fun e => by rw [e, Sto.set_same] at h; cases h
    rw [Sto.set_ne ne] at h; exact ⟨h, ne⟩
  have hs1 : ∀ {f a b : D} {c : Addr}, c ≠ q → (((L.set q (.ins CD (putFD ("_depth" : Str) dp []))).set q f).set c a).set q b = (L.set c a).set q b := fun {f a b c} ne => by
    rw [Sto.set_set, Sto.set_comm ne.symm, Sto.set_set]
  generalize L.set q (.ins CD (putFD ("_depth" : Str) dp [])) = L1 at hq1 hn1 hs1 ⊢
  have mainD : ∀ {p1 p2 p3 : Pos} {j1 j2} {L2 : Sto}, Ev S (startD ["self", "rulebook", "book", "depth"] [.ptr q, rb, .dct (encB b), dp]) L2 (.Dict [some (.Constant (.str "main") j1 p1)] [.Constant (.int 0) j2 p2] p3) (.dct (encT [("main", 0)])) := fun {p1 p2 p3 j1 j2 L2} => ev_disp (fun z => .cons ev_str kS ev_int .int .nil) rfl (h15 := by show 1 ≤ 15; decide)
  refine ws_fld (q := q) kl (we_makeF kSt (by decide) (wa_cons (We.sub (p := fun d L' => ∃ q1 c1 c2 c3 c4 c5, d = .ptr q1 ∧ L1 q1 = none ∧ HCl CH L' q1 c1 c2 c3 c4 c5 rb (ht0 b) ∧ HNew L1 L' c1 c2 c3 c4 c5) (we_make kH (by decide) ((ea_2 (ev_var 1) (ev_var 2)).wa fun q1 nq1 => ⟨q1, rb, b, rfl, Sto.set_same, hr, nn, hn, hb, fun L' c1 c2 c3 c4 c5 hc hw => ⟨rfl, q1, c1, c2, c3, c4, c5, rfl, nq1, hc, hw _ (Sub.refl.set nq1) nq1⟩⟩)) fun d L' ⟨q1, c1, c2, c3, c4, c5, e, nq, hc, hw⟩ => ?_)))
  subst e
  refine ⟨_, L1, hw.sub, hc.fz hw nq, wa_cons (Ev.we mainD (wa_cons (we_frz (we_make0 kA (by decide) fun q2 nq2 => ⟨q2, rfl, Sto.set_same, rfl, q2, _, rfl, Sto.set_same, ?_⟩))))⟩
  rw [Sto.set_set, Sto.del_set nq2]
  refine wa_cons (Ev.we (ev_lst (ds := []) ea_nil) (wa_nil fun q3 nq3 => ⟨q3, _, [("main", 0)], _, [], rfl, Sto.set_same, rfl, _, rfl, ?_⟩))
  refine ⟨_, hq1, by show (1 : Nat) < 1000; omega, ev_var 0, ?_⟩
  refine ws_fld (q := q) kl (we_newL fun qe nqe => ?_)
  have ne : qe ≠ q := fun e => by rw [e, Sto.set_same] at nqe; cases nqe
  rw [Sto.set_ne ne] at nqe
  refine ⟨_, by rw [Sto.set_ne ne.symm]; exact Sto.set_same, by show (2 : Nat) < 1000; omega, ev_var 0, ?_⟩
  refine ws_fld kl ((ev_lst ea_nil).we ⟨_, Sto.set_same, by show (3 : Nat) < 1000; omega, ev_var 0, ws_nil ?_⟩)
  rw [Sto.set_set, hs1 ne]
  exact hp qe (hn1 nqe).1 ne
end
end FS
/-! text W34 -/
/-! W34: exceptions in other words. -/
namespace FS
open PySem PySem.Spec PyProof.Rows L2
section
variable {B : Bg} {N : List Str} {sc : Scope} {k : Nat} {S : Sit B N sc k} {G : Gam} {L : Sto} {a b c e o : Expr} {es : List Expr} {pos p apos : Pos} {post : D → Sto → Prop} {xp : XPost}
theorem WeX.mono {p q : D → Sto → Prop} {xp xp' : XPost} (h : WeX S G L e p xp') (i : ∀ d L', p d L' → q d L') (ix : ∀ C fs L', xp' C fs L' → xp C fs L') : WeX S G L e q xp := fun σ H A Q c cx =>
  h σ H A Q (fun d L' v H' z => c d L' v H' (i d L' z)) fun C fs L' dd vs H' z => cx C fs L' dd vs H' (ix C fs L' z)
/-- r[0], r a new list of one thing -/
theorem wex_first {j : Nat} (h : WeX S G L a (fun x L1 => ∃ d, x = .lst [d] ∧ post d L1) xp) (hs : PlainIx (.Constant (.int 0) j p) := by exact fun _ _ => rfl) : WeX S G L (.Subscript a (.Constant (.int 0) j p) pos) post xp :=
  wex_ix (i := 0) (d := .non) (ds := []) (h.mono (fun x L1 ⟨d, e, z⟩ => ⟨[d], d, .inl e, atI_nat (j := 0) rfl, ev_int, z⟩) fun _ _ _ z => z) hs
end
end FS
/-! text E41 -/
/-! E41: the desk's deeds. -/
namespace FS
open PySem PySem.Spec PyProof.Rows L2
section
variable {B : Bg} {C CD CH CR CA CN CU CP CQ : Addr} {n : Nat}
/-- what attempt promises of one deed, its first result -/
def rAt (C CD CH CR CA CN CU CP CQ : Addr) (n : Nat) (q : Addr) (dd : D) (L : Sto) (post : D → Sto → Prop) (xp : XPost) : Prop :=
  (∃ fs, L q = some (.ins CD fs) ∧ fs.lookup ("attempt" : Str) = none) ∧ rMDa C CD CH CR CA CN CU CP CQ n [.ptr q, .lst [dd]] L (fun x L1 => ∃ d, x = .lst [d] ∧ post d L1) xp
abbrev mDf : Stmt := inClass (top 108) 1
theorem scMDf : FnScope ["self", "name", "source"] ["self", "name", "source"] (defScope mDf) := ⟨rfl, rfl, rfl, by decide +kernel, rfl, by decide +kernel, by decide +kernel⟩
def rMDf (C CD CH CR CA CN CU CP CQ : Addr) (n : Nat) : ASpX := fun ds L post xp => ∃ q a s, ds = [.ptr q, .str a, .str s] ∧ rAt C CD CH CR CA CN CU CP CQ n q (.tup [.str "fork", .str a, .str s]) L post xp
theorem ok_mdf {f : Addr} {fd : FuncData} (F : Fun B.K "fork" "Desk.fork" mDf f fd) (ma : MclX B 11 CD "attempt" [] (rMDa C CD CH CR CA CN CU CP CQ n)) :
    FnOk B.P B.w B.K B.mg B.base (L2.CX B.P B.w) 12 f fd ["self", "name", "source"] (lowX (rMDf C CD CH CR CA CN CU CP CQ n)) := by
  refine ok_defX F scMDf (fun ds L post xp ⟨_, _, _, h, _⟩ => by rw [h]; rfl) fun S hS ds L post xp ⟨q, a, s, e, ⟨fs, hq, hl⟩, h⟩ => ?_
  subst e
  exact ws_retX (wex_first (wex_meth ma (by decide) (Ev.we (ev_var 0) ⟨⟨fs, .inr ⟨q, rfl, hq⟩, hl⟩, (ea_1 (ev_lst (ea_1 (ev_tup (ea_cons ev_str (ea_2 (ev_var 1) (ev_var 2))))))).wa h⟩)))
abbrev mDw : Stmt := inClass (top 108) 3
theorem scMDw : FnScope ["self", "name", "writes"] ["self", "name", "writes"] (defScope mDw) := ⟨rfl, rfl, rfl, by decide +kernel, rfl, by decide +kernel, by decide +kernel⟩
def rMDw (C CD CH CR CA CN CU CP CQ : Addr) (n : Nat) : ASpX := fun ds L post xp => ∃ q a w, ds = [.ptr q, .str a, w] ∧ rAt C CD CH CR CA CN CU CP CQ n q (.tup [.str "write", .str a, w]) L post xp
theorem ok_mdw {f : Addr} {fd : FuncData} (F : Fun B.K "write" "Desk.write" mDw f fd) (ma : MclX B 11 CD "attempt" [] (rMDa C CD CH CR CA CN CU CP CQ n)) :
    FnOk B.P B.w B.K B.mg B.base (L2.CX B.P B.w) 12 f fd ["self", "name", "writes"] (lowX (rMDw C CD CH CR CA CN CU CP CQ n)) := by
  refine ok_defX F scMDw (fun ds L post xp ⟨_, _, _, h, _⟩ => by rw [h]; rfl) fun S hS ds L post xp ⟨q, a, s, e, ⟨fs, hq, hl⟩, h⟩ => ?_
  subst e
  exact ws_retX (wex_first (wex_meth ma (by decide) (Ev.we (ev_var 0) ⟨⟨fs, .inr ⟨q, rfl, hq⟩, hl⟩, (ea_1 (ev_lst (ea_1 (ev_tup (ea_cons ev_str (ea_2 (ev_var 1) (ev_var 2))))))).wa h⟩)))
abbrev mDm : Stmt := inClass (top 108) 4
theorem scMDm : FnScope ["self", "name", "others", "answers", "marks"] ["self", "name", "others", "answers"] (defScope mDm) := ⟨rfl, rfl, rfl, by decide +kernel, rfl, by decide +kernel, by decide +kernel⟩
def rMDm (C CD CH CR CA CN CU CP CQ : Addr) (n : Nat) : ASpX := fun ds L post xp => ∃ q a os an mk, ds = [.ptr q, .str a, os, an] ∧ (an = .non ∧ mk = [] ∨ an = .dct mk) ∧ rAt C CD CH CR CA CN CU CP CQ n q (.tup [.str "merge", .str a, os, .dct mk]) L post xp
theorem ok_mdm {kws : List (Str × V)} {f : Addr} {fd : FuncData} (F : FunD B.K "merge" "Desk.merge" (defArgs mDm) (defBody mDm) (defScope mDm) [] kws f fd) (ma : MclX B 11 CD "attempt" [] (rMDa C CD CH CR CA CN CU CP CQ n)) :
    FnOk B.P B.w B.K B.mg B.base (L2.CX B.P B.w) 12 f fd ["self", "name", "others", "answers"] (lowX (rMDm C CD CH CR CA CN CU CP CQ n)) := by
  refine ok_defXD F scMDm (fun ds L post xp ⟨_, _, _, _, _, h, _⟩ => by rw [h]; rfl) fun S hS ds L post xp ⟨q, a, os, an, mk, e, han, ⟨fs, hq, hl⟩, h⟩ => ?_
  subst e
  refine ws_set 4 (Ev.we (d := .dct mk) ?_ ?_)
  · rcases han with ⟨rfl, rfl⟩ | rfl
    · exact we_if (et_isN (ev_var 3)) (fun _ => ev_dict0) fun z => by cases z
    · exact we_if (et_isN (ev_var 3)) (fun z => by cases z) fun _ => ev_var 3
  · exact ws_retX (wex_first (wex_meth ma (by decide) (Ev.we (ev_var 0) ⟨⟨fs, .inr ⟨q, rfl, hq⟩, hl⟩, (ea_1 (ev_lst (ea_1 (ev_tup (ea_cons ev_str (ea_cons (ev_var 1) (ea_2 (ev_var 2) (ev_var 4)))))))).wa h⟩)))
/-! ### what is read of a desk -/
abbrev mDt : Stmt := inClass (top 108) 10
theorem scMDt : FnScope ["self", "name"] ["self", "name"] (defScope mDt) := ⟨rfl, rfl, rfl, by decide +kernel, rfl, by decide +kernel, by decide +kernel⟩
def rMDt (C CD : Addr) : ASp := fun ds L post => ∃ x fs hd t k xs a, ds = [x, .str a] ∧ Lk L x (.ins CD fs) ∧ fs.lookup ("_state" : Str) = some (stD C hd t k xs) ∧ a ∈ t.map (·.1) ∧ post (natD (tipOf t a)) L
theorem ok_mdt {f : Addr} {fd : FuncData} (F : Fun B.K "tip" "Desk.tip" mDt f fd) (kl : Kla B CD dFlds) (mt : Mcl B 1 C "tip_of" (rMSt C)) : FnOk B.P B.w B.K B.mg B.base CX0 2 f fd ["self", "name"] (low (rMDt C CD)) := by
  refine ok_def F scMDt (fun ds L post ⟨_, _, _, _, _, _, _, h, _⟩ => by rw [h]; rfl) fun S hS ds L post ⟨x, fs, hd, t, k, xs, a, e, lx, hs, ha, hp⟩ => ?_
  subst e
  exact ws_ret ((ev_meth mt (by decide) (.inl rfl) (ev_fld kl lx hs (ev_var 0)) (ea_1 (ev_var 1)) ⟨_, hd, t, k, xs, a, rfl, .inl rfl, ha, rfl, rfl⟩).we hp)
abbrev mDb : Stmt := inClass (top 108) 11
theorem scMDb : FnScope ["self", "name"] ["self", "name"] (defScope mDb) := ⟨rfl, rfl, rfl, by decide +kernel, rfl, by decide +kernel, by decide +kernel⟩
def rMDb (C CD CH : Addr) : ASp := fun ds L post => ∃ x fs rb h t k xs a, ds = [x, .str a] ∧ Lk L x (.ins CD fs) ∧ fs.lookup ("_state" : Str) = some (stD C (hD CH rb h) t k xs) ∧ a ∈ t.map (·.1) ∧ tipOf t a < h.par.length ∧ h.bk.length = h.par.length ∧ post (.dct (encB (wrB h.bk (tipOf t a)))) L
theorem ok_mdb {f : Addr} {fd : FuncData} (F : Fun B.K "book" "Desk.book" mDb f fd) (kl : Kla B CD dFlds) (mb : Mcl B 4 C "book_of" (rMSb C CH)) : FnOk B.P B.w B.K B.mg B.base CX0 5 f fd ["self", "name"] (low (rMDb C CD CH)) := by
  refine ok_def F scMDb (fun ds L post ⟨_, _, _, _, _, _, _, _, h, _⟩ => by rw [h]; rfl) fun S hS ds L post ⟨x, fs, rb, h, t, k, xs, a, e, lx, hs, ha, hlt, hbl, hp⟩ => ?_
  subst e
  exact ws_ret ((ev_meth mb (by decide) (.inl rfl) (ev_fld kl lx hs (ev_var 0)) (ea_1 (ev_var 1)) ⟨_, _, rb, h, t, k, xs, a, rfl, .inl rfl, hD_at, ha, hlt, hbl, rfl, rfl⟩).we hp)
abbrev mDh : Stmt := inClass (top 108) 12
theorem scMDh : FnScope ["self"] ["self"] (defScope mDh) := ⟨rfl, rfl, rfl, by decide +kernel, rfl, by decide +kernel, by decide +kernel⟩
def rMDh (C CD CH CR CA CN : Addr) (n : Nat) : ASp := fun ds L post => ∃ x fs rb h t k xs, ds = [x] ∧ Lk L x (.ins CD fs) ∧ fs.lookup ("_state" : Str) = some (stD C (hD CH rb h) t k xs) ∧ RbD CR CA CN n rb ∧ n ≤ 10 ∧ HSt n h ∧ post (hD CH rb h) L
theorem ok_mdh {f : Addr} {fd : FuncData} (F : Fun B.K "history" "Desk.history" mDh f fd) (kl : Kla B CD dFlds) (mh : Mcl B 9 C "history_copy" (rMSh C CH CR CA CN n)) : FnOk B.P B.w B.K B.mg B.base CX0 10 f fd ["self"] (low (rMDh C CD CH CR CA CN n)) := by
  refine ok_def F scMDh (fun ds L post ⟨_, _, _, _, _, _, _, h, _⟩ => by rw [h]; rfl) fun S hS ds L post ⟨x, fs, rb, h, t, k, xs, e, lx, hs, hr, hn, hst, hp⟩ => ?_
  subst e
  exact ws_ret ((ev_meth0 mh (by decide) (.inl rfl) (ev_fld kl lx hs (ev_var 0)) ⟨_, rb, h, t, k, xs, rfl, .inl rfl, hr, hn, hst, rfl, rfl⟩).we hp)
end
end FS
/-! text E42 -/
/-! E42: what one deed does to a desk. -/
namespace FS
open PySem PySem.Spec PyProof.Rows L2
/-- a desk in its cells -/
structure DkAt (CD : Addr) (L : Sto) (q qe : Addr) (dp st tb : D) (es : List D) : Prop where
  hq : L q = some (dkD CD dp st qe tb)
  he : L qe = some (.lst es)
  ne : q ≠ qe
def dput (CD : Addr) (L : Sto) (q qe : Addr) (dp : D) (es : List D) (st st' : D) : Sto := (L.set qe (.lst (es ++ [st]))).set q (dkD CD dp st' qe (.lst []))
theorem DkAt.put {CD : Addr} {L : Sto} {q qe : Addr} {dp st st' tb : D} {es : List D} (h : DkAt CD L q qe dp st tb es) : DkAt CD (dput CD L q qe dp es st st') q qe dp st' (.lst []) (es ++ [st]) :=
  ⟨Sto.set_same, by unfold dput; rw [Sto.set_ne (Ne.symm h.ne)]; exact Sto.set_same, h.ne⟩
section
variable {C CD CH CR CA CN CU CP CQ : Addr} {n : Nat} {L : Sto} {q qe : Addr} {dp tb rb k : D} {h : Ht} {t : Tps} {xs es : List D} {post : D → Sto → Prop} {xp : XPost}
theorem DkAt.fs {st : D} (dk : DkAt CD L q qe dp st tb es) : ∃ fs, L q = some (.ins CD fs) ∧ fs.lookup ("attempt" : Str) = none := ⟨_, dk.hq, rfl⟩
theorem at_fork {hd : D} {a s : Str} (dk : DkAt CD L q qe dp (stD C hd t k xs) tb es) (hs : s ∈ t.map (·.1)) (ha : a ∉ t.map (·.1)) (htl : t.length ≤ 20) (hes : es.length ≤ 900) (hxl : xs.length ≤ 900) (l1 : a.length ≤ 50) (l2 : s.length ≤ 50)
    (hp : ∀ tx, post (natD (tipOf t s)) (dput CD L q qe dp es (stD C hd t k xs) (stD C hd (putG t a (tipOf t s)) k (xs ++ [tx])))) : rAt C CD CH CR CA CN CU CP CQ n q (.tup [.str "fork", .str a, .str s]) L post xp := by
  refine ⟨dk.fs, q, qe, dp, tb, hd, t, k, xs, es, "fork", ["name", "name"], [.str a, .str s], [a, s], fun r lt => r = natD (tipOf t s) ∧ lt = stD C hd (putG t a (tipOf t s)) k xs, fun _ _ _ => False, rfl, dk.hq, dk.he, dk.ne, hes, by simp [formsTab], .cons (.name l1) (.cons (.name l2) .nil), by simp, by decide, fun L1 _ => ?_, fun _ _ z => z.elim, fun r lt ⟨e1, e2⟩ => ?_⟩
  · exact ⟨_, hd, t, k, xs, .inl rfl, .inl ⟨a, s, rfl, _, hd, t, k, xs, a, s, rfl, .inl rfl, hs, ha, htl, rfl, _, _, rfl, rfl, rfl⟩⟩
  · subst e1; subst e2
    exact .inr ⟨hd, _, k, xs, rfl, hxl, fun tx => ⟨_, rfl, hp tx⟩⟩
theorem at_write {x : Str} {w : Bk} (dk : DkAt CD L q qe dp (stD C (hD CH rb h) t k xs) tb es) (hr : RbD CR CA CN n rb) (hn : n ≤ 10) (hst : HSt n h) (hx : x ∈ t.map (·.1)) (htl : t.length ≤ 20) (hlt : tipOf t x < h.par.length) (hw0 : w ≠ []) (hw : WrOk n w) (hbe : BkE n (wrB h.bk (tipOf t x))) (nn : NN (withB (wrB h.bk (tipOf t x)) w)) (hes : es.length ≤ 900) (hxl : xs.length ≤ 900) (l1 : x.length ≤ 50)
    (hu : ∀ r, brokenL (withB (wrB h.bk (tipOf t x)) w) n = some r → xp CU [("bar", barD r), ("key", .str r.1)] L)
    (hp : brokenL (withB (wrB h.bk (tipOf t x)) w) n = none → ∀ tx, post (natD h.par.length) (dput CD L q qe dp es (stD C (hD CH rb h) t k xs) (stD C (hD CH rb (hadd h "write" [tipOf t x] w (withB (wrB h.bk (tipOf t x)) w))) (putG t x h.par.length) k (xs ++ [tx])))) :
    rAt C CD CH CR CA CN CU CP CQ n q (.tup [.str "write", .str x, .dct (encB w)]) L post xp := by
  refine ⟨dk.fs, q, qe, dp, tb, _, t, k, xs, es, "write", ["name", "writes"], [.str x, .dct (encB w)], [x, _], fun r lt => brokenL (withB (wrB h.bk (tipOf t x)) w) n = none ∧ r = natD h.par.length ∧ lt = stD C (hD CH rb (hadd h "write" [tipOf t x] w (withB (wrB h.bk (tipOf t x)) w))) (putG t x h.par.length) k xs,
    fun C' fs L' => L' = L ∧ ∃ r, brokenL (withB (wrB h.bk (tipOf t x)) w) n = some r ∧ C' = CU ∧ fs = ([("bar", barD r), ("key", .str r.1)] : List (Str × D)), rfl, dk.hq, dk.he, dk.ne, hes, by simp [formsTab], .cons (.name l1) (.cons (.writes hw.len fun m hm => ?_) .nil), by simp, by decide, fun L1 _ => ?_, fun C' fs ⟨_, r, e, e1, e2⟩ => ?_, fun r lt ⟨e, e1, e2⟩ => ?_⟩
  · have := hw.ks m hm
    unfold SmM; omega
  · refine ⟨_, _, t, k, xs, .inl rfl, .inr (.inl ⟨x, w, rfl, _, rb, h, t, k, xs, x, w, rfl, .inl rfl, hr, hn, hst, hx, htl, hlt, hw0, hw.len, hbe, nn, fun r e => ⟨rfl, rfl, r, e, rfl, rfl⟩, fun e => ⟨rfl, _, _, rfl, e, rfl, rfl⟩⟩)⟩
  · subst e1; subst e2; exact hu r e
  · subst e1; subst e2
    exact .inr ⟨_, _, k, xs, rfl, hxl, fun tx => ⟨_, rfl, hp e tx⟩⟩
theorem at_merge {x : Str} {os : List Str} {mk : Bk} (dk : DkAt CD L q qe dp (stD C (hD CH rb h) t k xs) tb es) (hr : RbD CR CA CN n rb) (hn : n ≤ 10) (hst : HSt n h) (hx : x ∈ t.map (·.1)) (hos : ∀ o ∈ os, o ∈ t.map (·.1)) (hol : os.length ≤ 10) (htl : t.length ≤ 20) (mo : MgOk h (nodesL t x os)) (hw : WrOk n mk) (nn : NN (withB (shownB h.par h.wr (nodesL t x os)) mk)) (hes : es.length ≤ 900) (hxl : xs.length ≤ 900) (l1 : x.length ≤ 50) (l2 : ∀ o ∈ os, o.length ≤ 50)
    (he : ∀ j, mk.length = 0 → earlyP h.par (nodesL t x os) = some j → if j = tipOf t x then post (natD j) L else ∀ tx, post (natD j) (dput CD L q qe dp es (stD C (hD CH rb h) t k xs) (stD C (hD CH rb h) (putG t x j) k (xs ++ [tx]))))
    (hu : (mk.length = 0 → earlyP h.par (nodesL t x os) = none) → ∀ p f, opn (shownO h.par h.wr (nodesL t x os)) mk = some (p, f) → xp CP [("found", .lst (f.map D.int)), ("place", .int p)] L)
    (hu2 : (mk.length = 0 → earlyP h.par (nodesL t x os) = none) → opn (shownO h.par h.wr (nodesL t x os)) mk = none → ∀ r, brokenL (withB (shownB h.par h.wr (nodesL t x os)) mk) n = some r → xp CQ [("bar", barD r), ("key", .str r.1)] L)
    (hp : (mk.length = 0 → earlyP h.par (nodesL t x os) = none) → opn (shownO h.par h.wr (nodesL t x os)) mk = none → brokenL (withB (shownB h.par h.wr (nodesL t x os)) mk) n = none → ∀ tx, post (natD h.par.length) (dput CD L q qe dp es (stD C (hD CH rb h) t k xs) (stD C (hD CH rb (hadd h "merge" (nodesL t x os) mk (withB (shownB h.par h.wr (nodesL t x os)) mk))) (putG t x h.par.length) k (xs ++ [tx])))) :
    rAt C CD CH CR CA CN CU CP CQ n q (.tup [.str "merge", .str x, .lst (encS os), .dct (encB mk)]) L post xp := by
  refine ⟨dk.fs, q, qe, dp, tb, _, t, k, xs, es, "merge", ["name", "names", "writes"], [.str x, .lst (encS os), .dct (encB mk)], [x, _, _], fun r lt => (∃ j, mk.length = 0 ∧ earlyP h.par (nodesL t x os) = some j ∧ r = natD j ∧ lt = if j = tipOf t x then .non else stD C (hD CH rb h) (putG t x j) k xs) ∨
      ((mk.length = 0 → earlyP h.par (nodesL t x os) = none) ∧ opn (shownO h.par h.wr (nodesL t x os)) mk = none ∧ brokenL (withB (shownB h.par h.wr (nodesL t x os)) mk) n = none ∧ r = natD h.par.length ∧ lt = stD C (hD CH rb (hadd h "merge" (nodesL t x os) mk (withB (shownB h.par h.wr (nodesL t x os)) mk))) (putG t x h.par.length) k xs),
    fun C' fs L' => L' = L ∧ (mk.length = 0 → earlyP h.par (nodesL t x os) = none) ∧ ((∃ p f, opn (shownO h.par h.wr (nodesL t x os)) mk = some (p, f) ∧ C' = CP ∧ fs = ([("found", .lst (f.map D.int)), ("place", .int p)] : List (Str × D))) ∨ (opn (shownO h.par h.wr (nodesL t x os)) mk = none ∧ ∃ r, brokenL (withB (shownB h.par h.wr (nodesL t x os)) mk) n = some r ∧ C' = CQ ∧ fs = ([("bar", barD r), ("key", .str r.1)] : List (Str × D)))),
    rfl, dk.hq, dk.he, dk.ne, hes, by simp [formsTab], .cons (.name l1) (.cons (.names hol l2) (.cons (.writes hw.len fun m hm => ?_) .nil)), by simp, by decide, fun L1 _ => ?_, fun C' fs ⟨_, ea, z⟩ => ?_, fun r lt z => ?_⟩
  · have := hw.ks m hm
    unfold SmM; omega
  · refine ⟨_, _, t, k, xs, .inl rfl, .inr (.inr ⟨x, os, mk, rfl, _, rb, h, t, k, xs, x, os, mk, rfl, .inl rfl, hr, hn, hst, hx, hos, hol, htl, mo, hw.len, nn, fun j z e => ⟨rfl, _, _, rfl, .inl ⟨j, z, e, rfl, rfl⟩⟩, fun ea => ⟨fun p f e => ⟨rfl, rfl, ea, .inl ⟨p, f, e, rfl, rfl⟩⟩, fun e0 r e => ⟨rfl, rfl, ea, .inr ⟨e0, r, e, rfl, rfl⟩⟩, fun e0 e => ⟨rfl, _, _, rfl, .inr ⟨ea, e0, e, rfl, rfl⟩⟩⟩⟩)⟩
  · rcases z with ⟨p, f, e, e1, e2⟩ | ⟨e0, r, e, e1, e2⟩
    · subst e1; subst e2; exact hu ea p f e
    · subst e1; subst e2; exact hu2 ea e0 r e
  · rcases z with ⟨j, z, e, e1, e2⟩ | ⟨ea, e0, e, e1, e2⟩
    · subst e1; subst e2
      have hh := he j z e
      by_cases hj : j = tipOf t x
      · rw [if_pos hj] at hh
        exact .inl ⟨if_pos hj, _, rfl, hh⟩
      · rw [if_neg hj] at hh
        exact .inr ⟨_, _, k, xs, if_neg hj, hxl, fun tx => ⟨_, rfl, hh tx⟩⟩
    · subst e1; subst e2
      exact .inr ⟨_, _, k, xs, rfl, hxl, fun tx => ⟨_, rfl, hp ea e0 e tx⟩⟩
end
end FS
/-! text M10 -/
/-! M10: books of the program and of the law hold the same. -/
namespace FS
open PySem PySem.Spec PyProof.Rows L2
theorem valG_clean {b : Bk} (nd : (keysB b).Nodup) {p : Int} : getB (cleanB b) p = getB b p := by
  unfold getB
  by_cases h : p ∈ keysB b
  · obtain ⟨⟨k, v⟩, hq, rfl⟩ := List.mem_map.mp h
    rw [valG_in nd hq]
    by_cases hv : v = 0
    · subst hv
      rw [valG_out (kvs := cleanB b) fun z => ?_]
      · rfl
      obtain ⟨⟨k', v'⟩, hq', e⟩ := List.mem_map.mp z
      have h1 := List.mem_filter.mp hq'
      have e' : k' = k := e
      subst e'
      have e1 := valG_in nd h1.1
      rw [valG_in nd hq] at e1
      cases e1
      exact absurd h1.2 (by simp)
    · rw [valG_in (kvs := cleanB b) (clean_nd nd) (List.mem_filter.mpr ⟨hq, by simpa using hv⟩)]
  · rw [valG_out (kvs := b) h, valG_out (kvs := cleanB b) fun z => h ((List.filter_sublist.map _).subset z)]
theorem valG_put2 {κ β} [DecidableEq κ] {b : List (κ × β)} {p q : κ} {v : β} (h : q ≠ p) : valG (putG b p v) q = valG b q := by
  unfold putG
  split
  · induction b with
    | nil => rfl
    | cons x r ih =>
      rename_i hh
      rw [List.map_cons, valG_cons, valG_cons]
      have key : valG (r.map fun kv => if kv.1 = p then (kv.1, v) else kv) q = valG r q := by
        clear ih hh
        induction r with
        | nil => rfl
        | cons y r ih =>
          rw [List.map_cons, valG_cons, valG_cons, ih]
          by_cases e : y.1 = p
          · rw [if_pos e]; simp only [e]; rw [if_neg (Ne.symm h), if_neg (Ne.symm h)]
          · rw [if_neg e]
      rw [key]
      by_cases e : x.1 = p
      · rw [if_pos e]; simp only [e]; rw [if_neg (Ne.symm h), if_neg (Ne.symm h)]
      · rw [if_neg e]
  · induction b with
    | nil => rw [List.nil_append, valG_cons, if_neg (Ne.symm h)]
    | cons x r ih =>
      rename_i hh
      rw [List.cons_append, valG_cons, valG_cons]
      rw [ih fun z => hh (by rw [List.any_cons, z, Bool.or_true])]
theorem valG_putAll {p : Int} : ∀ {w b : Bk}, (keysB w).Nodup → valG (putAllI b w) p = (valG w p).or (valG b p)
  | [], b, _ => rfl
  | (k, v) :: w, b, nd => by
    have nd' : k ∉ keysB w ∧ (keysB w).Nodup := List.nodup_cons.mp nd
    show valG (putAllI (putG b k v) w) p = _
    rw [valG_putAll nd'.2, valG_cons]
    by_cases e : k = p
    · subst e
      rw [if_pos rfl, valG_put, valG_out nd'.1]; rfl
    · rw [if_neg e, valG_put2 (Ne.symm e)]
theorem getB_with {b w : Bk} (nb : (keysB b).Nodup) (nw : (keysB w).Nodup) {p : Int} : getB (withB b w) p = (valG w p).getD (getB b p) := by
  unfold withB
  rw [valG_clean (nd_putAll nb)]
  unfold getB
  rw [valG_putAll nw]
  cases valG w p <;> rfl
theorem getB_wr {n : Nat} {w : Bk} (h : WrOk n w) {p v : Int} (e : valG w p = some v) : 0 ≤ v ∧ v ≤ 3 ∧ 2 ≤ p ∧ p ≤ 2 * n + 1 := by
  have := h.ks _ (getB_mem e); simp at this; omega
theorem nn_wr {n : Nat} {w : Bk} (h : WrOk n w) : NN w := fun p => by
  unfold getB
  cases e : valG w p with
  | none => exact Int.le_refl _
  | some v => exact (getB_wr h e).1
theorem nn_with {n : Nat} {b w : Bk} (nb : (keysB b).Nodup) (h : NN b) (hw : WrOk n w) : NN (withB b w) := fun p => by
  rw [getB_with nb hw.nd]
  cases e : valG w p with
  | none => exact h p
  | some v => exact (getB_wr hw e).1
theorem getB_law {b w : Bk} {p : Int} (nb : (keysB b).Nodup) (nw : (keysB w).Nodup) (h : 0 ≤ lawV b w p) : getB (lawW b w) p = lawV b w p := by
  have hk := keys_lawW (b := b) (w := w)
  have nd : (keysB (lawW b w)).Nodup := by
    rw [hk]
    exact (srt_nd (sortI_srt (by
      refine List.nodup_append.mpr ⟨nb, nw.sublist List.filter_sublist, fun a ha c hc e => ?_⟩
      subst e
      have := (List.mem_filter.mp hc).2
      rw [Option.isNone_iff_eq_none, valG_none] at this
      exact this ha))).sublist List.filter_sublist
  by_cases hp : 0 < lawV b w p
  · have hm : p ∈ lawPs b w := lawPs_mem.mpr (by
      by_cases h1 : p ∈ keysB b
      · exact .inl h1
      · refine .inr ?_
        by_cases h2 : p ∈ keysB w
        · exact h2
        · unfold lawV getB at hp
          rw [valG_out (kvs := w) h2, valG_out (kvs := b) h1] at hp
          exact absurd hp (by decide))
    have : (p, lawV b w p) ∈ lawW b w := List.mem_filterMap.mpr ⟨p, hm, if_pos hp⟩
    unfold getB
    rw [valG_in nd this]; rfl
  · have e : p ∉ keysB (lawW b w) := fun z => by
      rw [hk] at z
      exact hp (of_decide_eq_true (List.mem_filter.mp z).2)
    unfold getB
    rw [valG_out e]
    show 0 = _; omega
theorem nn_lawV {n : Nat} {b w : Bk} (h : NN b) (hw : WrOk n w) {p : Int} : 0 ≤ lawV b w p := by
  unfold lawV
  cases e : valG w p with
  | none => exact h p
  | some v => exact (getB_wr hw e).1
/-- what the program makes of a book and what the law makes of it -/
theorem with_law {n : Nat} {b c w : Bk} (hb : BkE n b) (hc : BkOk n c) (hw : WrOk n w) (h : ∀ p, getB b p = getB c p) (p : Int) : getB (withB b w) p = getB (lawW c w) p := by
  rw [getB_with hb.nd hw.nd, getB_law hc.nd hw.nd (nn_lawV hc.e.nn hw)]
  unfold lawV
  rw [h p]
theorem mem_putAll {w b : Bk} {p : Int} : p ∈ keysB (putAllI b w) → p ∈ keysB b ∨ p ∈ keysB w := by
  induction w generalizing b with
  | nil => exact .inl
  | cons q w ih =>
    intro h
    rcases ih (b := putG b q.1 q.2) h with h | h
    · rcases mem_putG.mp h with rfl | h
      · exact .inr List.mem_cons_self
      · exact .inl h
    · exact .inr (List.mem_cons_of_mem _ h)
/-- a book with nothing but good values, from what it holds -/
theorem bkE_with {n : Nat} {b w : Bk} (nb : (keysB b).Nodup) (kb : ∀ p ∈ keysB b, 2 ≤ p ∧ p ≤ 2 * n + 1) (vb : ∀ p, 0 ≤ getB b p ∧ getB b p ≤ 3) (hw : WrOk n w) : BkE n (withB b w) := by
  have nd : (keysB (withB b w)).Nodup := clean_nd (nd_putAll nb)
  refine ⟨nd, fun p hp => ?_⟩
  have e := valG_in nd (show (p.1, p.2) ∈ withB b w from hp)
  have g : getB (withB b w) p.1 = p.2 := by unfold getB; rw [e]; rfl
  have hz : p.2 ≠ 0 := by have := (List.mem_filter.mp hp).2; simpa using this
  have hk : 2 ≤ p.1 ∧ p.1 ≤ 2 * n + 1 := by
    have h1 : p.1 ∈ keysB (putAllI b w) := List.mem_map_of_mem (f := Prod.fst) (List.mem_filter.mp hp).1
    rcases mem_putAll h1 with h | h
    · exact kb _ h
    · obtain ⟨x, hx, ex⟩ := List.mem_map.mp h
      have := hw.ks x hx; omega
  rw [getB_with nb hw.nd] at g
  have hv : 0 ≤ p.2 ∧ p.2 ≤ 3 := by
    rw [← g]
    cases ew : valG w p.1 with
    | none => exact vb _
    | some v => have := getB_wr hw ew; exact ⟨this.1, this.2.1⟩
  omega
theorem BkE.val {n : Nat} {b : Bk} (h : BkE n b) (p : Int) : 0 ≤ getB b p ∧ getB b p ≤ 3 := by
  unfold getB
  cases e : valG b p with
  | none => exact ⟨Int.le_refl _, by decide⟩
  | some v => have := h.ks _ (getB_mem e); simp at this ⊢; omega
theorem BkE.key {n : Nat} {b : Bk} (h : BkE n b) : ∀ p ∈ keysB b, 2 ≤ p ∧ p ≤ 2 * n + 1 := fun p hp => by
  obtain ⟨x, hx, rfl⟩ := List.mem_map.mp hp
  have := h.ks x hx; omega
theorem BkE.with {n : Nat} {b w : Bk} (h : BkE n b) (hw : WrOk n w) : BkE n (withB b w) := bkE_with h.nd h.key h.val hw
end FS
/-! text M11 -/
/-! M11: a merge, of the program and of the law. -/
namespace FS
open PySem PySem.Spec PyProof.Rows L2
theorem find_filter {α β : Type} {q : α → Bool} {f : α → Option β} : ∀ {l : List α}, (∀ x ∈ l, q x = false → f x = none) → (l.filter q).findSome? f = l.findSome? f
  | [], _ => rfl
  | x :: l, h => by
    have ih := find_filter (l := l) fun y hy => h y (List.mem_cons_of_mem _ hy)
    rw [List.filter_cons, List.findSome?_cons]
    cases e : q x with
    | true => rw [if_pos rfl, List.findSome?_cons, ih]
    | false => rw [if_neg Bool.false_ne_true, h x List.mem_cons_self e, ih]
theorem find_fm {α β γ : Type} {g : α → Option β} {f : β → Option γ} : ∀ {l : List α}, (l.filterMap g).findSome? f = l.findSome? fun x => (g x).bind f
  | [] => rfl
  | x :: l => by
    rw [List.filterMap_cons, List.findSome?_cons]
    cases g x with
    | none => exact find_fm
    | some y => simp only [Option.bind_some]; rw [List.findSome?_cons, find_fm]
theorem find_congr {α β : Type} {f g : α → Option β} : ∀ {l : List α}, (∀ x ∈ l, f x = g x) → l.findSome? f = l.findSome? g
  | [], _ => rfl
  | x :: l, h => by rw [List.findSome?_cons, List.findSome?_cons, h x List.mem_cons_self, find_congr fun y hy => h y (List.mem_cons_of_mem _ hy)]
theorem fm_valG {α : Type} {f : Int → Option (Int × α)} (hf : ∀ p q, f p = some q → q.1 = p) {p : Int} : ∀ {ps : List Int}, ps.Nodup → valG (ps.filterMap f) p = if p ∈ ps then (f p).map (·.2) else none
  | [], _ => rfl
  | k :: ps, nd => by
    obtain ⟨h1, h2⟩ := List.nodup_cons.mp nd
    rw [List.filterMap_cons]
    have ih := fm_valG hf (p := p) h2
    cases e : f k with
    | none =>
      simp only
      rw [ih]
      by_cases hk : p = k
      · subst hk
        rw [if_neg h1, if_pos List.mem_cons_self, e]; rfl
      · by_cases hp : p ∈ ps
        · rw [if_pos hp, if_pos (List.mem_cons_of_mem _ hp)]
        · rw [if_neg hp, if_neg fun z => (List.mem_cons.mp z).elim hk hp]
    | some q =>
      simp only
      have eq := hf k q e
      rw [valG_cons, ih, eq]
      by_cases hk : k = p
      · subst hk
        rw [if_pos rfl, if_pos List.mem_cons_self, e]; rfl
      · rw [if_neg hk]
        by_cases hp : p ∈ ps
        · rw [if_pos hp, if_pos (List.mem_cons_of_mem _ hp)]
        · rw [if_neg hp, if_neg fun z => (List.mem_cons.mp z).elim (fun z => hk z.symm) hp]
theorem plsL_mem {n : Nat} {p : Int} : p ∈ plsL n ↔ 2 ≤ p ∧ p ≤ 2 * n + 1 := by
  unfold plsL
  rw [List.mem_map]
  constructor
  · rintro ⟨i, hi, rfl⟩
    have := List.mem_range.mp hi
    omega
  · intro h
    exact ⟨(p - 2).toNat, List.mem_range.mpr (by omega), by omega⟩
section
variable {n : Nat} {m : Wd} {ns : List Nat} {mk : Bk}
theorem wr_ok (hw : ∀ w ∈ m.wr, WrOk n w) (k : Nat) : WrOk n (wrB m.wr k) := by
  unfold wrB
  cases e : m.wr[k]? with
  | none => exact wrOk_nil
  | some w => exact hw w (List.mem_of_getElem? e)
theorem found_val (hw : ∀ w ∈ m.wr, WrOk n w) {p v : Int} (h : v ∈ foundL m.par m.wr ns p) : 0 ≤ v ∧ v ≤ 3 := by
  unfold foundL valsL at h
  obtain ⟨k, _, rfl⟩ := List.mem_map.mp (asc_mem.mp h)
  unfold getB
  cases e : valG (wrB m.wr k) p with
  | none => exact ⟨Int.le_refl _, by decide⟩
  | some v => have := getB_wr (wr_ok hw k) e; exact ⟨this.1, this.2.1⟩
theorem wrot_mem {p : Int} : p ∈ wrotL m.par m.wr ns ↔ ∃ k ∈ pastL m.par ns, k ≠ 0 ∧ p ∈ keysB (wrB m.wr k) := by
  unfold wrotL
  rw [List.mem_flatMap]
  constructor
  · rintro ⟨k, hk, h⟩
    by_cases z : k = 0
    · rw [if_pos z] at h; cases h
    · rw [if_neg z] at h; exact ⟨k, hk, z, h⟩
  · rintro ⟨k, hk, z, h⟩
    exact ⟨k, hk, by rw [if_neg z]; exact h⟩
theorem ps_mem {p : Int} : p ∈ shownPs m.par m.wr ns ↔ p ∈ keysB (wrB m.wr 0) ∨ p ∈ wrotL m.par m.wr ns := by
  unfold shownPs
  rw [asc_mem, List.mem_append, asc_mem]
theorem ps_in (hw : ∀ w ∈ m.wr, WrOk n w) {p : Int} (h : p ∈ shownPs m.par m.wr ns) : p ∈ plsL n := by
  have key : ∀ {k}, p ∈ keysB (wrB m.wr k) → p ∈ plsL n := fun {k} h => by
    obtain ⟨x, hx, rfl⟩ := List.mem_map.mp h
    have := (wr_ok hw k).ks x hx
    exact plsL_mem.mpr ⟨this.1, this.2.1⟩
  rcases ps_mem.mp h with h | h
  · exact key h
  · obtain ⟨k, _, _, h⟩ := wrot_mem.mp h
    exact key h
theorem out_zero {p v : Int} (h : p ∉ shownPs m.par m.wr ns) (hv : v ∈ foundL m.par m.wr ns p) : v = 0 := by
  unfold foundL valsL at hv
  obtain ⟨k, hk, rfl⟩ := List.mem_map.mp (asc_mem.mp hv)
  have hp : k ∈ pastL m.par ns := (List.mem_filter.mp hk).1
  unfold getB
  rw [valG_out fun z => h (ps_mem.mpr ?_)]
  · rfl
  by_cases z0 : k = 0
  · subst z0; exact .inl z
  · exact .inr (wrot_mem.mpr ⟨k, hp, z0, z⟩)
theorem zeros_len {xs : List Int} (hs : xs.Pairwise (· < ·)) (h : ∀ v ∈ xs, v = 0) : ¬ 1 < xs.length ∧ xs.headD 0 = 0 := by
  cases xs with
  | nil => exact ⟨by simp, rfl⟩
  | cons a xs =>
    have ha := h a List.mem_cons_self
    cases xs with
    | nil => exact ⟨by simp, ha⟩
    | cons b xs =>
      have hb := h b (List.mem_cons_of_mem _ List.mem_cons_self)
      have := (List.pairwise_cons.mp hs).1 b List.mem_cons_self
      omega
theorem out_found {p : Int} (h : p ∉ shownPs m.par m.wr ns) : ¬ 1 < (foundL m.par m.wr ns p).length ∧ (foundL m.par m.wr ns p).headD 0 = 0 := zeros_len asc_sorted fun v hv => out_zero h hv
theorem opn_eq (lw : LwI m) (hw : ∀ w ∈ m.wr, WrOk n w) (hn : ∀ k ∈ ns, k < m.par.length) : opn (shownO m.par m.wr ns) mk = (plsL n).findSome? (clashF m ns mk) := by
  have e1 : shownPs m.par m.wr ns = (plsL n).filter fun p => decide (p ∈ shownPs m.par m.wr ns) := by
    refine sorted_unique asc_sorted (plsL_srt.sublist List.filter_sublist) fun k => ?_
    rw [List.mem_filter, decide_eq_true_eq]
    exact ⟨fun h => ⟨ps_in hw h, h⟩, fun h => h.2⟩
  unfold opn shownO
  rw [find_fm]
  have e2 : (shownPs m.par m.wr ns).findSome? (fun x => (shownO1 m.par m.wr ns x).bind fun p => if (valG mk p.1).isNone = true then some p else none) = (shownPs m.par m.wr ns).findSome? (clashF m ns mk) := by
    refine find_congr fun p _ => ?_
    unfold shownO1 clashF
    rw [found_eq lw hn]
    by_cases h : 1 < (lawFound m ns p).length
    · rw [if_pos h, Option.bind_some]
      by_cases z : valG mk p = none
      · rw [if_pos (by rw [z]; rfl), if_pos ⟨z, h⟩]
      · rw [if_neg (by simpa using z), if_neg fun y => z y.1]
    · rw [if_neg h, if_neg fun y => h y.2]; rfl
  rw [e2]
  conv => lhs; rw [e1]
  refine find_filter fun p _ hp => ?_
  have hp' : p ∉ shownPs m.par m.wr ns := of_decide_eq_false hp
  unfold clashF
  rw [if_neg fun y => (out_found hp').1 (by rw [found_eq lw hn]; exact y.2)]
theorem sB_val {p : Int} : getB (shownB m.par m.wr ns) p = if p ∈ shownPs m.par m.wr ns then (if 1 < (foundL m.par m.wr ns p).length then 0 else if 0 < (foundL m.par m.wr ns p).headD 0 then (foundL m.par m.wr ns p).headD 0 else 0) else 0 := by
  have b1 : ∀ p q, shownB1 m.par m.wr ns p = some q → q.1 = p := fun p q e => by
    unfold shownB1 at e
    split at e
    · cases e
    · split at e
      · cases e; rfl
      · cases e
  unfold getB shownB
  rw [fm_valG b1 (show (shownPs m.par m.wr ns).Nodup from asc_nd)]
  by_cases hp : p ∈ shownPs m.par m.wr ns
  · rw [if_pos hp, if_pos hp]
    unfold shownB1
    by_cases h1 : 1 < (foundL m.par m.wr ns p).length
    · rw [if_pos h1, if_pos h1]; rfl
    · rw [if_neg h1, if_neg h1]
      by_cases h2 : 0 < (foundL m.par m.wr ns p).headD 0
      · rw [if_pos h2, if_pos h2]; rfl
      · rw [if_neg h2, if_neg h2]; rfl
  · rw [if_neg hp, if_neg hp]; rfl
theorem headD_mem {xs : List Int} : xs.headD 0 = 0 ∨ xs.headD 0 ∈ xs := by cases xs with
  | nil => exact .inl rfl
  | cons a xs => exact .inr List.mem_cons_self
theorem sB_range (hw : ∀ w ∈ m.wr, WrOk n w) (p : Int) : 0 ≤ getB (shownB m.par m.wr ns) p ∧ getB (shownB m.par m.wr ns) p ≤ 3 := by
  rw [sB_val]
  split
  · split
    · decide
    · split
      · rcases headD_mem (xs := foundL m.par m.wr ns p) with h | h
        · rw [h]; decide
        · exact found_val hw h
      · decide
  · decide
theorem sB_nd : (keysB (shownB m.par m.wr ns)).Nodup := (asc_nd (ns := keysB (wrB m.wr 0) ++ asc (wrotL m.par m.wr ns))).sublist shownB_keys
theorem sB_key (hw : ∀ w ∈ m.wr, WrOk n w) : ∀ p ∈ keysB (shownB m.par m.wr ns), 2 ≤ p ∧ p ≤ 2 * n + 1 := fun p hp => plsL_mem.mp (ps_in hw (shownB_keys.subset hp))
theorem sB_with (hw : ∀ w ∈ m.wr, WrOk n w) (hk : WrOk n mk) : BkE n (withB (shownB m.par m.wr ns) mk) := bkE_with sB_nd (sB_key hw) (sB_range hw) hk
theorem book_eq (lw : LwI m) (hw : ∀ w ∈ m.wr, WrOk n w) (hn : ∀ k ∈ ns, k < m.par.length) (hk : WrOk n mk) (ho : (plsL n).findSome? (clashF m ns mk) = none) (p : Int) : getB (withB (shownB m.par m.wr ns) mk) p = getB (bookL m ns mk n) p := by
  rw [getB_with sB_nd hk.nd]
  have bF : ∀ p q, bookF m ns mk p = some q → q.1 = p := fun p q e => by
    unfold bookF at e
    split at e
    · cases e; rfl
    · cases e
  have eR : getB (bookL m ns mk n) p = if p ∈ plsL n then (if 0 < mvL m ns mk p then mvL m ns mk p else 0) else 0 := by
    unfold getB bookL
    rw [fm_valG bF (srt_nd plsL_srt)]
    by_cases hp : p ∈ plsL n
    · rw [if_pos hp, if_pos hp]
      unfold bookF
      split <;> rfl
    · rw [if_neg hp, if_neg hp]; rfl
  rw [eR]
  by_cases hp : p ∈ plsL n
  · rw [if_pos hp]
    unfold mvL
    cases e : valG mk p with
    | some v =>
      simp only [Option.getD_some]
      have := (getB_wr hk e).1
      split <;> omega
    | none =>
      simp only [Option.getD_none]
      have hc : ¬ 1 < (lawFound m ns p).length := fun z => by
        have h1 : clashF m ns mk p = some (p, lawFound m ns p) := if_pos ⟨e, z⟩
        have h2 := List.findSome?_eq_none_iff.mp ho p hp
        rw [h1] at h2; cases h2
      rw [sB_val, found_eq lw hn]
      by_cases hs : p ∈ shownPs m.par m.wr ns
      · rw [if_pos hs, if_neg hc]
      · have := (out_found hs).2
        rw [found_eq lw hn] at this
        rw [if_neg hs, this]; rfl
  · rw [if_neg hp]
    have h1 : valG mk p = none := valG_out fun z => hp (by
      obtain ⟨x, hx, rfl⟩ := List.mem_map.mp z
      have := hk.ks x hx
      exact plsL_mem.mpr ⟨this.1, this.2.1⟩)
    rw [h1, Option.getD_none, sB_val, if_neg fun z => hp (ps_in hw z)]
end
end FS
/-! text M12 -/
/-! M12: the program's history beside the law's world. -/
namespace FS
open PySem PySem.Spec PyProof.Rows L2
theorem past_one {m : Wd} (lw : LwI m) {k j : Nat} (hk : k < m.par.length) (hj : j < m.par.length) : j ∈ pastL m.par [k] ↔ j ∈ inn m k := by
  rw [past_eq lw (fun n hn => by rw [List.mem_singleton.mp hn]; exact hk)]
  unfold lawPast
  rw [List.mem_filter, List.mem_range, decide_eq_true_eq]
  constructor
  · rintro ⟨_, h⟩
    by_cases z : j ∈ inn m k
    · exact z
    · rw [List.filter_cons, if_neg (by simpa using z)] at h
      exact absurd h (by simp)
  · intro z
    refine ⟨hj, ?_⟩
    rw [List.filter_cons, if_pos (by simpa using z)]
    simp
theorem early_eq {m : Wd} (lw : LwI m) {ns : List Nat} (hn : ∀ k ∈ ns, k < m.par.length) : earlyP m.par ns = earlyL m ns := by
  unfold earlyP earlyL
  refine find_congr fun k hk => ?_
  unfold earlyPF earlyF
  have e : ((ns.map fun n => decide (n ∈ pastL m.par [k])).all id = true) ↔ ((ns.filter fun n => decide (n ∈ inn m k)).length = ns.length) := by
    rw [List.length_filter_eq_length_iff, List.all_map, List.all_eq_true]
    refine forall_congr' fun j => forall_congr' fun hj => ?_
    have := past_one lw (hn k hk) (hn j hj)
    simp only [Function.comp, id, decide_eq_true_eq]
    exact this
  by_cases z : (ns.filter fun n => decide (n ∈ inn m k)).length = ns.length
  · rw [if_pos (e.mpr z), if_pos z]
  · rw [if_neg fun y => z (e.mp y), if_neg z]
theorem flat_len {α β : Type} {f : α → List β} {c : Nat} : ∀ {xs : List α}, (∀ x ∈ xs, (f x).length ≤ c) → (xs.flatMap f).length ≤ xs.length * c
  | [], _ => Nat.zero_le _
  | x :: xs, h => by
    have h1 := h x List.mem_cons_self
    have h2 := flat_len (xs := xs) fun y hy => h y (List.mem_cons_of_mem _ hy)
    rw [List.flatMap_cons, List.length_append, List.length_cons, Nat.add_mul]
    omega
theorem few_pls {n : Nat} {xs : List Int} (hn : n ≤ 10) (hl : xs.length ≤ 1000) (h : ∀ k ∈ xs, k ∈ plsL n) : Few xs := ⟨hl, fun ks nd hk => by
  have := nodup_len nd fun k hk' => h k (hk k hk')
  unfold plsL at this
  rw [List.length_map, List.length_range] at this; omega⟩
theorem mg_ok {n : Nat} {m : Wd} {h : Ht} (hp : h.par = m.par) (hw : h.wr = m.wr) (lw : LwI m) (wo : ∀ w ∈ m.wr, WrOk n w) (hn : n ≤ 10) (hl : m.par.length ≤ 15) {ns : List Nat} (h0 : ns ≠ []) (hns : ∀ k ∈ ns, k < m.par.length) : MgOk h ns := by
  have hpast : (pastL m.par ns).length ≤ 15 := Nat.le_trans pastL_len hl
  have hwl : ∀ k, (keysB (wrB m.wr k)).length ≤ 60 := fun k => by unfold keysB; rw [List.length_map]; exact (wr_ok wo k).len
  have hwr : (wrotL m.par m.wr ns).length ≤ 900 := by
    have := flat_len (xs := pastL m.par ns) (c := 60) (f := fun k => if k = 0 then [] else keysB (wrB m.wr k)) fun k _ => by
      split
      · exact Nat.zero_le _
      · exact hwl k
    unfold wrotL
    have h2 : (pastL m.par ns).length * 60 ≤ 15 * 60 := Nat.mul_le_mul_right _ hpast
    omega
  have k0 : 0 < m.par.length := by
    cases ns with
    | nil => exact absurd rfl h0
    | cons a r => have := hns a List.mem_cons_self; omega
  refine ⟨?_, by rw [hp]; exact k0, fun k hk => by rw [hp]; exact hns k hk, ?_, ?_, fun p _ => ?_⟩
  · rw [hp, hw]
    refine ⟨fun i ps e p hp' => ?_, lw.ok.wr, lw.ok.le⟩
    have := lw.pl i ps e p hp'
    have := (List.getElem?_eq_some_iff.mp e).1
    omega
  · rw [hp, hw]
    exact few_pls hn (by omega) fun k hk => ps_in wo (ps_mem.mpr (.inr hk))
  · rw [hp, hw]
    refine few_pls hn ?_ fun k hk => ?_
    · have := hwl 0
      have := asc_len (ns := wrotL m.par m.wr ns)
      rw [List.length_append]; omega
    · rw [List.mem_append, asc_mem] at hk
      exact ps_in wo (ps_mem.mpr hk)
  · rw [hp, hw, found_eq lw hns]
    exact lw.ne h0 hns
def nms : List Str := ["main", "side", "third"]
structure Sim (n : Nat) (t : Tps) (m : Wd) (h : Ht) : Prop where
  par : h.par = m.par
  wr : h.wr = m.wr
  st : HSt n h
  be : ∀ i, BkE n (wrB h.bk i)
  bv : ∀ i p, getB (wrB h.bk i) p = getB (bkAt m i) p
  lw : LwI m
  wo : ∀ w ∈ m.wr, WrOk n w
  bo : ∀ b ∈ m.bk, BkOk n b
  law : ∀ i, brokenL (bkAt m i) n = none
  nm : t.map (·.1) = nms
  tip : ∀ x ∈ t.map (·.1), tipOf t x < m.par.length
theorem Sim.wi {n : Nat} {t : Tps} {m : Wd} {h : Ht} (s : Sim n t m h) : WdI n m := ⟨s.lw.ok, s.wo, s.bo, s.lw.il, fun ns p h1 h2 => s.lw.ne h1 h2⟩
theorem Sim.nd {n : Nat} {t : Tps} {m : Wd} {h : Ht} (s : Sim n t m h) : (t.map (·.1)).Nodup := by rw [s.nm]; decide
theorem Sim.tl {n : Nat} {t : Tps} {m : Wd} {h : Ht} (s : Sim n t m h) : t.length = 3 := by
  have := congrArg List.length s.nm
  rw [List.length_map] at this; exact this
theorem Sim.xl {n : Nat} {t : Tps} {m : Wd} {h : Ht} (s : Sim n t m h) {x : Str} (hx : x ∈ t.map (·.1)) : x.length ≤ 50 := by
  rw [s.nm] at hx
  unfold nms at hx
  simp at hx
  rcases hx with rfl | rfl | rfl <;> decide
theorem putG_keys {κ β} [DecidableEq κ] {b : List (κ × β)} {k : κ} {v : β} (h : k ∈ b.map (·.1)) : (putG b k v).map (·.1) = b.map (·.1) := by
  unfold putG
  rw [if_pos]
  · rw [List.map_map]
    refine List.map_congr_left fun q _ => ?_
    show (if q.1 = k then (q.1, v) else q).1 = q.1
    split <;> rfl
  · obtain ⟨q, hq, e⟩ := List.mem_map.mp h
    exact List.any_eq_true.mpr ⟨q, hq, decide_eq_true e⟩
theorem tip_put {t : Tps} {x y : Str} {v : Nat} : tipOf (putG t x v) y = if y = x then v else tipOf t y := by
  unfold tipOf
  by_cases e : y = x
  · subst e; rw [valG_put, if_pos rfl]; rfl
  · rw [valG_put2 e, if_neg e]
theorem putG_id {t : Tps} (nd : (t.map (·.1)).Nodup) {x : Str} (hx : x ∈ t.map (·.1)) : putG t x (tipOf t x) = t := by
  unfold putG
  rw [if_pos]
  · refine (List.map_congr_left fun q hq => ?_).trans (List.map_id t)
    by_cases e : q.1 = x
    · subst e
      rw [if_pos rfl]
      unfold tipOf
      rw [valG_in nd (show (q.1, q.2) ∈ t from hq)]; rfl
    · rw [if_neg e]; rfl
  · obtain ⟨q, hq, e⟩ := List.mem_map.mp hx
    exact List.any_eq_true.mpr ⟨q, hq, decide_eq_true e⟩
theorem Sim.move {n : Nat} {t : Tps} {m : Wd} {h : Ht} (s : Sim n t m h) {x : Str} {k : Nat} (hx : x ∈ t.map (·.1)) (hk : k < m.par.length) : Sim n (putG t x k) m h := by
  refine ⟨s.par, s.wr, s.st, s.be, s.bv, s.lw, s.wo, s.bo, s.law, by rw [putG_keys hx]; exact s.nm, fun y hy => ?_⟩
  rw [putG_keys hx] at hy
  rw [tip_put]
  split
  · exact hk
  · exact s.tip y hy
theorem wrB_snoc {xs : List Bk} {y : Bk} {i : Nat} : wrB (xs ++ [y]) i = if i = xs.length then y else wrB xs i := by
  unfold wrB
  by_cases h : i < xs.length
  · rw [List.getElem?_append_left h, if_neg (by omega)]
  · by_cases e : i = xs.length
    · subst e; rw [if_pos rfl, List.getElem?_append_right (Nat.le_refl _)]; simp
    · rw [if_neg e, List.getElem?_eq_none (by rw [List.length_append]; simp; omega), List.getElem?_eq_none (by omega)]
theorem bkE_nil {n : Nat} : BkE n [] := bkOk_nil.e
theorem Sim.add {n : Nat} {t : Tps} {m : Wd} {h : Ht} (s : Sim n t m h) (hl : m.par.length < 60) {x : Str} (hx : x ∈ t.map (·.1)) {kd : Str} {ps : List Nat} (h0 : ps ≠ []) (hps : ∀ p ∈ ps, p < m.par.length) {w b pb : Bk} (hw : WrOk n w) (hb : BkOk n b) (hl0 : brokenL b n = none) (hpb : BkE n pb) (hv : ∀ p, getB pb p = getB b p) :
    Sim n (putG t x m.par.length) (addM m ps w b) (hadd h kd ps w pb) := by
  have e1 : (addM m ps w b).bk = m.bk ++ [b] := by show m.bk ++ [lawW b []] = _; rw [lawW_id hb]
  have el : (addM m ps w b).par.length = m.par.length + 1 := by show (m.par ++ [ps]).length = _; simp
  have hbl : h.bk.length = m.bk.length := by rw [s.st.ok.bk, s.lw.ok.bk, s.par]
  have ebk : ∀ i, bkAt (addM m ps w b) i = wrB (m.bk ++ [b]) i := fun i => by unfold bkAt wrB; rw [e1]
  obtain ⟨ok, b0, k0, p0, w0, bk0, nn, hb0⟩ := s.st
  refine ⟨by show h.par ++ [ps] = m.par ++ [ps]; rw [s.par], by show h.wr ++ [w] = m.wr ++ [w]; rw [s.wr], ⟨⟨?_, ?_, ?_, ?_⟩, b0, ?_, ?_, ?_, ?_, nn, hb0⟩, fun i => ?_, fun i p => ?_, s.lw.add hl h0 hps, fun w' hw' => ?_, fun b' hb' => ?_, fun i => ?_, by rw [putG_keys hx]; exact s.nm, fun y hy => ?_⟩
  · show (h.kd ++ [kd]).length = (h.par ++ [ps]).length; rw [List.length_append, List.length_append, ok.kd]; rfl
  · show (h.wr ++ [w]).length = (h.par ++ [ps]).length; rw [List.length_append, List.length_append, ok.wr]; rfl
  · show (h.bk ++ [pb]).length = (h.par ++ [ps]).length; rw [List.length_append, List.length_append, ok.bk]; rfl
  · show (h.par ++ [ps]).length ≤ 60; rw [List.length_append, s.par]; exact hl
  · exact List.getElem?_append_left (List.getElem?_eq_some_iff.mp k0).1 ▸ k0
  · exact List.getElem?_append_left (List.getElem?_eq_some_iff.mp p0).1 ▸ p0
  · exact List.getElem?_append_left (List.getElem?_eq_some_iff.mp w0).1 ▸ w0
  · exact List.getElem?_append_left (List.getElem?_eq_some_iff.mp bk0).1 ▸ bk0
  · show BkE n (wrB (h.bk ++ [pb]) i)
    rw [wrB_snoc]
    split
    · exact hpb
    · exact s.be i
  · show getB (wrB (h.bk ++ [pb]) i) p = _
    rw [ebk, wrB_snoc, wrB_snoc, hbl]
    split
    · exact hv p
    · exact s.bv i p
  · rcases List.mem_append.mp (show w' ∈ m.wr ++ [w] from hw') with z | z
    · exact s.wo w' z
    · rw [List.mem_singleton.mp z]; exact hw
  · rw [e1] at hb'
    rcases List.mem_append.mp hb' with z | z
    · exact s.bo b' z
    · rw [List.mem_singleton.mp z]; exact hb
  · rw [ebk, wrB_snoc]
    split
    · exact hl0
    · exact s.law i
  · rw [putG_keys hx] at hy
    rw [tip_put, el]
    split
    · omega
    · have := s.tip y hy; omega
end FS
/-! text E43 -/
/-! E43: _law_do. -/
namespace FS
open PySem PySem.Spec PyProof.Rows L2
/-- all but these two cells is as it was -/
structure Fr (L L' : Sto) (q qe : Addr) : Prop where
  P : L'.P = L.P
  c : ∀ a, a ≠ q → a ≠ qe → L' a = L a
theorem Fr.refl {L : Sto} {q qe : Addr} : Fr L L q qe := ⟨rfl, fun _ _ _ => rfl⟩
theorem fr_dput {CD : Addr} {L : Sto} {q qe : Addr} {dp st st' : D} {es : List D} : Fr L (dput CD L q qe dp es st st') q qe := ⟨rfl, fun a h1 h2 => by unfold dput; rw [Sto.set_ne h1, Sto.set_ne h2]⟩
def Dl.nz : Dl → Prop
  | .wr _ w => w ≠ []
  | .mg _ _ _ => True
theorem dueW_unl {t : Tps} {m : Wd} {n : Nat} {x : Str} {w : Bk} {r : Brk} (e : brokenL (lawW (bkAt m (tipOf t x)) w) n = some r) : dueL t m n (.wr x w) = (.unl r, t, m) := by simp only [dueL, dueW, e]
theorem dueW_told {t : Tps} {m : Wd} {n : Nat} {x : Str} {w : Bk} (e : brokenL (lawW (bkAt m (tipOf t x)) w) n = none) : dueL t m n (.wr x w) = (.told m.par.length, putG t x m.par.length, addM m [tipOf t x] w (lawW (bkAt m (tipOf t x)) w)) := by simp only [dueL, dueW, e]
theorem dueM_early {t : Tps} {m : Wd} {n : Nat} {x : Str} {os : List Str} {mk : Bk} {j : Nat} (z : mk.length = 0) (e : earlyL m (nodesL t x os) = some j) : dueL t m n (.mg x os mk) = (.told j, putG t x j, m) := by simp only [dueL, dueM, if_pos z, e]
theorem dueM_late {t : Tps} {m : Wd} {n : Nat} {x : Str} {os : List Str} {mk : Bk} (e : mk.length = 0 → earlyL m (nodesL t x os) = none) : dueL t m n (.mg x os mk) = dueM2 t m n x (nodesL t x os) mk := by
  simp only [dueL, dueM]
  by_cases z : mk.length = 0
  · rw [if_pos z, e z]
  · rw [if_neg z]
theorem dueM_plc {t : Tps} {m : Wd} {n : Nat} {x : Str} {ns : List Nat} {mk : Bk} {p : Int} {f : List Int} (e : (plsL n).findSome? (clashF m ns mk) = some (p, f)) : dueM2 t m n x ns mk = (.plc p f, t, m) := by simp only [dueM2, e]
theorem dueM_rul {t : Tps} {m : Wd} {n : Nat} {x : Str} {ns : List Nat} {mk : Bk} {r : Brk} (e0 : (plsL n).findSome? (clashF m ns mk) = none) (e : brokenL (bookL m ns mk n) n = some r) : dueM2 t m n x ns mk = (.rul r, t, m) := by simp only [dueM2, e0, e]
theorem dueM_told {t : Tps} {m : Wd} {n : Nat} {x : Str} {ns : List Nat} {mk : Bk} (e0 : (plsL n).findSome? (clashF m ns mk) = none) (e : brokenL (bookL m ns mk n) n = none) : dueM2 t m n x ns mk = (.told m.par.length, putG t x m.par.length, addM m ns mk (bookL m ns mk n)) := by simp only [dueM2, e0, e]
section
variable {B : Bg} {C CD CH CR CA CN CU CP CQ : Addr} {n : Nat}
abbrev tDo : Stmt := top 129
theorem scTDo : FnScope ["_law_desk", "_law_deed_here", "e"] ["_law_desk", "_law_deed_here"] (defScope tDo) := ⟨rfl, rfl, rfl, by decide +kernel, rfl, by decide +kernel, by decide +kernel⟩
/-- a desk whose history stands beside the law's world -/
structure Dsk (C CD CH CR CA CN : Addr) (n : Nat) (L : Sto) (q qe : Addr) (dp rb k : D) (t : Tps) (m : Wd) (c : Nat) : Prop where
  ex : ∃ h tb es xs, DkAt CD L q qe dp (stD C (hD CH rb h) t k xs) tb es ∧ Sim n t m h ∧ es.length ≤ c ∧ xs.length ≤ c
  r : RbD CR CA CN n rb
  n10 : n ≤ 10
def rTDo (C CD CH CR CA CN : Addr) (n : Nat) : ASp := fun ds L post => ∃ q qe dp rb k t m d c, ds = [.ptr q, encDl d] ∧ Dsk C CD CH CR CA CN n L q qe dp rb k t m c ∧ c ≤ 800 ∧ m.par.length ≤ 15 ∧ d.ok n (t.map (·.1)) ∧ d.nz ∧
  ∀ L', Dsk C CD CH CR CA CN n L' q qe dp rb k (dueL t m n d).2.1 (dueL t m n d).2.2 (c + 1) → Fr L L' q qe → post (encOut (dueL t m n d).1) L'
theorem ok_tdo {f : Addr} {fd : FuncData} (F : Fun B.K "_law_do" "_law_do" tDo f fd) (cRw : Cl B 1 "_law_written_raw" rTRw) (mw : MclX B 12 CD "write" [] (rMDw C CD CH CR CA CN CU CP CQ n)) (mg : MclX B 12 CD "merge" [.non] (rMDm C CD CH CR CA CN CU CP CQ n)) (mk : MclK B 12 CD "merge" 3 ["answers"] (rMDm C CD CH CR CA CN CU CP CQ n))
    (c1 : Hc B "PlaceClash" CP "place" "found") (c2 : Hc B "RuleClash" CQ "key" "bar") (c3 : Hc B "Unlawful" CU "key" "bar")
    (m11 : PySem.W.exmOne B.K (.ref CP) (.ref CP) = some true) (m21 : PySem.W.exmOne B.K (.ref CQ) (.ref CP) = some false) (m31 : PySem.W.exmOne B.K (.ref CU) (.ref CP) = some false) (m22 : PySem.W.exmOne B.K (.ref CQ) (.ref CQ) = some true) (m32 : PySem.W.exmOne B.K (.ref CU) (.ref CQ) = some false) (m33 : PySem.W.exmOne B.K (.ref CU) (.ref CU) = some true) :
    FnOk B.P B.w B.K B.mg B.base CX0 13 f fd ["_law_desk", "_law_deed_here"] (low (rTDo C CD CH CR CA CN n)) := by
  refine ok_def F scTDo (fun ds L post ⟨_, _, _, _, _, _, _, _, _, h, _⟩ => by rw [h]; rfl) fun S hS ds L post ⟨q, qe, dp, rb, k, t, m, d, c, e, dk, hc, hml, hok, hnz, hp⟩ => ?_
  subst e
  obtain ⟨⟨h, tb, es, xs, at_, sim, hes, hxs⟩, hr, hn⟩ := dk
  have lq : Lk L (.ptr q) (dkD CD dp (stD C (hD CH rb h) t k xs) qe tb) := .inr ⟨q, rfl, at_.hq⟩
  have htl := sim.tl
  refine ws_cons (wo_try3 (i := 2) hS c1 c2 c3 m11 m21 m31 m22 m32 m33 fun W => ?_)
  cases d with
  | wr x w =>
    obtain ⟨hx, hw⟩ := hok
    have hlt := sim.tip x hx
    have hbv : ∀ p, getB (withB (wrB h.bk (tipOf t x)) w) p = getB (lawW (bkAt m (tipOf t x)) w) p := with_law (sim.be _) (by
      unfold bkAt
      cases e : m.bk[tipOf t x]? with
      | none => exact bkOk_nil
      | some b => exact sim.bo b (List.mem_of_getElem? e)) hw (sim.bv _)
    have hbr : brokenL (withB (wrB h.bk (tipOf t x)) w) n = brokenL (lawW (bkAt m (tipOf t x)) w) n := brokenL_congr hbv
    refine ws_if (et_eqS (x := "write") (ev_ixT (atI_nat (j := 0) rfl) (ev_var 1) ev_int) ev_str) (fun _ => ?_) fun z => absurd z (by decide)
    refine ws_retX (wex_tup2 (x1 := 0) ev_str (wex_meth mw (by decide) (Ev.we (ev_var 0) ⟨⟨_, lq, rfl⟩, (ea_2 (ev_ixT (atI_nat (j := 1) rfl) (ev_var 1) ev_int) (ev_call cRw (by decide) (ea_1 (ev_ixT (atI_nat (j := 2) rfl) (ev_var 1) ev_int)) ⟨w, rfl, hw.nd, hw.len, rfl, rfl⟩)).wa ⟨q, x, _, rfl, at_write at_ hr hn sim.st hx (by omega) (by rw [sim.par]; exact hlt) hnz hw (sim.be _) (nn_with (sim.be _).nd (sim.be _).nn hw) (by omega) (by omega) (sim.xl hx) (fun r e => ?_) fun e tx => ?_⟩⟩)))
    · have hd := dueW_unl (t := t) (hbr ▸ e)
      rw [hd] at hp
      exact ⟨.str r.1, barD r, .inr (.inr ⟨rfl, rfl, hp L ⟨⟨h, tb, es, xs, at_, sim, by omega, by omega⟩, hr, hn⟩ .refl⟩)⟩
    · have hd := dueW_told (t := t) (hbr ▸ e)
      rw [hd] at hp
      have hbo : BkOk n (lawW (bkAt m (tipOf t x)) w) := BkOk.law (by
        unfold bkAt
        cases e : m.bk[tipOf t x]? with
        | none => exact bkOk_nil
        | some b => exact sim.bo b (List.mem_of_getElem? e)) hw
      have sim' := sim.add (by omega) hx (kd := "write") (ps := [tipOf t x]) (by simp) (fun p hp => by rw [List.mem_singleton.mp hp]; exact hlt) hw hbo (hbr ▸ e) ((sim.be _).with hw) hbv
      have fin := hp (dput CD L q qe dp es (stD C (hD CH rb h) t k xs) (stD C (hD CH rb _) _ k (xs ++ [tx]))) ⟨⟨_, _, _, _, at_.put, sim', by rw [List.length_append, List.length_singleton]; omega, by rw [List.length_append, List.length_singleton]; omega⟩, hr, hn⟩ fr_dput
      rw [← sim.par] at fin
      exact fin
  | mg x os mk' =>
    obtain ⟨hx, hos, hol, hw⟩ := hok
    have hns : ∀ j ∈ nodesL t x os, j < m.par.length := fun j hj => by
      unfold nodesL at hj
      obtain ⟨y, hy, rfl⟩ := List.mem_map.mp hj
      rcases List.mem_cons.mp hy with rfl | hy
      · exact sim.tip _ hx
      · exact sim.tip _ (hos y hy)
    have h0 : nodesL t x os ≠ [] := by unfold nodesL; simp
    have mo := mg_ok sim.par sim.wr sim.lw sim.wo hn hml h0 hns
    have ee : earlyP h.par (nodesL t x os) = earlyL m (nodesL t x os) := by rw [sim.par]; exact early_eq sim.lw hns
    have eo : opn (shownO h.par h.wr (nodesL t x os)) mk' = (plsL n).findSome? (clashF m (nodesL t x os) mk') := by rw [sim.par, sim.wr]; exact opn_eq sim.lw sim.wo hns
    have hbe : BkE n (withB (shownB h.par h.wr (nodesL t x os)) mk') := by rw [sim.par, sim.wr]; exact sB_with sim.wo hw
    have ebk : (plsL n).findSome? (clashF m (nodesL t x os) mk') = none → ∀ p, getB (withB (shownB h.par h.wr (nodesL t x os)) mk') p = getB (bookL m (nodesL t x os) mk' n) p := fun e p => by
      rw [sim.par, sim.wr]; exact book_eq sim.lw sim.wo hns hw e p
    have key : ∀ {E : AE}, (∀ d L', E.rt d L' ↔ post d L') → (∀ Ce fs L', E.xc Ce fs L' ↔ ∃ d1 d2, (Ce = CP ∧ fs = ([("found", d2), ("place", d1)] : List (Str × D)) ∧ post (.tup [.str "PlaceClash", d1, d2]) L') ∨ (Ce = CQ ∧ fs = ([("bar", d2), ("key", d1)] : List (Str × D)) ∧ post (.tup [.str "RuleClash", d1, d2]) L') ∨ (Ce = CU ∧ fs = ([("bar", d2), ("key", d1)] : List (Str × D)) ∧ post (.tup [.str "Unlawful", d1, d2]) L')) →
        rAt C CD CH CR CA CN CU CP CQ n q (.tup [.str "merge", .str x, .lst (encS os), .dct (encB mk')]) L (fun y L2 => E.rt (.tup [.str "told", y]) L2) E.xc := fun {E} hE hX => by
      refine at_merge at_ hr hn sim.st hx hos (by omega) (by omega) mo hw hbe.nn (by omega) (by omega) (sim.xl hx) (fun o ho => sim.xl (hos o ho)) (fun j z e => ?_) (fun ea p f e => ?_) (fun ea e0 r e => ?_) fun ea e0 e tx => ?_
      · rw [ee] at e
        have hj : j < m.par.length := by
          unfold earlyL at e
          obtain ⟨i, hi, e⟩ := List.exists_of_findSome?_eq_some e
          unfold earlyF at e
          split at e
          · cases e; exact hns _ hi
          · cases e
        rw [dueM_early z e] at hp
        split
        · next ej =>
          subst ej
          rw [hE]
          refine hp L ⟨⟨h, tb, es, xs, ?_, ?_, by omega, by omega⟩, hr, hn⟩ .refl
          · rw [putG_id sim.nd hx]; exact at_
          · rw [putG_id sim.nd hx]; exact sim
        · intro tx
          rw [hE]
          exact hp _ ⟨⟨_, _, _, _, at_.put, sim.move hx hj, by rw [List.length_append, List.length_singleton]; omega, by rw [List.length_append, List.length_singleton]; omega⟩, hr, hn⟩ fr_dput
      · rw [ee] at ea
        rw [eo] at e
        rw [dueM_late ea, dueM_plc e] at hp
        rw [hX]
        exact ⟨.int p, .lst (f.map D.int), .inl ⟨rfl, rfl, hp L ⟨⟨h, tb, es, xs, at_, sim, by omega, by omega⟩, hr, hn⟩ .refl⟩⟩
      · rw [ee] at ea
        rw [eo] at e0
        rw [brokenL_congr (ebk e0)] at e
        rw [dueM_late ea, dueM_rul e0 e] at hp
        rw [hX]
        exact ⟨.str r.1, barD r, .inr (.inl ⟨rfl, rfl, hp L ⟨⟨h, tb, es, xs, at_, sim, by omega, by omega⟩, hr, hn⟩ .refl⟩)⟩
      · rw [ee] at ea
        rw [eo] at e0
        have e' := e
        rw [brokenL_congr (ebk e0)] at e'
        rw [dueM_late ea, dueM_told e0 e'] at hp
        rw [hE]
        have sim' := sim.add (by omega) hx (kd := "merge") h0 hns hw (bookL_ok sim.wi hw) e' hbe (ebk e0)
        have fin := hp (dput CD L q qe dp es (stD C (hD CH rb h) t k xs) (stD C (hD CH rb _) _ k (xs ++ [tx]))) ⟨⟨_, _, _, _, at_.put, sim', by rw [List.length_append, List.length_singleton]; omega, by rw [List.length_append, List.length_singleton]; omega⟩, hr, hn⟩ fr_dput
        rw [← sim.par] at fin
        exact fin
    refine ws_if (et_eqS (x := "merge") (ev_ixT (atI_nat (j := 0) rfl) (ev_var 1) ev_int) ev_str) (fun z => absurd z (by decide)) fun _ => ws_nil ?_
    refine ws_if (et_eqI (ev_lenD (ds := encB mk') (.inl rfl) (ev_ixT (atI_nat (j := 3) rfl) (ev_var 1) ev_int)) ev_int) (fun z => ?_) fun _ => ws_nil ?_
    · have hz : mk' = [] := by
        have := of_decide_eq_true z
        rw [length_encB] at this
        exact List.eq_nil_of_length_eq_zero (by omega)
      subst hz
      exact ws_retX (wex_tup2 (x1 := 0) ev_str (wex_meth mg (by decide) (Ev.we (ev_var 0) ⟨⟨_, lq, rfl⟩, (ea_2 (ev_ixT (atI_nat (j := 1) rfl) (ev_var 1) ev_int) (ev_list (.inl rfl) (ev_ixT (atI_nat (j := 2) rfl) (ev_var 1) ev_int))).wa ⟨q, x, _, _, [], rfl, .inl ⟨rfl, rfl⟩, key (fun _ _ => Iff.rfl) fun _ _ _ => Iff.rfl⟩⟩)))
    · exact ws_retX (wex_tup2 (x1 := 0) ev_str (wex_methK mk (by decide) (Ev.we (ev_var 0) ⟨⟨_, lq, rfl⟩, (ea_2 (ev_ixT (atI_nat (j := 1) rfl) (ev_var 1) ev_int) (ev_list (.inl rfl) (ev_ixT (atI_nat (j := 2) rfl) (ev_var 1) ev_int))).wa ⟨rfl, (ev_call cRw (by decide) (ea_1 (ev_ixT (atI_nat (j := 3) rfl) (ev_var 1) ev_int)) ⟨mk', rfl, hw.nd, hw.len, rfl, rfl⟩).we ⟨q, x, _, _, _, rfl, .inr rfl, key (fun _ _ => Iff.rfl) fun _ _ _ => Iff.rfl⟩⟩⟩)))
end
end FS
/-! text W35 -/
/-! W35: what only reads, reads things that stay. -/
namespace FS
open PySem PySem.Spec PyProof.Rows L2
inductive FzG (L L2 : Sto) : Gam → Gam → Prop
  | nil : FzG L L2 [] []
  | skip {a G G'} : FzG L L2 G G' → FzG L L2 (a :: G) (none :: G')
  | cons {d d' G G'} : Fz L L2 d d' → FzG L L2 G G' → FzG L L2 (some d :: G) (some d' :: G')
theorem FzG.len {L L2 : Sto} {G G' : Gam} (g : FzG L L2 G G') : G'.length = G.length := by
  induction g with
  | nil => rfl
  | skip _ ih => rw [List.length_cons, List.length_cons, ih]
  | cons _ _ ih => rw [List.length_cons, List.length_cons, ih]
theorem FzG.at_ {L L2 : Sto} {G G' : Gam} (g : FzG L L2 G G') : ∀ {i : Nat} {d' : D}, G'[i]? = some (some d') → ∃ d, G[i]? = some (some d) ∧ Fz L L2 d d' := by
  induction g with
  | nil => intro i d' h; simp at h
  | skip _ ih =>
    intro i d' h
    cases i with
    | zero => simp at h
    | succ i => exact ih (by simpa using h)
  | cons f _ ih =>
    intro i d' h
    cases i with
    | zero => simp at h; subst h; exact ⟨_, rfl, f⟩
    | succ i => exact ih (by simpa using h)
theorem abs_fz {L K2 : Sto} {G G' : Gam} {σ : L2.St} {H : Hp} (s : Sub K2 L) (g : FzG L K2 G G') (A : Abs G L σ H) : Abs G' K2 σ H :=
  ⟨by rw [g.len]; exact A.len, fun i d' h => let ⟨d, e, f⟩ := g.at_ h; let ⟨v, ev, r⟩ := A.slot i d e; ⟨v, ev, f H v A.sto r⟩, s.ok A.sto⟩
theorem sub_cold {L : Sto} : Sub L.cold L := ⟨rfl, fun _ _ h => by cases h⟩
inductive FzL (L L2 : Sto) : List D → List D → Prop
  | nil : FzL L L2 [] []
  | cons {d d' ds ds'} : Fz L L2 d d' → FzL L L2 ds ds' → FzL L L2 (d :: ds) (d' :: ds')
theorem fz_lst {L : Sto} {p : Addr} {ds ds' : List D} (h : L p = some (.lst ds)) (hs : FzL L L.cold ds ds') : Fz L L.cold (.ptr p) (.lst ds') := fun H v so r => by
  cases r
  have nd : ¬ L.cold.dom p := fun z => z.elim (fun z => z rfl) fun z => by
    have := (so.prot p z).2; rw [h] at this; cases this
  cases so.cell p _ h with
  | @lst _ _ vs e rs =>
  refine .lst nd e ?_
  clear e h
  induction hs generalizing vs with
  | nil => cases rs; exact .nil
  | cons f _ ih =>
    cases rs with
    | cons a b => exact .cons (f H _ so a) (ih b)
section
variable {B : Bg} {N : List Str} {sc : Scope} {k : Nat}
variable {S : Sit B N sc k} {G G' : Gam} {L : Sto} {e a b c o tg it : Expr} {pos p apos : Pos} {post : D → Sto → Prop}
/-- an expression that only reads -/
theorem ev_fz {r : D} (g : FzG L L.cold G G') (hw : Ev S G' L.cold e r) (hr : ∃ v, Fl r v := by first | exact ⟨_, .bl⟩ | exact ⟨_, .int⟩ | exact ⟨_, .str⟩) : Ev S G L e r := ev_cold hr (fun σ H A => abs_fz sub_cold g A) hw
/-- for k in x[j], x a list whose thing j is a dict -/
theorem dp_keysIx (i : Nat) (j : Nat) {m : Bool} {ds : List D} {kvs : List (Key × D)} {x : Str} {p1 p2 pos : Pos} {j2 : Nat} (hd : ds[j]? = some (.dct kvs)) (hG : G[i]? = some (some (.lst ds)) := by rfl) (hN : N[i]? = some x := by rfl) (hx : Vis sc x := by first | exact Or.inl rfl | exact Or.inr (Or.inl rfl) | exact Or.inr (Or.inr rfl)) (hdb : (x == ("__debug__" : Str)) = false := by decide) (hcd : (x == ("__classdict__" : Str)) = false := by decide)
    (hs : PlainIx (.Constant (.int (j : Nat)) j2 p2) := by exact fun _ _ => rfl) : DPre m S G L tg (.Subscript (.Name x p1) (.Constant (.int (j : Nat)) j2 p2) pos) (keysD kvs) := fun σ H A => by
  obtain ⟨v, hv, rv⟩ := A.slot i _ hG
  cases rv with
  | @lst p _ vs n hp rs =>
  obtain ⟨w, hw, rw'⟩ := rs.get hd
  cases rw' with
  | @dct q _ us n2 hq ru =>
  refine ⟨q, us, hq, n2, fun H1 od h1 A1 kp => wiAt_keys (fun Q hQ => ?_) A1 h1 n2 (ru.mono kp)⟩
  have hp1 : H1 p = some (.lst vs) := ((kp p n _ (.inl hp)).2 hp (fun _ z => nomatch z) (fun _ _ z => nomatch z)).2
  have hj : j < vs.length := (List.getElem?_eq_some_iff.mp hw).1
  exact ⟨L2.tOp (rIxL B.K) (ME S (.Name x p1)) (tC (.int (j : Nat))), fun X hX => pe_ix (ixl S X hX) (me hX) pe_int hs, name_at hv hN hx hdb hcd _ ⟨p, vs, (j : Nat), .ref q, rfl, rfl, .inl (.inl hp1), by rw [atI_nat hw], hQ⟩⟩
end
end FS
/-! text E44 -/
/-! E44: _law_stands. -/
namespace FS
open PySem PySem.Spec PyProof.Rows L2
def wD (m : Wd) : D := .lst [.lst (encLk m.par), .lst (encW m.wr), .lst (encW m.bk), .lst (encLk m.inn)]
def mD (t : Tps) (m : Wd) : D := .lst [.dct (encT t), wD m]
theorem wD_at {L : Sto} {m : Wd} : AtW L (wD m) m := ⟨_, _, _, _, .inl rfl, .inl rfl, .inl rfl, .inl rfl, .inl rfl⟩
theorem eqv_ints : ∀ ns : List Int, PyData.eqvAll (ns.map PyData.int) (ns.map PyData.int) = true
  | [] => rfl
  | n :: ns => by
    show (PyData.eqv (.int n) (.int n) && PyData.eqvAll (ns.map PyData.int) (ns.map PyData.int)) = true
    rw [eqv_ints ns]; simp [PyData.eqv]
theorem shaped_ints (ns : List Int) : SeqAt.shaped (.list (ns.map PyData.int)) = true := by
  have h1 : ∀ ns : List Int, PyData.canLayAll0 (ns.map PyData.int) = true := fun ns => by
    induction ns with
    | nil => rfl
    | cons n ns ih => exact ih
  have h2 : ∀ ns : List Int, PyData.depthAll (ns.map PyData.int) ≤ 1 := fun ns => by
    induction ns with
    | nil => exact Nat.zero_le _
    | cons n ns ih => exact Nat.max_le.mpr ⟨by show PyData.depth (.int n) ≤ 1; simp [PyData.depth], ih⟩
  unfold SeqAt.shaped
  rw [Bool.and_eq_true]
  refine ⟨h1 ns, decide_eq_true ?_⟩
  have := h2 ns
  show PyData.depthAll _ + 1 ≤ 64; omega
theorem fm_all {α β : Type} {f : α → Option β} {g : α → β} : ∀ {xs : List α}, (∀ x ∈ xs, f x = some (g x)) → xs.filterMap f = xs.map g
  | [], _ => rfl
  | x :: xs, h => by rw [List.filterMap_cons, h x List.mem_cons_self, List.map_cons, fm_all fun y hy => h y (List.mem_cons_of_mem _ hy)]
theorem fm_filt {α β : Type} {p : α → Bool} {g : α → β} : ∀ {xs : List α}, (xs.filterMap fun x => if p x = true then some (g x) else none) = (xs.filter p).map g
  | [] => rfl
  | x :: xs => by
    rw [List.filterMap_cons, List.filter_cons]
    by_cases h : p x = true
    · rw [if_pos h, if_pos h]; simp only [List.map_cons]; rw [fm_filt]
    · rw [if_neg h, if_neg h]; exact fm_filt
theorem Et.eq {B : Bg} {N : List Str} {sc : Scope} {k : Nat} {S : Sit B N sc k} {G : Gam} {L : Sto} {e : Expr} {b c : Bool} (h : Et S G L e b) (z : b = c) : Et S G L e c := z ▸ h
section
variable {B : Bg} {CH : Addr} {n : Nat}
abbrev tSn : Stmt := top 132
theorem scTSn : FnScope ["_law_history", "_law_model", "_law_name", "_law_count", "_law_told", "_law_world_here", "_law_tip", "_law_items", "_law_position", "_law_entry", "_law_mark", "_law_standing", "_law_item", "_law_k", "_law_i"] ["_law_history", "_law_model", "_law_name", "_law_count", "_law_told"] (defScope tSn) := ⟨rfl, rfl, rfl, by decide +kernel, rfl, by decide +kernel, by decide +kernel⟩
/-- what stands at the places of an arrangement -/
structure StOk (m : Wd) (k n : Nat) (a : Arr) : Prop where
  hv1 : ∀ e ∈ a, ∀ j ∈ lawHeads m [k] (2 * e.2.1), getB (wrB m.wr j) (2 * e.2.1) = e.1
  hv2 : ∀ e ∈ a, ∀ j ∈ lawHeads m [k] (2 * e.2.1 + 1), getB (wrB m.wr j) (2 * e.2.1 + 1) = e.2.2
  hc : ∀ i : Int, 1 ≤ i → i ≤ n → ((a.map (·.2.1)).filter fun j => decide (j = i)).length = if 0 < getB (bkAt m k) (2 * i) then 1 else 0
  hr : ∀ e ∈ a, 1 ≤ e.2.1 ∧ e.2.1 ≤ n
  nd : (a.map (·.1)).Nodup
  len : a.length ≤ 60
def rTSn (CH : Addr) (n : Nat) : ASp := fun ds L post => ∃ rb h t m x a, ds = [hD CH rb h, mD t m, .str x, .int (n : Nat), .dct (encA a)] ∧ Sim n t m h ∧ x ∈ t.map (·.1) ∧ n ≤ 10 ∧ StOk m (tipOf t x) n a ∧ post (.bl true) L
theorem ok_tsn {f : Addr} {fd : FuncData} (F : Fun B.K "_law_stands" "_law_stands" tSn f fd) (cIn : Cl B 1 "_law_ints" rTIn) (cHe : Cl B 2 "_law_heads" rTHe) (cHs : Cl B 4 "heads" (rHs CH)) : FnOk B.P B.w B.K B.mg B.base CX0 5 f fd ["_law_history", "_law_model", "_law_name", "_law_count", "_law_told"] (low (rTSn CH n)) := by
  refine ok_def F scTSn (fun ds L post ⟨_, _, _, _, _, _, h, _⟩ => by rw [h]; rfl) fun S hS ds L post ⟨rb, h, t, m, x, a, e, sim, hx, hn, so, hp⟩ => ?_
  subst e
  have hline : 1000 ≤ sizeLine := by decide
  have hk := sim.tip x hx
  have mo1 := sim.lw.ok
  have tn := tip_at hx
  generalize tipOf t x = k at *
  have hal := so.len
  refine ws_setC hS 5 ((ev_ix (atI_nat (j := 1) rfl) (.inl rfl) (ev_var 1) ev_int).we ?_)
  refine ws_set 6 ((ev_dgetS tn (.inl rfl) (ev_ix (atI_nat (j := 0) rfl) (.inl rfl) (ev_var 1) ev_int) (ev_var 2)).we ?_)
  refine ws_set 7 (we_newL fun qi ni => ?_)
  have ek : keysD (encA a) = (a.map (·.1)).map D.int := by unfold keysD encA; rw [List.map_map, List.map_map]; rfl
  refine ws_cons (wo_forK 4 rfl (forW_inv (fun i G' L' => ∃ t1 t2 t3 t4, G' = [some (hD CH rb h), some (mD t m), some (.str x), some (.int (n : Nat)), some (.dct (encA a)), some (wD m), some (natD k), some (.ptr qi), t1, t2, t3, t4, none, none, none] ∧ L' = L.set qi (.lst ((((a.take i).map (·.2.1))).map D.int))) ⟨_, _, _, _, rfl, rfl⟩ ?_ ?_))
  · rintro i d G' L' hd ⟨t1, t2, t3, t4, rfl, rfl⟩
    rw [ek, List.map_map] at hd
    obtain ⟨⟨pos, it, ct⟩, ha, rfl⟩ := map_get hd
    have hm := List.mem_of_getElem? ha
    have hil : i < a.length := (List.getElem?_eq_some_iff.mp ha).1
    have tk : a.take (i + 1) = a.take i ++ [(pos, it, ct)] := by rw [List.take_succ, ha]; rfl
    refine ⟨_, _, wg_name 8, ?_⟩
    refine ws_set 9 ((ev_dgetI (kvs := encA a) (d := encM (it, ct)) (valG_in (by
      unfold encA; rw [List.map_map]
      have := so.nd
      rw [List.nodup_iff_pairwise_ne, List.pairwise_map] at *
      exact this.imp fun h z => h (Sum.inl.inj z)) (List.mem_map.mpr ⟨(pos, it, ct), hm, rfl⟩)) (.inl rfl) (ev_var 4) (ev_var 8)).we ?_)
    refine ws_if (ew_or (et_not (et_val (ev_isi (r := true) .tup (by decide +kernel) (ev_var 9) (ev_tyn (by decide) boot_tuple)))) fun _ => ew_or (et_neI (ev_lenT (ds := [.int it, .int ct]) (ev_var 9)) ev_int) fun _ => ew_or1 (et_not (et_val (ev_call cIn (by decide) (ea_1 (ev_cat (.inl rfl) (.inl rfl) (by show 1 + 2 ≤ _; omega) (ev_lst (ea_1 (ev_var 8))) (ev_listT (ds := [.int it, .int ct]) (ev_var 9)))) ⟨[pos, it, ct], rfl, rfl, rfl⟩)))).et (fun z => nomatch (show false = true from z)) fun _ => ws_nil ?_
    refine ws_expr (we_append (ev_var 7) ((ev_ixT (d := .int it) (atI_nat (j := 0) rfl) (ev_var 9) ev_int).we ⟨_, Sto.set_same, by rw [List.length_map, List.length_map, List.length_take]; omega, ?_⟩) ⟨_, Sto.set_same⟩)
    rw [Sto.set_set]
    have ei : (((a.take i).map (·.2.1)).map D.int) ++ [D.int it] = ((a.take (i + 1)).map (·.2.1)).map D.int := by rw [tk, List.map_append, List.map_append]; rfl
    rw [ei]
    have hmk : ∀ mk ∈ [((2 * it, pos) : Int × Int), (2 * it + 1, ct)], ∀ j ∈ lawHeads m [k] mk.1, getB (wrB m.wr j) mk.1 = mk.2 := fun mk hmk => by
      simp at hmk
      rcases hmk with rfl | rfl
      · exact so.hv1 (pos, it, ct) hm
      · exact so.hv2 (pos, it, ct) hm
    generalize L.set qi (.lst (((a.take (i + 1)).map (·.2.1)).map D.int)) = L1
    have eml : ([((2 * it, pos) : Int × Int), (2 * it + 1, ct)].map encM) = [.tup [.int (2 * it), .int pos], .tup [.int (2 * it + 1), .int ct]] := rfl
    refine ws_for ((ei_list (ds := [((2 * it, pos) : Int × Int), (2 * it + 1, ct)].map encM) (ev_lst (ea_2 (ev_tup (ea_2 (ev_mul cmul2 ev_int (ev_ixT (atI_nat (j := 0) rfl) (ev_var 9) ev_int)) (ev_var 8))) (ev_tup (ea_2 (ev_add (ev_mul cmul2 ev_int (ev_ixT (atI_nat (j := 0) rfl) (ev_var 9) ev_int)) ev_int) (ev_ixT (atI_nat (j := 1) rfl) (ev_var 9) ev_int)))))).wi
      (forW_inv (fun j G' L' => ∃ t3 t4, G' = [some (hD CH rb h), some (mD t m), some (.str x), some (.int (n : Nat)), some (.dct (encA a)), some (wD m), some (natD k), some (.ptr qi), some (.int pos), some (encM (it, ct)), t3, t4, none, none, none] ∧ L' = L1) ⟨_, _, rfl, rfl⟩ ?_ ?_))
    · rintro j d G' L' hd ⟨t3, t4, rfl, rfl⟩
      obtain ⟨⟨p, v⟩, hp', rfl⟩ := map_get hd
      have hh := hmk _ (List.mem_of_getElem? hp')
      have hkl : ∀ z ∈ [k], z < m.par.length := fun z hz => by rw [List.mem_singleton.mp hz]; exact hk
      have hst : ∀ z ∈ lawHeads m [k] p, z < m.par.length := fun z hz => by
        have h1 := (List.mem_filter.mp hz).1
        have h2 := (List.mem_filter.mp h1).1
        exact List.mem_range.mp (List.mem_filter.mp h2).1
      have hsl : (lawHeads m [k] p).length ≤ 60 := by
        refine Nat.le_trans (List.length_filter_le _ _) (Nat.le_trans (List.length_filter_le _ _) (Nat.le_trans (List.length_filter_le _ _) ?_))
        rw [List.length_range]; exact mo1.le
      refine ⟨_, _, wg_nameC hS 10, ?_⟩
      refine ws_set 11 ((ev_call cHe (by decide) (ea_cons (ev_var 5) (ea_2 (ev_lst (ds := encN [k]) (ea_1 (ev_var 6))) (ev_ixT (d := .int p) (atI_nat (j := 0) rfl) (ev_var 10) ev_int))) ⟨m, [k], _, p, rfl, wD_at, mo1, hkl, by simp, rfl, rfl⟩).we ?_)
      have eF : (encN (lawHeads m [k] p)).filterMap (onN fun z => if getB (wrB m.wr z) p = v then some (natD z) else none) = encN (lawHeads m [k] p) := by
        rw [onN_map]
        exact fm_all fun z hz => if_pos (hh z hz)
      refine ws_if (et_neN (ev_lenN (.inl rfl) (ev_lc (ds := encN (lawHeads m [k] p)) [("_law_k", 13)] (onN fun z => if getB (wrB m.wr z) p = v then some (natD z) else none) (ei_list (ev_var 11)) (by rw [encN_len]; omega) eF fun d hd => ?_)) (ev_lenN (.inl rfl) (ev_var 11))) (fun z => absurd z (by simp)) fun _ => ws_nil ?_
      · obtain ⟨z, hz, rfl⟩ := List.mem_map.mp hd
        have hzl := hst z hz
        refine ⟨_, _, wg_name 13, by decide, wts_1 (b := decide (getB (wrB m.wr z) p = v)) (fun y => et_eqI (ev_getB (ev_ix (encW_at (ws := m.wr) (n := z) (by rw [mo1.wr]; exact hzl)) (.inl rfl) (ev_ix (atI_nat (j := 1) rfl) (.inl rfl) (ev_var 5) ev_int) (ev_var 13)) (ev_ixT (atI_nat (j := 0) rfl) (ev_var 10) ev_int)) (ev_ixT (atI_nat (j := 1) rfl) (ev_var 10) ev_int)) (fun y => if_neg (of_decide_eq_false y)) fun y => ⟨natD z, fun y => ev_var 13, if_pos (of_decide_eq_true y)⟩⟩
      have eH : headsL h.par h.wr (pastL h.par [k]) p = lawHeads m [k] p := by rw [sim.par, sim.wr]; exact heads_eq sim.lw hkl
      have gr : Gr h.par h.wr := by
        rw [sim.par, sim.wr]
        refine ⟨fun i ps e q hq' => ?_, mo1.wr, mo1.le⟩
        have := sim.lw.pl i ps e q hq'
        have := (List.getElem?_eq_some_iff.mp e).1
        omega
      refine ws_if (et_neDk (x := .lst (encN (lawHeads m [k] p))) (y := .lst (encN (lawHeads m [k] p))) (q := .list (((lawHeads m [k] p).map Int.ofNat).map PyData.int)) (r := .list (((lawHeads m [k] p).map Int.ofNat).map PyData.int)) (z := true) ?_ ?_ (shaped_ints _) (shaped_ints _) ?_ (ev_call cHs (by decide) (ea_cons (ev_var 0) (ea_2 (ev_lst (ds := encN [k]) (ea_1 (ev_var 6))) (ev_ixT (d := .int p) (atI_nat (j := 0) rfl) (ev_var 10) ev_int))) ⟨_, rb, h, [k], p, rfl, hD_at, gr, by rw [sim.par]; exact hkl, by rw [eH], rfl⟩) (ev_var 11)) (fun z => by cases z) fun _ => ws_nil (ws_nil ⟨_, _, rfl, rfl⟩)
      · rw [encN_ints]; exact .lst (dpy_ints _)
      · rw [encN_ints]; exact .lst (dpy_ints _)
      · show PyData.eqvAll _ _ = true
        exact eqv_ints _
    · rintro G' L' ⟨t3, t4, rfl, rfl⟩
      exact ws_nil ⟨_, _, _, _, rfl, rfl⟩
  · rintro G' L' ⟨t1, t2, t3, t4, rfl, rfl⟩
    rw [ek, List.length_map, List.length_map, List.take_length]
    refine ws_frzN 7 ni ?_
    have r62 : I62 1 := by unfold I62; omega
    have r62' : I62 ((n : Int) + 1) := by unfold I62; omega
    have hk1 : ((n : Int) + 1 - 1).toNat = n := by omega
    refine ws_for ((ei_range2 (ea_2 ev_int (ev_add (ev_var 3) ev_int)) r62 r62' hk1).wi (forW_inv (fun i G' L' => ∃ t5, G' = [some (hD CH rb h), some (mD t m), some (.str x), some (.int (n : Nat)), some (.dct (encA a)), some (wD m), some (natD k), some (.lst ((a.map (·.2.1)).map D.int)), t1, t2, t3, t4, t5, none, none] ∧ L' = L) ⟨_, rfl, rfl⟩ ?_ ?_))
    · rintro i d G' L' hd ⟨t5, rfl, rfl⟩
      obtain ⟨hin, rfl⟩ := rngL_get hd
      have hcc := so.hc (1 + (i : Int) * 1) (by omega) (by omega)
      refine ⟨_, _, wg_nameC hS 12, ?_⟩
      generalize (1 + (i : Int) * 1) = it at *
      have eF : ((a.map (·.2.1)).map D.int).filterMap (onI fun j => if decide (j = it) = true then some (.int j) else none) = ((a.map (·.2.1)).filter fun j => decide (j = it)).map D.int := by rw [onI_map, fm_filt]
      refine ws_if (et_neI (ev_len (.inl rfl) (ev_lc (ds := (a.map (·.2.1)).map D.int) [("_law_i", 14)] (onI fun j => if decide (j = it) = true then some (.int j) else none) (ei_list (ev_var 7)) (by rw [List.length_map, List.length_map]; omega) eF fun d hd => ?_)) (ev_intB (ev_gt (ev_getB (b := bkAt m k) (ev_ix (encW_at (ws := m.bk) (n := k) (by rw [mo1.bk]; exact hk)) (.inl rfl) (ev_ix (atI_nat (j := 2) rfl) (.inl rfl) (ev_var 5) ev_int) (ev_var 6)) (ev_mul cmul2 ev_int (ev_var 12))) ev_int))) (fun z => ?_) fun _ => ws_nil (ws_nil ⟨_, rfl, rfl⟩)
      · obtain ⟨j, hj, rfl⟩ := List.mem_map.mp hd
        exact ⟨_, _, wg_name 14, by decide, wts_1 (fun y => et_eqI (ev_var 14) (ev_var 12)) (fun y => if_neg (by rw [y]; exact Bool.false_ne_true)) fun y => ⟨_, fun y => ev_var 14, if_pos y⟩⟩
      · rw [List.length_map, hcc] at z
        by_cases c : 0 < getB (bkAt m k) (2 * it)
        · rw [if_pos c, decide_eq_true c] at z; cases z
        · rw [if_neg c, decide_eq_false c] at z; cases z
    · rintro G' L' ⟨t5, rfl, rfl⟩
      have eF : ((a.map (·.2.1)).map D.int).filterMap (onI fun j => none) = ([] : List Int).map D.int := by
        rw [onI_map]
        generalize a.map (·.2.1) = l
        induction l with
        | nil => rfl
        | cons x l ih => rw [List.filterMap_cons]; exact ih
      refine ws_ret ((ev_eqI (ev_len (ds := []) (.inl rfl) (ev_lc (ds := (a.map (·.2.1)).map D.int) [("_law_i", 14)] (onI fun j => none) (ei_list (ev_var 7)) (by rw [List.length_map, List.length_map]; omega) eF fun d hd => ?_)) ev_int).we hp)
      obtain ⟨j, hj, rfl⟩ := List.mem_map.mp hd
      obtain ⟨e, he, rfl⟩ := List.mem_map.mp hj
      have hrr := so.hr e he
      refine ⟨_, _, wg_name 14, by decide, wts_1 (b := false) (fun y => ?_) (fun _ => rfl) fun y => nomatch y⟩
      exact et_or (x := false) (y := false) ((et_lt (ev_var 14) ev_int).eq (decide_eq_false (by omega))) fun _ => (et_gt (ev_var 14) (ev_var 3)).eq (decide_eq_false (by omega))
end
end FS
/-! text M13 -/
/-! M13: a book holds what the last writers wrote. -/
namespace FS
open PySem PySem.Spec PyProof.Rows L2
def InP (m : Wd) (ns : List Nat) (p : Int) (j : Nat) : Prop := j < m.par.length ∧ (∃ k ∈ ns, j ∈ inn m k) ∧ isW m.wr j p = true
theorem mem_writers {m : Wd} {ns : List Nat} {p : Int} {j : Nat} : j ∈ lawWriters m ns p ↔ InP m ns p j := by
  unfold lawWriters lawPast InP
  rw [List.mem_filter, List.mem_filter, List.mem_range, decide_eq_true_eq]
  constructor
  · rintro ⟨⟨h1, h2⟩, h3⟩
    obtain ⟨k, hk⟩ := List.exists_mem_of_length_pos h2
    have := List.mem_filter.mp hk
    exact ⟨h1, ⟨k, this.1, of_decide_eq_true this.2⟩, h3⟩
  · rintro ⟨h1, ⟨k, hk, hj⟩, h3⟩
    exact ⟨⟨h1, List.length_pos_of_mem (List.mem_filter.mpr ⟨hk, decide_eq_true hj⟩)⟩, h3⟩
theorem mem_lawHeads {m : Wd} {ns : List Nat} {p : Int} {j : Nat} : j ∈ lawHeads m ns p ↔ InP m ns p j ∧ ∀ i, InP m ns p i → i ≠ j → j ∉ inn m i := by
  unfold lawHeads
  rw [List.mem_filter, mem_writers, decide_eq_true_eq]
  refine and_congr_right fun _ => ?_
  constructor
  · intro h i hi ne hj
    have : i ∈ (lawWriters m ns p).filter fun n => !decide (n = j) && decide (j ∈ inn m n) := List.mem_filter.mpr ⟨mem_writers.mpr hi, by rw [decide_eq_false ne, decide_eq_true hj]; rfl⟩
    rw [List.eq_nil_of_length_eq_zero h] at this; cases this
  · intro h
    rw [List.length_eq_zero_iff, List.filter_eq_nil_iff]
    intro i hi z
    rw [Bool.and_eq_true] at z
    have h1 : i ≠ j := fun e => by rw [decide_eq_true e] at z; cases z.1
    exact h i (mem_writers.mp hi) h1 (of_decide_eq_true z.2)
/-- what stands at a node is what its book says -/
def HvI (m : Wd) : Prop := ∀ k, k < m.par.length → ∀ p j, j ∈ lawHeads m [k] p → getB (wrB m.wr j) p = getB (bkAt m k) p
theorem isW_eq {xs : List Bk} {j : Nat} {p : Int} : isW xs j p = true ↔ j = 0 ∨ p ∈ keysB (wrB xs j) := by
  unfold isW
  rw [Bool.or_eq_true, decide_eq_true_eq, valG_mem, decide_eq_true_eq]
theorem hv_add {n : Nat} {m : Wd} (lw : LwI m) (hl : m.par.length < 60) {ps : List Nat} {w b : Bk} (h0 : ps ≠ []) (hps : ∀ p ∈ ps, p < m.par.length) (hb : BkOk n b)
    (H1 : ∀ p ∈ keysB w, getB b p = getB w p) (H2 : ∀ p, p ∉ keysB w → ∀ j ∈ lawHeads m ps p, getB (wrB m.wr j) p = getB b p) (hv : HvI m) : HvI (addM m ps w b) := by
  have el : (addM m ps w b).par.length = m.par.length + 1 := by show (m.par ++ [ps]).length = _; simp
  have ew : ∀ j, wrB (addM m ps w b).wr j = if j = m.par.length then w else wrB m.wr j := fun j => by
    show wrB (m.wr ++ [w]) j = _
    rw [wrB_snoc, lw.ok.wr]
  have eb : ∀ j, bkAt (addM m ps w b) j = if j = m.par.length then b else bkAt m j := fun j => by
    show wrB (m.bk ++ [lawW b []]) j = _
    rw [wrB_snoc, lw.ok.bk, lawW_id hb]; rfl
  have len0 : 0 < m.par.length := by
    cases ps with
    | nil => exact absurd rfl h0
    | cons a r => have := hps a List.mem_cons_self; omega
  have eold : ∀ {i}, i < m.par.length → inn (addM m ps w b) i = inn m i := fun h => inn_old lw.ok h
  have wold : ∀ {i p}, i < m.par.length → (isW (addM m ps w b).wr i p = true ↔ isW m.wr i p = true) := fun {i p} h => by
    rw [isW_eq, isW_eq, ew, if_neg (by omega)]
  have inew : ∀ {i}, i ∈ inn (addM m ps w b) m.par.length ↔ i = m.par.length ∨ ∃ p ∈ ps, i ∈ inn m p := fun {i} => by rw [inn_new lw.ok, sortN_mem, insL_mem]
  intro k hk p j hj
  rw [el] at hk
  obtain ⟨⟨j1, ⟨k', hk', j2⟩, j3⟩, j4⟩ := mem_lawHeads.mp hj
  have ek := List.mem_singleton.mp hk'
  subst ek
  by_cases hkl : k' = m.par.length
  · subst hkl
    by_cases hp : p ∈ keysB w
    · have hjl : j = m.par.length := by
        by_cases e : j = m.par.length
        · exact e
        · exact absurd j2 (j4 m.par.length ⟨by rw [el]; omega, ⟨_, List.mem_singleton_self _, inew.mpr (.inl rfl)⟩, isW_eq.mpr (.inr (by rw [ew, if_pos rfl]; exact hp))⟩ (Ne.symm e))
      subst hjl
      rw [ew, eb, if_pos rfl, if_pos rfl]
      exact (H1 p hp).symm
    · have hjl : j ≠ m.par.length := fun e => by
        subst e
        rcases isW_eq.mp j3 with h | h
        · omega
        · rw [ew, if_pos rfl] at h; exact hp h
      have hj' : j < m.par.length := by rw [el] at j1; omega
      rw [ew, eb, if_neg hjl, if_pos rfl]
      refine H2 p hp j (mem_lawHeads.mpr ⟨⟨hj', (inew.mp j2).resolve_left hjl, (wold hj').mp j3⟩, fun i ⟨i1, i2, i3⟩ ne => ?_⟩)
      have := j4 i ⟨by rw [el]; omega, ⟨_, List.mem_singleton_self _, inew.mpr (.inr i2)⟩, (wold i1).mpr i3⟩ ne
      rwa [eold i1] at this
  · have hk1 : k' < m.par.length := by omega
    rw [eold hk1] at j2
    have hj' : j < m.par.length := by have := lw.le k' j j2; omega
    rw [ew, eb, if_neg (by omega), if_neg hkl]
    refine hv k' hk1 p j (mem_lawHeads.mpr ⟨⟨hj', ⟨k', List.mem_singleton_self _, j2⟩, (wold hj').mp j3⟩, fun i ⟨i1, ⟨q, hq, i2⟩, i3⟩ ne => ?_⟩)
    rw [List.mem_singleton.mp hq] at i2
    have := j4 i ⟨by rw [el]; omega, ⟨k', List.mem_singleton_self _, by rw [eold hk1]; exact i2⟩, (wold i1).mpr i3⟩ ne
    rwa [eold i1] at this
theorem found_mem {m : Wd} (lw : LwI m) {ns : List Nat} (hn : ∀ k ∈ ns, k < m.par.length) {p : Int} {j : Nat} (hj : j ∈ lawHeads m ns p) : getB (wrB m.wr j) p ∈ lawFound m ns p := by
  rw [← found_eq lw hn]
  unfold foundL valsL
  rw [asc_mem, heads_eq lw hn]
  exact List.mem_map_of_mem (f := fun n => getB (wrB m.wr n) p) hj
theorem out_getB {n : Nat} {w : Bk} (hw : WrOk n w) {p : Int} (h : p ∉ plsL n) : getB w p = 0 := by
  unfold getB
  rw [valG_out fun z => h ?_]
  · rfl
  obtain ⟨x, hx, rfl⟩ := List.mem_map.mp z
  have := hw.ks x hx
  exact plsL_mem.mpr ⟨this.1, this.2.1⟩
theorem bookL_val {m : Wd} {n : Nat} {ns : List Nat} {mk : Bk} {p : Int} : getB (bookL m ns mk n) p = if p ∈ plsL n then (if 0 < mvL m ns mk p then mvL m ns mk p else 0) else 0 := by
  have bF : ∀ p q, bookF m ns mk p = some q → q.1 = p := fun p q e => by
    unfold bookF at e
    split at e
    · cases e; rfl
    · cases e
  unfold getB bookL
  rw [fm_valG bF (srt_nd plsL_srt)]
  by_cases hp : p ∈ plsL n
  · rw [if_pos hp, if_pos hp]
    unfold bookF
    split <;> rfl
  · rw [if_neg hp, if_neg hp]; rfl
theorem valG_key {b : Bk} {p : Int} (h : p ∈ keysB b) : ∃ v, valG b p = some v := by
  cases e : valG b p with
  | some v => exact ⟨v, rfl⟩
  | none => exact absurd h (valG_none.mp e)
theorem hv_due {n : Nat} {t : Tps} {m : Wd} {h : Ht} (s : Sim n t m h) (hl : m.par.length ≤ 15) (hv : HvI m) {d : Dl} (hd : d.ok n (t.map (·.1))) : HvI (dueL t m n d).2.2 := by
  cases d with
  | wr x w =>
    obtain ⟨hx, hw⟩ := hd
    have hlt := s.tip x hx
    have hbo : BkOk n (bkAt m (tipOf t x)) := by
      unfold bkAt
      cases e : m.bk[tipOf t x]? with
      | none => exact bkOk_nil
      | some b => exact s.bo b (List.mem_of_getElem? e)
    cases e : brokenL (lawW (bkAt m (tipOf t x)) w) n with
    | some r => rw [dueW_unl e]; exact hv
    | none =>
      rw [dueW_told e]
      refine hv_add s.lw (by omega) (by simp) (fun p hp => by rw [List.mem_singleton.mp hp]; exact hlt) (hbo.law hw) (fun p hp => ?_) (fun p hp j hj => ?_) hv
      · rw [getB_law hbo.nd hw.nd (nn_lawV hbo.e.nn hw)]
        obtain ⟨v, ev⟩ := valG_key hp
        unfold lawV getB
        rw [ev]; rfl
      · rw [getB_law hbo.nd hw.nd (nn_lawV hbo.e.nn hw)]
        unfold lawV
        rw [valG_none.mpr hp]
        exact hv _ hlt p j hj
  | mg x os mk =>
    obtain ⟨hx, hos, hol, hw⟩ := hd
    have hns : ∀ j ∈ nodesL t x os, j < m.par.length := fun j hj => by
      unfold nodesL at hj
      obtain ⟨y, hy, rfl⟩ := List.mem_map.mp hj
      rcases List.mem_cons.mp hy with rfl | hy
      · exact s.tip _ hx
      · exact s.tip _ (hos y hy)
    have h0 : nodesL t x os ≠ [] := by unfold nodesL; simp
    by_cases ea : mk.length = 0 ∧ ∃ j, earlyL m (nodesL t x os) = some j
    · obtain ⟨z, j, e⟩ := ea
      rw [dueM_early z e]; exact hv
    · have ea' : mk.length = 0 → earlyL m (nodesL t x os) = none := fun z => by
        cases e : earlyL m (nodesL t x os) with
        | none => rfl
        | some j => exact absurd ⟨z, j, e⟩ ea
      rw [dueM_late ea']
      generalize nodesL t x os = ns at *
      cases e0 : (plsL n).findSome? (clashF m ns mk) with
      | some pf => obtain ⟨p, f⟩ := pf; rw [dueM_plc e0]; exact hv
      | none =>
        cases e : brokenL (bookL m ns mk n) n with
        | some r => rw [dueM_rul e0 e]; exact hv
        | none =>
          rw [dueM_told e0 e]
          refine hv_add s.lw (by omega) h0 hns (bookL_ok s.wi hw) (fun p hp => ?_) (fun p hp j hj => ?_) hv
          · obtain ⟨v, ev⟩ := valG_key hp
            have hr := getB_wr hw ev
            rw [bookL_val, if_pos (plsL_mem.mpr ⟨hr.2.2.1, hr.2.2.2⟩)]
            unfold mvL getB
            rw [ev]
            simp only [Option.getD_some]
            split <;> omega
          · have hm := found_mem s.lw hns hj
            rw [bookL_val]
            by_cases hpl : p ∈ plsL n
            · rw [if_pos hpl]
              unfold mvL
              rw [valG_none.mpr hp, Option.getD_none]
              have hc : ¬ 1 < (lawFound m ns p).length := fun z => by
                have h1 : clashF m ns mk p = some (p, lawFound m ns p) := if_pos ⟨valG_none.mpr hp, z⟩
                have h2 := List.findSome?_eq_none_iff.mp e0 p hpl
                rw [h1] at h2; cases h2
              have hpos : 0 ≤ getB (wrB m.wr j) p := nn_wr (wr_ok s.wo j) p
              cases ef : lawFound m ns p with
              | nil => rw [ef] at hm; cases hm
              | cons a r =>
                cases r with
                | cons _ _ => rw [ef] at hc; exact absurd (by simp) hc
                | nil =>
                  rw [ef] at hm
                  rw [List.mem_singleton.mp hm] at hpos ⊢
                  show a = if 0 < a then a else 0
                  by_cases z : 0 < a
                  · exact (if_pos z).symm
                  · rw [if_neg z]; omega
            · rw [if_neg hpl]
              exact out_getB (wr_ok s.wo j) hpl
end FS
/-! text M14 -/
/-! M14: the arrangement of a lawful book. -/
namespace FS
open PySem PySem.Spec PyProof.Rows L2
def arrF (b : Bk) (i : Int) : Option (Int × (Int × Int)) := if 0 < getB b (2 * i) then some (getB b (2 * i), (i, getB b (2 * i + 1))) else none
theorem arr_fold {b : Bk} : ∀ {is : List Int} {acc : Arr}, ((acc ++ is.filterMap (arrF b)).map (·.1)).Nodup → is.foldl (arrStep b) acc = acc ++ is.filterMap (arrF b)
  | [], acc, _ => by simp
  | i :: is, acc, nd => by
    rw [List.foldl_cons]
    by_cases h : 0 < getB b (2 * i)
    · have e : arrF b i = some (getB b (2 * i), (i, getB b (2 * i + 1))) := if_pos h
      have es : arrStep b acc i = putG acc (getB b (2 * i)) (i, getB b (2 * i + 1)) := if_pos h
      rw [es]
      rw [List.filterMap_cons, e] at nd ⊢
      simp only at nd ⊢
      have hn : getB b (2 * i) ∉ acc.map (·.1) := fun z => by
        rw [List.map_append, List.nodup_append] at nd
        exact nd.2.2 _ z _ (by simp) rfl
      rw [putG_new hn]
      rw [arr_fold (acc := acc ++ [(getB b (2 * i), (i, getB b (2 * i + 1)))]) (by rw [List.append_assoc]; exact nd), List.append_assoc]
      rfl
    · have e : arrF b i = none := if_neg h
      have es : arrStep b acc i = acc := if_neg h
      rw [es]
      rw [List.filterMap_cons, e] at nd ⊢
      exact arr_fold nd
theorem arrL_congr {b c : Bk} (h : ∀ p, getB b p = getB c p) {n : Nat} : arrL b n = arrL c n := by
  unfold arrL
  congr 1
  funext acc i
  unfold arrStep
  rw [h, h]
theorem items_mem {n : Nat} {i : Int} : i ∈ itemsL n ↔ 1 ≤ i ∧ i ≤ n := by
  unfold itemsL
  rw [List.mem_map]
  constructor
  · rintro ⟨k, hk, rfl⟩
    have := List.mem_range.mp hk
    omega
  · intro h
    exact ⟨(i - 1).toNat, List.mem_range.mpr (by omega), by omega⟩
theorem items_nd {n : Nat} : (itemsL n).Nodup := by
  unfold itemsL
  rw [List.nodup_iff_pairwise_ne, List.pairwise_map]
  exact List.nodup_range.imp fun h z => h (by omega)
theorem arr_keys {b : Bk} {n : Nat} : ((itemsL n).filterMap (arrF b)).map (·.1) = (filled b (posPs n)).map (·.2) := by
  rw [filled_pos]
  unfold itemsL posPs
  rw [List.filterMap_map, List.filterMap_map, List.map_filterMap, List.map_filterMap]
  congr 1
  funext i
  show ((arrF b ((i : Int) + 1)).map (·.1)) = (fillP b (2 * (1 + (i : Int) * 1))).map (·.2)
  have e : (1 + (i : Int) * 1) = (i : Int) + 1 := by omega
  rw [e]
  unfold arrF fillP mkB
  by_cases h : 0 < getB b (2 * ((i : Int) + 1))
  · rw [if_pos h, if_pos h]; rfl
  · rw [if_neg h, if_neg h]; rfl
theorem arr_eq {b : Bk} {n : Nat} (h : brokenL b n = none) : arrL b n = (itemsL n).filterMap (arrF b) := by
  have nd : ((([] : Arr) ++ (itemsL n).filterMap (arrF b)).map (·.1)).Nodup := by
    rw [List.nil_append, arr_keys]
    exact apart_keeps h
  unfold arrL
  rw [arr_fold nd]; rfl
theorem arr_items {b : Bk} {n : Nat} : ((itemsL n).filterMap (arrF b)).map (·.2.1) = (itemsL n).filter fun i => decide (0 < getB b (2 * i)) := by
  generalize itemsL n = l
  induction l with
  | nil => rfl
  | cons i l ih =>
    rw [List.filterMap_cons, List.filter_cons]
    unfold arrF
    by_cases h : 0 < getB b (2 * i)
    · rw [if_pos h, if_pos (decide_eq_true h)]
      simp only [List.map_cons]
      rw [← ih]; rfl
    · rw [if_neg h, if_neg (by simpa using h)]; exact ih
theorem filter_one {l : List Int} (nd : l.Nodup) {i : Int} (h : i ∈ l) : l.filter (fun j => decide (j = i)) = [i] := by
  induction l with
  | nil => cases h
  | cons a l ih =>
    obtain ⟨n1, n2⟩ := List.nodup_cons.mp nd
    rw [List.filter_cons]
    by_cases e : a = i
    · subst e
      rw [if_pos (decide_eq_true rfl)]
      congr 1
      rw [List.filter_eq_nil_iff]
      intro j hj z
      exact n1 (of_decide_eq_true z ▸ hj)
    · rw [if_neg (by simpa using e)]
      exact ih n2 ((List.mem_cons.mp h).resolve_left (Ne.symm e))
theorem arr_nd2 {b : Bk} {n : Nat} (h : brokenL b n = none) : ((arrL b n).map (·.2.1)).Nodup := by
  rw [arr_eq h, arr_items]
  exact items_nd.sublist List.filter_sublist
theorem arr_leng {b : Bk} {n : Nat} (h : brokenL b n = none) : (arrL b n).length ≤ n := by
  rw [arr_eq h]
  have := List.length_filterMap_le (arrF b) (itemsL n)
  rw [itemsL_len] at this; exact this
theorem st_ok {m : Wd} {k n : Nat} (hv : HvI m) (hk : k < m.par.length) (hn : n ≤ 10) (h : brokenL (bkAt m k) n = none) : StOk m k n (arrL (bkAt m k) n) := by
  have mem : ∀ e ∈ arrL (bkAt m k) n, ∃ i ∈ itemsL n, e = (getB (bkAt m k) (2 * i), (i, getB (bkAt m k) (2 * i + 1))) := fun e he => by
    rw [arr_eq h] at he
    obtain ⟨i, hi, e1⟩ := List.mem_filterMap.mp he
    unfold arrF at e1
    split at e1
    · cases e1; exact ⟨i, hi, rfl⟩
    · cases e1
  refine ⟨fun e he j hj => ?_, fun e he j hj => ?_, fun i h1 h2 => ?_, fun e he => ?_, ?_, ?_⟩
  · obtain ⟨i, hi, rfl⟩ := mem e he
    exact hv k hk _ j hj
  · obtain ⟨i, hi, rfl⟩ := mem e he
    exact hv k hk _ j hj
  · rw [arr_eq h, arr_items]
    have hi := items_mem.mpr ⟨h1, h2⟩
    rw [List.filter_filter]
    by_cases c : 0 < getB (bkAt m k) (2 * i)
    · rw [if_pos c]
      have : ((itemsL n).filter fun a => decide (a = i) && decide (0 < getB (bkAt m k) (2 * a))) = (itemsL n).filter fun j => decide (j = i) := by
        refine List.filter_congr fun j _ => ?_
        by_cases e : j = i
        · subst e; rw [decide_eq_true c, Bool.and_true]
        · rw [decide_eq_false e, Bool.false_and]
      rw [this, filter_one items_nd hi]; rfl
    · rw [if_neg c, List.length_eq_zero_iff, List.filter_eq_nil_iff]
      intro j _ z
      rw [Bool.and_eq_true, decide_eq_true_eq, decide_eq_true_eq] at z
      exact c (z.1 ▸ z.2)
  · obtain ⟨i, hi, rfl⟩ := mem e he
    exact items_mem.mp hi
  · rw [arr_eq h, arr_keys]
    exact apart_keeps h
  · have := arr_leng h; omega
end FS
/-! text E45 -/
/-! E45: _law_watch. -/
namespace FS
open PySem PySem.Spec PyProof.Rows L2
def dkF (CD : Addr) (dp st : D) (es : List D) (tb : D) : D := .ins CD [("_depth", dp), ("_state", st), ("_earlier", .lst es), ("_taken_back", tb)]
theorem eqD_books {n : Nat} {b c : Bk} (hb : BkE n b) (hc : BkE n c) (h : ∀ p, getB b p = getB c p) : EqD (encB b) (encB c) := by
  have one : ∀ {b c : Bk}, BkE n b → (∀ p, getB b p = getB c p) → ∀ p ∈ b, valG c p.1 = some p.2 := fun {b c} hb h p hp => by
    have e := valG_in hb.nd (show (p.1, p.2) ∈ b from hp)
    have g : getB c p.1 = p.2 := by rw [← h]; unfold getB; rw [e]; rfl
    have := hb.ks p hp
    have := getB_val (b := c) (p := p.1) (by omega)
    rw [this, g]
  have sub : ∀ {b c : Bk}, BkE n b → (∀ p, getB b p = getB c p) → b.length ≤ c.length := fun {b c} hb h => by
    have := nodup_len (ks := keysB b) (ns := keysB c) hb.nd fun k hk => by
      obtain ⟨p, hp, rfl⟩ := List.mem_map.mp hk
      exact List.mem_map_of_mem (f := Prod.fst) (getB_mem (one hb h p hp))
    unfold keysB at this; rw [List.length_map, List.length_map] at this; exact this
  refine ⟨?_, fun q hq => ?_⟩
  · rw [length_encB, length_encB]
    exact Nat.le_antisymm (sub hb h) (sub hc fun p => (h p).symm)
  · obtain ⟨p, hp, rfl⟩ := List.mem_map.mp hq
    refine ⟨p.2, rfl, ?_⟩
    rw [valG_encB, one hb h p hp]; rfl
theorem log_small {i : Nat} (h : i ≤ 60) : ((i : Int)).natAbs.log2 < 1920 := by
  have := Nat.log2_le_self i
  rw [Int.natAbs_natCast]; omega
section
variable {B : Bg} {C CD CH CR CA CN : Addr} {n : Nat}
abbrev tWa : Stmt := top 133
theorem scTWa : FnScope ["_law_desk", "_law_rules", "_law_model", "_law_count", "_law_history", "_law_name", "_law_book", "_law_due_here", "_law_told"] ["_law_desk", "_law_rules", "_law_model", "_law_count"] (defScope tWa) := ⟨rfl, rfl, rfl, by decide +kernel, rfl, by decide +kernel, by decide +kernel⟩
def rTWa (C CD CH CR CA CN : Addr) (n : Nat) : ASp := fun ds L post => ∃ dp rb h t m k xs es tb, ds = [dkF CD dp (stD C (hD CH rb h) t k xs) es tb, rb, mD t m, .int (n : Nat)] ∧ Sim n t m h ∧ HvI m ∧ RbD CR CA CN n rb ∧ n ≤ 10 ∧ post (.bl true) L
theorem ok_twa {f : Addr} {fd : FuncData} (F : Fun B.K "_law_watch" "_law_watch" tWa f fd) (mh : Mcl B 10 CD "history" (rMDh C CD CH CR CA CN n)) (mn : Mcl B 1 CH "node_count" (rMHn CH)) (mb : Mcl B 5 CD "book" (rMDb C CD CH)) (mt : Mcl B 2 CD "tip" (rMDt C CD)) (cIb : Cl B 1 "_law_is_book" rTIb) (cAr : Cl B 2 "arrange" rAr) (cSn : Cl B 5 "_law_stands" (rTSn CH n)) (cDo : Cl B 2 "doubled" rDo) (ml : Mcl B 4 CR "is_lawful" (rMRl CR CA CN)) :
    FnOk B.P B.w B.K B.mg B.base CX0 11 f fd ["_law_desk", "_law_rules", "_law_model", "_law_count"] (low (rTWa C CD CH CR CA CN n)) := by
  refine ok_def F scTWa (fun ds L post ⟨_, _, _, _, _, _, _, _, _, h, _⟩ => by rw [h]; rfl) fun S hS ds L post ⟨dp, rb, h, t, m, k, xs, es, tb, e, sim, hv, hr, hn, hp⟩ => ?_
  subst e
  have hline : 1000 ≤ sizeLine := by decide
  have lk : ∀ {L'}, Lk L' (dkF CD dp (stD C (hD CH rb h) t k xs) es tb) (dkF CD dp (stD C (hD CH rb h) t k xs) es tb) := .inl rfl
  have mo := sim.lw.ok
  refine ws_set 4 ((ev_meth0 mh (by decide) lk (ev_var 0) ⟨_, _, rb, h, t, k, xs, rfl, lk, rfl, hr, hn, sim.st, rfl, rfl⟩).we ?_)
  have hl : h.par.length = (encLk m.par).length := by rw [length_encLk, sim.par]
  refine ws_if (et_neS (ev_reprI (i := (h.par.length : Nat)) ?_ (ev_meth0 mn (by decide) (.inl rfl) (ev_var 4) ⟨_, rb, h, rfl, hD_at, rfl, rfl⟩)) (ev_reprI (i := ((encLk m.par).length : Nat)) ?_ (ev_len (.inl rfl) (ev_ix (atI_nat (j := 0) rfl) (.inl rfl) (ev_ix (atI_nat (j := 1) rfl) (.inl rfl) (ev_var 2) ev_int) ev_int)))) (fun z => ?_) fun _ => ws_nil ?_
  · exact log_small (by rw [sim.par]; exact mo.le)
  · exact log_small (by rw [length_encLk]; exact mo.le)
  · rw [hl] at z; simp at z
  have et : keysD (encT t) = (t.map (·.1)).map D.str := by unfold keysD encT; rw [List.map_map, List.map_map]; rfl
  refine ws_forP (dp_keysIx 2 0 (kvs := encT t) rfl) (forW_inv (fun i G' L' => ∃ a b c d, G' = [some (dkF CD dp (stD C (hD CH rb h) t k xs) es tb), some rb, some (mD t m), some (.int (n : Nat)), some (hD CH rb h), a, b, c, d] ∧ L' = L) ⟨_, _, _, _, rfl, rfl⟩ ?_ ?_)
  · rintro i d G' L' hd ⟨a, b, c, d', rfl, rfl⟩
    rw [et] at hd
    obtain ⟨x, hx0, rfl⟩ := map_get hd
    have hx := List.mem_of_getElem? hx0
    have hk := sim.tip x hx
    have hbe := sim.be (tipOf t x)
    have hbo : BkOk n (bkAt m (tipOf t x)) := by
      unfold bkAt
      cases e : m.bk[tipOf t x]? with
      | none => exact bkOk_nil
      | some b => exact sim.bo b (List.mem_of_getElem? e)
    have hbv := sim.bv (tipOf t x)
    have hlw := sim.law (tipOf t x)
    have hbl := hbe.len
    have tn := tip_at hx
    refine ⟨_, _, wg_name 5, ?_⟩
    refine ws_set 6 ((ev_meth mb (by decide) lk (ev_var 0) (ea_1 (ev_var 5)) ⟨_, _, rb, h, t, k, xs, x, rfl, lk, rfl, hx, by rw [sim.par]; exact hk, sim.st.ok.bk, rfl, rfl⟩).we ?_)
    refine ws_set 7 ((ev_ix (encW_at (ws := m.bk) (n := tipOf t x) (by rw [mo.bk]; exact hk)) (.inl rfl) (ev_ix (atI_nat (j := 2) rfl) (.inl rfl) (ev_ix (atI_nat (j := 1) rfl) (.inl rfl) (ev_var 2) ev_int) ev_int) (ev_dgetS tn (.inl rfl) (ev_ix (atI_nat (j := 0) rfl) (.inl rfl) (ev_var 2) ev_int) (ev_var 5))).we ?_)
    have hne : EqD (encB (wrB h.bk (tipOf t x))) (encB (wrB m.bk (tipOf t x))) := eqD_books hbe hbo.e hbv
    refine ws_if (ew_or (et_neS (ev_reprI (i := (tipOf t x : Nat)) (log_small (by have := mo.le; omega)) (ev_meth mt (by decide) lk (ev_var 0) (ea_1 (ev_var 5)) ⟨_, _, _, t, k, xs, x, rfl, lk, rfl, hx, rfl, rfl⟩)) (ev_reprI (i := (tipOf t x : Nat)) (log_small (by have := mo.le; omega)) (ev_dgetS tn (.inl rfl) (ev_ix (atI_nat (j := 0) rfl) (.inl rfl) (ev_var 2) ev_int) (ev_var 5)))) fun _ => ew_or (et_not (et_val (ev_call cIb (by decide) (ea_1 (ev_var 6)) ⟨_, rfl, hbe.nd, by omega, rfl, rfl⟩))) fun _ => ew_or1 (et_neDct (.inl rfl) (.inl rfl) hne (ev_var 6) (ev_var 7))).et (fun z => by simp at z) fun _ => ws_nil ?_
    refine ws_set 8 (we_call cAr (by decide) ((ea_2 (ev_var 6) (ev_var 3)).wa ⟨_, _, n, rfl, .inl rfl, by omega, fun q nq => ?_⟩))
    rw [arrL_congr hbv]
    have so := st_ok hv hk hn hlw
    have hal := arr_leng hlw
    have fz : ∀ {y : D}, Fz (L'.set q (.dct (encA (arrL (bkAt m (tipOf t x)) n)))) (L'.set q (.dct (encA (arrL (bkAt m (tipOf t x)) n)))).cold y y := fun {y} => sub_cold.fz
    have g : FzG (L'.set q (.dct (encA (arrL (bkAt m (tipOf t x)) n)))) (L'.set q (.dct (encA (arrL (bkAt m (tipOf t x)) n)))).cold [some (dkF CD dp (stD C (hD CH rb h) t k xs) es tb), some rb, some (mD t m), some (.int (n : Nat)), some (hD CH rb h), some (.str x), some (.dct (encB (wrB h.bk (tipOf t x)))), some (.dct (encB (wrB m.bk (tipOf t x)))), some (.ptr q)]
      [some (dkF CD dp (stD C (hD CH rb h) t k xs) es tb), some rb, some (mD t m), some (.int (n : Nat)), some (hD CH rb h), some (.str x), some (.dct (encB (wrB h.bk (tipOf t x)))), some (.dct (encB (wrB m.bk (tipOf t x)))), some (.dct (encA (arrL (bkAt m (tipOf t x)) n)))] :=
      .cons fz (.cons fz (.cons fz (.cons fz (.cons fz (.cons fz (.cons fz (.cons fz (.cons (sub_cold.cell Sto.set_same rfl) .nil))))))))
    obtain ⟨fs, lr, _, lr2⟩ := hr.lk (L := L'.set q (.dct (encA (arrL (bkAt m (tipOf t x)) n))))
    obtain ⟨w, pl, w', rfl⟩ := hr
    refine ws_if (ew_or (et_not (et_val (ev_fz g (ev_isi (r := true) .dct (by decide +kernel) (ev_var 8) (ev_tyn (by decide) boot_dict))))) fun _ => ew_or (et_not (et_val (ev_fz g (ev_call cSn (by decide) (ea_cons (ev_var 4) (ea_cons (ev_var 2) (ea_cons (ev_var 5) (ea_2 (ev_var 3) (ev_var 8))))) ⟨_, h, t, m, x, _, rfl, sim, hx, hn, so, rfl, rfl⟩)))) fun _ => ew_or1 (et_neDct (.inl rfl) (.inl rfl) hne (ev_var 6) (ev_var 7))).et (fun z => nomatch (show false = true from z)) fun _ => ws_nil ?_
    refine ws_if (ew_or (et_neS (ev_fz g (ev_reprE (ev_call cDo (by decide) (ea_1 (ev_var 8)) ⟨_, rfl, arr_nd2 hlw, by omega, rfl, rfl⟩))) (ev_reprE (ev_lst ea_nil))) fun _ => ew_or1 (et_isnotT (ev_meth ml (by decide) (.inl rfl) (ev_var 1) (ea_1 (ev_var 6)) ⟨_, _, posPs n, w, itemPs n, pl, w', _, rfl, .inl rfl, .inl rfl, few_pos hn, ?_, by rw [itemPs_len]; omega, ?_, rfl, rfl⟩) ev_bl)).et (fun z => by simp at z) fun _ => ws_nil ?_
    · exact apart_keeps (brokenL_congr hbv ▸ hlw)
    · exact needs_keeps hbe.nn (brokenL_congr hbv ▸ hlw)
    · refine ws_setk ((ev_tup (ea_2 ev_int ev_int)).we ⟨_, .int 9000, .inl 9000, Sto.set_same, by unfold encA; rw [List.length_map]; omega, ev_var 8, ev_int, kI, ?_⟩)
      rw [Sto.set_set]
      exact ws_sub (Sub.refl.set nq) (ws_nil ⟨_, _, _, _, rfl, rfl⟩)
  · rintro G' L' ⟨a, b, c, d, rfl, rfl⟩
    exact ws_ret (ev_bl.we hp)
end
end FS
/-! text M15 -/
/-! M15: what is due can be shown. -/
namespace FS
open PySem PySem.Spec PyProof.Rows L2
structure Sma (d : PyData) (k w : Nat) : Prop where
  sh : d.showable = true
  nd : d.hasDict = false
  cl : d.canLay0 = true
  is : d.intsShort 13 = true
  dp : d.depth ≤ k
  wt : d.weight ≤ w
structure SmaL (d : List PyData) (k w : Nat) : Prop where
  sh : PyData.showableAll d = true
  nd : PyData.hasDictAll d = false
  cl : PyData.canLayAll0 d = true
  is : PyData.intsShortAll 13 d = true
  dp : PyData.depthAll d ≤ k
  wt : PyData.weightAll d ≤ w
theorem sma_int {i : Int} (h : i.natAbs < 1024) : Sma (.int i) 0 11 := by
  have lg : i.natAbs.log2 < 10 := by
    by_cases z : i.natAbs = 0
    · rw [z]; decide
    · exact (Nat.log2_lt z).mpr h
  refine ⟨?_, ?_, ?_, ?_, ?_, ?_⟩
  · simp only [PyData.showable]; exact decide_eq_true (by omega)
  · simp only [PyData.hasDict]
  · simp only [PyData.canLay0]
  · simp only [PyData.intsShort]
    refine decide_eq_true ?_
    rw [PyData.shown_int]
    have := int_len h
    show (Str.ofString (toString i)).length ≤ 13
    omega
  · simp only [PyData.depth]; omega
  · simp only [PyData.weight]
    split <;> omega
theorem sma_str {x : Str} {w : Nat} (h : PyData.strOk x = true) (hw : x.cps.size ≤ w) : Sma (.str x) 0 w := by
  refine ⟨?_, ?_, ?_, ?_, ?_, ?_⟩
  · simp only [PyData.showable]
  · simp only [PyData.hasDict]
  · simp only [PyData.canLay0]; exact h
  · simp only [PyData.intsShort]
  · simp only [PyData.depth]; omega
  · simp only [PyData.weight]; exact hw
theorem smaL_nil {k : Nat} : SmaL [] k 0 := ⟨by simp only [PyData.showableAll], by simp only [PyData.hasDictAll], by simp only [PyData.canLayAll0], by simp only [PyData.intsShortAll], by simp only [PyData.depthAll]; omega, by simp only [PyData.weightAll]; omega⟩
theorem smaL_cons {d : PyData} {ds : List PyData} {k1 w1 k w : Nat} (a : Sma d k1 w1) (b : SmaL ds k w) (h : k1 ≤ k := by omega) : SmaL (d :: ds) k (w1 + 1 + w) := by
  refine ⟨?_, ?_, ?_, ?_, ?_, ?_⟩
  · simp only [PyData.showableAll]; rw [a.sh, b.sh]; rfl
  · simp only [PyData.hasDictAll]; rw [a.nd, b.nd]; rfl
  · simp only [PyData.canLayAll0]; rw [a.cl, b.cl]; rfl
  · simp only [PyData.intsShortAll]; rw [a.is, b.is]; rfl
  · simp only [PyData.depthAll]; have := a.dp; have := b.dp; omega
  · simp only [PyData.weightAll]; have := a.wt; have := b.wt; omega
theorem sma_tup {ds : List PyData} {k w : Nat} (a : SmaL ds k w) : Sma (.tuple ds) (k + 1) w := by
  refine ⟨?_, ?_, ?_, ?_, ?_, ?_⟩
  · simp only [PyData.showable]; exact a.sh
  · simp only [PyData.hasDict]; exact a.nd
  · simp only [PyData.canLay0]; exact a.cl
  · simp only [PyData.intsShort]; exact a.is
  · simp only [PyData.depth]; have := a.dp; omega
  · simp only [PyData.weight]; exact a.wt
theorem sma_lst {ds : List PyData} {k w : Nat} (a : SmaL ds k w) : Sma (.list ds) (k + 1) w := by
  refine ⟨?_, ?_, ?_, ?_, ?_, ?_⟩
  · simp only [PyData.showable]; exact a.sh
  · simp only [PyData.hasDict]; exact a.nd
  · simp only [PyData.canLay0]; exact a.cl
  · simp only [PyData.intsShort]; exact a.is
  · simp only [PyData.depth]; have := a.dp; omega
  · simp only [PyData.weight]; exact a.wt
theorem smaL_ints {ns : List Int} (h : ∀ i ∈ ns, i.natAbs < 1024) : SmaL (ns.map PyData.int) 0 (12 * ns.length) := by
  induction ns with
  | nil => exact smaL_nil
  | cons n ns ih =>
    have a := smaL_cons (sma_int (h n List.mem_cons_self)) (ih fun i hi => h i (List.mem_cons_of_mem _ hi)) (by omega)
    exact ⟨a.sh, a.nd, a.cl, a.is, a.dp, by have h1 : PyData.weightAll (List.map PyData.int (n :: ns)) ≤ 11 + 1 + 12 * ns.length := a.wt; rw [List.length_cons]; omega⟩
theorem shw_of {d : D} {q : PyData} {k w : Nat} (hd : DPy d q) (sq : Sq d) (a : Sma q k w) (hk : k ≤ 10 := by omega) (hw : w ≤ 2 ^ 20 := by omega) : Shw d q := by
  refine ⟨hd, sq, a.sh, a.nd, by have := a.dp; omega, ?_⟩
  have h1 : q.layable0 = true := by
    show (PyData.canLay0 q && decide (PyData.depth q ≤ 64) && decide (PyData.weight q ≤ 2 ^ 20)) = true
    simp only [Bool.and_eq_true, decide_eq_true_eq]
    exact ⟨⟨a.cl, by have := a.dp; omega⟩, by have := a.wt; omega⟩
  have h2 := shown_le13 h1 a.is
  rw [sizeLine_eq]; omega
def mkPy (x : Int × Int) : PyData := .tuple [.int x.1, .int x.2]
def brPy (r : Brk) : PyData := .tuple [mkPy r.2.1, mkPy r.2.2]
def outPy : Out → PyData
  | .told n => .tuple [.str "told", .int (n : Int)]
  | .unl r => .tuple [.str "Unlawful", .str r.1, brPy r]
  | .plc p vs => .tuple [.str "PlaceClash", .int p, .list (vs.map PyData.int)]
  | .rul r => .tuple [.str "RuleClash", .str r.1, brPy r]
theorem dpy_mk (x : Int × Int) : DPy (encM x) (mkPy x) := .tup (.cons .int (.cons .int .nil))
theorem dpy_br (r : Brk) : DPy (barD r) (brPy r) := .tup (.cons (dpy_mk _) (.cons (dpy_mk _) .nil))
theorem dpy_out (o : Out) : DPy (encOut o) (outPy o) := by
  cases o with
  | told n => exact .tup (.cons .str (.cons .int .nil))
  | unl r => exact .tup (.cons .str (.cons .str (.cons (dpy_br r) .nil)))
  | plc p vs => exact .tup (.cons .str (.cons .int (.cons (.lst (dpy_ints vs)) .nil)))
  | rul r => exact .tup (.cons .str (.cons .str (.cons (dpy_br r) .nil)))
structure BrkOk (r : Brk) : Prop where
  nm : r.1 = "apart" ∨ r.1 = "whole"
  s1 : r.2.1.1.natAbs < 1024 ∧ r.2.1.2.natAbs < 1024
  s2 : r.2.2.1.natAbs < 1024 ∧ r.2.2.2.natAbs < 1024
def OutOk : Out → Prop
  | .told n => n < 1024
  | .unl r => BrkOk r
  | .plc p vs => p.natAbs < 1024 ∧ vs.length ≤ 60 ∧ ∀ v ∈ vs, v.natAbs < 1024
  | .rul r => BrkOk r
theorem sma_mk {x : Int × Int} (h : x.1.natAbs < 1024 ∧ x.2.natAbs < 1024) : Sma (mkPy x) 1 24 := sma_tup (smaL_cons (sma_int h.1) (smaL_cons (sma_int h.2) smaL_nil))
theorem sma_br {r : Brk} (h : BrkOk r) : Sma (brPy r) 2 50 := sma_tup (smaL_cons (sma_mk h.s1) (smaL_cons (sma_mk h.s2) smaL_nil))
theorem sma_nm {r : Brk} (h : BrkOk r) : Sma (.str r.1) 0 5 := by
  rcases h.nm with e | e <;> rw [e] <;> exact sma_str (by decide +kernel) (by decide +kernel)
theorem out_shw {o : Out} (h : OutOk o) : Shw (encOut o) (outPy o) := by
  cases o with
  | told n => exact shw_of (dpy_out _) trivial (sma_tup (smaL_cons (sma_str (w := 4) (by decide +kernel) (by decide +kernel)) (smaL_cons (sma_int (by show ((n : Int)).natAbs < 1024; rw [Int.natAbs_natCast]; exact h)) (smaL_nil (k := 0)))))
  | unl r => exact shw_of (dpy_out _) trivial (sma_tup (k := 2) (smaL_cons (sma_str (w := 8) (by decide +kernel) (by decide +kernel)) (smaL_cons (sma_nm h) (smaL_cons (sma_br h) smaL_nil))))
  | plc p vs => exact shw_of (dpy_out _) trivial (sma_tup (k := 1) (smaL_cons (sma_str (w := 10) (by decide +kernel) (by decide +kernel)) (smaL_cons (sma_int h.1) (smaL_cons (sma_lst (smaL_ints h.2.2)) smaL_nil)))) (by omega) (by have := h.2.1; omega)
  | rul r => exact shw_of (dpy_out _) trivial (sma_tup (k := 2) (smaL_cons (sma_str (w := 9) (by decide +kernel) (by decide +kernel)) (smaL_cons (sma_nm h) (smaL_cons (sma_br h) smaL_nil))))
theorem shw_00 : Shw (.lst [.int 0, .int 0]) (.list [.int 0, .int 0]) := shw_of (.lst (.cons .int (.cons .int .nil))) trivial (sma_lst (smaL_cons (sma_int (i := 0) (by decide)) (smaL_cons (sma_int (i := 0) (by decide)) (smaL_nil (k := 0)))))
/-! what is due is small -/
theorem brk_ok {n : Nat} {b : Bk} {r : Brk} (hn : n ≤ 10) (hb : ∀ p, 0 ≤ getB b p ∧ getB b p ≤ 3) (h : brokenL b n = some r) : BrkOk r := by
  have hs : ∀ p, (getB b p).natAbs < 1024 := fun p => by have := hb p; omega
  unfold brokenL at h
  cases e : (List.range n).findSome? (apartR b n) with
  | some r' =>
    rw [e] at h
    cases h
    obtain ⟨i, hi, e1⟩ := List.exists_of_findSome?_eq_some e
    unfold apartR at e1
    obtain ⟨j, hj, e2⟩ := List.exists_of_findSome?_eq_some e1
    have hi := List.mem_range.mp hi
    have hj := List.mem_range.mp hj
    unfold apartF at e2
    split at e2
    · cases e2
      exact ⟨.inl rfl, ⟨by show (2 * (1 + (i : Int) * 1)).natAbs < 1024; omega, hs _⟩, ⟨by show (2 * (1 + (i : Int) * 1 + 1 + (j : Int) * 1)).natAbs < 1024; omega, hs _⟩⟩
    · cases e2
  | none =>
    rw [e] at h
    simp only [Option.none_or] at h
    obtain ⟨i, hi, e1⟩ := List.exists_of_findSome?_eq_some h
    have hi := List.mem_range.mp hi
    unfold wholeF at e1
    split at e1
    · cases e1
      exact ⟨.inr rfl, ⟨by show (2 * (1 + (i : Int) * 1)).natAbs < 1024; omega, hs _⟩, ⟨by show (2 * (1 + (i : Int) * 1) + 1).natAbs < 1024; omega, hs _⟩⟩
    · cases e1
theorem out_ok {n : Nat} {t : Tps} {m : Wd} {h : Ht} (s : Sim n t m h) (hl : m.par.length ≤ 15) (hn : n ≤ 10) {d : Dl} (hd : d.ok n (t.map (·.1))) : OutOk (dueL t m n d).1 := by
  cases d with
  | wr x w =>
    obtain ⟨hx, hw⟩ := hd
    have hbo : BkOk n (bkAt m (tipOf t x)) := by
      unfold bkAt
      cases e : m.bk[tipOf t x]? with
      | none => exact bkOk_nil
      | some b => exact s.bo b (List.mem_of_getElem? e)
    cases e : brokenL (lawW (bkAt m (tipOf t x)) w) n with
    | some r => rw [dueW_unl e]; exact brk_ok hn (hbo.law hw).e.val e
    | none => rw [dueW_told e]; show m.par.length < 1024; omega
  | mg x os mk =>
    obtain ⟨hx, hos, hol, hw⟩ := hd
    have hns : ∀ j ∈ nodesL t x os, j < m.par.length := fun j hj => by
      unfold nodesL at hj
      obtain ⟨y, hy, rfl⟩ := List.mem_map.mp hj
      rcases List.mem_cons.mp hy with rfl | hy
      · exact s.tip _ hx
      · exact s.tip _ (hos y hy)
    by_cases ea : mk.length = 0 ∧ ∃ j, earlyL m (nodesL t x os) = some j
    · obtain ⟨z, j, e⟩ := ea
      rw [dueM_early z e]
      show j < 1024
      unfold earlyL at e
      obtain ⟨i, hi, e⟩ := List.exists_of_findSome?_eq_some e
      unfold earlyF at e
      split at e
      · cases e; have := hns _ hi; omega
      · cases e
    · have ea' : mk.length = 0 → earlyL m (nodesL t x os) = none := fun z => by
        cases e : earlyL m (nodesL t x os) with
        | none => rfl
        | some j => exact absurd ⟨z, j, e⟩ ea
      rw [dueM_late ea']
      generalize nodesL t x os = ns at *
      cases e0 : (plsL n).findSome? (clashF m ns mk) with
      | some pf =>
        obtain ⟨p, f⟩ := pf
        rw [dueM_plc e0]
        obtain ⟨p', hp', e⟩ := List.exists_of_findSome?_eq_some e0
        unfold clashF at e
        split at e
        · cases e
          have hp := plsL_mem.mp hp'
          refine ⟨by omega, ?_, fun v hv => ?_⟩
          · rw [← found_eq s.lw hns]
            unfold foundL valsL
            refine Nat.le_trans asc_len ?_
            rw [List.length_map]
            exact Nat.le_trans (List.length_filter_le _ _) (Nat.le_trans pastL_len (by omega))
          · rw [← found_eq s.lw hns] at hv
            have := found_val s.wo hv
            omega
        · cases e
      | none =>
        cases e : brokenL (bookL m ns mk n) n with
        | some r => rw [dueM_rul e0 e]; exact brk_ok hn (bookL_ok s.wi hw).e.val e
        | none => rw [dueM_told e0 e]; show m.par.length < 1024; omega
/-- what is not told changes nothing -/
theorem due_same {n : Nat} {t : Tps} {m : Wd} {d : Dl} (h : ∀ k, (dueL t m n d).1 ≠ .told k) : (dueL t m n d).2 = (t, m) := by
  cases d with
  | wr x w =>
    cases e : brokenL (lawW (bkAt m (tipOf t x)) w) n with
    | some r => rw [dueW_unl e]
    | none => rw [dueW_told e] at h; exact absurd rfl (h _)
  | mg x os mk =>
    by_cases ea : mk.length = 0 ∧ ∃ j, earlyL m (nodesL t x os) = some j
    · obtain ⟨z, j, e⟩ := ea
      rw [dueM_early z e] at h; exact absurd rfl (h _)
    · have ea' : mk.length = 0 → earlyL m (nodesL t x os) = none := fun z => by
        cases e : earlyL m (nodesL t x os) with
        | none => rfl
        | some j => exact absurd ⟨z, j, e⟩ ea
      rw [dueM_late ea'] at h ⊢
      generalize nodesL t x os = ns at *
      cases e0 : (plsL n).findSome? (clashF m ns mk) with
      | some pf => obtain ⟨p, f⟩ := pf; rw [dueM_plc e0]
      | none =>
        cases e : brokenL (bookL m ns mk n) n with
        | some r => rw [dueM_rul e0 e]
        | none => rw [dueM_told e0 e] at h; exact absurd rfl (h _)
theorem due_len {n : Nat} {t : Tps} {m : Wd} {d : Dl} : (dueL t m n d).2.2.par.length ≤ m.par.length + 1 := by
  cases d with
  | wr x w =>
    cases e : brokenL (lawW (bkAt m (tipOf t x)) w) n with
    | some r => rw [dueW_unl e]; show m.par.length ≤ _; omega
    | none => rw [dueW_told e]; show (m.par ++ _).length ≤ _; simp
  | mg x os mk =>
    by_cases ea : mk.length = 0 ∧ ∃ j, earlyL m (nodesL t x os) = some j
    · obtain ⟨z, j, e⟩ := ea
      rw [dueM_early z e]; show m.par.length ≤ _; omega
    · have ea' : mk.length = 0 → earlyL m (nodesL t x os) = none := fun z => by
        cases e : earlyL m (nodesL t x os) with
        | none => rfl
        | some j => exact absurd ⟨z, j, e⟩ ea
      rw [dueM_late ea']
      generalize nodesL t x os = ns at *
      cases e0 : (plsL n).findSome? (clashF m ns mk) with
      | some pf => obtain ⟨p, f⟩ := pf; rw [dueM_plc e0]; show m.par.length ≤ _; omega
      | none =>
        cases e : brokenL (bookL m ns mk n) n with
        | some r => rw [dueM_rul e0 e]; show m.par.length ≤ _; omega
        | none => rw [dueM_told e0 e]; show (m.par ++ _).length ≤ _; simp
end FS
/-! text M16 -/
/-! M16: the start. -/
namespace FS
open PySem PySem.Spec PyProof.Rows L2
theorem inn0 {b : Bk} {i : Nat} : inn (wd0 b) i = if i = 0 then [0] else [] := by
  unfold inn wd0
  cases i with
  | zero => rfl
  | succ i => rw [if_neg (by omega)]; rfl
theorem par0 {b : Bk} {i : Nat} {ps : List Nat} (h : (wd0 b).par[i]? = some ps) : i = 0 ∧ ps = [] := by
  cases i with
  | zero => cases h; exact ⟨rfl, rfl⟩
  | succ i => cases h
theorem lw0 {b : Bk} : LwI (wd0 b) := by
  refine ⟨⟨rfl, rfl, rfl, by show (1 : Nat) ≤ 60; omega⟩, fun i ps h p hp => ?_, fun i ps h k => ?_, fun i hi => ?_, fun i => ?_, fun i hi => ?_, fun i k hk => ?_⟩
  · rw [(par0 h).2] at hp; cases hp
  · obtain ⟨rfl, rfl⟩ := par0 h
    rw [inn0, if_pos rfl]
    simp
  · rw [inn0, if_neg (by have : 1 ≤ i := hi; omega)]
  · rw [inn0]; split
    · decide
    · exact List.nodup_nil
  · have : i < 1 := hi
    rw [inn0, if_pos (by omega)]; exact List.mem_singleton_self _
  · rw [inn0] at hk
    split at hk
    · rw [List.mem_singleton.mp hk]; omega
    · cases hk
theorem wrB_one {b : Bk} {i : Nat} : wrB [b] i = if i = 0 then b else [] := by
  unfold wrB
  cases i with
  | zero => rfl
  | succ i => rw [if_neg (by omega)]; rfl
theorem sim0 {n : Nat} {b : Bk} {t : Tps} (hb : BkOk n b) (hn : n ≤ 10) (h : brokenL b n = none) (nm : t.map (·.1) = nms) (ht : ∀ x ∈ t.map (·.1), tipOf t x = 0) : Sim n t (wd0 b) (ht0 b) := by
  have e : lawW b [] = b := lawW_id hb
  have ebk : ∀ i, bkAt (wd0 b) i = wrB [b] i := fun i => by
    show wrB [lawW b []] i = _
    rw [e]
  refine ⟨rfl, ?_, ⟨⟨rfl, rfl, rfl, by show (1 : Nat) ≤ 60; omega⟩, b, rfl, rfl, rfl, rfl, hb.e.nn, h⟩, fun i => ?_, fun i p => ?_, lw0, fun w hw => ?_, fun c hc => ?_, fun i => ?_, nm, fun x hx => ?_⟩
  · show [b] = [lawW b []]; rw [e]
  · show BkE n (wrB [b] i)
    rw [wrB_one]
    split
    · exact hb.e
    · exact bkE_nil
  · rw [ebk]; rfl
  · have hw : w ∈ [lawW b []] := hw
    rw [e] at hw
    rw [List.mem_singleton.mp hw]; exact hb.wr (by omega)
  · have hc : c ∈ [lawW b []] := hc
    rw [e] at hc
    rw [List.mem_singleton.mp hc]; exact hb
  · rw [ebk, wrB_one]
    split
    · exact h
    · exact broken_nil
  · rw [ht x hx]; show (0 : Nat) < 1; omega
theorem hv0 {n : Nat} {b : Bk} (hb : BkOk n b) : HvI (wd0 b) := fun k hk p j hj => by
  have hk : k < 1 := hk
  have hj' : j < 1 := (mem_lawHeads.mp hj).1.1
  have e1 : k = 0 := by omega
  have e2 : j = 0 := by omega
  subst e1; subst e2
  rfl
end FS
/-! text W36 -/
/-! W36: rules that law needs. -/
namespace FS
open PySem PySem.Spec PyProof.Rows L2
section
variable {B : Bg} {N : List Str} {sc : Scope} {k : Nat} {S : Sit B N sc k} {G : Gam} {L : Sto} {a b c e o : Expr} {es : List Expr} {pos p apos : Pos} {post : D → Sto → Prop}
theorem WeX.we (h : WeX S G L e post fun _ _ _ => False) : We S G L e post := fun σ H A Q c => h σ H A Q c fun _ _ _ _ _ _ z => z.elim
theorem wt_neS {po : Bool → Sto → Prop} (h : We S G L a fun x L1 => ∃ i : Str, x = .str i ∧ We S G L1 b fun y L2 => ∃ j : Str, y = .str j ∧ po (!decide (i = j)) L2) : Wt S G L (.Compare a [.NotEq] [b] pos) po :=
  wt_cmp (fun _ _ => op_ne) (nomark _) (h.mono fun x L1 ⟨i, e, q⟩ => q.mono fun y L2 ⟨j, e2, q2⟩ => by subst e; subst e2; exact a2_ne .str .str rfl ⟨_, by rw [decV_str], q2⟩)
/-- a test that is never passed, with effects -/
theorem ws_ifF {t rest : List Stmt} {E : AE} (h : Wt S G L c fun b L1 => b = false ∧ Ws S G L1 rest E) : Ws S G L (.If c t [] pos :: rest) E := ws_cons (wo_if (h.mono fun b L1 ⟨e, w⟩ => by
  subst e
  rw [if_neg Bool.false_ne_true]
  exact ws_nil w))
end
theorem prot_set {L : Sto} {p q : Addr} {d : D} : (L.prot p).set q d = (L.set q d).prot p := rfl
/-! the model's cells -/
theorem MAt.congr {L L' : Sto} {mq tq q a0 a1 a2 a3 : Addr} {t : Tps} {m : Wd} (h : MAt L mq tq q a0 a1 a2 a3 t m) (e : ∀ a ∈ [mq, tq, q, a0, a1, a2, a3], L' a = L a) : MAt L' mq tq q a0 a1 a2 a3 t m := by
  obtain ⟨⟨w1, w2, hq, h0, h1, h2, h3⟩, hm, ht, tn, mn⟩ := h
  exact ⟨⟨w1, w2, (e _ (by simp)).trans hq, (e _ (by simp)).trans h0, (e _ (by simp)).trans h1, (e _ (by simp)).trans h2, (e _ (by simp)).trans h3⟩, (e _ (by simp)).trans hm, (e _ (by simp)).trans ht, tn, mn⟩
theorem mput_at {L : Sto} {tq a0 a1 a2 a3 a : Addr} {t : Tps} {m : Wd} (h : a ≠ tq ∧ a ≠ a0 ∧ a ≠ a1 ∧ a ≠ a2 ∧ a ≠ a3) : mput L tq a0 a1 a2 a3 t m a = L a := by
  unfold mput; rw [Sto.set_ne h.1, wput_ne h.2]
theorem MAt.fz {L : Sto} {mq tq q a0 a1 a2 a3 : Addr} {t : Tps} {m : Wd} (h : MAt L mq tq q a0 a1 a2 a3 t m) : Fz L L.cold (.ptr mq) (mD t m) :=
  fz_lst h.hm (.cons (sub_cold.cell h.ht rfl) (.cons (fz_lst h.w.hq (.cons (sub_cold.cell h.w.h0 rfl) (.cons (sub_cold.cell h.w.h1 rfl) (.cons (sub_cold.cell h.w.h2 rfl) (.cons (sub_cold.cell h.w.h3 rfl) .nil))))) .nil))
theorem DkAt.fz {CD : Addr} {L : Sto} {q qe : Addr} {dp st tb : D} {es : List D} (h : DkAt CD L q qe dp st tb es) : Fz L L.cold (.ptr q) (dkF CD dp st es tb) := fun H v so r => by
  cases r
  have nd : ¬ L.cold.dom q := fun z => z.elim (fun z => z rfl) fun z => by
    have := (so.prot q z).2; rw [h.hq] at this; cases this
  cases so.cell q _ h.hq with
  | ins e r =>
  refine .ins nd e ?_
  cases r with
  | cons a0 r =>
  cases r with
  | cons a1 r =>
  cases r with
  | cons a2 r =>
  cases r with
  | cons a3 r =>
  cases r
  exact .cons (a0.mono sub_cold.kp) (.cons (a1.mono sub_cold.kp) (.cons (sub_cold.cell h.he rfl H _ so a2) (.cons (a3.mono sub_cold.kp) .nil)))
theorem Dsk.congr {C CD CH CR CA CN : Addr} {n : Nat} {L L' : Sto} {q qe : Addr} {dp rb k : D} {t : Tps} {m : Wd} {c : Nat} (d : Dsk C CD CH CR CA CN n L q qe dp rb k t m c) (h1 : L' q = L q) (h2 : L' qe = L qe) : Dsk C CD CH CR CA CN n L' q qe dp rb k t m c := by
  obtain ⟨⟨h, tb, es, xs, at_, r⟩, r2, r3⟩ := d
  exact ⟨⟨h, tb, es, xs, ⟨h1.trans at_.hq, h2.trans at_.he, at_.ne⟩, r⟩, r2, r3⟩
end FS
/-! text E46 -/
/-! E46: law, the loop. -/
namespace FS
open PySem PySem.Spec PyProof.Rows L2
abbrev tLw : Stmt := top 134
abbrev lwN : List Str := ["_law_script", "_law_box", "_law_count", "_law_names", "_law_base", "_law_rules", "_law_desk", "_law_model", "_law_deeds", "_law_plan", "_law_k", "_law_row", "_law_due_here", "_law_turn"]
theorem scTLw : FnScope lwN ["_law_script"] (defScope tLw) := ⟨rfl, rfl, rfl, by decide +kernel, rfl, by decide +kernel, by decide +kernel⟩
/-- what law calls -/
structure LawP (B : Bg) (C CD CH CR CA CN CAn CU CP CQ : Addr) : Prop where
  cTk : Cl B 1 "_law_take" rTk
  cOp : Cl B 1 "_law_open" (rTOp (B := B))
  cSt : Cl B 3 "_law_started" rTSt
  cIr : Cl B 5 "item_rules" (rIr CR CA CN)
  cWr : Cl B 1 "_law_written" rTWr
  kDk : ∀ n, KclX B 8 "Desk" CD [.int 8] (rMDi C CD CH CR CA CN CAn n)
  cWd : Cl B 2 "_law_world" rTWd
  mf : ∀ n, MclX B 12 CD "fork" [] (rMDf C CD CH CR CA CN CU CP CQ n)
  cTd : Cl B 2 "_law_item_deed" rTTd
  cIw : Cl B 1 "_law_item_writes" rTIw
  cDe : Cl B 4 "_law_deed" rTDe
  cWt : Cl B 3 "_law_writes_told" rTWt
  cDu : Cl B 4 "_law_due" rTDu
  cDo : ∀ n, Cl B 13 "_law_do" (rTDo C CD CH CR CA CN n)
  cWa : ∀ n, Cl B 11 "_law_watch" (rTWa C CD CH CR CA CN n)
theorem Fr.trans {L L' L2 : Sto} {q qe : Addr} (a : Fr L L' q qe) (b : Fr L' L2 q qe) : Fr L L2 q qe := ⟨b.P.trans a.P, fun x h1 h2 => (b.c x h1 h2).trans (a.c x h1 h2)⟩
/-- cells that are not one another -/
structure Dj (q qe b2 mq tq wq a0 a1 a2 a3 : Addr) : Prop where
  dj : ∀ a ∈ [mq, tq, wq, a0, a1, a2, a3], a ≠ q ∧ a ≠ qe ∧ a ≠ b2
  d1 : q ≠ b2
  d2 : qe ≠ b2
structure LwS (C CD CH CR CA CN : Addr) (n : Nat) (L : Sto) (q qe b2 mq tq wq a0 a1 a2 a3 : Addr) (dp rb kk : D) (t : Tps) (m : Wd) (i : Nat) : Prop where
  dk : Dsk C CD CH CR CA CN n L q qe dp rb kk t m (2 + 2 * i)
  ma : MAt L mq tq wq a0 a1 a2 a3 t m
  bx : IsBox L b2
  hv : HvI m
  ln : m.par.length ≤ 1 + i
section
variable {C CD CH CR CA CN CAn CU CP CQ : Addr} {n : Nat} {L : Sto} {q qe b2 mq tq wq a0 a1 a2 a3 : Addr} {dp rb kk : D} {t : Tps} {m : Wd} {i : Nat}
theorem LwS.box (h : LwS C CD CH CR CA CN n L q qe b2 mq tq wq a0 a1 a2 a3 dp rb kk t m i) (dj : Dj q qe b2 mq tq wq a0 a1 a2 a3) {x y z : Int} : LwS C CD CH CR CA CN n (L.set b2 (boxD x y z)) q qe b2 mq tq wq a0 a1 a2 a3 dp rb kk t m i :=
  ⟨h.dk.congr (Sto.set_ne dj.d1) (Sto.set_ne dj.d2), h.ma.congr fun a ha => Sto.set_ne (dj.dj a ha).2.2, IsBox.set, h.hv, h.ln⟩
end
section
variable {B : Bg} {k : Nat} {S : Sit B lwN (defScope tLw) k} {G : Gam} {L : Sto} {C CD CH CR CA CN CAn CU CP CQ : Addr} {n : Nat} {q qe b2 mq tq wq a0 a1 a2 a3 : Addr} {dp rb kk : D} {t : Tps} {m : Wd}
/-- repr(_law_do(..)) != repr(..), once -/
theorem do_test (hg : S.gd = true) (hk : 13 ≤ k) (cDo : Cl B 13 "_law_do" (rTDo C CD CH CR CA CN n)) {d : Dl} {pl : D} {c : Nat} {p1 p2 p3 p4 p5 p6 p7 p8 p9 p10 p11 p12 : Pos} {j : Nat}
    (g6 : G[6]? = some (some (.ptr q))) (g11 : G[11]? = some (some (.lst [encDl d, pl]))) (g12 : G[12]? = some (some (encOut (dueL t m n d).1)))
    (dk : Dsk C CD CH CR CA CN n L q qe dp rb kk t m c) (hc : c ≤ 800) (hl : m.par.length ≤ 15) (hok : d.ok n (t.map (·.1))) (hnz : d.nz) :
    Wt S G L (.Compare (.Call (.Name "repr" p1) [.Call (.Name "_law_do" p2) [.Name "_law_desk" p3, .Subscript (.Name "_law_row" p4) (.Constant (.int 0) j p5) p6] [] p7] [] p8) [.NotEq] [.Call (.Name "repr" p9) [.Name "_law_due_here" p10] [] p11] p12)
      fun b L' => b = false ∧ Dsk C CD CH CR CA CN n L' q qe dp rb kk (dueL t m n d).2.1 (dueL t m n d).2.2 (c + 1) ∧ Fr L L' q qe := by
  have ok : OutOk (dueL t m n d).1 := by
    have n10 := dk.n10
    obtain ⟨⟨h, tb, es, xs, at_, sim, r⟩, _⟩ := dk
    exact out_ok sim hl n10 hok
  refine wt_neS (we_repr hg (we_call cDo hk ((ea_2 (ev_var 6 g6) (ev_ix (d := encDl d) (atI_nat (j := 0) rfl) (.inl rfl) (ev_var 11 g11) ev_int)).wa ⟨q, qe, dp, rb, kk, t, m, d, c, rfl, dk, hc, hl, hok, hnz, fun L' dk' fr => ⟨_, out_shw ok, _, rfl, we_repr hg (Ev.we (ev_var 12 g12) ⟨_, out_shw ok, _, rfl, ?_, dk', fr⟩)⟩⟩)))
  simp
theorem itemW_nz {d : Deed} : itemW d ≠ [] := by
  unfold itemW
  split
  · simp
  · split
    · simp
    · split <;> simp
theorem law_loop {s0 s1 s4 : D} {pls : List Deed} (hS : S.bd = true) (hg : S.gd = true) (hk : 13 ≤ k) (P : LawP B C CD CH CR CA CN CAn CU CP CQ) (dj : Dj q qe b2 mq tq wq a0 a1 a2 a3) (h1 : 1 ≤ n) (hpl : pls.length = 3) (hdr : ∀ d ∈ pls, Drawn (n : Int) d)
    (ls : LwS C CD CH CR CA CN n L q qe b2 mq tq wq a0 a1 a2 a3 dp rb kk t m 0) :
    Ws S [some s0, some s1, some (.int (n : Nat)), some (.lst (encS nms)), some s4, some rb, some (.ptr q), some (.ptr mq), some (.ptr b2), some (.lst (pls.map encDd)), none, none, none, none] L ((defBody tLw).drop 10) { nx := fun _ _ => False, rt := fun d _ => d = .bl true } := by
  have hn := ls.dk.n10
  have hr := ls.dk.r
  refine ws_for (wi_range1 (we_addI (ev_int.we ⟨8, rfl, we_take P.cTk (by omega) (n := 5) ls.bx (by decide) (by decide) (ev_var 8) ev_int fun dr x y z d0 d5 => ⟨dr, rfl, (8 + dr).toNat, by congr 1; omega, by omega, ?_⟩⟩)))
  have ls1 := ls.box dj (x := x) (y := y) (z := z)
  generalize L.set b2 (boxD x y z) = L1 at ls1
  refine forW_inv (fun i G' L' => ∃ t m c1 c2 c3 c4, G' = [some s0, some s1, some (.int (n : Nat)), some (.lst (encS nms)), some s4, some rb, some (.ptr q), some (.ptr mq), some (.ptr b2), some (.lst (pls.map encDd)), c1, c2, c3, c4] ∧ LwS C CD CH CR CA CN n L' q qe b2 mq tq wq a0 a1 a2 a3 dp rb kk t m i) ⟨t, m, _, _, _, _, rfl, ls1⟩ ?_ ?_
  · rintro i d G' L' hd ⟨t, m, c1, c2, c3, c4, rfl, ls⟩
    obtain ⟨hil, rfl⟩ := rngL_get hd
    have hi : i < 12 := by omega
    have hml : m.par.length ≤ 15 := by have := ls.ln; omega
    refine ⟨_, _, wg_name 10, ?_⟩
    obtain ⟨h, tb, es, xs, at_, sim, hes, hxs⟩ := ls.dk.ex
    have htl := sim.tl
    have hml' := hml
    refine ws_join (fun G1 L1 => ∃ dl pl, G1 = [some s0, some s1, some (.int (n : Nat)), some (.lst (encS nms)), some s4, some rb, some (.ptr q), some (.ptr mq), some (.ptr b2), some (.lst (pls.map encDd)), some (.int (0 + (i : Int) * 1)), some (.lst [encDl dl, pl]), c3, c4] ∧ LwS C CD CH CR CA CN n L1 q qe b2 mq tq wq a0 a1 a2 a3 dp rb kk t m i ∧ dl.ok n (t.map (·.1)) ∧ dl.nz ∧ planOk n dl pl) (wo_ifB (et_lt (ev_var 10) ev_int) (fun hT => ?_) fun hF => ?_) ?_
    · have h3 : i < 3 := by have := of_decide_eq_true hT; omega
      have e0 : (0 + (i : Int) * 1) = (i : Int) := by omega
      rw [e0]
      have hpi : i < pls.length := by omega
      have hni : i < nms.length := by unfold nms; exact h3
      have dd := hdr _ (List.getElem_mem hpi)
      have a1 : atI (pls.map encDd) (i : Int) = some (encDd pls[i]) := atI_nat (by rw [List.getElem?_map, List.getElem?_eq_getElem hpi]; rfl)
      have a2 : atI (encS nms) (i : Int) = some (.str nms[i]) := encS_at hni
      refine ws_set 11 ((ev_lst (ea_2 (ev_tup (ea_cons ev_str (ea_2 (ev_ix a2 (.inl rfl) (ev_var 3) (ev_var 10)) (ev_call P.cIw (by omega) (ea_1 (ev_ix a1 (.inl rfl) (ev_var 9) (ev_var 10))) ⟨pls[i], rfl, rfl, rfl⟩)))) (ev_ix a1 (.inl rfl) (ev_var 9) (ev_var 10)))).we (ws_nil ⟨.wr nms[i] (itemW pls[i]), encDd pls[i], rfl, ls, ⟨?_, dd.wr⟩, itemW_nz, .inr ⟨_, _, rfl, dd, rfl⟩⟩))
      rw [sim.nm]; exact List.getElem_mem hni
    · refine ws_set 11 (we_call P.cDe (by omega) ((ea_cons (ev_var 8) (ea_cons (ev_var 7) (ea_2 (ev_var 3) (ev_var 2)))).wa ⟨b2, mq, tq, wq, a0, a1, a2, a3, t, m, n, nms, rfl, ls.bx, fun x y z => (ls.box dj).ma, sim.wi, (fun x hx => by rw [sim.nm]; exact hx), rfl, sim.tip, h1, hn, fun dl pl x y z hok hpl => ws_nil ⟨dl, pl, rfl, ls.box dj, hok, ?_, hpl⟩⟩))
      rcases hpl with ⟨_, y1, y2, y3, rfl⟩ | ⟨dd, y1, _, _, rfl⟩
      · trivial
      · exact itemW_nz
    rintro G1 L1 ⟨dl, pl, rfl, ls, hok, hnz, hpo⟩
    clear sim at_ hes hxs h tb es xs
    obtain ⟨h, tb, es, xs, at_, sim, hes, hxs⟩ := ls.dk.ex
    refine ws_join (fun G2 L2 => G2 = [some s0, some s1, some (.int (n : Nat)), some (.lst (encS nms)), some s4, some rb, some (.ptr q), some (.ptr mq), some (.ptr b2), some (.lst (pls.map encDd)), some (.int (0 + (i : Int) * 1)), some (.lst [encDl dl, pl]), c3, c4] ∧ L2 = L1) ?_ ?_
    · rcases hpo with ⟨rfl, _⟩ | ⟨dd, _, rfl, _, _⟩
      · exact wo_ifB (et_and (y := false) (et_notN (ev_ix (d := .non) (atI_nat (j := 1) rfl) (.inl rfl) (ev_var 11) ev_int)) fun z => by cases z) (fun z => by cases z) fun _ => ws_nil ⟨rfl, rfl⟩
      · exact wo_ifB (et_and (et_notN (ev_ix (d := encDd dd) (atI_nat (j := 1) rfl) (.inl rfl) (ev_var 11) ev_int)) fun _ => et_not (et_val (ev_call P.cWt (by omega) (ea_1 (ev_ix (d := encDd dd) (atI_nat (j := 1) rfl) (.inl rfl) (ev_var 11) ev_int)) ⟨dd, rfl, rfl, rfl⟩))) (fun z => by cases z) fun _ => ws_nil ⟨rfl, rfl⟩
    rintro G2 L2 ⟨rfl, rfl⟩
    refine ws_set 12 (we_call P.cDu (by omega) ((ea_cons (ev_var 7) (ea_2 (ev_ix (d := encDl dl) (atI_nat (j := 0) rfl) (.inl rfl) (ev_var 11) ev_int) (ev_var 2))).wa ⟨mq, tq, wq, a0, a1, a2, a3, t, m, dl, n, rfl, ls.ma, sim.wi, sim.tip, by omega, hok, hn, by omega, ?_⟩))
    have nq : ∀ a, (∀ z ∈ [mq, tq, wq, a0, a1, a2, a3], z ≠ a) → a ≠ tq ∧ a ≠ a0 ∧ a ≠ a1 ∧ a ≠ a2 ∧ a ≠ a3 := fun a h => ⟨(h _ (by simp)).symm, (h _ (by simp)).symm, (h _ (by simp)).symm, (h _ (by simp)).symm, (h _ (by simp)).symm⟩
    have dk2 := ls.dk.congr (L' := mput L2 tq a0 a1 a2 a3 (dueL t m n dl).2.1 (dueL t m n dl).2.2) (mput_at (nq q fun z hz => (dj.dj z hz).1)) (mput_at (nq qe fun z hz => (dj.dj z hz).2.1))
    have ma2 : MAt (mput L2 tq a0 a1 a2 a3 (dueL t m n dl).2.1 (dueL t m n dl).2.2) mq tq wq a0 a1 a2 a3 (dueL t m n dl).2.1 (dueL t m n dl).2.2 := ls.ma.put
    have bx2 : IsBox (mput L2 tq a0 a1 a2 a3 (dueL t m n dl).2.1 (dueL t m n dl).2.2) b2 := by
      obtain ⟨x, y, z, e⟩ := ls.bx
      exact ⟨x, y, z, (mput_at (nq b2 fun z hz => (dj.dj z hz).2.2)).trans e⟩
    have hv2 := hv_due sim hml' ls.hv hok
    have ln2 := due_len (n := n) (t := t) (m := m) (d := dl)
    have hln := ls.ln
    generalize mput L2 tq a0 a1 a2 a3 (dueL t m n dl).2.1 (dueL t m n dl).2.2 = L3 at dk2 ma2 bx2 ⊢
    refine ws_join (fun G4 L4 => ∃ c5 cc, G4 = [some s0, some s1, some (.int (n : Nat)), some (.lst (encS nms)), some s4, some rb, some (.ptr q), some (.ptr mq), some (.ptr b2), some (.lst (pls.map encDd)), some (.int (0 + (i : Int) * 1)), some (.lst [encDl dl, pl]), some (encOut (dueL t m n dl).1), c5] ∧ Dsk C CD CH CR CA CN n L4 q qe dp rb kk (dueL t m n dl).2.1 (dueL t m n dl).2.2 cc ∧ cc ≤ 2 + 2 * (i + 1) ∧ Fr L3 L4 q qe) (wo_for ((ei_range1 (n := 2) ev_int (by decide)).wi ?_)) ?_
    · refine ⟨_, _, wg_name 13, ws_ifF ((do_test hg hk (P.cDo n) (t := t) (m := m) (d := dl) (pl := pl) (by rfl) (by rfl) (by rfl) dk2 (by omega) hml' hok hnz).mono fun b L4 ⟨eb, dk4, fr4⟩ => ⟨eb, ?_⟩)⟩
      by_cases ht : ∃ j, (dueL t m n dl).1 = .told j
      · obtain ⟨j, ej⟩ := ht
        refine ws_if (et_eqS (x := "told") (ev_ixT (ds := [.str "told", natD j]) (atI_nat (j := 0) rfl) (ev_var 12 (by rw [ej]; rfl)) ev_int) ev_str) (fun _ => ws_cons (wo_bk ⟨_, _, rfl, dk4, by omega, fr4⟩)) fun z => absurd z (by decide)
      · have hs : (dueL t m n dl).2 = (t, m) := due_same fun j e => ht ⟨j, e⟩
        obtain ⟨nm, rest, en, hnm⟩ : ∃ nm rest, encOut (dueL t m n dl).1 = .tup (.str nm :: rest) ∧ nm ≠ "told" := by
          cases e : (dueL t m n dl).1 with
          | told j => exact absurd ⟨j, e⟩ ht
          | unl r => exact ⟨_, _, rfl, by decide⟩
          | plc p vs => exact ⟨_, _, rfl, by decide⟩
          | rul r => exact ⟨_, _, rfl, by decide⟩
        refine ws_if (et_eqS (x := nm) (ev_ixT (ds := .str nm :: rest) (atI_nat (j := 0) rfl) (ev_var 12 (by rw [← en]; rfl)) ev_int) ev_str) (fun z => absurd (of_decide_eq_true z) hnm) fun _ => ws_nil (ws_nil ?_)
        rw [hs] at dk4
        refine ⟨_, _, wg_name 13, ws_ifF ((do_test hg hk (P.cDo n) (t := t) (m := m) (d := dl) (pl := pl) (by rfl) (by rfl) (by rfl) dk4 (by omega) hml' hok hnz).mono fun b L5 ⟨eb, dk5, fr5⟩ => ⟨eb, ?_⟩)⟩
        refine ws_if (et_eqS (x := nm) (ev_ixT (ds := .str nm :: rest) (atI_nat (j := 0) rfl) (ev_var 12 (by rw [← en]; rfl)) ev_int) ev_str) (fun z => absurd (of_decide_eq_true z) hnm) fun _ => ws_nil (ws_nil ?_)
        exact ⟨_, _, rfl, dk5, by omega, fr4.trans fr5⟩
    · rintro G4 L4 ⟨c5, cc, rfl, dk4, hcc, fr⟩
      have ma4 := ma2.congr (L' := L4) fun a ha => fr.c a (dj.dj a ha).1 (dj.dj a ha).2.1
      have bx4 : IsBox L4 b2 := by
        obtain ⟨x, y, z, e⟩ := bx2
        exact ⟨x, y, z, (fr.c b2 (Ne.symm dj.d1) (Ne.symm dj.d2)).trans e⟩
      obtain ⟨h4, tb4, es4, xs4, at4, sim4, he4, hx4⟩ := dk4.ex
      refine ws_if (et_not (et_val (ev_fz (.skip (.skip (.cons sub_cold.fz (.skip (.skip (.cons sub_cold.fz (.cons at4.fz (.cons ma4.fz (.skip (.skip (.skip (.skip (.skip (.skip .nil)))))))))))))) (ev_call (P.cWa n) (by omega) (ea_cons (ev_var 6) (ea_cons (ev_var 5) (ea_2 (ev_var 7) (ev_var 2)))) ⟨dp, rb, h4, _, _, kk, xs4, es4, tb4, rfl, sim4, hv2, hr, hn, rfl, rfl⟩)))) (fun z => by cases z) fun _ => ws_nil (ws_nil ⟨_, _, _, _, _, _, rfl, ⟨?_, ma4, bx4, hv2, by omega⟩⟩)
      exact ⟨⟨h4, tb4, es4, xs4, at4, sim4, by omega, by omega⟩, hr, hn⟩
  · rintro G' L' ⟨t, m, c1, c2, c3, c4, rfl, ls⟩
    exact ws_ret (ev_bl.we rfl)
end
end FS
/-! text E47 -/
/-! E47: law. -/
namespace FS
open PySem PySem.Spec PyProof.Rows L2
def t0 : Tps := [("main", 0), ("side", 0), ("third", 0)]
theorem none_ne {L : Sto} {a b : Addr} {d : D} (h : L a = some d) (n : L b = none) : b ≠ a := fun e => by rw [e, h] at n; cases n
/-- the cells of the model, made -/
theorem model_at {L : Sto} {mq tq wq a0 a1 a2 a3 : Addr} {t : Tps} {m : Wd} (nt : L tq = none) (n0 : (L.set tq (.dct (encT t))) a0 = none) (n1 : (L.set tq (.dct (encT t))) a1 = none) (n2 : (L.set tq (.dct (encT t))) a2 = none) (n3 : (L.set tq (.dct (encT t))) a3 = none) (nq : (L.set tq (.dct (encT t))) wq = none)
    (e1 : a1 ≠ a0) (e2 : a2 ≠ a1) (e3 : a2 ≠ a0) (e4 : a3 ≠ a2) (e5 : a3 ≠ a1) (e6 : a3 ≠ a0) (f3 : wq ≠ a3) (f2 : wq ≠ a2) (f1 : wq ≠ a1) (f0 : wq ≠ a0)
    (nm : ((wput (L.set tq (.dct (encT t))) a0 a1 a2 a3 m).set wq (.lst [.ptr a0, .ptr a1, .ptr a2, .ptr a3])) mq = none) :
    MAt (((wput (L.set tq (.dct (encT t))) a0 a1 a2 a3 m).set wq (.lst [.ptr a0, .ptr a1, .ptr a2, .ptr a3])).set mq (.lst [.ptr tq, .ptr wq])) mq tq wq a0 a1 a2 a3 t m ∧
    (∀ a, a ≠ mq → a ≠ tq → a ≠ wq → a ≠ a0 → a ≠ a1 → a ≠ a2 → a ≠ a3 → (((wput (L.set tq (.dct (encT t))) a0 a1 a2 a3 m).set wq (.lst [.ptr a0, .ptr a1, .ptr a2, .ptr a3])).set mq (.lst [.ptr tq, .ptr wq])) a = L a) ∧
    (∀ a ∈ [mq, tq, wq, a0, a1, a2, a3], L a = none) := by
  obtain ⟨g0, n0⟩ := none_set n0
  obtain ⟨g1, n1⟩ := none_set n1
  obtain ⟨g2, n2⟩ := none_set n2
  obtain ⟨g3, n3⟩ := none_set n3
  obtain ⟨gq, nq⟩ := none_set nq
  obtain ⟨m1, nm⟩ := none_set nm
  unfold wput at nm
  obtain ⟨m2, nm⟩ := none_set nm
  obtain ⟨m3, nm⟩ := none_set nm
  obtain ⟨m4, nm⟩ := none_set nm
  obtain ⟨m5, nm⟩ := none_set nm
  obtain ⟨m6, nm⟩ := none_set nm
  have w0 : ∀ {x : Addr}, x ≠ mq → x ≠ wq → (((wput (L.set tq (.dct (encT t))) a0 a1 a2 a3 m).set wq (.lst [.ptr a0, .ptr a1, .ptr a2, .ptr a3])).set mq (.lst [.ptr tq, .ptr wq])) x = (wput (L.set tq (.dct (encT t))) a0 a1 a2 a3 m) x := fun h1 h2 => by rw [Sto.set_ne h1, Sto.set_ne h2]
  refine ⟨⟨⟨⟨f0, f1, f2, f3⟩, ⟨e1.symm, e3.symm, e6.symm, e2.symm, e5.symm, e4.symm⟩, by rw [Sto.set_ne m1.symm]; exact Sto.set_same, ?_, ?_, ?_, ?_⟩, Sto.set_same, ?_, ⟨m6.symm, gq.symm, g0.symm, g1.symm, g2.symm, g3.symm⟩, ⟨m1, m5, m4, m3, m2⟩⟩, fun a h1 h2 h3 h4 h5 h6 h7 => ?_, fun a ha => ?_⟩
  · rw [w0 m5.symm f0.symm]; unfold wput; rw [Sto.set_ne e6.symm, Sto.set_ne e3.symm, Sto.set_ne e1.symm]; exact Sto.set_same
  · rw [w0 m4.symm f1.symm]; unfold wput; rw [Sto.set_ne e5.symm, Sto.set_ne e2.symm]; exact Sto.set_same
  · rw [w0 m3.symm f2.symm]; unfold wput; rw [Sto.set_ne e4.symm]; exact Sto.set_same
  · rw [w0 m2.symm f3.symm]; unfold wput; exact Sto.set_same
  · rw [w0 m6.symm gq.symm, wput_ne ⟨g0.symm, g1.symm, g2.symm, g3.symm⟩]; exact Sto.set_same
  · rw [w0 h1 h3, wput_ne ⟨h4, h5, h6, h7⟩, Sto.set_ne h2]
  · simp at ha
    rcases ha with rfl | rfl | rfl | rfl | rfl | rfl | rfl
    · exact nm
    · exact nt
    · exact nq
    · exact n0
    · exact n1
    · exact n2
    · exact n3
section
variable {B : Bg} {k : Nat} {S : Sit B lwN (defScope tLw) k} {L : Sto} {C CD CH CR CA CN CAn CU CP CQ : Addr}
theorem law_ws (hS : S.bd = true) (hg : S.gd = true) (hk : 13 ≤ k) (P : LawP B C CD CH CR CA CN CAn CU CP CQ) {ns : List Int} : Ws S (startD lwN [.scr B.K ns]) L (defBody tLw) { nx := fun _ _ => False, rt := fun d _ => d = .bl true } := by
  refine ws_set 1 (we_call P.cOp (by omega) ((ea_2 (ev_var 0) (ev_nat 0)).wa ⟨ns, 0, rfl, fun b1 x y z nb => ?_⟩))
  refine ws_setC hS 2 (we_addI (ev_int.we ⟨2, rfl, we_take P.cTk (by omega) (n := 2) IsBox.set (by decide) (by decide) (ev_var 1) ev_int fun d x y z d0 d2 => ⟨d, rfl, ?_⟩⟩))
  rw [Sto.set_set]
  obtain ⟨n, en⟩ : ∃ n : Nat, 2 + d = (n : Int) := ⟨(2 + d).toNat, by omega⟩
  rw [en]
  have h1 : 1 ≤ n := by omega
  have hn : n ≤ 10 := by omega
  refine ws_set 3 (Ev.we (d := .lst (encS nms)) (ev_lst (ea_cons ev_str (ea_2 ev_str ev_str))) ?_)
  refine ws_set 4 (we_call P.cSt (by omega) ((ea_2 (ev_var 1) (ev_var 2)).wa ⟨b1, n, rfl, IsBox.set, h1, hn, fun b x y z hb hbr => ?_⟩))
  rw [Sto.set_set]
  refine ws_set 5 (we_call P.cIr (by omega) ((ea_1 (ev_var 2)).wa ⟨n, rfl, hn, fun w pl w' => ?_⟩))
  generalize hrb : rbD CR (apD CA (posPs n) w) (ndD CN (itemPs n) pl w') = rb
  have hr : RbD CR CA CN n rb := ⟨w, pl, w', hrb.symm⟩
  have hbl := hb.len
  generalize L.set b1 (boxD x y z) = L1
  refine ws_set 6 (we_makeD (P.kDk n) (by omega) ((ea_2 (ev_var 5) (ev_call (d := .dct (encB b)) P.cWr (by omega) (ea_2 (ev_var 4) ev_dict0) ⟨b, [], _, rfl, .inl rfl, hb.nd, .nil, by omega, by simp, by rw [lawW_id hb], rfl⟩)).wa fun q nq => ⟨fun d L2 => d = .non ∧ ∃ qe, L1 qe = none ∧ qe ≠ q ∧ L2 = (L1.set qe (.lst [])).set q (dkD CD (.int 8) (stD C (hD CH rb (ht0 b)) [("main", 0)] (anD CAn) []) qe (.lst [])), ⟨q, rb, b, .int 8, rfl, Sto.set_same, hr, hb.e.nn, hn, hbr, fun qe nqe ne => ⟨rfl, qe, ?_, ne, ?_⟩⟩, fun d L2 ⟨ed, qe, nqe, ne, eL⟩ => ⟨ed, ?_⟩⟩))
  · rwa [Sto.set_ne ne] at nqe
  · rw [Sto.set_comm ne.symm, Sto.set_set]
  subst eL
  have dk : DkAt CD ((L1.set qe (.lst [])).set q (dkD CD (.int 8) (stD C (hD CH rb (ht0 b)) [("main", 0)] (anD CAn) []) qe (.lst []))) q qe (.int 8) (stD C (hD CH rb (ht0 b)) [("main", 0)] (anD CAn) []) (.lst []) [] := ⟨Sto.set_same, by rw [Sto.set_ne ne]; exact Sto.set_same, ne.symm⟩
  generalize (L1.set qe (.lst [])).set q (dkD CD (.int 8) (stD C (hD CH rb (ht0 b)) [("main", 0)] (anD CAn) []) qe (.lst [])) = L2 at dk
  refine ws_set 7 (we_lstM (wa_cons (we_disp (kvs := encT t0) (fun p => .cons ev_str kS ev_int .int (.cons ev_str kS ev_int .int (.cons ev_str kS ev_int .int .nil))) (.inr fun tq ntq => ?_))))
  have ep : putAll [] (encT t0) = encT t0 := rfl
  rw [ep]
  refine wa_cons (we_call P.cWd (by omega) ((ea_1 (ev_var 4)).wa ⟨b, n, rfl, hb, hn, fun wq a0 a1 a2 a3 n0 n1 n2 n3 nq e1 e2 e3 e4 e5 e6 f3 f2 f1 f0 => wa_nil ⟨(show (2 : Nat) ≤ sizeLine by decide), fun mq nmq => ?_⟩⟩))
  obtain ⟨ma, same, fresh⟩ := model_at ntq n0 n1 n2 n3 nq e1 e2 e3 e4 e5 e6 f3 f2 f1 f0 nmq
  generalize (((wput (L2.set tq (.dct (encT t0))) a0 a1 a2 a3 (wd0 b)).set wq (.lst [.ptr a0, .ptr a1, .ptr a2, .ptr a3])).set mq (.lst [.ptr tq, .ptr wq])) = L3 at ma same
  have dj1 : ∀ a ∈ [mq, tq, wq, a0, a1, a2, a3], a ≠ q ∧ a ≠ qe := fun a ha => ⟨none_ne dk.hq (fresh a ha), none_ne dk.he (fresh a ha)⟩
  have at_ : ∀ x, (∀ a ∈ [mq, tq, wq, a0, a1, a2, a3], a ≠ x) → L3 x = L2 x := fun x hx => same x (hx _ (by simp)).symm (hx _ (by simp)).symm (hx _ (by simp)).symm (hx _ (by simp)).symm (hx _ (by simp)).symm (hx _ (by simp)).symm (hx _ (by simp)).symm
  have dk3 : DkAt CD L3 q qe (.int 8) (stD C (hD CH rb (ht0 b)) [("main", 0)] (anD CAn) []) (.lst []) [] := ⟨(at_ q fun a ha => (dj1 a ha).1).trans dk.hq, (at_ qe fun a ha => (dj1 a ha).2).trans dk.he, dk.ne⟩
  refine ws_ifF (wt_neS (we_repr hg (we_lst (wa_cons (WeX.we (wex_meth (P.mf n) (by omega) (Ev.we (ev_var 6) ⟨⟨_, .inr ⟨q, rfl, dk3.hq⟩, rfl⟩, (ea_2 ev_str ev_str).wa ⟨q, "side", "main", rfl, at_fork dk3 (by decide) (by decide) (by decide) (by decide) (by decide) (by decide) (by decide) fun tx => ?_⟩⟩)))))))
  have dk4 := dk3.put (st' := stD C (hD CH rb (ht0 b)) (putG [("main", 0)] "side" (tipOf [("main", 0)] "main")) (anD CAn) ([] ++ [tx]))
  have fr4 : Fr L3 (dput CD L3 q qe (.int 8) [] (stD C (hD CH rb (ht0 b)) [("main", 0)] (anD CAn) []) (stD C (hD CH rb (ht0 b)) (putG [("main", 0)] "side" (tipOf [("main", 0)] "main")) (anD CAn) ([] ++ [tx]))) q qe := fr_dput
  generalize (dput CD L3 q qe (.int 8) [] (stD C (hD CH rb (ht0 b)) [("main", 0)] (anD CAn) []) (stD C (hD CH rb (ht0 b)) (putG [("main", 0)] "side" (tipOf [("main", 0)] "main")) (anD CAn) ([] ++ [tx]))) = L4 at dk4 fr4
  have eT1 : tipOf [("main", 0)] "main" = 0 := rfl
  have eP1 : putG ([("main", 0)] : Tps) "side" 0 = ([("main", 0), ("side", 0)] : Tps) := rfl
  rw [eT1, eP1] at dk4
  rw [eT1]
  refine wa_cons (WeX.we (wex_meth (P.mf n) (by omega) (Ev.we (ev_var 6) ⟨⟨_, .inr ⟨q, rfl, dk4.hq⟩, rfl⟩, (ea_2 ev_str ev_str).wa ⟨q, "third", "side", rfl, at_fork dk4 (by decide) (by decide) (by decide) (show (1 : Nat) ≤ 900 by decide) (show (1 : Nat) ≤ 900 by decide) (by decide) (by decide) fun ty => ?_⟩⟩)))
  have eT2 : tipOf ([("main", 0), ("side", 0)] : Tps) "side" = 0 := rfl
  have eP2 : putG ([("main", 0), ("side", 0)] : Tps) "third" 0 = t0 := rfl
  rw [eT2, eP2]
  have dk5 := dk4.put (st' := stD C (hD CH rb (ht0 b)) t0 (anD CAn) (([] ++ [tx]) ++ [ty]))
  have fr5 : Fr L4 (dput CD L4 q qe (.int 8) ([] ++ [stD C (hD CH rb (ht0 b)) [("main", 0)] (anD CAn) []]) (stD C (hD CH rb (ht0 b)) [("main", 0), ("side", 0)] (anD CAn) ([] ++ [tx])) (stD C (hD CH rb (ht0 b)) t0 (anD CAn) (([] ++ [tx]) ++ [ty]))) q qe := fr_dput
  generalize (dput CD L4 q qe (.int 8) ([] ++ [stD C (hD CH rb (ht0 b)) [("main", 0)] (anD CAn) []]) (stD C (hD CH rb (ht0 b)) [("main", 0), ("side", 0)] (anD CAn) ([] ++ [tx])) (stD C (hD CH rb (ht0 b)) t0 (anD CAn) (([] ++ [tx]) ++ [ty]))) = L5 at dk5 fr5
  refine wa_nil ⟨(show (2 : Nat) ≤ sizeLine by decide), _, shw_00, _, rfl, we_repr hg (Ev.we (ev_lst (ea_2 ev_int ev_int)) ⟨_, shw_00, _, rfl, by simp, ?_⟩)⟩
  have dsk5 : Dsk C CD CH CR CA CN n L5 q qe (.int 8) rb (anD CAn) t0 (wd0 b) 2 := ⟨⟨ht0 b, _, _, _, dk5, sim0 hb hn hbr rfl (by decide), (show (2 : Nat) ≤ 2 by decide), (show (2 : Nat) ≤ 2 by decide)⟩, hr, hn⟩
  have fr := fr4.trans fr5
  have ma5 := ma.congr (L' := L5) fun a ha => fr.c a (dj1 a ha).1 (dj1 a ha).2
  refine ws_setC hS 8 (we_call P.cOp (by omega) ((ea_2 (ev_var 0) (ev_nat 1)).wa ⟨ns, 1, rfl, fun b2 x y z nb2 => ?_⟩))
  have hmc : ∀ a ∈ [mq, tq, wq, a0, a1, a2, a3], a ≠ b2 := fun a ha e => by
    subst e
    obtain ⟨⟨_, _, w1, w2, w3, w4, w5⟩, w6, w7, _, _⟩ := ma5
    simp at ha
    rcases ha with rfl | rfl | rfl | rfl | rfl | rfl | rfl <;> simp_all
  have dj : Dj q qe b2 mq tq wq a0 a1 a2 a3 := ⟨fun a ha => ⟨(dj1 a ha).1, (dj1 a ha).2, hmc a ha⟩, (none_ne dk5.hq nb2).symm, (none_ne dk5.he nb2).symm⟩
  have ls : LwS C CD CH CR CA CN n (L5.set b2 (boxD x y z)) q qe b2 mq tq wq a0 a1 a2 a3 (.int 8) rb (anD CAn) t0 (wd0 b) 0 := ⟨dsk5.congr (Sto.set_ne dj.d1) (Sto.set_ne dj.d2), ma5.congr fun a ha => Sto.set_ne (hmc a ha), IsBox.set, hv0 hb, by show (1 : Nat) ≤ 1; omega⟩
  refine ws_setLcM 9 [("_law_k", 10)] (fin := fun rs L' => ∃ pls : List Deed, rs = pls.map encDd ∧ pls.length = 3 ∧ (∀ d ∈ pls, Drawn (n : Int) d) ∧ ∃ x y z, L' = L5.set b2 (boxD x y z)) ((ei_range1 (n := 3) ev_int (by decide)).wi ⟨by decide, ?_⟩) fun rs L' ⟨pls, e, hpl, hdr, x, y, z, eL⟩ => ?_
  · have hk3 : ∀ k ∈ rngL 0 1 3, ∃ i, k = .int i := fun k hk => by
      obtain ⟨j, hj⟩ := List.getElem?_of_mem hk
      exact ⟨_, (rngL_get hj).2⟩
    have hlen : ([] : List Deed).length + (rngL 0 1 3).length = 3 := by rw [rngL_len]; rfl
    have hacc : ∀ d ∈ ([] : List Deed), Drawn (n : Int) d := fun d hd => by cases hd
    show LcW true _ _ _ _ _ _ _ _ (([] : List Deed).map encDd) _
    clear ls
    generalize ([] : List Deed) = acc at hlen hacc ⊢
    generalize rngL 0 1 3 = ks at hk3 hlen ⊢
    induction ks generalizing acc x y z with
    | nil => exact ⟨acc, rfl, by simpa using hlen, hacc, x, y, z, rfl⟩
    | cons d ks ih =>
      obtain ⟨i, rfl⟩ := hk3 d List.mem_cons_self
      refine ⟨_, _, wg_name 10, by decide, fun p => wts_nil ?_⟩
      rw [if_pos rfl]
      refine we_call P.cTd (by omega) ((ea_cons (ev_var 8) (ea_2 (ev_var 2) (ev_var 10))).wa ⟨b2, (n : Int), i, rfl, ⟨x, y, z, Sto.set_same⟩, by omega, by omega, fun dd x' y' z' hdd => ⟨L5.set b2 (boxD x' y' z'), ?_, rfl, (fun z => nomatch z), ?_⟩⟩)
      · rw [prot_set, Sto.set_set]
      · have := ih x' y' z' (acc ++ [dd]) (fun d hd => by
          rcases List.mem_append.mp hd with h | h
          · exact hacc d h
          · rw [List.mem_singleton.mp h]; exact hdd) (fun k hk => hk3 k (List.mem_cons_of_mem _ hk)) (by rw [List.length_append, List.length_singleton]; rw [List.length_cons] at hlen; omega)
        rw [List.map_append] at this
        exact this
  · subst e; subst eL
    have ls' := ls.box dj (x := x) (y := y) (z := z)
    rw [Sto.set_set] at ls'
    exact law_loop hS hg hk P dj h1 hpl hdr ls'
end
end FS
/-! text W37 -/
/-! W37: the law's own call (the kit's rules fn_of and law_call, at the caller alone: repr needs its guards). -/
namespace FX
open PySem PySem.Spec PyProof.Rows L2
theorem fn_at {CX : CXT} {P : Program} {w : World} {K : PySem.W.Frag} {mg : Str → Option Value} {base : Heap} {k : Nat} {f : Addr} {name qual : Str} {params : Arguments} {body : List Stmt} {scope : Scope} {dV kV doc pm cdv ct oc : Value} {an od : Option Addr}
    {osl : Array (Option Value)} {N ps : List Str} {sp : Sp} (lk : K.lookup f = some ⟨oc, od, .func (PySem.W.fnOf name qual params body scope dV kV doc pm an cdv ct), osl⟩) (hcd : PySem.W.codeIn K cdv qual = true) (S : FnScope N ps scope)
    (len : ∀ vs H Q E, sp vs H Q E → vs.length = ps.length)
    (hr : Room (k + 1) callerA) (hbody : ∀ (s : Shared) (H : Hp) (vs : List V) (Q : VK) (E : XK), Room k (callerA.deeper (envOfC qual scope s.heap.objs.size f cdv)) → sp vs H Q E →
      ∃ t, PSs (cxOf CX P w K mg base N qual scope f cdv callerA [] s H E) body t ∧ t { nx := fun _ H' => Q .non H', rt := Q } (start N vs) H) :
    ∀ (s : Shared) (H : Hp) (args : Args) (us : List Value) (vs : List V) (Q : VK) (E : XK), Env0 P w K mg base callerA [] s H → BindsTo s (PySem.W.fnOf name qual params body scope dV kV doc pm an cdv ct) args (ps.zip us) → Vals vs us → sp vs H Q E → codeAny (model P w) callerA (.call (.ref f) args) (CR CX [] P w H s Q E) s := by
  refine fun s H args us vs Q E e0 hb r hsp => ?_
  have hl := len _ _ _ _ hsp
  have KX : K.In s.heap := e0.mod.kin.keeps fun b o e => (e0.bs b o e).1
  have lim : s.heap.NoLimit := e0.mod.nolimit.keeps fun b o e => (e0.bs b o e).1
  have hkind : ∀ y ∈ ps.zip us, scope.names.lookup y.1 = some .local ∨ (scope.names.lookup y.1 = some .cell ∧ ((cellsFrom (s.heap.objs.size + 1) scope.names []).lookup y.1).isSome = true) := fun ⟨n, v⟩ hy => by
    rcases S.par n (List.of_mem_zip hy).1 with q | q
    · exact .inl q
    · exact .inr ⟨q, PySem.W.cellsFrom_some _ _ _ (.inl q)⟩
  refine codeAny_call_function hr.depth (KX _ _ lk) rfl S.co S.gen rfl (PySem.W.codeRec_of KX hcd) (hb _ _ _ _ ?_)
  refine wpAny_newFunctionEnv_cells S.kind hkind fun env he s1 x => ?_
  subst he
  refine ⟨lim.keeps x.toInCall.keep, codeAny_func ?_⟩
  obtain ⟨t, ht, hq⟩ := hbody s H vs Q E (hr.deeper _) hsp
  have I : Inv (cxOf CX P w K mg base N qual scope f cdv callerA [] s H E) [] (start N vs) H s1 := inv_start S hr.hd e0 hl r x
  refine wpAny_mono (ht.run [] s1 (start N vs) H _ I hq) (fun fl s' hs => ?_) fun e s' hs => hs
  have fin : ∀ {σ' : L2.St} {H' : Hp} {v : V} {u : Value}, Inv (cxOf CX P w K mg base N qual scope f cdv callerA [] s H E) [] σ' H' s' → RelV v u → Q v H' → CE [] P w H s Q u s' :=
    fun {σ' H' v u} J rv q => ⟨v, H', J.os, J.bare, J.base, J.hok, rv, q⟩
  cases fl with
  | ret u =>
    obtain ⟨v, σ', H', J, rv, q⟩ := hs
    exact fin J rv q
  | next =>
    obtain ⟨σ', H', J, q⟩ := hs
    exact fin (v := V.non) (u := Value.none) J rfl q
  | brk =>
    obtain ⟨_, _, _, q⟩ := hs
    exact False.elim q
  | cont =>
    obtain ⟨_, _, _, q⟩ := hs
    exact False.elim q
theorem law_callG {P : Program} {w : World} {K : PySem.W.Frag} {mg mb : Str → Option Value} {CX : CXT} {fa a : Addr} {fd : FuncData} {x : Str} {sp : Sp} {s₁ : Shared} {vs : List Value} {ns : List Int}
    (KX : K.In s₁.heap) (hns : s₁.heap.Ns mainGlobals mg) (hb : s₁.heap.Ns builtinsNs mb) (hbb : ∀ x : Str, x ≠ "__name__" → mb x = bootBuiltins x) (hlim : s₁.heap.NoLimit) (hg : s₁.gens = #[])
    (ha : s₁.heap.get? a = some { cls := .type "list", data := .seq vs.toArray }) (hi : IntsAre vs ns) (hl : ns.length ≤ sizeLine) 
    (F : ∀ base : Heap, K.In base → base.Ns mainGlobals mg → ∀ (s : Shared) (H : Hp) (args : Args) (us : List Value) (vs : List V) (Q : VK) (E : XK), Env0 P w K mg base callerA [] s H → BindsTo s fd args ([x].zip us) → Vals vs us → sp vs H Q E → codeAny (model P w) callerA (.call (.ref fa) args) (CR CX [] P w H s Q E) s) (hbind : ∀ (s : Shared) (u : Value), BindsTo s fd ⟨[u], []⟩ [(x, u)])
    (hsp : ∀ H : Hp, Only H → SqL K H a (ns.map V.int) → sp [.ref a] H (fun v _ => v = .bl true) fun _ _ _ => False)
    (hCX : ∀ H e s', CX [] H s₁ (fun _ _ _ => False) e s' → False) :
    codeAny (model P w) callerA (.call (.ref fa) ⟨[.ref a], []⟩) (fun r s' => r = .ok (.ret (.bool true)) ∧ OldK s₁.heap s'.heap ∧ s'.os = s₁.os ∧ AllBare s'.gens) s₁ := by
  have rv := vals_ints hi
  have lenV := hi.length
  -- from an abstract heap in which nothing but the script may be tracked
  have core : ∀ H : Hp, Only H → SqL K H a (ns.map V.int) → HOk P w H s₁.heap → (∀ b, H b ≠ none → b = a) → (H a ≠ none → K.lookup a = none) →
      codeAny (model P w) callerA (.call (.ref fa) ⟨[.ref a], []⟩) (fun r s' => r = .ok (.ret (.bool true)) ∧ OldK s₁.heap s'.heap ∧ s'.os = s₁.os ∧ AllBare s'.gens) s₁ := by
    intro H hO hS hok hA hK
    have base_of : ∀ {b : Addr} {o : Obj}, s₁.heap.get? b = some o → H b = none → (hidT s₁.heap H).get? b = some o := fun e n => hidT_get e n
    have noA : ∀ {b : Addr} {o : Obj} {es : Array DictEntry} {ep : Nat}, s₁.heap.get? b = some o → o.data = .dict es ep → H b = none := fun {b o es ep} e d => by
      cases q : H b with
      | none => rfl
      | some u =>
        have e' : b = a := hA b (by rw [q]; simp)
        subst e'
        rw [ha] at e; cases e
        have d' : Data.seq vs.toArray _ = Data.dict es ep := d
        cases d'
    have nsK : ∀ {b : Addr} {m : Str → Option Value}, s₁.heap.Ns b m → (hidT s₁.heap H).Ns b m := fun {b m} ⟨o, es, ep, e, d, r⟩ => ⟨o, es, ep, base_of e (noA e d), d, r⟩
    have hKb : K.In (hidT s₁.heap H) := fun b o e => base_of (KX b o e) (by
      cases q : H b with
      | none => rfl
      | some u =>
        have e' : b = a := hA b (by rw [q]; simp)
        subst e'
        rw [hK (by rw [q]; simp)] at e; cases e)
    have hM : Mod K mg (hidT s₁.heap H) := ⟨hKb, nsK hns, ⟨mb, nsK hb, hbb⟩, let ⟨mc, h1, h2⟩ := hlim; ⟨mc, nsK h1, h2⟩⟩
    have e0 : Env0 P w K mg (hidT s₁.heap H) callerA [] s₁ H := ⟨rfl, hM, fun b o e => of_hidT e, Nat.le_of_eq (hidT_size _ _), trivial, fun b hb => absurd (show b ∈ ([] : List Addr) from hb) (by simp), hok, .of_eq hg⟩
    refine codeAny_mono (F _ hKb (nsK hns) s₁ H ⟨[.ref a], []⟩ [.ref a] [.ref a] _ _ e0 (hbind s₁ (.ref a)) (.cons rfl .nil) (hsp H hO hS)) fun r s' h => ?_
    cases r with
    | error e => exact (hCX H e s' h).elim
    | ok fl =>
      cases fl with
      | next => exact False.elim h
      | brk => exact False.elim h
      | cont => exact False.elim h
      | ret u =>
        obtain ⟨v, H', os, bare, un, hok', r', q⟩ := h
        have q' : v = .bl true := q
        subst q'
        obtain rfl : u = Value.bool true := r'
        refine ⟨rfl, OldK.of_keep fun b o e => ?_, os, bare⟩
        cases q : H b with
        | none => exact un.keep b o e q (by intro z; exact absurd (show b ∈ ([] : List Addr) from z) (by simp)) (by simp)
        | some u =>
          rcases hO b with z | ⟨ob, xs, z⟩
          · rw [q] at z; cases z
          · have z2 := un.frzs b ob _ z
            obtain ⟨e1, _⟩ := hok b _ z
            obtain ⟨e2, _⟩ := hok' b _ z2
            rw [e] at e1; cases e1
            exact e2
  cases hk : K.lookup a with
  | some o =>
    -- the script is one of the module's own objects
    have e := KX a o hk
    rw [ha] at e
    cases e
    refine core (fun _ => none) (fun _ => .inl rfl) (.inr ⟨_, vs.toArray, _, hk, rfl, rfl, rfl, by rw [List.size_toArray, lenV]; exact hl, by simpa using rv⟩) (fun b u z => by have z' : (none : Option HO) = some u := z; cases z') (fun b z => absurd rfl z) fun z => absurd rfl z
  | none =>
    refine core (fun b => if b = a then some (.frz { cls := .type "list", data := .seq vs.toArray } (.lst (ns.map V.int))) else none) (fun b => ?_) (.inl (.inr ⟨{ cls := .type "list", data := .seq vs.toArray }, if_pos rfl⟩)) (fun b u z => ?_) (fun b z => ?_) fun _ => hk
    · by_cases hb : b = a
      · exact .inr ⟨_, _, if_pos hb⟩
      · exact .inl (if_neg hb)
    · by_cases hb : b = a
      · have z' := (if_pos hb).symm.trans z
        cases z'
        subst hb
        exact ⟨ha, by rw [List.length_map]; exact hl, vs, _, rv, ha⟩
      · have z' := (if_neg hb).symm.trans z
        cases z'
    · by_cases hb : b = a
      · exact hb
      · exact absurd (if_neg hb) z
/-- an open law by attach_call -/
theorem walk_ofG {l : PySem.W.OpenLaw} {n : Nat} {q : Program} {loose : List Str} {XP : (Str → Option Value) → Heap → Prop} {YP : World → Heap → Prop} {d : DefRec} {CX : CXT} {x : Str}
    (hn : l.most = some n) (hn2 : n ≤ sizeLine) (hdf : d.params.defaults = [])
    (F : ∀ (w : World) (mg : Str → Option Value) (fa : Addr) (h : Heap), YP w h → h.Ns mainGlobals mg → mg d.name = some (.ref fa) →
      ∃ (K : PySem.W.Frag) (fd : FuncData) (sp : Sp), K.In h ∧ (∀ (s : Shared) (u : Value), BindsTo s fd ⟨[u], []⟩ [(x, u)]) ∧
        (∀ (H : Hp) (a : Addr) (ns : List Int), ns.length ≤ n → Only H → SqL K H a (ns.map V.int) → sp [.ref a] H (fun v _ => v = .bl true) fun _ _ _ => False) ∧
        ∀ base : Heap, K.In base → base.Ns mainGlobals mg → ∀ (s : Shared) (H : Hp) (args : Args) (us : List Value) (vs : List V) (Q : VK) (E : XK), Env0 l.prog w K mg base callerA [] s H → BindsTo s fd args ([x].zip us) → Vals vs us → sp vs H Q E → codeAny (model l.prog w) callerA (.call (.ref fa) args) (CR CX [] l.prog w H s Q E) s)
    (hCX : ∀ (H : Hp) (s : Shared) (e : Value) (s' : Shared), CX [] H s (fun _ _ _ => False) e s' → False) :
    PySem.W.WalkO q loose XP YP l.row.toRowW d [] (fun f vs => PySem.call f vs) := by
  refine Att.attach_call hn hdf fun w s₀ s₁ mg mb fa o pm cd doc a vs ns G Y ho hd hcd hmg hobj hints hlen hg => ?_
  obtain ⟨K, fd, sp, KX, hb, hsp, hF⟩ := F w mg fa _ Y G.T.g hmg
  exact law_callG KX G.T.g G.T.b G.T.builtins G.T.nolimit hg hobj hints (Nat.le_trans hlen hn2) hF hb (fun H hO hS => hsp H a ns hlen hO hS) fun H e s' => hCX H s₁ e s'
end FX
namespace FS
open PySem PySem.Spec PyProof.Rows L2
def spLw (K : PySem.W.Frag) : Sp := fun vs H Q _ => ∃ (a : Addr) (ns : List Int), vs = [.ref a] ∧ Only H ∧ SqL K H a (ns.map V.int) ∧ ∀ H', Q (.bl true) H'
theorem law_fn {B : Bg} {C CD CH CR CA CN CAn CU CP CQ : Addr} (P : LawP B C CD CH CR CA CN CAn CU CP CQ) {f : Addr} {fd : FuncData} (F : Fun B.K "law" "law" tLw f fd) :
    ∀ (s : Shared) (H : Hp) (args : Args) (us : List Value) (vs : List V) (Q : VK) (E : XK), Env0 B.P B.w B.K B.mg B.base callerA [] s H → BindsTo s fd args ((["_law_script"] : List Str).zip us) → Vals vs us → spLw B.K vs H Q E → codeAny (model B.P B.w) callerA (.call (.ref f) args) (L2.CR CX0 [] B.P B.w H s Q E) s := by
  obtain ⟨oc, od, kV, doc, pm, an, cdv, ct, osl, rfl, lk, hcd⟩ := F.ex
  refine FX.fn_at (k := 13) lk hcd scTLw (fun vs H Q E ⟨a, ns, h, _⟩ => by rw [h]; rfl) ⟨rfl, by decide, by decide⟩ fun s H vs Q E hr ⟨a, ns, e, hO, hS, hQ⟩ => ?_
  subst e
  let L0 : Sto := ⟨fun _ => none, fun _ => False⟩
  have so : StoOk L0 H := ⟨fun _ _ h => (nomatch h), fun _ h => h.elim⟩
  have r : Rep L0.dom H (.scr B.K ns) (.ref a) := by
    refine .scr ?_
    rcases hS with h | h
    · rcases h with h | ⟨o, h⟩
      · rcases hO a with z | ⟨ob, xs, z⟩
        · rw [z] at h; cases h
        · rw [z] at h; cases h
      · exact .inl ⟨fun z => z.elim (fun z => z rfl) fun z => z, o, h⟩
    · exact .inr fun H' => .inr h
  have w := law_ws (S := ⟨fun X => X = (cxOf CX0 B.P B.w B.K B.mg B.base lwN "law" (defScope tLw) f cdv callerA [] s H E).nox, fun X e => ⟨X, by subst e; rfl, by subst e; exact hr⟩, fun X e => by subst e; exact .never, true, fun _ X e y => by subst e; rfl, fun _ X e => by subst e; exact ⟨rfl, rfl⟩, true, fun _ X e => by subst e; rfl, fun _ _ _ => False, fun X e u s' ⟨_, _, _, _, _, _, _, _, _, _, _, _, _, _, _, _, w⟩ => w.elim⟩) (L := L0) (k := 13) rfl rfl (Nat.le_refl _) P (ns := ns)
  obtain ⟨t, ht, q⟩ := w _ H (abs_start so (Reps.one r)) { nx := fun _ H' => Q .non H', rt := Q } ⟨fun G' L' σ' H' w k A => w.elim, fun d L' v H' w k s r => by subst w; cases r; exact hQ H', fun _ _ _ _ w _ _ => w, fun _ _ _ _ w _ _ => w, fun _ _ _ _ _ _ w => w.elim⟩
  exact ⟨t, (ht _ rfl).nox, q⟩
end FS
/-! H4: what is seen, as the walk wants it. -/
namespace FS
open PySem PySem.Spec PyProof.Rows L2 He
structure Sees3 (P : Program) (w : World) (K : PySem.W.Frag) : Prop where
  fa : ∀ f ∈ fas, f.ok K = true
  fn : ∀ d ∈ fns, ∃ fd, FunD K d.name d.qual d.params d.body d.scope (d.dvs K) (d.kws K) (fAd K d.at_) fd
  er : ∀ e ∈ ers, erB P K e = true ∧ fnW K e.at_ = e.val
  ta : ∀ t ∈ formsTab, tupS K (ga K "FORMS") t.1 t.2 = true
  di : dicW K (ga K "FORMS") = some (keysIn w.params fmKeys)
theorem sees3 {P : Program} {w : World} {K : PySem.W.Frag} (c : obs3 P K = val3 w) : Sees3 P w K := by
  have c1 : bls P K = true := congrArg (fun z : Al3 => z.1.1) c
  have c2 : fns.map (fun d => fnW K d.at_) = fns.map DefD.val := congrArg (fun z : Al3 => z.1.2) c
  have c3 : ers.map (fun e => fnW K e.at_) = ers.map ErD.val := congrArg (fun z : Al3 => z.2.1) c
  have c4 : dicW K (ga K "FORMS") = some (keysIn w.params fmKeys) := congrArg (fun z : Al3 => z.2.2) c
  obtain ⟨b1, b⟩ := ba c1
  obtain ⟨b2, b⟩ := ba b
  obtain ⟨b3, b4⟩ := ba b
  rw [List.all_eq_true] at b1 b2 b3 b4
  exact ⟨b1, fun d hd => DefD.funD (List.map_inj_left.mp c2 d hd) (b2 d hd), fun e he => ⟨b3 e he, List.map_inj_left.mp c3 e he⟩, b4, c4⟩
structure VB (B : Bg) : Prop where
  s : Sees3 B.P B.w B.K
  g : ∀ x, Fa.glo x ∈ fas → B.mg x = some (.ref (ga B.K x))
  sup : B.mg "super" = none
  ls : B.mg "list" = none
  top : (B.P.main.scope.names.lookup ("super" : Str)).isSome = false
theorem me' {α} {l : List α} {i : Nat} {a : α} (h : l[i]? = some a) : a ∈ l := List.mem_of_getElem? h
abbrev Bd (x qual : Str) (st : Stmt) (ps : List Str) : Prop := ∀ (kV doc pm : Value) (an : Option Addr) (cdv ct : Value) (us : List Value), us.length = ps.length → bindArgs (PySem.W.fnOf x qual (defArgs st) (defBody st) (defScope st) .none kV doc pm an cdv ct) ⟨us, []⟩ = pure (ps.zip us)
section
variable {B : Bg}
theorem VB.fun_ (V : VB B) (i : Nat) {x qual : Str} {st : Stmt} {at_ : Str × Option Str} (h : fns[i]? = some ⟨at_, x, qual, defArgs st, defBody st, defScope st, [], []⟩) : ∃ fd, Fun B.K x qual st (fAd B.K at_) fd := by
  obtain ⟨fd, F⟩ := V.s.fn _ (me' h)
  refine ⟨fd, ?_⟩
  obtain ⟨oc, od, dV, kV, doc, pm, an, cdv, ct, osl, e, lk, hcd, hD, _⟩ := F.ex
  rcases hD with ⟨_, rfl⟩ | ⟨ne, _⟩
  · exact ⟨⟨oc, od, kV, doc, pm, an, cdv, ct, osl, e, lk, hcd⟩, F.kp⟩
  · exact absurd rfl ne
theorem VB.cl (V : VB B) {j : Nat} {x : Str} {st : Stmt} {ps : List Str} {R : ASp} (i i2 : Nat) (h : fns[i]? = some ⟨(x, none), x, x, defArgs st, defBody st, defScope st, [], []⟩) (g : fas[i2]? = some (.glo x)) (hb : Bd x x st ps)
    (ok : ∀ f fd, Fun B.K x x st f fd → FnOk B.P B.w B.K B.mg B.base CX0 j f fd ps (low R)) : Cl B j x R := by
  obtain ⟨fd, F⟩ := V.fun_ i h
  exact ⟨fAd B.K (x, none), fd, ps, ok _ _ F, V.g x (me' g), F.kp, F.binds hb⟩
theorem VB.kla (V : VB B) {x : Str} {fs : List Str} (i : Nat) (h : fas[i]? = some (.cls x)) (hn : ∀ f ∈ fs, Fa.noat x f ∈ fas) : Kla B (ga B.K x) fs := ⟨cls_ok (V.s.fa _ (me' h)), fun f hf => noat_ok (V.s.fa _ (hn f hf))⟩
theorem VB.mcl (V : VB B) {j : Nat} {C m qual : Str} {st : Stmt} {ps : List Str} {R : ASp} (i i2 i3 : Nat) (h : fns[i]? = some ⟨(C, some m), m, qual, defArgs st, defBody st, defScope st, [], []⟩) (g : fas[i2]? = some (.cls C)) (g' : fas[i3]? = some (.meth C m)) (hb : Bd m qual st ps)
    (ok : ∀ f fd, Fun B.K m qual st f fd → FnOk B.P B.w B.K B.mg B.base CX0 j f fd ps (low R)) : Mcl B j (ga B.K C) m R := by
  obtain ⟨fd, F⟩ := V.fun_ i h
  exact ⟨cls_ok (V.s.fa _ (me' g)), fAd B.K (C, some m), fd, ps, ok _ _ F, meth_ok (V.s.fa _ (me' g')), F.binds hb⟩
theorem VB.mclX (V : VB B) {j : Nat} {C m qual : Str} {st : Stmt} {ps : List Str} {R : ASpX} (i i2 i3 : Nat) (h : fns[i]? = some ⟨(C, some m), m, qual, defArgs st, defBody st, defScope st, [], []⟩) (g : fas[i2]? = some (.cls C)) (g' : fas[i3]? = some (.meth C m)) (hb : Bd m qual st ps)
    (ok : ∀ f fd, Fun B.K m qual st f fd → FnOk B.P B.w B.K B.mg B.base (L2.CX B.P B.w) j f fd ps (lowX R)) : MclX B j (ga B.K C) m [] R := by
  obtain ⟨fd, F⟩ := V.fun_ i h
  exact ⟨cls_ok (V.s.fa _ (me' g)), fAd B.K (C, some m), fd, ps, [], [], ok _ _ F, meth_ok (V.s.fa _ (me' g')), F.binds hb, .nil, fun _ _ => .nil⟩
theorem VB.kcl (V : VB B) {j : Nat} {C qual : Str} {st : Stmt} {ps : List Str} {R : ASp} (i i2 i3 : Nat) (h : fns[i]? = some ⟨(C, some "__init__"), "__init__", qual, defArgs st, defBody st, defScope st, [], []⟩) (g : fas[i2]? = some (.glo C)) (g' : fas[i3]? = some (.mkr C)) (hb : Bd "__init__" qual st ps)
    (ok : ∀ f fd, Fun B.K "__init__" qual st f fd → FnOk B.P B.w B.K B.mg B.base CX0 j f fd ps (low R)) : Kcl B j C (ga B.K C) R := by
  obtain ⟨fd, F⟩ := V.fun_ i h
  exact ⟨V.g C (me' g), fAd B.K (C, some "__init__"), fd, ps, ok _ _ F, mkr_ok (V.s.fa _ (me' g')), F.binds hb⟩
/-! ### errors -/
theorem fileB_ok {P : Program} {K : PySem.W.Frag} {c : Addr} (h : fileB P K c = true) : ∃ (ccl : Value) (cdd : Option Addr) (vs : Array Value) (ccs : Array (Option Value)) (file : Str) (tf : Tok), K.lookup c = some ⟨ccl, cdd, .fields vs, ccs⟩ ∧ vs[2]? = some (.str file tf) ∧ ((P.main.file : Str) == file) = true := by
  unfold fileB at h
  split at h
  · rename_i ccl cdd vs ccs lk
    split at h
    · rename_i file tf e
      exact ⟨ccl, cdd, vs, ccs, file, tf, lk, e, h⟩
    · cases h
  · cases h
theorem cellB_ok {K : PySem.W.Frag} {c C : Addr} (h : cellB K c C = true) : ∃ (cl : Value) (cld : Option Addr) (csl : Array (Option Value)), K.lookup c = some ⟨cl, cld, .cell (some (.ref C)), csl⟩ := by
  unfold cellB at h
  split at h
  · rename_i cl cld C' csl lk
    rw [beq_iff_eq] at h
    subst h
    exact ⟨cl, cld, csl, lk⟩
  · cases h
structure ErS (B : Bg) (x qual : Str) (st : Stmt) (f1 f2 : Str) (cc : Addr) : Prop where
  T : ∃ fd cda, FX.SupInit B.P B.K B.mg (ga B.K x) (fAd B.K (x, some "__init__")) qual (defArgs st) (defBody st) (defScope st) fd cc cda ∧ ∀ ps : List Str, (∀ (kV doc pm : Value) (an : Option Addr) (ct : Value) (us : List Value), us.length = ps.length → bindArgs (PySem.W.ksFn "__init__" qual (defArgs st) (defBody st) (defScope st) .none kV doc pm an (.ref cda) ct cc) ⟨us, []⟩ = pure (ps.zip us)) → Binds B.K fd ps []
  xf : XfC B.K (ga B.K x)
  i : PySem.W.findIn B.K (.ref (ga B.K x)) "__init__" = some (some (.ref (fAd B.K (x, some "__init__"))))
  t : PySem.W.typeIn B.K (.ref (fAd B.K (x, some "__init__"))) = some (.type "function")
  n1 : PySem.W.findIn B.K (.ref (ga B.K x)) f1 = some none
  n2 : PySem.W.findIn B.K (.ref (ga B.K x)) f2 = some none
theorem VB.ers (V : VB B) (i : Nat) {x qual : Str} {st : Stmt} {f1 f2 : Str} {cc : Addr} (h : ers[i]? = some ⟨x, qual, st, f1, f2, cc⟩) : ErS B x qual st f1 f2 cc := by
  obtain ⟨c, e⟩ := V.s.er _ (me' h)
  unfold erB at c
  obtain ⟨h1, c⟩ := ba c
  obtain ⟨h2, c⟩ := ba c
  obtain ⟨h3, c⟩ := ba c
  obtain ⟨h4, c⟩ := ba c
  obtain ⟨h5, c⟩ := ba c
  obtain ⟨h6, c⟩ := ba c
  obtain ⟨h7, c⟩ := ba c
  obtain ⟨h8, c⟩ := ba c
  obtain ⟨h9, c⟩ := ba c
  obtain ⟨h10, c⟩ := ba c
  obtain ⟨h11, c⟩ := ba c
  obtain ⟨h12, c⟩ := ba c
  obtain ⟨h13, c⟩ := ba c
  obtain ⟨h14, h15⟩ := ba c
  refine ⟨?_, xfB_ok h2, eqO_ok h4, of_decide_eq_true h5, eqO_ok h8, eqO_ok h9⟩
  unfold fnW at e
  unfold codeB at h11
  cases q : B.K.lookup (fAd B.K (ErD.at_ ⟨x, qual, st, f1, f2, cc⟩)) with
  | none =>
    rw [q] at h11
    cases h11
  | some o =>
    obtain ⟨oc, od, dt, osl⟩ := o
    rw [q] at h11 e
    cases dt with
    | func fd =>
      obtain ⟨n1, n2, n3, n4, n5, n6, n7, n8, n9, n10, n11, n12, n13, n14, n15⟩ := fd
      have e2 : (some (n1, n2, n3, n4, n5, n6, n7, n15) : FnW) = some (("__init__" : Str), qual, defArgs st, FuncBody.stmts (defBody st), defScope st, mainGlobals, [(("__class__" : Str), cc)], builtinsNs) := e
      simp only [Option.some.injEq, Prod.mk.injEq] at e2
      obtain ⟨k1, k2, k3, k4, k5, k6, k7, k8⟩ := e2
      subst k1 k2 k3 k4 k5 k6 k7 k8
      obtain ⟨h11, h16⟩ := ba h11
      have c3 : n13 = .ref (cdO B.K (fAd B.K (ErD.at_ ⟨x, n2, st, f1, f2, cc⟩))) := of_decide_eq_true h11
      subst c3
      rcases dflB_ok h16 with ⟨_, e8⟩ | ⟨ne, _⟩
      rotate_left
      · exact absurd rfl ne
      have e8' : n8 = .none := e8
      subst e8'
      exact ⟨_, _, ⟨⟨oc, od, .none, n9, n10, n11, n12, n14, osl, rfl, q⟩, h12, fileB_ok h13, cellB_ok h14, oexB_ok h1, of_decide_eq_true h3, V.sup, V.top, eqO_ok h10, eqO_ok h6, of_decide_eq_true h7⟩, fun ps h => .all fun us hl => h _ _ _ _ _ us hl⟩
    | _ => cases h11
end
end FS
/-! E48: every promise, from what is seen. Printed by gen48.py. -/
namespace FS
open PySem PySem.Spec PyProof.Rows L2 He
section
variable {B : Bg} {n : Nat}
theorem k_Apart (V : VB B) : Kla B (ga B.K "Apart") aFlds := V.kla 86 rfl (show ∀ f ∈ (["places", "width"] : List Str), Fa.noat "Apart" f ∈ fas from List.forall_mem_cons.2 ⟨me' (i := 87) rfl, List.forall_mem_cons.2 ⟨me' (i := 88) rfl, List.forall_mem_nil _⟩⟩)
theorem k_Needs (V : VB B) : Kla B (ga B.K "Needs") nFlds := V.kla 93 rfl (show ∀ f ∈ (["_pairs", "places", "width"] : List Str), Fa.noat "Needs" f ∈ fas from List.forall_mem_cons.2 ⟨me' (i := 94) rfl, List.forall_mem_cons.2 ⟨me' (i := 95) rfl, List.forall_mem_cons.2 ⟨me' (i := 96) rfl, List.forall_mem_nil _⟩⟩⟩)
theorem k_RuleBook (V : VB B) : Kla B (ga B.K "RuleBook") rFlds := V.kla 101 rfl (show ∀ f ∈ (["_rows"] : List Str), Fa.noat "RuleBook" f ∈ fas from List.forall_mem_cons.2 ⟨me' (i := 102) rfl, List.forall_mem_nil _⟩)
theorem k_Answers (V : VB B) : Kla B (ga B.K "Answers") ["_rows"] := V.kla 106 rfl (show ∀ f ∈ (["_rows"] : List Str), Fa.noat "Answers" f ∈ fas from List.forall_mem_cons.2 ⟨me' (i := 107) rfl, List.forall_mem_nil _⟩)
theorem k_DeskState (V : VB B) : Kla B (ga B.K "DeskState") sFlds := V.kla 109 rfl (show ∀ f ∈ (["_history", "_tips", "_kept", "_texts"] : List Str), Fa.noat "DeskState" f ∈ fas from List.forall_mem_cons.2 ⟨me' (i := 110) rfl, List.forall_mem_cons.2 ⟨me' (i := 111) rfl, List.forall_mem_cons.2 ⟨me' (i := 112) rfl, List.forall_mem_cons.2 ⟨me' (i := 113) rfl, List.forall_mem_nil _⟩⟩⟩⟩)
theorem k_History (V : VB B) : Kla B (ga B.K "History") hFlds := V.kla 124 rfl (show ∀ f ∈ (["rulebook", "_numbers", "_kinds", "_links", "_wrote", "_books"] : List Str), Fa.noat "History" f ∈ fas from List.forall_mem_cons.2 ⟨me' (i := 125) rfl, List.forall_mem_cons.2 ⟨me' (i := 126) rfl, List.forall_mem_cons.2 ⟨me' (i := 127) rfl, List.forall_mem_cons.2 ⟨me' (i := 128) rfl, List.forall_mem_cons.2 ⟨me' (i := 129) rfl, List.forall_mem_cons.2 ⟨me' (i := 130) rfl, List.forall_mem_nil _⟩⟩⟩⟩⟩⟩)
theorem k_Desk (V : VB B) : Kla B (ga B.K "Desk") dFlds := V.kla 142 rfl (show ∀ f ∈ (["_depth", "_state", "_earlier", "_taken_back"] : List Str), Fa.noat "Desk" f ∈ fas from List.forall_mem_cons.2 ⟨me' (i := 143) rfl, List.forall_mem_cons.2 ⟨me' (i := 144) rfl, List.forall_mem_cons.2 ⟨me' (i := 145) rfl, List.forall_mem_cons.2 ⟨me' (i := 146) rfl, List.forall_mem_nil _⟩⟩⟩⟩)
theorem hc_PlaceClash (V : VB B) : Hc B "PlaceClash" (ga B.K "PlaceClash") "place" "found" := let e := V.ers 0 rfl; ⟨V.g _ (me' (i := 82) rfl), e.xf, e.n1, e.n2⟩
theorem hc_RuleClash (V : VB B) : Hc B "RuleClash" (ga B.K "RuleClash") "key" "bar" := let e := V.ers 1 rfl; ⟨V.g _ (me' (i := 83) rfl), e.xf, e.n1, e.n2⟩
theorem hc_Unlawful (V : VB B) : Hc B "Unlawful" (ga B.K "Unlawful") "key" "bar" := let e := V.ers 2 rfl; ⟨V.g _ (me' (i := 84) rfl), e.xf, e.n1, e.n2⟩
/-! ### errors -/
theorem xc_PlaceClash (V : VB B) : XcU B 1 "PlaceClash" (ga B.K "PlaceClash") (FX.spP (ga B.K "PlaceClash") "place" "found") := by
  have e := V.ers 0 rfl
  obtain ⟨fd, cda, T, hb⟩ := e.T
  exact ⟨(hc_PlaceClash V).mg, T.o, _, fd, _, e.i, e.t, FX.spP_ok T (NdefX.nscope_by (by decide +kernel)) rfl rfl (fun _ => rfl) rfl rfl V.ls e.n1 e.n2 (by decide) (by decide) (by decide) (by decide) (fun _ => rfl) (fun _ => rfl) (fun _ => rfl), hb _ fun _ _ _ _ _ us hl => match us, hl with | [_, _, _], _ => rfl⟩
theorem xc_RuleClash (V : VB B) : XcU B 1 "RuleClash" (ga B.K "RuleClash") (FX.spU (ga B.K "RuleClash") "key" "bar") := by
  have e := V.ers 1 rfl
  obtain ⟨fd, cda, T, hb⟩ := e.T
  exact ⟨(hc_RuleClash V).mg, T.o, _, fd, _, e.i, e.t, FX.spU_ok T (NdefX.nscope_by (by decide +kernel)) rfl rfl (fun _ => rfl) rfl e.n1 e.n2 (by decide) (by decide) (by decide) (by decide) (fun _ => rfl) (fun _ => rfl), hb _ fun _ _ _ _ _ us hl => match us, hl with | [_, _, _], _ => rfl⟩
theorem xc_Unlawful (V : VB B) : XcU B 1 "Unlawful" (ga B.K "Unlawful") (FX.spU (ga B.K "Unlawful") "key" "bar") := by
  have e := V.ers 2 rfl
  obtain ⟨fd, cda, T, hb⟩ := e.T
  exact ⟨(hc_Unlawful V).mg, T.o, _, fd, _, e.i, e.t, FX.spU_ok T (NdefX.nscope_by (by decide +kernel)) rfl rfl (fun _ => rfl) rfl e.n1 e.n2 (by decide) (by decide) (by decide) (by decide) (fun _ => rfl) (fun _ => rfl), hb _ fun _ _ _ _ _ us hl => match us, hl with | [_, _, _], _ => rfl⟩
theorem tab_ (V : VB B) : Fms B "FORMS" (ga B.K "FORMS") formsTab := ⟨V.g _ (me' (i := 85) rfl), dicW_ok V.s.di, fun key fs h => tupS_ok (V.s.ta _ h)⟩
theorem c_value_at (V : VB B) : Cl B 1 "value_at" rVa := V.cl 6 25 rfl rfl (fun _ _ _ _ _ _ us hl => match us, hl with | [_, _], _ => rfl) fun f fd F => ok_va F 
theorem c_ascending (V : VB B) : Cl B 1 "ascending" rAs := V.cl 0 19 rfl rfl (fun _ _ _ _ _ _ us hl => match us, hl with | [_], _ => rfl) fun f fd F => ok_as F 
theorem c_first_repeated (V : VB B) : Cl B 1 "first_repeated" rFr := V.cl 3 22 rfl rfl (fun _ _ _ _ _ _ us hl => match us, hl with | [_], _ => rfl) fun f fd F => ok_fr F 
theorem c_cleaned (V : VB B) : Cl B 1 "cleaned" rCl := V.cl 4 23 rfl rfl (fun _ _ _ _ _ _ us hl => match us, hl with | [_], _ => rfl) fun f fd F => ok_cl F 
theorem c_with_writes (V : VB B) : Cl B 2 "with_writes" rWw := V.cl 7 26 rfl rfl (fun _ _ _ _ _ _ us hl => match us, hl with | [_, _], _ => rfl) fun f fd F => ok_ww F (cCl := (c_cleaned V))
theorem c_distinct (V : VB B) : Cl B 2 "distinct" rDi := V.cl 8 27 rfl rfl (fun _ _ _ _ _ _ us hl => match us, hl with | [_], _ => rfl) fun f fd F => ok_di F (cFr := (c_first_repeated V))
theorem c_filled_marks (V : VB B) : Cl B 2 "filled_marks" rFm := V.cl 9 28 rfl rfl (fun _ _ _ _ _ _ us hl => match us, hl with | [_, _], _ => rfl) fun f fd F => ok_fm F (cVa := (c_value_at V)) (cAs := (c_ascending V))
theorem c_first_of (V : VB B) : Cl B 1 "first_of" rFo := V.cl 10 29 rfl rfl (fun _ _ _ _ _ _ us hl => match us, hl with | [_], _ => rfl) fun f fd F => ok_fo F 
theorem c_past_of (V : VB B) : Cl B 1 "past_of" rPo := V.cl 19 38 rfl rfl (fun _ _ _ _ _ _ us hl => match us, hl with | [_, _], _ => rfl) fun f fd F => ok_po F 
theorem c_is_writer (V : VB B) : Cl B 1 "is_writer" rIw := V.cl 20 39 rfl rfl (fun _ _ _ _ _ _ us hl => match us, hl with | [_, _, _], _ => rfl) fun f fd F => ok_iw F 
theorem c_heads_in (V : VB B) : Cl B 2 "heads_in" rHi := V.cl 21 40 rfl rfl (fun _ _ _ _ _ _ us hl => match us, hl with | [_, _, _, _], _ => rfl) fun f fd F => ok_hi F (cIw := (c_is_writer V))
theorem c_values_in (V : VB B) : Cl B 3 "values_in" rVi := V.cl 22 41 rfl rfl (fun _ _ _ _ _ _ us hl => match us, hl with | [_, _, _, _], _ => rfl) fun f fd F => ok_vi F (cHi := (c_heads_in V)) (cAs := (c_ascending V))
theorem c_heads_of (V : VB B) : Cl B 3 "heads_of" rHo := V.cl 23 42 rfl rfl (fun _ _ _ _ _ _ us hl => match us, hl with | [_, _, _, _], _ => rfl) fun f fd F => ok_ho F (cHi := (c_heads_in V)) (cPo := (c_past_of V))
theorem c_written_places (V : VB B) : Cl B 2 "written_places" rWp := V.cl 24 43 rfl rfl (fun _ _ _ _ _ _ us hl => match us, hl with | [_, _, _], _ => rfl) fun f fd F => ok_wp F (cPo := (c_past_of V)) (cAs := (c_ascending V))
theorem c_shown (V : VB B) : Cl B 4 "shown" rSh := V.cl 25 44 rfl rfl (fun _ _ _ _ _ _ us hl => match us, hl with | [_, _, _], _ => rfl) fun f fd F => ok_sh F (cPo := (c_past_of V)) (cAs := (c_ascending V)) (cWp := (c_written_places V)) (cVi := (c_values_in V))
theorem c_position_place (V : VB B) : Cl B 1 "position_place" rPp := V.cl 12 31 rfl rfl (fun _ _ _ _ _ _ us hl => match us, hl with | [_], _ => rfl) fun f fd F => ok_pp F 
theorem c_content_place (V : VB B) : Cl B 1 "content_place" rCp := V.cl 13 32 rfl rfl (fun _ _ _ _ _ _ us hl => match us, hl with | [_], _ => rfl) fun f fd F => ok_cp F 
theorem c_placing (V : VB B) : Cl B 2 "placing" rPl := V.cl 15 34 rfl rfl (fun _ _ _ _ _ _ us hl => match us, hl with | [_, _, _], _ => rfl) fun f fd F => ok_pl F (cPp := (c_position_place V)) (cCp := (c_content_place V))
theorem c_moving (V : VB B) : Cl B 2 "moving" rMo := V.cl 16 35 rfl rfl (fun _ _ _ _ _ _ us hl => match us, hl with | [_, _], _ => rfl) fun f fd F => ok_mo F (cPp := (c_position_place V))
theorem c_changing (V : VB B) : Cl B 2 "changing" rCh := V.cl 17 36 rfl rfl (fun _ _ _ _ _ _ us hl => match us, hl with | [_, _], _ => rfl) fun f fd F => ok_ch F (cCp := (c_content_place V))
theorem c_removing (V : VB B) : Cl B 2 "removing" rRe := V.cl 18 37 rfl rfl (fun _ _ _ _ _ _ us hl => match us, hl with | [_], _ => rfl) fun f fd F => ok_re F (cPp := (c_position_place V)) (cCp := (c_content_place V))
theorem c_arrange (V : VB B) : Cl B 2 "arrange" rAr := V.cl 14 33 rfl rfl (fun _ _ _ _ _ _ us hl => match us, hl with | [_, _], _ => rfl) fun f fd F => ok_ar F (cVa := (c_value_at V)) (cPp := (c_position_place V)) (cCp := (c_content_place V))
theorem c_doubled (V : VB B) : Cl B 2 "doubled" rDo := V.cl 32 51 rfl rfl (fun _ _ _ _ _ _ us hl => match us, hl with | [_], _ => rfl) fun f fd F => ok_do F (cAs := (c_ascending V))
theorem c__law_past (V : VB B) : Cl B 1 "_law_past" rTPa := V.cl 42 61 rfl rfl (fun _ _ _ _ _ _ us hl => match us, hl with | [_, _], _ => rfl) fun f fd F => ok_tpa F 
theorem c__law_heads (V : VB B) : Cl B 2 "_law_heads" rTHe := V.cl 43 62 rfl rfl (fun _ _ _ _ _ _ us hl => match us, hl with | [_, _, _], _ => rfl) fun f fd F => ok_the F (cPa := (c__law_past V))
theorem c__law_found (V : VB B) : Cl B 3 "_law_found" rTFo := V.cl 44 63 rfl rfl (fun _ _ _ _ _ _ us hl => match us, hl with | [_, _, _], _ => rfl) fun f fd F => ok_tfo F (cHe := (c__law_heads V))
theorem c__law_written (V : VB B) : Cl B 1 "_law_written" rTWr := V.cl 36 55 rfl rfl (fun _ _ _ _ _ _ us hl => match us, hl with | [_, _], _ => rfl) fun f fd F => ok_twr F 
theorem c__law_written_raw (V : VB B) : Cl B 1 "_law_written_raw" rTRw := V.cl 37 56 rfl rfl (fun _ _ _ _ _ _ us hl => match us, hl with | [_], _ => rfl) fun f fd F => ok_trw F 
theorem c__law_is_book (V : VB B) : Cl B 1 "_law_is_book" rTIb := V.cl 38 57 rfl rfl (fun _ _ _ _ _ _ us hl => match us, hl with | [_], _ => rfl) fun f fd F => ok_tib F 
theorem c__law_ints (V : VB B) : Cl B 1 "_law_ints" rTIn := V.cl 39 58 rfl rfl (fun _ _ _ _ _ _ us hl => match us, hl with | [_], _ => rfl) fun f fd F => ok_tin F 
theorem c__law_item_writes (V : VB B) : Cl B 1 "_law_item_writes" rTIw := V.cl 47 66 rfl rfl (fun _ _ _ _ _ _ us hl => match us, hl with | [_], _ => rfl) fun f fd F => ok_tiw F 
theorem c__law_writes_told (V : VB B) : Cl B 3 "_law_writes_told" rTWt := V.cl 48 67 rfl rfl (fun _ _ _ _ _ _ us hl => match us, hl with | [_], _ => rfl) fun f fd F => ok_twt F (cPl := (c_placing V)) (cMo := (c_moving V)) (cCh := (c_changing V)) (cRe := (c_removing V)) (cIb := (c__law_is_book V)) (cIw := (c__law_item_writes V))
theorem c__law_take (V : VB B) : Cl B 1 "_law_take" rTk := V.cl 34 53 rfl rfl (fun _ _ _ _ _ _ us hl => match us, hl with | [_, _], _ => rfl) fun f fd F => ok_ttk F 
theorem c__law_open (V : VB B) : Cl B 1 "_law_open" (rTOp (B := B)) := V.cl 33 52 rfl rfl (fun _ _ _ _ _ _ us hl => match us, hl with | [_, _], _ => rfl) fun f fd F => ok_top F 
theorem c__law_choose (V : VB B) : Cl B 2 "_law_choose" rTChs := V.cl 35 54 rfl rfl (fun _ _ _ _ _ _ us hl => match us, hl with | [_, _, _], _ => rfl) fun f fd F => ok_tchs F (cTk := (c__law_take V))
theorem c__law_item_deed (V : VB B) : Cl B 2 "_law_item_deed" rTTd := V.cl 46 65 rfl rfl (fun _ _ _ _ _ _ us hl => match us, hl with | [_, _, _], _ => rfl) fun f fd F => ok_ttd F (cTk := (c__law_take V))
theorem c__law_broken_items (V : VB B) : Cl B 1 "_law_broken_items" rTBk := V.cl 45 64 rfl rfl (fun _ _ _ _ _ _ us hl => match us, hl with | [_, _], _ => rfl) fun f fd F => ok_tbk F 
theorem c__law_started (V : VB B) : Cl B 3 "_law_started" rTSt := V.cl 49 68 rfl rfl (fun _ _ _ _ _ _ us hl => match us, hl with | [_, _], _ => rfl) fun f fd F => ok_tst F (cTk := (c__law_take V)) (cTd := (c__law_item_deed V)) (cIw := (c__law_item_writes V)) (cWr := (c__law_written V)) (cBk := (c__law_broken_items V))
theorem c__law_world (V : VB B) : Cl B 2 "_law_world" rTWd := V.cl 40 59 rfl rfl (fun _ _ _ _ _ _ us hl => match us, hl with | [_], _ => rfl) fun f fd F => ok_twd F (cWr := (c__law_written V))
theorem c__law_add (V : VB B) : Cl B 2 "_law_add" rTAd := V.cl 41 60 rfl rfl (fun _ _ _ _ _ _ us hl => match us, hl with | [_, _, _, _], _ => rfl) fun f fd F => ok_tad F (cWr := (c__law_written V)) (cRw := (c__law_written_raw V))
theorem c__law_due (V : VB B) : Cl B 4 "_law_due" rTDu := V.cl 51 70 rfl rfl (fun _ _ _ _ _ _ us hl => match us, hl with | [_, _, _], _ => rfl) fun f fd F => ok_tdu F (cWr := (c__law_written V)) (cBk := (c__law_broken_items V)) (cAd := (c__law_add V)) (cFo := (c__law_found V))
theorem c__law_deed (V : VB B) : Cl B 4 "_law_deed" rTDe := V.cl 52 71 rfl rfl (fun _ _ _ _ _ _ us hl => match us, hl with | [_, _, _, _], _ => rfl) fun f fd F => ok_tde F (cTk := (c__law_take V)) (cTd := (c__law_item_deed V)) (cIw := (c__law_item_writes V)) (cCh := (c__law_choose V)) (cFo := (c__law_found V))
theorem m_History___contains__ (V : VB B) : Mcl B 1 (ga B.K "History") "__contains__" (rMHc (ga B.K "History")) := V.mcl 80 124 133 rfl rfl rfl (fun _ _ _ _ _ _ us hl => match us, hl with | [_, _], _ => rfl) fun f fd F => ok_mhc F (kl := (k_History V))
theorem m_History_check (V : VB B) : Mcl B 2 (ga B.K "History") "check" (rMHk (ga B.K "History")) := V.mcl 81 124 134 rfl rfl rfl (fun _ _ _ _ _ _ us hl => match us, hl with | [_, _], _ => rfl) fun f fd F => ok_mhk F (mc := (m_History___contains__ V))
theorem m_History_links (V : VB B) : Mcl B 1 (ga B.K "History") "links" (rMHl (ga B.K "History")) := V.mcl 82 124 135 rfl rfl rfl (fun _ _ _ _ _ _ us hl => match us, hl with | [_], _ => rfl) fun f fd F => ok_mhl F (kl := (k_History V))
theorem m_History_wrote (V : VB B) : Mcl B 1 (ga B.K "History") "wrote" (rMHw (ga B.K "History")) := V.mcl 83 124 136 rfl rfl rfl (fun _ _ _ _ _ _ us hl => match us, hl with | [_], _ => rfl) fun f fd F => ok_mhw F (kl := (k_History V))
theorem m_History_node_count (V : VB B) : Mcl B 1 (ga B.K "History") "node_count" (rMHn (ga B.K "History")) := V.mcl 84 124 137 rfl rfl rfl (fun _ _ _ _ _ _ us hl => match us, hl with | [_], _ => rfl) fun f fd F => ok_mhn F (kl := (k_History V))
theorem c_past (V : VB B) : Cl B 3 "past" (rPt (ga B.K "History")) := V.cl 26 45 rfl rfl (fun _ _ _ _ _ _ us hl => match us, hl with | [_, _], _ => rfl) fun f fd F => ok_spt F (mk := (m_History_check V)) (ml := (m_History_links V)) (cPo := (c_past_of V))
theorem c_heads (V : VB B) : Cl B 4 "heads" (rHs (ga B.K "History")) := V.cl 27 46 rfl rfl (fun _ _ _ _ _ _ us hl => match us, hl with | [_, _, _], _ => rfl) fun f fd F => ok_shs F (mk := (m_History_check V)) (ml := (m_History_links V)) (mw := (m_History_wrote V)) (cHo := (c_heads_of V))
theorem m_History_book (V : VB B) : Mcl B 3 (ga B.K "History") "book" (rMHb (ga B.K "History")) := V.mcl 85 124 138 rfl rfl rfl (fun _ _ _ _ _ _ us hl => match us, hl with | [_, _], _ => rfl) fun f fd F => ok_mhb F (kl := (k_History V)) (mk := (m_History_check V))
theorem m_History__add (V : VB B) : Mcl B 1 (ga B.K "History") "_add" (rMHa (ga B.K "History")) := V.mcl 79 124 132 rfl rfl rfl (fun _ _ _ _ _ _ us hl => match us, hl with | [_, _, _, _, _], _ => rfl) fun f fd F => ok_mha F (kl := (k_History V))
theorem mk_Apart (V : VB B) : Kcl B 3 "Apart" (ga B.K "Apart") (rMAi (ga B.K "Apart")) := V.kcl 56 75 89 rfl rfl rfl (fun _ _ _ _ _ _ us hl => match us, hl with | [_, _], _ => rfl) fun f fd F => ok_mai F (kl := (k_Apart V)) (cDi := (c_distinct V))
theorem m_Apart_bars_in (V : VB B) : Mcl B 3 (ga B.K "Apart") "bars_in" (rMAb (ga B.K "Apart")) := V.mcl 57 86 90 rfl rfl rfl (fun _ _ _ _ _ _ us hl => match us, hl with | [_, _], _ => rfl) fun f fd F => ok_mab F (kl := (k_Apart V)) (cFm := (c_filled_marks V))
theorem m_Apart_reason (V : VB B) : Mcl B 4 (ga B.K "Apart") "reason" (rMAr (ga B.K "Apart")) := V.mcl 58 86 91 rfl rfl rfl (fun _ _ _ _ _ _ us hl => match us, hl with | [_, _], _ => rfl) fun f fd F => ok_mar F (mb := (m_Apart_bars_in V)) (cFo := (c_first_of V))
theorem mk_DeskState (V : VB B) : Kcl B 1 "DeskState" (ga B.K "DeskState") (rMSi (ga B.K "DeskState")) := V.kcl 68 79 114 rfl rfl rfl (fun _ _ _ _ _ _ us hl => match us, hl with | [_, _, _, _, _], _ => rfl) fun f fd F => ok_msi F (kl := (k_DeskState V))
theorem m_DeskState_tip_of (V : VB B) : Mcl B 1 (ga B.K "DeskState") "tip_of" (rMSt (ga B.K "DeskState")) := V.mcl 69 109 115 rfl rfl rfl (fun _ _ _ _ _ _ us hl => match us, hl with | [_, _], _ => rfl) fun f fd F => ok_mst F (kl := (k_DeskState V))
theorem m_DeskState_moved (V : VB B) : Mcl B 3 (ga B.K "DeskState") "moved" (rMSm (ga B.K "DeskState")) := V.mcl 73 109 119 rfl rfl rfl (fun _ _ _ _ _ _ us hl => match us, hl with | [_, _, _, _], _ => rfl) fun f fd F => ok_msm F (kl := (k_DeskState V)) (mk := (mk_DeskState V))
theorem m_DeskState_with_text (V : VB B) : Mcl B 3 (ga B.K "DeskState") "with_text" (rMSx (ga B.K "DeskState")) := V.mcl 72 109 118 rfl rfl rfl (fun _ _ _ _ _ _ us hl => match us, hl with | [_, _], _ => rfl) fun f fd F => ok_msx F (kl := (k_DeskState V)) (mk := (mk_DeskState V))
theorem mk_Answers (V : VB B) : Kcl B 1 "Answers" (ga B.K "Answers") (rMNi (ga B.K "Answers")) := V.kcl 67 78 108 rfl rfl rfl (fun _ _ _ _ _ _ us hl => match us, hl with | [_], _ => rfl) fun f fd F => ok_mni F (kl := (k_Answers V))
theorem m_DeskState_book_of (V : VB B) : Mcl B 4 (ga B.K "DeskState") "book_of" (rMSb (ga B.K "DeskState") (ga B.K "History")) := V.mcl 70 109 116 rfl rfl rfl (fun _ _ _ _ _ _ us hl => match us, hl with | [_, _], _ => rfl) fun f fd F => ok_msb F (kl := (k_DeskState V)) (mt := (m_DeskState_tip_of V)) (mb := (m_History_book V))
theorem c_bar_of (V : VB B) : Cl B 1 "bar_of" rBo := V.cl 1 20 rfl rfl (fun _ _ _ _ _ _ us hl => match us, hl with | [_], _ => rfl) fun f fd F => ok_sbo F 
theorem c_bars_in_order (V : VB B) : Cl B 1 "bars_in_order" rBio := V.cl 2 21 rfl rfl (fun _ _ _ _ _ _ us hl => match us, hl with | [_], _ => rfl) fun f fd F => ok_sbio F 
theorem c_ordered_marks (V : VB B) : Cl B 1 "ordered_marks" rOm := V.cl 5 24 rfl rfl (fun _ _ _ _ _ _ us hl => match us, hl with | [_], _ => rfl) fun f fd F => ok_som F 
theorem c_is_deed_word (V : VB B) : Cl B 1 "is_deed_word" rIdw := V.cl 28 47 rfl rfl (fun _ _ _ _ _ _ us hl => match us, hl with | [_], _ => rfl) fun f fd F => ok_siw F (T := (tab_ V))
theorem c_mark_text (V : VB B) : Cl B 1 "mark_text" rMt := V.cl 29 48 rfl rfl (fun _ _ _ _ _ _ us hl => match us, hl with | [_], _ => rfl) fun f fd F => ok_smt F 
theorem c_entry_text (V : VB B) : Cl B 2 "entry_text" rEt := V.cl 30 49 rfl rfl (fun _ _ _ _ _ _ us hl => match us, hl with | [_, _], _ => rfl) fun f fd F => ok_set F (cMt := (c_mark_text V)) (cOm := (c_ordered_marks V))
theorem c_deed_text (V : VB B) : Cl B 3 "deed_text" rDt := V.cl 31 50 rfl rfl (fun _ _ _ _ _ _ us hl => match us, hl with | [_], _ => rfl) fun f fd F => ok_sdt F (T := (tab_ V)) (cEt := (c_entry_text V))
theorem m_Apart_keeps (V : VB B) : Mcl B 3 (ga B.K "Apart") "keeps" (rMAk (ga B.K "Apart")) := V.mcl 59 86 92 rfl rfl rfl (fun _ _ _ _ _ _ us hl => match us, hl with | [_, _], _ => rfl) fun f fd F => ok_mak F (kl := (k_Apart V)) (cFm := (c_filled_marks V))
theorem mk_Needs (V : VB B) : Kcl B 1 "Needs" (ga B.K "Needs") (rMNdi (ga B.K "Needs")) := V.kcl 60 76 97 rfl rfl rfl (fun _ _ _ _ _ _ us hl => match us, hl with | [_, _], _ => rfl) fun f fd F => ok_mndi F (kl := (k_Needs V))
theorem m_Needs_bars_in (V : VB B) : Mcl B 2 (ga B.K "Needs") "bars_in" (rMNdb (ga B.K "Needs")) := V.mcl 61 93 98 rfl rfl rfl (fun _ _ _ _ _ _ us hl => match us, hl with | [_, _], _ => rfl) fun f fd F => ok_mndb F (kl := (k_Needs V)) (cVa := (c_value_at V)) (cBo := (c_bar_of V)) (cBio := (c_bars_in_order V))
theorem m_Needs_reason (V : VB B) : Mcl B 3 (ga B.K "Needs") "reason" (rMNdr (ga B.K "Needs")) := V.mcl 62 93 99 rfl rfl rfl (fun _ _ _ _ _ _ us hl => match us, hl with | [_, _], _ => rfl) fun f fd F => ok_mndr F (mb := (m_Needs_bars_in V)) (cFo := (c_first_of V))
theorem m_Needs_keeps (V : VB B) : Mcl B 2 (ga B.K "Needs") "keeps" (rMNdk (ga B.K "Needs")) := V.mcl 63 93 100 rfl rfl rfl (fun _ _ _ _ _ _ us hl => match us, hl with | [_, _], _ => rfl) fun f fd F => ok_mndk F (kl := (k_Needs V)) (cVa := (c_value_at V))
theorem mk_RuleBook (V : VB B) : Kcl B 2 "RuleBook" (ga B.K "RuleBook") (rMRi (ga B.K "RuleBook")) := V.kcl 64 77 103 rfl rfl rfl (fun _ _ _ _ _ _ us hl => match us, hl with | [_, _], _ => rfl) fun f fd F => ok_mri F (kl := (k_RuleBook V)) (cFr := (c_first_repeated V))
theorem m_RuleBook_reason (V : VB B) : Mcl B 5 (ga B.K "RuleBook") "reason" (rMRr (ga B.K "RuleBook") (ga B.K "Apart") (ga B.K "Needs")) := V.mcl 65 101 104 rfl rfl rfl (fun _ _ _ _ _ _ us hl => match us, hl with | [_, _], _ => rfl) fun f fd F => ok_mrr F (kl := (k_RuleBook V)) (ma := (m_Apart_reason V)) (mn := (m_Needs_reason V))
theorem m_RuleBook_is_lawful (V : VB B) : Mcl B 4 (ga B.K "RuleBook") "is_lawful" (rMRl (ga B.K "RuleBook") (ga B.K "Apart") (ga B.K "Needs")) := V.mcl 66 101 105 rfl rfl rfl (fun _ _ _ _ _ _ us hl => match us, hl with | [_, _], _ => rfl) fun f fd F => ok_mrl F (kl := (k_RuleBook V)) (ma := (m_Apart_keeps V)) (mn := (m_Needs_keeps V))
theorem c_item_rules (V : VB B) : Cl B 5 "item_rules" (rIr (ga B.K "RuleBook") (ga B.K "Apart") (ga B.K "Needs")) := V.cl 11 30 rfl rfl (fun _ _ _ _ _ _ us hl => match us, hl with | [_], _ => rfl) fun f fd F => ok_sir F (cPp := (c_position_place V)) (cCp := (c_content_place V)) (kA := (mk_Apart V)) (kN := (mk_Needs V)) (kR := (mk_RuleBook V))
theorem mk_History (V : VB B) : Kcl B 6 "History" (ga B.K "History") (rMHi (ga B.K "History") (ga B.K "RuleBook") (ga B.K "Apart") (ga B.K "Needs") n) := V.kcl 78 80 131 rfl rfl rfl (fun _ _ _ _ _ _ us hl => match us, hl with | [_, _, _], _ => rfl) fun f fd F => ok_mhi F (kl := (k_History V)) (mr := (m_RuleBook_reason V)) (ma := (m_History__add V))
theorem m_History_clone (V : VB B) : Mcl B 8 (ga B.K "History") "clone" (rMHcl (ga B.K "History") (ga B.K "RuleBook") (ga B.K "Apart") (ga B.K "Needs") n) := V.mcl 88 124 141 rfl rfl rfl (fun _ _ _ _ _ _ us hl => match us, hl with | [_], _ => rfl) fun f fd F => ok_mhcl F (kl := (k_History V)) (kH := (mk_History V)) (ma := (m_History__add V))
theorem m_History_write (V : VB B) : MclX B 7 (ga B.K "History") "write" [] (rMHwr (ga B.K "History") (ga B.K "RuleBook") (ga B.K "Apart") (ga B.K "Needs") (ga B.K "Unlawful") n) := V.mclX 86 124 139 rfl rfl rfl (fun _ _ _ _ _ _ us hl => match us, hl with | [_, _, _], _ => rfl) fun f fd F => ok_mhwr F (kl := (k_History V)) (mk := (m_History_check V)) (mr := (m_RuleBook_reason V)) (ma := (m_History__add V)) (cWw := (c_with_writes V)) (xU := (xc_Unlawful V))
/-SPECIAL History.merge-/
theorem f_History_merge (V : VB B) : ∃ fd, FunD B.K "merge" "History.merge" (defArgs mHm) (defBody mHm) (defScope mHm) [] [("answers", .non)] (fAd B.K ("History", some "merge")) fd := V.s.fn _ (me' (i := 87) (show fns[87]? = some ⟨("History", some "merge"), "merge", "History.merge", defArgs mHm, defBody mHm, defScope mHm, [], [("answers", .non)]⟩ from rfl))
theorem mk_History_merge (V : VB B) : MclK B 7 (ga B.K "History") "merge" 2 ["answers"] (rMHm (ga B.K "History") (ga B.K "RuleBook") (ga B.K "Apart") (ga B.K "Needs") (ga B.K "PlaceClash") (ga B.K "RuleClash") n) := by
  obtain ⟨fd, F⟩ := f_History_merge V
  obtain ⟨mv, hb⟩ := L2.FunD.kbinds0 (ps := ["self", "parents", "answers"]) F 2 ["answers"] [] (fun us _ ws => us ++ ws) (by simp) (fun q h => nomatch h) (fun a _ c => a.append c) fun D doc pm an cdv ct us mv ws h1 h2 h3 => match us, mv, ws, h1, h2, h3 with
    | [_, _], [], [_], _, _, _ => rfl
  exact ⟨cls_ok (V.s.fa _ (me' (i := 124) rfl)), fAd B.K ("History", some "merge"), fd, _, ok_mhm F (kl := (k_History V)) (mck := (m_History_check V)) (mr := (m_RuleBook_reason V)) (ma := (m_History__add V)) (cSh := (c_shown V)) (cAs := (c_ascending V)) (cWw := (c_with_writes V)) (xP := (xc_PlaceClash V)) (xR := (xc_RuleClash V)), meth_ok (V.s.fa _ (me' (i := 140) rfl)), hb⟩
theorem m_DeskState_history_copy (V : VB B) : Mcl B 9 (ga B.K "DeskState") "history_copy" (rMSh (ga B.K "DeskState") (ga B.K "History") (ga B.K "RuleBook") (ga B.K "Apart") (ga B.K "Needs") n) := V.mcl 71 109 117 rfl rfl rfl (fun _ _ _ _ _ _ us hl => match us, hl with | [_], _ => rfl) fun f fd F => ok_msh F (kl := (k_DeskState V)) (mc := (m_History_clone V))
theorem m_DeskState_after_fork (V : VB B) : Mcl B 4 (ga B.K "DeskState") "after_fork" (rMSf (ga B.K "DeskState")) := V.mcl 75 109 121 rfl rfl rfl (fun _ _ _ _ _ _ us hl => match us, hl with | [_, _, _], _ => rfl) fun f fd F => ok_msf F (kl := (k_DeskState V)) (mt := (m_DeskState_tip_of V)) (mm := (m_DeskState_moved V))
theorem m_DeskState_after_write (V : VB B) : MclX B 9 (ga B.K "DeskState") "after_write" [] (rMSw (ga B.K "DeskState") (ga B.K "History") (ga B.K "RuleBook") (ga B.K "Apart") (ga B.K "Needs") (ga B.K "Unlawful") n) := V.mclX 76 109 122 rfl rfl rfl (fun _ _ _ _ _ _ us hl => match us, hl with | [_, _, _], _ => rfl) fun f fd F => ok_msw F (kl := (k_DeskState V)) (mt := (m_DeskState_tip_of V)) (mm := (m_DeskState_moved V)) (mc := (m_History_clone V)) (mw := (m_History_write V))
theorem m_DeskState_after_merge (V : VB B) : MclX B 9 (ga B.K "DeskState") "after_merge" [] (rMSmg (ga B.K "DeskState") (ga B.K "History") (ga B.K "RuleBook") (ga B.K "Apart") (ga B.K "Needs") (ga B.K "PlaceClash") (ga B.K "RuleClash") n) := V.mclX 77 109 123 rfl rfl rfl (fun _ _ _ _ _ _ us hl => match us, hl with | [_, _, _, _], _ => rfl) fun f fd F => ok_msmg F (kl := (k_DeskState V)) (mt := (m_DeskState_tip_of V)) (mm := (m_DeskState_moved V)) (mc := (m_History_clone V)) (mg := (mk_History_merge V)) (cPt := (c_past V))
theorem m_DeskState_after (V : VB B) : MclX B 10 (ga B.K "DeskState") "after" [] (rMSa (ga B.K "DeskState") (ga B.K "History") (ga B.K "RuleBook") (ga B.K "Apart") (ga B.K "Needs") (ga B.K "Unlawful") (ga B.K "PlaceClash") (ga B.K "RuleClash") n) := V.mclX 74 109 120 rfl rfl rfl (fun _ _ _ _ _ _ us hl => match us, hl with | [_, _], _ => rfl) fun f fd F => ok_msa F (mf := (m_DeskState_after_fork V)) (mw := (m_DeskState_after_write V)) (mg := (m_DeskState_after_merge V))
theorem m_Desk_attempt (V : VB B) : MclX B 11 (ga B.K "Desk") "attempt" [] (rMDa (ga B.K "DeskState") (ga B.K "Desk") (ga B.K "History") (ga B.K "RuleBook") (ga B.K "Apart") (ga B.K "Needs") (ga B.K "Unlawful") (ga B.K "PlaceClash") (ga B.K "RuleClash") n) := V.mclX 96 142 154 rfl rfl rfl (fun _ _ _ _ _ _ us hl => match us, hl with | [_, _], _ => rfl) fun f fd F => ok_mda F (kl := (k_Desk V)) (cIw := (c_is_deed_word V)) (cDt := (c_deed_text V)) (ma := (m_DeskState_after V)) (mx := (m_DeskState_with_text V))
/-SPECIAL Desk.__init__-/
theorem f_Desk_init (V : VB B) : ∃ fd, FunD B.K "__init__" "Desk.__init__" (defArgs mDi) (defBody mDi) (defScope mDi) [] [("depth", .int 8)] (fAd B.K ("Desk", some "__init__")) fd := V.s.fn _ (me' (i := 89) (show fns[89]? = some ⟨("Desk", some "__init__"), "__init__", "Desk.__init__", defArgs mDi, defBody mDi, defScope mDi, [], [("depth", .int 8)]⟩ from rfl))
theorem mk_Desk (V : VB B) : KclX B 8 "Desk" (ga B.K "Desk") [.int 8] (rMDi (ga B.K "DeskState") (ga B.K "Desk") (ga B.K "History") (ga B.K "RuleBook") (ga B.K "Apart") (ga B.K "Needs") (ga B.K "Answers") n) := by
  obtain ⟨fd, F⟩ := f_Desk_init V
  obtain ⟨ds, rv, hb⟩ := FunD.binds0 (ps := ["self", "rulebook", "book", "depth"]) F 3 (by simp) rfl fun D doc pm an cdv ct us ks h1 h2 => match us, ks, h1, h2 with
    | [_, _, _], [_], _, _ => ⟨_, _, _, _, _, _, rfl, rfl, rfl⟩
  exact ⟨V.g _ (me' (i := 81) rfl), fAd B.K ("Desk", some "__init__"), fd, _, [.int 8], ds, ok_mdi F (kl := (k_Desk V)) (kH := (mk_History V)) (kA := (mk_Answers V)) (kSt := (mk_DeskState V)), mkr_ok (V.s.fa _ (me' (i := 147) rfl)), hb, rv, fun _ _ => Reps.one .int⟩
theorem m_Desk_fork (V : VB B) : MclX B 12 (ga B.K "Desk") "fork" [] (rMDf (ga B.K "DeskState") (ga B.K "Desk") (ga B.K "History") (ga B.K "RuleBook") (ga B.K "Apart") (ga B.K "Needs") (ga B.K "Unlawful") (ga B.K "PlaceClash") (ga B.K "RuleClash") n) := V.mclX 90 142 148 rfl rfl rfl (fun _ _ _ _ _ _ us hl => match us, hl with | [_, _, _], _ => rfl) fun f fd F => ok_mdf F (ma := (m_Desk_attempt V))
theorem m_Desk_write (V : VB B) : MclX B 12 (ga B.K "Desk") "write" [] (rMDw (ga B.K "DeskState") (ga B.K "Desk") (ga B.K "History") (ga B.K "RuleBook") (ga B.K "Apart") (ga B.K "Needs") (ga B.K "Unlawful") (ga B.K "PlaceClash") (ga B.K "RuleClash") n) := V.mclX 91 142 149 rfl rfl rfl (fun _ _ _ _ _ _ us hl => match us, hl with | [_, _, _], _ => rfl) fun f fd F => ok_mdw F (ma := (m_Desk_attempt V))
/-SPECIAL Desk.merge-/
theorem f_Desk_merge (V : VB B) : ∃ fd, FunD B.K "merge" "Desk.merge" (defArgs mDm) (defBody mDm) (defScope mDm) [] [("answers", .non)] (fAd B.K ("Desk", some "merge")) fd := V.s.fn _ (me' (i := 92) (show fns[92]? = some ⟨("Desk", some "merge"), "merge", "Desk.merge", defArgs mDm, defBody mDm, defScope mDm, [], [("answers", .non)]⟩ from rfl))
theorem mk_Desk_merge (V : VB B) : MclK B 12 (ga B.K "Desk") "merge" 3 ["answers"] (rMDm (ga B.K "DeskState") (ga B.K "Desk") (ga B.K "History") (ga B.K "RuleBook") (ga B.K "Apart") (ga B.K "Needs") (ga B.K "Unlawful") (ga B.K "PlaceClash") (ga B.K "RuleClash") n) := by
  obtain ⟨fd, F⟩ := f_Desk_merge V
  obtain ⟨mv, hb⟩ := L2.FunD.kbinds0 (ps := ["self", "name", "others", "answers"]) F 3 ["answers"] [] (fun us _ ws => us ++ ws) (by simp) (fun q h => nomatch h) (fun a _ c => a.append c) fun D doc pm an cdv ct us mv ws h1 h2 h3 => match us, mv, ws, h1, h2, h3 with
    | [_, _, _], [], [_], _, _, _ => rfl
  exact ⟨cls_ok (V.s.fa _ (me' (i := 142) rfl)), fAd B.K ("Desk", some "merge"), fd, _, ok_mdm F (ma := (m_Desk_attempt V)), meth_ok (V.s.fa _ (me' (i := 150) rfl)), hb⟩
theorem m_Desk_merge (V : VB B) : MclX B 12 (ga B.K "Desk") "merge" [.non] (rMDm (ga B.K "DeskState") (ga B.K "Desk") (ga B.K "History") (ga B.K "RuleBook") (ga B.K "Apart") (ga B.K "Needs") (ga B.K "Unlawful") (ga B.K "PlaceClash") (ga B.K "RuleClash") n) := by
  obtain ⟨fd, F⟩ := f_Desk_merge V
  obtain ⟨ds, rv, hb⟩ := FunD.binds0 (ps := ["self", "name", "others", "answers"]) F 3 (by simp) rfl fun D doc pm an cdv ct us ks h1 h2 => match us, ks, h1, h2 with
    | [_, _, _], [_], _, _ => ⟨_, _, _, _, _, _, rfl, rfl, rfl⟩
  exact ⟨cls_ok (V.s.fa _ (me' (i := 142) rfl)), fAd B.K ("Desk", some "merge"), fd, _, [.non], ds, ok_mdm F (ma := (m_Desk_attempt V)), meth_ok (V.s.fa _ (me' (i := 150) rfl)), hb, rv, fun _ _ => Reps.one .non⟩
theorem m_Desk_tip (V : VB B) : Mcl B 2 (ga B.K "Desk") "tip" (rMDt (ga B.K "DeskState") (ga B.K "Desk")) := V.mcl 93 142 151 rfl rfl rfl (fun _ _ _ _ _ _ us hl => match us, hl with | [_, _], _ => rfl) fun f fd F => ok_mdt F (kl := (k_Desk V)) (mt := (m_DeskState_tip_of V))
theorem m_Desk_book (V : VB B) : Mcl B 5 (ga B.K "Desk") "book" (rMDb (ga B.K "DeskState") (ga B.K "Desk") (ga B.K "History")) := V.mcl 94 142 152 rfl rfl rfl (fun _ _ _ _ _ _ us hl => match us, hl with | [_, _], _ => rfl) fun f fd F => ok_mdb F (kl := (k_Desk V)) (mb := (m_DeskState_book_of V))
theorem m_Desk_history (V : VB B) : Mcl B 10 (ga B.K "Desk") "history" (rMDh (ga B.K "DeskState") (ga B.K "Desk") (ga B.K "History") (ga B.K "RuleBook") (ga B.K "Apart") (ga B.K "Needs") n) := V.mcl 95 142 153 rfl rfl rfl (fun _ _ _ _ _ _ us hl => match us, hl with | [_], _ => rfl) fun f fd F => ok_mdh F (kl := (k_Desk V)) (mh := (m_DeskState_history_copy V))
theorem c__law_do (V : VB B) : Cl B 13 "_law_do" (rTDo (ga B.K "DeskState") (ga B.K "Desk") (ga B.K "History") (ga B.K "RuleBook") (ga B.K "Apart") (ga B.K "Needs") n) := V.cl 50 69 rfl rfl (fun _ _ _ _ _ _ us hl => match us, hl with | [_, _], _ => rfl) fun f fd F => ok_tdo F (cRw := (c__law_written_raw V)) (mw := (m_Desk_write V)) (mg := (m_Desk_merge V)) (mk := (mk_Desk_merge V)) (c1 := (hc_PlaceClash V)) (c2 := (hc_RuleClash V)) (c3 := (hc_Unlawful V)) (m11 := (exm_ok (V.s.fa _ (me' (i := 155) rfl)))) (m21 := (exm_ok (V.s.fa _ (me' (i := 156) rfl)))) (m31 := (exm_ok (V.s.fa _ (me' (i := 157) rfl)))) (m22 := (exm_ok (V.s.fa _ (me' (i := 158) rfl)))) (m32 := (exm_ok (V.s.fa _ (me' (i := 159) rfl)))) (m33 := (exm_ok (V.s.fa _ (me' (i := 160) rfl))))
theorem c__law_stands (V : VB B) : Cl B 5 "_law_stands" (rTSn (ga B.K "History") n) := V.cl 53 72 rfl rfl (fun _ _ _ _ _ _ us hl => match us, hl with | [_, _, _, _, _], _ => rfl) fun f fd F => ok_tsn F (cIn := (c__law_ints V)) (cHe := (c__law_heads V)) (cHs := (c_heads V))
theorem c__law_watch (V : VB B) : Cl B 11 "_law_watch" (rTWa (ga B.K "DeskState") (ga B.K "Desk") (ga B.K "History") (ga B.K "RuleBook") (ga B.K "Apart") (ga B.K "Needs") n) := V.cl 54 73 rfl rfl (fun _ _ _ _ _ _ us hl => match us, hl with | [_, _, _, _], _ => rfl) fun f fd F => ok_twa F (mh := (m_Desk_history V)) (mn := (m_History_node_count V)) (mb := (m_Desk_book V)) (mt := (m_Desk_tip V)) (cIb := (c__law_is_book V)) (cAr := (c_arrange V)) (cSn := (c__law_stands V)) (cDo := (c_doubled V)) (ml := (m_RuleBook_is_lawful V))
theorem lawP (V : VB B) : LawP B (ga B.K "DeskState") (ga B.K "Desk") (ga B.K "History") (ga B.K "RuleBook") (ga B.K "Apart") (ga B.K "Needs") (ga B.K "Answers") (ga B.K "Unlawful") (ga B.K "PlaceClash") (ga B.K "RuleClash") :=
  ⟨c__law_take V, c__law_open V, c__law_started V, c_item_rules V, c__law_written V, fun _ => mk_Desk V, c__law_world V, fun _ => m_Desk_fork V, c__law_item_deed V, c__law_item_writes V, c__law_deed V, c__law_writes_told V, c__law_due V, fun _ => c__law_do V, fun _ => c__law_watch V⟩
end
end FS
namespace FS
open PySem PySem.Spec PyProof.Rows L2 He
theorem bl_free : ∀ x ∈ blNames, Fa.free x ∈ fas := List.forall_mem_cons.2 ⟨me' (i := 0) rfl, List.forall_mem_cons.2 ⟨me' (i := 1) rfl, List.forall_mem_cons.2 ⟨me' (i := 2) rfl, List.forall_mem_cons.2 ⟨me' (i := 3) rfl, List.forall_mem_cons.2 ⟨me' (i := 4) rfl, List.forall_mem_cons.2 ⟨me' (i := 5) rfl, List.forall_mem_cons.2 ⟨me' (i := 6) rfl, List.forall_mem_cons.2 ⟨me' (i := 7) rfl, List.forall_mem_cons.2 ⟨me' (i := 8) rfl, List.forall_mem_cons.2 ⟨me' (i := 9) rfl, List.forall_mem_cons.2 ⟨me' (i := 10) rfl, List.forall_mem_cons.2 ⟨me' (i := 11) rfl, List.forall_mem_cons.2 ⟨me' (i := 12) rfl, List.forall_mem_cons.2 ⟨me' (i := 13) rfl, List.forall_mem_cons.2 ⟨me' (i := 14) rfl, List.forall_mem_cons.2 ⟨me' (i := 15) rfl, List.forall_mem_cons.2 ⟨me' (i := 16) rfl, List.forall_mem_cons.2 ⟨me' (i := 17) rfl, List.forall_mem_nil _⟩⟩⟩⟩⟩⟩⟩⟩⟩⟩⟩⟩⟩⟩⟩⟩⟩⟩
theorem law_facts {P : Program} {w : World} {h : Heap} {mg : Str → Option Value} {fa : Addr} (top : (P.main.scope.names.lookup ("super" : Str)).isSome = false) (Y : (hook3 P).says w h) (G : h.Ns mainGlobals mg) (hfa : mg "law" = some (.ref fa)) :
    ∃ (K : PySem.W.Frag) (fd : FuncData) (sp : Sp), K.In h ∧ (∀ (s : Shared) (u : Value), BindsTo s fd ⟨[u], []⟩ [("_law_script", u)]) ∧
      (∀ (H : Hp) (a : Addr) (ns : List Int), ns.length ≤ 63 → Only H → SqL K H a (ns.map V.int) → sp [.ref a] H (fun v _ => v = .bl true) fun _ _ _ => False) ∧
      ∀ base : Heap, K.In base → base.Ns mainGlobals mg → ∀ (s : Shared) (H : Hp) (args : Args) (us : List Value) (vs : List V) (Q : VK) (E : XK), Env0 P w K mg base callerA [] s H → BindsTo s fd args ((["_law_script"] : List Str).zip us) → Vals vs us → sp vs H Q E → codeAny (model P w) callerA (.call (.ref fa) args) (L2.CR CX0 [] P w H s Q E) s := by
  obtain ⟨K, X, c⟩ := Y
  have S := sees3 c
  have bl : ∀ x ∈ blNames, mg x = none := fun x hx => free_ok X G (S.fa _ (bl_free x hx))
  have g : ∀ x, Fa.glo x ∈ fas → mg x = some (.ref (ga K x)) := fun x hx => glo_ok X G (S.fa _ hx)
  have V : ∀ base : Heap, VB ⟨P, w, K, mg, base, bl⟩ := fun base => ⟨S, g, free_ok X G (S.fa _ (me' (i := 18) rfl)), bl _ (by decide), top⟩
  obtain ⟨fd, F⟩ := (V h).fun_ 55 (x := "law") (qual := "law") (st := tLw) (at_ := ("law", none)) rfl
  have e := hfa.symm.trans (g "law" (me' (i := 74) rfl))
  obtain rfl : fa = ga K "law" := by
    have e' := Option.some.inj e
    cases e'
    rfl
  refine ⟨K, fd, spLw K, X, fun s u => ?_, fun H a ns _ hO hS => ⟨a, ns, rfl, hO, hS, fun _ => rfl⟩, fun base _ _ => law_fn (B := ⟨P, w, K, mg, base, bl⟩) (lawP (V base)) F⟩
  obtain ⟨oc, od, kV, doc, pm, an, cdv, ct, osl, rfl, lk, hcd⟩ := F.ex
  exact .of_eq rfl
end FS
namespace FS
open PySem PySem.W PySem.Calls PyProof.Rows HandSHeadRun He FH
theorem all_app {α} {p : α → Bool} {a b : List α} (h : a.all p = true) (g : b.all p = true) : (a ++ b).all p = true := by rw [List.all_append, h, g] <;> rfl
theorem map2 {α β γ} {E : Option α} {f : α → β} {g : α → γ} {x : β} {y : γ} (h : E.map f = some x) (k : E.map g = some y) : E.map (fun s => (f s, g s)) = some (x, y) := by
  cases E with
  | none => cases h
  | some s =>
    have h' : f s = x := Option.some.inj h
    have k' : g s = y := Option.some.inj k
    rw [← h', ← k']
    rfl
abbrev ob3 (s : PySem.W.SharedT) : Al3 := obs3G R.prog (getT s)
theorem run_join {w : World} {os : OsState}
    (a : (endF (stepQ (denQ tabQ) R.prog w) 30000 R.prog w os).map (fun s => fas.all fun f => f.ok (frG (getT s) ads)) = some (true))
    (b : (endF (stepQ (denQ tabQ) R.prog w) 30000 R.prog w os).map (fun s => (((fns0 ++ (fns1 ++ fns2)).all fun d => d.ok (frG (getT s) ads)) && ((ers.all fun e => erB R.prog (frG (getT s) ads) e) && formsTab.all fun t => tupS (frG (getT s) ads) (ga (frG (getT s) ads) "FORMS") t.1 t.2), dicW (frG (getT s) ads) (ga (frG (getT s) ads) "FORMS"))) = some ((true, some (keysIn w.params fmKeys))))
    (c : (endF (stepQ (denQ tabQ) R.prog w) 30000 R.prog w os).map (fun s => (fns3.all fun d => d.ok (frG (getT s) ads), looksF R.prog (boot_heap w.params) s.abs)) = some ((true, true)))
    (d : (endF (stepQ (denQ tabQ) R.prog w) 30000 R.prog w os).map (fun s => (fns.map fun d => fnW (frG (getT s) ads) d.at_, ers.map fun e => fnW (frG (getT s) ads) e.at_)) = some ((fns.map DefD.val, ers.map ErD.val)))
    (e : (endF (stepQ (denQ tabQ) R.prog w) 30000 R.prog w os).map (fun s => (fns4.all fun d => d.ok (frG (getT s) ads), seenQ qv names (importedModules R.prog.main.body) (fun s => xlAt qv [] s && recOk R.toRowW.records s) s.abs)) = some ((true, openGood qv names))) :
    (endF (stepQ (denQ tabQ) R.prog w) 30000 R.prog w os).map (fun s => (looksF R.prog (boot_heap w.params) s.abs, seenQ qv names (importedModules R.prog.main.body) (fun s => xlAt qv [] s && recOk R.toRowW.records s) s.abs, ob3 s)) = some (true, openGood qv names, (hook3 R.prog).val w) := by
  cases hE : endF (stepQ (denQ tabQ) R.prog w) 30000 R.prog w os with
  | none =>
    rw [hE] at a
    cases a
  | some s =>
    rw [hE] at a b c d e
    have a' := Option.some.inj a
    have b' := Option.some.inj b
    have c' := Option.some.inj c
    have d' := Option.some.inj d
    have e' := Option.some.inj e
    obtain ⟨b0, b2⟩ := Prod.mk.inj b'
    obtain ⟨b1, a2⟩ := ba b0
    obtain ⟨c1, c2⟩ := Prod.mk.inj c'
    obtain ⟨d1, d2⟩ := Prod.mk.inj d'
    obtain ⟨e1, e2⟩ := Prod.mk.inj e'
    have hf : (fns.all fun d => d.ok (frG (getT s) ads)) = true := by
      rw [List.all_append, List.all_append, Bool.and_eq_true, Bool.and_eq_true] at b1
      exact all_app b1.1 (all_app b1.2.1 (all_app b1.2.2 (all_app c1 e1)))
    have hb : bls R.prog (frG (getT s) ads) = true := by
      unfold bls
      dsimp only at a'
      rw [a', hf, a2]
      rfl
    have ho : ob3 s = val3 w := by
      show obs3 R.prog (frG (getT s) ads) = val3 w
      unfold obs3 val3
      rw [hb, d1, d2, b2]
    show some (_, _, ob3 s) = _
    rw [ho, c2, e2]
    rfl
theorem run3 (w : World) : RunEq R qv (hook3 R.prog) ob3 30000 names w :=
  PySem.W.byRow2 "special-get-raises" (P := fun w => RunEq R qv (hook3 R.prog) ob3 30000 names w)
    (fun w os => run_join (run_a_false w os) (run_b_false w os) (run_c_false w os) (run_d_false w os) (run_e_false w os))
    (fun w os => run_join (run_a_true w os) (run_b_true w os) (run_c_true w os) (run_d_true w os) (run_e_true w os)) w
theorem ob3_eq (s : PySem.W.SharedT) : ob3 s = (hook3 R.prog).obs s.abs := obs3G_eq (getT_eq s)
end FS
open PySem PySem.W PySem.Calls PyProof.Rows
set_option maxHeartbeats 0 in
theorem PySem.Challenge.cw_forkedshelves_k97_whole_items_on_forks_holds : PySem.Challenge.rw_forkedshelves_k97_whole_items_on_forks.Holds := by
  w_on; o_law
  refine HandSHeadRun.head_any (r := FH.R) (q := FH.qv) (H := FS.hook3 FH.R.prog) (ob := FS.ob3) (M := 30000) (loose := FH.names) (d := HandSHeadRun.topDef FH.R.prog 134) (kwd := []) FS.ob3_eq
    (by kernel_rfl) (fun s => by kernel_rfl) FS.run3 (by kernel_rfl) (by kernel_rfl) (by kernel_rfl) (by rfl) (by first | assumption | decide +kernel) (by decide +kernel) ⟨rfl, rfl, rfl, rfl, rfl, by decide +kernel⟩ ?hw ?hc
  case hw => w_witness2
  case hc =>
    refine FX.walk_ofG (l := PySem.Challenge.rw_forkedshelves_k97_whole_items_on_forks) (n := 63) (x := "_law_script") (CX := L2.CX0) rfl (by decide) (by kernel_rfl) ?F (fun _ _ _ _ z => z)
    intro w mg fa h Y G hmg0
    have hmg : mg ("law" : PySem.Str) = some (.ref fa) := by
      have e : (HandSHeadRun.topDef FH.R.prog 134).name = ("law" : PySem.Str) := by kernel_rfl
      rw [← e]
      exact hmg0
    exact FS.law_facts (by kernel_rfl) Y G hmg
