import PyProof.Rows.All
import Wide.All
import OpenK.AllK
import Wide.FinOn
import KE.KStateDown
import HandS.Base
import HandS.Call
import HandS.Ends
import HandS.More
import HandS.Words
import HandS.WordsExc
import HandS.Defaults
import HandS.Head0
import HandS.Head1
import HandS.Head2
import HandS.HeadEnd
import HandS.HeadHook1
import HandS.HeadHook2
import HandS.HeadHook3
import HandS.HeadNt
import HandS.ClsMeth
import HandS.IsInst
import PySem.Challenge.RW_filedalike_k75_letters_read_in_any_order
import HandS.GenList
import HandS.OwnEq
import HandS.Iter
import HandS.DictEq
import HandS.WordsDict
import HandS.List
import HandS.Zip0
import PyProof.EnumMake
import PyProof.WalkInts
import HandS.ForMost
import HandS.WordsList
import HandS.Exc
import HandS.Flow
import HandS.Strs
import HandS.Conv
import HandS.Star
import HandS.TupAny
import HandS.Remove
import HandS.Rev
import HandS.StrMore
import HandS.StrSplit
import HandS.SortInts
import HandS.Deep
import HandS.FStr
import HandS.MakeKwOnly
import HandS.Wide
import HandS.SetKeys
import HandS.DictComp
import HandS.Zip
import HandS.Small
import HandS.TryOnly
import HandS.SetFor
import HandS.Evl
import HandS.SetBool
import KE.KDictList
import PyProof.DictValues
import PyProof.Rows.StrIntSpec
import PyProof.FString3
import PyProof.ReprRoads
import HandS.FStrTup
set_option Elab.async false
set_option linter.all false

section T_Hd
set_option Elab.async false
set_option linter.all false
set_option maxRecDepth 100000
set_option maxHeartbeats 0
namespace K75
open PySem L2
def top (i : Nat) : Stmt := PySem.Challenge.pw_filedalike_k75_letters_read_in_any_order.main.body.getD i (.Pass ⟨0, 0, 0, 0⟩)
abbrev s_is_name : Stmt := top 10
abbrev s_is_number : Stmt := top 11
abbrev s_is_numeral : Stmt := top 12
abbrev s_are_names : Stmt := top 13
abbrev s_Letter_init : Stmt := inClass (top 19) 3
abbrev s_Letter_written : Stmt := inClass (top 19) 4
abbrev s_Letter_eq : Stmt := inClass (top 19) 6
abbrev s_fits_answers : Stmt := top 20
abbrev s_wrapped : Stmt := top 21
abbrev s_body_rows : Stmt := top 22
abbrev s_HeadRows_init : Stmt := inClass (top 27) 0
abbrev s_HeadRows_take : Stmt := inClass (top 27) 1
abbrev s_HeadRows_told_items : Stmt := inClass (top 27) 2
abbrev s_HeadRows_begin : Stmt := inClass (top 27) 3
abbrev s_HeadRows_made_letter : Stmt := inClass (top 27) 4
abbrev s_read_part : Stmt := top 28
abbrev s_read_letters : Stmt := top 29
abbrev s_written_letters : Stmt := top 30
abbrev s_Forest_init : Stmt := inClass (top 32) 0
abbrev s_Forest_of : Stmt := inClass (top 32) 1
abbrev s_Forest_put : Stmt := inClass (top 32) 2
abbrev s_Forest_closed_ring : Stmt := inClass (top 32) 3
abbrev s_Forest_cut : Stmt := inClass (top 32) 4
abbrev s_Forest_path : Stmt := inClass (top 32) 6
abbrev s_Forest_root : Stmt := inClass (top 32) 7
abbrev s_Forest_children : Stmt := inClass (top 32) 9
abbrev s_Forest_roots : Stmt := inClass (top 32) 10
abbrev s_Forest_walk_trees : Stmt := inClass (top 32) 12
abbrev s_Forest_summary : Stmt := inClass (top 32) 13
abbrev s_Forest_drawn : Stmt := inClass (top 32) 14
abbrev s_Forest_len : Stmt := inClass (top 32) 16
abbrev s_Forest_eq : Stmt := inClass (top 32) 17
abbrev s_Group_init : Stmt := inClass (top 34) 0
abbrev s_Threads_init : Stmt := inClass (top 35) 0
abbrev s_Threads_of : Stmt := inClass (top 35) 1
abbrev s_Threads_put : Stmt := inClass (top 35) 2
abbrev s_Threads_has_come : Stmt := inClass (top 35) 3
abbrev s_Threads_group_of : Stmt := inClass (top 35) 4
abbrev s_Threads_merged : Stmt := inClass (top 35) 5
abbrev s_Threads_joined : Stmt := inClass (top 35) 6
abbrev s_Threads_name_of : Stmt := inClass (top 35) 7
abbrev s_Threads_members : Stmt := inClass (top 35) 8
abbrev s_Threads_names : Stmt := inClass (top 35) 10
abbrev s_Threads_letter_at : Stmt := inClass (top 35) 11
abbrev s_Threads_contains : Stmt := inClass (top 35) 13
abbrev s_Threads_eq : Stmt := inClass (top 35) 16
abbrev s_Join_init : Stmt := inClass (top 37) 0
abbrev s_join_of : Stmt := top 38
abbrev s_each_join : Stmt := top 39
abbrev s_linked_numbers : Stmt := top 40
abbrev s_steps_to : Stmt := top 41
abbrev s_chain : Stmt := top 42
abbrev s_L_bag : Stmt := top 44
abbrev s_L_take : Stmt := top 45
abbrev s_L_name : Stmt := top 46
abbrev s_L_pool : Stmt := top 47
abbrev s_L_rows : Stmt := top 48
abbrev s_L_letters : Stmt := top 49
abbrev s_L_drawn_right : Stmt := top 50
abbrev s_L_chains_right : Stmt := top 51
abbrev s_law : Stmt := top 52
def d_is_name : He5.DefA := ⟨fun K => He.ga K "is_name", "is_name", "is_name", defArgs s_is_name, defBody s_is_name, defScope s_is_name, [], []⟩
def d_is_number : He5.DefA := ⟨fun K => He.ga K "is_number", "is_number", "is_number", defArgs s_is_number, defBody s_is_number, defScope s_is_number, [], []⟩
def d_is_numeral : He5.DefA := ⟨fun K => He.ga K "is_numeral", "is_numeral", "is_numeral", defArgs s_is_numeral, defBody s_is_numeral, defScope s_is_numeral, [], []⟩
def d_are_names : He5.DefA := ⟨fun K => He.ga K "are_names", "are_names", "are_names", defArgs s_are_names, defBody s_are_names, defScope s_are_names, [], []⟩
def d_Letter_init : He5.DefA := ⟨fun K => He.ma K (He.ga K "Letter") "__init__", "__init__", "Letter.__init__", defArgs s_Letter_init, defBody s_Letter_init, defScope s_Letter_init, [], []⟩
def d_Letter_written : He5.DefA := ⟨fun K => He.ma K (He.ga K "Letter") "written", "written", "Letter.written", defArgs s_Letter_written, defBody s_Letter_written, defScope s_Letter_written, [], []⟩
def d_Letter_eq : He5.DefA := ⟨fun K => He.ma K (He.ga K "Letter") "__eq__", "__eq__", "Letter.__eq__", defArgs s_Letter_eq, defBody s_Letter_eq, defScope s_Letter_eq, [], []⟩
def d_fits_answers : He5.DefA := ⟨fun K => He.ga K "fits_answers", "fits_answers", "fits_answers", defArgs s_fits_answers, defBody s_fits_answers, defScope s_fits_answers, [], []⟩
def d_wrapped : He5.DefA := ⟨fun K => He.ga K "wrapped", "wrapped", "wrapped", defArgs s_wrapped, defBody s_wrapped, defScope s_wrapped, [], []⟩
def d_body_rows : He5.DefA := ⟨fun K => He.ga K "body_rows", "body_rows", "body_rows", defArgs s_body_rows, defBody s_body_rows, defScope s_body_rows, [], []⟩
def d_HeadRows_init : He5.DefA := ⟨fun K => He.ma K (He.ga K "HeadRows") "__init__", "__init__", "HeadRows.__init__", defArgs s_HeadRows_init, defBody s_HeadRows_init, defScope s_HeadRows_init, [], []⟩
def d_HeadRows_take : He5.DefA := ⟨fun K => He.ma K (He.ga K "HeadRows") "take", "take", "HeadRows.take", defArgs s_HeadRows_take, defBody s_HeadRows_take, defScope s_HeadRows_take, [], []⟩
def d_HeadRows_told_items : He5.DefA := ⟨fun K => He.ma K (He.ga K "HeadRows") "told_items", "told_items", "HeadRows.told_items", defArgs s_HeadRows_told_items, defBody s_HeadRows_told_items, defScope s_HeadRows_told_items, [], []⟩
def d_HeadRows_begin : He5.DefA := ⟨fun K => He.ma K (He.ga K "HeadRows") "begin", "begin", "HeadRows.begin", defArgs s_HeadRows_begin, defBody s_HeadRows_begin, defScope s_HeadRows_begin, [], []⟩
def d_HeadRows_made_letter : He5.DefA := ⟨fun K => He.ma K (He.ga K "HeadRows") "made_letter", "made_letter", "HeadRows.made_letter", defArgs s_HeadRows_made_letter, defBody s_HeadRows_made_letter, defScope s_HeadRows_made_letter, [], []⟩
def d_read_part : He5.DefA := ⟨fun K => He.ga K "read_part", "read_part", "read_part", defArgs s_read_part, defBody s_read_part, defScope s_read_part, [], []⟩
def d_read_letters : He5.DefA := ⟨fun K => He.ga K "read_letters", "read_letters", "read_letters", defArgs s_read_letters, defBody s_read_letters, defScope s_read_letters, [], []⟩
def d_written_letters : He5.DefA := ⟨fun K => He.ga K "written_letters", "written_letters", "written_letters", defArgs s_written_letters, defBody s_written_letters, defScope s_written_letters, [], []⟩
def d_Forest_init : He5.DefA := ⟨fun K => He.ma K (He.ga K "Forest") "__init__", "__init__", "Forest.__init__", defArgs s_Forest_init, defBody s_Forest_init, defScope s_Forest_init, [], []⟩
def d_Forest_of : He5.DefA := ⟨fun K => He5.wf K (He.ga K "Forest") "classmethod" "of", "of", "Forest.of", defArgs s_Forest_of, defBody s_Forest_of, defScope s_Forest_of, [], []⟩
def d_Forest_put : He5.DefA := ⟨fun K => He.ma K (He.ga K "Forest") "put", "put", "Forest.put", defArgs s_Forest_put, defBody s_Forest_put, defScope s_Forest_put, [], []⟩
def d_Forest_closed_ring : He5.DefA := ⟨fun K => He.ma K (He.ga K "Forest") "closed_ring", "closed_ring", "Forest.closed_ring", defArgs s_Forest_closed_ring, defBody s_Forest_closed_ring, defScope s_Forest_closed_ring, [], []⟩
def d_Forest_cut : He5.DefA := ⟨fun K => He.ma K (He.ga K "Forest") "cut", "cut", "Forest.cut", defArgs s_Forest_cut, defBody s_Forest_cut, defScope s_Forest_cut, [], []⟩
def d_Forest_path : He5.DefA := ⟨fun K => He.ma K (He.ga K "Forest") "path", "path", "Forest.path", defArgs s_Forest_path, defBody s_Forest_path, defScope s_Forest_path, [], []⟩
def d_Forest_root : He5.DefA := ⟨fun K => He.ma K (He.ga K "Forest") "root", "root", "Forest.root", defArgs s_Forest_root, defBody s_Forest_root, defScope s_Forest_root, [], []⟩
def d_Forest_children : He5.DefA := ⟨fun K => He.ma K (He.ga K "Forest") "children", "children", "Forest.children", defArgs s_Forest_children, defBody s_Forest_children, defScope s_Forest_children, [], []⟩
def d_Forest_roots : He5.DefA := ⟨fun K => He.ma K (He.ga K "Forest") "roots", "roots", "Forest.roots", defArgs s_Forest_roots, defBody s_Forest_roots, defScope s_Forest_roots, [], []⟩
def d_Forest_walk_trees : He5.DefA := ⟨fun K => He.ma K (He.ga K "Forest") "walk_trees", "walk_trees", "Forest.walk_trees", defArgs s_Forest_walk_trees, defBody s_Forest_walk_trees, defScope s_Forest_walk_trees, [], []⟩
def d_Forest_summary : He5.DefA := ⟨fun K => He.ma K (He.ga K "Forest") "summary", "summary", "Forest.summary", defArgs s_Forest_summary, defBody s_Forest_summary, defScope s_Forest_summary, [], []⟩
def d_Forest_drawn : He5.DefA := ⟨fun K => He.ma K (He.ga K "Forest") "drawn", "drawn", "Forest.drawn", defArgs s_Forest_drawn, defBody s_Forest_drawn, defScope s_Forest_drawn, [], []⟩
def d_Forest_len : He5.DefA := ⟨fun K => He.ma K (He.ga K "Forest") "__len__", "__len__", "Forest.__len__", defArgs s_Forest_len, defBody s_Forest_len, defScope s_Forest_len, [], []⟩
def d_Forest_eq : He5.DefA := ⟨fun K => He.ma K (He.ga K "Forest") "__eq__", "__eq__", "Forest.__eq__", defArgs s_Forest_eq, defBody s_Forest_eq, defScope s_Forest_eq, [], []⟩
def d_Group_init : He5.DefA := ⟨fun K => He.ma K (He.ga K "Group") "__init__", "__init__", "Group.__init__", defArgs s_Group_init, defBody s_Group_init, defScope s_Group_init, [], []⟩
def d_Threads_init : He5.DefA := ⟨fun K => He.ma K (He.ga K "Threads") "__init__", "__init__", "Threads.__init__", defArgs s_Threads_init, defBody s_Threads_init, defScope s_Threads_init, [], []⟩
def d_Threads_of : He5.DefA := ⟨fun K => He5.wf K (He.ga K "Threads") "classmethod" "of", "of", "Threads.of", defArgs s_Threads_of, defBody s_Threads_of, defScope s_Threads_of, [], []⟩
def d_Threads_put : He5.DefA := ⟨fun K => He.ma K (He.ga K "Threads") "put", "put", "Threads.put", defArgs s_Threads_put, defBody s_Threads_put, defScope s_Threads_put, [], []⟩
def d_Threads_has_come : He5.DefA := ⟨fun K => He.ma K (He.ga K "Threads") "has_come", "has_come", "Threads.has_come", defArgs s_Threads_has_come, defBody s_Threads_has_come, defScope s_Threads_has_come, [], []⟩
def d_Threads_group_of : He5.DefA := ⟨fun K => He.ma K (He.ga K "Threads") "group_of", "group_of", "Threads.group_of", defArgs s_Threads_group_of, defBody s_Threads_group_of, defScope s_Threads_group_of, [], []⟩
def d_Threads_merged : He5.DefA := ⟨fun K => He.ma K (He.ga K "Threads") "merged", "merged", "Threads.merged", defArgs s_Threads_merged, defBody s_Threads_merged, defScope s_Threads_merged, [], []⟩
def d_Threads_joined : He5.DefA := ⟨fun K => He.ma K (He.ga K "Threads") "joined", "joined", "Threads.joined", defArgs s_Threads_joined, defBody s_Threads_joined, defScope s_Threads_joined, [], []⟩
def d_Threads_name_of : He5.DefA := ⟨fun K => He.ma K (He.ga K "Threads") "name_of", "name_of", "Threads.name_of", defArgs s_Threads_name_of, defBody s_Threads_name_of, defScope s_Threads_name_of, [], []⟩
def d_Threads_members : He5.DefA := ⟨fun K => He.ma K (He.ga K "Threads") "members", "members", "Threads.members", defArgs s_Threads_members, defBody s_Threads_members, defScope s_Threads_members, [], []⟩
def d_Threads_names : He5.DefA := ⟨fun K => He.ma K (He.ga K "Threads") "names", "names", "Threads.names", defArgs s_Threads_names, defBody s_Threads_names, defScope s_Threads_names, [], []⟩
def d_Threads_letter_at : He5.DefA := ⟨fun K => He.ma K (He.ga K "Threads") "letter_at", "letter_at", "Threads.letter_at", defArgs s_Threads_letter_at, defBody s_Threads_letter_at, defScope s_Threads_letter_at, [], []⟩
def d_Threads_contains : He5.DefA := ⟨fun K => He.ma K (He.ga K "Threads") "__contains__", "__contains__", "Threads.__contains__", defArgs s_Threads_contains, defBody s_Threads_contains, defScope s_Threads_contains, [], []⟩
def d_Threads_eq : He5.DefA := ⟨fun K => He.ma K (He.ga K "Threads") "__eq__", "__eq__", "Threads.__eq__", defArgs s_Threads_eq, defBody s_Threads_eq, defScope s_Threads_eq, [], []⟩
def d_Join_init : He5.DefA := ⟨fun K => He.ma K (He.ga K "Join") "__init__", "__init__", "Join.__init__", defArgs s_Join_init, defBody s_Join_init, defScope s_Join_init, [], []⟩
def d_join_of : He5.DefA := ⟨fun K => He.ga K "join_of", "join_of", "join_of", defArgs s_join_of, defBody s_join_of, defScope s_join_of, [], []⟩
def d_each_join : He5.DefA := ⟨fun K => He.ga K "each_join", "each_join", "each_join", defArgs s_each_join, defBody s_each_join, defScope s_each_join, [], []⟩
def d_linked_numbers : He5.DefA := ⟨fun K => He.ga K "linked_numbers", "linked_numbers", "linked_numbers", defArgs s_linked_numbers, defBody s_linked_numbers, defScope s_linked_numbers, [], []⟩
def d_steps_to : He5.DefA := ⟨fun K => He.ga K "steps_to", "steps_to", "steps_to", defArgs s_steps_to, defBody s_steps_to, defScope s_steps_to, [], []⟩
def d_chain : He5.DefA := ⟨fun K => He.ga K "chain", "chain", "chain", defArgs s_chain, defBody s_chain, defScope s_chain, [], []⟩
def d_L_bag : He5.DefA := ⟨fun K => He.ga K "_law_bag", "_law_bag", "_law_bag", defArgs s_L_bag, defBody s_L_bag, defScope s_L_bag, [], []⟩
def d_L_take : He5.DefA := ⟨fun K => He.ga K "_law_take", "_law_take", "_law_take", defArgs s_L_take, defBody s_L_take, defScope s_L_take, [], []⟩
def d_L_name : He5.DefA := ⟨fun K => He.ga K "_law_name", "_law_name", "_law_name", defArgs s_L_name, defBody s_L_name, defScope s_L_name, [], []⟩
def d_L_pool : He5.DefA := ⟨fun K => He.ga K "_law_pool", "_law_pool", "_law_pool", defArgs s_L_pool, defBody s_L_pool, defScope s_L_pool, [], []⟩
def d_L_rows : He5.DefA := ⟨fun K => He.ga K "_law_rows", "_law_rows", "_law_rows", defArgs s_L_rows, defBody s_L_rows, defScope s_L_rows, [], []⟩
def d_L_letters : He5.DefA := ⟨fun K => He.ga K "_law_letters", "_law_letters", "_law_letters", defArgs s_L_letters, defBody s_L_letters, defScope s_L_letters, [], []⟩
def d_L_drawn_right : He5.DefA := ⟨fun K => He.ga K "_law_drawn_right", "_law_drawn_right", "_law_drawn_right", defArgs s_L_drawn_right, defBody s_L_drawn_right, defScope s_L_drawn_right, [], []⟩
def d_L_chains_right : He5.DefA := ⟨fun K => He.ga K "_law_chains_right", "_law_chains_right", "_law_chains_right", defArgs s_L_chains_right, defBody s_L_chains_right, defScope s_L_chains_right, [], []⟩
def d_law : He5.DefA := ⟨fun K => He.ga K "law", "law", "law", defArgs s_law, defBody s_law, defScope s_law, [], []⟩
def fn : List He5.DefA := [d_is_name, d_is_number, d_is_numeral, d_are_names, d_Letter_init, d_Letter_written, d_Letter_eq, d_fits_answers, d_wrapped, d_body_rows, d_HeadRows_init, d_HeadRows_take, d_HeadRows_told_items, d_HeadRows_begin, d_HeadRows_made_letter, d_read_part, d_read_letters, d_written_letters, d_Forest_init, d_Forest_of, d_Forest_put, d_Forest_closed_ring, d_Forest_cut, d_Forest_path, d_Forest_root, d_Forest_children, d_Forest_roots, d_Forest_walk_trees, d_Forest_summary, d_Forest_drawn, d_Forest_len, d_Forest_eq, d_Group_init, d_Threads_init, d_Threads_of, d_Threads_put, d_Threads_has_come, d_Threads_group_of, d_Threads_merged, d_Threads_joined, d_Threads_name_of, d_Threads_members, d_Threads_names, d_Threads_letter_at, d_Threads_contains, d_Threads_eq, d_Join_init, d_join_of, d_each_join, d_linked_numbers, d_steps_to, d_chain, d_L_bag, d_L_take, d_L_name, d_L_pool, d_L_rows, d_L_letters, d_L_drawn_right, d_L_chains_right, d_law]
open He in
def fa : List He.Fa := [.glo "is_name",
  .glo "is_number",
  .glo "is_numeral",
  .glo "are_names",
  .glo "fits_answers",
  .glo "wrapped",
  .glo "body_rows",
  .glo "read_part",
  .glo "read_letters",
  .glo "written_letters",
  .glo "join_of",
  .glo "each_join",
  .glo "linked_numbers",
  .glo "steps_to",
  .glo "chain",
  .glo "_law_bag",
  .glo "_law_take",
  .glo "_law_name",
  .glo "_law_pool",
  .glo "_law_rows",
  .glo "_law_letters",
  .glo "_law_drawn_right",
  .glo "_law_chains_right",
  .glo "law",
  .glo "Letter",
  .cls "Letter",
  .mkr "Letter",
  .keep "Letter",
  .glo "HeadRows",
  .cls "HeadRows",
  .mkr "HeadRows",
  .keep "HeadRows",
  .glo "Forest",
  .cls "Forest",
  .mkr "Forest",
  .keep "Forest",
  .glo "Group",
  .cls "Group",
  .mkr "Group",
  .keep "Group",
  .glo "Threads",
  .cls "Threads",
  .mkr "Threads",
  .keep "Threads",
  .glo "Join",
  .cls "Join",
  .mkr "Join",
  .keep "Join",
  .glo "FIELDS",
  .free "isinstance",
  .free "len",
  .free "all",
  .free "int",
  .free "bool",
  .free "str",
  .free "list",
  .free "tuple",
  .free "range",
  .free "enumerate",
  .free "sorted",
  .free "set",
  .free "min",
  .free "max",
  .free "reversed",
  .free "zip",
  .free "repr",
  .free "abs",
  .int "MOST_SIGNS" 8,
  .int "MOST_FIGURES" 31,
  .int "MOST_NUMBER" 1000000000000000000000000000000,
  .int "ANSWERS_IN_ROW" 3,
  .int "SUBJECT_IN_ROW" 4,
  .int "WORDS_IN_ROW" 8,
  .str "SIGNS" "abcdefghijklmnopqrstuvwxyz",
  .str "FIGURES" "0123456789",
  .str "BETWEEN" "===",
  .noat "Letter" "number",
  .noat "Letter" "person",
  .noat "Letter" "house",
  .noat "Letter" "sender",
  .noat "Letter" "answers",
  .noat "Letter" "subject",
  .noat "Letter" "words",
  .noat "Letter" "text",
  .noat "HeadRows" "missing",
  .noat "HeadRows" "begins",
  .noat "HeadRows" "told",
  .noat "HeadRows" "current",
  .noat "Forest" "letters",
  .noat "Forest" "above",
  .noat "Forest" "below",
  .noat "Forest" "rings",
  .noat "Group" "known",
  .noat "Group" "lowest",
  .noat "Threads" "letters",
  .noat "Threads" "order",
  .noat "Threads" "groups",
  .noat "Join" "number",
  .noat "Join" "is_new",
  .noat "Join" "met",
  .noat "Join" "now",
  .noat "Join" "gone",
  .noat "Join" "gained",
  .meth "Letter" "written",
  .meth "Letter" "__eq__",
  .meth "HeadRows" "take",
  .meth "HeadRows" "told_items",
  .meth "HeadRows" "begin",
  .meth "HeadRows" "made_letter",
  .meth "Forest" "put",
  .meth "Forest" "closed_ring",
  .meth "Forest" "cut",
  .meth "Forest" "path",
  .meth "Forest" "root",
  .meth "Forest" "children",
  .meth "Forest" "roots",
  .meth "Forest" "walk_trees",
  .meth "Forest" "summary",
  .meth "Forest" "drawn",
  .meth "Forest" "__len__",
  .meth "Forest" "__eq__",
  .meth "Threads" "put",
  .meth "Threads" "has_come",
  .meth "Threads" "group_of",
  .meth "Threads" "merged",
  .meth "Threads" "joined",
  .meth "Threads" "name_of",
  .meth "Threads" "members",
  .meth "Threads" "names",
  .meth "Threads" "letter_at",
  .meth "Threads" "__contains__",
  .meth "Threads" "__eq__"]
def cvB (K : PySem.W.Frag) (C f : PySem.Str) (v : He.Dv) : Bool := match PySem.W.findCls K (.ref (He.ga K C)) (.type "type") f with
  | some (.val u) => He.relB (v.v K) u
  | _ => false
theorem cvB_ok {K : PySem.W.Frag} {C f : PySem.Str} {v : He.Dv} (h : cvB K C f v = true) : ∃ u, ClX.CVal K (He.ga K C) (.type "type") f (v.v K) u := by
  unfold cvB at h
  split at h
  · rename_i u e
    exact ⟨u, e, He.relB_ok h⟩
  · cases h
theorem cread_ok {K : PySem.W.Frag} {C : Addr} (h0 : PySem.W.readsIn K C (.type "type") = true) : ClX.CRead K C (.type "type") := by
  refine ⟨h0, ?_⟩
  have h := h0
  simp only [PySem.W.readsIn, Bool.and_eq_true, beq_iff_eq] at h
  obtain ⟨⟨⟨⟨_, b⟩, c⟩, _⟩, _⟩ := h
  unfold PySem.W.specialIn
  rw [b, Option.bind_some]
  exact c
def insB (K : PySem.W.Frag) (C : PySem.Str) : Bool := He.eqO (PySem.W.findIn K (.ref (He.ga K C)) "__class__") (some (some (.builtin "object.__class__"))) && (He.eqO (PySem.W.specialIn K (.builtin "object.__class__") "__get__") (some (some (.builtin "getset_descriptor.__get__"))) &&
  (decide (PySem.W.takesIn K (.builtin "object.__class__") = some true) && (decide (PySem.W.mroIn K (He.ga K C) (.type "object") = some true) && decide (PySem.W.kitOne K (.ref (He.ga K C)) (.ref (He.ga K C)) = some true))))
structure InsF (K : PySem.W.Frag) (C : Addr) : Prop where
  ha : PySem.W.findIn K (.ref C) "__class__" = some (some (.builtin "object.__class__"))
  hn : PySem.W.specialIn K (.builtin "object.__class__") "__get__" = some (some (.builtin "getset_descriptor.__get__"))
  tk : PySem.W.takesIn K (.builtin "object.__class__") = some true
  ho : PySem.W.mroIn K C (.type "object") = some true
  me : PySem.W.kitOne K (.ref C) (.ref C) = some true
theorem insB_ok {K : PySem.W.Frag} {C : PySem.Str} (h : insB K C = true) : InsF K (He.ga K C) := by
  obtain ⟨h1, h⟩ := He.ba h
  obtain ⟨h2, h⟩ := He.ba h
  obtain ⟨h3, h⟩ := He.ba h
  obtain ⟨h4, h5⟩ := He.ba h
  exact ⟨He.eqO_ok h1, He.eqO_ok h2, of_decide_eq_true h3, of_decide_eq_true h4, of_decide_eq_true h5⟩
def ex : List (PySem.W.Frag → Bool) := [fun K => He.tupB K "FIELDS" [.str "number", .str "from", .str "answers", .str "subject"],
  fun K => PySem.W.readsIn K (He.ga K "Letter") (.type "type"),
  fun K => cvB K "Letter" "MOST_ANSWERS" (.int 8),
  fun K => cvB K "Letter" "MOST_SUBJECT" (.int 8),
  fun K => cvB K "Letter" "MOST_WORDS" (.int 40),
  fun K => He5.wrapB K (He.ga K "Forest") "classmethod" "classmethod.__get__" "of",
  fun K => He5.wrapB K (He.ga K "Threads") "classmethod" "classmethod.__get__" "of",
  fun K => PySem.W.readsIn K (He.ga K "Forest") (.type "type"),
  fun K => PySem.W.readsIn K (He.ga K "Threads") (.type "type"),
  fun K => PySem.W.fnIn K (He5.wf K (He.ga K "Forest") "classmethod" "of"),
  fun K => PySem.W.fnIn K (He5.wf K (He.ga K "Threads") "classmethod" "of"),
  fun K => insB K "Letter",
  fun K => insB K "Forest",
  fun K => insB K "Threads"]
/-! ### the Hook -/
def obsM (K : PySem.W.Frag) : He.AlD := ((fa.all fun f => f.ok K) && ((fn.all fun d => d.ok K) && ex.all fun e => e K), fn.map fun d => He5.fnA K (d.at_ K))
def SaysM (K : PySem.W.Frag) : Prop := obsM K = He5.valA fn
def obsG (g : Addr → Option Obj) : He.AlD := obsM (He.frG g (He5.asA g 6))
def hk : PySem.W.Hook where
  α := He.AlD
  obs := fun s => obsG s.heap.get?
  val := fun _ => He5.valA fn
  says := fun _ h => ∃ K : PySem.W.Frag, K.In h ∧ SaysM K
  of := fun _ _ e => ⟨_, He.frG_in, e⟩
  keeps := fun _ _ _ ⟨K, hK, c⟩ k => ⟨K, PySem.W.Frag.In.keeps hK k, c⟩
def ob (s : PySem.W.SharedT) : He.AlD := obsG (HandSHeadRun.getT s)
theorem ob_eq (s : PySem.W.SharedT) : ob s = hk.obs s.abs := by
  have e : HandSHeadRun.getT s = s.abs.heap.get? := funext (HandSHeadRun.getT_eq s)
  show obsG (HandSHeadRun.getT s) = obsG s.abs.heap.get?
  rw [e]
abbrev R : PySem.W.OpenRow := PySem.W.OpenLaw.row PySem.Challenge.rw_filedalike_k75_letters_read_in_any_order
def names0 : List PySem.Str := ["_wall", "MailError", "Clash", "SIGNS", "FIGURES", "MOST_SIGNS", "MOST_NUMBER", "MOST_FIGURES", "is_name", "is_number", "is_numeral", "are_names", "ANSWERS_IN_ROW", "SUBJECT_IN_ROW", "WORDS_IN_ROW", "BadLetter", "Letter", "fits_answers", "wrapped", "body_rows", "FIELDS", "BETWEEN", "BadRow", "HeadRows", "read_part", "read_letters", "written_letters", "Forest", "Group", "Threads"]
def names1 : List PySem.Str := ["Join", "join_of", "each_join", "linked_numbers", "steps_to", "chain", "_law_bag", "_law_take", "_law_name", "_law_pool", "_law_rows", "_law_letters", "_law_drawn_right", "_law_chains_right"]
def names : List PySem.Str := names0 ++ names1
theorem run (w : World) : HandSHeadRun.RunEq R (PySem.W.view R.prog [52]) hk ob 20000 names w := by
  intro os
  kernel_rfl
end K75
end T_Hd

section T_Facts
set_option Elab.async false
set_option linter.all false
set_option maxRecDepth 100000
set_option maxHeartbeats 0
namespace K75
open PySem L2
structure Wd (K : PySem.W.Frag) (mg : PySem.Str → Option Value) : Prop where
  c : SaysM K
  h : ∃ h : Heap, K.In h ∧ h.Ns mainGlobals mg
section
variable {K : PySem.W.Frag} {mg : PySem.Str → Option Value}
theorem SaysM.one (c : SaysM K) : ((fa.all fun f => f.ok K) && ((fn.all fun d => d.ok K) && ex.all fun e => e K)) = true := congrArg (fun z : He.AlD => z.1) c
theorem SaysM.fact (c : SaysM K) (i : Nat) {f : He.Fa} (h : fa[i]? = some f := by rfl) : f.ok K = true := List.all_eq_true.mp (He.ba c.one).1 f (List.mem_of_getElem? h)
theorem SaysM.ext (c : SaysM K) (i : Nat) {e : PySem.W.Frag → Bool} (h : ex[i]? = some e := by rfl) : e K = true := List.all_eq_true.mp (He.ba (He.ba c.one).2).2 e (List.mem_of_getElem? h)
theorem SaysM.def_ (c : SaysM K) (i : Nat) {d : He5.DefA} (h : fn[i]? = some d := by rfl) : ∃ fd, L2.FunD K d.name d.qual d.params d.body d.scope (d.dvs K) (d.kws K) (d.at_ K) fd := by
  have e : fn.map (fun d => He5.fnA K (d.at_ K)) = fn.map He5.DefA.val := congrArg (fun z : He.AlD => z.2) c
  have e2 : (fn.map fun d => He5.fnA K (d.at_ K))[i]? = (fn.map He5.DefA.val)[i]? := by rw [e]
  rw [List.getElem?_map, List.getElem?_map, h] at e2
  exact He5.DefA.funD (Option.some.inj e2) (List.all_eq_true.mp (He.ba (He.ba c.one).2).1 d (List.mem_of_getElem? h))
variable (W : Wd K mg)
include W
theorem Wd.g_is_name : mg "is_name" = some (.ref (He.ga K "is_name")) := by obtain ⟨h, X, G⟩ := W.h; exact He.glo_ok X G (W.c.fact 0)
theorem Wd.g_is_number : mg "is_number" = some (.ref (He.ga K "is_number")) := by obtain ⟨h, X, G⟩ := W.h; exact He.glo_ok X G (W.c.fact 1)
theorem Wd.g_is_numeral : mg "is_numeral" = some (.ref (He.ga K "is_numeral")) := by obtain ⟨h, X, G⟩ := W.h; exact He.glo_ok X G (W.c.fact 2)
theorem Wd.g_are_names : mg "are_names" = some (.ref (He.ga K "are_names")) := by obtain ⟨h, X, G⟩ := W.h; exact He.glo_ok X G (W.c.fact 3)
theorem Wd.g_fits_answers : mg "fits_answers" = some (.ref (He.ga K "fits_answers")) := by obtain ⟨h, X, G⟩ := W.h; exact He.glo_ok X G (W.c.fact 4)
theorem Wd.g_wrapped : mg "wrapped" = some (.ref (He.ga K "wrapped")) := by obtain ⟨h, X, G⟩ := W.h; exact He.glo_ok X G (W.c.fact 5)
theorem Wd.g_body_rows : mg "body_rows" = some (.ref (He.ga K "body_rows")) := by obtain ⟨h, X, G⟩ := W.h; exact He.glo_ok X G (W.c.fact 6)
theorem Wd.g_read_part : mg "read_part" = some (.ref (He.ga K "read_part")) := by obtain ⟨h, X, G⟩ := W.h; exact He.glo_ok X G (W.c.fact 7)
theorem Wd.g_read_letters : mg "read_letters" = some (.ref (He.ga K "read_letters")) := by obtain ⟨h, X, G⟩ := W.h; exact He.glo_ok X G (W.c.fact 8)
theorem Wd.g_written_letters : mg "written_letters" = some (.ref (He.ga K "written_letters")) := by obtain ⟨h, X, G⟩ := W.h; exact He.glo_ok X G (W.c.fact 9)
theorem Wd.g_join_of : mg "join_of" = some (.ref (He.ga K "join_of")) := by obtain ⟨h, X, G⟩ := W.h; exact He.glo_ok X G (W.c.fact 10)
theorem Wd.g_each_join : mg "each_join" = some (.ref (He.ga K "each_join")) := by obtain ⟨h, X, G⟩ := W.h; exact He.glo_ok X G (W.c.fact 11)
theorem Wd.g_linked_numbers : mg "linked_numbers" = some (.ref (He.ga K "linked_numbers")) := by obtain ⟨h, X, G⟩ := W.h; exact He.glo_ok X G (W.c.fact 12)
theorem Wd.g_steps_to : mg "steps_to" = some (.ref (He.ga K "steps_to")) := by obtain ⟨h, X, G⟩ := W.h; exact He.glo_ok X G (W.c.fact 13)
theorem Wd.g_chain : mg "chain" = some (.ref (He.ga K "chain")) := by obtain ⟨h, X, G⟩ := W.h; exact He.glo_ok X G (W.c.fact 14)
theorem Wd.g_L_bag : mg "_law_bag" = some (.ref (He.ga K "_law_bag")) := by obtain ⟨h, X, G⟩ := W.h; exact He.glo_ok X G (W.c.fact 15)
theorem Wd.g_L_take : mg "_law_take" = some (.ref (He.ga K "_law_take")) := by obtain ⟨h, X, G⟩ := W.h; exact He.glo_ok X G (W.c.fact 16)
theorem Wd.g_L_name : mg "_law_name" = some (.ref (He.ga K "_law_name")) := by obtain ⟨h, X, G⟩ := W.h; exact He.glo_ok X G (W.c.fact 17)
theorem Wd.g_L_pool : mg "_law_pool" = some (.ref (He.ga K "_law_pool")) := by obtain ⟨h, X, G⟩ := W.h; exact He.glo_ok X G (W.c.fact 18)
theorem Wd.g_L_rows : mg "_law_rows" = some (.ref (He.ga K "_law_rows")) := by obtain ⟨h, X, G⟩ := W.h; exact He.glo_ok X G (W.c.fact 19)
theorem Wd.g_L_letters : mg "_law_letters" = some (.ref (He.ga K "_law_letters")) := by obtain ⟨h, X, G⟩ := W.h; exact He.glo_ok X G (W.c.fact 20)
theorem Wd.g_L_drawn_right : mg "_law_drawn_right" = some (.ref (He.ga K "_law_drawn_right")) := by obtain ⟨h, X, G⟩ := W.h; exact He.glo_ok X G (W.c.fact 21)
theorem Wd.g_L_chains_right : mg "_law_chains_right" = some (.ref (He.ga K "_law_chains_right")) := by obtain ⟨h, X, G⟩ := W.h; exact He.glo_ok X G (W.c.fact 22)
theorem Wd.g_law : mg "law" = some (.ref (He.ga K "law")) := by obtain ⟨h, X, G⟩ := W.h; exact He.glo_ok X G (W.c.fact 23)
theorem Wd.g_Letter : mg "Letter" = some (.ref (He.ga K "Letter")) := by obtain ⟨h, X, G⟩ := W.h; exact He.glo_ok X G (W.c.fact 24)
theorem Wd.c_Letter : Cls K (He.ga K "Letter") := He.cls_ok (W.c.fact 25)
theorem Wd.k_Letter : Mk K (He.ga K "Letter") (He.ma K (He.ga K "Letter") "__init__") := He.mkr_ok (W.c.fact 26)
theorem Wd.p_Letter : PySem.W.keepIn K (.ref (He.ga K "Letter")) = true := He.keep_ok (W.c.fact 27)
theorem Wd.g_HeadRows : mg "HeadRows" = some (.ref (He.ga K "HeadRows")) := by obtain ⟨h, X, G⟩ := W.h; exact He.glo_ok X G (W.c.fact 28)
theorem Wd.c_HeadRows : Cls K (He.ga K "HeadRows") := He.cls_ok (W.c.fact 29)
theorem Wd.k_HeadRows : Mk K (He.ga K "HeadRows") (He.ma K (He.ga K "HeadRows") "__init__") := He.mkr_ok (W.c.fact 30)
theorem Wd.p_HeadRows : PySem.W.keepIn K (.ref (He.ga K "HeadRows")) = true := He.keep_ok (W.c.fact 31)
theorem Wd.g_Forest : mg "Forest" = some (.ref (He.ga K "Forest")) := by obtain ⟨h, X, G⟩ := W.h; exact He.glo_ok X G (W.c.fact 32)
theorem Wd.c_Forest : Cls K (He.ga K "Forest") := He.cls_ok (W.c.fact 33)
theorem Wd.k_Forest : Mk K (He.ga K "Forest") (He.ma K (He.ga K "Forest") "__init__") := He.mkr_ok (W.c.fact 34)
theorem Wd.p_Forest : PySem.W.keepIn K (.ref (He.ga K "Forest")) = true := He.keep_ok (W.c.fact 35)
theorem Wd.g_Group : mg "Group" = some (.ref (He.ga K "Group")) := by obtain ⟨h, X, G⟩ := W.h; exact He.glo_ok X G (W.c.fact 36)
theorem Wd.c_Group : Cls K (He.ga K "Group") := He.cls_ok (W.c.fact 37)
theorem Wd.k_Group : Mk K (He.ga K "Group") (He.ma K (He.ga K "Group") "__init__") := He.mkr_ok (W.c.fact 38)
theorem Wd.p_Group : PySem.W.keepIn K (.ref (He.ga K "Group")) = true := He.keep_ok (W.c.fact 39)
theorem Wd.g_Threads : mg "Threads" = some (.ref (He.ga K "Threads")) := by obtain ⟨h, X, G⟩ := W.h; exact He.glo_ok X G (W.c.fact 40)
theorem Wd.c_Threads : Cls K (He.ga K "Threads") := He.cls_ok (W.c.fact 41)
theorem Wd.k_Threads : Mk K (He.ga K "Threads") (He.ma K (He.ga K "Threads") "__init__") := He.mkr_ok (W.c.fact 42)
theorem Wd.p_Threads : PySem.W.keepIn K (.ref (He.ga K "Threads")) = true := He.keep_ok (W.c.fact 43)
theorem Wd.g_Join : mg "Join" = some (.ref (He.ga K "Join")) := by obtain ⟨h, X, G⟩ := W.h; exact He.glo_ok X G (W.c.fact 44)
theorem Wd.c_Join : Cls K (He.ga K "Join") := He.cls_ok (W.c.fact 45)
theorem Wd.k_Join : Mk K (He.ga K "Join") (He.ma K (He.ga K "Join") "__init__") := He.mkr_ok (W.c.fact 46)
theorem Wd.p_Join : PySem.W.keepIn K (.ref (He.ga K "Join")) = true := He.keep_ok (W.c.fact 47)
theorem Wd.g_FIELDS : mg "FIELDS" = some (.ref (He.ga K "FIELDS")) := by obtain ⟨h, X, G⟩ := W.h; exact He.glo_ok X G (W.c.fact 48)
theorem Wd.f_isinstance : mg "isinstance" = none := by obtain ⟨h, X, G⟩ := W.h; exact He.free_ok X G (W.c.fact 49)
theorem Wd.f_len : mg "len" = none := by obtain ⟨h, X, G⟩ := W.h; exact He.free_ok X G (W.c.fact 50)
theorem Wd.f_all : mg "all" = none := by obtain ⟨h, X, G⟩ := W.h; exact He.free_ok X G (W.c.fact 51)
theorem Wd.f_int : mg "int" = none := by obtain ⟨h, X, G⟩ := W.h; exact He.free_ok X G (W.c.fact 52)
theorem Wd.f_bool : mg "bool" = none := by obtain ⟨h, X, G⟩ := W.h; exact He.free_ok X G (W.c.fact 53)
theorem Wd.f_str : mg "str" = none := by obtain ⟨h, X, G⟩ := W.h; exact He.free_ok X G (W.c.fact 54)
theorem Wd.f_list : mg "list" = none := by obtain ⟨h, X, G⟩ := W.h; exact He.free_ok X G (W.c.fact 55)
theorem Wd.f_tuple : mg "tuple" = none := by obtain ⟨h, X, G⟩ := W.h; exact He.free_ok X G (W.c.fact 56)
theorem Wd.f_range : mg "range" = none := by obtain ⟨h, X, G⟩ := W.h; exact He.free_ok X G (W.c.fact 57)
theorem Wd.f_enumerate : mg "enumerate" = none := by obtain ⟨h, X, G⟩ := W.h; exact He.free_ok X G (W.c.fact 58)
theorem Wd.f_sorted : mg "sorted" = none := by obtain ⟨h, X, G⟩ := W.h; exact He.free_ok X G (W.c.fact 59)
theorem Wd.f_set : mg "set" = none := by obtain ⟨h, X, G⟩ := W.h; exact He.free_ok X G (W.c.fact 60)
theorem Wd.f_min : mg "min" = none := by obtain ⟨h, X, G⟩ := W.h; exact He.free_ok X G (W.c.fact 61)
theorem Wd.f_max : mg "max" = none := by obtain ⟨h, X, G⟩ := W.h; exact He.free_ok X G (W.c.fact 62)
theorem Wd.f_reversed : mg "reversed" = none := by obtain ⟨h, X, G⟩ := W.h; exact He.free_ok X G (W.c.fact 63)
theorem Wd.f_zip : mg "zip" = none := by obtain ⟨h, X, G⟩ := W.h; exact He.free_ok X G (W.c.fact 64)
theorem Wd.f_repr : mg "repr" = none := by obtain ⟨h, X, G⟩ := W.h; exact He.free_ok X G (W.c.fact 65)
theorem Wd.f_abs : mg "abs" = none := by obtain ⟨h, X, G⟩ := W.h; exact He.free_ok X G (W.c.fact 66)
theorem Wd.i_MOST_SIGNS : ∃ t, mg "MOST_SIGNS" = some (.int 8 t) := by obtain ⟨h, X, G⟩ := W.h; exact He.int_ok X G (W.c.fact 67)
theorem Wd.i_MOST_FIGURES : ∃ t, mg "MOST_FIGURES" = some (.int 31 t) := by obtain ⟨h, X, G⟩ := W.h; exact He.int_ok X G (W.c.fact 68)
theorem Wd.i_MOST_NUMBER : ∃ t, mg "MOST_NUMBER" = some (.int 1000000000000000000000000000000 t) := by obtain ⟨h, X, G⟩ := W.h; exact He.int_ok X G (W.c.fact 69)
theorem Wd.i_ANSWERS_IN_ROW : ∃ t, mg "ANSWERS_IN_ROW" = some (.int 3 t) := by obtain ⟨h, X, G⟩ := W.h; exact He.int_ok X G (W.c.fact 70)
theorem Wd.i_SUBJECT_IN_ROW : ∃ t, mg "SUBJECT_IN_ROW" = some (.int 4 t) := by obtain ⟨h, X, G⟩ := W.h; exact He.int_ok X G (W.c.fact 71)
theorem Wd.i_WORDS_IN_ROW : ∃ t, mg "WORDS_IN_ROW" = some (.int 8 t) := by obtain ⟨h, X, G⟩ := W.h; exact He.int_ok X G (W.c.fact 72)
theorem Wd.s_SIGNS : ∃ t, mg "SIGNS" = some (.str "abcdefghijklmnopqrstuvwxyz" t) := by obtain ⟨h, X, G⟩ := W.h; exact He.str_ok X G (W.c.fact 73)
theorem Wd.s_FIGURES : ∃ t, mg "FIGURES" = some (.str "0123456789" t) := by obtain ⟨h, X, G⟩ := W.h; exact He.str_ok X G (W.c.fact 74)
theorem Wd.s_BETWEEN : ∃ t, mg "BETWEEN" = some (.str "===" t) := by obtain ⟨h, X, G⟩ := W.h; exact He.str_ok X G (W.c.fact 75)
theorem Wd.n_Letter_number : NoAttr K (He.ga K "Letter") "number" := He.noat_ok (W.c.fact 76)
theorem Wd.n_Letter_person : NoAttr K (He.ga K "Letter") "person" := He.noat_ok (W.c.fact 77)
theorem Wd.n_Letter_house : NoAttr K (He.ga K "Letter") "house" := He.noat_ok (W.c.fact 78)
theorem Wd.n_Letter_sender : NoAttr K (He.ga K "Letter") "sender" := He.noat_ok (W.c.fact 79)
theorem Wd.n_Letter_answers : NoAttr K (He.ga K "Letter") "answers" := He.noat_ok (W.c.fact 80)
theorem Wd.n_Letter_subject : NoAttr K (He.ga K "Letter") "subject" := He.noat_ok (W.c.fact 81)
theorem Wd.n_Letter_words : NoAttr K (He.ga K "Letter") "words" := He.noat_ok (W.c.fact 82)
theorem Wd.n_Letter_text : NoAttr K (He.ga K "Letter") "text" := He.noat_ok (W.c.fact 83)
theorem Wd.n_HeadRows_missing : NoAttr K (He.ga K "HeadRows") "missing" := He.noat_ok (W.c.fact 84)
theorem Wd.n_HeadRows_begins : NoAttr K (He.ga K "HeadRows") "begins" := He.noat_ok (W.c.fact 85)
theorem Wd.n_HeadRows_told : NoAttr K (He.ga K "HeadRows") "told" := He.noat_ok (W.c.fact 86)
theorem Wd.n_HeadRows_current : NoAttr K (He.ga K "HeadRows") "current" := He.noat_ok (W.c.fact 87)
theorem Wd.n_Forest_letters : NoAttr K (He.ga K "Forest") "letters" := He.noat_ok (W.c.fact 88)
theorem Wd.n_Forest_above : NoAttr K (He.ga K "Forest") "above" := He.noat_ok (W.c.fact 89)
theorem Wd.n_Forest_below : NoAttr K (He.ga K "Forest") "below" := He.noat_ok (W.c.fact 90)
theorem Wd.n_Forest_rings : NoAttr K (He.ga K "Forest") "rings" := He.noat_ok (W.c.fact 91)
theorem Wd.n_Group_known : NoAttr K (He.ga K "Group") "known" := He.noat_ok (W.c.fact 92)
theorem Wd.n_Group_lowest : NoAttr K (He.ga K "Group") "lowest" := He.noat_ok (W.c.fact 93)
theorem Wd.n_Threads_letters : NoAttr K (He.ga K "Threads") "letters" := He.noat_ok (W.c.fact 94)
theorem Wd.n_Threads_order : NoAttr K (He.ga K "Threads") "order" := He.noat_ok (W.c.fact 95)
theorem Wd.n_Threads_groups : NoAttr K (He.ga K "Threads") "groups" := He.noat_ok (W.c.fact 96)
theorem Wd.n_Join_number : NoAttr K (He.ga K "Join") "number" := He.noat_ok (W.c.fact 97)
theorem Wd.n_Join_is_new : NoAttr K (He.ga K "Join") "is_new" := He.noat_ok (W.c.fact 98)
theorem Wd.n_Join_met : NoAttr K (He.ga K "Join") "met" := He.noat_ok (W.c.fact 99)
theorem Wd.n_Join_now : NoAttr K (He.ga K "Join") "now" := He.noat_ok (W.c.fact 100)
theorem Wd.n_Join_gone : NoAttr K (He.ga K "Join") "gone" := He.noat_ok (W.c.fact 101)
theorem Wd.n_Join_gained : NoAttr K (He.ga K "Join") "gained" := He.noat_ok (W.c.fact 102)
theorem Wd.m_Letter_written : Meth K (He.ga K "Letter") "written" (He.ma K (He.ga K "Letter") "written") := He.meth_ok (W.c.fact 103)
theorem Wd.m_Letter_eq : Meth K (He.ga K "Letter") "__eq__" (He.ma K (He.ga K "Letter") "__eq__") := He.meth_ok (W.c.fact 104)
theorem Wd.m_HeadRows_take : Meth K (He.ga K "HeadRows") "take" (He.ma K (He.ga K "HeadRows") "take") := He.meth_ok (W.c.fact 105)
theorem Wd.m_HeadRows_told_items : Meth K (He.ga K "HeadRows") "told_items" (He.ma K (He.ga K "HeadRows") "told_items") := He.meth_ok (W.c.fact 106)
theorem Wd.m_HeadRows_begin : Meth K (He.ga K "HeadRows") "begin" (He.ma K (He.ga K "HeadRows") "begin") := He.meth_ok (W.c.fact 107)
theorem Wd.m_HeadRows_made_letter : Meth K (He.ga K "HeadRows") "made_letter" (He.ma K (He.ga K "HeadRows") "made_letter") := He.meth_ok (W.c.fact 108)
theorem Wd.m_Forest_put : Meth K (He.ga K "Forest") "put" (He.ma K (He.ga K "Forest") "put") := He.meth_ok (W.c.fact 109)
theorem Wd.m_Forest_closed_ring : Meth K (He.ga K "Forest") "closed_ring" (He.ma K (He.ga K "Forest") "closed_ring") := He.meth_ok (W.c.fact 110)
theorem Wd.m_Forest_cut : Meth K (He.ga K "Forest") "cut" (He.ma K (He.ga K "Forest") "cut") := He.meth_ok (W.c.fact 111)
theorem Wd.m_Forest_path : Meth K (He.ga K "Forest") "path" (He.ma K (He.ga K "Forest") "path") := He.meth_ok (W.c.fact 112)
theorem Wd.m_Forest_root : Meth K (He.ga K "Forest") "root" (He.ma K (He.ga K "Forest") "root") := He.meth_ok (W.c.fact 113)
theorem Wd.m_Forest_children : Meth K (He.ga K "Forest") "children" (He.ma K (He.ga K "Forest") "children") := He.meth_ok (W.c.fact 114)
theorem Wd.m_Forest_roots : Meth K (He.ga K "Forest") "roots" (He.ma K (He.ga K "Forest") "roots") := He.meth_ok (W.c.fact 115)
theorem Wd.m_Forest_walk_trees : Meth K (He.ga K "Forest") "walk_trees" (He.ma K (He.ga K "Forest") "walk_trees") := He.meth_ok (W.c.fact 116)
theorem Wd.m_Forest_summary : Meth K (He.ga K "Forest") "summary" (He.ma K (He.ga K "Forest") "summary") := He.meth_ok (W.c.fact 117)
theorem Wd.m_Forest_drawn : Meth K (He.ga K "Forest") "drawn" (He.ma K (He.ga K "Forest") "drawn") := He.meth_ok (W.c.fact 118)
theorem Wd.m_Forest_len : Meth K (He.ga K "Forest") "__len__" (He.ma K (He.ga K "Forest") "__len__") := He.meth_ok (W.c.fact 119)
theorem Wd.m_Forest_eq : Meth K (He.ga K "Forest") "__eq__" (He.ma K (He.ga K "Forest") "__eq__") := He.meth_ok (W.c.fact 120)
theorem Wd.m_Threads_put : Meth K (He.ga K "Threads") "put" (He.ma K (He.ga K "Threads") "put") := He.meth_ok (W.c.fact 121)
theorem Wd.m_Threads_has_come : Meth K (He.ga K "Threads") "has_come" (He.ma K (He.ga K "Threads") "has_come") := He.meth_ok (W.c.fact 122)
theorem Wd.m_Threads_group_of : Meth K (He.ga K "Threads") "group_of" (He.ma K (He.ga K "Threads") "group_of") := He.meth_ok (W.c.fact 123)
theorem Wd.m_Threads_merged : Meth K (He.ga K "Threads") "merged" (He.ma K (He.ga K "Threads") "merged") := He.meth_ok (W.c.fact 124)
theorem Wd.m_Threads_joined : Meth K (He.ga K "Threads") "joined" (He.ma K (He.ga K "Threads") "joined") := He.meth_ok (W.c.fact 125)
theorem Wd.m_Threads_name_of : Meth K (He.ga K "Threads") "name_of" (He.ma K (He.ga K "Threads") "name_of") := He.meth_ok (W.c.fact 126)
theorem Wd.m_Threads_members : Meth K (He.ga K "Threads") "members" (He.ma K (He.ga K "Threads") "members") := He.meth_ok (W.c.fact 127)
theorem Wd.m_Threads_names : Meth K (He.ga K "Threads") "names" (He.ma K (He.ga K "Threads") "names") := He.meth_ok (W.c.fact 128)
theorem Wd.m_Threads_letter_at : Meth K (He.ga K "Threads") "letter_at" (He.ma K (He.ga K "Threads") "letter_at") := He.meth_ok (W.c.fact 129)
theorem Wd.m_Threads_contains : Meth K (He.ga K "Threads") "__contains__" (He.ma K (He.ga K "Threads") "__contains__") := He.meth_ok (W.c.fact 130)
theorem Wd.m_Threads_eq : Meth K (He.ga K "Threads") "__eq__" (He.ma K (He.ga K "Threads") "__eq__") := He.meth_ok (W.c.fact 131)
theorem Wd.d_is_name : ∃ fd, L2.FunD K d_is_name.name d_is_name.qual d_is_name.params d_is_name.body d_is_name.scope (d_is_name.dvs K) (d_is_name.kws K) (d_is_name.at_ K) fd := W.c.def_ 0
theorem Wd.d_is_number : ∃ fd, L2.FunD K d_is_number.name d_is_number.qual d_is_number.params d_is_number.body d_is_number.scope (d_is_number.dvs K) (d_is_number.kws K) (d_is_number.at_ K) fd := W.c.def_ 1
theorem Wd.d_is_numeral : ∃ fd, L2.FunD K d_is_numeral.name d_is_numeral.qual d_is_numeral.params d_is_numeral.body d_is_numeral.scope (d_is_numeral.dvs K) (d_is_numeral.kws K) (d_is_numeral.at_ K) fd := W.c.def_ 2
theorem Wd.d_are_names : ∃ fd, L2.FunD K d_are_names.name d_are_names.qual d_are_names.params d_are_names.body d_are_names.scope (d_are_names.dvs K) (d_are_names.kws K) (d_are_names.at_ K) fd := W.c.def_ 3
theorem Wd.d_Letter_init : ∃ fd, L2.FunD K d_Letter_init.name d_Letter_init.qual d_Letter_init.params d_Letter_init.body d_Letter_init.scope (d_Letter_init.dvs K) (d_Letter_init.kws K) (d_Letter_init.at_ K) fd := W.c.def_ 4
theorem Wd.d_Letter_written : ∃ fd, L2.FunD K d_Letter_written.name d_Letter_written.qual d_Letter_written.params d_Letter_written.body d_Letter_written.scope (d_Letter_written.dvs K) (d_Letter_written.kws K) (d_Letter_written.at_ K) fd := W.c.def_ 5
theorem Wd.d_Letter_eq : ∃ fd, L2.FunD K d_Letter_eq.name d_Letter_eq.qual d_Letter_eq.params d_Letter_eq.body d_Letter_eq.scope (d_Letter_eq.dvs K) (d_Letter_eq.kws K) (d_Letter_eq.at_ K) fd := W.c.def_ 6
theorem Wd.d_fits_answers : ∃ fd, L2.FunD K d_fits_answers.name d_fits_answers.qual d_fits_answers.params d_fits_answers.body d_fits_answers.scope (d_fits_answers.dvs K) (d_fits_answers.kws K) (d_fits_answers.at_ K) fd := W.c.def_ 7
theorem Wd.d_wrapped : ∃ fd, L2.FunD K d_wrapped.name d_wrapped.qual d_wrapped.params d_wrapped.body d_wrapped.scope (d_wrapped.dvs K) (d_wrapped.kws K) (d_wrapped.at_ K) fd := W.c.def_ 8
theorem Wd.d_body_rows : ∃ fd, L2.FunD K d_body_rows.name d_body_rows.qual d_body_rows.params d_body_rows.body d_body_rows.scope (d_body_rows.dvs K) (d_body_rows.kws K) (d_body_rows.at_ K) fd := W.c.def_ 9
theorem Wd.d_HeadRows_init : ∃ fd, L2.FunD K d_HeadRows_init.name d_HeadRows_init.qual d_HeadRows_init.params d_HeadRows_init.body d_HeadRows_init.scope (d_HeadRows_init.dvs K) (d_HeadRows_init.kws K) (d_HeadRows_init.at_ K) fd := W.c.def_ 10
theorem Wd.d_HeadRows_take : ∃ fd, L2.FunD K d_HeadRows_take.name d_HeadRows_take.qual d_HeadRows_take.params d_HeadRows_take.body d_HeadRows_take.scope (d_HeadRows_take.dvs K) (d_HeadRows_take.kws K) (d_HeadRows_take.at_ K) fd := W.c.def_ 11
theorem Wd.d_HeadRows_told_items : ∃ fd, L2.FunD K d_HeadRows_told_items.name d_HeadRows_told_items.qual d_HeadRows_told_items.params d_HeadRows_told_items.body d_HeadRows_told_items.scope (d_HeadRows_told_items.dvs K) (d_HeadRows_told_items.kws K) (d_HeadRows_told_items.at_ K) fd := W.c.def_ 12
theorem Wd.d_HeadRows_begin : ∃ fd, L2.FunD K d_HeadRows_begin.name d_HeadRows_begin.qual d_HeadRows_begin.params d_HeadRows_begin.body d_HeadRows_begin.scope (d_HeadRows_begin.dvs K) (d_HeadRows_begin.kws K) (d_HeadRows_begin.at_ K) fd := W.c.def_ 13
theorem Wd.d_HeadRows_made_letter : ∃ fd, L2.FunD K d_HeadRows_made_letter.name d_HeadRows_made_letter.qual d_HeadRows_made_letter.params d_HeadRows_made_letter.body d_HeadRows_made_letter.scope (d_HeadRows_made_letter.dvs K) (d_HeadRows_made_letter.kws K) (d_HeadRows_made_letter.at_ K) fd := W.c.def_ 14
theorem Wd.d_read_part : ∃ fd, L2.FunD K d_read_part.name d_read_part.qual d_read_part.params d_read_part.body d_read_part.scope (d_read_part.dvs K) (d_read_part.kws K) (d_read_part.at_ K) fd := W.c.def_ 15
theorem Wd.d_read_letters : ∃ fd, L2.FunD K d_read_letters.name d_read_letters.qual d_read_letters.params d_read_letters.body d_read_letters.scope (d_read_letters.dvs K) (d_read_letters.kws K) (d_read_letters.at_ K) fd := W.c.def_ 16
theorem Wd.d_written_letters : ∃ fd, L2.FunD K d_written_letters.name d_written_letters.qual d_written_letters.params d_written_letters.body d_written_letters.scope (d_written_letters.dvs K) (d_written_letters.kws K) (d_written_letters.at_ K) fd := W.c.def_ 17
theorem Wd.d_Forest_init : ∃ fd, L2.FunD K d_Forest_init.name d_Forest_init.qual d_Forest_init.params d_Forest_init.body d_Forest_init.scope (d_Forest_init.dvs K) (d_Forest_init.kws K) (d_Forest_init.at_ K) fd := W.c.def_ 18
theorem Wd.d_Forest_of : ∃ fd, L2.FunD K d_Forest_of.name d_Forest_of.qual d_Forest_of.params d_Forest_of.body d_Forest_of.scope (d_Forest_of.dvs K) (d_Forest_of.kws K) (d_Forest_of.at_ K) fd := W.c.def_ 19
theorem Wd.d_Forest_put : ∃ fd, L2.FunD K d_Forest_put.name d_Forest_put.qual d_Forest_put.params d_Forest_put.body d_Forest_put.scope (d_Forest_put.dvs K) (d_Forest_put.kws K) (d_Forest_put.at_ K) fd := W.c.def_ 20
theorem Wd.d_Forest_closed_ring : ∃ fd, L2.FunD K d_Forest_closed_ring.name d_Forest_closed_ring.qual d_Forest_closed_ring.params d_Forest_closed_ring.body d_Forest_closed_ring.scope (d_Forest_closed_ring.dvs K) (d_Forest_closed_ring.kws K) (d_Forest_closed_ring.at_ K) fd := W.c.def_ 21
theorem Wd.d_Forest_cut : ∃ fd, L2.FunD K d_Forest_cut.name d_Forest_cut.qual d_Forest_cut.params d_Forest_cut.body d_Forest_cut.scope (d_Forest_cut.dvs K) (d_Forest_cut.kws K) (d_Forest_cut.at_ K) fd := W.c.def_ 22
theorem Wd.d_Forest_path : ∃ fd, L2.FunD K d_Forest_path.name d_Forest_path.qual d_Forest_path.params d_Forest_path.body d_Forest_path.scope (d_Forest_path.dvs K) (d_Forest_path.kws K) (d_Forest_path.at_ K) fd := W.c.def_ 23
theorem Wd.d_Forest_root : ∃ fd, L2.FunD K d_Forest_root.name d_Forest_root.qual d_Forest_root.params d_Forest_root.body d_Forest_root.scope (d_Forest_root.dvs K) (d_Forest_root.kws K) (d_Forest_root.at_ K) fd := W.c.def_ 24
theorem Wd.d_Forest_children : ∃ fd, L2.FunD K d_Forest_children.name d_Forest_children.qual d_Forest_children.params d_Forest_children.body d_Forest_children.scope (d_Forest_children.dvs K) (d_Forest_children.kws K) (d_Forest_children.at_ K) fd := W.c.def_ 25
theorem Wd.d_Forest_roots : ∃ fd, L2.FunD K d_Forest_roots.name d_Forest_roots.qual d_Forest_roots.params d_Forest_roots.body d_Forest_roots.scope (d_Forest_roots.dvs K) (d_Forest_roots.kws K) (d_Forest_roots.at_ K) fd := W.c.def_ 26
theorem Wd.d_Forest_walk_trees : ∃ fd, L2.FunD K d_Forest_walk_trees.name d_Forest_walk_trees.qual d_Forest_walk_trees.params d_Forest_walk_trees.body d_Forest_walk_trees.scope (d_Forest_walk_trees.dvs K) (d_Forest_walk_trees.kws K) (d_Forest_walk_trees.at_ K) fd := W.c.def_ 27
theorem Wd.d_Forest_summary : ∃ fd, L2.FunD K d_Forest_summary.name d_Forest_summary.qual d_Forest_summary.params d_Forest_summary.body d_Forest_summary.scope (d_Forest_summary.dvs K) (d_Forest_summary.kws K) (d_Forest_summary.at_ K) fd := W.c.def_ 28
theorem Wd.d_Forest_drawn : ∃ fd, L2.FunD K d_Forest_drawn.name d_Forest_drawn.qual d_Forest_drawn.params d_Forest_drawn.body d_Forest_drawn.scope (d_Forest_drawn.dvs K) (d_Forest_drawn.kws K) (d_Forest_drawn.at_ K) fd := W.c.def_ 29
theorem Wd.d_Forest_len : ∃ fd, L2.FunD K d_Forest_len.name d_Forest_len.qual d_Forest_len.params d_Forest_len.body d_Forest_len.scope (d_Forest_len.dvs K) (d_Forest_len.kws K) (d_Forest_len.at_ K) fd := W.c.def_ 30
theorem Wd.d_Forest_eq : ∃ fd, L2.FunD K d_Forest_eq.name d_Forest_eq.qual d_Forest_eq.params d_Forest_eq.body d_Forest_eq.scope (d_Forest_eq.dvs K) (d_Forest_eq.kws K) (d_Forest_eq.at_ K) fd := W.c.def_ 31
theorem Wd.d_Group_init : ∃ fd, L2.FunD K d_Group_init.name d_Group_init.qual d_Group_init.params d_Group_init.body d_Group_init.scope (d_Group_init.dvs K) (d_Group_init.kws K) (d_Group_init.at_ K) fd := W.c.def_ 32
theorem Wd.d_Threads_init : ∃ fd, L2.FunD K d_Threads_init.name d_Threads_init.qual d_Threads_init.params d_Threads_init.body d_Threads_init.scope (d_Threads_init.dvs K) (d_Threads_init.kws K) (d_Threads_init.at_ K) fd := W.c.def_ 33
theorem Wd.d_Threads_of : ∃ fd, L2.FunD K d_Threads_of.name d_Threads_of.qual d_Threads_of.params d_Threads_of.body d_Threads_of.scope (d_Threads_of.dvs K) (d_Threads_of.kws K) (d_Threads_of.at_ K) fd := W.c.def_ 34
theorem Wd.d_Threads_put : ∃ fd, L2.FunD K d_Threads_put.name d_Threads_put.qual d_Threads_put.params d_Threads_put.body d_Threads_put.scope (d_Threads_put.dvs K) (d_Threads_put.kws K) (d_Threads_put.at_ K) fd := W.c.def_ 35
theorem Wd.d_Threads_has_come : ∃ fd, L2.FunD K d_Threads_has_come.name d_Threads_has_come.qual d_Threads_has_come.params d_Threads_has_come.body d_Threads_has_come.scope (d_Threads_has_come.dvs K) (d_Threads_has_come.kws K) (d_Threads_has_come.at_ K) fd := W.c.def_ 36
theorem Wd.d_Threads_group_of : ∃ fd, L2.FunD K d_Threads_group_of.name d_Threads_group_of.qual d_Threads_group_of.params d_Threads_group_of.body d_Threads_group_of.scope (d_Threads_group_of.dvs K) (d_Threads_group_of.kws K) (d_Threads_group_of.at_ K) fd := W.c.def_ 37
theorem Wd.d_Threads_merged : ∃ fd, L2.FunD K d_Threads_merged.name d_Threads_merged.qual d_Threads_merged.params d_Threads_merged.body d_Threads_merged.scope (d_Threads_merged.dvs K) (d_Threads_merged.kws K) (d_Threads_merged.at_ K) fd := W.c.def_ 38
theorem Wd.d_Threads_joined : ∃ fd, L2.FunD K d_Threads_joined.name d_Threads_joined.qual d_Threads_joined.params d_Threads_joined.body d_Threads_joined.scope (d_Threads_joined.dvs K) (d_Threads_joined.kws K) (d_Threads_joined.at_ K) fd := W.c.def_ 39
theorem Wd.d_Threads_name_of : ∃ fd, L2.FunD K d_Threads_name_of.name d_Threads_name_of.qual d_Threads_name_of.params d_Threads_name_of.body d_Threads_name_of.scope (d_Threads_name_of.dvs K) (d_Threads_name_of.kws K) (d_Threads_name_of.at_ K) fd := W.c.def_ 40
theorem Wd.d_Threads_members : ∃ fd, L2.FunD K d_Threads_members.name d_Threads_members.qual d_Threads_members.params d_Threads_members.body d_Threads_members.scope (d_Threads_members.dvs K) (d_Threads_members.kws K) (d_Threads_members.at_ K) fd := W.c.def_ 41
theorem Wd.d_Threads_names : ∃ fd, L2.FunD K d_Threads_names.name d_Threads_names.qual d_Threads_names.params d_Threads_names.body d_Threads_names.scope (d_Threads_names.dvs K) (d_Threads_names.kws K) (d_Threads_names.at_ K) fd := W.c.def_ 42
theorem Wd.d_Threads_letter_at : ∃ fd, L2.FunD K d_Threads_letter_at.name d_Threads_letter_at.qual d_Threads_letter_at.params d_Threads_letter_at.body d_Threads_letter_at.scope (d_Threads_letter_at.dvs K) (d_Threads_letter_at.kws K) (d_Threads_letter_at.at_ K) fd := W.c.def_ 43
theorem Wd.d_Threads_contains : ∃ fd, L2.FunD K d_Threads_contains.name d_Threads_contains.qual d_Threads_contains.params d_Threads_contains.body d_Threads_contains.scope (d_Threads_contains.dvs K) (d_Threads_contains.kws K) (d_Threads_contains.at_ K) fd := W.c.def_ 44
theorem Wd.d_Threads_eq : ∃ fd, L2.FunD K d_Threads_eq.name d_Threads_eq.qual d_Threads_eq.params d_Threads_eq.body d_Threads_eq.scope (d_Threads_eq.dvs K) (d_Threads_eq.kws K) (d_Threads_eq.at_ K) fd := W.c.def_ 45
theorem Wd.d_Join_init : ∃ fd, L2.FunD K d_Join_init.name d_Join_init.qual d_Join_init.params d_Join_init.body d_Join_init.scope (d_Join_init.dvs K) (d_Join_init.kws K) (d_Join_init.at_ K) fd := W.c.def_ 46
theorem Wd.d_join_of : ∃ fd, L2.FunD K d_join_of.name d_join_of.qual d_join_of.params d_join_of.body d_join_of.scope (d_join_of.dvs K) (d_join_of.kws K) (d_join_of.at_ K) fd := W.c.def_ 47
theorem Wd.d_each_join : ∃ fd, L2.FunD K d_each_join.name d_each_join.qual d_each_join.params d_each_join.body d_each_join.scope (d_each_join.dvs K) (d_each_join.kws K) (d_each_join.at_ K) fd := W.c.def_ 48
theorem Wd.d_linked_numbers : ∃ fd, L2.FunD K d_linked_numbers.name d_linked_numbers.qual d_linked_numbers.params d_linked_numbers.body d_linked_numbers.scope (d_linked_numbers.dvs K) (d_linked_numbers.kws K) (d_linked_numbers.at_ K) fd := W.c.def_ 49
theorem Wd.d_steps_to : ∃ fd, L2.FunD K d_steps_to.name d_steps_to.qual d_steps_to.params d_steps_to.body d_steps_to.scope (d_steps_to.dvs K) (d_steps_to.kws K) (d_steps_to.at_ K) fd := W.c.def_ 50
theorem Wd.d_chain : ∃ fd, L2.FunD K d_chain.name d_chain.qual d_chain.params d_chain.body d_chain.scope (d_chain.dvs K) (d_chain.kws K) (d_chain.at_ K) fd := W.c.def_ 51
theorem Wd.d_L_bag : ∃ fd, L2.FunD K d_L_bag.name d_L_bag.qual d_L_bag.params d_L_bag.body d_L_bag.scope (d_L_bag.dvs K) (d_L_bag.kws K) (d_L_bag.at_ K) fd := W.c.def_ 52
theorem Wd.d_L_take : ∃ fd, L2.FunD K d_L_take.name d_L_take.qual d_L_take.params d_L_take.body d_L_take.scope (d_L_take.dvs K) (d_L_take.kws K) (d_L_take.at_ K) fd := W.c.def_ 53
theorem Wd.d_L_name : ∃ fd, L2.FunD K d_L_name.name d_L_name.qual d_L_name.params d_L_name.body d_L_name.scope (d_L_name.dvs K) (d_L_name.kws K) (d_L_name.at_ K) fd := W.c.def_ 54
theorem Wd.d_L_pool : ∃ fd, L2.FunD K d_L_pool.name d_L_pool.qual d_L_pool.params d_L_pool.body d_L_pool.scope (d_L_pool.dvs K) (d_L_pool.kws K) (d_L_pool.at_ K) fd := W.c.def_ 55
theorem Wd.d_L_rows : ∃ fd, L2.FunD K d_L_rows.name d_L_rows.qual d_L_rows.params d_L_rows.body d_L_rows.scope (d_L_rows.dvs K) (d_L_rows.kws K) (d_L_rows.at_ K) fd := W.c.def_ 56
theorem Wd.d_L_letters : ∃ fd, L2.FunD K d_L_letters.name d_L_letters.qual d_L_letters.params d_L_letters.body d_L_letters.scope (d_L_letters.dvs K) (d_L_letters.kws K) (d_L_letters.at_ K) fd := W.c.def_ 57
theorem Wd.d_L_drawn_right : ∃ fd, L2.FunD K d_L_drawn_right.name d_L_drawn_right.qual d_L_drawn_right.params d_L_drawn_right.body d_L_drawn_right.scope (d_L_drawn_right.dvs K) (d_L_drawn_right.kws K) (d_L_drawn_right.at_ K) fd := W.c.def_ 58
theorem Wd.d_L_chains_right : ∃ fd, L2.FunD K d_L_chains_right.name d_L_chains_right.qual d_L_chains_right.params d_L_chains_right.body d_L_chains_right.scope (d_L_chains_right.dvs K) (d_L_chains_right.kws K) (d_L_chains_right.at_ K) fd := W.c.def_ 59
theorem Wd.d_law : ∃ fd, L2.FunD K d_law.name d_law.qual d_law.params d_law.body d_law.scope (d_law.dvs K) (d_law.kws K) (d_law.at_ K) fd := W.c.def_ 60
theorem Wd.x_Letter : InsF K (He.ga K "Letter") := insB_ok (W.c.ext 11)
theorem Wd.x_Forest : InsF K (He.ga K "Forest") := insB_ok (W.c.ext 12)
theorem Wd.x_Threads : InsF K (He.ga K "Threads") := insB_ok (W.c.ext 13)
theorem Wd.t_FIELDS (H : Hp) : SqT K H (He.ga K "FIELDS") [.str "number", .str "from", .str "answers", .str "subject"] := He.tupB_ok (W.c.ext 0) H
theorem Wd.r_Letter : ClX.CRead K (He.ga K "Letter") (.type "type") := cread_ok (W.c.ext 1)
theorem Wd.v_MOST_ANSWERS : ∃ u, ClX.CVal K (He.ga K "Letter") (.type "type") "MOST_ANSWERS" (.int 8) u := cvB_ok (W.c.ext 2)
theorem Wd.v_MOST_SUBJECT : ∃ u, ClX.CVal K (He.ga K "Letter") (.type "type") "MOST_SUBJECT" (.int 8) u := cvB_ok (W.c.ext 3)
theorem Wd.v_MOST_WORDS : ∃ u, ClX.CVal K (He.ga K "Letter") (.type "type") "MOST_WORDS" (.int 40) u := cvB_ok (W.c.ext 4)
theorem Wd.cm_Forest_of : ClX.CMet K (He.ga K "Forest") (.type "type") "of" (He.ma K (He.ga K "Forest") "of") (He5.wf K (He.ga K "Forest") "classmethod" "of") := He5.cmet_of (W.c.ext 5) (W.c.ext 9)
theorem Wd.cm_Threads_of : ClX.CMet K (He.ga K "Threads") (.type "type") "of" (He.ma K (He.ga K "Threads") "of") (He5.wf K (He.ga K "Threads") "classmethod" "of") := He5.cmet_of (W.c.ext 6) (W.c.ext 10)
theorem Wd.r_Forest : ClX.CRead K (He.ga K "Forest") (.type "type") := cread_ok (W.c.ext 7)
theorem Wd.r_Threads : ClX.CRead K (He.ga K "Threads") (.type "type") := cread_ok (W.c.ext 8)
end
end K75
end T_Facts

section T_GenFrame
set_option linter.all false
set_option maxHeartbeats 4000000
/-! A run touches no generator that sleeps, unless it wakes it: if the run also goes through where the sleeping ones cannot be woken, they are asleep behind it as they were. -/
namespace GF
open PySem L2 PyProof.Rows
/-- the sleepers: at i the stuck one (in the first table) and the true one (in the second) -/
structure BadOk (M : Model) (n : Nat) (bad : Nat → Option (GenState × GenState)) : Prop where
  lt : ∀ i z, bad i = some z → i < n
  st : ∀ i x y, bad i = some (x, y) → ∃ k l c p fs cl, x = .suspended k l c p fs cl ∧ (∀ r Γ q s e s', ¬ Runs M Γ q (k r) fs s e s') ∧ x.seen = y.seen
structure Tw (n : Nat) (bad : Nat → Option (GenState × GenState)) (a b : Array GenState) : Prop where
  sz : a.size = b.size
  le : n ≤ a.size
  bd : ∀ i x y, bad i = some (x, y) → a[i]? = some x ∧ b[i]? = some y
  eq : ∀ i, bad i = none → a[i]? = b[i]?
  gd : ∀ i k l c p fs cl, bad i = none → a[i]? = some (.suspended k l c p fs cl) → splitAtGen fs = none
section
variable {M : Model} {n : Nat} {bad : Nat → Option (GenState × GenState)} {a b : Array GenState}
theorem Tw.push (B : BadOk M n bad) (T : Tw n bad a b) (c : Code) : Tw n bad (a.push (.fresh c)) (b.push (.fresh c)) := by
  have nb : bad a.size = none := by
    cases e : bad a.size with
    | none => rfl
    | some z => exact absurd (B.lt _ _ e) (Nat.not_lt.mpr T.le)
  refine ⟨by simp [T.sz], by simp only [Array.size_push]; exact Nat.le_succ_of_le T.le, fun i x y h => ?_, fun i h => ?_, fun i k l c' p fs cl h e => ?_⟩
  · obtain ⟨h1, h2⟩ := T.bd i x y h
    have hi : i < a.size := Nat.lt_of_lt_of_le (B.lt _ _ h) T.le
    rw [Array.getElem?_push_lt hi, Array.getElem?_push_lt (T.sz ▸ hi)]
    rw [Array.getElem?_eq_getElem hi] at h1
    rw [Array.getElem?_eq_getElem (T.sz ▸ hi)] at h2
    exact ⟨h1, h2⟩
  · by_cases hi : i = a.size
    · subst hi
      rw [Array.getElem?_push_size, T.sz, Array.getElem?_push_size]
    · rw [Array.getElem?_push, Array.getElem?_push, if_neg hi, if_neg (T.sz ▸ hi)]
      exact T.eq i h
  · by_cases hi : i = a.size
    · subst hi
      rw [Array.getElem?_push_size] at e
      cases e
    · rw [Array.getElem?_push, if_neg hi] at e
      exact T.gd i k l c' p fs cl h e
theorem Tw.set (T : Tw n bad a b) {g : Nat} (hg : bad g = none) (x : GenState) (hx : ∀ k l c p fs cl, x = .suspended k l c p fs cl → splitAtGen fs = none) :
    Tw n bad (a.setIfInBounds g x) (b.setIfInBounds g x) := by
  refine ⟨by simp [T.sz], by simp only [Array.size_setIfInBounds]; exact T.le, fun i u v h => ?_, fun i h => ?_, fun i k l c p fs cl h e => ?_⟩
  · have ne : g ≠ i := fun q => by
      subst q
      rw [hg] at h
      cases h
    rw [Array.getElem?_setIfInBounds_ne ne, Array.getElem?_setIfInBounds_ne ne]
    exact T.bd i u v h
  · rw [Array.getElem?_setIfInBounds, Array.getElem?_setIfInBounds, T.sz]
    by_cases q : g = i
    · rw [if_pos q, if_pos q]
    · rw [if_neg q, if_neg q]
      exact T.eq i h
  · rw [Array.getElem?_setIfInBounds] at e
    by_cases q : g = i
    · rw [if_pos q] at e
      by_cases z : g < a.size
      · rw [if_pos z] at e
        exact hx k l c p fs cl (Option.some.inj e)
      · rw [if_neg z] at e
        cases e
    · rw [if_neg q] at e
      exact T.gd i k l c p fs cl h e
theorem Tw.look (B : BadOk M n bad) (T : Tw n bad a b) {g : Nat} {x : GenState} (e : a[g]? = some x) : ∃ y, b[g]? = some y ∧ x.seen = y.seen := by
  cases h : bad g with
  | none => exact ⟨x, by rw [← T.eq g h]; exact e, rfl⟩
  | some z =>
    obtain ⟨u, v⟩ := z
    obtain ⟨h1, h2⟩ := T.bd g u v h
    obtain ⟨_, _, _, _, _, _, _, _, hs⟩ := B.st g u v h
    rw [h1] at e
    cases e
    exact ⟨v, h2, hs⟩
theorem Tw.plain (B : BadOk M n bad) (T : Tw n bad a b) {g : Nat} {x : GenState} (e : a[g]? = some x) (hx : ∀ k l c p fs cl, x ≠ .suspended k l c p fs cl) : bad g = none := by
  cases h : bad g with
  | none => rfl
  | some z =>
    obtain ⟨u, v⟩ := z
    obtain ⟨k, l, c, p, fs, cl, hu, _⟩ := B.st g u v h
    rw [(T.bd g u v h).1] at e
    cases e
    exact absurd hu (hx k l c p fs cl)
theorem split_ret {k h g l c p kp} {fs : List Frame} (e : splitAtGen (.ret k h g l c p kp :: fs) = none) : splitAtGen fs = none := by
  cases q : splitAtGen fs with
  | none => rfl
  | some z =>
    have e2 : (splitAtGen fs).map (fun x => ((Frame.ret k h g l c p kp) :: x.1, x.2.1, x.2.2)) = none := e
    rw [q] at e2
    cases e2
theorem split_app : ∀ {x y : List Frame}, splitAtGen x = none → splitAtGen y = none → splitAtGen (x ++ y) = none
  | [], _, _, h => h
  | .gen g k l c p :: r, _, h, _ => by cases h
  | .ret k h g l c p kp :: r, y, e, hy => by
    have e1 := split_app (split_ret e) hy
    show (splitAtGen (r ++ y)).map _ = none
    rw [e1]
    rfl
/-- how it ends -/
def EndOk (e : End) : Prop := ∀ v g l k c p fs, e = .susp v g l k c p fs → splitAtGen fs = none
theorem EndOk.ret {r : Result} : EndOk (.ret r) := fun _ _ _ _ _ _ _ h => by cases h
theorem EndOk.state {e : End} (h : EndOk e) : ∀ k l c p fs cl, e.genState = .suspended k l c p fs cl → splitAtGen fs = none := fun k l c p fs cl q => by
  cases e with
  | ret r => cases q
  | susp v g l' k' c' p' fs' =>
    have q2 : GenState.suspended k' l' c' p' fs' (g || fs'.any Frame.guarded) = .suspended k l c p fs cl := q
    cases q2
    exact h _ _ _ _ _ _ _ rfl
theorem run_nil : ∀ k l c p fs cl, (GenState.running) = .suspended k l c p fs cl → splitAtGen fs = none := fun _ _ _ _ _ _ h => by cases h
theorem fin_nil : ∀ k l c p fs cl, (GenState.finished) = .suspended k l c p fs cl → splitAtGen fs = none := fun _ _ _ _ _ _ h => by cases h
/-- the same run beside the true sleepers -/
def Same2 (M : Model) (n : Nat) (bad : Nat → Option (GenState × GenState)) (Γ : Ctx) (p : Pos) (t : Sem PySem.Fin) (fs : List Frame) (s : Shared) (e : End) (s1 : Shared) : Prop :=
  splitAtGen fs = none → ∀ b, Tw n bad s.gens b → EndOk e ∧ ∃ b1, Tw n bad s1.gens b1 ∧ Runs M Γ p t fs { s with gens := b } e { s1 with gens := b1 }
theorem tw_runs (B : BadOk M n bad) {Γ : Ctx} {p : Pos} {t : Sem PySem.Fin} {fs : List Frame} {s s1 : Shared} {e : End} (h : Runs M Γ p t fs s e s1) : Same2 M n bad Γ p t fs s e s1 := by
  induction h with
  | done => exact fun _ b T => ⟨.ret, b, T, .done⟩
  | raise => exact fun _ b T => ⟨.ret, b, T, .raise⟩
  | again q _ ih => exact fun h b T => let ⟨o, b1, T1, r⟩ := ih rfl b T; ⟨o, b1, T1, .again q r⟩
  | rule _ ih => exact fun h b T => let ⟨o, b1, T1, r⟩ := ih rfl b T; ⟨o, b1, T1, .rule r⟩
  | «at» _ ih => exact fun h b T => let ⟨o, b1, T1, r⟩ := ih rfl b T; ⟨o, b1, T1, .at r⟩
  | load q _ ih => exact fun h b T => let ⟨o, b1, T1, r⟩ := ih rfl b T; ⟨o, b1, T1, .load q r⟩
  | update q _ ih => exact fun h b T => let ⟨o, b1, T1, r⟩ := ih rfl b T; ⟨o, b1, T1, .update q r⟩
  | loadIfAlive _ ih => exact fun h b T => let ⟨o, b1, T1, r⟩ := ih rfl b T; ⟨o, b1, T1, .loadIfAlive r⟩
  | point _ ih => exact fun h b T => let ⟨o, b1, T1, r⟩ := ih rfl b T; ⟨o, b1, T1, .point r⟩
  | alloc _ ih => exact fun h b T => let ⟨o, b1, T1, r⟩ := ih rfl b T; ⟨o, b1, T1, .alloc r⟩
  | fresh _ ih => exact fun h b T => let ⟨o, b1, T1, r⟩ := ih rfl b T; ⟨o, b1, T1, .fresh r⟩
  | ask _ ih => exact fun h b T => let ⟨o, b1, T1, r⟩ := ih rfl b T; ⟨o, b1, T1, .ask r⟩
  | choose q _ ih => exact fun h b T => let ⟨o, b1, T1, r⟩ := ih rfl b T; ⟨o, b1, T1, .choose q r⟩
  | os _ ih => exact fun h b T => let ⟨o, b1, T1, r⟩ := ih rfl b T; ⟨o, b1, T1, .os r⟩
  | handled _ ih => exact fun h b T => let ⟨o, b1, T1, r⟩ := ih rfl b T; ⟨o, b1, T1, .handled r⟩
  | genState q _ ih =>
    intro h b T
    obtain ⟨y, hy, hs⟩ := T.look B q
    obtain ⟨o, b1, T1, r⟩ := ih rfl b T
    exact ⟨o, b1, T1, .genState hy (by rw [← hs]; exact r)⟩
  | stack _ ih => exact fun h b T => let ⟨o, b1, T1, r⟩ := ih rfl b T; ⟨o, b1, T1, .stack r⟩
  | thread _ ih => exact fun h b T => let ⟨o, b1, T1, r⟩ := ih rfl b T; ⟨o, b1, T1, .thread r⟩
  | newGen _ ih =>
    intro h b T
    obtain ⟨o, b1, T1, r⟩ := ih rfl _ (T.push B _)
    refine ⟨o, b1, T1, .newGen ?_⟩
    have e := T.sz
    show Runs M _ _ _ [] { heap := _, gens := b.push _, drawn := _, toks := _, os := _ } _ _
    rw [← e]
    exact r
  | call _ _ ih1 ih2 =>
    intro h b T
    obtain ⟨_, b1, T1, r1⟩ := ih1 rfl b T
    obtain ⟨o, b2, T2, r2⟩ := ih2 rfl b1 T1
    exact ⟨o, b2, T2, .call r1 r2⟩
  | callSusp _ ih =>
    intro h b T
    obtain ⟨o, b1, T1, r⟩ := ih rfl b T
    refine ⟨fun v g l k c p fs q => ?_, b1, T1, .callSusp r⟩
    cases q
    exact split_app (o _ _ _ _ _ _ _ rfl) rfl
  | yield => exact fun _ b T => ⟨fun v g l k c p fs q => by cases q; rfl, b, T, .yield⟩
  | @resumeFresh Γ p g l k s c e₁ s₁ e s' q _ hq _ ih1 ih2 =>
    intro h b T
    have nb := T.plain B q fun _ _ _ _ _ _ z => by cases z
    obtain ⟨o1, b1, T1, r1⟩ := ih1 rfl _ (T.set nb .running run_nil)
    obtain ⟨o2, b2, T2, r2⟩ := ih2 rfl _ (T1.set nb e₁.genState o1.state)
    exact ⟨o2, b2, T2, .resumeFresh (s₁ := { s₁ with gens := b1 }) (by show b[g]? = _; rw [← T.eq g nb]; exact q) r1 hq r2⟩
  | @resumeSuspended Γ p g r l k s k₀ l₀ c₀ p₀ fs cl e₁ s₁ e s' q hr hq _ ih1 ih2 =>
    intro h b T
    have nb : bad g = none := by
      cases z : bad g with
      | none => rfl
      | some z2 =>
        obtain ⟨u, v⟩ := z2
        obtain ⟨k', l', c', p', fs', cl', hu, hn, _⟩ := B.st g u v z
        rw [(T.bd g u v z).1, hu] at q
        cases q
        exact absurd hr (hn _ _ _ _ _ _)
    have sp := T.gd g _ _ _ _ _ _ nb q
    obtain ⟨o1, b1, T1, r1⟩ := ih1 sp _ (T.set nb .running run_nil)
    obtain ⟨o2, b2, T2, r2⟩ := ih2 rfl _ (T1.set nb e₁.genState o1.state)
    exact ⟨o2, b2, T2, .resumeSuspended (s₁ := { s₁ with gens := b1 }) (by show b[g]? = _; rw [← T.eq g nb]; exact q) r1 hq r2⟩
  | resumeJustStarted q hv _ ih =>
    intro h b T
    have nb := T.plain B q fun _ _ _ _ _ _ z => by cases z
    obtain ⟨o, b1, T1, r⟩ := ih rfl b T
    exact ⟨o, b1, T1, .resumeJustStarted ((T.eq _ nb).symm.trans q) hv r⟩
  | resumeThrowFresh q _ ih =>
    intro h b T
    have nb := T.plain B q fun _ _ _ _ _ _ z => by cases z
    obtain ⟨o, b1, T1, r⟩ := ih rfl _ (T.set nb .finished fin_nil)
    exact ⟨o, b1, T1, .resumeThrowFresh ((T.eq _ nb).symm.trans q) r⟩
  | resumeRunning q _ ih =>
    intro h b T
    have nb := T.plain B q fun _ _ _ _ _ _ z => by cases z
    obtain ⟨o, b1, T1, r⟩ := ih rfl b T
    exact ⟨o, b1, T1, .resumeRunning ((T.eq _ nb).symm.trans q) r⟩
  | resumeFinished q _ ih =>
    intro h b T
    have nb := T.plain B q fun _ _ _ _ _ _ z => by cases z
    obtain ⟨o, b1, T1, r⟩ := ih rfl b T
    exact ⟨o, b1, T1, .resumeFinished ((T.eq _ nb).symm.trans q) r⟩
  | segRet _ _ ih1 ih2 =>
    intro h b T
    obtain ⟨_, b1, T1, r1⟩ := ih1 rfl b T
    obtain ⟨o, b2, T2, r2⟩ := ih2 (split_ret h) b1 T1
    exact ⟨o, b2, T2, .segRet r1 r2⟩
  | segGen _ _ _ _ => intro h; cases h
  | segSuspOut hs _ ih =>
    intro h b T
    obtain ⟨o, b1, T1, r⟩ := ih rfl b T
    refine ⟨fun v g l k c p fs q => ?_, b1, T1, .segSuspOut hs r⟩
    cases q
    exact split_app (o _ _ _ _ _ _ _ rfl) hs
  | segSuspGen hs _ _ _ _ _ =>
    intro h
    rw [h] at hs
    cases hs
theorem no_run {w : String} {Γ : Ctx} {p : Pos} {t : Sem PySem.Fin} {fs : List Frame} {s s1 : Shared} {e : End} (h : Runs M Γ p t fs s e s1) : t ≠ .unsupported w := by
  induction h with
  | segRet _ _ ih1 _ => exact ih1
  | segGen _ _ ih1 _ => exact ih1
  | segSuspOut _ _ ih => exact ih
  | segSuspGen _ _ _ _ ih1 _ => exact ih1
  | _ => intro q; cases q
theorem tw_wakes (B : BadOk M n bad) {Γ : Ctx} {p : Pos} {g : Nat} {r : Resume} {s s1 : Shared} {res : GenResult} {b : Array GenState} (h : Wakes M Γ p g r s res s1) (T : Tw n bad s.gens b) :
    ∃ b1, Tw n bad s1.gens b1 ∧ Wakes M Γ p g r { s with gens := b } res { s1 with gens := b1 } := by
  unfold Wakes at h
  cases e : s.gens[g]? with
  | none =>
    rw [e] at h
    exact h.elim
  | some x =>
    rw [e] at h
    have nb : bad g = none := by
      cases z : bad g with
      | none => rfl
      | some z2 =>
        obtain ⟨u, v⟩ := z2
        obtain ⟨k', l', c', p', fs', cl', hu, hn, _⟩ := B.st g u v z
        rw [(T.bd g u v z).1, hu] at e
        cases e
        obtain ⟨_, _, hr, _⟩ := h
        exact absurd hr (hn _ _ _ _ _ _)
    have eb : b[g]? = some x := (T.eq g nb).symm.trans e
    cases x with
    | fresh c =>
      cases r with
      | send v =>
        cases v with
        | none =>
          obtain ⟨e1, s2, hr, hq, h1, h2⟩ := h
          obtain ⟨o, b1, T1, r1⟩ := tw_runs B hr rfl _ (T.set nb .running run_nil)
          subst h2
          exact ⟨_, T1.set nb e1.genState o.state, by unfold Wakes; rw [eb]; exact ⟨e1, { s2 with gens := b1 }, r1, hq, h1, rfl⟩⟩
        | _ =>
          obtain ⟨h1, h2⟩ := h
          subst h2
          exact ⟨b, T, by unfold Wakes; rw [eb]; exact ⟨h1, rfl⟩⟩
      | throw x =>
        obtain ⟨h1, h2⟩ := h
        subst h2
        exact ⟨_, T.set nb .finished fin_nil, by unfold Wakes; rw [eb]; exact ⟨h1, rfl⟩⟩
    | suspended k l c q fs cl =>
      obtain ⟨e1, s2, hr, hq, h1, h2⟩ := h
      obtain ⟨o, b1, T1, r1⟩ := tw_runs B hr (T.gd g _ _ _ _ _ _ nb e) _ (T.set nb .running run_nil)
      subst h2
      exact ⟨_, T1.set nb e1.genState o.state, by unfold Wakes; rw [eb]; exact ⟨e1, { s2 with gens := b1 }, r1, hq, h1, rfl⟩⟩
    | running =>
      obtain ⟨h1, h2⟩ := h
      subst h2
      exact ⟨b, T, by unfold Wakes; rw [eb]; exact ⟨h1, rfl⟩⟩
    | finished =>
      obtain ⟨h1, h2⟩ := h
      subst h2
      exact ⟨b, T, by unfold Wakes; rw [eb]; exact ⟨h1, rfl⟩⟩
open Sem (wp)
/-- beside the true sleepers -/
def Bs (n : Nat) (bad : Nat → Option (GenState × GenState)) {α : Type} (Q : α → Pos → Shared → Prop) (a : α) (p : Pos) (s : Shared) : Prop := ∃ ga, Tw n bad ga s.gens ∧ Q a p { s with gens := ga }
theorem tw_wp (B : BadOk M n bad) {Γ : Ctx} {α : Type} (t : Sem α) : ∀ (Q : α → Pos → Shared → Prop) (E : Value → Pos → Shared → Prop) (p : Pos) (s : Shared) (b : Array GenState), Tw n bad s.gens b → wp M Γ t Q E p s →
    wp M Γ t (Bs n bad Q) (Bs n bad E) p { s with gens := b } := by
  induction t with
  | pure a => exact fun Q E p s b T h => ⟨s.gens, T, h⟩
  | raise e => exact fun Q E p s b T h => ⟨s.gens, T, h⟩
  | unsupported _ => exact fun Q E p s b T h => h
  | finish _ => exact fun Q E p s b T h => h
  | register _ _ => exact fun Q E p s b T h => h
  | yield _ _ _ _ => exact fun Q E p s b T h => h
  | fork _ _ => exact fun Q E p s b T h => h
  | await _ _ _ _ _ => exact fun Q E p s b T h => h
  | rule _ k ih => exact fun Q E p s b T h => ih () Q E p s b T h
  | «at» p' k ih => exact fun Q E p s b T h => ih () Q E p' s b T h
  | load a _ k ih => exact fun Q E p s b T h => let ⟨o, ho, h1⟩ := h; ⟨o, ho, ih o Q E p s b T h1⟩
  | update a _ f k ih => exact fun Q E p s b T h => ⟨h.1, ih () Q E p { s with heap := s.heap.update a f } b T h.2⟩
  | loadIfAlive a k ih => exact fun Q E p s b T h => ih _ Q E p s b T h
  | point _ k ih => exact fun Q E p s b T h => ih () Q E p s b T h
  | alloc o k ih => exact fun Q E p s b T h => ih s.heap.objs.size Q E p { s with heap := s.heap.push o } b T h
  | fresh k ih => exact fun Q E p s b T h => ih s.toks Q E p { s with toks := s.toks + 1 } b T h
  | ask k ih => exact fun Q E p s b T h => ih _ Q E p s b T h
  | choose src m k ih => exact fun Q E p s b T h => ⟨h.1, ih (M.w.draws src (s.drawn.get src) % m) Q E p { s with drawn := s.drawn.bump src } b T h.2⟩
  | os q _ k ih => exact fun Q E p s b T h => ih (Os.step s.os q).2 Q E p { s with os := (Os.step s.os q).1 } b T h
  | call c hd _ _ k ih =>
    intro Q E p s b T h
    obtain ⟨r, s1, hr, h1⟩ := h
    obtain ⟨_, b1, T1, r1⟩ := tw_runs B hr rfl b T
    exact ⟨r, { s1 with gens := b1 }, r1, ih r Q E p s1 b1 T1 h1⟩
  | handled own k ih => exact fun Q E p s b T h => ih _ Q E p s b T h
  | genState g k ih =>
    intro Q E p s b T h
    obtain ⟨x, hx, h1⟩ := h
    obtain ⟨y, hy, hs⟩ := T.look B hx
    refine ⟨y, hy, ?_⟩
    rw [← hs]
    exact ih _ Q E p s b T h1
  | newGen c k ih =>
    intro Q E p s b T h
    have h2 := ih s.gens.size Q E p { s with gens := s.gens.push (.fresh c) } _ (T.push B c) h
    have e := T.sz
    show wp M Γ (k b.size) _ _ p _
    rw [← e]
    exact h2
  | resume g r _ k ih =>
    intro Q E p s b T h
    obtain ⟨res, s1, hw, h1⟩ := h
    obtain ⟨b1, T1, w1⟩ := tw_wakes B hw T
    exact ⟨res, { s1 with gens := b1 }, w1, ih res Q E p s1 b1 T1 h1⟩
  | stack k ih => exact fun Q E p s b T h => ih _ Q E p s b T h
  | thread k ih => exact fun Q E p s b T h => ih _ Q E p s b T h
end

/-! ### all sleepers at once -/
/-- no one can wake it -/
def stuck : GenState → GenState
  | .suspended _ l c p fs cl => .suspended (fun _ => .unsupported "asleep") l c p fs cl
  | x => x
def badOf (gs : Array GenState) (i : Nat) : Option (GenState × GenState) := match gs[i]? with
  | some (.suspended k l c p fs cl) => some (.suspended (fun _ => .unsupported "asleep") l c p fs cl, .suspended k l c p fs cl)
  | _ => none
theorem badOf_some {gs : Array GenState} {i : Nat} {x y : GenState} (h : badOf gs i = some (x, y)) : ∃ k l c p fs cl, gs[i]? = some (.suspended k l c p fs cl) ∧ y = .suspended k l c p fs cl ∧ x = .suspended (fun _ => .unsupported "asleep") l c p fs cl := by
  unfold badOf at h
  split at h
  · rename_i k l c p fs cl e
    cases h
    exact ⟨k, l, c, p, fs, cl, e, rfl, rfl⟩
  · cases h
theorem badOf_ok (M : Model) (gs : Array GenState) : BadOk M gs.size (badOf gs) where
  lt := fun i ⟨x, y⟩ h => by
    obtain ⟨_, _, _, _, _, _, e, _, _⟩ := badOf_some h
    exact (Array.getElem?_eq_some_iff.mp e).1
  st := fun i x y h => by
    obtain ⟨k, l, c, p, fs, cl, _, hy, hx⟩ := badOf_some h
    exact ⟨_, l, c, p, fs, cl, hx, fun r Γ q s e s1 hr => no_run hr rfl, by rw [hx, hy]; rfl⟩
theorem stuck_tw (gs : Array GenState) : Tw gs.size (badOf gs) (gs.map stuck) gs where
  sz := by simp
  le := by simp
  bd := fun i x y h => by
    obtain ⟨k, l, c, p, fs, cl, e, hy, hx⟩ := badOf_some h
    rw [Array.getElem?_map, e, hx, hy]
    exact ⟨rfl, rfl⟩
  eq := fun i h => by
    rw [Array.getElem?_map]
    cases e : gs[i]? with
    | none => rfl
    | some x =>
      cases x with
      | suspended k l c p fs cl =>
        unfold badOf at h
        rw [e] at h
        cases h
      | _ => rfl
  gd := fun i k l c p fs cl h e => by
    rw [Array.getElem?_map] at e
    cases q : gs[i]? with
    | none =>
      rw [q] at e
      cases e
    | some x =>
      rw [q] at e
      cases x with
      | suspended k l c p fs cl =>
        unfold badOf at h
        rw [q] at h
        cases h
      | _ => cases e
theorem stuck_bare {gs : Array GenState} (h : AllBare gs) : AllBare (gs.map stuck) := fun y hy => by
  obtain ⟨x, hx, e⟩ := Array.mem_map.mp hy
  have hb := h x hx
  subst e
  cases x <;> exact hb
/-- what slept before sleeps as it did; what is bare stays bare -/
structure Asleep (gs gs2 : Array GenState) : Prop where
  slept : ∀ (g : Nat) k l c p fs cl, gs[g]? = some (GenState.suspended k l c p fs cl) → gs2[g]? = some (GenState.suspended k l c p fs cl)
theorem asleep {M : Model} {A : Around} {α : Type} {t : Sem α} {Q : α → Shared → Prop} {E : Value → Shared → Prop} {s : Shared} (hb : AllBare s.gens) (h : ∀ ga, AllBare ga → wpAny M A t Q E { s with gens := ga }) :
    wpAny M A t (fun a s' => ∃ ga, Q a { s' with gens := ga } ∧ (AllBare ga → AllBare s'.gens) ∧ Asleep s.gens s'.gens) (fun a s' => ∃ ga, E a { s' with gens := ga } ∧ (AllBare ga → AllBare s'.gens) ∧ Asleep s.gens s'.gens) s := by
  have fin : ∀ {ga gb : Array GenState}, Tw s.gens.size (badOf s.gens) ga gb → (AllBare ga → AllBare gb) ∧ Asleep s.gens gb := fun {ga gb} T => by
    refine ⟨fun hg y hy => ?_, ⟨fun g k l c p fs cl e => ?_⟩⟩
    · obtain ⟨i, hi, e⟩ := Array.mem_iff_getElem.mp hy
      have e2 : gb[i]? = some y := by rw [Array.getElem?_eq_getElem hi, e]
      cases q : badOf s.gens i with
      | none =>
        rw [← T.eq i q] at e2
        exact hg y (Array.mem_of_getElem? e2)
      | some z =>
        obtain ⟨u, v⟩ := z
        obtain ⟨k, l, c, p, fs, cl, e3, hv, _⟩ := badOf_some q
        rw [(T.bd i u v q).2] at e2
        cases e2
        rw [hv]
        exact hb _ (Array.mem_of_getElem? e3)
    · have q : badOf s.gens g = some (.suspended (fun _ => .unsupported "asleep") l c p fs cl, .suspended k l c p fs cl) := by
        unfold badOf
        rw [e]
      exact (T.bd g _ _ q).2
  intro Γ p hΓ
  have h1 := h (s.gens.map stuck) (stuck_bare hb) Γ p hΓ
  have h2 := tw_wp (badOf_ok M s.gens) t _ _ p _ s.gens (stuck_tw s.gens) h1
  exact Sem.wp_mono _ _ _ (fun a p' s' ⟨ga, T, q⟩ => ⟨ga, q, fin T⟩) (fun a p' s' ⟨ga, T, q⟩ => ⟨ga, q, fin T⟩) _ _ h2
end GF
end T_GenFrame

section T_GenFor
set_option linter.all false
set_option maxHeartbeats 4000000
/-! Generators walked by a for loop: the generator's body and the loop's body by turns. -/
namespace GF
open PySem L2 PyProof.Rows GenW

/-! ### the lower part of a heap -/
def tr (n : Nat) (h : Heap) : Heap := ⟨h.objs.extract 0 n, h.life⟩
theorem tr_at {n : Nat} {h : Heap} {b : Addr} (hb : b < n) : (tr n h).get? b = h.get? b := by
  have e : (h.objs.extract 0 n)[b]? = h.objs[b]? := by
    rw [Array.getElem?_extract, Nat.sub_zero, Nat.zero_add]
    by_cases z : b < h.objs.size
    · rw [if_pos (Nat.lt_min.mpr ⟨hb, z⟩)]
    · rw [if_neg (fun q => z (Nat.lt_min.mp q).2), Array.getElem?_eq_none (Nat.not_lt.mp z)]
  unfold Heap.get? tr
  rw [e]
theorem tr_none {n : Nat} {h : Heap} {b : Addr} (hb : n ≤ b) : (tr n h).get? b = none := by
  have e : (h.objs.extract 0 n)[b]? = none := by
    rw [Array.getElem?_eq_none]
    rw [Array.size_extract]
    omega
  unfold Heap.get? tr
  rw [e]
theorem tr_of {n : Nat} {h : Heap} {b : Addr} {o : Obj} (e : (tr n h).get? b = some o) : b < n ∧ h.get? b = some o := by
  by_cases hb : b < n
  · exact ⟨hb, by rw [← tr_at hb]; exact e⟩
  · rw [tr_none (Nat.not_lt.mp hb)] at e
    cases e
theorem tr_size {n : Nat} {h : Heap} (hn : n ≤ h.objs.size) : (tr n h).objs.size = n := by
  show (h.objs.extract 0 n).size = n
  rw [Array.size_extract]
  omega

/-! ### the generator's side: its context from segment to segment -/
def cg (c : Cx) (s0 : Shared) (H0 : Hp) : Cx := { c with s_0 := s0, H_0 := H0 }
abbrev ZP := L2.St → Shared → Hp → Prop
def IG (c : Cx) (Z : ZP) (γ : L2.St) (ip : List (Addr × Obj)) (σ : L2.St) (H : Hp) (s : Shared) : Prop := ∃ s0 H0, Inv (cg c s0 H0) ip σ H s ∧ Z γ s0 H0 ∧ s0.heap.objs.size = c.env.locals
/-- what is wanted where an item is out: the loop's slots, the item, the heap, how it goes on -/
abbrev YD := L2.St → V → Hp → (L2.St → Hp → Prop) → Prop
abbrev NX := Nat → L2.St → L2.St → Hp → Prop
abbrev TGe := YD → NX → Nat → L2.St → L2.St → Hp → Prop
def YPr (c : Cx) (Z : ZP) (yd : YD) : Protocol := fun _ _ v s kap => ∃ γ x ip σ H K, RelV x v ∧ IG c Z γ ip σ H s ∧ (∀ p ∈ ip, c.env.locals ≤ p.1) ∧ yd γ x H K ∧ ∀ γ' H' s', IG c Z γ' ip σ H' s' → K γ' H' → kap (.send .none) s'
structure At (c : Cx) (ip : List (Addr × Obj)) (A : Around) (co : Code) (fs : List Frame) (gd : Bool → Bool) : Prop where
  ip : ∀ p ∈ ip, c.env.locals ≤ p.1
  over : A.over co fs = c.A
  split : splitAtGen fs = none
  guard : fs.any Frame.guarded = false
  gd : gd false = false
abbrev SegG (c : Cx) (Z : ZP) (yd : YD) (A : Around) (R : GenEnd) (n : Nat) (s₀ : Shared) (co : Code) (t : Sem PySem.Fin) (fs : List Frame) (s : Shared) : Prop := Seg (model c.prog c.w) A R (YPr c Z yd) n s₀ co t fs s
structure GE (c : Cx) (st : Stmt) (t : TGe) : Prop where
  run : ∀ (Z : ZP) (yd : YD) (A : Around) (ip : List (Addr × Obj)) (R : GenEnd) (n : Nat) (s₀ : Shared) (co : Code) (fs : List Frame) (K : Flow → Sem PySem.Fin) (J : Value → Sem PySem.Fin) (gd : Bool → Bool) (lv : List Value → List Value) (s : Shared) (γ σ : L2.St) (H : Hp) (nx : NX),
    At c ip A co fs gd → (∀ n s₀ s γ σ H, IG c Z γ ip σ H s → nx n γ σ H → SegG c Z yd A R n s₀ co (K .next) fs s) → IG c Z γ ip σ H s → t yd nx n γ σ H → SegG c Z yd A R n s₀ co ((exec st c.env).wrap K J gd lv) fs s
structure GEs (c : Cx) (st : List Stmt) (t : TGe) : Prop where
  run : ∀ (Z : ZP) (yd : YD) (A : Around) (ip : List (Addr × Obj)) (R : GenEnd) (n : Nat) (s₀ : Shared) (co : Code) (fs : List Frame) (K : Flow → Sem PySem.Fin) (J : Value → Sem PySem.Fin) (gd : Bool → Bool) (lv : List Value → List Value) (s : Shared) (γ σ : L2.St) (H : Hp) (nx : NX),
    At c ip A co fs gd → (∀ n s₀ s γ σ H, IG c Z γ ip σ H s → nx n γ σ H → SegG c Z yd A R n s₀ co (K .next) fs s) → IG c Z γ ip σ H s → t yd nx n γ σ H → SegG c Z yd A R n s₀ co ((execs st c.env).wrap K J gd lv) fs s
structure NoX (c : Cx) : Prop where
  no : ∀ v s, c.xe v s → False
  ex : c.ex = []
  pn : ∀ p ∈ c.pn, c.env.locals ≤ p.1
  fn : ∀ x, c.fn x = true
  calm : c.calm = true
section
variable {c : Cx} {st : Stmt} {rest : List Stmt}
def tGp (t : TS) : TGe := fun _ nx n γ σ H => t { nx := nx n γ, rt := fun _ _ => False } σ H
theorem ge_ps {t : TS} (hx : NoX c) (h : ∀ s0 H0, PS (cg c s0 H0) st t) : GE c st (tGp t) := by
  refine ⟨fun Z yd A ip R n s₀ co fs K J gd lv s γ σ H nx g k hI ht => ?_⟩
  obtain ⟨s0, H0, I, z, hz⟩ := hI
  refine seg_wrap ?_
  rw [g.over]
  refine wpAny_mono ((h s0 H0).run ip s σ H _ I ht) (fun f s' hs => ?_) fun x s' hq => (hx.no x s' hq).elim
  cases f with
  | next =>
    obtain ⟨σ', H', I', q⟩ := hs
    exact k n s₀ s' γ σ' H' ⟨s0, H0, I', z, hz⟩ q
  | brk => obtain ⟨_, _, _, q⟩ := hs; exact q.elim
  | cont => obtain ⟨_, _, _, q⟩ := hs; exact q.elim
  | ret u => obtain ⟨_, _, _, _, _, q⟩ := hs; exact q.elim
def tGn : TGe := fun _ nx n γ σ H => nx n γ σ H
theorem ges_nil : GEs c [] tGn := ⟨fun Z yd A ip R n s₀ co fs K J gd lv s γ σ H nx g k hI ht => seg_execs_nil (k n s₀ s γ σ H hI ht)⟩
def tGs (t u : TGe) : TGe := fun yd nx n γ σ H => t yd (fun n' γ' σ' H' => u yd nx n' γ' σ' H') n γ σ H
theorem ges_cons {t u : TGe} (a : GE c st t) (b : GEs c rest u) : GEs c (st :: rest) (tGs t u) := by
  refine ⟨fun Z yd A ip R n s₀ co fs K J gd lv s γ σ H nx g k hI ht => ?_⟩
  refine seg_execs_cons ?_
  exact a.run Z yd A ip R n s₀ co fs _ J gd lv s γ σ H (fun n' γ' σ' H' => u yd nx n' γ' σ' H') g (fun n' s₀' s' γ' σ' H' hI' ht' => b.run Z yd A ip R n' s₀' co fs K J gd lv s' γ' σ' H' nx g k hI' ht') hI ht
theorem ges_one {t : TGe} (a : GE c st t) : GEs c [st] t := by
  refine ⟨fun Z yd A ip R n s₀ co fs K J gd lv s γ σ H nx g k hI ht => seg_execs_cons ?_⟩
  exact a.run Z yd A ip R n s₀ co fs _ J gd lv s γ σ H nx g (fun n' s₀' s' γ' σ' H' hI' ht' => seg_execs_nil (k n' s₀' s' γ' σ' H' hI' ht')) hI ht
/-- yield e -/
def tGy (te : TE) : TGe := fun yd nx n γ σ H => 0 < n ∧ te σ H fun x H1 => yd γ x H1 fun γ' H2 => nx (n - 1) γ' σ H2
theorem ge_yield {e : Expr} {yp pos : Pos} {te : TE} (hx : NoX c) (he : ∀ s0 H0, PE (cg c s0 H0) e te) (hco : c.env.scope.isCoroutine = false := by rfl) (hi : interactive c.env = false := by rfl) : GE c (.Expr (.Yield (some e) yp) pos) (tGy te) := by
  refine ⟨fun Z yd A ip R n s₀ co fs K J gd lv s γ σ H nx g k hI ht => ?_⟩
  obtain ⟨hn, ht⟩ := ht
  obtain ⟨m, rfl⟩ : ∃ m, n = m + 1 := ⟨n - 1, by omega⟩
  obtain ⟨s0, H0, I, z, hz⟩ := hI
  refine seg_Expr_Yield g.split g.gd g.guard ?_ hco hi
  rw [g.over]
  refine wpAny_mono ((he s0 H0).run ip s σ H _ I ht) (fun v s' hv => ?_) fun x s' hq => (hx.no x s' hq).elim
  obtain ⟨x, H1, I1, rv, q⟩ := hv
  intro kap hk
  exact ⟨γ, x, ip, σ, H1, _, rv, ⟨s0, H0, I1, z, hz⟩, g.ip, q, fun γ' H' s'' hI' hK => hk .none s'' (k m s'' s'' γ' σ H' hI' hK)⟩
/-! ### while -/
def tGw (tc : TT) (tb : TGe) : TGe := fun yd nx n γ σ H => ∃ W : Nat → NX, (∃ m, W m n γ σ H) ∧ ∀ m n γ σ H, W m n γ σ H →
  tc σ H fun b H1 => if b = true then ∃ N : NX, (∀ n' γ' σ' H', N n' γ' σ' H' → ∃ m', m' < m ∧ W m' n' γ' σ' H') ∧ tb yd N n γ σ H1 else nx n γ σ H1
theorem At.loop {ip : List (Addr × Obj)} {A : Around} {co co' : Code} {fs : List Frame} {gd : Bool → Bool} {k : Result → Sem PySem.Fin} {l kp : List Value} {p : Pos} (g : At c ip A co fs gd) (hw : co'.weight = 0) (hu : co'.cUnits = 0) :
    At c ip A co' (.ret k none (gd false) l co p kp :: fs) id := by
  refine ⟨g.ip, (over_loop hw hu).trans g.over, ?_, ?_, rfl⟩
  · show (splitAtGen fs).map _ = none
    rw [g.split]
    rfl
  · show (gd false || fs.any Frame.guarded) = false
    rw [g.gd, g.guard]
    rfl
theorem ge_while {test : Expr} {body : List Stmt} {pos : Pos} {tc : TT} {tb : TGe} (hx : NoX c) (hc : ∀ s0 H0, PT (cg c s0 H0) test tc) (hb : GEs c body tb) : GE c (.While test body [] pos) (tGw tc tb) := by
  refine ⟨fun Z yd A ip R n s₀ co fs K J gd lv s γ σ H nx g k hI ht => ?_⟩
  obtain ⟨W, ⟨m0, w0⟩, turn⟩ := ht
  refine seg_While fun p => ?_
  suffices loop : ∀ (m n : Nat) (s₀ s : Shared) (γ σ : L2.St) (H : Hp), W m n γ σ H → IG c Z γ ip σ H s → SegG c Z yd A R n s₀ (.whileLoop test body [] c.env) ((model c.prog c.w).den (.whileLoop test body [] c.env)) (.ret _ none (gd false) (lv []) co p [] :: fs) s from
    loop m0 n s₀ s γ σ H w0 hI
  intro m
  induction m using Nat.strongRecOn with
  | ind m ih =>
    intro n s₀ s γ σ H w hI
    have g2 := fun (kk : Result → Sem PySem.Fin) => g.loop (k := kk) (co' := .whileLoop test body [] c.env) (l := lv []) (kp := []) (p := p) rfl rfl
    refine seg_whileLoop ?_
    rw [(g2 _).over]
    obtain ⟨s0, H0, I, z, hz⟩ := hI
    refine wpAny_mono ((hc s0 H0).run ip s σ H _ I (turn m n γ σ H w)) (fun b s' hb' => ?_) fun x s' hq => (hx.no x s' hq).elim
    obtain ⟨H2, I2, q2⟩ := hb'
    cases b with
    | true =>
      obtain ⟨N, hN, q2⟩ := q2
      rw [if_pos rfl]
      refine hb.run Z yd A ip R n s₀ _ _ _ _ id id s' γ σ H2 N (g2 _) (fun n' s₀' s3 γ' σ' H' hI' hn' => ?_) ⟨s0, H0, I2, z, hz⟩ q2
      obtain ⟨m', hm, w'⟩ := hN n' γ' σ' H' hn'
      exact seg_again rfl (ih m' hm n' s₀' s3 γ' σ' H' w' hI')
    | false =>
      rw [if_neg Bool.false_ne_true]
      exact seg_execs_nil (seg_leaf (.ok .next) (k n s₀ s' γ σ H2 ⟨s0, H0, I2, z, hz⟩ q2))
/-! ### for -/
def tGf (wi : TI) (g : TG) (tb : TGe) : TGe := fun yd nx n γ σ H => wi σ H fun J H1 => ∃ W : Nat → Nat → NX, (∃ m, W 0 m n γ σ H1) ∧ ∀ i m n γ σ H, W i m n γ σ H →
  (J.stop i H ∧ nx n γ σ H) ∨ (J.go i H ∧ ∃ N : NX, (∀ n' γ' σ' H', N n' γ' σ' H' → ∃ m', m' < m ∧ W (i + 1) m' n' γ' σ' H') ∧ ∀ x H', J.yld i H x H' → g x σ H' fun σ2 H2 => tb yd N n γ σ2 H2)
/-- what is so of an iterator of ours at any time -/
structure Own (c : Cx) (ip : List (Addr × Obj)) (b : Addr) : Prop where
  loc : c.env.locals ≤ b
  ne : b ≠ c.env.locals
  fs : b ∉ c.fs
  cells : ∀ x d, c.env.cells.lookup x = some d → d ≠ b
  pins : ∀ p ∈ c.pn ++ ip, p.1 ≠ b
theorem Own.of {s0 : Shared} {H0 H : Hp} {ip : List (Addr × Obj)} {b : Addr} (hx : NoX c) (hz : s0.heap.objs.size = c.env.locals) (f : FpOk (cg c s0 H0) ip H b) : Own c ip b := by
  obtain ⟨_, f1, f2, f3, f4, f5⟩ := f
  refine ⟨?_, f1, f2, f4, f5⟩
  rcases f3 with q | q
  · rw [show (cg c s0 H0).ex = [] from hx.ex] at q
    cases q
  · rw [← hz]
    exact q
theorem Own.fp {s0 : Shared} {H0 H : Hp} {ip : List (Addr × Obj)} {b : Addr} (hz : s0.heap.objs.size = c.env.locals) (o : Own c ip b) (hn : H b = none) : FpOk (cg c s0 H0) ip H b :=
  ⟨hn, o.ne, o.fs, .inr (by show s0.heap.objs.size ≤ b; rw [hz]; exact o.loc), o.cells, o.pins⟩
theorem ge_for {tg iter : Expr} {body : List Stmt} {pos : Pos} {wi : TI} {g : TG} {tb : TGe} (hx : NoX c) (hi : ∀ s0 H0, PI (cg c s0 H0) tg iter wi) (hg : ∀ s0 H0, PG (cg c s0 H0) tg g) (hb : GEs c body tb)
    (hs : ∀ x, foldedSetIterable iter c.env x = pure x := by intro _; rfl) : GE c (.For tg iter body [] pos) (tGf wi g tb) := by
  refine ⟨fun Z yd A ip R n s₀ co fs K J gd lv s γ σ H nx gt k hI ht => ?_⟩
  obtain ⟨s0, H0, I, z, hz⟩ := hI
  have ee : ∀ {α : Type} {t : Sem α} {Q : α → Shared → Prop} {E : Value → Shared → Prop} {s : Shared}, wpAny (model c.prog c.w) c.A t Q c.xe s → wpAny (model c.prog c.w) c.A t Q E s := fun h => wpAny_mono h (fun _ _ q => q) fun x s' hq => (hx.no x s' hq).elim
  have ef : ∀ {α : Type} {t : Sem α} {Q : α → Shared → Prop} {E : Value → Shared → Prop} {s : Shared}, wpAny (model c.prog c.w) c.A t Q (fun _ _ => False) s → wpAny (model c.prog c.w) c.A t Q E s := fun h => wpAny_mono h (fun _ _ q => q) fun x s' hq => hq.elim
  rw [exec_For]
  refine seg_bind_wrap (wpAny_standAt (seg_bind_wrap ?_))
  rw [gt.over]
  refine ee (thn ((hi s0 H0).run ip s σ H _ I ht) fun v s1 h1 => ?_)
  refine seg_bind_wrap (wpAny_of_eq (hs v) (seg_bind_wrap (wpAny_standAt (seg_bind_wrap (wpAny_holding ?_)))))
  rw [gt.over]
  refine ee (thn h1 fun itv s2 h2 => ?_)
  obtain ⟨it, fp, tn, JJ, H2, e, I2, T, st2, f2, W, ⟨m0, w0⟩, turn⟩ := h2
  subst e
  have own : ∀ b ∈ fp, Own c ip b := fun b hb => Own.of hx hz (f2 b hb)
  refine seg_call fun p => ?_
  suffices loop : ∀ (m n i : Nat) (s₀ s : Shared) (γ σ : L2.St) (H : Hp), W i m n γ σ H → IG c Z γ ip σ H s → tn i s.heap → (∀ b ∈ fp, H b = none) →
      SegG c Z yd A R n s₀ (.forLoop tg (.ref it) body [] c.env) ((model c.prog c.w).den (.forLoop tg (.ref it) body [] c.env)) (.ret _ none (gd false) (lv []) co p [] :: fs) s from
    loop m0 n 0 s₀ s2 γ σ H2 w0 ⟨s0, H0, I2, z, hz⟩ st2 fun b hb => (f2 b hb).1
  intro m
  induction m using Nat.strongRecOn with
  | ind m ih =>
    intro n i s₀ s γ σ H w hI st fr
    obtain ⟨s0, H0, I, z, hz⟩ := hI
    have g2 := fun (kk : Result → Sem PySem.Fin) => gt.loop (k := kk) (co' := .forLoop tg (.ref it) body [] c.env) (l := lv []) (kp := []) (p := p) rfl rfl
    show SegG c Z yd A R n s₀ _ ((forTurn tg (.ref it) body [] c.env).onRaise (fun x => do noteFrame x c.env; theTreesLotGoes x)) _ s
    rw [Sem.onRaise_eq_wrap]
    unfold forTurn
    refine seg_bind_wrap (wpAny_standAt (seg_bind_wrap (wpAny_onRaise ?_)))
    rw [(g2 _).over]
    rcases turn i m n γ σ H w with ⟨stop, qn⟩ | ⟨go, N, hN, step⟩
    · refine ef (thn (T.done (cg c s0 H0) rfl rfl rfl hx.calm i ip s σ H _ I (fun b hb => (own b hb).fp hz (fr b hb)) st stop) fun r s4 ⟨hr, I4⟩ => ?_)
      subst hr
      refine seg_again rfl ?_
      refine seg_bind (A := A) ?_
      refine wpAny_onRaise ?_
      refine wpAny_execs_nil ?_
      exact seg_leaf (.ok .next) (k n s₀ s4 γ σ H ⟨s0, H0, I4, z, hz⟩ qn)
    · refine ef (thn (T.item (cg c s0 H0) rfl rfl rfl hx.calm i ip s σ H _ I (fun b hb => (own b hb).fp hz (fr b hb)) st go) fun r s4 ⟨u, hr, h4⟩ => ?_)
      subst hr
      refine seg_bind_wrap ?_
      rw [(g2 _).over]
      refine ef (thn h4 fun _ s5 ⟨x, H5, I5, r5, y5, st5, fr5⟩ => ?_)
      have I5' := I5.pinned (fun b hb => (own b hb).fp hz (fr5 b hb)) (T.obj _ _ st5)
      refine seg_bind_wrap ?_
      rw [(g2 _).over]
      refine ee (thn ((hg s0 H0).run _ s5 σ H5 x u _ I5' r5 (step x H5 y5)) fun _ s6 ⟨σ6, H6, I6, q6⟩ => ?_)
      rw [Sem.bind_eq_wrap', Sem.wrap_wrap]
      have gp : ∀ kk : Result → Sem PySem.Fin, At c (ip ++ pinsAt fp s5.heap) A (.forLoop tg (.ref it) body [] c.env) (.ret kk none (gd false) (lv []) co p [] :: fs) id := fun kk =>
        ⟨fun q hq => (List.mem_append.mp hq).elim (gt.ip q) fun h => (own q.1 (of_pinsAt h).1).loc, (g2 kk).over, (g2 kk).split, (g2 kk).guard, rfl⟩
      refine hb.run Z yd A (ip ++ pinsAt fp s5.heap) R n s₀ _ _ _ _ _ _ s6 γ σ6 H6 N (gp _) (fun n' s₀' s7 γ' σ' H' hI' hn' => ?_) ⟨s0, H0, I6, z, hz⟩ q6
      obtain ⟨m', hm, w'⟩ := hN n' γ' σ' H' hn'
      obtain ⟨s0', H0', I7, z7, hz7⟩ := hI'
      refine seg_again rfl (ih m' hm n' (i + 1) s₀' s7 γ' σ' H' w' ⟨s0', H0', I7.unpinned, z7, hz7⟩ (T.keep _ _ _ st5 fun b hb o e => (I7.pin (b, o) (List.mem_append_right _ (List.mem_append_right _ (mem_pinsAt hb e)))).1) fun b hb => ?_)
      obtain ⟨o, e, d⟩ := T.obj _ _ st5 b hb
      exact (I7.pin (b, o) (List.mem_append_right _ (List.mem_append_right _ (mem_pinsAt hb e)))).2.1
end
end GF
end T_GenFor

section T_GenWalk
set_option linter.all false
set_option maxHeartbeats 4000000
/-! The loop's side: a generator that sleeps while the loop's body runs. -/
namespace GF
open PySem L2 PyProof.Rows GenW

/-! ### the heap with and without the generator's own objects -/
def cut (F : Addr → Bool) (H : Hp) : Hp := fun b => if F b = true then none else H b
def over (F : Addr → Bool) (h : Heap) (H : Hp) : Hp := fun b => if F b = true then some (.ext fun h' => h'.get? b = h.get? b) else H b
theorem cut_in {F : Addr → Bool} {H : Hp} {b : Addr} (h : F b = true) : cut F H b = none := if_pos h
theorem cut_out {F : Addr → Bool} {H : Hp} {b : Addr} (h : F b = false) : cut F H b = H b := if_neg (by rw [h]; decide)
theorem over_in {F : Addr → Bool} {h : Heap} {H : Hp} {b : Addr} (e : F b = true) : over F h H b = some (.ext fun h' => h'.get? b = h.get? b) := if_pos e
theorem over_out {F : Addr → Bool} {h : Heap} {H : Hp} {b : Addr} (e : F b = false) : over F h H b = H b := if_neg (by rw [e]; decide)
theorem bfalse {x : Bool} (h : ¬ x = true) : x = false := by cases x <;> simp_all
/-- H0 is Hc without some of its closed boxes -/
structure Less (Hc H0 : Hp) : Prop where
  no : ∀ b, Hc b = none → H0 b = none
  yes : ∀ b o, Hc b = some o → (∀ φ, o ≠ .ext φ) → H0 b = some o
theorem Less.rfl' {H : Hp} : Less H H := ⟨fun _ h => h, fun _ _ h _ => h⟩
theorem hok_less {P : Program} {w : World} {Hc H0 : Hp} {h : Heap} (k : HOk P w Hc h) (hs : ∀ b o, H0 b = some o → Hc b = some o) (l : Less Hc H0) : HOk P w H0 h := fun b o e =>
  (k b o (hs b o e)).stay (fun _ _ _ q => q) (fun d q => l.yes d _ q fun φ z => by cases z) fun d xs q => l.yes d _ q fun φ z => by cases z
theorem cut_less {F : Addr → Bool} {H : Hp} (hF : ∀ b, F b = true → ∃ φ, H b = some (.ext φ)) : Less H (cut F H) where
  no := fun b h => by
    by_cases q : F b = true
    · exact cut_in q
    · rw [cut_out (bfalse q)]; exact h
  yes := fun b o h hn => by
    by_cases q : F b = true
    · obtain ⟨φ, e⟩ := hF b q
      rw [h] at e
      cases e
      exact absurd rfl (hn φ)
    · rw [cut_out (bfalse q)]; exact h
theorem cut_sub {F : Addr → Bool} {H : Hp} : ∀ b o, cut F H b = some o → H b = some o := fun b o e => by
  by_cases q : F b = true
  · rw [cut_in q] at e
    cases e
  · rw [cut_out (bfalse q)] at e
    exact e
theorem hok_over {P : Program} {w : World} {F : Addr → Bool} {H : Hp} {h : Heap} (k : HOk P w H h) (hF : ∀ b, F b = true → H b = none ∧ ∃ o, h.get? b = some o) : HOk P w (over F h H) h := fun b u e => by
  by_cases q : F b = true
  · rw [over_in q] at e
    cases e
    obtain ⟨_, o, ho⟩ := hF b q
    exact ⟨rfl, ⟨o, ho⟩, fun h1 h2 p1 p2 => by
      rw [ho] at p1 ⊢
      exact p2 o p1⟩
  · rw [over_out (bfalse q)] at e
    refine (k b u e).stay (fun _ _ _ z => z) (fun d z => ?_) fun d xs z => ?_
    · have nq : F d = false := bfalse fun y => by rw [(hF d y).1] at z; cases z
      rw [over_out nq]; exact z
    · have nq : F d = false := bfalse fun y => by rw [(hF d y).1] at z; cases z
      rw [over_out nq]; exact z
theorem inv_gens {X : Cx} {pins : List (Addr × Obj)} {σ : L2.St} {H : Hp} {s : Shared} {gs : Array GenState} (I : Inv X pins σ H s) (hb : AllBare gs) : Inv X pins σ H { s with gens := gs } :=
  ⟨I.ok, I.os, hb, I.base, I.loc, I.cell, I.free, I.freeC, I.pin, I.hok, I.len⟩

/-! ### from one side to the other -/
theorem frames_tr {n : Nat} {h base : Heap} : ∀ {l : List Env}, h.FunFrames base l → (∀ b ∈ frs l, b < n) → (tr n h).FunFrames base l
  | [], _, _ => trivial
  | env :: r, hl, hb => by
    obtain ⟨hk, ⟨L, o, hf, hn, ho, hd⟩, hr⟩ := hl
    have hm : L ∈ frs (env :: r) := by
      unfold frs
      rw [List.filterMap_cons, hf]
      exact List.mem_cons_self
    refine ⟨hk, ⟨L, o, hf, hn, by rw [tr_at (hb L hm)]; exact ho, hd⟩, frames_tr hr fun b hb' => hb b ?_⟩
    unfold frs
    rw [List.filterMap_cons, hf]
    exact List.mem_cons_of_mem _ hb'
section
variable {c X : Cx} {ip pins : List (Addr × Obj)} {σ γ : L2.St} {H0 H1 H' Hj : Hp} {s0 s1 s7 : Shared}
/-- the generator wakes in s7: its own objects are as they were -/
theorem rebase (hx : NoX c) (hout : c.outer = X.stack) (hbase : c.base = X.base) (hpw : c.prog = X.prog ∧ c.w = X.w) (hz : s0.heap.objs.size = c.env.locals) (I : Inv (cg c s0 H0) ip σ H1 s1) (J : Inv X pins γ Hj s7)
    (hsz : c.env.locals ≤ s7.heap.objs.size) (hn : ∀ b, Hj b = none → H' b = none) (hok : HOk c.prog c.w H' s7.heap)
    (own : ∀ b o, (b = c.env.locals ∨ (∃ x, c.env.cells.lookup x = some b) ∨ ∃ p ∈ c.pn ++ ip, p.1 = b) → s1.heap.get? b = some o → s7.heap.get? b = some o)
    (nown : ∀ b, (b = c.env.locals ∨ (∃ x, c.env.cells.lookup x = some b) ∨ ∃ p ∈ c.pn ++ ip, p.1 = b) → H' b = none) :
    Inv (cg c { s7 with heap := tr c.env.locals s7.heap } H') ip σ H' s7 := by
  have hfl : ∀ b ∈ frs c.outer, b < c.env.locals := fun b hb => by
    obtain ⟨_, o, ho, _⟩ := I.ok.funs.mem hb
    have q := Heap.lt_size ho
    rw [show (cg c s0 H0).s_0 = s0 from rfl, hz] at q
    exact q
  have hbz : c.base.objs.size ≤ c.env.locals := by
    have q := I.ok.bsz
    rw [show (cg c s0 H0).s_0 = s0 from rfl, hz] at q
    exact q
  have cellk : ∀ x d, c.env.cells.lookup x = some d → ∀ v, s1.heap.IsCell d v → s7.heap.IsCell d v := fun x d e v ⟨o, ho, hd⟩ => ⟨o, own d o (.inr (.inl ⟨x, e⟩)) ho, hd⟩
  refine ⟨⟨I.ok.mod, I.ok.kind, I.ok.glob, I.ok.blt, ?_, I.ok.inj, I.ok.has, fun x d hf e => ?_, I.ok.hd, I.ok.frames, I.ok.stk, I.ok.exf, fun b o e => ?_, ?_, I.ok.noex, I.ok.exfs, ?_, fun b hb => ?_⟩, rfl, J.bare, ⟨fun b o e _ _ _ => (tr_of e).2, fun b o e _ _ _ => ⟨o.slots, (tr_of e).2⟩, fun b o _ n _ => n, fun b o e _ => ⟨o, (tr_of e).2⟩, fun _ _ q => q, fun _ _ _ q => q, fun b ps q => ⟨#[], by have q' : H' b = some (.tbl ps) := q; rw [q']; simp⟩⟩, ?_, fun x d e => ?_, ?_, fun x d e => ?_, fun p hp => ?_, hok, I.len⟩
  · show (tr c.env.locals s7.heap).objs.size ≤ c.env.locals
    rw [tr_size hsz]
    exact Nat.le_refl _
  · show (tr c.env.locals s7.heap).objs.size ≤ d
    have q := I.ok.cab x d hf e
    rw [show (cg c s0 H0).s_0 = s0 from rfl, hz] at q
    rw [tr_size hsz]
    exact q
  · have e' : X.base.get? b = some o := hbase ▸ e
    obtain ⟨q1, q2⟩ := J.bs b o e'
    refine ⟨?_, hn b q2⟩
    show (tr c.env.locals s7.heap).get? b = some o
    rw [tr_at (Nat.lt_of_lt_of_le (Heap.lt_size e) hbz)]
    exact q1
  · show c.base.objs.size ≤ (tr c.env.locals s7.heap).objs.size
    rw [tr_size hsz]
    exact hbz
  · show (tr c.env.locals s7.heap).FunFrames c.base c.outer
    refine frames_tr ?_ hfl
    rw [hout, hbase]
    exact J.stack
  · have hb' : b ∈ frs X.stack := by
      rw [← hout]
      exact hb
    exact hn b (J.stkFree b hb')
  · obtain ⟨m, ⟨oL, es, ep, hoL, hr⟩, hl⟩ := I.loc
    refine ⟨m, ⟨oL, es, ep, own _ oL (.inl rfl) hoL, hr⟩, fun i x v e1 e2 e3 => ?_⟩
    obtain ⟨u, ru, l⟩ := hl i x v e1 e2 e3
    refine ⟨u, ru, ?_⟩
    rcases l with l | ⟨kd, d, e, z⟩
    · exact .inl l
    · exact .inr ⟨kd, d, e, cellk x d e _ z⟩
  · obtain ⟨v, z⟩ := I.cell x d e
    exact ⟨v, cellk x d e v z⟩
  · exact nown _ (.inl rfl)
  · exact nown d (.inr (.inl ⟨x, e⟩))
  · obtain ⟨e, _, ne, nf, nd⟩ := I.pin p hp
    have hp' : p ∈ c.pn ++ ip := hp
    exact ⟨own p.1 p.2 (.inr (.inr ⟨p, hp', rfl⟩)) e, nown p.1 (.inr (.inr ⟨p, hp', rfl⟩)), ne, nf, nd⟩
/-- what lies above n is none of the loop's frame -/
def Low (X : Cx) (pins : List (Addr × Obj)) (n : Nat) : Prop := ∀ b, n ≤ b → X.s_0.heap.objs.size ≤ b ∧ b ≠ X.env.locals ∧ b ∉ X.fs ∧ (∀ x d, X.env.cells.lookup x = some d → d ≠ b) ∧ ∀ p ∈ X.pn ++ pins, p.1 ≠ b
theorem Low.of {σ : L2.St} {H : Hp} {s : Shared} (I : Inv X pins σ H s) : Low X pins s.heap.objs.size := fun b hb => by
  obtain ⟨_, f1, f2, f3, f4, f5⟩ := I.fpOk (H' := fun _ => none) hb rfl
  exact ⟨Nat.le_trans I.sz hb, f1, f2, f4, f5⟩
/-- what the loop knows where the generator woke -/
def ZOf (X : Cx) (pins : List (Addr × Obj)) (n : Nat) : ZP := fun γ s0 H0 => ∃ sr Hc, s0 = { sr with heap := tr n sr.heap } ∧ n ≤ sr.heap.objs.size ∧ Inv X pins γ Hc sr ∧ Less Hc H0
/-- the generator has run a segment -/
theorem toLoop (hx : NoX c) (hout : c.outer = X.stack) (hpw : c.prog = X.prog ∧ c.w = X.w) (low : Low X pins c.env.locals) (I : Inv (cg c s0 H0) ip σ H1 s1) (z : ZOf X pins c.env.locals γ s0 H0) {F : Addr → Bool}
    (hF : ∀ b, F b = true → c.env.locals ≤ b ∧ H1 b = none ∧ ∃ o, s1.heap.get? b = some o) : Inv X pins γ (over F s1.heap H1) s1 := by
  obtain ⟨sr, Hc, rfl, hn, J, l⟩ := z
  have nF : ∀ b, b < c.env.locals → F b = false := fun b hb => bfalse fun q => absurd (hF b q).1 (Nat.not_le.mpr hb)
  have nF2 : ∀ b o, H1 b = some o → F b = false := fun b o e => bfalse fun q => by rw [(hF b q).2.1] at e; cases e
  have lt : ∀ b o, b ∉ (List.range sr.heap.objs.size).filter (fun b => decide (c.env.locals ≤ b)) → sr.heap.get? b = some o → b < c.env.locals := fun b o hb e => by
    refine Nat.not_le.mp fun q => hb ?_
    exact List.mem_filter.mpr ⟨List.mem_range.mpr (Heap.lt_size e), decide_eq_true q⟩
  have at0 : ∀ b o, b < c.env.locals → sr.heap.get? b = some o → (tr c.env.locals sr.heap).get? b = some o := fun b o hb e => by rw [tr_at hb]; exact e
  have nex : ∀ b, b ∉ (cg c { sr with heap := tr c.env.locals sr.heap } H0).ex := fun b hb => by
    rw [show (cg c { sr with heap := tr c.env.locals sr.heap } H0).ex = [] from hx.ex] at hb
    cases hb
  have fse : (cg c { sr with heap := tr c.env.locals sr.heap } H0).fs = frs X.stack := by
    show frs c.outer = _
    rw [hout]
  refine J.call' (ch := (List.range sr.heap.objs.size).filter fun b => decide (c.env.locals ≤ b)) I.os ⟨fun b o e n hb hc => ?_, fun b o e n hb hc => ?_, fun b o e n hc => ?_, fun b o e hc => ?_, fun b xs q => ?_, fun b o xs q => ?_, fun b ps q => ?_⟩ ?_ I.bare fun b hb => ?_
  · exact I.base.keep b o (at0 b o (lt b o hc e) e) (l.no b n) (by rw [fse]; exact hb) (nex b)
  · exact I.base.slot b o (at0 b o (lt b o hc e) e) (l.no b n) (by rw [fse]; exact hb) (nex b)
  · rw [over_out (nF b (lt b o hc e))]
    exact I.base.free b o (at0 b o (lt b o hc e) e) (l.no b n) (nex b)
  · exact I.base.there b o (at0 b o (lt b o hc e) e) (nex b)
  · have q1 := I.base.tups b xs (l.yes b _ q fun φ z => by cases z)
    rw [over_out (nF2 b _ q1)]; exact q1
  · have q1 := I.base.frzs b o xs (l.yes b _ q fun φ z => by cases z)
    rw [over_out (nF2 b _ q1)]; exact q1
  · obtain ⟨m, q1⟩ := I.base.tbls b ps (l.yes b _ q fun φ z => by cases z)
    exact ⟨m, by rw [over_out (nF2 b _ q1)]; exact q1⟩
  · have k := hok_over I.hok fun b hb => ⟨(hF b hb).2.1, (hF b hb).2.2⟩
    rw [← hpw.1, ← hpw.2]
    exact k
  · obtain ⟨_, h2⟩ := List.mem_filter.mp hb
    obtain ⟨l1, l2, l3, l4, l5⟩ := low b (of_decide_eq_true h2)
    exact ⟨.inr l1, l2, l4, l5⟩
end

/-! ### the next item -/
section
variable {P : Program} {w : World} {A : Around} {E : Value → Shared → Prop} {s : Shared}
theorem resume_S {M : Model} {R : GenEnd} {Y : Protocol} {n g : Nat} {gs : GenState} {r : Resume} {l : List Value} {α : Type} {k : GenResult → Sem α} {Q : α → Shared → Prop} (hg : s.gens[g]? = some gs)
    (hgo : gs.Goes M A R Y n r (s.setGen g .running)) (hR : ∀ x s₁, R n (s.setGen g .running) x s₁ → wpAny M A (k (End.ret x).result) Q E (s₁.setGen g .finished))
    (hY : ∀ v s₁ kk ll cc pp ff, Y (n - 1) (s.setGen g .running) v s₁ (fun r' s'' => match n with | 0 => False | m + 1 => (GenState.suspended kk ll cc pp ff false).Goes M A R Y m r' s'') →
      wpAny M A (k (.yielded v)) Q E (s₁.setGen g (.suspended kk ll cc pp ff false))) : wpAny M A (.resume g r l k) Q E s := by
  intro Γ p hΓ
  rw [Sem.wp_resume]
  have key : ∀ c₁ p₁ t fs, Seg M A R Y n (s.setGen g .running) c₁ t fs (s.setGen g .running) → ∃ e₁ s₁, Runs M (Γ.wake c₁ p) p₁ t fs (s.setGen g .running) e₁ s₁ ∧ e₁.quiet = true ∧
      Sem.wp M Γ (k e₁.result) (fun a _ s' => Q a s') (fun e _ s' => E e s') p (s₁.setGen g e₁.genState) := fun c₁ p₁ t fs hs => by
    obtain ⟨e₁, s₁, hr, he⟩ := seg_iff.mp hs (Γ.wake c₁ p) p₁ rfl (hΓ.wake c₁ p)
    cases e₁ with
    | ret x => exact ⟨_, s₁, hr, rfl, hR x s₁ he Γ p hΓ⟩
    | susp v g₀ l₀ k₀ c₀ p₀ fs₀ =>
      obtain ⟨hq, hy⟩ := he
      have hb : (g₀ || fs₀.any Frame.guarded) = false := by
        have q : (!(g₀ || fs₀.any Frame.guarded)) = true := hq
        cases z : (g₀ || fs₀.any Frame.guarded) with
        | false => rfl
        | true => rw [z] at q; cases q
      refine ⟨_, s₁, hr, hq, ?_⟩
      have est : (End.susp v g₀ l₀ k₀ c₀ p₀ fs₀).genState = .suspended k₀ l₀ c₀ p₀ fs₀ false := by
        show GenState.suspended k₀ l₀ c₀ p₀ fs₀ (g₀ || fs₀.any Frame.guarded) = _
        rw [hb]
      rw [est]
      refine hY v s₁ k₀ l₀ c₀ p₀ fs₀ ?_ Γ p hΓ
      cases n with
      | zero => exact hy
      | succ m => exact hy
  cases gs with
  | fresh c =>
    obtain ⟨rfl, hs⟩ := hgo
    obtain ⟨e₁, s₁, hr, hq, h⟩ := key _ p _ _ hs
    exact ⟨_, _, by unfold Wakes; rw [hg]; exact ⟨e₁, s₁, hr, hq, rfl, rfl⟩, h⟩
  | suspended k₀ l₀ c₀ p₀ fs₀ cl =>
    obtain ⟨e₁, s₁, hr, hq, h⟩ := key _ p₀ _ _ hgo
    exact ⟨_, _, by unfold Wakes; rw [hg]; exact ⟨e₁, s₁, hr, hq, rfl, rfl⟩, h⟩
  | running => exact hgo.elim
  | finished => exact hgo.elim
theorem next_S {a : Addr} {g n : Nat} {gs : GenState} {R : GenEnd} {Y : Protocol} {Q : Option Value → Shared → Prop} (hh : A.handled = none) (hl : s.heap.NoLimit) (hroom : A.depth < recursionLimit) (hg : s.heap.IsGen a g) (hgs : s.gens[g]? = some gs)
    (hgo : gs.Goes (model P w) A.in1 R Y n (.send .none) (s.setGen g .running))
    (hR : ∀ r s₁, R n (s.setGen g .running) r s₁ → (r = .ok (.ret .none) ∨ r = .ok .next) ∧ ∀ h', (∀ b o, s₁.heap.get? b = some o → h'.get? b = some o) → Q none { s₁.setGen g .finished with heap := h' })
    (hY : ∀ v s₁ kk ll cc pp ff, Y (n - 1) (s.setGen g .running) v s₁ (fun r' s'' => match n with | 0 => False | m + 1 => (GenState.suspended kk ll cc pp ff false).Goes (model P w) A.in1 R Y m r' s'') →
      Q (some v) (s₁.setGen g (.suspended kk ll cc pp ff false))) : wpAny (model P w) A (pyNext (.ref a)) Q E s := by
  unfold pyNext
  refine wpAny_bind (wpAny_attempt (wpAny_callSpecial?_slot (name := Str.ofString "__next__") hg.typeIs slot_gen_next (wpAny_call_entry slot_gen_next hg.typeIs entry_gen_next ?_ (args_gen_next _))))
  show wpAny _ A.in1 (Builtin.Generator.genWake (.ref a) (.send .none)) _ _ s
  unfold Builtin.Generator.genWake
  refine wpAny_bind (wpAny_holding (wpAny_genNumber hg (wpAny_bind (wpAny_genState hgs ?_))))
  cases gs with
  | running => exact hgo.elim
  | finished => exact hgo.elim
  | _ =>
    refine wpAny_bind (wpAny_roomToWake hl hroom ?_)
    show wpAny _ A.in1 (.resume g (.send .none) [] _) _ _ s
    refine resume_S hgs hgo (fun x s₁ hx => ?_) (fun v s₁ kk ll cc pp ff hv => ?_)
    · obtain ⟨hr, hp⟩ := hR x s₁ hx
      have hres : End.result (.ret x) = .returned .none := by
        rcases hr with hr | hr <;> rw [hr] <;> rfl
      first | rw [hres] | simp only [hres]
      show wpAny _ A.in1 (newExc (.type "StopIteration") [] >>= _) _ _ _
      simp only [newExc, newTuple]
      refine wpAny_bind (wpAny_bind (wpAny_newObj_type ?_ (by size_fits)))
      refine wpAny_bind (m := firstArgMember _ _) (wpAny_of_eq (a := Value.none) (by first | rfl | (simp only [firstArgMember]; rfl)) (wpAny_newObj_type ?_ (by size_fits)))
      simp only [raiseNew]
      refine wpAny_bind (wpAny_bind (wpAny_handled ?_))
      first | rw [show A.in1.handled = none from hh] | rw [hh]
      refine wpAny_throw (wpAny_bind (wpAny_isInstance (T := "StopIteration") (b := true) ⟨_, Heap.get?_push_size _ rfl, rfl⟩ isSubtype_stop ?_))
      exact wpAny_pure (hp _ fun b o hb => Heap.get?_push_of_some _ (Heap.get?_push_of_some _ hb))
    · exact wpAny_pure ⟨v, rfl, wpAny_pure (hY v s₁ kk ll cc pp ff hv)⟩
end

/-! ### a generator that was made by a call -/
def cgen (P : Program) (w : World) (K : PySem.W.Frag) (mg : Str → Option Value) (base : Heap) (N : List Str) (qual : Str) (scope : Scope) (f : Addr) (cd : Value) (A : Around) (outer : List Env) (s : Shared) (H : Hp) (pn : List (Addr × Obj)) : Cx :=
  { (cxOf CX0 P w K mg base N qual scope f cd A outer s H E0).nox with pn := pn }
abbrev SpY := List V → Hp → YD → (L2.St → Hp → Prop) → Nat → L2.St → Prop
structure GFY (P : Program) (w : World) (K : PySem.W.Frag) (mg : Str → Option Value) (base : Heap) (k : Nat) (f : Addr) (fd : FuncData) (ps : List Str) (sp : SpY) : Prop where
  len : ∀ vs H yd fin n γ, sp vs H yd fin n γ → vs.length = ps.length
  run : ∃ (x qual : Str) (params : Arguments) (body : List Stmt) (scope : Scope) (N : List Str), FunD K x qual params body scope [] [] f fd ∧ GScope N ps scope ∧
    ∀ cd A outer s H pn, (∀ p ∈ pn, s.heap.objs.size ≤ p.1) → Room k (A.deeper (envOfC qual scope s.heap.objs.size f cd)) → ∃ t, GEs (cgen P w K mg base N qual scope f cd A outer s H pn) body t ∧
      ∀ vs H1 yd fin n γ, sp vs H1 yd fin n γ → t yd (fun _ γ' _ H' => fin γ' H') n γ (start N vs) H1
def RPr (c : Cx) (Z : ZP) (fin : L2.St → Hp → Prop) : GenEnd := fun _ _ r s1 => (r = .ok (.ret .none) ∨ r = .ok .next) ∧ ∃ γ σ H, IG c Z γ [] σ H s1 ∧ fin γ H
/-- what such a call gives -/
structure MadeG (X : Cx) (pins : List (Addr × Obj)) (σ : L2.St) (H : Hp) (n0 : Addr) (yd : YD) (fin : L2.St → Hp → Prop) (n : Nat) (u : Value) (s' : Shared) : Prop where
  ex : ∃ (c : Cx) (a g : Nat) (go : Obj) (co : Code) (σg : L2.St) (sc : Shared), u = .ref a ∧ NoX c ∧ c.outer = X.stack ∧ c.base = X.base ∧ (c.prog = X.prog ∧ c.w = X.w) ∧ c.env.locals = n0 ∧ sc.heap.objs.size = n0 ∧ c.pn = [(a, go)] ∧
    (∀ h : Heap, h.get? a = some go → h.IsGen a g) ∧ s'.gens[g]? = some (.fresh co) ∧ Inv (cg c sc H) [] σg H s' ∧
    ∀ Z s₀ s2 γ, IG c Z γ [] σg H s2 → γ = σ → Seg (model X.prog X.w) X.A.in1 (RPr c Z fin) (YPr c Z yd) n s₀ co ((model X.prog X.w).den co) [] s2
  inv : Inv X pins σ H s'
theorem made_of {X : Cx} {pins : List (Addr × Obj)} {σ : L2.St} {H : Hp} {s : Shared} {k n : Nat} {f : Addr} {fd : FuncData} {ps : List Str} {sp : SpY} {us : List Value} {vs : List V} {yd : YD} {fin : L2.St → Hp → Prop}
    (F : GFY X.prog X.w X.K X.mg X.base k f fd ps sp) (hr : Room (k + 2) X.A) (I : Inv X pins σ H s) (hb : BindsTo s fd ⟨us, []⟩ (ps.zip us)) (r : Vals vs us) (h : sp vs H yd fin n σ) :
    codeAny (model X.prog X.w) X.A (.call (.ref f) ⟨us, []⟩) (fun r s' => match r with | .ok (.ret u) => MadeG X pins σ H s.heap.objs.size yd fin n u s' | _ => False) s := by
  obtain ⟨x, qual, params, body, scope, N, FD, S, hbody⟩ := F.run
  obtain ⟨oc, od, dV, kV, doc, pm, an, cdv, ct, osl, rfl, lk, hcd, _, _⟩ := FD.ex
  have hl := F.len _ _ _ _ _ _ h
  have e0 := I.env0
  have hkind : ∀ y ∈ ps.zip us, scope.names.lookup y.1 = some .local ∨ (scope.names.lookup y.1 = some .cell ∧ ((cellsFrom (s.heap.objs.size + 1) scope.names []).lookup y.1).isSome = true) := fun ⟨nm, v⟩ hy =>
    (S.par nm (List.of_mem_zip hy).1).elim .inl fun q => .inr ⟨q, PySem.W.cellsFrom_some _ _ _ (.inl q)⟩
  refine codeAny_call_generator hr.depth (I.kIn _ _ lk) rfl S.co S.gen rfl (PySem.W.codeRec_of I.kIn hcd) (hb _ _ _ _ ?_)
  refine wpAny_newFunctionEnv_cells S.kind hkind fun env he s1 xc => ?_
  subst he
  have lim1 : s1.heap.NoLimit := I.nolimit.keeps xc.toInCall.keep
  refine ⟨lim1, ?_⟩
  obtain ⟨h1, tk, es1, hk1⟩ := xc.done
  have gen1 : s1.gens = s.gens := by rw [es1]
  have os1 : s1.os = s.os := by rw [es1]
  have kp1 : ∀ b o, s.heap.get? b = some o → s1.heap.get? b = some o := xc.toInCall.keep
  have lt1 : s.heap.objs.size < s1.heap.objs.size := xc.toInCall.ns.lt
  have kp2 : ∀ {go : Obj} b o, s1.heap.get? b = some o → (s1.heap.push go).get? b = some o := fun b o e => Heap.get?_push_of_some _ e
  have e0w : Env0 X.prog X.w X.K X.mg X.base X.A.in1 X.stack s H := ⟨e0.frames, e0.mod, e0.bs, e0.bsz, e0.funs, e0.frf, e0.hok, e0.bare⟩
  suffices main : ∀ (go : Obj) (nm qn : Value) (tk2 : Nat), go.cls = .type "generator" → go.data = .fields #[.int s1.gens.size 0, nm, qn] → go.slots = #[] → (∀ h : Heap, (h.push go).get? h.objs.size = some go) →
      MadeG X pins σ H s.heap.objs.size yd fin n (.ref s1.heap.objs.size) { s1 with gens := s1.gens.push (.fresh (.func body (envOfC qual scope s.heap.objs.size f cdv))), toks := tk2, heap := s1.heap.push go } from main _ _ _ _ rfl rfl rfl fun h => Heap.get?_push_size _ rfl
  intro go nm qn tk2 hgc hgd hgs hgp
  have hb2 : AllBare (s1.gens.push (.fresh (.func body (envOfC qual scope s.heap.objs.size f cdv)))) := AllBare.push (by rw [gen1]; exact I.bare) rfl
  have I1 : Inv (cgen X.prog X.w X.K X.mg X.base N qual scope f cdv X.A.in1 X.stack s H []) [] (start N vs) H s1 := (inv_startG (E := E0) (A := X.A.in1) (P := X.prog) (w := X.w) (K := X.K) (mg := X.mg) (base := X.base) (qual := qual) (f := f) (cd := cdv) S hr.in1.hd e0w hl r xc).wish fun _ _ => False
  have I2 : Inv (cgen X.prog X.w X.K X.mg X.base N qual scope f cdv X.A.in1 X.stack s H []) [] (start N vs) H { s1 with gens := s1.gens.push (.fresh (.func body (envOfC qual scope s.heap.objs.size f cdv))), toks := tk2, heap := s1.heap.push go } :=
    I1.call' (ch := []) rfl (Un.kept kp2) (I1.hok.kept kp2) hb2 fun b z => by simp at z
  have hgo : (s1.heap.push go).get? s1.heap.objs.size = some go := hgp _
  have hfr : H s1.heap.objs.size = none := I1.hok.fresh (Nat.le_refl _)
  have hnc : ∀ v, go.data ≠ .cell v := fun v q => by rw [hgd] at q; cases q
  refine ⟨⟨cgen X.prog X.w X.K X.mg X.base N qual scope f cdv X.A.in1 X.stack s H [(s1.heap.objs.size, go)], s1.heap.objs.size, s1.gens.size, go, _, start N vs, s, rfl, ⟨fun _ _ q => q, rfl, fun p hp => ?_, fun _ => rfl, rfl⟩, rfl, rfl, ⟨rfl, rfl⟩, rfl, rfl, rfl, fun h e => ⟨go, nm, qn, e, hgc, hgd, hgs⟩, Array.getElem?_push_size .., ?_, fun Z s₀ s2 γ hI hγ => ?_⟩, ?_⟩
  · rw [List.mem_singleton.mp hp]
    exact Nat.le_of_lt lt1
  · refine ⟨⟨I2.ok.mod, I2.ok.kind, I2.ok.glob, I2.ok.blt, I2.ok.above, I2.ok.inj, I2.ok.has, I2.ok.cab, I2.ok.hd, I2.ok.frames, I2.ok.stk, I2.ok.exf, I2.ok.bs, I2.ok.bsz, I2.ok.noex, I2.ok.exfs, I2.ok.funs, I2.ok.frf⟩, I2.os, I2.bare, I2.base, I2.loc, I2.cell, I2.free, I2.freeC, fun p hp => ?_, I2.hok, I2.len⟩
    have hp' : p ∈ [(s1.heap.objs.size, go)] ++ ([] : List (Addr × Obj)) := hp
    rw [List.append_nil] at hp'
    rw [List.mem_singleton.mp hp']
    exact ⟨hgo, hfr, Nat.ne_of_gt lt1, I1.nofs (Nat.le_refl _), hnc⟩
  · subst hγ
    have hrw : Room (k + 1) X.A.in1 := hr.in1
    obtain ⟨t, ht, hq⟩ := hbody cdv X.A.in1 X.stack s H [(s1.heap.objs.size, go)] (fun p hp => by rw [List.mem_singleton.mp hp]; exact Nat.le_of_lt lt1) (hrw.deeper _)
    refine seg_func ?_
    refine ht.run Z yd X.A.in1 [] (RPr _ Z fin) n s₀ _ [] _ _ id id s2 γ (start N vs) H _ ⟨fun p hp => (by simp at hp), over_func, rfl, rfl, rfl⟩ (fun n' s₀' s' γ' σ' H' hI' hf => ?_) hI (hq vs H yd fin n γ h)
    exact seg_end (.ok (.ret .none)) ⟨.inl rfl, γ', σ', H', hI', hf⟩
  · exact I.call' (ch := []) os1 (Un.kept fun b o e => kp2 b o (kp1 b o e)) (I.hok.kept fun b o e => kp2 b o (kp1 b o e)) hb2 fun b z => by simp at z

/-! ### the loop -/
/-- where an item is out: the loop's body in the heap with the generator's closed boxes; they stay closed -/
def ydOf (g : TG) (tb : TS) : YD := fun γ x H K => ∀ (F : Addr → Bool) (Hc : Hp), (∀ b, F b = true → H b = none ∧ ∃ φ, Hc b = some (.ext φ)) → (∀ b, F b = false → Hc b = H b) →
  g x γ Hc fun σ2 H2 => tb { nx := fun σ3 H3 => (∀ b, F b = true → H3 b = Hc b) ∧ K σ3 (cut F H3), ct := fun σ3 H3 => (∀ b, F b = true → H3 b = Hc b) ∧ K σ3 (cut F H3), rt := fun _ _ => False } σ2 H2
/-- the boxes -/
def boxes (c : Cx) (ip : List (Addr × Obj)) (b : Addr) : Bool := decide (b = c.env.locals) || (c.env.cells.any fun q => decide (c.env.cells.lookup q.1 = some b)) || (c.pn ++ ip).any fun p => decide (p.1 = b)
theorem boxes_of {c : Cx} {ip : List (Addr × Obj)} {b : Addr} (h : b = c.env.locals ∨ (∃ x, c.env.cells.lookup x = some b) ∨ ∃ p ∈ c.pn ++ ip, p.1 = b) : boxes c ip b = true := by
  unfold boxes
  rcases h with h | ⟨x, h⟩ | ⟨p, hp, h⟩
  · rw [decide_eq_true h, Bool.true_or, Bool.true_or]
  · have q : (c.env.cells.any fun q => decide (c.env.cells.lookup q.1 = some b)) = true := List.any_eq_true.mpr ⟨(x, b), PySem.mem_of_lookup h, decide_eq_true h⟩
    rw [q, Bool.or_true, Bool.true_or]
  · have q : ((c.pn ++ ip).any fun p => decide (p.1 = b)) = true := List.any_eq_true.mpr ⟨p, hp, decide_eq_true h⟩
    rw [q, Bool.or_true]
theorem boxes_in {c : Cx} {ip : List (Addr × Obj)} {b : Addr} (h : boxes c ip b = true) : b = c.env.locals ∨ (∃ x, c.env.cells.lookup x = some b) ∨ ∃ p ∈ c.pn ++ ip, p.1 = b := by
  unfold boxes at h
  rcases Bool.or_eq_true_iff.mp h with h | h
  · rcases Bool.or_eq_true_iff.mp h with h | h
    · exact .inl (of_decide_eq_true h)
    · obtain ⟨⟨x, d⟩, hq, e⟩ := List.any_eq_true.mp h
      exact .inr (.inl ⟨x, of_decide_eq_true e⟩)
  · obtain ⟨p, hp, e⟩ := List.any_eq_true.mp h
    exact .inr (.inr ⟨p, hp, of_decide_eq_true e⟩)
section
variable {X : Cx} {pins : List (Addr × Obj)} {tg : Expr} {body : List Stmt} {g : TG} {tb : TS} {D : Ends}
theorem loop_core (hX : ∀ v s, X.xe v s → False) (hr : Room 1 X.A) (hg : PG X tg g) (hb : PSs X body tb) {σ : L2.St} {H : Hp} {n : Nat} {u : Value} {s : Shared} {n0 : Addr} (low : Low X pins n0) (hn0 : n0 ≤ s.heap.objs.size)
    (M : MadeG X pins σ H n0 (ydOf g tb) D.nx n u s) (E : Value → Shared → Prop) :
    ∃ a, u = .ref a ∧ (∃ gg, s.heap.IsGen a gg) ∧ codeAny (model X.prog X.w) X.A (.forLoop tg (.ref a) body [] X.env) (fun r s' => match r with | .ok f => SP X pins D f s' | .error e => E e s') s := by
  obtain ⟨⟨c, a, gg, go, co, σg, sc, rfl, hx, hout, hbase, hpw, hloc, hsc, hpn, hgen, hfresh, Ig, hseg⟩, J0⟩ := M
  have ex : ∀ {α : Type} {t : Sem α} {Q : α → Shared → Prop} {E : Value → Shared → Prop} {s : Shared}, wpAny (model X.prog X.w) X.A t Q (fun _ _ => False) s → wpAny (model X.prog X.w) X.A t Q E s := fun h => wpAny_mono h (fun _ _ q => q) fun x s' hq => hq.elim
  have ex2 : ∀ {α : Type} {t : Sem α} {Q : α → Shared → Prop} {s : Shared}, wpAny (model X.prog X.w) X.A t Q X.xe s → wpAny (model X.prog X.w) X.A t Q (fun _ _ => False) s := fun h => wpAny_mono h (fun _ _ q => q) fun x s' hq => hX x s' hq
  have hgo0 : s.heap.get? a = some go := (Ig.pin (a, go) (List.mem_append_left _ (by show (a, go) ∈ c.pn; rw [hpn]; exact List.mem_singleton.mpr rfl))).1
  have lowc : Low X pins c.env.locals := by rw [hloc]; exact low
  refine ⟨a, rfl, ⟨gg, hgen _ hgo0⟩, ?_⟩
  refine codeAny_forLoop_any (fun m s => ∃ gs γ Hc, s.gens[gg]? = some gs ∧ s.heap.get? a = some go ∧ Inv X pins γ Hc s ∧ gs.Goes (model X.prog X.w) X.A.in1 (RPr c (ZOf X pins c.env.locals) D.nx) (YPr c (ZOf X pins c.env.locals) (ydOf g tb)) m (.send .none) (s.setGen gg .running)) ?_ n
    ⟨.fresh co, σ, H, hfresh, hgo0, J0, ⟨rfl, ?_⟩⟩
  rotate_left
  · -- it begins
    have hbr : AllBare (s.setGen gg .running).gens := allBare_setGen J0.bare rfl
    have J1 : Inv X pins σ H (s.setGen gg .running) := inv_gens J0 hbr
    refine hseg _ _ _ σ ⟨{ (s.setGen gg .running) with heap := tr c.env.locals (s.setGen gg .running).heap }, H, rebase hx hout hbase hpw (by rw [hsc, hloc]) Ig J1 (by rw [hloc]; exact hn0) (fun _ h => h) ?_ (fun _ _ _ e => e) (fun b hb' => ?_), ⟨_, H, rfl, by rw [hloc]; exact hn0, J1, .rfl'⟩, ?_⟩ rfl
    · rw [hpw.1, hpw.2]
      exact J1.hok
    · rcases hb' with q | ⟨x, q⟩ | ⟨p, hp, q⟩
      · rw [q]; exact Ig.free
      · exact Ig.freeC x b q
      · rw [← q]; exact (Ig.pin p hp).2.1
    · show (tr c.env.locals s.heap).objs.size = c.env.locals
      exact tr_size (by rw [hloc]; exact hn0)
  · rintro m s ⟨gs, γ, Hc, hgs, hga, J, hgoes⟩
    refine wpAny_gsz (n := gg + 1) (Array.getElem?_eq_some_iff.mp hgs).1 ?_
    refine next_S (P := X.prog) (w := X.w) hr.hd J.nolimit hr.depth (hgen _ hga) hgs hgoes (fun r s₁ hrp => ?_) fun v s₁ kk ll cc pp ff hy hgz => ?_
    · -- it is through
      obtain ⟨hr', γ', σ', H', ⟨s0, H0, I, z, hz⟩, q⟩ := hrp
      refine ⟨hr', fun h' hk _ => wpAny_execs_nil ⟨γ', H', ?_, q⟩⟩
      have J2 := toLoop (F := fun _ => false) hx hout hpw lowc I z fun b hb' => by cases hb'
      have eo : over (fun _ => false) s₁.heap H' = H' := funext fun b => over_out rfl
      rw [eo] at J2
      have J3 : Inv X pins γ' H' { s₁ with heap := h', toks := s₁.toks } := J2.kept hk
      exact inv_gens J3 (allBare_setGen J2.bare rfl)
    · -- an item
      obtain ⟨γ', x, ip, σ', H1, K, rv, ⟨s0, H0, I, z, hz⟩, hip, hyd, hk⟩ := hy
      have hF : ∀ b, boxes c ip b = true → c.env.locals ≤ b ∧ H1 b = none ∧ ∃ o, s₁.heap.get? b = some o := fun b hb' => by
        rcases boxes_in hb' with q | ⟨x, q⟩ | ⟨p, hp, q⟩
        · obtain ⟨_, ⟨o, _, _, ho, _⟩, _⟩ := I.loc
          rw [q]
          exact ⟨Nat.le_refl _, I.free, o, ho⟩
        · have q' := q
          obtain ⟨v, o, ho, _⟩ := I.cell x b q'
          have q3 := I.ok.cab x b (hx.fn x) q'
          rw [show (cg c s0 H0).s_0 = s0 from rfl, hz] at q3
          exact ⟨q3, I.freeC x b q', o, ho⟩
        · obtain ⟨h1, h2, _⟩ := I.pin p hp
          rw [← q]
          refine ⟨?_, h2, p.2, h1⟩
          rcases List.mem_append.mp hp with w | w
          · exact hx.pn p w
          · exact hip p w
      have J4 : Inv X pins γ' (over (boxes c ip) s₁.heap H1) (s₁.setGen gg (.suspended kk ll cc pp ff false)) := inv_gens (toLoop hx hout hpw lowc I z hF) (allBare_setGen I.bare rfl)
      have hba : boxes c ip a = true := boxes_of (.inr (.inr ⟨(a, go), List.mem_append_left _ (by rw [hpn]; exact List.mem_singleton.mpr rfl), rfl⟩))
      have hga1 : s₁.heap.get? a = some go := (I.pin (a, go) (List.mem_append_left _ (by show (a, go) ∈ c.pn; rw [hpn]; exact List.mem_singleton.mpr rfl))).1
      obtain ⟨go', nm, qn, hgo', hgc, hgd, _⟩ := hgen _ hga1
      rw [hga1] at hgo'
      cases hgo'
      refine go_of (s := s₁.setGen gg (.suspended kk ll cc pp ff false)) hga1 hgc hgd (by decide) ?_
      have hbody := hyd (boxes c ip) (over (boxes c ip) s₁.heap H1) (fun b hb' => ⟨(hF b hb').2.1, _, over_in hb'⟩) (fun b hb' => over_out hb')
      refine wpAny_mono (asleep J4.bare fun ga hga => hg.run pins { (s₁.setGen gg (.suspended kk ll cc pp ff false)) with gens := ga } γ' _ x v _ (inv_gens J4 hga) rv hbody) (fun _ s5 ⟨ga, ⟨σ5, H5, I5, q5⟩, hbare5, sl5⟩ => ?_) fun x s' ⟨ga, q, _⟩ => (hX _ _ q).elim
      have J5 : Inv X pins σ5 H5 s5 := by
        have q := inv_gens (s := { s5 with gens := ga }) (gs := s5.gens) I5 (hbare5 I5.bare)
        exact q
      refine wpAny_mono (asleep J5.bare fun gb hgb => hb.run pins { s5 with gens := gb } σ5 H5 _ (inv_gens J5 hgb) q5) (fun f s6 ⟨gb, hf, hbare6, sl6⟩ => ?_) fun x s' ⟨ga, q, _⟩ => (hX _ _ q).elim
      have hsl : s6.gens[gg]? = some (.suspended kk ll cc pp ff false) := sl6.slept _ _ _ _ _ _ _ (sl5.slept _ _ _ _ _ _ _ (setGen_at (by
        have q : (s₁.setGen gg (.suspended kk ll cc pp ff false)).gens.size = s₁.gens.size := setGen_size _ _ _
        rw [q] at hgz
        exact hgz)))
      have again : ∀ {σ6 : L2.St} {H6 : Hp}, Inv X pins σ6 H6 { s6 with gens := gb } → (∀ b, boxes c ip b = true → H6 b = over (boxes c ip) s₁.heap H1 b) → K σ6 (cut (boxes c ip) H6) →
          ∃ m', m' < m ∧ ∃ gs γ Hc, s6.gens[gg]? = some gs ∧ s6.heap.get? a = some go ∧ Inv X pins γ Hc s6 ∧ gs.Goes (model X.prog X.w) X.A.in1 (RPr c (ZOf X pins c.env.locals) D.nx) (YPr c (ZOf X pins c.env.locals) (ydOf g tb)) m' (.send .none) (s6.setGen gg .running) := fun {σ6 H6} I6 hbox hK => by
        have J6 : Inv X pins σ6 H6 s6 := by
          have q := inv_gens (s := { s6 with gens := gb }) (gs := s6.gens) I6 (hbare6 I6.bare)
          exact q
        have same : ∀ b, boxes c ip b = true → s6.heap.get? b = s₁.heap.get? b := fun b hb' => by
          have e := hbox b hb'
          rw [over_in hb'] at e
          exact (J6.hok b _ e).1
        have hga6 : s6.heap.get? a = some go := by rw [same a hba]; exact hga1
        have J7 : Inv X pins σ6 H6 (s6.setGen gg .running) := inv_gens J6 (allBare_setGen J6.bare rfl)
        have ls : Less H6 (cut (boxes c ip) H6) := cut_less fun b hb' => ⟨_, by rw [hbox b hb', over_in hb']⟩
        have hsz : c.env.locals ≤ (s6.setGen gg .running).heap.objs.size := by
          obtain ⟨_, ⟨o, _, _, ho, _⟩, _⟩ := I.loc
          have q := same c.env.locals (boxes_of (.inl rfl))
          rw [show s₁.heap.get? c.env.locals = some o from ho] at q
          exact Nat.le_of_lt (Heap.lt_size q)
        have wake := hk σ6 (cut (boxes c ip) H6) (s6.setGen gg .running) ⟨_, _, rebase hx hout hbase hpw hz I J7 hsz ls.no (by rw [hpw.1, hpw.2]; exact hok_less J7.hok cut_sub ls) (fun b o hb' e => by
            show s6.heap.get? b = some o
            rw [same b (boxes_of hb')]
            exact e) (fun b hb' => cut_in (boxes_of hb')), ⟨_, H6, rfl, hsz, J7, ls⟩, tr_size hsz⟩ hK
        cases m with
        | zero => exact wake.elim
        | succ m' => exact ⟨m', Nat.lt_succ_self _, _, σ6, H6, hsl, hga6, J6, wake⟩
      cases f with
      | next => obtain ⟨σ6, H6, I6, h1, h2⟩ := hf; exact again I6 h1 h2
      | cont => obtain ⟨σ6, H6, I6, h1, h2⟩ := hf; exact again I6 h1 h2
      | brk => obtain ⟨_, _, _, q⟩ := hf; exact q.elim
      | ret v => obtain ⟨_, _, _, _, _, q⟩ := hf; exact q.elim
/-! ### the statement -/
def tForG (t : TA) (sp : SpY) (g : TG) (tb : TS) : TS := fun D σ H => t σ H fun vs H1 => ∃ n, sp vs H1 (ydOf g tb) D.nx n σ
theorem made_size {σ : L2.St} {H : Hp} {n0 : Addr} {yd : YD} {fin : L2.St → Hp → Prop} {n : Nat} {u : Value} {s' : Shared} (M : MadeG X pins σ H n0 yd fin n u s') : n0 ≤ s'.heap.objs.size := by
  obtain ⟨c, a, g, go, co, σg, sc, _, _, _, _, _, hloc, _, _, _, _, I, _⟩ := M.ex
  rw [← hloc]
  exact Nat.le_of_lt I.lt
theorem forG_end {iter : Expr} {pos : Pos} {s : Shared} {σ : L2.St} (hX : ∀ v s, X.xe v s → False) (hr : Room 1 X.A) (hg : PG X tg g) (hb : PSs X body tb) (hs : ∀ x, foldedSetIterable iter X.env x = pure x)
    (h : wpAny (model X.prog X.w) X.A (eval iter X.env) (fun u s' => ∃ (s1 : Shared) (H1 : Hp) (n : Nat), Inv X pins σ H1 s1 ∧ MadeG X pins σ H1 s1.heap.objs.size (ydOf g tb) D.nx n u s') X.xe s) :
    wpAny (model X.prog X.w) X.A (exec (.For tg iter body [] pos) X.env) (SP X pins D) X.xe s := by
  refine wpAny_For (thn h fun u s1 ⟨sc, H1, n, I, M⟩ => ?_) hs
  obtain ⟨a, rfl, ⟨gg, hgn⟩, hc⟩ := loop_core hX hr hg hb (Low.of I) (made_size M) M fun e s' => cameBackBy (model X.prog X.w) X.A X.env X.xe e s'
  exact wpAny_pyIter_gen hgn hc
/-- for tg in f(e, ..): f a generator def -/
theorem ps_forG {k : Nat} {f : Addr} {fd : FuncData} {ps : List Str} {sp : SpY} {x : Str} {p pos pos' : Pos} {e : Expr} {es : List Expr} {t : TA} (hX : ∀ v s, X.xe v s → False) (F : GFY X.prog X.w X.K X.mg X.base k f fd ps sp) (hr : Room (k + 2) X.A) (hgl : Gl X x) (hm : X.mg x = some (.ref f))
    (hk : PySem.W.keepIn X.K (.ref f) = true) (hbd : Binds X.K fd ps []) (ha : PA X (e :: es) t) (hg : PG X tg g) (hb : PSs X body tb) (hdb : (x == ("__debug__" : Str)) = false := by decide)
    (he : starEach (e :: es) X.env = (false, eval e X.env) :: starEach es X.env := by rfl) (hpl : (backTo pos' (starEach es X.env)).any (·.1) = false := by rfl) (hs : ∀ y, foldedSetIterable (.Call (.Name x p) (e :: es) [] pos') X.env y = pure y := by intro _; rfl) :
    PS X (.For tg (.Call (.Name x p) (e :: es) [] pos') body [] pos) (tForG t sp g tb) := by
  refine ⟨fun pins s σ H D I h => ?_⟩
  refine forG_end (σ := σ) (D := D) (pins := pins) (s := s) hX (hr.mono (by omega)) hg hb hs ?_
  refine wpAny_Call_Name_kw (ld_glob I hgl hm ?_ hdb)
  refine PySem.W.callWith_K (h₀ := X.base) I.ok.mod.kin hk (thn (ha.run pos' pins s σ H _ I h) fun us s1 ⟨vs, H1, I1, r, n, q⟩ => ⟨I1.kIn, ?_⟩) he hpl
  have hl := F.len _ _ _ _ _ _ q
  have b1 := hbd s1 us I1.kIn (by rw [List.append_nil, ← r.length]; exact hl)
  rw [List.append_nil] at b1
  refine wpAny_call (codeAny_mono (made_of F hr I1 b1 r q) fun r s' hq => ?_)
  cases r with
  | error e => exact hq.elim
  | ok fl =>
    cases fl with
    | ret u => exact ⟨s1, H1, n, I1, hq⟩
    | _ => exact hq.elim
def tForM (C : Addr) (m : Str) (ta : TE) (sp : SpY) (g : TG) (tb : TS) : TS := fun D σ H => ta σ H fun x H1 => ∃ a dx fs, x = .ref a ∧ H1 a = some (.ins C dx fs) ∧ fs.lookup m = none ∧ ∃ n, sp [x] H1 (ydOf g tb) D.nx n σ
/-- for tg in o.m(): m a generator method -/
theorem ps_forGM {k : Nat} {f C : Addr} {fd : FuncData} {ps : List Str} {sp : SpY} {m : Str} {apos pos pos' : Pos} {o : Expr} {ta : TE} {pl : Sem Bool} (hX : ∀ v s, X.xe v s → False) (F : GFY X.prog X.w X.K X.mg X.base k f fd ps sp) (hr : Room (k + 2) X.A)
    (he : PE X o ta) (cl : Cls X.K C) (hm : Meth X.K C m f) (hbd : Binds X.K fd ps []) (hg : PG X tg g) (hb : PSs X body tb)
    (ht : eval (.Call (.Attribute o m apos) [] [] pos') X.env = (do
      let ov ← eval o X.env
      standAt apos.atName
      let (f, first) ← holding [ov] (getMethod ov m pl)
      callWith pos' f first (backTo pos' (starEach [] X.env)) (backToKw pos' (keywordEach [] X.env))) := by rfl) (hs : ∀ y, foldedSetIterable (.Call (.Attribute o m apos) [] [] pos') X.env y = pure y := by intro _; rfl) :
    PS X (.For tg (.Call (.Attribute o m apos) [] [] pos') body [] pos) (tForM C m ta sp g tb) := by
  refine ⟨fun pins s σ H D I h => ?_⟩
  refine forG_end (σ := σ) (D := D) (pins := pins) (s := s) hX (hr.mono (by omega)) hg hb hs ?_
  refine PySem.W.methodCall_KW (pl := pl) (thn (he.run pins s σ H _ I h) fun u s1 ⟨x, H1, I1, rx, a, dx, fs, ex, ea, l, n, q⟩ => ?_) ht
  subst ex
  obtain rfl : u = Value.ref a := rx
  refine getmeth_ok I1 ea cl hm l ?_
  refine PySem.W.callWith_K0 (first := [.ref a]) I1.kIn hm.kp ?_
  have hl := F.len _ _ _ _ _ _ q
  have b1 := hbd s1 [.ref a] I1.kIn (by rw [List.append_nil]; exact hl)
  rw [List.append_nil] at b1
  refine wpAny_call (codeAny_mono (made_of F hr I1 b1 (show Vals [V.ref a] [Value.ref a] from .cons rfl .nil) q) fun r s' hq => ?_)
  cases r with
  | error e => exact hq.elim
  | ok fl =>
    cases fl with
    | ret u => exact ⟨s1, H1, n, I1, hq⟩
    | _ => exact hq.elim
end
/-- a generator's own reading has no way out by an error -/
theorem nox_cgen {P : Program} {w : World} {K : PySem.W.Frag} {mg : Str → Option Value} {base : Heap} {N : List Str} {qual : Str} {scope : Scope} {f : Addr} {cd : Value} {A : Around} {outer : List Env} {s : Shared} {H : Hp} {pn : List (Addr × Obj)}
    (hp : ∀ p ∈ pn, s.heap.objs.size ≤ p.1) : NoX (cgen P w K mg base N qual scope f cd A outer s H pn) := ⟨fun _ _ q => q, rfl, hp, fun _ => rfl, rfl⟩
end GF
end T_GenWalk

section T_EqDict
set_option linter.all false
set_option maxHeartbeats 4000000
/-! == of two dicts whose values have an == of their own. -/
namespace GD
open PySem PySem.W PySem.Calls PyProof.Rows PyProof.V PySem.Spec
section
variable {prog : Program} {w : World} {K : Type} [DecidableEq K] {knd : KeyKind prog w K} {A : Around} {E : Value → Shared → Prop} {s : Shared}
theorem samePairsG {nm : String} {a b : Addr} {ka kb : List (K × Value)} {J : Shared → Prop} {Q : Bool → Shared → Prop} (ha : (a == sysModules) = false) (hb : (b == sysModules) = false) (da : s.heap.DictOf knd a ka) (db : s.heap.DictOf knd b kb) (hlen : ka.length = kb.length)
    (stay : ∀ s', J s' → s'.heap.get? a = s.heap.get? a ∧ s'.heap.get? b = s.heap.get? b)
    (turn : ∀ (i : Nat) k v, ka[i]? = some (k, v) → ∃ y, valueAt kb k = some y ∧ ∀ s', J s' → wpAny (model prog w) A (eqBool v y) (fun r s2 => r = true ∧ J s2) E s') (fin : ∀ s', J s' → Q true s') (h0 : J s) :
    wpAny (model prog w) A (Builtin.Dict.samePairs nm a b) Q E s := by
  obtain ⟨oa, ea, pa, goa, _, dda, kka, prs, _⟩ := da
  obtain ⟨ob, eb, pb, gob, _, ddb, kkb, prb, _⟩ := db
  have sza : ka.length = ea.size := by
    rw [← prs.length]
    exact Array.length_toList
  have szb : kb.length = eb.size := by
    rw [← prb.length]
    exact Array.length_toList
  have look : ∀ k, findBy knd.is eb k = valueAt kb k := fun k => by
    rw [← prb.find k]
    clear szb prb kkb ddb gob
    obtain ⟨l⟩ := eb
    simp [findBy]
  have na : ¬ (a == sysModules) = true := by rw [ha]; exact Bool.false_ne_true
  have nb : ¬ (b == sysModules) = true := by rw [hb]; exact Bool.false_ne_true
  have esz : ea.size = eb.size := by rw [← sza, ← szb]; exact hlen
  unfold Builtin.Dict.samePairs Builtin.Dict.showsAll
  rw [if_neg na, if_neg nb]
  refine wpAny_bind (wpAny_pure (wpAny_bind (wpAny_pure (wpAny_bind (wpAny_dictEntries goa dda ?_)))))
  dsimp only
  refine wpAny_bind (wpAny_dictEntries gob ddb ?_)
  rw [if_neg (by rw [esz]; simp)]
  refine wpAny_bind (wpAny_dictEpoch goa dda (wpAny_bind ?_))
  rw [Std.Legacy.Range.forIn_eq_forIn_range']
  simp only [Std.Legacy.Range.size, Nat.sub_zero, Nat.add_sub_cancel, Nat.div_one]
  refine wpAny_forIn_list _ (fun rest q s' => J s' ∧ q = (none, ()) ∧ ∃ i, rest = List.range' i (ea.size - i) ∧ i ≤ ea.size) _ ?_ ?_ _ _ ⟨h0, rfl, 0, by simp, Nat.zero_le _⟩
  · rintro x rest q s' ⟨hJ, rfl, i, hr, hi⟩
    obtain ⟨ga, gb⟩ := stay s' hJ
    rw [goa] at ga
    rw [gob] at gb
    have hlt : i < ea.size := by
      rcases Nat.lt_or_ge i ea.size with h | h
      · exact h
      · rw [Nat.sub_eq_zero_of_le h] at hr
        simp at hr
    obtain ⟨rfl, hrest⟩ : x = i ∧ rest = List.range' (i + 1) (ea.size - (i + 1)) := by
      rw [show ea.size - i = (ea.size - (i + 1)) + 1 by omega, List.range'_succ] at hr
      injection hr with h1 h2
      exact ⟨h1, h2⟩
    refine wpAny_bind (wpAny_dictEntries ga dda ?_)
    rw [Array.getElem?_eq_getElem hlt]
    have hlt' : x < ka.length := by rw [sza]; exact hlt
    obtain ⟨k, v, hkv⟩ : ∃ k v, ka[x]? = some (k, v) := ⟨_, _, List.getElem?_eq_getElem hlt'⟩
    obtain ⟨hkey, hval⟩ := prs.get? (i := x) (e := ea[x]) (k := k) (v := v) (by rw [Array.getElem?_toList]; exact Array.getElem?_eq_getElem hlt) hkv
    obtain ⟨k', hk', hh⟩ := kka ea[x] (Array.getElem_mem hlt)
    rw [knd.inj _ _ _ hk' hkey] at hh
    obtain ⟨y, hy, step⟩ := turn x k v hkv
    show wpAny _ _ (holding [ea[x].key, ea[x].val] _ >>= _) _ _ _
    rw [hh]
    refine wpAny_bind (wpAny_holding (wpAny_bind (wpAny_dictFind_of hkey gb ddb kkb ?_)))
    cases hj : eb.findIdx? fun e => knd.is k e.key with
    | none =>
      have hn : valueAt kb k = none := by rw [← look k, findBy_of_findIdx?, hj]
      rw [hn] at hy
      cases hy
    | some j =>
      obtain ⟨hjlt, _, _⟩ := Array.findIdx?_eq_some_iff_getElem.mp hj
      have hv' : valueAt kb k = some eb[j].val := by
        rw [← look k, findBy_of_findIdx?, hj]
        simp [Array.getElem?_eq_getElem hjlt]
      rw [hv'] at hy
      cases hy
      refine wpAny_bind (wpAny_dictEntries gb ddb ?_)
      rw [Array.getElem?_eq_getElem hjlt]
      have st := step s' hJ
      rw [← hval] at st
      refine wpAny_holding (wpAny_mono st (fun r s2 ⟨hr2, hJ2⟩ => ?_) fun _ _ z => z)
      subst hr2
      obtain ⟨ga2, _⟩ := stay s2 hJ2
      rw [goa] at ga2
      show wpAny _ _ (if (!true) = true then _ else _) _ _ _
      rw [if_neg (by decide)]
      refine wpAny_bind (wpAny_dictEpoch ga2 dda ?_)
      rw [if_neg (by simp)]
      exact wpAny_pure ⟨hJ2, rfl, x + 1, hrest, hlt⟩
  · rintro q s' ⟨hJ, rfl, i, hr, hi⟩
    exact wpAny_pure (fin s' hJ)
theorem rc_dictsG {a b : Addr} {ka kb : List (K × Value)} {J : Shared → Prop} {Q : Value → Shared → Prop} (ha : (a == sysModules) = false) (hb : (b == sysModules) = false) (da : s.heap.DictOf knd a ka) (db : s.heap.DictOf knd b kb) (hu : A.units < cLine) (hlen : ka.length = kb.length)
    (stay : ∀ s', J s' → s'.heap.get? a = s.heap.get? a ∧ s'.heap.get? b = s.heap.get? b)
    (turn : ∀ (i : Nat) k v, ka[i]? = some (k, v) → ∃ y, valueAt kb k = some y ∧ ∀ s', J s' → wpAny (model prog w) A.in1 (eqBool v y) (fun r s2 => r = true ∧ J s2) E s') (fin : ∀ s', J s' → Q (.bool true) s') (h0 : J s) :
    wpAny (model prog w) A (richCompare .Eq (.ref a) (.ref b)) Q E s := by
  refine wpAny_richCompare_same_room (op := .Eq) da.typeIs db.typeIs PySem.F.slot_dict_eq (GQ.call_here PySem.F.slot_dict_eq da.typeIs PySem.F.entry_dict_eq (PySem.F.args_dict_eq_2 _ _) ?_) hu
  show wpAny _ _ (Builtin.Dict.dictSlotArgs "__eq__" ⟨[.ref a, .ref b], []⟩ >>= _) _ _ s
  unfold Builtin.Dict.dictSlotArgs
  refine wpAny_bind (wpAny_bind (wpAny_notOrdered_dict da.typeIs ?_))
  show wpAny _ _ (pure (Value.ref a, Value.ref b)) _ _ s
  refine wpAny_pure (wpAny_bind (wpAny_isInstance (T := "dict") db.typeIs PySem.F.sub_dict_dict ?_))
  simp only [Bool.not_true, Bool.false_eq_true, if_false]
  refine wpAny_bind (wpAny_pure (wpAny_bind (wpAny_pure (wpAny_bind ?_))))
  refine samePairsG ha hb da db hlen stay turn (fun s' hJ => ?_) h0
  have q := fin s' hJ
  refine wpAny_pure ?_
  show (Value.bool (true == true)) ≠ Value.notImplemented ∧ Q (Value.bool (true == true)) s'
  refine ⟨(fun x => by cases x), ?_⟩
  exact q
end
end GD

namespace GD
open PySem L2 PySem.Spec PyProof.Rows
theorem kv_at : ∀ {ks : List (Key × V)} {vs : List (Key × Value)} {i : Nat} {k : Key} {v : Value}, KV ks vs → vs[i]? = some (k, v) → ∃ x, ks[i]? = some (k, x) ∧ RelV x v
  | _, _, _, _, _, .nil, e => by simp at e
  | p :: _, q :: _, 0, k, v, .cons r _, e => by
    have e2 : q = (k, v) := Option.some.inj (by simpa using e)
    subst e2
    exact ⟨p.2, by obtain ⟨p1, p2⟩ := p; have r1 : p1 = k := r.1; subst r1; rfl, r.2⟩
  | p :: _, q :: _, i + 1, k, v, .cons _ t, e => by
    obtain ⟨x, h1, h2⟩ := kv_at (i := i) (k := k) (v := v) t (by simpa using e)
    exact ⟨x, by simpa using h1, h2⟩
theorem kv_val : ∀ {ks : List (Key × V)} {vs : List (Key × Value)} {k : Key} {x : V}, KV ks vs → valV ks k = some x → ∃ v, valueAt vs k = some v ∧ RelV x v
  | _, _, _, _, .nil, e => by simp [valV] at e
  | p :: _, q :: _, k, x, .cons r t, e => by
    by_cases h : p.1 = k
    · rw [valV_pos h] at e
      cases e
      refine ⟨q.2, ?_, r.2⟩
      unfold valueAt
      rw [List.find?_cons, decide_eq_true (r.1 ▸ h)]
      rfl
    · rw [valV_neg h] at e
      obtain ⟨v, h1, h2⟩ := kv_val t e
      refine ⟨v, ?_, h2⟩
      unfold valueAt at h1 ⊢
      rw [List.find?_cons, decide_eq_false (r.1 ▸ h)]
      exact h1
/-- two dicts of the same keys, their values equal in D's sense (while both are locked) -/
def DDic (D : Eqv) : Eqv := fun x y H => ∃ a b ks ls, x = .ref a ∧ y = .ref b ∧ a ≠ b ∧ H a = some (.dK ks) ∧ H b = some (.dK ls) ∧ ks.length = ls.length ∧
  ∀ p ∈ ks, ∃ v, valV ls p.1 = some v ∧ ∀ oa ob, D p.2 v (upd (upd H a (.frz oa (.dK ks))) b (.frz ob (.dK ls)))
theorem rcG_dict {X : Cx} {n : Nat} {D : Eqv} (hD : Mon D) (h : EqG X n D) : RcG X (n + 1) (DDic D) := by
  intro A pins s σ H x y u v sb I rx ry d
  obtain ⟨a, b, ks, ls, rfl, rfl, nab, ha, hb, hl, hv⟩ := d
  cases rx
  cases ry
  obtain ⟨oa, I1⟩ := I.lock ha trivial
  have hb1 : upd H a (.frz oa (.dK ks)) b = some (.dK ls) := by rw [upd_ne nab.symm]; exact hb
  obtain ⟨ob, I2⟩ := I1.lock hb1 trivial
  have la : upd (upd H a (.frz oa (.dK ks))) b (.frz ob (.dK ls)) a = some (.frz oa (.dK ks)) := by rw [upd_ne nab, upd_same]
  have lb : upd (upd H a (.frz oa (.dK ks))) b (.frz ob (.dK ls)) b = some (.frz ob (.dK ls)) := upd_same
  obtain ⟨ga, _, sa, va, ra, da⟩ := I2.hok a _ la
  obtain ⟨gb, _, sb2, vb, rb, db⟩ := I2.hok b _ lb
  have nfa := I.nofrz ha trivial
  have nfb := I.nofrz hb trivial
  refine rc_dictsG (knd := mixKind X.prog X.w) (J := fun s' => ∃ H', Inv X pins σ H' s' ∧ Ext (upd (upd H a (.frz oa (.dK ks))) b (.frz ob (.dK ls))) H') sa sb2 da db sb.room.units0 (by rw [← Paired.length ra, ← Paired.length rb]; exact hl) (fun s' hJ => ?_) (fun i k w hw => ?_) (fun s' hJ => ?_) ⟨_, I2, Ext.rfl'⟩
  · obtain ⟨H', I', e⟩ := hJ
    obtain ⟨ga', _⟩ := I'.hok a _ (e _ _ la)
    obtain ⟨gb', _⟩ := I'.hok b _ (e _ _ lb)
    exact ⟨by rw [ga, ga'], by rw [gb, gb']⟩
  · obtain ⟨xv, hx, rx⟩ := kv_at ra hw
    obtain ⟨yv, hy, hd⟩ := hv (k, xv) (List.mem_of_getElem? hx)
    obtain ⟨yw, hyw, ry⟩ := kv_val rb hy
    refine ⟨yw, hyw, fun s' ⟨H', I', e⟩ => ?_⟩
    refine wpAny_mono (h A.in1 pins s' σ H' xv yv w yw sb.in1 I' rx ry (hD _ _ _ _ e (hd oa ob))) (fun r s2 ⟨hr, H2, J2, e2⟩ => ⟨hr, H2, J2, e.trans e2⟩) fun _ _ z => z
  · obtain ⟨H', I', e⟩ := hJ
    have I3 := I'.unlock (e _ _ lb) nfb
    have ha3 : upd H' b (.dK ls) a = some (.frz oa (.dK ks)) := by rw [upd_ne nab]; exact e _ _ la
    refine ⟨rfl, _, I3.unlock ha3 nfa, fun c o hc => ?_⟩
    by_cases ca : c = a
    · subst ca
      rw [upd_same]
      rw [ha] at hc
      exact hc
    · rw [upd_ne ca]
      by_cases cb : c = b
      · subst cb
        rw [upd_same]
        rw [hb] at hc
        exact hc
      · rw [upd_ne cb]
        refine e c o ?_
        rw [upd_ne cb, upd_ne ca]
        exact hc
end GD
end T_EqDict

section T_TupE
set_option Elab.async false
set_option linter.all false
set_option maxRecDepth 100000
set_option maxHeartbeats 4000000
/-! max and enumerate over a tuple. -/
namespace TupE
open PySem PySem.Spec PyProof.Rows L2
open PySem.Sem (wp)
section
variable {prog : Program} {w : World} {A : Around} {E : Value → Shared → Prop} {s : Shared}
theorem max_intTup {l : Addr} {xs : Array (Int × Tok)} {Q : Value → Shared → Prop} (hh : A.handled = none) (hl : s.heap.IsTuple l (intItems xs)) (hne : 0 < xs.size)
    (h : ∀ v h' tk, (intItems xs)[argBest (fun i j => decide (numAt xs i > numAt xs j)) (xs.size - 1)]? = some v → (∀ b o, s.heap.get? b = some o → h'.get? b = some o) → Q v { s with heap := h', toks := tk }) :
    wpAny (model prog w) A (call (.builtin "max") [.ref l]) Q E s := by
  have hlt : l < s.heap.objs.size := by obtain ⟨_, e, _⟩ := hl; exact Heap.lt_size e
  refine call_max_walk (wpAny_pyIter_tuple hl ?_)
  refine ⟨_, [s.heap.objs.size, l], [s.heap.objs.size], _, _, _, _, rfl, Walks.tuple (A := A.in1) hh _ l (Nat.ne_of_lt hlt) (intItems xs), ⟨⟨_, Heap.get?_push_size _ rfl, rfl, rfl⟩, hl.push _⟩, fun c hc => ?_, by simpa [intItems] using hne, CmpOf.ints_gt (numAt xs) (fun _ _ => intItems_at), fun v h' tk hP hk => ?_⟩
  · show c < (s.heap.push _).objs.size
    rw [Heap.size_push]
    rcases List.mem_cons.mp hc with rfl | hc
    · exact Nat.lt_succ_self _
    · rcases List.mem_cons.mp hc with rfl | hc
      · exact Nat.lt_succ_of_lt hlt
      · cases hc
  · refine h v h' tk (by simpa [intItems] using hP) fun b o e => ?_
    refine hk b o (fun hm => ?_) (Heap.get?_push_of_some _ e)
    rcases List.mem_cons.mp hm with e1 | hm
    · exact absurd (e1 ▸ Heap.lt_size e) (Nat.lt_irrefl _)
    · cases hm
theorem max_rawT {l : Addr} {its : List Value} {ns : List Int} {Q : Value → Shared → Prop} (hh : A.handled = none) (hl : s.heap.IsTuple l its.toArray) (hi : IntsAre its ns) (hne : 0 < ns.length)
    (h : ∀ h' tk M t', (∀ b o, s.heap.get? b = some o → h'.get? b = some o) → M ∈ ns → (∀ a, a ∈ ns → a ≤ M) → Q (.int M t') { s with heap := h', toks := tk }) : wpAny (model prog w) A (call (.builtin "max") [.ref l]) Q E s := by
  obtain ⟨xs, e⟩ := hi.allInts.items
  have hn : numsOf (intItems xs).toList = ns := by rw [← e]; exact hi.numsOf
  rw [nums_intItems] at hn
  subst hn
  rw [e] at hl
  have hsz : 0 < xs.size := by simpa using hne
  refine max_intTup hh hl hsz fun v h' tk hv hk => ?_
  obtain ⟨t, rfl⟩ := intItems_at hv
  obtain ⟨h1, h2⟩ := argBest_gt (numAt xs) (xs.size - 1)
  refine h h' tk _ t hk ?_ fun a ha => ?_
  · rw [numAt_eq]; exact PySem.getD_mem (by rw [List.length_map, Array.length_toList]; omega)
  · obtain ⟨j, hj, rfl⟩ := mem_getD ha
    rw [List.length_map, Array.length_toList] at hj
    rw [← numAt_eq]; exact h2 j (by omega)
/-! enumerate -/
theorem meets_enumerate_newT (l : Addr) (items : Array Value) (n : Nat) (dct : Option Addr) (sl : Array (Option Value)) :
    Meets (Builtin.«enumerate.__new__» ⟨[.type "enumerate", .ref l], []⟩) (fun _ R s => s.heap.get? l = some { cls := .type "tuple", dict := dct, data := .seq items n, slots := sl } ∧
      R (.ok (.ret (.ref (s.heap.push { cls := .type "tuple_iterator", data := .fields #[.ref l, .int 0 0] }).objs.size)))
        { s with heap := (s.heap.push { cls := .type "tuple_iterator", data := .fields #[.ref l, .int 0 0] }).push { cls := .type "enumerate", data := .fields #[.none, .bool false, .ref s.heap.objs.size, rawInt 0, .none, .none] } }) :=
  .of_wp fun prog w A R s h => by
    obtain ⟨hp, g, d, tk, os⟩ := s; obtain ⟨hl, h⟩ := h
    have hsub := sub_enumerate
    have hL : Heap.IsTuple (Shared.heap ⟨hp, g, d, tk, os⟩) l items := ⟨_, hl, rfl, n, rfl⟩
    wp_walk using AutoSeq1.wpAny_loadPart' hl
    refine wpAny_stack_any fun st => wpAny_pure ?_
    split
    · rename_i c _ _ _ _ _
      cases (c == Value.type "enumerate")
      · wp_walk using AutoSeq1.wpAny_loadPart' hl, wpAny_pyIter_tuple hL
        exact ⟨_, rfl, h⟩
      · wp_walk using AutoSeq1.wpAny_loadPart' hl, wpAny_pyIter_tuple hL
        exact ⟨_, rfl, h⟩
    · wp_walk using AutoSeq1.wpAny_loadPart' hl, wpAny_pyIter_tuple hL
      exact ⟨_, rfl, h⟩
theorem call_enumerate_tup {l : Addr} {items : Array Value} {Q : Value → Shared → Prop} (hL : s.heap.IsTuple l items)
    (h : ∀ h', IsEnum h' (s.heap.objs.size + 1) s.heap.objs.size 0 .none → h'.IsTupleIter s.heap.objs.size l 0 → h'.objs.size = s.heap.objs.size + 2 →
      (∀ b o, s.heap.get? b = some o → h'.get? b = some o) → Q (.ref (s.heap.objs.size + 1)) { s with heap := h' }) :
    wpAny (model prog w) A (call (.type "enumerate") [.ref l]) Q E s := by
  obtain ⟨⟨c, dct, dt, sl⟩, hl, hc, n, hd⟩ := hL
  replace hc : c = .type "tuple" := hc
  replace hd : dt = .seq items n := hd
  subst hc hd
  refine callType_new F.called_enumerate (by decide) (F.typeCall_enumerate_1 _) (F.newCall_enumerate_1 _) (fun obj => F.args_object_init_2 obj _) F.entry_enumerate_new
    (meets_enumerate_newT l items n dct sl) ⟨hl, ?_⟩
  have hz : (s.heap.push { cls := .type "tuple_iterator", data := .fields #[.ref l, .int 0 0] }).objs.size = s.heap.objs.size + 1 := Heap.size_push ..
  show _ ∧ _
  rw [hz]
  have he : IsEnum ((s.heap.push { cls := .type "tuple_iterator", data := .fields #[.ref l, .int 0 0] }).push
      { cls := .type "enumerate", data := .fields #[.none, .bool false, .ref s.heap.objs.size, rawInt 0, .none, .none] }) (s.heap.objs.size + 1) s.heap.objs.size 0 .none := by
    have := Heap.get?_push_size (s.heap.push { cls := .type "tuple_iterator", data := .fields #[.ref l, .int 0 0] })
      (o := { cls := .type "enumerate", data := .fields #[.none, .bool false, .ref s.heap.objs.size, rawInt 0, .none, .none] }) rfl
    rw [hz] at this; exact this
  refine ⟨⟨_, he, rfl⟩, h _ he ⟨_, Heap.get?_push_of_some _ (Heap.get?_push_size _ rfl), rfl, rfl⟩ (by rw [Heap.size_push, hz]) fun b o x => Heap.get?_push_of_some _ (Heap.get?_push_of_some _ x)⟩
theorem enumerate_next_itemT {e it l : Addr} {i : Nat} {items : Array Value} {x old : Value} {Q : Value → Shared → Prop}
    (he : IsEnum s.heap e it i old) (hit : s.heap.IsTupleIter it l i) (hl : s.heap.IsTuple l items) (hx : items[i]? = some x) (hne : e ≠ it)
    (hQ : ∀ h', IsEnumOut h' e it ((i : Int) + 1) x s.heap.objs.size → h'.IsTupleIter it l (i + 1) →
      h'.get? s.heap.objs.size = some { cls := .type "tuple", data := .seq #[.int i s.toks, x] } → h'.objs.size = s.heap.objs.size + 1 →
      (∀ b o, b ≠ e → b ≠ it → s.heap.get? b = some o → h'.get? b = some o) → Q (.ref s.heap.objs.size) { s with heap := h', toks := s.toks + 1 }) :
    wpAny (model prog w) A (Builtin.«enumerate.__next__» ⟨[.ref e], []⟩) (fun fin s' => ∃ v, fin = .done (.ret v) ∧ Q v s') E s := by
  obtain ⟨hp, g, d, tk, os⟩ := s
  show wpAny _ _ (field (.ref e) 2 >>= _) _ _ _
  refine wpAny_bind (wpAny_field he rfl (x := .ref it) rfl ?_)
  refine wpAny_bind (RZ.nextOf_tuple_item hit hl hx fun h₁ hit₁ hs₁ => ?_)
  replace hs₁ : Heap.SameBut it hp h₁ := hs₁
  have he₁ : IsEnum h₁ e it i old := (hs₁.2 e hne).trans he
  show wpAny _ _ (field (.ref e) 3 >>= _) _ _ ⟨h₁, g, d, tk, os⟩
  refine wpAny_bind (wpAny_field he₁ rfl (x := rawInt i) rfl ?_)
  show wpAny _ _ (field (.ref e) 4 >>= _) _ _ ⟨h₁, g, d, tk, os⟩
  refine wpAny_bind (wpAny_field he₁ rfl (x := .none) rfl ?_)
  show wpAny _ _ (mkInt i >>= _) _ _ ⟨h₁, g, d, tk, os⟩
  refine wpAny_bind (wpAny_mkInt ?_)
  show wpAny _ _ (setField (.ref e) 3 (rawInt ((i : Int) + 1)) >>= _) _ _ ⟨h₁, g, d, tk + 1, os⟩
  refine wpAny_bind (wpAny_setField_rec he₁ (by simp) fun h₂ he₂ hs₂ => ?_)
  replace hs₂ : Heap.SameBut e h₁ h₂ := hs₂
  replace he₂ : IsEnum h₂ e it ((i : Int) + 1) old := he₂
  show wpAny _ _ (setField (.ref e) 4 .none >>= _) _ _ ⟨h₂, g, d, tk + 1, os⟩
  refine wpAny_bind (wpAny_setField_rec he₂ (by simp) fun h₃ he₃ hs₃ => ?_)
  replace hs₃ : Heap.SameBut e h₂ h₃ := hs₃
  replace he₃ : IsEnum h₃ e it ((i : Int) + 1) old := he₃
  show wpAny _ _ (newTuple [.int i tk, x] >>= _) _ _ ⟨h₃, g, d, tk + 1, os⟩
  refine wpAny_bind (wpAny_newTuple ?_)
  have he₄ : IsEnum (h₃.push { cls := .type "tuple", data := .seq #[.int i tk, x] }) e it ((i : Int) + 1) old := Heap.get?_push_of_some _ he₃
  generalize hh₄ : h₃.push { cls := .type "tuple", data := .seq #[.int i tk, x] } = h₄ at he₄
  have hsz : h₃.objs.size = hp.objs.size := by rw [hs₃.1, hs₂.1, hs₁.1]
  have hel : e < hp.objs.size := Heap.lt_size he
  have ht₄ : h₄.get? hp.objs.size = some { cls := .type "tuple", data := .seq #[.int i tk, x] } := by rw [← hh₄, ← hsz]; exact Heap.get?_push_size _ rfl
  have hz₄ : h₄.objs.size = hp.objs.size + 1 := by rw [← hh₄, Heap.size_push, hsz]
  have hk₄ : ∀ b o, b ≠ e → b ≠ it → hp.get? b = some o → h₄.get? b = some o := fun b o hbe hbi hb => by
    rw [← hh₄]; exact Heap.get?_push_of_some _ (hs₃.extBut b o hbe (hs₂.extBut b o hbe (hs₁.extBut b o hbi hb)))
  have hit₄ : h₄.IsTupleIter it l (i + 1) := by
    rw [← hh₄]; obtain ⟨o, ho, r⟩ := (hit₁.extBut hs₂.extBut (Ne.symm hne)).extBut hs₃.extBut (Ne.symm hne); exact ⟨o, Heap.get?_push_of_some _ ho, r⟩
  show wpAny _ _ (Builtin.SmallTypes.ownedTupleIsFree (.ref e) >>= _) _ _ ⟨h₄, g, d, tk + 1, os⟩
  rw [hsz]
  clear hh₄ he₃ hs₃ he₂ hs₂ he₁ hs₁ hit₁ hsz h₃ h₂ h₁
  refine wpAny_bind ?_
  · unfold Builtin.SmallTypes.ownedTupleIsFree
    refine wpAny_bind (wpAny_field he₄ rfl (x := .none) rfl (wpAny_pure ?_))
    simp only [if_true]
    refine wpAny_bind (wpAny_rule ?_)
    refine wpAny_bind (wpAny_field he₄ rfl (x := old) rfl ?_)
    refine wpAny_bind (wpAny_setField_rec he₄ (by simp) fun h₅ he₅ hs₅ => ?_)
    replace hs₅ : Heap.SameBut e h₄ h₅ := hs₅
    replace he₅ : IsEnum h₅ e it ((i : Int) + 1) x := he₅
    show wpAny _ _ (Builtin.SmallTypes.ownedTupleHandOut (.ref e) (.ref hp.objs.size) >>= _) _ _ ⟨h₅, g, d, tk + 1, os⟩
    refine wpAny_bind ?_
    · unfold Builtin.SmallTypes.ownedTupleHandOut
      refine wpAny_bind (wpAny_setField_rec he₅ (by simp) fun h₆ he₆ hs₆ => ?_)
      replace hs₆ : Heap.SameBut e h₅ h₆ := hs₆
      replace he₆ : IsEnumOut h₆ e it ((i : Int) + 1) x hp.objs.size := he₆
      refine wpAny_setField_rec he₆ (by simp) fun h₇ he₇ hs₇ => ?_
      replace hs₇ : Heap.SameBut e h₆ h₇ := hs₇
      replace he₇ : IsEnumOut h₇ e it ((i : Int) + 1) x hp.objs.size := he₇
      refine wpAny_bind (wpAny_letGo (wpAny_pure ⟨_, rfl, hQ h₇ he₇ ?_ ?_ ?_ ?_⟩))
      · exact ((hit₄.extBut hs₅.extBut (Ne.symm hne)).extBut hs₆.extBut (Ne.symm hne)).extBut hs₇.extBut (Ne.symm hne)
      · exact hs₇.extBut _ _ (Nat.ne_of_gt hel) (hs₆.extBut _ _ (Nat.ne_of_gt hel) (hs₅.extBut _ _ (Nat.ne_of_gt hel) ht₄))
      · rw [hs₇.1, hs₆.1, hs₅.1, hz₄]
      · exact fun b o hbe hbi hb => hs₇.extBut b o hbe (hs₆.extBut b o hbe (hs₅.extBut b o hbe (hk₄ b o hbe hbi hb)))
theorem next_itemT {e it l : Addr} {i : Nat} {items : Array Value} {x old : Value} {Q : Option Value → Shared → Prop}
    (he : IsEnum s.heap e it i old) (hit : s.heap.IsTupleIter it l i) (hl : s.heap.IsTuple l items) (hx : items[i]? = some x) (hne : e ≠ it)
    (hQ : ∀ h', IsEnumOut h' e it ((i : Int) + 1) x s.heap.objs.size → h'.IsTupleIter it l (i + 1) →
      h'.get? s.heap.objs.size = some { cls := .type "tuple", data := .seq #[.int i s.toks, x] } → h'.objs.size = s.heap.objs.size + 1 →
      (∀ b o, b ≠ e → b ≠ it → s.heap.get? b = some o → h'.get? b = some o) → Q (some (.ref s.heap.objs.size)) { s with heap := h', toks := s.toks + 1 }) :
    wpAny (model prog w) A (pyNext (.ref e)) Q E s := by
  have hT : s.TypeIs (.ref e) "enumerate" := ⟨_, he, rfl⟩
  unfold pyNext
  exact wpAny_bind (wpAny_attempt (wpAny_callSpecial?_slot (name := Str.ofString "__next__") hT F.slot_enumerate_next
    (wpAny_call_entry F.slot_enumerate_next hT F.entry_enumerate_next
      (enumerate_next_itemT he hit hl hx hne fun h' a b c d k => wpAny_pure (hQ h' a b c d k)) (F.args_enumerate_next_1 _))))
theorem next_endT {e it l : Addr} {i : Nat} {items : Array Value} {old : Value} {Q : Option Value → Shared → Prop} (hh : A.handled = none)
    (he : IsEnum s.heap e it i old) (hit : s.heap.IsTupleIter it l i) (hl : s.heap.IsTuple l items) (hx : items[i]? = none)
    (hQ : ∀ h', Heap.ExtBut it s.heap h' → Q none { s with heap := h' }) : wpAny (model prog w) A (pyNext (.ref e)) Q E s := by
  have hT : s.TypeIs (.ref e) "enumerate" := ⟨_, he, rfl⟩
  unfold pyNext
  refine wpAny_bind (wpAny_attempt (wpAny_callSpecial?_slot (name := Str.ofString "__next__") hT F.slot_enumerate_next
    (wpAny_call_entry F.slot_enumerate_next hT F.entry_enumerate_next ?_ (F.args_enumerate_next_1 _))))
  show wpAny _ _ (field (.ref e) 2 >>= _) _ _ _
  refine wpAny_bind (wpAny_field he rfl (x := .ref it) rfl ?_)
  refine wpAny_bind (RZ.nextOf_tuple_end hh hit hl hx fun h' x he' hx' => ?_)
  obtain ⟨o, ho, hc⟩ := hx'
  refine wpAny_bind (wpAny_isInstance (T := "StopIteration") (b := true) ⟨o, ho, hc⟩ isSubtype_stop ?_)
  exact wpAny_pure (hQ _ he')
end
def rMaxT (K : PySem.W.Frag) : List V → Hp → VK → Prop := fun vs H Q => ∃ (a : Addr) (ns : List Int), vs = [V.ref a] ∧ SqT K H a (ns.map V.int) ∧ 0 < ns.length ∧ ∀ m, m ∈ ns → (∀ y, y ∈ ns → y ≤ m) → Q (.int m) H
theorem cr_maxT {X : Cx} (hc : X.calm = true) : CallR X (.builtin "max") (rMaxT X.K) := by
  intro pins s σ H vs us Q I r h
  obtain ⟨a, ns, rfl, hs, hne, q⟩ := h
  obtain ⟨its, rv, hl, _⟩ := I.tuple hs
  rw [Vals.ref1 r]
  exact max_rawT (I.ok.hd hc) (show s.heap.IsTuple a its.toArray from hl) rv.ints hne fun h' tk m t' hk h1 h2 => ⟨.int _, H, I.kept hk, ⟨_, rfl⟩, q m h1 h2⟩
/-- the tuple at a, each item in a new pair -/
def Iet (K : PySem.W.Frag) (a : Addr) : It :=
  ⟨fun i H => ∃ (xs : List V) (x : V), SqT K H a xs ∧ xs[i]? = some x, fun i H v H' => ∃ T x, v = .ref T ∧ H T = none ∧ H' = upd H T (.tup [.int (i : Nat), x]) ∧ ∀ xs, SqT K H a xs → xs[i]? = some x, fun i H => ∃ xs : List V, SqT K H a xs ∧ xs.length ≤ i⟩
theorem turn_enumT {P : Program} {w : World} {K : PySem.W.Frag} {elts : List Expr} {kk : Nat} {tpos : Pos} (a e it : Addr) :
    Turn P w K (.Tuple elts kk tpos) (Iet K a) [e, it] e (fun i h => (∃ old, IsEnum h e it ((i : Nat) : Int) old) ∧ h.IsTupleIter it a i ∧ e ≠ it) where
  mem := by simp
  obj := fun i h st b hb => by
    obtain ⟨⟨old, he⟩, ⟨o, ho, hc, hd⟩, _⟩ := st
    have e' : b = e ∨ b = it := by simpa using hb
    rcases e' with z | z
    · rw [z]; exact ⟨_, he, fun v q => nomatch q⟩
    · rw [z]; exact ⟨o, ho, fun v q => by rw [hd] at q; cases q⟩
  keep := fun i h h' st k => let ⟨⟨old, he⟩, hi, hne⟩ := st; ⟨⟨old, k e (by simp) _ he⟩, hi.at fun o q => k it (by simp) o q, hne⟩
  item := by
    intro X hP hw hK hc i pins s σ H E I hf st hg
    subst hP hw hK
    obtain ⟨⟨old, he⟩, hit, hne⟩ := st
    obtain ⟨xs, x, hq, hx⟩ := hg
    obtain ⟨its, rv, p, hz⟩ := I.tuple hq
    have p : s.heap.IsTuple a its.toArray := p
    obtain ⟨u, hu, ru⟩ := rv.get hx
    have hel : e < s.heap.objs.size := Heap.lt_size he
    have hil : it < s.heap.objs.size := by obtain ⟨_, q, _⟩ := hit; exact Heap.lt_size q
    refine next_itemT he hit p (x := u) (by simpa using hu) hne fun h' ho hit' hT hsz hk => ?_
    refine ⟨_, rfl, wpAny_letOwnedTupleGo_enum (s := { s with heap := h', toks := s.toks + 1 }) ho fun h'' he' sb => ?_⟩
    have hT2 : h''.get? s.heap.objs.size = some { cls := .type "tuple", data := .seq #[.int i s.toks, u] } := (sb.2 _ (Nat.ne_of_gt hel)).trans hT
    have new : ObjOk X.prog X.w (upd H s.heap.objs.size (.tup [.int (i : Nat), x])) h'' s.heap.objs.size (.tup [.int (i : Nat), x]) :=
      ⟨by show 2 ≤ sizeLine; decide, [.int i s.toks, u], .cons ⟨_, rfl⟩ (.cons ru .nil), ⟨_, hT2, rfl, _, rfl⟩⟩
    have I1 : Inv X pins σ (upd H s.heap.objs.size (.tup [.int (i : Nat), x])) { s with heap := h'', toks := s.toks + 1 } :=
      I.turnedNew (ch := [e, it]) (fun b ob hb q => (sb.2 b (fun z => hb (by simp [z]))).trans (hk b ob (fun z => hb (by simp [z])) (fun z => hb (by simp [z])) q)) hf (Nat.le_refl _) new
    refine ⟨.ref s.heap.objs.size, _, I1, rfl, ⟨_, x, rfl, I.hok.fresh (Nat.le_refl _), rfl, fun ys hy => by rw [I.tuple_inj hy hq]; exact hx⟩, ⟨⟨u, ?_⟩, hit'.at fun o q => (sb.2 it (Ne.symm hne)).trans q, hne⟩, fun b hb => ?_⟩
    · have e1 : ((i + 1 : Nat) : Int) = (i : Int) + 1 := by omega
      rw [e1]; exact he'
    · have hb' : b < s.heap.objs.size := by
        have e' : b = e ∨ b = it := by simpa using hb
        rcases e' with z | z
        · rw [z]; exact hel
        · rw [z]; exact hil
      rw [upd_ne (Nat.ne_of_lt hb')]
      exact (hf b hb).1
  done := by
    intro X hP hw hK hc i pins s σ H E I hf st hg
    subst hP hw hK
    obtain ⟨⟨old, he⟩, hit, hne⟩ := st
    obtain ⟨xs, hq, hx⟩ := hg
    obtain ⟨its, rv, p, hz⟩ := I.tuple hq
    have p : s.heap.IsTuple a its.toArray := p
    obtain ⟨f0, f1, f2, f3, f4, f5⟩ := hf it (by simp)
    have hl := rv.length
    exact next_endT (I.ok.hd hc) he hit p (by simp; omega) fun h' eb => ⟨rfl, I.turned (t' := s.toks) (fun b o hb q => eb b o hb q) f0 f1 f3 f4 f5⟩
  self := fun A i s Q E st h => let ⟨⟨_, he⟩, _⟩ := st; wpAny_pyIter_enum he h
def iEnumT (K : PySem.W.Frag) (ta : TA) : TI := fun σ H R => ta σ H fun vs H1 => ∃ a xs, vs = [.ref a] ∧ SqT K H1 a xs ∧ R (Iet K a) H1
theorem pi_enumT {X : Cx} {e : Expr} {ta : TA} {p pos tpos : Pos} {elts : List Expr} {kk : Nat} (hg : Gl X "enumerate") (hm : X.mg "enumerate" = none) (ha : PA X [e] ta) (hs : starEach [e] X.env = [(false, eval e X.env)] := by rfl) :
    PI X (.Tuple elts kk tpos) (.Call (.Name "enumerate" p) [e] [] pos) (iEnumT X.K ta) := by
  refine ⟨fun pins s σ H R I h => ?_⟩
  refine Call_ (ld_blt I hg hm boot_enumerate (PyProof.Rows.callWith_type1 (thn (ha.run pos pins s σ H _ I h) fun us s1 ⟨vs, H1, I1, r1, q1⟩ => ?_) hs rfl))
  obtain ⟨a, xs, ex, hq, q⟩ := q1
  subst ex
  cases r1 with
  | cons r rr =>
    cases rr
    cases r
    obtain ⟨its, rv, p', hz⟩ := I1.tuple hq
    have p' : s1.heap.IsTuple a its.toArray := p'
    refine call_enumerate_tup p' fun h' he hit hsz hk => wpAny_pyIter_enum he ?_
    have I2 : Inv X pins σ H1 { s1 with heap := h' } := I1.kept (t' := s1.toks) hk
    refine ⟨s1.heap.objs.size + 1, [s1.heap.objs.size + 1, s1.heap.objs.size], _, _, H1, rfl, I2, turn_enumT a (s1.heap.objs.size + 1) s1.heap.objs.size, ⟨⟨.none, he⟩, hit, Nat.succ_ne_self _⟩, fun b hb => ?_, q⟩
    have e' : b = s1.heap.objs.size + 1 ∨ b = s1.heap.objs.size := by simpa using hb
    have hle : s1.heap.objs.size ≤ b := by
      rcases e' with z | z
      · rw [z]; exact Nat.le_add_right _ _
      · rw [z]; exact Nat.le_refl _
    exact I1.fpOk hle (I1.hok.fresh hle)
end TupE
end T_TupE

section T_Low
set_option Elab.async false
set_option linter.all false
set_option maxRecDepth 100000
set_option maxHeartbeats 4000000
namespace K75
open PySem PySem.Spec PyProof.Rows L2
/-- a def keeps a promise -/
def Ok (P : Program) (w : World) (K : PySem.W.Frag) (mg : PySem.Str → Option Value) (base : Heap) (k : Nat) (d : He5.DefA) (ps : List PySem.Str) (sp : Sp) : Prop :=
  ∃ fd, FnOk P w K mg base CX0 k (d.at_ K) fd ps sp ∧ PySem.W.keepIn K (.ref (d.at_ K)) = true ∧ Binds K fd ps []
section
variable {P : Program} {w : World} {K : PySem.W.Frag} {mg : PySem.Str → Option Value} {base : Heap}
theorem dvs_nil {d : He5.DefA} (h : d.dfl = []) : d.dvs K = [] := by
  unfold He5.DefA.dvs
  rw [h]
  all_goals rfl
theorem ok_mk {d : He5.DefA} {N ps : List PySem.Str} {sp : Sp} {k : Nat} (F : ∃ fd, FunD K d.name d.qual d.params d.body d.scope (d.dvs K) (d.kws K) (d.at_ K) fd) (S : FnScope N ps d.scope)
    (hb : ∀ (kV doc pm : Value) (an : Option Addr) (cdv ct : Value) (us : List Value), us.length = ps.length → bindArgs (PySem.W.fnOf d.name d.qual d.params d.body d.scope .none kV doc pm an cdv ct) ⟨us, []⟩ = pure (ps.zip us))
    (len : ∀ vs H Q E, sp vs H Q E → vs.length = ps.length)
    (hbody : ∀ (cdv : Value) (A : Around) (outer : List Env) (s : Shared) (H : Hp) (vs : List V) (Q : VK) (E : XK), Room k (A.deeper (envOfC d.qual d.scope s.heap.objs.size (d.at_ K) cdv)) → sp vs H Q E →
      ∃ t, PSs (cxOf CX0 P w K mg base N d.qual d.scope (d.at_ K) cdv A outer s H E).nox d.body t ∧ t { nx := fun _ H' => Q .non H', rt := Q } (start N vs) H) (hd : d.dfl = [] := by rfl) : Ok P w K mg base (k + 1) d ps sp := by
  obtain ⟨fd, F⟩ := F
  rw [dvs_nil hd] at F
  exact ⟨fd, F.ok S len fun cdv A outer s H vs Q E hr h => by
    obtain ⟨t, h1, h2⟩ := hbody cdv A outer s H vs Q E hr h
    exact ⟨t, PSs.nox h1, h2⟩, F.kp, F.bindsN hb⟩
theorem Ok.mono {d : He5.DefA} {ps : List PySem.Str} {sp : Sp} {j k : Nat} (O : Ok P w K mg base j d ps sp) (h : j ≤ k) : Ok P w K mg base k d ps sp := by
  obtain ⟨fd, F, a, b⟩ := O
  exact ⟨fd, F.mono h, a, b⟩
end
section
variable {X : Cx} {d : He5.DefA} {ps : List PySem.Str} {sp : Sp} {k : Nat}
theorem pe_gi {x : PySem.Str} {i : Int} {pos : Pos} (hg : Gl X x) (h : ∃ t, X.mg x = some (.int i t)) (hd : (x == ("__debug__" : PySem.Str)) = false := by decide) : PE X (.Name x pos) (tC (.int i)) := by
  obtain ⟨t, h⟩ := h
  exact pe_glob hg h ⟨t, rfl⟩ hd
theorem pe_gs {x z : PySem.Str} {pos : Pos} (hg : Gl X x) (h : ∃ t, X.mg x = some (.str z t)) (hd : (x == ("__debug__" : PySem.Str)) = false := by decide) : PE X (.Name x pos) (tC (.str z)) := by
  obtain ⟨t, h⟩ := h
  exact pe_glob hg h ⟨t, rfl⟩ hd
theorem pe_f {x : PySem.Str} {p pos : Pos} {e : Expr} {es : List Expr} {t : TA} (O : Ok X.prog X.w X.K X.mg X.base k d ps sp) (hr : Room k X.A) (hg : Gl X x) (hm : X.mg x = some (.ref (d.at_ X.K))) (ha : PA X (e :: es) t)
    (hdb : (x == ("__debug__" : PySem.Str)) = false := by decide) (he : starEach (e :: es) X.env = (false, eval e X.env) :: starEach es X.env := by rfl) (hpl : (backTo pos (starEach es X.env)).any (·.1) = false := by rfl) :
    PE X (.Call (.Name x p) (e :: es) [] pos) (tCall sp [] E0 t) := by
  obtain ⟨fd, F, kp, b⟩ := O
  exact pe_call F hr hg hm kp b .nil pass0 ha hdb he hpl
theorem pe_o {pl : Sem Bool} {o e : Expr} {es : List Expr} {m : PySem.Str} {C : Addr} {apos pos : Pos} {ta : TE} {t : TA} (he : PE X o ta) (c : Cls X.K C) (O : Ok X.prog X.w X.K X.mg X.base k d ps sp) (hm : Meth X.K C m (d.at_ X.K)) (hr : Room k X.A) (ha : PA X (e :: es) t)
    (hst : starEach (e :: es) X.env = (false, eval e X.env) :: starEach es X.env := by rfl) (hpl : (backTo pos (starEach es X.env)).any (·.1) = false := by rfl)
    (ht : eval (.Call (.Attribute o m apos) (e :: es) [] pos) X.env = (do
      let ov ← eval o X.env
      standAt apos.atName
      let (f, first) ← holding [ov] (getMethod ov m pl)
      callWith pos f first (backTo pos (starEach (e :: es) X.env)) (backToKw pos (keywordEach [] X.env))) := by rfl) :
    PE X (.Call (.Attribute o m apos) (e :: es) [] pos) (tMeth C m sp [] E0 ta t) := by
  obtain ⟨fd, F, kp, b⟩ := O
  exact pe_meth he c hm F hr b .nil pass0 ha hst hpl ht
theorem pe_o0 {pl : Sem Bool} {o : Expr} {m : PySem.Str} {C : Addr} {apos pos : Pos} {ta : TE} (he : PE X o ta) (c : Cls X.K C) (O : Ok X.prog X.w X.K X.mg X.base k d ps sp) (hm : Meth X.K C m (d.at_ X.K)) (hr : Room k X.A)
    (ht : eval (.Call (.Attribute o m apos) [] [] pos) X.env = (do
      let ov ← eval o X.env
      standAt apos.atName
      let (f, first) ← holding [ov] (getMethod ov m pl)
      callWith pos f first (backTo pos (starEach [] X.env)) (backToKw pos (keywordEach [] X.env))) := by rfl) :
    PE X (.Call (.Attribute o m apos) [] [] pos) (tMeth C m sp [] E0 ta tNil) := by
  obtain ⟨fd, F, kp, b⟩ := O
  exact pe_meth0 he c hm F hr b .nil pass0 ht
theorem pe_k {x : PySem.Str} {C : Addr} {p pos : Pos} {e : Expr} {es : List Expr} {t : TA} (O : Ok X.prog X.w X.K X.mg X.base k d ps sp) (M : Mk X.K C (d.at_ X.K)) (hr : Room (k + 1) X.A) (hg : Gl X x) (hm : X.mg x = some (.ref C)) (ha : PA X (e :: es) t)
    (hdb : (x == ("__debug__" : PySem.Str)) = false := by decide) (he : starEach (e :: es) X.env = (false, eval e X.env) :: starEach es X.env := by rfl) (hpl : (backTo pos (starEach es X.env)).any (·.1) = false := by rfl) :
    PE X (.Call (.Name x p) (e :: es) [] pos) (tMake C sp [] E0 t) := by
  obtain ⟨fd, F, kp, b⟩ := O
  exact pe_make M F hr hg hm b .nil pass0 ha hdb he hpl
theorem pe_k0 {x : PySem.Str} {C : Addr} {p pos : Pos} (O : Ok X.prog X.w X.K X.mg X.base k d ps sp) (M : Mk X.K C (d.at_ X.K)) (hr : Room (k + 1) X.A) (hg : Gl X x) (hm : X.mg x = some (.ref C))
    (hdb : (x == ("__debug__" : PySem.Str)) = false := by decide) : PE X (.Call (.Name x p) [] [] pos) (tMake C sp [] E0 tNil) := by
  obtain ⟨fd, F, kp, b⟩ := O
  exact pe_make0 M F hr hg hm b .nil pass0 hdb
end
/-! ### the rules with K put in by hand (inside a comprehension's block the reading may not name the block) -/
section
variable {X : Cx} (K : PySem.W.Frag)
theorem kfld {e : Expr} {f : PySem.Str} {pos : Pos} {ta : TE} (he : PE X e ta) (hb : attributeBase e f X.env (eval e X.env) = eval e X.env) (hK : X.K = K := by rfl) : PE X (.Attribute e f pos) (tFld K ta f) := by
  subst hK
  exact pe_fld he hb
theorem kcval {e : Expr} {f : PySem.Str} {pos : Pos} {ta : TE} (he : PE X e ta) (hb : attributeBase e f X.env (eval e X.env) = eval e X.env := by rfl) (hK : X.K = K := by rfl) : PE X (.Attribute e f pos) (ClX.tCVal K ta f) := by
  subst hK
  exact ClX.pe_cval he hb
theorem ksl_list (hK : X.K = K := by rfl) : SlR X (rSlL K) := by
  subst hK
  exact sl_list
theorem ksl_tupA (hK : X.K = K := by rfl) : SlR X (rSlA K) := by
  subst hK
  exact sl_tupA
theorem kix_list (hK : X.K = K := by rfl) : IxR X (rIxL K) := by
  subst hK
  exact ix_list
theorem kix_tup (hK : X.K = K := by rfl) : IxR X (rIxT K) := by
  subst hK
  exact ix_tup
theorem kin_seq (hK : X.K = K := by rfl) : OpR X (compareOp .In) (rIn K false) := by
  subst hK
  exact op_in_seq
theorem knotIn_seq (hK : X.K = K := by rfl) : OpR X (compareOp .NotIn) (rIn K true) := by
  subst hK
  exact op_notIn_seq
theorem kcatA (hK : X.K = K := by rfl) : OpR X (binaryOp .Add) (rCatA K) := by
  subst hK
  exact op_catA
theorem kinD (hu : X.A.units + 65 < cLine) (hK : X.K = K := by rfl) : OpR X (compareOp .In) (rInD K) := by
  subst hK
  exact op_inD hu
theorem knotInD (hu : X.A.units + 65 < cLine) (hK : X.K = K := by rfl) : OpR X (compareOp .NotIn) (rNotInD K) := by
  subst hK
  exact op_notInD hu
theorem kjoin {o e : Expr} {to te : TE} {apos pos : Pos} (ho : PE X o to) (he : PE X e te) (hs : starEach [e] X.env = [(false, eval e X.env)] := by rfl) (hbase : attributeBase o "join" X.env (eval o X.env) = eval o X.env := by rfl) (hline : (apos.endLine == pos.line) = true := by rfl) (hK : X.K = K := by rfl) :
    PE X (.Call (.Attribute o "join" apos) [e] [] pos) (tM1 (fun x xs H Q => ∃ a p, ∃ ys : List Str, x = .str a ∧ xs = [.ref p] ∧ (SqL K H p (ys.map V.str) ∨ SqT K H p (ys.map V.str)) ∧ (ys.map (·.length)).sum + ys.length * a.length ≤ 16777216 ∧ Q (.str (Txt.join a ys)) H) to te) := by
  subst hK
  exact pe_join ho he hs hbase hline
theorem kpg_tup {es : List Expr} {k : Nat} {pos : Pos} {t : TGs} {n : Nat} (hc : X.calm = true) (h : PGs X es t) (hn : (assignEach es X.env).length = n := by rfl) (hst : (assignEach es X.env).findIdx? (·.1) = none := by rfl) (hK : X.K = K := by rfl) : PG X (.Tuple es k pos) (gTup K n t) := by
  subst hK
  exact pg_tup hc h hn hst
theorem kbm {T : String} {name : PySem.Str} {id : String} {r : V → List V → Hp → VK → Prop} {o e : Expr} {es : List Expr} {to : TE} {t : TA} {apos cpos : Pos} (pa : PlainAttrs T) (slot : Slot T name id) (hty : typeOf (.builtin id) = pure (.type "method_descriptor")) (hm : MtR X id r) (ho : PE X o to) (ha : PA X (e :: es) t)
    (hbase : attributeBase o name X.env (eval o X.env) = eval o X.env := by rfl)
    (hfew : ((backTo cpos (starEach (e :: es) X.env)).all (fun x => !x.1) && (backToKw cpos (keywordEach [] X.env)).all (fun x => x.1.isSome)
      && decide ((e :: es).length + ([] : List Keyword).length + (if ([] : List Keyword).isEmpty then 0 else 1) < 30)) = true := by rfl)
    (hline : (apos.endLine == cpos.line) = true := by rfl) (hs : starEach (e :: es) X.env = (false, eval e X.env) :: starEach es X.env := by rfl) (hplain : (backTo cpos (starEach es X.env)).any (·.1) = false := by rfl) (hK : X.K = K := by rfl) :
    PE X (.Call (.Attribute o name apos) (e :: es) [] cpos) (tBM K T r to t) := by
  subst hK
  exact pe_bm pa slot hty hm ho ha hbase hfew hline hs hplain
theorem kisi (hK : X.K = K := by rfl) : CallR X (.builtin "isinstance") (rIsi K) := by
  subst hK
  exact call_isi
theorem klen_seq (hK : X.K = K := by rfl) : CallR X (.builtin "len") (fun xs H Q => ∃ p ys, xs = [.ref p] ∧ (SqL K H p ys ∨ SqT K H p ys) ∧ Q (.int ys.length) H) := by
  subst hK
  exact call_len_seq
theorem klist_of (hK : X.K = K := by rfl) : CallR X (.type "list") (fun xs H Q => ∃ p ys, xs = [.ref p] ∧ (SqL K H p ys ∨ SqT K H p ys) ∧ ∀ l, H l = none → Q (.ref l) (upd H l (.lst ys))) := by
  subst hK
  exact call_list_of
theorem ktruth {a : Expr} {ta : TE} (ha : PE X a ta) (he : ∀ whole, isTrue a X.env whole = (do let v ← whole; standAt a.pos; holding [v] (truthy v))) (hK : X.K = K := by rfl) :
    PT X a (fun σ H Q => ta σ H fun x H' => ∃ k, TruV K x H' k ∧ Q k H') := by
  subst hK
  exact pt_truth ha he
end
/-- Letter(n, p, h, answers = .., subject = .., words = ..) -/
def OkL (P : Program) (w : World) (K : PySem.W.Frag) (mg : PySem.Str → Option Value) (base : Heap) (k : Nat) (sp : Sp) : Prop :=
  ∃ fd, FnOk P w K mg base CX0 k (d_Letter_init.at_ K) fd ["self", "number", "person", "house", "answers", "subject", "words"] sp ∧ KBn K fd ["self", "number", "person", "house", "answers", "subject", "words"] 4 ["answers", "subject", "words"] (fun us ws => us ++ ws) (fun vs zs => vs ++ zs)
theorem pe_L {X : Cx} {sp : Sp} {k : Nat} {C : Addr} {x : PySem.Str} {p pos : Pos} {e : Expr} {es : List Expr} {kws : List Keyword} {t tk : TA} (O : OkL X.prog X.w X.K X.mg X.base k sp) (M : Mk X.K C (d_Letter_init.at_ X.K)) (hr : Room (k + 1) X.A) (hg : Gl X x) (hm : X.mg x = some (.ref C)) (ha : PA X (e :: es) t) (hkw : PK X kws tk)
    (hall : (backToKw pos (keywordEach kws X.env)).all (·.1.isSome) = true := by rfl) (hks : (backToKw pos (keywordEach kws X.env)).filterMap (·.1) = (["answers", "subject", "words"] : List PySem.Str) := by rfl) (hdb : (x == ("__debug__" : PySem.Str)) = false := by decide)
    (he : starEach (e :: es) X.env = (false, eval e X.env) :: starEach es X.env := by rfl) (hpl : ((backTo pos (starEach (e :: es) X.env)).any (·.1) || (backToKw pos (keywordEach kws X.env)).any (·.1.isNone)) = false := by rfl) :
    PE X (.Call (.Name x p) (e :: es) kws pos) (tMakeK C 3 3 sp (fun vs zs => vs ++ zs) E0 t tk) := by
  obtain ⟨fd, F, b⟩ := O
  exact pe_makeK (ks := ["answers", "subject", "words"]) (n := 3) M F hr hg hm b pass0 ha hkw hall hks hdb he hpl
theorem hu65 {A : Around} {k : Nat} (hr : Room k A) : A.units + 65 < cLine := by
  have := hr.un
  omega
end K75
end T_Low

section T_Help
set_option Elab.async false
set_option linter.all false
set_option maxRecDepth 100000
set_option maxHeartbeats 4000000
namespace K75
open PySem PySem.Spec PyProof.Rows L2
/-! ### heaps -/
theorem same_new {H : Hp} {p : Addr} {o : HO} (h : H p = none) : Same H (upd H p o) := fun a u e => by
  rw [upd_ne (ne_of_none e h)]
  exact e
/-- an object that G does not know changes -/
theorem same_mut {G H : Hp} {p : Addr} {o : HO} (e : Same G H) (h : G p = none) : Same G (upd H p o) := fun a u ha => by
  rw [upd_ne (ne_of_none ha h)]
  exact e a u ha
theorem sqL {K : PySem.W.Frag} {H : Hp} {a : Addr} {xs : List V} (h : H a = some (.lst xs)) : SqL K H a xs := Or.inl (Or.inl h)
theorem sqT {K : PySem.W.Frag} {H : Hp} {a : Addr} {xs : List V} (h : H a = some (.tup xs)) : SqT K H a xs := Or.inl (Or.inl h)
theorem Same.seqT {K : PySem.W.Frag} {H H' : Hp} {a : Addr} {xs : List V} (e : Same H H') (h : SqT K H a xs) : SqT K H' a xs := by
  rcases h with (h | ⟨o, h⟩) | h
  · exact .inl (.inl (e _ _ h))
  · exact .inl (.inr ⟨o, e _ _ h⟩)
  · exact .inr h
theorem sz_le {n : Nat} (h : n ≤ 100000) : n ≤ sizeLine := Nat.le_trans h (by decide)
theorem sz_lt {n : Nat} (h : n < 100000) : n < sizeLine := Nat.lt_of_lt_of_le h (by decide)
/-- all but the objects at xs is as it was -/
def SameX (xs : List Addr) (H H' : Hp) : Prop := ∀ a o, a ∉ xs → H a = some o → H' a = some o
theorem SameX.refl {xs : List Addr} (H : Hp) : SameX xs H H := fun _ _ _ h => h
theorem SameX.trans {xs : List Addr} {H H1 H2 : Hp} (a : SameX xs H H1) (b : SameX xs H1 H2) : SameX xs H H2 := fun x o n h => b x o n (a x o n h)
theorem SameX.of {xs : List Addr} {H H' : Hp} (e : Same H H') : SameX xs H H' := fun a o _ h => e a o h
theorem SameX.mut {xs : List Addr} {H H' : Hp} {p : Addr} {o : HO} (e : SameX xs H H') (h : p ∈ xs) : SameX xs H (upd H' p o) := fun a u n ha => by
  rw [upd_ne (fun q : a = p => n (by rw [q]; exact h))]
  exact e a u n ha
theorem SameX.new {xs : List Addr} {H H' : Hp} {p : Addr} {o : HO} (e : SameX xs H H') (h : H' p = none) : SameX xs H (upd H' p o) := fun a u n ha => by
  rw [upd_ne (ne_of_none (e a u n ha) h)]
  exact e a u n ha
/-- .. and an object that did not stand before changes -/
theorem SameX.young {xs : List Addr} {H H' : Hp} {p : Addr} {o : HO} (e : SameX xs H H') (h : H p = none) : SameX xs H (upd H' p o) := fun a u n ha => by
  rw [upd_ne (ne_of_none ha h)]
  exact e a u n ha
/-! ### what a for walks, in short -/
structure Walks (J : It) (n : Nat) (ok : Hp → Prop) (R : Nat → V → Hp → Hp → Prop) : Prop where
  go : ∀ i H, ok H → i < n → J.go i H
  stop : ∀ i H, ok H → n ≤ i → J.stop i H
  yld : ∀ i H x H', ok H → i < n → J.yld i H x H' → R i x H H'
def Plain (xs : List V) : Nat → V → Hp → Hp → Prop := fun i x H H' => H' = H ∧ xs[i]? = some x
section
variable {K : PySem.W.Frag} {a b : Addr} {xs ys : List V}
theorem w_list : Walks (Itl K a) xs.length (fun H => SqL K H a xs) (Plain xs) :=
  ⟨fun i H q hi => ⟨xs, xs[i], q, by simp [hi]⟩, fun i H q hi => ⟨xs, q, hi⟩, fun i H x H' q hi y => ⟨y.1, y.2 xs q⟩⟩
theorem w_tup : Walks (Itt K a) xs.length (fun H => SqT K H a xs) (Plain xs) :=
  ⟨fun i H q hi => ⟨xs, xs[i], q, by simp [hi]⟩, fun i H q hi => ⟨xs, q, hi⟩, fun i H x H' q hi y => ⟨y.1, y.2 xs q⟩⟩
theorem w_rng {lo : Int} {n : Nat} : Walks (Itr lo n) n (fun _ => True) (fun i x H H' => H' = H ∧ x = .int (lo + (i : Nat))) :=
  ⟨fun i H _ hi => hi, fun i H _ hi => hi, fun i H x H' _ hi y => y⟩
theorem w_rngC {lo c : Int} {n : Nat} : Walks (Itc lo c n) n (fun _ => True) (fun i x H H' => H' = H ∧ x = .int (lo + (i : Nat) * c)) :=
  ⟨fun i H _ hi => hi, fun i H _ hi => hi, fun i H x H' _ hi y => y⟩
theorem w_str {x : Str} : Walks (Its x) x.cps.size (fun _ => True) (fun i v H H' => H' = H ∧ ∃ c, x.cps[i]? = some c ∧ v = .str ⟨#[c]⟩) :=
  ⟨fun i H _ hi => hi, fun i H _ hi => hi, fun i H x H' _ hi y => y⟩
theorem w_rev : Walks (Itv K a xs.length) xs.length (fun H => SqL K H a xs) (fun i x H H' => H' = H ∧ xs[xs.length - 1 - i]? = some x) :=
  ⟨fun i H q hi => ⟨hi, xs, xs[xs.length - 1 - i]'(by omega), q, by rw [List.getElem?_eq_getElem]⟩, fun i H q hi => hi, fun i H x H' q hi y => ⟨y.1, y.2 xs q⟩⟩
theorem w_enum : Walks (Ite K a) xs.length (fun H => SqL K H a xs) (fun i v H H' => ∃ T x, v = .ref T ∧ H T = none ∧ H' = upd H T (.tup [.int (i : Nat), x]) ∧ xs[i]? = some x) :=
  ⟨fun i H q hi => ⟨xs, xs[i], q, by simp [hi]⟩, fun i H q hi => ⟨xs, q, hi⟩, fun i H x H' q hi y => by
    obtain ⟨T, z, e, h, e2, y⟩ := y
    exact ⟨T, z, e, h, e2, y xs q⟩⟩
end
/-! ### comprehensions and loops over such -/
section
variable {J : It} {n : Nat} {ok : Hp → Prop} {R : Nat → V → Hp → Hp → Prop} {g : TG}
theorem lc_walk {tt : TT} {te : TE} {vs : List Nat} {σ : L2.St} {H1 : Hp} {D : Addr} {Qd : Hp → Prop} (w : Walks J n ok R) (Pv : Nat → Hp → Prop) (h0 : Pv 0 (upd H1 D (.lst []))) (hl : ∀ i H, i ≤ n → Pv i H → ok H)
    (hs : ∀ i x H H', i < n → R i x H H' → Pv i H → g x (wipe σ vs) H' fun σ2 H2 => wipe σ2 vs = wipe σ vs ∧ tt σ2 H2 fun b H3 =>
      if b = true then te σ2 H3 fun y H4 => ∃ acc, H4 D = some (.lst acc) ∧ acc.length < sizeLine ∧ Pv (i + 1) (upd H4 D (.lst (acc ++ [y]))) else Pv (i + 1) H3) (hd : ∀ H, Pv n H → Qd H) :
    ∃ W : Nat → Nat → Hp → Prop, (∃ m, W 0 m (upd H1 D (.lst []))) ∧ ∀ i m H, W i m H →
      (J.stop i H ∧ Qd H) ∨ (J.go i H ∧ ∃ Nx : Hp → Prop, (∀ H', Nx H' → ∃ m', m' < m ∧ W (i + 1) m' H') ∧ ∀ x H', J.yld i H x H' → g x (wipe σ vs) H' fun σ2 H2 => wipe σ2 vs = wipe σ vs ∧ tt σ2 H2 fun b H3 =>
        if b = true then te σ2 H3 fun y H4 => ∃ acc, H4 D = some (.lst acc) ∧ acc.length < sizeLine ∧ Nx (upd H4 D (.lst (acc ++ [y]))) else Nx H3) := by
  refine ⟨fun i m H => m = n - i ∧ i ≤ n ∧ Pv i H, ⟨n, rfl, Nat.zero_le _, h0⟩, ?_⟩
  rintro i m H ⟨rfl, hi, p⟩
  have q := hl i H hi p
  by_cases hlt : i < n
  · exact .inr ⟨w.go i H q hlt, Pv (i + 1), fun H' p' => ⟨n - (i + 1), by omega, rfl, hlt, p'⟩, fun x H' y => hs i x H H' hlt (w.yld i H x H' q hlt y) p⟩
  · have e : i = n := by omega
    subst e
    exact .inl ⟨w.stop i H q (Nat.le_refl _), hd H p⟩
theorem for_walk {tb : TS} {D : Ends} {σ : L2.St} {H : Hp} (w : Walks J n ok R) (Pv : Nat → L2.St → Hp → Prop) (h0 : Pv 0 σ H) (hl : ∀ i σ H, i ≤ n → Pv i σ H → ok H)
    (hs : ∀ i x σ H H', i < n → R i x H H' → Pv i σ H → g x σ H' fun σ2 H2 => tb { D with nx := Pv (i + 1), ct := Pv (i + 1), bk := D.nx } σ2 H2) (hd : ∀ σ H, Pv n σ H → D.nx σ H) :
    ∃ W : Nat → Nat → L2.St → Hp → Prop, (∃ m, W 0 m σ H) ∧ ∀ i m σ H, W i m σ H →
      (J.stop i H ∧ D.nx σ H) ∨ (J.go i H ∧ ∃ N : L2.St → Hp → Prop, (∀ σ' H', N σ' H' → ∃ m', m' < m ∧ W (i + 1) m' σ' H') ∧ ∀ x H', J.yld i H x H' → g x σ H' fun σ2 H2 => tb { D with nx := N, ct := N, bk := D.nx } σ2 H2) := by
  refine ⟨fun i m σ H => m = n - i ∧ i ≤ n ∧ Pv i σ H, ⟨n, rfl, Nat.zero_le _, h0⟩, ?_⟩
  rintro i m σ H ⟨rfl, hi, p⟩
  have q := hl i σ H hi p
  by_cases hlt : i < n
  · exact .inr ⟨w.go i H q hlt, Pv (i + 1), fun σ' H' p' => ⟨n - (i + 1), by omega, rfl, hlt, p'⟩, fun x H' y => hs i x σ H H' hlt (w.yld i H x H' q hlt y) p⟩
  · have e : i = n := by omega
    subst e
    exact .inl ⟨w.stop i H q (Nat.le_refl _), hd σ H p⟩
theorem tyes {σ : L2.St} {H : Hp} {A B : Hp → Prop} (h : A H) : tYes σ H (fun b H3 => if b = true then A H3 else B H3) := by
  show if true = true then A H else B H
  exact iteT h
/-- what the first i items put into the list -/
def kept (f : Nat → Option V) : Nat → List V
  | 0 => []
  | i + 1 => kept f i ++ (f i).toList
theorem kept_le {f : Nat → Option V} : ∀ i, (kept f i).length ≤ i
  | 0 => Nat.le_refl _
  | i + 1 => by
    unfold kept
    rw [List.length_append]
    have := kept_le (f := f) i
    cases f i with
    | none => simp; omega
    | some v => simp; omega
theorem kept_list {α : Type} {f : α → V} (d : α) (xs : List α) : kept (fun i => some (f (xs.getD i d))) xs.length = xs.map f := by
  have h : ∀ n, n ≤ xs.length → kept (fun i => some (f (xs.getD i d))) n = (xs.take n).map f := by
    intro n
    induction n with
    | zero =>
      intro _
      rfl
    | succ n ih =>
      intro hn
      unfold kept
      rw [ih (by omega), List.take_add_one, List.map_append, List.getElem?_eq_getElem (by omega : n < xs.length)]
      simp [List.getD, List.getElem?_eq_getElem (by omega : n < xs.length)]
  rw [h _ (Nat.le_refl _), List.take_length]
def LcS (f : Nat → Option V) (D : Addr) (H1 : Hp) (i : Nat) (H : Hp) : Prop := Same H1 H ∧ H D = some (.lst (kept f i))
theorem lcT {f : Nat → Option V} {D : Addr} {H1 H4 : Hp} {i : Nat} {y : V} (hD : H1 D = none) (s : Same H1 H4) (hi : i < 100000) (a4 : H4 D = some (.lst (kept f i))) (e : f i = some y) :
    ∃ acc, H4 D = some (.lst acc) ∧ acc.length < sizeLine ∧ LcS f D H1 (i + 1) (upd H4 D (.lst (acc ++ [y]))) := by
  refine ⟨_, a4, sz_lt (Nat.lt_of_le_of_lt (kept_le i) hi), same_mut s hD, ?_⟩
  rw [upd_same]
  show some (HO.lst (kept f i ++ [y])) = some (.lst (kept f i ++ (f i).toList))
  rw [e]
  rfl
theorem lcN {f : Nat → Option V} {D : Addr} {H1 H4 : Hp} {i : Nat} (s : Same H1 H4) (a4 : H4 D = some (.lst (kept f i))) (e : f i = none) : LcS f D H1 (i + 1) H4 := by
  refine ⟨s, ?_⟩
  show H4 D = some (.lst (kept f i ++ (f i).toList))
  rw [e, a4]
  simp
/-- a comprehension that only makes new objects: item i gives f i (none: left out) -/
theorem lc_pure {tt : TT} {te : TE} {vs : List Nat} {σ : L2.St} {H1 : Hp} {D : Addr} {Qd : Hp → Prop} (w : Walks J n ok R) (f : Nat → Option V) (hD : H1 D = none) (hok : ∀ H, Same H1 H → ok H) (hR : ∀ i x H H', R i x H H' → Same H H')
    (hs : ∀ i x H H', i < n → R i x H H' → Same H1 H → Same H1 H' → H' D = some (.lst (kept f i)) → g x (wipe σ vs) H' fun σ2 H2 => wipe σ2 vs = wipe σ vs ∧ tt σ2 H2 fun b H3 =>
      if b = true then te σ2 H3 fun y H4 => ∃ acc, H4 D = some (.lst acc) ∧ acc.length < sizeLine ∧ LcS f D H1 (i + 1) (upd H4 D (.lst (acc ++ [y]))) else LcS f D H1 (i + 1) H3)
    (hd : ∀ H, Same H1 H → H D = some (.lst (kept f n)) → Qd H) :
    ∃ W : Nat → Nat → Hp → Prop, (∃ m, W 0 m (upd H1 D (.lst []))) ∧ ∀ i m H, W i m H →
      (J.stop i H ∧ Qd H) ∨ (J.go i H ∧ ∃ Nx : Hp → Prop, (∀ H', Nx H' → ∃ m', m' < m ∧ W (i + 1) m' H') ∧ ∀ x H', J.yld i H x H' → g x (wipe σ vs) H' fun σ2 H2 => wipe σ2 vs = wipe σ vs ∧ tt σ2 H2 fun b H3 =>
        if b = true then te σ2 H3 fun y H4 => ∃ acc, H4 D = some (.lst acc) ∧ acc.length < sizeLine ∧ Nx (upd H4 D (.lst (acc ++ [y]))) else Nx H3) := by
  refine lc_walk w (LcS f D H1) ⟨same_new hD, upd_same⟩ (fun i H _ p => hok H p.1) (fun i x H H' hi r p => ?_) fun H p => hd H p.1 p.2
  have e := hR i x H H' r
  exact hs i x H H' hi r p.1 (p.1.trans e) (e _ _ p.2)
end
/-- a new object: what follows is shown of any heap that has it -/
theorem new_step {H : Hp} {o : HO} {Q : V → Hp → Prop} (k : ∀ p G, H p = none → Same H G → G p = some o → Q (.ref p) G) : ∀ p, H p = none → Q (.ref p) (upd H p o) := fun p np => k p _ np (same_new np) upd_same
theorem gen_upd {H G : Hp} {p : Addr} {o : HO} (np : H p = none) (e : upd H p o = G) : Same H G ∧ G p = some o := by
  subst e
  exact ⟨same_new np, upd_same⟩
theorem gen_mut {H G : Hp} {p : Addr} {o : HO} (e : upd H p o = G) : G p = some o ∧ ∀ b, b ≠ p → G b = H b := by
  subst e
  exact ⟨upd_same, fun b hb => upd_ne hb⟩
/-! ### fields -/
section
variable {K : PySem.W.Frag} {C a dx : Addr} {fs fs' : List (PySem.Str × V)} {f : PySem.Str} {v y : V} {H H0 : Hp} {σ : L2.St}
/-- o.f, o in a slot -/
theorem fld_var {i : Nat} {Q : VK} (hs : σ[i]? = some (some (.ref a))) (h : H a = some (.ins C dx fs)) (cl : Cls K C) (na : NoAttr K C f) (l : fs.lookup f = some v) (q : Q v H) : tFld K (tVar i) f σ H Q :=
  ⟨.ref a, hs, a, C, dx, fs, v, rfl, h, cl, na, l, q⟩
/-- a field's store, on an object that H0 does not know; o in a slot -/
theorem put_step {i : Nat} {D : L2.St → Hp → Prop} (h : H a = some (.ins C dx fs)) (s : Same H0 H) (n0 : H0 a = none) (cl : Cls K C) (na : NoAttr K C f) (hl : fs.length < 1000) (hs : σ[i]? = some (some (.ref a))) (e : putF f y fs = fs')
    (k : ∀ H2, Same H0 H2 → H2 a = some (.ins C dx fs') → (∀ b, b ≠ a → H2 b = H b) → D σ H2) :
    ∃ v, σ[i]? = some (some v) ∧ ∃ a' C' dx' fs1, v = .ref a' ∧ H a' = some (.ins C' dx' fs1) ∧ Cls K C' ∧ NoAttr K C' f ∧ fs1.length < 1000 ∧ D σ (upd H a' (.ins C' dx' (putF f y fs1))) :=
  ⟨.ref a, hs, a, C, dx, fs, rfl, h, cl, na, hl, k _ (same_mut s n0) (by rw [upd_same, e]) fun b hb => upd_ne hb⟩
end
end K75
end T_Help

section T_A1
set_option Elab.async false
set_option linter.all false
set_option maxRecDepth 100000
set_option maxHeartbeats 4000000
namespace K75
open PySem PySem.Spec PyProof.Rows L2
/-! ### names, numbers, numerals: plain -/
def sgn (c : Nat) : Bool := decide (97 ≤ c ∧ c ≤ 122)
def fig (c : Nat) : Bool := decide (48 ≤ c ∧ c ≤ 57)
def isName (x : PySem.Str) : Bool := decide (1 ≤ x.length ∧ x.length ≤ 8) && x.cps.toList.all sgn
def isNumeral (x : PySem.Str) : Bool := decide (1 ≤ x.length ∧ x.length ≤ 31) && (!decide (x.cps[0]? = some 48) && x.cps.toList.all fig)
def isNumber (n : Int) : Bool := decide (1 ≤ n ∧ n ≤ 10 ^ 30)
theorem sgn_in (c : Nat) : decide (c ∈ ("abcdefghijklmnopqrstuvwxyz" : PySem.Str).cps.toList) = sgn c := by
  have e : ("abcdefghijklmnopqrstuvwxyz" : PySem.Str).cps.toList = (List.range 26).map (· + 97) := by decide +kernel
  rw [e]
  refine decide_eq_decide.mpr ?_
  rw [List.mem_map]
  constructor
  · rintro ⟨i, hi, rfl⟩
    have := List.mem_range.mp hi
    omega
  · intro h
    exact ⟨c - 97, List.mem_range.mpr (by omega), by omega⟩
theorem fig_in (c : Nat) : decide (c ∈ ("0123456789" : PySem.Str).cps.toList) = fig c := by
  have e : ("0123456789" : PySem.Str).cps.toList = (List.range 10).map (· + 48) := by decide +kernel
  rw [e]
  refine decide_eq_decide.mpr ?_
  rw [List.mem_map]
  constructor
  · rintro ⟨i, hi, rfl⟩
    have := List.mem_range.mp hi
    omega
  · intro h
    exact ⟨c - 48, List.mem_range.mpr (by omega), by omega⟩
/-- a comprehension of bools over the signs of a text -/
theorem kept_map {f : Nat → V} : ∀ n, kept (fun i => some (f i)) n = (List.range n).map f
  | 0 => rfl
  | n + 1 => by
    unfold kept
    rw [kept_map n, List.range_succ, List.map_append]
    rfl
theorem range_all {p : Nat → Bool} (xs : List Nat) : (((List.range xs.length).map fun i => p (xs.getD i 0)).all id) = xs.all p := by
  rw [Bool.eq_iff_iff, List.all_eq_true, List.all_eq_true]
  constructor
  · intro h x hx
    obtain ⟨i, hi, rfl⟩ := List.mem_iff_getElem.mp hx
    have := h (p (xs.getD i 0)) (List.mem_map.mpr ⟨i, List.mem_range.mpr hi, rfl⟩)
    simpa [List.getD, List.getElem?_eq_getElem hi] using this
  · intro h b hb
    obtain ⟨i, hi, rfl⟩ := List.mem_map.mp hb
    have hi := List.mem_range.mp hi
    have := h xs[i] (List.getElem_mem hi)
    simpa [List.getD, List.getElem?_eq_getElem hi] using this
theorem kit_any1 {K : PySem.W.Frag} {t c : String} {r : List Value} (h : kitB t c = some true) : PySem.W.kitAny K (.type t) (.type c :: r) = some true := by
  unfold PySem.W.kitAny
  rw [kit_ty h]
/-! ### promises -/
def sp_is_name : Sp := fun vs H Q _ => ∃ x : PySem.Str, vs = [.str x] ∧ x.length ≤ 100000 ∧ ∀ H', Same H H' → Q (.bl (isName x)) H'
def sp_is_number : Sp := fun vs H Q _ => ∃ n : Int, vs = [.int n] ∧ Q (.bl (isNumber n)) H
def sp_is_numeral : Sp := fun vs H Q _ => ∃ x : PySem.Str, vs = [.str x] ∧ x.length ≤ 100000 ∧ ∀ H', Same H H' → Q (.bl (isNumeral x)) H'
/-- the values are a list -/
def sp_are_names (K : PySem.W.Frag) : Sp := fun vs H Q _ => ∃ (a : Addr) (xs : List PySem.Str) (m : Int), vs = [.ref a, .int m] ∧ H a = some (.lst (xs.map V.str)) ∧ xs.length ≤ 1000 ∧ (∀ x ∈ xs, x.length ≤ 100000) ∧ ∀ H', Same H H' → Q (.bl (decide ((xs.length : Int) ≤ m) && xs.all isName)) H'
section
variable {P : Program} {w : World} {K : PySem.W.Frag} {mg : PySem.Str → Option Value} {base : Heap}
abbrev sc_is_name_N : List PySem.Str := ["value", "sign"]
theorem sc_is_name : FnScope sc_is_name_N ["value"] (defScope s_is_name) := ⟨rfl, rfl, rfl, by decide +kernel, rfl, by decide +kernel, by decide +kernel⟩
theorem ok_is_name (W : Wd K mg) : Ok P w K mg base 1 d_is_name ["value"] sp_is_name := by
  refine ok_mk W.d_is_name sc_is_name (fun _ _ _ _ _ _ us hl => match us, hl with | [_], _ => rfl) (fun vs H Q E h => ?_) (fun cdv A outer s H vs Q E hr h => ?_)
  · obtain ⟨x, rfl, _⟩ := h
    rfl
  · obtain ⟨x, rfl, hz, q⟩ := h
    have hu := hu_of hr
    have nd := sc_is_name.nd
    refine ⟨_, (pss_cons (ps_if (pt_not (pt_val (pe_callB call_isi rfl W.f_isinstance (by decide +kernel) (pa_cons (pv 0) (pa_cons (pe_bltn (v := V.ty "str") rfl W.f_str boot_str rfl) pa_nil)))))
      (pss_one (ps_ret pe_bl))
      pss_nil)
    (pss_cons (ps_if (pt_not (pt_chain op_le op_le pe_int (pe_callB call_len_str rfl W.f_len PySem.boot_len (pa_cons (pv 0) pa_nil)) (pe_gi rfl W.i_MOST_SIGNS)))
      (pss_one (ps_ret pe_bl))
      pss_nil)
    (pss_one (ps_ret (pe_callB (cr_all rfl) rfl W.f_all (by decide +kernel) (pa_cons (pe_lc (own := [("sign", 1)]) rfl nd (pi_str (pv 0)) (blkOk_by (N := sc_is_name_N) (sc := defScope s_is_name) (by decide +kernel)) (fun _ _ _ _ _ => (pg_name (i := 1) nd rfl (Or.inl rfl))) (fun _ _ _ _ _ => pts_nil) (fun _ _ _ _ _ => (pe_cmpR op_in_sign (pv 1) (pe_gs rfl W.s_SIGNS) (by with_unfolding_all rfl)))) pa_nil)))))), ?_⟩
    refine ⟨_, rfl, _, _, _, _, _, rfl, ClsV.ty _, .base (.str _), kit_ty (by decide +kernel), true, rfl, ?_⟩
    refine iteF ?_
    refine ⟨_, rfl, _, rfl, sz_le hz, 1, (x.length : Int), rfl, rfl, _, rfl, ?_⟩
    by_cases h1 : 1 ≤ x.length
    · have e1 : decide ((1 : Int) ≤ (x.length : Int)) = true := decide_eq_true (by omega)
      rw [e1]
      refine iteT ⟨(x.length : Int), 8, rfl, rfl, _, rfl, ?_⟩
      by_cases h2 : x.length ≤ 8
      · have e2 : decide ((x.length : Int) ≤ 8) = true := decide_eq_true (by omega)
        rw [e2]
        refine iteF ?_
        refine ⟨_, rfl, x, rfl, fun D hD => ?_⟩
        refine lc_pure w_str (fun i => some (.bl (sgn (x.cps.toList.getD i 0)))) hD (fun _ _ => trivial) (fun i v H H' r => by obtain ⟨e, _⟩ := r; rw [e]; exact Same.refl _) ?_ ?_
        · rintro i v H1 H2 hi ⟨rfl, c, hc, rfl⟩ s1 s2 hL
          refine ⟨rfl, ?_⟩
          refine tyes ⟨_, rfl, c, _, rfl, rfl, ?_⟩
          refine lcT hD s1 (by have h9 : x.cps.size = x.length := rfl; omega) hL ?_
          have e : x.cps.toList.getD i 0 = c := by
            rw [← Array.getElem?_toList] at hc
            simp [List.getD, hc]
          rw [e, sgn_in]
        · intro H1 s1 hL
          refine ⟨_, _, rfl, sqL (xs := ((List.range x.cps.toList.length).map fun i => sgn (x.cps.toList.getD i 0)).map V.bl) ?_, ?_⟩
          · rw [hL, kept_map, List.map_map]
            rfl
          · rw [range_all]
            have e : isName x = x.cps.toList.all sgn := by
              unfold isName
              rw [decide_eq_true ⟨h1, h2⟩, Bool.true_and]
            rw [← e]
            exact q _ s1
      · have e2 : decide ((x.length : Int) ≤ 8) = false := decide_eq_false (by omega)
        rw [e2]
        refine iteT ?_
        have e : isName x = false := by
          unfold isName
          rw [decide_eq_false (fun z => h2 z.2), Bool.false_and]
        have := q H (Same.refl _)
        rw [e] at this
        exact this
    · have e1 : decide ((1 : Int) ≤ (x.length : Int)) = false := decide_eq_false (by omega)
      rw [e1]
      refine iteF ?_
      refine ⟨_, rfl, ?_⟩
      have e : isName x = false := by
        unfold isName
        rw [decide_eq_false (fun z => h1 z.1), Bool.false_and]
      have := q H (Same.refl _)
      rw [e] at this
      exact this
abbrev sc_is_number_N : List PySem.Str := ["value"]
theorem sc_is_number : FnScope sc_is_number_N ["value"] (defScope s_is_number) := ⟨rfl, rfl, rfl, by decide +kernel, rfl, by decide +kernel, by decide +kernel⟩
theorem ok_is_number (W : Wd K mg) : Ok P w K mg base 1 d_is_number ["value"] sp_is_number := by
  refine ok_mk W.d_is_number sc_is_number (fun _ _ _ _ _ _ us hl => match us, hl with | [_], _ => rfl) (fun vs H Q E h => ?_) (fun cdv A outer s H vs Q E hr h => ?_)
  · obtain ⟨n, rfl, _⟩ := h
    rfl
  · obtain ⟨n, rfl, q⟩ := h
    have hu := hu_of hr
    have nd := sc_is_number.nd
    refine ⟨_, (pss_cons (ps_if (PW.pt (pw_or (pt_not (pt_val (pe_callB call_isi rfl W.f_isinstance (by decide +kernel) (pa_cons (pv 0) (pa_cons (pe_bltn (v := V.ty "int") rfl W.f_int boot_int rfl) pa_nil))))) (pw_or1 (pt_val (pe_callB call_isi rfl W.f_isinstance (by decide +kernel) (pa_cons (pv 0) (pa_cons (pe_bltn (v := V.ty "bool") rfl W.f_bool boot_bool rfl) pa_nil)))))))
      (pss_one (ps_ret pe_bl))
      pss_nil)
    (pss_one (ps_ret (pe_chain op_le op_le pe_int (pv 0) (pe_gi rfl W.i_MOST_NUMBER))))), ?_⟩
    refine ⟨_, rfl, _, _, _, _, _, rfl, ClsV.ty _, .base (.int _), kit_ty (by decide +kernel), true, rfl, ?_⟩
    refine iteF ⟨_, rfl, _, _, _, _, _, rfl, ClsV.ty _, .base (.int _), kit_ty (by decide +kernel), false, rfl, ?_⟩
    refine iteF ?_
    refine ⟨_, rfl, 1, n, rfl, rfl, _, rfl, ?_⟩
    by_cases h1 : 1 ≤ n
    · have e1 : decide ((1 : Int) ≤ n) = true := decide_eq_true h1
      rw [e1]
      refine iteT ⟨n, _, rfl, rfl, ?_⟩
      have e : decide (n ≤ 1000000000000000000000000000000) = isNumber n := decide_eq_decide.mpr ⟨fun z => ⟨h1, z⟩, fun z => z.2⟩
      show Q (.bl (decide (n ≤ 1000000000000000000000000000000))) H
      rw [e]
      exact q
    · have e1 : decide ((1 : Int) ≤ n) = false := decide_eq_false h1
      rw [e1]
      refine iteF ?_
      have e : isNumber n = false := decide_eq_false fun z => h1 z.1
      rw [e] at q
      exact q
abbrev sc_is_numeral_N : List PySem.Str := ["item", "sign"]
theorem sc_is_numeral : FnScope sc_is_numeral_N ["item"] (defScope s_is_numeral) := ⟨rfl, rfl, rfl, by decide +kernel, rfl, by decide +kernel, by decide +kernel⟩
theorem ok_is_numeral (W : Wd K mg) : Ok P w K mg base 1 d_is_numeral ["item"] sp_is_numeral := by
  refine ok_mk W.d_is_numeral sc_is_numeral (fun _ _ _ _ _ _ us hl => match us, hl with | [_], _ => rfl) (fun vs H Q E h => ?_) (fun cdv A outer s H vs Q E hr h => ?_)
  · obtain ⟨x, rfl, _⟩ := h
    rfl
  · obtain ⟨x, rfl, hz, q⟩ := h
    have hu := hu_of hr
    have nd := sc_is_numeral.nd
    refine ⟨_, (pss_cons (ps_if (PW.pt (pw_or (pt_not (pt_chain op_le op_le pe_int (pe_callB call_len_str rfl W.f_len PySem.boot_len (pa_cons (pv 0) pa_nil)) (pe_gi rfl W.i_MOST_FIGURES))) (pw_or1 (pt_cmpR op_eq (pe_ix ix_str (pv 0) pe_int (fun _ _ => rfl)) pe_str (nomark _)))))
      (pss_one (ps_ret pe_bl))
      pss_nil)
    (pss_one (ps_ret (pe_callB (cr_all rfl) rfl W.f_all (by decide +kernel) (pa_cons (pe_lc (own := [("sign", 1)]) rfl nd (pi_str (pv 0)) (blkOk_by (N := sc_is_numeral_N) (sc := defScope s_is_numeral) (by decide +kernel)) (fun _ _ _ _ _ => (pg_name (i := 1) nd rfl (Or.inl rfl))) (fun _ _ _ _ _ => pts_nil) (fun _ _ _ _ _ => (pe_cmpR op_in_sign (pv 1) (pe_gs rfl W.s_FIGURES) (by with_unfolding_all rfl)))) pa_nil))))), ?_⟩
    refine ⟨_, rfl, _, rfl, sz_le hz, 1, (x.length : Int), rfl, rfl, _, rfl, ?_⟩
    by_cases h1 : 1 ≤ x.length
    · have e1 : decide ((1 : Int) ≤ (x.length : Int)) = true := decide_eq_true (by omega)
      rw [e1]
      refine iteT ⟨(x.length : Int), 31, rfl, rfl, _, rfl, ?_⟩
      by_cases h2 : x.length ≤ 31
      · have e2 : decide ((x.length : Int) ≤ 31) = true := decide_eq_true (by omega)
        rw [e2]
        have hl : 0 < x.cps.size := h1
        refine iteF ⟨_, rfl, x, 0, x.cps[0], rfl, rfl, sz_le hz, ?_, rfl, _, rfl, ?_⟩
        · exact atI_nat (j := 0) (by rw [Array.getElem?_toList, Array.getElem?_eq_getElem hl])
        · have e3 : decide (V.str ⟨#[x.cps[0]]⟩ = V.str "0") = decide (x.cps[0]? = some 48) := by
            refine decide_eq_decide.mpr ?_
            rw [Array.getElem?_eq_getElem hl]
            have z0 : ("0" : PySem.Str) = ⟨#[48]⟩ := by decide +kernel
            rw [z0]
            constructor
            · intro z
              injection z with z
              injection z with z
              have := congrArg (fun a : Array Nat => a[0]?) z
              simpa using this
            · intro z
              injection z with z
              rw [z]
          rw [e3]
          by_cases h3 : x.cps[0]? = some 48
          · rw [decide_eq_true h3]
            refine iteT ?_
            have e : isNumeral x = false := by
              unfold isNumeral
              rw [decide_eq_true h3, Bool.not_true, Bool.false_and, Bool.and_false]
            have := q H (Same.refl _)
            rw [e] at this
            exact this
          · rw [decide_eq_false h3]
            refine iteF ?_
            refine ⟨_, rfl, x, rfl, fun D hD => ?_⟩
            refine lc_pure w_str (fun i => some (.bl (fig (x.cps.toList.getD i 0)))) hD (fun _ _ => trivial) (fun i v H H' r => by obtain ⟨e, _⟩ := r; rw [e]; exact Same.refl _) ?_ ?_
            · rintro i v H1 H2 hi ⟨rfl, c, hc, rfl⟩ s1 s2 hL
              refine ⟨rfl, ?_⟩
              refine tyes ⟨_, rfl, c, _, rfl, rfl, ?_⟩
              refine lcT hD s1 (by have h9 : x.cps.size = x.length := rfl; omega) hL ?_
              have e : x.cps.toList.getD i 0 = c := by
                rw [← Array.getElem?_toList] at hc
                simp [List.getD, hc]
              rw [e, fig_in]
            · intro H1 s1 hL
              refine ⟨_, _, rfl, sqL (xs := ((List.range x.cps.toList.length).map fun i => fig (x.cps.toList.getD i 0)).map V.bl) ?_, ?_⟩
              · rw [hL, kept_map, List.map_map]
                rfl
              · rw [range_all]
                have e : isNumeral x = x.cps.toList.all fig := by
                  unfold isNumeral
                  rw [decide_eq_true ⟨h1, h2⟩, Bool.true_and, decide_eq_false h3, Bool.not_false, Bool.true_and]
                rw [← e]
                exact q _ s1
      · have e2 : decide ((x.length : Int) ≤ 31) = false := decide_eq_false (by omega)
        rw [e2]
        refine iteT ?_
        have e : isNumeral x = false := by
          unfold isNumeral
          rw [decide_eq_false (fun z => h2 z.2), Bool.false_and]
        have := q H (Same.refl _)
        rw [e] at this
        exact this
    · have e1 : decide ((1 : Int) ≤ (x.length : Int)) = false := decide_eq_false (by omega)
      rw [e1]
      refine iteF ?_
      refine ⟨_, rfl, ?_⟩
      have e : isNumeral x = false := by
        unfold isNumeral
        rw [decide_eq_false (fun z => h1 z.1), Bool.false_and]
      have := q H (Same.refl _)
      rw [e] at this
      exact this
abbrev sc_are_names_N : List PySem.Str := ["values", "most", "value"]
theorem sc_are_names : FnScope sc_are_names_N ["values", "most"] (defScope s_are_names) := ⟨rfl, rfl, rfl, by decide +kernel, rfl, by decide +kernel, by decide +kernel⟩
theorem ok_are_names (W : Wd K mg) : Ok P w K mg base 2 d_are_names ["values", "most"] (sp_are_names K) := by
  refine ok_mk W.d_are_names sc_are_names (fun _ _ _ _ _ _ us hl => match us, hl with | [_, _], _ => rfl) (fun vs H Q E h => ?_) (fun cdv A outer s H vs Q E hr h => ?_)
  · obtain ⟨a, xs, m, rfl, _⟩ := h
    rfl
  · obtain ⟨a, xs, m, rfl, ha, hl, hz, q⟩ := h
    have hu := hu_of hr
    have nd := sc_are_names.nd
    refine ⟨_, (pss_cons (ps_if (PW.pt (pw_or (pt_not (pt_val (pe_callB call_isiT rfl W.f_isinstance (by decide +kernel) (pa_cons (pv 0) (pa_cons (pe_tup (pa_cons (pe_bltn (v := V.ty "list") rfl W.f_list boot_list rfl) (pa_cons (pe_bltn (v := V.ty "tuple") rfl W.f_tuple boot_tuple rfl) pa_nil))) pa_nil))))) (pw_or1 (pt_cmpR op_gt (pe_callB call_len_seq rfl W.f_len PySem.boot_len (pa_cons (pv 0) pa_nil)) (pv 1) (nomark _)))))
      (pss_one (ps_ret pe_bl))
      pss_nil)
    (pss_one (ps_ret (pe_callB (cr_all rfl) rfl W.f_all (by decide +kernel) (pa_cons (pe_lc (own := [("value", 2)]) rfl nd (pi_list (pv 0)) (blkOk_by (N := sc_are_names_N) (sc := defScope s_are_names) (by decide +kernel)) (fun _ _ _ _ _ => (pg_name (i := 2) nd rfl (Or.inl rfl))) (fun _ _ _ _ _ => pts_nil) (fun _ _ _ _ _ => (pe_f (ok_is_name W) (hr.mono (by decide)) rfl W.g_is_name (pa_cons (pv 2) pa_nil)))) pa_nil))))), ?_⟩
    refine ⟨_, rfl, by decide, fun p np => ?_⟩
    have s1 : Same H (upd H p (.tup [.ty "list", .ty "tuple"])) := same_new np
    refine ⟨_, p, [.ty "list", .ty "tuple"], _, _, true, rfl, upd_same, .cons (ClsV.ty _) (.cons (ClsV.ty _) .nil), .base (.lst (s1 _ _ ha)), ?_, true, rfl, ?_⟩
    · exact kit_any1 (by decide +kernel)
    refine iteF ⟨_, rfl, a, _, rfl, .inl (sqL (s1 _ _ ha)), _, rfl, _, _, rfl, rfl, _, rfl, ?_⟩
    rw [List.length_map]
    by_cases h1 : (xs.length : Int) ≤ m
    · rw [decide_eq_false (by omega)]
      rw [decide_eq_true h1, Bool.true_and] at q
      refine iteF ⟨_, rfl, a, rfl, ⟨_, sqL (s1 _ _ ha)⟩, fun D hD => ?_⟩
      refine lc_pure (w_list (xs := xs.map V.str)) (fun i => some (.bl (isName (xs.getD i "")))) hD (fun H' s2 => sqL (s2 _ _ (s1 _ _ ha))) (fun i v H H' r => by obtain ⟨e, _⟩ := r; rw [e]; exact Same.refl _) ?_ ?_
      · rintro i v H1 H2 hi ⟨rfl, hc⟩ s2 s3 hL
        rw [List.length_map] at hi
        have hx : v = V.str (xs.getD i "") := by
          rw [List.getElem?_map, List.getElem?_eq_getElem hi] at hc
          simp [List.getD, List.getElem?_eq_getElem hi, Option.some.inj hc.symm]
        subst hx
        refine ⟨rfl, tyes ⟨_, rfl, xs.getD i "", rfl, hz _ ?_, fun H4 s4 => ?_⟩⟩
        · simp [List.getD, List.getElem?_eq_getElem hi]
        · exact lcT hD (s2.trans s4) (by omega) (s4 _ _ hL) rfl
      · intro H1 s2 hL
        refine ⟨_, _, rfl, sqL (xs := ((List.range xs.length).map fun i => isName (xs.getD i "")).map V.bl) ?_, ?_⟩
        · rw [hL, kept_map, List.map_map, List.length_map]
          rfl
        · have e : (((List.range xs.length).map fun i => isName (xs.getD i "")).all id) = xs.all isName := by
            rw [Bool.eq_iff_iff, List.all_eq_true, List.all_eq_true]
            constructor
            · intro h x hx
              obtain ⟨i, hi, rfl⟩ := List.mem_iff_getElem.mp hx
              have := h (isName (xs.getD i "")) (List.mem_map.mpr ⟨i, List.mem_range.mpr hi, rfl⟩)
              simpa [List.getD, List.getElem?_eq_getElem hi] using this
            · intro h b hb
              obtain ⟨i, hi, rfl⟩ := List.mem_map.mp hb
              have hi := List.mem_range.mp hi
              have := h xs[i] (List.getElem_mem hi)
              simpa [List.getD, List.getElem?_eq_getElem hi] using this
          rw [e]
          exact q _ (s1.trans s2)
    · rw [decide_eq_true (by omega)]
      rw [decide_eq_false h1, Bool.false_and] at q
      exact iteT (q _ s1)
end
end K75
end T_A1

section T_A2
set_option Elab.async false
set_option linter.all false
set_option maxRecDepth 100000
set_option maxHeartbeats 4000000
namespace K75
open PySem PySem.Spec PyProof.Rows L2
/-! ### plain: texts in rows -/
def piece {α : Type} (w : Nat) (xs : List α) (k : Nat) : List α := (xs.drop (k * w)).take w
def npiece (w n : Nat) : Nat := (n + w - 1) / w
def parts (w : Nat) (xs : List PySem.Str) : List PySem.Str := (List.range (npiece w xs.length)).map fun k => Txt.join " " (piece w xs k)
def wrapL (lead : PySem.Str) (w : Nat) (xs : List PySem.Str) : List PySem.Str := (List.range (npiece w xs.length)).map fun k => (if k = 0 then lead else " ") ++ Txt.join " " (piece w xs k)
def bodyL (xs : List PySem.Str) : List PySem.Str := if xs = [] then [] else "" :: parts 8 xs
theorem npiece_le {w n : Nat} (hw : 1 ≤ w) : npiece w n ≤ n := by
  unfold npiece
  rw [Nat.div_le_iff_le_mul_add_pred hw]
  have : n * 1 ≤ n * w := Nat.mul_le_mul_left n hw
  rw [Nat.mul_comm w n]
  omega
theorem npiece_in {w n k : Nat} (hw : 1 ≤ w) (h : k < npiece w n) : k * w < n := by
  unfold npiece at h
  have h2 := (Nat.le_div_iff_mul_le hw).mp h
  have e : (k + 1) * w = k * w + w := by rw [Nat.add_mul, Nat.one_mul]
  rw [show k.succ = k + 1 from rfl, e] at h2
  omega
theorem piece_len {α : Type} (w : Nat) (xs : List α) (k : Nat) : (piece w xs k).length ≤ xs.length := by
  unfold piece
  rw [List.length_take, List.length_drop]
  omega
theorem piece_mem {α : Type} {w : Nat} {xs : List α} {k : Nat} {x : α} (h : x ∈ piece w xs k) : x ∈ xs := List.mem_of_mem_drop (List.mem_of_mem_take h)
theorem piece_map {α β : Type} (f : α → β) (w : Nat) (xs : List α) (k : Nat) : piece w (xs.map f) k = (piece w xs k).map f := by
  unfold piece
  rw [List.map_take, List.map_drop]
theorem rgC_up {n w : Nat} (hn : n ≤ 100000) (hw : 1 ≤ w) (hw2 : w ≤ 100000) : RgC 0 (n : Int) (w : Int) (npiece w n) := by
  have e : Builtin.Range.rangeSize 0 (n : Int) (w : Int) = (npiece w n : Nat) := by
    rw [rangeSize_pos (by omega) (by omega)]
    unfold npiece
    rw [Int.natCast_ediv]
    congr 1
    omega
  have hp : npiece w n ≤ n := npiece_le hw
  refine ⟨by omega, by omega, ?_, e⟩
  unfold Builtin.Range.small
  rw [e]
  have hw3 : (w : Int) > 0 := by omega
  simp only [Builtin.Range.rangeFitsLong, Bool.and_eq_true, Bool.or_eq_true, decide_eq_true_eq, beq_iff_eq]
  rw [if_pos hw3, Bool.and_eq_true, decide_eq_true_eq, decide_eq_true_eq]
  omega
theorem cut_piece {xs : List V} {k w : Nat} : cutV xs (some ((k * w : Nat) : Int)) (some ((k * w : Nat) + (w : Nat) : Int)) = piece w xs k := by
  unfold cutV piece
  have e : (((k * w : Nat) : Int) + (w : Nat) : Int) = ((k * w + w : Nat) : Int) := by omega
  rw [e, HT.sIx_nat, HT.sIx_nat]
  apply List.ext_getElem?
  intro i
  rw [List.getElem?_take, List.getElem?_take, List.getElem?_drop, List.getElem?_drop]
  by_cases h1 : i < w
  · rw [if_pos h1]
    by_cases h2 : k * w + i < xs.length
    · rw [if_pos (by omega), Nat.min_eq_left (by omega)]
    · rw [List.getElem?_eq_none (by omega : xs.length ≤ k * w + i)]
      split
      · rw [List.getElem?_eq_none (by omega)]
      · rfl
  · rw [if_neg h1, if_neg (by omega)]
def Short (b : Nat) (xs : List PySem.Str) : Prop := ∀ x ∈ xs, x.length ≤ b
theorem join_fit {sep : PySem.Str} {xs : List PySem.Str} (h1 : sep.length ≤ 10) (h2 : xs.length ≤ 1000) (h3 : Short 12000 xs) : (xs.map (·.length)).sum + xs.length * sep.length ≤ 16777216 := by
  have a := StrLaws.sumLen_le xs h3
  have b : xs.length * sep.length ≤ 1000 * 10 := Nat.mul_le_mul h2 h1
  have c : xs.length * 12000 ≤ 1000 * 12000 := Nat.mul_le_mul_right _ h2
  omega
theorem join_len {sep : PySem.Str} {xs : List PySem.Str} {b n : Nat} (h1 : sep.length ≤ 10) (h2 : xs.length ≤ n) (h3 : Short b xs) : (Txt.join sep xs).length ≤ n * (b + 10) := by
  have a := StrLaws.sumLen_le xs h3
  have c := StrLaws.join_length_le sep xs
  have e : Txt.join sep xs = Str.join sep xs := StrLaws.glued_eq_join sep xs
  rw [e]
  have d : xs.length * sep.length ≤ n * 10 := Nat.mul_le_mul h2 h1
  have f : xs.length * b ≤ n * b := Nat.mul_le_mul_right _ h2
  rw [Nat.mul_add]
  omega
/-! ### promises -/
def sp_fits_answers : Sp := fun vs H Q _ => ∃ (a : Addr) (xs : List Int) (n : Int), vs = [.int n, .ref a] ∧ H a = some (.lst (xs.map V.int)) ∧ xs.length ≤ 8 ∧ (∀ x ∈ xs, isNumber x = true) ∧ n ∉ xs ∧ xs.Nodup ∧ ∀ H', Same H H' → Q (.bl true) H'
def sp_wrapped : Sp := fun vs H Q _ => ∃ (lead : PySem.Str) (a : Addr) (xs : List PySem.Str) (m : Nat), vs = [.str lead, .ref a, .int (m : Int)] ∧ H a = some (.lst (xs.map V.str)) ∧ lead.length ≤ 100 ∧ xs.length ≤ 100 ∧ Short 100 xs ∧ 1 ≤ m ∧ m ≤ 100 ∧
  ∀ H' p, Same H H' → H p = none → H' p = some (.lst ((wrapL lead m xs).map V.str)) → Q (.ref p) H'
def sp_body_rows : Sp := fun vs H Q _ => ∃ (a : Addr) (xs : List PySem.Str), vs = [.ref a] ∧ H a = some (.tup (xs.map V.str)) ∧ xs.length ≤ 100 ∧ Short 100 xs ∧
  ∀ H' p, Same H H' → H p = none → H' p = some (.lst ((bodyL xs).map V.str)) → Q (.ref p) H'
theorem inV_ints (n : Int) (xs : List Int) : inV (.int n) (xs.map V.int) = decide (n ∈ xs) := by
  unfold inV
  rw [List.any_map, Bool.eq_iff_iff, List.any_eq_true, decide_eq_true_eq]
  constructor
  · rintro ⟨x, hx, e⟩
    have e2 : x = n := eq_of_beq e
    exact e2 ▸ hx
  · intro h
    exact ⟨n, h, by show (n == n) = true; exact beq_self_eq_true n⟩
theorem flat_ints (xs : List Int) : (xs.map V.int).all flatV = true := by
  rw [List.all_eq_true]
  intro y hy
  obtain ⟨i, _, rfl⟩ := List.mem_map.mp hy
  rfl
theorem flat_strs (xs : List PySem.Str) : (xs.map V.str).all flatV = true := by
  rw [List.all_eq_true]
  intro y hy
  obtain ⟨i, _, rfl⟩ := List.mem_map.mp hy
  rfl
theorem all_range {α : Type} {p : α → Bool} (d : α) (xs : List α) : (((List.range xs.length).map fun i => p (xs.getD i d)).all id) = xs.all p := by
  rw [Bool.eq_iff_iff, List.all_eq_true, List.all_eq_true]
  constructor
  · intro h x hx
    obtain ⟨i, hi, rfl⟩ := List.mem_iff_getElem.mp hx
    have := h (p (xs.getD i d)) (List.mem_map.mpr ⟨i, List.mem_range.mpr hi, rfl⟩)
    simpa [List.getD, List.getElem?_eq_getElem hi] using this
  · intro h b hb
    obtain ⟨i, hi, rfl⟩ := List.mem_map.mp hb
    have hi := List.mem_range.mp hi
    have := h xs[i] (List.getElem_mem hi)
    simpa [List.getD, List.getElem?_eq_getElem hi] using this
theorem map_at {α : Type} {f : α → V} {xs : List α} {i : Nat} {v : V} (d : α) (h : (xs.map f)[i]? = some v) : v = f (xs.getD i d) ∧ xs.getD i d ∈ xs ∧ i < xs.length := by
  rw [List.getElem?_map] at h
  cases e : xs[i]? with
  | none =>
    rw [e] at h
    cases h
  | some x =>
    rw [e] at h
    obtain ⟨hi, e2⟩ := List.getElem?_eq_some_iff.mp e
    refine ⟨?_, ?_, hi⟩
    · simp [List.getD, e, (Option.some.inj h).symm]
    · simp [List.getD, e]
      rw [← e2]
      exact List.getElem_mem hi
section
variable {P : Program} {w : World} {K : PySem.W.Frag} {mg : PySem.Str → Option Value} {base : Heap}
abbrev sc_fits_answers_N : List PySem.Str := ["number", "answers", "answer"]
theorem sc_fits_answers : FnScope sc_fits_answers_N ["number", "answers"] (defScope s_fits_answers) := ⟨rfl, rfl, rfl, by decide +kernel, rfl, by decide +kernel, by decide +kernel⟩
theorem ok_fits_answers (W : Wd K mg) : Ok P w K mg base 2 d_fits_answers ["number", "answers"] sp_fits_answers := by
  refine ok_mk W.d_fits_answers sc_fits_answers (fun _ _ _ _ _ _ us hl => match us, hl with | [_, _], _ => rfl) (fun vs H Q E h => ?_) (fun cdv A outer s H vs Q E hr h => ?_)
  · obtain ⟨a, xs, n, rfl, _⟩ := h
    rfl
  · obtain ⟨a, xs, n, rfl, ha, hl, hN, hn, hd, q⟩ := h
    have hu := hu_of hr
    have nd := sc_fits_answers.nd
    obtain ⟨u8, v8⟩ := W.v_MOST_ANSWERS
    refine ⟨_, (pss_cons (ps_if (PW.pt (pw_or (pt_not (pt_val (pe_callB call_isiT rfl W.f_isinstance (by decide +kernel) (pa_cons (pv 1) (pa_cons (pe_tup (pa_cons (pe_bltn (v := V.ty "list") rfl W.f_list boot_list rfl) (pa_cons (pe_bltn (v := V.ty "tuple") rfl W.f_tuple boot_tuple rfl) pa_nil))) pa_nil))))) (pw_or1 (pt_cmpR op_gt (pe_callB call_len_seq rfl W.f_len PySem.boot_len (pa_cons (pv 1) pa_nil)) (ClX.pe_cval (pe_glob (v := V.ref (He.ga K "Letter")) rfl W.g_Letter rfl)) (nomark _)))))
      (pss_one (ps_ret pe_bl))
      pss_nil)
    (pss_cons (ps_if (pt_not (pt_val (pe_callB (cr_all rfl) rfl W.f_all (by decide +kernel) (pa_cons (pe_lc (own := [("answer", 2)]) rfl nd (pi_list (pv 1)) (blkOk_by (N := sc_fits_answers_N) (sc := defScope s_fits_answers) (by decide +kernel)) (fun _ _ _ _ _ => (pg_name (i := 2) nd rfl (Or.inl rfl))) (fun _ _ _ _ _ => pts_nil) (fun _ _ _ _ _ => (pe_f (ok_is_number W) (hr.mono (by decide)) rfl W.g_is_number (pa_cons (pv 2) pa_nil)))) pa_nil))))
      (pss_one (ps_ret pe_bl))
      pss_nil)
    (pss_one (ps_ret (pe_and (pe_cmpR op_notIn_seq (pv 0) (pv 1) (by with_unfolding_all rfl)) (pe_one (pe_cmpR op_eq (RZ.pe_lenSetI rfl W.f_len rfl W.f_set (pv 1)) (pe_callB call_len_seq rfl W.f_len PySem.boot_len (pa_cons (pv 1) pa_nil)) (nomark _)))))))), ?_⟩
    refine ⟨_, rfl, by decide, fun p np => ?_⟩
    have s1 : Same H (upd H p (.tup [.ty "list", .ty "tuple"])) := same_new np
    refine ⟨_, p, [.ty "list", .ty "tuple"], _, _, true, rfl, upd_same, .cons (ClsV.ty _) (.cons (ClsV.ty _) .nil), .base (.lst (s1 _ _ ha)), kit_any1 (by decide +kernel), true, rfl, ?_⟩
    refine iteF ⟨_, rfl, a, _, rfl, .inl (sqL (s1 _ _ ha)), He.ga K "Letter", .type "type", .int 8, u8, rfl, W.r_Letter, v8, _, _, rfl, rfl, _, rfl, ?_⟩
    rw [List.length_map, decide_eq_false (by omega)]
    refine iteF ⟨_, rfl, a, rfl, ⟨_, sqL (s1 _ _ ha)⟩, fun D hD => ?_⟩
    refine lc_pure (w_list (xs := xs.map V.int)) (fun i => some (.bl (isNumber (xs.getD i 0)))) hD (fun H' s2 => sqL (s2 _ _ (s1 _ _ ha))) (fun i v H H' r => by obtain ⟨e, _⟩ := r; rw [e]; exact Same.refl _) ?_ ?_
    · rintro i v H1 H2 hi ⟨rfl, hc⟩ s2 s3 hL
      obtain ⟨rfl, hm, hi2⟩ := map_at 0 hc
      refine ⟨rfl, tyes ⟨_, rfl, _, rfl, ?_⟩⟩
      exact lcT hD s2 (by omega) hL rfl
    · intro H1 s2 hL
      refine ⟨_, _, rfl, sqL (xs := ((List.range xs.length).map fun i => isNumber (xs.getD i 0)).map V.bl) ?_, _, rfl, ?_⟩
      · rw [hL, kept_map, List.map_map, List.length_map]
        rfl
      · rw [all_range]
        have e : xs.all isNumber = true := List.all_eq_true.mpr hN
        rw [e]
        have ha1 := s2 _ _ (s1 _ _ ha)
        refine iteF ⟨_, rfl, _, rfl, a, _, rfl, .inl (sqL ha1), rfl, flat_ints _, _, rfl, ?_⟩
        rw [inV_ints, decide_eq_false hn]
        refine iteT ⟨_, rfl, a, xs, rfl, sqL ha1, hd, by omega, _, rfl, a, _, rfl, .inl (sqL ha1), rfl, ?_⟩
        have e2 : decide (V.int (xs.length : Int) = V.int ((xs.map V.int).length : Int)) = true := decide_eq_true (by rw [List.length_map])
        rw [e2]
        exact q _ (s1.trans s2)
abbrev sc_wrapped_N : List PySem.Str := ["lead", "items", "width", "parts", "at", "part"]
theorem sc_wrapped : FnScope sc_wrapped_N ["lead", "items", "width"] (defScope s_wrapped) := ⟨rfl, rfl, rfl, by decide +kernel, rfl, by decide +kernel, by decide +kernel⟩
theorem ok_wrapped (W : Wd K mg) : Ok P w K mg base 1 d_wrapped ["lead", "items", "width"] sp_wrapped := by
  refine ok_mk W.d_wrapped sc_wrapped (fun _ _ _ _ _ _ us hl => match us, hl with | [_, _, _], _ => rfl) (fun vs H Q E h => ?_) (fun cdv A outer s H vs Q E hr h => ?_)
  · obtain ⟨lead, a, xs, m, rfl, _⟩ := h
    rfl
  · obtain ⟨lead, a, xs, m, rfl, ha, hlead, hl, hz, m1, m2, q⟩ := h
    have hu := hu_of hr
    have nd := sc_wrapped.nd
    refine ⟨_, (pss_cons (ps_setLc (i := 3) (own := [("at", 4)]) rfl nd rfl rfl (sw_true rfl rfl rfl (by decide +kernel)) (pi_range3 rfl W.f_range (pa_cons pe_int (pa_cons (pe_callB (klen_seq K) rfl W.f_len PySem.boot_len (pa_cons (pv 1) pa_nil)) (pa_cons (pv 2) pa_nil)))) (blkOk_by (N := sc_wrapped_N) (sc := defScope s_wrapped) (by decide +kernel)) (fun _ _ _ _ _ => (pg_name (i := 4) nd rfl (Or.inl rfl))) (fun _ _ _ _ _ => pts_nil) (fun _ _ _ _ _ => (kjoin K pe_str (pe_slice (ksl_list K) (pv 1) (po_some (pv 4)) (po_some (pe_op op_add (pv 4) (pv 2)))))))
    (pss_one (ps_ret (pe_lc (own := [("at", 4), ("part", 5)]) rfl nd (pi_enum rfl W.f_enumerate (pa_cons (pv 3) pa_nil)) (blkOk_by (N := sc_wrapped_N) (sc := defScope s_wrapped) (by decide +kernel)) (fun _ _ _ _ _ => (kpg_tup K (n := 2) rfl (pgs_cons (pg_name (i := 4) nd rfl (Or.inl rfl)) (pgs_cons (pg_name (i := 5) nd rfl (Or.inl rfl)) pgs_nil)))) (fun _ _ _ _ _ => pts_nil) (fun _ _ _ _ _ => (pe_ifExp (pt_cmpR op_eq (pv 4) pe_int (nomark _)) (pe_op op_add_str (pv 0) (pv 5)) (pe_op op_add_str pe_str (pv 5)))))))), ?_⟩
    refine ⟨_, rfl, a, _, rfl, .inl (sqL ha), _, rfl, 0, _, _, npiece m xs.length, rfl, ?_, fun D hD => ?_⟩
    · rw [List.length_map]
      exact rgC_up (by omega) m1 (by omega)
    have hp : npiece m xs.length ≤ xs.length := npiece_le m1
    refine lc_pure w_rngC (fun k => some (.str (Txt.join " " (piece m xs k)))) hD (fun _ _ => trivial) (fun i v H H' r => by obtain ⟨e, _⟩ := r; rw [e]; exact Same.refl _) ?_ ?_
    · rintro i v H1 H2 hi ⟨rfl, rfl⟩ s2 s3 hL
      refine ⟨rfl, tyes ?_⟩
      refine ⟨⟨" ", rfl⟩, _, rfl, _, rfl, _, rfl, _, rfl, _, rfl, _, _, rfl, rfl, _, rfl, a, _, rfl, sqL (s2 _ _ ha), fun p hpn => ?_⟩
      have e1 : cutV (xs.map V.str) (some (0 + (i : Int) * (m : Int))) (some (0 + (i : Int) * (m : Int) + (m : Int))) = (piece m xs i).map V.str := by
        have e2 : (0 + (i : Int) * (m : Int)) = ((i * m : Nat) : Int) := by rw [Int.zero_add, Int.natCast_mul]
        rw [e2, cut_piece, piece_map]
      have hS : Short 12000 (piece m xs i) := fun x hx => Nat.le_trans (hz x (piece_mem hx)) (by decide)
      refine ⟨" ", p, piece m xs i, rfl, rfl, .inl (sqL ?_), join_fit (by decide +kernel) (Nat.le_trans (piece_len _ _ _) (by omega)) hS, ?_⟩
      · rw [upd_same, e1]
      have s4 : Same H2 (upd H2 p (.lst (cutV (xs.map V.str) (some (0 + (i : Int) * (m : Int))) (some (0 + (i : Int) * (m : Int) + (m : Int)))))) := same_new hpn
      exact lcT hD (s2.trans s4) (by omega) (s4 _ _ hL) rfl
    · intro H1 s2 hL
      rw [kept_map] at hL
      refine ⟨_, rfl, D, _, rfl, sqL hL, fun D2 hD2 => ?_⟩
      have hn : ((List.range (npiece m xs.length)).map fun k => V.str (Txt.join " " (piece m xs k))).length = npiece m xs.length := by rw [List.length_map, List.length_range]
      refine lc_pure (w_enum (xs := (List.range (npiece m xs.length)).map fun k => V.str (Txt.join " " (piece m xs k)))) (fun k => some (.str ((if k = 0 then lead else " ") ++ Txt.join " " (piece m xs k)))) hD2 (fun H' s3 => sqL (s3 _ _ hL)) ?_ ?_ ?_
      · rintro i v H3 H4 ⟨T, x, rfl, hT, rfl, _⟩
        exact same_new hT
      · rintro i v H3 H4 hi ⟨T, x, rfl, hT, rfl, hx⟩ s3 s4 hL4
        rw [hn] at hi
        rw [List.getElem?_map, List.getElem?_range hi] at hx
        cases hx
        have hz2 : (Txt.join " " (piece m xs i)).length ≤ 100 * (100 + 10) := join_len (by decide +kernel) (Nat.le_trans (piece_len _ _ _) hl) fun x hx => hz x (piece_mem hx)
        refine ⟨T, _, rfl, sqT upd_same, rfl, _, _, rfl, _, _, rfl, rfl, rfl, tyes ?_⟩
        refine ⟨_, rfl, rfl, _, rfl, ?_⟩
        by_cases h0 : i = 0
        · subst h0
          refine iteT ⟨_, rfl, _, rfl, _, _, rfl, rfl, sz_le (by omega), ?_⟩
          exact lcT hD2 s4 (by omega) hL4 rfl
        · have e0 : decide (V.int (i : Int) = V.int 0) = false := decide_eq_false fun z => h0 (by injection z with z; omega)
          rw [e0]
          refine iteF ⟨_, rfl, _, _, rfl, rfl, sz_le (by have : (" " : PySem.Str).length = 1 := by decide +kernel
                                                         omega), ?_⟩
          refine lcT hD2 s4 (by omega) hL4 ?_
          rw [if_neg h0]
      · intro H3 s3 hL3
        rw [hn, kept_map] at hL3
        refine q H3 D2 (s2.trans s3) (s2.free hD2) ?_
        rw [hL3]
        unfold wrapL
        rw [List.map_map]
        rfl
abbrev sc_body_rows_N : List PySem.Str := ["words", "at"]
theorem sc_body_rows : FnScope sc_body_rows_N ["words"] (defScope s_body_rows) := ⟨rfl, rfl, rfl, by decide +kernel, rfl, by decide +kernel, by decide +kernel⟩
theorem ok_body_rows (W : Wd K mg) : Ok P w K mg base 1 d_body_rows ["words"] sp_body_rows := by
  refine ok_mk W.d_body_rows sc_body_rows (fun _ _ _ _ _ _ us hl => match us, hl with | [_], _ => rfl) (fun vs H Q E h => ?_) (fun cdv A outer s H vs Q E hr h => ?_)
  · obtain ⟨a, xs, rfl, _⟩ := h
    rfl
  · obtain ⟨a, xs, rfl, ha, hl, hz, q⟩ := h
    have hu := hu_of hr
    have nd := sc_body_rows.nd
    refine ⟨_, (pss_cons (ps_if (pt_not (ktruth K (pv 0) (fun _ => rfl)))
      (pss_one (ps_ret (pe_lst pa_nil)))
      pss_nil)
    (pss_one (ps_ret (pe_op op_cat (pe_lst (pa_cons pe_str pa_nil)) (pe_lc (own := [("at", 1)]) rfl nd (pi_range3 rfl W.f_range (pa_cons pe_int (pa_cons (pe_callB (klen_seq K) rfl W.f_len PySem.boot_len (pa_cons (pv 0) pa_nil)) (pa_cons (pe_gi rfl W.i_WORDS_IN_ROW) pa_nil)))) (blkOk_by (N := sc_body_rows_N) (sc := defScope s_body_rows) (by decide +kernel)) (fun _ _ _ _ _ => (pg_name (i := 1) nd rfl (Or.inl rfl))) (fun _ _ _ _ _ => pts_nil) (fun _ _ _ _ _ => (kjoin K pe_str (pe_slice (ksl_tupA K) (pv 0) (po_some (pv 1)) (po_some (pe_op op_add (pv 1) (pe_gi rfl W.i_WORDS_IN_ROW))))))))))), ?_⟩
    refine ⟨_, rfl, _, .inr (.inl ⟨_, sqT ha, rfl⟩), ?_⟩
    cases xs with
    | nil =>
      refine iteT ⟨Nat.zero_le _, fun p np => ?_⟩
      exact q _ p (same_new np) np upd_same
    | cons x0 xr =>
      generalize hxs : x0 :: xr = xs at *
      have hne : xs ≠ [] := by rw [← hxs]; exact List.cons_ne_nil _ _
      have hem : (!(xs.map V.str).isEmpty) = true := by rw [← hxs]; rfl
      rw [hem]
      refine iteF ⟨by decide, fun p0 np0 => ?_⟩
      have s1 : Same H (upd H p0 (.lst [.str ""])) := same_new np0
      refine ⟨_, rfl, a, _, rfl, .inr (sqT (s1 _ _ ha)), 0, _, _, npiece 8 xs.length, rfl, ?_, fun D hD => ?_⟩
      · rw [List.length_map]
        exact rgC_up (w := 8) (by omega) (by decide) (by decide)
      have hp : npiece 8 xs.length ≤ xs.length := npiece_le (by decide)
      refine lc_pure w_rngC (fun k => some (.str (Txt.join " " (piece 8 xs k)))) hD (fun _ _ => trivial) (fun i v H H' r => by obtain ⟨e, _⟩ := r; rw [e]; exact Same.refl _) ?_ ?_
      · rintro i v H1 H2 hi ⟨rfl, rfl⟩ s2 s3 hL
        refine ⟨rfl, tyes ?_⟩
        have e1 : cutV (xs.map V.str) (some (0 + (i : Int) * 8)) (some (0 + (i : Int) * 8 + 8)) = (piece 8 xs i).map V.str := by
          have e2 : (0 + (i : Int) * 8) = ((i * 8 : Nat) : Int) := by rw [Int.zero_add, Int.natCast_mul]; rfl
          rw [e2, ← piece_map]
          exact cut_piece (w := 8)
        have hS : Short 12000 (piece 8 xs i) := fun x hx => Nat.le_trans (hz x (piece_mem hx)) (by decide)
        have ha2 := s2 _ _ (s1 _ _ ha)
        have hfin : ∀ p H4, Same H2 H4 → H4 p = some (.tup ((piece 8 xs i).map V.str)) → ∃ a p1, ∃ ys : List PySem.Str, V.str " " = .str a ∧ [V.ref p] = [.ref p1] ∧ (SqL K H4 p1 (ys.map V.str) ∨ SqT K H4 p1 (ys.map V.str)) ∧ (ys.map (·.length)).sum + ys.length * a.length ≤ 16777216 ∧
            ∃ acc, H4 D = some (.lst acc) ∧ acc.length < sizeLine ∧ LcS (fun k => some (.str (Txt.join " " (piece 8 xs k)))) D (upd H p0 (.lst [.str ""])) (i + 1) (upd H4 D (.lst (acc ++ [V.str (Txt.join a ys)]))) := fun p H4 s4 h4 =>
          ⟨" ", p, piece 8 xs i, rfl, rfl, .inr (sqT h4), join_fit (by decide +kernel) (Nat.le_trans (piece_len _ _ _) (by omega)) hS, lcT hD (s2.trans s4) (by omega) (s4 _ _ hL) rfl⟩
        refine ⟨⟨" ", rfl⟩, _, rfl, _, rfl, _, rfl, _, rfl, _, _, rfl, rfl, _, rfl, a, _, rfl, sqT ha2, fun hw => ?_, fun _ p hpn => ?_⟩
        · refine hfin a H2 (Same.refl _) ?_
          rw [← e1]
          have e3 : cutV (xs.map V.str) (some (0 + (i : Int) * 8)) (some (0 + (i : Int) * 8 + 8)) = xs.map V.str := by
            unfold cutV
            rw [hw.1, hw.2, List.drop_zero, Nat.sub_zero, List.take_length]
          rw [e3]
          exact ha2
        · exact hfin p _ (same_new hpn) (by rw [upd_same, e1])
      · intro H1 s2 hL
        rw [kept_map] at hL
        refine ⟨p0, D, [.str ""], _, rfl, rfl, s2 _ _ upd_same, hL, sz_le (by rw [List.length_map, List.length_range]; show 1 + _ ≤ _; omega), fun p hp2 => ?_⟩
        refine q _ p ((s1.trans s2).trans (same_new hp2)) ((s1.trans s2).free hp2) ?_
        rw [upd_same]
        unfold bodyL parts
        rw [if_neg hne, List.map_cons, List.map_map]
        rfl
end
end K75
end T_A2

section T_A3
set_option Elab.async false
set_option linter.all false
set_option maxRecDepth 100000
set_option maxHeartbeats 4000000
namespace K75
open PySem PySem.Spec PyProof.Rows L2
/-! ### letters -/
structure Lt where
  n : Int
  p : PySem.Str
  h : PySem.Str
  ans : List Int
  sub : List PySem.Str
  wds : List PySem.Str
structure Lt.Ok (L : Lt) : Prop where
  n : isNumber L.n = true
  p : isName L.p = true
  h : isName L.h = true
  a8 : L.ans.length ≤ 8
  an : ∀ x ∈ L.ans, isNumber x = true
  ai : L.n ∉ L.ans
  ad : L.ans.Nodup
  s8 : L.sub.length ≤ 8
  sn : ∀ x ∈ L.sub, isName x = true
  w40 : L.wds.length ≤ 40
  wn : ∀ x ∈ L.wds, isName x = true
def numS (n : Int) : PySem.Str := PySem.Str.ofString (toString n)
def Lt.sender (L : Lt) : PySem.Str := L.p ++ " at " ++ L.h
def Lt.heads (L : Lt) : List PySem.Str := [Str.empty ++ "number: " ++ numS L.n, Str.empty ++ "from: " ++ L.sender] ++ wrapL "answers: " 3 (L.ans.map numS) ++ wrapL "subject: " 4 L.sub
def Lt.text (L : Lt) : PySem.Str := Txt.join "\n" (L.heads ++ bodyL L.wds)
def lfs (L : Lt) (t1 t2 t3 : Addr) : List (PySem.Str × V) := [("number", .int L.n), ("person", .str L.p), ("house", .str L.h), ("sender", .str L.sender), ("answers", .ref t1), ("subject", .ref t2), ("words", .ref t3), ("text", .str L.text)]
/-- at a stands the letter L -/
def LetterAt (K : PySem.W.Frag) (H : Hp) (a : Addr) (L : Lt) : Prop := ∃ dx t1 t2 t3, H a = some (.ins (He.ga K "Letter") dx (lfs L t1 t2 t3)) ∧ H t1 = some (.tup (L.ans.map V.int)) ∧ H t2 = some (.tup (L.sub.map V.str)) ∧ H t3 = some (.tup (L.wds.map V.str))
theorem LetterAt.mono {K : PySem.W.Frag} {H H' : Hp} {a : Addr} {L : Lt} (h : LetterAt K H a L) (s : Same H H') : LetterAt K H' a L := by
  obtain ⟨dx, t1, t2, t3, h1, h2, h3, h4⟩ := h
  exact ⟨dx, t1, t2, t3, s _ _ h1, s _ _ h2, s _ _ h3, s _ _ h4⟩
section
variable (L : Lt) (t1 t2 t3 : Addr)
theorem lf_number : (lfs L t1 t2 t3).lookup ("number" : PySem.Str) = some (.int L.n) := by kernel_rfl
theorem lf_person : (lfs L t1 t2 t3).lookup ("person" : PySem.Str) = some (.str L.p) := by kernel_rfl
theorem lf_house : (lfs L t1 t2 t3).lookup ("house" : PySem.Str) = some (.str L.h) := by kernel_rfl
theorem lf_sender : (lfs L t1 t2 t3).lookup ("sender" : PySem.Str) = some (.str L.sender) := by kernel_rfl
theorem lf_answers : (lfs L t1 t2 t3).lookup ("answers" : PySem.Str) = some (.ref t1) := by kernel_rfl
theorem lf_subject : (lfs L t1 t2 t3).lookup ("subject" : PySem.Str) = some (.ref t2) := by kernel_rfl
theorem lf_words : (lfs L t1 t2 t3).lookup ("words" : PySem.Str) = some (.ref t3) := by kernel_rfl
theorem lf_text : (lfs L t1 t2 t3).lookup ("text" : PySem.Str) = some (.str L.text) := by kernel_rfl
theorem lf_written : (lfs L t1 t2 t3).lookup ("written" : PySem.Str) = none := by kernel_rfl
theorem lf_eq : (lfs L t1 t2 t3).lookup ("__eq__" : PySem.Str) = none := by kernel_rfl
end
theorem name_len {x : PySem.Str} (h : isName x = true) : 1 ≤ x.length ∧ x.length ≤ 8 := by
  unfold isName at h
  rw [Bool.and_eq_true, decide_eq_true_eq] at h
  exact h.1
theorem num_len {n : Int} (h : isNumber n = true) : (numS n).length ≤ 31 := by
  have h2 := of_decide_eq_true h
  refine PyProof.Rows.toString_length_le (by omega) (by decide) (Int.lt_of_le_of_lt h2.2 (by decide))
theorem num_log {n : Int} (h : isNumber n = true) : n.natAbs.log2 < 1920 := by
  have h2 := of_decide_eq_true h
  have h3 : n.natAbs ≠ 0 := by omega
  rw [Nat.log2_lt h3]
  have h4 : n.natAbs ≤ 10 ^ 30 := by omega
  exact Nat.lt_of_le_of_lt h4 (by decide)
theorem str_len_app (a b : PySem.Str) : (a ++ b).length = a.length + b.length := Str.length_append a b
theorem wrapL_len {lead : PySem.Str} {w : Nat} {xs : List PySem.Str} (hw : 1 ≤ w) : (wrapL lead w xs).length ≤ xs.length := by
  unfold wrapL
  rw [List.length_map, List.length_range]
  exact npiece_le hw
theorem wrapL_short {lead : PySem.Str} {w n : Nat} {xs : List PySem.Str} (h1 : lead.length ≤ 100) (h2 : xs.length ≤ 100) (h3 : Short 100 xs) : Short 12000 (wrapL lead w xs) := by
  intro x hx
  obtain ⟨k, _, rfl⟩ := List.mem_map.mp hx
  have hz2 : (Txt.join " " (piece w xs k)).length ≤ 100 * (100 + 10) := join_len (by decide +kernel) (Nat.le_trans (piece_len _ _ _) h2) fun x hx => h3 x (piece_mem hx)
  rw [str_len_app]
  have : (" " : PySem.Str).length = 1 := by decide +kernel
  split <;> omega
theorem bodyL_len (xs : List PySem.Str) : (bodyL xs).length ≤ xs.length + 1 := by
  unfold bodyL
  split
  · simp
  · rw [List.length_cons]
    unfold parts
    rw [List.length_map, List.length_range]
    have := npiece_le (w := 8) (n := xs.length) (by decide)
    omega
theorem bodyL_short {xs : List PySem.Str} (h2 : xs.length ≤ 100) (h3 : Short 100 xs) : Short 12000 (bodyL xs) := by
  intro x hx
  unfold bodyL at hx
  split at hx
  · cases hx
  · rcases List.mem_cons.mp hx with rfl | hx
    · decide +kernel
    · obtain ⟨k, _, rfl⟩ := List.mem_map.mp hx
      exact Nat.le_trans (join_len (n := 100) (b := 100) (by decide +kernel) (Nat.le_trans (piece_len _ _ _) h2) fun x hx => h3 x (piece_mem hx)) (by decide)
theorem prs_ints (xs : List Int) (H : Hp) : Prs DFlat (xs.map V.int) (xs.map V.int) H := ⟨rfl, fun i x y h1 h2 => by
  rw [h1] at h2
  cases h2
  obtain ⟨rfl, _, _⟩ := map_at 0 h1
  exact ⟨rfl, rfl, by show (_ == _) = true; exact beq_self_eq_true _⟩⟩
theorem prs_strs (xs : List PySem.Str) (H : Hp) : Prs DFlat (xs.map V.str) (xs.map V.str) H := ⟨rfl, fun i x y h1 h2 => by
  rw [h1] at h2
  cases h2
  obtain ⟨rfl, _, _⟩ := map_at ("" : PySem.Str) h1
  exact ⟨rfl, rfl, by show (_ == _) = true; exact beq_self_eq_true _⟩⟩
theorem paired_at {α β : Type} {F : α → β → Prop} {xs : List α} {ys : List β} (p : Paired F xs ys) : ∀ {i : Nat} {x : α}, xs[i]? = some x → ∃ y, ys[i]? = some y ∧ F x y := by
  induction p with
  | nil =>
    intro i x h
    cases h
  | cons a r ih =>
    intro i x h
    cases i with
    | zero =>
      cases h
      exact ⟨_, rfl, a⟩
    | succ i => exact ih h
/-! ### promises -/
def sp_Letter_written (K : PySem.W.Frag) : Sp := fun vs H Q _ => ∃ (a : Addr) (L : Lt), vs = [.ref a] ∧ LetterAt K H a L ∧ Q (.str L.text) H
def sp_Letter_eq (K : PySem.W.Frag) : Sp := spEq fun a b H => ∃ L, LetterAt K H a L ∧ LetterAt K H b L
def LettersAt (K : PySem.W.Frag) (H : Hp) (as : List Addr) (Ls : List Lt) : Prop := Paired (fun a L => LetterAt K H a L) as Ls
def sp_written_letters (K : PySem.W.Frag) : Sp := fun vs H Q _ => ∃ (a : Addr) (as : List Addr) (Ls : List Lt), vs = [.ref a] ∧ H a = some (.lst (as.map V.ref)) ∧ LettersAt K H as Ls ∧ as.length ≤ 100 ∧ (∀ L ∈ Ls, L.text.length ≤ 12000) ∧
  ∀ H', Same H H' → Q (.str (Txt.join (Str.empty ++ "\n" ++ "===" ++ "\n") (Ls.map Lt.text))) H'
/-- a new letter at x; H0: the heap before -/
def sp_Letter_init (K : PySem.W.Frag) : Sp := fun vs H Q _ => ∃ (H0 : Hp) (x dx a1 a2 a3 : Addr) (L : Lt), vs = [.ref x, .int L.n, .str L.p, .str L.h, .ref a1, .ref a2, .ref a3] ∧ Same H0 H ∧ H0 x = none ∧ H x = some (.ins (He.ga K "Letter") dx []) ∧ L.Ok ∧
  H0 a1 = some (.lst (L.ans.map V.int)) ∧ H0 a2 = some (.lst (L.sub.map V.str)) ∧ H0 a3 = some (.lst (L.wds.map V.str)) ∧ ∀ H', Same H0 H' → LetterAt K H' x L → Q .non H'
section
variable {P : Program} {w : World} {K : PySem.W.Frag} {mg : PySem.Str → Option Value} {base : Heap}
abbrev sc_Letter_written_N : List PySem.Str := ["self"]
theorem sc_Letter_written : FnScope sc_Letter_written_N ["self"] (defScope s_Letter_written) := ⟨rfl, rfl, rfl, by decide +kernel, rfl, by decide +kernel, by decide +kernel⟩
theorem ok_Letter_written (W : Wd K mg) : Ok P w K mg base 1 d_Letter_written ["self"] (sp_Letter_written K) := by
  refine ok_mk W.d_Letter_written sc_Letter_written (fun _ _ _ _ _ _ us hl => match us, hl with | [_], _ => rfl) (fun vs H Q E h => ?_) (fun cdv A outer s H vs Q E hr h => ?_)
  · obtain ⟨a, L, rfl, _⟩ := h
    rfl
  · obtain ⟨a, L, rfl, ⟨dx, t1, t2, t3, ha, _⟩, q⟩ := h
    have hu := hu_of hr
    have nd := sc_Letter_written.nd
    refine ⟨_, (pss_one (ps_ret (kfld K (pv 0) rfl))), ?_⟩
    exact ⟨_, rfl, a, _, dx, _, _, rfl, ha, W.c_Letter, W.n_Letter_text, lf_text _ _ _ _, q⟩
abbrev sc_Letter_eq_N : List PySem.Str := ["self", "other"]
theorem sc_Letter_eq : FnScope sc_Letter_eq_N ["self", "other"] (defScope s_Letter_eq) := ⟨rfl, rfl, rfl, by decide +kernel, rfl, by decide +kernel, by decide +kernel⟩
theorem ok_Letter_eq (W : Wd K mg) : Ok P w K mg base 2 d_Letter_eq ["self", "other"] (sp_Letter_eq K) := by
  refine ok_mk W.d_Letter_eq sc_Letter_eq (fun _ _ _ _ _ _ us hl => match us, hl with | [_, _], _ => rfl) (fun vs H Q E h => ?_) (fun cdv A outer s H vs Q E hr h => ?_)
  · obtain ⟨a, b, rfl, _⟩ := h
    rfl
  · obtain ⟨a, b, rfl, ⟨L, ⟨dx, t1, t2, t3, ha, h1, h2, h3⟩, ⟨dy, u1, u2, u3, hb, g1, g2, g3⟩⟩, q⟩ := h
    have hu := hu_of hr
    have nd := sc_Letter_eq.nd
    have op := (op_eqG (rcG_tup (X := (cxOf CX0 P w K mg base sc_Letter_eq_N d_Letter_eq.qual d_Letter_eq.scope (d_Letter_eq.at_ K) cdv A outer s H E).nox) mon_flat eqG_flat) hr)
    refine ⟨_, (pss_one (ps_ret (pe_and (pe_callB (kisi K) rfl W.f_isinstance (by decide +kernel) (pa_cons (pv 1) (pa_cons (pe_glob (v := V.ref (He.ga K "Letter")) rfl W.g_Letter rfl) pa_nil))) (pe_and (pe_cmpR op_eq (kfld K (pv 0) rfl) (kfld K (pv 1) rfl) (nomark _)) (pe_and (pe_cmpR op_eq (kfld K (pv 0) rfl) (kfld K (pv 1) rfl) (nomark _)) (pe_and (pe_cmpR op_eq (kfld K (pv 0) rfl) (kfld K (pv 1) rfl) (nomark _)) (pe_and (pe_cmpR op (kfld K (pv 0) rfl) (kfld K (pv 1) rfl) (nomark _)) (pe_and (pe_cmpR op (kfld K (pv 0) rfl) (kfld K (pv 1) rfl) (nomark _)) (pe_one (pe_cmpR op (kfld K (pv 0) rfl) (kfld K (pv 1) rfl) (nomark _))))))))))), ?_⟩
    have x := W.x_Letter
    refine ⟨_, rfl, _, _, _, _, _, rfl, ClsV.own _, .base (.ins hb W.c_Letter x.ha x.hn x.tk x.ho), x.me, true, rfl, iteT ?_⟩
    refine ⟨_, rfl, _, _, _, _, _, rfl, ha, W.c_Letter, W.n_Letter_number, (lf_number _ _ _ _), ?_⟩
    refine ⟨_, rfl, _, _, _, _, _, rfl, hb, W.c_Letter, W.n_Letter_number, (lf_number _ _ _ _), rfl, _, rfl, ?_⟩
    rw [decide_eq_true rfl]
    refine iteT ?_
    refine ⟨_, rfl, _, _, _, _, _, rfl, ha, W.c_Letter, W.n_Letter_person, (lf_person _ _ _ _), ?_⟩
    refine ⟨_, rfl, _, _, _, _, _, rfl, hb, W.c_Letter, W.n_Letter_person, (lf_person _ _ _ _), rfl, _, rfl, ?_⟩
    rw [decide_eq_true rfl]
    refine iteT ?_
    refine ⟨_, rfl, _, _, _, _, _, rfl, ha, W.c_Letter, W.n_Letter_house, (lf_house _ _ _ _), ?_⟩
    refine ⟨_, rfl, _, _, _, _, _, rfl, hb, W.c_Letter, W.n_Letter_house, (lf_house _ _ _ _), rfl, _, rfl, ?_⟩
    rw [decide_eq_true rfl]
    refine iteT ?_
    refine ⟨_, rfl, _, _, _, _, _, rfl, ha, W.c_Letter, W.n_Letter_answers, (lf_answers _ _ _ _), ?_⟩
    refine ⟨_, rfl, _, _, _, _, _, rfl, hb, W.c_Letter, W.n_Letter_answers, (lf_answers _ _ _ _), ⟨t1, u1, _, _, rfl, rfl, sqT h1, sqT g1, prs_ints _ _⟩, fun H1 e1 => ⟨_, rfl, iteT ?_⟩⟩
    refine ⟨_, rfl, _, _, _, _, _, rfl, (e1 _ _ ha), W.c_Letter, W.n_Letter_subject, (lf_subject _ _ _ _), ?_⟩
    refine ⟨_, rfl, _, _, _, _, _, rfl, (e1 _ _ hb), W.c_Letter, W.n_Letter_subject, (lf_subject _ _ _ _), ⟨t2, u2, _, _, rfl, rfl, sqT (e1 _ _ h2), sqT (e1 _ _ g2), prs_strs _ _⟩, fun H2 e2 => ⟨_, rfl, iteT ?_⟩⟩
    refine ⟨_, rfl, _, _, _, _, _, rfl, (e2 _ _ (e1 _ _ ha)), W.c_Letter, W.n_Letter_words, (lf_words _ _ _ _), ?_⟩
    exact ⟨_, rfl, _, _, _, _, _, rfl, (e2 _ _ (e1 _ _ hb)), W.c_Letter, W.n_Letter_words, (lf_words _ _ _ _), ⟨t3, u3, _, _, rfl, rfl, sqT (e2 _ _ (e1 _ _ h3)), sqT (e2 _ _ (e1 _ _ g3)), prs_strs _ _⟩, fun H3 e3 => q _ fun a o h => e3 _ _ (e2 _ _ (e1 _ _ h))⟩
abbrev sc_written_letters_N : List PySem.Str := ["letters", "letter"]
theorem sc_written_letters : FnScope sc_written_letters_N ["letters"] (defScope s_written_letters) := ⟨rfl, rfl, rfl, by decide +kernel, rfl, by decide +kernel, by decide +kernel⟩
theorem ok_written_letters (W : Wd K mg) : Ok P w K mg base 2 d_written_letters ["letters"] (sp_written_letters K) := by
  refine ok_mk W.d_written_letters sc_written_letters (fun _ _ _ _ _ _ us hl => match us, hl with | [_], _ => rfl) (fun vs H Q E h => ?_) (fun cdv A outer s H vs Q E hr h => ?_)
  · obtain ⟨a, as, Ls, rfl, _⟩ := h
    rfl
  · obtain ⟨a, as, Ls, rfl, ha, hL, hl, hz, q⟩ := h
    have hu := hu_of hr
    have nd := sc_written_letters.nd
    refine ⟨_, (pss_one (ps_ret (kjoin K (pe_joined (PJ.cons pe_str (PJ.cons (pe_fmt (pe_gs rfl W.s_BETWEEN)) (PJ.cons pe_str PJ.nil)))) (pe_lc (own := [("letter", 1)]) rfl nd (pi_list (pv 0)) (blkOk_by (N := sc_written_letters_N) (sc := defScope s_written_letters) (by decide +kernel)) (fun _ _ _ _ _ => (pg_name (i := 1) nd rfl (Or.inl rfl))) (fun _ _ _ _ _ => pts_nil) (fun _ _ _ _ _ => (pe_o0 (pv 1) W.c_Letter (ok_Letter_written W) W.m_Letter_written (hr.mono (by decide)))))))), ?_⟩
    have hlen : as.length = Ls.length := Paired.length hL
    have z2 : (Str.empty ++ "\n" : PySem.Str).length = 1 := by decide +kernel
    have z5 : (Str.empty ++ "\n" ++ "===" ++ "\n" : PySem.Str).length = 5 := by decide +kernel
    refine ⟨"\n", rfl, sz_le (by rw [z2]; decide), .inl ⟨"===", rfl, sz_le (by decide +kernel), "===", rfl, sz_le (by decide +kernel), "\n", rfl, sz_le (by rw [z5]; decide), ⟨_, rfl⟩, _, rfl, a, rfl, ⟨_, sqL ha⟩, fun D hD => ?_⟩⟩
    refine lc_pure (w_list (xs := as.map V.ref)) (fun i => some (.str ((Ls.map Lt.text).getD i ""))) hD (fun H' s2 => sqL (s2 _ _ ha)) (fun i v H H' r => by obtain ⟨e, _⟩ := r; rw [e]; exact Same.refl _) ?_ ?_
    · rintro i v H1 H2 hi ⟨rfl, hc⟩ s2 s3 hL1
      obtain ⟨rfl, _, hi2⟩ := map_at (0 : Addr) hc
      have hai : as[i]? = some (as.getD i 0) := by simp [List.getD, List.getElem?_eq_getElem hi2]
      obtain ⟨L, hLi, hA⟩ := paired_at hL hai
      obtain ⟨dx, t1, t2, t3, hA⟩ := hA.mono s2
      refine ⟨rfl, tyes ⟨_, rfl, _, dx, _, rfl, hA.1, lf_written _ _ _ _, _, L, rfl, ⟨dx, t1, t2, t3, hA⟩, ?_⟩⟩
      refine lcT hD s2 (by omega) hL1 ?_
      rw [List.getD, List.getElem?_map, hLi]
      rfl
    · intro H1 s2 hL1
      rw [kept_map, List.length_map, hlen] at hL1
      refine ⟨_, D, Ls.map Lt.text, rfl, rfl, .inl (sqL ?_), ?_, q H1 s2⟩
      · rw [hL1, List.map_map]
        congr 2
        apply List.ext_getElem?
        intro i
        rw [List.getElem?_map, List.getElem?_map]
        by_cases hi : i < Ls.length
        · rw [List.getElem?_range hi, List.getElem?_eq_getElem hi]
          simp [List.getD, List.getElem?_map, List.getElem?_eq_getElem hi]
        · rw [List.getElem?_eq_none (by rw [List.length_range]; omega), List.getElem?_eq_none (by omega)]
          rfl
      · refine join_fit (by rw [z5]; decide) (by rw [List.length_map, ← hlen]; omega) ?_
        intro x hx
        obtain ⟨L, hm, rfl⟩ := List.mem_map.mp hx
        exact hz L hm
end
end K75
end T_A3

section T_A4
set_option Elab.async false
set_option linter.all false
set_option maxRecDepth 100000
set_option maxHeartbeats 4000000
namespace K75
open PySem PySem.Spec PyProof.Rows L2
section
variable {P : Program} {w : World} {K : PySem.W.Frag} {mg : PySem.Str → Option Value} {base : Heap}
abbrev sc_Letter_init_N : List PySem.Str := ["self", "number", "person", "house", "answers", "subject", "words", "rows", "answer"]
theorem sc_Letter_init : FnScope sc_Letter_init_N ["self", "number", "person", "house", "answers", "subject", "words"] (defScope s_Letter_init) := ⟨rfl, rfl, rfl, by decide +kernel, rfl, by decide +kernel, by decide +kernel⟩
theorem ok_Letter_init (W : Wd K mg) : OkL P w K mg base 3 (sp_Letter_init K) := by
  obtain ⟨fd, F⟩ := W.d_Letter_init
  refine ⟨fd, F.ok sc_Letter_init (fun vs H Q E h => ?_) (fun cdv A outer s H vs Q E hr h => ?_), ?_⟩
  rotate_left 2
  · obtain ⟨oc, od, dV, kV, doc, pm, an, cdv, ct, osl, rfl, lk, hcd, hD, hK⟩ := F.ex
    refine ⟨fun s us ws X l1 l2 => ?_, fun r1 r2 => r1.append r2⟩
    rcases hD with ⟨_, rfl⟩ | ⟨e, _⟩
    · match us, l1, ws, l2 with
      | [_, _, _, _], _, [_, _, _], _ => exact .of_eq rfl
    · exact absurd rfl e
  · obtain ⟨H0, x, dx, a1, a2, a3, L, rfl, _⟩ := h
    rfl
  · obtain ⟨H0, x, dx, a1, a2, a3, L, rfl, s0, n0, hx, ok, h1, h2, h3, q⟩ := h
    have hu := hu_of hr
    have nd := sc_Letter_init.nd
    obtain ⟨u1, v1⟩ := W.v_MOST_SUBJECT
    obtain ⟨u2, v2⟩ := W.v_MOST_WORDS
    refine ⟨_, PSs.nox (pss_cons (ps_if (pt_not (pt_val (pe_f (ok_is_number W) (hr.mono (by decide)) rfl W.g_is_number (pa_cons (pv 1) pa_nil))))
      pss_never
      pss_nil)
    (pss_cons (ps_if (pt_not (pt_val (pe_f (ok_is_name W) (hr.mono (by decide)) rfl W.g_is_name (pa_cons (pv 2) pa_nil))))
      pss_never
      pss_nil)
    (pss_cons (ps_if (pt_not (pt_val (pe_f (ok_is_name W) (hr.mono (by decide)) rfl W.g_is_name (pa_cons (pv 3) pa_nil))))
      pss_never
      pss_nil)
    (pss_cons (ps_if (pt_not (pt_val (pe_f (ok_fits_answers W) (hr.mono (by decide)) rfl W.g_fits_answers (pa_cons (pv 1) (pa_cons (pv 4) pa_nil)))))
      pss_never
      pss_nil)
    (pss_cons (ps_if (pt_not (pt_val (pe_f (ok_are_names W) (hr.mono (by decide)) rfl W.g_are_names (pa_cons (pv 5) (pa_cons (kcval K (pe_glob (v := V.ref (He.ga K "Letter")) rfl W.g_Letter rfl)) pa_nil)))))
      pss_never
      pss_nil)
    (pss_cons (ps_if (pt_not (pt_val (pe_f (ok_are_names W) (hr.mono (by decide)) rfl W.g_are_names (pa_cons (pv 6) (pa_cons (kcval K (pe_glob (v := V.ref (He.ga K "Letter")) rfl W.g_Letter rfl)) pa_nil)))))
      pss_never
      pss_nil)
    (pss_cons (ps_fld (pv 0) (pv 1) rfl)
    (pss_cons (ps_fld (pv 0) (pv 2) rfl)
    (pss_cons (ps_fld (pv 0) (pv 3) rfl)
    (pss_cons (ps_fld (pv 0) (pe_op op_add_str (pe_op op_add_str (pv 2) pe_str) (pv 3)) rfl)
    (pss_cons (ps_fld (pv 0) (pe_tupleOf rfl W.f_tuple (pv 4)) rfl)
    (pss_cons (ps_fld (pv 0) (pe_tupleOf rfl W.f_tuple (pv 5)) rfl)
    (pss_cons (ps_fld (pv 0) (pe_tupleOf rfl W.f_tuple (pv 6)) rfl)
    (pss_cons (ps_set (i := 7) nd rfl (Or.inl rfl) (pe_lst (pa_cons (pe_joined (PJ.cons pe_str (PJ.cons (pe_fmt (pv 1)) PJ.nil))) (pa_cons (pe_joined (PJ.cons pe_str (PJ.cons (pe_fmt (kfld K (pv 0) rfl)) PJ.nil))) pa_nil))))
    (pss_cons (ps_set (i := 7) nd rfl (Or.inl rfl) (pe_op op_cat (pv 7) (pe_f (ok_wrapped W) (hr.mono (by decide)) rfl W.g_wrapped (pa_cons pe_str (pa_cons (pe_lc (own := [("answer", 8)]) rfl nd (pi_list (pv 4)) (blkOk_by (N := sc_Letter_init_N) (sc := defScope s_Letter_init) (by decide +kernel)) (fun _ _ _ _ _ => (pg_name (i := 8) nd rfl (Or.inl rfl))) (fun _ _ _ _ _ => pts_nil) (fun _ _ _ _ _ => (pe_callTy call_str_int rfl W.f_str (by decide +kernel) (pa_cons (pv 8) pa_nil)))) (pa_cons (pe_gi rfl W.i_ANSWERS_IN_ROW) pa_nil))))))
    (pss_cons (ps_set (i := 7) nd rfl (Or.inl rfl) (pe_op op_cat (pv 7) (pe_f (ok_wrapped W) (hr.mono (by decide)) rfl W.g_wrapped (pa_cons pe_str (pa_cons (pe_callTy (klist_of K) rfl W.f_list (by decide +kernel) (pa_cons (pv 5) pa_nil)) (pa_cons (pe_gi rfl W.i_SUBJECT_IN_ROW) pa_nil))))))
    (pss_one (ps_fld (pv 0) (kjoin K pe_str (pe_op op_cat (pv 7) (pe_f (ok_body_rows W) (hr.mono (by decide)) rfl W.g_body_rows (pa_cons (kfld K (pv 0) rfl) pa_nil)))) rfl)))))))))))))))))), ?_⟩
    refine ⟨_, rfl, L.n, rfl, isNumber L.n, rfl, ?_⟩
    rw [ok.n]
    refine iteF ⟨_, rfl, L.p, rfl, Nat.le_trans (name_len ok.p).2 (by decide), fun H1 s1 => ⟨isName L.p, rfl, ?_⟩⟩
    rw [ok.p]
    refine iteF ⟨_, rfl, L.h, rfl, Nat.le_trans (name_len ok.h).2 (by decide), fun H2 s2 => ⟨isName L.h, rfl, ?_⟩⟩
    rw [ok.h]
    have e2 : Same H0 H2 := (s0.trans s1).trans s2
    refine iteF ⟨_, rfl, _, rfl, a1, L.ans, L.n, rfl, e2 _ _ h1, ok.a8, ok.an, ok.ai, ok.ad, fun H3 s3 => ⟨true, rfl, iteF ?_⟩⟩
    have e3 : Same H0 H3 := e2.trans s3
    refine ⟨_, rfl, _, _, _, u1, rfl, W.r_Letter, v1, a2, L.sub, 8, rfl, e3 _ _ h2, Nat.le_trans ok.s8 (by decide), fun x hx => Nat.le_trans (name_len (ok.sn x hx)).2 (by decide), fun H4 s4 => ⟨_, rfl, ?_⟩⟩
    have b1 : (decide ((L.sub.length : Int) ≤ 8) && L.sub.all isName) = true := by
      have := ok.s8
      rw [decide_eq_true (by omega), Bool.true_and]
      exact List.all_eq_true.mpr ok.sn
    rw [b1]
    have e4 : Same H0 H4 := e3.trans s4
    refine iteF ⟨_, rfl, _, _, _, u2, rfl, W.r_Letter, v2, a3, L.wds, 40, rfl, e4 _ _ h3, Nat.le_trans ok.w40 (by decide), fun x hx => Nat.le_trans (name_len (ok.wn x hx)).2 (by decide), fun H5 s5 => ⟨_, rfl, ?_⟩⟩
    have b2 : (decide ((L.wds.length : Int) ≤ 40) && L.wds.all isName) = true := by
      have := ok.w40
      rw [decide_eq_true (by omega), Bool.true_and]
      exact List.all_eq_true.mpr ok.wn
    rw [b2]
    have e5 : Same H0 H5 := e4.trans s5
    have hx5 : H5 x = some (.ins (He.ga K "Letter") dx []) := s5 _ _ (s4 _ _ (s3 _ _ (s2 _ _ (s1 _ _ hx))))
    refine iteF ⟨_, rfl, put_step (fs' := [("number", .int L.n)]) hx5 e5 n0 W.c_Letter W.n_Letter_number (by show 0 < 1000; decide) rfl (by kernel_rfl) fun G1 g1 f1 k1 => ?_⟩
    refine ⟨_, rfl, put_step (fs' := [("number", .int L.n), ("person", .str L.p)]) f1 g1 n0 W.c_Letter W.n_Letter_person (by show 1 < 1000; decide) rfl (by kernel_rfl) fun G2 g2 f2 k2 => ?_⟩
    refine ⟨_, rfl, put_step (fs' := [("number", .int L.n), ("person", .str L.p), ("house", .str L.h)]) f2 g2 n0 W.c_Letter W.n_Letter_house (by show 2 < 1000; decide) rfl (by kernel_rfl) fun G3 g3 f3 k3 => ?_⟩
    have z4 : (" at " : PySem.Str).length = 4 := by decide +kernel
    have lp := (name_len ok.p).2
    have lh := (name_len ok.h).2
    have lsn : L.sender.length ≤ 20 := by
      unfold Lt.sender
      rw [str_len_app, str_len_app, z4]
      omega
    refine ⟨_, rfl, _, _, rfl, rfl, sz_le (by rw [z4]; omega), _, rfl, _, _, rfl, rfl, sz_le (by rw [str_len_app, z4]; omega), put_step (fs' := [("number", .int L.n), ("person", .str L.p), ("house", .str L.h), ("sender", .str L.sender)]) f3 g3 n0 W.c_Letter W.n_Letter_sender (by show 3 < 1000; decide) rfl (by kernel_rfl) fun G4 g4 f4 k4 => ?_⟩
    refine ⟨_, rfl, .inl ⟨a1, _, rfl, sqL (g4 _ _ h1), fun t1 nt1 => ?_⟩⟩
    have g5 := g4.trans (same_new (o := .tup (L.ans.map V.int)) nt1)
    have h5 : upd G4 t1 (.tup (L.ans.map V.int)) x = _ := (upd_ne (ne_of_none f4 nt1)).trans f4
    have ht1 : upd G4 t1 (.tup (L.ans.map V.int)) t1 = _ := upd_same
    generalize upd G4 t1 (.tup (L.ans.map V.int)) = G5 at g5 h5 ht1 ⊢
    have xt1 : t1 ≠ x := ne_of ht1 h5 (by intro z; cases z)
    refine put_step (fs' := [("number", .int L.n), ("person", .str L.p), ("house", .str L.h), ("sender", .str L.sender), ("answers", .ref t1)]) h5 g5 n0 W.c_Letter W.n_Letter_answers (by show 4 < 1000; decide) rfl (by kernel_rfl) fun G6 g6 f6 k6 => ?_
    have ht1 : G6 t1 = some (.tup (L.ans.map V.int)) := (k6 _ xt1).trans ht1
    refine ⟨_, rfl, .inl ⟨a2, _, rfl, sqL (g6 _ _ h2), fun t2 nt2 => ?_⟩⟩
    have g7 := g6.trans (same_new (o := .tup (L.sub.map V.str)) nt2)
    have h7 : upd G6 t2 (.tup (L.sub.map V.str)) x = _ := (upd_ne (ne_of_none f6 nt2)).trans f6
    have ht1 : upd G6 t2 (.tup (L.sub.map V.str)) t1 = _ := (upd_ne (ne_of_none ht1 nt2)).trans ht1
    have ht2 : upd G6 t2 (.tup (L.sub.map V.str)) t2 = _ := upd_same
    generalize upd G6 t2 (.tup (L.sub.map V.str)) = G7 at g7 h7 ht1 ht2 ⊢
    have xt2 : t2 ≠ x := ne_of ht2 h7 (by intro z; cases z)
    refine put_step (fs' := [("number", .int L.n), ("person", .str L.p), ("house", .str L.h), ("sender", .str L.sender), ("answers", .ref t1), ("subject", .ref t2)]) h7 g7 n0 W.c_Letter W.n_Letter_subject (by show 5 < 1000; decide) rfl (by kernel_rfl) fun G8 g8 f8 k8 => ?_
    have ht1 := (k8 _ xt1).trans ht1
    have ht2 := (k8 _ xt2).trans ht2
    refine ⟨_, rfl, .inl ⟨a3, _, rfl, sqL (g8 _ _ h3), fun t3 nt3 => ?_⟩⟩
    have g9 := g8.trans (same_new (o := .tup (L.wds.map V.str)) nt3)
    have h9 : upd G8 t3 (.tup (L.wds.map V.str)) x = _ := (upd_ne (ne_of_none f8 nt3)).trans f8
    have ht1 : upd G8 t3 (.tup (L.wds.map V.str)) t1 = _ := (upd_ne (ne_of_none ht1 nt3)).trans ht1
    have ht2 : upd G8 t3 (.tup (L.wds.map V.str)) t2 = _ := (upd_ne (ne_of_none ht2 nt3)).trans ht2
    have ht3 : upd G8 t3 (.tup (L.wds.map V.str)) t3 = _ := upd_same
    generalize upd G8 t3 (.tup (L.wds.map V.str)) = G9 at g9 h9 ht1 ht2 ht3 ⊢
    have xt3 : t3 ≠ x := ne_of ht3 h9 (by intro z; cases z)
    refine put_step (fs' := [("number", .int L.n), ("person", .str L.p), ("house", .str L.h), ("sender", .str L.sender), ("answers", .ref t1), ("subject", .ref t2), ("words", .ref t3)]) h9 g9 n0 W.c_Letter W.n_Letter_words (by show 6 < 1000; decide) rfl (by kernel_rfl) fun J0 j0 f10 k10 => ?_
    have ht1 := (k10 _ xt1).trans ht1
    have ht2 := (k10 _ xt2).trans ht2
    have ht3 := (k10 _ xt3).trans ht3
    -- rows
    have ln := num_len ok.n
    have zn : (Str.empty ++ "number: " : PySem.Str).length = 8 := by decide +kernel
    have zf : (Str.empty ++ "from: " : PySem.Str).length = 6 := by decide +kernel
    refine ⟨"number: ", rfl, sz_le (by rw [zn]; decide), _, rfl, .inr ⟨L.n, rfl, num_log ok.n, numS L.n, rfl, sz_le (by rw [str_len_app, zn]; omega), ?_⟩⟩
    refine ⟨"from: ", rfl, sz_le (by rw [zf]; decide), _, rfl, x, _, dx, _, _, rfl, f10, W.c_Letter, W.n_Letter_sender, (by kernel_rfl), .inl ⟨L.sender, rfl, sz_le (by omega), L.sender, rfl, sz_le (by rw [str_len_app, zf]; omega), sz_le (by show 2 ≤ 100000; decide), fun r1 nr1 => ?_⟩⟩
    generalize eJ1 : upd J0 r1 _ = J1
    obtain ⟨sj1, hr1⟩ := gen_upd nr1 eJ1
    have j1 := j0.trans sj1
    have fx := sj1 _ _ f10
    have ht1 := sj1 _ _ ht1
    have ht2 := sj1 _ _ ht2
    have ht3 := sj1 _ _ ht3
    -- the answers
    refine ⟨_, rfl, _, rfl, a1, rfl, ⟨_, sqL (j1 _ _ h1)⟩, fun D hD => ?_⟩
    refine lc_pure (w_list (xs := L.ans.map V.int)) (fun i => some (.str (numS (L.ans.getD i 0)))) hD (fun H' s2 => sqL (s2 _ _ (j1 _ _ h1))) (fun i v H H' r => by obtain ⟨e, _⟩ := r; rw [e]; exact Same.refl _) ?_ ?_
    · rintro i v Ha Hb hi ⟨rfl, hc⟩ s2 s3 hL
      obtain ⟨rfl, hm, hi2⟩ := map_at 0 hc
      have := ok.a8
      exact ⟨rfl, tyes ⟨_, rfl, _, rfl, num_log (ok.an _ hm), lcT hD s2 (by omega) hL rfl⟩⟩
    intro J2 s2 hL
    have e0 : (L.ans.map V.int).length = L.ans.length := List.length_map _
    rw [e0, kept_list (f := fun z => V.str (numS z))] at hL
    have hsa : Short 100 (L.ans.map numS) := fun x hx => by
      obtain ⟨z, hz, rfl⟩ := List.mem_map.mp hx
      exact Nat.le_trans (num_len (ok.an _ hz)) (by decide)
    have la := ok.a8
    refine ⟨"answers: ", D, L.ans.map numS, 3, rfl, by rw [hL, List.map_map]; rfl, by decide +kernel, by rw [List.length_map]; omega, hsa, by decide, by decide, fun J3 w1 s3 nw1 hw1 => ?_⟩
    have sj3 : Same J1 J3 := s2.trans s3
    have k1 : (wrapL "answers: " 3 (L.ans.map numS)).length ≤ 8 := by
      have := wrapL_len (lead := "answers: ") (w := 3) (xs := L.ans.map numS) (by decide)
      rw [List.length_map] at this
      omega
    refine ⟨r1, w1, _, _, rfl, rfl, sj3 _ _ hr1, hw1, sz_le (by rw [List.length_map]; show 2 + _ ≤ 100000; omega), fun r2 nr2 => ?_⟩
    generalize eJ4 : upd J3 r2 _ = J4
    obtain ⟨sj4, hr2⟩ := gen_upd nr2 eJ4
    have j4 := (j1.trans sj3).trans sj4
    have fx := sj4 _ _ (sj3 _ _ fx)
    have ht1 := sj4 _ _ (sj3 _ _ ht1)
    have ht2 := sj4 _ _ (sj3 _ _ ht2)
    have ht3 := sj4 _ _ (sj3 _ _ ht3)
    -- the subject
    refine ⟨_, rfl, _, rfl, a2, _, rfl, .inl (sqL (j4 _ _ h2)), fun l2 nl2 => ?_⟩
    generalize eJ5 : upd J4 l2 _ = J5
    obtain ⟨sj5, hl2⟩ := gen_upd nl2 eJ5
    have ls := ok.s8
    have hss : Short 100 L.sub := fun x hx => Nat.le_trans (name_len (ok.sn x hx)).2 (by decide)
    refine ⟨"subject: ", l2, L.sub, 4, rfl, hl2, by decide +kernel, by omega, hss, by decide, by decide, fun J6 w2 s6 nw2 hw2 => ?_⟩
    have sj6 := sj5.trans s6
    have k2 : (wrapL "subject: " 4 L.sub).length ≤ 8 := Nat.le_trans (wrapL_len (by decide)) ls
    refine ⟨r2, w2, _, _, rfl, rfl, sj6 _ _ hr2, hw2, sz_le (by rw [List.length_append, List.length_map, List.length_map]; show 2 + _ + _ ≤ 100000; omega), fun r3 nr3 => ?_⟩
    generalize eJ7 : upd J6 r3 _ = J7
    obtain ⟨sj7, hr3⟩ := gen_upd nr3 eJ7
    have j7 := (j4.trans sj6).trans sj7
    have fx := sj7 _ _ (sj6 _ _ fx)
    have ht1 := sj7 _ _ (sj6 _ _ ht1)
    have ht2 := sj7 _ _ (sj6 _ _ ht2)
    have ht3 := sj7 _ _ (sj6 _ _ ht3)
    -- the text
    have lw := ok.w40
    have hsw : Short 100 L.wds := fun x hx => Nat.le_trans (name_len (ok.wn x hx)).2 (by decide)
    refine ⟨⟨_, rfl⟩, _, rfl, _, rfl, x, _, dx, _, _, rfl, fx, W.c_Letter, W.n_Letter_words, (by kernel_rfl), t3, L.wds, rfl, ht3, by omega, hsw, fun J8 w3 s8 nw3 hw3 => ?_⟩
    have k3 := bodyL_len L.wds
    have hh : [V.str (Str.empty ++ "number: " ++ numS L.n), V.str (Str.empty ++ "from: " ++ L.sender)] ++ (wrapL "answers: " 3 (L.ans.map numS)).map V.str ++ (wrapL "subject: " 4 L.sub).map V.str = L.heads.map V.str := by
      unfold Lt.heads
      rw [List.map_append, List.map_append]
      rfl
    rw [hh] at hr3
    have lh : L.heads.length ≤ 18 := by
      unfold Lt.heads
      rw [List.length_append, List.length_append]
      show 2 + _ + _ ≤ 18
      omega
    refine ⟨r3, w3, _, _, rfl, rfl, s8 _ _ hr3, hw3, sz_le (by rw [List.length_map, List.length_map]; omega), fun r4 nr4 => ?_⟩
    generalize eJ9 : upd J8 r4 _ = J9
    obtain ⟨sj9, hr4⟩ := gen_upd nr4 eJ9
    refine ⟨"\n", r4, L.heads ++ bodyL L.wds, rfl, rfl, .inl (sqL (by rw [hr4, List.map_append])), join_fit (by decide +kernel) (by rw [List.length_append]; omega) ?_, ?_⟩
    · intro y hy
      rcases List.mem_append.mp hy with hy | hy
      · unfold Lt.heads at hy
        rcases List.mem_append.mp hy with hy | hy
        · rcases List.mem_append.mp hy with hy | hy
          · rcases List.mem_cons.mp hy with rfl | hy
            · rw [str_len_app, zn]; omega
            · rcases List.mem_cons.mp hy with rfl | hy
              · rw [str_len_app, zf]; omega
              · cases hy
          · exact wrapL_short (n := 0) (by decide +kernel) (by rw [List.length_map]; omega) hsa y hy
        · exact wrapL_short (n := 0) (by decide +kernel) (by omega) hss y hy
      · exact bodyL_short (by omega) hsw y hy
    have sj := s8.trans sj9
    refine put_step (fs' := lfs L t1 t2 t3) (sj _ _ fx) (j7.trans sj) n0 W.c_Letter W.n_Letter_text (by show 7 < 1000; decide) rfl (by kernel_rfl) fun JF jf ff kf => ?_
    exact q JF jf ⟨dx, t1, t2, t3, ff, (kf _ xt1).trans (sj _ _ ht1), (kf _ xt2).trans (sj _ _ ht2), (kf _ xt3).trans (sj _ _ ht3)⟩
end
end K75
end T_A4

section T_A5
set_option Elab.async false
set_option linter.all false
set_option maxRecDepth 100000
set_option maxHeartbeats 4000000
namespace K75
open PySem PySem.Spec PyProof.Rows L2
/-! ### dicts -/
theorem valV_nil {κ : Type} [DecidableEq κ] (k : κ) : valV ([] : List (κ × V)) k = none := rfl
theorem valV_cons {κ : Type} [DecidableEq κ] (p : κ × V) (r : List (κ × V)) (k : κ) : valV (p :: r) k = if p.1 = k then some p.2 else valV r k := by
  unfold valV
  rw [List.find?_cons]
  by_cases h : p.1 = k
  · rw [decide_eq_true h, if_pos h]
    rfl
  · rw [decide_eq_false h, if_neg h]
theorem valV_none {κ : Type} [DecidableEq κ] {k : κ} : ∀ {r : List (κ × V)}, k ∉ r.map (·.1) → valV r k = none
  | [], _ => rfl
  | p :: r, h => by
    rw [valV_cons, if_neg fun e => h (by rw [List.map_cons, e]; exact List.mem_cons_self)]
    exact valV_none fun z => h (by rw [List.map_cons]; exact List.mem_cons_of_mem _ z)
theorem valV_some {κ : Type} [DecidableEq κ] {k : κ} : ∀ {r : List (κ × V)}, k ∈ r.map (·.1) → ∃ v, valV r k = some v ∧ (k, v) ∈ r
  | [], h => by cases h
  | p :: r, h => by
    rw [valV_cons]
    by_cases e : p.1 = k
    · rw [if_pos e]
      exact ⟨p.2, rfl, by rw [← e]; exact List.mem_cons_self⟩
    · rw [if_neg e]
      rw [List.map_cons] at h
      obtain ⟨v, e2, hm⟩ := valV_some ((List.mem_cons.mp h).resolve_left fun z => e z.symm)
      exact ⟨v, e2, List.mem_cons_of_mem _ hm⟩
theorem valV_app {κ : Type} [DecidableEq κ] {k : κ} {v : V} : ∀ {r : List (κ × V)}, k ∉ r.map (·.1) → valV (r ++ [(k, v)]) k = some v
  | [], _ => by rw [List.nil_append, valV_cons, if_pos rfl]
  | p :: r, h => by
    rw [List.cons_append, valV_cons, if_neg fun e => h (by rw [List.map_cons, e]; exact List.mem_cons_self)]
    exact valV_app fun z => h (by rw [List.map_cons]; exact List.mem_cons_of_mem _ z)
theorem putK_new {κ : Type} [DecidableEq κ] {k : κ} {v : V} {r : List (κ × V)} (h : k ∉ r.map (·.1)) : putK r k v = r ++ [(k, v)] := by
  unfold putK
  rw [if_neg]
  intro e
  obtain ⟨p, hp, e2⟩ := List.any_eq_true.mp e
  exact h (List.mem_map.mpr ⟨p, hp, of_decide_eq_true e2⟩)
theorem putK_last {κ : Type} [DecidableEq κ] {k : κ} {v v0 : V} {r : List (κ × V)} (h : k ∉ r.map (·.1)) : putK (r ++ [(k, v0)]) k v = r ++ [(k, v)] := by
  unfold putK
  rw [if_pos (by rw [List.any_append]; simp), List.map_append]
  congr 1
  · refine (List.map_congr_left fun p hp => ?_).trans (List.map_id _)
    rw [if_neg fun e => h (List.mem_map.mpr ⟨p, hp, e⟩)]
    rfl
  · simp
/-! ### the head rows of a letter, being read -/
abbrev Told : Type := List (PySem.Str × List PySem.Str)
def hfs (m : Int) (d1 d2 : Addr) (c : PySem.Str) : List (PySem.Str × V) := [("missing", .int m), ("begins", .ref d1), ("told", .ref d2), ("current", .str c)]
def TR (H : Hp) (kv : Key × V) (q : PySem.Str × List PySem.Str) : Prop := kv.1 = Sum.inr q.1 ∧ ∃ l, kv.2 = .ref l ∧ H l = some (.lst (q.2.map V.str))
/-- at p stands a HeadRows that was told t; the row before told of c. G does not know it -/
structure HeadS (K : PySem.W.Frag) (G H : Hp) (p : Addr) (t : Told) (c : PySem.Str) (dx d1 d2 : Addr) (m : Int) (bk kvs : List (Key × V)) : Prop where
  same : Same G H
  gp : G p = none
  g1 : G d1 = none
  g2 : G d2 = none
  ne : d1 ≠ d2
  ins : H p = some (.ins (He.ga K "HeadRows") dx (hfs m d1 d2 c))
  beg : H d1 = some (.dK bk)
  told : H d2 = some (.dK kvs)
  keys : bk.map (·.1) = t.map fun q => Sum.inr q.1
  rows : Paired (TR H) kvs t
def HeadAt (K : PySem.W.Frag) (G H : Hp) (p : Addr) (t : Told) (c : PySem.Str) : Prop := ∃ dx d1 d2 m bk kvs, HeadS K G H p t c dx d1 d2 m bk kvs
theorem TR.mono {H H' : Hp} (s : Same H H') {kv : Key × V} {q : PySem.Str × List PySem.Str} (h : TR H kv q) : TR H' kv q := by
  obtain ⟨e, l, e2, hl⟩ := h
  exact ⟨e, l, e2, s _ _ hl⟩
theorem paired_mono {α β : Type} {F F' : α → β → Prop} {xs : List α} {ys : List β} (p : Paired F xs ys) (h : ∀ a b, F a b → F' a b) : Paired F' xs ys := by
  induction p with
  | nil => exact .nil
  | cons a r ih => exact .cons (h _ _ a) ih
theorem paired_app {α β : Type} {F : α → β → Prop} {xs xs' : List α} {ys ys' : List β} (p : Paired F xs ys) (q : Paired F xs' ys') : Paired F (xs ++ xs') (ys ++ ys') := by
  induction p with
  | nil => exact q
  | cons a r ih => exact .cons a ih
theorem paired_last {α β : Type} {F : α → β → Prop} {y : β} : ∀ {xs : List α} {ys : List β}, Paired F xs (ys ++ [y]) → ∃ xs0 x, xs = xs0 ++ [x] ∧ Paired F xs0 ys ∧ F x y
  | _, [], .cons a .nil => ⟨[], _, rfl, .nil, a⟩
  | _, _ :: ys, .cons a r => by
    obtain ⟨xs0, x, e, p, f⟩ := paired_last r
    exact ⟨_ :: xs0, x, by rw [e]; rfl, .cons a p, f⟩
theorem HeadAt.mono {K : PySem.W.Frag} {G H H' : Hp} {p : Addr} {t : Told} {c : PySem.Str} (s : Same H H') (h : HeadAt K G H p t c) : HeadAt K G H' p t c := by
  obtain ⟨dx, d1, d2, m, bk, kvs, h⟩ := h
  exact ⟨dx, d1, d2, m, bk, kvs, h.same.trans s, h.gp, h.g1, h.g2, h.ne, s _ _ h.ins, s _ _ h.beg, s _ _ h.told, h.keys, paired_mono h.rows fun _ _ z => z.mono s⟩
theorem told_keys {H : Hp} {kvs : List (Key × V)} {t : Told} (h : Paired (TR H) kvs t) : kvs.map (·.1) = t.map fun q => Sum.inr q.1 := by
  induction h with
  | nil => rfl
  | cons a r ih => rw [List.map_cons, List.map_cons, ih, a.1]
theorem inr_mem {f : PySem.Str} {t : Told} : (Sum.inr f : Key) ∈ t.map (fun q => (Sum.inr q.1 : Key)) ↔ f ∈ t.map (·.1) := by
  rw [List.mem_map, List.mem_map]
  constructor
  · rintro ⟨q, hq, e⟩
    injection e with e
    exact ⟨q, hq, e⟩
  · rintro ⟨q, hq, e⟩
    exact ⟨q, hq, by rw [e]⟩
def look (t : Told) (f : PySem.Str) : List PySem.Str := ((t.find? fun q => decide (q.1 = f)).map (·.2)).getD []
theorem look_get {H : Hp} {kvs : List (Key × V)} {t : Told} (h : Paired (TR H) kvs t) (f : PySem.Str) : (f ∉ t.map (·.1) ∧ valV kvs (Sum.inr f) = none ∧ look t f = []) ∨ ∃ l, valV kvs (Sum.inr f) = some (.ref l) ∧ H l = some (.lst ((look t f).map V.str)) := by
  induction h with
  | nil => exact .inl ⟨by simp, rfl, rfl⟩
  | @cons a q xs ys ha r ih =>
    obtain ⟨e, l, e2, hl⟩ := ha
    rw [valV_cons]
    unfold look
    rw [List.find?_cons]
    by_cases hk : q.1 = f
    · rw [if_pos (by rw [e, hk]), decide_eq_true hk]
      exact .inr ⟨l, by rw [e2], hl⟩
    · rw [if_neg (by rw [e]; intro z; injection z with z; exact hk z), decide_eq_false hk]
      rcases ih with ⟨h1, h2, h3⟩ | ih
      · refine .inl ⟨?_, h2, h3⟩
        rw [List.map_cons]
        intro z
        rcases List.mem_cons.mp z with z | z
        · exact hk z.symm
        · exact h1 z
      · exact .inr ih
/-! ### promises -/
def sp_HeadRows_init (K : PySem.W.Frag) : Sp := fun vs H Q _ => ∃ (H0 : Hp) (p dx : Addr) (m : Int), vs = [.ref p, .int m] ∧ Same H0 H ∧ H0 p = none ∧ H p = some (.ins (He.ga K "HeadRows") dx []) ∧ ∀ H', HeadAt K H0 H' p [] "" → Q .non H'
def sp_HeadRows_told_items (K : PySem.W.Frag) : Sp := fun vs H Q _ => ∃ (G : Hp) (p : Addr) (t : Told) (c f : PySem.Str), vs = [.ref p, .str f] ∧ HeadAt K G H p t c ∧ ∀ H' q, Same H H' → H q = none → H' q = some (.lst ((look t f).map V.str)) → Q (.ref q) H'
/-- a row that tells items of the field f (rest: what stands behind the field's name, or behind the sign of a row that goes on) -/
def RowOf (K : PySem.W.Frag) (G H : Hp) (p : Addr) (t0 : Told) (f : PySem.Str) (xs : List PySem.Str) (row rest : PySem.Str) : Prop :=
  (Txt.startswith row " " = false ∧ Txt.partition row ": " = (f, (": " : PySem.Str), rest) ∧ inV (.str f) [.str "number", .str "from", .str "answers", .str "subject"] = true ∧ xs = [] ∧ ∃ c, HeadAt K G H p t0 c) ∨
  (Txt.startswith row " " = true ∧ cutS row (some 1) none = rest ∧ HeadAt K G H p (t0 ++ [(f, xs)]) f)
def sp_HeadRows_take (K : PySem.W.Frag) : Sp := fun vs H Q _ => ∃ (G : Hp) (p : Addr) (t0 : Told) (f : PySem.Str) (xs : List PySem.Str) (row rest : PySem.Str) (num : Int), vs = [.ref p, .str row, .int num] ∧ RowOf K G H p t0 f xs row rest ∧ f ≠ "" ∧ f ∉ t0.map (·.1) ∧
  row.length ≤ 20000 ∧ rest.length ≤ 20000 ∧ t0.length ≤ 10 ∧ xs.length ≤ 1000 ∧ (Txt.split rest " ").length ≤ 1000 ∧ (∀ x ∈ Txt.split rest " ", x.length ≤ 20000 ∧ (isName x || isNumeral x) = true) ∧
  ∀ H', HeadAt K G H' p (t0 ++ [(f, xs ++ Txt.split rest " ")]) f → Q .non H'
section
variable {P : Program} {w : World} {K : PySem.W.Frag} {mg : PySem.Str → Option Value} {base : Heap}
abbrev sc_HeadRows_init_N : List PySem.Str := ["self", "missing"]
theorem sc_HeadRows_init : FnScope sc_HeadRows_init_N ["self", "missing"] (defScope s_HeadRows_init) := ⟨rfl, rfl, rfl, by decide +kernel, rfl, by decide +kernel, by decide +kernel⟩
theorem ok_HeadRows_init (W : Wd K mg) : Ok P w K mg base 1 d_HeadRows_init ["self", "missing"] (sp_HeadRows_init K) := by
  refine ok_mk W.d_HeadRows_init sc_HeadRows_init (fun _ _ _ _ _ _ us hl => match us, hl with | [_, _], _ => rfl) (fun vs H Q E h => ?_) (fun cdv A outer s H vs Q E hr h => ?_)
  · obtain ⟨H0, p, dx, m, rfl, _⟩ := h
    rfl
  · obtain ⟨H0, p, dx, m, rfl, s0, n0, hp, q⟩ := h
    have hu := hu_of hr
    have nd := sc_HeadRows_init.nd
    refine ⟨_, (pss_cons (ps_fld (pv 0) (pv 1) rfl)
    (pss_cons (ps_fld (pv 0) pe_dnewK rfl)
    (pss_cons (ps_fld (pv 0) pe_dnewK rfl)
    (pss_one (ps_fld (pv 0) pe_str rfl))))), ?_⟩
    refine ⟨_, rfl, put_step (fs' := [("missing", .int m)]) hp s0 n0 W.c_HeadRows W.n_HeadRows_missing (by show 0 < 1000; decide) rfl (by kernel_rfl) fun G1 g1 f1 k1 => ?_⟩
    intro d1 nd1
    generalize e2 : upd G1 d1 _ = G2
    obtain ⟨s2, h2⟩ := gen_upd nd1 e2
    have pd1 : d1 ≠ p := fun e => by rw [e, f1] at nd1; cases nd1
    refine put_step (fs' := [("missing", .int m), ("begins", .ref d1)]) (s2 _ _ f1) (g1.trans s2) n0 W.c_HeadRows W.n_HeadRows_begins (by show 1 < 1000; decide) rfl (by kernel_rfl) fun G3 g3 f3 k3 => ?_
    have h3 : G3 d1 = some (.dK []) := (k3 _ pd1).trans h2
    intro d2 nd2
    generalize e4 : upd G3 d2 _ = G4
    obtain ⟨s4, h4⟩ := gen_upd nd2 e4
    have pd2 : d2 ≠ p := fun e => by rw [e, f3] at nd2; cases nd2
    have d12 : d1 ≠ d2 := fun e => by rw [← e, h3] at nd2; cases nd2
    refine put_step (fs' := [("missing", .int m), ("begins", .ref d1), ("told", .ref d2)]) (s4 _ _ f3) (g3.trans s4) n0 W.c_HeadRows W.n_HeadRows_told (by show 2 < 1000; decide) rfl (by kernel_rfl) fun G5 g5 f5 k5 => ?_
    refine put_step (fs' := hfs m d1 d2 "") f5 g5 n0 W.c_HeadRows W.n_HeadRows_current (by show 3 < 1000; decide) rfl (by kernel_rfl) fun G6 g6 f6 k6 => ?_
    exact q G6 ⟨dx, d1, d2, m, [], [], g6, n0, g1.free nd1, g3.free nd2, d12, f6, (k6 _ pd1).trans ((k5 _ pd1).trans (s4 _ _ h3)), (k6 _ pd2).trans ((k5 _ pd2).trans h4), rfl, .nil⟩
abbrev sc_HeadRows_told_items_N : List PySem.Str := ["self", "field"]
theorem sc_HeadRows_told_items : FnScope sc_HeadRows_told_items_N ["self", "field"] (defScope s_HeadRows_told_items) := ⟨rfl, rfl, rfl, by decide +kernel, rfl, by decide +kernel, by decide +kernel⟩
theorem ok_HeadRows_told_items (W : Wd K mg) : Ok P w K mg base 1 d_HeadRows_told_items ["self", "field"] (sp_HeadRows_told_items K) := by
  refine ok_mk W.d_HeadRows_told_items sc_HeadRows_told_items (fun _ _ _ _ _ _ us hl => match us, hl with | [_, _], _ => rfl) (fun vs H Q E h => ?_) (fun cdv A outer s H vs Q E hr h => ?_)
  · obtain ⟨G, p, t, c, f, rfl, _⟩ := h
    rfl
  · obtain ⟨G, p, t, c, f, rfl, ⟨dx, d1, d2, m, bk, kvs, h⟩, q⟩ := h
    have hu := hu_of hr
    have nd := sc_HeadRows_told_items.nd
    refine ⟨_, (pss_one (ps_ret (pe_callTy (klist_of K) rfl W.f_list (by decide +kernel) (pa_cons (pe_dget2 hu (kfld K (pv 0) rfl) (pv 1) (pe_lst pa_nil) ⟨rfl, rfl, rfl, rfl⟩) pa_nil)))), ?_⟩
    refine ⟨_, rfl, p, _, dx, _, _, rfl, h.ins, W.c_HeadRows, W.n_HeadRows_told, (by kernel_rfl), d2, rfl, .inl ⟨_, .inl h.told⟩, _, rfl, Nat.zero_le _, fun l0 nl0 => ?_⟩
    generalize e1 : upd H l0 _ = H1
    obtain ⟨s1, h1⟩ := gen_upd nl0 e1
    refine ⟨_, DGet.k (k := Sum.inr f) (s1 _ _ h.told), ?_⟩
    rcases look_get h.rows f with ⟨_, e, e2⟩ | ⟨l, e, hl⟩
    · rw [e]
      refine ⟨l0, _, rfl, .inl (sqL h1), fun l2 nl2 => ?_⟩
      generalize e3 : upd H1 l2 _ = H2
      obtain ⟨s2, h2⟩ := gen_upd nl2 e3
      exact q H2 l2 (s1.trans s2) (s1.free nl2) (by rw [h2, e2]; rfl)
    · rw [e]
      refine ⟨l, _, rfl, .inl (sqL (s1 _ _ hl)), fun l2 nl2 => ?_⟩
      generalize e3 : upd H1 l2 _ = H2
      obtain ⟨s2, h2⟩ := gen_upd nl2 e3
      exact q H2 l2 (s1.trans s2) (s1.free nl2) h2
end
end K75
end T_A5

section T_A6
set_option Elab.async false
set_option linter.all false
set_option maxRecDepth 100000
set_option maxHeartbeats 4000000
namespace K75
open PySem PySem.Spec PyProof.Rows L2
theorem all_kept {α : Type} {p : α → Bool} {xs : List α} (h : ∀ x ∈ xs, p x = true) : (xs.map fun x => p x).all id = true := by
  rw [List.all_eq_true]
  intro b hb
  obtain ⟨x, hx, rfl⟩ := List.mem_map.mp hb
  exact h x hx
section
variable {P : Program} {w : World} {K : PySem.W.Frag} {mg : PySem.Str → Option Value} {base : Heap}
abbrev sc_HeadRows_take_N : List PySem.Str := ["self", "row", "number", "field", "rest", "colon", "found", "item"]
theorem sc_HeadRows_take : FnScope sc_HeadRows_take_N ["self", "row", "number"] (defScope s_HeadRows_take) := ⟨rfl, rfl, rfl, by decide +kernel, rfl, by decide +kernel, by decide +kernel⟩
theorem ok_HeadRows_take (W : Wd K mg) : Ok P w K mg base 2 d_HeadRows_take ["self", "row", "number"] (sp_HeadRows_take K) := by
  refine ok_mk W.d_HeadRows_take sc_HeadRows_take (fun _ _ _ _ _ _ us hl => match us, hl with | [_, _, _], _ => rfl) (fun vs H Q E h => ?_) (fun cdv A outer s H vs Q E hr h => ?_)
  · obtain ⟨G, p, t0, f, xs, row, rest, num, rfl, _⟩ := h
    rfl
  · obtain ⟨G, p, t0, f, xs, row, rest, num, rfl, hR, hf, hk, hrow, hrest, ht, hxs, hs, hi, q⟩ := h
    have hu := hu_of hr
    have nd := sc_HeadRows_take.nd
    have z1 : ((" " : PySem.Str).length == 0) = false := by decide +kernel
    have z2 : ((": " : PySem.Str).length == 0) = false := by decide +kernel
    have ze : (V.str ": " = V.str "") = False := by
      rw [eq_iff_iff, iff_false]
      intro z
      injection z with z
      exact absurd z (by decide +kernel)
    refine ⟨_, (Evl.pss_cut (ps_if (pt_val (pe_m1 PySem.F.slot_str_startswith PySem.F.type_str_startswith mt_startswith (pv 1) pe_str))
      (pss_cons (ps_set (i := 3) nd rfl (Or.inl rfl) (kfld K (pv 0) rfl))
      (pss_cons (ps_set (i := 4) nd rfl (Or.inl rfl) (pe_slice sl_str (pv 1) (po_some pe_int) po_none))
      (pss_one (ps_if (pt_cmpR op_eq (pv 3) pe_str (nomark _))
        pss_never
        pss_nil))))
      (pss_cons (ps_asg (pe_partition (pv 1) pe_str) (pg_tup rfl (pgs_cons (pg_name (i := 3) nd rfl (Or.inl rfl)) (pgs_cons (pg_name (i := 5) nd rfl (Or.inl rfl)) (pgs_cons (pg_name (i := 4) nd rfl (Or.inl rfl)) pgs_nil)))))
      (pss_one (ps_if (PW.pt (pw_or (pt_cmpR op_eq (pv 5) pe_str (nomark _)) (pw_or (pt_cmpR (knotIn_seq K) (pv 3) (pe_glob (v := V.ref (He.ga K "FIELDS")) rfl W.g_FIELDS rfl) (by with_unfolding_all rfl)) (pw_or1 (pt_cmp (pc_din hu (pv 3) (kfld K (pv 0) rfl)))))))
        pss_never
        pss_nil))))
    (pss_cons (ps_set (i := 6) nd rfl (Or.inl rfl) (pe_split (pv 4) pe_str))
    (pss_cons (ps_if (pt_not (pt_val (pe_callB (cr_all rfl) rfl W.f_all (by decide +kernel) (pa_cons (pe_lc (own := [("item", 7)]) rfl nd (pi_list (pv 6)) (blkOk_by (N := sc_HeadRows_take_N) (sc := defScope s_HeadRows_take) (by decide +kernel)) (fun _ _ _ _ _ => (pg_name (i := 7) nd rfl (Or.inl rfl))) (fun _ _ _ _ _ => pts_nil) (fun _ _ _ _ _ => (pe_or (pe_f (ok_is_name W) (hr.mono (by decide)) rfl W.g_is_name (pa_cons (pv 7) pa_nil)) (pe_one (pe_f (ok_is_numeral W) (hr.mono (by decide)) rfl W.g_is_numeral (pa_cons (pv 7) pa_nil)))))) pa_nil))))
      pss_never
      pss_nil)
    (Evl.pss_cut (ps_if (pt_cmp (pc_dnotin hu (pv 3) (kfld K (pv 0) rfl)))
      (pss_cons (ps_dput hu (kfld K (pv 0) rfl) (pv 3) (pv 2) rfl)
      (pss_one (ps_dput hu (kfld K (pv 0) rfl) (pv 3) (pe_lst pa_nil) rfl)))
      pss_nil)
    (pss_cons (ps_dput hu (kfld K (pv 0) rfl) (pv 3) (pe_op op_cat (pe_dget hu (kfld K (pv 0) rfl) (pv 3) (fun _ _ => rfl)) (pv 6)) rfl)
    (pss_one (ps_fld (pv 0) (pv 3) rfl))))))), ?_⟩
    refine ⟨fun σ H' => ∃ c, σ = [some (.ref p), some (.str row), some (.int num), some (.str f), some (.str rest), c, none, none] ∧ ((xs = [] ∧ ∃ c0, HeadAt K G H' p t0 c0) ∨ HeadAt K G H' p (t0 ++ [(f, xs)]) f), ?_, ?_⟩
    · refine ⟨_, rfl, ⟨_, rfl⟩, _, _, rfl, rfl, _, rfl, ?_⟩
      rcases hR with ⟨e1, e2, e3, e4, c0, hA⟩ | ⟨e1, e2, hA⟩
      · rw [e1]
        refine iteF ⟨_, rfl, ⟨_, rfl⟩, _, _, rfl, rfl, z2, sz_le (by omega), fun p1 np1 => ?_⟩
        generalize eG : upd H p1 _ = H1
        obtain ⟨s1, h1⟩ := gen_upd np1 eG
        rw [e2] at h1
        obtain ⟨dx, d1, d2, m, bk, kvs, h⟩ := hA.mono s1
        refine ⟨p1, [.str f, .str ": ", .str rest], rfl, sqT h1, rfl, _, _, rfl, _, _, rfl, _, _, rfl, rfl, ?_⟩
        refine ⟨_, rfl, rfl, _, rfl, ?_⟩
        rw [decide_eq_false (by rw [ze]; exact id)]
        refine iteF ⟨_, rfl, He.ga K "FIELDS", _, rfl, .inr (W.t_FIELDS _), rfl, rfl, _, rfl, ?_⟩
        rw [if_pos rfl, e3]
        refine iteF ⟨_, rfl, _, rfl, p, _, dx, _, _, rfl, h.ins, W.c_HeadRows, W.n_HeadRows_begins, (by kernel_rfl), d1, _, rfl, DGet.k (k := Sum.inr f) h.beg, _, rfl, ?_⟩
        rw [valV_none (by rw [h.keys, inr_mem]; exact hk)]
        exact iteF ⟨_, rfl, .inl ⟨e4, c0, dx, d1, d2, m, bk, kvs, h⟩⟩
      · rw [e1]
        obtain ⟨dx, d1, d2, m, bk, kvs, h⟩ := id hA
        refine iteT ⟨_, rfl, p, _, dx, _, .str f, rfl, h.ins, W.c_HeadRows, W.n_HeadRows_current, (by kernel_rfl), _, rfl, 1, rfl, row, rfl, sz_le (by omega), _, rfl, rfl, _, rfl, ?_⟩
        rw [decide_eq_false (by intro z; injection z with z; exact hf z)]
        refine iteF ⟨none, ?_, .inr hA⟩
        rw [e2]
        rfl
    rintro σ' H1 ⟨c, rfl, hM⟩
    refine ⟨_, rfl, ⟨_, rfl⟩, _, _, rfl, rfl, z1, sz_le (by omega), fun fa nfa => ?_⟩
    generalize eG : upd H1 fa _ = H2
    obtain ⟨s2, hfa⟩ := gen_upd nfa eG
    refine ⟨_, rfl, fa, rfl, ⟨_, sqL hfa⟩, fun D hD => ?_⟩
    refine lc_pure (w_list (xs := (Txt.split rest " ").map V.str)) (fun i => some (.bl (isName ((Txt.split rest " ").getD i "") || isNumeral ((Txt.split rest " ").getD i "")))) hD (fun H' s3 => sqL (s3 _ _ hfa)) (fun i v H H' r => by obtain ⟨e, _⟩ := r; rw [e]; exact Same.refl _) ?_ ?_
    · rintro i v Ha Hb hi2 ⟨rfl, hc⟩ s3 s4 hL
      obtain ⟨rfl, hm, hi3⟩ := map_at ("" : PySem.Str) hc
      obtain ⟨hz, hor⟩ := hi _ hm
      refine ⟨rfl, tyes ⟨_, rfl, _, rfl, by omega, fun H4 s4 => ⟨_, rfl, ?_⟩⟩⟩
      cases hn : isName ((Txt.split rest " ").getD i "") with
      | true => exact iteT (lcT hD (s3.trans s4) (by omega) (s4 _ _ hL) (by show some (V.bl (isName _ || _)) = _; rw [hn, Bool.true_or]))
      | false =>
        refine iteF ⟨_, rfl, _, rfl, by omega, fun H5 s5 => ?_⟩
        exact lcT hD ((s3.trans s4).trans s5) (by omega) (s5 _ _ (s4 _ _ hL)) (by show some (V.bl (isName _ || _)) = _; rw [hn, Bool.false_or])
    intro H3 s3 hL
    rw [List.length_map, kept_list (f := fun x => V.bl (isName x || isNumeral x))] at hL
    refine ⟨D, (Txt.split rest " ").map fun x => isName x || isNumeral x, rfl, sqL (by rw [hL, List.map_map]; rfl), _, rfl, ?_⟩
    rw [all_kept fun x hx => (hi x hx).2]
    refine iteF ?_
    have hfa3 := s3 _ _ hfa
    refine ⟨fun σ H' => σ = [some (.ref p), some (.str row), some (.int num), some (.str f), some (.str rest), c, some (.ref fa), none] ∧ (∃ c0, HeadAt K G H' p (t0 ++ [(f, xs)]) c0) ∧ H' fa = some (.lst ((Txt.split rest " ").map V.str)), ?_, ?_⟩
    · rcases hM with ⟨rfl, c0, hA⟩ | hA
      · obtain ⟨dx, d1, d2, m, bk, kvs, h⟩ := hA.mono (s2.trans s3)
        refine ⟨_, rfl, _, rfl, p, _, dx, _, _, rfl, h.ins, W.c_HeadRows, W.n_HeadRows_begins, (by kernel_rfl), d1, _, rfl, DGet.k (k := Sum.inr f) h.beg, _, rfl, ?_⟩
        have nb : (Sum.inr f : Key) ∉ bk.map (·.1) := by rw [h.keys, inr_mem]; exact hk
        have nk : (Sum.inr f : Key) ∉ kvs.map (·.1) := by rw [told_keys h.rows, inr_mem]; exact hk
        rw [valV_none nb]
        have lb : bk.length ≤ 10 := by
          have := congrArg List.length h.keys
          rw [List.length_map, List.length_map] at this
          omega
        have lk : kvs.length ≤ 10 := by
          have := Paired.length h.rows
          omega
        refine iteT ⟨_, rfl, _, rfl, p, _, dx, _, _, rfl, h.ins, W.c_HeadRows, W.n_HeadRows_begins, (by kernel_rfl), _, rfl, d1, _, rfl, DPut.k (k := Sum.inr f) h.beg (sz_lt (by omega)), ?_⟩
        generalize e4 : upd H3 d1 _ = H4
        obtain ⟨h4, k4⟩ := gen_mut e4
        rw [putK_new nb] at h4
        have pd1 : p ≠ d1 := ne_of h.ins h.beg (by intro z; cases z)
        have i4 := (k4 _ pd1).trans h.ins
        have t4 := (k4 _ h.ne.symm).trans h.told
        refine ⟨Nat.zero_le _, fun l0 nl0 => ?_⟩
        generalize e5 : upd H4 l0 _ = H5
        obtain ⟨s5, h5⟩ := gen_upd nl0 e5
        refine ⟨_, rfl, p, _, dx, _, _, rfl, s5 _ _ i4, W.c_HeadRows, W.n_HeadRows_told, (by kernel_rfl), _, rfl, d2, _, rfl, DPut.k (k := Sum.inr f) (s5 _ _ t4) (sz_lt (by omega)), ?_⟩
        generalize e6 : upd H5 d2 _ = H6
        obtain ⟨h6, k6⟩ := gen_mut e6
        rw [putK_new nk] at h6
        have pd2 : p ≠ d2 := ne_of h.ins h.told (by intro z; cases z)
        have ld2 : l0 ≠ d2 := ne_of h5 (s5 _ _ t4) (by intro z; cases z)
        have g6 : Same G H6 := by
          rw [← e6]
          refine same_mut (Same.trans ?_ s5) h.g2
          rw [← e4]
          exact same_mut h.same h.g1
        have fd1 : fa ≠ d1 := ne_of hfa3 h.beg (by intro z; cases z)
        have fd2 : fa ≠ d2 := ne_of hfa3 h.told (by intro z; cases z)
        refine ⟨rfl, ⟨c0, dx, d1, d2, m, _, _, g6, h.gp, h.g1, h.g2, h.ne, (k6 _ pd2).trans (s5 _ _ i4), (k6 _ h.ne).trans (s5 _ _ h4), h6, ?_, ?_⟩, (k6 _ fd2).trans (s5 _ _ ((k4 _ fd1).trans hfa3))⟩
        · rw [List.map_append, List.map_append, h.keys]
          rfl
        · refine paired_app (paired_mono h.rows fun kv qq z => ?_) (.cons ⟨rfl, l0, rfl, (k6 _ ld2).trans h5⟩ .nil)
          obtain ⟨ez, l, ez2, hl⟩ := z
          have n1 : l ≠ d1 := ne_of hl h.beg (by intro z; cases z)
          have n2 : l ≠ d2 := ne_of hl h.told (by intro z; cases z)
          exact ⟨ez, l, ez2, (k6 _ n2).trans (s5 _ _ ((k4 _ n1).trans hl))⟩
      · obtain ⟨dx, d1, d2, m, bk, kvs, h⟩ := hA.mono (s2.trans s3)
        refine ⟨_, rfl, _, rfl, p, _, dx, _, _, rfl, h.ins, W.c_HeadRows, W.n_HeadRows_begins, (by kernel_rfl), d1, _, rfl, DGet.k (k := Sum.inr f) h.beg, _, rfl, ?_⟩
        obtain ⟨v, ev, _⟩ := valV_some (k := (Sum.inr f : Key)) (r := bk) (by rw [h.keys, inr_mem, List.map_append]; simp)
        rw [ev]
        exact iteF ⟨rfl, ⟨f, dx, d1, d2, m, bk, kvs, h⟩, hfa3⟩
    rintro σ4 H4 ⟨rfl, ⟨c0, dx, d1, d2, m, bk, kvs, h⟩, hfa4⟩
    obtain ⟨kv0, ⟨kk, kvv⟩, rfl, hp, ek, l, ev, hl⟩ := paired_last h.rows
    have ek : kk = Sum.inr f := ek
    have ev : kvv = V.ref l := ev
    have hl : H4 l = some (.lst (xs.map V.str)) := hl
    subst ek ev
    have nk : (Sum.inr f : Key) ∉ kv0.map (·.1) := by rw [told_keys hp, inr_mem]; exact hk
    have lk : kv0.length ≤ 10 := by
      have := Paired.length hp
      omega
    refine ⟨_, rfl, p, _, dx, _, _, rfl, h.ins, W.c_HeadRows, W.n_HeadRows_told, (by kernel_rfl), _, rfl, d2, _, rfl, (by have := DGet.k (k := Sum.inr f) h.told; rw [valV_app nk] at this; exact this), _, rfl, l, fa, _, _, rfl, rfl, hl, hfa4, sz_le (by rw [List.length_map, List.length_map]; omega), fun l1 nl1 => ?_⟩
    generalize e5 : upd H4 l1 _ = H5
    obtain ⟨s5, h5⟩ := gen_upd nl1 e5
    refine ⟨_, rfl, p, _, dx, _, _, rfl, s5 _ _ h.ins, W.c_HeadRows, W.n_HeadRows_told, (by kernel_rfl), _, rfl, d2, _, rfl, DPut.k (k := Sum.inr f) (s5 _ _ h.told) (sz_lt (by rw [List.length_append]; show _ + 1 < _; omega)), ?_⟩
    generalize e6 : upd H5 d2 _ = H6
    obtain ⟨h6, k6⟩ := gen_mut e6
    rw [putK_last nk] at h6
    have pd1 : p ≠ d1 := ne_of h.ins h.beg (by intro z; cases z)
    have pd2 : p ≠ d2 := ne_of h.ins h.told (by intro z; cases z)
    have g6 : Same G H6 := by
      rw [← e6]
      exact same_mut (h.same.trans s5) h.g2
    refine ⟨_, rfl, put_step (fs' := hfs m d1 d2 f) ((k6 _ pd2).trans (s5 _ _ h.ins)) g6 h.gp W.c_HeadRows W.n_HeadRows_current (by show 4 < 1000; decide) rfl (by kernel_rfl) fun G7 g7 f7 k7 => ?_⟩
    have ld2 : l1 ≠ d2 := ne_of h5 (s5 _ _ h.told) (by intro z; cases z)
    have lp1 : l1 ≠ p := ne_of h5 (s5 _ _ h.ins) (by intro z; cases z)
    refine q G7 ⟨dx, d1, d2, m, bk, _, g7, h.gp, h.g1, h.g2, h.ne, f7, (k7 _ pd1.symm).trans ((k6 _ h.ne).trans (s5 _ _ h.beg)), (k7 _ pd2.symm).trans h6, ?_, ?_⟩
    · rw [h.keys, List.map_append, List.map_append]
      rfl
    · refine paired_app (paired_mono hp fun kv qq z => ?_) (.cons ⟨rfl, l1, rfl, (k7 _ lp1).trans ((k6 _ ld2).trans (by rw [h5, List.map_append]))⟩ .nil)
      obtain ⟨ez, l, ez2, hl⟩ := z
      have n2 : l ≠ d2 := ne_of hl h.told (by intro z; cases z)
      have n3 : l ≠ p := ne_of hl h.ins (by intro z; cases z)
      exact ⟨ez, l, ez2, (k7 _ n3).trans ((k6 _ n2).trans (s5 _ _ hl))⟩
end
end K75
end T_A6

section T_A7
set_option Elab.async false
set_option linter.all false
set_option maxRecDepth 100000
set_option maxHeartbeats 4000000
namespace K75
open PySem PySem.Spec PyProof.Rows L2 TL
/-! ### the text of a number -/
theorem numS_tl {n : Int} (h : 0 ≤ n) : (numS n).cps.toList = numL n.toNat := by
  have e : n = ((n.toNat : Nat) : Int) := by omega
  unfold numS
  rw [e]
  exact tl_num n.toNat
theorem numL_head : ∀ n : Nat, 1 ≤ n → (numL n)[0]? ≠ some 48 := by
  intro n
  induction n using Nat.strongRecOn with
  | _ n ih =>
    intro hn
    by_cases h : n < 10
    · rw [numL_lt h]
      intro e
      have e : some (48 + n) = some 48 := e
      injection e with e
      omega
    · rw [numL_step (by omega), List.getElem?_append_left (List.length_pos_iff.mpr (numL_ne _))]
      exact ih (n / 10) (by omega) (by omega)
theorem num_numeral {n : Int} (h : isNumber n = true) : isNumeral (numS n) = true := by
  have h2 := of_decide_eq_true h
  have e := numS_tl (n := n) (by omega)
  have l1 : (numS n).length = (numL n.toNat).length := by rw [← e, Array.length_toList]; rfl
  have l2 : 1 ≤ (numL n.toNat).length := List.length_pos_iff.mpr (numL_ne _)
  unfold isNumeral
  rw [Bool.and_eq_true, decide_eq_true_eq, Bool.and_eq_true]
  refine ⟨⟨by omega, num_len h⟩, ?_, ?_⟩
  · rw [decide_eq_false]
    · rfl
    · rw [← Array.getElem?_toList, e]
      exact numL_head _ (by omega)
  · rw [e, List.all_eq_true]
    intro c hc
    exact decide_eq_true (numL_digits _ c hc)
theorem num_reads {n : Int} (h : isNumber n = true) : PySem.intText? (numS n) = some n := by
  have h2 := of_decide_eq_true h
  have e : n = ((n.toNat : Nat) : Int) := by omega
  have l := num_len h
  unfold numS at l ⊢
  rw [e] at l ⊢
  refine int_num ?_
  have l1 : (Str.ofString (toString ((n.toNat : Nat) : Int))).length = (numL n.toNat).length := by
    rw [← tl_num n.toNat]
    unfold tl
    rw [Array.length_toList]
    rfl
  omega
/-! ### promises -/
def Read (L : Lt) (t : Told) : Prop := look t "number" = [numS L.n] ∧ look t "from" = [L.p, "at", L.h] ∧ look t "answers" = L.ans.map numS ∧ look t "subject" = L.sub
def sp_HeadRows_made_letter (K : PySem.W.Frag) : Sp := fun vs H Q _ => ∃ (G : Hp) (p wa : Addr) (t : Told) (c : PySem.Str) (L : Lt), vs = [.ref p, .ref wa] ∧ HeadAt K G H p t c ∧ Read L t ∧ L.Ok ∧ H wa = some (.lst (L.wds.map V.str)) ∧
  ∀ H' q, Same H H' → H q = none → LetterAt K H' q L → Q (.ref q) H'
section
variable {P : Program} {w : World} {K : PySem.W.Frag} {mg : PySem.Str → Option Value} {base : Heap}
abbrev sc_HeadRows_made_letter_N : List PySem.Str := ["self", "words", "number", "who", "answers", "subject", "item"]
theorem sc_HeadRows_made_letter : FnScope sc_HeadRows_made_letter_N ["self", "words"] (defScope s_HeadRows_made_letter) := ⟨rfl, rfl, rfl, by decide +kernel, rfl, by decide +kernel, by decide +kernel⟩
theorem ok_HeadRows_made_letter (W : Wd K mg) : Ok P w K mg base 5 d_HeadRows_made_letter ["self", "words"] (sp_HeadRows_made_letter K) := by
  refine ok_mk W.d_HeadRows_made_letter sc_HeadRows_made_letter (fun _ _ _ _ _ _ us hl => match us, hl with | [_, _], _ => rfl) (fun vs H Q E h => ?_) (fun cdv A outer s H vs Q E hr h => ?_)
  · obtain ⟨G, p, wa, t, c, L, rfl, _⟩ := h
    rfl
  · obtain ⟨G, p, wa, t, c, L, rfl, hA, ⟨r1, r2, r3, r4⟩, ok, hw, q⟩ := h
    have hu := hu_of hr
    have nd := sc_HeadRows_made_letter.nd
    obtain ⟨u1, v1⟩ := W.v_MOST_SUBJECT
    have hins : ∀ H', Same H H' → ∃ dx fs, H' p = some (.ins (He.ga K "HeadRows") dx fs) ∧ fs.lookup ("told_items" : PySem.Str) = none := fun H' s => by
      obtain ⟨dx, d1, d2, m, bk, kvs, h⟩ := hA.mono s
      exact ⟨dx, _, h.ins, by kernel_rfl⟩
    have ln := num_len ok.n
    refine ⟨_, (pss_cons (ps_set (i := 2) nd rfl (Or.inl rfl) (pe_o (pv 0) W.c_HeadRows (ok_HeadRows_told_items W) W.m_HeadRows_told_items (hr.mono (by decide)) (pa_cons pe_str pa_nil)))
    (pss_cons (ps_if (PW.pt (pw_or (pt_cmpR op_ne (pe_callB (klen_seq K) rfl W.f_len PySem.boot_len (pa_cons (pv 2) pa_nil)) pe_int (nomark _)) (pw_or (pt_not (pt_val (pe_f (ok_is_numeral W) (hr.mono (by decide)) rfl W.g_is_numeral (pa_cons (pe_ix (kix_list K) (pv 2) pe_int (fun _ _ => rfl)) pa_nil)))) (pw_or1 (pt_not (pt_val (pe_f (ok_is_number W) (hr.mono (by decide)) rfl W.g_is_number (pa_cons (pe_callTy call_int_str rfl W.f_int (by decide +kernel) (pa_cons (pe_ix (kix_list K) (pv 2) pe_int (fun _ _ => rfl)) pa_nil)) pa_nil))))))))
      pss_never
      pss_nil)
    (pss_cons (ps_set (i := 3) nd rfl (Or.inl rfl) (pe_o (pv 0) W.c_HeadRows (ok_HeadRows_told_items W) W.m_HeadRows_told_items (hr.mono (by decide)) (pa_cons pe_str pa_nil)))
    (pss_cons (ps_if (PW.pt (pw_or (pt_cmpR op_ne (pe_callB (klen_seq K) rfl W.f_len PySem.boot_len (pa_cons (pv 3) pa_nil)) pe_int (nomark _)) (pw_or (pt_cmpR op_ne (pe_ix (kix_list K) (pv 3) pe_int (fun _ _ => rfl)) pe_str (nomark _)) (pw_or (pt_not (pt_val (pe_f (ok_is_name W) (hr.mono (by decide)) rfl W.g_is_name (pa_cons (pe_ix (kix_list K) (pv 3) pe_int (fun _ _ => rfl)) pa_nil)))) (pw_or1 (pt_not (pt_val (pe_f (ok_is_name W) (hr.mono (by decide)) rfl W.g_is_name (pa_cons (pe_ix (kix_list K) (pv 3) pe_int (fun _ _ => rfl)) pa_nil)))))))))
      pss_never
      pss_nil)
    (pss_cons (ps_set (i := 4) nd rfl (Or.inl rfl) (pe_o (pv 0) W.c_HeadRows (ok_HeadRows_told_items W) W.m_HeadRows_told_items (hr.mono (by decide)) (pa_cons pe_str pa_nil)))
    (pss_cons (ps_if (pt_not (pt_val (pe_callB (cr_all rfl) rfl W.f_all (by decide +kernel) (pa_cons (pe_lc (own := [("item", 6)]) rfl nd (pi_list (pv 4)) (blkOk_by (N := sc_HeadRows_made_letter_N) (sc := defScope s_HeadRows_made_letter) (by decide +kernel)) (fun _ _ _ _ _ => (pg_name (i := 6) nd rfl (Or.inl rfl))) (fun _ _ _ _ _ => pts_nil) (fun _ _ _ _ _ => (pe_f (ok_is_numeral W) (hr.mono (by decide)) rfl W.g_is_numeral (pa_cons (pv 6) pa_nil)))) pa_nil))))
      pss_never
      pss_nil)
    (pss_cons (ps_setLc (i := 4) (own := [("item", 6)]) rfl nd rfl rfl (sw_true rfl rfl rfl (by decide +kernel)) (pi_list (pv 4)) (blkOk_by (N := sc_HeadRows_made_letter_N) (sc := defScope s_HeadRows_made_letter) (by decide +kernel)) (fun _ _ _ _ _ => (pg_name (i := 6) nd rfl (Or.inl rfl))) (fun _ _ _ _ _ => pts_nil) (fun _ _ _ _ _ => (pe_callTy call_int_str rfl W.f_int (by decide +kernel) (pa_cons (pv 6) pa_nil))))
    (pss_cons (ps_if (pt_not (pt_val (pe_f (ok_fits_answers W) (hr.mono (by decide)) rfl W.g_fits_answers (pa_cons (pe_callTy call_int_str rfl W.f_int (by decide +kernel) (pa_cons (pe_ix (kix_list K) (pv 2) pe_int (fun _ _ => rfl)) pa_nil)) (pa_cons (pv 4) pa_nil)))))
      pss_never
      pss_nil)
    (pss_cons (ps_set (i := 5) nd rfl (Or.inl rfl) (pe_o (pv 0) W.c_HeadRows (ok_HeadRows_told_items W) W.m_HeadRows_told_items (hr.mono (by decide)) (pa_cons pe_str pa_nil)))
    (pss_cons (ps_if (pt_not (pt_val (pe_f (ok_are_names W) (hr.mono (by decide)) rfl W.g_are_names (pa_cons (pv 5) (pa_cons (kcval K (pe_glob (v := V.ref (He.ga K "Letter")) rfl W.g_Letter rfl)) pa_nil)))))
      pss_never
      pss_nil)
    (pss_one (ps_ret (pe_L (ok_Letter_init W) W.k_Letter (hr.mono (by decide)) rfl W.g_Letter (pa_cons (pe_callTy call_int_str rfl W.f_int (by decide +kernel) (pa_cons (pe_ix (kix_list K) (pv 2) pe_int (fun _ _ => rfl)) pa_nil)) (pa_cons (pe_ix (kix_list K) (pv 3) pe_int (fun _ _ => rfl)) (pa_cons (pe_ix (kix_list K) (pv 3) pe_int (fun _ _ => rfl)) pa_nil))) (pk_cons (pv 4) (pk_cons (pv 5) (pk_cons (pv 1) pk_nil)))))))))))))))), ?_⟩
    -- number
    obtain ⟨dx0, fs0, i0, l0⟩ := hins H (Same.refl _)
    refine ⟨_, rfl, p, dx0, fs0, rfl, i0, l0, G, p, t, c, "number", rfl, hA, fun H1 a1 s1 na1 h1 => ?_⟩
    rw [r1] at h1
    refine ⟨_, rfl, a1, _, rfl, .inl (sqL h1), rfl, _, rfl, iteF ?_⟩
    refine ⟨_, rfl, a1, _, 0, .str (numS L.n), rfl, rfl, sqL h1, rfl, _, rfl, by omega, fun H2 s2 => ⟨_, rfl, ?_⟩⟩
    rw [num_numeral ok.n]
    have h1b := s2 _ _ h1
    refine iteF ⟨_, rfl, a1, _, 0, .str (numS L.n), rfl, rfl, sqL h1b, rfl, _, L.n, rfl, num_reads ok.n, by omega, L.n, rfl, isNumber L.n, rfl, ?_⟩
    rw [ok.n]
    refine iteF ?_
    -- from
    have e2 := s1.trans s2
    obtain ⟨dx1, fs1, i1, l1⟩ := hins H2 e2
    refine ⟨_, rfl, p, dx1, fs1, rfl, i1, l1, G, p, t, c, "from", rfl, hA.mono e2, fun H3 a2 s3 na2 h2 => ?_⟩
    rw [r2] at h2
    have h2 : H3 a2 = some (.lst [.str L.p, .str "at", .str L.h]) := h2
    refine ⟨_, rfl, a2, _, rfl, .inl (sqL h2), rfl, _, rfl, iteF ?_⟩
    refine ⟨_, rfl, a2, _, 1, .str "at", rfl, rfl, sqL h2, rfl, rfl, _, rfl, ?_⟩
    rw [decide_eq_true rfl]
    refine iteF ⟨_, rfl, a2, _, 0, .str L.p, rfl, rfl, sqL h2, rfl, _, rfl, Nat.le_trans (name_len ok.p).2 (by decide), fun H4 s4 => ⟨_, rfl, ?_⟩⟩
    rw [ok.p]
    have h2b := s4 _ _ h2
    refine iteF ⟨_, rfl, a2, _, 2, .str L.h, rfl, rfl, sqL h2b, rfl, _, rfl, Nat.le_trans (name_len ok.h).2 (by decide), fun H5 s5 => ⟨_, rfl, ?_⟩⟩
    rw [ok.h]
    refine iteF ?_
    -- answers
    have e5 := ((e2.trans s3).trans s4).trans s5
    have h1c := s5 _ _ (s4 _ _ (s3 _ _ h1b))
    have h2c := s5 _ _ h2b
    obtain ⟨dx2, fs2, i2, l2⟩ := hins H5 e5
    refine ⟨_, rfl, p, dx2, fs2, rfl, i2, l2, G, p, t, c, "answers", rfl, hA.mono e5, fun H6 a3 s6 na3 h3 => ?_⟩
    rw [r3] at h3
    have la := ok.a8
    refine ⟨_, rfl, a3, rfl, ⟨_, sqL h3⟩, fun D hD => ?_⟩
    refine lc_pure (w_list (xs := (L.ans.map numS).map V.str)) (fun i => some (.bl (isNumeral ((L.ans.map numS).getD i "")))) hD (fun H' s7 => sqL (s7 _ _ h3)) (fun i v H H' r => by obtain ⟨e, _⟩ := r; rw [e]; exact Same.refl _) ?_ ?_
    · rintro i v Ha Hb hi2 ⟨rfl, hc⟩ s7 s8 hL
      obtain ⟨rfl, hm, hi3⟩ := map_at ("" : PySem.Str) hc
      obtain ⟨z, hz, ez⟩ := List.mem_map.mp hm
      have := num_len (ok.an z hz)
      rw [List.length_map] at hi3
      exact ⟨rfl, tyes ⟨_, rfl, _, rfl, by rw [← ez]; omega, fun H4 s4 => lcT hD (s7.trans s4) (by omega) (s4 _ _ hL) rfl⟩⟩
    intro H7 s7 hL
    rw [List.length_map, kept_list (f := fun x => V.bl (isNumeral x))] at hL
    refine ⟨D, (L.ans.map numS).map fun x => isNumeral x, rfl, sqL (by rw [hL, List.map_map, List.map_map, List.map_map]; rfl), _, rfl, ?_⟩
    rw [all_kept fun x hx => by obtain ⟨z, hz, ez⟩ := List.mem_map.mp hx; rw [← ez]; exact num_numeral (ok.an z hz)]
    refine iteF ?_
    have h3b := s7 _ _ h3
    refine ⟨_, rfl, a3, rfl, ⟨_, sqL h3b⟩, fun D2 hD2 => ?_⟩
    refine lc_pure (w_list (xs := (L.ans.map numS).map V.str)) (fun i => some (.int (L.ans.getD i 0))) hD2 (fun H' s8 => sqL (s8 _ _ h3b)) (fun i v H H' r => by obtain ⟨e, _⟩ := r; rw [e]; exact Same.refl _) ?_ ?_
    · rintro i v Ha Hb hi2 ⟨rfl, hc⟩ s8 s9 hL2
      rw [List.map_map] at hc
      obtain ⟨rfl, hm, hi3⟩ := map_at (0 : Int) hc
      have := num_len (ok.an _ hm)
      exact ⟨rfl, tyes ⟨_, rfl, _, _, rfl, num_reads (ok.an _ hm), by omega, lcT hD2 s8 (by omega) hL2 rfl⟩⟩
    intro H8 s8 hL2
    rw [List.length_map, List.length_map, kept_list (f := V.int)] at hL2
    have e8 := ((e5.trans s6).trans s7).trans s8
    have h1d := s8 _ _ (s7 _ _ (s6 _ _ h1c))
    have h2d := s8 _ _ (s7 _ _ (s6 _ _ h2c))
    refine ⟨_, rfl, a1, _, 0, .str (numS L.n), rfl, rfl, sqL h1d, rfl, _, L.n, rfl, num_reads ok.n, by omega, _, rfl, D2, L.ans, L.n, rfl, hL2, ok.a8, ok.an, ok.ai, ok.ad, fun H9 s9 => ⟨_, rfl, iteF ?_⟩⟩
    -- subject
    have e9 := e8.trans s9
    obtain ⟨dx3, fs3, i3, l3⟩ := hins H9 e9
    refine ⟨_, rfl, p, dx3, fs3, rfl, i3, l3, G, p, t, c, "subject", rfl, hA.mono e9, fun H10 a4 s10 na4 h4 => ?_⟩
    rw [r4] at h4
    refine ⟨_, rfl, _, _, _, u1, rfl, W.r_Letter, v1, a4, L.sub, 8, rfl, h4, Nat.le_trans ok.s8 (by decide), fun x hx => Nat.le_trans (name_len (ok.sn x hx)).2 (by decide), fun H11 s11 => ⟨_, rfl, ?_⟩⟩
    have b1 : (decide ((L.sub.length : Int) ≤ 8) && L.sub.all isName) = true := by
      have := ok.s8
      rw [decide_eq_true (by omega), Bool.true_and]
      exact List.all_eq_true.mpr ok.sn
    rw [b1]
    refine iteF ?_
    have e11 := (e9.trans s10).trans s11
    have h1e := s11 _ _ (s10 _ _ (s9 _ _ h1d))
    have h2e := s11 _ _ (s10 _ _ (s9 _ _ h2d))
    have hL2e := s11 _ _ (s10 _ _ (s9 _ _ hL2))
    have h4e := s11 _ _ h4
    refine ⟨_, rfl, a1, _, 0, .str (numS L.n), rfl, rfl, sqL h1e, rfl, _, L.n, rfl, num_reads ok.n, by omega, ?_⟩
    refine ⟨_, rfl, a2, _, 0, .str L.p, rfl, rfl, sqL h2e, rfl, ?_⟩
    refine ⟨_, rfl, a2, _, 2, .str L.h, rfl, rfl, sqL h2e, rfl, ?_⟩
    refine ⟨_, rfl, _, rfl, _, rfl, rfl, rfl, fun x dx nx ndx nex => ?_⟩
    have sx : Same H11 (upd (upd H11 dx (.own x)) x (.ins (He.ga K "Letter") dx [])) := fun b o e => by
      rw [upd_ne (ne_of_none e nx), upd_ne (ne_of_none e ndx)]
      exact e
    refine ⟨H11, x, dx, D2, a4, wa, L, rfl, sx, nx, upd_same, ok, hL2e, h4e, e11 _ _ hw, fun H' s' hl => ⟨rfl, ?_⟩⟩
    exact q H' x (e11.trans s') (e11.free nx) hl
end
end K75
end T_A7

section T_M1
set_option Elab.async false
set_option linter.all false
set_option maxRecDepth 100000
set_option maxHeartbeats 4000000
namespace K75
open PySem PySem.Spec PyProof.Rows L2 TL
theorem tl_sp : tl " " = [32] := by decide +kernel
theorem tl_nl : tl "\n" = [10] := by decide +kernel
theorem tl_co : tl ": " = [58, 32] := by decide +kernel
theorem tl_eq : tl "===" = [61, 61, 61] := by decide +kernel
theorem tl_emp : tl "" = [] := by decide +kernel
/-- an item: a name or a numeral -/
def Itm (x : PySem.Str) : Prop := (isName x || isNumeral x) = true
theorem itm_signs {x : PySem.Str} (h : Itm x) : ∀ c ∈ tl x, (97 ≤ c ∧ c ≤ 122) ∨ (48 ≤ c ∧ c ≤ 57) := by
  intro c hc
  rcases Bool.or_eq_true_iff.mp h with h | h
  · unfold isName at h
    rw [Bool.and_eq_true] at h
    exact .inl (of_decide_eq_true (List.all_eq_true.mp h.2 c hc))
  · unfold isNumeral at h
    rw [Bool.and_eq_true, Bool.and_eq_true] at h
    exact .inr (of_decide_eq_true (List.all_eq_true.mp h.2.2 c hc))
theorem itm_free {x : PySem.Str} (h : Itm x) {c : Nat} (hc : c < 48 ∨ (57 < c ∧ c < 97)) : c ∉ tl x := fun hm => by
  have := itm_signs h c hm
  omega
theorem itm_len {x : PySem.Str} (h : Itm x) : 1 ≤ x.length ∧ x.length ≤ 31 := by
  rcases Bool.or_eq_true_iff.mp h with h | h
  · have := name_len h
    omega
  · unfold isNumeral at h
    rw [Bool.and_eq_true, decide_eq_true_eq] at h
    exact h.1
theorem itm_name {x : PySem.Str} (h : isName x = true) : Itm x := by unfold Itm; rw [h]; rfl
theorem itm_num {n : Int} (h : isNumber n = true) : Itm (numS n) := by unfold Itm; rw [num_numeral h, Bool.or_true]
theorem itm_at : Itm "at" := by unfold Itm; decide +kernel
theorem split_items {xs : List PySem.Str} (hne : xs ≠ []) (h : ∀ x ∈ xs, Itm x) : Txt.split (Txt.join " " xs) " " = xs := by
  exact split_join (S := []) tl_sp (by decide +kernel) hne fun p hp => itm_free (h p hp) (by omega)
theorem sw_first {row : PySem.Str} {c : Nat} {r : List Nat} (h : tl row = c :: r) : Txt.startswith row " " = decide (c = 32) := by
  unfold Txt.startswith
  have l1 : (" " : PySem.Str).length = 1 := by decide +kernel
  have l2 : row.length = r.length + 1 := by rw [len_tl, h]; rfl
  have e1 : Builtin.Str.subAt row " " 0 = decide (c = 32) := by
    rw [StrLaws.subAt_eq]
    have ht : row.cps.toList = c :: r := h
    have hs : (" " : PySem.Str).cps.toList = [32] := tl_sp
    rw [ht, hs, l1]
    show ([c] == [32]) = decide (c = 32)
    rw [Bool.eq_iff_iff, beq_iff_eq, decide_eq_true_eq]
    constructor
    · intro e
      injection e
    · intro e
      rw [e]
  rw [e1, l1, decide_eq_true (by omega : 0 + 1 ≤ row.length), Bool.true_and]
theorem cut_one {x : PySem.Str} : cutS (" " ++ x) (some 1) none = x := by
  unfold cutS
  have l1 : (" " : PySem.Str).length = 1 := by decide +kernel
  have l2 : (" " ++ x : PySem.Str).length = x.length + 1 := by rw [str_len_app, l1]; omega
  have e : HT.sIx (" " ++ x : PySem.Str).length 0 (some 1) = 1 := by
    have := HT.sIx_nat (" " ++ x : PySem.Str).length 0 1
    rw [l2] at this ⊢
    rw [show ((1 : Int)) = ((1 : Nat) : Int) from rfl, this]
    omega
  rw [e, HT.sIx_none, l2]
  apply ext_tl
  show ((tl (" " ++ x)).drop 1).take (x.length + 1 - 1) = tl x
  rw [tl_append, tl_sp, len_tl]
  show ((tl x)).take ((tl x).length + 1 - 1) = tl x
  rw [Nat.add_sub_cancel, List.take_length]
/-! ### rows told one behind the other -/
structure RowC (f row rest : PySem.Str) (t0 : Told) (xs : List PySem.Str) : Prop where
  fe : f ≠ ""
  fk : f ∉ t0.map (·.1)
  lr : row.length ≤ 20000
  lt : rest.length ≤ 20000
  l0 : t0.length ≤ 10
  lx : xs.length ≤ 1000
  ls : (Txt.split rest " ").length ≤ 1000
  it : ∀ x ∈ Txt.split rest " ", x.length ≤ 20000 ∧ (isName x || isNumeral x) = true
abbrev FV : List V := [.str "number", .str "from", .str "answers", .str "subject"]
inductive Run : List PySem.Str → Told → PySem.Str → Told → Prop where
  | nil {t : Told} {c : PySem.Str} : Run [] t c t
  | new {row rest f c : PySem.Str} {rs : List PySem.Str} {t T : Told} : Txt.startswith row " " = false → Txt.partition row ": " = (f, (": " : PySem.Str), rest) → inV (.str f) FV = true → RowC f row rest t [] → Run rs (t ++ [(f, [] ++ Txt.split rest " ")]) f T → Run (row :: rs) t c T
  | more {row rest f : PySem.Str} {xs rs : List PySem.Str} {t0 T : Told} : Txt.startswith row " " = true → cutS row (some 1) none = rest → RowC f row rest t0 xs → Run rs (t0 ++ [(f, xs ++ Txt.split rest " ")]) f T → Run (row :: rs) (t0 ++ [(f, xs)]) f T
/-- the fields' names -/
def Fld (f : PySem.Str) : Prop := inV (.str f) FV = true ∧ f.length ≤ 20 ∧ (∃ c r, tl f = c :: r ∧ c ≠ 32) ∧ 58 ∉ tl f
theorem fld_ne {f : PySem.Str} (h : Fld f) : f ≠ "" := by
  rintro rfl
  obtain ⟨_, _, ⟨c, r, e, _⟩, _⟩ := h
  rw [tl_emp] at e
  cases e
theorem run_first {f c : PySem.Str} {xs rs : List PySem.Str} {t T : Told} (hf : Fld f) (hk : f ∉ t.map (·.1)) (h0 : t.length ≤ 10) (hne : xs ≠ []) (hl : xs.length ≤ 100) (hi : ∀ x ∈ xs, Itm x) (k : Run rs (t ++ [(f, xs)]) f T) :
    Run ((f ++ ": " ++ Txt.join " " xs) :: rs) t c T := by
  obtain ⟨h1, h2, ⟨c0, r0, e0, n0⟩, h3⟩ := id hf
  have es := split_items hne hi
  have lj : (Txt.join " " xs).length ≤ 100 * (31 + 10) := join_len (by decide +kernel) hl fun x hx => (itm_len (hi x hx)).2
  have lc : (": " : PySem.Str).length = 2 := by decide +kernel
  refine .new (rest := Txt.join " " xs) ?_ (partition_app (S := [32]) tl_co h3) h1 ⟨fld_ne hf, hk, ?_, by omega, h0, Nat.zero_le _, by rw [es]; omega, ?_⟩ ?_
  · rw [sw_first (c := c0) (r := r0 ++ tl ": " ++ tl (Txt.join " " xs)), decide_eq_false n0]
    rw [tl_append, tl_append, e0]
    rfl
  · rw [str_len_app, str_len_app, lc]
    omega
  · intro x hx
    rw [es] at hx
    have := itm_len (hi x hx)
    exact ⟨by omega, hi x hx⟩
  · rw [es, List.nil_append]
    exact k
theorem run_more {f : PySem.Str} {xs ys rs : List PySem.Str} {t T : Told} (hf : Fld f) (hk : f ∉ t.map (·.1)) (h0 : t.length ≤ 10) (hy : ys.length ≤ 1000) (hne : xs ≠ []) (hl : xs.length ≤ 100) (hi : ∀ x ∈ xs, Itm x) (k : Run rs (t ++ [(f, ys ++ xs)]) f T) :
    Run ((" " ++ Txt.join " " xs) :: rs) (t ++ [(f, ys)]) f T := by
  have es := split_items hne hi
  have lj : (Txt.join " " xs).length ≤ 100 * (31 + 10) := join_len (by decide +kernel) hl fun x hx => (itm_len (hi x hx)).2
  have lc : (" " : PySem.Str).length = 1 := by decide +kernel
  refine .more (rest := Txt.join " " xs) ?_ cut_one ⟨fld_ne hf, hk, ?_, by omega, h0, hy, by rw [es]; omega, ?_⟩ ?_
  · rw [sw_first (c := 32) (r := tl (Txt.join " " xs)), decide_eq_true rfl]
    rw [tl_append, tl_sp]
    rfl
  · rw [str_len_app, lc]
    omega
  · intro x hx
    rw [es] at hx
    have := itm_len (hi x hx)
    exact ⟨by omega, hi x hx⟩
  · rw [es]
    exact k
theorem take_piece {α : Type} (w : Nat) (xs : List α) (k : Nat) : xs.take (k * w) ++ piece w xs k = xs.take ((k + 1) * w) := by
  unfold piece
  rw [Nat.add_mul, Nat.one_mul, List.take_add]
theorem piece_ne {α : Type} {w : Nat} {xs : List α} {k : Nat} (hw : 1 ≤ w) (h : k < npiece w xs.length) : piece w xs k ≠ [] := by
  have := npiece_in hw h
  intro e
  have e := congrArg List.length e
  unfold piece at e
  rw [List.length_take, List.length_drop] at e
  show False
  simp at e
  omega
theorem npiece_all {w n : Nat} (hw : 1 ≤ w) : n ≤ npiece w n * w := by
  unfold npiece
  have := Nat.div_add_mod (n + w - 1) w
  have h2 := Nat.mod_lt (n + w - 1) (by omega : w > 0)
  rw [Nat.mul_comm] at this
  omega
theorem run_wrap {f c : PySem.Str} {w : Nat} {xs rs : List PySem.Str} {t T : Told} (hf : Fld f) (hk : f ∉ t.map (·.1)) (h0 : t.length ≤ 10) (hw : 1 ≤ w) (hne : xs ≠ []) (hl : xs.length ≤ 100) (hi : ∀ x ∈ xs, Itm x) (k : Run rs (t ++ [(f, xs)]) f T) :
    Run (wrapL (f ++ ": ") w xs ++ rs) t c T := by
  have hp : ∀ j, 1 ≤ j → j ≤ npiece w xs.length → Run (((List.range' j (npiece w xs.length - j)).map fun k => (if k = 0 then f ++ ": " else " ") ++ Txt.join " " (piece w xs k)) ++ rs) (t ++ [(f, xs.take (j * w))]) f T := by
    intro j h1 h2
    induction hd : npiece w xs.length - j generalizing j with
    | zero =>
      have e : j = npiece w xs.length := by omega
      rw [e, List.take_of_length_le (npiece_all hw)]
      exact k
    | succ d ih =>
      rw [List.range'_succ, List.map_cons, if_neg (by omega), List.cons_append]
      refine run_more hf hk h0 (by rw [List.length_take]; omega) (piece_ne hw (by omega)) (Nat.le_trans (piece_len _ _ _) hl) (fun x hx => hi x (piece_mem hx)) ?_
      rw [take_piece]
      exact ih (j + 1) (by omega) (by omega) (by omega)
  have hn : 1 ≤ npiece w xs.length := by
    have : 1 ≤ xs.length := List.length_pos_iff.mpr hne
    have := npiece_all (w := w) (n := xs.length) hw
    rcases Nat.eq_zero_or_pos (npiece w xs.length) with e | e
    · rw [e, Nat.zero_mul] at this
      omega
    · exact e
  unfold wrapL
  rw [List.range_eq_range', show npiece w xs.length = (npiece w xs.length - 1) + 1 by omega, List.range'_succ, List.map_cons, if_pos rfl, List.cons_append]
  refine run_first hf hk h0 (piece_ne hw (by omega)) (Nat.le_trans (piece_len _ _ _) hl) (fun x hx => hi x (piece_mem hx)) ?_
  have e : piece w xs 0 = xs.take (1 * w) := by
    have := take_piece w xs 0
    rw [Nat.zero_mul, List.take_zero, List.nil_append, Nat.zero_add] at this
    exact this
  rw [e]
  exact hp 1 (Nat.le_refl _) hn
def fN : PySem.Str := "number"
def fF : PySem.Str := "from"
def fA : PySem.Str := "answers"
def fS : PySem.Str := "subject"
def toldOf (L : Lt) : Told := [(fN, [numS L.n]), (fF, [L.p, "at", L.h])] ++ (if L.ans = [] then [] else [(fA, L.ans.map numS)]) ++ (if L.sub = [] then [] else [(fS, L.sub)])
theorem f_number : Fld "number" := ⟨by decide +kernel, by decide +kernel, ⟨110, (tl "number").tail, by decide +kernel, by decide⟩, by decide +kernel⟩
theorem f_from : Fld "from" := ⟨by decide +kernel, by decide +kernel, ⟨102, (tl "from").tail, by decide +kernel, by decide⟩, by decide +kernel⟩
theorem f_answers : Fld "answers" := ⟨by decide +kernel, by decide +kernel, ⟨97, (tl "answers").tail, by decide +kernel, by decide⟩, by decide +kernel⟩
theorem f_subject : Fld "subject" := ⟨by decide +kernel, by decide +kernel, ⟨115, (tl "subject").tail, by decide +kernel, by decide⟩, by decide +kernel⟩
theorem sender_join (L : Lt) : L.sender = Txt.join " " [L.p, "at", L.h] := by
  rw [join_eq]
  apply ext_tl
  show tl (L.p ++ " at " ++ L.h) = tl (L.p ++ " " ++ (("at" : PySem.Str) ++ " " ++ L.h))
  rw [tl_append, tl_append, tl_append, tl_append, tl_append, tl_append]
  have e1 : tl " at " = [32, 97, 116, 32] := by decide +kernel
  have e2 : tl "at" = [97, 116] := by decide +kernel
  rw [e1, e2, tl_sp]
  simp
theorem wrapL_nil (lead : PySem.Str) (w : Nat) (hw : 1 ≤ w) : wrapL lead w [] = [] := by
  have h := wrapL_len (lead := lead) (xs := []) hw
  exact List.length_eq_zero_iff.mp (Nat.le_zero.mp h)
theorem run_heads {L : Lt} (ok : L.Ok) : Run L.heads [] "" (toldOf L) := by
  unfold Lt.heads
  have en : (Str.empty ++ "number: " : PySem.Str) = "number" ++ ": " := by decide +kernel
  have ef : (Str.empty ++ "from: " : PySem.Str) = "from" ++ ": " := by decide +kernel
  have ea : ("answers: " : PySem.Str) = "answers" ++ ": " := by decide +kernel
  have eu : ("subject: " : PySem.Str) = "subject" ++ ": " := by decide +kernel
  have j1 : numS L.n = Txt.join " " [numS L.n] := by rw [join_eq]; rfl
  rw [en, ef, ea, eu, sender_join, List.append_assoc]
  rw [show [("number" : PySem.Str) ++ ": " ++ numS L.n, "from" ++ ": " ++ Txt.join " " [L.p, "at", L.h]] = [("number" : PySem.Str) ++ ": " ++ Txt.join " " [numS L.n], "from" ++ ": " ++ Txt.join " " [L.p, "at", L.h]] from by rw [← j1]]
  refine run_first f_number (by simp) (by decide) (by simp) (by show 1 ≤ 100; decide) (fun x hx => by rw [List.mem_singleton.mp hx]; exact itm_num ok.n) ?_
  refine run_first f_from (by show (fF : PySem.Str) ∉ [fN]; decide +kernel) (by show 1 ≤ 10; decide) (by simp) (by show 3 ≤ 100; decide) (fun x hx => ?_) ?_
  · rcases List.mem_cons.mp hx with rfl | hx
    · exact itm_name ok.p
    · rcases List.mem_cons.mp hx with rfl | hx
      · exact itm_at
      · rw [List.mem_singleton.mp hx]
        exact itm_name ok.h
  have hA : ∀ x ∈ L.ans.map numS, Itm x := fun x hx => by
    obtain ⟨z, hz, rfl⟩ := List.mem_map.mp hx
    exact itm_num (ok.an z hz)
  have hS : ∀ x ∈ L.sub, Itm x := fun x hx => itm_name (ok.sn x hx)
  have la := ok.a8
  have ls := ok.s8
  have hsub : ∀ t : Told, ∀ c, ("subject" : PySem.Str) ∉ t.map (·.1) → t.length ≤ 10 → Run (wrapL ("subject" ++ ": ") 4 L.sub) t c (t ++ (if L.sub = [] then [] else [(fS, L.sub)])) := by
    intro t c hk h0
    by_cases he : L.sub = []
    · rw [if_pos he, he, wrapL_nil _ _ (by decide), List.append_nil]
      exact .nil
    · rw [if_neg he]
      have := run_wrap (c := c) (w := 4) (rs := []) (T := t ++ [(fS, L.sub)]) f_subject hk h0 (by decide) he (by omega) hS .nil
      rw [List.append_nil] at this
      exact this
  unfold toldOf
  by_cases he : L.ans = []
  · rw [if_pos he, he, List.map_nil, wrapL_nil _ _ (by decide), List.nil_append, List.append_nil]
    exact hsub _ _ (by show fS ∉ [fN, fF]; decide +kernel) (by show 2 ≤ 10; decide)
  · rw [if_neg he]
    refine run_wrap f_answers (by show fA ∉ [fN, fF]; decide +kernel) (by show 2 ≤ 10; decide) (by decide) (by intro e; exact he (List.map_eq_nil_iff.mp e)) (by rw [List.length_map]; omega) hA ?_
    exact hsub _ _ (by show fS ∉ [fN, fF, fA]; decide +kernel) (by show 3 ≤ 10; decide)
theorem read_heads (L : Lt) : Read L (toldOf L) := by
  unfold Read toldOf
  by_cases h1 : L.ans = [] <;> by_cases h2 : L.sub = []
  · rw [if_pos h1, if_pos h2, h1, h2]
    exact ⟨by kernel_rfl, by kernel_rfl, by kernel_rfl, by kernel_rfl⟩
  · rw [if_pos h1, if_neg h2, h1]
    exact ⟨by kernel_rfl, by kernel_rfl, by kernel_rfl, by kernel_rfl⟩
  · rw [if_neg h1, if_pos h2, h2]
    exact ⟨by kernel_rfl, by kernel_rfl, by kernel_rfl, by kernel_rfl⟩
  · rw [if_neg h1, if_neg h2]
    exact ⟨by kernel_rfl, by kernel_rfl, by kernel_rfl, by kernel_rfl⟩
end K75
end T_M1

section T_A8
set_option Elab.async false
set_option linter.all false
set_option maxRecDepth 100000
set_option maxHeartbeats 4000000
namespace K75
open PySem PySem.Spec PyProof.Rows L2
theorem inV_strs (x : PySem.Str) (xs : List PySem.Str) : inV (.str x) (xs.map V.str) = decide (x ∈ xs) := by
  unfold inV
  rw [List.any_map, Bool.eq_iff_iff, List.any_eq_true, decide_eq_true_eq]
  constructor
  · rintro ⟨y, hy, e⟩
    have e2 : y = x := eq_of_beq e
    exact e2 ▸ hy
  · intro h
    exact ⟨x, h, by show (x == x) = true; exact beq_self_eq_true x⟩
theorem heads_ne {L : Lt} (ok : L.Ok) : ∀ x ∈ L.heads, x ≠ "" := by
  have h := run_heads ok
  have hr : ∀ {rows : List PySem.Str} {t : Told} {c : PySem.Str} {T : Told}, Run rows t c T → ∀ x ∈ rows, x ≠ "" := by
    intro rows t c T r
    induction r with
    | nil => intro x hx; cases hx
    | @new row rest f c rs t T e1 e2 e3 hc r ih =>
      intro x hx
      rcases List.mem_cons.mp hx with rfl | hx
      · rintro rfl
        have : Txt.partition "" ": " = (("" : PySem.Str), ("" : PySem.Str), ("" : PySem.Str)) := by decide +kernel
        rw [this] at e2
        have e4 : ("" : PySem.Str) = (": " : PySem.Str) := congrArg (fun z : PySem.Str × PySem.Str × PySem.Str => z.2.1) e2
        exact absurd e4 (by decide +kernel)
      · exact ih x hx
    | @more row rest f xs rs t0 T e1 e2 hc r ih =>
      intro x hx
      rcases List.mem_cons.mp hx with rfl | hx
      · rintro rfl
        exact absurd e1 (by decide +kernel)
      · exact ih x hx
  exact hr h
theorem bodyL_nil {xs : List PySem.Str} : ("" : PySem.Str) ∈ bodyL xs ↔ xs ≠ [] := by
  unfold bodyL
  split
  · rename_i h
    simp [h]
  · rename_i h
    simp [h]
theorem cut_to40 {xs : List V} (h : xs.length ≤ 40) : cutV xs none (some 40) = xs := by
  unfold cutV
  rw [HT.sIx_none, List.drop_zero, show ((40 : Int)) = ((40 : Nat) : Int) from rfl, HT.sIx_nat, Nat.min_eq_right h, Nat.sub_zero, List.take_length]
def sp_read_part (K : PySem.W.Frag) : Sp := fun vs H Q _ => ∃ (ra : Addr) (L : Lt) (b m : Int), vs = [.ref ra, .int b, .int m] ∧ L.Ok ∧ H ra = some (.lst ((L.heads ++ bodyL L.wds).map V.str)) ∧ ∀ H' q, Same H H' → H q = none → LetterAt K H' q L → Q (.ref q) H'
theorem heads_len {L : Lt} (ok : L.Ok) : 2 ≤ L.heads.length ∧ L.heads.length ≤ 18 := by
  have k1 := wrapL_len (lead := "answers: ") (w := 3) (xs := L.ans.map numS) (by decide)
  have k2 := wrapL_len (lead := "subject: ") (w := 4) (xs := L.sub) (by decide)
  have := ok.a8
  have := ok.s8
  rw [List.length_map] at k1
  unfold Lt.heads
  rw [List.length_append, List.length_append]
  show 2 ≤ 2 + _ + _ ∧ 2 + _ + _ ≤ 18
  omega
section
variable {P : Program} {w : World} {K : PySem.W.Frag} {mg : PySem.Str → Option Value} {base : Heap}
abbrev sc_read_part_N : List PySem.Str := ["rows", "before", "missing", "end", "heads", "at", "words", "full", "found", "letter", "item"]
theorem sc_read_part : FnScope sc_read_part_N ["rows", "before", "missing"] (defScope s_read_part) := ⟨rfl, rfl, rfl, by decide +kernel, rfl, by decide +kernel, by decide +kernel⟩
theorem ok_read_part (W : Wd K mg) : Ok P w K mg base 6 d_read_part ["rows", "before", "missing"] (sp_read_part K) := by
  refine ok_mk W.d_read_part sc_read_part (fun _ _ _ _ _ _ us hl => match us, hl with | [_, _, _], _ => rfl) (fun vs H Q E h => ?_) (fun cdv A outer s H vs Q E hr h => ?_)
  · obtain ⟨ra, L, b, m, rfl, _⟩ := h
    rfl
  · obtain ⟨ra, L, b, m, rfl, ok, hra, q⟩ := h
    have hu := hu_of hr
    have nd := sc_read_part.nd
    obtain ⟨u2, v2⟩ := W.v_MOST_WORDS
    obtain ⟨hl1, hl2⟩ := heads_len ok
    have hb := bodyL_len L.wds
    have hw := ok.w40
    have hlen : ((L.heads ++ bodyL L.wds).map V.str).length = L.heads.length + (bodyL L.wds).length := by rw [List.length_map, List.length_append]
    have z1 : ((" " : PySem.Str).length == 0) = false := by decide +kernel
    refine ⟨_, (Evl.pss_cut (ps_set (i := 3) nd rfl (Or.inl rfl) (pe_ifExp (pt_cmpR (kin_seq K) pe_str (pv 0) (by with_unfolding_all rfl)) (kbm K PySem.F.plainAttrs_list PySem.F.slot_list_index PySem.F.type_list_index mt_index (pv 0) (pa_cons pe_str pa_nil)) (pe_callB (klen_seq K) rfl W.f_len PySem.boot_len (pa_cons (pv 0) pa_nil))))
    (pss_cons (ps_set (i := 4) nd rfl (Or.inl rfl) (pe_k (ok_HeadRows_init W) W.k_HeadRows (hr.mono (by decide)) rfl W.g_HeadRows (pa_cons (pv 2) pa_nil)))
    (pss_cons (ps_for PassesOwn.never rfl (pi_range1 rfl W.f_range (pa_cons (pv 3) pa_nil)) (pg_name (i := 5) nd rfl (Or.inl rfl))
      (pss_one (ps_expr (pe_o (pv 4) W.c_HeadRows (ok_HeadRows_take W) W.m_HeadRows_take (hr.mono (by decide)) (pa_cons (pe_ix (kix_list K) (pv 0) (pv 5) (fun _ _ => rfl)) (pa_cons (pe_op op_add (pe_op op_add (pv 1) (pv 5)) pe_int) pa_nil))))))
    (pss_cons (ps_if (pt_cmpR op_eq (pe_op op_add (pv 3) pe_int) (pe_callB (klen_seq K) rfl W.f_len PySem.boot_len (pa_cons (pv 0) pa_nil)) (nomark _))
      pss_never
      pss_nil)
    (pss_cons (ps_set (i := 6) nd rfl (Or.inl rfl) (pe_lst pa_nil))
    (pss_cons (ps_set (i := 7) nd rfl (Or.inl rfl) pe_int)
    (pss_cons (ps_for PassesOwn.never rfl (pi_range2 rfl W.f_range (pa_cons (pe_op op_add (pv 3) pe_int) (pa_cons (pe_callB (klen_seq K) rfl W.f_len PySem.boot_len (pa_cons (pv 0) pa_nil)) pa_nil))) (pg_name (i := 5) nd rfl (Or.inl rfl))
      (pss_cons (ps_set (i := 8) nd rfl (Or.inl rfl) (pe_split (pe_ix (kix_list K) (pv 0) (pv 5) (fun _ _ => rfl)) pe_str))
      (pss_cons (ps_if (pt_not (pt_val (pe_callB (cr_all rfl) rfl W.f_all (by decide +kernel) (pa_cons (pe_lc (own := [("item", 10)]) rfl nd (pi_list (pv 8)) (blkOk_by (N := sc_read_part_N) (sc := defScope s_read_part) (by decide +kernel)) (fun _ _ _ _ _ => (pg_name (i := 10) nd rfl (Or.inl rfl))) (fun _ _ _ _ _ => pts_nil) (fun _ _ _ _ _ => (pe_f (ok_is_name W) (hr.mono (by decide)) rfl W.g_is_name (pa_cons (pv 10) pa_nil)))) pa_nil))))
        pss_never
        pss_nil)
      (pss_cons (ps_set (i := 6) nd rfl (Or.inl rfl) (pe_op op_cat (pv 6) (pv 8)))
      (pss_one (ps_if (PW.pt (pw_and (pt_cmpR op_gt (pe_callB (klen_seq K) rfl W.f_len PySem.boot_len (pa_cons (pv 6) pa_nil)) (kcval K (pe_glob (v := V.ref (He.ga K "Letter")) rfl W.g_Letter rfl)) (nomark _)) (pw_and1 (pt_cmpR op_eq (pv 7) pe_int (nomark _)))))
        (pss_one (ps_set (i := 7) nd rfl (Or.inl rfl) (pe_op op_add (pe_op op_add (pv 1) (pv 5)) pe_int)))
        pss_nil))))))
    (pss_cons (ps_set (i := 9) nd rfl (Or.inl rfl) (pe_o (pv 4) W.c_HeadRows (ok_HeadRows_made_letter W) W.m_HeadRows_made_letter (hr.mono (by decide)) (pa_cons (pe_slice (ksl_list K) (pv 6) po_none (po_some (kcval K (pe_glob (v := V.ref (He.ga K "Letter")) rfl W.g_Letter rfl)))) pa_nil)))
    (pss_cons (ps_if (pt_cmpR op_gt (pv 7) pe_int (nomark _))
      pss_never
      pss_nil)
    (pss_one (ps_ret (pv 9)))))))))))), ?_⟩
    refine ⟨fun σ H' => H' = H ∧ σ = [some (.ref ra), some (.int b), some (.int m), some (.int (L.heads.length : Int)), none, none, none, none, none, none, none], ?_, ?_⟩
    · refine ⟨_, rfl, ra, _, rfl, .inl (sqL hra), rfl, flat_strs _, _, rfl, ?_⟩
      rw [if_neg Bool.false_ne_true, inV_strs]
      by_cases hn : L.wds = []
      · rw [decide_eq_false (by
          rw [List.mem_append]
          rintro (z | z)
          · exact heads_ne ok _ z rfl
          · exact (bodyL_nil.mp z) hn)]
        refine iteF ⟨_, rfl, ra, _, rfl, .inl (sqL hra), rfl, ?_⟩
        rw [hlen]
        have : bodyL L.wds = [] := by unfold bodyL; rw [if_pos hn]
        rw [this]
        rfl
      · rw [decide_eq_true (List.mem_append.mpr (.inr (bodyL_nil.mpr hn)))]
        have hb2 : bodyL L.wds = ("" : PySem.Str) :: parts 8 L.wds := by unfold bodyL; rw [if_neg hn]
        refine iteT ⟨_, rfl, .inl ⟨rfl, _, sqL hra⟩, ra, _, .str "", L.heads.length, .str "", rfl, rfl, sqL hra, rfl, flat_strs _, ?_, rfl, ?_, rfl, rfl⟩
        · rw [List.getElem?_map, List.getElem?_append_right (Nat.le_refl _), Nat.sub_self, hb2]
          rfl
        · intro k z hk hz
          rw [List.getElem?_map, List.getElem?_append_left hk, List.getElem?_eq_getElem hk] at hz
          cases hz
          exact beq_false_of_ne (heads_ne ok _ (List.getElem_mem hk))
    rintro σ H' ⟨rfl, rfl⟩
    -- heads = HeadRows(missing)
    refine ⟨_, rfl, fun p dx np ndx nex => ?_⟩
    have sx : Same H' (upd (upd H' dx (.own p)) p (.ins (He.ga K "HeadRows") dx [])) := fun b o e => by
      rw [upd_ne (ne_of_none e np), upd_ne (ne_of_none e ndx)]
      exact e
    refine ⟨H', p, dx, m, rfl, sx, np, upd_same, fun H1 hA => ⟨rfl, ?_⟩⟩
    refine ⟨_, rfl, (L.heads.length : Int), rfl, by omega, by omega, ?_⟩
    rw [Int.toNat_natCast]
    refine for_walk w_rng (fun i σ H2 => (∃ v5, σ = [some (.ref ra), some (.int b), some (.int m), some (.int (L.heads.length : Int)), some (.ref p), v5, none, none, none, none, none]) ∧ ∃ t c, HeadAt K H' H2 p t c ∧ Run (L.heads.drop i) t c (toldOf L)) ?_ (fun _ _ _ _ _ => trivial) ?_ ?_
    · exact ⟨⟨none, rfl⟩, [], "", hA, run_heads ok⟩
    · rintro i v σ H2 H3 hi ⟨rfl, rfl⟩ ⟨⟨v5, rfl⟩, t, c, hA2, hR⟩
      have hra2 : H3 ra = some (.lst ((L.heads ++ bodyL L.wds).map V.str)) := by
        obtain ⟨_, _, _, _, _, _, h⟩ := id hA2
        exact h.same _ _ hra
      obtain ⟨dx2, d1, d2, m2, bk, kvs, hS⟩ := id hA2
      rw [List.drop_eq_getElem_cons hi] at hR
      have hat : atI ((L.heads ++ bodyL L.wds).map V.str) (0 + (i : Int)) = some (.str L.heads[i]) := by
        rw [Int.zero_add]
        refine atI_nat ?_
        rw [List.getElem?_map, List.getElem?_append_left hi, List.getElem?_eq_getElem hi]
        rfl
      refine ⟨_, rfl, p, dx2, _, rfl, hS.ins, (by kernel_rfl), _, rfl, _, rfl, ra, _, _, _, rfl, rfl, sqL hra2, hat, _, rfl, _, rfl, _, _, rfl, rfl, _, _, rfl, rfl, ?_⟩
      generalize hrow : L.heads[i] = row at hR ⊢
      generalize hrs : L.heads.drop (i + 1) = rs at hR ⊢
      cases hR with
      | @new _ rest f _ _ _ _ e1 e2 e3 hc r =>
        exact ⟨H', p, t, f, [], row, rest, _, rfl, .inl ⟨e1, e2, e3, rfl, c, hA2⟩, hc.fe, hc.fk, hc.lr, hc.lt, hc.l0, hc.lx, hc.ls, hc.it, fun H4 hA4 => ⟨⟨_, rfl⟩, _, _, hA4, r⟩⟩
      | @more _ rest _ xs _ t0 _ e1 e2 hc r =>
        exact ⟨H', p, t0, c, xs, row, rest, _, rfl, .inr ⟨e1, e2, hA2⟩, hc.fe, hc.fk, hc.lr, hc.lt, hc.l0, hc.lx, hc.ls, hc.it, fun H4 hA4 => ⟨⟨_, rfl⟩, _, _, hA4, r⟩⟩
    rintro σ H2 ⟨⟨v5, rfl⟩, t, c, hA2, hR⟩
    rw [List.drop_length] at hR
    have et : t = toldOf L := by cases hR; rfl
    subst et
    have sG : Same H' H2 := by
      obtain ⟨_, _, _, _, _, _, h⟩ := id hA2
      exact h.same
    have hra2 := sG _ _ hra
    -- if end + 1 == len(rows)
    refine ⟨_, rfl, _, _, rfl, rfl, _, rfl, ra, _, rfl, .inl (sqL hra2), rfl, _, rfl, ?_⟩
    rw [hlen]
    -- the rows behind
    obtain ⟨n2, hn0, hn1, hn2, hn3, hn4⟩ : ∃ n2 : Nat, (bodyL L.wds).length ≠ 1 ∧ ((L.heads.length + (bodyL L.wds).length : Nat) - ((L.heads.length : Int) + 1)).toNat = n2 ∧ L.wds.take (n2 * 8) = L.wds ∧ (∀ k, k < n2 → piece 8 L.wds k ≠ []) ∧ ∀ k, k < n2 → (L.heads ++ bodyL L.wds)[L.heads.length + 1 + k]? = some (Txt.join " " (piece 8 L.wds k)) := by
      by_cases hn : L.wds = []
      · have e : bodyL L.wds = [] := by unfold bodyL; rw [if_pos hn]
        refine ⟨0, by rw [e]; decide, by rw [e, List.length_nil]; omega, by rw [hn]; rfl, fun k hk => absurd hk (by omega), fun k hk => absurd hk (by omega)⟩
      · have e : bodyL L.wds = ("" : PySem.Str) :: parts 8 L.wds := by unfold bodyL; rw [if_neg hn]
        have lp : (parts 8 L.wds).length = npiece 8 L.wds.length := by unfold parts; rw [List.length_map, List.length_range]
        have h1 : 1 ≤ L.wds.length := List.length_pos_iff.mpr hn
        have h2 := npiece_all (w := 8) (n := L.wds.length) (by decide)
        refine ⟨npiece 8 L.wds.length, ?_, ?_, List.take_of_length_le h2, fun k hk => piece_ne (by decide) hk, fun k hk => ?_⟩
        · rw [e, List.length_cons, lp]
          omega
        · rw [e, List.length_cons, lp]
          omega
        · rw [List.getElem?_append_right (by omega), e, show L.heads.length + 1 + k - L.heads.length = k + 1 by omega, List.getElem?_cons_succ]
          unfold parts
          rw [List.getElem?_map, List.getElem?_range hk]
          rfl
    rw [decide_eq_false (by intro z; injection z with z; omega)]
    refine iteF ⟨Nat.zero_le _, fun wa nwa => ?_⟩
    generalize eG : upd H2 wa _ = H3
    obtain ⟨s3, hwa⟩ := gen_upd nwa eG
    refine ⟨_, rfl, _, _, rfl, rfl, _, rfl, ra, _, rfl, .inl (sqL (s3 _ _ hra2)), _, _, rfl, ⟨by omega, by omega, by omega, by rw [hlen]; omega⟩, ?_⟩
    rw [hlen, hn1]
    refine for_walk w_rng (fun k σ H4 => (∃ v5 v8 wa, σ = [some (.ref ra), some (.int b), some (.int m), some (.int (L.heads.length : Int)), some (.ref p), v5, some (.ref wa), some (.int 0), v8, none, none] ∧ H4 wa = some (.lst ((L.wds.take (k * 8)).map V.str))) ∧ Same H2 H4) ?_ (fun _ _ _ _ _ => trivial) ?_ ?_
    · refine ⟨⟨v5, none, wa, rfl, ?_⟩, s3⟩
      rw [Nat.zero_mul, List.take_zero]
      exact hwa
    · rintro k v σ H4 H5 hk ⟨rfl, rfl⟩ ⟨⟨v5, v8, wb, rfl, hwb⟩, s5⟩
      have hra5 := s5 _ _ hra2
      have hat : atI ((L.heads ++ bodyL L.wds).map V.str) ((L.heads.length : Int) + 1 + (k : Int)) = some (.str (Txt.join " " (piece 8 L.wds k))) := by
        have e : ((L.heads.length : Int) + 1 + (k : Int)) = ((L.heads.length + 1 + k : Nat) : Int) := by omega
        rw [e]
        refine atI_nat ?_
        rw [List.getElem?_map, hn4 k hk]
        rfl
      have hpi : ∀ x ∈ piece 8 L.wds k, Itm x := fun x hx => itm_name (ok.wn x (piece_mem hx))
      have hsp := split_items (hn3 k hk) hpi
      have hpl := piece_len 8 L.wds k
      have hjl : (Txt.join " " (piece 8 L.wds k)).length ≤ 40 * (31 + 10) := join_len (by decide +kernel) (by omega) fun x hx => (itm_len (hpi x hx)).2
      refine ⟨_, rfl, _, rfl, ra, _, _, _, rfl, rfl, sqL hra5, hat, ⟨_, rfl⟩, _, _, rfl, rfl, z1, sz_le (by omega), ?_⟩
      rw [hsp]
      intro fa nfa
      generalize eG6 : upd H5 fa _ = H6
      obtain ⟨s6, hfa⟩ := gen_upd nfa eG6
      refine ⟨_, rfl, fa, rfl, ⟨_, sqL hfa⟩, fun D hD => ?_⟩
      refine lc_pure (w_list (xs := (piece 8 L.wds k).map V.str)) (fun i => some (.bl (isName ((piece 8 L.wds k).getD i "")))) hD (fun H' s3 => sqL (s3 _ _ hfa)) (fun i v H H' r => by obtain ⟨e, _⟩ := r; rw [e]; exact Same.refl _) ?_ ?_
      · rintro i v Ha Hb hi2 ⟨rfl, hc⟩ s7 s8 hL
        obtain ⟨rfl, hm, hi3⟩ := map_at ("" : PySem.Str) hc
        have := (itm_len (hpi _ hm)).2
        exact ⟨rfl, tyes ⟨_, rfl, _, rfl, by omega, fun H9 s9 => lcT hD (s7.trans s9) (by omega) (s9 _ _ hL) rfl⟩⟩
      intro H7 s7 hL
      rw [List.length_map, kept_list (f := fun x => V.bl (isName x))] at hL
      refine ⟨D, (piece 8 L.wds k).map fun x => isName x, rfl, sqL (by rw [hL, List.map_map]; rfl), _, rfl, ?_⟩
      rw [all_kept fun x hx => ok.wn x (piece_mem hx)]
      refine iteF ⟨_, rfl, _, rfl, wb, fa, _, _, rfl, rfl, s7 _ _ (s6 _ _ hwb), s7 _ _ hfa, sz_le (by rw [List.length_map, List.length_map, List.length_take]; omega), fun wc nwc => ?_⟩
      rw [← List.map_append, take_piece]
      generalize eG8 : upd H7 wc _ = H8
      obtain ⟨s8, hwc⟩ := gen_upd nwc eG8
      refine ⟨_, rfl, wc, _, rfl, .inl (sqL hwc), He.ga K "Letter", .type "type", .int 40, u2, rfl, W.r_Letter, v2, _, _, rfl, rfl, _, rfl, ?_⟩
      rw [decide_eq_false (by rw [List.length_map, List.length_take]; omega)]
      exact iteF (iteF ⟨⟨_, _, wc, rfl, hwc⟩, ((s5.trans s6).trans s7).trans s8⟩)
    rintro σ H4 ⟨⟨v5, v8, wb, rfl, hwb⟩, s4⟩
    rw [hn2] at hwb
    have hA4 := hA2.mono s4
    obtain ⟨dx2, d1, d2, m2, bk, kvs, hS⟩ := id hA4
    refine ⟨_, rfl, p, dx2, _, rfl, hS.ins, (by kernel_rfl), _, rfl, He.ga K "Letter", .type "type", .int 40, u2, rfl, W.r_Letter, v2, 40, rfl, wb, _, rfl, sqL hwb, fun wc nwc => ?_⟩
    rw [cut_to40 (by rw [List.length_map]; exact hw)]
    generalize eG5 : upd H4 wc _ = H5
    obtain ⟨s5, hwc⟩ := gen_upd nwc eG5
    refine ⟨H', p, wc, toldOf L, c, L, rfl, hA4.mono s5, read_heads L, ok, hwc, fun H6 r s6 nr hr2 => ?_⟩
    refine ⟨_, rfl, _, _, rfl, rfl, _, rfl, iteF ⟨_, rfl, ?_⟩⟩
    have sg := (sG.trans s4).trans s5
    exact q H6 r (sg.trans s6) (sg.free nr) hr2
end
end K75
end T_A8

section T_M2
set_option Elab.async false
set_option linter.all false
set_option maxRecDepth 100000
set_option maxHeartbeats 4000000
namespace K75
open PySem PySem.Spec PyProof.Rows L2 TL
/-- all but the lists is as it was -/
def SameN (H H' : Hp) : Prop := ∀ b o, H b = some o → (∀ xs, o ≠ .lst xs) → H' b = some o
theorem SameN.of {H H' : Hp} (s : Same H H') : SameN H H' := fun b o h _ => s b o h
theorem SameN.trans {H H1 H2 : Hp} (a : SameN H H1) (b : SameN H1 H2) : SameN H H2 := fun c o h n => b c o (a c o h n) n
theorem SameN.upd {H : Hp} {a : Addr} {xs : List V} {o : HO} (h : H a = some (.lst xs)) : SameN H (upd H a o) := fun b u e n => by
  rw [upd_ne (fun q : b = a => by rw [q, h] at e; cases e; exact n xs rfl)]
  exact e
theorem LetterAt.monoN {K : PySem.W.Frag} {H H' : Hp} {a : Addr} {L : Lt} (h : LetterAt K H a L) (s : SameN H H') : LetterAt K H' a L := by
  obtain ⟨dx, t1, t2, t3, h1, h2, h3, h4⟩ := h
  exact ⟨dx, t1, t2, t3, s _ _ h1 (by intro xs z; cases z), s _ _ h2 (by intro xs z; cases z), s _ _ h3 (by intro xs z; cases z), s _ _ h4 (by intro xs z; cases z)⟩
theorem lettersN {K : PySem.W.Frag} {H H' : Hp} {as : List Addr} {Ls : List Lt} (h : LettersAt K H as Ls) (s : SameN H H') : LettersAt K H' as Ls := paired_mono h fun _ _ z => z.monoN s
/-- the rows of a letter; of letters -/
def Lt.rows (L : Lt) : List PySem.Str := L.heads ++ bodyL L.wds
def allRows : List Lt → List PySem.Str
  | [] => []
  | [L] => L.rows
  | L :: M :: r => L.rows ++ ("===" : PySem.Str) :: allRows (M :: r)
inductive Rem : List PySem.Str → List PySem.Str → List Lt → Prop where
  | stop {L : Lt} : L.Ok → Rem [] L.rows [L]
  | row {r : PySem.Str} {rs part : List PySem.Str} {Ls : List Lt} : r ≠ "===" → Rem rs (part ++ [r]) Ls → Rem (r :: rs) part Ls
  | cut {rs : List PySem.Str} {L : Lt} {Ls : List Lt} : L.Ok → Rem rs [] Ls → Rem (("===" : PySem.Str) :: rs) L.rows (L :: Ls)
theorem Rem.rows {rs : List PySem.Str} {Ls : List Lt} : ∀ (xs part : List PySem.Str), (∀ x ∈ xs, x ≠ "===") → Rem rs (part ++ xs) Ls → Rem (xs ++ rs) part Ls
  | [], part, _, h => by
    rw [List.append_nil] at h
    exact h
  | x :: xs, part, hx, h => .row (hx x List.mem_cons_self) (Rem.rows xs (part ++ [x]) (fun y hy => hx y (List.mem_cons_of_mem _ hy)) (by rw [List.append_assoc]; exact h))
/-- the signs that a row bears: none of them ends a row or parts letters -/
def Plain1 (x : PySem.Str) : Prop := 10 ∉ tl x ∧ 61 ∉ tl x
theorem plain_join {xs : List PySem.Str} (h : ∀ x ∈ xs, Plain1 x) : Plain1 (Txt.join " " xs) := by
  rw [join_eq]
  induction xs with
  | nil => exact ⟨by decide +kernel, by decide +kernel⟩
  | cons x r ih =>
    have h1 := h x List.mem_cons_self
    cases r with
    | nil => exact h1
    | cons y r =>
      have h2 := ih fun z hz => h z (List.mem_cons_of_mem _ hz)
      have e : tl (Str.join " " (x :: y :: r)) = tl x ++ [32] ++ tl (Str.join " " (y :: r)) := by
        show tl (x ++ " " ++ Str.join " " (y :: r)) = _
        rw [tl_append, tl_append, tl_sp]
      unfold Plain1
      rw [e]
      simp only [List.mem_append, List.mem_singleton, not_or]
      exact ⟨⟨⟨h1.1, by decide⟩, h2.1⟩, ⟨h1.2, by decide⟩, h2.2⟩
theorem plain_app {x y : PySem.Str} (h1 : Plain1 x) (h2 : Plain1 y) : Plain1 (x ++ y) := by
  unfold Plain1
  rw [tl_append]
  simp only [List.mem_append, not_or]
  exact ⟨⟨h1.1, h2.1⟩, h1.2, h2.2⟩
theorem plain_itm {x : PySem.Str} (h : Itm x) : Plain1 x := ⟨itm_free h (by omega), itm_free h (by omega)⟩
theorem plain_wrap {lead : PySem.Str} {w : Nat} {xs : List PySem.Str} (hl : Plain1 lead) (h : ∀ x ∈ xs, Itm x) : ∀ x ∈ wrapL lead w xs, Plain1 x := by
  intro x hx
  obtain ⟨k, _, rfl⟩ := List.mem_map.mp hx
  refine plain_app ?_ (plain_join fun y hy => plain_itm (h y (piece_mem hy)))
  split
  · exact hl
  · exact ⟨by decide +kernel, by decide +kernel⟩
theorem rows_plain {L : Lt} (ok : L.Ok) : ∀ x ∈ L.rows, Plain1 x := by
  intro x hx
  unfold Lt.rows at hx
  rcases List.mem_append.mp hx with hx | hx
  · unfold Lt.heads at hx
    rcases List.mem_append.mp hx with hx | hx
    · rcases List.mem_append.mp hx with hx | hx
      · rcases List.mem_cons.mp hx with rfl | hx
        · exact plain_app ⟨by decide +kernel, by decide +kernel⟩ (plain_itm (itm_num ok.n))
        · rw [List.mem_singleton.mp hx]
          refine plain_app ⟨by decide +kernel, by decide +kernel⟩ ?_
          rw [sender_join]
          refine plain_join fun y hy => ?_
          rcases List.mem_cons.mp hy with rfl | hy
          · exact plain_itm (itm_name ok.p)
          · rcases List.mem_cons.mp hy with rfl | hy
            · exact plain_itm itm_at
            · rw [List.mem_singleton.mp hy]
              exact plain_itm (itm_name ok.h)
      · refine plain_wrap ⟨by decide +kernel, by decide +kernel⟩ (fun y hy => ?_) x hx
        obtain ⟨z, hz, rfl⟩ := List.mem_map.mp hy
        exact itm_num (ok.an z hz)
    · exact plain_wrap ⟨by decide +kernel, by decide +kernel⟩ (fun y hy => itm_name (ok.sn y hy)) x hx
  · unfold bodyL at hx
    split at hx
    · cases hx
    · rcases List.mem_cons.mp hx with rfl | hx
      · exact ⟨by decide +kernel, by decide +kernel⟩
      · obtain ⟨k, _, rfl⟩ := List.mem_map.mp hx
        exact plain_join fun y hy => plain_itm (itm_name (ok.wn y (piece_mem hy)))
theorem plain_ne {x : PySem.Str} (h : Plain1 x) : x ≠ "===" := by
  rintro rfl
  exact h.2 (by decide +kernel)
theorem rem_all : ∀ Ls : List Lt, Ls ≠ [] → (∀ L ∈ Ls, L.Ok) → Rem (allRows Ls) [] Ls
  | [], h, _ => absurd rfl h
  | [L], _, ok => by
    have o := ok L List.mem_cons_self
    have := Rem.rows (rs := []) (Ls := [L]) L.rows [] (fun x hx => plain_ne (rows_plain o x hx)) (.stop o)
    rw [List.append_nil] at this
    exact this
  | L :: M :: r, _, ok => by
    have o := ok L List.mem_cons_self
    exact Rem.rows (rs := ("===" : PySem.Str) :: allRows (M :: r)) L.rows [] (fun x hx => plain_ne (rows_plain o x hx)) (.cut o (rem_all (M :: r) (List.cons_ne_nil _ _) fun N hN => ok N (List.mem_cons_of_mem _ hN)))
def sepL : PySem.Str := Str.empty ++ "\n" ++ "===" ++ "\n"
theorem rows_ne (L : Lt) : L.rows ≠ [] := by
  unfold Lt.rows Lt.heads
  intro e
  have := congrArg List.length e
  simp at this
theorem join_apart : ∀ (xs ys : List PySem.Str), xs ≠ [] → ys ≠ [] → Str.join "\n" (xs ++ ys) = Str.join "\n" xs ++ "\n" ++ Str.join "\n" ys
  | [], _, h, _ => absurd rfl h
  | [x], y :: ys, _, _ => rfl
  | x :: x2 :: xs, ys, _, h => by
    have := join_apart (x2 :: xs) ys (List.cons_ne_nil _ _) h
    show x ++ "\n" ++ Str.join "\n" ((x2 :: xs) ++ ys) = x ++ "\n" ++ Str.join "\n" (x2 :: xs) ++ "\n" ++ Str.join "\n" ys
    rw [this]
    simp only [Str.append_assoc]
theorem allRows_ne : ∀ Ls : List Lt, Ls ≠ [] → allRows Ls ≠ []
  | [], h => absurd rfl h
  | [L], _ => rows_ne L
  | L :: M :: r, _ => by
    unfold allRows
    intro e
    exact rows_ne L (List.append_eq_nil_iff.mp e).1
theorem text_all : ∀ Ls : List Lt, Ls ≠ [] → Str.join sepL (Ls.map Lt.text) = Str.join "\n" (allRows Ls)
  | [], h => absurd rfl h
  | [L], _ => by
    show L.text = Str.join "\n" L.rows
    unfold Lt.text
    rw [join_eq]
    rfl
  | L :: M :: r, _ => by
    have ih := text_all (M :: r) (List.cons_ne_nil _ _)
    show L.text ++ sepL ++ Str.join sepL ((M :: r).map Lt.text) = Str.join "\n" (L.rows ++ ("===" : PySem.Str) :: allRows (M :: r))
    rw [ih, join_apart _ _ (rows_ne L) (List.cons_ne_nil _ _)]
    have e : Str.join "\n" (("===" : PySem.Str) :: allRows (M :: r)) = "===" ++ "\n" ++ Str.join "\n" (allRows (M :: r)) := by
      have := join_apart [("===" : PySem.Str)] (allRows (M :: r)) (List.cons_ne_nil _ _) (allRows_ne _ (List.cons_ne_nil _ _))
      exact this
    rw [e]
    have e2 : L.text = Str.join "\n" L.rows := by
      unfold Lt.text
      rw [join_eq]
      rfl
    rw [e2]
    unfold sepL
    rw [Str.empty_append]
    simp only [Str.append_assoc]
theorem all_plain : ∀ Ls : List Lt, (∀ L ∈ Ls, L.Ok) → ∀ x ∈ allRows Ls, 10 ∉ tl x
  | [], _, x, h => by cases h
  | [L], ok, x, h => (rows_plain (ok L List.mem_cons_self) x h).1
  | L :: M :: r, ok, x, h => by
    unfold allRows at h
    rcases List.mem_append.mp h with h | h
    · exact (rows_plain (ok L List.mem_cons_self) x h).1
    · rcases List.mem_cons.mp h with rfl | h
      · decide +kernel
      · exact all_plain (M :: r) (fun N hN => ok N (List.mem_cons_of_mem _ hN)) x h
theorem split_all {Ls : List Lt} (hne : Ls ≠ []) (ok : ∀ L ∈ Ls, L.Ok) : Txt.split (Txt.join sepL (Ls.map Lt.text)) "\n" = allRows Ls := by
  have h := split_join (S := []) tl_nl (by decide +kernel) (allRows_ne Ls hne) (all_plain Ls ok)
  rw [join_eq] at h ⊢
  rw [text_all Ls hne]
  exact h
theorem rows_len {L : Lt} (ok : L.Ok) : L.rows.length ≤ 60 := by
  have := heads_len ok
  have := bodyL_len L.wds
  have := ok.w40
  unfold Lt.rows
  rw [List.length_append]
  omega
theorem all_len : ∀ Ls : List Lt, (∀ L ∈ Ls, L.Ok) → (allRows Ls).length ≤ Ls.length * 61
  | [], _ => Nat.le_refl _
  | [L], ok => by
    have := rows_len (ok L List.mem_cons_self)
    show L.rows.length ≤ _
    simp
    omega
  | L :: M :: r, ok => by
    have h1 := rows_len (ok L List.mem_cons_self)
    have h2 := all_len (M :: r) fun N hN => ok N (List.mem_cons_of_mem _ hN)
    unfold allRows
    rw [List.length_append, List.length_cons]
    simp only [List.length_cons] at h2 ⊢
    omega
end K75
end T_M2

section T_A9
set_option Elab.async false
set_option linter.all false
set_option maxRecDepth 100000
set_option maxHeartbeats 4000000
namespace K75
open PySem PySem.Spec PyProof.Rows L2 TL
def sp_read_letters (K : PySem.W.Frag) : Sp := fun vs H Q _ => ∃ (x : PySem.Str) (Ls : List Lt), vs = [.str x] ∧ x = Txt.join sepL (Ls.map Lt.text) ∧ Ls ≠ [] ∧ (∀ L ∈ Ls, L.Ok) ∧ Ls.length ≤ 100 ∧ x.length ≤ 10000000 ∧
  ∀ H' q as, Same H H' → H q = none → H' q = some (.lst (as.map V.ref)) → LettersAt K H' as Ls → Q (.ref q) H'
theorem text_ne {Ls : List Lt} (hne : Ls ≠ []) : Txt.join sepL (Ls.map Lt.text) ≠ "" := by
  rw [join_eq, text_all Ls hne]
  cases Ls with
  | nil => exact absurd rfl hne
  | cons L r =>
    have hr : ∃ ys, allRows (L :: r) = (Str.empty ++ "number: " ++ numS L.n) :: ys := by
      cases r with
      | nil => exact ⟨_, rfl⟩
      | cons M r => exact ⟨_, rfl⟩
    obtain ⟨ys, e⟩ := hr
    rw [e]
    intro h
    have h2 := congrArg Str.length h
    have z : (Str.empty ++ "number: " : PySem.Str).length = 8 := by decide +kernel
    have z0 : ("" : PySem.Str).length = 0 := by decide +kernel
    cases ys with
    | nil =>
      have h3 : (Str.empty ++ "number: " ++ numS L.n : PySem.Str).length = 0 := h2.trans z0
      rw [str_len_app, z] at h3
      omega
    | cons y ys =>
      have h3 : (Str.empty ++ "number: " ++ numS L.n ++ "\n" ++ Str.join "\n" (y :: ys) : PySem.Str).length = 0 := h2.trans z0
      rw [str_len_app, str_len_app, str_len_app, z] at h3
      omega
section
variable {P : Program} {w : World} {K : PySem.W.Frag} {mg : PySem.Str → Option Value} {base : Heap}
abbrev sc_read_letters_N : List PySem.Str := ["text", "letters", "part", "before", "rows", "at", "row"]
theorem sc_read_letters : FnScope sc_read_letters_N ["text"] (defScope s_read_letters) := ⟨rfl, rfl, rfl, by decide +kernel, rfl, by decide +kernel, by decide +kernel⟩
theorem ok_read_letters (W : Wd K mg) : Ok P w K mg base 7 d_read_letters ["text"] (sp_read_letters K) := by
  refine ok_mk W.d_read_letters sc_read_letters (fun _ _ _ _ _ _ us hl => match us, hl with | [_], _ => rfl) (fun vs H Q E h => ?_) (fun cdv A outer s H vs Q E hr h => ?_)
  · obtain ⟨x, Ls, rfl, _⟩ := h
    rfl
  · obtain ⟨x, Ls, rfl, hx, hne, ok, hl, hz, q⟩ := h
    have hu := hu_of hr
    have nd := sc_read_letters.nd
    have z1 : (("\n" : PySem.Str).length == 0) = false := by decide +kernel
    have hsp := split_all hne ok
    rw [← hx] at hsp
    have hal := all_len Ls ok
    refine ⟨_, (pss_cons (ps_if (pt_cmpR op_eq (pv 0) pe_str (nomark _))
      (pss_one (ps_ret (pe_lst pa_nil)))
      pss_nil)
    (pss_cons (ps_set (i := 1) nd rfl (Or.inl rfl) (pe_lst pa_nil))
    (pss_cons (ps_set (i := 2) nd rfl (Or.inl rfl) (pe_lst pa_nil))
    (pss_cons (ps_set (i := 3) nd rfl (Or.inl rfl) pe_int)
    (pss_cons (ps_set (i := 4) nd rfl (Or.inl rfl) (pe_split (pv 0) pe_str))
    (pss_cons (ps_for PassesOwn.never rfl (pi_enum rfl W.f_enumerate (pa_cons (pv 4) pa_nil)) (pg_tup rfl (pgs_cons (pg_name (i := 5) nd rfl (Or.inl rfl)) (pgs_cons (pg_name (i := 6) nd rfl (Or.inl rfl)) pgs_nil)))
      (pss_one (ps_if (pt_cmpR op_eq (pv 6) (pe_gs rfl W.s_BETWEEN) (nomark _))
        (pss_cons (ps_expr (kbm K PySem.F.plainAttrs_list PySem.F.slot_list_append PySem.F.type_list_append mt_append (pv 1) (pa_cons (pe_f (ok_read_part W) (hr.mono (by decide)) rfl W.g_read_part (pa_cons (pv 2) (pa_cons (pv 3) (pa_cons (pe_op op_add (pv 3) pe_int) pa_nil)))) pa_nil)))
        (pss_cons (ps_set (i := 2) nd rfl (Or.inl rfl) (pe_lst pa_nil))
        (pss_one (ps_set (i := 3) nd rfl (Or.inl rfl) (pe_op op_add (pv 5) pe_int)))))
        (pss_one (ps_set (i := 2) nd rfl (Or.inl rfl) (pe_op op_cat (pv 2) (pe_lst (pa_cons (pv 6) pa_nil))))))))
    (pss_cons (ps_expr (kbm K PySem.F.plainAttrs_list PySem.F.slot_list_append PySem.F.type_list_append mt_append (pv 1) (pa_cons (pe_f (ok_read_part W) (hr.mono (by decide)) rfl W.g_read_part (pa_cons (pv 2) (pa_cons (pv 3) (pa_cons (pe_op op_add (pv 3) pe_int) pa_nil)))) pa_nil)))
    (pss_one (ps_ret (pv 1)))))))))), ?_⟩
    refine ⟨_, rfl, rfl, _, rfl, ?_⟩
    rw [decide_eq_false (by intro z; injection z with z; exact text_ne hne (hx ▸ z))]
    refine iteF ⟨Nat.zero_le _, fun la nla => ?_⟩
    generalize e1 : upd H la _ = H1
    obtain ⟨s1, hla⟩ := gen_upd nla e1
    refine ⟨Nat.zero_le _, fun pa npa => ?_⟩
    generalize e2 : upd H1 pa _ = H2
    obtain ⟨s2, hpa⟩ := gen_upd npa e2
    have hla2 := s2 _ _ hla
    refine ⟨_, rfl, ⟨_, rfl⟩, _, _, rfl, rfl, z1, Nat.le_trans (by omega : _ ≤ 10000002) (by decide), ?_⟩
    rw [hsp]
    intro ra nra
    generalize e3 : upd H2 ra _ = H3
    obtain ⟨s3, hra⟩ := gen_upd nra e3
    have hla3 := s3 _ _ hla2
    have hlr : la ≠ ra := ne_of_none hla2 nra
    have hlp : la ≠ pa := ne_of_none hla npa
    have g3 : Same H H3 := (s1.trans s2).trans s3
    refine ⟨_, rfl, ra, _, rfl, sqL hra, ?_⟩
    refine for_walk (w_enum (xs := (allRows Ls).map V.str)) (fun i σ H' => ∃ (v5 v6 : Option V) (pa : Addr) (bf : Int) (part : List PySem.Str) (done rest : List Lt) (as : List Addr), σ = [some (.str x), some (.ref la), some (.ref pa), some (.int bf), some (.ref ra), v5, v6] ∧ Same H H' ∧
      H' ra = some (.lst ((allRows Ls).map V.str)) ∧ H' la = some (.lst (as.map V.ref)) ∧ la ≠ pa ∧ H' pa = some (.lst (part.map V.str)) ∧ LettersAt K H' as done ∧ Ls = done ++ rest ∧ Rem ((allRows Ls).drop i) part rest ∧ part.length ≤ i) ?_ (fun i σ H' _ p => ?_) ?_ ?_
    · exact ⟨none, none, pa, 0, [], [], Ls, [], rfl, g3, hra, hla3, hlp, s3 _ _ hpa, .nil, rfl, rem_all Ls hne ok, Nat.le_refl _⟩
    · obtain ⟨_, _, _, _, _, _, _, _, _, _, h, _⟩ := p
      exact sqL h
    · rintro i v σ H4 H5 hi ⟨T, y, rfl, hT, rfl, hy⟩ ⟨v5, v6, pa, bf, part, done, rest, as, rfl, g4, hra4, hla4, hlp4, hpa4, hAs, hE, hR, hpl⟩
      rw [List.length_map] at hi
      rw [List.getElem?_map, List.getElem?_eq_getElem hi] at hy
      cases hy
      rw [List.drop_eq_getElem_cons hi] at hR
      generalize eH5 : upd H4 T _ = H5
      obtain ⟨s5, hT5⟩ := gen_upd hT eH5
      refine ⟨T, _, rfl, sqT hT5, rfl, _, _, rfl, _, _, rfl, rfl, ?_⟩
      have g5 := g4.trans s5
      have hra5 := s5 _ _ hra4
      have hla5 := s5 _ _ hla4
      have hpa5 := s5 _ _ hpa4
      have hAs5 : LettersAt K H5 as done := paired_mono hAs fun _ _ z => z.mono s5
      refine ⟨_, rfl, rfl, _, rfl, ?_⟩
      have las : as.length = done.length := Paired.length hAs
      have hil : done.length ≤ 100 := by
        have := congrArg List.length hE
        rw [List.length_append] at this
        omega
      generalize hrow : (allRows Ls)[i] = row at hR ⊢
      generalize hrs : (allRows Ls).drop (i + 1) = rs at hR ⊢
      cases hR with
      | row hr r =>
        rw [decide_eq_false (by intro z; injection z with z; exact hr z)]
        refine iteF ⟨_, rfl, _, rfl, sz_le (by show 1 ≤ 100000; decide), fun p1 np1 => ?_⟩
        generalize eH6 : upd H5 p1 _ = H6
        obtain ⟨s6, h6⟩ := gen_upd np1 eH6
        refine ⟨pa, p1, _, _, rfl, rfl, s6 _ _ hpa5, h6, sz_le (by rw [List.length_map]; show _ + 1 ≤ 100000; omega), fun p2 np2 => ?_⟩
        generalize eH7 : upd H6 p2 _ = H7
        obtain ⟨s7, h7⟩ := gen_upd np2 eH7
        have s57 := s6.trans s7
        refine ⟨_, _, p2, bf, part ++ [row], done, rest, as, rfl, g5.trans s57, s57 _ _ hra5, s57 _ _ hla5, ?_, ?_, paired_mono hAs5 fun _ _ z => z.mono s57, hE, r, ?_⟩
        · exact ne_of_none (s6 _ _ hla5) np2
        · rw [h7, List.map_append]
          rfl
        · rw [List.length_append]
          show _ + 1 ≤ _
          omega
      | @cut _ L Lr okL r =>
        rw [decide_eq_true rfl]
        refine iteT ⟨_, rfl, .inl ⟨rfl, _, sqL hla5⟩, _, rfl, _, rfl, _, rfl, _, _, rfl, rfl, pa, L, _, _, rfl, okL, hpa5, fun H6 q6 s6 nq6 hq6 => ?_⟩
        refine ⟨la, _, _, rfl, rfl, s6 _ _ hla5, sz_lt (by rw [List.length_map]; omega), ?_⟩
        generalize eH7 : upd H6 la _ = H7
        obtain ⟨h7, k7⟩ := gen_mut eH7
        have n7 : SameN H6 H7 := by rw [← eH7]; exact SameN.upd (s6 _ _ hla5)
        refine ⟨Nat.zero_le _, fun p2 np2 => ?_⟩
        generalize eH8 : upd H7 p2 _ = H8
        obtain ⟨s8, h8⟩ := gen_upd np2 eH8
        refine ⟨_, rfl, _, _, rfl, rfl, ?_⟩
        have g7 : Same H H7 := by rw [← eH7]; exact same_mut (g5.trans s6) nla
        refine ⟨_, _, p2, _, [], done ++ [L], Lr, as ++ [q6], rfl, g7.trans s8, s8 _ _ ((k7 _ hlr.symm).trans (s6 _ _ hra5)), ?_, ne_of_none h7 np2, h8, ?_, ?_, r, Nat.zero_le _⟩
        · rw [s8 _ _ h7, List.map_append]
          rfl
        · exact lettersN (paired_app (lettersN hAs5 (SameN.of s6)) (.cons hq6 .nil)) (n7.trans (SameN.of s8))
        · rw [hE, List.append_assoc]
          rfl
    · rintro σ H4 ⟨v5, v6, pa, bf, part, done, rest, as, rfl, g4, hra4, hla4, hlp4, hpa4, hAs, hE, hR, hpl⟩
      rw [List.length_map, List.drop_length] at hR
      have las : as.length = done.length := Paired.length hAs
      have hil : done.length ≤ 100 := by
        have := congrArg List.length hE
        rw [List.length_append] at this
        omega
      cases hR with
      | @stop L okL =>
        refine ⟨_, rfl, .inl ⟨rfl, _, sqL hla4⟩, _, rfl, _, rfl, _, rfl, _, _, rfl, rfl, pa, L, _, _, rfl, okL, hpa4, fun H6 q6 s6 nq6 hq6 => ?_⟩
        refine ⟨la, _, _, rfl, rfl, s6 _ _ hla4, sz_lt (by rw [List.length_map]; omega), ?_⟩
        generalize eH7 : upd H6 la _ = H7
        obtain ⟨h7, k7⟩ := gen_mut eH7
        have n7 : SameN H6 H7 := by rw [← eH7]; exact SameN.upd (s6 _ _ hla4)
        have g7 : Same H H7 := by rw [← eH7]; exact same_mut (g4.trans s6) nla
        refine ⟨_, rfl, q H7 la (as ++ [q6]) g7 nla ?_ ?_⟩
        · rw [h7, List.map_append]
          rfl
        · rw [hE]
          exact lettersN (paired_app (lettersN hAs (SameN.of s6)) (.cons hq6 .nil)) n7
end
end K75
end T_A9

section T_B1
set_option Elab.async false
set_option linter.all false
set_option maxRecDepth 100000
set_option maxHeartbeats 4000000
namespace K75
open PySem PySem.Spec PyProof.Rows L2 TL
theorem hu64 {A : Around} {k : Nat} (hr : Room k A) : A.units + 64 < cLine := by
  have := hr.un
  omega
/-- the law's bag: what it holds, and how often it was asked at most -/
def Bag (H : Hp) (b : Addr) (c : Int) : Prop := ∃ d m k : Int, H b = some (.lst [.int d, .int m, .int k]) ∧ 0 ≤ d ∧ 0 ≤ m ∧ m < 11529215046100000000 ∧ 0 ≤ k ∧ k ≤ c
theorem Bag.le {H : Hp} {b : Addr} {c c' : Int} (h : Bag H b c) (hc : c ≤ c') : Bag H b c' := by
  obtain ⟨d, m, k, h1, h2, h3, h4, h5, h6⟩ := h
  exact ⟨d, m, k, h1, h2, h3, h4, h5, by omega⟩
theorem Bag.mono {H H' : Hp} {b : Addr} {c : Int} (h : Bag H b c) (s : Same H H') : Bag H' b c := by
  obtain ⟨d, m, k, h1, h2⟩ := h
  exact ⟨d, m, k, s _ _ h1, h2⟩
theorem SameX.free {b : Addr} {H H' : Hp} {c : Int} {l : Addr} (s : SameX [b] H H') (h : Bag H' b c) (hl : H' l = none) : H l = none := by
  obtain ⟨d, m, k, h1, _⟩ := h
  cases q : H l with
  | none => rfl
  | some o =>
    have hb : l ≠ b := fun e => by rw [e, h1] at hl; cases hl
    rw [s l o (by simpa using hb) q] at hl
    cases hl
theorem SameX.at {b a : Addr} {H H' : Hp} {o : HO} (s : SameX [b] H H') (h : H a = some o) (hb : a ≠ b) : H' a = some o := s a o (by simpa using hb) h
def sp_L_bag (K : PySem.W.Frag) : Sp := fun vs H Q _ => ∃ (a : Addr) (ns : List Int) (i : Nat), vs = [.ref a, .int (i : Int)] ∧ SqL K H a (ns.map V.int) ∧ i ≤ 2 ∧ ∀ H' b, Same H H' → H b = none → Bag H' b 0 → Q (.ref b) H'
def sp_L_take : Sp := fun vs H Q _ => ∃ (b : Addr) (c m : Int), vs = [.ref b, .int m] ∧ 0 < m ∧ m ≤ 10 ^ 30 ∧ Bag H b c ∧ c ≤ 100000 ∧ ∀ n H', 0 ≤ n → n < m → SameX [b] H H' → Bag H' b (c + 1) → Q (.int n) H'
section
variable {P : Program} {w : World} {K : PySem.W.Frag} {mg : PySem.Str → Option Value} {base : Heap}
abbrev sc_L_bag_N : List PySem.Str := ["_law_script", "_law_at", "_law_cell", "_law_digits"]
theorem sc_L_bag : FnScope sc_L_bag_N ["_law_script", "_law_at"] (defScope s_L_bag) := ⟨rfl, rfl, rfl, by decide +kernel, rfl, by decide +kernel, by decide +kernel⟩
theorem ok_L_bag (W : Wd K mg) : Ok P w K mg base 1 d_L_bag ["_law_script", "_law_at"] (sp_L_bag K) := by
  refine ok_mk W.d_L_bag sc_L_bag (fun _ _ _ _ _ _ us hl => match us, hl with | [_, _], _ => rfl) (fun vs H Q E h => ?_) (fun cdv A outer s H vs Q E hr h => ?_)
  · obtain ⟨a, ns, i, rfl, _⟩ := h
    rfl
  · obtain ⟨a, ns, i, rfl, ha, hi, q⟩ := h
    have hu := hu_of hr
    have nd := sc_L_bag.nd
    refine ⟨_, (Evl.pss_cut (ps_set (i := 2) nd rfl (Or.inl rfl) (pe_ifExp (pt_cmpR op_lt (pv 1) (pe_callB (klen_seq K) rfl W.f_len PySem.boot_len (pa_cons (pv 0) pa_nil)) (nomark _)) (pe_ix (kix_list K) (pv 0) (pv 1) (fun _ _ => rfl)) pe_int))
    (Evl.pss_cut (ps_set (i := 3) nd rfl (Or.inl rfl) (pe_ifExp (pt_cmpR op_ge (pe_callB call_abs rfl W.f_abs (by decide +kernel) (pa_cons (pv 2) pa_nil)) (pe_op op_pow pe_int pe_int) (nomark _)) (pe_callB call_abs rfl W.f_abs (by decide +kernel) (pa_cons (pv 2) pa_nil)) pe_int))
    (pss_one (ps_ret (pe_lst (pa_cons (pv 3) (pa_cons (pe_op op_add (pe_op op_add (pe_op op_mul (pe_op op_mod (pe_callTy call_int1 rfl W.f_int (by decide +kernel) (pa_cons (pv 2) pa_nil)) pe_int) pe_int) (pe_op op_mul pe_int (pv 1))) pe_int) (pa_cons pe_int pa_nil)))))))), ?_⟩
    refine ⟨fun σ H' => ∃ c : Int, σ = [some (.ref a), some (.int (i : Int)), some (.int c), none] ∧ H' = H, ?_, ?_⟩
    · refine ⟨_, rfl, _, rfl, a, _, rfl, .inl ha, _, _, rfl, rfl, _, rfl, ?_⟩
      rw [List.length_map]
      by_cases h : (i : Int) < (ns.length : Int)
      · rw [decide_eq_true h]
        refine iteT ⟨_, rfl, _, rfl, a, _, _, .int (ns.getD i 0), rfl, rfl, ha, atI_nat ?_, ⟨_, rfl, rfl⟩⟩
        rw [List.getElem?_map, List.getElem?_eq_getElem (by omega)]
        simp [List.getD, List.getElem?_eq_getElem (by omega : i < ns.length)]
      · rw [decide_eq_false h]
        exact iteF ⟨_, rfl, rfl⟩
    rintro σ H1 ⟨c, rfl, rfl⟩
    refine ⟨fun σ H' => ∃ c d : Int, 0 ≤ d ∧ σ = [some (.ref a), some (.int (i : Int)), some (.int c), some (.int d)] ∧ H' = H1, ?_, ?_⟩
    · refine ⟨_, rfl, _, rfl, _, _, rfl, rfl, ⟨by decide, by decide, by decide⟩, _, _, rfl, rfl, _, rfl, ?_⟩
      by_cases h : (10 : Int) ^ (18 : Int).toNat ≤ (if c < 0 then -c else c)
      · rw [decide_eq_true h]
        exact iteT ⟨_, rfl, _, rfl, c, _, by split <;> omega, rfl, rfl⟩
      · rw [decide_eq_false h]
        exact iteF ⟨c, 0, Int.le_refl _, rfl, rfl⟩
    rintro σ H2 ⟨c, d, d0, rfl, rfl⟩
    have m1 := Int.emod_nonneg c (b := 2305843009213693951) (by decide)
    have m2 := Int.emod_lt_of_pos c (b := 2305843009213693951) (by decide)
    refine ⟨_, rfl, _, rfl, .inl ⟨c, rfl, c, _, rfl, rfl, (by show (0 : Int) < 2305843009213693951; decide), _, _, rfl, rfl, .inr ⟨by decide, by decide⟩, _, rfl, _, _, rfl, rfl, .inl ⟨by decide, by decide⟩, _, _, rfl, rfl, _, _, rfl, rfl, sz_le (by show 3 ≤ 100000; decide), fun b nb => ?_⟩⟩
    generalize e1 : upd H2 b _ = H3
    obtain ⟨s3, h3⟩ := gen_upd nb e1
    refine q H3 b s3 nb ⟨d, _, 0, h3, d0, ?_, ?_, Int.le_refl _, Int.le_refl _⟩
    · show 0 ≤ c % 2305843009213693951 * 5 + 15485863 * (i : Int) + 7001
      omega
    · show c % 2305843009213693951 * 5 + 15485863 * (i : Int) + 7001 < _
      omega
abbrev sc_L_take_N : List PySem.Str := ["_law_bag_here", "_law_many", "_law_digit", "_law_mixed"]
theorem sc_L_take : FnScope sc_L_take_N ["_law_bag_here", "_law_many"] (defScope s_L_take) := ⟨rfl, rfl, rfl, by decide +kernel, rfl, by decide +kernel, by decide +kernel⟩
theorem ok_L_take (W : Wd K mg) : Ok P w K mg base 1 d_L_take ["_law_bag_here", "_law_many"] sp_L_take := by
  refine ok_mk W.d_L_take sc_L_take (fun _ _ _ _ _ _ us hl => match us, hl with | [_, _], _ => rfl) (fun vs H Q E h => ?_) (fun cdv A outer s H vs Q E hr h => ?_)
  · obtain ⟨b, c, m, rfl, _⟩ := h
    rfl
  · obtain ⟨b, c, m, rfl, m0, m1, ⟨d, z, k, hb, d0, z0, z1, k0, k1⟩, hc, q⟩ := h
    have hu := hu_of hr
    have nd := sc_L_take.nd
    have mw : CDivW d m := wide_div (b := 100) m0 (by omega) (by decide) (by decide)
    refine ⟨_, (pss_cons (ps_if (pt_cmpR op_gt (pe_ix (kix_list K) (pv 0) pe_int (fun _ _ => rfl)) pe_int (nomark _))
      (pss_cons (ps_set (i := 2) nd rfl (Or.inl rfl) (pe_op op_mod (pe_callTy call_int1 rfl W.f_int (by decide +kernel) (pa_cons (pe_ix (kix_list K) (pv 0) pe_int (fun _ _ => rfl)) pa_nil)) (pv 1)))
      (pss_cons (ps_asg (pe_op op_fdivW (pe_ix (kix_list K) (pv 0) pe_int (fun _ _ => rfl)) (pv 1)) (pg_sub (pv 0) pe_int set_list))
      (pss_one (ps_ret (pv 2)))))
      pss_nil)
    (pss_cons (ps_asg (pe_op op_add (pe_ix (kix_list K) (pv 0) pe_int (fun _ _ => rfl)) pe_int) (pg_sub (pv 0) pe_int set_list))
    (pss_cons (ps_set (i := 3) nd rfl (Or.inl rfl) (pe_op op_mod (pe_callTy call_int1 rfl W.f_int (by decide +kernel) (pa_cons (pe_op op_pow (pe_op op_add (pe_ix (kix_list K) (pv 0) pe_int (fun _ _ => rfl)) (pe_op op_mul pe_int (pe_ix (kix_list K) (pv 0) pe_int (fun _ _ => rfl)))) pe_int) pa_nil)) pe_int))
    (pss_cons (ps_set (i := 3) nd rfl (Or.inl rfl) (pe_op op_mod (pe_callTy call_int1 rfl W.f_int (by decide +kernel) (pa_cons (pe_op op_pow (pe_op op_add (pv 3) (pe_op op_mul pe_int (pe_ix (kix_list K) (pv 0) pe_int (fun _ _ => rfl)))) pe_int) pa_nil)) pe_int))
    (pss_one (ps_ret (pe_op op_mod (pe_callTy call_int1 rfl W.f_int (by decide +kernel) (pa_cons (pe_op op_fdivW (pv 3) pe_int) pa_nil)) (pv 1)))))))), ?_⟩
    refine ⟨_, rfl, b, _, 0, .int d, rfl, rfl, sqL hb, rfl, _, _, rfl, rfl, _, rfl, ?_⟩
    by_cases hd : 0 < d
    · rw [decide_eq_true hd]
      refine iteT ⟨_, rfl, b, _, 0, .int d, rfl, rfl, sqL hb, rfl, .inl ⟨d, rfl, _, rfl, _, _, rfl, rfl, m0, ?_⟩⟩
      refine ⟨_, rfl, b, _, 0, .int d, rfl, rfl, sqL hb, rfl, _, rfl, _, _, rfl, rfl, mw, ?_⟩
      refine ⟨_, rfl, b, _, 0, 0, rfl, rfl, hb, rfl, _, rfl, q _ _ (Int.emod_nonneg _ (by omega)) (Int.emod_lt_of_pos _ m0) ((SameX.refl H).mut (by simp)) ⟨_, z, k, upd_same, Int.ediv_nonneg d0 (by omega), z0, z1, k0, by omega⟩⟩
    · rw [decide_eq_false hd]
      refine iteF ⟨_, rfl, b, _, 2, .int k, rfl, rfl, sqL hb, rfl, _, _, rfl, rfl, _, rfl, b, _, 2, 2, rfl, rfl, hb, rfl, ?_⟩
      have s1 : SameX [b] H (upd H b (.lst [.int d, .int z, .int (k + 1)])) := (SameX.refl H).mut (by simp)
      generalize e1 : upd H b _ = H1
      have h1 : H1 b = some (.lst [.int d, .int z, .int (k + 1)]) := (gen_mut e1).1
      change upd H b (.lst [.int d, .int z, .int (k + 1)]) = H1 at e1
      rw [e1] at s1
      have x1 : (z + 1299709 * (k + 1)).natAbs < 2 ^ 64 := by omega
      refine ⟨_, rfl, b, _, 1, .int z, rfl, rfl, sqL h1, rfl, _, rfl, b, _, 2, .int (k + 1), rfl, rfl, sqL h1, rfl, _, _, rfl, rfl, .inl ⟨by decide, by decide⟩, _, _, rfl, rfl, _, _, rfl, rfl, ⟨by decide, by decide, x1⟩, .inl ⟨_, rfl, _, _, rfl, rfl, (by show (0 : Int) < 2305843009213693921; decide), ?_⟩⟩
      generalize hy : (z + 1299709 * (k + 1)) ^ (3 : Int).toNat = y
      have y1 := Int.emod_nonneg y (b := 2305843009213693921) (by decide)
      have y2 := Int.emod_lt_of_pos y (b := 2305843009213693921) (by decide)
      have x2 : (y % 2305843009213693921 + 49979687 * (k + 1)).natAbs < 2 ^ 64 := by omega
      refine ⟨_, rfl, _, rfl, b, _, 2, .int (k + 1), rfl, rfl, sqL h1, rfl, _, _, rfl, rfl, .inl ⟨by decide, by decide⟩, _, _, rfl, rfl, _, _, rfl, rfl, ⟨by decide, by decide, x2⟩, .inl ⟨_, rfl, _, _, rfl, rfl, (by show (0 : Int) < 2305843009213693951; decide), ?_⟩⟩
      generalize ((y % 2305843009213693921 + 49979687 * (k + 1)) ^ (2 : Int).toNat) = u
      refine ⟨_, rfl, _, _, rfl, rfl, ⟨by decide, by decide⟩, .inl ⟨_, rfl, _, rfl, _, _, rfl, rfl, m0, ?_⟩⟩
      exact q _ _ (Int.emod_nonneg _ (by omega)) (Int.emod_lt_of_pos _ m0) s1 ⟨d, z, k + 1, h1, d0, z0, z1, by omega, by omega⟩
end
end K75
end T_B1

section T_B2
set_option Elab.async false
set_option linter.all false
set_option maxRecDepth 100000
set_option maxHeartbeats 4000000
namespace K75
open PySem PySem.Spec PyProof.Rows L2 TL
def sp_L_name : Sp := fun vs H Q _ => ∃ (b : Addr) (c : Int), vs = [.ref b] ∧ Bag H b c ∧ c ≤ 90000 ∧ ∀ x H', isName x = true → SameX [b] H H' → Bag H' b (c + 9) → Q (.str x) H'
theorem join_signs : ∀ cs : List Nat, (Str.join "" (cs.map fun c => (⟨#[c]⟩ : PySem.Str))).cps.toList = cs
  | [] => rfl
  | [c] => rfl
  | c :: d :: r => by
    have ih := join_signs (d :: r)
    show tl ((⟨#[c]⟩ : PySem.Str) ++ "" ++ Str.join "" ((d :: r).map fun c => (⟨#[c]⟩ : PySem.Str))) = c :: d :: r
    rw [tl_append, tl_append, tl_emp]
    show [c] ++ [] ++ tl (Str.join "" ((d :: r).map fun c => (⟨#[c]⟩ : PySem.Str))) = _
    rw [show tl (Str.join "" ((d :: r).map fun c => (⟨#[c]⟩ : PySem.Str))) = d :: r from ih]
    rfl
theorem name_of_signs {cs : List Nat} (h1 : 1 ≤ cs.length) (h2 : cs.length ≤ 8) (h : ∀ c ∈ cs, sgn c = true) : isName (Txt.join "" (cs.map fun c => (⟨#[c]⟩ : PySem.Str))) = true := by
  have e := join_signs cs
  rw [join_eq]
  have hl : (Str.join "" (cs.map fun c => (⟨#[c]⟩ : PySem.Str))).length = cs.length := by rw [len_tl]; exact congrArg List.length e
  unfold isName
  rw [hl, e, decide_eq_true ⟨h1, h2⟩, Bool.true_and]
  exact List.all_eq_true.mpr h
theorem abc_at {n : Int} (h0 : 0 ≤ n) (h1 : n < 26) : ∃ c, atI ("abcdefghijklmnopqrstuvwxyz" : PySem.Str).cps.toList n = some c ∧ sgn c = true := by
  have e : ("abcdefghijklmnopqrstuvwxyz" : PySem.Str).cps.toList = (List.range 26).map (· + 97) := by decide +kernel
  rw [e]
  have e2 : n = ((n.toNat : Nat) : Int) := by omega
  rw [e2]
  refine ⟨n.toNat + 97, atI_nat ?_, decide_eq_true (by omega)⟩
  rw [List.getElem?_map, List.getElem?_range (by omega)]
  rfl
section
variable {P : Program} {w : World} {K : PySem.W.Frag} {mg : PySem.Str → Option Value} {base : Heap}
abbrev sc_L_name_N : List PySem.Str := ["_law_bag_here", "_law_size", "_law_turn"]
theorem sc_L_name : FnScope sc_L_name_N ["_law_bag_here"] (defScope s_L_name) := ⟨rfl, rfl, rfl, by decide +kernel, rfl, by decide +kernel, by decide +kernel⟩
theorem ok_L_name (W : Wd K mg) : Ok P w K mg base 2 d_L_name ["_law_bag_here"] sp_L_name := by
  refine ok_mk W.d_L_name sc_L_name (fun _ _ _ _ _ _ us hl => match us, hl with | [_], _ => rfl) (fun vs H Q E h => ?_) (fun cdv A outer s H vs Q E hr h => ?_)
  · obtain ⟨b, c, rfl, _⟩ := h
    rfl
  · obtain ⟨b, c, rfl, hB, hc, q⟩ := h
    have hu := hu_of hr
    have nd := sc_L_name.nd
    refine ⟨_, (pss_cons (ps_set (i := 1) nd rfl (Or.inl rfl) (pe_ix (kix_list K) (pe_lst (pa_cons pe_int (pa_cons pe_int (pa_cons pe_int (pa_cons pe_int pa_nil))))) (pe_f (ok_L_take W) (hr.mono (by decide)) rfl W.g_L_take (pa_cons (pv 0) (pa_cons pe_int pa_nil))) (fun _ _ => rfl)))
    (pss_one (ps_ret (kjoin K pe_str (pe_lc (own := [("_law_turn", 2)]) rfl nd (pi_range1 rfl W.f_range (pa_cons (pv 1) pa_nil)) (blkOk_by (N := sc_L_name_N) (sc := defScope s_L_name) (by decide +kernel)) (fun _ _ _ _ _ => (pg_name (i := 2) nd rfl (Or.inl rfl))) (fun _ _ _ _ _ => pts_nil) (fun _ _ _ _ _ => (pe_ix ix_str pe_str (pe_f (ok_L_take W) (hr.mono (by decide)) rfl W.g_L_take (pa_cons (pv 0) (pa_cons pe_int pa_nil))) (fun _ _ => rfl)))))))), ?_⟩
    refine ⟨sz_le (by show 4 ≤ 100000; decide), fun l1 nl1 => ?_⟩
    generalize e1 : upd H l1 _ = H1
    obtain ⟨s1, h1⟩ := gen_upd nl1 e1
    have hl1b : l1 ≠ b := by
      obtain ⟨d, m, k, hb, _⟩ := hB
      exact (ne_of_none hb nl1).symm
    refine ⟨_, rfl, b, c, 4, rfl, by decide, by decide, hB.mono s1, by omega, fun n H2 n0 n1 s2 hB2 => ?_⟩
    have h2 := s2.at h1 hl1b
    obtain ⟨z, hz, z1, z2⟩ : ∃ z : Nat, atI [V.int 1, .int 2, .int 3, .int 8] n = some (.int (z : Int)) ∧ 1 ≤ z ∧ z ≤ 8 := by
      have : n = 0 ∨ n = 1 ∨ n = 2 ∨ n = 3 := by omega
      rcases this with rfl | rfl | rfl | rfl
      · exact ⟨1, rfl, by decide, by decide⟩
      · exact ⟨2, rfl, by decide, by decide⟩
      · exact ⟨3, rfl, by decide, by decide⟩
      · exact ⟨8, rfl, by decide, by decide⟩
    have sH : SameX [b] H H2 := (SameX.of s1).trans s2
    refine ⟨l1, _, _, _, rfl, rfl, sqL h2, hz, ⟨_, rfl⟩, _, rfl, (z : Int), rfl, by omega, by omega, fun D hD => ?_⟩
    rw [Int.toNat_natCast]
    refine lc_walk w_rng (fun i H' => SameX [b] H H' ∧ Bag H' b (c + 1 + (i : Int)) ∧ ∃ cs : List Nat, cs.length = i ∧ (∀ c ∈ cs, sgn c = true) ∧ H' D = some (.lst (cs.map fun c => V.str ⟨#[c]⟩))) ?_ (fun _ _ _ _ => trivial) ?_ ?_
    · refine ⟨sH.new hD, (hB2.mono (same_new hD)).le (by omega), [], rfl, by simp, upd_same⟩
    · rintro i v H3 H4 hi ⟨rfl, rfl⟩ ⟨s4, hB4, cs, hl, hs, hD4⟩
      have hDb : D ≠ b := by
        obtain ⟨d, m, k, hb, _⟩ := hB2
        exact (ne_of_none hb hD).symm
      refine ⟨rfl, tyes ⟨_, rfl, b, _, 26, rfl, by decide, by decide, hB4, by omega, fun n5 H5 n50 n51 s5 hB5 => ?_⟩⟩
      obtain ⟨cc, hcc, hsg⟩ := abc_at n50 n51
      refine ⟨_, n5, cc, rfl, rfl, sz_le (by decide +kernel), hcc, _, s5.at hD4 hDb, sz_lt (by rw [List.length_map]; omega), ?_⟩
      generalize e6 : upd H5 D _ = H6
      obtain ⟨h6, k6⟩ := gen_mut e6
      refine ⟨?_, ?_, cs ++ [cc], by rw [List.length_append, hl]; rfl, ?_, ?_⟩
      · rw [← e6]
        exact (s4.trans s5).young (sH.free hB2 hD)
      · obtain ⟨d, m, k, hb, r⟩ := hB5.le (c' := c + 1 + ((i + 1 : Nat) : Int)) (by omega)
        exact ⟨d, m, k, (k6 _ hDb.symm).trans hb, r⟩
      · intro c hc
        rcases List.mem_append.mp hc with hc | hc
        · exact hs c hc
        · rw [List.mem_singleton.mp hc]
          exact hsg
      · rw [h6, List.map_append]
        rfl
    · rintro H3 ⟨s3, hB3, cs, hl, hs, hD3⟩
      refine ⟨"", D, cs.map fun c => (⟨#[c]⟩ : PySem.Str), rfl, rfl, .inl (sqL (by rw [hD3, List.map_map]; rfl)), ?_, ?_⟩
      · refine join_fit (by decide +kernel) (by rw [List.length_map]; omega) fun x hx => ?_
        obtain ⟨y, _, rfl⟩ := List.mem_map.mp hx
        show 1 ≤ 12000
        decide
      · exact q _ H3 (name_of_signs (by omega) (by omega) hs) s3 (hB3.le (by omega))
end
end K75
end T_B2

section T_B3
set_option Elab.async false
set_option linter.all false
set_option maxRecDepth 100000
set_option maxHeartbeats 4000000
namespace K75
open PySem PySem.Spec PyProof.Rows L2 TL
theorem nodup_sub {α : Type} [DecidableEq α] : ∀ {xs ys : List α}, xs.Nodup → (∀ x ∈ xs, x ∈ ys) → xs.length ≤ ys.length
  | [], _, _, _ => Nat.zero_le _
  | x :: xs, ys, hn, hs => by
    have h1 := List.nodup_cons.mp hn
    have hx := hs x List.mem_cons_self
    have ih := nodup_sub (xs := xs) (ys := ys.erase x) h1.2 fun y hy => by
      have hne : y ≠ x := fun e => h1.1 (e ▸ hy)
      exact (List.mem_erase_of_ne hne).mpr (hs y (List.mem_cons_of_mem _ hy))
    have hl : (ys.erase x).length = ys.length - 1 := List.length_erase_of_mem hx
    have hp : 0 < ys.length := List.length_pos_of_mem hx
    rw [List.length_cons]
    omega
/-- the k-th number behind z -/
def itN (z : Int) (k : Nat) : Int := (z - 1 + (k : Int)) % 10 ^ 30 + 1
theorem itN_zero {z : Int} (h : isNumber z = true) : itN z 0 = z := by
  have h2 := of_decide_eq_true h
  unfold itN
  rw [show z - 1 + ((0 : Nat) : Int) = z - 1 by omega, Int.emod_eq_of_lt (by omega) (by omega)]
  omega
theorem itN_num (z : Int) (k : Nat) : isNumber (itN z k) = true := by
  unfold itN
  have a := Int.emod_nonneg (z - 1 + (k : Int)) (b := 10 ^ 30) (by decide)
  have b := Int.emod_lt_of_pos (z - 1 + (k : Int)) (b := 10 ^ 30) (by decide)
  exact decide_eq_true ⟨by omega, by omega⟩
theorem itN_succ (z : Int) (k : Nat) : itN z k % 10 ^ 30 + 1 = itN z (k + 1) := by
  unfold itN
  rw [Int.emod_add_emod]
  congr 2
  omega
theorem itN_inj {z : Int} {i j : Nat} (hi : i < 100) (hj : j < 100) (h : itN z i = itN z j) : i = j := by
  unfold itN at h
  have a1 := Int.emod_nonneg (z - 1 + (i : Int)) (b := 10 ^ 30) (by decide)
  have e1 := Int.mul_ediv_add_emod (z - 1 + (i : Int)) (10 ^ 30)
  have e2 := Int.mul_ediv_add_emod (z - 1 + (j : Int)) (10 ^ 30)
  have h3 : (z - 1 + (i : Int)) % 10 ^ 30 = (z - 1 + (j : Int)) % 10 ^ 30 := by omega
  generalize (z - 1 + (i : Int)) / 10 ^ 30 = q1 at e1
  generalize (z - 1 + (j : Int)) / 10 ^ 30 = q2 at e2
  omega
def sp_L_pool : Sp := fun vs H Q _ => ∃ (b : Addr) (c : Int) (m : Nat), vs = [.ref b, .int (m : Int)] ∧ Bag H b c ∧ c ≤ 80000 ∧ m ≤ 20 ∧ ∀ (q : Addr) (H' : Hp) (ns : List Int), SameX [b] H H' → H q = none → Bag H' b (c + 2 * (m : Int)) → H' q = some (.lst (ns.map V.int)) → ns.length = m → ns.Nodup → (∀ n ∈ ns, isNumber n = true) → Q (.ref q) H'
section
variable {P : Program} {w : World} {K : PySem.W.Frag} {mg : PySem.Str → Option Value} {base : Heap}
abbrev sc_L_pool_N : List PySem.Str := ["_law_bag_here", "_law_many", "_law_found", "_law_turn", "_law_road", "_law_number", "_law_step"]
theorem sc_L_pool : FnScope sc_L_pool_N ["_law_bag_here", "_law_many"] (defScope s_L_pool) := ⟨rfl, rfl, rfl, by decide +kernel, rfl, by decide +kernel, by decide +kernel⟩
theorem ok_L_pool (W : Wd K mg) : Ok P w K mg base 2 d_L_pool ["_law_bag_here", "_law_many"] sp_L_pool := by
  refine ok_mk W.d_L_pool sc_L_pool (fun _ _ _ _ _ _ us hl => match us, hl with | [_, _], _ => rfl) (fun vs H Q E h => ?_) (fun cdv A outer s H vs Q E hr h => ?_)
  · obtain ⟨b, c, m, rfl, _⟩ := h
    rfl
  · obtain ⟨b, c, m, rfl, hB, hc, hm, q⟩ := h
    have hu := hu_of hr
    have nd := sc_L_pool.nd
    refine ⟨_, (pss_cons (ps_set (i := 2) nd rfl (Or.inl rfl) (pe_lst pa_nil))
    (pss_cons (ps_for PassesOwn.never rfl (pi_range1 rfl W.f_range (pa_cons (pv 1) pa_nil)) (pg_name (i := 3) nd rfl (Or.inl rfl))
      (pss_cons (ps_set (i := 4) nd rfl (Or.inl rfl) (pe_f (ok_L_take W) (hr.mono (by decide)) rfl W.g_L_take (pa_cons (pv 0) (pa_cons pe_int pa_nil))))
      (pss_cons (ps_set (i := 5) nd rfl (Or.inl rfl) (pe_op op_add pe_int (pe_f (ok_L_take W) (hr.mono (by decide)) rfl W.g_L_take (pa_cons (pv 0) (pa_cons (pe_ix (kix_list K) (pe_lst (pa_cons pe_int (pa_cons pe_int (pa_cons (pe_op op_pow pe_int pe_int) (pa_cons (pe_op op_pow pe_int pe_int) pa_nil))))) (pv 4) (fun _ _ => rfl)) pa_nil)))))
      (pss_cons (ps_for PassesOwn.never rfl (pi_range1 rfl W.f_range (pa_cons (pv 1) pa_nil)) (pg_name (i := 6) nd rfl (Or.inl rfl))
        (pss_one (ps_if (pt_cmpR (kin_seq K) (pv 5) (pv 2) (by with_unfolding_all rfl))
          (pss_one (ps_set (i := 5) nd rfl (Or.inl rfl) (pe_op op_add (pe_op op_mod (pe_callTy call_int1 rfl W.f_int (by decide +kernel) (pa_cons (pv 5) pa_nil)) (pe_op op_pow pe_int pe_int)) pe_int)))
          pss_nil)))
      (pss_one (ps_expr (kbm K PySem.F.plainAttrs_list PySem.F.slot_list_append PySem.F.type_list_append mt_append (pv 2) (pa_cons (pv 5) pa_nil))))))))
    (pss_one (ps_ret (pv 2))))), ?_⟩
    refine ⟨Nat.zero_le _, fun fa nfa => ?_⟩
    generalize e1 : upd H fa _ = H1
    obtain ⟨s1, h1⟩ := gen_upd nfa e1
    have hfb : fa ≠ b := by
      obtain ⟨d, m, k, hb, _⟩ := hB
      exact (ne_of_none hb nfa).symm
    refine ⟨_, rfl, (m : Int), rfl, by omega, by omega, ?_⟩
    rw [Int.toNat_natCast]
    refine for_walk w_rng (fun i σ H' => (∃ v3 v4 v5 v6, σ = [some (.ref b), some (.int (m : Int)), some (.ref fa), v3, v4, v5, v6]) ∧ SameX [b] H H' ∧ Bag H' b (c + 2 * (i : Int)) ∧ ∃ ns : List Int, H' fa = some (.lst (ns.map V.int)) ∧ ns.length = i ∧ ns.Nodup ∧ ∀ n ∈ ns, isNumber n = true) ?_ (fun _ _ _ _ _ => trivial) ?_ ?_
    · exact ⟨⟨_, _, _, _, rfl⟩, SameX.of s1, (hB.mono s1).le (by omega), [], h1, rfl, List.nodup_nil, by simp⟩
    · rintro i v σ H2 H3 hi ⟨rfl, rfl⟩ ⟨⟨v3, v4, v5, v6, rfl⟩, s2, hB2, ns, hfa, hl, hnd, hnum⟩
      -- road
      refine ⟨_, rfl, b, _, 4, rfl, by decide, by decide, hB2, by omega, fun r H4 r0 r1 s4 hB4 => ?_⟩
      have hfa4 := s4.at hfa hfb
      -- number
      refine ⟨_, rfl, _, _, rfl, rfl, ⟨by decide, by decide, by decide⟩, _, _, rfl, rfl, ⟨by decide, by decide, by decide⟩, sz_le (by show 4 ≤ 100000; decide), fun l1 nl1 => ?_⟩
      generalize e5 : upd H4 l1 _ = H5
      obtain ⟨s5, h5⟩ := gen_upd nl1 e5
      obtain ⟨z, hz, z1, z2⟩ : ∃ z : Int, atI [V.int 9, .int 40, .int ((10 : Int) ^ (6 : Int).toNat), .int ((10 : Int) ^ (30 : Int).toNat)] r = some (.int z) ∧ 0 < z ∧ z ≤ 10 ^ 30 := by
        have : r = 0 ∨ r = 1 ∨ r = 2 ∨ r = 3 := by omega
        rcases this with rfl | rfl | rfl | rfl
        · exact ⟨9, rfl, by decide, by decide⟩
        · exact ⟨40, rfl, by decide, by decide⟩
        · exact ⟨_, rfl, by decide, by decide⟩
        · exact ⟨_, rfl, by decide, by decide⟩
      have hfa5 := s5 _ _ hfa4
      refine ⟨_, rfl, l1, _, _, _, rfl, rfl, sqL h5, hz, b, _, z, rfl, z1, z2, hB4.mono s5, by omega, fun n H6 n0 n1 s6 hB6 => ?_⟩
      have hfa6 := s6.at hfa5 hfb
      have s26 : SameX [b] H H6 := ((s2.trans s4).trans (SameX.of s5)).trans s6
      refine ⟨_, _, rfl, rfl, ?_⟩
      have hn1 : isNumber (1 + n) = true := decide_eq_true ⟨by omega, by omega⟩
      -- the steps
      refine ⟨_, rfl, (m : Int), rfl, by omega, by omega, ?_⟩
      rw [Int.toNat_natCast]
      refine for_walk w_rng (fun j σ H' => H' = H6 ∧ (∃ v6 k, σ = [some (.ref b), some (.int (m : Int)), some (.ref fa), some (.int (0 + (i : Int))), some (.int r), some (.int (itN (1 + n) k)), v6] ∧ k ≤ j ∧ (∀ e, e < k → itN (1 + n) e ∈ ns) ∧ (k < j → itN (1 + n) k ∉ ns))) ?_ (fun _ _ _ _ _ => trivial) ?_ ?_
      · refine ⟨rfl, v6, 0, ?_, Nat.le_refl _, fun e he => absurd he (by omega), fun h => absurd h (by omega)⟩
        rw [itN_zero hn1]
        rfl
      · rintro j v σ H7 H8 hj ⟨rfl, rfl⟩ ⟨rfl, v6, k, rfl, hk, hin, hout⟩
        refine ⟨_, rfl, _, rfl, fa, _, rfl, .inl (sqL hfa6), rfl, flat_ints _, _, rfl, ?_⟩
        rw [if_neg Bool.false_ne_true, inV_ints]
        by_cases hmem : itN (1 + n) k ∈ ns
        · rw [decide_eq_true hmem]
          have hkj : k = j := by
            rcases Nat.lt_or_ge k j with h | h
            · exact absurd hmem (hout h)
            · omega
          refine iteT ⟨_, rfl, .inl ⟨_, rfl, _, _, rfl, rfl, ⟨by decide, by decide, by decide⟩, _, _, rfl, rfl, (by show (0 : Int) < 10 ^ (30 : Int).toNat; decide), _, _, rfl, rfl, rfl, some (.int (0 + (j : Int))), k + 1, ?_, by omega, ?_, fun h => absurd h (by omega)⟩⟩
          · rw [← itN_succ]
            rfl
          · intro e he
            rcases Nat.lt_or_ge e k with h | h
            · exact hin e h
            · rw [show e = k by omega]
              exact hmem
        · rw [decide_eq_false hmem]
          exact iteF ⟨rfl, _, k, rfl, by omega, hin, fun _ => hmem⟩
      · rintro σ H7 ⟨rfl, v6, k, rfl, hk, hin, hout⟩
        have hnot : itN (1 + n) k ∉ ns := by
          intro hmem
          have hkm : k = m := by
            rcases Nat.lt_or_ge k m with h | h
            · exact absurd hmem (hout h)
            · omega
          have h1 : ((List.range m).map (itN (1 + n))).Nodup := by
            rw [List.nodup_iff_pairwise_ne, List.pairwise_map]
            refine List.Pairwise.imp_of_mem ?_ List.nodup_range
            intro a b ha hb hab e
            have := List.mem_range.mp ha
            have := List.mem_range.mp hb
            exact hab (itN_inj (by omega) (by omega) e)
          have h2 := nodup_sub (ys := ns) h1 fun x hx => by
            obtain ⟨e, he, rfl⟩ := List.mem_map.mp hx
            exact hin e (by have := List.mem_range.mp he; omega)
          rw [List.length_map, List.length_range] at h2
          omega
        refine ⟨_, rfl, .inl ⟨rfl, _, sqL hfa6⟩, _, rfl, fa, _, _, rfl, rfl, hfa6, sz_lt (by rw [List.length_map]; omega), ?_⟩
        generalize e8 : upd H7 fa _ = H8
        obtain ⟨h8, k8⟩ := gen_mut e8
        refine ⟨⟨_, _, _, _, rfl⟩, ?_, ?_, ns ++ [itN (1 + n) k], by rw [h8, List.map_append]; rfl, by rw [List.length_append, hl]; rfl, ?_, ?_⟩
        · rw [← e8]
          exact s26.young nfa
        · obtain ⟨d, m, k, hb, r⟩ := hB6.le (c' := c + 2 * ((i + 1 : Nat) : Int)) (by omega)
          exact ⟨d, m, k, (k8 _ hfb.symm).trans hb, r⟩
        · rw [List.nodup_append]
          refine ⟨hnd, by simp, fun a ha b hb e => ?_⟩
          rw [List.mem_singleton.mp hb] at e
          exact hnot (e ▸ ha)
        · intro x hx
          rcases List.mem_append.mp hx with hx | hx
          · exact hnum x hx
          · rw [List.mem_singleton.mp hx]
            exact itN_num _ _
    · rintro σ H2 ⟨⟨v3, v4, v5, v6, rfl⟩, s2, hB2, ns, hfa, hl, hnd, hnum⟩
      exact ⟨_, rfl, q fa H2 ns s2 nfa hB2 hfa hl hnd hnum⟩
end
end K75
end T_B3

section T_B4
set_option Elab.async false
set_option linter.all false
set_option maxRecDepth 100000
set_option maxHeartbeats 4000000
namespace K75
open PySem PySem.Spec PyProof.Rows L2 TL
theorem dp_ints {K : PySem.W.Frag} {H : Hp} : ∀ ns : List Int, DpAll K H (ns.map V.int) (ns.map PyData.int)
  | [] => .nil
  | n :: r => .cons (.int n) (dp_ints r)
theorem eqv_nil : ∀ ns : List Int, PyData.eqv (.list (ns.map PyData.int)) (.list []) = ns.isEmpty
  | [] => rfl
  | _ :: _ => rfl
theorem erase_map {α β : Type} (f : α → β) : ∀ (xs : List α) (k : Nat), (xs.map f).eraseIdx k = (xs.eraseIdx k).map f
  | [], k => by cases k <;> rfl
  | x :: xs, 0 => rfl
  | x :: xs, k + 1 => by
    show f x :: (xs.map f).eraseIdx k = f x :: (xs.eraseIdx k).map f
    rw [erase_map f xs k]
theorem erase_perm {α : Type} : ∀ {xs : List α} {k : Nat} (h : k < xs.length), (xs[k] :: xs.eraseIdx k).Perm xs
  | x :: xs, 0, _ => List.Perm.refl _
  | x :: xs, k + 1, h => by
    have ih := erase_perm (xs := xs) (k := k) (Nat.lt_of_succ_lt_succ h)
    exact (List.Perm.swap _ _ _).trans (List.Perm.cons x ih)
/-- a row of the law: number, person, house, answers -/
structure Rw where
  n : Int
  p : PySem.Str
  h : PySem.Str
  ans : List Int
structure Rw.Ok (r : Rw) : Prop where
  n : isNumber r.n = true
  p : isName r.p = true
  h : isName r.h = true
  a8 : r.ans.length ≤ 8
  an : ∀ x ∈ r.ans, isNumber x = true
  ai : r.n ∉ r.ans
  ad : r.ans.Nodup
def RowAt (H : Hp) (a : Addr) (r : Rw) : Prop := ∃ t, H a = some (.tup [.int r.n, .str r.p, .str r.h, .ref t]) ∧ H t = some (.tup (r.ans.map V.int))
theorem RowAt.monoN {H H' : Hp} {a : Addr} {r : Rw} (h : RowAt H a r) (s : SameN H H') : RowAt H' a r := by
  obtain ⟨t, h1, h2⟩ := h
  exact ⟨t, s _ _ h1 (by intro xs z; cases z), s _ _ h2 (by intro xs z; cases z)⟩
theorem SameX.toN {b : Addr} {H H' : Hp} {c : Int} (s : SameX [b] H H') (h : Bag H b c) : SameN H H' := fun a o e n => by
  refine s.at e fun q => ?_
  obtain ⟨d, m, k, hb, _⟩ := h
  rw [q, hb] at e
  cases e
  exact n _ rfl
def sp_L_rows : Sp := fun vs H Q _ => ∃ (b : Addr) (c : Int) (m : Nat), vs = [.ref b, .int (m : Int)] ∧ Bag H b c ∧ c ≤ 70000 ∧ 1 ≤ m ∧ m ≤ 8 ∧ ∀ (q : Addr) (H' : Hp) (as : List Addr) (rs : List Rw), SameX [b] H H' → H q = none → Bag H' b (c + 400) → H' q = some (.lst (as.map V.ref)) → Paired (RowAt H') as rs →
  1 ≤ rs.length → rs.length ≤ m → (∀ r ∈ rs, r.Ok) → (rs.map (·.n)).Nodup → Q (.ref q) H'
theorem kept_filter {xs : List Int} {p : Int → Bool} : kept (fun i => if p (xs.getD i 0) = true then some (V.int (xs.getD i 0)) else none) xs.length = (xs.filter p).map V.int := by
  have h : ∀ n, n ≤ xs.length → kept (fun i => if p (xs.getD i 0) = true then some (V.int (xs.getD i 0)) else none) n = ((xs.take n).filter p).map V.int := by
    intro n
    induction n with
    | zero =>
      intro _
      rfl
    | succ n ih =>
      intro hn
      unfold kept
      rw [ih (by omega), List.take_add_one, List.filter_append, List.map_append, List.getElem?_eq_getElem (by omega : n < xs.length)]
      have e : xs.getD n 0 = xs[n] := by simp [List.getD, List.getElem?_eq_getElem (by omega : n < xs.length)]
      rw [e]
      by_cases hp : p xs[n] = true
      · rw [if_pos hp]
        simp [hp]
      · rw [if_neg hp]
        simp [hp]
  rw [h _ (Nat.le_refl _), List.take_length]
section
variable {P : Program} {w : World} {K : PySem.W.Frag} {mg : PySem.Str → Option Value} {base : Heap}
abbrev sc_L_rows_N : List PySem.Str := ["_law_bag_here", "_law_most", "_law_pool_here", "_law_rows_here", "_law_turn", "_law_number", "_law_left", "_law_answers", "_law_step", "_law_other"]
theorem sc_L_rows : FnScope sc_L_rows_N ["_law_bag_here", "_law_most"] (defScope s_L_rows) := ⟨rfl, rfl, rfl, by decide +kernel, rfl, by decide +kernel, by decide +kernel⟩
theorem ok_L_rows (W : Wd K mg) : Ok P w K mg base 3 d_L_rows ["_law_bag_here", "_law_most"] sp_L_rows := by
  refine ok_mk W.d_L_rows sc_L_rows (fun _ _ _ _ _ _ us hl => match us, hl with | [_, _], _ => rfl) (fun vs H Q E h => ?_) (fun cdv A outer s H vs Q E hr h => ?_)
  · obtain ⟨b, c, m, rfl, _⟩ := h
    rfl
  · obtain ⟨b, c, m, rfl, hB, hc, m1, m8, q⟩ := h
    have hu := hu_of hr
    have nd := sc_L_rows.nd
    refine ⟨_, (pss_cons (ps_set (i := 2) nd rfl (Or.inl rfl) (pe_f (ok_L_pool W) (hr.mono (by decide)) rfl W.g_L_pool (pa_cons (pv 0) (pa_cons (pe_op op_add (pe_op op_add pe_int (pv 1)) (pe_f (ok_L_take W) (hr.mono (by decide)) rfl W.g_L_take (pa_cons (pv 0) (pa_cons pe_int pa_nil)))) pa_nil))))
    (pss_cons (ps_set (i := 3) nd rfl (Or.inl rfl) (pe_lst pa_nil))
    (pss_cons (ps_for PassesOwn.never rfl (pi_range1 rfl W.f_range (pa_cons (pe_op op_add pe_int (pe_f (ok_L_take W) (hr.mono (by decide)) rfl W.g_L_take (pa_cons (pv 0) (pa_cons (pv 1) pa_nil)))) pa_nil)) (pg_name (i := 4) nd rfl (Or.inl rfl))
      (pss_cons (ps_set (i := 5) nd rfl (Or.inr rfl) (pe_ix (kix_list K) (pv 2) (pv 4) (fun _ _ => rfl)))
      (pss_cons (ps_setLc (i := 6) (own := [("_law_other", 9)]) rfl nd rfl rfl (sw_true rfl rfl rfl (by decide +kernel)) (pi_list (pv 2)) (blkOk_by (N := sc_L_rows_N) (sc := defScope s_L_rows) (by decide +kernel)) (fun _ _ _ _ _ => (pg_name (i := 9) nd rfl (Or.inl rfl))) (fun _ _ _ _ _ => (pts_one (pt_cmpR op_ne (pv 9) (pv 5) (nomark _)))) (fun _ _ _ _ _ => (pv 9)))
      (pss_cons (ps_set (i := 7) nd rfl (Or.inl rfl) (pe_lst pa_nil))
      (pss_cons (ps_for PassesOwn.never rfl (pi_range1 rfl W.f_range (pa_cons (pe_ix (kix_list K) (pe_lst (pa_cons pe_int (pa_cons pe_int (pa_cons pe_int (pa_cons pe_int (pa_cons pe_int (pa_cons pe_int pa_nil))))))) (pe_f (ok_L_take W) (hr.mono (by decide)) rfl W.g_L_take (pa_cons (pv 0) (pa_cons pe_int pa_nil))) (fun _ _ => rfl)) pa_nil)) (pg_name (i := 8) nd rfl (Or.inl rfl))
        (pss_one (ps_if (pt_cmpR (op_neD (hu64 hr)) (pv 6) (pe_lst pa_nil) (nomark _))
          (pss_one (ps_expr (kbm K PySem.F.plainAttrs_list PySem.F.slot_list_append PySem.F.type_list_append mt_append (pv 7) (pa_cons (kbm K PySem.F.plainAttrs_list PySem.F.slot_list_pop PySem.F.type_list_pop mt_popAt (pv 6) (pa_cons (pe_f (ok_L_take W) (hr.mono (by decide)) rfl W.g_L_take (pa_cons (pv 0) (pa_cons (pe_callB (klen_seq K) rfl W.f_len PySem.boot_len (pa_cons (pv 6) pa_nil)) pa_nil))) pa_nil)) pa_nil))))
          pss_nil)))
      (pss_one (ps_expr (kbm K PySem.F.plainAttrs_list PySem.F.slot_list_append PySem.F.type_list_append mt_append (pv 3) (pa_cons (pe_tup (pa_cons (pv 5) (pa_cons (pe_f (ok_L_name W) (hr.mono (by decide)) rfl W.g_L_name (pa_cons (pv 0) pa_nil)) (pa_cons (pe_f (ok_L_name W) (hr.mono (by decide)) rfl W.g_L_name (pa_cons (pv 0) pa_nil)) (pa_cons (pe_tupleOf rfl W.f_tuple (pv 7)) pa_nil))))) pa_nil)))))))))
    (pss_one (ps_ret (pv 3)))))), ?_⟩
    -- the pool
    refine ⟨_, rfl, _, rfl, _, _, rfl, rfl, _, rfl, b, c, 3, rfl, by decide, by decide, hB, by omega, fun k H1 k0 k1 s1 hB1 => ⟨_, _, rfl, rfl, ?_⟩⟩
    obtain ⟨kn, rfl⟩ : ∃ kn : Nat, k = (kn : Int) := ⟨k.toNat, by omega⟩
    refine ⟨b, c + 1, 1 + m + kn, by simp, hB1, by omega, by omega, fun pa H2 ps s2 npa hB2 hpa hpl hpd hpn => ?_⟩
    have hpb : pa ≠ b := by
      obtain ⟨d, m, k, hb, _⟩ := hB1
      exact (ne_of_none hb npa).symm
    refine ⟨Nat.zero_le _, fun ra nra => ?_⟩
    generalize e3 : upd H2 ra _ = H3
    obtain ⟨s3, hra⟩ := gen_upd nra e3
    have hrb : ra ≠ b := by
      obtain ⟨d, m, k, hb, _⟩ := hB2
      exact (ne_of_none hb nra).symm
    have hrp : ra ≠ pa := (ne_of_none hpa nra).symm
    have sH2 : SameX [b] H H2 := s1.trans s2
    have nraH : H ra = none := sH2.free hB2 nra
    refine ⟨_, rfl, _, rfl, b, c + 1 + 2 * ((1 + m + kn : Nat) : Int), (m : Int), rfl, by omega, by omega, hB2.mono s3, by omega, fun tn H4 t0 t1 s4 hB4 => ⟨_, _, rfl, rfl, ?_⟩⟩
    obtain ⟨tn, rfl⟩ : ∃ n : Nat, tn = (n : Int) := ⟨tn.toNat, by omega⟩
    refine ⟨_, rfl, by omega, by omega, ?_⟩
    rw [show ((1 : Int) + (tn : Int)).toNat = 1 + tn by omega]
    refine for_walk w_rng (fun i σ H' => (∃ v4 v5 v6 v7 v8 v9, σ = [some (.ref b), some (.int (m : Int)), some (.ref pa), some (.ref ra), v4, v5, v6, v7, v8, v9]) ∧ SameX [b] H H' ∧ Bag H' b (c + 30 + (m : Int) + 29 * (i : Int)) ∧ H' pa = some (.lst (ps.map V.int)) ∧
      ∃ (as : List Addr) (rs : List Rw), H' ra = some (.lst (as.map V.ref)) ∧ Paired (RowAt H') as rs ∧ rs.length = i ∧ (∀ r ∈ rs, r.Ok) ∧ rs.map (·.n) = ps.take i) ?_ (fun _ _ _ _ _ => trivial) ?_ ?_
    · refine ⟨⟨_, _, _, _, _, _, rfl⟩, (sH2.trans (SameX.of s3)).trans s4, hB4.le (by omega), s4.at (s3 _ _ hpa) hpb, [], [], s4.at hra hrb, .nil, rfl, by simp, rfl⟩
    · rintro i v σ H5 H6 hi ⟨rfl, rfl⟩ ⟨⟨v4, v5, v6, v7, v8, v9, rfl⟩, s5, hB5, hpa5, as, rs, hra5, hrs, hlen, hok, htk⟩
      have hip : i < ps.length := by omega
      have hat : atI (ps.map V.int) (0 + (i : Int)) = some (.int ps[i]) := by
        rw [Int.zero_add]
        refine atI_nat ?_
        rw [List.getElem?_map, List.getElem?_eq_getElem hip]
        rfl
      refine ⟨_, rfl, _, rfl, pa, _, _, _, rfl, rfl, sqL hpa5, hat, ?_⟩
      generalize hnum : ps[i] = num
      have hnum1 : isNumber num = true := hnum ▸ hpn _ (List.getElem_mem hip)
      -- left
      refine ⟨_, rfl, pa, rfl, ⟨_, sqL hpa5⟩, fun la nla => ?_⟩
      refine lc_pure (w_list (xs := ps.map V.int)) (fun i => if (!decide (ps.getD i 0 = num)) = true then some (.int (ps.getD i 0)) else none) nla (fun H' s2 => sqL (s2 _ _ hpa5)) (fun i v H H' r => by obtain ⟨e, _⟩ := r; rw [e]; exact Same.refl _) ?_ ?_
      · rintro j v Ha Hb hj ⟨rfl, hc⟩ s7 s8 hL
        obtain ⟨rfl, hm, hi3⟩ := map_at (0 : Int) hc
        refine ⟨rfl, _, rfl, _, rfl, rfl, _, rfl, ?_⟩
        have e : decide (V.int (ps.getD j 0) = V.int num) = decide (ps.getD j 0 = num) := decide_eq_decide.mpr ⟨fun z => by injection z, fun z => by rw [z]⟩
        rw [e]
        by_cases h : ps.getD j 0 = num
        · rw [decide_eq_true h]
          exact iteF (lcN s7 hL (by rw [decide_eq_true h]; rfl))
        · rw [decide_eq_false h]
          exact iteT ⟨_, rfl, lcT nla s7 (by omega) hL (by rw [decide_eq_false h]; rfl)⟩
      intro H7 s7 hla
      rw [List.length_map, kept_filter (p := fun x => !decide (x = num))] at hla
      generalize hleft : ps.filter (fun x => !decide (x = num)) = left at hla
      have hleft1 : ∀ x ∈ left, isNumber x = true ∧ x ≠ num := fun x hx => by
        rw [← hleft] at hx
        obtain ⟨h1, h2⟩ := List.mem_filter.mp hx
        exact ⟨hpn _ h1, by simpa using h2⟩
      have hleft2 : left.Nodup := hleft ▸ hpd.filter _
      have hleft3 : left.length ≤ 20 := by
        have := List.length_filter_le (fun x => !decide (x = num)) ps
        rw [hleft] at this
        omega
      -- answers = []
      refine ⟨Nat.zero_le _, fun aa naa => ?_⟩
      generalize e8 : upd H7 aa _ = H8
      obtain ⟨s8, haa⟩ := gen_upd naa e8
      refine ⟨sz_le (by show 6 ≤ 100000; decide), fun l1 nl1 => ?_⟩
      generalize e9 : upd H8 l1 _ = H9
      obtain ⟨s9, h9⟩ := gen_upd nl1 e9
      have s69 := (s7.trans s8).trans s9
      have hB9 := hB5.mono s69
      have lb : ∀ {l : Addr} {G : Hp} {c : Int}, Bag G b c → G l = none → l ≠ b := fun hb h e => by
        obtain ⟨d, m, k, hb, _⟩ := hb
        rw [e, hb] at h
        cases h
      refine ⟨_, rfl, b, _, 6, rfl, by decide, by decide, hB9, by omega, fun w Hw w0 w1 sw hBw => ?_⟩
      obtain ⟨z, hz, z1, z2⟩ : ∃ z : Nat, atI [V.int 0, .int 1, .int 1, .int 2, .int 3, .int 8] w = some (.int (z : Int)) ∧ 0 ≤ z ∧ z ≤ 8 := by
        have : w = 0 ∨ w = 1 ∨ w = 2 ∨ w = 3 ∨ w = 4 ∨ w = 5 := by omega
        rcases this with rfl | rfl | rfl | rfl | rfl | rfl
        · exact ⟨0, rfl, by decide, by decide⟩
        · exact ⟨1, rfl, by decide, by decide⟩
        · exact ⟨1, rfl, by decide, by decide⟩
        · exact ⟨2, rfl, by decide, by decide⟩
        · exact ⟨3, rfl, by decide, by decide⟩
        · exact ⟨8, rfl, by decide, by decide⟩
      have nl1b : l1 ≠ b := lb (hB5.mono (s7.trans s8)) nl1
      refine ⟨l1, _, _, _, rfl, rfl, sqL (sw.at h9 nl1b), hz, _, rfl, by omega, by omega, ?_⟩
      rw [Int.toNat_natCast]
      have lab : la ≠ b := lb hB5 nla
      have aab : aa ≠ b := lb (hB5.mono s7) naa
      have laa : la ≠ aa := ne_of_none hla naa
      have lapa : la ≠ pa := (ne_of_none hpa5 nla).symm
      have lara : la ≠ ra := (ne_of_none hra5 nla).symm
      have aapa : aa ≠ pa := (ne_of_none (s7 _ _ hpa5) naa).symm
      have aara : aa ≠ ra := (ne_of_none (s7 _ _ hra5) naa).symm
      have nlaH : H la = none := s5.free hB5 nla
      have naaH : H aa = none := s5.free hB5 (s7.free naa)
      have sw5 : SameX [b] H Hw := (s5.trans (SameX.of s69)).trans sw
      refine for_walk w_rng (fun j σ H' => (∃ v8, σ = [some (.ref b), some (.int (m : Int)), some (.ref pa), some (.ref ra), some (.int (0 + (i : Int))), some (.int num), some (.ref la), some (.ref aa), v8, v9]) ∧ SameX [b] H H' ∧ Bag H' b (c + 30 + (m : Int) + 29 * (i : Int) + 1 + (j : Int)) ∧ H' pa = some (.lst (ps.map V.int)) ∧
        H' ra = some (.lst (as.map V.ref)) ∧ Paired (RowAt H') as rs ∧ ∃ lf an : List Int, H' la = some (.lst (lf.map V.int)) ∧ H' aa = some (.lst (an.map V.int)) ∧ an.length ≤ j ∧ (an ++ lf).Perm left) ?_ (fun _ _ _ _ _ => trivial) ?_ ?_
      · refine ⟨⟨v8, rfl⟩, sw5, hBw.le (by omega), sw.at (s69 _ _ hpa5) hpb, sw.at (s69 _ _ hra5) hrb, paired_mono hrs fun _ _ z => z.monoN ((SameN.of s69).trans (sw.toN hB9)), left, [], sw.at (s9 _ _ (s8 _ _ hla)) lab, sw.at (s9 _ _ haa) aab, Nat.le_refl _, List.Perm.refl _⟩
      · rintro j v σ Hz Ha hj ⟨rfl, rfl⟩ ⟨⟨v8, rfl⟩, sa, hBa, hpaa, hraa, hrsa, lf, an, hlf, han, hanl, hperm⟩
        have hplen := hperm.length_eq
        rw [List.length_append] at hplen
        refine ⟨_, rfl, Nat.zero_le _, fun l2 nl2 => ?_⟩
        generalize ec : upd Ha l2 _ = Hc
        obtain ⟨sc, hl2⟩ := gen_upd nl2 ec
        refine ⟨_, _, .lst (sqL (sc _ _ hlf)) (dp_ints lf), .lst (sqL hl2) .nil, PySem.W.shaped_ints lf, by decide +kernel, _, rfl, ?_⟩
        rw [eqv_nil]
        cases hlfe : lf with
        | nil =>
          subst hlfe
          refine iteF ⟨⟨_, rfl⟩, sa.trans (SameX.of sc), (hBa.mono sc).le (by omega), sc _ _ hpaa, sc _ _ hraa, paired_mono hrsa fun _ _ z => z.monoN (SameN.of sc), [], an, sc _ _ hlf, sc _ _ han, by omega, hperm⟩
        | cons y ys =>
          have hlfpos : 0 < lf.length := by rw [hlfe]; exact Nat.succ_pos _
          rw [← hlfe]
          have hemp : (!lf.isEmpty) = true := by rw [hlfe]; rfl
          rw [hemp]
          refine iteT ⟨_, rfl, .inl ⟨rfl, _, sqL (sc _ _ han)⟩, _, rfl, .inl ⟨rfl, _, sqL (sc _ _ hlf)⟩, _, rfl, _, rfl, la, _, rfl, .inl (sqL (sc _ _ hlf)), b, _, (lf.length : Int), by rw [List.length_map]; rfl, by omega, by omega, hBa.mono sc, by omega, fun w2 Hd w20 w21 sd hBd => ?_⟩
          have hlfd := sd.at (sc _ _ hlf) lab
          have hw2 : w2.toNat < lf.length := by omega
          refine ⟨la, _, w2, w2.toNat, .int lf[w2.toNat], rfl, rfl, hlfd, by omega, by omega, ?_, ?_, ?_⟩
          · rw [List.length_map]
            have : seqIndex? w2 lf.length = some w2.toNat := StrLaws.seqIndex_nonneg w20 w21
            exact this
          · rw [List.getElem?_map, List.getElem?_eq_getElem hw2]
            rfl
          generalize ee : upd Hd la _ = He
          obtain ⟨hHe, ke⟩ := gen_mut ee
          have hand := sd.at (sc _ _ han) aab
          refine ⟨aa, _, _, rfl, rfl, (ke _ laa.symm).trans hand, sz_lt (by rw [List.length_map]; omega), ?_⟩
          generalize ef : upd He aa _ = Hf
          obtain ⟨hHf, kf⟩ := gen_mut ef
          have sad := (sa.trans (SameX.of sc)).trans sd
          refine ⟨⟨_, rfl⟩, ?_, ?_, ?_, ?_, ?_, lf.eraseIdx w2.toNat, an ++ [lf[w2.toNat]], ?_, by rw [hHf, List.map_append]; rfl, by rw [List.length_append]; show _ + 1 ≤ _; omega, ?_⟩
          · rw [← ef]
            refine SameX.young ?_ naaH
            rw [← ee]
            exact sad.young nlaH
          · obtain ⟨d, mm, k, hb, r⟩ := hBd.le (c' := c + 30 + (m : Int) + 29 * (i : Int) + 1 + ((j + 1 : Nat) : Int)) (by omega)
            exact ⟨d, mm, k, (kf _ aab.symm).trans ((ke _ lab.symm).trans hb), r⟩
          · exact (kf _ aapa.symm).trans ((ke _ lapa.symm).trans (sd.at (sc _ _ hpaa) hpb))
          · exact (kf _ aara.symm).trans ((ke _ lara.symm).trans (sd.at (sc _ _ hraa) hrb))
          · refine paired_mono hrsa fun _ _ z => z.monoN (((SameN.of sc).trans (sd.toN (hBa.mono sc))).trans ?_)
            have n1 : SameN Hd He := by rw [← ee]; exact SameN.upd hlfd
            have n2 : SameN He Hf := by rw [← ef]; exact SameN.upd ((ke _ laa.symm).trans hand)
            exact n1.trans n2
          · rw [kf _ laa, hHe]
            rw [erase_map]
          · refine List.Perm.trans ?_ hperm
            rw [List.append_assoc]
            refine List.Perm.append_left an ?_
            show (lf[w2.toNat] :: lf.eraseIdx w2.toNat).Perm lf
            exact erase_perm hw2
      · rintro σ Ha ⟨⟨v8, rfl⟩, sa, hBa, hpaa, hraa, hrsa, lf, an, hlf, han, hanl, hperm⟩
        have han1 : ∀ x ∈ an, isNumber x = true ∧ x ≠ num := fun x hx => hleft1 x (hperm.subset (List.mem_append_left _ hx))
        have han2 : an.Nodup := (List.nodup_append.mp (hperm.symm.nodup hleft2)).1
        -- the row
        refine ⟨_, rfl, .inl ⟨rfl, _, sqL hraa⟩, _, rfl, _, rfl, b, _, rfl, hBa, by omega, fun x1 Hb hx1 sb hBb => ?_⟩
        refine ⟨_, rfl, b, _, rfl, hBb, by omega, fun x2 Hc hx2 sc hBc => ?_⟩
        have hanc := sc.at (sb.at han aab) aab
        refine ⟨_, rfl, .inl ⟨aa, _, rfl, sqL hanc, fun ta nta => ?_⟩⟩
        generalize ed : upd Hc ta _ = Hd
        obtain ⟨sd, hta⟩ := gen_upd nta ed
        refine ⟨sz_le (by show 4 ≤ 100000; decide), fun rr nrr => ?_⟩
        generalize ee : upd Hd rr _ = He
        obtain ⟨se, hrr⟩ := gen_upd nrr ee
        have hrae := se _ _ (sd _ _ (sc.at (sb.at hraa hrb) hrb))
        have las := Paired.length hrsa
        refine ⟨ra, _, _, rfl, rfl, hrae, sz_lt (by rw [List.length_map]; omega), ?_⟩
        generalize ef : upd He ra _ = Hf
        obtain ⟨hHf, kf⟩ := gen_mut ef
        have n1 : SameN He Hf := by rw [← ef]; exact SameN.upd hrae
        have n0 : SameN Ha He := (((sb.toN hBa).trans (sc.toN hBb)).trans (SameN.of sd)).trans (SameN.of se)
        have sae : SameX [b] H He := ((sa.trans sb).trans sc).trans (SameX.of (sd.trans se))
        refine ⟨⟨_, _, _, _, _, _, rfl⟩, ?_, ?_, ?_, as ++ [rr], rs ++ [⟨num, x1, x2, an⟩], by rw [hHf, List.map_append]; rfl, ?_, by rw [List.length_append, hlen]; rfl, ?_, ?_⟩
        · rw [← ef]
          exact sae.young nraH
        · obtain ⟨d, mm, k, hb, r⟩ := ((hBc.mono sd).mono se).le (c' := c + 30 + (m : Int) + 29 * ((i + 1 : Nat) : Int)) (by omega)
          exact ⟨d, mm, k, (kf _ hrb.symm).trans hb, r⟩
        · exact (kf _ hrp.symm).trans (se _ _ (sd _ _ (sc.at (sb.at hpaa hpb) hpb)))
        · refine paired_app (paired_mono hrsa fun _ _ z => z.monoN (n0.trans n1)) (.cons ⟨ta, n1 _ _ hrr (by intro xs z; cases z), n1 _ _ (se _ _ hta) (by intro xs z; cases z)⟩ .nil)
        · intro r hr
          rcases List.mem_append.mp hr with hr | hr
          · exact hok r hr
          · rw [List.mem_singleton.mp hr]
            exact ⟨hnum1, hx1, hx2, by show an.length ≤ 8; omega, fun x hx => (han1 x hx).1, fun hx => (han1 _ hx).2 rfl, han2⟩
        · rw [List.map_append, htk, List.take_add_one, List.getElem?_eq_getElem hip, hnum]
          rfl
    · rintro σ H5 ⟨⟨v4, v5, v6, v7, v8, v9, rfl⟩, s5, hB5, hpa5, as, rs, hra5, hrs, hlen, hok, htk⟩
      refine ⟨_, rfl, q ra H5 as rs s5 nraH (hB5.le (by omega)) hra5 hrs (by omega) (by omega) hok ?_⟩
      rw [htk]
      exact hpd.sublist (List.take_sublist _ _)
end
end K75
end T_B4

section T_B5
set_option Elab.async false
set_option linter.all false
set_option maxRecDepth 100000
set_option maxHeartbeats 4000000
namespace K75
open PySem PySem.Spec PyProof.Rows L2 TL
def sp_L_letters (K : PySem.W.Frag) : Sp := fun vs H Q _ => ∃ (b : Addr) (c : Int), vs = [.ref b] ∧ Bag H b c ∧ c ≤ 60000 ∧ ∀ (q : Addr) (H' : Hp) (as : List Addr) (Ls : List Lt), SameX [b] H H' → H q = none → Bag H' b (c + 1000) → H' q = some (.lst (as.map V.ref)) → LettersAt K H' as Ls →
  1 ≤ Ls.length → Ls.length ≤ 8 → (∀ L ∈ Ls, L.Ok) → (Ls.map (·.n)).Nodup → Q (.ref q) H'
theorem rep_one {α : Type} (x : α) (n : Nat) : (List.replicate n [x]).flatten = List.replicate n x := by
  induction n with
  | zero => rfl
  | succ n ih =>
    rw [List.replicate_succ, List.flatten_cons, ih, List.replicate_succ]
    rfl
section
variable {P : Program} {w : World} {K : PySem.W.Frag} {mg : PySem.Str → Option Value} {base : Heap}
abbrev sc_L_letters_N : List PySem.Str := ["_law_bag_here", "_law_found", "_law_row", "_law_subject", "_law_words", "_law_turn"]
theorem sc_L_letters : FnScope sc_L_letters_N ["_law_bag_here"] (defScope s_L_letters) := ⟨rfl, rfl, rfl, by decide +kernel, rfl, by decide +kernel, by decide +kernel⟩
theorem ok_L_letters (W : Wd K mg) : Ok P w K mg base 5 d_L_letters ["_law_bag_here"] (sp_L_letters K) := by
  refine ok_mk W.d_L_letters sc_L_letters (fun _ _ _ _ _ _ us hl => match us, hl with | [_], _ => rfl) (fun vs H Q E h => ?_) (fun cdv A outer s H vs Q E hr h => ?_)
  · obtain ⟨b, c, rfl, _⟩ := h
    rfl
  · obtain ⟨b, c, rfl, hB, hc, q⟩ := h
    have hu := hu_of hr
    have nd := sc_L_letters.nd
    have lb : ∀ {l : Addr} {G : Hp} {c : Int}, Bag G b c → G l = none → l ≠ b := fun hb h e => by
      obtain ⟨d, m, k, hb, _⟩ := hb
      rw [e, hb] at h
      cases h
    refine ⟨_, (pss_cons (ps_set (i := 1) nd rfl (Or.inl rfl) (pe_lst pa_nil))
    (pss_cons (ps_for PassesOwn.never rfl (pi_list (pe_f (ok_L_rows W) (hr.mono (by decide)) rfl W.g_L_rows (pa_cons (pv 0) (pa_cons (pe_ix (kix_list K) (pe_lst (pa_cons pe_int (pa_cons pe_int (pa_cons pe_int pa_nil)))) (pe_f (ok_L_take W) (hr.mono (by decide)) rfl W.g_L_take (pa_cons (pv 0) (pa_cons pe_int pa_nil))) (fun _ _ => rfl)) pa_nil)))) (pg_name (i := 2) nd rfl (Or.inl rfl))
      (pss_cons (ps_setLc (i := 3) (own := [("_law_turn", 5)]) rfl nd rfl rfl (sw_true rfl rfl rfl (by decide +kernel)) (pi_range1 rfl W.f_range (pa_cons (pe_f (ok_L_take W) (hr.mono (by decide)) rfl W.g_L_take (pa_cons (pv 0) (pa_cons pe_int pa_nil))) pa_nil)) (blkOk_by (N := sc_L_letters_N) (sc := defScope s_L_letters) (by decide +kernel)) (fun _ _ _ _ _ => (pg_name (i := 5) nd rfl (Or.inl rfl))) (fun _ _ _ _ _ => pts_nil) (fun _ _ _ _ _ => (pe_f (ok_L_name W) (hr.mono (by decide)) rfl W.g_L_name (pa_cons (pv 0) pa_nil))))
      (pss_cons (ps_set (i := 4) nd rfl (Or.inl rfl) (pe_op op_rep (pe_lst (pa_cons (pe_f (ok_L_name W) (hr.mono (by decide)) rfl W.g_L_name (pa_cons (pv 0) pa_nil)) pa_nil)) (pe_ix (kix_list K) (pe_lst (pa_cons pe_int (pa_cons pe_int (pa_cons pe_int (pa_cons pe_int (pa_cons pe_int pa_nil)))))) (pe_f (ok_L_take W) (hr.mono (by decide)) rfl W.g_L_take (pa_cons (pv 0) (pa_cons pe_int pa_nil))) (fun _ _ => rfl))))
      (pss_one (ps_expr (kbm K PySem.F.plainAttrs_list PySem.F.slot_list_append PySem.F.type_list_append mt_append (pv 1) (pa_cons (pe_L (ok_Letter_init W) W.k_Letter (hr.mono (by decide)) rfl W.g_Letter (pa_cons (pe_ix (kix_tup K) (pv 2) pe_int (fun _ _ => rfl)) (pa_cons (pe_ix (kix_tup K) (pv 2) pe_int (fun _ _ => rfl)) (pa_cons (pe_ix (kix_tup K) (pv 2) pe_int (fun _ _ => rfl)) pa_nil))) (pk_cons (pe_callTy (klist_of K) rfl W.f_list (by decide +kernel) (pa_cons (pe_ix (kix_tup K) (pv 2) pe_int (fun _ _ => rfl)) pa_nil)) (pk_cons (pv 3) (pk_cons (pv 4) pk_nil)))) pa_nil)))))))
    (pss_one (ps_ret (pv 1))))), ?_⟩
    refine ⟨Nat.zero_le _, fun fa nfa => ?_⟩
    generalize e1 : upd H fa _ = H1
    obtain ⟨s1, hfa⟩ := gen_upd nfa e1
    have fab := lb hB nfa
    have hB1 := hB.mono s1
    refine ⟨_, rfl, sz_le (by show 3 ≤ 100000; decide), fun l1 nl1 => ?_⟩
    generalize e2 : upd H1 l1 _ = H2
    obtain ⟨s2, hl1⟩ := gen_upd nl1 e2
    refine ⟨_, rfl, b, c, 3, rfl, by decide, by decide, hB1.mono s2, by omega, fun w H3 w0 w1 s3 hB3 => ?_⟩
    obtain ⟨m, hm, m1, m8⟩ : ∃ z : Nat, atI [V.int 2, .int 4, .int 8] w = some (.int (z : Int)) ∧ 1 ≤ z ∧ z ≤ 8 := by
      have : w = 0 ∨ w = 1 ∨ w = 2 := by omega
      rcases this with rfl | rfl | rfl
      · exact ⟨2, rfl, by decide, by decide⟩
      · exact ⟨4, rfl, by decide, by decide⟩
      · exact ⟨8, rfl, by decide, by decide⟩
    refine ⟨l1, _, _, _, rfl, rfl, sqL (s3.at hl1 (lb hB1 nl1)), hm, b, c + 1, m, rfl, hB3, by omega, m1, m8, fun ra H4 ras rs s4 nra hB4 hra hrs hr1 hr8 hrok hrnd => ?_⟩
    have hfa4 := s4.at (s3.at (s2 _ _ hfa) fab) fab
    have sH4 : SameX [b] H H4 := ((SameX.of (s1.trans s2)).trans s3).trans s4
    have fara : fa ≠ ra := by
      have := s3.at (s2 _ _ hfa) fab
      exact ne_of_none this nra
    have rab : ra ≠ b := lb hB3 nra
    have rl := Paired.length hrs
    refine ⟨ra, rfl, ⟨_, sqL hra⟩, ?_⟩
    refine for_walk (w_list (xs := ras.map V.ref)) (fun i σ H' => (∃ v2 v3 v4 v5, σ = [some (.ref b), some (.ref fa), v2, v3, v4, v5]) ∧ SameX [b] H H' ∧ Bag H' b (c + 401 + 60 * (i : Int)) ∧ H' ra = some (.lst (ras.map V.ref)) ∧ Paired (RowAt H') ras rs ∧
      ∃ (as : List Addr) (Ls : List Lt), H' fa = some (.lst (as.map V.ref)) ∧ LettersAt K H' as Ls ∧ Ls.length = i ∧ (∀ L ∈ Ls, L.Ok) ∧ Ls.map (·.n) = (rs.map (·.n)).take i) ?_ (fun i σ H' _ p => sqL p.2.2.2.1) ?_ ?_
    · exact ⟨⟨_, _, _, _, rfl⟩, sH4, hB4.le (by omega), hra, hrs, [], [], hfa4, .nil, rfl, by simp, rfl⟩
    · rintro i v σ Hz H5 hi ⟨rfl, hv⟩ ⟨⟨v2, v3, v4, v5, rfl⟩, s5, hB5, hra5, hrs5, as, Ls, hfa5, hLs, hlen, hok, htk⟩
      rw [List.length_map] at hi
      obtain ⟨rfl, hm2, hi3⟩ := map_at (0 : Addr) hv
      have hai : ras[i]? = some (ras.getD i 0) := by simp [List.getD, List.getElem?_eq_getElem hi]
      obtain ⟨r, hri, ta, hrow, hta⟩ := paired_at hrs5 hai
      generalize ras.getD i 0 = row at hrow ⊢
      have rok : r.Ok := hrok r (List.mem_of_getElem? hri)
      -- subject
      refine ⟨_, rfl, b, _, 4, rfl, by decide, by decide, hB5, by omega, fun n6 H6 n60 n61 s6 hB6 => ?_⟩
      refine ⟨_, rfl, by omega, by omega, fun D hD => ?_⟩
      have hrow6 := s6.toN hB5 _ _ hrow (by intro xs z; cases z)
      have hta6 := s6.toN hB5 _ _ hta (by intro xs z; cases z)
      have s06 : SameX [b] H H6 := s5.trans s6
      obtain ⟨k, rfl⟩ : ∃ k : Nat, n6 = (k : Int) := ⟨n6.toNat, by omega⟩
      rw [Int.toNat_natCast]
      have hDb := lb hB6 hD
      refine lc_walk w_rng (fun j H' => SameX [b] H6 H' ∧ Bag H' b (c + 401 + 60 * (i : Int) + 1 + 9 * (j : Int)) ∧ ∃ xs : List PySem.Str, xs.length = j ∧ (∀ x ∈ xs, isName x = true) ∧ H' D = some (.lst (xs.map V.str))) ?_ (fun _ _ _ _ => trivial) ?_ ?_
      · exact ⟨SameX.of (same_new hD), (hB6.mono (same_new hD)).le (by omega), [], rfl, by simp, upd_same⟩
      · rintro j v Hy H7 hj ⟨rfl, rfl⟩ ⟨s7, hB7, xs, hxl, hxn, hD7⟩
        refine ⟨rfl, tyes ⟨_, rfl, b, _, rfl, hB7, by omega, fun x H8 hx s8 hB8 => ?_⟩⟩
        refine ⟨_, s8.at hD7 hDb, sz_lt (by rw [List.length_map]; omega), ?_⟩
        generalize e9 : upd H8 D _ = H9
        obtain ⟨h9, k9⟩ := gen_mut e9
        refine ⟨?_, ?_, xs ++ [x], by rw [List.length_append, hxl]; rfl, ?_, by rw [h9, List.map_append]; rfl⟩
        · rw [← e9]
          exact (s7.trans s8).young hD
        · obtain ⟨d, mm, k, hb, rr⟩ := hB8.le (c' := c + 401 + 60 * (i : Int) + 1 + 9 * ((j + 1 : Nat) : Int)) (by omega)
          exact ⟨d, mm, k, (k9 _ hDb.symm).trans hb, rr⟩
        · intro y hy
          rcases List.mem_append.mp hy with hy | hy
          · exact hxn y hy
          · rw [List.mem_singleton.mp hy]
            exact hx
      rintro H7 ⟨s7, hB7, xs, hxl, hxn, hD7⟩
      -- words
      refine ⟨_, rfl, b, _, rfl, hB7, by omega, fun w1 H8 hw1 s8 hB8 => ⟨sz_le (by show 1 ≤ 100000; decide), fun l8 nl8 => ?_⟩⟩
      generalize e9 : upd H8 l8 _ = H9
      obtain ⟨s9, hl8⟩ := gen_upd nl8 e9
      have l8b := lb hB8 nl8
      refine ⟨sz_le (by show 5 ≤ 100000; decide), fun l9 nl9 => ?_⟩
      generalize e10 : upd H9 l9 _ = H10
      obtain ⟨s10, hl9⟩ := gen_upd nl9 e10
      have l9b := lb (hB8.mono s9) nl9
      refine ⟨_, rfl, b, _, 5, rfl, by decide, by decide, (hB8.mono s9).mono s10, by omega, fun w H11 w0 w1' s11 hB11 => ?_⟩
      obtain ⟨z, hz, z2⟩ : ∃ z : Nat, atI [V.int 0, .int 1, .int 8, .int 9, .int 40] w = some (.int (z : Int)) ∧ z ≤ 40 := by
        have : w = 0 ∨ w = 1 ∨ w = 2 ∨ w = 3 ∨ w = 4 := by omega
        rcases this with rfl | rfl | rfl | rfl | rfl
        · exact ⟨0, rfl, by decide⟩
        · exact ⟨1, rfl, by decide⟩
        · exact ⟨8, rfl, by decide⟩
        · exact ⟨9, rfl, by decide⟩
        · exact ⟨40, rfl, by decide⟩
      refine ⟨l9, _, _, _, rfl, rfl, sqL (s11.at hl9 l9b), hz, l8, _, _, rfl, rfl, s11.at (s10 _ _ hl8) l8b, by omega, by omega, sz_le (by rw [Int.toNat_natCast]; show 1 * z ≤ 100000; omega), fun wa nwa => ?_⟩
      rw [Int.toNat_natCast, rep_one]
      generalize e12 : upd H11 wa _ = H12
      obtain ⟨s12, hwa⟩ := gen_upd nwa e12
      -- the letter
      have s8_10 := s9.trans s10
      have n6_12 : SameN H6 H12 := (((s7.toN hB6).trans (s8.toN hB7)).trans ((SameN.of s8_10).trans (s11.toN (hB8.mono s8_10)))).trans (SameN.of s12)
      have hrow12 := n6_12 _ _ hrow6 (by intro xs z; cases z)
      have hta12 := n6_12 _ _ hta6 (by intro xs z; cases z)
      have ob : ∀ {a : Addr} {o : HO}, H5 a = some o → a ≠ b → H12 a = some o := fun h hne => s12 _ _ (s11.at (s10 _ _ (s9 _ _ (s8.at (s7.at (s6.at h hne) hne) hne))) hne)
      have hfa12 := ob hfa5 fab
      have hra12 := ob hra5 rab
      have hD12 : H12 D = some (.lst (xs.map V.str)) := s12 _ _ (s11.at (s10 _ _ (s9 _ _ (s8.at hD7 hDb))) hDb)
      refine ⟨_, rfl, .inl ⟨rfl, _, sqL hfa12⟩, ?_⟩
      refine ⟨_, rfl, row, _, 0, .int r.n, rfl, rfl, sqT hrow12, rfl, ?_⟩
      refine ⟨_, rfl, row, _, 1, .str r.p, rfl, rfl, sqT hrow12, rfl, ?_⟩
      refine ⟨_, rfl, row, _, 2, .str r.h, rfl, rfl, sqT hrow12, rfl, ?_⟩
      refine ⟨_, rfl, row, _, 3, .ref ta, rfl, rfl, sqT hrow12, rfl, ta, _, rfl, .inr (sqT hta12), fun aa naa => ?_⟩
      generalize e13 : upd H12 aa _ = H13
      obtain ⟨s13, haa⟩ := gen_upd naa e13
      refine ⟨_, rfl, _, rfl, rfl, rfl, fun x dx nx ndx nex => ?_⟩
      have sx : Same H13 (upd (upd H13 dx (.own x)) x (.ins (He.ga K "Letter") dx [])) := fun b o e => by
        rw [upd_ne (ne_of_none e nx), upd_ne (ne_of_none e ndx)]
        exact e
      let L : Lt := ⟨r.n, r.p, r.h, r.ans, xs, List.replicate z w1⟩
      have Lok : L.Ok := ⟨rok.n, rok.p, rok.h, rok.a8, rok.an, rok.ai, rok.ad, by show xs.length ≤ 8; omega, hxn, by show (List.replicate z w1).length ≤ 40; rw [List.length_replicate]; exact z2, fun y hy => by rw [List.eq_of_mem_replicate hy]; exact hw1⟩
      refine ⟨H13, x, dx, aa, D, wa, L, rfl, sx, nx, upd_same, Lok, haa, s13 _ _ hD12, ?_, fun H14 s14 hL14 => ⟨rfl, ?_⟩⟩
      · rw [s13 _ _ hwa]
        show some (HO.lst (List.replicate z (V.str w1))) = some (.lst ((List.replicate z w1).map V.str))
        rw [List.map_replicate]
      have hfa14 := s14 _ _ (s13 _ _ hfa12)
      have las := Paired.length hLs
      refine ⟨fa, _, _, rfl, rfl, hfa14, sz_lt (by rw [List.length_map]; omega), ?_⟩
      generalize e15 : upd H14 fa _ = H15
      obtain ⟨h15, k15⟩ := gen_mut e15
      have n15 : SameN H14 H15 := by rw [← e15]; exact SameN.upd hfa14
      have n5_14 : SameN H5 H14 := ((s6.toN hB5).trans n6_12).trans (SameN.of (s13.trans s14))
      have s5_14 : SameX [b] H5 H14 := (((((s6.trans s7).trans s8).trans (SameX.of s8_10)).trans s11).trans (SameX.of s12)).trans (SameX.of (s13.trans s14))
      refine ⟨⟨_, _, _, _, rfl⟩, ?_, ?_, (k15 _ fara.symm).trans (s14 _ _ (s13 _ _ hra12)), paired_mono hrs5 fun _ _ z => z.monoN (n5_14.trans n15), as ++ [x], Ls ++ [L], by rw [h15, List.map_append]; rfl, ?_, by rw [List.length_append, hlen]; rfl, ?_, ?_⟩
      · rw [← e15]
        exact (s5.trans s5_14).young nfa
      · obtain ⟨d, mm, k, hb, rr⟩ := (((hB11.mono s12).mono s13).mono s14).le (c' := c + 401 + 60 * ((i + 1 : Nat) : Int)) (by omega)
        exact ⟨d, mm, k, (k15 _ fab.symm).trans hb, rr⟩
      · exact paired_app (lettersN hLs (n5_14.trans n15)) (.cons (hL14.monoN n15) .nil)
      · intro M hM
        rcases List.mem_append.mp hM with hM | hM
        · exact hok M hM
        · rw [List.mem_singleton.mp hM]
          exact Lok
      · rw [List.map_append, htk, List.take_add_one, List.getElem?_map, hri]
        rfl
    · rintro σ H5 ⟨⟨v2, v3, v4, v5, rfl⟩, s5, hB5, hra5, hrs5, as, Ls, hfa5, hLs, hlen, hok, htk⟩
      rw [List.length_map] at hlen htk hB5
      refine ⟨_, rfl, q fa H5 as Ls s5 nfa (hB5.le (by omega)) hfa5 hLs (by omega) (by omega) hok ?_⟩
      rw [htk]
      exact hrnd.sublist (List.take_sublist _ _)
end
end K75
end T_B5

section T_Own
set_option Elab.async false
set_option linter.all false
set_option maxRecDepth 100000
set_option maxHeartbeats 4000000
namespace K75
open PySem PySem.Spec PyProof.Rows L2
section
variable {X : Cx} {k : Nat} {f C : Addr} {fd : FuncData} {ps : List PySem.Str} {sp : Sp} {pins : List (Addr × Obj)} {σ : L2.St} {H : Hp} {s : Shared}
/-- a def of the program called from within a built-in -/
theorem run_at {A : Around} {us : List Value} {vs : List V} {Q : VK} (F : FnOk X.prog X.w X.K X.mg X.base CX0 k f fd ps sp) (hr : Room k A) (fr : A.frames = X.A.frames) (hb : Binds X.K fd ps []) (I : Inv X pins σ H s) (r : Vals vs us) (h : sp vs H Q E0) :
    wpAny (model X.prog X.w) A (call (.ref f) us) (EP X pins σ Q) X.xe s := by
  have e0 : Env0 X.prog X.w X.K X.mg X.base A X.stack s H := by
    have e := I.env0
    exact ⟨by rw [fr]; exact e.frames, e.mod, e.bs, e.bsz, e.funs, e.frf, e.hok, e.bare⟩
  have hl := F.len _ _ _ _ h
  have hl2 : (us ++ []).length = ps.length := by rw [List.append_nil, ← r.length]; exact hl
  refine wpAny_call (codeAny_mono (F.run A X.stack s H ⟨us, []⟩ us vs Q E0 hr e0 (by
    have := hb s us I.kIn hl2
    simpa using this) r h) fun r s' hq => ?_)
  cases r with
  | error e => exact (pass0 (X := X)) pins σ H s e s' I hq
  | ok fl =>
    cases fl with
    | ret w =>
      obtain ⟨z, H', I', rz, q⟩ := I.after hq
      exact ⟨z, H', I', rz, q⟩
    | next => exact False.elim hq
    | brk => exact False.elim hq
    | cont => exact False.elim hq
theorem special_own {M : Model} {A : Around} {E : Value → Shared → Prop} {K : PySem.W.Frag} {x : Addr} {ox : Obj} {od : Option Obj} {name : PySem.Str} {args : List Value} {Q : Option Value → Shared → Prop} (Y : K.In s.heap) (I : PySem.W.InstAt s.heap x ox C od) (hs : PySem.W.findIn K (.ref C) name = some (some (.ref f)))
    (hf : PySem.W.isFn K (.ref f) = true) (h : wpAny M A (call (.ref f) (.ref x :: args)) (fun v => Q (some v)) E s) : wpAny M A (callSpecial? (.ref x) name args) Q E s := by
  unfold callSpecial?
  refine wpAny_bind (wpAny_bind (I.type.here ((PySem.W.looks_findIn Y hs).here ?_)))
  refine wpAny_holding (wpAny_bind ((PySem.W.bind_fn Y _ (beq_iff_eq.mp hf)).here ?_))
  exact wpAny_bind (wpAny_mono h (fun v s' h' => wpAny_pure h') fun _ _ h' => h')
/-- len(o), o of an own class with __len__ -/
def rLenOwn (C : Addr) (sp : Sp) : List V → Hp → VK → Prop := fun xs H Q => ∃ a dx fs, xs = [.ref a] ∧ H a = some (.ins C dx fs) ∧ sp [.ref a] H (fun v H' => ∃ n : Int, v = .int n ∧ 0 ≤ n ∧ n < 2 ^ 63 ∧ Q (.int n) H') E0
theorem call_lenOwn {d : He5.DefA} (O : Ok X.prog X.w X.K X.mg X.base k d ps sp) (m : Meth X.K C "__len__" (d.at_ X.K)) (hr : Room (k + 1) X.A) : CallR X (.builtin "len") (rLenOwn C sp) := by
  intro pins s σ H xs us Q I r h
  obtain ⟨fd, F, kp, b⟩ := O
  obtain ⟨a, dx, fs, rfl, ha, h⟩ := h
  obtain ⟨hf, hfn, _⟩ := m
  cases r with
  | cons ra rr =>
    cases rr
    cases ra
    obtain ⟨mA, J, _⟩ := ins_get I.hok ha
    obtain ⟨od, J, _⟩ := J.look
    refine Calls.call_function_entry kind_len plain_len entry_len (args_len1 _) ?_
    unfold Builtin.«len»
    refine wpAny_bind (m := PySem.oneArg "len" _) (wpAny_pure ?_)
    have r2 : Vals [V.ref a] [Value.ref a] := .cons rfl .nil
    have hc := run_at (A := X.A.in1) F hr.in1 rfl b I r2 h
    refine wpAny_bind (m := callSpecial? (.ref a) (Str.ofString "__len__")) (special_own I.kIn J hf hfn (wpAny_mono hc (fun rv s' hq => ?_) fun _ _ z => z))
    obtain ⟨v, H', I', rv', n, rfl, n0, n1, q⟩ := hq
    obtain ⟨t, rfl⟩ := rv'
    refine wpAny_bind (wpAny_holding (wpAny_pure ?_))
    refine wpAny_bind (wpAny_letGo ?_)
    show wpAny _ _ (if n < 0 then _ else _) _ _ _
    rw [if_neg (by omega)]
    show wpAny _ _ (if n ≥ 2 ^ 63 then _ else _) _ _ _
    rw [if_neg (by omega)]
    exact wpAny_bind (wpAny_mkInt (wpAny_pure ⟨_, rfl, .int n, H', I'.tok _, ⟨_, rfl⟩, q⟩))
/-- x in o, o of an own class with __contains__ -/
def rInOwn (C : Addr) (sp : Sp) (g : Bool → Bool) : R2 := fun x y H Q => ∃ a dx fs, y = .ref a ∧ H a = some (.ins C dx fs) ∧ sp [.ref a, x] H (fun v H' => ∃ c : Bool, v = .bl c ∧ Q (.bl (g c)) H') E0
theorem contains_own {d : He5.DefA} (O : Ok X.prog X.w X.K X.mg X.base k d ps sp) (m : Meth X.K C "__contains__" (d.at_ X.K)) (hr : Room k X.A) {x : V} {v : Value} {a dx : Addr} {fs : List (PySem.Str × V)} (I : Inv X pins σ H s) (ha : H a = some (.ins C dx fs)) (rx : RelV x v) {Q : Bool → Hp → Prop}
    (h : sp [.ref a, x] H (fun v H' => ∃ c : Bool, v = .bl c ∧ Q c H') E0) : wpAny (model X.prog X.w) X.A (contains (.ref a) v) (fun c s' => ∃ H', Inv X pins σ H' s' ∧ Q c H') X.xe s := by
  obtain ⟨fd, F, kp, b⟩ := O
  obtain ⟨hf, hfn, _⟩ := m
  obtain ⟨mA, J, _⟩ := ins_get I.hok ha
  obtain ⟨od, J, _⟩ := J.look
  have r2 : Vals [V.ref a, x] [Value.ref a, v] := .cons rfl (.cons rx .nil)
  have hc := run_at F hr rfl b I r2 h
  unfold contains
  refine wpAny_holding ?_
  rw [stdlibNamesSay?_ref]
  refine wpAny_bind (wpAny_bind (J.type.here ((PySem.W.looks_findIn I.kIn hf).here ?_)))
  show wpAny _ _ (if (some (Value.ref (d.at_ X.K)) == some Value.none) = true then _ else _) _ _ s
  rw [if_neg (by simp)]
  unfold callSpecialUnlessNone?
  refine wpAny_bind (wpAny_bind (wpAny_bind (J.type.here ((PySem.W.looks_findIn I.kIn hf).here ?_))))
  refine wpAny_holding (wpAny_bind ((PySem.W.bind_fn I.kIn _ (beq_iff_eq.mp hfn)).here ?_))
  show wpAny _ _ (if (Value.ref (d.at_ X.K) == Value.none) = true then _ else _) _ _ s
  rw [if_neg (by simp)]
  refine wpAny_bind (wpAny_mono hc (fun rv s' hq => wpAny_pure ?_) fun _ _ z => z)
  obtain ⟨w, H', I', rw', c, rfl, q⟩ := hq
  cases rw'
  exact wpAny_truthy_bool ⟨H', I', q⟩
theorem op_inOwn {d : He5.DefA} (O : Ok X.prog X.w X.K X.mg X.base k d ps sp) (m : Meth X.K C "__contains__" (d.at_ X.K)) (hr : Room k X.A) : OpR X (compareOp .In) (rInOwn C sp fun b => b) := by
  intro pins s σ H x y v u Q I rx ry h
  obtain ⟨a, dx, fs, rfl, ha, h⟩ := h
  cases ry
  refine wpAny_bind (wpAny_mono (contains_own O m hr I ha rx h) (fun c s' hq => wpAny_pure ?_) fun _ _ z => z)
  obtain ⟨H', I', q⟩ := hq
  exact ⟨.bl c, H', I', rfl, q⟩
theorem op_notinOwn {d : He5.DefA} (O : Ok X.prog X.w X.K X.mg X.base k d ps sp) (m : Meth X.K C "__contains__" (d.at_ X.K)) (hr : Room k X.A) : OpR X (compareOp .NotIn) (rInOwn C sp fun b => !b) := by
  intro pins s σ H x y v u Q I rx ry h
  obtain ⟨a, dx, fs, rfl, ha, h⟩ := h
  cases ry
  refine wpAny_bind (wpAny_mono (contains_own O m hr I ha rx h) (fun c s' hq => wpAny_pure ?_) fun _ _ z => z)
  obtain ⟨H', I', q⟩ := hq
  exact ⟨.bl (!c), H', I', rfl, q⟩
end
end K75
end T_Own

section T_SetInt
set_option Elab.async false
set_option linter.all false
set_option maxRecDepth 100000
set_option maxHeartbeats 4000000
/-! {e for x in xs if t}: the set of the ints that come -/
namespace K75
open PySem PySem.Spec PyProof.Rows L2 PpSet
section
variable {X : Cx}
/-- the set after k has come -/
def withK (w : World) (D : Addr) (S : Int → Bool) (n : Nat) (k : Int) : HO := SetO w D (fun j => S j || decide (j = k)) (if S k = true then n else n + 1)
theorem addI_ok {pins : List (Addr × Obj)} {σ : L2.St} {H : Hp} {s : Shared} {E : Value → Shared → Prop} {D : Addr} {S : Int → Bool} {n : Nat} {k : Int} {tk : Tok} {Q : Value → Shared → Prop} (I : Inv X pins σ H s) (hD : H D = some (SetO X.w D S n)) (room : n + 1 < scanBound)
    (h : ∀ s', Inv X pins σ (upd H D (withK X.w D S n k)) s' → Q .none s') : wpAny (model X.prog X.w) X.A (call (.builtin "set.add") [.ref D, .int k tk]) Q E s :=
  setR_add (setO_get I hD) room fun h' sb new => h _ (I.write (e := D) (t' := s.toks + 1) (by rw [hD]; trivial) (.inl rfl) (fun b u hb hu => (sb.2 b hb).trans hu) (let ⟨o, _, _, _, ho, _⟩ := new; ⟨o, ho⟩) (setO_new new))
/-- one turn of the loop, and its end: what the int set asks -/
def ScI (w : World) (D : Addr) (J : It) (g : TG) (tt : TT) (te : TE) (vs : List Nat) (σ : L2.St) (Q : VK) (W : Nat → Nat → Hp → Prop) : Prop := ∀ i m H, W i m H →
  (J.stop i H ∧ Q (.ref D) H) ∨ (J.go i H ∧ ∃ Nx : Hp → Prop, (∀ H', Nx H' → ∃ m', m' < m ∧ W (i + 1) m' H') ∧ ∀ x H', J.yld i H x H' → g x (wipe σ vs) H' fun σ2 H2 => wipe σ2 vs = wipe σ vs ∧ tt σ2 H2 fun b H3 =>
    if b = true then te σ2 H3 fun y H4 => ∃ (k : Int) (S : Int → Bool) (n : Nat), y = .int k ∧ H4 D = some (SetO w D S n) ∧ n + 1 < scanBound ∧ Nx (upd H4 D (withK w D S n k)) else Nx H3)
def tScI (w : World) (wi : TI) (g : TG) (tt : TT) (te : TE) (vs : List Nat) : TE := fun σ H Q => wi σ H fun J H1 => ∀ D, H1 D = none → ∃ W : Nat → Nat → Hp → Prop, (∃ m, W 0 m (upd H1 D (SetO w D (fun _ => false) 0))) ∧ ScI w D J g tt te vs σ Q W
/-- the walked object's own cells, while the block runs -/
theorem cells_ok {sB : Shared} {HB : Hp} {scope : Scope} {env : Env} {fp : List Addr} {σ' : L2.St} {H' : Hp} {s' : Shared} (I' : Inv (X.blk sB HB scope env fp) [] σ' H' s') (hn : ∀ b ∈ fp, H' b = none) : ∀ b ∈ fp, FpOk (X.blk sB HB scope env fp) [] H' b := fun b hb => by
  have x1 := I'.ok.exf b hb
  exact ⟨hn b hb, x1.1, I'.ok.exfs b hb, .inl hb, fun x c e => x1.2 x c e, fun p hp => by cases hp⟩
theorem scI_core {pins : List (Addr × Obj)} {s : Shared} {σ : L2.St} {H : Hp} {Q : VK} {elt tg iter : Expr} {ifs : List Expr} {scope : Scope} {own : List (PySem.Str × Nat)} {pos pos' : Pos} {wi : TI} {g : TG} {tt : TT} {te : TE} {use : Option (Value → Sem Unit)} {Qf : Value → Shared → Prop}
    (hc : X.calm = true) (nd : X.N.Nodup) (I : Inv X pins σ H s) (walk : PI X tg iter wi) (ok : BlkOk X.N X.env.scope scope own)
    (hg : ∀ (s : Shared) (H : Hp) (C : Addr) (cl : List (PySem.Str × Addr)) (fp : List Addr), PG (X.blk s H scope (compEnvC scope cl C X.env) fp) tg g) (ht : ∀ (s : Shared) (H : Hp) (C : Addr) (cl : List (PySem.Str × Addr)) (fp : List Addr), PTs (X.blk s H scope (compEnvC scope cl C X.env) fp) ifs tt)
    (he : ∀ (s : Shared) (H : Hp) (C : Addr) (cl : List (PySem.Str × Addr)) (fp : List Addr), PE (X.blk s H scope (compEnvC scope cl C X.env) fp) elt te) (hs : ∀ x, foldedSetIterable iter X.env x = pure x)
    (h : tScI X.w wi g tt te (own.map (·.2)) σ H Q)
    (out : ∀ D C s' m H', Inv X pins σ H' s' → Q (.ref D) H' → s'.heap.Ns C m → FpOk X pins H' C → compPost (model X.prog X.w) X.A X.xe use Qf (.ref D) C (.ok .next) s') :
    wpAny (model X.prog X.w) X.A (comprehension (.SetComp elt [⟨tg, iter, ifs, 0⟩] scope pos) scope X.env pos' (newSet (.type "set")) false (eval iter X.env) use) Qf X.xe s := by
  have closes : ∀ y ∈ scope.names, y.2 = .free → ∃ c, X.env.cells.lookup y.1 = some c := fun y hy e => (ok.free y hy e).elim (fun z => I.ok.has _ (.inl z)) fun z => I.ok.has _ (.inr z)
  refine wpAny_comprehension_free (use := use) rfl hs (closure_ok closes) ok.kind (fun y hy e => by rw [ok.uniq y hy, e]) (thn (walk.run pins s σ H _ I h) fun xv sa ha => thn ha fun itv sb hb => ?_)
  obtain ⟨it, fp, tn, J, Hb, rfl, Ib, T, st, fpk, asks⟩ := hb
  refine newSet_ok (newEnv_comp ?_)
  obtain ⟨D, eD⟩ : ∃ D, D = sb.heap.objs.size := ⟨_, rfl⟩
  rw [← eD]
  obtain ⟨W, ⟨m0, w0⟩, turn⟩ := asks D (Ib.hok.fresh (by rw [eD]; exact Nat.le_refl _))
  -- the heap with the new set
  let HD : Hp := upd Hb D (SetO X.w D (fun _ => false) 0)
  let sd : Shared := { sb with heap := sb.heap.push { cls := .type "set", dict := none, data := .set #[] 0 (.fresh 0 0 (!X.w.params.followText "set-order")) } }
  have keepD : ∀ b o, sb.heap.get? b = some o → sd.heap.get? b = some o := fun b o e => Heap.get?_push_of_some _ e
  have Id : Inv X pins σ HD sd := Ib.laid (t' := sb.toks) keepD (by rw [eD]; exact Nat.le_refl _) (by
    have z := setR_fresh (h := sb.heap) X.w
    rw [← eD] at z
    exact setO_new z)
  have fpd : ∀ b ∈ fp, FpOk X pins HD b ∧ b < sd.heap.objs.size := fun b hbf => by
    obtain ⟨o, e, _⟩ := T.obj _ _ st b hbf
    have lt := Heap.lt_size e
    have ne : b ≠ D := by rw [eD]; exact Nat.ne_of_lt lt
    exact ⟨⟨(upd_ne ne).trans (fpk b hbf).1, (fpk b hbf).2⟩, by show b < (Heap.push _ _).objs.size; rw [Heap.size_push]; exact Nat.lt_succ_of_lt lt⟩
  have std : tn 0 sd.heap := T.keep _ _ _ st fun b _ o e => keepD b o e
  have Ik := block_start Id ok nd fpd
  let cl := cellsFrom (sd.heap.objs.size + 1) scope.names (cloFrom X.env.cells scope.names [])
  have pg := hg sd HD sd.heap.objs.size cl fp
  have pt := ht sd HD sd.heap.objs.size cl fp
  have pe := he sd HD sd.heap.objs.size cl fp
  show codeAny _ _ (.compStart (.SetComp elt [⟨tg, iter, ifs, 0⟩] scope pos) 0 (.ref it) (.ref D) (compEnvC scope cl sd.heap.objs.size X.env)) (compPost (model X.prog X.w) X.A X.xe use Qf (.ref D) sd.heap.objs.size) { sd with heap := pushCells (sd.heap.push { cls := .type "dict", data := .dict #[] }) scope.names }
  have none0 : ∀ b ∈ fp, HD b = none := fun b hbf => (fpd b hbf).1.1
  generalize hce : compEnvC scope cl sd.heap.objs.size X.env = ce at Ik pg pt pe ⊢
  have cloc : ce.locals = sd.heap.objs.size := by rw [← hce]; rfl
  have stk : tn 0 (pushCells (sd.heap.push { cls := .type "dict", data := .dict #[] }) scope.names) := T.keep _ _ _ std fun b _ o e => pushCells_keeps _ _ _ _ (Heap.get?_push_of_some _ e)
  have w0' : W 0 m0 HD := w0
  clear_value HD sd
  have loop : codeAny (model X.prog X.w) X.A (.compLoop (.SetComp elt [⟨tg, iter, ifs, 0⟩] scope pos) 0 (.ref it) (.ref D) ce) (compPost (model X.prog X.w) X.A X.xe use Qf (.ref D) sd.heap.objs.size) { sd with heap := pushCells (sd.heap.push { cls := .type "dict", data := .dict #[] }) scope.names } := by
    refine compLoopS_any (fun n s' => ∃ i H', Inv (X.blk sd HD scope ce fp) [] (wipe σ (own.map (·.2))) H' s' ∧ tn i s'.heap ∧ (∀ b ∈ fp, H' b = none) ∧ W i n H') ?_ m0 ⟨0, HD, Ik, stk, none0, w0'⟩
    rintro n sx ⟨i, Hx, Ix, stx, nx, wx⟩
    rcases turn i n Hx wx with ⟨stop, fin⟩ | ⟨go, Nx, back, step⟩
    · refine thnF (T.done (X.blk sd HD scope ce fp) rfl rfl rfl hc i [] sx _ Hx (fun _ _ => False) Ix (cells_ok Ix nx) stx stop) fun r sy hr => ?_
      obtain ⟨rfl, Iy⟩ := hr
      have Iz : Inv X pins σ Hx sy := Id.call' (ch := fp) Iy.os Iy.base Iy.hok Iy.bare fun b hbf => by
        have z := (fpd b hbf).1.2
        exact ⟨z.2.2.1, z.1, z.2.2.2.1, z.2.2.2.2⟩
      have fr : Hx ce.locals = none := Iy.free
      obtain ⟨m, hm, _⟩ := Iy.loc
      have hm : sy.heap.Ns ce.locals m := hm
      rw [cloc] at hm fr
      exact out D sd.heap.objs.size sy m Hx Iz fin hm (Id.fpOk (Nat.le_refl _) fr)
    · refine thnF (T.item (X.blk sd HD scope ce fp) rfl rfl rfl hc i [] sx _ Hx (fun _ _ => False) Ix (cells_ok Ix nx) stx go) fun r sy hr => ?_
      obtain ⟨u, rfl, hy⟩ := hr
      refine thnF hy fun _ sz ⟨x, Hz, Iz, rz, yz, stz, nz⟩ => ?_
      -- the turn is over: back to the invariant
      have over : ∀ {s' : Shared} {σ8 : L2.St} {H' : Hp}, wipe σ8 (own.map (·.2)) = wipe σ (own.map (·.2)) → Inv (X.blk sd HD scope ce fp) ([] ++ pinsAt fp sz.heap) σ8 H' s' → Nx H' →
          ∃ m, m < n ∧ ∃ i H', Inv (X.blk sd HD scope ce fp) [] (wipe σ (own.map (·.2))) H' s' ∧ tn i s'.heap ∧ (∀ b ∈ fp, H' b = none) ∧ W i m H' := fun {s' σ8 H'} ew I' nn => by
        obtain ⟨m', lt, w'⟩ := back H' nn
        have pinned : ∀ b ∈ fp, ∀ o, sz.heap.get? b = some o → s'.heap.get? b = some o ∧ H' b = none := fun b hbf o e => by
          have z := I'.pin (b, o) (List.mem_append_right _ (List.mem_append_right _ (mem_pinsAt hbf e)))
          exact ⟨z.1, z.2.1⟩
        refine ⟨m', lt, i + 1, H', (I'.unpinned (pins := [])).weak (by rw [← ew, wipe_length]) (fun j v e => ?_), T.keep _ _ _ stz fun b hbf o e => (pinned b hbf o e).1, fun b hbf => ?_, w'⟩
        · rw [← ew] at e
          exact (wipe_some e).1
        · obtain ⟨o, e, _⟩ := T.obj _ _ stz b hbf
          exact (pinned b hbf o e).2
      refine thnF (pg.run _ sz _ Hz x u _ (Iz.pinned (cells_ok Iz nz) (T.obj _ _ stz)) rz (step x Hz yz)) fun _ s8 ⟨σ8, H8, I8, ew, q8⟩ => ?_
      refine thnF (pt.run _ s8 σ8 H8 _ I8 q8) fun b s9 ⟨H9, I9, q9⟩ => ?_
      cases b with
      | true =>
        simp only [if_true] at q9 ⊢
        refine thnF (pe.run _ s9 σ8 H9 _ I9 q9) fun z sA ⟨yv, HA, IA, rA, k, S0, n0, ey, hDA, room, nn⟩ => ?_
        subst ey
        obtain ⟨tk, rfl⟩ := (show ∃ tk, z = Value.int k tk from rA)
        exact addI_ok (X := X.blk sd HD scope ce fp) IA hDA room fun sB IB => over ew IB nn
      | false =>
        simp only [Bool.false_eq_true, if_false] at q9 ⊢
        exact over ew I9 q9
  exact codeAny_compStart_set loop (T.self X.A 0 _ _ _ stk loop)
theorem pe_scI {elt tg iter : Expr} {ifs : List Expr} {scope : Scope} {own : List (PySem.Str × Nat)} {pos : Pos} {wi : TI} {g : TG} {tt : TT} {te : TE} (hc : X.calm = true) (nd : X.N.Nodup) (walk : PI X tg iter wi) (ok : BlkOk X.N X.env.scope scope own)
    (hg : ∀ (s : Shared) (H : Hp) (C : Addr) (cl : List (PySem.Str × Addr)) (fp : List Addr), PG (X.blk s H scope (compEnvC scope cl C X.env) fp) tg g) (ht : ∀ (s : Shared) (H : Hp) (C : Addr) (cl : List (PySem.Str × Addr)) (fp : List Addr), PTs (X.blk s H scope (compEnvC scope cl C X.env) fp) ifs tt)
    (he : ∀ (s : Shared) (H : Hp) (C : Addr) (cl : List (PySem.Str × Addr)) (fp : List Addr), PE (X.blk s H scope (compEnvC scope cl C X.env) fp) elt te) (hs : ∀ x, foldedSetIterable iter X.env x = pure x := by intro _; rfl) :
    PE X (.SetComp elt [⟨tg, iter, ifs, 0⟩] scope pos) (tScI X.w wi g tt te (own.map (·.2))) := by
  refine ⟨fun pins s σ H Q I h => ?_⟩
  rw [eval_SetComp]
  refine scI_core hc nd I walk ok hg ht he hs h fun D C s' m H' I' q ns f => ⟨m, ns, fun h'' sb => ?_⟩
  have f' := f
  obtain ⟨a0, a1, a2, a3, a4, a5⟩ := f'
  exact ⟨.ref D, H', I'.turned (t' := s'.toks) (fun b o hb e => (sb.2 b hb).trans e) a0 a1 a3 a4 a5, rfl, q⟩
end
end K75
end T_SetInt

section T_ListVals
set_option Elab.async false
set_option linter.all false
set_option maxRecDepth 100000
set_option maxHeartbeats 4000000
/-! list(d.values()) -/
namespace K75
open PySem PySem.Spec PyProof.Rows L2
def tListVals (te : TE) : TE := fun σ H Q => te σ H fun x H1 => ∃ (d : Addr) (kvs : List (Key × V)), x = .ref d ∧ H1 d = some (.dK kvs) ∧ ∀ p, H1 p = none → Q (.ref p) (upd H1 p (.lst (kvs.map (·.2))))
theorem vals_by : ∀ {xs : List V} {us : List Value}, xs.length = us.length → (∀ (j : Nat) (x : V) (u : Value), xs[j]? = some x → us[j]? = some u → RelV x u) → Vals xs us
  | [], [], _, _ => .nil
  | [], _ :: _, h, _ => by simp at h
  | _ :: _, [], h, _ => by simp at h
  | x :: xs, u :: us, h, f => .cons (f 0 x u rfl rfl) (vals_by (by simpa using h) fun j y w a b => f (j + 1) y w (by simpa using a) (by simpa using b))
section
variable {X : Cx} {e : Expr} {te : TE} {p apos cpos pos : Pos}
theorem pe_listVals (hc : X.calm = true) (hg : Gl X "list") (hm : X.mg "list" = none) (he : PE X e te) (hbase : attributeBase e "values" X.env (eval e X.env) = eval e X.env := by rfl) (hline : (apos.endLine == cpos.line) = true := by rfl)
    (hs : starEach [.Call (.Attribute e "values" apos) [] [] cpos] X.env = (false, eval (.Call (.Attribute e "values" apos) [] [] cpos) X.env) :: starEach [] X.env := by rfl) :
    PE X (.Call (.Name "list" p) [.Call (.Attribute e "values" apos) [] [] cpos] [] pos) (tListVals te) := by
  refine ⟨fun pins s σ H Q I hq => ?_⟩
  refine wpAny_Call_Name_kw (ld_blt I hg hm boot_list ?_)
  refine PyProof.Rows.callWith_type1 ?_ hs rfl
  rw [hs]
  show wpAny _ _ (spliced ((false, eval (.Call (.Attribute e "values" apos) [] [] cpos) X.env) :: backTo pos (starEach [] X.env))) _ _ s
  refine Calls.spliced_cons ?_
  refine wpAny_Call_method (T := "dict") (id := "dict.values") hbase rfl hline F.plainAttrs_dict F.slot_dict_values F.type_dict_values (thn (he.run pins s σ H _ I hq) fun u s1 ⟨x, H1, I1, rx, d, kvs, ex, hd, q⟩ => ?_)
  subst ex
  obtain rfl : u = Value.ref d := rx
  obtain ⟨hz, hs0, vs, kv, hdo⟩ := I1.hok d _ hd
  obtain ⟨ep, hat⟩ := hdo.dictAt
  have lk : kvs.length = vs.length := Paired.length kv
  have I2 : Inv X pins σ H1 { s1 with heap := s1.heap.push { cls := .type "dict_values", data := .fields #[.ref d] } } := I1.kept (t' := s1.toks) fun b ob q => Heap.get?_push_of_some _ q
  refine ⟨hdo.typeIs, hdo.mapOf.noDict, ?_⟩
  show wpAny _ _ (callWith cpos (.builtin "dict.values") [.ref d] [] []) _ X.xe s1
  refine method_meetsIn F.slot_dict_values F.entry_dict_values rfl (PySem.evalArgs_none ⟨rfl, hdo.typeIs, F.args_dict_values_1 _, _, meets_dict_values (mixKind X.prog X.w) d hs0, ⟨vs, hdo⟩, ?_⟩)
  refine Calls.spliced_nil ?_
  refine PySem.W.kdl_call (PySem.W.kdl_values (knd := mixKind X.prog X.w) (kvs := vs) (ep := ep)) (I1.ok.hd hc) ⟨⟨_, Heap.get?_push_size _ rfl, rfl, rfl⟩, hat.push _⟩ (by rw [← lk]; exact hz) fun h' tk acc c hk hS hacc => ?_
  refine ⟨.ref _, upd H1 _ (.lst (kvs.map (·.2))), I2.laid (t' := tk) hk (Nat.le_refl _) (show ObjOk X.prog X.w _ _ _ (.lst (kvs.map (·.2))) from ⟨by rw [List.length_map]; exact hz, acc.toList, c, ?_, by rw [Array.toArray_toList]; exact hS⟩), rfl, q _ (I2.hok.fresh (Nat.le_refl _))⟩
  have el : acc.toList.length = acc.size := by simp
  refine vals_by (by rw [List.length_map, el, hacc.1, lk]) fun j x w h1 h2 => ?_
  obtain ⟨k, hk2⟩ := hacc.2 j w (by rw [← Array.getElem?_toList]; exact h2)
  rw [List.getElem?_map] at h1
  cases e3 : kvs[j]? with
  | none =>
    rw [e3] at h1
    cases h1
  | some q0 =>
    rw [e3] at h1
    cases h1
    obtain ⟨y, hy, hr⟩ := paired_at kv e3
    rw [hk2] at hy
    cases hy
    exact hr.2
end
end K75
end T_ListVals

section T_Fmt
set_option Elab.async false
set_option linter.all false
set_option maxRecDepth 100000
set_option maxHeartbeats 4000000
/-! f'{n:>3}', n a small int -/
namespace K75
open PySem PySem.Spec PyProof.Rows L2
open Builtin Builtin.Str Builtin.Int Builtin.Float
def f3 : FormatSpec := { align := 62, width := some 3 }
theorem f3_ok : parseFormatSpec (">3" : PySem.Str).cps.toList "int" 62 = .ok f3 := by kernel_rfl
theorem f3_good : intSpecGood ">3" f3 = true := by decide +kernel
/-- the number, three signs wide at least -/
def pad3 (a : Int) : PySem.Str := intSpecText f3 a
theorem pad3_len {a : Int} (h0 : 0 ≤ a) (h1 : a < 1000) : (pad3 a).length = 3 := by
  have hF := intSpecFacts (f := f3) a (by decide +kernel) (by decide +kernel)
  unfold pad3
  have hw : f3.width.getD 0 = 3 := by decide +kernel
  rw [hF.lenNonneg h0, hw]
  have : (Nat.toDigits 10 a.natAbs).length ≤ 3 := digits10_le (by decide) (by omega)
  omega
section
variable {prog : Program} {w : World} {A : Around} {E : Value → Shared → Prop} {s : Shared}
theorem mkStr_eq {M : Model} {y z : PySem.Str} {Q : Value → Shared → Prop} (h : wpAny M A (mkStr z) Q E s) (e : y = z) : wpAny M A (mkStr y) Q E s := e ▸ h
theorem formatField3 {a : Int} {t : Tok} {Q : Value → Shared → Prop} (h0 : 0 ≤ a) (h1 : a < 1000) (h : Q (.str (pad3 a) (s.toks + 1)) { s with toks := s.toks + 1 + 1 }) :
    wpAny (model prog w) A (formatField (.int a t) ">3") Q E s := by
  have small : a.natAbs.log2 < 1920 := by
    rcases Nat.eq_zero_or_pos a.natAbs with e | e
    · rw [e]
      decide
    · rw [Nat.log2_lt (by omega)]
      have : (1000 : Nat) ≤ 2 ^ 1920 := Nat.le_trans (by decide : 1000 ≤ 2 ^ 10) (Nat.pow_le_pow_right (by decide) (by decide))
      omega
  have hlen : (pad3 a).length ≤ sizeLine := by rw [pad3_len h0 h1]; decide
  show wpAny _ _ (holding [.int a t] (pyFormat (.int a t) ">3")) Q E s
  refine wpAny_holding ?_
  unfold pyFormat
  refine wpAny_bind (wpAny_mkStr ?_ (by decide +kernel))
  refine wpAny_bind (m := callSpecial? (.int a t) (Str.ofString "__format__") [.str ">3" s.toks]) (wpAny_callSpecial?_slot (name := Str.ofString "__format__") (typeIs_int _ a t) F.slot_int_format ?_)
  refine wpAny_call (codeAny_call_builtin F.slot_int_format.plain F.entry_int_format (F.slot_int_format.check _ _ _ _ _ _ _ _ (typeIs_int _ a t) (F.args_int_format_2 _ _) ?_))
  have hne : ((">3" : PySem.Str).length == 0) = false := by decide +kernel
  have hasc : (((">3" : PySem.Str).cps.toList.drop 1).any (· ≥ 128) || ((">3" : PySem.Str).cps.getD 0 0 ≥ 128 && !([60, 62, 61, 94] : List Nat).contains ((">3" : PySem.Str).cps.getD 1 0))) = false := by decide +kernel
  have hty : f3.type.getD (if (">3" : PySem.Str).cps.back? == some 0 then 0 else 100) = 100 := by decide +kernel
  have hpr : f3.precision.isSome = false := by decide +kernel
  have hz : f3.noNeg0 = false := by decide +kernel
  have hal : f3.alt = false := by decide +kernel
  have hw : decide (f3.width.getD 0 > 100000) = false := by decide +kernel
  unfold Builtin.«int.__format__»
  simp only [selfAndOne, noKeywords, Int.intOfSelf, asInt?, asStr?, List.isEmpty_nil, if_true, pure_bind, bind_pure, bind_assoc, hne, hasc, Bool.false_eq_true, if_false, show (Value.str ">3" s.toks == Value.none) = false from rfl]
  refine wpAny_bind (wpAny_typeNameOf (T := "str") (typeIs_str _ _ _) (by decide) fun _ => ?_)
  refine wpAny_bind (wpAny_typeNameOfCut_int ?_)
  simp only [f3_ok, hty]
  rw [if_pos]
  rotate_left
  · decide +kernel
  show wpAny _ _ (do let r ← Builtin.overDigitLimit? a; _) _ _ _
  rw [PySem.overDigitLimit_small small]
  refine wpAny_bind (wpAny_pure ?_)
  show wpAny _ _ (retStr _) _ _ _
  unfold retStr
  refine wpAny_bind (mkStr_eq (z := pad3 a) (wpAny_mkStr (wpAny_pure ?_) hlen) ?_)
  · dsimp only
    exact wpAny_bind (wpAny_isInstance (typeIs_str _ _ _) isSubtype_str_str (wpAny_pure h))
  · unfold pad3 intSpecText intField'
    rfl
end
/-- {e:>3} -/
def tFmt3 (te : TE) : TE := fun σ H Q => te σ H fun x H1 => ∃ i : Int, x = .int i ∧ 0 ≤ i ∧ i < 1000 ∧ Q (.str (pad3 i)) H1
theorem pe_fmtR3 {X : Cx} {e : Expr} {te : TE} {k : Nat} {cpos jpos pos : Pos} (he : PE X e te) : PE X (.FormattedValue e (-1) (some (.JoinedStr [.Constant (.str ">3") k cpos] jpos)) pos) (tFmt3 te) := by
  refine ⟨fun pins s σ H Q I h => ?_⟩
  refine PySem.wpAny_FormattedValue_spec (thn (he.run pins s σ H _ I h) fun v s1 ⟨x, H1, I1, r1, i, ex, h0, h1, q⟩ => ?_)
  subst ex
  obtain ⟨t, rfl⟩ := r1
  have hsp := (pe_joined1 (pos := jpos) (pe_str (X := X) (x := ">3") (j := k) (pos := cpos))).run pins s1 σ H1 (fun v H2 => v = .str ">3" ∧ H2 = H1) I1 ⟨rfl, rfl⟩
  refine thn hsp fun r s2 ⟨y, H2, I2, r2, ey, eH⟩ => ?_
  subst ey eH
  obtain ⟨t2, rfl⟩ := r2
  exact ⟨_, _, rfl, formatField3 h0 h1 ⟨.str (pad3 i), H2, I2.tok _, ⟨_, rfl⟩, q⟩⟩
end K75
end T_Fmt

section T_C0
set_option Elab.async false
set_option linter.all false
set_option maxRecDepth 100000
set_option maxHeartbeats 4000000
namespace K75
open PySem PySem.Spec PyProof.Rows L2 TL
/-! ### a set that a comprehension makes -/
def SetAt (w : World) (D : Addr) (H : Hp) (f : Nat → Option Int) (i : Nat) : Prop := ∃ (ds : List Int) (S : Int → Bool), H D = some (SetO w D S ds.length) ∧ ds.Nodup ∧ (∀ k, S k = true ↔ k ∈ ds) ∧ ∀ k, k ∈ ds ↔ ∃ j, j < i ∧ f j = some k
theorem SetAt.add {w : World} {D : Addr} {H H4 : Hp} {f : Nat → Option Int} {i : Nat} {k : Int} (h : SetAt w D H f i) (s : H4 D = H D) (e : f i = some k) (b : i < 1000) :
    ∃ (k' : Int) (S : Int → Bool) (n : Nat), V.int k = .int k' ∧ H4 D = some (SetO w D S n) ∧ n + 1 < scanBound ∧ SetAt w D (upd H4 D (withK w D S n k')) f (i + 1) := by
  obtain ⟨ds, S, h1, h2, h3, h4⟩ := h
  have hl : ds.length ≤ i := by
    have := nodup_sub (ys := (List.range i).filterMap f) h2 fun x hx => by
      obtain ⟨j, hj, e⟩ := (h4 x).mp hx
      exact List.mem_filterMap.mpr ⟨j, List.mem_range.mpr hj, e⟩
    have h5 := List.length_filterMap_le f (List.range i)
    rw [List.length_range] at h5
    omega
  refine ⟨k, S, ds.length, rfl, s.trans h1, Nat.lt_of_le_of_lt (by omega : _ ≤ 1001) (by decide), ?_⟩
  by_cases hk : k ∈ ds
  · refine ⟨ds, fun j => S j || decide (j = k), (upd_same).trans ?_, h2, fun j => ?_, fun j => ?_⟩
    · unfold withK
      rw [if_pos ((h3 k).mpr hk)]
    · rw [Bool.or_eq_true, h3, decide_eq_true_eq]
      exact ⟨fun z => z.elim id fun z => z ▸ hk, .inl⟩
    · rw [h4]
      constructor
      · rintro ⟨m, hm, e2⟩
        exact ⟨m, by omega, e2⟩
      · rintro ⟨m, hm, e2⟩
        rcases Nat.lt_or_ge m i with h | h
        · exact ⟨m, h, e2⟩
        · have : m = i := by omega
          rw [this, e] at e2
          cases e2
          exact (h4 k).mp hk
  · refine ⟨ds ++ [k], fun j => S j || decide (j = k), (upd_same).trans ?_, ?_, fun j => ?_, fun j => ?_⟩
    · unfold withK
      rw [if_neg fun z => hk ((h3 k).mp z), List.length_append]
      rfl
    · rw [List.nodup_append]
      exact ⟨h2, by simp, fun a ha b hb e => hk (by rw [List.mem_singleton.mp hb] at e; exact e ▸ ha)⟩
    · rw [Bool.or_eq_true, h3, decide_eq_true_eq, List.mem_append, List.mem_singleton]
    · rw [List.mem_append, List.mem_singleton, h4]
      constructor
      · rintro (⟨m, hm, e2⟩ | rfl)
        · exact ⟨m, by omega, e2⟩
        · exact ⟨i, by omega, e⟩
      · rintro ⟨m, hm, e2⟩
        rcases Nat.lt_or_ge m i with h | h
        · exact .inl ⟨m, h, e2⟩
        · have : m = i := by omega
          rw [this, e] at e2
          cases e2
          exact .inr rfl
theorem SetAt.pass {w : World} {D : Addr} {H H4 : Hp} {f : Nat → Option Int} {i : Nat} (h : SetAt w D H f i) (s : H4 D = H D) (e : f i = none) : SetAt w D H4 f (i + 1) := by
  obtain ⟨ds, S, h1, h2, h3, h4⟩ := h
  refine ⟨ds, S, s.trans h1, h2, h3, fun k => ?_⟩
  rw [h4]
  constructor
  · rintro ⟨m, hm, e2⟩
    exact ⟨m, by omega, e2⟩
  · rintro ⟨m, hm, e2⟩
    rcases Nat.lt_or_ge m i with h | h
    · exact ⟨m, h, e2⟩
    · have : m = i := by omega
      rw [this, e] at e2
      cases e2
section
variable {J : It} {n : Nat} {ok : Hp → Prop} {R : Nat → V → Hp → Hp → Prop} {g : TG}
def ScN (w : World) (D : Addr) (H1 : Hp) (f : Nat → Option Int) (i : Nat) (H : Hp) : Prop := Same H1 H ∧ SetAt w D H f i
theorem scT {w : World} {D : Addr} {H1 H4 : Hp} {f : Nat → Option Int} {i : Nat} {k : Int} (hD : H1 D = none) (s : Same H1 H4) (h : SetAt w D H4 f i) (e : f i = some k) (b : i < 1000) :
    ∃ (k' : Int) (S : Int → Bool) (n : Nat), V.int k = .int k' ∧ H4 D = some (SetO w D S n) ∧ n + 1 < scanBound ∧ ScN w D H1 f (i + 1) (upd H4 D (withK w D S n k')) := by
  obtain ⟨k', S, n, e1, e2, e3, e4⟩ := h.add (H4 := H4) rfl e b
  exact ⟨k', S, n, e1, e2, e3, same_mut s hD, e4⟩
theorem scN {w : World} {D : Addr} {H1 H4 : Hp} {f : Nat → Option Int} {i : Nat} (s : Same H1 H4) (h : SetAt w D H4 f i) (e : f i = none) : ScN w D H1 f (i + 1) H4 := ⟨s, h.pass (H4 := H4) rfl e⟩
theorem SetAt.mono {w : World} {D : Addr} {H H' : Hp} {f : Nat → Option Int} {i : Nat} (h : SetAt w D H f i) (s : Same H H') : SetAt w D H' f i := by
  obtain ⟨ds, S, h1, h2⟩ := h
  exact ⟨ds, S, s _ _ h1, h2⟩
/-- a set comprehension of ints that only makes new objects besides -/
theorem sc_pure {w : World} {tt : TT} {te : TE} {vs : List Nat} {σ : L2.St} {H1 : Hp} {D : Addr} {Q : VK} (wk : Walks J n ok R) (f : Nat → Option Int) (hD : H1 D = none) (hok : ∀ H, Same H1 H → ok H) (hR : ∀ i x H H', R i x H H' → Same H H')
    (hs : ∀ i x H H', i < n → R i x H H' → Same H1 H → Same H1 H' → SetAt w D H' f i → g x (wipe σ vs) H' fun σ2 H2 => wipe σ2 vs = wipe σ vs ∧ tt σ2 H2 fun b H3 =>
      if b = true then te σ2 H3 fun y H4 => ∃ (k : Int) (S : Int → Bool) (m : Nat), y = .int k ∧ H4 D = some (SetO w D S m) ∧ m + 1 < scanBound ∧ ScN w D H1 f (i + 1) (upd H4 D (withK w D S m k)) else ScN w D H1 f (i + 1) H3)
    (hd : ∀ (H : Hp) (ds : List Int) (S : Int → Bool), Same H1 H → H D = some (SetO w D S ds.length) → ds.Nodup → (∀ k, S k = true ↔ k ∈ ds) → (∀ k, k ∈ ds ↔ ∃ j, j < n ∧ f j = some k) → Q (.ref D) H) :
    ∃ W : Nat → Nat → Hp → Prop, (∃ m, W 0 m (upd H1 D (SetO w D (fun _ => false) 0))) ∧ ScI w D J g tt te vs σ Q W := by
  refine ⟨fun i m H => m = n - i ∧ i ≤ n ∧ ScN w D H1 f i H, ⟨n, rfl, Nat.zero_le _, same_new hD, [], fun _ => false, upd_same, List.nodup_nil, by simp, by simp⟩, ?_⟩
  rintro i m H ⟨rfl, hi, s1, hS⟩
  by_cases hlt : i < n
  · refine .inr ⟨wk.go i H (hok H s1) hlt, ScN w D H1 f (i + 1), fun H' p => ⟨n - (i + 1), by omega, rfl, hlt, p⟩, fun x H' y => ?_⟩
    have r := wk.yld i H x H' (hok H s1) hlt y
    have e := hR i x H H' r
    exact hs i x H H' hlt r s1 (s1.trans e) (hS.mono e)
  · have e : i = n := by omega
    subst e
    obtain ⟨ds, S, h1, h2, h3, h4⟩ := hS
    exact .inl ⟨wk.stop i H (hok H s1) (Nat.le_refl _), hd H ds S s1 h1 h2 h3 h4⟩
end
end K75
end T_C0

section T_C1
set_option Elab.async false
set_option linter.all false
set_option maxRecDepth 100000
set_option maxHeartbeats 4000000
namespace K75
open PySem PySem.Spec PyProof.Rows L2 TL
/-! ### threads: what stands in the heap -/
structure GI where
  kl : Addr
  kn : List Int
  lw : Int
def gfs (g : GI) : List (PySem.Str × V) := [("known", .ref g.kl), ("lowest", .int g.lw)]
def tfs (d1 d2 d3 : Addr) : List (PySem.Str × V) := [("letters", .ref d1), ("order", .ref d2), ("groups", .ref d3)]
def dki (l : List (Int × Addr)) : List (Key × V) := l.map fun q => (Sum.inl q.1, V.ref q.2)
/-- the group object at g -/
def GrpAt (K : PySem.W.Frag) (H : Hp) (g : Addr) (i : GI) : Prop := ∃ dg, H g = some (.ins (He.ga K "Group") dg (gfs i)) ∧ H i.kl = some (.lst (i.kn.map V.int))
structure TS (K : PySem.W.Frag) (G H : Hp) (p : Addr) (lk : List (Int × Addr)) (od : List Int) (gk : List (Int × Addr)) (gi : Addr → GI) (dx d1 d2 d3 : Addr) : Prop where
  same : Same G H
  gp : G p = none
  g1 : G d1 = none
  g2 : G d2 = none
  g3 : G d3 = none
  n13 : d1 ≠ d3
  ins : H p = some (.ins (He.ga K "Threads") dx (tfs d1 d2 d3))
  h1 : H d1 = some (.dK (dki lk))
  h2 : H d2 = some (.lst (od.map V.int))
  h3 : H d3 = some (.dK (dki gk))
  nl : (lk.map (·.1)).Nodup
  nk : (gk.map (·.1)).Nodup
  grp : ∀ q ∈ gk, GrpAt K H q.2 (gi q.2) ∧ G q.2 = none ∧ G (gi q.2).kl = none ∧ (gi q.2).kl ≠ d2 ∧ q.2 ≠ p
  kl : ∀ q ∈ gk, ∀ r ∈ gk, (gi q.2).kl = (gi r.2).kl → q.2 = r.2
theorem TS.mono {K : PySem.W.Frag} {G H H' : Hp} {p : Addr} {lk : List (Int × Addr)} {od : List Int} {gk : List (Int × Addr)} {gi : Addr → GI} {dx d1 d2 d3 : Addr} (t : TS K G H p lk od gk gi dx d1 d2 d3) (s : Same H H') : TS K G H' p lk od gk gi dx d1 d2 d3 :=
  ⟨t.same.trans s, t.gp, t.g1, t.g2, t.g3, t.n13, s _ _ t.ins, s _ _ t.h1, s _ _ t.h2, s _ _ t.h3, t.nl, t.nk, fun q hq => by
    obtain ⟨⟨dg, a, b⟩, c⟩ := t.grp q hq
    exact ⟨⟨dg, s _ _ a, s _ _ b⟩, c⟩, t.kl⟩
/-- what the number n stands for in such a dict -/
def atK (l : List (Int × Addr)) (n : Int) : Option Addr := (l.find? fun q => decide (q.1 = n)).map (·.2)
theorem valV_dki (l : List (Int × Addr)) (n : Int) : valV (dki l) (Sum.inl n) = (atK l n).map V.ref := by
  induction l with
  | nil => rfl
  | cons q r ih =>
    show valV ((Sum.inl q.1, V.ref q.2) :: dki r) (Sum.inl n) = _
    rw [valV_cons]
    unfold atK
    rw [List.find?_cons]
    by_cases h : q.1 = n
    · rw [if_pos (by rw [h]), decide_eq_true h]
      rfl
    · rw [if_neg (by intro z; injection z with z; exact h z), decide_eq_false h, ih]
      rfl
theorem atK_none {l : List (Int × Addr)} {n : Int} : atK l n = none ↔ n ∉ l.map (·.1) := by
  unfold atK
  rw [Option.map_eq_none_iff, List.find?_eq_none]
  constructor
  · intro h hm
    obtain ⟨q, hq, e⟩ := List.mem_map.mp hm
    exact h q hq (decide_eq_true e)
  · intro h q hq e
    exact h (List.mem_map.mpr ⟨q, hq, of_decide_eq_true e⟩)
theorem atK_some {l : List (Int × Addr)} (nd : (l.map (·.1)).Nodup) {n : Int} {a : Addr} : atK l n = some a ↔ (n, a) ∈ l := by
  induction l with
  | nil => simp [atK]
  | cons q r ih =>
    have nd2 := List.nodup_cons.mp nd
    unfold atK
    rw [List.find?_cons]
    by_cases h : q.1 = n
    · rw [decide_eq_true h]
      show some q.2 = some a ↔ _
      rw [Option.some.injEq, List.mem_cons]
      constructor
      · intro e
        exact .inl (by rw [← h, ← e])
      · rintro (e | e)
        · rw [← e]
        · exact absurd (List.mem_map.mpr ⟨(n, a), e, rfl⟩) (by rw [← h]; exact nd2.1)
    · rw [decide_eq_false h]
      show atK r n = some a ↔ _
      rw [ih nd2.2, List.mem_cons]
      constructor
      · exact .inr
      · rintro (e | e)
        · exact absurd (by rw [← e]) h
        · exact e
theorem dki_keys (l : List (Int × Addr)) (n : Int) : (Sum.inl n : Key) ∈ (dki l).map (·.1) ↔ n ∈ l.map (·.1) := by
  unfold dki
  rw [List.map_map, List.mem_map, List.mem_map]
  constructor
  · rintro ⟨q, hq, e⟩
    injection e with e
    exact ⟨q, hq, e⟩
  · rintro ⟨q, hq, e⟩
    exact ⟨q, hq, by show (Sum.inl q.1 : Key) = _; rw [e]⟩
theorem dki_put {l : List (Int × Addr)} {n : Int} {a : Addr} (h : n ∉ l.map (·.1)) : putK (dki l) (Sum.inl n) (.ref a) = dki (l ++ [(n, a)]) := by
  rw [putK_new (by rw [dki_keys]; exact h)]
  unfold dki
  rw [List.map_append]
  rfl
/-- n is (not) there -/
theorem isSome_dki (l : List (Int × Addr)) (n : Int) : (valV (dki l) (Sum.inl n)).isSome = decide (n ∈ l.map (·.1)) := by
  rw [valV_dki, Option.isSome_map, Bool.eq_iff_iff, decide_eq_true_eq, Option.isSome_iff_ne_none, ne_eq, atK_none, Decidable.not_not]
/-! ### promises -/
def sp_Group_init (K : PySem.W.Frag) : Sp := fun vs H Q _ => ∃ (H0 : Hp) (g dg : Addr) (n : Int), vs = [.ref g, .int n] ∧ Same H0 H ∧ H0 g = none ∧ H g = some (.ins (He.ga K "Group") dg []) ∧ ∀ H' l, Same H0 H' → GrpAt K H' g ⟨l, [n], n⟩ → H0 l = none → (∀ b o, b ≠ g → H b = some o → H' b = some o) → Q .non H'
def sp_Threads_init (K : PySem.W.Frag) : Sp := fun vs H Q _ => ∃ (H0 : Hp) (p dx : Addr), vs = [.ref p] ∧ Same H0 H ∧ H0 p = none ∧ H p = some (.ins (He.ga K "Threads") dx []) ∧ ∀ H' d1 d2 d3 gi, TS K H0 H' p [] [] [] gi dx d1 d2 d3 → Q .non H'
def sp_Threads_has_come (K : PySem.W.Frag) : Sp := fun vs H Q _ => ∃ (G : Hp) (p : Addr) (lk : List (Int × Addr)) (od : List Int) (gk : List (Int × Addr)) (gi : Addr → GI) (dx d1 d2 d3 a : Addr) (L : Lt), vs = [.ref p, .ref a] ∧ TS K G H p lk od gk gi dx d1 d2 d3 ∧ LetterAt K H a L ∧ L.n ∉ lk.map (·.1) ∧ Q (.bl false) H
def sp_Threads_name_of (K : PySem.W.Frag) : Sp := fun vs H Q _ => ∃ (G : Hp) (p : Addr) (lk : List (Int × Addr)) (od : List Int) (gk : List (Int × Addr)) (gi : Addr → GI) (dx d1 d2 d3 : Addr) (n : Int), vs = [.ref p, .int n] ∧ TS K G H p lk od gk gi dx d1 d2 d3 ∧
  Q (match atK gk n with | none => .non | some g => .int (gi g).lw) H
def sp_Threads_letter_at (K : PySem.W.Frag) : Sp := fun vs H Q _ => ∃ (G : Hp) (p : Addr) (lk : List (Int × Addr)) (od : List Int) (gk : List (Int × Addr)) (gi : Addr → GI) (dx d1 d2 d3 : Addr) (n : Int), vs = [.ref p, .int n] ∧ TS K G H p lk od gk gi dx d1 d2 d3 ∧
  Q (match atK lk n with | none => .non | some a => .ref a) H
def sp_Threads_contains (K : PySem.W.Frag) : Sp := fun vs H Q _ => ∃ (G : Hp) (p : Addr) (lk : List (Int × Addr)) (od : List Int) (gk : List (Int × Addr)) (gi : Addr → GI) (dx d1 d2 d3 : Addr) (n : Int), vs = [.ref p, .int n] ∧ TS K G H p lk od gk gi dx d1 d2 d3 ∧
  Q (.bl (decide (n ∈ lk.map (·.1)))) H
section
variable {P : Program} {w : World} {K : PySem.W.Frag} {mg : PySem.Str → Option Value} {base : Heap}
abbrev sc_Group_init_N : List PySem.Str := ["self", "number"]
theorem sc_Group_init : FnScope sc_Group_init_N ["self", "number"] (defScope s_Group_init) := ⟨rfl, rfl, rfl, by decide +kernel, rfl, by decide +kernel, by decide +kernel⟩
theorem ok_Group_init (W : Wd K mg) : Ok P w K mg base 1 d_Group_init ["self", "number"] (sp_Group_init K) := by
  refine ok_mk W.d_Group_init sc_Group_init (fun _ _ _ _ _ _ us hl => match us, hl with | [_, _], _ => rfl) (fun vs H Q E h => ?_) (fun cdv A outer s H vs Q E hr h => ?_)
  · obtain ⟨H0, g, dg, n, rfl, _⟩ := h
    rfl
  · obtain ⟨H0, g, dg, n, rfl, s0, n0, hg, q⟩ := h
    have hu := hu_of hr
    have nd := sc_Group_init.nd
    refine ⟨_, (pss_cons (ps_fld (pv 0) (pe_lst (pa_cons (pv 1) pa_nil)) rfl)
    (pss_one (ps_fld (pv 0) (pv 1) rfl))), ?_⟩
    refine ⟨_, rfl, sz_le (by show 1 ≤ 100000; decide), fun l nl => ?_⟩
    generalize e1 : upd H l _ = H1
    obtain ⟨s1, h1⟩ := gen_upd nl e1
    have lg : l ≠ g := fun e => by rw [e, hg] at nl; cases nl
    refine put_step (fs' := [("known", .ref l)]) (s1 _ _ hg) (s0.trans s1) n0 W.c_Group W.n_Group_known (by show 0 < 1000; decide) rfl (by kernel_rfl) fun G1 g1 f1 k1 => ?_
    refine ⟨_, rfl, put_step (fs' := gfs ⟨l, [n], n⟩) f1 g1 n0 W.c_Group W.n_Group_lowest (by show 1 < 1000; decide) rfl (by kernel_rfl) fun G2 g2 f2 k2 => ?_⟩
    exact q G2 l g2 ⟨dg, f2, (k2 _ lg).trans ((k1 _ lg).trans h1)⟩ (s0.free nl) fun b o hb e => (k2 _ hb).trans ((k1 _ hb).trans (s1 _ _ e))
abbrev sc_Threads_init_N : List PySem.Str := ["self"]
theorem sc_Threads_init : FnScope sc_Threads_init_N ["self"] (defScope s_Threads_init) := ⟨rfl, rfl, rfl, by decide +kernel, rfl, by decide +kernel, by decide +kernel⟩
theorem ok_Threads_init (W : Wd K mg) : Ok P w K mg base 1 d_Threads_init ["self"] (sp_Threads_init K) := by
  refine ok_mk W.d_Threads_init sc_Threads_init (fun _ _ _ _ _ _ us hl => match us, hl with | [_], _ => rfl) (fun vs H Q E h => ?_) (fun cdv A outer s H vs Q E hr h => ?_)
  · obtain ⟨H0, p, dx, rfl, _⟩ := h
    rfl
  · obtain ⟨H0, p, dx, rfl, s0, n0, hp, q⟩ := h
    have hu := hu_of hr
    have nd := sc_Threads_init.nd
    refine ⟨_, (pss_cons (ps_fld (pv 0) pe_dnewK rfl)
    (pss_cons (ps_fld (pv 0) (pe_lst pa_nil) rfl)
    (pss_one (ps_fld (pv 0) pe_dnewK rfl)))), ?_⟩
    intro d1 nd1
    generalize e1 : upd H d1 _ = H1
    obtain ⟨s1, h1⟩ := gen_upd nd1 e1
    have pd1 : d1 ≠ p := fun e => by rw [e, hp] at nd1; cases nd1
    refine put_step (fs' := [("letters", .ref d1)]) (s1 _ _ hp) (s0.trans s1) n0 W.c_Threads W.n_Threads_letters (by show 0 < 1000; decide) rfl (by kernel_rfl) fun G2 g2 f2 k2 => ?_
    have h1 := (k2 _ pd1).trans h1
    refine ⟨Nat.zero_le _, fun d2 nd2 => ?_⟩
    generalize e3 : upd G2 d2 _ = G3
    obtain ⟨s3, h2⟩ := gen_upd nd2 e3
    have pd2 : d2 ≠ p := fun e => by rw [e, f2] at nd2; cases nd2
    refine put_step (fs' := [("letters", .ref d1), ("order", .ref d2)]) (s3 _ _ f2) (g2.trans s3) n0 W.c_Threads W.n_Threads_order (by show 1 < 1000; decide) rfl (by kernel_rfl) fun G4 g4 f4 k4 => ?_
    have h1 := (k4 _ pd1).trans (s3 _ _ h1)
    have h2 := (k4 _ pd2).trans h2
    intro d3 nd3
    generalize e5 : upd G4 d3 _ = G5
    obtain ⟨s5, h3⟩ := gen_upd nd3 e5
    have pd3 : d3 ≠ p := fun e => by rw [e, f4] at nd3; cases nd3
    have d13 : d1 ≠ d3 := fun e => by rw [← e, h1] at nd3; cases nd3
    refine put_step (fs' := tfs d1 d2 d3) (s5 _ _ f4) (g4.trans s5) n0 W.c_Threads W.n_Threads_groups (by show 2 < 1000; decide) rfl (by kernel_rfl) fun G6 g6 f6 k6 => ?_
    exact q G6 d1 d2 d3 (fun _ => ⟨0, [], 0⟩) ⟨g6, n0, s0.free nd1, g2.free nd2, g4.free nd3, d13, f6, (k6 _ pd1).trans (s5 _ _ h1), (k6 _ pd2).trans (s5 _ _ h2), (k6 _ pd3).trans h3, List.nodup_nil, List.nodup_nil, fun q hq => (by cases hq), fun q hq => (by cases hq)⟩
abbrev sc_Threads_has_come_N : List PySem.Str := ["self", "letter"]
theorem sc_Threads_has_come : FnScope sc_Threads_has_come_N ["self", "letter"] (defScope s_Threads_has_come) := ⟨rfl, rfl, rfl, by decide +kernel, rfl, by decide +kernel, by decide +kernel⟩
theorem ok_Threads_has_come (W : Wd K mg) : Ok P w K mg base 1 d_Threads_has_come ["self", "letter"] (sp_Threads_has_come K) := by
  refine ok_mk W.d_Threads_has_come sc_Threads_has_come (fun _ _ _ _ _ _ us hl => match us, hl with | [_, _], _ => rfl) (fun vs H Q E h => ?_) (fun cdv A outer s H vs Q E hr h => ?_)
  · obtain ⟨G, p, lk, od, gk, gi, dx, d1, d2, d3, a, L, rfl, _⟩ := h
    rfl
  · obtain ⟨G, p, lk, od, gk, gi, dx, d1, d2, d3, a, L, rfl, t, ⟨dl, t1, t2, t3, ha, _⟩, hn, q⟩ := h
    have hu := hu_of hr
    have nd := sc_Threads_has_come.nd
    refine ⟨_, (pss_cons (ps_if (pt_cmp (pc_dnotin hu (kfld K (pv 1) rfl) (kfld K (pv 0) rfl)))
      (pss_one (ps_ret pe_bl))
      pss_nil) pss_never), ?_⟩
    refine ⟨_, rfl, a, _, dl, _, .int L.n, rfl, ha, W.c_Letter, W.n_Letter_number, lf_number _ _ _ _, _, rfl, p, _, dx, _, .ref d1, rfl, t.ins, W.c_Threads, W.n_Threads_letters, (by kernel_rfl), d1, _, rfl, DGet.k (k := Sum.inl L.n) t.h1, _, rfl, ?_⟩
    rw [isSome_dki, decide_eq_false hn]
    exact iteT q
abbrev sc_Threads_name_of_N : List PySem.Str := ["self", "number"]
theorem sc_Threads_name_of : FnScope sc_Threads_name_of_N ["self", "number"] (defScope s_Threads_name_of) := ⟨rfl, rfl, rfl, by decide +kernel, rfl, by decide +kernel, by decide +kernel⟩
theorem ok_Threads_name_of (W : Wd K mg) : Ok P w K mg base 1 d_Threads_name_of ["self", "number"] (sp_Threads_name_of K) := by
  refine ok_mk W.d_Threads_name_of sc_Threads_name_of (fun _ _ _ _ _ _ us hl => match us, hl with | [_, _], _ => rfl) (fun vs H Q E h => ?_) (fun cdv A outer s H vs Q E hr h => ?_)
  · obtain ⟨G, p, lk, od, gk, gi, dx, d1, d2, d3, n, rfl, _⟩ := h
    rfl
  · obtain ⟨G, p, lk, od, gk, gi, dx, d1, d2, d3, n, rfl, t, q⟩ := h
    have hu := hu_of hr
    have nd := sc_Threads_name_of.nd
    refine ⟨_, (pss_cons (ps_if (pt_cmp (pc_dnotin hu (pv 1) (kfld K (pv 0) rfl)))
      (pss_one (ps_ret pe_non))
      pss_nil)
    (pss_one (ps_ret (kfld K (pe_dget hu (kfld K (pv 0) rfl) (pv 1) (fun _ _ => rfl)) rfl)))), ?_⟩
    refine ⟨_, rfl, _, rfl, p, _, dx, _, .ref d3, rfl, t.ins, W.c_Threads, W.n_Threads_groups, (by kernel_rfl), d3, _, rfl, DGet.k (k := Sum.inl n) t.h3, _, rfl, ?_⟩
    rw [isSome_dki]
    cases e : atK gk n with
    | none =>
      rw [e] at q
      rw [decide_eq_false (atK_none.mp e)]
      exact iteT q
    | some g =>
      rw [e] at q
      have hm := (atK_some t.nk).mp e
      rw [decide_eq_true (List.mem_map.mpr ⟨(n, g), hm, rfl⟩)]
      obtain ⟨⟨dg, hg, _⟩, _⟩ := t.grp _ hm
      refine iteF ⟨_, rfl, p, _, dx, _, .ref d3, rfl, t.ins, W.c_Threads, W.n_Threads_groups, (by kernel_rfl), _, rfl, d3, .ref g, rfl, ?_, g, _, dg, _, _, rfl, hg, W.c_Group, W.n_Group_lowest, (by kernel_rfl), q⟩
      have := DGet.k (k := Sum.inl n) t.h3
      rw [valV_dki, e] at this
      exact this
abbrev sc_Threads_letter_at_N : List PySem.Str := ["self", "number"]
theorem sc_Threads_letter_at : FnScope sc_Threads_letter_at_N ["self", "number"] (defScope s_Threads_letter_at) := ⟨rfl, rfl, rfl, by decide +kernel, rfl, by decide +kernel, by decide +kernel⟩
theorem ok_Threads_letter_at (W : Wd K mg) : Ok P w K mg base 1 d_Threads_letter_at ["self", "number"] (sp_Threads_letter_at K) := by
  refine ok_mk W.d_Threads_letter_at sc_Threads_letter_at (fun _ _ _ _ _ _ us hl => match us, hl with | [_, _], _ => rfl) (fun vs H Q E h => ?_) (fun cdv A outer s H vs Q E hr h => ?_)
  · obtain ⟨G, p, lk, od, gk, gi, dx, d1, d2, d3, n, rfl, _⟩ := h
    rfl
  · obtain ⟨G, p, lk, od, gk, gi, dx, d1, d2, d3, n, rfl, t, q⟩ := h
    have hu := hu_of hr
    have nd := sc_Threads_letter_at.nd
    refine ⟨_, (pss_one (ps_ret (pe_dget2 hu (kfld K (pv 0) rfl) (pv 1) pe_non ⟨rfl, rfl, rfl, rfl⟩))), ?_⟩
    refine ⟨_, rfl, p, _, dx, _, .ref d1, rfl, t.ins, W.c_Threads, W.n_Threads_letters, (by kernel_rfl), d1, rfl, .inl ⟨_, .inl t.h1⟩, _, rfl, _, DGet.k (k := Sum.inl n) t.h1, ?_⟩
    rw [valV_dki]
    cases e : atK lk n with
    | none =>
      rw [e] at q
      exact q
    | some a =>
      rw [e] at q
      exact q
abbrev sc_Threads_contains_N : List PySem.Str := ["self", "number"]
theorem sc_Threads_contains : FnScope sc_Threads_contains_N ["self", "number"] (defScope s_Threads_contains) := ⟨rfl, rfl, rfl, by decide +kernel, rfl, by decide +kernel, by decide +kernel⟩
theorem ok_Threads_contains (W : Wd K mg) : Ok P w K mg base 1 d_Threads_contains ["self", "number"] (sp_Threads_contains K) := by
  refine ok_mk W.d_Threads_contains sc_Threads_contains (fun _ _ _ _ _ _ us hl => match us, hl with | [_, _], _ => rfl) (fun vs H Q E h => ?_) (fun cdv A outer s H vs Q E hr h => ?_)
  · obtain ⟨G, p, lk, od, gk, gi, dx, d1, d2, d3, n, rfl, _⟩ := h
    rfl
  · obtain ⟨G, p, lk, od, gk, gi, dx, d1, d2, d3, n, rfl, t, q⟩ := h
    have hu := hu_of hr
    have nd := sc_Threads_contains.nd
    refine ⟨_, (pss_one (ps_ret (pe_cmp (pc_din hu (pv 1) (kfld K (pv 0) rfl))))), ?_⟩
    refine ⟨_, rfl, _, rfl, p, _, dx, _, .ref d1, rfl, t.ins, W.c_Threads, W.n_Threads_letters, (by kernel_rfl), d1, _, rfl, DGet.k (k := Sum.inl n) t.h1, ?_⟩
    rw [isSome_dki]
    exact q
end
end K75
end T_C1

section T_M3
set_option Elab.async false
set_option linter.all false
set_option maxRecDepth 100000
set_option maxHeartbeats 4000000
namespace K75
open PySem PySem.Spec PyProof.Rows L2 TL
/-! ### threads: the mathematics -/
abbrev Edges : Type := List (Int × Int)
inductive Conn (E : Edges) : Int → Int → Prop where
  | refl (n : Int) : Conn E n n
  | step {n m k : Int} : Conn E n m → ((m, k) ∈ E ∨ (k, m) ∈ E) → Conn E n k
theorem Conn.trans {E : Edges} {n m k : Int} (a : Conn E n m) (b : Conn E m k) : Conn E n k := by
  induction b with
  | refl => exact a
  | step _ e ih => exact .step ih e
theorem Conn.symm {E : Edges} {n m : Int} (a : Conn E n m) : Conn E m n := by
  induction a with
  | refl => exact .refl _
  | step _ e ih => exact (Conn.step (.refl _) e.symm).trans ih
theorem Conn.mono {E E' : Edges} (h : ∀ e ∈ E, e ∈ E') {n m : Int} (a : Conn E n m) : Conn E' n m := by
  induction a with
  | refl => exact .refl _
  | step _ e ih => exact .step ih (e.imp (h _) (h _))
/-- the groups are the parts that the edges make -/
structure PT (gk : List (Int × Addr)) (gi : Addr → GI) (E : Edges) : Prop where
  mem : ∀ q ∈ gk, ∀ n, n ∈ (gi q.2).kn ↔ (n, q.2) ∈ gk
  knd : ∀ q ∈ gk, (gi q.2).kn.Nodup
  low : ∀ q ∈ gk, (gi q.2).lw ∈ (gi q.2).kn ∧ ∀ n ∈ (gi q.2).kn, (gi q.2).lw ≤ n
  edge : ∀ e ∈ E, ∃ g, (e.1, g) ∈ gk ∧ (e.2, g) ∈ gk
  conn : ∀ n m g, (n, g) ∈ gk → (m, g) ∈ gk → Conn E n m
theorem key_one {gk : List (Int × Addr)} (nk : (gk.map (·.1)).Nodup) {n : Int} {a b : Addr} (h1 : (n, a) ∈ gk) (h2 : (n, b) ∈ gk) : a = b := by
  have e1 := (atK_some nk).mpr h1
  have e2 := (atK_some nk).mpr h2
  rw [e1] at e2
  exact Option.some.inj e2
/-- a number's own new group -/
theorem PT.new {gk : List (Int × Addr)} {gi : Addr → GI} {E : Edges} (p : PT gk gi E) {n : Int} {g l : Addr} (hn : n ∉ gk.map (·.1)) (hg : ∀ q ∈ gk, q.2 ≠ g) :
    PT (gk ++ [(n, g)]) (fun a => if a = g then ⟨l, [n], n⟩ else gi a) E := by
  have old : ∀ q ∈ gk, (if q.2 = g then (⟨l, [n], n⟩ : GI) else gi q.2) = gi q.2 := fun q hq => if_neg (hg q hq)
  have new : (if g = g then (⟨l, [n], n⟩ : GI) else gi g) = ⟨l, [n], n⟩ := if_pos rfl
  have hin : ∀ m a, (m, a) ∈ gk ++ [(n, g)] ↔ (m, a) ∈ gk ∨ (m = n ∧ a = g) := fun m a => by
    rw [List.mem_append, List.mem_singleton, Prod.mk.injEq]
  refine ⟨fun q hq m => ?_, fun q hq => ?_, fun q hq => ?_, fun e he => ?_, fun m k a h1 h2 => ?_⟩
  · rw [hin]
    rcases (hin q.1 q.2).mp hq with h | ⟨_, h⟩
    · show m ∈ (if q.2 = g then (⟨l, [n], n⟩ : GI) else gi q.2).kn ↔ _
      rw [old q h, p.mem q h]
      constructor
      · exact .inl
      · rintro (z | ⟨_, z⟩)
        · exact z
        · exact absurd z (hg q h)
    · show m ∈ (if q.2 = g then (⟨l, [n], n⟩ : GI) else gi q.2).kn ↔ _
      rw [h, new]
      show m ∈ [n] ↔ _
      rw [List.mem_singleton]
      constructor
      · intro z
        exact .inr ⟨z, rfl⟩
      · rintro (z | ⟨z, _⟩)
        · exact (hg _ z rfl).elim
        · exact z
  · rcases (hin q.1 q.2).mp hq with h | ⟨_, h⟩
    · show (if q.2 = g then (⟨l, [n], n⟩ : GI) else gi q.2).kn.Nodup
      rw [old q h]
      exact p.knd q h
    · show (if q.2 = g then (⟨l, [n], n⟩ : GI) else gi q.2).kn.Nodup
      rw [h, new]
      simp
  · show (if q.2 = g then (⟨l, [n], n⟩ : GI) else gi q.2).lw ∈ (if q.2 = g then (⟨l, [n], n⟩ : GI) else gi q.2).kn ∧ ∀ m ∈ (if q.2 = g then (⟨l, [n], n⟩ : GI) else gi q.2).kn, (if q.2 = g then (⟨l, [n], n⟩ : GI) else gi q.2).lw ≤ m
    rcases (hin q.1 q.2).mp hq with h | ⟨_, h⟩
    · rw [old q h]
      exact p.low q h
    · rw [h, new]
      exact ⟨List.mem_singleton.mpr rfl, fun m hm => by rw [List.mem_singleton.mp hm]; exact Int.le_refl _⟩
  · obtain ⟨a, h1, h2⟩ := p.edge e he
    exact ⟨a, List.mem_append_left _ h1, List.mem_append_left _ h2⟩
  · rcases (hin m a).mp h1 with h1 | ⟨rfl, rfl⟩
    · rcases (hin k a).mp h2 with h2 | ⟨_, ea⟩
      · exact p.conn m k a h1 h2
      · exact (hg (m, a) h1 ea).elim
    · rcases (hin k _).mp h2 with h2 | ⟨rfl, _⟩
      · exact (hg (k, _) h2 rfl).elim
      · exact .refl _
/-- the numbers of S stand for a from now on -/
def reg (gk : List (Int × Addr)) (S : List Int) (a : Addr) : List (Int × Addr) := gk.map fun q => if q.1 ∈ S then (q.1, a) else q
theorem reg_keys (gk : List (Int × Addr)) (S : List Int) (a : Addr) : (reg gk S a).map (·.1) = gk.map (·.1) := by
  unfold reg
  rw [List.map_map]
  refine List.map_congr_left fun q _ => ?_
  show (if q.1 ∈ S then (q.1, a) else q).1 = q.1
  split <;> rfl
theorem reg_mem {gk : List (Int × Addr)} {S : List Int} {a c : Addr} {n : Int} : (n, c) ∈ reg gk S a ↔ (n ∈ S ∧ c = a ∧ n ∈ gk.map (·.1)) ∨ (n ∉ S ∧ (n, c) ∈ gk) := by
  unfold reg
  rw [List.mem_map]
  constructor
  · rintro ⟨q, hq, e⟩
    by_cases h : q.1 ∈ S
    · rw [if_pos h] at e
      cases e
      exact .inl ⟨h, rfl, List.mem_map.mpr ⟨q, hq, rfl⟩⟩
    · rw [if_neg h] at e
      rw [e] at h hq
      exact .inr ⟨h, hq⟩
  · rintro (⟨h, rfl, hk⟩ | ⟨h, hq⟩)
    · obtain ⟨q, hq, e⟩ := List.mem_map.mp hk
      exact ⟨q, hq, by rw [if_pos (e ▸ h)]; rw [← e]⟩
    · exact ⟨(n, c), hq, by rw [if_neg h]⟩
theorem reg_nil (gk : List (Int × Addr)) (a : Addr) : reg gk [] a = gk := by
  unfold reg
  refine (List.map_congr_left fun q _ => ?_).trans (List.map_id gk)
  rw [if_neg (by simp)]
  rfl
theorem reg_more {gk : List (Int × Addr)} {S : List Int} {a : Addr} {n : Int} (hn : n ∈ gk.map (·.1)) : putK (dki (reg gk S a)) (Sum.inl n) (.ref a) = dki (reg gk (S ++ [n]) a) := by
  unfold putK
  rw [if_pos]
  · unfold dki reg
    rw [List.map_map, List.map_map, List.map_map]
    refine List.map_congr_left fun q _ => ?_
    show (if (Sum.inl (if q.1 ∈ S then (q.1, a) else q).1 : Key) = Sum.inl n then ((Sum.inl (if q.1 ∈ S then (q.1, a) else q).1 : Key), V.ref a) else (Sum.inl (if q.1 ∈ S then (q.1, a) else q).1, V.ref (if q.1 ∈ S then (q.1, a) else q).2)) = (Sum.inl (if q.1 ∈ S ++ [n] then (q.1, a) else q).1, V.ref (if q.1 ∈ S ++ [n] then (q.1, a) else q).2)
    have e0 : (if q.1 ∈ S then (q.1, a) else q).1 = q.1 := by split <;> rfl
    rw [e0]
    by_cases h : q.1 = n
    · rw [if_pos (by rw [h]), if_pos (by rw [h]; simp)]
    · rw [if_neg (by intro z; injection z with z; exact h z)]
      by_cases hS : q.1 ∈ S
      · rw [if_pos hS, if_pos (List.mem_append_left _ hS)]
      · rw [if_neg hS, if_neg (by rw [List.mem_append, List.mem_singleton]; rintro (z | z); exact hS z; exact h z)]
  · rw [List.any_eq_true]
    have : n ∈ (reg gk S a).map (·.1) := by rw [reg_keys]; exact hn
    obtain ⟨q, hq, e⟩ := List.mem_map.mp this
    exact ⟨(Sum.inl q.1, V.ref q.2), List.mem_map.mpr ⟨q, hq, rfl⟩, decide_eq_true (by show (Sum.inl q.1 : Key) = _; rw [e])⟩
theorem PT.same {gk : List (Int × Addr)} {gi : Addr → GI} {E : Edges} (p : PT gk gi E) {x y : Int} {a : Addr} (hx : (x, a) ∈ gk) (hy : (y, a) ∈ gk) : PT gk gi (E ++ [(x, y)]) :=
  ⟨p.mem, p.knd, p.low, fun e he => by
    rcases List.mem_append.mp he with he | he
    · exact p.edge e he
    · rw [List.mem_singleton.mp he]
      exact ⟨a, hx, hy⟩, fun n m g h1 h2 => (p.conn n m g h1 h2).mono fun e he => List.mem_append_left _ he⟩
/-- two groups made one: b goes into a -/
theorem PT.join {gk : List (Int × Addr)} {gi : Addr → GI} {E E' : Edges} (nk : (gk.map (·.1)).Nodup) (p : PT gk gi E) {a b : Addr} {x y : Int} (hab : a ≠ b) (hx : (x, a) ∈ gk) (hy : (y, b) ∈ gk) (hE : ∀ e ∈ E, e ∈ E') (hN : ∀ e ∈ E', e ∈ E ∨ e = (x, y) ∨ e = (y, x)) (hxy : (x, y) ∈ E' ∨ (y, x) ∈ E') (m : Int)
    (hm : m = if (gi b).lw < (gi a).lw then (gi b).lw else (gi a).lw) : PT (reg gk (gi b).kn a) (fun c => if c = a then ⟨(gi a).kl, (gi a).kn ++ (gi b).kn, m⟩ else gi c) E' := by
  have ma := p.mem _ hx
  have mb := p.mem _ hy
  have inb : ∀ n, n ∈ (gi b).kn ↔ (n, b) ∈ gk := mb
  have ina : ∀ n, n ∈ (gi a).kn ↔ (n, a) ∈ gk := ma
  have toa : ∀ n, (n, a) ∈ reg gk (gi b).kn a ↔ n ∈ (gi a).kn ++ (gi b).kn := fun n => by
    rw [reg_mem, List.mem_append, ina, inb]
    constructor
    · rintro (⟨h, _, _⟩ | ⟨_, h⟩)
      · exact .inr h
      · exact .inl h
    · rintro (h | h)
      · exact .inr ⟨fun z => hab (key_one nk h z), h⟩
      · exact .inl ⟨h, rfl, List.mem_map.mpr ⟨(n, b), h, rfl⟩⟩
  have toc : ∀ n c, c ≠ a → ((n, c) ∈ reg gk (gi b).kn a ↔ c ≠ b ∧ (n, c) ∈ gk) := fun n c hc => by
    rw [reg_mem, inb]
    constructor
    · rintro (⟨_, h, _⟩ | ⟨h1, h2⟩)
      · exact absurd h hc
      · exact ⟨fun z => h1 (z ▸ h2), h2⟩
    · rintro ⟨h1, h2⟩
      exact .inr ⟨fun z => h1 (key_one nk h2 z), h2⟩
  have disj : ∀ n, n ∈ (gi a).kn → n ∈ (gi b).kn → False := fun n h1 h2 => hab (key_one nk ((ina n).mp h1) ((inb n).mp h2))
  have cE : ∀ {n k : Int}, Conn E n k → Conn E' n k := fun c => c.mono hE
  have cxy : Conn E' x y := Conn.step (.refl _) (hxy.imp id id)
  refine ⟨fun q hq n => ?_, fun q hq => ?_, fun q hq => ?_, fun e he => ?_, fun n k c h1 h2 => ?_⟩
  · by_cases hc : q.2 = a
    · show n ∈ (if q.2 = a then (⟨(gi a).kl, (gi a).kn ++ (gi b).kn, m⟩ : GI) else gi q.2).kn ↔ _
      rw [if_pos hc, hc, toa]
    · show n ∈ (if q.2 = a then (⟨(gi a).kl, (gi a).kn ++ (gi b).kn, m⟩ : GI) else gi q.2).kn ↔ _
      obtain ⟨h1, h2⟩ := (toc q.1 q.2 hc).mp hq
      rw [if_neg hc, toc _ _ hc, p.mem _ h2]
      exact ⟨fun z => ⟨h1, z⟩, fun z => z.2⟩
  · by_cases hc : q.2 = a
    · show (if q.2 = a then (⟨(gi a).kl, (gi a).kn ++ (gi b).kn, m⟩ : GI) else gi q.2).kn.Nodup
      rw [if_pos hc]
      exact List.nodup_append.mpr ⟨p.knd _ hx, p.knd _ hy, fun u hu v hv e => disj u hu (e ▸ hv)⟩
    · show (if q.2 = a then (⟨(gi a).kl, (gi a).kn ++ (gi b).kn, m⟩ : GI) else gi q.2).kn.Nodup
      rw [if_neg hc]
      exact p.knd _ ((toc q.1 q.2 hc).mp hq).2
  · show (if q.2 = a then (⟨(gi a).kl, (gi a).kn ++ (gi b).kn, m⟩ : GI) else gi q.2).lw ∈ (if q.2 = a then (⟨(gi a).kl, (gi a).kn ++ (gi b).kn, m⟩ : GI) else gi q.2).kn ∧ ∀ n ∈ (if q.2 = a then (⟨(gi a).kl, (gi a).kn ++ (gi b).kn, m⟩ : GI) else gi q.2).kn, (if q.2 = a then (⟨(gi a).kl, (gi a).kn ++ (gi b).kn, m⟩ : GI) else gi q.2).lw ≤ n
    by_cases hc : q.2 = a
    · rw [if_pos hc]
      obtain ⟨l1, l2⟩ := p.low _ hx
      obtain ⟨l3, l4⟩ := p.low _ hy
      have l1 : (gi a).lw ∈ (gi a).kn := l1
      have l2 : ∀ n ∈ (gi a).kn, (gi a).lw ≤ n := l2
      have l3 : (gi b).lw ∈ (gi b).kn := l3
      have l4 : ∀ n ∈ (gi b).kn, (gi b).lw ≤ n := l4
      show m ∈ (gi a).kn ++ (gi b).kn ∧ ∀ n ∈ (gi a).kn ++ (gi b).kn, m ≤ n
      rw [hm]
      split
      · refine ⟨List.mem_append_right _ l3, fun n hn => ?_⟩
        rcases List.mem_append.mp hn with hn | hn
        · have := l2 n hn
          omega
        · exact l4 n hn
      · refine ⟨List.mem_append_left _ l1, fun n hn => ?_⟩
        rcases List.mem_append.mp hn with hn | hn
        · exact l2 n hn
        · have := l4 n hn
          omega
    · rw [if_neg hc]
      exact p.low _ ((toc q.1 q.2 hc).mp hq).2
  · have both : ∀ n k g, (n, g) ∈ gk → (k, g) ∈ gk → ∃ g', (n, g') ∈ reg gk (gi b).kn a ∧ (k, g') ∈ reg gk (gi b).kn a := fun n k g h1 h2 => by
      by_cases hg : g = b
      · exact ⟨a, (toa n).mpr (List.mem_append_right _ ((inb n).mpr (hg ▸ h1))), (toa k).mpr (List.mem_append_right _ ((inb k).mpr (hg ▸ h2)))⟩
      · by_cases hg2 : g = a
        · exact ⟨a, (toa n).mpr (List.mem_append_left _ ((ina n).mpr (hg2 ▸ h1))), (toa k).mpr (List.mem_append_left _ ((ina k).mpr (hg2 ▸ h2)))⟩
        · exact ⟨g, (toc n g hg2).mpr ⟨hg, h1⟩, (toc k g hg2).mpr ⟨hg, h2⟩⟩
    have hxa := (toa x).mpr (List.mem_append_left _ ((ina x).mpr hx))
    have hya := (toa y).mpr (List.mem_append_right _ ((inb y).mpr hy))
    rcases hN e he with h | h | h
    · obtain ⟨g, h1, h2⟩ := p.edge e h
      exact both _ _ g h1 h2
    · rw [h]
      exact ⟨a, hxa, hya⟩
    · rw [h]
      exact ⟨a, hya, hxa⟩
  · by_cases hc : c = a
    · subst hc
      have cx : ∀ n, n ∈ (gi c).kn ++ (gi b).kn → Conn E' x n := fun n hn => by
        rcases List.mem_append.mp hn with hn | hn
        · exact cE (p.conn x n c hx ((ina n).mp hn))
        · exact cxy.trans (cE (p.conn y n b hy ((inb n).mp hn)))
      exact (cx n ((toa n).mp h1)).symm.trans (cx k ((toa k).mp h2))
    · exact cE (p.conn n k c ((toc n c hc).mp h1).2 ((toc k c hc).mp h2).2)
end K75
end T_M3

section T_C2
set_option Elab.async false
set_option linter.all false
set_option maxRecDepth 100000
set_option maxHeartbeats 4000000
namespace K75
open PySem PySem.Spec PyProof.Rows L2 TL
theorem dki_len (l : List (Int × Addr)) : (dki l).length = l.length := List.length_map _
/-- the threads' state, some groups, some places -/
def sp_Threads_group_of (K : PySem.W.Frag) : Sp := fun vs H Q _ => ∃ (G : Hp) (p : Addr) (lk : List (Int × Addr)) (od : List Int) (gk : List (Int × Addr)) (gi : Addr → GI) (dx d1 d2 d3 : Addr) (n : Int) (E : Edges), vs = [.ref p, .int n] ∧ TS K G H p lk od gk gi dx d1 d2 d3 ∧ PT gk gi E ∧ gk.length ≤ 1000 ∧
  ∀ H' gk' gi' g, TS K G H' p lk od gk' gi' dx d1 d2 d3 → PT gk' gi' E → (n, g) ∈ gk' → (∀ q ∈ gk, q ∈ gk') → (∀ m, m ∈ gk'.map (·.1) ↔ m ∈ gk.map (·.1) ∨ m = n) → gk'.length ≤ gk.length + 1 → Q (.ref g) H'
def sp_Threads_merged (K : PySem.W.Frag) : Sp := fun vs H Q _ => ∃ (G : Hp) (p : Addr) (lk : List (Int × Addr)) (od : List Int) (gk : List (Int × Addr)) (gi : Addr → GI) (dx d1 d2 d3 a b : Addr) (x y : Int) (E : Edges), vs = [.ref p, .ref a, .ref b] ∧ TS K G H p lk od gk gi dx d1 d2 d3 ∧ PT gk gi E ∧ gk.length ≤ 1000 ∧ (x, a) ∈ gk ∧ (y, b) ∈ gk ∧
  ∀ H' gk' gi' g, TS K G H' p lk od gk' gi' dx d1 d2 d3 → PT gk' gi' (E ++ [(x, y)]) → (x, g) ∈ gk' → gk'.map (·.1) = gk.map (·.1) → Q (.ref g) H'
theorem kn_len {gk : List (Int × Addr)} {gi : Addr → GI} {E : Edges} (pt : PT gk gi E) {q : Int × Addr} (hq : q ∈ gk) : (gi q.2).kn.length ≤ gk.length := by
  have := nodup_sub (ys := gk.map (·.1)) (pt.knd q hq) fun n hn => List.mem_map.mpr ⟨(n, q.2), (pt.mem q hq n).mp hn, rfl⟩
  rw [List.length_map] at this
  exact this
section
variable {P : Program} {w : World} {K : PySem.W.Frag} {mg : PySem.Str → Option Value} {base : Heap}
abbrev sc_Threads_group_of_N : List PySem.Str := ["self", "number"]
theorem sc_Threads_group_of : FnScope sc_Threads_group_of_N ["self", "number"] (defScope s_Threads_group_of) := ⟨rfl, rfl, rfl, by decide +kernel, rfl, by decide +kernel, by decide +kernel⟩
theorem ok_Threads_group_of (W : Wd K mg) : Ok P w K mg base 3 d_Threads_group_of ["self", "number"] (sp_Threads_group_of K) := by
  refine ok_mk W.d_Threads_group_of sc_Threads_group_of (fun _ _ _ _ _ _ us hl => match us, hl with | [_, _], _ => rfl) (fun vs H Q E h => ?_) (fun cdv A outer s H vs Q E hr h => ?_)
  · obtain ⟨G, p, lk, od, gk, gi, dx, d1, d2, d3, n, E, rfl, _⟩ := h
    rfl
  · obtain ⟨G, p, lk, od, gk, gi, dx, d1, d2, d3, n, E, rfl, t, pt, hz, q⟩ := h
    have hu := hu_of hr
    have nd := sc_Threads_group_of.nd
    refine ⟨_, (pss_cons (ps_if (pt_cmp (pc_dnotin hu (pv 1) (kfld K (pv 0) rfl)))
      (pss_one (ps_dput hu (kfld K (pv 0) rfl) (pv 1) (pe_k (ok_Group_init W) W.k_Group (hr.mono (by decide)) rfl W.g_Group (pa_cons (pv 1) pa_nil)) rfl))
      pss_nil)
    (pss_one (ps_ret (pe_dget hu (kfld K (pv 0) rfl) (pv 1) (fun _ _ => rfl))))), ?_⟩
    refine ⟨_, rfl, _, rfl, p, _, dx, _, .ref d3, rfl, t.ins, W.c_Threads, W.n_Threads_groups, (by kernel_rfl), d3, _, rfl, DGet.k (k := Sum.inl n) t.h3, _, rfl, ?_⟩
    rw [isSome_dki]
    by_cases hn : n ∈ gk.map (·.1)
    · rw [decide_eq_true hn]
      obtain ⟨q0, hq0, e0⟩ := List.mem_map.mp hn
      have e1 : atK gk n = some q0.2 := (atK_some t.nk).mpr (by rw [← e0]; exact hq0)
      refine iteF ⟨_, rfl, p, _, dx, _, .ref d3, rfl, t.ins, W.c_Threads, W.n_Threads_groups, (by kernel_rfl), _, rfl, d3, .ref q0.2, rfl, ?_, ?_⟩
      · have := DGet.k (k := Sum.inl n) t.h3
        rw [valV_dki, e1] at this
        exact this
      · exact q H gk gi q0.2 t pt (by rw [← e0]; exact hq0) (fun _ h => h) (fun m => ⟨.inl, fun z => z.elim id fun z => z ▸ hn⟩) (Nat.le_succ _)
    · rw [decide_eq_false hn]
      refine iteT ⟨_, rfl, fun g dg ng ndg neg => ?_⟩
      have sx : Same H (upd (upd H dg (.own g)) g (.ins (He.ga K "Group") dg [])) := fun b o e => by
        rw [upd_ne (ne_of_none e ng), upd_ne (ne_of_none e ndg)]
        exact e
      refine ⟨H, g, dg, n, rfl, sx, ng, upd_same, fun H1 l s1 hg nl k1 => ⟨rfl, ?_⟩⟩
      have t1 := t.mono s1
      refine ⟨_, rfl, p, _, dx, _, .ref d3, rfl, t1.ins, W.c_Threads, W.n_Threads_groups, (by kernel_rfl), _, rfl, d3, _, rfl, DPut.k (k := Sum.inl n) t1.h3 (sz_lt (by rw [dki_len]; omega)), ?_⟩
      generalize e2 : upd H1 d3 _ = H2
      obtain ⟨h3, k2⟩ := gen_mut e2
      rw [dki_put hn] at h3
      have pd3 : p ≠ d3 := ne_of t1.ins t1.h3 (by intro z; cases z)
      obtain ⟨dg', hg1, hg2⟩ := hg
      have gd3 : g ≠ d3 := ne_of hg1 t1.h3 (by intro z; cases z)
      have ld3 : l ≠ d3 := ne_of hg2 t1.h3 (by intro z; cases z)
      have d23 : d2 ≠ d3 := ne_of t1.h2 t1.h3 (by intro z; cases z)
      have hgn : ∀ q ∈ gk, q.2 ≠ g := fun q hq e => by
        obtain ⟨⟨dgq, h, _⟩, _⟩ := t.grp q hq
        rw [e, ng] at h
        cases h
      have old : ∀ q ∈ gk, (if q.2 = g then (⟨l, [n], n⟩ : GI) else gi q.2) = gi q.2 := fun q hq => if_neg (hgn q hq)
      have hkl : ∀ q ∈ gk, (gi q.2).kl ≠ l := fun q hq e => by
        obtain ⟨⟨dgq, _, h⟩, _⟩ := t.grp q hq
        rw [e, nl] at h
        cases h
      have ngG : G g = none := t.same.free ng
      have nlG : G l = none := t.same.free nl
      have t2 : TS K G H2 p lk od (gk ++ [(n, g)]) (fun a => if a = g then ⟨l, [n], n⟩ else gi a) dx d1 d2 d3 := by
        refine ⟨?_, t.gp, t.g1, t.g2, t.g3, t.n13, (k2 _ pd3).trans t1.ins, (k2 _ t.n13).trans t1.h1, (k2 _ d23).trans t1.h2, h3, t.nl, ?_, fun q hq => ?_, fun q hq r hr => ?_⟩
        · rw [← e2]
          exact same_mut t1.same t.g3
        · rw [List.map_append, List.nodup_append]
          exact ⟨t.nk, by simp, fun a ha b hb e => hn (by have e2 : a = n := e.trans (List.mem_singleton.mp hb); rw [← e2]; exact ha)⟩
        · rcases List.mem_append.mp hq with hq | hq
          · show GrpAt K H2 q.2 (if q.2 = g then (⟨l, [n], n⟩ : GI) else gi q.2) ∧ G q.2 = none ∧ G (if q.2 = g then (⟨l, [n], n⟩ : GI) else gi q.2).kl = none ∧ (if q.2 = g then (⟨l, [n], n⟩ : GI) else gi q.2).kl ≠ d2 ∧ q.2 ≠ p
            rw [old q hq]
            obtain ⟨⟨dq, a, b⟩, c⟩ := t1.grp q hq
            exact ⟨⟨dq, (k2 _ (ne_of a t1.h3 (by intro z; cases z))).trans a, (k2 _ (ne_of b t1.h3 (by intro z; cases z))).trans b⟩, c⟩
          · rw [List.mem_singleton.mp hq]
            show GrpAt K H2 g (if g = g then (⟨l, [n], n⟩ : GI) else gi g) ∧ G g = none ∧ G (if g = g then (⟨l, [n], n⟩ : GI) else gi g).kl = none ∧ (if g = g then (⟨l, [n], n⟩ : GI) else gi g).kl ≠ d2 ∧ g ≠ p
            rw [if_pos rfl]
            exact ⟨⟨dg', (k2 _ gd3).trans hg1, (k2 _ ld3).trans hg2⟩, ngG, nlG, (fun e => by have e : l = d2 := e; rw [e, t.h2] at nl; cases nl), (fun e => by have e : g = p := e; rw [e, t.ins] at ng; cases ng)⟩
        · show (if q.2 = g then (⟨l, [n], n⟩ : GI) else gi q.2).kl = (if r.2 = g then (⟨l, [n], n⟩ : GI) else gi r.2).kl → q.2 = r.2
          rcases List.mem_append.mp hq with hq | hq <;> rcases List.mem_append.mp hr with hr | hr
          · rw [old q hq, old r hr]
            exact t.kl q hq r hr
          · rw [old q hq, List.mem_singleton.mp hr, if_pos rfl]
            exact fun e => absurd e (hkl q hq)
          · rw [old r hr, List.mem_singleton.mp hq, if_pos rfl]
            exact fun e => absurd e.symm (hkl r hr)
          · rw [List.mem_singleton.mp hq, List.mem_singleton.mp hr]
            exact fun _ => rfl
      refine ⟨_, rfl, p, _, dx, _, .ref d3, rfl, t2.ins, W.c_Threads, W.n_Threads_groups, (by kernel_rfl), _, rfl, d3, .ref g, rfl, ?_, ?_⟩
      · have := DGet.k (k := Sum.inl n) t2.h3
        rw [valV_dki, (atK_some t2.nk).mpr (List.mem_append_right _ (List.mem_singleton.mpr rfl))] at this
        exact this
      · refine q H2 _ _ g t2 (pt.new hn hgn) (List.mem_append_right _ (List.mem_singleton.mpr rfl)) (fun _ h => List.mem_append_left _ h) (fun m => ?_) (by rw [List.length_append]; exact Nat.le_refl _)
        rw [List.map_append, List.mem_append]
        show _ ∨ m ∈ [n] ↔ _
        rw [List.mem_singleton]
abbrev sc_Threads_merged_N : List PySem.Str := ["self", "group", "other", "number"]
theorem sc_Threads_merged : FnScope sc_Threads_merged_N ["self", "group", "other"] (defScope s_Threads_merged) := ⟨rfl, rfl, rfl, by decide +kernel, rfl, by decide +kernel, by decide +kernel⟩
theorem ok_Threads_merged (W : Wd K mg) : Ok P w K mg base 1 d_Threads_merged ["self", "group", "other"] (sp_Threads_merged K) := by
  refine ok_mk W.d_Threads_merged sc_Threads_merged (fun _ _ _ _ _ _ us hl => match us, hl with | [_, _, _], _ => rfl) (fun vs H Q E h => ?_) (fun cdv A outer s H vs Q E hr h => ?_)
  · obtain ⟨G, p, lk, od, gk, gi, dx, d1, d2, d3, a, b, x, y, E, rfl, _⟩ := h
    rfl
  · obtain ⟨G, p, lk, od, gk, gi, dx, d1, d2, d3, a0, b0, x, y, E, rfl, t, pt, hz, hx, hy, q⟩ := h
    have hu := hu_of hr
    have nd := sc_Threads_merged.nd
    obtain ⟨⟨da, ga1, ga2⟩, ga3, ga4, ga5, ga6⟩ := t.grp _ hx
    obtain ⟨⟨db, gb1, gb2⟩, gb3, gb4, gb5, gb6⟩ := t.grp _ hy
    refine ⟨_, (pss_cons (ps_if (pt_cmpR op_eq (kfld K (pv 1) rfl) (kfld K (pv 2) rfl) (nomark _))
      (pss_one (ps_ret (pv 1)))
      pss_nil)
    (Evl.pss_cut (ps_if (pt_cmpR op_lt (pe_callB (klen_seq K) rfl W.f_len PySem.boot_len (pa_cons (kfld K (pv 1) rfl) pa_nil)) (pe_callB (klen_seq K) rfl W.f_len PySem.boot_len (pa_cons (kfld K (pv 2) rfl) pa_nil)) (nomark _))
      (pss_one (ps_par (i := 1) (j := 2) rfl nd rfl rfl (by decide) rfl rfl (pa_cons (pv 2) (pa_cons (pv 1) pa_nil)) rfl))
      pss_nil)
    (pss_cons (ps_for PassesOwn.never rfl (pi_list (kfld K (pv 2) rfl)) (pg_name (i := 3) nd rfl (Or.inl rfl))
      (pss_one (ps_dput hu (kfld K (pv 0) rfl) (pv 3) (pv 1) rfl)))
    (pss_cons (ps_expr (kbm K PySem.F.plainAttrs_list PySem.F.slot_list_extend PySem.F.type_list_extend mt_extend (kfld K (pv 1) rfl) (pa_cons (kfld K (pv 2) rfl) pa_nil)))
    (pss_cons (ps_fld (pv 1) (pe_callB (call_min2 rfl) rfl W.f_min (by decide +kernel) (pa_cons (kfld K (pv 1) rfl) (pa_cons (kfld K (pv 2) rfl) pa_nil))) rfl)
    (pss_one (ps_ret (pv 1)))))))), ?_⟩
    refine ⟨_, rfl, a0, _, da, _, .int (gi a0).lw, rfl, ga1, W.c_Group, W.n_Group_lowest, (by kernel_rfl), _, rfl, b0, _, db, _, .int (gi b0).lw, rfl, gb1, W.c_Group, W.n_Group_lowest, (by kernel_rfl), rfl, _, rfl, ?_⟩
    by_cases hlw : (gi a0).lw = (gi b0).lw
    · rw [decide_eq_true (by rw [hlw])]
      refine iteT ⟨_, rfl, ?_⟩
      have hab : a0 = b0 := by
        have l1 := (pt.mem _ hx _).mp (pt.low _ hx).1
        have l2 := (pt.mem _ hy _).mp (pt.low _ hy).1
        have l1 : ((gi a0).lw, a0) ∈ gk := l1
        have l2 : ((gi b0).lw, b0) ∈ gk := l2
        rw [← hlw] at l2
        exact key_one t.nk l1 l2
      subst hab
      exact q H gk gi a0 t (pt.same hx hy) hx rfl
    · rw [decide_eq_false (by intro z; injection z with z; exact hlw z)]
      have hab0 : a0 ≠ b0 := fun e => hlw (by rw [e])
      refine iteF ?_
      refine ⟨fun σ H' => H' = H ∧ ∃ a b, σ = [some (.ref p), some (.ref a), some (.ref b), none] ∧ ((a = a0 ∧ b = b0) ∨ (a = b0 ∧ b = a0)), ?_, ?_⟩
      · refine ⟨_, rfl, a0, _, da, _, .ref (gi a0).kl, rfl, ga1, W.c_Group, W.n_Group_known, (by kernel_rfl), _, _, rfl, .inl (sqL ga2), _, rfl, b0, _, db, _, .ref (gi b0).kl, rfl, gb1, W.c_Group, W.n_Group_known, (by kernel_rfl), _, _, rfl, .inl (sqL gb2), _, _, rfl, rfl, _, rfl, ?_⟩
        refine ite2 (fun _ => ?_) fun _ => ?_
        · exact ⟨_, rfl, _, rfl, _, _, rfl, rfl, b0, a0, rfl, .inr ⟨rfl, rfl⟩⟩
        · exact ⟨rfl, a0, b0, rfl, .inl ⟨rfl, rfl⟩⟩
      rintro σ H0 ⟨rfl, a, b, rfl, hcase⟩
      obtain ⟨u, v, hu1, hv1, hab, huv⟩ : ∃ u v, (u, a) ∈ gk ∧ (v, b) ∈ gk ∧ a ≠ b ∧ ((u = x ∧ v = y) ∨ (u = y ∧ v = x)) := by
        rcases hcase with ⟨rfl, rfl⟩ | ⟨rfl, rfl⟩
        · exact ⟨x, y, hx, hy, hab0, .inl ⟨rfl, rfl⟩⟩
        · exact ⟨y, x, hy, hx, hab0.symm, .inr ⟨rfl, rfl⟩⟩
      clear ga1 ga2 ga3 ga4 ga5 ga6 gb1 gb2 gb3 gb4 gb5 gb6
      obtain ⟨⟨da, ga1, ga2⟩, ga3, ga4, ga5, ga6⟩ := t.grp _ hu1
      obtain ⟨⟨db, gb1, gb2⟩, gb3, gb4, gb5, gb6⟩ := t.grp _ hv1
      have klab : (gi a).kl ≠ (gi b).kl := fun e => hab (t.kl _ hu1 _ hv1 e)
      have knb := kn_len pt hv1
      have kna := kn_len pt hu1
      have knb : (gi b).kn.length ≤ gk.length := knb
      have kna : (gi a).kn.length ≤ gk.length := kna
      have pd3 : p ≠ d3 := ne_of t.ins t.h3 (by intro z; cases z)
      have d23 : d2 ≠ d3 := ne_of t.h2 t.h3 (by intro z; cases z)
      refine ⟨_, rfl, b, _, db, _, .ref (gi b).kl, rfl, gb1, W.c_Group, W.n_Group_known, (by kernel_rfl), (gi b).kl, rfl, ⟨_, sqL gb2⟩, ?_⟩
      refine for_walk (w_list (xs := (gi b).kn.map V.int)) (fun i σ H' => (∃ v3, σ = [some (.ref p), some (.ref a), some (.ref b), v3]) ∧ H' d3 = some (.dK (dki (reg gk ((gi b).kn.take i) a))) ∧ ∀ c, c ≠ d3 → H' c = H0 c) ?_ (fun i σ H' _ h => ?_) ?_ ?_
      · refine ⟨⟨_, rfl⟩, ?_, fun _ _ => rfl⟩
        rw [List.take_zero, reg_nil]
        exact t.h3
      · exact sqL ((h.2.2 _ (ne_of gb2 t.h3 (by intro z; cases z))).trans gb2)
      · rintro i w σ Hz H1 hi ⟨rfl, hw⟩ ⟨⟨v3, rfl⟩, hd3, hk⟩
        rw [List.length_map] at hi
        rw [List.getElem?_map, List.getElem?_eq_getElem hi] at hw
        cases hw
        refine ⟨_, rfl, _, rfl, p, _, dx, _, .ref d3, rfl, (hk _ pd3).trans t.ins, W.c_Threads, W.n_Threads_groups, (by kernel_rfl), _, rfl, d3, _, rfl, DPut.k (k := Sum.inl (gi b).kn[i]) hd3 (sz_lt (by rw [dki_len]; unfold reg; rw [List.length_map]; omega)), ⟨_, rfl⟩, ?_, fun c hc => (upd_ne hc).trans (hk c hc)⟩
        rw [upd_same, reg_more (List.mem_map.mpr ⟨((gi b).kn[i], b), (pt.mem _ hv1 _).mp (List.getElem_mem hi), rfl⟩), List.take_add_one, List.getElem?_eq_getElem hi]
        rfl
      rintro σ H1 ⟨⟨v3, rfl⟩, hd3, hk⟩
      rw [List.length_map, List.take_length] at hd3
      have ad3 : a ≠ d3 := ne_of ga1 t.h3 (by intro z; cases z)
      have bd3 : b ≠ d3 := ne_of gb1 t.h3 (by intro z; cases z)
      have kad3 : (gi a).kl ≠ d3 := ne_of ga2 t.h3 (by intro z; cases z)
      have kbd3 : (gi b).kl ≠ d3 := ne_of gb2 t.h3 (by intro z; cases z)
      have a1 := (hk _ ad3).trans ga1
      have b1 := (hk _ bd3).trans gb1
      have ka1 := (hk _ kad3).trans ga2
      have kb1 := (hk _ kbd3).trans gb2
      -- extend
      refine ⟨_, rfl, a, _, da, _, .ref (gi a).kl, rfl, a1, W.c_Group, W.n_Group_known, (by kernel_rfl), .inl ⟨rfl, _, sqL ka1⟩, _, rfl, b, _, db, _, .ref (gi b).kl, rfl, b1, W.c_Group, W.n_Group_known, (by kernel_rfl), (gi a).kl, (gi b).kl, _, _, rfl, rfl, ka1, kb1, sz_le (by rw [List.length_map, List.length_map]; omega), ?_⟩
      rw [← List.map_append]
      generalize e2 : upd H1 (gi a).kl _ = H2
      obtain ⟨hka2, k2⟩ := gen_mut e2
      have aka : a ≠ (gi a).kl := ne_of ga1 ga2 (by intro z; cases z)
      have bka : b ≠ (gi a).kl := ne_of gb1 ga2 (by intro z; cases z)
      have a2 := (k2 _ aka).trans a1
      have b2 := (k2 _ bka).trans b1
      -- lowest
      refine ⟨_, rfl, a, _, da, _, .int (gi a).lw, rfl, a2, W.c_Group, W.n_Group_lowest, (by kernel_rfl), _, rfl, b, _, db, _, .int (gi b).lw, rfl, b2, W.c_Group, W.n_Group_lowest, (by kernel_rfl), _, _, rfl, ?_⟩
      generalize hm : (if (gi b).lw < (gi a).lw then (gi b).lw else (gi a).lw) = m
      have sG2 : Same G H2 := by
        rw [← e2]
        refine same_mut (fun c o h => ?_) ga4
        have : c ≠ d3 := fun e => by rw [e, t.g3] at h; cases h
        rw [hk c this]
        exact t.same _ _ h
      refine ⟨_, rfl, a, _, da, _, rfl, a2, W.c_Group, W.n_Group_lowest, (by show 2 < 1000; decide), ?_⟩
      have ef : putF "lowest" (.int m) (gfs (gi a)) = gfs ⟨(gi a).kl, (gi a).kn ++ (gi b).kn, m⟩ := by kernel_rfl
      rw [ef]
      generalize e3 : upd H2 a _ = H3
      obtain ⟨ha3, k3⟩ := gen_mut e3
      have sG3 : Same G H3 := by rw [← e3]; exact same_mut sG2 ga3
      refine ⟨_, rfl, q H3 (reg gk (gi b).kn a) (fun c => if c = a then ⟨(gi a).kl, (gi a).kn ++ (gi b).kn, m⟩ else gi c) a ?_ ?_ ?_ (reg_keys _ _ _)⟩
      · have off : ∀ c, c ≠ a → c ≠ (gi a).kl → c ≠ d3 → H3 c = H0 c := fun c h1 h2 h3 => (k3 c h1).trans ((k2 c h2).trans (hk c h3))
        refine ⟨sG3, t.gp, t.g1, t.g2, t.g3, t.n13, (off p ga6.symm (ne_of t.ins ga2 (by intro z; cases z)) pd3).trans t.ins, (off d1 (ne_of t.h1 ga1 (by intro z; cases z)) (ne_of t.h1 ga2 (by intro z; cases z)) t.n13).trans t.h1, (off d2 (ne_of t.h2 ga1 (by intro z; cases z)) ga5.symm d23).trans t.h2, (k3 _ ad3.symm).trans ((k2 _ kad3.symm).trans hd3), t.nl, by rw [reg_keys]; exact t.nk, fun q hq => ?_, fun q hq r hr => ?_⟩
        · show GrpAt K H3 q.2 (if q.2 = a then (⟨(gi a).kl, (gi a).kn ++ (gi b).kn, m⟩ : GI) else gi q.2) ∧ G q.2 = none ∧ G (if q.2 = a then (⟨(gi a).kl, (gi a).kn ++ (gi b).kn, m⟩ : GI) else gi q.2).kl = none ∧ (if q.2 = a then (⟨(gi a).kl, (gi a).kn ++ (gi b).kn, m⟩ : GI) else gi q.2).kl ≠ d2 ∧ q.2 ≠ p
          by_cases hqa : q.2 = a
          · rw [if_pos hqa, hqa]
            exact ⟨⟨da, ha3, (k3 _ aka.symm).trans hka2⟩, ga3, ga4, ga5, ga6⟩
          · rw [if_neg hqa]
            have hq2 : q ∈ gk := by
              rcases (reg_mem (n := q.1) (c := q.2)).mp hq with ⟨_, h, _⟩ | ⟨_, h⟩
              · exact absurd h hqa
              · exact h
            obtain ⟨⟨dq, h1, h2⟩, h3⟩ := t.grp q hq2
            have n1 : (gi q.2).kl ≠ (gi a).kl := fun e => hqa (t.kl _ hq2 _ hu1 e)
            exact ⟨⟨dq, (off _ hqa (ne_of h1 ga2 (by intro z; cases z)) (ne_of h1 t.h3 (by intro z; cases z))).trans h1, (off _ (ne_of h2 ga1 (by intro z; cases z)) n1 (ne_of h2 t.h3 (by intro z; cases z))).trans h2⟩, h3⟩
        · have gkl : ∀ c, (if c = a then (⟨(gi a).kl, (gi a).kn ++ (gi b).kn, m⟩ : GI) else gi c).kl = (gi c).kl := fun c => by
            by_cases h : c = a
            · rw [if_pos h, h]
            · rw [if_neg h]
          show (if q.2 = a then (⟨(gi a).kl, (gi a).kn ++ (gi b).kn, m⟩ : GI) else gi q.2).kl = (if r.2 = a then (⟨(gi a).kl, (gi a).kn ++ (gi b).kn, m⟩ : GI) else gi r.2).kl → q.2 = r.2
          rw [gkl, gkl]
          have back : ∀ q ∈ reg gk (gi b).kn a, ∃ n, (n, q.2) ∈ gk := fun q hq => by
            rcases (reg_mem (n := q.1) (c := q.2)).mp hq with ⟨_, h, _⟩ | ⟨_, h⟩
            · exact ⟨u, h ▸ hu1⟩
            · exact ⟨q.1, h⟩
          obtain ⟨n1, h1⟩ := back q hq
          obtain ⟨n2, h2⟩ := back r hr
          exact t.kl (n1, q.2) h1 (n2, r.2) h2
      · refine PT.join (x := u) (y := v) t.nk pt hab hu1 hv1 (fun e he => List.mem_append_left _ he) (fun e he => ?_) ?_ m hm.symm
        · rcases List.mem_append.mp he with he | he
          · exact .inl he
          · rw [List.mem_singleton.mp he]
            rcases huv with ⟨rfl, rfl⟩ | ⟨rfl, rfl⟩
            · exact .inr (.inl rfl)
            · exact .inr (.inr rfl)
        · rcases huv with ⟨rfl, rfl⟩ | ⟨rfl, rfl⟩
          · exact .inl (List.mem_append_right _ (List.mem_singleton.mpr rfl))
          · exact .inr (List.mem_append_right _ (List.mem_singleton.mpr rfl))
      · rcases huv with ⟨rfl, rfl⟩ | ⟨rfl, rfl⟩
        · exact reg_mem.mpr (.inr ⟨fun h => hab (key_one t.nk hu1 ((pt.mem _ hv1 _).mp h)), hu1⟩)
        · exact reg_mem.mpr (.inl ⟨(pt.mem _ hv1 _).mpr hv1, rfl, List.mem_map.mpr ⟨_, hv1, rfl⟩⟩)
end
end K75
end T_C2

section T_C3
set_option Elab.async false
set_option linter.all false
set_option maxRecDepth 100000
set_option maxHeartbeats 4000000
namespace K75
open PySem PySem.Spec PyProof.Rows L2 TL
/-- the edges that a letter brings -/
def edgesOf (L : Lt) : Edges := L.ans.map fun a => (L.n, a)
def sp_Threads_put (K : PySem.W.Frag) : Sp := fun vs H Q _ => ∃ (G : Hp) (p : Addr) (lk : List (Int × Addr)) (od : List Int) (gk : List (Int × Addr)) (gi : Addr → GI) (dx d1 d2 d3 a : Addr) (L : Lt) (E : Edges), vs = [.ref p, .ref a] ∧ TS K G H p lk od gk gi dx d1 d2 d3 ∧ LetterAt K G a L ∧ L.n ∉ lk.map (·.1) ∧ L.ans.length ≤ 8 ∧ PT gk gi E ∧ gk.length ≤ 900 ∧ lk.length ≤ 900 ∧ od.length ≤ 900 ∧
  ∀ H' gk' gi', TS K G H' p (lk ++ [(L.n, a)]) (od ++ [L.n]) gk' gi' dx d1 d2 d3 → PT gk' gi' (E ++ edgesOf L) → (∀ m, m ∈ gk'.map (·.1) ↔ m ∈ gk.map (·.1) ∨ m = L.n ∨ m ∈ L.ans) → gk'.length ≤ gk.length + 9 → Q (.bl true) H'
section
variable {P : Program} {w : World} {K : PySem.W.Frag} {mg : PySem.Str → Option Value} {base : Heap}
abbrev sc_Threads_put_N : List PySem.Str := ["self", "letter", "group", "answered"]
theorem sc_Threads_put : FnScope sc_Threads_put_N ["self", "letter"] (defScope s_Threads_put) := ⟨rfl, rfl, rfl, by decide +kernel, rfl, by decide +kernel, by decide +kernel⟩
theorem ok_Threads_put (W : Wd K mg) : Ok P w K mg base 4 d_Threads_put ["self", "letter"] (sp_Threads_put K) := by
  refine ok_mk W.d_Threads_put sc_Threads_put (fun _ _ _ _ _ _ us hl => match us, hl with | [_, _], _ => rfl) (fun vs H Q E h => ?_) (fun cdv A outer s H vs Q E hr h => ?_)
  · obtain ⟨G, p, lk, od, gk, gi, dx, d1, d2, d3, a, L, E, rfl, _⟩ := h
    rfl
  · obtain ⟨G, p, lk, od, gk, gi, dx, d1, d2, d3, a, L, E, rfl, t, hL, hn, h8, pt, hz, hzl, hzo, q⟩ := h
    have hu := hu_of hr
    have nd := sc_Threads_put.nd
    refine ⟨_, (pss_cons (ps_if (pt_val (pe_o (pv 0) W.c_Threads (ok_Threads_has_come W) W.m_Threads_has_come (hr.mono (by decide)) (pa_cons (pv 1) pa_nil)))
      (pss_one (ps_ret pe_bl))
      pss_nil)
    (pss_cons (ps_dput hu (kfld K (pv 0) rfl) (kfld K (pv 1) rfl) (pv 1) rfl)
    (pss_cons (ps_expr (kbm K PySem.F.plainAttrs_list PySem.F.slot_list_append PySem.F.type_list_append mt_append (kfld K (pv 0) rfl) (pa_cons (kfld K (pv 1) rfl) pa_nil)))
    (pss_cons (ps_set (i := 2) nd rfl (Or.inl rfl) (pe_o (pv 0) W.c_Threads (ok_Threads_group_of W) W.m_Threads_group_of (hr.mono (by decide)) (pa_cons (kfld K (pv 1) rfl) pa_nil)))
    (pss_cons (ps_for PassesOwn.never rfl (pi_tup (kfld K (pv 1) rfl)) (pg_name (i := 3) nd rfl (Or.inl rfl))
      (pss_one (ps_set (i := 2) nd rfl (Or.inl rfl) (pe_o (pv 0) W.c_Threads (ok_Threads_merged W) W.m_Threads_merged (hr.mono (by decide)) (pa_cons (pv 2) (pa_cons (pe_o (pv 0) W.c_Threads (ok_Threads_group_of W) W.m_Threads_group_of (hr.mono (by decide)) (pa_cons (pv 3) pa_nil)) pa_nil))))))
    (pss_one (ps_ret pe_bl))))))), ?_⟩
    have hLG := hL
    have fl : ∀ {H' : Hp}, Same G H' → ∃ dl t1 t2 t3, H' a = some (.ins (He.ga K "Letter") dl (lfs L t1 t2 t3)) ∧ H' t1 = some (.tup (L.ans.map V.int)) := fun s => by
      obtain ⟨dl, t1, t2, t3, h1, h2, _⟩ := hLG.mono s
      exact ⟨dl, t1, t2, t3, h1, h2⟩
    obtain ⟨dl, t1, t2, t3, ha, ht1, ht2, ht3⟩ := hL
    refine ⟨_, rfl, p, dx, _, rfl, t.ins, (by kernel_rfl), _, rfl, G, p, lk, od, gk, gi, dx, d1, d2, d3, a, L, rfl, t, hLG.mono t.same, hn, ?_⟩
    refine ⟨false, rfl, iteF ?_⟩
    have ha0 := t.same _ _ ha
    refine ⟨_, rfl, _, rfl, p, _, dx, _, .ref d1, rfl, t.ins, W.c_Threads, W.n_Threads_letters, (by kernel_rfl), _, rfl, a, _, dl, _, .int L.n, rfl, ha0, W.c_Letter, W.n_Letter_number, lf_number _ _ _ _, d1, _, rfl, DPut.k (k := Sum.inl L.n) t.h1 (sz_lt (by rw [dki_len]; omega)), ?_⟩
    rw [dki_put hn]
    generalize e1 : upd H d1 _ = H1
    obtain ⟨h1, k1⟩ := gen_mut e1
    have s1 : Same G H1 := by rw [← e1]; exact same_mut t.same t.g1
    have pd1 : p ≠ d1 := ne_of t.ins t.h1 (by intro z; cases z)
    have d21 : d2 ≠ d1 := ne_of t.h2 t.h1 (by intro z; cases z)
    have i1 := (k1 _ pd1).trans t.ins
    have j1 := (k1 _ d21).trans t.h2
    refine ⟨_, rfl, p, _, dx, _, .ref d2, rfl, i1, W.c_Threads, W.n_Threads_order, (by kernel_rfl), .inl ⟨rfl, _, sqL j1⟩, _, rfl, a, _, dl, _, .int L.n, rfl, s1 _ _ ha, W.c_Letter, W.n_Letter_number, lf_number _ _ _ _, d2, _, _, rfl, rfl, j1, sz_lt (by rw [List.length_map]; omega), ?_⟩
    rw [show od.map V.int ++ [V.int L.n] = (od ++ [L.n]).map V.int by rw [List.map_append]; rfl]
    generalize e2 : upd H1 d2 _ = H2
    obtain ⟨h2, k2⟩ := gen_mut e2
    have s2 : Same G H2 := by rw [← e2]; exact same_mut s1 t.g2
    have pd2 : p ≠ d2 := ne_of t.ins t.h2 (by intro z; cases z)
    have d32 : d3 ≠ d2 := ne_of t.h3 t.h2 (by intro z; cases z)
    have tn : TS K G H2 p (lk ++ [(L.n, a)]) (od ++ [L.n]) gk gi dx d1 d2 d3 := by
      refine ⟨s2, t.gp, t.g1, t.g2, t.g3, t.n13, (k2 _ pd2).trans i1, (k2 _ d21.symm).trans h1, h2, (k2 _ d32).trans ((k1 _ t.n13.symm).trans t.h3), ?_, t.nk, fun q hq => ?_, t.kl⟩
      · rw [List.map_append, List.nodup_append]
        exact ⟨t.nl, by simp, fun u hu v hv e => hn (by have e2 : u = L.n := e.trans (List.mem_singleton.mp hv); rw [← e2]; exact hu)⟩
      · obtain ⟨⟨dg, a1, a2⟩, a3, a4, a5, a6⟩ := t.grp q hq
        have n1 : q.2 ≠ d1 := ne_of a1 t.h1 (by intro z; cases z)
        have n2 : q.2 ≠ d2 := ne_of a1 t.h2 (by intro z; cases z)
        have n3 : (gi q.2).kl ≠ d1 := ne_of a2 t.h1 (by intro z; cases z)
        exact ⟨⟨dg, (k2 _ n2).trans ((k1 _ n1).trans a1), (k2 _ a5).trans ((k1 _ n3).trans a2)⟩, a3, a4, a5, a6⟩
    have ha2 := s2 _ _ ha
    refine ⟨_, rfl, p, dx, _, rfl, tn.ins, (by kernel_rfl), _, rfl, a, _, dl, _, .int L.n, rfl, ha2, W.c_Letter, W.n_Letter_number, lf_number _ _ _ _, G, p, _, _, gk, gi, dx, d1, d2, d3, L.n, E, rfl, tn, pt, by omega, fun H3 gk3 gi3 g3 t3' pt3 m3 o3 ks3 l3 => ?_⟩
    refine ⟨_, rfl, a, _, dl, _, .ref t1, rfl, t3'.same _ _ ha, W.c_Letter, W.n_Letter_answers, lf_answers _ _ _ _, t1, rfl, ⟨_, sqT (t3'.same _ _ ht1)⟩, ?_⟩
    refine for_walk (w_tup (xs := L.ans.map V.int)) (fun i σ H' => ∃ gk' gi' g v3, σ = [some (.ref p), some (.ref a), some (.ref g), v3] ∧ TS K G H' p (lk ++ [(L.n, a)]) (od ++ [L.n]) gk' gi' dx d1 d2 d3 ∧ PT gk' gi' (E ++ (L.ans.take i).map fun a => (L.n, a)) ∧ (L.n, g) ∈ gk' ∧ (∀ m, m ∈ gk'.map (·.1) ↔ (m ∈ gk.map (·.1) ∨ m = L.n) ∨ m ∈ L.ans.take i) ∧ gk'.length ≤ gk.length + 1 + i) ?_ (fun i σ H' _ h => ?_) ?_ ?_
    · refine ⟨gk3, gi3, g3, _, rfl, t3', ?_, m3, fun m => ?_, l3⟩
      · rw [List.take_zero, List.map_nil, List.append_nil]
        exact pt3
      · rw [ks3, List.take_zero]
        simp
    · obtain ⟨gk', gi', g, v3, _, th, _⟩ := h
      exact sqT (th.same _ _ ht1)
    · rintro i v σ Hz H4 hi ⟨rfl, hv⟩ ⟨gk4, gi4, g4, v4, rfl, t4, pt4, m4, ks4, l4⟩
      rw [List.length_map] at hi
      rw [List.getElem?_map, List.getElem?_eq_getElem hi] at hv
      cases hv
      refine ⟨_, rfl, p, dx, _, rfl, t4.ins, (by kernel_rfl), _, rfl, _, rfl, p, dx, _, rfl, t4.ins, (by kernel_rfl), _, rfl, G, p, _, _, gk4, gi4, dx, d1, d2, d3, L.ans[i], _, rfl, t4, pt4, by omega, fun H5 gk5 gi5 g5 t5 pt5 m5 o5 ks5 l5 => ?_⟩
      refine ⟨G, p, _, _, gk5, gi5, dx, d1, d2, d3, g4, g5, L.n, L.ans[i], _, rfl, t5, pt5, by omega, o5 _ m4, m5, fun H6 gk6 gi6 g6 t6 pt6 m6 ks6 => ?_⟩
      refine ⟨gk6, gi6, g6, _, rfl, t6, ?_, m6, fun m => ?_, ?_⟩
      · rw [List.take_add_one, List.getElem?_eq_getElem hi, List.map_append, ← List.append_assoc]
        exact pt6
      · rw [ks6, ks5, ks4, List.take_add_one, List.getElem?_eq_getElem hi, List.mem_append, or_assoc]
        show _ ∨ _ ∨ m = L.ans[i] ↔ _ ∨ _ ∨ m ∈ [L.ans[i]]
        rw [List.mem_singleton]
      · have := congrArg List.length ks6
        rw [List.length_map, List.length_map] at this
        omega
    · rintro σ H4 ⟨gk4, gi4, g4, v4, rfl, t4, pt4, m4, ks4, l4⟩
      rw [List.length_map, List.take_length] at pt4 ks4
      rw [List.length_map] at l4
      exact q H4 gk4 gi4 t4 pt4 (fun m => by rw [ks4, or_assoc]) (by omega)
end
end K75
end T_C3

section T_C4
set_option Elab.async false
set_option linter.all false
set_option maxRecDepth 100000
set_option maxHeartbeats 4000000
namespace K75
open PySem PySem.Spec PyProof.Rows L2 TL
/-- a new tuple of ints, in order, that holds just what p says -/
def NewTup (H : Hp) (p : Int → Prop) (Q : VK) : Prop := ∀ (H' : Hp) (t : Addr) (xs : List Int), Same H H' → H t = none → H' t = some (.tup (xs.map V.int)) → xs.Pairwise (· < ·) → (∀ x, x ∈ xs ↔ p x) → Q (.ref t) H'
def sp_Threads_names (K : PySem.W.Frag) : Sp := fun vs H Q _ => ∃ (G : Hp) (p : Addr) (lk : List (Int × Addr)) (od : List Int) (gk : List (Int × Addr)) (gi : Addr → GI) (dx d1 d2 d3 : Addr) (M : List Int), vs = [.ref p] ∧ TS K G H p lk od gk gi dx d1 d2 d3 ∧ gk.length ≤ 900 ∧ M.length < 64 ∧ (∀ q ∈ gk, (gi q.2).lw ∈ M) ∧
  NewTup H (fun x => ∃ q ∈ gk, (gi q.2).lw = x) Q
def sp_Threads_joined (K : PySem.W.Frag) : Sp := fun vs H Q _ => ∃ (G : Hp) (p : Addr) (lk : List (Int × Addr)) (od : List Int) (gk : List (Int × Addr)) (gi : Addr → GI) (dx d1 d2 d3 a : Addr) (L : Lt), vs = [.ref p, .ref a] ∧ TS K G H p lk od gk gi dx d1 d2 d3 ∧ LetterAt K H a L ∧ L.n ∉ lk.map (·.1) ∧ L.ans.length ≤ 8 ∧
  NewTup H (fun x => ∃ n g, n ∈ L.n :: L.ans ∧ atK gk n = some g ∧ (gi g).lw = x) Q
section
variable {P : Program} {w : World} {K : PySem.W.Frag} {mg : PySem.Str → Option Value} {base : Heap}
abbrev sc_Threads_joined_N : List PySem.Str := ["self", "letter", "touched", "number"]
theorem sc_Threads_joined : FnScope sc_Threads_joined_N ["self", "letter"] (defScope s_Threads_joined) := ⟨rfl, rfl, rfl, by decide +kernel, rfl, by decide +kernel, by decide +kernel⟩
theorem ok_Threads_joined (W : Wd K mg) : Ok P w K mg base 3 d_Threads_joined ["self", "letter"] (sp_Threads_joined K) := by
  refine ok_mk W.d_Threads_joined sc_Threads_joined (fun _ _ _ _ _ _ us hl => match us, hl with | [_, _], _ => rfl) (fun vs H Q E h => ?_) (fun cdv A outer s H vs Q E hr h => ?_)
  · obtain ⟨G, p, lk, od, gk, gi, dx, d1, d2, d3, a, L, rfl, _⟩ := h
    rfl
  · obtain ⟨G, p, lk, od, gk, gi, dx, d1, d2, d3, a, L, rfl, t, hL, hn, h8, q⟩ := h
    have hu := hu_of hr
    have nd := sc_Threads_joined.nd
    refine ⟨_, (pss_cons (ps_expr (pe_o (pv 0) W.c_Threads (ok_Threads_has_come W) W.m_Threads_has_come (hr.mono (by decide)) (pa_cons (pv 1) pa_nil)))
    (pss_cons (ps_set (i := 2) nd rfl (Or.inl rfl) (pe_lst (pa_cons (kfld K (pv 1) rfl) (StX.pa_star (kfld K (pv 1) rfl) pa_nil))))
    (pss_one (ps_ret (pe_tupleOf rfl W.f_tuple (pe_callB (cr_sortedSet rfl) rfl W.f_sorted (by decide +kernel) (pa_cons (pe_scI (own := [("number", 3)]) rfl nd (pi_list (pv 2)) (blkOk_by (N := sc_Threads_joined_N) (sc := defScope s_Threads_joined) (by decide +kernel)) (fun _ _ _ _ _ => (pg_name (i := 3) nd rfl (Or.inl rfl))) (fun _ _ _ _ _ => (pts_one (pt_cmp (pc_din hu (pv 3) (kfld K (pv 0) rfl))))) (fun _ _ _ _ _ => (kfld K (pe_dget hu (kfld K (pv 0) rfl) (pv 3) (fun _ _ => rfl)) rfl))) pa_nil))))))), ?_⟩
    have hL0 := hL
    obtain ⟨dl, t1, t2, t3, ha, ht1, ht2, ht3⟩ := hL
    refine ⟨_, rfl, p, dx, _, rfl, t.ins, (by kernel_rfl), _, rfl, G, p, lk, od, gk, gi, dx, d1, d2, d3, a, L, rfl, t, hL0, hn, ?_⟩
    refine ⟨_, rfl, a, _, dl, _, .int L.n, rfl, ha, W.c_Letter, W.n_Letter_number, lf_number _ _ _ _, _, rfl, a, _, dl, _, .ref t1, rfl, ha, W.c_Letter, W.n_Letter_answers, lf_answers _ _ _ _, ?_⟩
    refine ⟨t1, _, rfl, .inl (sqT ht1), ?_⟩
    refine ⟨by rw [List.append_nil, List.length_cons, List.length_map]; exact sz_le (by omega), fun l nl => ?_⟩
    rw [show V.int L.n :: (L.ans.map V.int ++ []) = (L.n :: L.ans).map V.int by rw [List.append_nil]; rfl]
    generalize hts : L.n :: L.ans = ts at q ⊢
    have hts9 : ts.length ≤ 9 := by rw [← hts]; simp; omega
    generalize e1 : upd H l _ = H1
    obtain ⟨s1, h1⟩ := gen_upd nl e1
    have t1' := t.mono s1
    refine ⟨_, rfl, l, rfl, ⟨_, sqL h1⟩, fun D nD => ?_⟩
    refine sc_pure (w_list (xs := ts.map V.int)) (fun i => (ts[i]?.bind fun n => atK gk n).map fun g => (gi g).lw) nD (fun H' s => sqL (s _ _ h1)) (fun i x H H' r => by rw [r.1]; exact Same.refl _) ?_ ?_
    · rintro i x H2 Hy hi ⟨rfl, hx⟩ s2 _ hS
      rw [List.length_map] at hi
      rw [List.getElem?_map, List.getElem?_eq_getElem hi] at hx
      cases hx
      have t2 := t1'.mono s2
      refine ⟨rfl, ?_⟩
      refine ⟨_, rfl, _, rfl, p, _, dx, _, .ref d3, rfl, t2.ins, W.c_Threads, W.n_Threads_groups, (by kernel_rfl), d3, _, rfl, DGet.k (k := Sum.inl ts[i]) t2.h3, ?_⟩
      rw [isSome_dki]
      cases e : atK gk ts[i] with
      | none =>
        rw [decide_eq_false (atK_none.mp e)]
        exact ⟨false, rfl, iteF (scN s2 hS (by rw [List.getElem?_eq_getElem hi]; show Option.map _ (atK gk ts[i]) = none; rw [e]; rfl))⟩
      | some g =>
        have hm := (atK_some t.nk).mp e
        rw [decide_eq_true (List.mem_map.mpr ⟨(ts[i], g), hm, rfl⟩)]
        obtain ⟨⟨dg, hg, _⟩, _⟩ := t2.grp _ hm
        refine ⟨true, rfl, iteT ⟨_, rfl, p, _, dx, _, .ref d3, rfl, t2.ins, W.c_Threads, W.n_Threads_groups, (by kernel_rfl), _, rfl, d3, .ref g, rfl, ?_, g, _, dg, _, .int (gi g).lw, rfl, hg, W.c_Group, W.n_Group_lowest, (by kernel_rfl), ?_⟩⟩
        · have := DGet.k (k := Sum.inl ts[i]) t2.h3
          rw [valV_dki, e] at this
          exact this
        · exact scT nD s2 hS (by rw [List.getElem?_eq_getElem hi]; show Option.map _ (atK gk ts[i]) = _; rw [e]; rfl) (by omega)
    · intro H2 ds S s2 h2 dn dS dm
      rw [List.length_map] at dm
      have dm2 : ∀ k, k ∈ ds ↔ ∃ n g, n ∈ ts ∧ atK gk n = some g ∧ (gi g).lw = k := fun k => by
        rw [dm]
        constructor
        · rintro ⟨j, hj, e⟩
          rw [List.getElem?_eq_getElem hj] at e
          have e : (atK gk ts[j]).map (fun g => (gi g).lw) = some k := e
          cases e2 : atK gk ts[j] with
          | none => rw [e2] at e; cases e
          | some g => rw [e2] at e; exact ⟨ts[j], g, List.getElem_mem hj, e2, Option.some.inj e⟩
        · rintro ⟨n, g, hn, e1, e2⟩
          obtain ⟨j, hj, e3⟩ := List.getElem_of_mem hn
          refine ⟨j, hj, ?_⟩
          rw [List.getElem?_eq_getElem hj, e3]
          show Option.map _ (atK gk n) = _
          rw [e1, ← e2]
          rfl
      have dl : ds.length < 64 := by
        have := nodup_sub (ys := ts.map fun n => match atK gk n with | some g => (gi g).lw | none => 0) dn fun k hk => by
          obtain ⟨n, g, hn, e1, e2⟩ := (dm2 k).mp hk
          exact List.mem_map.mpr ⟨n, hn, by rw [e1]; exact e2⟩
        rw [List.length_map] at this
        omega
      refine ⟨D, S, ds.length, rfl, h2, dl, fun ns p2 hp hk hl np => ?_⟩
      generalize e3 : upd H2 p2 _ = H3
      obtain ⟨s3, h3⟩ := gen_upd np e3
      refine .inl ⟨p2, _, rfl, sqL h3, fun t0 nt => ?_⟩
      generalize e4 : upd H3 t0 _ = H4
      obtain ⟨s4, h4⟩ := gen_upd nt e4
      exact q H4 t0 ns (((s1.trans s2).trans s3).trans s4) (((s1.trans s2).trans s3).free nt) h4 hp fun x => by rw [hk, dS, dm2]
abbrev sc_Threads_names_N : List PySem.Str := ["self", "group"]
theorem sc_Threads_names : FnScope sc_Threads_names_N ["self"] (defScope s_Threads_names) := ⟨rfl, rfl, rfl, by decide +kernel, rfl, by decide +kernel, by decide +kernel⟩
theorem ok_Threads_names (W : Wd K mg) : Ok P w K mg base 1 d_Threads_names ["self"] (sp_Threads_names K) := by
  refine ok_mk W.d_Threads_names sc_Threads_names (fun _ _ _ _ _ _ us hl => match us, hl with | [_], _ => rfl) (fun vs H Q E h => ?_) (fun cdv A outer s H vs Q E hr h => ?_)
  · obtain ⟨G, p, lk, od, gk, gi, dx, d1, d2, d3, M, rfl, _⟩ := h
    rfl
  · obtain ⟨G, p, lk, od, gk, gi, dx, d1, d2, d3, M, rfl, t, hz, hM, hm, q⟩ := h
    have hu := hu_of hr
    have nd := sc_Threads_names.nd
    refine ⟨_, (pss_one (ps_ret (pe_tupleOf rfl W.f_tuple (pe_callB (cr_sortedSet rfl) rfl W.f_sorted (by decide +kernel) (pa_cons (pe_scI (own := [("group", 1)]) rfl nd (pi_list (pe_listVals rfl rfl W.f_list (kfld K (pv 0) rfl))) (blkOk_by (N := sc_Threads_names_N) (sc := defScope s_Threads_names) (by decide +kernel)) (fun _ _ _ _ _ => (pg_name (i := 1) nd rfl (Or.inl rfl))) (fun _ _ _ _ _ => pts_nil) (fun _ _ _ _ _ => (kfld K (pv 1) rfl))) pa_nil))))), ?_⟩
    refine ⟨_, rfl, p, _, dx, _, .ref d3, rfl, t.ins, W.c_Threads, W.n_Threads_groups, (by kernel_rfl), d3, _, rfl, t.h3, fun l nl => ?_⟩
    generalize e1 : upd H l _ = H1
    obtain ⟨s1, h1⟩ := gen_upd nl e1
    have h1 : H1 l = some (.lst ((gk.map fun q => V.ref q.2))) := by
      rw [h1]
      unfold dki
      rw [List.map_map]
      rfl
    have t1 := t.mono s1
    refine ⟨l, rfl, ⟨_, sqL h1⟩, fun D nD => ?_⟩
    refine sc_pure (w_list (xs := gk.map fun q => V.ref q.2)) (fun i => gk[i]?.map fun q => (gi q.2).lw) nD (fun H' s => sqL (s _ _ h1)) (fun i x H H' r => by rw [r.1]; exact Same.refl _) ?_ ?_
    · rintro i x H2 Hy hi ⟨rfl, hx⟩ s2 _ hS
      rw [List.length_map] at hi
      rw [List.getElem?_map, List.getElem?_eq_getElem hi] at hx
      cases hx
      obtain ⟨⟨dg, g1, g2⟩, _⟩ := t1.grp gk[i] (List.getElem_mem hi)
      refine ⟨rfl, tyes ⟨_, rfl, gk[i].2, _, dg, _, .int (gi gk[i].2).lw, rfl, s2 _ _ g1, W.c_Group, W.n_Group_lowest, (by kernel_rfl), ?_⟩⟩
      exact scT nD s2 hS (by rw [List.getElem?_eq_getElem hi]; rfl) (by omega)
    · intro H2 ds S s2 h2 dn dS dm
      rw [List.length_map] at dm
      have dm2 : ∀ k, k ∈ ds ↔ ∃ q ∈ gk, (gi q.2).lw = k := fun k => by
        rw [dm]
        constructor
        · rintro ⟨j, hj, e⟩
          rw [List.getElem?_eq_getElem hj] at e
          exact ⟨gk[j], List.getElem_mem hj, Option.some.inj e⟩
        · rintro ⟨q, hq, e⟩
          obtain ⟨j, hj, e2⟩ := List.getElem_of_mem hq
          exact ⟨j, hj, by rw [List.getElem?_eq_getElem hj, e2, ← e]; rfl⟩
      have dl : ds.length < 64 := Nat.lt_of_le_of_lt (nodup_sub dn fun k hk => by
        obtain ⟨q, hq, e⟩ := (dm2 k).mp hk
        rw [← e]
        exact hm q hq) hM
      refine ⟨D, S, ds.length, rfl, h2, dl, fun ns p2 hp hk hl np => ?_⟩
      generalize e3 : upd H2 p2 _ = H3
      obtain ⟨s3, h3⟩ := gen_upd np e3
      refine .inl ⟨p2, _, rfl, sqL h3, fun t0 nt => ?_⟩
      generalize e4 : upd H3 t0 _ = H4
      obtain ⟨s4, h4⟩ := gen_upd nt e4
      exact q H4 t0 ns (((s1.trans s2).trans s3).trans s4) (((s1.trans s2).trans s3).free nt) h4 hp fun x => by rw [hk, dS, dm2]
end
end K75
end T_C4

section T_C5
set_option Elab.async false
set_option linter.all false
set_option maxRecDepth 100000
set_option maxHeartbeats 4000000
namespace K75
open PySem PySem.Spec PyProof.Rows L2 TL
/-! ### a class held in a slot, called; a classmethod, called -/
section
variable {X : Cx} {d : He5.DefA} {ps : List PySem.Str} {sp : Sp} {k : Nat}
def tCls (C : Addr) (sp : Sp) (ta : TE) : TE := fun σ H Q => ta σ H fun v H1 => v = .ref C ∧ tMake C sp [] E0 tNil σ H1 Q
theorem pe_cls {x : PySem.Str} {C : Addr} {p pos : Pos} {ta : TE} (he : PE X (.Name x p) ta) (O : Ok X.prog X.w X.K X.mg X.base k d ps sp) (M : Mk X.K C (d.at_ X.K)) (hr : Room (k + 1) X.A) : PE X (.Call (.Name x p) [] [] pos) (tCls C sp ta) := by
  obtain ⟨fd, F, kp, b⟩ := O
  refine ⟨fun pins s σ H Q I h => wpAny_Call_Name_kw (thn (he.run pins s σ H _ I h) fun u s1 ⟨x, H1, I1, rx, ex, q⟩ => ?_)⟩
  subst ex
  obtain rfl : u = Value.ref C := rx
  exact PySem.W.callWith_K0 I1.kIn M.kp (run_make (us := []) M F hr b .nil pass0 I1 .nil q)
theorem Ok.raw (O : Ok X.prog X.w X.K X.mg X.base k d ps sp) : FnR X.prog X.w X.K X.mg X.base CX0 k (d.at_ X.K) sp := by
  obtain ⟨fd, F, kp, b⟩ := O
  refine (F.raw b .nil).imp fun vs H Q E h => ?_
  rw [List.append_nil]
  exact h
theorem pe_c {C pa : Addr} {mc : Value} {m : PySem.Str} {o e : Expr} {es : List Expr} {apos pos : Pos} {ta : TE} {t : TA} {pl : Sem Bool} (he : PE X o ta) (r : ClX.CRead X.K C mc) (c : ClX.CMet X.K C mc m pa (d.at_ X.K)) (O : Ok X.prog X.w X.K X.mg X.base k d ps sp) (hr : Room k X.A) (ha : PA X (e :: es) t)
    (hst : starEach (e :: es) X.env = (false, eval e X.env) :: starEach es X.env := by rfl) (hpl : (backTo pos (starEach es X.env)).any (·.1) = false := by rfl)
    (ht : eval (.Call (.Attribute o m apos) (e :: es) [] pos) X.env = (do
      let ov ← eval o X.env
      standAt apos.atName
      let (f, first) ← holding [ov] (getMethod ov m pl)
      callWith pos f first (backTo pos (starEach (e :: es) X.env)) (backToKw pos (keywordEach [] X.env))) := by rfl) :
    PE X (.Call (.Attribute o m apos) (e :: es) [] pos) (ClX.tCMeth C sp E0 ta t) := ClX.pe_cmeth he r c O.raw hr pass0 ha hst hpl ht
end
/-! ### the letters as a dict holds them -/
def lkOf (as : List Addr) (Ls : List Lt) : List (Int × Addr) := List.zipWith (fun a L => (L.n, a)) as Ls
def edgesAll (Ls : List Lt) : Edges := Ls.flatMap edgesOf
theorem lkOf_keys {as : List Addr} {Ls : List Lt} (h : as.length = Ls.length) : (lkOf as Ls).map (·.1) = Ls.map (·.n) := by
  unfold lkOf
  induction as generalizing Ls with
  | nil => cases Ls with
    | nil => rfl
    | cons _ _ => cases h
  | cons a r ih => cases Ls with
    | nil => cases h
    | cons L Lr =>
      show L.n :: _ = L.n :: _
      rw [ih (by simpa using h)]
def sp_Threads_of (K : PySem.W.Frag) : Sp := fun vs H Q _ => ∃ (a : Addr) (as : List Addr) (Ls : List Lt), vs = [.ref (He.ga K "Threads"), .ref a] ∧ H a = some (.lst (as.map V.ref)) ∧ LettersAt K H as Ls ∧ Ls.length ≤ 16 ∧ (Ls.map (·.n)).Nodup ∧ (∀ L ∈ Ls, L.ans.length ≤ 8) ∧
  ∀ H' p gk gi dx d1 d2 d3, TS K H H' p (lkOf as Ls) (Ls.map (·.n)) gk gi dx d1 d2 d3 → PT gk gi (edgesAll Ls) → (∀ m, m ∈ gk.map (·.1) ↔ ∃ L ∈ Ls, m = L.n ∨ m ∈ L.ans) → gk.length ≤ 9 * Ls.length → Q (.ref p) H'
section
variable {P : Program} {w : World} {K : PySem.W.Frag} {mg : PySem.Str → Option Value} {base : Heap}
abbrev sc_Threads_of_N : List PySem.Str := ["cls", "letters", "threads", "letter"]
theorem sc_Threads_of : FnScope sc_Threads_of_N ["cls", "letters"] (defScope s_Threads_of) := ⟨rfl, rfl, rfl, by decide +kernel, rfl, by decide +kernel, by decide +kernel⟩
theorem ok_Threads_of (W : Wd K mg) : Ok P w K mg base 5 d_Threads_of ["cls", "letters"] (sp_Threads_of K) := by
  refine ok_mk W.d_Threads_of sc_Threads_of (fun _ _ _ _ _ _ us hl => match us, hl with | [_, _], _ => rfl) (fun vs H Q E h => ?_) (fun cdv A outer s H vs Q E hr h => ?_)
  · obtain ⟨a, as, Ls, rfl, _⟩ := h
    rfl
  · obtain ⟨a, as, Ls, rfl, ha, hL, h16, hnd, h8, q⟩ := h
    have hu := hu_of hr
    have nd := sc_Threads_of.nd
    refine ⟨_, (pss_cons (ps_set (i := 2) nd rfl (Or.inl rfl) (pe_cls (pv 0) (ok_Threads_init W) W.k_Threads (hr.mono (by decide))))
    (pss_cons (ps_for PassesOwn.never rfl (pi_list (pv 1)) (pg_name (i := 3) nd rfl (Or.inl rfl))
      (pss_one (ps_expr (pe_o (pv 2) W.c_Threads (ok_Threads_put W) W.m_Threads_put (hr.mono (by decide)) (pa_cons (pv 3) pa_nil)))))
    (pss_one (ps_ret (pv 2))))), ?_⟩
    have ll : as.length = Ls.length := Paired.length hL
    have lkl : (lkOf as Ls).length = Ls.length := by unfold lkOf; rw [List.length_zipWith, ll, Nat.min_self]
    refine ⟨_, rfl, rfl, fun p dx np ndx nep => ?_⟩
    have sx : Same H (upd (upd H dx (.own p)) p (.ins (He.ga K "Threads") dx [])) := fun b o e => by
      rw [upd_ne (ne_of_none e np), upd_ne (ne_of_none e ndx)]
      exact e
    refine ⟨H, p, dx, rfl, sx, np, upd_same, fun H1 d1 d2 d3 gi t => ⟨rfl, ?_⟩⟩
    refine ⟨_, rfl, a, rfl, ⟨_, sqL (t.same _ _ ha)⟩, ?_⟩
    refine for_walk (w_list (xs := as.map V.ref)) (fun i σ H' => (∃ v3, σ = [some (.ref (He.ga K "Threads")), some (.ref a), some (.ref p), v3]) ∧ ∃ gk gi, TS K H H' p ((lkOf as Ls).take i) ((Ls.take i).map (·.n)) gk gi dx d1 d2 d3 ∧ PT gk gi (edgesAll (Ls.take i)) ∧ (∀ m, m ∈ gk.map (·.1) ↔ ∃ L ∈ Ls.take i, m = L.n ∨ m ∈ L.ans) ∧ gk.length ≤ 9 * i) ?_ (fun i σ H' _ h => ?_) ?_ ?_
    · refine ⟨⟨_, rfl⟩, [], gi, t, ⟨by simp, by simp, by simp, by simp [edgesAll], by simp⟩, by simp, Nat.le_refl _⟩
    · obtain ⟨_, gk, gi, th, _⟩ := h
      exact sqL (th.same _ _ ha)
    · rintro i v σ Hz H4 hi ⟨rfl, hv⟩ ⟨⟨v3, rfl⟩, gk, gi4, t4, pt4, ks4, l4⟩
      rw [List.length_map] at hi
      have hi2 : i < Ls.length := by omega
      rw [List.getElem?_map, List.getElem?_eq_getElem hi] at hv
      cases hv
      have hLi : LetterAt K H as[i] Ls[i] := by
        obtain ⟨L, e, h⟩ := paired_at hL (List.getElem?_eq_getElem hi)
        rw [List.getElem?_eq_getElem hi2] at e
        rw [Option.some.inj e]
        exact h
      have hmem : Ls[i] ∈ Ls := List.getElem_mem hi2
      have ltk : (lkOf as Ls).take (i + 1) = (lkOf as Ls).take i ++ [(Ls[i].n, as[i])] := by
        rw [List.take_add_one, List.getElem?_eq_getElem (by rw [lkl]; exact hi2)]
        unfold lkOf
        rw [List.getElem_zipWith]
        rfl
      have Ltk : Ls.take (i + 1) = Ls.take i ++ [Ls[i]] := by
        rw [List.take_add_one, List.getElem?_eq_getElem hi2]
        rfl
      have hnew : Ls[i].n ∉ ((lkOf as Ls).take i).map (·.1) := by
        rw [List.map_take, lkOf_keys ll]
        have h2 : ((Ls.map (·.n)).take (i + 1)).Nodup := hnd.sublist (List.take_sublist _ _)
        rw [List.take_add_one, List.getElem?_eq_getElem (by rw [List.length_map]; exact hi2), List.nodup_append] at h2
        intro hm
        exact h2.2.2 _ hm Ls[i].n (by simp) rfl
      refine ⟨_, rfl, p, dx, _, rfl, t4.ins, (by kernel_rfl), _, rfl, H, p, _, _, gk, gi4, dx, d1, d2, d3, as[i], Ls[i], _, rfl, t4, hLi, hnew, h8 _ hmem, pt4, by omega, by rw [List.length_take]; omega, by rw [List.length_map, List.length_take]; omega, fun H5 gk5 gi5 t5 pt5 ks5 l5 => ?_⟩
      refine ⟨⟨_, rfl⟩, gk5, gi5, ?_, ?_, fun m => ?_, by omega⟩
      · rw [ltk, Ltk, List.map_append]
        exact t5
      · rw [Ltk]
        unfold edgesAll
        rw [List.flatMap_append]
        simpa [edgesAll] using pt5
      · rw [ks5, ks4, Ltk]
        constructor
        · rintro (⟨L, h1, h2⟩ | h)
          · exact ⟨L, List.mem_append_left _ h1, h2⟩
          · exact ⟨_, List.mem_append_right _ (List.mem_singleton.mpr rfl), h⟩
        · rintro ⟨L, h1, h2⟩
          rcases List.mem_append.mp h1 with h1 | h1
          · exact .inl ⟨L, h1, h2⟩
          · rw [List.mem_singleton.mp h1] at h2
            exact .inr h2
    · rintro σ H4 ⟨⟨v3, rfl⟩, gk, gi4, t4, pt4, ks4, l4⟩
      rw [List.length_map, ll] at t4 pt4 ks4 l4
      rw [List.take_length] at t4 pt4 ks4
      rw [show (lkOf as Ls).take Ls.length = lkOf as Ls by rw [← lkl, List.take_length]] at t4
      exact ⟨_, rfl, q H4 p gk gi4 dx d1 d2 d3 t4 pt4 ks4 l4⟩
end
end K75
end T_C5

section T_C6
set_option Elab.async false
set_option linter.all false
set_option maxRecDepth 100000
set_option maxHeartbeats 4000000
namespace K75
open PySem PySem.Spec PyProof.Rows L2 TL
/-! ### == of letters and of threads -/
def LtEq (K : PySem.W.Frag) : Addr → Addr → Hp → Prop := fun a b H => ∃ L, LetterAt K H a L ∧ LetterAt K H b L
def ThEq (K : PySem.W.Frag) : Addr → Addr → Hp → Prop := fun a b H => ∃ dx dy d1 d2 d3 e1 e2 e3 lk lk2, H a = some (.ins (He.ga K "Threads") dx (tfs d1 d2 d3)) ∧ H b = some (.ins (He.ga K "Threads") dy (tfs e1 e2 e3)) ∧ H d1 = some (.dK (dki lk)) ∧ H e1 = some (.dK (dki lk2)) ∧ d1 ≠ e1 ∧ lk.length = lk2.length ∧
  ∀ p ∈ lk, ∃ c, atK lk2 p.1 = some c ∧ LtEq K p.2 c H
theorem LetterAt.frz {K : PySem.W.Frag} {H H' : Hp} {a b c : Addr} {ks ls : List (Key × V)} {L : Lt} (ha : H a = some (.dK ks)) (hb : H b = some (.dK ls)) (k : ∀ x, x ≠ a → x ≠ b → H' x = H x) (h : LetterAt K H c L) : LetterAt K H' c L := by
  obtain ⟨dx, t1, t2, t3, h1, h2, h3, h4⟩ := h
  have go : ∀ {x : Addr} {o : HO}, H x = some o → (∀ z, o ≠ .dK z) → H' x = some o := fun {x o} h n => by
    rw [k x (fun e => by rw [e, ha] at h; cases h; exact n _ rfl) (fun e => by rw [e, hb] at h; cases h; exact n _ rfl)]
    exact h
  exact ⟨dx, t1, t2, t3, go h1 (by intro z e; cases e), go h2 (by intro z e; cases e), go h3 (by intro z e; cases e), go h4 (by intro z e; cases e)⟩
theorem LtEq.mono {K : PySem.W.Frag} {a b : Addr} {H H' : Hp} (e : Ext H H') (h : LtEq K a b H) : LtEq K a b H' := by
  obtain ⟨L, h1, h2⟩ := h
  exact ⟨L, h1.mono e, h2.mono e⟩
def sp_Threads_eq (K : PySem.W.Frag) : Sp := spEq (ThEq K)
section
variable {P : Program} {w : World} {K : PySem.W.Frag} {mg : PySem.Str → Option Value} {base : Heap}
theorem rc_Letter {X : Cx} (W : Wd X.K X.mg) : RcG X 2 (DIns (He.ga X.K "Letter") (LtEq X.K)) := by
  obtain ⟨fd, F, kp, b⟩ := ok_Letter_eq (P := X.prog) (w := X.w) (base := X.base) W
  exact rcG_ins F W.m_Letter_eq.at_ W.m_Letter_eq.fn b pass0
abbrev sc_Threads_eq_N : List PySem.Str := ["self", "other"]
theorem sc_Threads_eq : FnScope sc_Threads_eq_N ["self", "other"] (defScope s_Threads_eq) := ⟨rfl, rfl, rfl, by decide +kernel, rfl, by decide +kernel, by decide +kernel⟩
theorem ok_Threads_eq (W : Wd K mg) : Ok P w K mg base 4 d_Threads_eq ["self", "other"] (sp_Threads_eq K) := by
  refine ok_mk W.d_Threads_eq sc_Threads_eq (fun _ _ _ _ _ _ us hl => match us, hl with | [_, _], _ => rfl) (fun vs H Q E h => ?_) (fun cdv A outer s H vs Q E hr h => ?_)
  · obtain ⟨a, b, rfl, _⟩ := h
    rfl
  · obtain ⟨a, b, rfl, ⟨dx, dy, d1, d2, d3, e1, e2, e3, lk, lk2, ha, hb, h1, h2, hne, hl, hall⟩, q⟩ := h
    have hu := hu_of hr
    have nd := sc_Threads_eq.nd
    have mon : Mon (DIns (He.ga K "Letter") (LtEq K)) := mon_ins fun _ _ _ _ e r => r.mono e
    have op := (op_eqG (GD.rcG_dict (X := (cxOf CX0 P w K mg base sc_Threads_eq_N d_Threads_eq.qual d_Threads_eq.scope (d_Threads_eq.at_ K) cdv A outer s H E).nox) mon ((rc_Letter (X := (cxOf CX0 P w K mg base sc_Threads_eq_N d_Threads_eq.qual d_Threads_eq.scope (d_Threads_eq.at_ K) cdv A outer s H E).nox) W).eqG fun _ _ _ d => let ⟨a, b, _, _, _, _, hx, hy, _⟩ := d; ⟨a, b, hx, hy⟩)) hr)
    refine ⟨_, (pss_one (ps_ret (pe_and (pe_callB (kisi K) rfl W.f_isinstance (by decide +kernel) (pa_cons (pv 1) (pa_cons (pe_glob (v := V.ref (He.ga K "Threads")) rfl W.g_Threads rfl) pa_nil))) (pe_one (pe_cmpR op (kfld K (pv 0) rfl) (kfld K (pv 1) rfl) (nomark _)))))), ?_⟩
    have x := W.x_Threads
    refine ⟨_, rfl, _, _, _, _, _, rfl, ClsV.own _, .base (.ins hb W.c_Threads x.ha x.hn x.tk x.ho), x.me, true, rfl, iteT ?_⟩
    refine ⟨_, rfl, a, _, dx, _, .ref d1, rfl, ha, W.c_Threads, W.n_Threads_letters, (by kernel_rfl), _, rfl, b, _, dy, _, .ref e1, rfl, hb, W.c_Threads, W.n_Threads_letters, (by kernel_rfl), ⟨d1, e1, _, _, rfl, rfl, hne, h1, h2, by rw [dki_len, dki_len]; exact hl, fun p hp => ?_⟩, fun H1 e1 => q H1 e1⟩
    obtain ⟨r, hr0, er⟩ := List.mem_map.mp hp
    obtain ⟨c, hc, L, hL1, hL2⟩ := hall r hr0
    rw [← er]
    refine ⟨.ref c, by show valV (dki lk2) (Sum.inl r.1) = _; rw [valV_dki, hc]; rfl, fun oa ob => ?_⟩
    have k : ∀ x, x ≠ d1 → x ≠ e1 → upd (upd H d1 (.frz oa (.dK (dki lk)))) e1 (.frz ob (.dK (dki lk2))) x = H x := fun x n1 n2 => by rw [upd_ne n2, upd_ne n1]
    have g1 := hL1.frz h1 h2 k
    have g2 := hL2.frz h1 h2 k
    obtain ⟨dl, u1, u2, u3, g3, _⟩ := id g1
    obtain ⟨dm, v1, v2, v3, g4, _⟩ := id g2
    exact ⟨r.2, c, dl, dm, _, _, rfl, rfl, g3, g4, L, g1, g2⟩
end
end K75
end T_C6

section T_C7
set_option Elab.async false
set_option linter.all false
set_option maxRecDepth 100000
set_option maxHeartbeats 4000000
namespace K75
open PySem PySem.Spec PyProof.Rows L2 TL
def jfs (v1 v2 : V) (tm : Addr) (m : Int) (v5 v6 : V) : List (PySem.Str × V) := [("number", v1), ("is_new", v2), ("met", .ref tm), ("now", .int m), ("gone", v5), ("gained", v6)]
def JoinAt (K : PySem.W.Frag) (H : Hp) (j : Addr) (xs : List Int) (m : Int) : Prop := ∃ dj v1 v2 tm v5 v6, H j = some (.ins (He.ga K "Join") dj (jfs v1 v2 tm m v5 v6)) ∧ H tm = some (.tup (xs.map V.int))
def sp_Join_init (K : PySem.W.Frag) : Sp := fun vs H Q _ => ∃ (H0 : Hp) (x dx tm : Addr) (v1 v2 v5 v6 : V) (m : Int), vs = [.ref x, v1, v2, .ref tm, .int m, v5, v6] ∧ Same H0 H ∧ H0 x = none ∧ H x = some (.ins (He.ga K "Join") dx []) ∧
  ∀ H', Same H0 H' → H' x = some (.ins (He.ga K "Join") dx (jfs v1 v2 tm m v5 v6)) → Q .non H'
def sp_join_of (K : PySem.W.Frag) : Sp := fun vs H Q _ => ∃ (G : Hp) (p : Addr) (lk : List (Int × Addr)) (od : List Int) (gk : List (Int × Addr)) (gi : Addr → GI) (dx d1 d2 d3 a : Addr) (L : Lt), vs = [.ref p, .ref a] ∧ TS K G H p lk od gk gi dx d1 d2 d3 ∧ LetterAt K H a L ∧ L.n ∉ lk.map (·.1) ∧ L.ans.length ≤ 8 ∧
  ∀ H' j xs m, Same H H' → JoinAt K H' j xs m → xs.Pairwise (· < ·) → (∀ x, x ∈ xs ↔ ∃ n g, n ∈ L.n :: L.ans ∧ atK gk n = some g ∧ (gi g).lw = x) →
    (m ∈ xs ∨ (m ∈ L.n :: L.ans ∧ atK gk m = none)) → (∀ y, y ∈ xs ∨ (y ∈ L.n :: L.ans ∧ atK gk y = none) → m ≤ y) → Q (.ref j) H'
section
variable {P : Program} {w : World} {K : PySem.W.Frag} {mg : PySem.Str → Option Value} {base : Heap}
abbrev sc_Join_init_N : List PySem.Str := ["self", "number", "is_new", "met", "now", "gone", "gained"]
theorem sc_Join_init : FnScope sc_Join_init_N ["self", "number", "is_new", "met", "now", "gone", "gained"] (defScope s_Join_init) := ⟨rfl, rfl, rfl, by decide +kernel, rfl, by decide +kernel, by decide +kernel⟩
theorem ok_Join_init (W : Wd K mg) : Ok P w K mg base 1 d_Join_init ["self", "number", "is_new", "met", "now", "gone", "gained"] (sp_Join_init K) := by
  refine ok_mk W.d_Join_init sc_Join_init (fun _ _ _ _ _ _ us hl => match us, hl with | [_, _, _, _, _, _, _], _ => rfl) (fun vs H Q E h => ?_) (fun cdv A outer s H vs Q E hr h => ?_)
  · obtain ⟨H0, x, dx, tm, v1, v2, v5, v6, m, rfl, _⟩ := h
    rfl
  · obtain ⟨H0, x, dx, tm, v1, v2, v5, v6, m, rfl, s0, n0, hx, q⟩ := h
    have hu := hu_of hr
    have nd := sc_Join_init.nd
    refine ⟨_, (pss_cons (ps_fld (pv 0) (pv 1) rfl)
    (pss_cons (ps_fld (pv 0) (pv 2) rfl)
    (pss_cons (ps_fld (pv 0) (pv 3) rfl)
    (pss_cons (ps_fld (pv 0) (pv 4) rfl)
    (pss_cons (ps_fld (pv 0) (pv 5) rfl)
    (pss_one (ps_fld (pv 0) (pv 6) rfl))))))), ?_⟩
    refine ⟨_, rfl, put_step (fs' := [("number", v1)]) hx s0 n0 W.c_Join W.n_Join_number (by show 0 < 1000; decide) rfl (by kernel_rfl) fun G1 g1 f1 k1 => ?_⟩
    refine ⟨_, rfl, put_step (fs' := [("number", v1), ("is_new", v2)]) f1 g1 n0 W.c_Join W.n_Join_is_new (by show 1 < 1000; decide) rfl (by kernel_rfl) fun G2 g2 f2 k2 => ?_⟩
    refine ⟨_, rfl, put_step (fs' := [("number", v1), ("is_new", v2), ("met", .ref tm)]) f2 g2 n0 W.c_Join W.n_Join_met (by show 2 < 1000; decide) rfl (by kernel_rfl) fun G3 g3 f3 k3 => ?_⟩
    refine ⟨_, rfl, put_step (fs' := [("number", v1), ("is_new", v2), ("met", .ref tm), ("now", .int m)]) f3 g3 n0 W.c_Join W.n_Join_now (by show 3 < 1000; decide) rfl (by kernel_rfl) fun G4 g4 f4 k4 => ?_⟩
    refine ⟨_, rfl, put_step (fs' := [("number", v1), ("is_new", v2), ("met", .ref tm), ("now", .int m), ("gone", v5)]) f4 g4 n0 W.c_Join W.n_Join_gone (by show 4 < 1000; decide) rfl (by kernel_rfl) fun G5 g5 f5 k5 => ?_⟩
    refine ⟨_, rfl, put_step (fs' := jfs v1 v2 tm m v5 v6) f5 g5 n0 W.c_Join W.n_Join_gained (by show 5 < 1000; decide) rfl (by kernel_rfl) fun G6 g6 f6 k6 => ?_⟩
    exact q G6 g6 f6
abbrev sc_join_of_N : List PySem.Str := ["threads", "letter", "met", "touched", "gained", "now", "gone", "name", "number"]
theorem sc_join_of : FnScope sc_join_of_N ["threads", "letter"] (defScope s_join_of) := ⟨rfl, rfl, rfl, by decide +kernel, rfl, by decide +kernel, by decide +kernel⟩
theorem ok_join_of (W : Wd K mg) : Ok P w K mg base 4 d_join_of ["threads", "letter"] (sp_join_of K) := by
  refine ok_mk W.d_join_of sc_join_of (fun _ _ _ _ _ _ us hl => match us, hl with | [_, _], _ => rfl) (fun vs H Q E h => ?_) (fun cdv A outer s H vs Q E hr h => ?_)
  · obtain ⟨G, p, lk, od, gk, gi, dx, d1, d2, d3, a, L, rfl, _⟩ := h
    rfl
  · obtain ⟨G, p, lk, od, gk, gi, dx, d1, d2, d3, a, L, rfl, t, hL, hn, h8, q⟩ := h
    have hu := hu_of hr
    have nd := sc_join_of.nd
    refine ⟨_, (pss_cons (ps_set (i := 2) nd rfl (Or.inl rfl) (pe_o (pv 0) W.c_Threads (ok_Threads_joined W) W.m_Threads_joined (hr.mono (by decide)) (pa_cons (pv 1) pa_nil)))
    (pss_cons (ps_set (i := 3) nd rfl (Or.inl rfl) (pe_lst (pa_cons (kfld K (pv 1) rfl) (StX.pa_star (kfld K (pv 1) rfl) pa_nil))))
    (pss_cons (ps_set (i := 4) nd rfl (Or.inl rfl) (pe_tupleOf rfl W.f_tuple (pe_callB cr_sortedI rfl W.f_sorted (by decide +kernel) (pa_cons (pe_lc (own := [("number", 8)]) rfl nd (pi_list (pv 3)) (blkOk_by (N := sc_join_of_N) (sc := defScope s_join_of) (by decide +kernel)) (fun _ _ _ _ _ => (pg_name (i := 8) nd rfl (Or.inl rfl))) (fun _ _ _ _ _ => (pts_one (pt_cmpR op_isN (pe_o (pv 0) W.c_Threads (ok_Threads_name_of W) W.m_Threads_name_of (hr.mono (by decide)) (pa_cons (pv 8) pa_nil)) pe_non (nomark _)))) (fun _ _ _ _ _ => (pv 8))) pa_nil))))
    (pss_cons (ps_set (i := 5) nd rfl (Or.inr rfl) (pe_callB (cr_min rfl) rfl W.f_min (by decide +kernel) (pa_cons (pe_lst (StX.pa_star (pv 2) (StX.pa_star (pv 4) pa_nil))) pa_nil)))
    (pss_cons (ps_set (i := 6) nd rfl (Or.inl rfl) (pe_tupleOf rfl W.f_tuple (pe_lc (own := [("name", 7)]) rfl nd (pi_tup (pv 2)) (blkOk_by (N := sc_join_of_N) (sc := defScope s_join_of) (by decide +kernel)) (fun _ _ _ _ _ => (pg_name (i := 7) nd rfl (Or.inl rfl))) (fun _ _ _ _ _ => (pts_one (pt_cmpR op_ne (pv 7) (pv 5) (nomark _)))) (fun _ _ _ _ _ => (pv 7)))))
    (pss_one (ps_ret (pe_k (ok_Join_init W) W.k_Join (hr.mono (by decide)) rfl W.g_Join (pa_cons (kfld K (pv 1) rfl) (pa_cons (pe_cmpR (op_notinOwn (ok_Threads_contains W) W.m_Threads_contains (hr.mono (by decide))) (kfld K (pv 1) rfl) (pv 0) (by with_unfolding_all rfl)) (pa_cons (pv 2) (pa_cons (pv 5) (pa_cons (pv 6) (pa_cons (pv 4) pa_nil)))))))))))))), ?_⟩
    have hL0 := hL
    obtain ⟨dl, t1, t2, t3, ha, ht1, ht2, ht3⟩ := hL
    refine ⟨_, rfl, p, dx, _, rfl, t.ins, (by kernel_rfl), _, rfl, G, p, lk, od, gk, gi, dx, d1, d2, d3, a, L, rfl, t, hL0, hn, h8, fun H1 tm xs s1 ntm htm hxs mxs => ?_⟩
    have ha1 := s1 _ _ ha
    refine ⟨_, rfl, a, _, dl, _, .int L.n, rfl, ha1, W.c_Letter, W.n_Letter_number, lf_number _ _ _ _, _, rfl, a, _, dl, _, .ref t1, rfl, ha1, W.c_Letter, W.n_Letter_answers, lf_answers _ _ _ _, ?_⟩
    refine ⟨t1, _, rfl, .inl (sqT (s1 _ _ ht1)), ?_⟩
    refine ⟨by rw [List.append_nil, List.length_cons, List.length_map]; exact sz_le (by omega), fun l nl => ?_⟩
    rw [show V.int L.n :: (L.ans.map V.int ++ []) = (L.n :: L.ans).map V.int by rw [List.append_nil]; rfl]
    generalize hts : L.n :: L.ans = ts at q mxs ⊢
    have hts9 : ts.length ≤ 9 := by rw [← hts]; simp; omega
    have hLts : L.n ∈ ts := by rw [← hts]; simp
    generalize e2 : upd H1 l _ = H2
    obtain ⟨s2, h2⟩ := gen_upd nl e2
    have tt2 := t.mono (s1.trans s2)
    refine ⟨_, rfl, l, rfl, ⟨_, sqL h2⟩, fun D nD => ?_⟩
    refine lc_pure (w_list (xs := ts.map V.int)) (fun i => if (fun n => (atK gk n).isNone) (ts.getD i 0) = true then some (V.int (ts.getD i 0)) else none) nD (fun H' s => sqL (s _ _ h2)) (fun i x H H' r => by rw [r.1]; exact Same.refl _) ?_ ?_
    · rintro i x H3 Hy hi ⟨rfl, hx⟩ s3 _ hK
      rw [List.length_map] at hi
      rw [List.getElem?_map, List.getElem?_eq_getElem hi] at hx
      cases hx
      have t3' := tt2.mono s3
      refine ⟨rfl, ?_⟩
      refine ⟨_, rfl, p, dx, _, rfl, t3'.ins, (by kernel_rfl), _, rfl, G, p, lk, od, gk, gi, dx, d1, d2, d3, ts[i], rfl, t3', ?_⟩
      have hgd : ts.getD i 0 = ts[i] := by simp [List.getD, List.getElem?_eq_getElem hi]
      cases e : atK gk ts[i] with
      | none =>
        refine ⟨rfl, _, rfl, iteT ⟨_, rfl, lcT nD s3 (by omega) hK (by show (if (atK gk (ts.getD i 0)).isNone = true then some (V.int (ts.getD i 0)) else none) = _; rw [hgd, e]; rfl)⟩⟩
      | some g =>
        refine ⟨rfl, _, rfl, iteF (lcN s3 hK (by show (if (atK gk (ts.getD i 0)).isNone = true then some (V.int (ts.getD i 0)) else none) = _; rw [hgd, e]; rfl))⟩
    intro H3 s3 h3
    rw [List.length_map] at h3
    have h3 := h3.trans (congrArg (fun l => some (HO.lst l)) (kept_filter (xs := ts) (p := fun n => (atK gk n).isNone)))
    refine ⟨D, _, rfl, sqL h3, fun gs q3 hperm hgs nq3 => ?_⟩
    generalize e4 : upd H3 q3 _ = H4
    obtain ⟨s4, h4⟩ := gen_upd nq3 e4
    refine .inl ⟨q3, _, rfl, sqL h4, fun g0 ng => ?_⟩
    generalize e5 : upd H4 g0 _ = H5
    obtain ⟨s5, h5⟩ := gen_upd ng e5
    have hg : ∀ y, y ∈ gs ↔ y ∈ ts ∧ atK gk y = none := fun y => by
      rw [hperm.mem_iff, List.mem_filter, Option.isNone_iff_eq_none]
    have hxl : xs.length ≤ 9 := by
      have := nodup_sub (xs := xs) (ys := ts.map fun n => match atK gk n with | some g => (gi g).lw | none => 0) (hxs.imp fun h e => by omega) fun k hk => by
        obtain ⟨n, g, hn, e1, e2⟩ := (mxs k).mp hk
        exact List.mem_map.mpr ⟨n, hn, by rw [e1]; exact e2⟩
      rw [List.length_map] at this
      omega
    have hgl : gs.length ≤ 9 := by
      rw [hperm.length_eq]
      exact Nat.le_trans (List.length_filter_le _ _) hts9
    have tm5 : H5 tm = some (.tup (xs.map V.int)) := s5 _ _ (s4 _ _ (s3 _ _ (s2 _ _ htm)))
    refine ⟨_, rfl, tm, _, rfl, .inl (sqT tm5), _, rfl, g0, _, rfl, .inl (sqT h5), ?_⟩
    refine ⟨by rw [List.append_nil, List.length_append, List.length_map, List.length_map]; exact sz_le (by omega), fun b0 nb => ?_⟩
    rw [show xs.map V.int ++ (gs.map V.int ++ []) = (xs ++ gs).map V.int by rw [List.append_nil, List.map_append]]
    generalize e6 : upd H5 b0 _ = H6
    obtain ⟨s6, h6⟩ := gen_upd nb e6
    have hne : 0 < (xs ++ gs).length := by
      cases e : atK gk L.n with
      | none => exact List.length_pos_of_mem (List.mem_append_right _ ((hg L.n).mpr ⟨hLts, e⟩))
      | some g => exact List.length_pos_of_mem (List.mem_append_left _ ((mxs _).mpr ⟨L.n, g, hLts, e, rfl⟩))
    refine ⟨b0, _, rfl, sqL h6, hne, fun m hm1 hm2 => ?_⟩
    have tm6 := s6 _ _ tm5
    have s06 : Same H H6 := ((((s1.trans s2).trans s3).trans s4).trans s5).trans s6
    refine ⟨_, rfl, tm, rfl, ⟨_, sqT tm6⟩, fun D2 nD2 => ?_⟩
    refine lc_walk (w_tup (xs := xs.map V.int)) (fun i H' => Same H6 H' ∧ ∃ acc, H' D2 = some (.lst acc) ∧ acc.length ≤ i) ⟨same_new nD2, [], upd_same, Nat.le_refl _⟩ (fun i H' _ h => sqT (h.1 _ _ tm6)) ?_ ?_
    · rintro i x Hy H7 hi ⟨rfl, hx⟩ ⟨s7, acc, h7, hacc⟩
      rw [List.length_map] at hi
      rw [List.getElem?_map, List.getElem?_eq_getElem hi] at hx
      cases hx
      refine ⟨rfl, _, rfl, _, rfl, rfl, _, rfl, ite2 (fun _ => ⟨_, rfl, acc, h7, sz_lt (by omega), ?_⟩) fun _ => ?_⟩
      · exact ⟨same_mut s7 nD2, _, upd_same, by rw [List.length_append]; simpa using hacc⟩
      · exact ⟨s7, acc, h7, by omega⟩
    rintro H7 ⟨s7, acc, h7, hacc⟩
    refine .inl ⟨D2, _, rfl, sqL h7, fun n0 nn0 => ?_⟩
    generalize e8 : upd H7 n0 _ = H8
    obtain ⟨s8, h8'⟩ := gen_upd nn0 e8
    have s08 : Same H H8 := (s06.trans s7).trans s8
    have ha8 := s08 _ _ ha
    have t8 := t.mono s08
    refine ⟨_, rfl, a, _, dl, _, .int L.n, rfl, ha8, W.c_Letter, W.n_Letter_number, lf_number _ _ _ _, _, rfl, a, _, dl, _, .int L.n, rfl, ha8, W.c_Letter, W.n_Letter_number, lf_number _ _ _ _, _, rfl, p, dx, _, rfl, t8.ins, ?_⟩
    refine ⟨G, p, lk, od, gk, gi, dx, d1, d2, d3, L.n, rfl, t8, _, rfl, ?_⟩
    refine ⟨_, rfl, _, rfl, _, rfl, _, rfl, fun j dj nj ndj nej => ?_⟩
    have sx : Same H8 (upd (upd H8 dj (.own j)) j (.ins (He.ga K "Join") dj [])) := fun b o e => by
      rw [upd_ne (ne_of_none e nj), upd_ne (ne_of_none e ndj)]
      exact e
    refine ⟨H8, j, dj, tm, _, _, _, _, m, rfl, sx, nj, upd_same, fun H9 s9 h9 => ⟨rfl, ?_⟩⟩
    refine q H9 j xs m (s08.trans s9) ⟨dj, _, _, tm, _, _, h9, s9 _ _ (s8 _ _ (s7 _ _ tm6))⟩ hxs mxs ?_ fun y hy => hm2 y ?_
    · rcases List.mem_append.mp hm1 with h | h
      · exact .inl h
      · exact .inr ((hg m).mp h)
    · rcases hy with h | h
      · exact List.mem_append_left _ h
      · exact List.mem_append_right _ ((hg y).mpr h)
end
end K75
end T_C7

section T_C8
set_option Elab.async false
set_option linter.all false
set_option maxRecDepth 100000
set_option maxHeartbeats 4000000
namespace K75
open PySem PySem.Spec PyProof.Rows L2 TL
theorem lt_of_le_nodup {xs : List Int} (h : xs.Pairwise (· ≤ ·)) (nd : xs.Nodup) : xs.Pairwise (· < ·) := by
  induction xs with
  | nil => exact .nil
  | cons x r ih =>
    have h2 := List.pairwise_cons.mp h
    have n2 := List.nodup_cons.mp nd
    refine List.pairwise_cons.mpr ⟨fun y hy => ?_, ih h2.2 n2.2⟩
    have l := h2.1 y hy
    have n : x ≠ y := fun e => n2.1 (e ▸ hy)
    omega
def sp_Threads_members (K : PySem.W.Frag) : Sp := fun vs H Q _ => ∃ (G : Hp) (p : Addr) (lk : List (Int × Addr)) (od : List Int) (gk : List (Int × Addr)) (gi : Addr → GI) (dx d1 d2 d3 : Addr) (n : Int) (g : Addr), vs = [.ref p, .int n] ∧ TS K G H p lk od gk gi dx d1 d2 d3 ∧ (n, g) ∈ gk ∧ (gi g).kn.Nodup ∧ (gi g).kn.length ≤ 900 ∧
  NewTup H (fun x => x ∈ (gi g).kn ∧ x ∈ lk.map (·.1)) Q
section
variable {P : Program} {w : World} {K : PySem.W.Frag} {mg : PySem.Str → Option Value} {base : Heap}
abbrev sc_Threads_members_N : List PySem.Str := ["self", "number", "known"]
theorem sc_Threads_members : FnScope sc_Threads_members_N ["self", "number"] (defScope s_Threads_members) := ⟨rfl, rfl, rfl, by decide +kernel, rfl, by decide +kernel, by decide +kernel⟩
theorem ok_Threads_members (W : Wd K mg) : Ok P w K mg base 1 d_Threads_members ["self", "number"] (sp_Threads_members K) := by
  refine ok_mk W.d_Threads_members sc_Threads_members (fun _ _ _ _ _ _ us hl => match us, hl with | [_, _], _ => rfl) (fun vs H Q E h => ?_) (fun cdv A outer s H vs Q E hr h => ?_)
  · obtain ⟨G, p, lk, od, gk, gi, dx, d1, d2, d3, n, g, rfl, _⟩ := h
    rfl
  · obtain ⟨G, p, lk, od, gk, gi, dx, d1, d2, d3, n, g, rfl, t, hm, hnd, hkl, q⟩ := h
    have hu := hu_of hr
    have nd := sc_Threads_members.nd
    refine ⟨_, (pss_cons (ps_if (pt_cmp (pc_dnotin hu (pv 1) (kfld K (pv 0) rfl)))
      (pss_one (ps_ret (pe_tup pa_nil)))
      pss_nil)
    (pss_one (ps_ret (pe_tupleOf rfl W.f_tuple (pe_callB cr_sortedI rfl W.f_sorted (by decide +kernel) (pa_cons (pe_lc (own := [("known", 2)]) rfl nd (pi_list (kfld K (pe_dget hu (kfld K (pv 0) rfl) (pv 1) (fun _ _ => rfl)) rfl)) (blkOk_by (N := sc_Threads_members_N) (sc := defScope s_Threads_members) (by decide +kernel)) (fun _ _ _ _ _ => (pg_name (i := 2) nd rfl (Or.inl rfl))) (fun _ _ _ _ _ => (pts_one (pt_cmp (pc_din hu (pv 2) (kfld K (pv 0) rfl))))) (fun _ _ _ _ _ => (pv 2))) pa_nil)))))), ?_⟩
    refine ⟨_, rfl, _, rfl, p, _, dx, _, .ref d3, rfl, t.ins, W.c_Threads, W.n_Threads_groups, (by kernel_rfl), d3, _, rfl, DGet.k (k := Sum.inl n) t.h3, _, rfl, ?_⟩
    rw [isSome_dki, decide_eq_true (List.mem_map.mpr ⟨(n, g), hm, rfl⟩)]
    obtain ⟨⟨dg, hg, hl⟩, _⟩ := t.grp _ hm
    have hl : H (gi g).kl = some (.lst ((gi g).kn.map V.int)) := hl
    generalize hkn : (gi g).kn = kn at q hnd hkl hl
    refine iteF ⟨_, rfl, p, _, dx, _, .ref d3, rfl, t.ins, W.c_Threads, W.n_Threads_groups, (by kernel_rfl), _, rfl, d3, .ref g, rfl, ?_, g, _, dg, _, .ref (gi g).kl, rfl, hg, W.c_Group, W.n_Group_known, (by kernel_rfl), (gi g).kl, rfl, ⟨_, sqL hl⟩, fun D nD => ?_⟩
    · have := DGet.k (k := Sum.inl n) t.h3
      rw [valV_dki, (atK_some t.nk).mpr hm] at this
      exact this
    refine lc_pure (w_list (xs := kn.map V.int)) (fun i => if (fun x => decide (x ∈ lk.map (·.1))) (kn.getD i 0) = true then some (V.int (kn.getD i 0)) else none) nD (fun H' s => sqL (s _ _ hl)) (fun i x H H' r => by rw [r.1]; exact Same.refl _) ?_ ?_
    · rintro i x H3 Hy hi ⟨rfl, hx⟩ s3 _ hK
      rw [List.length_map] at hi
      rw [List.getElem?_map, List.getElem?_eq_getElem hi] at hx
      cases hx
      have t3 := t.mono s3
      have hgd : kn.getD i 0 = kn[i] := by simp [List.getD, List.getElem?_eq_getElem hi]
      refine ⟨rfl, _, rfl, _, rfl, p, _, dx, _, .ref d1, rfl, t3.ins, W.c_Threads, W.n_Threads_letters, (by kernel_rfl), d1, _, rfl, DGet.k (k := Sum.inl kn[i]) t3.h1, ?_⟩
      rw [isSome_dki]
      refine ⟨_, rfl, ?_⟩
      by_cases hin : kn[i] ∈ lk.map (·.1)
      · rw [decide_eq_true hin]
        exact iteT ⟨_, rfl, lcT nD s3 (by omega) hK (by show (if decide (kn.getD i 0 ∈ lk.map (·.1)) = true then some (V.int (kn.getD i 0)) else none) = _; rw [hgd, decide_eq_true hin]; rfl)⟩
      · rw [decide_eq_false hin]
        exact iteF (lcN s3 hK (by show (if decide (kn.getD i 0 ∈ lk.map (·.1)) = true then some (V.int (kn.getD i 0)) else none) = _; rw [hgd, decide_eq_false hin]; rfl))
    intro H3 s3 h3
    rw [List.length_map] at h3
    have h3 := h3.trans (congrArg (fun l => some (HO.lst l)) (kept_filter (xs := kn) (p := fun x => decide (x ∈ lk.map (·.1)))))
    refine ⟨D, _, rfl, sqL h3, fun gs q3 hperm hgs nq3 => ?_⟩
    generalize e4 : upd H3 q3 _ = H4
    obtain ⟨s4, h4⟩ := gen_upd nq3 e4
    refine .inl ⟨q3, _, rfl, sqL h4, fun g0 ng => ?_⟩
    generalize e5 : upd H4 g0 _ = H5
    obtain ⟨s5, h5⟩ := gen_upd ng e5
    refine q H5 g0 gs ((s3.trans s4).trans s5) ((s3.trans s4).free ng) h5 (lt_of_le_nodup hgs (hperm.nodup_iff.mpr (hnd.filter _))) fun x => ?_
    rw [hperm.mem_iff, List.mem_filter, decide_eq_true_eq]
end
end K75
end T_C8

section T_D1
set_option Elab.async false
set_option linter.all false
set_option maxRecDepth 100000
set_option maxHeartbeats 4000000
namespace K75
open PySem PySem.Spec PyProof.Rows L2 TL
/-! ### the forest: what stands in the heap -/
def ffs (d1 d2 d3 d4 : Addr) : List (PySem.Str × V) := [("letters", .ref d1), ("above", .ref d2), ("below", .ref d3), ("rings", .ref d4)]
def oV : Option Int → V
  | none => .non
  | some m => .int m
abbrev Abv : Type := List (Int × Option Int)
def dka (l : Abv) : List (Key × V) := l.map fun q => (Sum.inl q.1, oV q.2)
def atO (l : Abv) (n : Int) : Option (Option Int) := (l.find? fun q => decide (q.1 = n)).map (·.2)
theorem dka_len (l : Abv) : (dka l).length = l.length := List.length_map _
theorem valV_dka (l : Abv) (n : Int) : valV (dka l) (Sum.inl n) = (atO l n).map oV := by
  induction l with
  | nil => rfl
  | cons q r ih =>
    show valV ((Sum.inl q.1, oV q.2) :: dka r) (Sum.inl n) = _
    rw [valV_cons]
    unfold atO
    rw [List.find?_cons]
    by_cases h : q.1 = n
    · rw [if_pos (by rw [h]), decide_eq_true h]
      rfl
    · rw [if_neg (by intro z; injection z with z; exact h z), decide_eq_false h, ih]
      rfl
theorem atO_none {l : Abv} {n : Int} : atO l n = none ↔ n ∉ l.map (·.1) := by
  unfold atO
  rw [Option.map_eq_none_iff, List.find?_eq_none]
  constructor
  · intro h hm
    obtain ⟨q, hq, e⟩ := List.mem_map.mp hm
    exact h q hq (decide_eq_true e)
  · intro h q hq e
    exact h (List.mem_map.mpr ⟨q, hq, of_decide_eq_true e⟩)
theorem atO_some {l : Abv} (nd : (l.map (·.1)).Nodup) {n : Int} {a : Option Int} : atO l n = some a ↔ (n, a) ∈ l := by
  induction l with
  | nil => simp [atO]
  | cons q r ih =>
    have nd2 := List.nodup_cons.mp nd
    unfold atO
    rw [List.find?_cons]
    by_cases h : q.1 = n
    · rw [decide_eq_true h]
      show some q.2 = some a ↔ _
      rw [Option.some.injEq, List.mem_cons]
      constructor
      · intro e
        exact .inl (by rw [← h, ← e])
      · rintro (e | e)
        · rw [← e]
        · exact absurd (List.mem_map.mpr ⟨(n, a), e, rfl⟩) (by rw [← h]; exact nd2.1)
    · rw [decide_eq_false h]
      show atO r n = some a ↔ _
      rw [ih nd2.2, List.mem_cons]
      constructor
      · exact .inr
      · rintro (e | e)
        · exact absurd (by rw [← e]) h
        · exact e
theorem isSome_dka (l : Abv) (n : Int) : (valV (dka l) (Sum.inl n)).isSome = decide (n ∈ l.map (·.1)) := by
  rw [valV_dka, Option.isSome_map, Bool.eq_iff_iff, decide_eq_true_eq, Option.isSome_iff_ne_none, ne_eq, atO_none, Decidable.not_not]
/-- the way from n up to its root -/
inductive IsPath (ab : Abv) : Int → List Int → Prop where
  | top {n : Int} : (n, none) ∈ ab → IsPath ab n [n]
  | up {n m : Int} {ns : List Int} : (n, some m) ∈ ab → IsPath ab m ns → IsPath ab n (n :: ns)
def PathOf (ab : Abv) (n : Int) (ns : List Int) : Prop := (n ∉ ab.map (·.1) ∧ ns = []) ∨ IsPath ab n ns
structure FS (K : PySem.W.Frag) (G H : Hp) (p : Addr) (lk : List (Int × Addr)) (ab : Abv) (bl : List (Int × Addr)) (bi : Addr → List Int) (rk : List (Key × V)) (dx d1 d2 d3 d4 : Addr) : Prop where
  same : Same G H
  gp : G p = none
  g1 : G d1 = none
  g2 : G d2 = none
  g3 : G d3 = none
  g4 : G d4 = none
  dd : [d1, d2, d3, d4].Nodup
  ins : H p = some (.ins (He.ga K "Forest") dx (ffs d1 d2 d3 d4))
  h1 : H d1 = some (.dK (dki lk))
  h2 : H d2 = some (.dK (dka ab))
  h3 : H d3 = some (.dK (dki bl))
  h4 : H d4 = some (.dK rk)
  nl : (lk.map (·.1)).Nodup
  na : (ab.map (·.1)).Nodup
  ks : bl.map (·.1) = ab.map (·.1)
  low : ∀ q ∈ bl, H q.2 = some (.lst ((bi q.2).map V.int)) ∧ G q.2 = none
  inj : (bl.map (·.2)).Nodup
theorem FS.mono {K : PySem.W.Frag} {G H H' : Hp} {p : Addr} {lk : List (Int × Addr)} {ab : Abv} {bl : List (Int × Addr)} {bi : Addr → List Int} {rk : List (Key × V)} {dx d1 d2 d3 d4 : Addr} (t : FS K G H p lk ab bl bi rk dx d1 d2 d3 d4) (s : Same H H') : FS K G H' p lk ab bl bi rk dx d1 d2 d3 d4 :=
  ⟨t.same.trans s, t.gp, t.g1, t.g2, t.g3, t.g4, t.dd, s _ _ t.ins, s _ _ t.h1, s _ _ t.h2, s _ _ t.h3, s _ _ t.h4, t.nl, t.na, t.ks, fun q hq => ⟨s _ _ (t.low q hq).1, (t.low q hq).2⟩, t.inj⟩
def sp_Forest_init (K : PySem.W.Frag) : Sp := fun vs H Q _ => ∃ (H0 : Hp) (p dx : Addr), vs = [.ref p] ∧ Same H0 H ∧ H0 p = none ∧ H p = some (.ins (He.ga K "Forest") dx []) ∧ ∀ H' d1 d2 d3 d4 bi, FS K H0 H' p [] [] [] bi [] dx d1 d2 d3 d4 → Q .non H'
def sp_Forest_path (K : PySem.W.Frag) : Sp := fun vs H Q _ => ∃ (G : Hp) (p : Addr) (lk : List (Int × Addr)) (ab : Abv) (bl : List (Int × Addr)) (bi : Addr → List Int) (rk : List (Key × V)) (dx d1 d2 d3 d4 : Addr) (n : Int) (ns : List Int), vs = [.ref p, .int n] ∧ FS K G H p lk ab bl bi rk dx d1 d2 d3 d4 ∧ PathOf ab n ns ∧ ns.length ≤ 900 ∧
  ∀ H' t, Same H H' → H t = none → H' t = some (.tup (ns.map V.int)) → Q (.ref t) H'
section
variable {P : Program} {w : World} {K : PySem.W.Frag} {mg : PySem.Str → Option Value} {base : Heap}
abbrev sc_Forest_init_N : List PySem.Str := ["self"]
theorem sc_Forest_init : FnScope sc_Forest_init_N ["self"] (defScope s_Forest_init) := ⟨rfl, rfl, rfl, by decide +kernel, rfl, by decide +kernel, by decide +kernel⟩
theorem ok_Forest_init (W : Wd K mg) : Ok P w K mg base 1 d_Forest_init ["self"] (sp_Forest_init K) := by
  refine ok_mk W.d_Forest_init sc_Forest_init (fun _ _ _ _ _ _ us hl => match us, hl with | [_], _ => rfl) (fun vs H Q E h => ?_) (fun cdv A outer s H vs Q E hr h => ?_)
  · obtain ⟨H0, p, dx, rfl, _⟩ := h
    rfl
  · obtain ⟨H0, p, dx, rfl, s0, n0, hp, q⟩ := h
    have hu := hu_of hr
    have nd := sc_Forest_init.nd
    refine ⟨_, (pss_cons (ps_fld (pv 0) pe_dnewK rfl)
    (pss_cons (ps_fld (pv 0) pe_dnewK rfl)
    (pss_cons (ps_fld (pv 0) pe_dnewK rfl)
    (pss_one (ps_fld (pv 0) pe_dnewK rfl))))), ?_⟩
    intro d1 nd1
    generalize e1 : upd H d1 _ = H1
    obtain ⟨s1, h1⟩ := gen_upd nd1 e1
    have pd1 : d1 ≠ p := fun e => by rw [e, hp] at nd1; cases nd1
    refine put_step (fs' := [("letters", .ref d1)]) (s1 _ _ hp) (s0.trans s1) n0 W.c_Forest W.n_Forest_letters (by show 0 < 1000; decide) rfl (by kernel_rfl) fun G2 g2 f2 k2 => ?_
    have h1 := (k2 _ pd1).trans h1
    intro d2 nd2
    generalize e3 : upd G2 d2 _ = G3
    obtain ⟨s3, h2⟩ := gen_upd nd2 e3
    have pd2 : d2 ≠ p := fun e => by rw [e, f2] at nd2; cases nd2
    have d12 : d1 ≠ d2 := fun e => by rw [← e, h1] at nd2; cases nd2
    refine put_step (fs' := [("letters", .ref d1), ("above", .ref d2)]) (s3 _ _ f2) (g2.trans s3) n0 W.c_Forest W.n_Forest_above (by show 1 < 1000; decide) rfl (by kernel_rfl) fun G4 g4 f4 k4 => ?_
    have h1 := (k4 _ pd1).trans (s3 _ _ h1)
    have h2 := (k4 _ pd2).trans h2
    intro d3 nd3
    generalize e5 : upd G4 d3 _ = G5
    obtain ⟨s5, h3⟩ := gen_upd nd3 e5
    have pd3 : d3 ≠ p := fun e => by rw [e, f4] at nd3; cases nd3
    have d13 : d1 ≠ d3 := fun e => by rw [← e, h1] at nd3; cases nd3
    have d23 : d2 ≠ d3 := fun e => by rw [← e, h2] at nd3; cases nd3
    refine put_step (fs' := [("letters", .ref d1), ("above", .ref d2), ("below", .ref d3)]) (s5 _ _ f4) (g4.trans s5) n0 W.c_Forest W.n_Forest_below (by show 2 < 1000; decide) rfl (by kernel_rfl) fun G6 g6 f6 k6 => ?_
    have h1 := (k6 _ pd1).trans (s5 _ _ h1)
    have h2 := (k6 _ pd2).trans (s5 _ _ h2)
    have h3 := (k6 _ pd3).trans h3
    intro d4 nd4
    generalize e7 : upd G6 d4 _ = G7
    obtain ⟨s7, h4⟩ := gen_upd nd4 e7
    have pd4 : d4 ≠ p := fun e => by rw [e, f6] at nd4; cases nd4
    have d14 : d1 ≠ d4 := fun e => by rw [← e, h1] at nd4; cases nd4
    have d24 : d2 ≠ d4 := fun e => by rw [← e, h2] at nd4; cases nd4
    have d34 : d3 ≠ d4 := fun e => by rw [← e, h3] at nd4; cases nd4
    refine put_step (fs' := ffs d1 d2 d3 d4) (s7 _ _ f6) (g6.trans s7) n0 W.c_Forest W.n_Forest_rings (by show 3 < 1000; decide) rfl (by kernel_rfl) fun G8 g8 f8 k8 => ?_
    exact q G8 d1 d2 d3 d4 (fun _ => []) ⟨g8, n0, s0.free nd1, g2.free nd2, g4.free nd3, g6.free nd4, by simp [d12, d13, d14, d23, d24, d34], f8, (k8 _ pd1).trans (s7 _ _ h1), (k8 _ pd2).trans (s7 _ _ h2), (k8 _ pd3).trans (s7 _ _ h3), (k8 _ pd4).trans h4, List.nodup_nil, List.nodup_nil, rfl, fun q hq => (by cases hq), List.nodup_nil⟩
abbrev sc_Forest_path_N : List PySem.Str := ["self", "number", "way"]
theorem sc_Forest_path : FnScope sc_Forest_path_N ["self", "number"] (defScope s_Forest_path) := ⟨rfl, rfl, rfl, by decide +kernel, rfl, by decide +kernel, by decide +kernel⟩
theorem ok_Forest_path (W : Wd K mg) : Ok P w K mg base 1 d_Forest_path ["self", "number"] (sp_Forest_path K) := by
  refine ok_mk W.d_Forest_path sc_Forest_path (fun _ _ _ _ _ _ us hl => match us, hl with | [_, _], _ => rfl) (fun vs H Q E h => ?_) (fun cdv A outer s H vs Q E hr h => ?_)
  · obtain ⟨G, p, lk, ab, bl, bi, rk, dx, d1, d2, d3, d4, n, ns, rfl, _⟩ := h
    rfl
  · obtain ⟨G, p, lk, ab, bl, bi, rk, dx, d1, d2, d3, d4, n, ns, rfl, t, hP, h9, q⟩ := h
    have hu := hu_of hr
    have nd := sc_Forest_path.nd
    refine ⟨_, (pss_cons (ps_if (pt_cmp (pc_dnotin hu (pv 1) (kfld K (pv 0) rfl)))
      (pss_one (ps_ret (pe_tup pa_nil)))
      pss_nil)
    (pss_cons (ps_set (i := 2) nd rfl (Or.inl rfl) (pe_lst (pa_cons (pv 1) pa_nil)))
    (pss_cons (ps_while PassesOwn.never (pt_cmpR op_notN (pe_dget hu (kfld K (pv 0) rfl) (pe_ix (kix_list K) (pv 2) (pe_un un_neg pe_int) (fun _ _ => rfl)) (fun _ _ => rfl)) pe_non (nomark _))
      (pss_one (ps_expr (kbm K PySem.F.plainAttrs_list PySem.F.slot_list_append PySem.F.type_list_append mt_append (pv 2) (pa_cons (pe_dget hu (kfld K (pv 0) rfl) (pe_ix (kix_list K) (pv 2) (pe_un un_neg pe_int) (fun _ _ => rfl)) (fun _ _ => rfl)) pa_nil)))))
    (pss_one (ps_ret (pe_tupleOf rfl W.f_tuple (pv 2))))))), ?_⟩
    refine ⟨_, rfl, _, rfl, p, _, dx, _, .ref d2, rfl, t.ins, W.c_Forest, W.n_Forest_above, (by kernel_rfl), d2, _, rfl, DGet.k (k := Sum.inl n) t.h2, _, rfl, ?_⟩
    rw [isSome_dka]
    rcases hP with ⟨hno, rfl⟩ | hP
    · rw [decide_eq_false hno]
      refine iteT ⟨Nat.zero_le _, fun t0 nt => ?_⟩
      generalize e3 : upd H t0 _ = H3
      obtain ⟨s3, h3⟩ := gen_upd nt e3
      exact q H3 t0 s3 nt h3
    have hin : n ∈ ab.map (·.1) := by
      cases hP with
      | top h => exact List.mem_map.mpr ⟨_, h, rfl⟩
      | up h _ => exact List.mem_map.mpr ⟨_, h, rfl⟩
    rw [decide_eq_true hin]
    refine iteF ⟨_, rfl, sz_le (by show 1 ≤ 100000; decide), fun l nl => ?_⟩
    generalize e1 : upd H l _ = H1
    obtain ⟨s1, h1⟩ := gen_upd nl e1
    refine ⟨fun m σ H' => ∃ pre k rest, m = rest.length ∧ σ = [some (.ref p), some (.int n), some (.ref l)] ∧ Same H H' ∧ H' l = some (.lst ((pre ++ [k]).map V.int)) ∧ IsPath ab k rest ∧ ns = pre ++ rest, ⟨ns.length, [], n, ns, rfl, rfl, s1, h1, hP, rfl⟩, ?_⟩
    rintro m σ H2 ⟨pre, k, rest, rfl, rfl, s2, h2, hk, hns⟩
    have t2 := t.mono s2
    have h2s : H2 l = some (.lst (pre.map V.int ++ [V.int k])) := by rw [h2, List.map_append]; rfl
    have hns2 := congrArg List.length hns
    rw [List.length_append] at hns2
    cases hk with
    | top hm =>
      refine ⟨_, rfl, p, _, dx, _, .ref d2, rfl, t2.ins, W.c_Forest, W.n_Forest_above, (by kernel_rfl), _, rfl, 1, rfl, l, _, -1, .int k, rfl, rfl, sqL h2s, atI_last _ _, d2, .non, rfl, ?_, rfl, _, rfl, ?_⟩
      · have := DGet.k (k := Sum.inl k) t2.h2
        rw [valV_dka, (atO_some t.na).mpr hm] at this
        exact this
      · refine iteF ⟨_, rfl, .inl ⟨l, _, rfl, sqL h2, fun t0 nt => ?_⟩⟩
        generalize e3 : upd H2 t0 _ = H3
        obtain ⟨s3, h3⟩ := gen_upd nt e3
        exact q H3 t0 (s2.trans s3) (s2.free nt) (by rw [h3, hns])
    | @up _ k2 rest2 hm hk2 =>
      have dg : ∀ {a : Addr} {Hx : Hp}, Hx a = some (.dK (dka ab)) → DGet Hx a (.int k) (some (.int k2)) := fun h => by
        have := DGet.k (k := Sum.inl k) h
        rw [valV_dka, (atO_some t.na).mpr hm] at this
        exact this
      have hl2 : l ≠ p := fun e => by rw [e, t2.ins] at h2; cases h2
      rw [List.length_cons] at hns2
      refine ⟨_, rfl, p, _, dx, _, .ref d2, rfl, t2.ins, W.c_Forest, W.n_Forest_above, (by kernel_rfl), _, rfl, 1, rfl, l, _, -1, .int k, rfl, rfl, sqL h2s, atI_last _ _, d2, .int k2, rfl, dg t2.h2, rfl, _, rfl, ?_⟩
      refine iteT ⟨_, fun σ' H' h => h, ?_⟩
      refine ⟨_, rfl, .inl ⟨rfl, _, sqL h2⟩, _, rfl, p, _, dx, _, .ref d2, rfl, t2.ins, W.c_Forest, W.n_Forest_above, (by kernel_rfl), _, rfl, 1, rfl, l, _, -1, .int k, rfl, rfl, sqL h2s, atI_last _ _, d2, .int k2, rfl, dg t2.h2, l, _, _, rfl, rfl, h2, sz_lt (by rw [List.length_map, List.length_append]; show pre.length + 1 < 100000; omega), ?_⟩
      refine ⟨rest2.length, by rw [List.length_cons]; exact Nat.lt_succ_self _, pre ++ [k], k2, rest2, rfl, rfl, same_mut s2 nl, ?_, hk2, by rw [hns, List.append_assoc]; rfl⟩
      rw [upd_same, List.map_append (l₁ := pre ++ [k])]
      rfl
end
end K75
end T_D1

section T_D2
set_option Elab.async false
set_option linter.all false
set_option maxRecDepth 100000
set_option maxHeartbeats 4000000
namespace K75
open PySem PySem.Spec PyProof.Rows L2 TL
/-- the ring that the letter closes (none: empty) -/
def RingOf (L : Lt) (ab : Abv) (r : List Int) : Prop := ((L.ans = [] ∨ L.n ∉ ab.map (·.1)) ∧ r = []) ∨ ∃ f rest ns, L.ans = f :: rest ∧ L.n ∈ ab.map (·.1) ∧ PathOf ab f ns ∧ ns.length ≤ 900 ∧ ((ns.getLast? = some L.n ∧ r = ns) ∨ (ns.getLast? ≠ some L.n ∧ r = []))
def sp_Forest_root (K : PySem.W.Frag) : Sp := fun vs H Q _ => ∃ (G : Hp) (p : Addr) (lk : List (Int × Addr)) (ab : Abv) (bl : List (Int × Addr)) (bi : Addr → List Int) (rk : List (Key × V)) (dx d1 d2 d3 d4 : Addr) (n : Int) (pre : List Int) (r : Int), vs = [.ref p, .int n] ∧ FS K G H p lk ab bl bi rk dx d1 d2 d3 d4 ∧ IsPath ab n (pre ++ [r]) ∧ pre.length ≤ 800 ∧
  ∀ H', Same H H' → Q (.int r) H'
def sp_Forest_len (K : PySem.W.Frag) : Sp := fun vs H Q _ => ∃ (G : Hp) (p : Addr) (lk : List (Int × Addr)) (ab : Abv) (bl : List (Int × Addr)) (bi : Addr → List Int) (rk : List (Key × V)) (dx d1 d2 d3 d4 : Addr), vs = [.ref p] ∧ FS K G H p lk ab bl bi rk dx d1 d2 d3 d4 ∧ Q (.int (ab.length : Int)) H
def sp_Forest_closed_ring (K : PySem.W.Frag) : Sp := fun vs H Q _ => ∃ (G : Hp) (p : Addr) (lk : List (Int × Addr)) (ab : Abv) (bl : List (Int × Addr)) (bi : Addr → List Int) (rk : List (Key × V)) (dx d1 d2 d3 d4 a : Addr) (L : Lt) (r : List Int), vs = [.ref p, .ref a] ∧ FS K G H p lk ab bl bi rk dx d1 d2 d3 d4 ∧ LetterAt K H a L ∧ RingOf L ab r ∧
  ∀ H' t, Same H H' → H t = none → H' t = some (.tup (r.map V.int)) → Q (.ref t) H'
section
variable {P : Program} {w : World} {K : PySem.W.Frag} {mg : PySem.Str → Option Value} {base : Heap}
abbrev sc_Forest_root_N : List PySem.Str := ["self", "number", "way"]
theorem sc_Forest_root : FnScope sc_Forest_root_N ["self", "number"] (defScope s_Forest_root) := ⟨rfl, rfl, rfl, by decide +kernel, rfl, by decide +kernel, by decide +kernel⟩
theorem ok_Forest_root (W : Wd K mg) : Ok P w K mg base 2 d_Forest_root ["self", "number"] (sp_Forest_root K) := by
  refine ok_mk W.d_Forest_root sc_Forest_root (fun _ _ _ _ _ _ us hl => match us, hl with | [_, _], _ => rfl) (fun vs H Q E h => ?_) (fun cdv A outer s H vs Q E hr h => ?_)
  · obtain ⟨G, p, lk, ab, bl, bi, rk, dx, d1, d2, d3, d4, n, pre, r, rfl, _⟩ := h
    rfl
  · obtain ⟨G, p, lk, ab, bl, bi, rk, dx, d1, d2, d3, d4, n, pre, r, rfl, t, hP, h8, q⟩ := h
    have hu := hu_of hr
    have nd := sc_Forest_root.nd
    refine ⟨_, (pss_cons (ps_set (i := 2) nd rfl (Or.inl rfl) (pe_o (pv 0) W.c_Forest (ok_Forest_path W) W.m_Forest_path (hr.mono (by decide)) (pa_cons (pv 1) pa_nil)))
    (pss_one (ps_ret (pe_ifExp (ktruth K (pv 2) (fun _ => rfl)) (pe_ix (kix_tup K) (pv 2) (pe_un un_neg pe_int) (fun _ _ => rfl)) pe_non)))), ?_⟩
    refine ⟨_, rfl, p, dx, _, rfl, t.ins, (by kernel_rfl), _, rfl, G, p, lk, ab, bl, bi, rk, dx, d1, d2, d3, d4, n, pre ++ [r], rfl, t, .inr hP, by rw [List.length_append]; show pre.length + 1 ≤ 900; omega, fun H1 t0 s1 nt h1 => ?_⟩
    have h1' : H1 t0 = some (.tup (pre.map V.int ++ [V.int r])) := by rw [h1, List.map_append]; rfl
    refine ⟨_, rfl, true, .inr (.inl ⟨_, sqT h1', by cases pre <;> rfl⟩), iteT ⟨_, rfl, 1, rfl, t0, _, -1, .int r, rfl, rfl, sqT h1', atI_last _ _, q H1 s1⟩⟩
abbrev sc_Forest_len_N : List PySem.Str := ["self"]
theorem sc_Forest_len : FnScope sc_Forest_len_N ["self"] (defScope s_Forest_len) := ⟨rfl, rfl, rfl, by decide +kernel, rfl, by decide +kernel, by decide +kernel⟩
theorem ok_Forest_len (W : Wd K mg) : Ok P w K mg base 1 d_Forest_len ["self"] (sp_Forest_len K) := by
  refine ok_mk W.d_Forest_len sc_Forest_len (fun _ _ _ _ _ _ us hl => match us, hl with | [_], _ => rfl) (fun vs H Q E h => ?_) (fun cdv A outer s H vs Q E hr h => ?_)
  · obtain ⟨G, p, lk, ab, bl, bi, rk, dx, d1, d2, d3, d4, rfl, _⟩ := h
    rfl
  · obtain ⟨G, p, lk, ab, bl, bi, rk, dx, d1, d2, d3, d4, rfl, t, q⟩ := h
    have hu := hu_of hr
    have nd := sc_Forest_len.nd
    refine ⟨_, (pss_one (ps_ret (pe_callB call_lenD rfl W.f_len PySem.boot_len (pa_cons (kfld K (pv 0) rfl) pa_nil)))), ?_⟩
    refine ⟨_, rfl, p, _, dx, _, .ref d2, rfl, t.ins, W.c_Forest, W.n_Forest_above, (by kernel_rfl), d2, _, rfl, t.h2, ?_⟩
    rw [dka_len]
    exact q
abbrev sc_Forest_closed_ring_N : List PySem.Str := ["self", "letter", "way"]
theorem sc_Forest_closed_ring : FnScope sc_Forest_closed_ring_N ["self", "letter"] (defScope s_Forest_closed_ring) := ⟨rfl, rfl, rfl, by decide +kernel, rfl, by decide +kernel, by decide +kernel⟩
theorem ok_Forest_closed_ring (W : Wd K mg) : Ok P w K mg base 2 d_Forest_closed_ring ["self", "letter"] (sp_Forest_closed_ring K) := by
  refine ok_mk W.d_Forest_closed_ring sc_Forest_closed_ring (fun _ _ _ _ _ _ us hl => match us, hl with | [_, _], _ => rfl) (fun vs H Q E h => ?_) (fun cdv A outer s H vs Q E hr h => ?_)
  · obtain ⟨G, p, lk, ab, bl, bi, rk, dx, d1, d2, d3, d4, a, L, r, rfl, _⟩ := h
    rfl
  · obtain ⟨G, p, lk, ab, bl, bi, rk, dx, d1, d2, d3, d4, a, L, r, rfl, t, hL, hR, q⟩ := h
    have hu := hu_of hr
    have nd := sc_Forest_closed_ring.nd
    refine ⟨_, (pss_cons (ps_if (PW.pt (pw_or (pt_not (ktruth K (kfld K (pv 1) rfl) (fun _ => rfl))) (pw_or1 (pt_cmp (pc_dnotin hu (kfld K (pv 1) rfl) (kfld K (pv 0) rfl))))))
      (pss_one (ps_ret (pe_tup pa_nil)))
      pss_nil)
    (pss_cons (ps_set (i := 2) nd rfl (Or.inl rfl) (pe_o (pv 0) W.c_Forest (ok_Forest_path W) W.m_Forest_path (hr.mono (by decide)) (pa_cons (pe_ix (kix_tup K) (kfld K (pv 1) rfl) pe_int (fun _ _ => rfl)) pa_nil)))
    (pss_cons (ps_if (PW.pt (pw_and (ktruth K (pv 2) (fun _ => rfl)) (pw_and1 (pt_cmpR op_eq (pe_ix (kix_tup K) (pv 2) (pe_un un_neg pe_int) (fun _ _ => rfl)) (kfld K (pv 1) rfl) (nomark _)))))
      (pss_one (ps_ret (pv 2)))
      pss_nil)
    (pss_one (ps_ret (pe_tup pa_nil)))))), ?_⟩
    obtain ⟨dl, t1, t2, t3, ha, ht1, _⟩ := hL
    have nil : ∀ {H1 : Hp}, Same H H1 → r = [] → ∀ t0, H1 t0 = none → Q (.ref t0) (upd H1 t0 (.tup [])) := fun s e t0 nt => by
      generalize e3 : upd _ t0 _ = H3
      obtain ⟨s3, h3⟩ := gen_upd nt e3
      exact q H3 t0 (s.trans s3) (s.free nt) (by rw [h3, e]; rfl)
    refine ⟨_, rfl, a, _, dl, _, .ref t1, rfl, ha, W.c_Letter, W.n_Letter_answers, lf_answers _ _ _ _, _, .inr (.inl ⟨_, sqT ht1, rfl⟩), ?_⟩
    cases hans : L.ans with
    | nil =>
      refine iteT (iteT ⟨Nat.zero_le _, nil (Same.refl _) ?_⟩)
      rcases hR with ⟨_, h⟩ | ⟨f, rest, ns, e, _⟩
      · exact h
      · rw [hans] at e
        cases e
    | cons f rest =>
      rw [hans] at ht1
      refine iteF ⟨_, rfl, a, _, dl, _, .int L.n, rfl, ha, W.c_Letter, W.n_Letter_number, lf_number _ _ _ _, _, rfl, p, _, dx, _, .ref d2, rfl, t.ins, W.c_Forest, W.n_Forest_above, (by kernel_rfl), d2, _, rfl, DGet.k (k := Sum.inl L.n) t.h2, _, rfl, ?_⟩
      rw [isSome_dka]
      rcases hR with ⟨hno, hr0⟩ | ⟨f2, rest2, ns, e, hin, hP, h9, hcase⟩
      · have hno : L.n ∉ ab.map (·.1) := by
          rcases hno with h | h
          · rw [hans] at h
            cases h
          · exact h
        rw [decide_eq_false hno]
        exact iteT ⟨Nat.zero_le _, nil (Same.refl _) hr0⟩
      · rw [hans] at e
        cases e
        rw [decide_eq_true hin]
        refine iteF ⟨_, rfl, p, dx, _, rfl, t.ins, (by kernel_rfl), _, rfl, a, _, dl, _, .ref t1, rfl, ha, W.c_Letter, W.n_Letter_answers, lf_answers _ _ _ _, t1, _, 0, .int f, rfl, rfl, sqT ht1, atI_nat (j := 0) rfl, G, p, lk, ab, bl, bi, rk, dx, d1, d2, d3, d4, f, ns, rfl, t, hP, h9, fun H1 t0 s1 nt h1 => ?_⟩
        rcases List.eq_nil_or_concat ns with rfl | ⟨pre, z, rfl⟩
        · refine ⟨_, rfl, false, .inr (.inl ⟨_, sqT h1, rfl⟩), iteF (iteF ⟨Nat.zero_le _, nil s1 ?_⟩)⟩
          rcases hcase with ⟨h, _⟩ | ⟨_, h⟩
          · cases h
          · exact h
        · rw [List.concat_eq_append] at h1 hcase
          have h1' : H1 t0 = some (.tup (pre.map V.int ++ [V.int z])) := by rw [h1, List.map_append]; rfl
          have hlast : (pre ++ [z]).getLast? = some z := by simp
          rw [hlast] at hcase
          refine ⟨_, rfl, true, .inr (.inl ⟨_, sqT h1', by cases pre <;> rfl⟩), iteT ⟨_, rfl, 1, rfl, t0, _, -1, .int z, rfl, rfl, sqT h1', atI_last _ _, _, rfl, a, _, dl, _, .int L.n, rfl, s1 _ _ ha, W.c_Letter, W.n_Letter_number, lf_number _ _ _ _, rfl, _, rfl, ?_⟩⟩
          by_cases hz : z = L.n
          · rw [decide_eq_true (by rw [hz])]
            refine iteT ⟨_, rfl, q H1 t0 s1 nt ?_⟩
            rcases hcase with ⟨_, h⟩ | ⟨h, _⟩
            · rw [h]
              exact h1
            · exact absurd (by rw [hz]) h
          · rw [decide_eq_false (by intro e; injection e with e; exact hz e)]
            refine iteF ⟨Nat.zero_le _, nil s1 ?_⟩
            rcases hcase with ⟨h, _⟩ | ⟨_, h⟩
            · exact absurd (Option.some.inj h) hz
            · exact h
end
end K75
end T_D2

section T_D3
set_option Elab.async false
set_option linter.all false
set_option maxRecDepth 100000
set_option maxHeartbeats 4000000
namespace K75
open PySem PySem.Spec PyProof.Rows L2 TL
def sp_Forest_children (K : PySem.W.Frag) : Sp := fun vs H Q _ => ∃ (G : Hp) (p : Addr) (lk : List (Int × Addr)) (ab : Abv) (bl : List (Int × Addr)) (bi : Addr → List Int) (rk : List (Key × V)) (dx d1 d2 d3 d4 : Addr) (n : Int) (b : Addr), vs = [.ref p, .int n] ∧ FS K G H p lk ab bl bi rk dx d1 d2 d3 d4 ∧ (n, b) ∈ bl ∧ (bi b).Nodup ∧
  NewTup H (fun x => x ∈ bi b) Q
def sp_Forest_roots (K : PySem.W.Frag) : Sp := fun vs H Q _ => ∃ (G : Hp) (p : Addr) (lk : List (Int × Addr)) (ab : Abv) (bl : List (Int × Addr)) (bi : Addr → List Int) (rk : List (Key × V)) (dx d1 d2 d3 d4 : Addr), vs = [.ref p] ∧ FS K G H p lk ab bl bi rk dx d1 d2 d3 d4 ∧ ab.length ≤ 900 ∧
  NewTup H (fun x => (x, none) ∈ ab) Q
section
variable {P : Program} {w : World} {K : PySem.W.Frag} {mg : PySem.Str → Option Value} {base : Heap}
abbrev sc_Forest_children_N : List PySem.Str := ["self", "number"]
theorem sc_Forest_children : FnScope sc_Forest_children_N ["self", "number"] (defScope s_Forest_children) := ⟨rfl, rfl, rfl, by decide +kernel, rfl, by decide +kernel, by decide +kernel⟩
theorem ok_Forest_children (W : Wd K mg) : Ok P w K mg base 1 d_Forest_children ["self", "number"] (sp_Forest_children K) := by
  refine ok_mk W.d_Forest_children sc_Forest_children (fun _ _ _ _ _ _ us hl => match us, hl with | [_, _], _ => rfl) (fun vs H Q E h => ?_) (fun cdv A outer s H vs Q E hr h => ?_)
  · obtain ⟨G, p, lk, ab, bl, bi, rk, dx, d1, d2, d3, d4, n, b, rfl, _⟩ := h
    rfl
  · obtain ⟨G, p, lk, ab, bl, bi, rk, dx, d1, d2, d3, d4, n, b, rfl, t, hb, hnd, q⟩ := h
    have hu := hu_of hr
    have nd := sc_Forest_children.nd
    refine ⟨_, (pss_one (ps_ret (pe_tupleOf rfl W.f_tuple (pe_callB cr_sortedI rfl W.f_sorted (by decide +kernel) (pa_cons (pe_dget2 hu (kfld K (pv 0) rfl) (pv 1) (pe_lst pa_nil) ⟨rfl, rfl, rfl, rfl⟩) pa_nil))))), ?_⟩
    obtain ⟨hl, hg⟩ := t.low _ hb
    have hl : H b = some (.lst ((bi b).map V.int)) := hl
    refine ⟨_, rfl, p, _, dx, _, .ref d3, rfl, t.ins, W.c_Forest, W.n_Forest_below, (by kernel_rfl), d3, rfl, .inl ⟨_, .inl t.h3⟩, _, rfl, Nat.zero_le _, fun l0 nl0 => ?_⟩
    generalize e0 : upd H l0 _ = H0
    obtain ⟨s0, _⟩ := gen_upd nl0 e0
    have t0 := t.mono s0
    refine ⟨_, DGet.k (k := Sum.inl n) t0.h3, ?_⟩
    rw [valV_dki, (atK_some (by rw [t.ks]; exact t.na)).mpr hb]
    refine ⟨b, _, rfl, sqL (s0 _ _ hl), fun gs q3 hperm hgs nq3 => ?_⟩
    generalize e4 : upd H0 q3 _ = H4
    obtain ⟨s4, h4⟩ := gen_upd nq3 e4
    refine .inl ⟨q3, _, rfl, sqL h4, fun g0 ng => ?_⟩
    generalize e5 : upd H4 g0 _ = H5
    obtain ⟨s5, h5⟩ := gen_upd ng e5
    exact q H5 g0 gs ((s0.trans s4).trans s5) ((s0.trans s4).free ng) h5 (lt_of_le_nodup hgs (hperm.nodup_iff.mpr hnd)) fun x => hperm.mem_iff
abbrev sc_Forest_roots_N : List PySem.Str := ["self", "number"]
theorem sc_Forest_roots : FnScope sc_Forest_roots_N ["self"] (defScope s_Forest_roots) := ⟨rfl, rfl, rfl, by decide +kernel, rfl, by decide +kernel, by decide +kernel⟩
theorem ok_Forest_roots (W : Wd K mg) : Ok P w K mg base 1 d_Forest_roots ["self"] (sp_Forest_roots K) := by
  refine ok_mk W.d_Forest_roots sc_Forest_roots (fun _ _ _ _ _ _ us hl => match us, hl with | [_], _ => rfl) (fun vs H Q E h => ?_) (fun cdv A outer s H vs Q E hr h => ?_)
  · obtain ⟨G, p, lk, ab, bl, bi, rk, dx, d1, d2, d3, d4, rfl, _⟩ := h
    rfl
  · obtain ⟨G, p, lk, ab, bl, bi, rk, dx, d1, d2, d3, d4, rfl, t, h9, q⟩ := h
    have hu := hu_of hr
    have nd := sc_Forest_roots.nd
    refine ⟨_, (pss_one (ps_ret (pe_tupleOf rfl W.f_tuple (pe_lc (own := [("number", 1)]) rfl nd (pi_list (pe_callB cr_sortedI rfl W.f_sorted (by decide +kernel) (pa_cons (pe_callTy (call_list_dK rfl) rfl W.f_list (by decide +kernel) (pa_cons (kfld K (pv 0) rfl) pa_nil)) pa_nil))) (blkOk_by (N := sc_Forest_roots_N) (sc := defScope s_Forest_roots) (by decide +kernel)) (fun _ _ _ _ _ => (pg_name (i := 1) nd rfl (Or.inl rfl))) (fun _ _ _ _ _ => (pts_one (pt_cmpR op_isN (pe_dget hu (kfld K (pv 0) rfl) (pv 1) (fun _ _ => rfl)) pe_non (nomark _)))) (fun _ _ _ _ _ => (pv 1)))))), ?_⟩
    refine ⟨_, rfl, p, _, dx, _, .ref d2, rfl, t.ins, W.c_Forest, W.n_Forest_above, (by kernel_rfl), d2, _, rfl, t.h2, fun l nl => ?_⟩
    rw [show (dka ab).map (fun kv => kV kv.1) = (ab.map (·.1)).map V.int by unfold dka; rw [List.map_map, List.map_map]; rfl]
    generalize e1 : upd H l _ = H1
    obtain ⟨s1, h1⟩ := gen_upd nl e1
    refine ⟨l, _, rfl, sqL h1, fun gs q3 hperm hgs nq3 => ?_⟩
    generalize e4 : upd H1 q3 _ = H2
    obtain ⟨s2, h2⟩ := gen_upd nq3 e4
    have t2 := t.mono (s1.trans s2)
    refine ⟨q3, rfl, ⟨_, sqL h2⟩, fun D nD => ?_⟩
    have glen : gs.length ≤ 900 := by rw [hperm.length_eq, List.length_map]; exact h9
    have gnd : gs.Nodup := hperm.nodup_iff.mpr t.na
    refine lc_pure (w_list (xs := gs.map V.int)) (fun i => if (fun x => decide (atO ab x = some none)) (gs.getD i 0) = true then some (V.int (gs.getD i 0)) else none) nD (fun H' s => sqL (s _ _ h2)) (fun i x H H' r => by rw [r.1]; exact Same.refl _) ?_ ?_
    · rintro i x H3 Hy hi ⟨rfl, hx⟩ s3 _ hK
      rw [List.length_map] at hi
      rw [List.getElem?_map, List.getElem?_eq_getElem hi] at hx
      cases hx
      have t3 := t2.mono s3
      have hgd : gs.getD i 0 = gs[i] := by simp [List.getD, List.getElem?_eq_getElem hi]
      have hin : gs[i] ∈ ab.map (·.1) := hperm.mem_iff.mp (List.getElem_mem hi)
      obtain ⟨⟨k0, o⟩, hq, e0⟩ := List.mem_map.mp hin
      have hq : (gs[i], o) ∈ ab := by rw [← e0]; exact hq
      have ho := (atO_some t.na).mpr hq
      have dg : DGet Hy d2 (.int gs[i]) (some (oV o)) := by
        have := DGet.k (k := Sum.inl gs[i]) t3.h2
        rw [valV_dka, ho] at this
        exact this
      refine ⟨rfl, _, rfl, p, _, dx, _, .ref d2, rfl, t3.ins, W.c_Forest, W.n_Forest_above, (by kernel_rfl), _, rfl, d2, oV o, rfl, dg, rfl, _, rfl, ?_⟩
      cases o with
      | none => exact iteT ⟨_, rfl, lcT nD s3 (by omega) hK (by show (if decide (atO ab (gs.getD i 0) = some none) = true then some (V.int (gs.getD i 0)) else none) = _; rw [hgd, decide_eq_true ho]; rfl)⟩
      | some m => exact iteF (lcN s3 hK (by show (if decide (atO ab (gs.getD i 0) = some none) = true then some (V.int (gs.getD i 0)) else none) = _; rw [hgd, decide_eq_false (by rw [ho]; simp)]; rfl))
    intro H3 s3 h3
    rw [List.length_map] at h3
    have h3 := h3.trans (congrArg (fun l => some (HO.lst l)) (kept_filter (xs := gs) (p := fun x => decide (atO ab x = some none))))
    refine .inl ⟨D, _, rfl, sqL h3, fun g0 ng => ?_⟩
    generalize e5 : upd H3 g0 _ = H5
    obtain ⟨s5, h5⟩ := gen_upd ng e5
    refine q H5 g0 _ (((s1.trans s2).trans s3).trans s5) (((s1.trans s2).trans s3).free ng) h5 ((lt_of_le_nodup hgs gnd).filter _) fun x => ?_
    rw [List.mem_filter, decide_eq_true_eq, atO_some t.na, hperm.mem_iff]
    exact ⟨fun h => h.2, fun h => ⟨List.mem_map.mpr ⟨_, h, rfl⟩, h⟩⟩
end
end K75
end T_D3

section T_D4
set_option Elab.async false
set_option linter.all false
set_option maxRecDepth 100000
set_option maxHeartbeats 4000000
namespace K75
open PySem PySem.Spec PyProof.Rows L2 TL
def FoEq (K : PySem.W.Frag) : Addr → Addr → Hp → Prop := fun a b H => ∃ dx dy d1 d2 d3 d4 e1 e2 e3 e4 ab ab2, H a = some (.ins (He.ga K "Forest") dx (ffs d1 d2 d3 d4)) ∧ H b = some (.ins (He.ga K "Forest") dy (ffs e1 e2 e3 e4)) ∧ H d2 = some (.dK (dka ab)) ∧ H e2 = some (.dK (dka ab2)) ∧ d2 ≠ e2 ∧ ab.length = ab2.length ∧
  ∀ q ∈ ab, atO ab2 q.1 = some q.2
def sp_Forest_eq (K : PySem.W.Frag) : Sp := spEq (FoEq K)
section
variable {P : Program} {w : World} {K : PySem.W.Frag} {mg : PySem.Str → Option Value} {base : Heap}
abbrev sc_Forest_eq_N : List PySem.Str := ["self", "other"]
theorem sc_Forest_eq : FnScope sc_Forest_eq_N ["self", "other"] (defScope s_Forest_eq) := ⟨rfl, rfl, rfl, by decide +kernel, rfl, by decide +kernel, by decide +kernel⟩
theorem ok_Forest_eq (W : Wd K mg) : Ok P w K mg base 2 d_Forest_eq ["self", "other"] (sp_Forest_eq K) := by
  refine ok_mk W.d_Forest_eq sc_Forest_eq (fun _ _ _ _ _ _ us hl => match us, hl with | [_, _], _ => rfl) (fun vs H Q E h => ?_) (fun cdv A outer s H vs Q E hr h => ?_)
  · obtain ⟨a, b, rfl, _⟩ := h
    rfl
  · obtain ⟨a, b, rfl, ⟨dx, dy, d1, d2, d3, d4, e1, e2, e3, e4, ab, ab2, ha, hb, h1, h2, hne, hl, hall⟩, q⟩ := h
    have hu := hu_of hr
    have nd := sc_Forest_eq.nd
    have op := (op_eqG (GD.rcG_dict (X := (cxOf CX0 P w K mg base sc_Forest_eq_N d_Forest_eq.qual d_Forest_eq.scope (d_Forest_eq.at_ K) cdv A outer s H E).nox) mon_flat eqG_flat) hr)
    refine ⟨_, (pss_one (ps_ret (pe_and (pe_callB (kisi K) rfl W.f_isinstance (by decide +kernel) (pa_cons (pv 1) (pa_cons (pe_glob (v := V.ref (He.ga K "Forest")) rfl W.g_Forest rfl) pa_nil))) (pe_one (pe_cmpR op (kfld K (pv 0) rfl) (kfld K (pv 1) rfl) (nomark _)))))), ?_⟩
    have x := W.x_Forest
    refine ⟨_, rfl, _, _, _, _, _, rfl, ClsV.own _, .base (.ins hb W.c_Forest x.ha x.hn x.tk x.ho), x.me, true, rfl, iteT ?_⟩
    refine ⟨_, rfl, a, _, dx, _, .ref d2, rfl, ha, W.c_Forest, W.n_Forest_above, (by kernel_rfl), _, rfl, b, _, dy, _, .ref e2, rfl, hb, W.c_Forest, W.n_Forest_above, (by kernel_rfl), ⟨d2, e2, _, _, rfl, rfl, hne, h1, h2, by rw [dka_len, dka_len]; exact hl, fun p hp => ?_⟩, fun H1 e1 => q H1 e1⟩
    obtain ⟨r, hr0, er⟩ := List.mem_map.mp hp
    rw [← er]
    refine ⟨oV r.2, by show valV (dka ab2) (Sum.inl r.1) = _; rw [valV_dka, hall r hr0]; rfl, fun oa ob => ?_⟩
    show flatV (oV r.2) = true ∧ flatV (oV r.2) = true ∧ eqV (oV r.2) (oV r.2) = true
    cases r.2 with
    | none => exact ⟨rfl, rfl, rfl⟩
    | some m => exact ⟨rfl, rfl, by simp [oV, eqV]⟩
end
end K75
end T_D4

section T_D5
set_option Elab.async false
set_option linter.all false
set_option maxRecDepth 100000
set_option maxHeartbeats 4000000
namespace K75
open PySem PySem.Spec PyProof.Rows L2 TL
/-- at each of ts stands a number of gs with its parent -/
def SumRows (H : Hp) (ab : Abv) (ts : List Addr) (gs : List Int) : Prop := ts.length = gs.length ∧ ∀ (j : Nat) (t : Addr), ts[j]? = some t → ∃ n o, gs[j]? = some n ∧ (n, o) ∈ ab ∧ H t = some (.tup [.int n, oV o])
def sp_Forest_summary (K : PySem.W.Frag) : Sp := fun vs H Q _ => ∃ (G : Hp) (p : Addr) (lk : List (Int × Addr)) (ab : Abv) (bl : List (Int × Addr)) (bi : Addr → List Int) (rk : List (Key × V)) (dx d1 d2 d3 d4 : Addr), vs = [.ref p] ∧ FS K G H p lk ab bl bi rk dx d1 d2 d3 d4 ∧ ab.length ≤ 900 ∧
  ∀ H' r ts gs, Same H H' → H' r = some (.lst (ts.map V.ref)) → gs.Perm (ab.map (·.1)) → SumRows H' ab ts gs → Q (.ref r) H'
section
variable {P : Program} {w : World} {K : PySem.W.Frag} {mg : PySem.Str → Option Value} {base : Heap}
abbrev sc_Forest_summary_N : List PySem.Str := ["self", "number"]
theorem sc_Forest_summary : FnScope sc_Forest_summary_N ["self"] (defScope s_Forest_summary) := ⟨rfl, rfl, rfl, by decide +kernel, rfl, by decide +kernel, by decide +kernel⟩
theorem ok_Forest_summary (W : Wd K mg) : Ok P w K mg base 1 d_Forest_summary ["self"] (sp_Forest_summary K) := by
  refine ok_mk W.d_Forest_summary sc_Forest_summary (fun _ _ _ _ _ _ us hl => match us, hl with | [_], _ => rfl) (fun vs H Q E h => ?_) (fun cdv A outer s H vs Q E hr h => ?_)
  · obtain ⟨G, p, lk, ab, bl, bi, rk, dx, d1, d2, d3, d4, rfl, _⟩ := h
    rfl
  · obtain ⟨G, p, lk, ab, bl, bi, rk, dx, d1, d2, d3, d4, rfl, t, h9, q⟩ := h
    have hu := hu_of hr
    have nd := sc_Forest_summary.nd
    refine ⟨_, (pss_one (ps_ret (pe_lc (own := [("number", 1)]) rfl nd (pi_list (pe_callB cr_sortedI rfl W.f_sorted (by decide +kernel) (pa_cons (pe_callTy (call_list_dK rfl) rfl W.f_list (by decide +kernel) (pa_cons (kfld K (pv 0) rfl) pa_nil)) pa_nil))) (blkOk_by (N := sc_Forest_summary_N) (sc := defScope s_Forest_summary) (by decide +kernel)) (fun _ _ _ _ _ => (pg_name (i := 1) nd rfl (Or.inl rfl))) (fun _ _ _ _ _ => pts_nil) (fun _ _ _ _ _ => (pe_tup (pa_cons (pv 1) (pa_cons (pe_dget hu (kfld K (pv 0) rfl) (pv 1) (fun _ _ => rfl)) pa_nil))))))), ?_⟩
    refine ⟨_, rfl, p, _, dx, _, .ref d2, rfl, t.ins, W.c_Forest, W.n_Forest_above, (by kernel_rfl), d2, _, rfl, t.h2, fun l nl => ?_⟩
    rw [show (dka ab).map (fun kv => kV kv.1) = (ab.map (·.1)).map V.int by unfold dka; rw [List.map_map, List.map_map]; rfl]
    generalize e1 : upd H l _ = H1
    obtain ⟨s1, h1⟩ := gen_upd nl e1
    refine ⟨l, _, rfl, sqL h1, fun gs q3 hperm hgs nq3 => ?_⟩
    generalize e4 : upd H1 q3 _ = H2
    obtain ⟨s2, h2⟩ := gen_upd nq3 e4
    have t2 := t.mono (s1.trans s2)
    refine ⟨q3, rfl, ⟨_, sqL h2⟩, fun D nD => ?_⟩
    have glen : gs.length ≤ 900 := by rw [hperm.length_eq, List.length_map]; exact h9
    refine lc_walk (w_list (xs := gs.map V.int)) (fun i H' => Same H2 H' ∧ ∃ ts, H' D = some (.lst (ts.map V.ref)) ∧ ts.length = i ∧ ∀ (j : Nat) (t : Addr), ts[j]? = some t → ∃ n o, gs[j]? = some n ∧ (n, o) ∈ ab ∧ H' t = some (.tup [.int n, oV o])) ⟨same_new nD, [], upd_same, rfl, by simp⟩ (fun i H' _ h => sqL (h.1 _ _ h2)) ?_ ?_
    · rintro i x H3 Hy hi ⟨rfl, hx⟩ ⟨s3, ts, hD, htl, hts⟩
      rw [List.length_map] at hi
      rw [List.getElem?_map, List.getElem?_eq_getElem hi] at hx
      cases hx
      have t3 := t2.mono s3
      have hin : gs[i] ∈ ab.map (·.1) := hperm.mem_iff.mp (List.getElem_mem hi)
      obtain ⟨⟨k0, o⟩, hq, e0⟩ := List.mem_map.mp hin
      have hq : (gs[i], o) ∈ ab := by rw [← e0]; exact hq
      have dg : DGet Hy d2 (.int gs[i]) (some (oV o)) := by
        have := DGet.k (k := Sum.inl gs[i]) t3.h2
        rw [valV_dka, (atO_some t.na).mpr hq] at this
        exact this
      refine ⟨rfl, tyes ⟨_, rfl, _, rfl, p, _, dx, _, .ref d2, rfl, t3.ins, W.c_Forest, W.n_Forest_above, (by kernel_rfl), _, rfl, d2, oV o, rfl, dg, sz_le (by show 2 ≤ 100000; decide), fun tp ntp => ?_⟩⟩
      generalize e6 : upd Hy tp _ = H6
      obtain ⟨s6, h6⟩ := gen_upd ntp e6
      refine ⟨ts.map V.ref, s6 _ _ hD, sz_lt (by rw [List.length_map]; omega), same_mut (s3.trans s6) nD, ts ++ [tp], by rw [upd_same, List.map_append]; rfl, by rw [List.length_append, htl]; rfl, fun j tj hj => ?_⟩
      have keep : ∀ {a : Addr} {v : List V}, H6 a = some (.tup v) → upd H6 D (.lst (ts.map V.ref ++ [V.ref tp])) a = some (.tup v) := fun {a v} h => by
        rw [upd_ne (fun e => by rw [e, s6 _ _ hD] at h; cases h)]
        exact h
      rcases Nat.lt_or_ge j ts.length with hlt | hge
      · rw [List.getElem?_append_left hlt] at hj
        obtain ⟨n, o2, g1, g2, g3⟩ := hts j tj hj
        exact ⟨n, o2, g1, g2, keep (s6 _ _ g3)⟩
      · have hj2 : j = i := by
          have := (List.getElem?_eq_some_iff.mp hj).1
          rw [List.length_append] at this
          have : j < ts.length + 1 := this
          omega
        subst hj2
        rw [← htl, List.getElem?_concat_length] at hj
        cases hj
        exact ⟨gs[j], o, List.getElem?_eq_getElem hi, hq, keep h6⟩
    · rintro H3 ⟨s3, ts, hD, htl, hts⟩
      rw [List.length_map] at htl
      exact q H3 D ts gs ((s1.trans s2).trans s3) hD hperm ⟨htl, hts⟩
end
end K75
end T_D5

section T_M4
set_option Elab.async false
set_option linter.all false
set_option maxRecDepth 100000
set_option maxHeartbeats 4000000
namespace K75
open PySem PySem.Spec PyProof.Rows L2 TL
theorem PT.reach {gk : List (Int × Addr)} {gi : Addr → GI} {E : Edges} (nk : (gk.map (·.1)).Nodup) (p : PT gk gi E) {n m : Int} {g : Addr} (h : (n, g) ∈ gk) (c : Conn E n m) : (m, g) ∈ gk := by
  induction c with
  | refl => exact h
  | step _ e ih =>
    rcases e with e | e
    · obtain ⟨a, h1, h2⟩ := p.edge _ e
      have h1 : (_, a) ∈ gk := h1
      rw [key_one nk ih h1]
      exact h2
    · obtain ⟨a, h1, h2⟩ := p.edge _ e
      have h2 : (_, a) ∈ gk := h2
      rw [key_one nk ih h2]
      exact h1
/-- a number's thread has the same name whatever the order of the letters -/
theorem PT.low_eq {gk gk2 : List (Int × Addr)} {gi gi2 : Addr → GI} {E E2 : Edges} (nk : (gk.map (·.1)).Nodup) (nk2 : (gk2.map (·.1)).Nodup) (p : PT gk gi E) (p2 : PT gk2 gi2 E2) (h1 : ∀ e ∈ E, e ∈ E2) (h2 : ∀ e ∈ E2, e ∈ E) {n : Int} {g g2 : Addr} (a : (n, g) ∈ gk) (b : (n, g2) ∈ gk2) : (gi g).lw = (gi2 g2).lw := by
  have to : ∀ m, (m, g) ∈ gk → (m, g2) ∈ gk2 := fun m h => p2.reach nk2 b ((p.conn n m g a h).mono h1)
  have back : ∀ m, (m, g2) ∈ gk2 → (m, g) ∈ gk := fun m h => p.reach nk a ((p2.conn n m g2 b h).mono h2)
  obtain ⟨l1, l2⟩ := p.low _ a
  obtain ⟨l3, l4⟩ := p2.low _ b
  have l5 := l4 _ ((p2.mem _ b _).mpr (to _ ((p.mem _ a _).mp l1)))
  have l6 := l2 _ ((p.mem _ a _).mpr (back _ ((p2.mem _ b _).mp l3)))
  exact Int.le_antisymm l6 l5
end K75
end T_M4

section T_M5
set_option Elab.async false
set_option linter.all false
set_option maxRecDepth 100000
set_option maxHeartbeats 4000000
namespace K75
open PySem PySem.Spec PyProof.Rows L2 TL
/-! ### the forest: the mathematics -/
abbrev Fn : Type := Int → Option Int
inductive Up (f : Fn) : Int → Int → Prop where
  | one {n m : Int} : f n = some m → Up f n m
  | more {n k m : Int} : f n = some k → Up f k m → Up f n m
theorem Up.trans {f : Fn} {a b c : Int} (h : Up f a b) (g : Up f b c) : Up f a c := by
  induction h with
  | one e => exact .more e g
  | more e _ ih => exact .more e (ih g)
theorem Up.nn {f : Fn} {a b : Int} (h : Up f a b) : f a ≠ none := by
  cases h with
  | one e => rw [e]; simp
  | more e _ => rw [e]; simp
/-- what stands on a ring leads back -/
theorem Up.back {f : Fn} {y z : Int} (r : Up f y y) (h : Up f y z) : Up f z y := by
  have key : ∀ {a z : Int}, Up f a z → Up f a y → Up f z y := by
    intro a z h
    induction h with
    | one e =>
      intro q
      cases q with
      | one e2 =>
        rw [e] at e2
        cases e2
        exact r
      | more e2 q =>
        rw [e] at e2
        cases e2
        exact q
    | more e _ ih =>
      intro q
      cases q with
      | one e2 =>
        rw [e] at e2
        cases e2
        exact ih r
      | more e2 q =>
        rw [e] at e2
        cases e2
        exact ih q
  exact key h r
def Cut (f : Fn) (n : Int) : Prop := Up f n n ∧ ∀ m, Up f n m → m ≤ n
inductive GP (g : Fn) : Int → List Int → Prop where
  | top {n : Int} : g n = none → GP g n [n]
  | up {n m : Int} {ns : List Int} : g n = some m → GP g m ns → GP g n (n :: ns)
theorem GP.one {g : Fn} {n : Int} {xs ys : List Int} (a : GP g n xs) (b : GP g n ys) : xs = ys := by
  induction a generalizing ys with
  | top e =>
    cases b with
    | top _ => rfl
    | up e2 _ => rw [e] at e2; cases e2
  | up e _ ih =>
    cases b with
    | top e2 => rw [e] at e2; cases e2
    | up e2 q =>
      rw [e] at e2
      cases e2
      rw [ih q]
theorem GP.ne {g : Fn} {n : Int} {xs : List Int} (a : GP g n xs) : ∃ r, xs = n :: r := by
  cases a with
  | top _ => exact ⟨_, rfl⟩
  | up _ _ => exact ⟨_, rfl⟩
/-- from each number on the way the rest of it is the way -/
theorem GP.rest {g : Fn} {n x : Int} {xs : List Int} (a : GP g n xs) (h : x ∈ xs) : ∃ pre post, xs = pre ++ post ∧ GP g x post := by
  induction a with
  | top e =>
    rw [List.mem_singleton.mp h]
    exact ⟨[], _, rfl, .top e⟩
  | up e q ih =>
    rcases List.mem_cons.mp h with rfl | h
    · exact ⟨[], _, rfl, .up e q⟩
    · obtain ⟨pre, post, e1, e2⟩ := ih h
      exact ⟨_ :: pre, post, by rw [e1]; rfl, e2⟩
theorem GP.nodup {g : Fn} {n : Int} {xs : List Int} (a : GP g n xs) : xs.Nodup := by
  induction a with
  | top e => simp
  | @up n m ns e q ih =>
    refine List.nodup_cons.mpr ⟨fun h => ?_, ih⟩
    obtain ⟨pre, post, e1, e2⟩ := q.rest h
    have := (GP.up e q).one e2
    have := congrArg List.length this
    have e1 := congrArg List.length e1
    rw [List.length_append] at e1
    rw [List.length_cons] at this
    omega
theorem GP.not_self {g : Fn} {n : Int} {xs : List Int} (a : GP g n xs) : g n ≠ some n := fun e => by
  have h := a.one (.up e a)
  have := congrArg List.length h
  rw [List.length_cons] at this
  omega
theorem GP.last {g : Fn} {n : Int} {xs : List Int} (a : GP g n xs) : ∃ pre r, xs = pre ++ [r] ∧ g r = none ∧ ∀ y ∈ pre, g y ≠ none := by
  induction a with
  | top e => exact ⟨[], _, rfl, e, by simp⟩
  | up e _ ih =>
    obtain ⟨pre, r, e1, e2, e3⟩ := ih
    refine ⟨_ :: pre, r, by rw [e1]; rfl, e2, fun y hy => ?_⟩
    rcases List.mem_cons.mp hy with rfl | hy
    · rw [e]; simp
    · exact e3 y hy
structure FG (f g : Fn) : Prop where
  ch : ∀ n, (Cut f n ∧ g n = none) ∨ (¬Cut f n ∧ g n = f n)
  pt : ∀ n, ∃ ns, GP g n ns
theorem FG.one {f g g2 : Fn} (a : FG f g) (b : FG f g2) : g = g2 := funext fun n => by
  rcases a.ch n with ⟨c, e⟩ | ⟨c, e⟩ <;> rcases b.ch n with ⟨d, e2⟩ | ⟨d, e2⟩
  · rw [e, e2]
  · exact absurd c d
  · exact absurd d c
  · rw [e, e2]
theorem FG.sub {f g : Fn} (a : FG f g) {n m : Int} (h : g n = some m) : f n = some m := by
  rcases a.ch n with ⟨_, e⟩ | ⟨_, e⟩
  · rw [e] at h; cases h
  · rw [← e]; exact h
def setF (f : Fn) (n : Int) (x : Option Int) : Fn := fun m => if m = n then x else f m
theorem setF_at {f : Fn} {n : Int} {x : Option Int} : setF f n x n = x := if_pos rfl
theorem setF_ne {f : Fn} {n m : Int} {x : Option Int} (h : m ≠ n) : setF f n x m = f m := if_neg h
theorem FG.nil : FG (fun _ => none) (fun _ => none) := ⟨fun n => .inr ⟨fun c => c.1.nn rfl, rfl⟩, fun n => ⟨_, .top rfl⟩⟩
section
variable {f : Fn} {n : Int} {x : Option Int}
theorem Up.mono (hn : f n = none) {a b : Int} (h : Up f a b) : Up (setF f n x) a b := by
  have ne : ∀ {c m : Int}, f c = some m → setF f n x c = some m := fun {c m} e => by
    rw [setF_ne (fun q => by rw [q, hn] at e; cases e)]
    exact e
  induction h with
  | one e => exact .one (ne e)
  | more e _ ih => exact .more (ne e) ih
/-- a new way goes through n -/
theorem Up.thru {a b : Int} (h : Up (setF f n x) a b) : Up f a b ∨ a = n ∨ Up f a n := by
  induction h with
  | @one a b e =>
    by_cases q : a = n
    · exact .inr (.inl q)
    · rw [setF_ne q] at e
      exact .inl (.one e)
  | @more a k b e _ ih =>
    by_cases q : a = n
    · exact .inr (.inl q)
    · rw [setF_ne q] at e
      rcases ih with h | h | h
      · exact .inl (.more e h)
      · rw [h] at e
        exact .inr (.inr (.one e))
      · exact .inr (.inr (.more e h))
end
/-- what f leads to an open end, g leads there -/
theorem FG.lead {f g : Fn} (F : FG f g) {a n : Int} (h : Up f a n) (hn : f n = none) : ∃ pre, GP g a (pre ++ [n]) := by
  have gn : g n = none := by
    rcases F.ch n with ⟨_, e⟩ | ⟨_, e⟩
    · exact e
    · rw [e, hn]
  have st : ∀ {a k : Int}, Up f a n → f a = some k → g a = some k := fun {a k} u e => by
    rcases F.ch a with ⟨c, _⟩ | ⟨_, e2⟩
    · exact absurd hn (c.1.back u).nn
    · rw [e2, e]
  induction h with
  | one e => exact ⟨[_], .up (st (.one e) e) (.top gn)⟩
  | more e q ih =>
    obtain ⟨pre, hp⟩ := ih hn gn st
    exact ⟨_ :: pre, .up (st (.more e q) e) hp⟩
/-- what is on g's way is on f's -/
theorem FG.ups {f g : Fn} (F : FG f g) {a b : Int} {ns : List Int} (h : GP g a ns) (hb : b ∈ ns) : b = a ∨ Up f a b := by
  induction h with
  | top _ => exact .inl (List.mem_singleton.mp hb)
  | up e _ ih =>
    rcases List.mem_cons.mp hb with rfl | hb
    · exact .inl rfl
    · rcases ih hb with rfl | u
      · exact .inr (.one (F.sub e))
      · exact .inr (.more (F.sub e) u)
theorem app_last {xs ys : List Int} {a b : Int} (h : xs ++ [a] = ys ++ [b]) : a = b ∧ xs = ys := by
  have := List.append_inj' h rfl
  exact ⟨by simpa using this.2, this.1⟩
/-- the ways after n leads on -/
theorem gp_on {g : Fn} {n f0 : Int} (hn : g n = none) {a : Int} {ns ms : List Int} (h : GP g a ns) (hm : GP (setF g n (some f0)) f0 ms) : ∃ ks, GP (setF g n (some f0)) a ks := by
  induction h with
  | @top a e =>
    by_cases q : a = n
    · rw [q]
      exact ⟨_, .up setF_at hm⟩
    · exact ⟨_, .top (by rw [setF_ne q]; exact e)⟩
  | @up a m ns e _ ih =>
    obtain ⟨ks, hk⟩ := ih
    have q : a ≠ n := fun q => by rw [q, hn] at e; cases e
    exact ⟨_, .up (by rw [setF_ne q]; exact e) hk⟩
theorem FG.put {f g : Fn} (F : FG f g) {n f0 r : Int} {pre : List Int} (hn : f n = none) (h : GP g f0 (pre ++ [r])) (hr : r ≠ n) : FG (setF f n (some f0)) (setF g n (some f0)) := by
  have gn : g n = none := by
    rcases F.ch n with ⟨_, e⟩ | ⟨_, e⟩
    · exact e
    · rw [e, hn]
  have nin : n ∉ pre ++ [r] := fun hm => by
    obtain ⟨p1, p2, e1, e2⟩ := h.rest hm
    have e3 := e2.one (.top gn)
    rw [e3] at e1
    exact hr (app_last e1).1
  have nu : ¬Up f f0 n := fun u => by
    obtain ⟨p, hp⟩ := F.lead u hn
    exact hr (app_last (h.one hp)).1
  have nf : f0 ≠ n := fun e => by
    obtain ⟨t, e2⟩ := h.ne
    exact nin (by rw [e2, e]; exact List.mem_cons_self)
  have nr : ¬Up (setF f n (some f0)) n n := fun u => by
    have go : Up (setF f n (some f0)) f0 n := by
      cases u with
      | one e =>
        rw [setF_at] at e
        exact absurd (Option.some.inj e) nf
      | more e q =>
        rw [setF_at] at e
        cases e
        exact q
    rcases go.thru with q | q | q
    · exact nu q
    · exact nf q
    · exact nu q
  have same : ∀ m z, Up (setF f n (some f0)) m m → Up (setF f n (some f0)) m z → Up f m z := fun m z r u => by
    rcases u.thru with q | q | q
    · exact q
    · exact absurd (q ▸ r) nr
    · have q := q.mono (x := some f0) hn
      exact absurd ((r.back q).trans q) nr
  refine ⟨fun m => ?_, fun m => ?_⟩
  · by_cases q : m = n
    · rw [q, setF_at, setF_at]
      exact .inr ⟨fun c => nr c.1, rfl⟩
    · rw [setF_ne q, setF_ne q]
      have iff : Cut (setF f n (some f0)) m ↔ Cut f m := ⟨fun c => ⟨same _ _ c.1 c.1, fun z u => c.2 z (u.mono hn)⟩, fun c => ⟨c.1.mono hn, fun z u => c.2 z (same _ _ (c.1.mono hn) u)⟩⟩
      rw [iff]
      exact F.ch m
  · obtain ⟨ns, hns⟩ := F.pt m
    refine gp_on gn hns (ms := pre ++ [r]) ?_
    have go : ∀ {a : Int} {xs : List Int}, GP g a xs → n ∉ xs → GP (setF g n (some f0)) a xs := by
      intro a xs h
      induction h with
      | @top a e => exact fun q => .top (by rw [setF_ne (fun z => q (by rw [z]; simp))]; exact e)
      | @up a m ns e _ ih => exact fun q => .up (by rw [setF_ne (fun z => q (by rw [z]; simp))]; exact e) (ih fun z => q (List.mem_cons_of_mem _ z))
    exact go h nin
theorem FG.cut {f g : Fn} (F : FG f g) {n f0 c : Int} {pre : List Int} (hn : f n = none) (h : GP g f0 (pre ++ [n])) (hc : c ∈ pre ++ [n]) (hm : ∀ z ∈ pre ++ [n], z ≤ c) :
    FG (setF f n (some f0)) (setF (setF g n (some f0)) c none) := by
  have gn : g n = none := by
    rcases F.ch n with ⟨_, e⟩ | ⟨_, e⟩
    · exact e
    · rw [e, hn]
  have up0 : ∀ z ∈ pre ++ [n], Up (setF f n (some f0)) n z := fun z hz => by
    rcases F.ups h hz with q | q
    · rw [q]; exact .one setF_at
    · exact .more setF_at (q.mono hn)
  have rn : Up (setF f n (some f0)) n n := up0 n (by simp)
  -- what n leads to stands on the ring
  have on : ∀ a z, a ∈ pre ++ [n] → Up (setF f n (some f0)) a z → z ∈ pre ++ [n] := by
    intro a z ha u
    have step : ∀ a k, a ∈ pre ++ [n] → setF f n (some f0) a = some k → k ∈ pre ++ [n] := fun a k ha e => by
      by_cases q : a = n
      · rw [q, setF_at] at e
        cases e
        obtain ⟨t, e2⟩ := h.ne
        rw [e2]; exact List.mem_cons_self
      · rw [setF_ne q] at e
        obtain ⟨p1, p2, e1, e2⟩ := h.rest ha
        cases e2 with
        | top e3 => exact absurd (app_last e1).1.symm q
        | up e3 q3 =>
          have e4 := F.sub e3
          rw [e] at e4
          cases e4
          obtain ⟨t, e5⟩ := q3.ne
          rw [e1, e5]
          simp
    induction u with
    | one e => exact step _ _ ha e
    | more e _ ih => exact ih (step _ _ ha e)
  have back : ∀ a ∈ pre ++ [n], Up (setF f n (some f0)) a n := fun a ha => rn.back (up0 a ha)
  have rng : ∀ a ∈ pre ++ [n], ∀ z, Up (setF f n (some f0)) a z ↔ z ∈ pre ++ [n] := fun a ha z => ⟨on a z ha, fun hz => (back a ha).trans (up0 z hz)⟩
  have cutc : Cut (setF f n (some f0)) c := ⟨(rng c hc c).mpr hc, fun m u => hm m ((rng c hc m).mp u)⟩
  have off : ∀ m, m ∉ pre ++ [n] → ∀ z, Up (setF f n (some f0)) m m → Up (setF f n (some f0)) m z → Up f m z := fun m hmn z r u => by
    rcases u.thru with q | q | q
    · exact q
    · exact absurd (by rw [q]; simp) hmn
    · exact absurd (on n m (by simp) (r.back (q.mono hn))) hmn
  refine ⟨fun m => ?_, fun m => ?_⟩
  · by_cases qc : m = c
    · rw [qc, setF_at]
      exact .inl ⟨cutc, rfl⟩
    · rw [setF_ne qc]
      by_cases hmr : m ∈ pre ++ [n]
      · refine .inr ⟨fun d => qc ?_, ?_⟩
        · have h1 := d.2 c ((rng m hmr c).mpr hc)
          have h2 := hm m hmr
          exact Int.le_antisymm h2 h1
        · by_cases q : m = n
          · rw [q, setF_at, setF_at]
          · rw [setF_ne q, setF_ne q]
            obtain ⟨p1, p2, e1, e2⟩ := h.rest hmr
            cases e2 with
            | top e3 => exact absurd (app_last e1).1.symm q
            | up e3 _ => rw [e3, F.sub e3]
      · have q : m ≠ n := fun q => hmr (by rw [q]; simp)
        rw [setF_ne q, setF_ne q]
        have iff : Cut (setF f n (some f0)) m ↔ Cut f m := ⟨fun c => ⟨off m hmr _ c.1 c.1, fun z u => c.2 z (u.mono hn)⟩, fun c => ⟨c.1.mono hn, fun z u => c.2 z (off m hmr _ (c.1.mono hn) u)⟩⟩
        rw [iff]
        exact F.ch m
  · -- the ways
    have gc : setF (setF g n (some f0)) c none c = none := setF_at
    have toC : ∀ {a : Int} {xs : List Int}, GP g a xs → c ∈ xs → ∃ ks, GP (setF (setF g n (some f0)) c none) a ks := by
      intro a xs h
      induction h with
      | @top a e =>
        intro hin
        have : a = c := (List.mem_singleton.mp hin).symm
        rw [this]
        exact ⟨_, .top gc⟩
      | @up a m ns e _ ih =>
        intro hin
        by_cases qa : a = c
        · rw [qa]; exact ⟨_, .top gc⟩
        · rcases List.mem_cons.mp hin with z | z
          · exact absurd z.symm qa
          · obtain ⟨ks, hk⟩ := ih z
            have q : a ≠ n := fun q => by rw [q, gn] at e; cases e
            exact ⟨_, .up (by rw [setF_ne qa, setF_ne q]; exact e) hk⟩
    obtain ⟨k0, hk0⟩ := toC h hc
    have all : ∀ {a : Int} {xs : List Int}, GP g a xs → ∃ ks, GP (setF (setF g n (some f0)) c none) a ks := by
      intro a xs h
      induction h with
      | @top a e =>
        by_cases qa : a = c
        · rw [qa]; exact ⟨_, .top gc⟩
        · by_cases q : a = n
          · exact ⟨_, .up (by rw [setF_ne qa, q, setF_at]) hk0⟩
          · exact ⟨_, .top (by rw [setF_ne qa, setF_ne q]; exact e)⟩
      | @up a m ns e _ ih =>
        obtain ⟨ks, hk⟩ := ih
        by_cases qa : a = c
        · rw [qa]; exact ⟨_, .top gc⟩
        · have q : a ≠ n := fun q => by rw [q, gn] at e; cases e
          exact ⟨_, .up (by rw [setF_ne qa, setF_ne q]; exact e) hk⟩
    obtain ⟨ns, hns⟩ := F.pt m
    exact all hns
end K75
end T_M5

section T_M7
set_option Elab.async false
set_option linter.all false
set_option maxRecDepth 100000
set_option maxHeartbeats 4000000
namespace K75
open PySem PySem.Spec PyProof.Rows L2 TL
/-! ### trees walked from their roots: what was met, what waits -/
structure DI (g : Fn) (ks vs st : List Int) : Prop where
  nd : (vs ++ st).Nodup
  ins : ∀ x ∈ vs ++ st, x ∈ ks
  par : ∀ x ∈ vs ++ st, g x = none ∨ ∃ p ∈ vs, g x = some p
  kid : ∀ v ∈ vs, ∀ x ∈ ks, g x = some v → x ∈ vs ++ st
  top : ∀ x ∈ ks, g x = none → x ∈ vs ++ st
theorem DI.start {g : Fn} {ks rs : List Int} (nd : rs.Nodup) (h : ∀ x, x ∈ rs ↔ x ∈ ks ∧ g x = none) : DI g ks [] rs.reverse :=
  ⟨by rw [List.nil_append]; exact (List.reverse_perm _).nodup_iff.mpr nd, fun x hx => ((h x).mp (by simpa using hx)).1, fun x hx => .inl ((h x).mp (by simpa using hx)).2, fun v hv => (by cases hv), fun x hx e => by simpa using (h x).mpr ⟨hx, e⟩⟩
theorem DI.step {g : Fn} {ks vs st cs : List Int} {s : Int} (d : DI g ks vs (st ++ [s])) (nd : cs.Nodup) (h : ∀ x, x ∈ cs ↔ x ∈ ks ∧ g x = some s) (hs : g s ≠ some s) : DI g ks (vs ++ [s]) (st ++ cs.reverse) := by
  have n1 := List.nodup_append.mp d.nd
  have n2 := List.nodup_append.mp n1.2.1
  have nsv : s ∉ vs := fun z => n1.2.2 s z s (by simp) rfl
  have nst : s ∉ st := fun z => n2.2.2 s z s (by simp) rfl
  have old : ∀ c, g c = some s → c ∉ vs ++ (st ++ [s]) := fun c e hm => by
    rcases d.par c hm with z | ⟨p, hp, z⟩
    · rw [z] at e; cases e
    · rw [e] at z
      cases z
      exact nsv hp
  have up : ∀ x, x ∈ vs ++ (st ++ [s]) → x ∈ vs ++ [s] ++ (st ++ cs.reverse) := fun x hx => by
    simp only [List.mem_append, List.mem_singleton] at hx ⊢
    rcases hx with h | h | h
    · exact .inl (.inl h)
    · exact .inr (.inl h)
    · exact .inl (.inr h)
  refine ⟨?_, fun x hx => ?_, fun x hx => ?_, fun v hv x hx e => ?_, fun x hx e => up x (d.top x hx e)⟩
  · rw [List.nodup_append]
    refine ⟨List.nodup_append.mpr ⟨n1.1, by simp, fun a ha b hb e => nsv (by rw [List.mem_singleton.mp hb] at e; rw [← e]; exact ha)⟩, List.nodup_append.mpr ⟨n2.1, (List.reverse_perm _).nodup_iff.mpr nd, fun a ha b hb e => ?_⟩, fun a ha b hb e => ?_⟩
    · have hb := ((h b).mp (List.mem_reverse.mp hb)).2
      exact old b hb (by rw [← e]; simp [ha])
    · rw [List.mem_append, List.mem_singleton] at ha
      rw [List.mem_append, List.mem_reverse] at hb
      rcases hb with hb | hb
      · rcases ha with ha | ha
        · exact n1.2.2 a ha b (List.mem_append_left _ hb) e
        · exact nst (by rw [← ha, e]; exact hb)
      · have hb := ((h b).mp hb).2
        rcases ha with ha | ha
        · exact old b hb (by rw [← e]; simp [ha])
        · rw [← e, ha] at hb
          exact hs hb
  · simp only [List.mem_append, List.mem_singleton, List.mem_reverse] at hx
    rcases hx with (hx | hx) | hx | hx
    · exact d.ins x (by simp [hx])
    · exact d.ins x (by simp [hx])
    · exact d.ins x (by simp [hx])
    · exact ((h x).mp hx).1
  · simp only [List.mem_append, List.mem_singleton, List.mem_reverse] at hx
    have lift : (g x = none ∨ ∃ p ∈ vs, g x = some p) → (g x = none ∨ ∃ p ∈ vs ++ [s], g x = some p) := fun z => z.imp id fun ⟨p, hp, e⟩ => ⟨p, List.mem_append_left _ hp, e⟩
    rcases hx with (hx | hx) | hx | hx
    · exact lift (d.par x (by simp [hx]))
    · exact lift (d.par x (by simp [hx]))
    · exact lift (d.par x (by simp [hx]))
    · exact .inr ⟨s, by simp, ((h x).mp hx).2⟩
  · rcases List.mem_append.mp hv with hv | hv
    · exact up x (d.kid v hv x hx e)
    · rw [List.mem_singleton.mp hv] at e
      have := (h x).mpr ⟨hx, e⟩
      simp [this]
theorem DI.done {g : Fn} {ks vs : List Int} (d : DI g ks vs []) (cl : ∀ n m, n ∈ ks → g n = some m → m ∈ ks) (pt : ∀ n, ∃ ns, GP g n ns) : ∀ x, x ∈ ks → x ∈ vs := by
  have key : ∀ {n : Int} {ns : List Int}, GP g n ns → n ∈ ks → n ∈ vs := by
    intro n ns h
    induction h with
    | top e => intro hn; simpa using d.top _ hn e
    | up e _ ih => intro hn; simpa using d.kid _ (ih (cl _ _ hn e)) _ hn e
  intro x hx
  obtain ⟨ns, h⟩ := pt x
  exact key h hx
end K75
end T_M7

section T_M8
set_option Elab.async false
set_option linter.all false
set_option maxRecDepth 100000
set_option maxHeartbeats 4000000
namespace K75
open PySem PySem.Spec PyProof.Rows L2 TL
/-! ### names of threads, one join after another -/
/-- x is the least of its part -/
def Least (E : Edges) (ks : Int → Prop) (x : Int) : Prop := ks x ∧ ∀ y, Conn E x y → x ≤ y
theorem PT.names {gk : List (Int × Addr)} {gi : Addr → GI} {E : Edges} (nk : (gk.map (·.1)).Nodup) (p : PT gk gi E) (x : Int) : (∃ q ∈ gk, (gi q.2).lw = x) ↔ Least E (fun y => y ∈ gk.map (·.1)) x := by
  constructor
  · rintro ⟨q, hq, e⟩
    obtain ⟨l1, l2⟩ := p.low q hq
    have h1 := (p.mem q hq _).mp l1
    rw [e] at h1
    refine ⟨List.mem_map.mpr ⟨_, h1, rfl⟩, fun y c => ?_⟩
    rw [← e]
    exact l2 y ((p.mem q hq y).mpr (p.reach nk h1 c))
  · rintro ⟨hx, hl⟩
    obtain ⟨q, hq, e⟩ := List.mem_map.mp hx
    obtain ⟨l1, l2⟩ := p.low q hq
    have h1 := (p.mem q hq _).mp l1
    have hq1 : (x, q.2) ∈ gk := by rw [← e]; exact hq
    have a := hl _ (p.conn x _ q.2 hq1 h1)
    have b := l2 x ((p.mem q hq x).mpr hq1)
    exact ⟨q, hq, Int.le_antisymm b a⟩
theorem Conn.alone {gk : List (Int × Addr)} {gi : Addr → GI} {E : Edges} (nk : (gk.map (·.1)).Nodup) (p : PT gk gi E) {x y : Int} (c : Conn E x y) (h : x ∉ gk.map (·.1)) : y = x := by
  induction c with
  | refl => rfl
  | step _ e ih =>
    rw [ih] at e
    rcases e with e | e
    · obtain ⟨g, h1, _⟩ := p.edge _ e
      exact absurd (List.mem_map.mpr ⟨_, h1, rfl⟩) h
    · obtain ⟨g, _, h1⟩ := p.edge _ e
      exact absurd (List.mem_map.mpr ⟨_, h1, rfl⟩) h
/-- edges from n to each of ts: n's new part is all parts of n and of ts -/
theorem conn_new {E : Edges} {n : Int} {ts : List Int} {x y : Int} (c : Conn (E ++ ts.map fun a => (n, a)) x y) : Conn E x y ∨ ∃ t ∈ n :: ts, ∃ u ∈ n :: ts, Conn E x u ∧ Conn E t y := by
  induction c with
  | refl => exact .inl (.refl _)
  | @step m k _ e ih =>
    have old : ((m, k) ∈ E ∨ (k, m) ∈ E) → (Conn E x k ∨ ∃ t ∈ n :: ts, ∃ u ∈ n :: ts, Conn E x u ∧ Conn E t k) := fun e => by
      rcases ih with h | ⟨t, ht, u, hu, h1, h2⟩
      · exact .inl (.step h e)
      · exact .inr ⟨t, ht, u, hu, h1, .step h2 e⟩
    have new : m ∈ n :: ts → k ∈ n :: ts → (Conn E x k ∨ ∃ t ∈ n :: ts, ∃ u ∈ n :: ts, Conn E x u ∧ Conn E t k) := fun hm hk => by
      rcases ih with h | ⟨t, ht, u, hu, h1, h2⟩
      · exact .inr ⟨k, hk, m, hm, h, .refl _⟩
      · exact .inr ⟨k, hk, u, hu, h1, .refl _⟩
    have sp : ∀ a b, (a, b) ∈ E ++ (ts.map fun a => (n, a)) → (a, b) ∈ E ∨ (a = n ∧ b ∈ ts) := fun a b h => by
      rcases List.mem_append.mp h with h | h
      · exact .inl h
      · obtain ⟨t, ht, e⟩ := List.mem_map.mp h
        cases e
        exact .inr ⟨rfl, ht⟩
    rcases e with e | e
    · rcases sp _ _ e with e | ⟨e1, e2⟩
      · exact old (.inl e)
      · exact new (by rw [e1]; exact List.mem_cons_self) (List.mem_cons_of_mem _ e2)
    · rcases sp _ _ e with e | ⟨e1, e2⟩
      · exact old (.inr e)
      · exact new (List.mem_cons_of_mem _ e2) (by rw [e1]; exact List.mem_cons_self)
theorem conn_star {E : Edges} {n : Int} {ts : List Int} {t : Int} (h : t ∈ n :: ts) : Conn (E ++ ts.map fun a => (n, a)) n t := by
  rcases List.mem_cons.mp h with rfl | h
  · exact .refl _
  · exact .step (.refl _) (.inl (List.mem_append_right _ (List.mem_map.mpr ⟨t, h, rfl⟩)))
/-- the names behind a join -/
theorem names_step {gk : List (Int × Addr)} {gi : Addr → GI} {E : Edges} (nk : (gk.map (·.1)).Nodup) (p : PT gk gi E) {n m : Int} {ts xs : List Int} {ks' : Int → Prop}
    (hk : ∀ y, ks' y ↔ y ∈ gk.map (·.1) ∨ y ∈ n :: ts)
    (hx : ∀ x, x ∈ xs ↔ ∃ t g, t ∈ n :: ts ∧ atK gk t = some g ∧ (gi g).lw = x)
    (h1 : m ∈ xs ∨ (m ∈ n :: ts ∧ atK gk m = none)) (h2 : ∀ y, y ∈ xs ∨ (y ∈ n :: ts ∧ atK gk y = none) → m ≤ y) (x : Int) :
    Least (E ++ ts.map fun a => (n, a)) ks' x ↔ (Least E (fun y => y ∈ gk.map (·.1)) x ∧ x ∉ xs) ∨ x = m := by
  have sub : ∀ {a b : Int}, Conn E a b → Conn (E ++ ts.map fun a => (n, a)) a b := fun c => c.mono fun e he => List.mem_append_left _ he
  have key : ∀ {t : Int}, t ∈ gk.map (·.1) → ∃ g, (t, g) ∈ gk ∧ atK gk t = some g := fun {t} h => by
    obtain ⟨q, hq, e⟩ := List.mem_map.mp h
    exact ⟨q.2, by rw [← e]; exact hq, (atK_some nk).mpr (by rw [← e]; exact hq)⟩
  have xsc : ∀ {x : Int}, x ∈ xs → ∃ t ∈ n :: ts, Conn E t x ∧ x ∈ gk.map (·.1) := fun {x} h => by
    obtain ⟨t, g, ht, hg, e⟩ := (hx x).mp h
    have hg := (atK_some nk).mp hg
    have h3 := (p.mem _ hg _).mp (p.low _ hg).1
    rw [e] at h3
    exact ⟨t, ht, p.conn t x g hg h3, List.mem_map.mpr ⟨_, h3, rfl⟩⟩
  -- m is the least of n's new part
  have mn : Conn (E ++ ts.map fun a => (n, a)) n m := by
    rcases h1 with h | ⟨h, _⟩
    · obtain ⟨t, ht, c, _⟩ := xsc h
      exact (conn_star ht).trans (sub c)
    · exact conn_star h
  have part : ∀ {y : Int}, Conn (E ++ ts.map fun a => (n, a)) n y → ∃ t ∈ n :: ts, Conn E t y := fun {y} c => by
    rcases conn_new c with c | ⟨t, ht, _, _, _, c⟩
    · exact ⟨n, List.mem_cons_self, c⟩
    · exact ⟨t, ht, c⟩
  have ml : ∀ {y : Int}, Conn (E ++ ts.map fun a => (n, a)) n y → m ≤ y := fun {y} c => by
    obtain ⟨t, ht, c⟩ := part c
    by_cases hin : t ∈ gk.map (·.1)
    · obtain ⟨g, hg, e⟩ := key hin
      have a := h2 _ (.inl ((hx _).mpr ⟨t, g, ht, e, rfl⟩))
      have b := (p.low _ hg).2 y ((p.mem _ hg y).mpr (p.reach nk hg c))
      exact Int.le_trans a b
    · rw [c.alone nk p hin]
      exact h2 t (.inr ⟨ht, atK_none.mpr hin⟩)
  have mk : ks' m := (hk m).mpr (by
    rcases h1 with h | ⟨h, _⟩
    · obtain ⟨_, _, _, h⟩ := xsc h
      exact .inl h
    · exact .inr h)
  have off : ∀ {x y : Int}, ¬Conn (E ++ ts.map fun a => (n, a)) n x → Conn (E ++ ts.map fun a => (n, a)) x y → Conn E x y := fun {x y} h c => by
    rcases conn_new c with c | ⟨_, _, u, hu, c, _⟩
    · exact c
    · exact absurd ((conn_star hu).trans (sub c.symm)) h
  constructor
  · rintro ⟨hkx, hl⟩
    by_cases c : Conn (E ++ ts.map fun a => (n, a)) n x
    · exact .inr (Int.le_antisymm (hl m (c.symm.trans mn)) (ml c))
    · refine .inl ⟨⟨?_, fun y d => hl y (sub d)⟩, fun hxs => ?_⟩
      · rcases (hk x).mp hkx with h | h
        · exact h
        · exact absurd (conn_star h) c
      · obtain ⟨t, ht, d, _⟩ := xsc hxs
        exact c ((conn_star ht).trans (sub d))
  · rintro (⟨⟨hkx, hl⟩, hxs⟩ | rfl)
    · have c : ¬Conn (E ++ ts.map fun a => (n, a)) n x := fun c => by
        obtain ⟨t, ht, d⟩ := part c
        by_cases hin : t ∈ gk.map (·.1)
        · obtain ⟨g, hg, e⟩ := key hin
          have hxg := p.reach nk hg d
          have lo := p.low _ hg
          have a := hl _ (p.conn x _ g hxg ((p.mem _ hg _).mp lo.1))
          have b := lo.2 x ((p.mem _ hg x).mpr hxg)
          exact hxs ((hx x).mpr ⟨t, g, ht, e, Int.le_antisymm b a⟩)
        · have := d.alone nk p hin
          rw [← this] at hin
          exact hin hkx
      exact ⟨(hk x).mpr (.inl hkx), fun y d => hl y (off c d)⟩
    · exact ⟨mk, fun y d => ml (mn.trans d)⟩
/-- the new name was none that stays -/
theorem names_new {gk : List (Int × Addr)} {n m : Int} {E : Edges} {ts xs : List Int} (h1 : m ∈ xs ∨ (m ∈ n :: ts ∧ atK gk m = none)) : ¬(Least E (fun y => y ∈ gk.map (·.1)) m ∧ m ∉ xs) := fun ⟨a, b⟩ => by
  rcases h1 with h | ⟨_, h⟩
  · exact b h
  · exact atK_none.mp h a.1
theorem least_same {E E2 : Edges} {ks ks2 : Int → Prop} (h1 : ∀ e ∈ E, e ∈ E2) (h2 : ∀ e ∈ E2, e ∈ E) (hk : ∀ y, ks y ↔ ks2 y) (x : Int) : Least E ks x ↔ Least E2 ks2 x :=
  ⟨fun h => ⟨(hk x).mp h.1, fun y c => h.2 y (c.mono h2)⟩, fun h => ⟨(hk x).mpr h.1, fun y c => h.2 y (c.mono h1)⟩⟩
/-- two lists in order with the same members are one -/
theorem sorted_one {xs ys : List Int} (hx : xs.Pairwise (· < ·)) (hy : ys.Pairwise (· < ·)) (h : ∀ z, z ∈ xs ↔ z ∈ ys) : xs = ys := by
  induction xs generalizing ys with
  | nil =>
    cases ys with
    | nil => rfl
    | cons y r => exact absurd ((h y).mpr List.mem_cons_self) (by simp)
  | cons x r ih =>
    cases ys with
    | nil => exact absurd ((h x).mp List.mem_cons_self) (by simp)
    | cons y s =>
      have px := List.pairwise_cons.mp hx
      have py := List.pairwise_cons.mp hy
      have e : x = y := by
        rcases List.mem_cons.mp ((h x).mp List.mem_cons_self) with e | e
        · exact e
        · rcases List.mem_cons.mp ((h y).mpr List.mem_cons_self) with e2 | e2
          · exact e2.symm
          · have a := py.1 x e
            have b := px.1 y e2
            omega
      subst e
      rw [ih px.2 py.2 fun z => ⟨fun hz => ?_, fun hz => ?_⟩]
      · rcases List.mem_cons.mp ((h z).mp (List.mem_cons_of_mem _ hz)) with e | e
        · have := px.1 z hz
          omega
        · exact e
      · rcases List.mem_cons.mp ((h z).mpr (List.mem_cons_of_mem _ hz)) with e | e
        · have := py.1 z hz
          omega
        · exact e
end K75
end T_M8

section T_D6
set_option Elab.async false
set_option linter.all false
set_option maxRecDepth 100000
set_option maxHeartbeats 4000000
namespace K75
open PySem PySem.Spec PyProof.Rows L2 TL
/-! ### the forest's numbers and the mathematics -/
def gOf (ab : Abv) : Fn := fun n => (atO ab n).join
theorem gOf_at {ab : Abv} (nd : (ab.map (·.1)).Nodup) {n : Int} {x : Option Int} (h : (n, x) ∈ ab) : gOf ab n = x := by
  unfold gOf
  rw [(atO_some nd).mpr h]
  rfl
theorem gOf_no {ab : Abv} {n : Int} (h : n ∉ ab.map (·.1)) : gOf ab n = none := by
  unfold gOf
  rw [atO_none.mpr h]
  rfl
theorem gOf_in {ab : Abv} (nd : (ab.map (·.1)).Nodup) {n m : Int} (h : gOf ab n = some m) : (n, some m) ∈ ab := by
  by_cases hn : n ∈ ab.map (·.1)
  · obtain ⟨⟨k, x⟩, hq, e⟩ := List.mem_map.mp hn
    have hq : (n, x) ∈ ab := by rw [← e]; exact hq
    rw [gOf_at nd hq] at h
    rw [← h]
    exact hq
  · rw [gOf_no hn] at h
    cases h
theorem gOf_key {ab : Abv} (nd : (ab.map (·.1)).Nodup) {n : Int} (hn : n ∈ ab.map (·.1)) : (n, gOf ab n) ∈ ab := by
  obtain ⟨⟨k, x⟩, hq, e⟩ := List.mem_map.mp hn
  have hq : (n, x) ∈ ab := by rw [← e]; exact hq
  rw [gOf_at nd hq]
  exact hq
theorem GP.path {ab : Abv} (nd : (ab.map (·.1)).Nodup) (cl : ∀ n m, (n, some m) ∈ ab → m ∈ ab.map (·.1)) {n : Int} {ns : List Int} (h : GP (gOf ab) n ns) (hn : n ∈ ab.map (·.1)) : IsPath ab n ns ∧ ∀ z ∈ ns, z ∈ ab.map (·.1) := by
  induction h with
  | top e =>
    have := gOf_key nd hn
    rw [e] at this
    exact ⟨.top this, fun z hz => by rw [List.mem_singleton.mp hz]; exact hn⟩
  | up e _ ih =>
    have := gOf_key nd hn
    rw [e] at this
    obtain ⟨i1, i2⟩ := ih (cl _ _ this)
    exact ⟨.up this i1, fun z hz => by
      rcases List.mem_cons.mp hz with rfl | hz
      · exact hn
      · exact i2 z hz⟩
/-- another number stands at c -/
def abSet (ab : Abv) (c : Int) (x : Option Int) : Abv := ab.map fun q => if q.1 = c then (c, x) else q
theorem abSet_keys (ab : Abv) (c : Int) (x : Option Int) : (abSet ab c x).map (·.1) = ab.map (·.1) := by
  unfold abSet
  rw [List.map_map]
  refine List.map_congr_left fun q _ => ?_
  show (if q.1 = c then (c, x) else q).1 = q.1
  split
  · rename_i h
    exact h.symm
  · rfl
theorem abSet_len (ab : Abv) (c : Int) (x : Option Int) : (abSet ab c x).length = ab.length := List.length_map _
theorem abSet_mem {ab : Abv} {c n : Int} {x y : Option Int} : (n, y) ∈ abSet ab c x ↔ (n = c ∧ y = x ∧ c ∈ ab.map (·.1)) ∨ (n ≠ c ∧ (n, y) ∈ ab) := by
  unfold abSet
  rw [List.mem_map]
  constructor
  · rintro ⟨q, hq, e⟩
    by_cases h : q.1 = c
    · rw [if_pos h] at e
      cases e
      exact .inl ⟨rfl, rfl, List.mem_map.mpr ⟨q, hq, h⟩⟩
    · rw [if_neg h] at e
      rw [e] at h hq
      exact .inr ⟨h, hq⟩
  · rintro (⟨rfl, rfl, h⟩ | ⟨h, hq⟩)
    · obtain ⟨q, hq, e⟩ := List.mem_map.mp h
      exact ⟨q, hq, if_pos e⟩
    · exact ⟨_, hq, if_neg h⟩
theorem abSet_g {ab : Abv} (nd : (ab.map (·.1)).Nodup) {c : Int} {x : Option Int} (hc : c ∈ ab.map (·.1)) : gOf (abSet ab c x) = setF (gOf ab) c x := by
  have nd2 : ((abSet ab c x).map (·.1)).Nodup := by rw [abSet_keys]; exact nd
  refine funext fun n => ?_
  by_cases hn : n = c
  · rw [hn, setF_at]
    exact gOf_at nd2 (abSet_mem.mpr (.inl ⟨rfl, rfl, hc⟩))
  · rw [setF_ne hn]
    by_cases hk : n ∈ ab.map (·.1)
    · exact gOf_at nd2 (abSet_mem.mpr (.inr ⟨hn, gOf_key nd hk⟩))
    · rw [gOf_no hk]
      exact gOf_no (by rw [abSet_keys]; exact hk)
theorem dka_set {ab : Abv} {c : Int} {x : Option Int} (hc : c ∈ ab.map (·.1)) : putK (dka ab) (Sum.inl c) (oV x) = dka (abSet ab c x) := by
  unfold putK
  rw [if_pos]
  · unfold dka abSet
    rw [List.map_map, List.map_map]
    refine List.map_congr_left fun q _ => ?_
    show (if (Sum.inl q.1 : Key) = Sum.inl c then ((Sum.inl q.1 : Key), oV x) else (Sum.inl q.1, oV q.2)) = (Sum.inl (if q.1 = c then (c, x) else q).1, oV (if q.1 = c then (c, x) else q).2)
    by_cases h : q.1 = c
    · rw [if_pos (by rw [h]), if_pos h, h]
    · rw [if_neg (by intro z; injection z with z; exact h z), if_neg h]
  · rw [List.any_eq_true]
    obtain ⟨q, hq, e⟩ := List.mem_map.mp hc
    exact ⟨(Sum.inl q.1, oV q.2), List.mem_map.mpr ⟨q, hq, rfl⟩, decide_eq_true (by show (Sum.inl q.1 : Key) = _; rw [e])⟩
/-- what holds of the forest between two letters -/
structure FM (f : Fn) (ab : Abv) (bl : List (Int × Addr)) (bi : Addr → List Int) : Prop where
  fg : FG f (gOf ab)
  fk : ∀ n, n ∉ ab.map (·.1) → f n = none
  cl : ∀ n m, (n, some m) ∈ ab → m ∈ ab.map (·.1)
  bel : ∀ q ∈ bl, (bi q.2).Nodup ∧ ∀ n, n ∈ bi q.2 ↔ (n, some q.1) ∈ ab
/-! ### what changes in the heap -/
section
variable {K : PySem.W.Frag} {G H : Hp} {p : Addr} {lk : List (Int × Addr)} {ab : Abv} {bl : List (Int × Addr)} {bi : Addr → List Int} {rk : List (Key × V)} {dx d1 d2 d3 d4 : Addr}
theorem FS.ne2 (t : FS K G H p lk ab bl bi rk dx d1 d2 d3 d4) : d1 ≠ d2 ∧ d1 ≠ d3 ∧ d1 ≠ d4 ∧ d2 ≠ d3 ∧ d2 ≠ d4 ∧ d3 ≠ d4 := by
  have := t.dd
  simp at this
  exact ⟨this.1.1, this.1.2.1, this.1.2.2, this.2.1.1, this.2.1.2, this.2.2⟩
theorem FS.setA (t : FS K G H p lk ab bl bi rk dx d1 d2 d3 d4) (c : Int) (x : Option Int) : FS K G (upd H d2 (.dK (dka (abSet ab c x)))) p lk (abSet ab c x) bl bi rk dx d1 d2 d3 d4 := by
  obtain ⟨n12, n13, n14, n23, n24, n34⟩ := t.ne2
  refine ⟨same_mut t.same t.g2, t.gp, t.g1, t.g2, t.g3, t.g4, t.dd, (upd_ne (ne_of t.ins t.h2 (by intro z; cases z))).trans t.ins, (upd_ne n12).trans t.h1, upd_same, (upd_ne n23.symm).trans t.h3, (upd_ne n24.symm).trans t.h4, t.nl, by rw [abSet_keys]; exact t.na, by rw [abSet_keys]; exact t.ks, fun q hq => ?_, t.inj⟩
  have h := (t.low q hq).1
  exact ⟨(upd_ne (ne_of h t.h2 (by intro z; cases z))).trans h, (t.low q hq).2⟩
theorem FS.setR (t : FS K G H p lk ab bl bi rk dx d1 d2 d3 d4) (rk' : List (Key × V)) : FS K G (upd H d4 (.dK rk')) p lk ab bl bi rk' dx d1 d2 d3 d4 := by
  obtain ⟨n12, n13, n14, n23, n24, n34⟩ := t.ne2
  refine ⟨same_mut t.same t.g4, t.gp, t.g1, t.g2, t.g3, t.g4, t.dd, (upd_ne (ne_of t.ins t.h4 (by intro z; cases z))).trans t.ins, (upd_ne n14).trans t.h1, (upd_ne n24).trans t.h2, (upd_ne n34).trans t.h3, upd_same, t.nl, t.na, t.ks, fun q hq => ?_, t.inj⟩
  have h := (t.low q hq).1
  exact ⟨(upd_ne (ne_of h t.h4 (by intro z; cases z))).trans h, (t.low q hq).2⟩
theorem inj_at {bl : List (Int × Addr)} (h : (bl.map (·.2)).Nodup) {q r : Int × Addr} (hq : q ∈ bl) (hr : r ∈ bl) (e : q.2 = r.2) : q = r := by
  induction bl with
  | nil => cases hq
  | cons z l ih =>
    have h2 := List.nodup_cons.mp h
    rcases List.mem_cons.mp hq with rfl | hq2 <;> rcases List.mem_cons.mp hr with rfl | hr2
    · rfl
    · exact (h2.1 (List.mem_map.mpr ⟨r, hr2, e.symm⟩)).elim
    · exact (h2.1 (List.mem_map.mpr ⟨q, hq2, e⟩)).elim
    · exact ih h2.2 hq2 hr2
theorem FS.setB (t : FS K G H p lk ab bl bi rk dx d1 d2 d3 d4) {q0 : Int × Addr} (hq0 : q0 ∈ bl) (xs : List Int) : FS K G (upd H q0.2 (.lst (xs.map V.int))) p lk ab bl (fun a => if a = q0.2 then xs else bi a) rk dx d1 d2 d3 d4 := by
  have h0 := (t.low q0 hq0).1
  refine ⟨same_mut t.same (t.low q0 hq0).2, t.gp, t.g1, t.g2, t.g3, t.g4, t.dd, (upd_ne (ne_of t.ins h0 (by intro z; cases z))).trans t.ins, (upd_ne (ne_of t.h1 h0 (by intro z; cases z))).trans t.h1, (upd_ne (ne_of t.h2 h0 (by intro z; cases z))).trans t.h2, (upd_ne (ne_of t.h3 h0 (by intro z; cases z))).trans t.h3, (upd_ne (ne_of t.h4 h0 (by intro z; cases z))).trans t.h4, t.nl, t.na, t.ks, fun q hq => ?_, t.inj⟩
  show upd H q0.2 (.lst (xs.map V.int)) q.2 = some (.lst ((if q.2 = q0.2 then xs else bi q.2).map V.int)) ∧ _
  by_cases h : q.2 = q0.2
  · rw [if_pos h, h, upd_same]
    exact ⟨rfl, (t.low q0 hq0).2⟩
  · rw [if_neg h, upd_ne h]
    exact t.low q hq
end
theorem w_enumT {K : PySem.W.Frag} {a : Addr} {xs : List V} : Walks (TupE.Iet K a) xs.length (fun H => SqT K H a xs) (fun i v H H' => ∃ T x, v = .ref T ∧ H T = none ∧ H' = upd H T (.tup [.int (i : Nat), x]) ∧ xs[i]? = some x) :=
  ⟨fun i H q hi => ⟨xs, xs[i], q, by simp [hi]⟩, fun i H q hi => ⟨xs, q, hi⟩, fun i H x H' q hi y => by
    obtain ⟨T, z, e, h, e2, y⟩ := y
    exact ⟨T, z, e, h, e2, y xs q⟩⟩
theorem slA_any {K : PySem.W.Frag} {H : Hp} {a : Addr} {xs : List V} {lo hi : Option Int} {Q : VK} (h : SqT K H a xs) (q : ∀ y H' ys, Same H H' → SqT K H' y ys → ys.length ≤ xs.length → Q (.ref y) H') : rSlA K (.ref a) lo hi H Q :=
  ⟨a, xs, rfl, h, fun _ => q a H xs (Same.refl _) h (Nat.le_refl _), fun _ p np => q p _ _ (same_new np) (sqT upd_same) (cutV_length xs lo hi)⟩
theorem catA_any {K : PySem.W.Frag} {H : Hp} {a b : Addr} {xs ys : List V} {Q : VK} (ha : SqT K H a xs) (hb : SqT K H b ys) (hz : xs.length + ys.length ≤ sizeLine) (q : ∀ y H', Same H H' → Q (.ref y) H') : rCatA K (.ref a) (.ref b) H Q :=
  ⟨a, b, xs, ys, rfl, rfl, ha, hb, hz, fun _ => q b H (Same.refl _), fun _ _ => q a H (Same.refl _), fun _ _ p np => q p _ (same_new np)⟩
def sp_Forest_cut (K : PySem.W.Frag) : Sp := fun vs H Q _ => ∃ (G : Hp) (p : Addr) (lk : List (Int × Addr)) (ab : Abv) (bl : List (Int × Addr)) (bi : Addr → List Int) (rk : List (Key × V)) (dx d1 d2 d3 d4 r : Addr) (rs : List Int) (c m : Int) (b : Addr), vs = [.ref p, .ref r] ∧ FS K G H p lk ab bl bi rk dx d1 d2 d3 d4 ∧ H r = some (.tup (rs.map V.int)) ∧ rs.length ≤ 900 ∧ c ∈ rs ∧ (∀ z ∈ rs, z ≤ c) ∧ (c, some m) ∈ ab ∧ (m, b) ∈ bl ∧ c ∈ bi b ∧ rk.length ≤ 900 ∧ ab.length ≤ 900 ∧
  ∀ H' rk', FS K G H' p lk (abSet ab c none) bl (fun a => if a = b then (bi b).erase c else bi a) rk' dx d1 d2 d3 d4 → rk'.length ≤ rk.length + 1 → Q .non H'
section
variable {P : Program} {w : World} {K : PySem.W.Frag} {mg : PySem.Str → Option Value} {base : Heap}
abbrev sc_Forest_cut_N : List PySem.Str := ["self", "ring", "greatest", "at", "place", "number"]
theorem sc_Forest_cut : FnScope sc_Forest_cut_N ["self", "ring"] (defScope s_Forest_cut) := ⟨rfl, rfl, rfl, by decide +kernel, rfl, by decide +kernel, by decide +kernel⟩
theorem ok_Forest_cut (W : Wd K mg) : Ok P w K mg base 1 d_Forest_cut ["self", "ring"] (sp_Forest_cut K) := by
  refine ok_mk W.d_Forest_cut sc_Forest_cut (fun _ _ _ _ _ _ us hl => match us, hl with | [_, _], _ => rfl) (fun vs H Q E h => ?_) (fun cdv A outer s H vs Q E hr h => ?_)
  · obtain ⟨G, p, lk, ab, bl, bi, rk, dx, d1, d2, d3, d4, r, rs, c, m, b, rfl, _⟩ := h
    rfl
  · obtain ⟨G, p, lk, ab, bl, bi, rk, dx, d1, d2, d3, d4, r, rs, c, m, b, rfl, t, hr0, h9, hc, hmx, hcm, hmb, hcb, hrk, hab, q⟩ := h
    have hu := hu_of hr
    have nd := sc_Forest_cut.nd
    refine ⟨_, (pss_cons (ps_set (i := 2) nd rfl (Or.inr rfl) (pe_callB (TupE.cr_maxT rfl) rfl W.f_max (by decide +kernel) (pa_cons (pv 1) pa_nil)))
    (pss_cons (ps_set (i := 3) nd rfl (Or.inl rfl) (pe_ix (kix_list K) (pe_lc (own := [("place", 4), ("number", 5)]) rfl nd (TupE.pi_enumT rfl W.f_enumerate (pa_cons (pv 1) pa_nil)) (blkOk_by (N := sc_Forest_cut_N) (sc := defScope s_Forest_cut) (by decide +kernel)) (fun _ _ _ _ _ => (kpg_tup K (n := 2) rfl (pgs_cons (pg_name (i := 4) nd rfl (Or.inl rfl)) (pgs_cons (pg_name (i := 5) nd rfl (Or.inl rfl)) pgs_nil)))) (fun _ _ _ _ _ => (pts_one (pt_cmpR op_eq (pv 5) (pv 2) (nomark _)))) (fun _ _ _ _ _ => (pv 4))) pe_int (fun _ _ => rfl)))
    (pss_cons (ps_dput hu (kfld K (pv 0) rfl) (pv 2) (pe_op (kcatA K) (pe_slice (ksl_tupA K) (pv 1) (po_some (pv 3)) po_none) (pe_slice (ksl_tupA K) (pv 1) po_none (po_some (pv 3)))) rfl)
    (pss_cons (ps_expr (pe_remX rfl takes0 (pe_dget hu (kfld K (pv 0) rfl) (pe_dget hu (kfld K (pv 0) rfl) (pv 2) (fun _ _ => rfl)) (fun _ _ => rfl)) (pv 2)))
    (pss_one (ps_dput hu (kfld K (pv 0) rfl) (pv 2) pe_non rfl)))))), ?_⟩
    refine ⟨_, rfl, r, rs, rfl, sqT hr0, List.length_pos_of_mem hc, fun c2 hc2 hm2 => ?_⟩
    have ec : c2 = c := Int.le_antisymm (hmx c2 hc2) (hm2 c hc)
    subst ec
    refine ⟨_, rfl, r, _, rfl, sqT hr0, fun D nD => ?_⟩
    refine lc_walk (w_enumT (xs := rs.map V.int)) (fun i H' => Same H H' ∧ ∃ js : List Int, H' D = some (.lst (js.map V.int)) ∧ js.length ≤ i ∧ (js = [] → ∀ k, k < i → rs[k]? ≠ some c2)) ⟨same_new nD, [], upd_same, Nat.le_refl _, fun _ k hk => absurd hk (Nat.not_lt_zero _)⟩ (fun i H' _ h => sqT (h.1 _ _ hr0)) ?_ ?_
    · rintro i v H3 H4 hi ⟨T, x, rfl, hT, rfl, hx⟩ ⟨s3, js, hD, hjl, hjs⟩
      rw [List.length_map] at hi
      rw [List.getElem?_map, List.getElem?_eq_getElem hi] at hx
      cases hx
      have hDT : D ≠ T := fun e => by rw [e, hT] at hD; cases hD
      have hD4 : upd H3 T (.tup [.int (i : Nat), .int rs[i]]) D = some (.lst (js.map V.int)) := (upd_ne hDT).trans hD
      have s4 : Same H (upd H3 T (.tup [.int (i : Nat), .int rs[i]])) := s3.trans (same_new hT)
      refine ⟨T, _, rfl, sqT upd_same, rfl, _, _, rfl, _, _, rfl, rfl, rfl, _, rfl, _, rfl, rfl, _, rfl, ?_⟩
      by_cases e : rs[i] = c2
      · rw [decide_eq_true (by rw [e])]
        refine iteT ⟨_, rfl, _, hD4, sz_lt (by rw [List.length_map]; omega), same_mut s4 nD, js ++ [(i : Int)], ?_, by rw [List.length_append]; exact Nat.succ_le_succ hjl, fun z => by simp at z⟩
        rw [upd_same, List.map_append]
        rfl
      · rw [decide_eq_false (by intro z; injection z with z; exact e z)]
        refine iteF ⟨s4, js, hD4, Nat.le_succ_of_le hjl, fun z k hk => ?_⟩
        rcases Nat.lt_or_ge k i with h | h
        · exact hjs z k h
        · have : k = i := by omega
          rw [this, List.getElem?_eq_getElem hi]
          exact fun z => e (Option.some.inj z)
    rintro H3 ⟨s3, js, hD, hjl, hjs⟩
    rw [List.length_map] at hjs
    have hjn : js ≠ [] := fun e => by
      obtain ⟨k, hk, e2⟩ := List.getElem_of_mem hc
      exact hjs e k hk (by rw [List.getElem?_eq_getElem hk, e2])
    obtain ⟨j, jr, rfl⟩ : ∃ j jr, js = j :: jr := by
      cases js with
      | nil => exact absurd rfl hjn
      | cons j jr => exact ⟨j, jr, rfl⟩
    have t3 := t.mono s3
    have hr3 := s3 _ _ hr0
    refine ⟨D, _, 0, .int j, rfl, rfl, sqL hD, atI_nat (j := 0) rfl, ?_⟩
    refine ⟨_, rfl, _, rfl, _, rfl, ?_⟩
    unfold tNoPart
    refine slA_any (sqT hr3) fun y1 H4 ys1 s4 hy1 l1 => ?_
    refine ⟨_, rfl, ?_⟩
    refine ⟨_, rfl, _, rfl, ?_⟩
    refine slA_any (sqT (s4 _ _ hr3)) fun y2 H5 ys2 s5 hy2 l2 => ?_
    rw [List.length_map] at l1 l2
    refine catA_any (Same.seqT s5 hy1) hy2 (sz_le (by omega)) fun z H6 s6 => ?_
    have t6 := t3.mono ((s4.trans s5).trans s6)
    obtain ⟨n12, n13, n14, n23, n24, n34⟩ := t.ne2
    refine ⟨_, rfl, p, _, dx, _, .ref d4, rfl, t6.ins, W.c_Forest, W.n_Forest_rings, (by kernel_rfl), _, rfl, d4, _, rfl, DPut.k (k := Sum.inl c2) t6.h4 (sz_lt (by omega)), ?_⟩
    have t7 := t6.setR (putK rk (Sum.inl c2) (.ref z))
    generalize upd H6 d4 (.dK (putK rk (Sum.inl c2) (.ref z))) = H7 at t7 ⊢
    have hck : c2 ∈ ab.map (·.1) := List.mem_map.mpr ⟨_, hcm, rfl⟩
    have ga : DGet H7 d2 (.int c2) (some (.int m)) := by
      have := DGet.k (k := Sum.inl c2) t7.h2
      rw [valV_dka, (atO_some t.na).mpr hcm] at this
      exact this
    have gb : DGet H7 d3 (.int m) (some (.ref b)) := by
      have := DGet.k (k := Sum.inl m) t7.h3
      rw [valV_dki, (atK_some (by rw [t.ks]; exact t.na)).mpr hmb] at this
      exact this
    have hb := (t7.low _ hmb).1
    have hb : H7 b = some (.lst ((bi b).map V.int)) := hb
    refine ⟨_, rfl, p, _, dx, _, .ref d3, rfl, t7.ins, W.c_Forest, W.n_Forest_below, (by kernel_rfl), _, rfl, p, _, dx, _, .ref d2, rfl, t7.ins, W.c_Forest, W.n_Forest_above, (by kernel_rfl), _, rfl, d2, .int m, rfl, ga, d3, .ref b, rfl, gb, .inl ⟨rfl, _, sqL hb⟩, _, rfl, b, bi b, c2, rfl, rfl, hb, fun _ => ?_, fun h => absurd hcb h⟩
    have t8 := t7.setB hmb ((bi b).erase c2)
    have t8 : FS K G (upd H7 b (.lst (((bi b).erase c2).map V.int))) p lk ab bl (fun a => if a = b then (bi b).erase c2 else bi a) _ dx d1 d2 d3 d4 := t8
    generalize upd H7 b (.lst (((bi b).erase c2).map V.int)) = H8 at t8 ⊢
    refine ⟨_, rfl, p, _, dx, _, .ref d2, rfl, t8.ins, W.c_Forest, W.n_Forest_above, (by kernel_rfl), _, rfl, d2, _, rfl, DPut.k (k := Sum.inl c2) t8.h2 (sz_lt (by rw [dka_len]; omega)), ?_⟩
    have t9 := t8.setA c2 none
    rw [show putK (dka ab) (Sum.inl c2) .non = dka (abSet ab c2 none) from dka_set (x := none) hck]
    exact q _ _ t9 (length_putK _ _ _)
end
end K75
end T_D6

section T_D7
set_option Elab.async false
set_option linter.all false
set_option maxRecDepth 100000
set_option maxHeartbeats 4000000
namespace K75
open PySem PySem.Spec PyProof.Rows L2 TL
structure FR (ab : Abv) (bl : List (Int × Addr)) (bi : Addr → List Int) : Prop where
  cl : ∀ n m, (n, some m) ∈ ab → m ∈ ab.map (·.1)
  bel : ∀ q ∈ bl, (bi q.2).Nodup ∧ ∀ n, n ∈ bi q.2 ↔ (n, some q.1) ∈ ab
theorem FR.add {ab : Abv} {bl : List (Int × Addr)} {bi : Addr → List Int} (r : FR ab bl bi) (ks : bl.map (·.1) = ab.map (·.1)) {k : Int} {l : Addr} (hk : k ∉ ab.map (·.1)) (hl : ∀ q ∈ bl, q.2 ≠ l) :
    FR (ab ++ [(k, none)]) (bl ++ [(k, l)]) (fun a => if a = l then [] else bi a) := by
  refine ⟨fun n m h => ?_, fun q hq => ?_⟩
  · rw [List.map_append]
    rcases List.mem_append.mp h with h | h
    · exact List.mem_append_left _ (r.cl n m h)
    · have := List.mem_singleton.mp h
      cases this
  · show (if q.2 = l then ([] : List Int) else bi q.2).Nodup ∧ ∀ n, n ∈ (if q.2 = l then ([] : List Int) else bi q.2) ↔ _
    have sm : ∀ n m, (n, some m) ∈ ab ++ [(k, none)] ↔ (n, some m) ∈ ab := fun n m => by
      rw [List.mem_append, List.mem_singleton]
      exact ⟨fun h => h.elim id fun e => (by cases e), .inl⟩
    rcases List.mem_append.mp hq with hq | hq
    · rw [if_neg (hl q hq)]
      obtain ⟨h1, h2⟩ := r.bel q hq
      exact ⟨h1, fun n => by rw [sm]; exact h2 n⟩
    · have e := List.mem_singleton.mp hq
      rw [e, if_pos rfl]
      refine ⟨List.nodup_nil, fun n => ?_⟩
      rw [sm]
      exact ⟨fun z => (by cases z), fun z => (hk (r.cl n k z)).elim⟩
theorem FR.link {ab : Abv} {bl : List (Int × Addr)} {bi : Addr → List Int} (r : FR ab bl bi) (nd : (ab.map (·.1)).Nodup) (ks : bl.map (·.1) = ab.map (·.1)) (inj : (bl.map (·.2)).Nodup) {n f0 : Int} {b0 : Addr} (hn : (n, none) ∈ ab) (hf : f0 ∈ ab.map (·.1)) (hb : (f0, b0) ∈ bl) :
    FR (abSet ab n (some f0)) bl (fun a => if a = b0 then bi b0 ++ [n] else bi a) := by
  have nk : n ∈ ab.map (·.1) := List.mem_map.mpr ⟨_, hn, rfl⟩
  have no : ∀ m, (n, some m) ∉ ab := fun m h => by
    have a := gOf_at nd hn
    rw [gOf_at nd h] at a
    cases a
  refine ⟨fun x m h => ?_, fun q hq => ?_⟩
  · rw [abSet_keys]
    rcases abSet_mem.mp h with ⟨_, h, _⟩ | ⟨_, h⟩
    · cases h
      exact hf
    · exact r.cl x m h
  · show (if q.2 = b0 then bi b0 ++ [n] else bi q.2).Nodup ∧ ∀ x, x ∈ (if q.2 = b0 then bi b0 ++ [n] else bi q.2) ↔ _
    obtain ⟨h1, h2⟩ := r.bel q hq
    by_cases e : q.2 = b0
    · have eq : q = (f0, b0) := inj_at inj hq hb e
      subst eq
      have h1 : (bi b0).Nodup := h1
      have h2 : ∀ n, n ∈ bi b0 ↔ (n, some f0) ∈ ab := h2
      show (if b0 = b0 then bi b0 ++ [n] else bi b0).Nodup ∧ ∀ x, x ∈ (if b0 = b0 then bi b0 ++ [n] else bi b0) ↔ _
      rw [if_pos rfl]
      refine ⟨?_, fun x => ?_⟩
      · rw [List.nodup_append]
        exact ⟨h1, by simp, fun a ha b hb e => no f0 ((h2 n).mp (by rw [List.mem_singleton.mp hb] at e; rw [← e]; exact ha))⟩
      · rw [List.mem_append, List.mem_singleton, h2, abSet_mem]
        constructor
        · rintro (h | rfl)
          · exact .inr ⟨fun z => no f0 (z ▸ h), h⟩
          · exact .inl ⟨rfl, rfl, nk⟩
        · rintro (⟨h, _, _⟩ | ⟨_, h⟩)
          · exact .inr h
          · exact .inl h
    · rw [if_neg e]
      refine ⟨h1, fun x => ?_⟩
      rw [h2, abSet_mem]
      constructor
      · intro h
        exact .inr ⟨fun z => no q.1 (z ▸ h), h⟩
      · rintro (⟨_, h, _⟩ | ⟨_, h⟩)
        · injection h with h
          exact (e (key_one (n := f0) (by rw [ks]; exact nd) (by rw [← h]; exact hq) hb)).elim
        · exact h
theorem FR.unlink {ab : Abv} {bl : List (Int × Addr)} {bi : Addr → List Int} (r : FR ab bl bi) (nd : (ab.map (·.1)).Nodup) (ks : bl.map (·.1) = ab.map (·.1)) (inj : (bl.map (·.2)).Nodup) {c m : Int} {b : Addr} (hc : (c, some m) ∈ ab) (hb : (m, b) ∈ bl) :
    FR (abSet ab c none) bl (fun a => if a = b then (bi b).erase c else bi a) := by
  refine ⟨fun x m h => ?_, fun q hq => ?_⟩
  · rw [abSet_keys]
    rcases abSet_mem.mp h with ⟨_, h, _⟩ | ⟨_, h⟩
    · cases h
    · exact r.cl x m h
  · show (if q.2 = b then (bi b).erase c else bi q.2).Nodup ∧ ∀ x, x ∈ (if q.2 = b then (bi b).erase c else bi q.2) ↔ _
    obtain ⟨h1, h2⟩ := r.bel q hq
    have sm : ∀ x y, (x, some y) ∈ abSet ab c none ↔ x ≠ c ∧ (x, some y) ∈ ab := fun x y => by
      rw [abSet_mem]
      exact ⟨fun h => h.elim (fun z => by cases z.2.1) id, .inr⟩
    by_cases e : q.2 = b
    · have eq : q = (m, b) := inj_at inj hq hb e
      subst eq
      have h1 : (bi b).Nodup := h1
      have h2 : ∀ n, n ∈ bi b ↔ (n, some m) ∈ ab := h2
      show (if b = b then (bi b).erase c else bi b).Nodup ∧ ∀ x, x ∈ (if b = b then (bi b).erase c else bi b) ↔ _
      rw [if_pos rfl]
      exact ⟨h1.erase c, fun x => by rw [h1.mem_erase_iff, h2, sm]⟩
    · rw [if_neg e]
      refine ⟨h1, fun x => ?_⟩
      rw [h2, sm]
      refine ⟨fun h => ⟨fun z => ?_, h⟩, fun h => h.2⟩
      rw [z] at h
      have a := gOf_at nd h
      rw [gOf_at nd hc] at a
      injection a with a
      exact e (key_one (n := m) (by rw [ks]; exact nd) (by rw [a]; exact hq) hb)
theorem gOf_add {ab : Abv} {k : Int} (nd : (ab.map (·.1)).Nodup) (hk : k ∉ ab.map (·.1)) : gOf (ab ++ [(k, none)]) = gOf ab := by
  have nd2 : ((ab ++ [(k, (none : Option Int))]).map (·.1)).Nodup := by
    rw [List.map_append, List.nodup_append]
    exact ⟨nd, by simp, fun a ha b hb e => hk (by have e2 : a = k := e.trans (List.mem_singleton.mp hb); rw [← e2]; exact ha)⟩
  refine funext fun n => ?_
  by_cases hn : n ∈ ab.map (·.1)
  · exact gOf_at nd2 (List.mem_append_left _ (gOf_key nd hn))
  · rw [gOf_no hn]
    by_cases e : n = k
    · exact gOf_at nd2 (List.mem_append_right _ (by rw [e]; exact List.mem_singleton.mpr rfl))
    · refine gOf_no fun h => ?_
      rw [List.map_append, List.mem_append] at h
      rcases h with h | h
      · exact hn h
      · exact e (List.mem_singleton.mp h)
section
variable {K : PySem.W.Frag} {G H : Hp} {p : Addr} {lk : List (Int × Addr)} {ab : Abv} {bl : List (Int × Addr)} {bi : Addr → List Int} {rk : List (Key × V)} {dx d1 d2 d3 d4 : Addr}
theorem FS.setL (t : FS K G H p lk ab bl bi rk dx d1 d2 d3 d4) {n : Int} {a : Addr} (hn : n ∉ lk.map (·.1)) : FS K G (upd H d1 (.dK (dki (lk ++ [(n, a)])))) p (lk ++ [(n, a)]) ab bl bi rk dx d1 d2 d3 d4 := by
  obtain ⟨n12, n13, n14, n23, n24, n34⟩ := t.ne2
  refine ⟨same_mut t.same t.g1, t.gp, t.g1, t.g2, t.g3, t.g4, t.dd, (upd_ne (ne_of t.ins t.h1 (by intro z; cases z))).trans t.ins, upd_same, (upd_ne n12.symm).trans t.h2, (upd_ne n13.symm).trans t.h3, (upd_ne n14.symm).trans t.h4, ?_, t.na, t.ks, fun q hq => ?_, t.inj⟩
  · rw [List.map_append, List.nodup_append]
    exact ⟨t.nl, by simp, fun u hu v hv e => hn (by have e2 : u = n := e.trans (List.mem_singleton.mp hv); rw [← e2]; exact hu)⟩
  · have h := (t.low q hq).1
    exact ⟨(upd_ne (ne_of h t.h1 (by intro z; cases z))).trans h, (t.low q hq).2⟩
theorem FS.add (t : FS K G H p lk ab bl bi rk dx d1 d2 d3 d4) {k : Int} {l : Addr} (hk : k ∉ ab.map (·.1)) (hl : upd H d2 (.dK (dka (ab ++ [(k, none)]))) l = none) :
    FS K G (upd (upd (upd H d2 (.dK (dka (ab ++ [(k, none)])))) l (.lst [])) d3 (.dK (dki (bl ++ [(k, l)])))) p lk (ab ++ [(k, none)]) (bl ++ [(k, l)]) (fun a => if a = l then [] else bi a) rk dx d1 d2 d3 d4 ∧ ∀ q ∈ bl, q.2 ≠ l := by
  obtain ⟨n12, n13, n14, n23, n24, n34⟩ := t.ne2
  have l2 : l ≠ d2 := fun e => by rw [e, upd_same] at hl; cases hl
  have hl0 : H l = none := by rw [upd_ne l2] at hl; exact hl
  have off : ∀ {b : Addr} {o : HO}, b ≠ d2 → b ≠ d3 → H b = some o → upd (upd (upd H d2 (.dK (dka (ab ++ [(k, none)])))) l (.lst [])) d3 (.dK (dki (bl ++ [(k, l)]))) b = some o := fun {b o} h2 h3 h => by
    rw [upd_ne h3, upd_ne (fun e => by rw [e, hl0] at h; cases h), upd_ne h2]
    exact h
  have l3 : l ≠ d3 := fun e => by rw [e, t.h3] at hl0; cases hl0
  have ql : ∀ q ∈ bl, q.2 ≠ l := fun q hq e => by
    have := (t.low q hq).1
    rw [e, hl0] at this
    cases this
  refine ⟨⟨?_, t.gp, t.g1, t.g2, t.g3, t.g4, t.dd, off (ne_of t.ins t.h2 (by intro z; cases z)) (ne_of t.ins t.h3 (by intro z; cases z)) t.ins, off n12 n13 t.h1, ?_, upd_same, off n24.symm n34.symm t.h4, t.nl, ?_, ?_, fun q hq => ?_, ?_⟩, ql⟩
  · intro b o hb
    exact off (fun e => by rw [e, t.g2] at hb; cases hb) (fun e => by rw [e, t.g3] at hb; cases hb) (t.same _ _ hb)
  · rw [upd_ne n23, upd_ne l2.symm, upd_same]
  · rw [List.map_append, List.nodup_append]
    exact ⟨t.na, by simp, fun a ha b hb e => hk (by have e2 : a = k := e.trans (List.mem_singleton.mp hb); rw [← e2]; exact ha)⟩
  · rw [List.map_append, List.map_append, t.ks]
    rfl
  · show _ = some (HO.lst ((if q.2 = l then ([] : List Int) else bi q.2).map V.int)) ∧ _
    rcases List.mem_append.mp hq with hq | hq
    · rw [if_neg (ql q hq)]
      have h := (t.low q hq).1
      exact ⟨off (ne_of h t.h2 (by intro z; cases z)) (ne_of h t.h3 (by intro z; cases z)) h, (t.low q hq).2⟩
    · rw [List.mem_singleton.mp hq, if_pos rfl]
      exact ⟨by rw [upd_ne l3, upd_same]; rfl, t.same.free hl0⟩
  · rw [List.map_append, List.nodup_append]
    exact ⟨t.inj, by simp, fun a ha b hb e => by
      obtain ⟨q, hq, e2⟩ := List.mem_map.mp ha
      exact ql q hq (by rw [e2, e]; exact List.mem_singleton.mp hb)⟩
end
section
variable {K : PySem.W.Frag} {G H H2 : Hp} {p : Addr} {lk : List (Int × Addr)} {ab : Abv} {bl : List (Int × Addr)} {bi : Addr → List Int} {rk : List (Key × V)} {dx d1 d2 d3 d4 : Addr}
/-- a new object that is to stay -/
theorem FS.know (t : FS K G H p lk ab bl bi rk dx d1 d2 d3 d4) {l : Addr} {o : HO} (n : H l = none) (s : Same H H2) (h : H2 l = some o) : FS K (upd G l o) H2 p lk ab bl bi rk dx d1 d2 d3 d4 := by
  have t2 := t.mono s
  have off : ∀ {b : Addr} {u : HO}, H b = some u → G b = none → upd G l o b = none := fun {b u} hb g => by
    rw [upd_ne (fun e => by rw [e, n] at hb; cases hb)]
    exact g
  refine ⟨fun b u hb => ?_, off t.ins t.gp, off t.h1 t.g1, off t.h2 t.g2, off t.h3 t.g3, off t.h4 t.g4, t.dd, t2.ins, t2.h1, t2.h2, t2.h3, t2.h4, t.nl, t.na, t.ks, fun q hq => ⟨(t2.low q hq).1, off (t.low q hq).1 (t.low q hq).2⟩, t.inj⟩
  by_cases e : b = l
  · subst e
    rw [upd_same] at hb
    rw [h]
    exact hb
  · rw [upd_ne e] at hb
    exact t2.same _ _ hb
theorem FS.less {G2 : Hp} (t : FS K G H p lk ab bl bi rk dx d1 d2 d3 d4) (s : Same G2 G) : FS K G2 H p lk ab bl bi rk dx d1 d2 d3 d4 :=
  ⟨s.trans t.same, s.free t.gp, s.free t.g1, s.free t.g2, s.free t.g3, s.free t.g4, t.dd, t.ins, t.h1, t.h2, t.h3, t.h4, t.nl, t.na, t.ks, fun q hq => ⟨(t.low q hq).1, s.free (t.low q hq).2⟩, t.inj⟩
end
/-- the ring that a letter closes, by the mathematics -/
theorem ring_of {f : Fn} {ab : Abv} (nd : (ab.map (·.1)).Nodup) (fg : FG f (gOf ab)) (cl : ∀ n m, (n, some m) ∈ ab → m ∈ ab.map (·.1)) (h9 : ab.length ≤ 900) (L : Lt) (hna : L.n ∉ L.ans) :
    ∃ r, RingOf L ab r ∧ ((r = [] ∧ (L.ans = [] ∨ ∃ f0 rest pre e, L.ans = f0 :: rest ∧ GP (gOf ab) f0 (pre ++ [e]) ∧ e ≠ L.n)) ∨ ∃ f0 rest pre, L.ans = f0 :: rest ∧ GP (gOf ab) f0 (pre ++ [L.n]) ∧ r = pre ++ [L.n] ∧ r.length ≤ 900 ∧ ∀ z ∈ r, z ∈ ab.map (·.1)) := by
  cases ha : L.ans with
  | nil => exact ⟨[], .inl ⟨.inl ha, rfl⟩, .inl ⟨rfl, .inl rfl⟩⟩
  | cons f0 rest =>
    obtain ⟨ns, hns⟩ := fg.pt f0
    obtain ⟨pre, e, rfl, he, hpre⟩ := hns.last
    have nf : f0 ≠ L.n := fun z => hna (by rw [ha, z]; exact List.mem_cons_self)
    by_cases hf : f0 ∈ ab.map (·.1)
    · obtain ⟨hp, hk⟩ := hns.path nd cl hf
      have hlen : (pre ++ [e]).length ≤ 900 := by
        have := nodup_sub hns.nodup hk
        rw [List.length_map] at this
        exact Nat.le_trans this h9
      by_cases q : e = L.n
      · subst q
        have hin : L.n ∈ ab.map (·.1) := hk _ (by simp)
        exact ⟨pre ++ [L.n], .inr ⟨f0, rest, _, ha, hin, .inr hp, hlen, .inl ⟨by simp, rfl⟩⟩, .inr ⟨f0, rest, pre, rfl, hns, rfl, hlen, hk⟩⟩
      · by_cases hin : L.n ∈ ab.map (·.1)
        · exact ⟨[], .inr ⟨f0, rest, _, ha, hin, .inr hp, hlen, .inr ⟨by simpa using q, rfl⟩⟩, .inl ⟨rfl, .inr ⟨f0, rest, pre, e, rfl, hns, q⟩⟩⟩
        · exact ⟨[], .inl ⟨.inr hin, rfl⟩, .inl ⟨rfl, .inr ⟨f0, rest, pre, e, rfl, hns, q⟩⟩⟩
    · have g0 := gOf_no hf
      have hh := hns.one (.top g0)
      obtain ⟨h1, h2⟩ := app_last (ys := []) hh
      subst h2
      have q : e ≠ L.n := by rw [h1]; exact nf
      by_cases hin : L.n ∈ ab.map (·.1)
      · exact ⟨[], .inr ⟨f0, rest, [], ha, hin, .inl ⟨hf, rfl⟩, by simp, .inr ⟨by simp, rfl⟩⟩, .inl ⟨rfl, .inr ⟨f0, rest, [], e, rfl, hns, q⟩⟩⟩
      · exact ⟨[], .inl ⟨.inr hin, rfl⟩, .inl ⟨rfl, .inr ⟨f0, rest, [], e, rfl, hns, q⟩⟩⟩
theorem max_of {xs : List Int} (h : xs ≠ []) : ∃ c ∈ xs, ∀ z ∈ xs, z ≤ c := by
  induction xs with
  | nil => exact absurd rfl h
  | cons x r ih =>
    by_cases e : r = []
    · exact ⟨x, List.mem_cons_self, fun z hz => by rw [e] at hz; rw [List.mem_singleton.mp hz]; exact Int.le_refl _⟩
    · obtain ⟨c, hc, hm⟩ := ih e
      by_cases q : x ≤ c
      · exact ⟨c, List.mem_cons_of_mem _ hc, fun z hz => by
          rcases List.mem_cons.mp hz with rfl | hz
          · exact q
          · exact hm z hz⟩
      · exact ⟨x, List.mem_cons_self, fun z hz => by
          rcases List.mem_cons.mp hz with rfl | hz
          · exact Int.le_refl _
          · have := hm z hz
            omega⟩
end K75
end T_D7

section T_D8
set_option Elab.async false
set_option linter.all false
set_option maxRecDepth 100000
set_option maxHeartbeats 4000000
namespace K75
open PySem PySem.Spec PyProof.Rows L2 TL
/-- the first answer of n in these letters -/
def newF (f : Fn) (L : Lt) : Fn := setF f L.n L.ans.head?
def sp_Forest_put (K : PySem.W.Frag) : Sp := fun vs H Q _ => ∃ (G : Hp) (p : Addr) (lk : List (Int × Addr)) (ab : Abv) (bl : List (Int × Addr)) (bi : Addr → List Int) (rk : List (Key × V)) (dx d1 d2 d3 d4 a : Addr) (L : Lt) (f : Fn), vs = [.ref p, .ref a] ∧ FS K G H p lk ab bl bi rk dx d1 d2 d3 d4 ∧ LetterAt K G a L ∧ L.n ∉ lk.map (·.1) ∧ L.n ∉ L.ans ∧ L.ans.length ≤ 8 ∧ FG f (gOf ab) ∧ FR ab bl bi ∧ f L.n = none ∧ ab.length ≤ 800 ∧ rk.length ≤ 800 ∧ lk.length ≤ 800 ∧
  ∀ H' ab' bl' bi' rk', FS K G H' p (lk ++ [(L.n, a)]) ab' bl' bi' rk' dx d1 d2 d3 d4 → FG (newF f L) (gOf ab') → FR ab' bl' bi' → (∀ m, m ∈ ab'.map (·.1) ↔ m ∈ ab.map (·.1) ∨ m = L.n ∨ m ∈ L.ans) → ab'.length ≤ ab.length + 9 → rk'.length ≤ rk.length + 1 → Q (.bl true) H'
section
variable {P : Program} {w : World} {K : PySem.W.Frag} {mg : PySem.Str → Option Value} {base : Heap}
abbrev sc_Forest_put_N : List PySem.Str := ["self", "letter", "number", "ring", "known"]
theorem sc_Forest_put : FnScope sc_Forest_put_N ["self", "letter"] (defScope s_Forest_put) := ⟨rfl, rfl, rfl, by decide +kernel, rfl, by decide +kernel, by decide +kernel⟩
theorem ok_Forest_put (W : Wd K mg) : Ok P w K mg base 4 d_Forest_put ["self", "letter"] (sp_Forest_put K) := by
  refine ok_mk W.d_Forest_put sc_Forest_put (fun _ _ _ _ _ _ us hl => match us, hl with | [_, _], _ => rfl) (fun vs H Q E h => ?_) (fun cdv A outer s H vs Q E hr h => ?_)
  · obtain ⟨G, p, lk, ab, bl, bi, rk, dx, d1, d2, d3, d4, a, L, f, rfl, _⟩ := h
    rfl
  · obtain ⟨G, p, lk, ab, bl, bi, rk, dx, d1, d2, d3, d4, a, L, f, rfl, t, hL, hn, hna, h8, fg, fr, hfn, hab, hrk, hlk, q⟩ := h
    have hu := hu_of hr
    have nd := sc_Forest_put.nd
    refine ⟨_, (pss_cons (ps_set (i := 2) nd rfl (Or.inl rfl) (kfld K (pv 1) rfl))
    (pss_cons (ps_if (pt_cmp (pc_din hu (pv 2) (kfld K (pv 0) rfl)))
      pss_never
      pss_nil)
    (pss_cons (ps_dput hu (kfld K (pv 0) rfl) (pv 2) (pv 1) rfl)
    (pss_cons (ps_set (i := 3) nd rfl (Or.inl rfl) (pe_o (pv 0) W.c_Forest (ok_Forest_closed_ring W) W.m_Forest_closed_ring (hr.mono (by decide)) (pa_cons (pv 1) pa_nil)))
    (pss_cons (ps_for PassesOwn.never rfl (pi_list (pe_lst (pa_cons (pv 2) (StX.pa_star (kfld K (pv 1) rfl) pa_nil)))) (pg_name (i := 4) nd rfl (Or.inl rfl))
      (pss_cons (ps_expr (pe_dsetd (kfld K (pv 0) rfl) (pv 4) pe_non ⟨rfl, rfl, rfl, rfl⟩))
      (pss_one (ps_expr (pe_dsetd (kfld K (pv 0) rfl) (pv 4) (pe_lst pa_nil) ⟨rfl, rfl, rfl, rfl⟩)))))
    (pss_cons (ps_if (ktruth K (kfld K (pv 1) rfl) (fun _ => rfl))
      (pss_cons (ps_dput hu (kfld K (pv 0) rfl) (pv 2) (pe_ix (kix_tup K) (kfld K (pv 1) rfl) pe_int (fun _ _ => rfl)) rfl)
      (pss_one (ps_expr (kbm K PySem.F.plainAttrs_list PySem.F.slot_list_append PySem.F.type_list_append mt_append (pe_dget hu (kfld K (pv 0) rfl) (pe_ix (kix_tup K) (kfld K (pv 1) rfl) pe_int (fun _ _ => rfl)) (fun _ _ => rfl)) (pa_cons (pv 2) pa_nil)))))
      pss_nil)
    (pss_cons (ps_if (ktruth K (pv 3) (fun _ => rfl))
      (pss_one (ps_expr (pe_o (pv 0) W.c_Forest (ok_Forest_cut W) W.m_Forest_cut (hr.mono (by decide)) (pa_cons (pv 3) pa_nil))))
      pss_nil)
    (pss_one (ps_ret pe_bl))))))))), ?_⟩
    have hLG := hL
    have fl : ∃ dl t1 t2 t3, G a = some (.ins (He.ga K "Letter") dl (lfs L t1 t2 t3)) ∧ G t1 = some (.tup (L.ans.map V.int)) := by
      obtain ⟨dl, t1, t2, t3, h1, h2, _⟩ := hL
      exact ⟨dl, t1, t2, t3, h1, h2⟩
    obtain ⟨dl, t1, t2, t3, ha, ht1⟩ := fl
    have ha0 := t.same _ _ ha
    refine ⟨_, rfl, a, _, dl, _, .int L.n, rfl, ha0, W.c_Letter, W.n_Letter_number, lf_number _ _ _ _, ?_⟩
    refine ⟨_, rfl, _, rfl, p, _, dx, _, .ref d1, rfl, t.ins, W.c_Forest, W.n_Forest_letters, (by kernel_rfl), d1, _, rfl, DGet.k (k := Sum.inl L.n) t.h1, _, rfl, ?_⟩
    rw [isSome_dki, decide_eq_false hn]
    refine iteF ⟨_, rfl, _, rfl, p, _, dx, _, .ref d1, rfl, t.ins, W.c_Forest, W.n_Forest_letters, (by kernel_rfl), _, rfl, d1, _, rfl, DPut.k (k := Sum.inl L.n) t.h1 (sz_lt (by rw [dki_len]; omega)), ?_⟩
    rw [dki_put hn]
    have tb := t.setL (a := a) hn
    generalize upd H d1 (.dK (dki (lk ++ [(L.n, a)]))) = H1 at tb ⊢
    obtain ⟨r, hring, hcase⟩ := ring_of t.na fg fr.cl (by omega) L hna
    refine ⟨_, rfl, p, dx, _, rfl, tb.ins, (by kernel_rfl), _, rfl, G, p, _, ab, bl, bi, rk, dx, d1, d2, d3, d4, a, L, r, rfl, tb, hLG.mono tb.same, hring, fun H2 tr s2 ntr htr => ?_⟩
    have t2 := tb.know ntr s2 htr
    have nG : G tr = none := tb.same.free ntr
    generalize eG : upd G tr _ = G2 at t2
    obtain ⟨sG, gtr⟩ := gen_upd nG eG
    have ha2 := t2.same _ _ (sG _ _ ha)
    refine ⟨_, rfl, _, rfl, a, _, dl, _, .ref t1, rfl, ha2, W.c_Letter, W.n_Letter_answers, lf_answers _ _ _ _, ?_⟩
    refine ⟨t1, _, rfl, .inl (sqT (t2.same _ _ (sG _ _ ht1))), ?_⟩
    refine ⟨by rw [List.append_nil, List.length_cons, List.length_map]; exact sz_le (by omega), fun l nl => ?_⟩
    rw [show V.int L.n :: (L.ans.map V.int ++ []) = (L.n :: L.ans).map V.int by rw [List.append_nil]; rfl]
    generalize hts : L.n :: L.ans = ts
    have hts9 : ts.length ≤ 9 := by rw [← hts]; simp; omega
    generalize e3 : upd H2 l _ = H3
    obtain ⟨s3, h3⟩ := gen_upd nl e3
    have t3' := t2.know nl s3 h3
    have nG2 : G2 l = none := t2.same.free nl
    generalize eG2 : upd G2 l _ = G3 at t3'
    obtain ⟨sG2, gl⟩ := gen_upd nG2 eG2
    have sG3 : Same G G3 := sG.trans sG2
    have gtr3 := sG2 _ _ gtr
    refine ⟨l, rfl, ⟨_, sqL h3⟩, ?_⟩
    refine for_walk (w_list (xs := ts.map V.int)) (fun i σ H' => (∃ v4, σ = [some (.ref p), some (.ref a), some (.int L.n), some (.ref tr), v4]) ∧ ∃ ab' bl' bi', FS K G3 H' p (lk ++ [(L.n, a)]) ab' bl' bi' rk dx d1 d2 d3 d4 ∧ gOf ab' = gOf ab ∧ FR ab' bl' bi' ∧ (∀ m, m ∈ ab'.map (·.1) ↔ m ∈ ab.map (·.1) ∨ m ∈ ts.take i) ∧ ab'.length ≤ ab.length + i) ?_ (fun i σ H' _ h => ?_) ?_ ?_
    · exact ⟨⟨_, rfl⟩, ab, bl, bi, t3', rfl, fr, fun m => by simp, Nat.le_refl _⟩
    · obtain ⟨_, ab', bl', bi', th, _⟩ := h
      exact sqL (th.same _ _ gl)
    · rintro i v σ Hz H4 hi ⟨rfl, hv⟩ ⟨⟨v4, rfl⟩, ab4, bl4, bi4, t4, g4, fr4, ks4, l4⟩
      rw [List.length_map] at hi
      rw [List.getElem?_map, List.getElem?_eq_getElem hi] at hv
      cases hv
      have tk : ts.take (i + 1) = ts.take i ++ [ts[i]] := by
        rw [List.take_add_one, List.getElem?_eq_getElem hi]
        rfl
      refine ⟨_, rfl, p, _, dx, _, .ref d2, rfl, t4.ins, W.c_Forest, W.n_Forest_above, (by kernel_rfl), d2, rfl, .inl ⟨_, .inl t4.h2⟩, _, rfl, _, Sum.inl ts[i], t4.h2, rfl, sz_lt (by rw [dka_len]; omega), fun v hv => ?_, fun hv => ?_⟩
      · -- known
        rw [valV_dka] at hv
        have hin : ts[i] ∈ ab4.map (·.1) := Decidable.byContradiction fun h => by
          rw [atO_none.mpr h] at hv
          cases hv
        refine ⟨_, rfl, p, _, dx, _, .ref d3, rfl, t4.ins, W.c_Forest, W.n_Forest_below, (by kernel_rfl), d3, rfl, .inl ⟨_, .inl t4.h3⟩, _, rfl, Nat.zero_le _, fun l2 nl2 => ?_⟩
        generalize e5 : upd H4 l2 _ = H5
        obtain ⟨s5, _⟩ := gen_upd nl2 e5
        have t5 := t4.mono s5
        refine ⟨_, Sum.inl ts[i], t5.h3, rfl, sz_lt (by rw [dki_len, ← List.length_map (f := fun q : Int × Addr => q.1), t5.ks, List.length_map]; omega), fun v hv => ?_, fun hv => ?_⟩
        · refine ⟨⟨_, rfl⟩, ab4, bl4, bi4, t5, g4, fr4, fun m => ?_, by omega⟩
          rw [ks4, tk, List.mem_append, List.mem_singleton]
          constructor
          · rintro (h | h)
            · exact .inl h
            · exact .inr (.inl h)
          · rintro (h | h | h)
            · exact .inl h
            · exact .inr h
            · rw [h]
              exact (ks4 _).mp hin
        · exfalso
          rw [valV_dki, Option.map_eq_none_iff, atK_none, t5.ks] at hv
          exact hv hin
      · -- new
        rw [valV_dka, Option.map_eq_none_iff, atO_none] at hv
        rw [show putK (dka ab4) (Sum.inl ts[i]) .non = dka (ab4 ++ [(ts[i], none)]) by
          rw [putK_new (by
            unfold dka
            rw [List.map_map]
            intro h
            obtain ⟨q, hq, e⟩ := List.mem_map.mp h
            injection e with e
            exact hv (List.mem_map.mpr ⟨q, hq, e⟩))]
          unfold dka
          rw [List.map_append]
          rfl]
        have i5 : upd H4 d2 (.dK (dka (ab4 ++ [(ts[i], none)]))) p = some (.ins (He.ga K "Forest") dx (ffs d1 d2 d3 d4)) := (upd_ne (ne_of t4.ins t4.h2 (by intro z; cases z))).trans t4.ins
        have j5 : upd H4 d2 (.dK (dka (ab4 ++ [(ts[i], none)]))) d3 = some (.dK (dki bl4)) := (upd_ne t4.ne2.2.2.2.1.symm).trans t4.h3
        refine ⟨_, rfl, p, _, dx, _, .ref d3, rfl, i5, W.c_Forest, W.n_Forest_below, (by kernel_rfl), d3, rfl, .inl ⟨_, .inl j5⟩, _, rfl, Nat.zero_le _, fun l2 nl2 => ?_⟩
        obtain ⟨t6, ql⟩ := t4.add hv nl2
        have fr6 := fr4.add t4.ks (k := ts[i]) (l := l2) hv ql
        have hk3 : ts[i] ∉ bl4.map (·.1) := by rw [t4.ks]; exact hv
        have j6 : upd (upd H4 d2 (.dK (dka (ab4 ++ [(ts[i], none)])))) l2 (.lst []) d3 = some (.dK (dki bl4)) := (upd_ne (fun e => by rw [← e, j5] at nl2; cases nl2)).trans j5
        refine ⟨_, Sum.inl ts[i], j6, rfl, sz_lt (by rw [dki_len, ← List.length_map (f := fun q : Int × Addr => q.1), t4.ks, List.length_map]; omega), fun v hv2 => ?_, fun _ => ?_⟩
        · exfalso
          rw [valV_dki, atK_none.mpr hk3] at hv2
          cases hv2
        · rw [dki_put hk3]
          refine ⟨⟨_, rfl⟩, _, _, _, t6, by rw [gOf_add t4.na hv, g4], fr6, fun m => ?_, by rw [List.length_append]; show ab4.length + 1 ≤ _; omega⟩
          rw [List.map_append, List.mem_append, ks4, tk, List.mem_append, or_assoc]
          rfl
    rintro σ H4 ⟨⟨v4, rfl⟩, ab4, bl4, bi4, t4, g4, fr4, ks4, l4⟩
    rw [List.length_map] at ks4 l4
    rw [List.take_length, ← hts] at ks4
    have ks5 : ∀ m, m ∈ ab4.map (·.1) ↔ m ∈ ab.map (·.1) ∨ m = L.n ∨ m ∈ L.ans := fun m => by rw [ks4, List.mem_cons]
    have ha4 := t4.same _ _ (sG3 _ _ ha)
    have ht4 := t4.same _ _ (sG3 _ _ ht1)
    have htr4 := t4.same _ _ gtr3
    have nk4 : (bl4.map (·.1)).Nodup := by rw [t4.ks]; exact t4.na
    have hLk : L.n ∈ ab4.map (·.1) := (ks5 _).mpr (.inr (.inl rfl))
    have gn : gOf ab L.n = none := by
      rcases fg.ch L.n with ⟨_, e⟩ | ⟨_, e⟩
      · exact e
      · rw [e, hfn]
    have hLn : (L.n, none) ∈ ab4 := by
      have := gOf_key t4.na hLk
      rw [g4, gn] at this
      exact this
    refine ⟨_, rfl, a, _, dl, _, .ref t1, rfl, ha4, W.c_Letter, W.n_Letter_answers, lf_answers _ _ _ _, _, .inr (.inl ⟨_, sqT ht4, rfl⟩), ?_⟩
    cases hans : L.ans with
    | nil =>
      have hr0 : r = [] := by
        rcases hcase with ⟨h, _⟩ | ⟨_, _, _, h, _⟩
        · exact h
        · rw [hans] at h; cases h
      subst hr0
      refine iteF ⟨_, rfl, false, .inr (.inl ⟨_, sqT htr4, rfl⟩), iteF (q H4 ab4 bl4 bi4 rk (t4.less sG3) ?_ fr4 ks5 (by omega) (Nat.le_succ _))⟩
      rw [g4]
      have : newF f L = f := funext fun m => by
        unfold newF
        rw [hans]
        by_cases e : m = L.n
        · rw [e]
          exact setF_at.trans hfn.symm
        · exact setF_ne e
      rw [this]
      exact fg
    | cons f0 rest =>
      have hf' : newF f L = setF f L.n (some f0) := by
        unfold newF
        rw [hans]
        rfl
      have ht5 : H4 t1 = some (.tup ((f0 :: rest).map V.int)) := by rw [← hans]; exact ht4
      have hfk : f0 ∈ ab4.map (·.1) := (ks5 _).mpr (.inr (.inr (by rw [hans]; exact List.mem_cons_self)))
      obtain ⟨⟨k0, b0⟩, hb0, e0⟩ := List.mem_map.mp (show f0 ∈ bl4.map (·.1) by rw [t4.ks]; exact hfk)
      have hb0 : (f0, b0) ∈ bl4 := by rw [← e0]; exact hb0
      refine iteT ⟨_, rfl, a, _, dl, _, .ref t1, rfl, ha4, W.c_Letter, W.n_Letter_answers, lf_answers _ _ _ _, t1, _, 0, .int f0, rfl, rfl, sqT ht5, atI_nat (j := 0) rfl, _, rfl, p, _, dx, _, .ref d2, rfl, t4.ins, W.c_Forest, W.n_Forest_above, (by kernel_rfl), _, rfl, d2, _, rfl, DPut.k (k := Sum.inl L.n) t4.h2 (sz_lt (by rw [dka_len]; omega)), ?_⟩
      rw [show putK (dka ab4) (Sum.inl L.n) (.int f0) = dka (abSet ab4 L.n (some f0)) from dka_set (x := some f0) hLk]
      have t6 := t4.setA L.n (some f0)
      generalize upd H4 d2 (.dK (dka (abSet ab4 L.n (some f0)))) = H6 at t6 ⊢
      have ha6 := t6.same _ _ (sG3 _ _ ha)
      have ht6 : H6 t1 = some (.tup ((f0 :: rest).map V.int)) := by rw [← hans]; exact t6.same _ _ (sG3 _ _ ht1)
      have gb : DGet H6 d3 (.int f0) (some (.ref b0)) := by
        have := DGet.k (k := Sum.inl f0) t6.h3
        rw [valV_dki, (atK_some nk4).mpr hb0] at this
        exact this
      have hb := (t6.low _ hb0).1
      have hb : H6 b0 = some (.lst ((bi4 b0).map V.int)) := hb
      have hbl : (bi4 b0).length ≤ 900 := by
        have := nodup_sub (ys := ab4.map (·.1)) (fr4.bel _ hb0).1 fun x hx => List.mem_map.mpr ⟨_, ((fr4.bel _ hb0).2 x).mp hx, rfl⟩
        rw [List.length_map] at this
        exact Nat.le_trans this (by omega)
      refine ⟨_, rfl, p, _, dx, _, .ref d3, rfl, t6.ins, W.c_Forest, W.n_Forest_below, (by kernel_rfl), _, rfl, a, _, dl, _, .ref t1, rfl, ha6, W.c_Letter, W.n_Letter_answers, lf_answers _ _ _ _, t1, _, 0, .int f0, rfl, rfl, sqT ht6, atI_nat (j := 0) rfl, d3, .ref b0, rfl, gb, .inl ⟨rfl, _, sqL hb⟩, _, rfl, b0, _, _, rfl, rfl, hb, sz_lt (by rw [List.length_map]; omega), ?_⟩
      rw [show (bi4 b0).map V.int ++ [V.int L.n] = (bi4 b0 ++ [L.n]).map V.int by rw [List.map_append]; rfl]
      have t7 := t6.setB hb0 (bi4 b0 ++ [L.n])
      have t7 : FS K G3 (upd H6 b0 (.lst ((bi4 b0 ++ [L.n]).map V.int))) p (lk ++ [(L.n, a)]) (abSet ab4 L.n (some f0)) bl4 (fun a => if a = b0 then bi4 b0 ++ [L.n] else bi4 a) rk dx d1 d2 d3 d4 := t7
      generalize upd H6 b0 (.lst ((bi4 b0 ++ [L.n]).map V.int)) = H7 at t7 ⊢
      have fr7 := fr4.link t4.na t4.ks t4.inj hLn hfk hb0
      have g7 : gOf (abSet ab4 L.n (some f0)) = setF (gOf ab) L.n (some f0) := by rw [abSet_g t4.na hLk, g4]
      have htr7 := t7.same _ _ gtr3
      have l7 : (abSet ab4 L.n (some f0)).length ≤ ab.length + 9 := by rw [abSet_len]; omega
      have ks7 : ∀ m, m ∈ (abSet ab4 L.n (some f0)).map (·.1) ↔ m ∈ ab.map (·.1) ∨ m = L.n ∨ m ∈ L.ans := fun m => by rw [abSet_keys, ks5]
      rcases hcase with ⟨hr0, hno⟩ | ⟨f1, rest1, pre, e1, hgp, hr0, hr9, hrk2⟩
      · subst hr0
        refine ⟨_, rfl, false, .inr (.inl ⟨_, sqT htr7, rfl⟩), iteF (q H7 _ _ _ rk (t7.less sG3) ?_ fr7 ks7 l7 (Nat.le_succ _))⟩
        rw [g7, hf']
        rcases hno with h | ⟨f1, rest1, pre, e, e1, hgp, hne⟩
        · rw [hans] at h; cases h
        · rw [hans] at e1
          cases e1
          exact fg.put hfn hgp hne
      · rw [hans] at e1
        cases e1
        have hrn : r ≠ [] := by rw [hr0]; simp
        obtain ⟨c, hc, hmx⟩ := max_of hrn
        have gc : ∃ m, (c, some m) ∈ abSet ab4 L.n (some f0) := by
          by_cases e : c = L.n
          · exact ⟨f0, abSet_mem.mpr (.inl ⟨e, rfl, hLk⟩)⟩
          · rw [hr0] at hc
            obtain ⟨pre2, e2, e3, _, hpre⟩ := hgp.last
            obtain ⟨h1, h2⟩ := app_last e3
            rcases List.mem_append.mp hc with h | h
            · have := hpre c (by rw [← h2]; exact h)
              cases e4 : gOf ab c with
              | none => exact absurd e4 this
              | some m => exact ⟨m, abSet_mem.mpr (.inr ⟨e, gOf_in t4.na (by rw [g4]; exact e4)⟩)⟩
            · exact absurd (List.mem_singleton.mp h) e
        obtain ⟨m, hcm⟩ := gc
        have hmk : m ∈ bl4.map (·.1) := by
          have := fr7.cl c m hcm
          rw [abSet_keys, ← t4.ks] at this
          exact this
        obtain ⟨⟨k1, b1⟩, hb1, e1⟩ := List.mem_map.mp hmk
        have hb1 : (m, b1) ∈ bl4 := by rw [← e1]; exact hb1
        have hcb := ((fr7.bel _ hb1).2 c).mpr hcm
        have fr8 := fr7.unlink (by rw [abSet_keys]; exact t4.na) (by rw [abSet_keys]; exact t4.ks) t4.inj hcm hb1
        refine ⟨_, rfl, true, .inr (.inl ⟨_, sqT htr7, by rw [hr0]; cases pre <;> rfl⟩), iteT ⟨_, rfl, p, dx, _, rfl, t7.ins, (by kernel_rfl), _, rfl, G3, p, _, _, bl4, _, rk, dx, d1, d2, d3, d4, tr, r, c, m, b1, rfl, t7, htr7, hr9, hc, hmx, hcm, hb1, hcb, by omega, by rw [abSet_len]; omega, fun H8 rk8 t8 l8 => ?_⟩⟩
        refine q H8 _ _ _ rk8 (t8.less sG3) ?_ fr8 (fun m => by rw [abSet_keys, ks7]) (by rw [abSet_len]; exact l7) l8
        rw [abSet_g (by rw [abSet_keys]; exact t4.na) (List.mem_map.mpr ⟨_, hcm, rfl⟩), g7, hf']
        exact fg.cut hfn hgp (by rw [← hr0]; exact hc) (by rw [← hr0]; exact hmx)
end
end K75
end T_D8

section T_D9
set_option Elab.async false
set_option linter.all false
set_option maxRecDepth 100000
set_option maxHeartbeats 4000000
namespace K75
open PySem PySem.Spec PyProof.Rows L2 TL
/-- the first answers of the letters -/
def fOf (Ls : List Lt) : Fn := Ls.foldl newF fun _ => none
theorem fOf_app (Ls : List Lt) (L : Lt) : fOf (Ls ++ [L]) = newF (fOf Ls) L := by
  unfold fOf
  rw [List.foldl_append]
  rfl
theorem fold_no {Ls : List Lt} {f : Fn} {n : Int} (h : n ∉ Ls.map (·.n)) : Ls.foldl newF f n = f n := by
  induction Ls generalizing f with
  | nil => rfl
  | cons L r ih =>
    rw [List.map_cons, List.mem_cons, not_or] at h
    rw [List.foldl_cons, ih h.2]
    exact setF_ne h.1
theorem fOf_no {Ls : List Lt} {n : Int} (h : n ∉ Ls.map (·.n)) : fOf Ls n = none := fold_no h
theorem fOf_in {Ls : List Lt} (nd : (Ls.map (·.n)).Nodup) {L : Lt} (h : L ∈ Ls) : fOf Ls L.n = L.ans.head? := by
  have key : ∀ {Ls : List Lt} {f : Fn}, (Ls.map (·.n)).Nodup → L ∈ Ls → Ls.foldl newF f L.n = L.ans.head? := by
    intro Ls
    induction Ls with
    | nil => intro f _ h; cases h
    | cons M r ih =>
      intro f nd h
      have n2 := List.nodup_cons.mp nd
      rw [List.foldl_cons]
      rcases List.mem_cons.mp h with rfl | h
      · rw [fold_no n2.1]
        exact setF_at
      · exact ih n2.2 h
  exact key nd h
theorem fOf_ex {Ls : List Lt} (nd : (Ls.map (·.n)).Nodup) {n m : Int} (h : fOf Ls n = some m) : ∃ L ∈ Ls, L.n = n ∧ L.ans.head? = some m := by
  by_cases hn : n ∈ Ls.map (·.n)
  · obtain ⟨L, hL, e⟩ := List.mem_map.mp hn
    have := fOf_in nd hL
    rw [e, h] at this
    exact ⟨L, hL, e, this.symm⟩
  · rw [fOf_no hn] at h
    cases h
def sp_Forest_of (K : PySem.W.Frag) : Sp := fun vs H Q _ => ∃ (a : Addr) (as : List Addr) (Ls : List Lt), vs = [.ref (He.ga K "Forest"), .ref a] ∧ H a = some (.lst (as.map V.ref)) ∧ LettersAt K H as Ls ∧ Ls.length ≤ 16 ∧ (Ls.map (·.n)).Nodup ∧ (∀ L ∈ Ls, L.ans.length ≤ 8 ∧ L.n ∉ L.ans) ∧
  ∀ H' p ab bl bi rk dx d1 d2 d3 d4, FS K H H' p (lkOf as Ls) ab bl bi rk dx d1 d2 d3 d4 → FG (fOf Ls) (gOf ab) → FR ab bl bi → (∀ m, m ∈ ab.map (·.1) ↔ ∃ L ∈ Ls, m = L.n ∨ m ∈ L.ans) → ab.length ≤ 9 * Ls.length → Q (.ref p) H'
section
variable {P : Program} {w : World} {K : PySem.W.Frag} {mg : PySem.Str → Option Value} {base : Heap}
abbrev sc_Forest_of_N : List PySem.Str := ["cls", "letters", "forest", "letter"]
theorem sc_Forest_of : FnScope sc_Forest_of_N ["cls", "letters"] (defScope s_Forest_of) := ⟨rfl, rfl, rfl, by decide +kernel, rfl, by decide +kernel, by decide +kernel⟩
theorem ok_Forest_of (W : Wd K mg) : Ok P w K mg base 5 d_Forest_of ["cls", "letters"] (sp_Forest_of K) := by
  refine ok_mk W.d_Forest_of sc_Forest_of (fun _ _ _ _ _ _ us hl => match us, hl with | [_, _], _ => rfl) (fun vs H Q E h => ?_) (fun cdv A outer s H vs Q E hr h => ?_)
  · obtain ⟨a, as, Ls, rfl, _⟩ := h
    rfl
  · obtain ⟨a, as, Ls, rfl, ha, hL, h16, hnd, h8, q⟩ := h
    have hu := hu_of hr
    have nd := sc_Forest_of.nd
    refine ⟨_, (pss_cons (ps_set (i := 2) nd rfl (Or.inl rfl) (pe_cls (pv 0) (ok_Forest_init W) W.k_Forest (hr.mono (by decide))))
    (pss_cons (ps_for PassesOwn.never rfl (pi_list (pv 1)) (pg_name (i := 3) nd rfl (Or.inl rfl))
      (pss_one (ps_expr (pe_o (pv 2) W.c_Forest (ok_Forest_put W) W.m_Forest_put (hr.mono (by decide)) (pa_cons (pv 3) pa_nil)))))
    (pss_one (ps_ret (pv 2))))), ?_⟩
    have ll : as.length = Ls.length := Paired.length hL
    have lkl : (lkOf as Ls).length = Ls.length := by unfold lkOf; rw [List.length_zipWith, ll, Nat.min_self]
    refine ⟨_, rfl, rfl, fun p dx np ndx nep => ?_⟩
    have sx : Same H (upd (upd H dx (.own p)) p (.ins (He.ga K "Forest") dx [])) := fun b o e => by
      rw [upd_ne (ne_of_none e np), upd_ne (ne_of_none e ndx)]
      exact e
    refine ⟨H, p, dx, rfl, sx, np, upd_same, fun H1 d1 d2 d3 d4 bi t => ⟨rfl, ?_⟩⟩
    refine ⟨_, rfl, a, rfl, ⟨_, sqL (t.same _ _ ha)⟩, ?_⟩
    refine for_walk (w_list (xs := as.map V.ref)) (fun i σ H' => (∃ v3, σ = [some (.ref (He.ga K "Forest")), some (.ref a), some (.ref p), v3]) ∧ ∃ ab bl bi rk, FS K H H' p ((lkOf as Ls).take i) ab bl bi rk dx d1 d2 d3 d4 ∧ FG (fOf (Ls.take i)) (gOf ab) ∧ FR ab bl bi ∧ (∀ m, m ∈ ab.map (·.1) ↔ ∃ L ∈ Ls.take i, m = L.n ∨ m ∈ L.ans) ∧ ab.length ≤ 9 * i ∧ rk.length ≤ i) ?_ (fun i σ H' _ h => ?_) ?_ ?_
    · refine ⟨⟨_, rfl⟩, [], [], bi, [], t, FG.nil, ⟨fun _ _ h => (by cases h), fun _ h => (by cases h)⟩, by simp, Nat.le_refl _, Nat.le_refl _⟩
    · obtain ⟨_, ab, bl, bi, rk, th, _⟩ := h
      exact sqL (th.same _ _ ha)
    · rintro i v σ Hz H4 hi ⟨rfl, hv⟩ ⟨⟨v3, rfl⟩, ab, bl, bi4, rk, t4, fg4, fr4, ks4, l4, r4⟩
      rw [List.length_map] at hi
      have hi2 : i < Ls.length := by omega
      rw [List.getElem?_map, List.getElem?_eq_getElem hi] at hv
      cases hv
      have hLi : LetterAt K H as[i] Ls[i] := by
        obtain ⟨L, e, h⟩ := paired_at hL (List.getElem?_eq_getElem hi)
        rw [List.getElem?_eq_getElem hi2] at e
        rw [Option.some.inj e]
        exact h
      have hmem : Ls[i] ∈ Ls := List.getElem_mem hi2
      have ltk : (lkOf as Ls).take (i + 1) = (lkOf as Ls).take i ++ [(Ls[i].n, as[i])] := by
        rw [List.take_add_one, List.getElem?_eq_getElem (by rw [lkl]; exact hi2)]
        unfold lkOf
        rw [List.getElem_zipWith]
        rfl
      have Ltk : Ls.take (i + 1) = Ls.take i ++ [Ls[i]] := by
        rw [List.take_add_one, List.getElem?_eq_getElem hi2]
        rfl
      have hnL : Ls[i].n ∉ (Ls.take i).map (·.n) := by
        rw [List.map_take]
        have h2 : ((Ls.map (·.n)).take (i + 1)).Nodup := hnd.sublist (List.take_sublist _ _)
        rw [List.take_add_one, List.getElem?_eq_getElem (by rw [List.length_map]; exact hi2), List.nodup_append] at h2
        intro hm
        exact h2.2.2 _ hm Ls[i].n (by simp) rfl
      have hnew : Ls[i].n ∉ ((lkOf as Ls).take i).map (·.1) := by
        rw [List.map_take, lkOf_keys ll, ← List.map_take]
        exact hnL
      refine ⟨_, rfl, p, dx, _, rfl, t4.ins, (by kernel_rfl), _, rfl, H, p, _, ab, bl, bi4, rk, dx, d1, d2, d3, d4, as[i], Ls[i], _, rfl, t4, hLi, hnew, (h8 _ hmem).2, (h8 _ hmem).1, fg4, fr4, fOf_no hnL, by omega, by omega, by rw [List.length_take]; omega, fun H5 ab5 bl5 bi5 rk5 t5 fg5 fr5 ks5 l5 r5 => ?_⟩
      refine ⟨⟨_, rfl⟩, ab5, bl5, bi5, rk5, by rw [ltk]; exact t5, by rw [Ltk, fOf_app]; exact fg5, fr5, fun m => ?_, by omega, by omega⟩
      rw [ks5, ks4, Ltk]
      constructor
      · rintro (⟨L, h1, h2⟩ | h)
        · exact ⟨L, List.mem_append_left _ h1, h2⟩
        · exact ⟨_, List.mem_append_right _ (List.mem_singleton.mpr rfl), h⟩
      · rintro ⟨L, h1, h2⟩
        rcases List.mem_append.mp h1 with h1 | h1
        · exact .inl ⟨L, h1, h2⟩
        · rw [List.mem_singleton.mp h1] at h2
          exact .inr h2
    · rintro σ H4 ⟨⟨v3, rfl⟩, ab, bl, bi4, rk, t4, fg4, fr4, ks4, l4, r4⟩
      rw [List.length_map, ll] at t4 fg4 ks4 l4
      rw [List.take_length] at fg4 ks4
      rw [show (lkOf as Ls).take Ls.length = lkOf as Ls by rw [← lkl, List.take_length]] at t4
      exact ⟨_, rfl, q H4 p ab bl bi4 rk dx d1 d2 d3 d4 t4 fg4 fr4 ks4 l4⟩
end
end K75
end T_D9

section T_E1
set_option Elab.async false
set_option linter.all false
set_option maxRecDepth 100000
set_option maxHeartbeats 4000000
namespace K75
open PySem PySem.Spec PyProof.Rows L2 TL GF
/-! ### generator defs -/
def OkG (P : Program) (w : World) (K : PySem.W.Frag) (mg : PySem.Str → Option Value) (base : Heap) (k : Nat) (d : He5.DefA) (ps : List PySem.Str) (sp : SpY) : Prop :=
  ∃ fd, GFY P w K mg base k (d.at_ K) fd ps sp ∧ PySem.W.keepIn K (.ref (d.at_ K)) = true ∧ Binds K fd ps []
section
variable {P : Program} {w : World} {K : PySem.W.Frag} {mg : PySem.Str → Option Value} {base : Heap}
theorem okg_mk {d : He5.DefA} {N ps : List PySem.Str} {sp : SpY} {k : Nat} (F : ∃ fd, FunD K d.name d.qual d.params d.body d.scope (d.dvs K) (d.kws K) (d.at_ K) fd) (S : GScope N ps d.scope)
    (hb : ∀ (kV doc pm : Value) (an : Option Addr) (cdv ct : Value) (us : List Value), us.length = ps.length → bindArgs (PySem.W.fnOf d.name d.qual d.params d.body d.scope .none kV doc pm an cdv ct) ⟨us, []⟩ = pure (ps.zip us))
    (len : ∀ vs H yd fin n γ, sp vs H yd fin n γ → vs.length = ps.length)
    (hbody : ∀ cd A outer s H pn, (∀ p ∈ pn, s.heap.objs.size ≤ p.1) → Room k (A.deeper (envOfC d.qual d.scope s.heap.objs.size (d.at_ K) cd)) → ∃ t, GEs (cgen P w K mg base N d.qual d.scope (d.at_ K) cd A outer s H pn) d.body t ∧
      ∀ vs H1 yd fin n γ, sp vs H1 yd fin n γ → t yd (fun _ γ' _ H' => fin γ' H') n γ (start N vs) H1) (hd : d.dfl = [] := by rfl) (hk : d.kws K = [] := by rfl) : OkG P w K mg base k d ps sp := by
  obtain ⟨fd, F⟩ := F
  rw [dvs_nil hd, hk] at F
  exact ⟨fd, ⟨len, _, _, _, _, _, N, F, S, hbody⟩, F.kp, F.bindsN hb⟩
end
section
variable {X : Cx} (K : PySem.W.Frag)
theorem kpi_revA {tg : Expr} {e : Expr} {te : TE} {p pos : Pos} (hg : Gl X "reversed") (hm : X.mg "reversed" = none) (he : PE X e te) (hs : starEach [e] X.env = (false, eval e X.env) :: starEach [] X.env := by rfl) (hK : X.K = K := by rfl) : PI X tg (.Call (.Name "reversed" p) [e] [] pos) (RT.iRevA K te) := by
  subst hK
  exact RT.pi_revA hg hm he hs
theorem kbm0 {T : String} {name : PySem.Str} {id : String} {r : V → List V → Hp → VK → Prop} {o : Expr} {to : TE} {apos cpos : Pos} (pa : PlainAttrs T) (slot : Slot T name id) (hty : typeOf (.builtin id) = pure (.type "method_descriptor")) (hm : MtR X id r) (ho : PE X o to)
    (hbase : attributeBase o name X.env (eval o X.env) = eval o X.env := by rfl) (hline : (apos.endLine == cpos.line) = true := by rfl) (hK : X.K = K := by rfl) : PE X (.Call (.Attribute o name apos) [] [] cpos) (tBM0 K T r to) := by
  subst hK
  exact pe_bm0 pa slot hty hm ho hbase hline
theorem kpi_list {tg e : Expr} {te : TE} (he : PE X e te) (hK : X.K = K := by rfl) : PI X tg e (iList K te) := by
  subst hK
  exact pi_list he
end
/-- a stack of pairs, all made of late -/
def Stk (B H : Hp) (w : Addr) (sk : List (Addr × Int × Int)) (top : Int) : Prop := B w = none ∧ H w = some (.lst (sk.map fun e => V.ref e.1)) ∧ ∀ e ∈ sk, B e.1 = none ∧ H e.1 = some (.tup [.int e.2.1, .int e.2.2]) ∧ 0 ≤ e.2.1 ∧ e.2.1 ≤ top
def SkC (B H3 : Hp) (D : Addr) (d : Int) (rs : List Int) (i : Nat) (H : Hp) : Prop := Same H3 H ∧ ∃ sk : List (Addr × Int × Int), H D = some (.lst (sk.map fun e => V.ref e.1)) ∧ (∀ e ∈ sk, B e.1 = none ∧ H e.1 = some (.tup [.int e.2.1, .int e.2.2]) ∧ e.2.1 = d) ∧ sk.map (·.2.2) = rs.reverse.take i
theorem skC_step {B H3 H : Hp} {D tp : Addr} {d m : Int} {rs : List Int} {i : Nat} (h : SkC B H3 D d rs i H) (sB : Same B H3) (nD : H3 D = none) (hi : i < rs.length) (h9 : rs.length ≤ 900) (hm : rs[rs.length - 1 - i]? = some m) (nt : H tp = none) :
    ∃ acc, (upd H tp (.tup [.int d, .int m])) D = some (.lst acc) ∧ acc.length < sizeLine ∧ SkC B H3 D d rs (i + 1) (upd (upd H tp (.tup [.int d, .int m])) D (.lst (acc ++ [.ref tp]))) := by
  obtain ⟨s3, sk, hD, hsk, hms⟩ := h
  have tD : D ≠ tp := fun e => by rw [e, nt] at hD; cases hD
  have s4 : Same H3 (upd H tp (.tup [.int d, .int m])) := s3.trans (same_new nt)
  have hl : sk.length ≤ i := by
    have := congrArg List.length hms
    rw [List.length_map, List.length_take] at this
    omega
  refine ⟨_, (upd_ne tD).trans hD, sz_lt (by rw [List.length_map]; omega), same_mut s4 nD, sk ++ [(tp, d, m)], ?_, fun e he => ?_, ?_⟩
  · rw [upd_same, List.map_append]
    rfl
  · rcases List.mem_append.mp he with he | he
    · obtain ⟨h1, h2, h3⟩ := hsk e he
      refine ⟨h1, ?_, h3⟩
      rw [upd_ne (fun q => by rw [q, hD] at h2; cases h2), upd_ne (fun q => by rw [q, nt] at h2; cases h2)]
      exact h2
    · rw [List.mem_singleton.mp he]
      refine ⟨(sB.trans s3).free nt, ?_, rfl⟩
      rw [upd_ne tD.symm, upd_same]
  · rw [List.map_append, hms, List.take_add_one, List.getElem?_reverse hi, hm]
    rfl
abbrev WC : Type := List Int → L2.St → Hp → Prop
def sp_walk_trees (K : PySem.W.Frag) : SpY := fun vs H yd fin n γ => ∃ (Bf G : Hp) (p : Addr) (lk : List (Int × Addr)) (ab : Abv) (bl : List (Int × Addr)) (bi : Addr → List Int) (rk : List (Key × V)) (dx d1 d2 d3 d4 : Addr) (f : Fn) (C : WC), vs = [.ref p] ∧ FS K G Bf p lk ab bl bi rk dx d1 d2 d3 d4 ∧ FG f (gOf ab) ∧ FR ab bl bi ∧ ab.length ≤ 800 ∧ ab.length + 1 ≤ n ∧ C [] γ H ∧ (∀ us γ B, C us γ B → Same Bf B) ∧
  (∀ us v d γ B H' x (K' : L2.St → Hp → Prop), C us γ B → Same B H' → v ∈ ab.map (·.1) → v ∉ us → us.length < ab.length → 0 ≤ d → d ≤ 900 → B x = none → H' x = some (.tup [.int d, .int v]) →
    (∀ γ' B' H'', C (us ++ [v]) γ' B' → Same B' H'' → (∀ a o, B a = none → H' a = some o → H'' a = some o ∧ B' a = none) → K' γ' H'') → yd γ (.ref x) H' K') ∧
  (∀ us γ B H', C us γ B → Same B H' → us.Nodup → (∀ x, x ∈ us ↔ x ∈ ab.map (·.1)) → fin γ H')
section
variable {P : Program} {w : World} {K : PySem.W.Frag} {mg : PySem.Str → Option Value} {base : Heap}
abbrev sc_Forest_walk_trees_N : List PySem.Str := ["self", "number", "waiting", "depth", "child"]
theorem sc_Forest_walk_trees : GScope sc_Forest_walk_trees_N ["self"] (defScope s_Forest_walk_trees) := ⟨rfl, rfl, rfl, by decide +kernel, rfl, by decide +kernel, by decide +kernel⟩
theorem ok_Forest_walk_trees (W : Wd K mg) : OkG P w K mg base 2 d_Forest_walk_trees ["self"] (sp_walk_trees K) := by
  refine okg_mk W.d_Forest_walk_trees sc_Forest_walk_trees (fun _ _ _ _ _ _ us hl => match us, hl with | [_], _ => rfl) (fun vs H yd fin n γ h => ?_) (fun cd A outer s H pn hpn hr => ?_)
  · obtain ⟨Bf, G, p, lk, ab, bl, bi, rk, dx, d1, d2, d3, d4, f, C, rfl, _⟩ := h
    rfl
  · have hu := hu_of hr
    have nd := sc_Forest_walk_trees.nd
    have hx := nox_cgen (P := P) (w := w) (K := K) (mg := mg) (base := base) (N := sc_Forest_walk_trees_N) (qual := d_Forest_walk_trees.qual) (scope := d_Forest_walk_trees.scope) (f := d_Forest_walk_trees.at_ K) (cd := cd) (A := A) (outer := outer) (H := H) hpn
    refine ⟨_, ges_cons (ge_ps hx fun s0 H0 => (ps_setLc (X := cg (cgen P w K mg base sc_Forest_walk_trees_N d_Forest_walk_trees.qual d_Forest_walk_trees.scope (d_Forest_walk_trees.at_ K) cd A outer s H pn) s0 H0) (i := 2) (own := [("number", 1)]) rfl nd rfl rfl (sw_true rfl rfl rfl (by decide +kernel)) (kpi_revA K rfl W.f_reversed (pe_callTy (klist_of K) rfl W.f_list (by decide +kernel) (pa_cons (pe_o0 (pv 0) W.c_Forest (ok_Forest_roots W) W.m_Forest_roots (hr.mono (by decide))) pa_nil))) (blkOk_by (N := sc_Forest_walk_trees_N) (sc := defScope s_Forest_walk_trees) (by decide +kernel)) (fun _ _ _ _ _ => (pg_name (i := 1) nd rfl (Or.inl rfl))) (fun _ _ _ _ _ => pts_nil) (fun _ _ _ _ _ => (pe_tup (pa_cons pe_int (pa_cons (pv 1) pa_nil))))))
      (ges_one (ge_while hx (fun s0 H0 => ktruth (X := cg (cgen P w K mg base sc_Forest_walk_trees_N d_Forest_walk_trees.qual d_Forest_walk_trees.scope (d_Forest_walk_trees.at_ K) cd A outer s H pn) s0 H0) K (pv 2) (fun _ => rfl))
        (ges_cons (ge_ps hx fun s0 H0 => (ps_asg (X := cg (cgen P w K mg base sc_Forest_walk_trees_N d_Forest_walk_trees.qual d_Forest_walk_trees.scope (d_Forest_walk_trees.at_ K) cd A outer s H pn) s0 H0) (kbm0 K PySem.F.plainAttrs_list PySem.F.slot_list_pop PySem.F.type_list_pop mt_pop (pv 2)) (kpg_tup K (n := 2) rfl (pgs_cons (pg_name (i := 3) nd rfl (Or.inr rfl)) (pgs_cons (pg_name (i := 1) nd rfl (Or.inl rfl)) pgs_nil)))))
        (ges_cons (ge_ps hx fun s0 H0 => (ps_expr (X := cg (cgen P w K mg base sc_Forest_walk_trees_N d_Forest_walk_trees.qual d_Forest_walk_trees.scope (d_Forest_walk_trees.at_ K) cd A outer s H pn) s0 H0) (kbm K PySem.F.plainAttrs_list PySem.F.slot_list_extend PySem.F.type_list_extend mt_extend (pv 2) (pa_cons (pe_lc (own := [("child", 4)]) rfl nd (kpi_revA K rfl W.f_reversed (pe_callTy (klist_of K) rfl W.f_list (by decide +kernel) (pa_cons (pe_o (pv 0) W.c_Forest (ok_Forest_children W) W.m_Forest_children (hr.mono (by decide)) (pa_cons (pv 1) pa_nil)) pa_nil))) (blkOk_by (N := sc_Forest_walk_trees_N) (sc := defScope s_Forest_walk_trees) (by decide +kernel)) (fun _ _ _ _ _ => (pg_name (i := 4) nd rfl (Or.inl rfl))) (fun _ _ _ _ _ => pts_nil) (fun _ _ _ _ _ => (pe_tup (pa_cons (pe_op op_add (pv 3) pe_int) (pa_cons (pv 4) pa_nil))))) pa_nil))))
        (ges_one (ge_yield hx fun s0 H0 => (pe_tup (X := cg (cgen P w K mg base sc_Forest_walk_trees_N d_Forest_walk_trees.qual d_Forest_walk_trees.scope (d_Forest_walk_trees.at_ K) cd A outer s H pn) s0 H0) (pa_cons (pv 3) (pa_cons (pv 1) pa_nil)))))))) ), ?_⟩
    rintro vs H1 yd fin n γ ⟨Bf, G, p, lk, ab, bl, bi, rk, dx, d1, d2, d3, d4, f, C, rfl, t, fg, fr, h9, hn, c0, cB, hstep, hend⟩
    have t1 := t.mono (cB _ _ _ c0)
    refine ⟨_, rfl, p, dx, _, rfl, t1.ins, (by kernel_rfl), G, p, lk, ab, bl, bi, rk, dx, d1, d2, d3, d4, rfl, t1, by omega, fun H2 tr rs s2 ntr htr hrs mrs => ?_⟩
    refine ⟨tr, _, rfl, .inr (sqT htr), fun l nl => ?_⟩
    generalize e3 : upd H2 l _ = H3
    obtain ⟨s3, h3⟩ := gen_upd nl e3
    refine ⟨l, _, rfl, .inl ⟨sqL h3, fun D nD => ?_⟩⟩
    have rnd : rs.Nodup := hrs.imp fun h e => by omega
    have rl : rs.length ≤ 900 := by
      have := nodup_sub (ys := ab.map (·.1)) rnd fun x hx => List.mem_map.mpr ⟨_, (mrs x).mp hx, rfl⟩
      rw [List.length_map] at this
      omega
    have s13 : Same H1 H3 := s2.trans s3
    refine lc_walk (w_rev (xs := rs.map V.int)) (SkC H1 H3 D 0 rs) ⟨same_new nD, [], upd_same, fun e he => (by cases he), by simp⟩ (fun i H' _ h => sqL (h.1 _ _ h3)) ?_ ?_
    · rintro i v H4 H5 hi ⟨rfl, hv⟩ hS
      rw [List.length_map] at hi hv
      have hj : rs.length - 1 - i < rs.length := by omega
      rw [List.getElem?_map, List.getElem?_eq_getElem hj] at hv
      cases hv
      exact ⟨rfl, tyes ⟨_, rfl, sz_le (by show 2 ≤ 100000; decide), fun tp ntp => skC_step hS s13 nD hi rl (List.getElem?_eq_getElem hj) ntp⟩⟩
    rintro H4 ⟨s4, sk, hD, hsk, hms⟩
    rw [List.length_map, ← List.length_reverse, List.take_length] at hms
    have s14 : Same H1 H4 := s13.trans s4
    refine ⟨fun m n γ σ H => ∃ (us : List Int) (B : Hp) (sk : List (Addr × Int × Int)) (v1 v3 v4 : Option V), m = ab.length - us.length ∧ ab.length + 1 ≤ us.length + n ∧ σ = [some (.ref p), v1, some (.ref D), v3, v4] ∧ C us γ B ∧ Same B H ∧ Stk B H D sk us.length ∧ DI (gOf ab) (ab.map (·.1)) us (sk.map (·.2.2)), ⟨_, [], H1, sk, _, _, _, rfl, by simpa using hn, rfl, c0, s14, ⟨s13.free nD, hD, fun e he => ?_⟩, ?_⟩, ?_⟩
    · obtain ⟨h1, h2, h3⟩ := hsk e he
      exact ⟨h1, h2, by omega, by rw [h3]; exact Int.le_refl _⟩
    · rw [hms]
      refine DI.start rnd fun x => ?_
      rw [mrs]
      constructor
      · intro h
        exact ⟨List.mem_map.mpr ⟨_, h, rfl⟩, gOf_at t.na h⟩
      · rintro ⟨h1, h2⟩
        have := gOf_key t.na h1
        rw [h2] at this
        exact this
    rintro m n γ σ H5 ⟨us, B, sk5, v1, v3, v4, rfl, hn5, rfl, c5, s5, ⟨nB, hD5, hsk5⟩, di⟩
    have usub : us.length ≤ ab.length := by
      have := nodup_sub (ys := ab.map (·.1)) (List.nodup_append.mp di.nd).1 fun x hx => di.ins x (List.mem_append_left _ hx)
      rwa [List.length_map] at this
    rcases List.eq_nil_or_concat sk5 with rfl | ⟨pre, ⟨tp, d, v⟩, rfl⟩
    · refine ⟨_, rfl, false, .inl ⟨_, sqL hD5, rfl⟩, iteF ?_⟩
      refine hend us γ B H5 c5 s5 (by simpa using (List.nodup_append.mp di.nd).1) fun x => ⟨fun hx => di.ins x (List.mem_append_left _ hx), di.done (fun n m hn e => fr.cl n m (gOf_in t.na e)) fg.pt x⟩
    rw [List.concat_eq_append] at hD5 hsk5 di
    have hD5' : H5 D = some (.lst (pre.map (fun e => V.ref e.1) ++ [V.ref tp])) := by rw [hD5, List.map_append]; rfl
    rw [List.map_append] at di
    have di : DI (gOf ab) (ab.map (·.1)) us (pre.map (·.2.2) ++ [v]) := di
    obtain ⟨nBt, htp, hd0, hdt⟩ := hsk5 (tp, d, v) (by simp)
    have nBt : B tp = none := nBt
    have htp : H5 tp = some (.tup [.int d, .int v]) := htp
    have hvk : v ∈ ab.map (·.1) := di.ins v (by simp)
    have hvu : v ∉ us := fun h => (List.nodup_append.mp di.nd).2.2 v h v (by simp) rfl
    have hul : us.length < ab.length := by
      have n1 : (us ++ [v]).Nodup := List.nodup_append.mpr ⟨(List.nodup_append.mp di.nd).1, by simp, fun a ha b hb e => hvu (by rw [List.mem_singleton.mp hb] at e; rw [← e]; exact ha)⟩
      have := nodup_sub (ys := ab.map (·.1)) n1 fun x hx => by
        rcases List.mem_append.mp hx with h | h
        · exact di.ins x (List.mem_append_left _ h)
        · rw [List.mem_singleton.mp h]; exact hvk
      rw [List.length_map, List.length_append] at this
      exact this
    refine ⟨_, rfl, true, .inl ⟨_, sqL hD5', by cases pre <;> rfl⟩, iteT ?_⟩
    refine ⟨_, fun n' γ' σ' H' h => h, ?_⟩
    refine ⟨_, rfl, .inl ⟨rfl, _, sqL hD5'⟩, D, _, .ref tp, rfl, rfl, hD5', by simp, ?_⟩
    rw [List.dropLast_concat]
    generalize e6 : upd H5 D _ = H6
    obtain ⟨h6, k6⟩ := gen_mut e6
    have s6 : Same B H6 := by rw [← e6]; exact same_mut s5 nB
    have tD : tp ≠ D := fun e => by rw [e, hD5] at htp; cases htp
    refine ⟨tp, _, rfl, sqT ((k6 _ tD).trans htp), rfl, _, _, rfl, _, _, rfl, rfl, ?_⟩
    have t6 := t.mono ((cB _ _ _ c5).trans s6)
    obtain ⟨⟨k0, b0⟩, hb0, e0⟩ := List.mem_map.mp (show v ∈ bl.map (·.1) by rw [t.ks]; exact hvk)
    have hb0 : (v, b0) ∈ bl := by rw [← e0]; exact hb0
    obtain ⟨bnd, bmem⟩ := fr.bel _ hb0
    have bnd : (bi b0).Nodup := bnd
    have bmem : ∀ n, n ∈ bi b0 ↔ (n, some v) ∈ ab := bmem
    refine ⟨_, rfl, .inl ⟨rfl, _, sqL h6⟩, ?_⟩
    refine ⟨_, rfl, p, dx, _, rfl, t6.ins, (by kernel_rfl), _, rfl, G, p, lk, ab, bl, bi, rk, dx, d1, d2, d3, d4, v, b0, rfl, t6, hb0, bnd, fun H7 tc cs s7 ntc htc hcs mcs => ?_⟩
    refine ⟨tc, _, rfl, .inr (sqT htc), fun l2 nl2 => ?_⟩
    generalize e8 : upd H7 l2 _ = H8
    obtain ⟨s8, h8⟩ := gen_upd nl2 e8
    refine ⟨l2, _, rfl, .inl ⟨sqL h8, fun D2 nD2 => ?_⟩⟩
    have cnd : cs.Nodup := hcs.imp fun h e => by omega
    have cl9 : cs.length ≤ 900 := by
      have := nodup_sub (ys := ab.map (·.1)) cnd fun x hx => List.mem_map.mpr ⟨_, (bmem x).mp ((mcs x).mp hx), rfl⟩
      rw [List.length_map] at this
      omega
    have s68 : Same H6 H8 := s7.trans s8
    refine lc_walk (w_rev (xs := cs.map V.int)) (SkC B H8 D2 (d + 1) cs) ⟨same_new nD2, [], upd_same, fun e he => (by cases he), by simp⟩ (fun i H' _ h => sqL (h.1 _ _ h8)) ?_ ?_
    · rintro i v' H9 H10 hi ⟨rfl, hv⟩ hS
      rw [List.length_map] at hi hv
      have hj : cs.length - 1 - i < cs.length := by omega
      rw [List.getElem?_map, List.getElem?_eq_getElem hj] at hv
      cases hv
      exact ⟨rfl, tyes ⟨_, rfl, _, _, rfl, rfl, _, rfl, sz_le (by show 2 ≤ 100000; decide), fun tp ntp => skC_step hS (s6.trans s68) nD2 hi cl9 (List.getElem?_eq_getElem hj) ntp⟩⟩
    rintro H9 ⟨s9, sk9, hD9, hsk9, hms9⟩
    rw [List.length_map, ← List.length_reverse, List.take_length] at hms9
    have s69 := s68.trans s9
    have hDD : D2 ≠ D := fun e => by rw [e, s68 _ _ h6] at nD2; cases nD2
    have psub : (pre.map fun e : Addr × Int × Int => V.ref e.1).length ≤ 900 := by
      have n2 := (List.nodup_append.mp di.nd).2.1
      have := nodup_sub (ys := ab.map (·.1)) (List.nodup_append.mp n2).1 fun x hx => di.ins x (by simp only [List.mem_append]; exact .inr (.inl hx))
      rw [List.length_map, List.length_map] at this
      rw [List.length_map]
      omega
    have sl9 : (sk9.map fun e : Addr × Int × Int => V.ref e.1).length ≤ 900 := by
      have := congrArg List.length hms9
      rw [List.length_map, List.length_reverse] at this
      rw [List.length_map]
      omega
    refine ⟨D, D2, _, _, rfl, rfl, s69 _ _ h6, hD9, sz_le (by omega), ?_⟩
    rw [← List.map_append]
    generalize e10 : upd H9 D _ = H10
    obtain ⟨h10, k10⟩ := gen_mut e10
    have s10 : Same B H10 := by rw [← e10]; exact same_mut (s6.trans s69) nB
    refine ⟨by omega, _, rfl, _, rfl, sz_le (by show 2 ≤ 100000; decide), fun x nx => ?_⟩
    generalize e11 : upd H10 x _ = H11
    obtain ⟨s11, h11⟩ := gen_upd nx e11
    refine hstep us v d γ B H11 x _ c5 (s10.trans s11) hvk hvu hul hd0 (by have : (us.length : Int) ≤ 800 := by omega
                                                                           have hdt : d ≤ (us.length : Int) := hdt
                                                                           omega) (s10.free nx) h11 fun γ' B' H'' c' s' hk => ?_
    have all : ∀ e ∈ pre ++ sk9, B e.1 = none ∧ H11 e.1 = some (.tup [.int e.2.1, .int e.2.2]) ∧ 0 ≤ e.2.1 ∧ e.2.1 ≤ (us.length : Int) + 1 := fun e he => by
      rcases List.mem_append.mp he with he | he
      · obtain ⟨a1, a2, a3, a4⟩ := hsk5 e (List.mem_append_left _ he)
        have ne : e.1 ≠ D := fun q => by rw [q, hD5] at a2; cases a2
        exact ⟨a1, s11 _ _ ((k10 _ ne).trans (s69 _ _ ((k6 _ ne).trans a2))), a3, by omega⟩
      · obtain ⟨a1, a2, a3⟩ := hsk9 e he
        have ne : e.1 ≠ D := fun q => by rw [q, s69 _ _ h6] at a2; cases a2
        have hdt : d ≤ (us.length : Int) := hdt
        have hd0 : 0 ≤ d := hd0
        exact ⟨a1, s11 _ _ ((k10 _ ne).trans a2), by omega, by omega⟩
    obtain ⟨g1, g2⟩ := hk D _ nB (s11 _ _ h10)
    refine ⟨ab.length - (us.length + 1), by omega, us ++ [v], B', pre ++ sk9, _, _, _, by rw [List.length_append]; rfl, by rw [List.length_append]; show _ ≤ us.length + 1 + (n - 1); omega, rfl, c', s', ⟨g2, g1, fun e he => ?_⟩, ?_⟩
    · obtain ⟨a1, a2, a3, a4⟩ := all e he
      obtain ⟨a5, a6⟩ := hk _ _ a1 a2
      exact ⟨a6, a5, a3, by rw [List.length_append]; exact_mod_cast a4⟩
    · rw [List.map_append, hms9]
      refine di.step cnd (fun x => ?_) (fun e => ?_)
      · refine (mcs x).trans ((bmem x).trans ?_)
        constructor
        · intro h
          exact ⟨List.mem_map.mpr ⟨_, h, rfl⟩, gOf_at t.na h⟩
        · rintro ⟨_, h2⟩
          exact gOf_in t.na h2
      · obtain ⟨ns, hns⟩ := fg.pt v
        exact hns.not_self e
end
end K75
end T_E1

section T_E2
set_option Elab.async false
set_option linter.all false
set_option maxRecDepth 100000
set_option maxHeartbeats 4000000
namespace K75
open PySem PySem.Spec PyProof.Rows L2 TL GF
/-! ### the boxes of a sleeping generator -/
theorem box_same {F : Addr → Bool} {H Hc : Hp} (hF : ∀ b, F b = true → H b = none ∧ ∃ φ, Hc b = some (.ext φ)) (hO : ∀ b, F b = false → Hc b = H b) : Same H Hc := fun b o e => by
  have : F b = false := bfalse fun q => by rw [(hF b q).1] at e; cases e
  rw [hO b this]
  exact e
theorem box_out {F : Addr → Bool} {H Hc : Hp} {b : Addr} {o : HO} (hF : ∀ b, F b = true → H b = none ∧ ∃ φ, Hc b = some (.ext φ)) (e : H b = some o) : F b = false := bfalse fun q => by rw [(hF b q).1] at e; cases e
def lineOf (d v : Int) (x : PySem.Str) : PySem.Str := Str.empty ++ pad3 d ++ " " ++ numS v ++ " " ++ x
def linesV (snd : Int → PySem.Str) (es : List (Int × Int)) : List V := es.map fun e => V.str (lineOf e.1 e.2 (snd e.2))
def sp_Forest_drawn (K : PySem.W.Frag) : Sp := fun vs H Q _ => ∃ (G : Hp) (p : Addr) (lk : List (Int × Addr)) (ab : Abv) (bl : List (Int × Addr)) (bi : Addr → List Int) (rk : List (Key × V)) (dx d1 d2 d3 d4 : Addr) (f : Fn) (snd : Int → PySem.Str), vs = [.ref p] ∧ FS K G H p lk ab bl bi rk dx d1 d2 d3 d4 ∧ FG f (gOf ab) ∧ FR ab bl bi ∧ ab.length ≤ 800 ∧ (∀ n, n ∈ ab.map (·.1) → isNumber n = true) ∧ (∀ n, (snd n).length ≤ 100) ∧
  (∀ n, n ∉ lk.map (·.1) → snd n = "-") ∧ (∀ n c, (n, c) ∈ lk → ∃ L, LetterAt K H c L ∧ snd n = L.sender) ∧
  ∀ H' r (es : List (Int × Int)), Same H H' → H' r = some (.lst (linesV snd es)) → (es.map (·.2)).Nodup → (∀ x, x ∈ es.map (·.2) ↔ x ∈ ab.map (·.1)) → (∀ e ∈ es, 0 ≤ e.1 ∧ e.1 ≤ 900) → Q (.ref r) H'
section
variable {P : Program} {w : World} {K : PySem.W.Frag} {mg : PySem.Str → Option Value} {base : Heap}
abbrev sc_Forest_drawn_N : List PySem.Str := ["self", "lines", "depth", "number", "sender"]
theorem sc_Forest_drawn : FnScope sc_Forest_drawn_N ["self"] (defScope s_Forest_drawn) := ⟨rfl, rfl, rfl, by decide +kernel, rfl, by decide +kernel, by decide +kernel⟩
theorem ok_Forest_drawn (W : Wd K mg) : Ok P w K mg base 5 d_Forest_drawn ["self"] (sp_Forest_drawn K) := by
  refine ok_mk W.d_Forest_drawn sc_Forest_drawn (fun _ _ _ _ _ _ us hl => match us, hl with | [_], _ => rfl) (fun vs H Q E h => ?_) (fun cdv A outer s H vs Q E hr h => ?_)
  · obtain ⟨G, p, lk, ab, bl, bi, rk, dx, d1, d2, d3, d4, f, snd, rfl, _⟩ := h
    rfl
  · obtain ⟨G, p, lk, ab, bl, bi, rk, dx, d1, d2, d3, d4, f, snd, rfl, t, fg, fr, h9, hnum, hsn, hs0, hs1, q⟩ := h
    have hu := hu_of hr
    have nd := sc_Forest_drawn.nd
    obtain ⟨fdw, GW, kpw, bw⟩ := ok_Forest_walk_trees (P := P) (w := w) (base := base) W
    refine ⟨_, (pss_cons (ps_set (i := 1) nd rfl (Or.inl rfl) (pe_lst pa_nil))
    (pss_cons (ps_forGM (fun _ _ q => q) GW hr (pv 0) W.c_Forest W.m_Forest_walk_trees bw (kpg_tup K (n := 2) rfl (pgs_cons (pg_name (i := 2) nd rfl (Or.inl rfl)) (pgs_cons (pg_name (i := 3) nd rfl (Or.inl rfl)) pgs_nil)))
      (pss_cons (ps_set (i := 4) nd rfl (Or.inl rfl) (pe_ifExp (pt_cmp (pc_din hu (pv 3) (kfld K (pv 0) rfl))) (kfld K (pe_dget hu (kfld K (pv 0) rfl) (pv 3) (fun _ _ => rfl)) rfl) pe_str))
      (pss_one (ps_expr (kbm K PySem.F.plainAttrs_list PySem.F.slot_list_append PySem.F.type_list_append mt_append (pv 1) (pa_cons (pe_joined (PJ.cons (pe_fmtR3 (pv 2)) (PJ.cons pe_str (PJ.cons (pe_fmt (pv 3)) (PJ.cons pe_str (PJ.cons (pe_fmt (pv 4)) PJ.nil)))))) pa_nil))))))
    (pss_one (ps_ret (pv 1))))), ?_⟩
    refine ⟨Nat.zero_le _, fun l nl => ?_⟩
    generalize e1 : upd H l _ = H1
    obtain ⟨s1, h1⟩ := gen_upd nl e1
    have t1 := t.mono s1
    refine ⟨_, rfl, p, dx, _, rfl, t1.ins, (by kernel_rfl), ab.length + 1, H, G, p, lk, ab, bl, bi, rk, dx, d1, d2, d3, d4, f, (fun us γ B => ∃ (es : List (Int × Int)) (v2 v3 v4 : Option V), us = es.map (·.2) ∧ γ = [some (.ref p), some (.ref l), v2, v3, v4] ∧ Same H B ∧ B l = some (.lst (linesV snd es)) ∧ (∀ e ∈ es, 0 ≤ e.1 ∧ e.1 ≤ 900)), rfl, t, fg, fr, h9, Nat.le_refl _, ⟨[], _, _, _, rfl, rfl, s1, h1, fun e he => (by cases he)⟩, fun us γ B h => ?_, ?_, ?_⟩
    · obtain ⟨_, _, _, _, _, _, h, _⟩ := h
      exact h
    · rintro us v d γ B H' x K' ⟨es, v2, v3, v4, rfl, rfl, sB, hBl, hes⟩ sH hv hvu hul hd0 hd9 nBx hx hk F Hc hF hO
      have sc := box_same hF hO
      have tc := t.mono ((sB.trans sH).trans sc)
      have hxc := sc _ _ hx
      refine ⟨x, _, rfl, sqT hxc, rfl, _, _, rfl, _, _, rfl, rfl, ?_⟩
      have hel : es.length ≤ 900 := by rw [List.length_map] at hul; omega
      have nv := hnum v hv
      refine ⟨_, rfl, _, rfl, p, _, dx, _, .ref d1, rfl, tc.ins, W.c_Forest, W.n_Forest_letters, (by kernel_rfl), d1, _, rfl, DGet.k (k := Sum.inl v) tc.h1, _, rfl, ?_⟩
      rw [isSome_dki]
      have hsv := hsn v
      by_cases hvl : v ∈ lk.map (·.1)
      case' pos =>
        rw [decide_eq_true hvl]
        obtain ⟨⟨k0, c⟩, hc, e0⟩ := List.mem_map.mp hvl
        have hc : (v, c) ∈ lk := by rw [← e0]; exact hc
        obtain ⟨L, hL, eL⟩ := hs1 v c hc
        obtain ⟨dl, u1, u2, u3, hc1, _⟩ := hL.mono ((sB.trans sH).trans sc)
        have ga : DGet Hc d1 (.int v) (some (.ref c)) := by
          have := DGet.k (k := Sum.inl v) tc.h1
          rw [valV_dki, (atK_some t.nl).mpr hc] at this
          exact this
        refine iteT ⟨_, rfl, p, _, dx, _, .ref d1, rfl, tc.ins, W.c_Forest, W.n_Forest_letters, (by kernel_rfl), _, rfl, d1, .ref c, rfl, ga, c, _, dl, _, .str L.sender, rfl, hc1, W.c_Letter, W.n_Letter_sender, lf_sender _ _ _ _, ?_⟩
        rw [← eL]
      case' neg =>
        rw [decide_eq_false hvl]
        refine iteF ?_
        show gName 4 (.str "-") _ _ _
        rw [← hs0 v hvl]
      all_goals
        have z1 : (" " : PySem.Str).length = 1 := by decide +kernel
        have z0 : (Str.empty : PySem.Str).length = 0 := by decide +kernel
        have zp := pad3_len (a := d) hd0 (by omega)
        have zn := num_len nv
        have hlc := sc _ _ (sH _ _ hBl)
        refine ⟨_, rfl, .inl ⟨rfl, _, sqL hlc⟩, ?_⟩
        refine ⟨_, rfl, d, rfl, hd0, by omega, pad3 d, rfl, sz_le (by rw [str_len_app]; omega), " ", rfl, sz_le (by rw [str_len_app, str_len_app]; omega), _, rfl, .inr ⟨v, rfl, num_log nv, numS v, rfl, sz_le (by rw [str_len_app, str_len_app, str_len_app]; omega), " ", rfl, sz_le (by rw [str_len_app, str_len_app, str_len_app, str_len_app]; omega), _, rfl, .inl ⟨snd v, rfl, sz_le (by omega), snd v, rfl, sz_le (by rw [str_len_app, str_len_app, str_len_app, str_len_app, str_len_app]; omega), l, _, _, rfl, rfl, hlc, sz_lt (by unfold linesV; rw [List.length_map]; omega), ?_⟩⟩⟩
        have hFl := box_out hF (sH _ _ hBl)
        have enew : linesV snd es ++ [V.str (lineOf d v (snd v))] = linesV snd (es ++ [(d, v)]) := by
          unfold linesV
          rw [List.map_append]
          rfl
        refine ⟨fun b hb => upd_ne (fun e => by rw [e, hFl] at hb; cases hb), ?_⟩
        refine hk _ (upd B l (.lst (linesV snd (es ++ [(d, v)])))) _ ⟨es ++ [(d, v)], _, _, _, by rw [List.map_append]; rfl, rfl, same_mut sB nl, upd_same, fun e he => ?_⟩ (fun b o hb => ?_) fun a o hBa hHa => ?_
        · rcases List.mem_append.mp he with he | he
          · exact hes e he
          · rw [List.mem_singleton.mp he]
            exact ⟨hd0, hd9⟩
        · by_cases e : b = l
          · rw [e, upd_same] at hb
            rw [e, cut_out hFl, upd_same, ← hb, ← enew]
            rfl
          · rw [upd_ne e] at hb
            have hb := sH _ _ hb
            rw [cut_out (box_out hF hb), upd_ne e]
            exact sc _ _ hb
        · have e : a ≠ l := fun e => by rw [e, hBl] at hBa; cases hBa
          rw [cut_out (box_out hF hHa), upd_ne e, upd_ne e]
          exact ⟨sc _ _ hHa, hBa⟩
    · rintro us γ B H' ⟨es, v2, v3, v4, rfl, rfl, sB, hBl, hes⟩ sH hnd hiff
      exact ⟨_, rfl, q H' l es (sB.trans sH) (sH _ _ hBl) hnd hiff hes⟩
end
end K75
end T_E2

section T_E3
set_option Elab.async false
set_option linter.all false
set_option maxRecDepth 100000
set_option maxHeartbeats 4000000
namespace K75
open PySem PySem.Spec PyProof.Rows L2 TL GF
section
variable {K : PySem.W.Frag} {G H H2 : Hp} {p : Addr} {lk : List (Int × Addr)} {od : List Int} {gk : List (Int × Addr)} {gi : Addr → GI} {dx d1 d2 d3 : Addr}
theorem TS.move {B B2 : Hp} (t : TS K B H p lk od gk gi dx d1 d2 d3) (s : Same B2 H2) (k : ∀ a o, B a = none → H a = some o → H2 a = some o ∧ B2 a = none) : TS K B2 H2 p lk od gk gi dx d1 d2 d3 :=
  ⟨s, (k _ _ t.gp t.ins).2, (k _ _ t.g1 t.h1).2, (k _ _ t.g2 t.h2).2, (k _ _ t.g3 t.h3).2, t.n13, (k _ _ t.gp t.ins).1, (k _ _ t.g1 t.h1).1, (k _ _ t.g2 t.h2).1, (k _ _ t.g3 t.h3).1, t.nl, t.nk, fun q hq => by
    obtain ⟨⟨dg, a1, a2⟩, a3, a4, a5, a6⟩ := t.grp q hq
    exact ⟨⟨dg, (k _ _ a3 a1).1, (k _ _ a4 a2).1⟩, (k _ _ a3 a1).2, (k _ _ a4 a2).2, a5, a6⟩, t.kl⟩
/-- an object that is none of the threads' own is to stay -/
theorem TS.know (t : TS K G H p lk od gk gi dx d1 d2 d3) {l : Addr} {o : HO} (h : H l = some o) (n1 : ∀ c d fs, o = .ins c d fs → fs.length = 6) (n2 : ∀ z, o ≠ .dK z) (n3 : ∀ z, o ≠ .lst z) : TS K (upd G l o) H p lk od gk gi dx d1 d2 d3 := by
  have ni : ∀ {b : Addr} {c d : Addr} {fs : List (PySem.Str × V)}, H b = some (.ins c d fs) → fs.length ≠ 6 → G b = none → upd G l o b = none := fun {b c d fs} hb hn g => by
    rw [upd_ne (fun e => by
      rw [e, h] at hb
      cases hb
      exact hn (n1 _ _ _ rfl))]
    exact g
  have nd : ∀ {b : Addr} {z : List (Key × V)}, H b = some (.dK z) → G b = none → upd G l o b = none := fun {b z} hb g => by
    rw [upd_ne (fun e => by
      rw [e, h] at hb
      cases hb
      exact n2 _ rfl)]
    exact g
  have nl : ∀ {b : Addr} {z : List V}, H b = some (.lst z) → G b = none → upd G l o b = none := fun {b z} hb g => by
    rw [upd_ne (fun e => by
      rw [e, h] at hb
      cases hb
      exact n3 _ rfl)]
    exact g
  refine ⟨fun b u hb => ?_, ni t.ins (by show (3 : Nat) ≠ 6; decide) t.gp, nd t.h1 t.g1, nl t.h2 t.g2, nd t.h3 t.g3, t.n13, t.ins, t.h1, t.h2, t.h3, t.nl, t.nk, fun q hq => ?_, t.kl⟩
  · by_cases e : b = l
    · subst e
      rw [upd_same] at hb
      rw [h]
      exact hb
    · rw [upd_ne e] at hb
      exact t.same _ _ hb
  · obtain ⟨⟨dg, a1, a2⟩, a3, a4, a5, a6⟩ := t.grp q hq
    exact ⟨⟨dg, a1, a2⟩, ni a1 (by show (2 : Nat) ≠ 6; decide) a3, nl a2 a4, a5, a6⟩
theorem TS.less {G2 : Hp} (t : TS K G H p lk od gk gi dx d1 d2 d3) (s : Same G2 G) : TS K G2 H p lk od gk gi dx d1 d2 d3 :=
  ⟨s.trans t.same, s.free t.gp, s.free t.g1, s.free t.g2, s.free t.g3, t.n13, t.ins, t.h1, t.h2, t.h3, t.nl, t.nk, fun q hq => by
    obtain ⟨a1, a3, a4, a5, a6⟩ := t.grp q hq
    exact ⟨a1, s.free a3, s.free a4, a5, a6⟩, t.kl⟩
end
theorem same_know {G H : Hp} {l : Addr} {o : HO} (s : Same G H) (h : H l = some o) : Same G (upd G l o) := fun b u hb => by
  by_cases e : b = l
  · subst e
    rw [upd_same]
    have := s _ _ hb
    rw [h] at this
    exact this
  · rw [upd_ne e]
    exact hb
/-- x names a thread of the first i letters -/
def NameAt (Ls : List Lt) (i : Nat) (x : Int) : Prop := Least (edgesAll (Ls.take i)) (fun y => ∃ L ∈ Ls.take i, y = L.n ∨ y ∈ L.ans) x
def JoinFact (Ls : List Lt) (i : Nat) (xs : List Int) (m : Int) : Prop := (∀ x, NameAt Ls (i + 1) x ↔ (NameAt Ls i x ∧ x ∉ xs) ∨ x = m) ∧ ¬(NameAt Ls i m ∧ m ∉ xs)
theorem join_fact {Ls : List Lt} {i : Nat} (hi : i < Ls.length) {gk : List (Int × Addr)} {gi : Addr → GI} {xs : List Int} {m : Int} (nk : (gk.map (·.1)).Nodup) (p : PT gk gi (edgesAll (Ls.take i))) (ks : ∀ m, m ∈ gk.map (·.1) ↔ ∃ L ∈ Ls.take i, m = L.n ∨ m ∈ L.ans)
    (hx : ∀ x, x ∈ xs ↔ ∃ n g, n ∈ Ls[i].n :: Ls[i].ans ∧ atK gk n = some g ∧ (gi g).lw = x) (h1 : m ∈ xs ∨ (m ∈ Ls[i].n :: Ls[i].ans ∧ atK gk m = none)) (h2 : ∀ y, y ∈ xs ∨ (y ∈ Ls[i].n :: Ls[i].ans ∧ atK gk y = none) → m ≤ y) : JoinFact Ls i xs m := by
  have Ltk : Ls.take (i + 1) = Ls.take i ++ [Ls[i]] := by
    rw [List.take_add_one, List.getElem?_eq_getElem hi]
    rfl
  have e1 : ∀ x, NameAt Ls i x ↔ Least (edgesAll (Ls.take i)) (fun y => y ∈ gk.map (·.1)) x := fun x => least_same (fun e h => h) (fun e h => h) (fun y => (ks y).symm) x
  have eE : edgesAll (Ls.take (i + 1)) = edgesAll (Ls.take i) ++ Ls[i].ans.map fun a => (Ls[i].n, a) := by
    rw [Ltk]
    unfold edgesAll
    rw [List.flatMap_append]
    simp [edgesOf]
  have hk : ∀ y, (∃ L ∈ Ls.take (i + 1), y = L.n ∨ y ∈ L.ans) ↔ y ∈ gk.map (·.1) ∨ y ∈ Ls[i].n :: Ls[i].ans := fun y => by
    rw [ks, Ltk, List.mem_cons]
    constructor
    · rintro ⟨L, h, z⟩
      rcases List.mem_append.mp h with h | h
      · exact .inl ⟨L, h, z⟩
      · rw [List.mem_singleton.mp h] at z
        exact .inr z
    · rintro (⟨L, h, z⟩ | z)
      · exact ⟨L, List.mem_append_left _ h, z⟩
      · exact ⟨_, List.mem_append_right _ (List.mem_singleton.mpr rfl), z⟩
  have st := names_step nk p (n := Ls[i].n) (ts := Ls[i].ans) hk hx h1 h2
  refine ⟨fun x => ?_, fun h => names_new (E := edgesAll (Ls.take i)) h1 ⟨(e1 m).mp h.1, h.2⟩⟩
  rw [e1]
  show Least (edgesAll (Ls.take (i + 1))) _ x ↔ _
  rw [eE]
  exact st x
abbrev JC : Type := Nat → L2.St → Hp → Prop
def sp_each_join (K : PySem.W.Frag) : SpY := fun vs H yd fin n γ => ∃ (Bf : Hp) (a : Addr) (as : List Addr) (Ls : List Lt) (C : JC), vs = [.ref a] ∧ Bf a = some (.lst (as.map V.ref)) ∧ LettersAt K Bf as Ls ∧ Ls.length ≤ 16 ∧ (Ls.map (·.n)).Nodup ∧ (∀ L ∈ Ls, L.ans.length ≤ 8) ∧ Ls.length + 1 ≤ n ∧ C 0 γ H ∧ (∀ i γ B, C i γ B → Same Bf B) ∧
  (∀ i γ B H' j xs m (K' : L2.St → Hp → Prop), i < Ls.length → C i γ B → Same B H' → JoinAt K H' j xs m → JoinFact Ls i xs m →
    (∀ γ' B' H'', C (i + 1) γ' B' → Same B' H'' → (∀ a o, B a = none → H' a = some o → H'' a = some o ∧ B' a = none) → K' γ' H'') → yd γ (.ref j) H' K') ∧
  (∀ γ B H', C Ls.length γ B → Same B H' → fin γ H')
section
variable {P : Program} {w : World} {K : PySem.W.Frag} {mg : PySem.Str → Option Value} {base : Heap}
abbrev sc_each_join_N : List PySem.Str := ["letters", "threads", "letter", "join"]
theorem sc_each_join : GScope sc_each_join_N ["letters"] (defScope s_each_join) := ⟨rfl, rfl, rfl, by decide +kernel, rfl, by decide +kernel, by decide +kernel⟩
theorem ok_each_join (W : Wd K mg) : OkG P w K mg base 5 d_each_join ["letters"] (sp_each_join K) := by
  refine okg_mk W.d_each_join sc_each_join (fun _ _ _ _ _ _ us hl => match us, hl with | [_], _ => rfl) (fun vs H yd fin n γ h => ?_) (fun cd A outer s H pn hpn hr => ?_)
  · obtain ⟨Bf, a, as, Ls, C, rfl, _⟩ := h
    rfl
  · have hu := hu_of hr
    have nd := sc_each_join.nd
    have hx := nox_cgen (P := P) (w := w) (K := K) (mg := mg) (base := base) (N := sc_each_join_N) (qual := d_each_join.qual) (scope := d_each_join.scope) (f := d_each_join.at_ K) (cd := cd) (A := A) (outer := outer) (H := H) hpn
    refine ⟨_, ges_cons (ge_ps hx fun s0 H0 => (ps_set (X := cg (cgen P w K mg base sc_each_join_N d_each_join.qual d_each_join.scope (d_each_join.at_ K) cd A outer s H pn) s0 H0) (i := 1) nd rfl (Or.inl rfl) (pe_k0 (ok_Threads_init W) W.k_Threads (hr.mono (by decide)) rfl W.g_Threads)))
      (ges_one (ge_for hx (fun s0 H0 => kpi_list (X := cg (cgen P w K mg base sc_each_join_N d_each_join.qual d_each_join.scope (d_each_join.at_ K) cd A outer s H pn) s0 H0) K (pv 0)) (fun s0 H0 => pg_name (X := cg (cgen P w K mg base sc_each_join_N d_each_join.qual d_each_join.scope (d_each_join.at_ K) cd A outer s H pn) s0 H0) (i := 2) nd rfl (Or.inl rfl))
        (ges_cons (ge_ps hx fun s0 H0 => (ps_set (X := cg (cgen P w K mg base sc_each_join_N d_each_join.qual d_each_join.scope (d_each_join.at_ K) cd A outer s H pn) s0 H0) (i := 3) nd rfl (Or.inl rfl) (pe_f (ok_join_of W) (hr.mono (by decide)) rfl W.g_join_of (pa_cons (pv 1) (pa_cons (pv 2) pa_nil)))))
        (ges_cons (ge_ps hx fun s0 H0 => (ps_expr (X := cg (cgen P w K mg base sc_each_join_N d_each_join.qual d_each_join.scope (d_each_join.at_ K) cd A outer s H pn) s0 H0) (pe_o (pv 1) W.c_Threads (ok_Threads_put W) W.m_Threads_put (hr.mono (by decide)) (pa_cons (pv 2) pa_nil))))
        (ges_one (ge_yield hx fun s0 H0 => pv (X := cg (cgen P w K mg base sc_each_join_N d_each_join.qual d_each_join.scope (d_each_join.at_ K) cd A outer s H pn) s0 H0) 3))))) ), ?_⟩
    rintro vs H1 yd fin n γ ⟨Bf, a, as, Ls, C, rfl, ha, hL, h16, hnd, h8, hn, c0, cB, hstep, hend⟩
    have ll : as.length = Ls.length := Paired.length hL
    have lkl : (lkOf as Ls).length = Ls.length := by unfold lkOf; rw [List.length_zipWith, ll, Nat.min_self]
    refine fun p dx np ndx nep => ?_
    have sx : Same H1 (upd (upd H1 dx (.own p)) p (.ins (He.ga K "Threads") dx [])) := fun b o e => by
      rw [upd_ne (ne_of_none e np), upd_ne (ne_of_none e ndx)]
      exact e
    refine ⟨H1, p, dx, rfl, sx, np, upd_same, fun H2 d1 d2 d3 gi t => ⟨rfl, ?_⟩⟩
    have ha2 : H2 a = some (.lst (as.map V.ref)) := t.same _ _ (cB _ _ _ c0 _ _ ha)
    refine ⟨_, rfl, a, rfl, ⟨_, sqL ha2⟩, ?_⟩
    have w := w_list (K := K) (a := a) (xs := as.map V.ref)
    refine ⟨fun i m n γ σ H' => m = as.length - i ∧ i ≤ as.length ∧ Ls.length + 1 ≤ i + n ∧ (∃ v2 v3, σ = [some (.ref a), some (.ref p), v2, v3]) ∧ ∃ B gk gi, C i γ B ∧ TS K B H' p ((lkOf as Ls).take i) ((Ls.take i).map (·.n)) gk gi dx d1 d2 d3 ∧ PT gk gi (edgesAll (Ls.take i)) ∧ (∀ m, m ∈ gk.map (·.1) ↔ ∃ L ∈ Ls.take i, m = L.n ∨ m ∈ L.ans) ∧ gk.length ≤ 9 * i,
      ⟨_, rfl, Nat.zero_le _, by omega, ⟨_, _, rfl⟩, H1, [], gi, c0, t, ⟨by simp, by simp, by simp, by simp [edgesAll], by simp⟩, by simp, Nat.le_refl _⟩, ?_⟩
    rintro i m n γ σ H4 ⟨rfl, hi, hn4, ⟨v2, v3, rfl⟩, B, gk, gi4, c4, t4, pt4, ks4, l4⟩
    have q4 : SqL K H4 a (as.map V.ref) := sqL (t4.same _ _ (cB _ _ _ c4 _ _ ha))
    by_cases hlt : i < as.length
    · refine .inr ⟨w.go i H4 q4 (by rw [List.length_map]; exact hlt), _, fun n' γ' σ' H' h => h, fun x H' y => ?_⟩
      obtain ⟨rfl, hv⟩ := w.yld i H4 x H' q4 (by rw [List.length_map]; exact hlt) y
      have hi2 : i < Ls.length := by omega
      rw [List.getElem?_map, List.getElem?_eq_getElem hlt] at hv
      cases hv
      have hLi : LetterAt K Bf as[i] Ls[i] := by
        obtain ⟨L, e, h⟩ := paired_at hL (List.getElem?_eq_getElem hlt)
        rw [List.getElem?_eq_getElem hi2] at e
        rw [Option.some.inj e]
        exact h
      have hLB : LetterAt K B as[i] Ls[i] := hLi.mono (cB _ _ _ c4)
      have hmem : Ls[i] ∈ Ls := List.getElem_mem hi2
      have ltk : (lkOf as Ls).take (i + 1) = (lkOf as Ls).take i ++ [(Ls[i].n, as[i])] := by
        rw [List.take_add_one, List.getElem?_eq_getElem (by rw [lkl]; exact hi2)]
        unfold lkOf
        rw [List.getElem_zipWith]
        rfl
      have Ltk : Ls.take (i + 1) = Ls.take i ++ [Ls[i]] := by
        rw [List.take_add_one, List.getElem?_eq_getElem hi2]
        rfl
      have hnew : Ls[i].n ∉ ((lkOf as Ls).take i).map (·.1) := by
        rw [List.map_take, lkOf_keys ll]
        have h2 : ((Ls.map (·.n)).take (i + 1)).Nodup := hnd.sublist (List.take_sublist _ _)
        rw [List.take_add_one, List.getElem?_eq_getElem (by rw [List.length_map]; exact hi2), List.nodup_append] at h2
        intro hm
        exact h2.2.2 _ hm Ls[i].n (by simp) rfl
      refine ⟨_, rfl, _, rfl, B, p, _, _, gk, gi4, dx, d1, d2, d3, as[i], Ls[i], rfl, t4, hLB.mono t4.same, hnew, h8 _ hmem, fun H5 j xs m s5 hJ hxs mxs h1 h2 => ?_⟩
      have jf := join_fact hi2 t4.nk pt4 ks4 mxs h1 h2
      obtain ⟨dj, w1, w2, tm, w5, w6, hj, htm⟩ := hJ
      have t5 := t4.mono s5
      have t6 := t5.know htm (fun c d fs e => by cases e) (fun z e => by cases e) (fun z e => by cases e)
      have t7 := t6.know hj (fun c d fs e => by cases e; rfl) (fun z e => by cases e) (fun z e => by cases e)
      have sk6 := same_know t5.same htm
      have sk7 := same_know t6.same hj
      have sk := sk6.trans sk7
      have ej : upd (upd B tm (.tup (xs.map V.int))) j (.ins (He.ga K "Join") dj (jfs w1 w2 tm m w5 w6)) j = some (.ins (He.ga K "Join") dj (jfs w1 w2 tm m w5 w6)) := upd_same
      have etm : upd (upd B tm (.tup (xs.map V.int))) j (.ins (He.ga K "Join") dj (jfs w1 w2 tm m w5 w6)) tm = some (.tup (xs.map V.int)) := sk7 _ _ upd_same
      generalize upd (upd B tm (.tup (xs.map V.int))) j (.ins (He.ga K "Join") dj (jfs w1 w2 tm m w5 w6)) = B7 at t7 sk7 sk ej etm
      refine ⟨_, rfl, p, dx, _, rfl, t7.ins, (by kernel_rfl), _, rfl, B7, p, _, _, gk, gi4, dx, d1, d2, d3, as[i], Ls[i], _, rfl, t7, hLB.mono sk, hnew, h8 _ hmem, pt4, by omega, by rw [List.length_take]; omega, by rw [List.length_map, List.length_take]; omega, fun H8 gk8 gi8 t8 pt8 ks8 l8 => ?_⟩
      have t9 := t8.less sk
      refine ⟨by omega, _, rfl, ?_⟩
      refine hstep i γ B H8 j xs m _ hi2 c4 t9.same ⟨dj, w1, w2, tm, w5, w6, t8.same _ _ ej, t8.same _ _ etm⟩ jf fun γ' B' H'' c' s' hk => ?_
      refine ⟨as.length - (i + 1), by omega, rfl, hlt, by omega, ⟨_, _, rfl⟩, B', gk8, gi8, c', ?_, ?_, fun m => ?_, by omega⟩
      · have t10 := t9.move s' hk
        rw [ltk, Ltk, List.map_append]
        exact t10
      · rw [Ltk]
        unfold edgesAll
        rw [List.flatMap_append]
        simpa [edgesAll] using pt8
      · rw [ks8, ks4, Ltk]
        constructor
        · rintro (⟨L, h1, h2⟩ | h)
          · exact ⟨L, List.mem_append_left _ h1, h2⟩
          · exact ⟨_, List.mem_append_right _ (List.mem_singleton.mpr rfl), h⟩
        · rintro ⟨L, h1, h2⟩
          rcases List.mem_append.mp h1 with h1 | h1
          · exact .inl ⟨L, h1, h2⟩
          · rw [List.mem_singleton.mp h1] at h2
            exact .inr h2
    · have e : i = Ls.length := by omega
      refine .inl ⟨w.stop i H4 q4 (by rw [List.length_map]; omega), ?_⟩
      rw [e] at c4
      exact hend γ B H4 c4 t4.same
end
end K75
end T_E3

section T_E4
set_option Elab.async false
set_option linter.all false
set_option maxRecDepth 100000
set_option maxHeartbeats 4000000
namespace K75
open PySem PySem.Spec PyProof.Rows L2 TL
/-! ### a dict of lists, all made of late -/
structure LS (B H : Hp) (r : Addr) (ld : List (Int × Addr)) (li : Addr → List Int) (N : Nat) : Prop where
  same : Same B H
  br : B r = none
  hr : H r = some (.dK (dki ld))
  nk : (ld.map (·.1)).Nodup
  low : ∀ q ∈ ld, H q.2 = some (.lst ((li q.2).map V.int)) ∧ B q.2 = none ∧ (li q.2).length ≤ N
  inj : (ld.map (·.2)).Nodup
  sz : ld.length ≤ N
def Lk (ld : List (Int × Addr)) (li : Addr → List Int) (u v : Int) : Prop := ∃ b, (u, b) ∈ ld ∧ v ∈ li b
theorem LS.mono {B H H' : Hp} {r : Addr} {ld : List (Int × Addr)} {li : Addr → List Int} {N : Nat} (t : LS B H r ld li N) (s : Same H H') : LS B H' r ld li N :=
  ⟨t.same.trans s, t.br, s _ _ t.hr, t.nk, fun q hq => ⟨s _ _ (t.low q hq).1, (t.low q hq).2⟩, t.inj, t.sz⟩
/-- d.setdefault(x, []).append(y) -/
theorem ls_push {K : PySem.W.Frag} {B H : Hp} {r : Addr} {ld : List (Int × Addr)} {li : Addr → List Int} {N : Nat} {σ : L2.St} {i j k : Nat} {x y : Int} {Q : VK} (t : LS B H r ld li N) (hN : N ≤ 900) (hk : σ[k]? = some (some (.ref r))) (hi : σ[i]? = some (some (.int x))) (hj : σ[j]? = some (some (.int y)))
    (q : ∀ H' ld' li', LS B H' r ld' li' (N + 1) → (∀ u v, Lk ld' li' u v ↔ Lk ld li u v ∨ (u = x ∧ v = y)) → Q .non H') :
    tBM K "list" rAppend (tDSetd (tVar k) (tVar i) (tLst tNil)) (tCons (tVar j) tNil) σ H Q := by
  refine ⟨_, hk, r, rfl, .inl ⟨_, .inl t.hr⟩, _, hi, Nat.zero_le _, fun l nl => ?_⟩
  generalize e1 : upd H l _ = H1
  obtain ⟨s1, h1⟩ := gen_upd nl e1
  have t1 := t.mono s1
  refine ⟨_, Sum.inl x, t1.hr, rfl, sz_lt (by rw [dki_len]; have := t.sz; omega), fun v hv => ?_, fun hv => ?_⟩
  · rw [valV_dki] at hv
    cases hb : atK ld x with
    | none => rw [hb] at hv; cases hv
    | some b =>
      rw [hb] at hv
      cases hv
      have hb := (atK_some t.nk).mp hb
      obtain ⟨l1, l2, l3⟩ := t1.low _ hb
      have l1 : H1 b = some (.lst ((li b).map V.int)) := l1
      have l3 : (li b).length ≤ N := l3
      have l2 : B b = none := l2
      refine ⟨.inl ⟨rfl, _, sqL l1⟩, _, hj, b, _, _, rfl, rfl, l1, sz_lt (by rw [List.length_map]; omega), ?_⟩
      generalize e2 : upd H1 b _ = H2
      obtain ⟨h2, k2⟩ := gen_mut e2
      refine q H2 ld (fun a => if a = b then li b ++ [y] else li a) ⟨by rw [← e2]; exact same_mut t1.same l2, t.br, (k2 _ (ne_of t1.hr l1 (by intro z; cases z))).trans t1.hr, t.nk, fun q hq => ?_, t.inj, by have := t.sz; omega⟩ fun u v => ?_
      · show H2 q.2 = some (.lst ((if q.2 = b then li b ++ [y] else li q.2).map V.int)) ∧ _ ∧ (if q.2 = b then li b ++ [y] else li q.2).length ≤ N + 1
        by_cases e : q.2 = b
        · rw [if_pos e, e]
          exact ⟨by rw [h2, List.map_append]; rfl, l2, by rw [List.length_append]; show _ + 1 ≤ _; omega⟩
        · rw [if_neg e, k2 _ e]
          obtain ⟨a1, a2, a3⟩ := t1.low q hq
          exact ⟨a1, a2, by omega⟩
      · constructor
        · rintro ⟨c, hc, hv⟩
          have hv : v ∈ (if c = b then li b ++ [y] else li c) := hv
          by_cases e : c = b
          · rw [if_pos e, List.mem_append, List.mem_singleton] at hv
            rw [e] at hc
            have eu : u = x := congrArg Prod.fst (inj_at t.inj hc hb rfl)
            rcases hv with hv | hv
            · exact .inl ⟨b, hc, hv⟩
            · exact .inr ⟨eu, hv⟩
          · rw [if_neg e] at hv
            exact .inl ⟨c, hc, hv⟩
        · rintro (⟨c, hc, hv⟩ | ⟨rfl, rfl⟩)
          · refine ⟨c, hc, ?_⟩
            show v ∈ (if c = b then li b ++ [y] else li c)
            by_cases e : c = b
            · rw [if_pos e]
              exact List.mem_append_left _ (e ▸ hv)
            · rw [if_neg e]
              exact hv
          · refine ⟨b, hb, ?_⟩
            show v ∈ (if b = b then li b ++ [v] else li b)
            rw [if_pos rfl]
            exact List.mem_append_right _ (List.mem_singleton.mpr rfl)
  · rw [valV_dki, Option.map_eq_none_iff, atK_none] at hv
    rw [dki_put hv]
    generalize e2 : upd H1 r _ = H2
    obtain ⟨h2, k2⟩ := gen_mut e2
    have lr : l ≠ r := fun e => by rw [e, t.hr] at nl; cases nl
    have l2 : H2 l = some (.lst []) := (k2 _ lr).trans h1
    have nBl : B l = none := t.same.free nl
    have ql : ∀ q ∈ ld, q.2 ≠ l := fun q hq e => by
      have := (t.low q hq).1
      rw [e, nl] at this
      cases this
    refine ⟨.inl ⟨rfl, _, sqL l2⟩, _, hj, l, _, _, rfl, rfl, l2, sz_lt (by show 0 < 100000; decide), ?_⟩
    generalize e3 : upd H2 l _ = H3
    obtain ⟨h3, k3⟩ := gen_mut e3
    refine q H3 (ld ++ [(x, l)]) (fun a => if a = l then [y] else li a) ⟨?_, t.br, (k3 _ lr.symm).trans h2, ?_, fun q hq => ?_, ?_, by rw [List.length_append]; have := t.sz; show ld.length + 1 ≤ _; omega⟩ fun u v => ?_
    · rw [← e3]
      refine same_mut ?_ nBl
      rw [← e2]
      exact same_mut t1.same t.br
    · rw [List.map_append, List.nodup_append]
      exact ⟨t.nk, by simp, fun a ha b hb e => hv (by have e2 : a = x := e.trans (List.mem_singleton.mp hb); rw [← e2]; exact ha)⟩
    · show H3 q.2 = some (HO.lst ((if q.2 = l then [y] else li q.2).map V.int)) ∧ _ ∧ (if q.2 = l then [y] else li q.2).length ≤ N + 1
      rcases List.mem_append.mp hq with hq | hq
      · obtain ⟨a1, a2, a3⟩ := t1.low q hq
        rw [if_neg (ql q hq), k3 _ (ql q hq), k2 _ (ne_of a1 t1.hr (by intro z; cases z))]
        exact ⟨a1, a2, by omega⟩
      · rw [List.mem_singleton.mp hq, if_pos rfl]
        exact ⟨h3, nBl, by show 1 ≤ N + 1; omega⟩
    · rw [List.map_append, List.nodup_append]
      exact ⟨t.inj, by simp, fun a ha b hb e => by
        obtain ⟨q, hq, e2⟩ := List.mem_map.mp ha
        exact ql q hq (by rw [e2, e]; exact List.mem_singleton.mp hb)⟩
    · constructor
      · rintro ⟨c, hc, hv⟩
        have hv : v ∈ (if c = l then [y] else li c) := hv
        rcases List.mem_append.mp hc with hc | hc
        · rw [if_neg (ql _ hc)] at hv
          exact .inl ⟨c, hc, hv⟩
        · have := List.mem_singleton.mp hc
          cases this
          rw [if_pos rfl, List.mem_singleton] at hv
          exact .inr ⟨rfl, hv⟩
      · rintro (⟨c, hc, hv⟩ | ⟨rfl, rfl⟩)
        · refine ⟨c, List.mem_append_left _ hc, ?_⟩
          show v ∈ (if c = l then [y] else li c)
          rw [if_neg (ql _ hc)]
          exact hv
        · refine ⟨l, List.mem_append_right _ (List.mem_singleton.mpr rfl), ?_⟩
          show v ∈ (if l = l then [v] else li l)
          rw [if_pos rfl]
          exact List.mem_singleton.mpr rfl
end K75
end T_E4

section T_E5
set_option Elab.async false
set_option linter.all false
set_option maxRecDepth 100000
set_option maxHeartbeats 4000000
namespace K75
open PySem PySem.Spec PyProof.Rows L2 TL
/-- what the list ps of pairs links -/
def LkP (ps : Edges) (u v : Int) : Prop := (u, v) ∈ ps ∨ (v, u) ∈ ps
theorem lkP_add {ps : Edges} {a b u v : Int} : LkP (ps ++ [(a, b)]) u v ↔ (LkP ps u v ∨ (u = a ∧ v = b)) ∨ (u = b ∧ v = a) := by
  unfold LkP
  rw [List.mem_append, List.mem_append, List.mem_singleton, List.mem_singleton, Prod.mk.injEq, Prod.mk.injEq]
  constructor
  · rintro ((h | h) | (h | ⟨h1, h2⟩))
    · exact .inl (.inl (.inl h))
    · exact .inl (.inr h)
    · exact .inl (.inl (.inr h))
    · exact .inr ⟨h2, h1⟩
  · rintro (((h | h) | h) | ⟨h1, h2⟩)
    · exact .inl (.inl h)
    · exact .inr (.inl h)
    · exact .inl (.inr h)
    · exact .inr (.inr ⟨h2, h1⟩)
/-- the letters of the thread at g, with their answers -/
def Ed (Ls : List Lt) (gk : List (Int × Addr)) (g : Addr) (u v : Int) : Prop := ∃ L ∈ Ls, L.n = u ∧ (u, g) ∈ gk ∧ v ∈ L.ans
def sp_linked_numbers (K : PySem.W.Frag) : Sp := fun vs H Q _ => ∃ (G : Hp) (p : Addr) (as : List Addr) (Ls : List Lt) (od : List Int) (gk : List (Int × Addr)) (gi : Addr → GI) (dx d1 d2 d3 : Addr) (E : Edges) (n : Int) (g : Addr), vs = [.ref p, .int n] ∧ TS K G H p (lkOf as Ls) od gk gi dx d1 d2 d3 ∧ PT gk gi E ∧ (n, g) ∈ gk ∧ LettersAt K H as Ls ∧ Ls.length ≤ 16 ∧ (Ls.map (·.n)).Nodup ∧ (∀ L ∈ Ls, L.ans.length ≤ 8) ∧ gk.length ≤ 900 ∧
  ∀ H' r ld li, LS H H' r ld li 400 → (∀ u v, Lk ld li u v ↔ Ed Ls gk g u v ∨ Ed Ls gk g v u) → Q (.ref r) H'
theorem lt_one {Ls : List Lt} (h : (Ls.map (·.n)).Nodup) {L M : Lt} (hL : L ∈ Ls) (hM : M ∈ Ls) (e : L.n = M.n) : L = M := by
  induction Ls with
  | nil => cases hL
  | cons z l ih =>
    have h2 := List.nodup_cons.mp h
    rcases List.mem_cons.mp hL with rfl | hL2 <;> rcases List.mem_cons.mp hM with rfl | hM2
    · rfl
    · exact (h2.1 (List.mem_map.mpr ⟨M, hM2, e.symm⟩)).elim
    · exact (h2.1 (List.mem_map.mpr ⟨L, hL2, e⟩)).elim
    · exact ih h2.2 hL2 hM2
theorem lkOf_mem {as : List Addr} {Ls : List Lt} (h : as.length = Ls.length) {n : Int} {a : Addr} (hm : (n, a) ∈ lkOf as Ls) : ∃ i, ∃ (h1 : i < as.length) (h2 : i < Ls.length), as[i] = a ∧ Ls[i].n = n := by
  obtain ⟨i, hi, e⟩ := List.getElem_of_mem hm
  unfold lkOf at hi e
  rw [List.length_zipWith] at hi
  rw [List.getElem_zipWith] at e
  have h1 : i < as.length := by omega
  have h2 : i < Ls.length := by omega
  cases e
  exact ⟨i, h1, h2, rfl, rfl⟩
section
variable {P : Program} {w : World} {K : PySem.W.Frag} {mg : PySem.Str → Option Value} {base : Heap}
abbrev sc_linked_numbers_N : List PySem.Str := ["threads", "number", "linked", "member", "answered"]
theorem sc_linked_numbers : FnScope sc_linked_numbers_N ["threads", "number"] (defScope s_linked_numbers) := ⟨rfl, rfl, rfl, by decide +kernel, rfl, by decide +kernel, by decide +kernel⟩
theorem ok_linked_numbers (W : Wd K mg) : Ok P w K mg base 2 d_linked_numbers ["threads", "number"] (sp_linked_numbers K) := by
  refine ok_mk W.d_linked_numbers sc_linked_numbers (fun _ _ _ _ _ _ us hl => match us, hl with | [_, _], _ => rfl) (fun vs H Q E h => ?_) (fun cdv A outer s H vs Q E hr h => ?_)
  · obtain ⟨G, p, as, Ls, od, gk, gi, dx, d1, d2, d3, E, n, g, rfl, _⟩ := h
    rfl
  · obtain ⟨G, p, as, Ls, od, gk, gi, dx, d1, d2, d3, E', n, g, rfl, t, pt, hng, hL, h16, hnd, h8, h9, q⟩ := h
    have hu := hu_of hr
    have nd := sc_linked_numbers.nd
    refine ⟨_, (pss_cons (ps_set (i := 2) nd rfl (Or.inl rfl) pe_dnewK)
    (pss_cons (ps_for PassesOwn.never rfl (pi_tup (pe_o (pv 0) W.c_Threads (ok_Threads_members W) W.m_Threads_members (hr.mono (by decide)) (pa_cons (pv 1) pa_nil))) (pg_name (i := 3) nd rfl (Or.inl rfl))
      (pss_one (ps_for PassesOwn.never rfl (pi_tup (kfld K (pe_o (pv 0) W.c_Threads (ok_Threads_letter_at W) W.m_Threads_letter_at (hr.mono (by decide)) (pa_cons (pv 3) pa_nil)) rfl)) (pg_name (i := 4) nd rfl (Or.inl rfl))
        (pss_cons (ps_expr (kbm K PySem.F.plainAttrs_list PySem.F.slot_list_append PySem.F.type_list_append mt_append (pe_dsetd (pv 2) (pv 3) (pe_lst pa_nil) ⟨rfl, rfl, rfl, rfl⟩) (pa_cons (pv 4) pa_nil)))
        (pss_one (ps_expr (kbm K PySem.F.plainAttrs_list PySem.F.slot_list_append PySem.F.type_list_append mt_append (pe_dsetd (pv 2) (pv 4) (pe_lst pa_nil) ⟨rfl, rfl, rfl, rfl⟩) (pa_cons (pv 3) pa_nil))))))))
    (pss_one (ps_ret (pv 2))))), ?_⟩
    have ll : as.length = Ls.length := Paired.length hL
    refine fun r nr => ?_
    generalize e1 : upd H r _ = H1
    obtain ⟨s1, h1⟩ := gen_upd nr e1
    have t1 := t.mono s1
    obtain ⟨dg, hg1, hg2⟩ := (t.grp _ hng).1
    have knd := pt.knd _ hng
    have knd : (gi g).kn.Nodup := knd
    have kmem := pt.mem _ hng
    have kmem : ∀ m, m ∈ (gi g).kn ↔ (m, g) ∈ gk := kmem
    have knl : (gi g).kn.length ≤ 900 := by
      have := nodup_sub (ys := gk.map (·.1)) knd fun x hx => List.mem_map.mpr ⟨_, (kmem x).mp hx, rfl⟩
      rw [List.length_map] at this
      omega
    refine ⟨_, rfl, p, dx, _, rfl, t1.ins, (by kernel_rfl), _, rfl, G, p, _, od, gk, gi, dx, d1, d2, d3, n, g, rfl, t1, hng, knd, knl, fun H2 tx xs s2 ntx htx hxs mxs => ?_⟩
    have xnd : xs.Nodup := hxs.imp fun h e => by omega
    have xl : xs.length ≤ 16 := by
      have := nodup_sub (ys := Ls.map (·.n)) xnd fun x hx => by
        have := ((mxs x).mp hx).2
        rw [lkOf_keys ll] at this
        exact this
      rw [List.length_map] at this
      omega
    -- the tuple of the members is to stay, too
    have nHx : H tx = none := s1.free ntx
    have sB : Same (upd H tx (.tup (xs.map V.int))) H2 := fun b o hb => by
      by_cases e : b = tx
      · rw [e, upd_same] at hb
        rw [e, htx]
        exact hb
      · rw [upd_ne e] at hb
        exact s2 _ _ (s1 _ _ hb)
    have rtx : r ≠ tx := fun e => by rw [e] at h1; rw [h1] at ntx; cases ntx
    generalize eB : upd H tx (.tup (xs.map V.int)) = B at sB
    obtain ⟨sHB, hBtx⟩ := gen_upd nHx eB
    have nBr : B r = none := by rw [← eB, upd_ne rtx]; exact nr
    have tB : ∀ {H' : Hp}, Same B H' → TS K G H' p (lkOf as Ls) od gk gi dx d1 d2 d3 := fun s => t.mono (sHB.trans s)
    refine ⟨tx, rfl, ⟨_, sqT htx⟩, ?_⟩
    refine for_walk (w_tup (xs := xs.map V.int)) (fun i σ H' => (∃ v3 v4, σ = [some (.ref p), some (.int n), some (.ref r), v3, v4]) ∧ ∃ ld li ps, LS B H' r ld li (16 * i) ∧ (∀ u v, Lk ld li u v ↔ LkP ps u v) ∧ ∀ u v, (u, v) ∈ ps ↔ u ∈ xs.take i ∧ Ed Ls gk g u v) ?_ (fun i σ H' _ h => ?_) ?_ ?_
    · refine ⟨⟨_, _, rfl⟩, [], fun _ => [], [], ⟨sB, nBr, s2 _ _ h1, List.nodup_nil, fun q hq => (by cases hq), List.nodup_nil, Nat.zero_le _⟩, fun u v => ?_, fun u v => ?_⟩
      · constructor
        · rintro ⟨b, hb, _⟩; cases hb
        · rintro (h | h) <;> cases h
      · simp
    · obtain ⟨_, ld, li, ps, h, _⟩ := h
      exact sqT (h.same _ _ hBtx)
    · rintro i v σ Hz H4 hi ⟨rfl, hv⟩ ⟨⟨v3, v4, rfl⟩, ld, li, ps, t4, k4, m4⟩
      rw [List.length_map] at hi
      rw [List.getElem?_map, List.getElem?_eq_getElem hi] at hv
      cases hv
      obtain ⟨hxk, hxl⟩ := (mxs xs[i]).mp (List.getElem_mem hi)
      obtain ⟨⟨k0, a⟩, ha, e0⟩ := List.mem_map.mp hxl
      have ha : (xs[i], a) ∈ lkOf as Ls := by rw [← e0]; exact ha
      obtain ⟨j, hj1, hj2, ea, en⟩ := lkOf_mem ll ha
      have hLa : LetterAt K H a Ls[j] := by
        obtain ⟨L, e, h⟩ := paired_at hL (List.getElem?_eq_getElem hj1)
        rw [List.getElem?_eq_getElem hj2] at e
        rw [Option.some.inj e, ← ea]
        exact h
      have hLB := hLa.mono sHB
      have hmem : Ls[j] ∈ Ls := List.getElem_mem hj2
      have t4' := tB t4.same
      refine ⟨_, rfl, p, dx, _, rfl, t4'.ins, (by kernel_rfl), _, rfl, G, p, _, od, gk, gi, dx, d1, d2, d3, xs[i], rfl, t4', ?_⟩
      rw [(atK_some t.nl).mpr ha]
      obtain ⟨dl, u1, u2, u3, hc1, hc2, _⟩ := hLB
      refine ⟨a, _, dl, _, .ref u1, rfl, t4.same _ _ hc1, W.c_Letter, W.n_Letter_answers, lf_answers _ _ _ _, u1, rfl, ⟨_, sqT (t4.same _ _ hc2)⟩, ?_⟩
      have h88 := h8 _ hmem
      refine for_walk (w_tup (xs := Ls[j].ans.map V.int)) (fun k σ H' => (∃ v4, σ = [some (.ref p), some (.int n), some (.ref r), some (.int xs[i]), v4]) ∧ ∃ ld li, LS B H' r ld li (16 * i + 2 * k) ∧ (∀ u v, Lk ld li u v ↔ LkP (ps ++ (Ls[j].ans.take k).map fun z => (xs[i], z)) u v)) ?_ (fun k σ H' _ h => ?_) ?_ ?_
      · refine ⟨⟨_, rfl⟩, ld, li, t4, fun u v => ?_⟩
        rw [List.take_zero, List.map_nil, List.append_nil]
        exact k4 u v
      · obtain ⟨_, ld, li, h, _⟩ := h
        exact sqT (h.same _ _ hc2)
      · rintro k v σ Hz H5 hk ⟨rfl, hv⟩ ⟨⟨v4, rfl⟩, ld5, li5, t5, k5⟩
        rw [List.length_map] at hk
        rw [List.getElem?_map, List.getElem?_eq_getElem hk] at hv
        cases hv
        refine ls_push t5 (by omega) rfl rfl rfl fun H6 ld6 li6 t6 k6 => ?_
        refine ls_push t6 (by omega) rfl rfl rfl fun H7 ld7 li7 t7 k7 => ?_
        refine ⟨⟨_, rfl⟩, ld7, li7, by rw [show 16 * i + 2 * (k + 1) = 16 * i + 2 * k + 1 + 1 by omega]; exact t7, fun u v => ?_⟩
        rw [k7, k6, k5, List.take_add_one, List.getElem?_eq_getElem hk, List.map_append, ← List.append_assoc]
        exact lkP_add.symm
      · rintro σ H5 ⟨⟨v4, rfl⟩, ld5, li5, t5, k5⟩
        rw [List.length_map] at t5 k5
        rw [List.take_length] at k5
        refine ⟨⟨_, _, rfl⟩, ld5, li5, _, ⟨t5.same, t5.br, t5.hr, t5.nk, fun q hq => ?_, t5.inj, by have := t5.sz; omega⟩, k5, fun u v => ?_⟩
        · obtain ⟨a1, a2, a3⟩ := t5.low q hq
          exact ⟨a1, a2, by omega⟩
        · rw [List.mem_append, m4, List.take_add_one, List.getElem?_eq_getElem hi, List.mem_append, List.mem_map]
          constructor
          · rintro (⟨h1, h2⟩ | ⟨z, hz, e⟩)
            · exact ⟨.inl h1, h2⟩
            · cases e
              exact ⟨.inr (by simp), Ls[j], hmem, en, (kmem _).mp hxk, hz⟩
          · rintro ⟨h1 | h1, L, hL1, hL2, hL3, hL4⟩
            · exact .inl ⟨h1, L, hL1, hL2, hL3, hL4⟩
            · have eu : u = xs[i] := by simpa using h1
              refine .inr ⟨v, ?_, by rw [eu]⟩
              have : L = Ls[j] := lt_one hnd hL1 hmem (by rw [hL2, en, eu])
              rw [← this]
              exact hL4
    · rintro σ H4 ⟨⟨v3, v4, rfl⟩, ld, li, ps, t4, k4, m4⟩
      rw [List.length_map] at t4 m4
      rw [List.take_length] at m4
      refine ⟨_, rfl, q H4 r ld li ⟨sHB.trans t4.same, nr, t4.hr, t4.nk, fun q hq => ?_, t4.inj, by have := t4.sz; omega⟩ fun u v => ?_⟩
      · obtain ⟨a1, a2, a3⟩ := t4.low q hq
        exact ⟨a1, sHB.free a2, by omega⟩
      · have full : ∀ u v, Ed Ls gk g u v → u ∈ xs := fun u v ⟨L, h1, h2, h3, _⟩ => (mxs u).mpr ⟨(kmem u).mpr h3, by
          rw [lkOf_keys ll]
          exact List.mem_map.mpr ⟨L, h1, h2⟩⟩
        rw [k4]
        unfold LkP
        rw [m4, m4]
        exact ⟨fun h => h.imp And.right And.right, fun h => h.imp (fun h => ⟨full _ _ h, h⟩) fun h => ⟨full _ _ h, h⟩⟩
end
end K75
end T_E5

section T_E6
set_option Elab.async false
set_option linter.all false
set_option maxRecDepth 100000
set_option maxHeartbeats 4000000
namespace K75
open PySem PySem.Spec PyProof.Rows L2 TL
/-! ### steps to an end -/
def spA (sp : List (Int × Int)) : Abv := sp.map fun q => (q.1, some q.2)
theorem spA_keys (sp : List (Int × Int)) : (spA sp).map (·.1) = sp.map (·.1) := by
  unfold spA
  rw [List.map_map]
  rfl
theorem spA_len (sp : List (Int × Int)) : (spA sp).length = sp.length := List.length_map _
theorem spA_mem {sp : List (Int × Int)} {n k : Int} (h : (n, k) ∈ sp) : (n, some k) ∈ spA sp := List.mem_map.mpr ⟨_, h, rfl⟩
theorem spA_get {sp : List (Int × Int)} (nd : (sp.map (·.1)).Nodup) {H : Hp} {a : Addr} (h : H a = some (.dK (dka (spA sp)))) {n k : Int} (hm : (n, k) ∈ sp) : DGet H a (.int n) (some (.int k)) := by
  have := DGet.k (k := Sum.inl n) h
  rw [valV_dka, (atO_some (by rw [spA_keys]; exact nd)).mpr (spA_mem hm)] at this
  exact this
theorem spA_put {sp : List (Int × Int)} {n k : Int} (h : n ∉ sp.map (·.1)) : putK (dka (spA sp)) (Sum.inl n) (.int k) = dka (spA (sp ++ [(n, k)])) := by
  rw [putK_new (by
    unfold dka spA
    rw [List.map_map, List.map_map]
    intro z
    obtain ⟨q, hq, e⟩ := List.mem_map.mp z
    injection e with e
    exact h (List.mem_map.mpr ⟨q, hq, e⟩))]
  unfold dka spA
  rw [List.map_append, List.map_append]
  rfl
structure SI (e : Int) (R : Int → Int → Prop) (U : List Int) (sp : List (Int × Int)) : Prop where
  nd : (sp.map (·.1)).Nodup
  e0 : (e, 0) ∈ sp
  st : ∀ q ∈ sp, 0 ≤ q.2 ∧ q.2 < (sp.length : Int) ∧ ((q.1 = e ∧ q.2 = 0) ∨ ∃ m, (m, q.2 - 1) ∈ sp ∧ R m q.1)
  un : ∀ n ∈ sp.map (·.1), n ∈ U
theorem SI.add {e : Int} {R : Int → Int → Prop} {U : List Int} {sp : List (Int × Int)} (s : SI e R U sp) {n o k : Int} (hn : (n, k) ∈ sp) (hr : R n o) (ho : o ∉ sp.map (·.1)) (hu : o ∈ U) : SI e R U (sp ++ [(o, k + 1)]) := by
  refine ⟨?_, List.mem_append_left _ s.e0, fun q hq => ?_, fun x hx => ?_⟩
  · rw [List.map_append, List.nodup_append]
    exact ⟨s.nd, by simp, fun a ha b hb e => ho (by have e2 : a = o := e.trans (List.mem_singleton.mp hb); rw [← e2]; exact ha)⟩
  · rw [List.length_append]
    have h1 := s.st _ hn
    have e1 : (([(o, k + 1)] : List (Int × Int)).length : Int) = 1 := rfl
    rcases List.mem_append.mp hq with hq | hq
    · obtain ⟨a, b, c⟩ := s.st q hq
      refine ⟨a, by rw [Int.natCast_add, e1]; omega, c.imp id fun ⟨m, h1, h2⟩ => ⟨m, List.mem_append_left _ h1, h2⟩⟩
    · rw [List.mem_singleton.mp hq]
      have a : 0 ≤ k := h1.1
      have b : k < (sp.length : Int) := h1.2.1
      refine ⟨by show 0 ≤ k + 1; omega, by show k + 1 < _; rw [Int.natCast_add, e1]; omega, .inr ⟨n, List.mem_append_left _ (by show (n, k + 1 - 1) ∈ sp; rw [Int.add_sub_cancel]; exact hn), hr⟩⟩
  · rw [List.map_append] at hx
    rcases List.mem_append.mp hx with hx | hx
    · exact s.un x hx
    · rw [List.mem_singleton.mp hx]
      exact hu
def sp_steps_to (K : PySem.W.Frag) : Sp := fun vs H Q _ => ∃ (B : Hp) (r : Addr) (ld : List (Int × Addr)) (li : Addr → List Int) (e : Int), vs = [.ref r, .int e] ∧ LS B H r ld li 400 ∧ (∀ u v, Lk ld li u v → Lk ld li v u) ∧
  ∀ H' s sp, Same H H' → H' s = some (.dK (dka (spA sp))) → SI e (Lk ld li) (e :: ld.map (·.1)) sp → (∀ q ∈ sp, ∀ m, Lk ld li q.1 m → m ∈ sp.map (·.1)) → Q (.ref s) H'
section
variable {P : Program} {w : World} {K : PySem.W.Frag} {mg : PySem.Str → Option Value} {base : Heap}
abbrev sc_steps_to_N : List PySem.Str := ["linked", "end", "steps", "queue", "at", "number", "other"]
theorem sc_steps_to : FnScope sc_steps_to_N ["linked", "end"] (defScope s_steps_to) := ⟨rfl, rfl, rfl, by decide +kernel, rfl, by decide +kernel, by decide +kernel⟩
theorem ok_steps_to (W : Wd K mg) : Ok P w K mg base 1 d_steps_to ["linked", "end"] (sp_steps_to K) := by
  refine ok_mk W.d_steps_to sc_steps_to (fun _ _ _ _ _ _ us hl => match us, hl with | [_, _], _ => rfl) (fun vs H Q E h => ?_) (fun cdv A outer s H vs Q E hr h => ?_)
  · obtain ⟨B, r, ld, li, e, rfl, _⟩ := h
    rfl
  · obtain ⟨B, r, ld, li, e, rfl, t, sym, q⟩ := h
    have hu := hu_of hr
    have nd := sc_steps_to.nd
    refine ⟨_, (pss_cons (ps_set (i := 2) nd rfl (Or.inl rfl) (pe_disp (pps_cons (pv 1) pe_int pps_nil) rfl rfl (by intro z; cases z) (by show 1 ≤ 15; decide)))
    (pss_cons (ps_set (i := 3) nd rfl (Or.inl rfl) (pe_lst (pa_cons (pv 1) pa_nil)))
    (pss_cons (ps_set (i := 4) nd rfl (Or.inl rfl) pe_int)
    (pss_cons (ps_while PassesOwn.never (pt_cmpR op_lt (pv 4) (pe_callB (klen_seq K) rfl W.f_len PySem.boot_len (pa_cons (pv 3) pa_nil)) (nomark _))
      (pss_cons (ps_set (i := 5) nd rfl (Or.inl rfl) (pe_ix (kix_list K) (pv 3) (pv 4) (fun _ _ => rfl)))
      (pss_cons (ps_aug (i := 4) nd rfl (Or.inl rfl) pe_int ip_add)
      (pss_one (ps_for PassesOwn.never rfl (pi_list (pe_dget2 hu (pv 0) (pv 5) (pe_lst pa_nil) ⟨rfl, rfl, rfl, rfl⟩)) (pg_name (i := 6) nd rfl (Or.inl rfl))
        (pss_one (ps_if (pt_cmp (pc_dnotin hu (pv 6) (pv 2)))
          (pss_cons (ps_dput hu (pv 2) (pv 6) (pe_op op_add (pe_dget hu (pv 2) (pv 5) (fun _ _ => rfl)) pe_int) rfl)
          (pss_one (ps_expr (kbm K PySem.F.plainAttrs_list PySem.F.slot_list_append PySem.F.type_list_append mt_append (pv 3) (pa_cons (pv 6) pa_nil)))))
          pss_nil)))))))
    (pss_one (ps_ret (pv 2))))))), ?_⟩
    intro ds nds
    refine ⟨_, rfl, upd_same, [(Sum.inl e, .int 0)], rfl, by show 1 ≤ 15; decide, ?_⟩
    have es : upd (upd H ds (.dK [])) ds (.dK (mergeK [] [((Sum.inl e : Key), V.int 0)])) = upd H ds (.dK (dka (spA [(e, 0)]))) := by
      funext b
      by_cases h : b = ds
      · rw [h, upd_same, upd_same]
        rfl
      · rw [upd_ne h, upd_ne h, upd_ne h]
    rw [es]
    generalize e1 : upd H ds _ = H1
    obtain ⟨s1, h1⟩ := gen_upd nds e1
    refine ⟨_, rfl, sz_le (by show 1 ≤ 100000; decide), fun qa nqa => ?_⟩
    generalize e2 : upd H1 qa _ = H2
    obtain ⟨s2, h2⟩ := gen_upd nqa e2
    have ndq : ds ≠ qa := fun e => by rw [e] at h1; rw [h1] at nqa; cases nqa
    have nq : H qa = none := s1.free nqa
    refine ⟨fun m σ H' => ∃ (i : Nat) (sp : List (Int × Int)) (v5 v6 : Option V), m = ld.length + 1 - i ∧ i ≤ sp.length ∧ σ = [some (.ref r), some (.int e), some (.ref ds), some (.ref qa), some (.int (i : Int)), v5, v6] ∧ Same H H' ∧ H' ds = some (.dK (dka (spA sp))) ∧ H' qa = some (.lst ((sp.map (·.1)).map V.int)) ∧ SI e (Lk ld li) (e :: ld.map (·.1)) sp ∧ (∀ q ∈ sp.take i, ∀ m, Lk ld li q.1 m → m ∈ sp.map (·.1)),
      ⟨_, 0, [(e, 0)], _, _, rfl, Nat.zero_le _, rfl, s1.trans s2, s2 _ _ h1, h2, ⟨by simp, by simp, fun q hq => ?_, by simp⟩, by simp⟩, ?_⟩
    · rw [List.mem_singleton.mp hq]
      exact ⟨Int.le_refl _, by show (0 : Int) < 1; decide, .inl ⟨rfl, rfl⟩⟩
    rintro m σ H3 ⟨i, sp, v5, v6, rfl, hi, rfl, s3, hds, hqa, si, cl⟩
    have spl : sp.length ≤ ld.length + 1 := by
      have := nodup_sub si.nd si.un
      rw [List.length_map, List.length_cons, List.length_map] at this
      exact this
    have ldl := t.sz
    refine ⟨_, rfl, _, rfl, qa, _, rfl, .inl (sqL hqa), _, _, rfl, rfl, _, rfl, ?_⟩
    rw [List.length_map, List.length_map]
    by_cases hlt : i < sp.length
    rotate_left
    · rw [decide_eq_false (by omega)]
      have ei : i = sp.length := by omega
      rw [ei, List.take_length] at cl
      exact iteF ⟨_, rfl, q H3 ds sp s3 hds si cl⟩
    rw [decide_eq_true (by omega)]
    refine iteT ⟨_, fun σ' H' h => h, ?_⟩
    have hix : atI ((sp.map (·.1)).map V.int) (i : Int) = some (.int sp[i].1) := atI_nat (by rw [List.getElem?_map, List.getElem?_map, List.getElem?_eq_getElem hlt]; rfl)
    refine ⟨_, rfl, _, rfl, qa, _, _, _, rfl, rfl, sqL hqa, hix, ?_⟩
    refine ⟨_, rfl, _, _, rfl, rfl, ?_⟩
    have t3 := t.mono s3
    refine ⟨_, rfl, r, rfl, .inl ⟨_, .inl t3.hr⟩, _, rfl, Nat.zero_le _, fun l0 nl0 => ?_⟩
    generalize e4 : upd H3 l0 _ = H4
    obtain ⟨s4, h4⟩ := gen_upd nl0 e4
    have t4 := t3.mono s4
    obtain ⟨a, ys, ea, ha, hys, nad, naq, hyl⟩ : ∃ (a : Addr) (ys : List Int), (valV (dki ld) (Sum.inl sp[i].1)).getD (.ref l0) = .ref a ∧ H4 a = some (.lst (ys.map V.int)) ∧ (∀ v, v ∈ ys ↔ Lk ld li sp[i].1 v) ∧ a ≠ ds ∧ a ≠ qa ∧ ys.length ≤ 400 := by
      rw [valV_dki]
      cases hb : atK ld sp[i].1 with
      | none =>
        refine ⟨l0, [], rfl, h4, fun v => ⟨fun z => (by cases z), fun ⟨b, hb2, _⟩ => ?_⟩, fun z => (by rw [z, hds] at nl0; cases nl0), fun z => (by rw [z, hqa] at nl0; cases nl0), Nat.zero_le _⟩
        exact (atK_none.mp hb (List.mem_map.mpr ⟨_, hb2, rfl⟩)).elim
      | some b =>
        have hb := (atK_some t.nk).mp hb
        obtain ⟨l1, l2, l3⟩ := t4.low _ hb
        have hHb : H b = some (.lst ((li b).map V.int)) := (t.low _ hb).1
        refine ⟨b, li b, rfl, l1, fun v => ⟨fun z => ⟨b, hb, z⟩, fun ⟨c, hc, z⟩ => ?_⟩, fun z => (by rw [z, nds] at hHb; cases hHb), fun z => (by rw [z, nq] at hHb; cases hHb), l3⟩
        rw [key_one t.nk hb hc]
        exact z
    refine ⟨_, DGet.k (k := Sum.inl sp[i].1) t4.hr, ?_⟩
    rw [ea]
    refine ⟨a, rfl, ⟨_, sqL ha⟩, ?_⟩
    have hik : (sp[i].1, sp[i].2) ∈ sp := List.getElem_mem hlt
    refine for_walk (w_list (xs := ys.map V.int)) (fun j σ H' => (∃ v6, σ = [some (.ref r), some (.int e), some (.ref ds), some (.ref qa), some (.int ((i : Int) + 1)), some (.int sp[i].1), v6]) ∧ ∃ nw : List (Int × Int), Same H H' ∧ H' a = some (.lst (ys.map V.int)) ∧ H' ds = some (.dK (dka (spA (sp ++ nw)))) ∧ H' qa = some (.lst (((sp ++ nw).map (·.1)).map V.int)) ∧ SI e (Lk ld li) (e :: ld.map (·.1)) (sp ++ nw) ∧ (∀ m ∈ ys.take j, m ∈ (sp ++ nw).map (·.1))) ?_ (fun j σ H' _ h => ?_) ?_ ?_
    · exact ⟨⟨_, rfl⟩, [], s3.trans s4, ha, by rw [List.append_nil]; exact s4 _ _ hds, by rw [List.append_nil]; exact s4 _ _ hqa, by rw [List.append_nil]; exact si, by simp⟩
    · obtain ⟨_, nw, _, h, _⟩ := h
      exact sqL h
    · rintro j v σ Hz H5 hj ⟨rfl, hv⟩ ⟨⟨v6', rfl⟩, nw, s5, ha5, hds5, hqa5, si5, cl5⟩
      rw [List.length_map] at hj
      rw [List.getElem?_map, List.getElem?_eq_getElem hj] at hv
      cases hv
      have spl5 : (sp ++ nw).length ≤ ld.length + 1 := by
        have := nodup_sub si5.nd si5.un
        rw [List.length_map, List.length_cons, List.length_map] at this
        exact this
      have tk : ys.take (j + 1) = ys.take j ++ [ys[j]] := by
        rw [List.take_add_one, List.getElem?_eq_getElem hj]
        rfl
      refine ⟨_, rfl, _, rfl, ds, _, rfl, DGet.k (k := Sum.inl ys[j]) hds5, _, rfl, ?_⟩
      rw [isSome_dka, spA_keys]
      by_cases hin : ys[j] ∈ (sp ++ nw).map (·.1)
      · rw [decide_eq_true hin]
        refine iteF ⟨⟨_, rfl⟩, nw, s5, ha5, hds5, hqa5, si5, fun m hm => ?_⟩
        rw [tk] at hm
        rcases List.mem_append.mp hm with hm | hm
        · exact cl5 m hm
        · rw [List.mem_singleton.mp hm]
          exact hin
      · rw [decide_eq_false hin]
        have hik5 : (sp[i].1, sp[i].2) ∈ sp ++ nw := List.mem_append_left _ hik
        refine iteT ⟨_, rfl, _, rfl, ds, .int sp[i].2, rfl, spA_get si5.nd hds5 hik5, _, _, rfl, rfl, _, rfl, _, rfl, ds, _, rfl, DPut.k (k := Sum.inl ys[j]) hds5 (sz_lt (by rw [dka_len, spA_len]; omega)), ?_⟩
        rw [spA_put hin]
        generalize e6 : upd H5 ds _ = H6
        obtain ⟨h6, k6⟩ := gen_mut e6
        have s6 : Same H H6 := by rw [← e6]; exact same_mut s5 nds
        have hqa6 := (k6 _ ndq.symm).trans hqa5
        refine ⟨_, rfl, .inl ⟨rfl, _, sqL hqa6⟩, _, rfl, qa, _, _, rfl, rfl, hqa6, sz_lt (by rw [List.length_map, List.length_map]; omega), ?_⟩
        generalize e7 : upd H6 qa _ = H7
        obtain ⟨h7, k7⟩ := gen_mut e7
        have s7 : Same H H7 := by rw [← e7]; exact same_mut s6 nq
        have hR : Lk ld li sp[i].1 ys[j] := (hys _).mp (List.getElem_mem hj)
        have hU : ys[j] ∈ e :: ld.map (·.1) := by
          obtain ⟨b, hb, _⟩ := sym _ _ hR
          exact List.mem_cons_of_mem _ (List.mem_map.mpr ⟨_, hb, rfl⟩)
        refine ⟨⟨_, rfl⟩, nw ++ [(ys[j], sp[i].2 + 1)], s7, (k7 _ naq).trans ((k6 _ nad).trans ha5), (k7 _ ndq).trans (by rw [← List.append_assoc]; exact h6), ?_, by rw [← List.append_assoc]; exact si5.add hik5 hR hin hU, fun m hm => ?_⟩
        · rw [h7, ← List.append_assoc]
          generalize sp ++ nw = zs
          rw [List.map_append, List.map_append]
          rfl
        · rw [← List.append_assoc, List.map_append, List.mem_append]
          rw [tk] at hm
          rcases List.mem_append.mp hm with hm | hm
          · exact .inl (cl5 m hm)
          · exact .inr hm
    · rintro σ H5 ⟨⟨v6', rfl⟩, nw, s5, ha5, hds5, hqa5, si5, cl5⟩
      rw [List.length_map] at cl5
      rw [List.take_length] at cl5
      refine ⟨ld.length + 1 - (i + 1), by omega, i + 1, sp ++ nw, _, _, rfl, by rw [List.length_append]; omega, rfl, s5, hds5, hqa5, si5, fun q hq m hm => ?_⟩
      rw [List.take_append_of_le_length (by omega), List.take_add_one, List.getElem?_eq_getElem hlt] at hq
      rcases List.mem_append.mp hq with hq | hq
      · rw [List.map_append, List.mem_append]
        exact .inl (cl q hq m hm)
      · rw [show q = sp[i] by simpa using hq] at hm
        exact cl5 m ((hys m).mpr hm)
end
end K75
end T_E6

section T_E7
set_option Elab.async false
set_option linter.all false
set_option maxRecDepth 100000
set_option maxHeartbeats 4000000
namespace K75
open PySem PySem.Spec PyProof.Rows L2 TL
/-- each next one is linked to the one before -/
def Adj (R : Int → Int → Prop) (ws : List Int) : Prop := ∀ (i : Nat) (a b : Int), ws[i]? = some a → ws[i + 1]? = some b → R a b
theorem Adj.add {R : Int → Int → Prop} {pre : List Int} {k x : Int} (h : Adj R (pre ++ [k])) (r : R k x) : Adj R (pre ++ [k] ++ [x]) := fun i a b ha hb => by
  have hl : i + 1 < (pre ++ [k] ++ [x]).length := (List.getElem?_eq_some_iff.mp hb).1
  rw [List.length_append] at hl
  have hl : i + 1 < (pre ++ [k]).length + 1 := hl
  rw [List.getElem?_append_left (by omega)] at ha
  by_cases q : i + 1 < (pre ++ [k]).length
  · rw [List.getElem?_append_left q] at hb
    exact h i a b ha hb
  · have e : i + 1 = (pre ++ [k]).length := by omega
    rw [e, List.getElem?_concat_length] at hb
    rw [List.length_append] at e
    have e : i = pre.length := by
      have : ([k] : List Int).length = 1 := rfl
      omega
    rw [e, List.getElem?_concat_length] at ha
    cases ha
    cases hb
    exact r
def EdS (Ls : List Lt) (gk : List (Int × Addr)) (g : Addr) (u v : Int) : Prop := Ed Ls gk g u v ∨ Ed Ls gk g v u
def sp_chain (K : PySem.W.Frag) : Sp := fun vs H Q _ => ∃ (G : Hp) (p : Addr) (as : List Addr) (Ls : List Lt) (od : List Int) (gk : List (Int × Addr)) (gi : Addr → GI) (dx d1 d2 d3 : Addr) (n : Int) (g : Addr), vs = [.ref p, .int n, .int (gi g).lw] ∧ TS K G H p (lkOf as Ls) od gk gi dx d1 d2 d3 ∧ PT gk gi (edgesAll Ls) ∧ (n, g) ∈ gk ∧ LettersAt K H as Ls ∧ Ls.length ≤ 16 ∧ (Ls.map (·.n)).Nodup ∧ (∀ L ∈ Ls, L.ans.length ≤ 8) ∧ gk.length ≤ 900 ∧
  ∀ H' t pre, Same H H' → H' t = some (.tup ((pre ++ [(gi g).lw]).map V.int)) → (pre ++ [(gi g).lw]).head? = some n → Adj (EdS Ls gk g) (pre ++ [(gi g).lw]) → pre.length ≤ 500 → Q (.ref t) H'
theorem chain_in {gk : List (Int × Addr)} {gi : Addr → GI} {Ls : List Lt} (nk : (gk.map (·.1)).Nodup) (pt : PT gk gi (edgesAll Ls)) {g : Addr} {sp : List (Int × Int)} {R : Int → Int → Prop} (hR : ∀ u v, R u v ↔ EdS Ls gk g u v) (cl : ∀ q ∈ sp, ∀ m, R q.1 m → m ∈ sp.map (·.1)) {e x : Int} (c : Conn (edgesAll Ls) e x) (he : (e, g) ∈ gk) (h : e ∈ sp.map (·.1)) : x ∈ sp.map (·.1) := by
  induction c with
  | refl => exact h
  | @step m k c e ih =>
    have hm : (m, g) ∈ gk := pt.reach nk he c
    have hk : (k, g) ∈ gk := pt.reach nk he (.step c e)
    obtain ⟨q, hq, eq⟩ := List.mem_map.mp ih
    have ed : ∀ {a b : Int}, (a, b) ∈ edgesAll Ls → (a, g) ∈ gk → Ed Ls gk g a b := fun {a b} h ha => by
      obtain ⟨L, hL, h⟩ := List.mem_flatMap.mp h
      obtain ⟨z, hz, e⟩ := List.mem_map.mp h
      cases e
      exact ⟨L, hL, rfl, ha, hz⟩
    refine cl q hq k ?_
    rw [hR, eq]
    rcases e with e | e
    · exact .inl (ed e hm)
    · exact .inr (ed e hk)
section
variable {P : Program} {w : World} {K : PySem.W.Frag} {mg : PySem.Str → Option Value} {base : Heap}
abbrev sc_chain_N : List PySem.Str := ["threads", "first", "second", "linked", "steps", "way", "left", "number"]
theorem sc_chain : FnScope sc_chain_N ["threads", "first", "second"] (defScope s_chain) := ⟨rfl, rfl, rfl, by decide +kernel, rfl, by decide +kernel, by decide +kernel⟩
theorem ok_chain (W : Wd K mg) : Ok P w K mg base 3 d_chain ["threads", "first", "second"] (sp_chain K) := by
  refine ok_mk W.d_chain sc_chain (fun _ _ _ _ _ _ us hl => match us, hl with | [_, _, _], _ => rfl) (fun vs H Q E h => ?_) (fun cdv A outer s H vs Q E hr h => ?_)
  · obtain ⟨G, p, as, Ls, od, gk, gi, dx, d1, d2, d3, n, g, rfl, _⟩ := h
    rfl
  · obtain ⟨G, p, as, Ls, od, gk, gi, dx, d1, d2, d3, n, g, rfl, t, pt, hng, hL, h16, hnd, h8, h9, q⟩ := h
    have hu := hu_of hr
    have nd := sc_chain.nd
    refine ⟨_, (pss_cons (ps_if (PW.pt (pw_or (pt_cmpR op_isN (pe_o (pv 0) W.c_Threads (ok_Threads_name_of W) W.m_Threads_name_of (hr.mono (by decide)) (pa_cons (pv 1) pa_nil)) pe_non (nomark _)) (pw_or1 (pt_cmpR op_ne (pe_o (pv 0) W.c_Threads (ok_Threads_name_of W) W.m_Threads_name_of (hr.mono (by decide)) (pa_cons (pv 1) pa_nil)) (pe_o (pv 0) W.c_Threads (ok_Threads_name_of W) W.m_Threads_name_of (hr.mono (by decide)) (pa_cons (pv 2) pa_nil)) (nomark _)))))
      (pss_one (ps_ret pe_non))
      pss_nil)
    (pss_cons (ps_set (i := 3) nd rfl (Or.inl rfl) (pe_f (ok_linked_numbers W) (hr.mono (by decide)) rfl W.g_linked_numbers (pa_cons (pv 0) (pa_cons (pv 1) pa_nil))))
    (pss_cons (ps_set (i := 4) nd rfl (Or.inr rfl) (pe_f (ok_steps_to W) (hr.mono (by decide)) rfl W.g_steps_to (pa_cons (pv 3) (pa_cons (pv 2) pa_nil))))
    (pss_cons (ps_set (i := 5) nd rfl (Or.inl rfl) (pe_lst (pa_cons (pv 1) pa_nil)))
    (pss_cons (ps_while PassesOwn.never (pt_cmpR op_ne (pe_ix (kix_list K) (pv 5) (pe_un un_neg pe_int) (fun _ _ => rfl)) (pv 2) (nomark _))
      (pss_cons (ps_set (i := 6) nd rfl (Or.inr rfl) (pe_op op_sub (pe_dget hu (pv 4) (pe_ix (kix_list K) (pv 5) (pe_un un_neg pe_int) (fun _ _ => rfl)) (fun _ _ => rfl)) pe_int))
      (pss_one (ps_expr (kbm K PySem.F.plainAttrs_list PySem.F.slot_list_append PySem.F.type_list_append mt_append (pv 5) (pa_cons (pe_callB (cr_min rfl) rfl W.f_min (by decide +kernel) (pa_cons (pe_lc (own := [("number", 7)]) rfl nd (pi_list (pe_dget hu (pv 3) (pe_ix (kix_list K) (pv 5) (pe_un un_neg pe_int) (fun _ _ => rfl)) (fun _ _ => rfl))) (blkOk_by (N := sc_chain_N) (sc := defScope s_chain) (by decide +kernel)) (fun _ _ _ _ _ => (pg_name (i := 7) nd rfl (Or.inl rfl))) (fun _ _ _ _ _ => (pts_one (pt_cmpR op_eq (pe_dget hu (pv 4) (pv 7) (fun _ _ => rfl)) (pv 6) (nomark _)))) (fun _ _ _ _ _ => (pv 7))) pa_nil)) pa_nil))))))
    (pss_one (ps_ret (pe_tupleOf rfl W.f_tuple (pv 5))))))))), ?_⟩
    have low := pt.low _ hng
    have low1 : (gi g).lw ∈ (gi g).kn := low.1
    have hlg : ((gi g).lw, g) ∈ gk := (pt.mem _ hng _).mp low1
    generalize hlw : (gi g).lw = e at q hlg low1 ⊢
    have a1 : atK gk n = some g := (atK_some t.nk).mpr hng
    have a2 : atK gk e = some g := (atK_some t.nk).mpr hlg
    refine ⟨_, rfl, p, dx, _, rfl, t.ins, (by kernel_rfl), _, rfl, G, p, _, od, gk, gi, dx, d1, d2, d3, n, rfl, t, ?_⟩
    rw [a1]
    refine ⟨rfl, _, rfl, iteF ?_⟩
    refine ⟨_, rfl, p, dx, _, rfl, t.ins, (by kernel_rfl), _, rfl, G, p, _, od, gk, gi, dx, d1, d2, d3, n, rfl, t, ?_⟩
    rw [a1]
    refine ⟨_, rfl, p, dx, _, rfl, t.ins, (by kernel_rfl), _, rfl, G, p, _, od, gk, gi, dx, d1, d2, d3, e, rfl, t, ?_⟩
    rw [a2]
    refine ⟨rfl, _, rfl, ?_⟩
    rw [decide_eq_true rfl]
    refine iteF ?_
    refine ⟨_, rfl, _, rfl, G, p, as, Ls, od, gk, gi, dx, d1, d2, d3, _, n, g, rfl, t, pt, hng, hL, h16, hnd, h8, h9, fun H1 r ld li t1 k1 => ?_⟩
    refine ⟨_, rfl, _, rfl, H, r, ld, li, e, rfl, t1, fun u v h => (k1 v u).mpr ((k1 u v).mp h).symm, fun H2 s sp s2 hs si cl => ?_⟩
    have t2 := t1.mono s2
    have hR : ∀ u v, Lk ld li u v ↔ EdS Ls gk g u v := k1
    have n_in : n ∈ sp.map (·.1) := chain_in t.nk pt hR cl (pt.conn e n g hlg hng) hlg (List.mem_map.mpr ⟨_, si.e0, rfl⟩)
    obtain ⟨⟨n0, k0⟩, hn0, en⟩ := List.mem_map.mp n_in
    have hn0 : (n, k0) ∈ sp := by rw [← en]; exact hn0
    have spl : sp.length ≤ 401 := by
      have := nodup_sub si.nd si.un
      rw [List.length_map, List.length_cons, List.length_map] at this
      have := t1.sz
      omega
    have hk0 := si.st _ hn0
    have hk0 : 0 ≤ k0 ∧ k0 < (sp.length : Int) := ⟨hk0.1, hk0.2.1⟩
    refine ⟨_, rfl, sz_le (by show 1 ≤ 100000; decide), fun l nl => ?_⟩
    generalize e3 : upd H2 l _ = H3
    obtain ⟨s3, h3⟩ := gen_upd nl e3
    refine ⟨fun m σ H' => ∃ (pre : List Int) (k kv : Int) (v6 v7 : Option V), m = kv.toNat ∧ σ = [some (.ref p), some (.int n), some (.int e), some (.ref r), some (.ref s), some (.ref l), v6, v7] ∧ Same H2 H' ∧ H' l = some (.lst ((pre ++ [k]).map V.int)) ∧ (k, kv) ∈ sp ∧ (pre ++ [k]).head? = some n ∧ Adj (EdS Ls gk g) (pre ++ [k]) ∧ (pre.length : Int) + kv ≤ 450, ⟨_, [], n, k0, _, _, rfl, rfl, s3, h3, hn0, rfl, fun i a b ha hb => (by cases i <;> cases hb), by show (0 : Int) + k0 ≤ 450; omega⟩, ?_⟩
    rintro m σ H4 ⟨pre, k, kv, v6, v7, rfl, rfl, s4, h4, hk, hh, hadj, hlen⟩
    have h4s : H4 l = some (.lst (pre.map V.int ++ [V.int k])) := by rw [h4, List.map_append]; rfl
    have st := si.st _ hk
    have st1 : 0 ≤ kv := st.1
    refine ⟨_, rfl, 1, rfl, l, _, -1, .int k, rfl, rfl, sqL h4s, atI_last _ _, _, rfl, rfl, _, rfl, ?_⟩
    by_cases ek : k = e
    · rw [decide_eq_true (by rw [ek])]
      refine iteF ⟨_, rfl, .inl ⟨l, _, rfl, sqL h4, fun t0 nt => ?_⟩⟩
      generalize e5 : upd H4 t0 _ = H5
      obtain ⟨s5, h5⟩ := gen_upd nt e5
      subst ek
      exact q H5 t0 pre ((t1.same.trans s2).trans (s4.trans s5)) h5 hh hadj (by omega)
    rw [decide_eq_false (by intro z; injection z with z; exact ek z)]
    have hs4 := s4 _ _ hs
    have t4 := t2.mono s4
    obtain ⟨mm, hmm, hRm⟩ : ∃ m, (m, kv - 1) ∈ sp ∧ Lk ld li m k := by
      rcases st.2.2 with ⟨h, _⟩ | h
      · exact absurd h ek
      · exact h
    have hRk : Lk ld li k mm := (k1 _ _).mpr ((k1 _ _).mp hRm).symm
    obtain ⟨b, hb, hmb⟩ := hRk
    obtain ⟨l1, l2, l3⟩ := t4.low _ hb
    have l1 : H4 b = some (.lst ((li b).map V.int)) := l1
    have l3 : (li b).length ≤ 400 := l3
    have gb : DGet H4 r (.int k) (some (.ref b)) := by
      have := DGet.k (k := Sum.inl k) t4.hr
      rw [valV_dki, (atK_some t4.nk).mpr hb] at this
      exact this
    have st2 : 0 ≤ kv - 1 := (si.st _ hmm).1
    refine iteT ⟨_, fun σ' H' h => h, ?_⟩
    refine ⟨_, rfl, _, rfl, 1, rfl, l, _, -1, .int k, rfl, rfl, sqL h4s, atI_last _ _, s, .int kv, rfl, spA_get si.nd hs4 hk, _, _, rfl, rfl, ?_⟩
    refine ⟨_, rfl, .inl ⟨rfl, _, sqL h4⟩, _, rfl, _, rfl, 1, rfl, l, _, -1, .int k, rfl, rfl, sqL h4s, atI_last _ _, r, .ref b, rfl, gb, ?_⟩
    refine ⟨b, rfl, ⟨_, sqL l1⟩, fun D nD => ?_⟩
    have key : ∀ y ∈ li b, ∃ ky, (y, ky) ∈ sp := fun y hy => by
      obtain ⟨⟨y0, ky⟩, h1, h2⟩ := List.mem_map.mp (cl _ hk y ⟨b, hb, hy⟩)
      exact ⟨ky, by rw [← h2]; exact h1⟩
    have ndA : ((spA sp).map (·.1)).Nodup := by rw [spA_keys]; exact si.nd
    refine lc_pure (w_list (xs := (li b).map V.int)) (fun i => if (fun y => decide (atO (spA sp) y = some (some (kv - 1)))) ((li b).getD i 0) = true then some (V.int ((li b).getD i 0)) else none) nD (fun H' s => sqL (s _ _ l1)) (fun i x H H' r => by rw [r.1]; exact Same.refl _) ?_ ?_
    · rintro i x H5 Hy hi ⟨rfl, hx⟩ s5 _ hK
      rw [List.length_map] at hi
      rw [List.getElem?_map, List.getElem?_eq_getElem hi] at hx
      cases hx
      obtain ⟨ky, hky⟩ := key _ (List.getElem_mem hi)
      have hgd : (li b).getD i 0 = (li b)[i] := by simp [List.getD, List.getElem?_eq_getElem hi]
      have hs5 := s5 _ _ hs4
      have ho := (atO_some ndA).mpr (spA_mem hky)
      refine ⟨rfl, _, rfl, _, rfl, s, .int ky, rfl, spA_get si.nd hs5 hky, _, rfl, rfl, _, rfl, ?_⟩
      by_cases ey : ky = kv - 1
      · rw [decide_eq_true (by rw [ey])]
        exact iteT ⟨_, rfl, lcT nD s5 (by omega) hK (by show (if decide (atO (spA sp) ((li b).getD i 0) = some (some (kv - 1))) = true then some (V.int ((li b).getD i 0)) else none) = _; rw [hgd, decide_eq_true (by rw [ho, ey])]; rfl)⟩
      · rw [decide_eq_false (by intro z; injection z with z; exact ey z)]
        exact iteF (lcN s5 hK (by show (if decide (atO (spA sp) ((li b).getD i 0) = some (some (kv - 1))) = true then some (V.int ((li b).getD i 0)) else none) = _; rw [hgd, decide_eq_false (by rw [ho]; intro z; injection z with z; injection z with z; exact ey z)]; rfl))
    intro H5 s5 h5
    rw [List.length_map] at h5
    have h5 := h5.trans (congrArg (fun l => some (HO.lst l)) (kept_filter (xs := li b) (p := fun y => decide (atO (spA sp) y = some (some (kv - 1))))))
    refine ⟨D, _, rfl, sqL h5, List.length_pos_of_mem (a := mm) (List.mem_filter.mpr ⟨hmb, decide_eq_true ((atO_some ndA).mpr (spA_mem hmm))⟩), fun x hx1 _ => ?_⟩
    obtain ⟨hx2, hx3⟩ := List.mem_filter.mp hx1
    have hx3 : (x, kv - 1) ∈ sp := by
      have := (atO_some ndA).mp (of_decide_eq_true hx3)
      obtain ⟨q, hq, eq⟩ := List.mem_map.mp this
      injection eq with e1 e2
      injection e2 with e2
      rw [← e1, ← e2]
      exact hq
    have hRx : EdS Ls gk g k x := (hR k x).mp ⟨b, hb, hx2⟩
    have h6 := s5 _ _ h4
    have nl2 : H2 l = none := nl
    refine ⟨l, _, _, rfl, rfl, h6, sz_lt (by rw [List.length_map, List.length_append]; show pre.length + 1 < 100000; omega), ?_⟩
    refine ⟨(kv - 1).toNat, by omega, pre ++ [k], x, kv - 1, _, _, rfl, rfl, same_mut (s4.trans s5) nl2, ?_, hx3, ?_, hadj.add hRx, ?_⟩
    · rw [upd_same, List.map_append (l₁ := pre ++ [k])]
      rfl
    · cases pre with
      | nil => exact hh
      | cons z r => exact hh
    · rw [List.length_append]
      show ((pre.length + 1 : Nat) : Int) + (kv - 1) ≤ 450
      omega
end
end K75
end T_E7

section T_F0
set_option Elab.async false
set_option linter.all false
set_option maxRecDepth 100000
set_option maxHeartbeats 4000000
namespace K75
open PySem PySem.Spec PyProof.Rows L2 TL
open PySem.StrLaws PySem.Builtin PySem.Builtin.Str
/-! ### a text cut at its first two blanks -/
theorem occ_miss (s sub : PySem.Str) (hi limit : Nat) : ∀ (m r cur : Nat) (st : Array Nat × Nat), (∀ k, cur ≤ k → k < cur + m → ¬At s sub hi k) →
    forIn (List.range' cur (m + r)) st (occBody s sub hi limit) = forIn (List.range' (cur + m) r) st (occBody s sub hi limit)
  | 0, r, cur, st, _ => by rw [Nat.zero_add, Nat.add_zero]
  | m + 1, r, cur, st, h => by
    have e : m + 1 + r = (m + r) + 1 := by omega
    rw [e, List.range'_succ, List.forIn_cons]
    have c : ¬(((st.fst.size < limit ∧ st.snd ≤ cur) ∧ cur + sub.length ≤ hi) ∧ subAt s sub cur = true) := fun z => h cur (Nat.le_refl _) (by omega) ⟨z.1.2, z.2⟩
    have eb : occBody s sub hi limit cur st = pure (ForInStep.yield (st.fst, st.snd)) := by
      unfold occBody
      rw [if_neg c]
    rw [eb]
    have ih := occ_miss s sub hi limit m r (cur + 1) st fun k h1 h2 => h k (by omega) (by omega)
    rw [show cur + (m + 1) = cur + 1 + m by omega]
    exact ih
theorem occ_full (s sub : PySem.Str) (hi limit : Nat) : ∀ (l : List Nat) (st : Array Nat × Nat), limit ≤ st.fst.size → forIn l st (occBody s sub hi limit) = (pure st : Id (Array Nat × Nat))
  | [], st, _ => rfl
  | a :: l, st, h => by
    rw [List.forIn_cons]
    have eb : occBody s sub hi limit a st = pure (ForInStep.yield (st.fst, st.snd)) := by
      unfold occBody
      rw [if_neg (fun z => by have := z.1.1.1; omega)]
    rw [eb]
    exact occ_full s sub hi limit l st h
theorem occ_two {x y : PySem.Str} {c : Nat} (hy : y.length = 1) (h0 : At x y x.length 0) (hc : At x y x.length c) (h1 : 1 ≤ c) (hn : ∀ k, 1 ≤ k → k < c → ¬At x y x.length k) : occurrences x y 0 x.length 2 = [0, c] := by
  rw [occ_eq]
  have hcx := hc.1
  have e : x.length + 1 - 0 = ((c - 1) + ((x.length - c) + 1)) + 1 := by omega
  rw [e, List.range'_succ, List.forIn_cons]
  have b0 : occBody x y x.length 2 0 ((#[] : Array Nat), 0) = pure (ForInStep.yield (#[0], 0 + y.length)) := by
    unfold occBody
    rw [if_pos ⟨⟨⟨by simp, Nat.le_refl _⟩, h0.1⟩, h0.2⟩]
    rfl
  rw [b0]
  show (forIn (List.range' (0 + 1) ((c - 1) + ((x.length - c) + 1))) ((#[0] : Array Nat), 0 + y.length) (occBody x y x.length 2)).run.fst.toList = _
  rw [occ_miss x y x.length 2 (c - 1) ((x.length - c) + 1) (0 + 1) _ fun k h1 h2 => hn k (by omega) (by omega), show 0 + 1 + (c - 1) = c by omega, List.range'_succ, List.forIn_cons]
  have b1 : occBody x y x.length 2 c ((#[0] : Array Nat), 0 + y.length) = pure (ForInStep.yield (#[0, c], c + y.length)) := by
    unfold occBody
    rw [if_pos ⟨⟨⟨by simp, by show 0 + y.length ≤ c; omega⟩, hc.1⟩, hc.2⟩]
    rfl
  rw [b1]
  show (forIn (List.range' (c + 1) (x.length - c)) ((#[0, c] : Array Nat), c + y.length) (occBody x y x.length 2)).run.fst.toList = _
  rw [occ_full x y x.length 2 _ _ (by simp)]
  rfl
theorem split_two {a b : PySem.Str} (h : 32 ∉ tl a) : Txt.splitMax (" " ++ a ++ " " ++ b) " " 2 = [("" : PySem.Str), a, b] := by
  have hy : (" " : PySem.Str).length = 1 := by decide +kernel
  have hny : tl (" " : PySem.Str) ≠ [] := by rw [tl_sp]; simp
  have ex : tl (" " ++ a ++ " " ++ b) = 32 :: (tl a ++ (32 :: tl b)) := by
    rw [tl_append, tl_append, tl_append, tl_sp]
    simp
  have lx : (" " ++ a ++ " " ++ b : PySem.Str).length = 1 + a.length + 1 + b.length := by rw [str_len_app, str_len_app, str_len_app, hy]
  have la := len_tl a
  generalize " " ++ a ++ " " ++ b = x at ex lx ⊢
  have a0 : At x " " x.length 0 := (at_iff hny 0).mpr (by rw [ex, tl_sp, List.drop_zero]; rfl)
  have dr : ∀ k, (tl x).drop (k + 1) = (tl a ++ (32 :: tl b)).drop k := fun k => by rw [ex, List.drop_succ_cons]
  have ac : At x " " x.length (1 + a.length) := (at_iff hny _).mpr (by
    rw [show 1 + a.length = a.length + 1 by omega, dr, la, List.drop_left, tl_sp]
    rfl)
  have an : ∀ k, 1 ≤ k → k < 1 + a.length → ¬At x " " x.length k := fun k h1 h2 hA => by
    have := (at_iff hny k).mp hA
    rw [show k = (k - 1) + 1 by omega, dr, tl_sp] at this
    have f := free_of (S := []) (q := 32 :: tl b) h (k - 1) (by omega)
    rw [f] at this
    cases this
  have ho := occ_two hy a0 ac (by omega) an
  unfold Txt.splitMax
  rw [if_neg (by
    simp only [Bool.or_eq_true, decide_eq_true_eq, not_or]
    exact ⟨by omega, kind_ok (by decide +kernel)⟩)]
  have hl : limitOf x 2 = 2 := rfl
  rw [hl, ho]
  show (if false = true then _ else _) = _
  rw [if_neg Bool.false_ne_true]
  refine map_tl_inj ?_
  have ep : partsBetween x [0, 1 + a.length] (" " : PySem.Str).length = [strSub x 0 0, strSub x (0 + (" " : PySem.Str).length) (1 + a.length), strSub x (1 + a.length + (" " : PySem.Str).length) x.length] := rfl
  rw [ep, hy]
  show [tl (strSub x 0 0), tl (strSub x (0 + 1) (1 + a.length)), tl (strSub x (1 + a.length + 1) x.length)] = [tl "", tl a, tl b]
  rw [tl_strSub, tl_strSub, tl_strSub_end, tl_emp, dr 0, show 1 + a.length + 1 = (a.length + 1) + 1 by omega, dr]
  congr 1
  congr 1
  · rw [List.drop_zero, show 1 + a.length - (0 + 1) = (tl a).length by omega]
    exact List.take_left
  · congr 1
    rw [la, show (tl a).length + 1 = (tl a).length + ([32] : List Nat).length from rfl, show tl a ++ (32 :: tl b) = (tl a ++ [32]) ++ tl b by simp, ← List.length_append]
    exact List.drop_left
end K75
end T_F0

section T_F1
set_option Elab.async false
set_option linter.all false
set_option maxRecDepth 100000
set_option maxHeartbeats 4000000
namespace K75
open PySem PySem.Spec PyProof.Rows L2 TL
/-! ### dicts whose keys are numbers written out -/
def dkn (l : List (Int × V)) : List (Key × V) := l.map fun q => (Sum.inr (numS q.1), q.2)
def atN (l : List (Int × V)) (n : Int) : Option V := (l.find? fun q => decide (q.1 = n)).map (·.2)
theorem numS_inj {m n : Int} (hm : isNumber m = true) (hn : isNumber n = true) (h : numS m = numS n) : m = n := by
  have h1 := of_decide_eq_true hm
  have h2 := of_decide_eq_true hn
  obtain ⟨a, rfl⟩ : ∃ a : Nat, m = a := ⟨m.toNat, by omega⟩
  obtain ⟨b, rfl⟩ : ∃ b : Nat, n = b := ⟨n.toNat, by omega⟩
  have e := congrArg tl h
  unfold numS at e
  rw [tl_num, tl_num] at e
  rw [numL_inj e]
theorem valV_dkn {l : List (Int × V)} (hl : ∀ q ∈ l, isNumber q.1 = true) {n : Int} (hn : isNumber n = true) : valV (dkn l) (Sum.inr (numS n)) = atN l n := by
  induction l with
  | nil => rfl
  | cons q r ih =>
    show valV ((Sum.inr (numS q.1), q.2) :: dkn r) (Sum.inr (numS n)) = _
    rw [valV_cons]
    unfold atN
    rw [List.find?_cons]
    by_cases h : q.1 = n
    · rw [if_pos (by rw [h]), decide_eq_true h]
      rfl
    · rw [if_neg (by intro z; injection z with z; exact h (numS_inj (hl q List.mem_cons_self) hn z)), decide_eq_false h, ih fun p hp => hl p (List.mem_cons_of_mem _ hp)]
      rfl
theorem atN_none {l : List (Int × V)} {n : Int} : atN l n = none ↔ n ∉ l.map (·.1) := by
  unfold atN
  rw [Option.map_eq_none_iff, List.find?_eq_none]
  constructor
  · intro h hm
    obtain ⟨q, hq, e⟩ := List.mem_map.mp hm
    exact h q hq (decide_eq_true e)
  · intro h q hq e
    exact h (List.mem_map.mpr ⟨q, hq, of_decide_eq_true e⟩)
theorem isSome_dkn {l : List (Int × V)} (hl : ∀ q ∈ l, isNumber q.1 = true) {n : Int} (hn : isNumber n = true) : (valV (dkn l) (Sum.inr (numS n))).isSome = decide (n ∈ l.map (·.1)) := by
  rw [valV_dkn hl hn, Bool.eq_iff_iff, decide_eq_true_eq, Option.isSome_iff_ne_none, ne_eq, atN_none, Decidable.not_not]
theorem dkn_len (l : List (Int × V)) : (dkn l).length = l.length := List.length_map _
theorem dkn_put {l : List (Int × V)} (hl : ∀ q ∈ l, isNumber q.1 = true) {n : Int} (hn : isNumber n = true) {v : V} (h : n ∉ l.map (·.1)) : putK (dkn l) (Sum.inr (numS n)) v = dkn (l ++ [(n, v)]) := by
  rw [putK_new (by
    unfold dkn
    rw [List.map_map]
    intro z
    obtain ⟨q, hq, e⟩ := List.mem_map.mp z
    injection e with e
    exact h (List.mem_map.mpr ⟨q, hq, numS_inj (hl q hq) hn e⟩))]
  unfold dkn
  rw [List.map_append]
  rfl
/-- the sender of n among these letters -/
def sdOf (Ls : List Lt) (n : Int) : PySem.Str := match Ls.find? fun L => decide (L.n = n) with
  | some L => L.sender
  | none => "-"
def sdL (Ls : List Lt) : List (Int × V) := Ls.map fun L => (L.n, .str L.sender)
theorem sdL_at (Ls : List Lt) (n : Int) : (atN (sdL Ls) n).getD (.str "-") = .str (sdOf Ls n) := by
  induction Ls with
  | nil => rfl
  | cons L r ih =>
    unfold atN sdL sdOf at *
    rw [List.map_cons, List.find?_cons, List.find?_cons]
    by_cases h : L.n = n
    · rw [decide_eq_true h]
      rfl
    · rw [decide_eq_false h]
      exact ih
theorem sdOf_in {Ls : List Lt} (nd : (Ls.map (·.n)).Nodup) {L : Lt} (h : L ∈ Ls) : sdOf Ls L.n = L.sender := by
  induction Ls with
  | nil => cases h
  | cons M r ih =>
    have n2 := List.nodup_cons.mp nd
    unfold sdOf
    rw [List.find?_cons]
    rcases List.mem_cons.mp h with rfl | h
    · rw [decide_eq_true rfl]
    · rw [decide_eq_false (fun e => n2.1 (List.mem_map.mpr ⟨L, h, e.symm⟩))]
      exact ih n2.2 h
theorem sdOf_no {Ls : List Lt} {n : Int} (h : n ∉ Ls.map (·.n)) : sdOf Ls n = "-" := by
  unfold sdOf
  rw [List.find?_eq_none.mpr fun L hL e => h (List.mem_map.mpr ⟨L, hL, of_decide_eq_true e⟩)]
theorem cut_three {p r : PySem.Str} (h : p.length = 3) : cutS (p ++ r) (some 3) none = r := by
  unfold cutS
  have l2 : (p ++ r : PySem.Str).length = r.length + 3 := by rw [str_len_app, h]; omega
  have e : HT.sIx (p ++ r : PySem.Str).length 0 (some 3) = 3 := by
    have := HT.sIx_nat (p ++ r : PySem.Str).length 0 3
    rw [l2] at this ⊢
    rw [show ((3 : Int)) = ((3 : Nat) : Int) from rfl, this]
    omega
  rw [e, HT.sIx_none, l2]
  apply ext_tl
  show ((tl (p ++ r)).drop 3).take (r.length + 3 - 3) = tl r
  have lp : (tl p).length = 3 := by rw [← len_tl]; exact h
  rw [tl_append, Nat.add_sub_cancel, ← lp, List.drop_left, len_tl, List.take_length]
theorem w_keys {d : Addr} {o : Obj} {kvs : List (Key × V)} : Walks (Itk d o kvs) kvs.length (fun H => H d = some (.frz o (.dK kvs))) (fun i x H H' => H' = H ∧ ∃ k v, kvs[i]? = some (k, v) ∧ x = kV k) :=
  ⟨fun i H q hi => ⟨q, hi⟩, fun i H q hi => ⟨q, hi⟩, fun i H x H' q hi y => y⟩
def sp_L_drawn_right (K : PySem.W.Frag) : Sp := fun vs H Q _ => ∃ (G : Hp) (p ra : Addr) (as : List Addr) (Ls : List Lt) (ab : Abv) (bl : List (Int × Addr)) (bi : Addr → List Int) (rk : List (Key × V)) (dx d1 d2 d3 d4 : Addr) (f : Fn), vs = [.ref p, .ref ra] ∧ FS K G H p (lkOf as Ls) ab bl bi rk dx d1 d2 d3 d4 ∧ FG f (gOf ab) ∧ FR ab bl bi ∧ ab.length ≤ 800 ∧ (∀ n, n ∈ ab.map (·.1) → isNumber n = true) ∧
  H ra = some (.lst (as.map V.ref)) ∧ LettersAt K H as Ls ∧ Ls.length ≤ 16 ∧ (Ls.map (·.n)).Nodup ∧ (∀ L ∈ Ls, L.Ok) ∧ (∀ L ∈ Ls, L.n ∈ ab.map (·.1)) ∧ ∀ H', Same H H' → Q (.bl true) H'
section
variable {P : Program} {w : World} {K : PySem.W.Frag} {mg : PySem.Str → Option Value} {base : Heap}
abbrev sc_L_drawn_right_N : List PySem.Str := ["_law_forest", "_law_read", "_law_senders", "_law_letter", "_law_told", "_law_line", "_law_number", "_law_sender"]
theorem sc_L_drawn_right : FnScope sc_L_drawn_right_N ["_law_forest", "_law_read"] (defScope s_L_drawn_right) := ⟨rfl, rfl, rfl, by decide +kernel, rfl, by decide +kernel, by decide +kernel⟩
theorem ok_L_drawn_right (W : Wd K mg) : Ok P w K mg base 6 d_L_drawn_right ["_law_forest", "_law_read"] (sp_L_drawn_right K) := by
  refine ok_mk W.d_L_drawn_right sc_L_drawn_right (fun _ _ _ _ _ _ us hl => match us, hl with | [_, _], _ => rfl) (fun vs H Q E h => ?_) (fun cdv A outer s H vs Q E hr h => ?_)
  · obtain ⟨G, p, ra, as, Ls, ab, bl, bi, rk, dx, d1, d2, d3, d4, f, rfl, _⟩ := h
    rfl
  · obtain ⟨G, p, ra, as, Ls, ab, bl, bi, rk, dx, d1, d2, d3, d4, f, rfl, t, fg, fr, h9, hnum, hra, hL, h16, hnd, hok, hall, q⟩ := h
    have hu := hu_of hr
    have nd := sc_L_drawn_right.nd
    refine ⟨_, (pss_cons (ps_set (i := 2) nd rfl (Or.inl rfl) pe_dnewK)
    (pss_cons (ps_for PassesOwn.never rfl (pi_list (pv 1)) (pg_name (i := 3) nd rfl (Or.inl rfl))
      (pss_one (ps_dput hu (pv 2) (pe_callTy call_str_int rfl W.f_str (by decide +kernel) (pa_cons (kfld K (pv 3) rfl) pa_nil)) (kfld K (pv 3) rfl) rfl)))
    (pss_cons (ps_set (i := 4) nd rfl (Or.inr rfl) pe_dnewK)
    (pss_cons (ps_for PassesOwn.never rfl (pi_list (pe_o0 (pv 0) W.c_Forest (ok_Forest_drawn W) W.m_Forest_drawn (hr.mono (by decide)))) (pg_name (i := 5) nd rfl (Or.inl rfl))
      (pss_cons (ps_asg (pe_slice (ksl_list K) (kbm K PySem.F.plainAttrs_str PySem.F.slot_str_split PySem.F.type_str_split mt_splitMax (pe_slice sl_str (pv 5) (po_some pe_int) po_none) (pa_cons pe_str (pa_cons pe_int pa_nil))) (po_some pe_int) po_none) (pg_lst rfl (pgs_cons (pg_name (i := 6) nd rfl (Or.inl rfl)) (pgs_cons (pg_name (i := 7) nd rfl (Or.inl rfl)) pgs_nil))))
      (pss_cons (ps_if (PW.pt (pw_or (pt_cmp (pc_din hu (pv 6) (pv 4))) (pw_or1 (pt_cmpR op_ne (pv 7) (pe_dget2 hu (pv 2) (pv 6) pe_str ⟨rfl, rfl, rfl, rfl⟩) (nomark _)))))
        (pss_one (ps_ret pe_bl))
        pss_nil)
      (pss_one (ps_dput hu (pv 4) (pv 6) (pe_slice sl_str (pv 5) po_none (po_some pe_int)) rfl)))))
    (pss_one (ps_ret (pe_and (pe_cmpR op_eq (pe_callB call_lenD rfl W.f_len PySem.boot_len (pa_cons (pv 4) pa_nil)) (pe_callB (call_lenOwn (ok_Forest_len W) W.m_Forest_len (hr.mono (by decide))) rfl W.f_len PySem.boot_len (pa_cons (pv 0) pa_nil)) (nomark _)) (pe_one (pe_cmpR (op_eqD (hu64 hr)) (pe_lock (pe_lc (own := [("_law_number", 6)]) rfl nd (pi_keys (pv 2)) (blkOk_by (N := sc_L_drawn_right_N) (sc := defScope s_L_drawn_right) (by decide +kernel)) (fun _ _ _ _ _ => (pg_name (i := 6) nd rfl (Or.inl rfl))) (fun _ _ _ _ _ => (pts_one (pt_cmp (pc_dnotin hu (pv 6) (pv 4))))) (fun _ _ _ _ _ => (pv 6)))) (pe_lst pa_nil) (nomark _)))))))))), ?_⟩
    have ll : as.length = Ls.length := Paired.length hL
    refine fun sd nsd => ?_
    generalize e1 : upd H sd _ = H1
    obtain ⟨s1, h1⟩ := gen_upd nsd e1
    refine ⟨_, rfl, ra, rfl, ⟨_, sqL (s1 _ _ hra)⟩, ?_⟩
    refine for_walk (w_list (xs := as.map V.ref)) (fun i σ H' => (∃ v3, σ = [some (.ref p), some (.ref ra), some (.ref sd), v3, none, none, none, none]) ∧ Same H H' ∧ H' sd = some (.dK (dkn (sdL (Ls.take i))))) ⟨⟨_, rfl⟩, s1, h1⟩ (fun i σ H' _ h => sqL (h.2.1 _ _ hra)) ?_ ?_
    · rintro i v σ Hz H4 hi ⟨rfl, hv⟩ ⟨⟨v3, rfl⟩, s4, hsd4⟩
      rw [List.length_map] at hi
      have hi2 : i < Ls.length := by omega
      rw [List.getElem?_map, List.getElem?_eq_getElem hi] at hv
      cases hv
      have hLi : LetterAt K H as[i] Ls[i] := by
        obtain ⟨L, e, h⟩ := paired_at hL (List.getElem?_eq_getElem hi)
        rw [List.getElem?_eq_getElem hi2] at e
        rw [Option.some.inj e]
        exact h
      have okL := hok _ (List.getElem_mem hi2)
      obtain ⟨dl, u1, u2, u3, hc1, _⟩ := hLi.mono s4
      have hvl : ∀ q ∈ sdL (Ls.take i), isNumber q.1 = true := fun q hq => by
        obtain ⟨M, hM, e⟩ := List.mem_map.mp hq
        rw [← e]
        exact (hok M (List.mem_of_mem_take hM)).n
      have hnew : Ls[i].n ∉ (sdL (Ls.take i)).map (·.1) := by
        unfold sdL
        rw [List.map_map]
        show Ls[i].n ∉ (Ls.take i).map (·.n)
        rw [List.map_take]
        have h2 : ((Ls.map (·.n)).take (i + 1)).Nodup := hnd.sublist (List.take_sublist _ _)
        rw [List.take_add_one, List.getElem?_eq_getElem (by rw [List.length_map]; exact hi2), List.nodup_append] at h2
        intro hm
        exact h2.2.2 _ hm Ls[i].n (by simp) rfl
      refine ⟨_, rfl, as[i], _, dl, _, .str Ls[i].sender, rfl, hc1, W.c_Letter, W.n_Letter_sender, lf_sender _ _ _ _, _, rfl, _, rfl, as[i], _, dl, _, .int Ls[i].n, rfl, hc1, W.c_Letter, W.n_Letter_number, lf_number _ _ _ _, Ls[i].n, rfl, num_log okL.n, sd, _, rfl, DPut.k (k := Sum.inr (numS Ls[i].n)) hsd4 (sz_lt (by rw [dkn_len]; unfold sdL; rw [List.length_map, List.length_take]; omega)), ?_⟩
      rw [dkn_put hvl okL.n hnew]
      refine ⟨⟨_, rfl⟩, same_mut s4 nsd, ?_⟩
      rw [upd_same, List.take_add_one, List.getElem?_eq_getElem hi2]
      unfold sdL
      rw [List.map_append]
      rfl
    rintro σ H2 ⟨⟨v3, rfl⟩, s2, hsd2⟩
    rw [List.length_map, ll, List.take_length] at hsd2
    refine fun td ntd => ?_
    generalize e3 : upd H2 td _ = H3
    obtain ⟨s3, h3⟩ := gen_upd ntd e3
    have s03 := s2.trans s3
    have hsd3 := s3 _ _ hsd2
    have t3 := t.mono s03
    have sdtd : sd ≠ td := fun e => by rw [e] at hsd2; rw [hsd2] at ntd; cases ntd
    have ntdH : H td = none := s2.free ntd
    have lkk : ∀ n c, (n, c) ∈ lkOf as Ls → ∃ L, LetterAt K H3 c L ∧ sdOf Ls n = L.sender := fun n c h => by
      obtain ⟨j, hj1, hj2, ea, en⟩ := lkOf_mem ll h
      have hLa : LetterAt K H c Ls[j] := by
        obtain ⟨L, e, h⟩ := paired_at hL (List.getElem?_eq_getElem hj1)
        rw [List.getElem?_eq_getElem hj2] at e
        rw [Option.some.inj e, ← ea]
        exact h
      exact ⟨Ls[j], hLa.mono s03, by rw [← en]; exact sdOf_in hnd (List.getElem_mem hj2)⟩
    have sndl : ∀ n, (sdOf Ls n).length ≤ 100 := fun n => by
      unfold sdOf
      cases e : Ls.find? fun L => decide (L.n = n) with
      | none => exact (by decide +kernel : ("-" : PySem.Str).length ≤ 100)
      | some L =>
        have okL := hok L (List.mem_of_find?_eq_some e)
        have lp := (name_len okL.p).2
        have lh := (name_len okL.h).2
        have z4 : (" at " : PySem.Str).length = 4 := by decide +kernel
        show L.sender.length ≤ 100
        unfold Lt.sender
        rw [str_len_app, str_len_app, z4]
        omega
    refine ⟨_, rfl, p, dx, _, rfl, t3.ins, (by kernel_rfl), G, p, _, ab, bl, bi, rk, dx, d1, d2, d3, d4, f, sdOf Ls, rfl, t3, fg, fr, h9, hnum, sndl, fun n hn => sdOf_no (by rw [lkOf_keys ll] at hn; exact hn), lkk, fun H4 r es s4 hr4 end4 emem ed => ?_⟩
    have hsd4 := s4 _ _ hsd3
    have htd4 := s4 _ _ h3
    have rtd : r ≠ td := ne_of hr4 htd4 (by intro z; cases z)
    have esl : es.length ≤ 800 := by
      have := nodup_sub (ys := ab.map (·.1)) end4 fun x hx => (emem x).mp hx
      rw [List.length_map, List.length_map] at this
      omega
    have evn : ∀ e ∈ es, isNumber e.2 = true := fun e he => hnum _ ((emem _).mp (List.mem_map.mpr ⟨e, he, rfl⟩))
    refine ⟨r, rfl, ⟨_, sqL hr4⟩, ?_⟩
    have lle : (linesV (sdOf Ls) es).length = es.length := by unfold linesV; rw [List.length_map]
    have svl : ∀ q ∈ sdL Ls, isNumber q.1 = true := fun q hq => by
      obtain ⟨M, hM, e⟩ := List.mem_map.mp hq
      rw [← e]
      exact (hok M hM).n
    refine for_walk (w_list (xs := linesV (sdOf Ls) es)) (fun i σ H' => (∃ v3 v5 v6 v7, σ = [some (.ref p), some (.ref ra), some (.ref sd), v3, some (.ref td), v5, v6, v7]) ∧ Same H H' ∧ H' r = some (.lst (linesV (sdOf Ls) es)) ∧ H' sd = some (.dK (dkn (sdL Ls))) ∧ ∃ tdl : List (Int × V), H' td = some (.dK (dkn tdl)) ∧ tdl.map (·.1) = (es.map (·.2)).take i) ⟨⟨_, _, _, _, rfl⟩, s03.trans s4, hr4, hsd4, [], htd4, rfl⟩ (fun i σ H' _ h => sqL h.2.2.1) ?_ ?_
    · rintro i v σ Hz H5 hi ⟨rfl, hv⟩ ⟨⟨v3, v5, v6, v7, rfl⟩, s5, hr5, hsd5, tdl, htd5, tk5⟩
      rw [lle] at hi
      unfold linesV at hv
      rw [List.getElem?_map, List.getElem?_eq_getElem hi] at hv
      have hv : V.str (lineOf es[i].1 es[i].2 (sdOf Ls es[i].2)) = v := Option.some.inj hv
      subst hv
      have hem : es[i] ∈ es := List.getElem_mem hi
      have nv := evn _ hem
      obtain ⟨d0, d9⟩ := ed _ hem
      generalize hsv : sdOf Ls es[i].2 = y
      have yl : y.length ≤ 100 := by rw [← hsv]; exact sndl _
      have z1 : (" " : PySem.Str).length = 1 := by decide +kernel
      have z0 : (Str.empty : PySem.Str).length = 0 := by decide +kernel
      have zp := pad3_len (a := es[i].1) d0 (by omega)
      have zn := num_len nv
      have elen : (lineOf es[i].1 es[i].2 y).length ≤ 1000 := by
        unfold lineOf
        rw [str_len_app, str_len_app, str_len_app, str_len_app, str_len_app]
        omega
      have ecut : cutS (lineOf es[i].1 es[i].2 y) (some 3) none = " " ++ numS es[i].2 ++ " " ++ y := by
        have : lineOf es[i].1 es[i].2 y = pad3 es[i].1 ++ (" " ++ numS es[i].2 ++ " " ++ y) := by
          unfold lineOf
          apply ext_tl
          rw [tl_append, tl_append, tl_append, tl_append, tl_append, tl_append, tl_append, tl_append, tl_append]
          simp [show tl (Str.empty : PySem.Str) = [] from rfl]
        rw [this]
        exact cut_three zp
      have hl2 : (" " ++ numS es[i].2 ++ " " ++ y : PySem.Str).length ≤ 1000 := by
        rw [str_len_app, str_len_app, str_len_app]
        omega
      refine ⟨_, rfl, ?_⟩
      unfold tNoPart
      refine ⟨3, rfl, _, rfl, sz_le (by omega), ?_⟩
      rw [ecut]
      refine ⟨rfl, _, _, 2, rfl, rfl, by decide +kernel, by decide, by decide, by have := sz_le (n := (" " ++ numS es[i].2 ++ " " ++ y : PySem.Str).length + 2) (by omega); exact this, ?_⟩
      rw [split_two (itm_free (itm_num nv) (by omega))]
      refine fun q0 nq0 => ?_
      generalize e6 : upd H5 q0 _ = H6
      obtain ⟨s6, h6⟩ := gen_upd nq0 e6
      refine ⟨1, rfl, q0, _, rfl, sqL h6, fun q1 nq1 => ?_⟩
      generalize e7 : upd H6 q1 _ = H7
      obtain ⟨s7, h7⟩ := gen_upd nq1 e7
      have h7 : H7 q1 = some (.lst [.str (numS es[i].2), .str y]) := h7
      have s57 := s6.trans s7
      refine ⟨q1, _, rfl, sqL h7, rfl, _, _, rfl, _, _, rfl, rfl, ?_⟩
      have htd7 := s57 _ _ htd5
      have hsd7 := s57 _ _ hsd5
      have hr7 := s57 _ _ hr5
      have tvl : ∀ q ∈ tdl, isNumber q.1 = true := fun q hq => by
        have : q.1 ∈ (es.map (·.2)).take i := by rw [← tk5]; exact List.mem_map.mpr ⟨q, hq, rfl⟩
        obtain ⟨e, he, eq⟩ := List.mem_map.mp (List.mem_of_mem_take this)
        rw [← eq]
        exact evn e he
      have hnew : es[i].2 ∉ tdl.map (·.1) := by
        rw [tk5]
        have h2 : ((es.map (·.2)).take (i + 1)).Nodup := end4.sublist (List.take_sublist _ _)
        rw [List.take_add_one, List.getElem?_eq_getElem (by rw [List.length_map]; exact hi), List.nodup_append] at h2
        intro hm
        exact h2.2.2 _ hm es[i].2 (by simp) rfl
      have tdl9 : tdl.length ≤ 800 := by
        have := congrArg List.length tk5
        rw [List.length_map, List.length_take, List.length_map] at this
        omega
      refine ⟨_, rfl, _, rfl, td, _, rfl, DGet.k (k := Sum.inr (numS es[i].2)) htd7, _, rfl, ?_⟩
      rw [isSome_dkn tvl nv, decide_eq_false hnew]
      refine iteF ⟨_, rfl, _, rfl, sd, rfl, .inl ⟨_, .inl hsd7⟩, _, rfl, _, DGet.k (k := Sum.inr (numS es[i].2)) hsd7, ?_⟩
      rw [valV_dkn svl nv, sdL_at, hsv]
      refine ⟨rfl, _, rfl, ?_⟩
      rw [decide_eq_true rfl]
      refine iteF ⟨_, rfl, 3, rfl, _, rfl, sz_le (by omega), _, rfl, _, rfl, td, _, rfl, DPut.k (k := Sum.inr (numS es[i].2)) htd7 (sz_lt (by rw [dkn_len]; omega)), ?_⟩
      rw [dkn_put tvl nv hnew]
      generalize e8 : upd H7 td _ = H8
      obtain ⟨h8, k8⟩ := gen_mut e8
      refine ⟨⟨_, _, _, _, rfl⟩, by rw [← e8]; exact same_mut (s5.trans s57) ntdH, (k8 _ rtd).trans hr7, (k8 _ sdtd).trans hsd7, _, h8, ?_⟩
      rw [List.map_append, tk5, List.take_add_one, List.getElem?_eq_getElem (by rw [List.length_map]; exact hi), List.getElem_map]
      rfl
    · rintro σ H5 ⟨⟨v3, v5, v6, v7, rfl⟩, s5, hr5, hsd5, tdl, htd5, tk5⟩
      rw [lle, ← List.length_map (f := fun e : Int × Int => e.2), List.take_length] at tk5
      have t5 := t.mono s5
      have tdlen : tdl.length = es.length := by
        have := congrArg List.length tk5
        rw [List.length_map, List.length_map] at this
        exact this
      have eab : es.length = ab.length := by
        have a1 := nodup_sub (ys := ab.map (·.1)) end4 fun x hx => (emem x).mp hx
        have a2 := nodup_sub (ys := es.map (·.2)) t.na fun x hx => (emem x).mpr hx
        rw [List.length_map, List.length_map] at a1 a2
        omega
      refine ⟨_, rfl, td, _, rfl, htd5, ?_⟩
      refine ⟨_, rfl, p, dx, _, rfl, t5.ins, ?_⟩
      refine ⟨G, p, _, ab, bl, bi, rk, dx, d1, d2, d3, d4, rfl, t5, _, rfl, by omega, by omega, rfl, ?_⟩
      rw [dkn_len, tdlen, eab, decide_eq_true rfl]
      refine ⟨true, rfl, iteT ?_⟩
      refine ⟨sd, _, hsd5, trivial, fun od => ?_⟩
      generalize e6 : upd H5 sd _ = H6
      obtain ⟨h6, k6⟩ := gen_mut e6
      refine ⟨_, rfl, sd, od, rfl, .inl ⟨_, h6, fun D nD => ?_⟩⟩
      have htd6 := (k6 _ sdtd.symm).trans htd5
      have s06 : Same H H6 := by rw [← e6]; exact same_mut s5 nsd
      have tvl : ∀ q ∈ tdl, isNumber q.1 = true := fun q hq => by
        have : q.1 ∈ es.map (·.2) := by rw [← tk5]; exact List.mem_map.mpr ⟨q, hq, rfl⟩
        exact hnum _ ((emem _).mp this)
      have kn0 : ∀ n, kept (fun _ => (none : Option V)) n = [] := fun n => by
        induction n with
        | zero => rfl
        | succ n ih =>
          unfold kept
          rw [ih]
          rfl
      refine lc_pure w_keys (fun _ => none) nD (fun H' s => s _ _ h6) (fun i x H H' r => by rw [r.1]; exact Same.refl _) ?_ ?_
      · rintro i x H7 Hy hi ⟨rfl, kk, vv, hk, rfl⟩ s7 _ hK
        rw [dkn_len] at hi
        have hi2 : i < Ls.length := by unfold sdL at hi; rw [List.length_map] at hi; exact hi
        unfold dkn sdL at hk
        rw [List.getElem?_map, List.getElem?_map, List.getElem?_eq_getElem hi2] at hk
        cases hk
        have okL := hok _ (List.getElem_mem hi2)
        have hin : Ls[i].n ∈ tdl.map (·.1) := by
          rw [tk5]
          exact (emem _).mpr (hall _ (List.getElem_mem hi2))
        refine ⟨rfl, _, rfl, _, rfl, td, _, rfl, DGet.k (k := Sum.inr (numS Ls[i].n)) (s7 _ _ htd6), _, rfl, ?_⟩
        rw [isSome_dkn tvl okL.n, decide_eq_true hin]
        exact iteF (lcN s7 hK rfl)
      · intro H7 s7 h7
        rw [kn0] at h7
        refine ⟨s7 _ _ h6, ?_⟩
        have Dsd : D ≠ sd := fun e => by rw [e, h6] at nD; cases nD
        generalize e8 : upd H7 sd _ = H8
        obtain ⟨h8, k8⟩ := gen_mut e8
        have s08 : Same H H8 := by rw [← e8]; exact same_mut (s06.trans s7) nsd
        have hD8 := (k8 _ Dsd).trans h7
        refine ⟨Nat.zero_le _, fun l2 nl2 => ?_⟩
        generalize e9 : upd H8 l2 _ = H9
        obtain ⟨s9, h9'⟩ := gen_upd nl2 e9
        exact ⟨_, _, .lst (sqL (s9 _ _ hD8)) .nil, .lst (sqL h9') .nil, by decide +kernel, by decide +kernel, q H9 (s08.trans s9)⟩
end
end K75
end T_F1

section T_F2
set_option Elab.async false
set_option linter.all false
set_option maxRecDepth 100000
set_option maxHeartbeats 4000000
namespace K75
open PySem PySem.Spec PyProof.Rows L2 TL
/-! ### a list of pairs -/
def pairD (e : Int × Int) : PyData := .tuple [.int e.1, .int e.2]
theorem depth_pairs : ∀ ps : Edges, PyData.depthAll (ps.map pairD) ≤ 10
  | [] => by simp [PyData.depthAll]
  | p :: r => by
    have := depth_pairs r
    have e : PyData.depthAll ((p :: r).map pairD) = max (PyData.depth (pairD p)) (PyData.depthAll (r.map pairD)) := by rw [List.map_cons, PyData.depthAll]
    have d : PyData.depth (pairD p) ≤ 10 := by
      simp only [pairD, PyData.depth, PyData.depthAll]
      omega
    rw [e]
    omega
theorem canLay_pairs : ∀ ps : Edges, PyData.canLayAll0 (ps.map pairD) = true
  | [] => by simp [PyData.canLayAll0]
  | p :: r => by
    have := canLay_pairs r
    simp only [List.map_cons, PyData.canLayAll0, this, Bool.and_true]
    rfl
theorem shaped_pairs (ps : Edges) : SeqAt.shaped (.list (ps.map pairD)) = true := by
  have h1 := depth_pairs ps
  have h2 : PyData.depth (.list (ps.map pairD)) ≤ 64 := by simp only [PyData.depth]; omega
  show (PyData.canLay0 (.list (ps.map pairD)) && decide (PyData.depth (.list (ps.map pairD)) ≤ 64)) = true
  rw [Bool.and_eq_true]
  exact ⟨by simp only [PyData.canLay0]; exact canLay_pairs ps, decide_eq_true h2⟩
theorem any_pairs {ps : Edges} {a b : Int} (h : (a, b) ∈ ps) : ((ps.map pairD).any fun z => PyData.eqv z (pairD (a, b))) = true := by
  rw [List.any_eq_true]
  exact ⟨_, List.mem_map.mpr ⟨_, h, rfl⟩, by simp [pairD, PyData.eqv, PyData.eqvAll]⟩
/-- the list l of the pairs ps -/
def PairsAt (H : Hp) (l : Addr) (ps : Edges) : Prop := ∃ ts : List Addr, H l = some (.lst (ts.map V.ref)) ∧ Paired (fun t e => H t = some (.tup [.int e.1, .int e.2])) ts ps
theorem PairsAt.mono {H H' : Hp} {l : Addr} {ps : Edges} (h : PairsAt H l ps) (s : Same H H') : PairsAt H' l ps := by
  obtain ⟨ts, h1, h2⟩ := h
  exact ⟨ts, s _ _ h1, paired_mono h2 fun _ _ z => s _ _ z⟩
theorem pairs_dp {K : PySem.W.Frag} {H : Hp} {ts : List Addr} {ps : Edges} (h : Paired (fun t e => H t = some (.tup [.int e.1, .int e.2])) ts ps) : DpAll K H (ts.map V.ref) (ps.map pairD) := by
  induction h with
  | nil => exact .nil
  | cons a _ ih => exact .cons (.tup (sqT a) (.cons (.int _) (.cons (.int _) .nil))) ih
theorem PairsAt.dp {K : PySem.W.Frag} {H : Hp} {l : Addr} {ps : Edges} (h : PairsAt H l ps) : Dp K H (.ref l) (.list (ps.map pairD)) := by
  obtain ⟨ts, h1, h2⟩ := h
  exact .lst (sqL h1) (pairs_dp h2)
theorem w_zipT {K : PySem.W.Frag} {a b : Addr} {xs ys : List V} (h : ys.length ≤ xs.length) : Walks (RZ.ItzT K a b) ys.length (fun H => SqT K H a xs ∧ SqT K H b ys) (fun i v H H' => ∃ T x y, v = .ref T ∧ H T = none ∧ H' = upd H T (.tup [x, y]) ∧ xs[i]? = some x ∧ ys[i]? = some y) :=
  ⟨fun i H q hi => ⟨xs, ys, xs[i]'(by omega), ys[i], q.1, q.2, by simp [hi], by simp [hi]⟩, fun i H q hi => ⟨xs, ys, q.1, q.2, .inr hi⟩, fun i H x H' q hi y => by
    obtain ⟨T, u, v, e, h, e2, y1, y2⟩ := y
    exact ⟨T, u, v, e, h, e2, y1 xs q.1, y2 ys q.2⟩⟩
theorem cut_from1 (xs : List V) : cutV xs (some 1) none = xs.drop 1 := by
  unfold cutV
  have e : HT.sIx xs.length 0 (some 1) = min 1 xs.length := by
    have := HT.sIx_nat xs.length 0 1
    rw [show ((1 : Int)) = ((1 : Nat) : Int) from rfl, this]
  rw [HT.sIx_none, e]
  cases xs with
  | nil => rfl
  | cons x r =>
    rw [show min 1 (x :: r).length = 1 by rw [List.length_cons]; omega]
    exact List.take_of_length_le (by rw [List.length_drop]; exact Nat.le_refl _)
theorem paired_snoc {α β : Type} {F : α → β → Prop} {xs : List α} {ys : List β} (p : Paired F xs ys) {x : α} {y : β} (h : F x y) : Paired F (xs ++ [x]) (ys ++ [y]) := by
  induction p with
  | nil => exact .cons h .nil
  | cons a _ ih => exact .cons a ih
theorem paired_cat {α β : Type} {F : α → β → Prop} {xs us : List α} {ys vs : List β} (p : Paired F xs ys) (q : Paired F us vs) : Paired F (xs ++ us) (ys ++ vs) := by
  induction p with
  | nil => exact q
  | cons a _ ih => exact .cons a ih
theorem edgesAll_len {Ls : List Lt} (h : ∀ L ∈ Ls, L.ans.length ≤ 8) : (edgesAll Ls).length ≤ 8 * Ls.length := by
  induction Ls with
  | nil => exact Nat.zero_le _
  | cons L r ih =>
    have a := ih fun M hM => h M (List.mem_cons_of_mem _ hM)
    have b := h L List.mem_cons_self
    unfold edgesAll at *
    rw [List.flatMap_cons, List.length_append, List.length_cons]
    have : (edgesOf L).length = L.ans.length := List.length_map _
    omega
def sp_L_chains_right (K : PySem.W.Frag) : Sp := fun vs H Q _ => ∃ (G : Hp) (p ra : Addr) (as : List Addr) (Ls : List Lt) (od : List Int) (gk : List (Int × Addr)) (gi : Addr → GI) (dx d1 d2 d3 : Addr), vs = [.ref p, .ref ra] ∧ TS K G H p (lkOf as Ls) od gk gi dx d1 d2 d3 ∧ PT gk gi (edgesAll Ls) ∧
  H ra = some (.lst (as.map V.ref)) ∧ LettersAt K H as Ls ∧ Ls.length ≤ 16 ∧ (Ls.map (·.n)).Nodup ∧ (∀ L ∈ Ls, L.ans.length ≤ 8) ∧ gk.length ≤ 900 ∧ (∀ L ∈ Ls, L.n ∈ gk.map (·.1)) ∧ ∀ H', Same H H' → Q (.bl true) H'
section
variable {P : Program} {w : World} {K : PySem.W.Frag} {mg : PySem.Str → Option Value} {base : Heap}
abbrev sc_L_chains_right_N : List PySem.Str := ["_law_threads", "_law_read", "_law_links", "_law_letter", "_law_other", "_law_way", "_law_one"]
theorem sc_L_chains_right : FnScope sc_L_chains_right_N ["_law_threads", "_law_read"] (defScope s_L_chains_right) := ⟨rfl, rfl, rfl, by decide +kernel, rfl, by decide +kernel, by decide +kernel⟩
theorem ok_L_chains_right (W : Wd K mg) : Ok P w K mg base 4 d_L_chains_right ["_law_threads", "_law_read"] (sp_L_chains_right K) := by
  refine ok_mk W.d_L_chains_right sc_L_chains_right (fun _ _ _ _ _ _ us hl => match us, hl with | [_, _], _ => rfl) (fun vs H Q E h => ?_) (fun cdv A outer s H vs Q E hr h => ?_)
  · obtain ⟨G, p, ra, as, Ls, od, gk, gi, dx, d1, d2, d3, rfl, _⟩ := h
    rfl
  · obtain ⟨G, p, ra, as, Ls, od, gk, gi, dx, d1, d2, d3, rfl, t, pt, hra, hL, h16, hnd, h8, h9, hall, q⟩ := h
    have hu := hu_of hr
    have nd := sc_L_chains_right.nd
    refine ⟨_, (pss_cons (ps_set (i := 2) nd rfl (Or.inl rfl) (pe_lst pa_nil))
    (pss_cons (ps_for PassesOwn.never rfl (pi_list (pv 1)) (pg_name (i := 3) nd rfl (Or.inr rfl))
      (pss_one (ps_set (i := 2) nd rfl (Or.inl rfl) (pe_op op_cat (pv 2) (pe_lc (own := [("_law_other", 4)]) rfl nd (pi_tup (kfld K (pv 3) rfl)) (blkOk_by (N := sc_L_chains_right_N) (sc := defScope s_L_chains_right) (by decide +kernel)) (fun _ _ _ _ _ => (pg_name (i := 4) nd rfl (Or.inl rfl))) (fun _ _ _ _ _ => pts_nil) (fun _ _ _ _ _ => (pe_tup (pa_cons (kfld K (pv 3) rfl) (pa_cons (pv 4) pa_nil)))))))))
    (pss_cons (ps_for PassesOwn.never rfl (pi_list (pv 1)) (pg_name (i := 3) nd rfl (Or.inr rfl))
      (pss_cons (ps_set (i := 5) nd rfl (Or.inl rfl) (pe_f (ok_chain W) (hr.mono (by decide)) rfl W.g_chain (pa_cons (pv 0) (pa_cons (kfld K (pv 3) rfl) (pa_cons (pe_o (pv 0) W.c_Threads (ok_Threads_name_of W) W.m_Threads_name_of (hr.mono (by decide)) (pa_cons (kfld K (pv 3) rfl) pa_nil)) pa_nil)))))
      (pss_cons (ps_if (PW.pt (pw_or (pt_cmpR op_ne (pe_ix (kix_tup K) (pv 5) pe_int (fun _ _ => rfl)) (kfld K (pv 3) rfl) (nomark _)) (pw_or1 (pt_cmpR op_ne (pe_ix (kix_tup K) (pv 5) (pe_un un_neg pe_int) (fun _ _ => rfl)) (pe_o (pv 0) W.c_Threads (ok_Threads_name_of W) W.m_Threads_name_of (hr.mono (by decide)) (pa_cons (kfld K (pv 3) rfl) pa_nil)) (nomark _)))))
        (pss_one (ps_ret pe_bl))
        pss_nil)
      (pss_one (ps_for PassesOwn.never rfl (RZ.pi_zipA rfl W.f_zip (pa_cons (pv 5) (pa_cons (pe_slice (ksl_tupA K) (pv 5) (po_some pe_int) po_none) pa_nil))) (pg_tup rfl (pgs_cons (pg_name (i := 6) nd rfl (Or.inl rfl)) (pgs_cons (pg_name (i := 4) nd rfl (Or.inl rfl)) pgs_nil)))
        (pss_one (ps_if (PW.pt (pw_and (pt_cmpR (knotInD K (hu65 hr)) (pe_tup (pa_cons (pv 6) (pa_cons (pv 4) pa_nil))) (pv 2) (by with_unfolding_all rfl)) (pw_and1 (pt_cmpR (knotInD K (hu65 hr)) (pe_tup (pa_cons (pv 4) (pa_cons (pv 6) pa_nil))) (pv 2) (by with_unfolding_all rfl)))))
          (pss_one (ps_ret pe_bl))
          pss_nil)))))))
    (pss_one (ps_ret pe_bl))))), ?_⟩
    have ll : as.length = Ls.length := Paired.length hL
    refine ⟨Nat.zero_le _, fun l0 nl0 => ?_⟩
    generalize e1 : upd H l0 _ = H1
    obtain ⟨s1, h1⟩ := gen_upd nl0 e1
    refine ⟨_, rfl, ra, rfl, ⟨_, sqL (s1 _ _ hra)⟩, ?_⟩
    refine for_walk (w_list (xs := as.map V.ref)) (fun i σ H' => (∃ l v3, σ = [some (.ref p), some (.ref ra), some (.ref l), v3, none, none, none] ∧ PairsAt H' l (edgesAll (Ls.take i))) ∧ Same H H') ⟨⟨_, _, rfl, [], h1, .nil⟩, s1⟩ (fun i σ H' _ h => sqL (h.2 _ _ hra)) ?_ ?_
    · rintro i v σ Hz H4 hi ⟨rfl, hv⟩ ⟨⟨l, v3, rfl, hps⟩, s4⟩
      rw [List.length_map] at hi
      have hi2 : i < Ls.length := by omega
      rw [List.getElem?_map, List.getElem?_eq_getElem hi] at hv
      cases hv
      have hLi : LetterAt K H as[i] Ls[i] := by
        obtain ⟨L, e, h⟩ := paired_at hL (List.getElem?_eq_getElem hi)
        rw [List.getElem?_eq_getElem hi2] at e
        rw [Option.some.inj e]
        exact h
      have h88 := h8 _ (List.getElem_mem hi2)
      obtain ⟨dl, u1, u2, u3, hc1, hc2, _⟩ := hLi.mono s4
      refine ⟨_, rfl, _, rfl, as[i], _, dl, _, .ref u1, rfl, hc1, W.c_Letter, W.n_Letter_answers, lf_answers _ _ _ _, u1, rfl, ⟨_, sqT hc2⟩, fun D nD => ?_⟩
      refine lc_walk (w_tup (xs := Ls[i].ans.map V.int)) (fun j H' => Same H4 H' ∧ ∃ ts : List Addr, H' D = some (.lst (ts.map V.ref)) ∧ ts.length = j ∧ Paired (fun t (e : Int × Int) => H' t = some (.tup [.int e.1, .int e.2])) ts ((Ls[i].ans.take j).map fun z => (Ls[i].n, z))) ⟨same_new nD, [], upd_same, rfl, .nil⟩ (fun j H' _ h => sqT (h.1 _ _ hc2)) ?_ ?_
      · rintro j x H5 Hy hj ⟨rfl, hx⟩ ⟨s5, ts, hD, htl, hts⟩
        rw [List.length_map] at hj
        rw [List.getElem?_map, List.getElem?_eq_getElem hj] at hx
        cases hx
        refine ⟨rfl, tyes ⟨_, rfl, as[i], _, dl, _, .int Ls[i].n, rfl, s5 _ _ hc1, W.c_Letter, W.n_Letter_number, lf_number _ _ _ _, _, rfl, sz_le (by show 2 ≤ 100000; decide), fun tp ntp => ?_⟩⟩
        generalize e6 : upd Hy tp _ = H6
        obtain ⟨s6, h6⟩ := gen_upd ntp e6
        refine ⟨ts.map V.ref, s6 _ _ hD, sz_lt (by rw [List.length_map]; omega), same_mut (s5.trans s6) nD, ts ++ [tp], by rw [upd_same, List.map_append]; rfl, by rw [List.length_append, htl]; rfl, ?_⟩
        have keep : ∀ {a : Addr} {v : List V}, H6 a = some (.tup v) → upd H6 D (.lst (ts.map V.ref ++ [V.ref tp])) a = some (.tup v) := fun {a v} h => by
          rw [upd_ne (fun e => by rw [e, s6 _ _ hD] at h; cases h)]
          exact h
        rw [List.take_add_one, List.getElem?_eq_getElem hj, List.map_append]
        exact paired_snoc (paired_mono hts fun _ _ z => keep (s6 _ _ z)) (keep h6)
      · rintro H5 ⟨s5, ts, hD, htl, hts⟩
        rw [List.length_map] at htl hts
        rw [List.take_length] at hts
        obtain ⟨ts0, k1, k2⟩ := hps
        have l1 := Paired.length k2
        have l2 := edgesAll_len (Ls := Ls.take i) fun L hL => h8 L (List.mem_of_mem_take hL)
        rw [List.length_take] at l2
        refine ⟨l, D, _, _, rfl, rfl, s5 _ _ k1, hD, sz_le (by rw [List.length_map, List.length_map]; omega), fun q0 nq0 => ?_⟩
        rw [← List.map_append]
        generalize e6 : upd H5 q0 _ = H6
        obtain ⟨s6, h6⟩ := gen_upd nq0 e6
        refine ⟨⟨q0, _, rfl, ts0 ++ ts, h6, ?_⟩, (s4.trans s5).trans s6⟩
        rw [List.take_add_one, List.getElem?_eq_getElem hi2]
        unfold edgesAll
        rw [List.flatMap_append]
        refine paired_cat (paired_mono k2 fun _ _ z => s6 _ _ (s5 _ _ z)) ?_
        have := paired_mono hts fun _ _ z => s6 _ _ z
        simpa [edgesOf] using this
    rintro σ H2 ⟨⟨l, v3, rfl, hps⟩, s2⟩
    rw [List.length_map, ll, List.take_length] at hps
    refine ⟨_, rfl, ra, rfl, ⟨_, sqL (s2 _ _ hra)⟩, ?_⟩
    refine for_walk (w_list (xs := as.map V.ref)) (fun i σ H' => (∃ v3 v4 v5 v6, σ = [some (.ref p), some (.ref ra), some (.ref l), v3, v4, v5, v6]) ∧ Same H2 H') ⟨⟨_, _, _, _, rfl⟩, Same.refl _⟩ (fun i σ H' _ h => sqL (h.2 _ _ (s2 _ _ hra))) ?_ ?_
    · rintro i v σ Hz H4 hi ⟨rfl, hv⟩ ⟨⟨v3, v4, v5, v6, rfl⟩, s4⟩
      rw [List.length_map] at hi
      have hi2 : i < Ls.length := by omega
      rw [List.getElem?_map, List.getElem?_eq_getElem hi] at hv
      cases hv
      have hLi : LetterAt K H as[i] Ls[i] := by
        obtain ⟨L, e, h⟩ := paired_at hL (List.getElem?_eq_getElem hi)
        rw [List.getElem?_eq_getElem hi2] at e
        rw [Option.some.inj e]
        exact h
      have hmem := List.getElem_mem hi2
      have s04 := s2.trans s4
      have t4 := t.mono s04
      have hc : ∀ {H' : Hp}, Same H H' → ∃ dl u1 u2 u3, H' as[i] = some (.ins (He.ga K "Letter") dl (lfs Ls[i] u1 u2 u3)) := fun s => by
        obtain ⟨dl, u1, u2, u3, h, _⟩ := hLi.mono s
        exact ⟨dl, u1, u2, u3, h⟩
      obtain ⟨⟨k0, g⟩, hg, e0⟩ := List.mem_map.mp (hall _ hmem)
      have hng : (Ls[i].n, g) ∈ gk := by rw [← e0]; exact hg
      have a1 : atK gk Ls[i].n = some g := (atK_some t.nk).mpr hng
      obtain ⟨dl, u1, u2, u3, hc4⟩ := hc s04
      refine ⟨_, rfl, _, rfl, as[i], _, dl, _, .int Ls[i].n, rfl, hc4, W.c_Letter, W.n_Letter_number, lf_number _ _ _ _, _, rfl, p, dx, _, rfl, t4.ins, (by kernel_rfl), _, rfl, as[i], _, dl, _, .int Ls[i].n, rfl, hc4, W.c_Letter, W.n_Letter_number, lf_number _ _ _ _, G, p, _, od, gk, gi, dx, d1, d2, d3, Ls[i].n, rfl, t4, ?_⟩
      rw [a1]
      refine ⟨G, p, as, Ls, od, gk, gi, dx, d1, d2, d3, Ls[i].n, g, rfl, t4, pt, hng, paired_mono hL fun _ _ z => z.mono s04, h16, hnd, h8, h9, fun H5 wt pre s5 hwt hh hadj hpl => ?_⟩
      have s05 := s04.trans s5
      have t5 := t.mono s05
      obtain ⟨dl5, u15, u25, u35, hc5⟩ := hc s05
      have hwt1 : H5 wt = some (.tup (pre.map V.int ++ [V.int (gi g).lw])) := by rw [hwt, List.map_append]; rfl
      have h0 : ((pre ++ [(gi g).lw]).map V.int)[0]? = some (.int Ls[i].n) := by
        rw [List.getElem?_map, ← List.head?_eq_getElem?, hh]
        rfl
      refine ⟨_, rfl, wt, _, 0, .int Ls[i].n, rfl, rfl, sqT hwt, atI_nat (j := 0) h0, _, rfl, as[i], _, dl5, _, .int Ls[i].n, rfl, hc5, W.c_Letter, W.n_Letter_number, lf_number _ _ _ _, rfl, _, rfl, ?_⟩
      rw [decide_eq_true rfl]
      refine iteF ⟨_, rfl, 1, rfl, wt, _, -1, .int (gi g).lw, rfl, rfl, sqT hwt1, atI_last _ _, _, rfl, p, dx, _, rfl, t5.ins, (by kernel_rfl), _, rfl, as[i], _, dl5, _, .int Ls[i].n, rfl, hc5, W.c_Letter, W.n_Letter_number, lf_number _ _ _ _, G, p, _, od, gk, gi, dx, d1, d2, d3, Ls[i].n, rfl, t5, ?_⟩
      rw [a1]
      refine ⟨rfl, _, rfl, ?_⟩
      rw [decide_eq_true rfl]
      refine iteF ⟨_, rfl, _, rfl, 1, rfl, ?_⟩
      generalize ews : pre ++ [(gi g).lw] = ws at hwt hh hadj h0
      have wsl : 1 ≤ ws.length := by rw [← ews, List.length_append]; show 1 ≤ pre.length + 1; omega
      unfold tNoPart
      refine ⟨wt, _, rfl, sqT hwt, fun hw => ?_, fun _ w2 nw2 => ?_⟩
      · exfalso
        have := HT.sIx_nat (ws.map V.int).length 0 1
        have e := hw.1
        rw [show ((1 : Int)) = ((1 : Nat) : Int) from rfl, this, List.length_map] at e
        omega
      rw [cut_from1]
      generalize e6 : upd H5 w2 _ = H6
      obtain ⟨s6, h6⟩ := gen_upd nw2 e6
      have hwt6 := s6 _ _ hwt
      have s26 := (s4.trans s5).trans s6
      refine ⟨wt, w2, _, _, rfl, .inr ⟨sqT hwt6, sqT h6, ?_⟩⟩
      refine for_walk (w_zipT (xs := ws.map V.int) (ys := (ws.map V.int).drop 1) (by rw [List.length_drop]; omega)) (fun j σ H' => (∃ v4 v6, σ = [some (.ref p), some (.ref ra), some (.ref l), some (.ref as[i]), v4, some (.ref wt), v6]) ∧ Same H6 H') ⟨⟨_, _, rfl⟩, Same.refl _⟩ (fun j σ H' _ h => ⟨sqT (h.2 _ _ hwt6), sqT (h.2 _ _ h6)⟩) ?_ ?_
      · rintro j v σ H7 Hy hj ⟨T, x, y, rfl, hT, rfl, hx, hy⟩ ⟨⟨v4', v6', rfl⟩, s7⟩
        rw [List.getElem?_map] at hx
        rw [List.getElem?_drop, List.getElem?_map] at hy
        cases hxa : ws[j]? with
        | none => rw [hxa] at hx; cases hx
        | some a =>
        cases hyb : ws[1 + j]? with
        | none => rw [hyb] at hy; cases hy
        | some b =>
        rw [hxa] at hx
        rw [hyb] at hy
        cases hx
        cases hy
        have hR := hadj j a b hxa (by rw [Nat.add_comm]; exact hyb)
        have hE : (a, b) ∈ edgesAll Ls ∨ (b, a) ∈ edgesAll Ls := by
          rcases hR with ⟨L, h1, h2, _, h4⟩ | ⟨L, h1, h2, _, h4⟩
          · exact .inl (List.mem_flatMap.mpr ⟨L, h1, List.mem_map.mpr ⟨b, h4, by rw [h2]⟩⟩)
          · exact .inr (List.mem_flatMap.mpr ⟨L, h1, List.mem_map.mpr ⟨a, h4, by rw [h2]⟩⟩)
        have s8 : Same H6 (upd H7 T (.tup [.int a, .int b])) := s7.trans (same_new hT)
        have hT8 : upd H7 T (.tup [.int a, .int b]) T = some (.tup [.int a, .int b]) := upd_same
        generalize upd H7 T (.tup [.int a, .int b]) = H8 at s8 hT8 ⊢
        refine ⟨T, _, rfl, sqT hT8, rfl, _, _, rfl, _, _, rfl, rfl, ?_⟩
        refine ⟨_, rfl, _, rfl, sz_le (by show 2 ≤ 100000; decide), fun p1 np1 => ?_⟩
        generalize e9 : upd H8 p1 _ = H9
        obtain ⟨s9, h9'⟩ := gen_upd np1 e9
        have hp9 := (hps.mono s26).mono (s8.trans s9)
        refine ⟨_, rfl, pairD (a, b), _, .tup (sqT h9') (.cons (.int _) (.cons (.int _) .nil)), hp9.dp, by simp [pairD, SeqAt.shaped, PyData.canLay0, PyData.canLayAll0, PyData.depth, PyData.depthAll], shaped_pairs _, _, rfl, ?_⟩
        by_cases c1 : (((edgesAll Ls).map pairD).any fun z => PyData.eqv z (pairD (a, b))) = true
        · rw [c1]
          exact iteF (iteF ⟨⟨_, _, rfl⟩, s8.trans s9⟩)
        · rw [Bool.not_eq_true] at c1
          rw [c1]
          have hba : (b, a) ∈ edgesAll Ls := by
            rcases hE with h | h
            · rw [any_pairs h] at c1
              cases c1
            · exact h
          refine iteT ⟨_, rfl, _, rfl, sz_le (by show 2 ≤ 100000; decide), fun p2 np2 => ?_⟩
          generalize e10 : upd H9 p2 _ = H10
          obtain ⟨s10, h10⟩ := gen_upd np2 e10
          refine ⟨_, rfl, pairD (b, a), _, .tup (sqT h10) (.cons (.int _) (.cons (.int _) .nil)), (hp9.mono s10).dp, by simp [pairD, SeqAt.shaped, PyData.canLay0, PyData.canLayAll0, PyData.depth, PyData.depthAll], shaped_pairs _, _, rfl, ?_⟩
          rw [any_pairs hba]
          exact iteF ⟨⟨_, _, rfl⟩, (s8.trans s9).trans s10⟩
      · rintro σ H7 ⟨⟨v4', v6', rfl⟩, s7⟩
        exact ⟨⟨_, _, _, _, rfl⟩, s26.trans s7⟩
    · rintro σ H4 ⟨⟨v3, v4, v5, v6, rfl⟩, s4⟩
      exact q H4 (s2.trans s4)
end
end K75
end T_F2

section T_F3
set_option Elab.async false
set_option linter.all false
set_option maxRecDepth 100000
set_option maxHeartbeats 4000000
namespace K75
open PySem PySem.Spec PyProof.Rows L2 TL
/-! ### repr of a tuple of numbers -/
def tupS (ns : List Int) : PySem.Str := (PyData.tuple (ns.map PyData.int)).shown
theorem shown_ints : ∀ ns : List Int, PyData.shownAll (ns.map PyData.int) = ns.map fun n => PySem.Str.ofString (toString n)
  | [] => rfl
  | n :: r => by
    show PyData.shown (.int n) :: PyData.shownAll (r.map PyData.int) = _
    rw [shown_ints r]
    rfl
theorem showable_ints : ∀ {ns : List Int}, (∀ n ∈ ns, n.natAbs.log2 < 1920) → PyData.showableAll (ns.map PyData.int) = true
  | [], _ => rfl
  | n :: r, h => by
    show (PyData.showable (.int n) && PyData.showableAll (r.map PyData.int)) = true
    rw [showable_ints fun m hm => h m (List.mem_cons_of_mem _ hm), Bool.and_true]
    exact decide_eq_true (h n List.mem_cons_self)
theorem noDict_ints : ∀ ns : List Int, PyData.hasDictAll (ns.map PyData.int) = false
  | [] => rfl
  | n :: r => by
    show (PyData.hasDict (.int n) || PyData.hasDictAll (r.map PyData.int)) = false
    rw [noDict_ints r]
    rfl
theorem piled_le {ts : List PySem.Str} {b : Nat} (h : ∀ t ∈ ts, t.length ≤ b) : piled ts ≤ (b + 10) * ts.length := by
  induction ts with
  | nil => exact Nat.zero_le _
  | cons t r ih =>
    have a := ih fun u hu => h u (List.mem_cons_of_mem _ hu)
    have c := h t List.mem_cons_self
    rw [piled_cons, List.length_cons, Nat.mul_add, Nat.mul_one]
    omega
theorem tupS_len {ns : List Int} (h : ∀ n ∈ ns, isNumber n = true) (hl : ns.length ≤ 1000) : (tupS ns).length ≤ 100000 := by
  unfold tupS
  show (tupleText (PyData.shownAll (ns.map PyData.int))).length ≤ _
  rw [shown_ints]
  have h1 := fmt_text (ns.map fun n => PySem.Str.ofString (toString n))
  have h2 := piled_le (ts := ns.map fun n => PySem.Str.ofString (toString n)) (b := 31) fun t ht => by
    obtain ⟨n, hn, rfl⟩ := List.mem_map.mp ht
    exact num_len (h n hn)
  rw [List.length_map] at h2
  omega
def rReprT (K : PySem.W.Frag) : List V → Hp → VK → Prop := fun vs H Q => ∃ (a : Addr) (ns : List Int), vs = [V.ref a] ∧ SqT K H a (ns.map V.int) ∧ (∀ n ∈ ns, isNumber n = true) ∧ ns.length ≤ 1000 ∧ Q (.str (tupS ns)) H
theorem cr_reprT {X : Cx} (hg : X.A.guards = some []) (hu : X.A.units + 64 < cLine) : CallR X (.builtin "repr") (rReprT X.K) := by
  intro pins s σ H vs us Q I r h
  obtain ⟨a, ns, rfl, hs, hn, hl, q⟩ := h
  rw [Vals.ref1 r]
  obtain ⟨as, rd⟩ := Dp.reads I (.tuple (ns.map PyData.int)) (.ref a) (.ref a) (.tup hs (dp_ints ns)) rfl
  have hd : (PyData.tuple (ns.map PyData.int)).depth ≤ 10 := by
    have := PySem.W.depthAll_ints ns
    simp only [PyData.depth]
    omega
  refine repr_of_reads' rd (showable_ints fun n h => num_log (hn n h)) (fun e => ?_) hg (by omega) (fun b o e => e) (fun h' u tk hk => ?_) (sz_le (tupS_len hn hl))
  · have := noDict_ints ns
    have e : PyData.hasDictAll (ns.map PyData.int) = true := e
    rw [this] at e
    cases e
  · exact ⟨.str (tupS ns), H, I.kept hk, ⟨_, rfl⟩, q⟩
end K75
end T_F3

section T_F4
set_option Elab.async false
set_option linter.all false
set_option maxRecDepth 100000
set_option maxHeartbeats 4000000
namespace K75
open PySem PySem.Spec PyProof.Rows L2 TL
/-! ### how long a letter's text is -/
theorem row_short {w : Nat} {lead : PySem.Str} {xs : List PySem.Str} {b : Nat} (hl : lead.length ≤ 10) (hw : w * (b + 10) ≤ 150) (h : ∀ x ∈ xs, x.length ≤ b) : ∀ x ∈ wrapL lead w xs, x.length ≤ 160 := by
  intro x hx
  obtain ⟨k, _, rfl⟩ := List.mem_map.mp hx
  have hp : (piece w xs k).length ≤ w := by
    unfold piece
    rw [List.length_take]
    omega
  have hz : (Txt.join " " (piece w xs k)).length ≤ w * (b + 10) := join_len (by decide +kernel) hp fun x hx => h x (piece_mem hx)
  rw [str_len_app]
  have : (" " : PySem.Str).length = 1 := by decide +kernel
  split <;> omega
theorem text_short {L : Lt} (ok : L.Ok) : L.text.length ≤ 12000 := by
  unfold Lt.text
  have h1 : (L.heads ++ bodyL L.wds).length ≤ 59 := by
    unfold Lt.heads
    have a := wrapL_len (lead := "answers: ") (w := 3) (xs := L.ans.map numS) (by decide)
    have b := wrapL_len (lead := "subject: ") (w := 4) (xs := L.sub) (by decide)
    have c := bodyL_len L.wds
    have d := ok.a8
    have e := ok.s8
    have f := ok.w40
    rw [List.length_map] at a
    simp only [List.length_append, List.length_cons, List.length_nil]
    omega
  have lp := (name_len ok.p).2
  have lh := (name_len ok.h).2
  have z4 : (" at " : PySem.Str).length = 4 := by decide +kernel
  have h2 : ∀ x ∈ L.heads ++ bodyL L.wds, x.length ≤ 160 := by
    intro x hx
    unfold Lt.heads at hx
    rcases List.mem_append.mp hx with hx | hx
    · rcases List.mem_append.mp hx with hx | hx
      · rcases List.mem_append.mp hx with hx | hx
        · rcases List.mem_cons.mp hx with rfl | hx
          · have zn : (Str.empty ++ "number: " : PySem.Str).length = 8 := by decide +kernel
            have := num_len ok.n
            rw [str_len_app, zn]
            omega
          · rw [List.mem_singleton.mp hx]
            have zf : (Str.empty ++ "from: " : PySem.Str).length = 6 := by decide +kernel
            unfold Lt.sender
            rw [str_len_app, zf, str_len_app, str_len_app, z4]
            omega
        · refine row_short (b := 31) (by decide +kernel) (by decide) (fun y hy => ?_) x hx
          obtain ⟨n, hn, rfl⟩ := List.mem_map.mp hy
          exact num_len (ok.an n hn)
      · exact row_short (b := 8) (by decide +kernel) (by decide) (fun y hy => (name_len (ok.sn y hy)).2) x hx
    · unfold bodyL at hx
      split at hx
      · cases hx
      · rcases List.mem_cons.mp hx with rfl | hx
        · decide +kernel
        · obtain ⟨k, _, rfl⟩ := List.mem_map.mp hx
          have hp : (piece 8 L.wds k).length ≤ 8 := by
            unfold piece
            rw [List.length_take]
            omega
          have := join_len (sep := " ") (xs := piece 8 L.wds k) (b := 8) (n := 8) (by decide +kernel) hp fun y hy => (name_len (ok.wn y (piece_mem hy))).2
          omega
  have := join_len (sep := "\n") (xs := L.heads ++ bodyL L.wds) (b := 160) (n := 59) (by decide +kernel) h1 h2
  omega
theorem all_short {Ls : List Lt} (ok : ∀ L ∈ Ls, L.Ok) (h8 : Ls.length ≤ 8) : (Txt.join sepL (Ls.map Lt.text)).length ≤ 10000000 := by
  have z : sepL.length ≤ 10 := by decide +kernel
  have := join_len (sep := sepL) (xs := Ls.map Lt.text) (b := 12000) (n := 8) z (by rw [List.length_map]; exact h8) fun x hx => by
    obtain ⟨L, hL, rfl⟩ := List.mem_map.mp hx
    exact text_short (ok L hL)
  omega
/-! ### two orders of the same letters -/
theorem fOf_perm {Ls Ms : List Lt} (nd : (Ls.map (·.n)).Nodup) (nd2 : (Ms.map (·.n)).Nodup) (h : ∀ L, L ∈ Ls ↔ L ∈ Ms) : fOf Ls = fOf Ms := funext fun n => by
  by_cases hn : n ∈ Ls.map (·.n)
  · obtain ⟨L, hL, rfl⟩ := List.mem_map.mp hn
    rw [fOf_in nd hL, fOf_in nd2 ((h L).mp hL)]
  · have hn2 : n ∉ Ms.map (·.n) := fun z => by
      obtain ⟨L, hL, e⟩ := List.mem_map.mp z
      exact hn (List.mem_map.mpr ⟨L, (h L).mpr hL, e⟩)
    rw [fOf_no hn, fOf_no hn2]
theorem edges_perm {Ls Ms : List Lt} (h : ∀ L, L ∈ Ls ↔ L ∈ Ms) : ∀ e ∈ edgesAll Ls, e ∈ edgesAll Ms := fun e he => by
  obtain ⟨L, hL, z⟩ := List.mem_flatMap.mp he
  exact List.mem_flatMap.mpr ⟨L, (h L).mp hL, z⟩
/-- letters and where they stand -/
theorem zip_lk {as : List Addr} {Ls : List Lt} (h : as.length = Ls.length) {n : Int} {a : Addr} : (n, a) ∈ lkOf as Ls ↔ ∃ L, (a, L) ∈ as.zip Ls ∧ L.n = n := by
  unfold lkOf
  rw [← List.map_uncurry_zip_eq_zipWith, List.mem_map]
  constructor
  · rintro ⟨⟨b, L⟩, hm, e⟩
    cases e
    exact ⟨L, hm, rfl⟩
  · rintro ⟨L, hm, rfl⟩
    exact ⟨(a, L), hm, rfl⟩
theorem zip_at {K : PySem.W.Frag} {H : Hp} {as : List Addr} {Ls : List Lt} (h : LettersAt K H as Ls) : ∀ p ∈ as.zip Ls, LetterAt K H p.1 p.2 := by
  unfold LettersAt at h
  induction h with
  | nil => intro p hp; cases hp
  | cons a _ ih =>
    intro p hp
    rcases List.mem_cons.mp hp with rfl | hp
    · exact a
    · exact ih p hp
theorem of_zip {K : PySem.W.Frag} {H : Hp} : ∀ ps : List (Addr × Lt), (∀ p ∈ ps, LetterAt K H p.1 p.2) → LettersAt K H (ps.map (·.1)) (ps.map (·.2))
  | [], _ => .nil
  | p :: r, h => .cons (h p List.mem_cons_self) (of_zip r fun q hq => h q (List.mem_cons_of_mem _ hq))
theorem zip_maps : ∀ ps : List (Addr × Lt), (ps.map (·.1)).zip (ps.map (·.2)) = ps
  | [] => rfl
  | p :: r => by
    show (p.1, p.2) :: ((r.map (·.1)).zip (r.map (·.2))) = _
    rw [zip_maps r]
/-- the threads of two lists of the same letters are equal -/
theorem th_all {K : PySem.W.Frag} {H : Hp} {as bs : List Addr} {Ls Ms : List Lt} (ha : LettersAt K H as Ls) (hb : LettersAt K H bs Ms) (nd2 : (Ms.map (·.n)).Nodup) (h : ∀ L, L ∈ Ls → L ∈ Ms) : ∀ p ∈ lkOf as Ls, ∃ c, atK (lkOf bs Ms) p.1 = some c ∧ LtEq K p.2 c H := by
  have la := Paired.length ha
  have lb := Paired.length hb
  rintro ⟨n, a⟩ hp
  obtain ⟨L, hm, rfl⟩ := (zip_lk la).mp hp
  have h1 := zip_at ha _ hm
  have hL : L ∈ Ls := (List.of_mem_zip hm).2
  obtain ⟨i, hi, e⟩ := List.getElem_of_mem (h L hL)
  have hm2 : (bs[i]'(by omega), L) ∈ bs.zip Ms := by
    have : (bs.zip Ms)[i]? = some (bs[i]'(by omega), L) := by
      rw [List.getElem?_eq_getElem (by rw [List.length_zip]; omega), List.getElem_zip, e]
    exact List.mem_of_getElem? this
  have h2 := zip_at hb _ hm2
  have hk : ((lkOf bs Ms).map (·.1)).Nodup := by rw [lkOf_keys lb]; exact nd2
  exact ⟨_, (atK_some hk).mpr ((zip_lk lb).mpr ⟨L, hm2, rfl⟩), L, h1, h2⟩
theorem lkOf_len {as : List Addr} {Ls : List Lt} (h : as.length = Ls.length) : (lkOf as Ls).length = Ls.length := by
  unfold lkOf
  rw [List.length_zipWith, h, Nat.min_self]
/-- two forests of the same letters are equal -/
theorem fo_all {f : Fn} {ab ab2 : Abv} (g1 : FG f (gOf ab)) (g2 : FG f (gOf ab2)) (n1 : (ab.map (·.1)).Nodup) (n2 : (ab2.map (·.1)).Nodup) (ks : ∀ m, m ∈ ab.map (·.1) ↔ m ∈ ab2.map (·.1)) : ab.length = ab2.length ∧ ∀ q ∈ ab, atO ab2 q.1 = some q.2 := by
  constructor
  · have a := nodup_sub n1 fun x hx => (ks x).mp hx
    have b := nodup_sub n2 fun x hx => (ks x).mpr hx
    rw [List.length_map, List.length_map] at a b
    omega
  · rintro ⟨n, x⟩ hq
    have e := g1.one g2
    have h1 := gOf_at n1 hq
    have h2 := gOf_key n2 ((ks n).mp (List.mem_map.mpr ⟨_, hq, rfl⟩))
    rw [← e, h1] at h2
    exact (atO_some n2).mpr h2
/-! ### trees in threads -/
theorem up_edge {Ls : List Lt} (nd : (Ls.map (·.n)).Nodup) {n m : Int} (h : fOf Ls n = some m) : (n, m) ∈ edgesAll Ls := by
  obtain ⟨L, hL, e, h⟩ := fOf_ex nd h
  refine List.mem_flatMap.mpr ⟨L, hL, List.mem_map.mpr ⟨m, ?_, by rw [e]⟩⟩
  cases ha : L.ans with
  | nil => rw [ha] at h; cases h
  | cons z r =>
    rw [ha] at h
    cases h
    exact List.mem_cons_self
theorem path_conn {Ls : List Lt} (nd : (Ls.map (·.n)).Nodup) {g : Fn} (F : FG (fOf Ls) g) {n x : Int} {ns : List Int} (h : GP g n ns) (hx : x ∈ ns) : Conn (edgesAll Ls) n x := by
  induction h with
  | top _ => rw [List.mem_singleton.mp hx]; exact .refl _
  | up e _ ih =>
    rcases List.mem_cons.mp hx with rfl | hx
    · exact .refl _
    · exact (Conn.step (.refl _) (.inl (up_edge nd (F.sub e)))).trans (ih hx)
/-- the way to the root, with the root apart -/
theorem to_root {Ls : List Lt} (nd : (Ls.map (·.n)).Nodup) {ab : Abv} (na : (ab.map (·.1)).Nodup) (F : FG (fOf Ls) (gOf ab)) (cl : ∀ n m, (n, some m) ∈ ab → m ∈ ab.map (·.1)) {n : Int} (hn : n ∈ ab.map (·.1)) (h9 : ab.length ≤ 800) :
    ∃ pre r, IsPath ab n (pre ++ [r]) ∧ (r, none) ∈ ab ∧ Conn (edgesAll Ls) n r ∧ pre.length ≤ 800 := by
  obtain ⟨ns, hns⟩ := F.pt n
  obtain ⟨pre, r, rfl, hr, _⟩ := hns.last
  obtain ⟨hp, hk⟩ := hns.path na cl hn
  have hrk := hk r (by simp)
  have := gOf_key na hrk
  rw [hr] at this
  have l := nodup_sub hns.nodup hk
  rw [List.length_map, List.length_append] at l
  exact ⟨pre, r, hp, this, path_conn nd F hns (by simp), by omega⟩
theorem inj_len {R : Int → Int → Prop} {xs rs : List Int} (nd : xs.Nodup) (h : ∀ x ∈ xs, ∃ r ∈ rs, R x r) (inj : ∀ x y r, x ∈ xs → y ∈ xs → R x r → R y r → x = y) : xs.length ≤ rs.length := by
  induction xs generalizing rs with
  | nil => exact Nat.zero_le _
  | cons x t ih =>
    obtain ⟨r, hr, hR⟩ := h x List.mem_cons_self
    have n2 := List.nodup_cons.mp nd
    have := ih (rs := rs.erase r) n2.2 (fun y hy => by
      obtain ⟨q, hq, hQ⟩ := h y (List.mem_cons_of_mem _ hy)
      have ne : q ≠ r := fun e => by
        rw [e] at hQ
        have := inj y x r (List.mem_cons_of_mem _ hy) List.mem_cons_self hQ hR
        rw [this] at hy
        exact n2.1 hy
      exact ⟨q, (List.mem_erase_of_ne ne).mpr hq, hQ⟩) fun a b q ha hb => inj a b q (List.mem_cons_of_mem _ ha) (List.mem_cons_of_mem _ hb)
    have hl := List.length_erase_of_mem hr
    have hp := List.length_pos_of_mem hr
    rw [List.length_cons]
    omega
/-- as many trees as threads and more -/
theorem trees_ge {Ls : List Lt} (nd : (Ls.map (·.n)).Nodup) {ab : Abv} (na : (ab.map (·.1)).Nodup) (F : FG (fOf Ls) (gOf ab)) (cl : ∀ n m, (n, some m) ∈ ab → m ∈ ab.map (·.1)) (h9 : ab.length ≤ 800) {ns rs : List Int} (hn : ns.Nodup) (hx : ∀ x ∈ ns, Least (edgesAll Ls) (fun y => y ∈ ab.map (·.1)) x) (hr : ∀ r, (r, none) ∈ ab → r ∈ rs) : ns.length ≤ rs.length := by
  refine inj_len (R := fun x r => Conn (edgesAll Ls) x r) hn (fun x h => ?_) fun x y r h1 h2 c1 c2 => ?_
  · obtain ⟨pre, r, _, h2, h3, _⟩ := to_root nd na F cl (hx x h).1 h9
    exact ⟨r, hr r h2, h3⟩
  · have c := c1.trans c2.symm
    exact Int.le_antisymm ((hx x h1).2 y c) ((hx y h2).2 x c.symm)
end K75
end T_F4

section T_F5
set_option Elab.async false
set_option linter.all false
set_option maxRecDepth 100000
set_option maxHeartbeats 4000000
namespace K75
open PySem PySem.Spec PyProof.Rows L2 TL GF
theorem map_era {α β : Type} (f : α → β) : ∀ (l : List α) (k : Nat), (l.map f).eraseIdx k = (l.eraseIdx k).map f
  | [], _ => rfl
  | _ :: _, 0 => rfl
  | x :: r, k + 1 => by
    show f x :: (r.map f).eraseIdx k = f x :: (r.eraseIdx k).map f
    rw [map_era f r k]
theorem era_perm {α : Type} : ∀ (l : List α) (k : Nat) (h : k < l.length), (l[k] :: l.eraseIdx k).Perm l
  | x :: r, 0, _ => List.Perm.refl _
  | x :: r, k + 1, h => by
    have ih := era_perm r k (Nat.lt_of_succ_lt_succ h)
    exact (List.Perm.swap _ _ _).trans (List.Perm.cons x ih)
theorem LawRoom : Room 12 callerA := ⟨rfl, by decide, by decide⟩
section
variable {P : Program} {w : World} {K : PySem.W.Frag} {mg : PySem.Str → Option Value} {base : Heap}
theorem ThEq.mono {K : PySem.W.Frag} {a b : Addr} {H H' : Hp} (e : Ext H H') (h : ThEq K a b H) : ThEq K a b H' := by
  obtain ⟨dx, dy, d1, d2, d3, e1, e2, e3, lk, lk2, h1, h2, h3, h4, h5, h6, h7⟩ := h
  exact ⟨dx, dy, d1, d2, d3, e1, e2, e3, lk, lk2, e _ _ h1, e _ _ h2, e _ _ h3, e _ _ h4, h5, h6, fun p hp => by
    obtain ⟨c, h8, h9⟩ := h7 p hp
    exact ⟨c, h8, h9.mono e⟩⟩
theorem rc_Threads {X : Cx} (W : Wd X.K X.mg) : RcG X 4 (DIns (He.ga X.K "Threads") (ThEq X.K)) := by
  obtain ⟨fd, F, kp, b⟩ := ok_Threads_eq (P := X.prog) (w := X.w) (base := X.base) W
  exact rcG_ins F W.m_Threads_eq.at_ W.m_Threads_eq.fn b pass0
theorem rc_Forest {X : Cx} (W : Wd X.K X.mg) : RcG X 2 (DIns (He.ga X.K "Forest") (FoEq X.K)) := by
  obtain ⟨fd, F, kp, b⟩ := ok_Forest_eq (P := X.prog) (w := X.w) (base := X.base) W
  exact rcG_ins F W.m_Forest_eq.at_ W.m_Forest_eq.fn b pass0
abbrev sc_law_N : List PySem.Str := ["_law_script", "_law_at", "_law_bag_here", "_law_letters_here", "_law_text", "_law_read", "_law_left", "_law_other", "_law_turn", "_law_threads", "_law_forest", "_law_names", "_law_join", "_law_number", "_law_parent", "_law_name_here"]
theorem sc_law : FnScope sc_law_N ["_law_script"] (defScope s_law) := ⟨rfl, rfl, rfl, by decide +kernel, rfl, by decide +kernel, by decide +kernel⟩
theorem law_body (W : Wd K mg) (cdv : Value) (s : Shared) (H : Hp) (E : XK) (Q : VK) (a : Addr) (ns : List Int) (hS : SqL K H a (ns.map V.int)) (h63 : ns.length ≤ 63) (q : ∀ H', Q (.bl true) H') :
    ∃ t, PSs (cxOf CX0 P w K mg base sc_law_N d_law.qual d_law.scope (d_law.at_ K) cdv callerA [] s H E).nox d_law.body t ∧ t { nx := fun _ H' => Q .non H', rt := Q } (start sc_law_N [.ref a]) H := by
  have hr : Room 11 (callerA.deeper (envOfC d_law.qual d_law.scope s.heap.objs.size (d_law.at_ K) cdv)) := LawRoom.deeper _
  have hu := hu_of hr
  have nd := sc_law.nd
  obtain ⟨fdj, GJ, kpJ, bJ⟩ := ok_each_join (P := P) (w := w) (base := base) W
  have hrJ : Room (5 + 2) (callerA.deeper (envOfC d_law.qual d_law.scope s.heap.objs.size (d_law.at_ K) cdv)) := hr.mono (by decide)
  let X := (cxOf CX0 P w K mg base sc_law_N d_law.qual d_law.scope (d_law.at_ K) cdv callerA [] s H E).nox
  have monL : Mon (DIns (He.ga K "Letter") (LtEq K)) := mon_ins fun _ _ _ _ e r => r.mono e
  have opL : OpR X (compareOp .Eq) (rEqG (DList (DIns (He.ga K "Letter") (LtEq K)))) := op_eqG (rcG_list monL ((rc_Letter (X := X) W).eqG fun _ _ _ d => let ⟨a, b, _, _, _, _, hx, hy, _⟩ := d; ⟨a, b, hx, hy⟩)) (hr.mono (by decide))
  have opT : OpR X (compareOp .Eq) (rEqG (DIns (He.ga K "Threads") (ThEq K))) := op_eqG (rc_Threads (X := X) W) (hr.mono (by decide))
  have opF : OpR X (compareOp .Eq) (rEqG (DIns (He.ga K "Forest") (FoEq K))) := op_eqG (rc_Forest (X := X) W) (hr.mono (by decide))
  have hg : X.A.guards = some [] := rfl
  have crR : CallR X (.builtin "repr") (rReprT K) := cr_reprT hg (hu64 hr)
  refine ⟨_, (pss_cons (ps_for PassesOwn.never rfl (pi_range1 rfl W.f_range (pa_cons (pe_callB (call_max2 rfl) rfl W.f_max (by decide +kernel) (pa_cons pe_int (pa_cons (pe_callB (call_min2 rfl) rfl W.f_min (by decide +kernel) (pa_cons pe_int (pa_cons (pe_callB (klen_seq K) rfl W.f_len PySem.boot_len (pa_cons (pv 0) pa_nil)) pa_nil))) pa_nil))) pa_nil)) (pg_name (i := 1) nd rfl (Or.inl rfl))
      (pss_cons (ps_set (i := 2) nd rfl (Or.inl rfl) (pe_f (ok_L_bag W) (hr.mono (by decide)) rfl W.g_L_bag (pa_cons (pv 0) (pa_cons (pv 1) pa_nil))))
      (pss_cons (ps_set (i := 3) nd rfl (Or.inl rfl) (pe_f (ok_L_letters W) (hr.mono (by decide)) rfl W.g_L_letters (pa_cons (pv 2) pa_nil)))
      (pss_cons (ps_set (i := 4) nd rfl (Or.inl rfl) (pe_f (ok_written_letters W) (hr.mono (by decide)) rfl W.g_written_letters (pa_cons (pv 3) pa_nil)))
      (pss_cons (ps_set (i := 5) nd rfl (Or.inl rfl) (pe_f (ok_read_letters W) (hr.mono (by decide)) rfl W.g_read_letters (pa_cons (pv 4) pa_nil)))
      (pss_cons (ps_if (PW.pt (pw_or (pt_cmpR op_ne (pe_callB (klen_seq K) rfl W.f_len PySem.boot_len (pa_cons (pv 5) pa_nil)) (pe_callB (klen_seq K) rfl W.f_len PySem.boot_len (pa_cons (pv 3) pa_nil)) (nomark _)) (pw_or (pt_not (pt_cmpR opL (pv 5) (pv 3) (nomark _))) (pw_or1 (pt_cmpR op_ne (pe_f (ok_written_letters W) (hr.mono (by decide)) rfl W.g_written_letters (pa_cons (pv 5) pa_nil)) (pv 4) (nomark _))))))
        (pss_one (ps_ret pe_bl))
        pss_nil)
      (pss_cons (ps_par (i := 6) (j := 7) rfl nd rfl rfl (by decide) rfl rfl (pa_cons (pe_callTy (klist_of K) rfl W.f_list (by decide +kernel) (pa_cons (pv 5) pa_nil)) (pa_cons (pe_lst pa_nil) pa_nil)) rfl)
      (pss_cons (ps_for PassesOwn.never rfl (pi_range1 rfl W.f_range (pa_cons (pe_callB (klen_seq K) rfl W.f_len PySem.boot_len (pa_cons (pv 5) pa_nil)) pa_nil)) (pg_name (i := 8) nd rfl (Or.inl rfl))
        (pss_one (ps_expr (kbm K PySem.F.plainAttrs_list PySem.F.slot_list_append PySem.F.type_list_append mt_append (pv 7) (pa_cons (kbm K PySem.F.plainAttrs_list PySem.F.slot_list_pop PySem.F.type_list_pop mt_popAt (pv 6) (pa_cons (pe_f (ok_L_take W) (hr.mono (by decide)) rfl W.g_L_take (pa_cons (pv 2) (pa_cons (pe_callB (klen_seq K) rfl W.f_len PySem.boot_len (pa_cons (pv 6) pa_nil)) pa_nil))) pa_nil)) pa_nil)))))
      (pss_cons (ps_par (i := 9) (j := 10) rfl nd rfl rfl (by decide) rfl rfl (pa_cons (pe_c (d := d_Threads_of) (pe_glob (v := V.ref (He.ga K "Threads")) rfl W.g_Threads rfl) W.r_Threads W.cm_Threads_of (ok_Threads_of W) (hr.mono (by decide)) (pa_cons (pv 5) pa_nil)) (pa_cons (pe_c (d := d_Forest_of) (pe_glob (v := V.ref (He.ga K "Forest")) rfl W.g_Forest rfl) W.r_Forest W.cm_Forest_of (ok_Forest_of W) (hr.mono (by decide)) (pa_cons (pv 5) pa_nil)) pa_nil)) rfl)
      (pss_cons (ps_if (PW.pt (pw_or (pt_not (pt_cmpR opT (pv 9) (pe_c (d := d_Threads_of) (pe_glob (v := V.ref (He.ga K "Threads")) rfl W.g_Threads rfl) W.r_Threads W.cm_Threads_of (ok_Threads_of W) (hr.mono (by decide)) (pa_cons (pv 7) pa_nil)) (nomark _))) (pw_or (pt_not (pt_cmpR opF (pv 10) (pe_c (d := d_Forest_of) (pe_glob (v := V.ref (He.ga K "Forest")) rfl W.g_Forest rfl) W.r_Forest W.cm_Forest_of (ok_Forest_of W) (hr.mono (by decide)) (pa_cons (pv 7) pa_nil)) (nomark _))) (pw_or1 (pt_not (pt_cmpR opT (pv 9) (pe_c (d := d_Threads_of) (pe_glob (v := V.ref (He.ga K "Threads")) rfl W.g_Threads rfl) W.r_Threads W.cm_Threads_of (ok_Threads_of W) (hr.mono (by decide)) (pa_cons (pv 3) pa_nil)) (nomark _)))))))
        (pss_one (ps_ret pe_bl))
        pss_nil)
      (pss_cons (ps_set (i := 11) nd rfl (Or.inl rfl) (pe_lst pa_nil))
      (pss_cons (ps_forG (fun _ _ q => q) GJ hrJ rfl W.g_each_join kpJ bJ (pa_cons (pv 7) pa_nil) (pg_name (i := 12) nd rfl (Or.inr rfl))
        (pss_one (ps_set (i := 11) nd rfl (Or.inl rfl) (pe_callB cr_sortedI rfl W.f_sorted (by decide +kernel) (pa_cons (pe_op op_cat (pe_lc (own := [("_law_name_here", 15)]) rfl nd (pi_list (pv 11)) (blkOk_by (N := sc_law_N) (sc := defScope s_law) (by decide +kernel)) (fun _ _ _ _ _ => (pg_name (i := 15) nd rfl (Or.inl rfl))) (fun _ _ _ _ _ => (pts_one (pt_cmpR (knotIn_seq K) (pv 15) (kfld K (pv 12) rfl) (by with_unfolding_all rfl)))) (fun _ _ _ _ _ => (pv 15))) (pe_lst (pa_cons (kfld K (pv 12) rfl) pa_nil))) pa_nil)))))
      (pss_cons (ps_if (PW.pt (pw_or (pt_cmpR op_ne (pe_callB crR rfl W.f_repr (by decide +kernel) (pa_cons (pe_tupleOf rfl W.f_tuple (pv 11)) pa_nil)) (pe_callB crR rfl W.f_repr (by decide +kernel) (pa_cons (pe_o0 (pv 9) W.c_Threads (ok_Threads_names W) W.m_Threads_names (hr.mono (by decide))) pa_nil)) (nomark _)) (pw_or1 (pt_cmpR op_lt (pe_callB (klen_seq K) rfl W.f_len PySem.boot_len (pa_cons (pe_o0 (pv 10) W.c_Forest (ok_Forest_roots W) W.m_Forest_roots (hr.mono (by decide))) pa_nil)) (pe_callB (klen_seq K) rfl W.f_len PySem.boot_len (pa_cons (pv 11) pa_nil)) (nomark _)))))
        (pss_one (ps_ret pe_bl))
        pss_nil)
      (pss_cons (ps_for PassesOwn.never rfl (pi_list (pe_o0 (pv 10) W.c_Forest (ok_Forest_summary W) W.m_Forest_summary (hr.mono (by decide)))) (pg_tup rfl (pgs_cons (pg_name (i := 13) nd rfl (Or.inl rfl)) (pgs_cons (pg_name (i := 14) nd rfl (Or.inl rfl)) pgs_nil)))
        (pss_cons (ps_if (pt_cmpR op_ne (pe_o (pv 9) W.c_Threads (ok_Threads_name_of W) W.m_Threads_name_of (hr.mono (by decide)) (pa_cons (pv 13) pa_nil)) (pe_o (pv 9) W.c_Threads (ok_Threads_name_of W) W.m_Threads_name_of (hr.mono (by decide)) (pa_cons (pe_o (pv 10) W.c_Forest (ok_Forest_root W) W.m_Forest_root (hr.mono (by decide)) (pa_cons (pv 13) pa_nil)) pa_nil)) (nomark _))
          (pss_one (ps_ret pe_bl))
          pss_nil)
        (pss_one (ps_if (PW.pt (pw_and (pt_cmpR op_notN (pv 14) pe_non (nomark _)) (pw_and1 (pt_cmpR op_ne (pe_ix (kix_tup K) (kfld K (pe_o (pv 9) W.c_Threads (ok_Threads_letter_at W) W.m_Threads_letter_at (hr.mono (by decide)) (pa_cons (pv 13) pa_nil)) rfl) pe_int (fun _ _ => rfl)) (pv 14) (nomark _)))))
          (pss_one (ps_ret pe_bl))
          pss_nil))))
      (pss_one (ps_if (PW.pt (pw_or (pt_not (pt_val (pe_f (ok_L_drawn_right W) (hr.mono (by decide)) rfl W.g_L_drawn_right (pa_cons (pv 10) (pa_cons (pv 5) pa_nil))))) (pw_or1 (pt_not (pt_val (pe_f (ok_L_chains_right W) (hr.mono (by decide)) rfl W.g_L_chains_right (pa_cons (pv 9) (pa_cons (pv 5) pa_nil))))))))
        (pss_one (ps_ret pe_bl))
        pss_nil))))))))))))))))
    (pss_one (ps_ret pe_bl))), ?_⟩
  refine ⟨_, rfl, a, _, rfl, .inl hS, ?_⟩
  refine ⟨_, _, rfl, _, _, rfl, _, rfl, ?_⟩
  obtain ⟨nt, hnt, hnt3⟩ : ∃ nt : Nat, (if (if ((ns.map V.int).length : Int) < 3 then ((ns.map V.int).length : Int) else 3) > 1 then (if ((ns.map V.int).length : Int) < 3 then ((ns.map V.int).length : Int) else 3) else 1) = (nt : Int) ∧ nt ≤ 3 := by
    rw [List.length_map]
    refine ⟨(if (if (ns.length : Int) < 3 then (ns.length : Int) else 3) > 1 then (if (ns.length : Int) < 3 then (ns.length : Int) else 3) else 1).toNat, ?_, ?_⟩
    · split <;> split <;> omega
    · split <;> split <;> omega
  rw [hnt]
  refine ⟨by omega, by omega, ?_⟩
  rw [Int.toNat_natCast]
  refine for_walk w_rng (fun i σ H' => (∃ v1 v2 v3 v4 v5 v6 v7 v8 v9 v10 v11 v12 v13 v14 v15, σ = [some (.ref a), v1, v2, v3, v4, v5, v6, v7, v8, v9, v10, v11, v12, v13, v14, v15]) ∧ Same H H') ⟨⟨_, _, _, _, _, _, _, _, _, _, _, _, _, _, _, rfl⟩, Same.refl _⟩ (fun _ _ _ _ _ => trivial) ?_ (fun σ H' h => q H')
  rintro i v σ Hx H0 hi ⟨rfl, rfl⟩ ⟨⟨v1, v2, v3, v4, v5, v6, v7, v8, v9, v10, v11, v12, v13, v14, v15, rfl⟩, s0⟩
  -- the bag, the letters
  refine ⟨_, rfl, _, rfl, a, ns, i, by rw [Int.zero_add]; rfl, s0.seq hS, by omega, fun H1 b s1 nb hB => ?_⟩
  refine ⟨_, rfl, b, 0, rfl, hB, by decide, fun la H2 as0 Ls s2 nla hB2 hla hLs0 hl1 hl8 hok hnd => ?_⟩
  have lal := Paired.length hLs0
  have t12 : ∀ L ∈ Ls, L.text.length ≤ 12000 := fun L hL => text_short (hok L hL)
  refine ⟨_, rfl, la, as0, Ls, rfl, hla, hLs0, by omega, t12, fun H3 s3 => ?_⟩
  refine ⟨_, rfl, _, Ls, rfl, rfl, fun e => (by rw [e] at hl1; exact absurd hl1 (by decide)), hok, by omega, all_short hok hl8, fun H4 ra as s4 nra hra hLs => ?_⟩
  have s24 := s3.trans s4
  have ll := Paired.length hLs
  have hla4 := s24 _ _ hla
  have hLs04 : LettersAt K H4 as0 Ls := paired_mono hLs0 fun _ _ z => z.mono s24
  have bH1 : ∀ {c : Addr} {o : HO}, H1 c = none → H0 c = none := fun h => s1.free h
  have lab : la ≠ b := fun e => by
    obtain ⟨_, _, _, h, _⟩ := hB
    rw [e, h] at nla
    cases nla
  -- what the turn has made so far is new
  have sH4 : Same H H4 := fun c o hc => by
    have h1 := s1 _ _ (s0 _ _ hc)
    have cb : c ≠ b := fun e => by rw [e] at hc; rw [s0 _ _ hc] at nb; cases nb
    exact s24 _ _ (s2 c o (by simpa using cb) h1)
  refine ⟨_, rfl, _, _, rfl, .inl (sqL hra), _, rfl, _, _, rfl, .inl (sqL hla4), rfl, _, rfl, ?_⟩
  rw [show decide (V.int ((as.map V.ref).length : Nat) = V.int ((as0.map V.ref).length : Nat)) = true from decide_eq_true (by rw [List.length_map, List.length_map, ll, lal])]
  refine iteF ?_
  have dl : DList (DIns (He.ga K "Letter") (LtEq K)) (.ref ra) (.ref la) H4 := by
    refine ⟨ra, la, _, _, rfl, rfl, hra, hla4, by rw [List.length_map, List.length_map, ll, lal], fun j x y hx hy => ?_⟩
    rw [List.getElem?_map] at hx hy
    cases hxa : as[j]? with
    | none => rw [hxa] at hx; cases hx
    | some c =>
    cases hyb : as0[j]? with
    | none => rw [hyb] at hy; cases hy
    | some d =>
    rw [hxa] at hx
    rw [hyb] at hy
    cases hx
    cases hy
    obtain ⟨L, e1, g1⟩ := paired_at hLs hxa
    obtain ⟨M, e2, g2⟩ := paired_at hLs04 hyb
    rw [e1] at e2
    cases e2
    obtain ⟨x1, _, _, _, y1, _⟩ := id g1
    obtain ⟨x2, _, _, _, y2, _⟩ := id g2
    exact ⟨c, d, x1, x2, _, _, rfl, rfl, y1, y2, L, g1, g2⟩
  refine ⟨_, rfl, _, rfl, dl, fun H5 s5 => ⟨_, rfl, iteF ?_⟩⟩
  have hra5 := s5 _ _ hra
  have hLs5 : LettersAt K H5 as Ls := paired_mono hLs fun _ _ z => z.mono s5
  refine ⟨_, rfl, ra, as, Ls, rfl, hra5, hLs5, by omega, t12, fun H6 s6 => ⟨_, rfl, rfl, _, rfl, ?_⟩⟩
  rw [decide_eq_true rfl]
  refine iteF ?_
  have s46 : Same H4 H6 := Same.trans s5 s6
  have hra6 := s46 _ _ hra
  have hLs6 : LettersAt K H6 as Ls := paired_mono hLs fun _ _ z => z.mono s46
  -- the other order
  refine ⟨_, rfl, ra, _, rfl, .inl (sqL hra6), fun lf nlf => ?_⟩
  generalize e7 : upd H6 lf _ = H7
  obtain ⟨s7, h7⟩ := gen_upd nlf e7
  refine ⟨Nat.zero_le _, fun ot not => ?_⟩
  generalize e8 : upd H7 ot _ = H8
  obtain ⟨s8, h8⟩ := gen_upd not e8
  refine ⟨_, _, rfl, ?_⟩
  have hLs : LettersAt K H4 as Ls := hLs
  have hLs6 : LettersAt K H6 as Ls := hLs6
  have s68 : Same H6 H8 := s7.trans s8
  have hB6 : Bag H6 b (0 + 1000) := (hB2.mono s24).mono s46
  have hB8 := hB6.mono s68
  have lfb : lf ≠ b := fun e => by
    obtain ⟨_, _, _, h, _⟩ := hB6
    rw [e, h] at nlf
    cases nlf
  have otb : ot ≠ b := fun e => by
    obtain ⟨_, _, _, h, _⟩ := hB6.mono s7
    rw [e, h] at not
    cases not
  have lfot : lf ≠ ot := fun e => by rw [e] at h7; rw [h7] at not; cases not
  have not6 : H6 ot = none := s7.free not
  have hzl : (as.zip Ls).length = as.length := by rw [List.length_zip, ll, Nat.min_self]
  have as8 : as.length ≤ 8 := by omega
  refine ⟨_, rfl, ra, _, rfl, .inl (sqL (s68 _ _ hra6)), _, rfl, by omega, by rw [List.length_map]; omega, ?_⟩
  rw [Int.toNat_natCast]
  refine for_walk w_rng (fun j σ H' => (∃ v8, σ = [some (.ref a), some (.int (0 + (i : Int))), some (.ref b), some (.ref la), some (.str (Txt.join sepL (Ls.map Lt.text))), some (.ref ra), some (.ref lf), some (.ref ot), v8, v9, v10, v11, v12, v13, v14, v15]) ∧ SameX [b] H6 H' ∧ Bag H' b (1000 + (j : Int)) ∧ ∃ us vs : List (Addr × Lt), H' lf = some (.lst (us.map fun p => V.ref p.1)) ∧ H' ot = some (.lst (vs.map fun p => V.ref p.1)) ∧ vs.length = j ∧ (vs ++ us).Perm (as.zip Ls)) ?_ (fun _ _ _ _ _ => trivial) ?_ ?_
  · refine ⟨⟨_, rfl⟩, SameX.of s68, hB8.le (by omega), as.zip Ls, [], ?_, h8, rfl, List.Perm.refl _⟩
    rw [s8 _ _ h7]
    have : (as.zip Ls).map (fun p => V.ref p.1) = as.map V.ref := by
      rw [show (fun p : Addr × Lt => V.ref p.1) = V.ref ∘ Prod.fst from rfl, ← List.map_map, List.map_fst_zip (by omega)]
    rw [this]
  · rintro j v σ Hy H9 hj ⟨rfl, rfl⟩ ⟨⟨v8', rfl⟩, s9, hB9, us, vs, hlf9, hot9, hvl, hperm⟩
    rw [List.length_map] at hj
    have hul : us.length + j = as.length := by
      have := hperm.length_eq
      rw [List.length_append, hzl] at this
      omega
    refine ⟨_, rfl, .inl ⟨rfl, _, sqL hot9⟩, _, rfl, .inl ⟨rfl, _, sqL hlf9⟩, ?_⟩
    refine ⟨_, rfl, _, rfl, lf, _, rfl, .inl (sqL hlf9), b, _, _, rfl, by rw [List.length_map]; omega, by rw [List.length_map]; exact Int.le_trans (show (us.length : Int) ≤ 8 by omega) (by decide), hB9, by omega, fun x H10 x0 x1 s10 hB10 => ?_⟩
    have hlf10 := s10.at hlf9 lfb
    have hot10 := s10.at hot9 otb
    rw [List.length_map] at x1
    have hk : x.toNat < us.length := by omega
    refine ⟨lf, _, x, x.toNat, .ref (us[x.toNat]).1, rfl, rfl, hlf10, by omega, by omega, StrLaws.seqIndex_nonneg x0 (by rw [List.length_map]; exact x1), by rw [List.getElem?_map, List.getElem?_eq_getElem hk]; rfl, ?_⟩
    generalize e11 : upd H10 lf _ = H11
    obtain ⟨h11, k11⟩ := gen_mut e11
    have hot11 := (k11 _ lfot.symm).trans hot10
    refine ⟨ot, _, _, rfl, rfl, hot11, sz_lt (by rw [List.length_map]; omega), ?_⟩
    generalize e12 : upd H11 ot _ = H12
    obtain ⟨h12, k12⟩ := gen_mut e12
    have s12 : SameX [b] H6 H12 := by
      rw [← e12, ← e11]
      exact ((s9.trans s10).young nlf).young not6
    refine ⟨⟨_, rfl⟩, s12, ?_, us.eraseIdx x.toNat, vs ++ [us[x.toNat]], ?_, ?_, by rw [List.length_append, hvl]; rfl, ?_⟩
    · obtain ⟨dd, mm, kk, hh, r⟩ := hB10.le (c' := 1000 + ((j + 1 : Nat) : Int)) (by omega)
      exact ⟨dd, mm, kk, (k12 _ otb.symm).trans ((k11 _ lfb.symm).trans hh), r⟩
    · rw [k12 _ lfot, h11, map_era]
    · rw [h12, List.map_append]
      rfl
    · rw [List.append_assoc]
      refine List.Perm.trans (List.Perm.append_left vs ?_) hperm
      exact era_perm us x.toNat hk
  rintro σ H9 ⟨⟨v8', rfl⟩, s9, hB9, us, vs, hlf9, hot9, hvl, hperm⟩
  rw [List.length_map] at hvl
  have hus : us = [] := by
    have := hperm.length_eq
    rw [List.length_append, hzl] at this
    exact List.eq_nil_of_length_eq_zero (by omega)
  subst hus
  rw [List.append_nil] at hperm
  have sn69 : SameN H6 H9 := fun c o hc no => by
    refine s9 c o ?_ hc
    obtain ⟨_, _, _, h, _⟩ := hB6
    intro hm
    rw [List.mem_singleton.mp hm, h] at hc
    cases hc
    exact no _ rfl
  have hLs9 : LettersAt K H9 as Ls := lettersN hLs6 sn69
  have rab : ra ≠ b := fun e => by
    obtain ⟨_, _, _, h, _⟩ := hB2.mono s3
    rw [e, h] at nra
    cases nra
  have hra9 : H9 ra = some (.lst (as.map V.ref)) := s9.at hra6 rab
  have hla9 : H9 la = some (.lst (as0.map V.ref)) := s9.at (s46 _ _ hla4) lab
  have hLs09 : LettersAt K H9 as0 Ls := lettersN (paired_mono hLs04 fun _ _ z => z.mono s46) sn69
  have sH9 : Same H H9 := fun c o hc => by
    have cb : c ≠ b := fun e => by
      rw [e] at hc
      rw [s0 _ _ hc] at nb
      cases nb
    exact s9.at (s46 _ _ (sH4 _ _ hc)) cb
  have mem_vs : ∀ p, p ∈ vs ↔ p ∈ as.zip Ls := fun p => hperm.mem_iff
  have hOt9 : LettersAt K H9 (vs.map (·.1)) (vs.map (·.2)) := of_zip vs fun p hp => zip_at hLs9 p ((mem_vs p).mp hp)
  have hot9' : H9 ot = some (.lst ((vs.map (·.1)).map V.ref)) := by rw [hot9, List.map_map]; rfl
  have hMp : (vs.map (·.2)).Perm Ls := by
    have := hperm.map (fun p : Addr × Lt => p.2)
    rw [show (as.zip Ls).map (fun p : Addr × Lt => p.2) = Ls from List.map_snd_zip (by omega)] at this
    exact this
  generalize eMs : vs.map (·.2) = Ms at hOt9 hMp
  generalize eos : vs.map (·.1) = os at hOt9 hot9'
  have hMnd : (Ms.map (·.n)).Nodup := (hMp.map (·.n)).nodup_iff.mpr hnd
  have hMem : ∀ L, L ∈ Ms ↔ L ∈ Ls := fun L => hMp.mem_iff
  have hMl : Ms.length ≤ 16 := by rw [hMp.length_eq]; omega
  have a8 : ∀ L ∈ Ls, L.ans.length ≤ 8 := fun L hL => (hok L hL).a8
  have a8' : ∀ L ∈ Ls, L.ans.length ≤ 8 ∧ L.n ∉ L.ans := fun L hL => ⟨(hok L hL).a8, (hok L hL).ai⟩
  have oll := Paired.length hOt9
  -- threads, forest
  refine ⟨rfl, _, rfl, ra, as, Ls, rfl, hra9, hLs9, by omega, hnd, a8, fun H10 th gk gi dx d1 d2 d3 t10 pt10 ks10 l10 => ?_⟩
  have s910 := t10.same
  refine ⟨rfl, _, rfl, ra, as, Ls, rfl, s910 _ _ hra9, paired_mono hLs9 fun _ _ z => z.mono s910, by omega, hnd, a8', fun H11 fo ab bl bi rk fx f1 f2 f3 f4 t11 fg11 fr11 fk11 fl11 => ?_⟩
  have s1011 := t11.same
  refine ⟨_, _, rfl, ?_⟩
  -- equal threads, equal forests
  have s911 := s910.trans s1011
  have oM8 : ∀ L ∈ Ms, L.ans.length ≤ 8 := fun L hL => a8 L ((hMem L).mp hL)
  have oM8' : ∀ L ∈ Ms, L.ans.length ≤ 8 ∧ L.n ∉ L.ans := fun L hL => a8' L ((hMem L).mp hL)
  refine ⟨_, rfl, rfl, _, rfl, ot, os, Ms, rfl, s911 _ _ hot9', paired_mono hOt9 fun _ _ z => z.mono s911, hMl, hMnd, oM8, fun H12 th2 gk2 gi2 x2 c1 c2 c3 t12' pt12 ks12 l12 => ?_⟩
  have s1112 := t12'.same
  have s912 := s911.trans s1112
  have tA := t10.mono (s1011.trans s1112)
  have ne1 : d1 ≠ c1 := fun e => by
    have := t12'.g1
    rw [← e, (t10.mono s1011).h1] at this
    cases this
  have hLs12 : LettersAt K H12 as Ls := paired_mono hLs9 fun _ _ z => z.mono s912
  have hOt12 : LettersAt K H12 os Ms := paired_mono hOt9 fun _ _ z => z.mono s912
  refine ⟨⟨th, th2, dx, x2, _, _, rfl, rfl, tA.ins, t12'.ins, dx, x2, d1, d2, d3, c1, c2, c3, _, _, tA.ins, t12'.ins, tA.h1, t12'.h1, ne1, by rw [lkOf_len ll, lkOf_len oll, hMp.length_eq], th_all hLs12 hOt12 hMnd fun L h => (hMem L).mpr h⟩, fun H13 e13 => ⟨_, rfl, iteF ?_⟩⟩
  have s913 : Same H9 H13 := s912.trans e13
  refine ⟨_, rfl, rfl, _, rfl, ot, os, Ms, rfl, s913 _ _ hot9', paired_mono hOt9 fun _ _ z => z.mono s913, hMl, hMnd, oM8', fun H14 fo2 ab2 bl2 bi2 rk2 y2 g1 g2 g3 g4 t14 fg14 fr14 fk14 fl14 => ?_⟩
  have s1314 := t14.same
  have s914 := s913.trans s1314
  have s1114 : Same H11 H14 := (s1112.trans e13).trans s1314
  have fA := t11.mono s1114
  have ne2 : f2 ≠ g2 := fun e => by
    have := t14.g2
    rw [← e, (t11.mono (s1112.trans e13)).h2] at this
    cases this
  have kab : ∀ m, m ∈ ab.map (·.1) ↔ m ∈ ab2.map (·.1) := fun m => by
    rw [fk11, fk14]
    exact ⟨fun ⟨L, h1, h2⟩ => ⟨L, (hMem L).mpr h1, h2⟩, fun ⟨L, h1, h2⟩ => ⟨L, (hMem L).mp h1, h2⟩⟩
  have eff : fOf Ls = fOf Ms := fOf_perm hnd hMnd fun L => (hMem L).symm
  obtain ⟨fl, fe⟩ := fo_all fg11 (by rw [eff]; exact fg14) t11.na t14.na kab
  refine ⟨⟨fo, fo2, fx, y2, _, _, rfl, rfl, fA.ins, t14.ins, fx, y2, f1, f2, f3, f4, g1, g2, g3, g4, ab, ab2, fA.ins, t14.ins, fA.h2, t14.h2, ne2, fl, fe⟩, fun H15 e15 => ⟨_, rfl, iteF ?_⟩⟩
  have s915 : Same H9 H15 := s914.trans e15
  refine ⟨_, rfl, rfl, _, rfl, la, as0, Ls, rfl, s915 _ _ hla9, paired_mono hLs09 fun _ _ z => z.mono s915, by omega, hnd, a8, fun H16 th3 gk3 gi3 x3 b1 b2 b3 t16 pt16 ks16 l16 => ?_⟩
  have s1516 := t16.same
  have s916 := s915.trans s1516
  have s1016 : Same H10 H16 := ((((s1011.trans s1112).trans e13).trans s1314).trans e15).trans s1516
  have tB := t10.mono s1016
  have ne3 : d1 ≠ b1 := fun e => by
    have := t16.g1
    rw [← e, (t10.mono ((((s1011.trans s1112).trans e13).trans s1314).trans e15)).h1] at this
    cases this
  have hLs16 : LettersAt K H16 as Ls := paired_mono hLs9 fun _ _ z => z.mono s916
  have hLs016 : LettersAt K H16 as0 Ls := paired_mono hLs09 fun _ _ z => z.mono s916
  refine ⟨⟨th, th3, dx, x3, _, _, rfl, rfl, tB.ins, t16.ins, dx, x3, d1, d2, d3, b1, b2, b3, _, _, tB.ins, t16.ins, tB.h1, t16.h1, ne3, by rw [lkOf_len ll, lkOf_len lal], th_all hLs16 hLs016 hnd fun L h => h⟩, fun H17 e17 => ⟨_, rfl, iteF ?_⟩⟩
  have s917 : Same H9 H17 := s916.trans e17
  have s1017 : Same H10 H17 := s1016.trans e17
  have s1117 : Same H11 H17 := ((s1114.trans e15).trans s1516).trans e17
  have sH17 : Same H H17 := sH9.trans s917
  have tC := t10.mono s1017
  have fC := t11.mono s1117
  -- the joins
  refine ⟨Nat.zero_le _, fun l0 nl0 => ?_⟩
  generalize e18 : upd H17 l0 _ = H18
  obtain ⟨s18, h18⟩ := gen_upd nl0 e18
  refine ⟨_, rfl, Ms.length + 1, H17, ot, os, Ms, (fun k γ B => ∃ (nl : Addr) (xs : List Int) (w8 w12 w13 w14 w15 : Option V), γ = [some (.ref a), some (.int (0 + (i : Int))), some (.ref b), some (.ref la), some (.str (Txt.join sepL (Ls.map Lt.text))), some (.ref ra), some (.ref lf), some (.ref ot), w8, some (.ref th), some (.ref fo), some (.ref nl), w12, w13, w14, w15] ∧ Same H17 B ∧ B nl = some (.lst (xs.map V.int)) ∧ xs.Pairwise (· < ·) ∧ (∀ x, x ∈ xs ↔ NameAt Ms k x) ∧ xs.length ≤ k), rfl, s917 _ _ hot9', paired_mono hOt9 fun _ _ z => z.mono s917, hMl, hMnd, oM8, Nat.le_refl _, ⟨l0, [], _, _, _, _, _, rfl, s18, h18, .nil, fun x => ⟨fun z => (by cases z), fun z => ?_⟩, Nat.zero_le _⟩, fun k γ B h => ?_, ?_, ?_⟩
  · obtain ⟨⟨L, hL, _⟩, _⟩ := z
    rw [List.take_zero] at hL
    cases hL
  · obtain ⟨_, _, _, _, _, _, _, _, h, _⟩ := h
    exact h
  · rintro k γ B H' j ms m K' hk ⟨nl, xs, w8, w12, w13, w14, w15, rfl, sB, hnl, hxs, mxs, lxs⟩ sH' ⟨dj, z1, z2, tm, z5, z6, hj, htm⟩ ⟨jf1, jf2⟩ hk2 F Hc hF hO
    have sc := box_same hF hO
    have hjc := sc _ _ hj
    have htmc := sc _ _ htm
    have hnlc := sc _ _ (sH' _ _ hnl)
    refine ⟨_, rfl, nl, rfl, ⟨_, sqL hnlc⟩, fun D nD => ?_⟩
    refine lc_pure (w_list (xs := xs.map V.int)) (fun i => if (fun x => !decide (x ∈ ms)) (xs.getD i 0) = true then some (V.int (xs.getD i 0)) else none) nD (fun H' s => sqL (s _ _ hnlc)) (fun i x H H' r => by rw [r.1]; exact Same.refl _) ?_ ?_
    · rintro i2 x H3 Hy hi2 ⟨rfl, hx⟩ s3' _ hK
      rw [List.length_map] at hi2
      rw [List.getElem?_map, List.getElem?_eq_getElem hi2] at hx
      cases hx
      have hgd : xs.getD i2 0 = xs[i2] := by simp [List.getD, List.getElem?_eq_getElem hi2]
      refine ⟨rfl, _, rfl, _, rfl, j, _, dj, _, .ref tm, rfl, s3' _ _ hjc, W.c_Join, W.n_Join_met, (by kernel_rfl), tm, _, rfl, .inr (sqT (s3' _ _ htmc)), rfl, flat_ints _, _, rfl, ?_⟩
      rw [if_pos rfl, inV_ints]
      by_cases hin : xs[i2] ∈ ms
      · rw [decide_eq_true hin]
        exact iteF (lcN s3' hK (by show (if (!decide (xs.getD i2 0 ∈ ms)) = true then some (V.int (xs.getD i2 0)) else none) = _; rw [hgd, decide_eq_true hin]; rfl))
      · rw [decide_eq_false hin]
        exact iteT ⟨_, rfl, lcT nD s3' (by omega) hK (by show (if (!decide (xs.getD i2 0 ∈ ms)) = true then some (V.int (xs.getD i2 0)) else none) = _; rw [hgd, decide_eq_false hin]; rfl)⟩
    intro H3 s3' h3'
    rw [List.length_map] at h3'
    have h3' := h3'.trans (congrArg (fun l => some (HO.lst l)) (kept_filter (xs := xs) (p := fun x => !decide (x ∈ ms))))
    refine ⟨_, rfl, j, _, dj, _, .int m, rfl, s3' _ _ hjc, W.c_Join, W.n_Join_now, (by kernel_rfl), sz_le (by show 1 ≤ 100000; decide), fun l2 nl2 => ?_⟩
    generalize e4 : upd H3 l2 _ = H4'
    obtain ⟨s4', h4'⟩ := gen_upd nl2 e4
    have fl9 := List.length_filter_le (fun x => !decide (x ∈ ms)) xs
    refine ⟨D, l2, _, _, rfl, rfl, s4' _ _ h3', h4', sz_le (by rw [List.length_map]; show _ + 1 ≤ _; omega), fun p5 np5 => ?_⟩
    rw [show (xs.filter fun x => !decide (x ∈ ms)).map V.int ++ [V.int m] = ((xs.filter fun x => !decide (x ∈ ms)) ++ [m]).map V.int by rw [List.map_append]; rfl]
    generalize e5 : upd H4' p5 _ = H5'
    obtain ⟨s5', h5'⟩ := gen_upd np5 e5
    refine ⟨p5, _, rfl, sqL h5', fun gs q3 hpm hgs nq3 => ?_⟩
    generalize e6 : upd H5' q3 _ = H6'
    obtain ⟨s6', h6'⟩ := gen_upd nq3 e6
    have sc5 : Same Hc H5' := (s3'.trans s4').trans s5'
    have sc6 : Same Hc H6' := sc5.trans s6'
    have nq3c : Hc q3 = none := sc5.free nq3
    have Fq3 : F q3 = false := bfalse fun z => by
      obtain ⟨φ, h⟩ := (hF q3 z).2
      rw [nq3c] at h
      cases h
    have nq3' : H' q3 = none := sc.free nq3c
    have nq3B : B q3 = none := sH'.free nq3'
    have memF : ∀ x, x ∈ (xs.filter fun x => !decide (x ∈ ms)) ↔ x ∈ xs ∧ x ∉ ms := fun x => by
      rw [List.mem_filter, Bool.not_eq_true', decide_eq_false_iff_not]
    have memG : ∀ x, x ∈ gs ↔ NameAt Ms (k + 1) x := fun x => by
      rw [hpm.mem_iff, List.mem_append, List.mem_singleton, memF, mxs, jf1]
    have xnd : xs.Nodup := hxs.imp fun h e => by omega
    have gnd : gs.Nodup := by
      refine hpm.nodup_iff.mpr (List.nodup_append.mpr ⟨xnd.filter _, by simp, fun u hu v hv e => ?_⟩)
      rw [List.mem_singleton.mp hv] at e
      rw [e, memF, mxs] at hu
      exact jf2 hu
    refine ⟨fun c hc => ?_, ?_⟩
    · obtain ⟨φ, h⟩ := (hF c hc).2
      rw [sc6 _ _ h, h]
    refine hk2 _ (upd B q3 (.lst (gs.map V.int))) _ ⟨q3, gs, _, _, _, _, _, rfl, fun c o h => ?_, upd_same, lt_of_le_nodup hgs gnd, memG, ?_⟩ (fun c o h => ?_) fun c o hB' hH' => ?_
    · rw [upd_ne (fun e => by rw [e, sB.free nq3B] at h; cases h)]
      exact sB _ _ h
    · rw [hpm.length_eq, List.length_append]
      show _ + 1 ≤ k + 1
      omega
    · by_cases e : c = q3
      · rw [e, upd_same] at h
        rw [e, cut_out Fq3, h6', ← h]
      · rw [upd_ne e] at h
        have h := sH' _ _ h
        rw [cut_out (box_out hF h)]
        exact sc6 _ _ (sc _ _ h)
    · have e : c ≠ q3 := fun e => by rw [e, nq3'] at hH'; cases hH'
      rw [cut_out (box_out hF hH'), upd_ne e]
      exact ⟨sc6 _ _ (sc _ _ hH'), hB'⟩
  rintro γ B H19 ⟨nl, xs, w8, w12, w13, w14, w15, rfl, sB, hnl, hxs, mxs, lxs⟩ s19
  have s1719 : Same H17 H19 := sB.trans s19
  have s1019 := s1017.trans s1719
  have s1119 := s1117.trans s1719
  have hnl19 := s19 _ _ hnl
  -- facts
  have gnum : ∀ m, m ∈ gk.map (·.1) → isNumber m = true := fun m hm => by
    obtain ⟨L, hL, h⟩ := (ks10 m).mp hm
    rcases h with rfl | h
    · exact (hok L hL).n
    · exact (hok L hL).an m h
  have kgf : ∀ m, m ∈ gk.map (·.1) ↔ m ∈ ab.map (·.1) := fun m => by rw [ks10, fk11]
  have anum : ∀ m, m ∈ ab.map (·.1) → isNumber m = true := fun m hm => gnum m ((kgf m).mpr hm)
  have lst : ∀ x, x ∈ xs ↔ Least (edgesAll Ls) (fun y => y ∈ gk.map (·.1)) x := fun x => by
    rw [mxs]
    unfold NameAt
    rw [List.take_length]
    refine least_same (edges_perm hMem) (edges_perm fun L => (hMem L).symm) (fun y => ?_) x
    rw [ks10]
    exact ⟨fun ⟨L, h1, h2⟩ => ⟨L, (hMem L).mp h1, h2⟩, fun ⟨L, h1, h2⟩ => ⟨L, (hMem L).mpr h1, h2⟩⟩
  have xnum : ∀ x ∈ xs, isNumber x = true := fun x hx => gnum x ((lst x).mp hx).1
  have xl : xs.length ≤ 1000 := by omega
  have gk9 : gk.length ≤ 900 := by omega
  have ab9 : ab.length ≤ 800 := by omega
  have lowM : ∀ p ∈ gk, (gi p.2).lw ∈ Ls.map fun L => match atK gk L.n with
      | some g => (gi g).lw
      | none => 0 := fun p hp => by
    obtain ⟨L, hL, h⟩ := (ks10 p.1).mp (List.mem_map.mpr ⟨p, hp, rfl⟩)
    refine List.mem_map.mpr ⟨L, hL, ?_⟩
    have : (L.n, p.2) ∈ gk := by
      rcases h with h | h
      · rw [← h]
        exact hp
      · obtain ⟨g, e1, e2⟩ := pt10.edge (L.n, p.1) (List.mem_flatMap.mpr ⟨L, hL, List.mem_map.mpr ⟨p.1, h, rfl⟩⟩)
        have e2 : (p.1, g) ∈ gk := e2
        rw [key_one t10.nk hp e2]
        exact e1
    rw [(atK_some t10.nk).mpr this]
  -- the names
  have tD := t10.mono s1019
  refine ⟨_, rfl, .inl ⟨nl, _, rfl, sqL hnl19, fun q1 nq1 => ?_⟩⟩
  generalize e20 : upd H19 q1 _ = H20
  obtain ⟨s20, h20⟩ := gen_upd nq1 e20
  refine ⟨q1, xs, rfl, sqT h20, xnum, xl, ?_⟩
  have tE := tD.mono s20
  refine ⟨_, rfl, th, dx, _, rfl, tE.ins, (by kernel_rfl), H9, th, _, _, gk, gi, dx, d1, d2, d3, _, rfl, tE, gk9, (by rw [List.length_map]; omega), lowM, fun H21 q2 ys s21 nq2 hq2 hys mys => ?_⟩
  have exy : ys = xs := sorted_one hys hxs fun z => by
    rw [lst]
    exact (mys z).trans (pt10.names t10.nk z)
  subst exy
  refine ⟨q2, ys, rfl, sqT hq2, xnum, xl, rfl, _, rfl, ?_⟩
  rw [decide_eq_true rfl]
  have s1121 := (s1119.trans s20).trans s21
  have s1021 := (s1019.trans s20).trans s21
  have fD := t11.mono s1121
  refine iteF ⟨_, rfl, fo, fx, _, rfl, fD.ins, (by kernel_rfl), H10, fo, _, ab, bl, bi, rk, fx, f1, f2, f3, f4, rfl, fD, by omega, fun H22 q3 rs s22 nq3 hq3 hrs mrs => ?_⟩
  have hnl22 := s22 _ _ (s21 _ _ (s20 _ _ hnl19))
  refine ⟨q3, _, rfl, .inr (sqT hq3), _, rfl, nl, _, rfl, .inl (sqL hnl22), _, _, rfl, rfl, _, rfl, ?_⟩
  have tge : ys.length ≤ rs.length := trees_ge hnd t11.na fg11 fr11.cl ab9 (hxs.imp fun h e => by omega) (fun x hx => by
    obtain ⟨h1, h2⟩ := (lst x).mp hx
    exact ⟨(kgf x).mp h1, h2⟩) fun r hr => (mrs r).mpr hr
  rw [decide_eq_false (by rw [List.length_map, List.length_map]; omega)]
  have s1122 := s1121.trans s22
  have fE := t11.mono s1122
  refine iteF ⟨_, rfl, fo, fx, _, rfl, fE.ins, (by kernel_rfl), H10, fo, _, ab, bl, bi, rk, fx, f1, f2, f3, f4, rfl, fE, by omega, fun H23 r0 ts gs s23 hr0 hgs hrows => ?_⟩
  have s1123 := s1122.trans s23
  have s1023 := ((s1021.trans s22)).trans s23
  have s923 : Same H9 H23 := s910.trans s1023
  refine ⟨r0, rfl, ⟨_, sqL hr0⟩, ?_⟩
  refine for_walk (w_list (xs := ts.map V.ref)) (fun k σ H' => (∃ w8 w12 w13 w14 w15, σ = [some (.ref a), some (.int (0 + (i : Int))), some (.ref b), some (.ref la), some (.str (Txt.join sepL (Ls.map Lt.text))), some (.ref ra), some (.ref lf), some (.ref ot), w8, some (.ref th), some (.ref fo), some (.ref nl), w12, w13, w14, w15]) ∧ Same H23 H') ⟨⟨_, _, _, _, _, rfl⟩, Same.refl _⟩ (fun k σ H' _ h => sqL (h.2 _ _ hr0)) ?_ ?_
  · rintro k v σ Hy H24 hk ⟨rfl, hv⟩ ⟨⟨y8, y12, y13, y14, y15, rfl⟩, s24'⟩
    rw [List.length_map] at hk
    rw [List.getElem?_map, List.getElem?_eq_getElem hk] at hv
    cases hv
    obtain ⟨n, o, hgn, hno, htn⟩ := hrows.2 k ts[k] (List.getElem?_eq_getElem hk)
    have s1024 := s1023.trans s24'
    have s1124 := s1123.trans s24'
    have tF := t10.mono s1024
    have fF := t11.mono s1124
    have hnk : n ∈ ab.map (·.1) := List.mem_map.mpr ⟨_, hno, rfl⟩
    obtain ⟨⟨k0, g⟩, hg1, e0⟩ := List.mem_map.mp ((kgf n).mpr hnk)
    have hng : (n, g) ∈ gk := by rw [← e0]; exact hg1
    obtain ⟨pre, r, hP, hr1, hC, hpl⟩ := to_root hnd t11.na fg11 fr11.cl hnk ab9
    have hrg : (r, g) ∈ gk := pt10.reach t10.nk hng hC
    refine ⟨ts[k], _, rfl, sqT (s24' _ _ htn), rfl, _, _, rfl, _, _, rfl, rfl, ?_⟩
    refine ⟨_, rfl, th, dx, _, rfl, tF.ins, (by kernel_rfl), _, rfl, H9, th, _, _, gk, gi, dx, d1, d2, d3, n, rfl, tF, ?_⟩
    rw [(atK_some t10.nk).mpr hng]
    refine ⟨_, rfl, th, dx, _, rfl, tF.ins, (by kernel_rfl), _, rfl, fo, fx, _, rfl, fF.ins, (by kernel_rfl), _, rfl, H10, fo, _, ab, bl, bi, rk, fx, f1, f2, f3, f4, n, pre, r, rfl, fF, hP, hpl, fun H25 s25 => ?_⟩
    have tG := tF.mono s25
    refine ⟨H9, th, _, _, gk, gi, dx, d1, d2, d3, r, rfl, tG, ?_⟩
    rw [(atK_some t10.nk).mpr hrg]
    refine ⟨rfl, _, rfl, ?_⟩
    rw [decide_eq_true rfl]
    refine iteF ⟨_, rfl, rfl, _, rfl, ?_⟩
    cases o with
    | none => exact iteF (iteF ⟨⟨_, _, _, _, _, rfl⟩, s24'.trans s25⟩)
    | some m =>
      have hfm : fOf Ls n = some m := fg11.sub (gOf_at t11.na hno)
      obtain ⟨L, hL, eL, hLh⟩ := fOf_ex hnd hfm
      obtain ⟨j, hj, ej⟩ := List.getElem_of_mem hL
      have hja : j < as.length := by omega
      have hlk : (n, as[j]) ∈ lkOf as Ls := by
        rw [zip_lk ll]
        refine ⟨L, ?_, eL⟩
        have : (as.zip Ls)[j]? = some (as[j], L) := by
          rw [List.getElem?_eq_getElem (by rw [hzl]; exact hja), List.getElem_zip, ej]
        exact List.mem_of_getElem? this
      have hLj : LetterAt K H9 as[j] L := by
        obtain ⟨M, e1, h1⟩ := paired_at hLs9 (List.getElem?_eq_getElem hja)
        rw [List.getElem?_eq_getElem hj, ej] at e1
        rw [Option.some.inj e1]
        exact h1
      obtain ⟨dl, u1, u2, u3, hc1, hc2, _⟩ := hLj.mono ((s923.trans s24').trans s25)
      have ha0 : (L.ans.map V.int)[0]? = some (.int m) := by
        rw [List.getElem?_map, ← List.head?_eq_getElem?, hLh]
        rfl
      refine iteT ⟨_, rfl, th, dx, _, rfl, tG.ins, (by kernel_rfl), _, rfl, H9, th, _, _, gk, gi, dx, d1, d2, d3, n, rfl, tG, ?_⟩
      rw [(atK_some t10.nl).mpr hlk]
      refine ⟨as[j], _, dl, _, .ref u1, rfl, hc1, W.c_Letter, W.n_Letter_answers, lf_answers _ _ _ _, u1, _, 0, .int m, rfl, rfl, sqT hc2, atI_nat (j := 0) ha0, _, rfl, rfl, _, rfl, ?_⟩
      rw [show decide (V.int m = oV (some m)) = true from decide_eq_true rfl]
      exact iteF ⟨⟨_, _, _, _, _, rfl⟩, s24'.trans s25⟩
  rintro σ H24 ⟨⟨y8, y12, y13, y14, y15, rfl⟩, s24'⟩
  have s924 := s923.trans s24'
  have s1024 := s1023.trans s24'
  have s1124 := s1123.trans s24'
  have tF := t10.mono s1024
  have fF := t11.mono s1124
  have hLs24 : LettersAt K H24 as Ls := paired_mono hLs9 fun _ _ z => z.mono s924
  refine ⟨_, rfl, _, rfl, H10, fo, ra, as, Ls, ab, bl, bi, rk, fx, f1, f2, f3, f4, _, rfl, fF, fg11, fr11, ab9, anum, s924 _ _ hra9, hLs24, by omega, hnd, hok, fun L hL => (fk11 _).mpr ⟨L, hL, .inl rfl⟩, fun H25 s25 => ⟨true, rfl, iteF ?_⟩⟩
  have s925 := s924.trans s25
  refine ⟨_, rfl, _, rfl, H9, th, ra, as, Ls, _, gk, gi, dx, d1, d2, d3, rfl, tF.mono s25, pt10, s925 _ _ hra9, paired_mono hLs9 fun _ _ z => z.mono s925, by omega, hnd, a8, gk9, fun L hL => (ks10 _).mpr ⟨L, hL, .inl rfl⟩, fun H26 s26 => ⟨true, rfl, iteF ?_⟩⟩
  exact ⟨⟨_, _, _, _, _, _, _, _, _, _, _, _, _, _, _, rfl⟩, (sH9.trans s925).trans s26⟩
end
end K75
end T_F5

section T_F6
set_option Elab.async false
set_option linter.all false
set_option maxRecDepth 100000
set_option maxHeartbeats 4000000
namespace K75
open PySem PySem.Spec PyProof.Rows L2 TL
/-! ### the law's def, called by the claim's own caller alone (there no repr is under way) -/
section
variable {P : Program} {w : World} {K : PySem.W.Frag} {mg : PySem.Str → Option Value} {base : Heap}
theorem law_run (W : Wd K mg) : ∃ fd, (∀ (s : Shared) (u : Value), BindsTo s fd ⟨[u], []⟩ [("_law_script", u)]) ∧ ∀ (base : Heap) (s : Shared) (H : Hp) (a : Addr) (ns : List Int), Env0 P w K mg base callerA [] s H → SqL K H a (ns.map V.int) → ns.length ≤ 63 →
    codeAny (model P w) callerA (.call (.ref (d_law.at_ K)) ⟨[.ref a], []⟩) (CR CX0 [] P w H s (fun v _ => v = .bl true) E0) s := by
  obtain ⟨fd, F⟩ := W.d_law
  rw [dvs_nil rfl] at F
  have hbind : Binds K fd ["_law_script"] [] := FunD.bindsN (ps := ["_law_script"]) F fun _ _ _ _ _ _ us hl => match us, hl with | [_], _ => rfl
  have hba := FunD.bindsA (ps := ["_law_script"]) F fun _ _ _ _ _ _ us hl => match us, hl with | [_], _ => rfl
  refine ⟨fd, fun s u => hba s [u] rfl, fun base s H a ns env hS h63 => ?_⟩
  have rv : Vals [V.ref a] [Value.ref a] := .cons rfl .nil
  have hto : BindsTo s fd ⟨[.ref a], []⟩ [("_law_script", Value.ref a)] := hba s [.ref a] rfl
  obtain ⟨oc, od, dV, kV, doc, pm, an, cdv, ct, osl, rfl, lk, hcd, _, _⟩ := F.ex
  have kin : K.In s.heap := env.mod.kin.keeps fun c o h => (env.bs c o h).1
  have room : Room (11 + 1) callerA := LawRoom
  have kinds : ∀ y ∈ [(("_law_script" : PySem.Str), Value.ref a)], (defScope s_law).names.lookup y.1 = some .local ∨ ((defScope s_law).names.lookup y.1 = some .cell ∧ ((cellsFrom (s.heap.objs.size + 1) (defScope s_law).names []).lookup y.1).isSome = true) := fun y hy => by
    rw [List.mem_singleton.mp hy]
    rcases sc_law.par "_law_script" (by simp) with h | h
    · exact .inl h
    · exact .inr ⟨h, PySem.W.cellsFrom_some _ _ _ (.inl h)⟩
  refine codeAny_call_function room.depth (kin _ _ lk) rfl sc_law.co sc_law.gen rfl (PySem.W.codeRec_of kin hcd) (hto _ _ _ _ ?_)
  refine wpAny_newFunctionEnv_cells sc_law.kind kinds fun env2 he s1 xc => ?_
  subst he
  refine ⟨(env.mod.nolimit.keeps fun c o h => (env.bs c o h).1).keeps xc.toInCall.keep, codeAny_func ?_⟩
  obtain ⟨t, ht, hq⟩ := law_body (P := P) (w := w) (base := base) W cdv s H E0 (fun v _ => v = .bl true) a ns hS h63 fun _ => rfl
  have ht2 := PSs.nox ht
  have J : Inv (cxOf CX0 P w K mg base sc_law_N d_law.qual d_law.scope (d_law.at_ K) cdv callerA [] s H E0) [] (start sc_law_N [.ref a]) H s1 := inv_start sc_law room.hd env rfl rv xc
  refine wpAny_mono (ht2.run [] s1 (start sc_law_N [.ref a]) H _ J hq) (fun fl s' hs => ?_) fun e s' he => he
  cases fl with
  | ret u =>
    obtain ⟨v, σ', H', J', rv', hv⟩ := hs
    exact ⟨v, H', J'.os, J'.bare, J'.base, J'.hok, rv', hv⟩
  | next =>
    obtain ⟨σ', H', J', hv⟩ := hs
    exact ⟨V.non, H', J'.os, J'.bare, J'.base, J'.hok, rfl, hv⟩
  | brk =>
    obtain ⟨_, _, _, h⟩ := hs
    exact False.elim h
  | cont =>
    obtain ⟨_, _, _, h⟩ := hs
    exact False.elim h
end
end K75
end T_F6

section T_F7
set_option Elab.async false
set_option linter.all false
set_option maxRecDepth 100000
set_option maxHeartbeats 4000000
namespace K75
open PySem PySem.Spec PyProof.Rows L2 TL
/-! ### from the heap behind the top -/
section
variable {P : Program} {w : World} {K : PySem.W.Frag} {mg mb : PySem.Str → Option Value} {st : Shared} {a : Addr} {vs : List Value} {ns : List Int}
/-- what is tracked is the script at most, and that it is no object of the module -/
structure Lone (K : PySem.W.Frag) (H : Hp) (a : Addr) : Prop where
  one : ∀ b, H b ≠ none → b = a
  own : H a ≠ none → K.lookup a = none
theorem Lone.get (l : Lone K H a) (ha : st.heap.get? a = some { cls := .type "list", data := .seq vs.toArray }) {b : Addr} {o : Obj} (e : st.heap.get? b = some o) (n : ∀ z k, o.data ≠ .seq z k) : (hidT st.heap H).get? b = some o := by
  refine hidT_get e ?_
  cases h : H b with
  | none => rfl
  | some u =>
    have hb := l.one b (by rw [h]; exact fun z => by cases z)
    rw [hb, ha] at e
    cases e
    exact (n _ _ rfl).elim
theorem Lone.env {H : Hp} (l : Lone K H a) (ha : st.heap.get? a = some { cls := .type "list", data := .seq vs.toArray }) (kx : K.In st.heap) (g : st.heap.Ns mainGlobals mg) (bn : st.heap.Ns builtinsNs mb) (bb : ∀ x : PySem.Str, x ≠ "__name__" → mb x = bootBuiltins x) (lim : st.heap.NoLimit) (gens : st.gens = #[]) (hok : HOk P w H st.heap) :
    Env0 P w K mg (hidT st.heap H) callerA [] st H := by
  have ns_of : ∀ {b : Addr} {m : PySem.Str → Option Value}, st.heap.Ns b m → (hidT st.heap H).Ns b m := by
    rintro b m ⟨o, es, ep, e, d, r⟩
    exact ⟨o, es, ep, l.get ha e (fun z k q => by rw [d] at q; cases q), d, r⟩
  have kin : K.In (hidT st.heap H) := by
    intro b o e
    refine hidT_get (kx b o e) ?_
    cases h : H b with
    | none => rfl
    | some u =>
      have hb := l.one b (by rw [h]; exact fun z => by cases z)
      rw [hb] at e h
      rw [l.own (by rw [h]; exact fun z => by cases z)] at e
      cases e
  obtain ⟨mc, k1, k2⟩ := lim
  exact { frames := rfl
          mod := ⟨kin, ns_of g, ⟨mb, ns_of bn, bb⟩, ⟨mc, ns_of k1, k2⟩⟩
          bs := fun b o e => of_hidT e
          bsz := Nat.le_of_eq (hidT_size _ _)
          funs := trivial
          frf := fun b h => by cases h
          hok := hok
          bare := .of_eq gens }
theorem Lone.done {H : Hp} (ho : Only H) (hok : HOk P w H st.heap) {r : Result} {s' : Shared} (h : CR CX0 [] P w H st (fun v _ => v = .bl true) E0 r s') : r = .ok (.ret (.bool true)) ∧ OldK st.heap s'.heap ∧ s'.os = st.os ∧ AllBare s'.gens := by
  match r, h with
  | .ok (.ret u), h =>
    obtain ⟨v, H', os, bare, un, hok', rel, hv⟩ := h
    have hv : v = .bl true := hv
    rw [hv] at rel
    have hu : u = Value.bool true := rel
    rw [hu]
    refine ⟨rfl, OldK.of_keep fun b o e => ?_, os, bare⟩
    rcases ho b with z | ⟨ob, xs, z⟩
    · exact un.keep b o e z (fun m => by cases m) fun m => by cases m
    · obtain ⟨e1, _⟩ := hok b _ z
      obtain ⟨e2, _⟩ := hok' b _ (un.frzs b ob _ z)
      rw [e1] at e
      rw [e2, e]
  | .ok .next, h => exact False.elim h
  | .ok .brk, h => exact False.elim h
  | .ok .cont, h => exact False.elim h
  | .error e, h => exact False.elim h
theorem law_end (W : Wd K mg) (kx : K.In st.heap) (g : st.heap.Ns mainGlobals mg) (bn : st.heap.Ns builtinsNs mb) (bb : ∀ x : PySem.Str, x ≠ "__name__" → mb x = bootBuiltins x) (lim : st.heap.NoLimit) (gens : st.gens = #[])
    (ha : st.heap.get? a = some { cls := .type "list", data := .seq vs.toArray }) (hi : IntsAre vs ns) (h63 : ns.length ≤ 63) :
    codeAny (model P w) callerA (.call (.ref (d_law.at_ K)) ⟨[.ref a], []⟩) (fun r s' => r = .ok (.ret (.bool true)) ∧ OldK st.heap s'.heap ∧ s'.os = st.os ∧ AllBare s'.gens) st := by
  obtain ⟨fd, _, run⟩ := law_run (P := P) (w := w) W
  have rv := vals_ints hi
  have hl : ns.length ≤ sizeLine := sz_le (by omega)
  cases hk : K.lookup a with
  | some o =>
    have e := kx a o hk
    rw [ha] at e
    cases e
    have hok : HOk P w (fun _ => none) st.heap := fun b u z => by cases z
    have lo : Lone K (fun _ => none) a := ⟨fun b z => absurd rfl z, fun z => absurd rfl z⟩
    have sq : SqL K (fun _ => none) a (ns.map V.int) := .inr ⟨_, vs.toArray, _, hk, rfl, rfl, rfl, by rw [List.size_toArray, hi.length]; exact hl, by simpa using rv⟩
    exact codeAny_mono (run _ st _ a ns (lo.env ha kx g bn bb lim gens hok) sq h63) fun r s' h => Lone.done (fun _ => .inl rfl) hok h
  | none =>
    let H : Hp := fun b => if b = a then some (.frz { cls := .type "list", data := .seq vs.toArray } (.lst (ns.map V.int))) else none
    have at_a : H a = some (.frz { cls := .type "list", data := .seq vs.toArray } (.lst (ns.map V.int))) := if_pos rfl
    have off : ∀ {b : Addr}, b ≠ a → H b = none := fun h => if_neg h
    have lo : Lone K H a := ⟨fun b z => Decidable.byContradiction fun n => z (off n), fun _ => hk⟩
    have hok : HOk P w H st.heap := fun b u z => by
      by_cases e : b = a
      · rw [e, at_a] at z
        cases z
        rw [e]
        exact ⟨ha, by rw [List.length_map]; exact hl, vs, _, rv, ha⟩
      · rw [off e] at z
        cases z
    have ho : Only H := fun b => by
      by_cases e : b = a
      · rw [e]
        exact .inr ⟨_, _, at_a⟩
      · exact .inl (off e)
    exact codeAny_mono (run _ st H a ns (lo.env ha kx g bn bb lim gens hok) (.inl (.inr ⟨_, at_a⟩)) h63) fun r s' h => Lone.done ho hok h
end
end K75
end T_F7

set_option Elab.async false
set_option linter.all false
set_option maxRecDepth 100000
open PySem PySem.W PySem.Calls PyProof.Rows
set_option maxRecDepth 100000 in
set_option maxHeartbeats 0 in
theorem PySem.Challenge.cw_filedalike_k75_letters_read_in_any_order_holds : PySem.Challenge.rw_filedalike_k75_letters_read_in_any_order.Holds := by
  w_on; o_law
  refine HandSHeadRun.head_any (r := OpenLaw.row PySem.Challenge.rw_filedalike_k75_letters_read_in_any_order) (q := view (OpenLaw.row PySem.Challenge.rw_filedalike_k75_letters_read_in_any_order).prog [52]) (H := K75.hk) (ob := K75.ob) (M := 20000) (loose := K75.names) (d := HandSHeadRun.topDef (OpenLaw.row PySem.Challenge.rw_filedalike_k75_letters_read_in_any_order).prog 52) (kwd := []) K75.ob_eq
    (by kernel_rfl) (fun s => by kernel_rfl) K75.run (by kernel_rfl) (by kernel_rfl) (by kernel_rfl) (by rfl) (by first | assumption | decide +kernel) (by decide +kernel) ⟨rfl, rfl, rfl, rfl, rfl, by decide +kernel⟩ ?hw ?hc
  case hw => w_witness2
  case hc =>
    refine Att.attach_call rfl (by kernel_rfl) fun w s₀ s₁ mg mb fa o pm cd doc a vs ns G Y ho hd hcd hmg hobj hints hlen hg => ?_
    obtain ⟨K, KX, c⟩ := Y
    have W : K75.Wd K mg := ⟨c, _, KX, G.T.g⟩
    have e : mg (HandSHeadRun.topDef (OpenLaw.row PySem.Challenge.rw_filedalike_k75_letters_read_in_any_order).prog 52).name = some (.ref (K75.d_law.at_ K)) := W.g_law
    have ef := hmg.symm.trans e
    injection ef with ef
    injection ef with ef
    subst ef
    exact K75.law_end W KX G.T.g G.T.b G.T.builtins G.T.nolimit hg hobj hints hlen
