import PyProof.Rows.All
import Wide.All
import OpenK.AllK
import Wide.FinOn
import HandS.ForMost
import HandS.Star
import PySem.Challenge.RW_markedways_k16_whole_ways_put_together
import KE.KDictKeyed
import KE.SortData
import HandS.DictComp
import HandS.TupSets
import HandS.SetFor
import HandS.Set
import KE.KDictOf
import KE.KEqDict
import KE.KDictSum
import KE.KDictDisplayH
import HandS.IsInst
import HandS.Strs
import HandS.Style
import HandS.Wide
import HandS.TupAny
import HandS.NoneIn
set_option Elab.async false
set_option linter.all false
set_option maxRecDepth 100000
/-! The program's text by places; what the top has made of it. -/
namespace Mw
open PySem L2
def topS (i : Nat) : Stmt := PySem.Challenge.pw_markedways_k16_whole_ways_put_together.main.body.getD i (.Pass ⟨0, 0, 0, 0⟩)
abbrev s_is_number : Stmt := topS 16
abbrev s_is_count : Stmt := topS 17
abbrev s_is_list : Stmt := topS 18
abbrev s_is_field : Stmt := topS 19
abbrev s_are_different : Stmt := topS 20
abbrev s_need_fields : Stmt := topS 21
abbrev s_is_packet_of : Stmt := topS 22
abbrev s_need_packet : Stmt := topS 23
abbrev s_are_trees : Stmt := topS 32
abbrev s_is_tree_of : Stmt := topS 33
abbrev s_is_tree : Stmt := topS 34
abbrev s_is_test : Stmt := topS 35
abbrev s_inner_trees : Stmt := topS 36
abbrev s_all_trees : Stmt := topS 37
abbrev s_marks_in : Stmt := topS 38
abbrev s_numbers_in : Stmt := topS 39
abbrev s_fields_in : Stmt := topS 40
abbrev s_holds : Stmt := topS 41
abbrev s_written : Stmt := topS 43
abbrev s_past_leaf : Stmt := topS 44
abbrev s_parts_for : Stmt := topS 46
abbrev s_Program_init : Stmt := inClass (topS 47) 0
abbrev s_Program_add : Stmt := inClass (topS 47) 6
abbrev s_Program_rshift : Stmt := inClass (topS 47) 7
abbrev s_Program_loop : Stmt := inClass (topS 47) 9
abbrev s_Program_holds : Stmt := inClass (topS 47) 11
abbrev s_joined : Stmt := topS 48
abbrev s_need_like : Stmt := topS 49
abbrev s_need_program : Stmt := topS 50
abbrev s_flow : Stmt := topS 52
abbrev s_flow_on : Stmt := topS 53
abbrev s_onward : Stmt := topS 54
abbrev s_Walk_init : Stmt := inClass (topS 55) 0
abbrev s_Walk_beginnings : Stmt := inClass (topS 55) 1
abbrev s_Walk_around : Stmt := inClass (topS 55) 2
abbrev s_Walk_look_on : Stmt := inClass (topS 55) 3
abbrev s_Walk_steps : Stmt := inClass (topS 55) 4
abbrev s_Walk_ends : Stmt := inClass (topS 55) 5
abbrev s_Walk_moves : Stmt := inClass (topS 55) 6
abbrev s_Walk_all_ends : Stmt := inClass (topS 55) 7
abbrev s_ways_to : Stmt := topS 56
abbrev s_need_most : Stmt := topS 57
abbrev s_ways : Stmt := topS 58
abbrev s__law_begun : Stmt := topS 60
abbrev s__law_mixed : Stmt := topS 61
abbrev s__law_take : Stmt := topS 62
abbrev s__law_pick : Stmt := topS 63
abbrev s__law_shuffled : Stmt := topS 64
abbrev s__law_frame : Stmt := topS 65
abbrev s__law_test : Stmt := topS 66
abbrev s__law_leaf : Stmt := topS 67
abbrev s__law_tree : Stmt := topS 68
abbrev s__law_marked_tree : Stmt := topS 69
abbrev s__law_program : Stmt := topS 70
abbrev s__law_packet : Stmt := topS 71
abbrev s__law_ordered : Stmt := topS 72
abbrev s__law_behind : Stmt := topS 73
abbrev s_law : Stmt := topS 74
theorem sc_is_number : FnScope ["thing"] ["thing"] (defScope s_is_number) := ⟨rfl, rfl, rfl, by decide +kernel, rfl, by decide +kernel, by decide +kernel⟩
theorem sc_is_count : FnScope ["thing"] ["thing"] (defScope s_is_count) := ⟨rfl, rfl, rfl, by decide +kernel, rfl, by decide +kernel, by decide +kernel⟩
theorem sc_is_list : FnScope ["thing"] ["thing"] (defScope s_is_list) := ⟨rfl, rfl, rfl, by decide +kernel, rfl, by decide +kernel, by decide +kernel⟩
theorem sc_is_field : FnScope ["thing", "sign"] ["thing"] (defScope s_is_field) := ⟨rfl, rfl, rfl, by decide +kernel, rfl, by decide +kernel, by decide +kernel⟩
theorem sc_are_different : FnScope ["things"] ["things"] (defScope s_are_different) := ⟨rfl, rfl, rfl, by decide +kernel, rfl, by decide +kernel, by decide +kernel⟩
theorem sc_need_fields : FnScope ["fields", "name"] ["fields"] (defScope s_need_fields) := ⟨rfl, rfl, rfl, by decide +kernel, rfl, by decide +kernel, by decide +kernel⟩
theorem sc_is_packet_of : FnScope ["many", "thing", "number"] ["many", "thing"] (defScope s_is_packet_of) := ⟨rfl, rfl, rfl, by decide +kernel, rfl, by decide +kernel, by decide +kernel⟩
theorem sc_need_packet : FnScope ["fields", "packet"] ["fields", "packet"] (defScope s_need_packet) := ⟨rfl, rfl, rfl, by decide +kernel, rfl, by decide +kernel, by decide +kernel⟩
theorem sc_are_trees : FnScope ["things", "levels", "is_test_alone", "thing"] ["things", "levels", "is_test_alone"] (defScope s_are_trees) := ⟨rfl, rfl, rfl, by decide +kernel, rfl, by decide +kernel, by decide +kernel⟩
theorem sc_is_tree_of : FnScope ["thing", "levels", "is_test_alone", "word", "inner"] ["thing", "levels", "is_test_alone"] (defScope s_is_tree_of) := ⟨rfl, rfl, rfl, by decide +kernel, rfl, by decide +kernel, by decide +kernel⟩
theorem sc_is_tree : FnScope ["thing"] ["thing"] (defScope s_is_tree) := ⟨rfl, rfl, rfl, by decide +kernel, rfl, by decide +kernel, by decide +kernel⟩
theorem sc_is_test : FnScope ["thing"] ["thing"] (defScope s_is_test) := ⟨rfl, rfl, rfl, by decide +kernel, rfl, by decide +kernel, by decide +kernel⟩
theorem sc_inner_trees : FnScope ["tree"] ["tree"] (defScope s_inner_trees) := ⟨rfl, rfl, rfl, by decide +kernel, rfl, by decide +kernel, by decide +kernel⟩
theorem sc_all_trees : FnScope ["tree", "found", "part"] ["tree"] (defScope s_all_trees) := ⟨rfl, rfl, rfl, by decide +kernel, rfl, by decide +kernel, by decide +kernel⟩
theorem sc_marks_in : FnScope ["tree", "part"] ["tree"] (defScope s_marks_in) := ⟨rfl, rfl, rfl, by decide +kernel, rfl, by decide +kernel, by decide +kernel⟩
theorem sc_numbers_in : FnScope ["tree", "part"] ["tree"] (defScope s_numbers_in) := ⟨rfl, rfl, rfl, by decide +kernel, rfl, by decide +kernel, by decide +kernel⟩
theorem sc_fields_in : FnScope ["tree", "found", "part"] ["tree"] (defScope s_fields_in) := ⟨rfl, rfl, rfl, by decide +kernel, rfl, by decide +kernel, by decide +kernel⟩
theorem sc_holds : FnScope ["fields", "test", "packet", "word", "part"] ["fields", "test", "packet"] (defScope s_holds) := ⟨rfl, rfl, rfl, by decide +kernel, rfl, by decide +kernel, by decide +kernel⟩
theorem sc_written : FnScope ["packet", "place", "number"] ["packet", "place", "number"] (defScope s_written) := ⟨rfl, rfl, rfl, by decide +kernel, rfl, by decide +kernel, by decide +kernel⟩
theorem sc_past_leaf : FnScope ["fields", "tree", "some", "place", "other", "packet"] ["fields", "tree", "some"] (defScope s_past_leaf) := ⟨rfl, rfl, rfl, by decide +kernel, rfl, by decide +kernel, by decide +kernel⟩
theorem sc_parts_for : FnScope ["word", "tree"] ["word", "tree"] (defScope s_parts_for) := ⟨rfl, rfl, rfl, by decide +kernel, rfl, by decide +kernel, by decide +kernel⟩
theorem sc_Program_init : FnScope ["self", "fields", "tree", "name"] ["self", "fields", "tree"] (defScope s_Program_init) := ⟨rfl, rfl, rfl, by decide +kernel, rfl, by decide +kernel, by decide +kernel⟩
theorem sc_Program_add : FnScope ["self", "other"] ["self", "other"] (defScope s_Program_add) := ⟨rfl, rfl, rfl, by decide +kernel, rfl, by decide +kernel, by decide +kernel⟩
theorem sc_Program_rshift : FnScope ["self", "other"] ["self", "other"] (defScope s_Program_rshift) := ⟨rfl, rfl, rfl, by decide +kernel, rfl, by decide +kernel, by decide +kernel⟩
theorem sc_Program_loop : FnScope ["self"] ["self"] (defScope s_Program_loop) := ⟨rfl, rfl, rfl, by decide +kernel, rfl, by decide +kernel, by decide +kernel⟩
theorem sc_Program_holds : FnScope ["self", "packet"] ["self", "packet"] (defScope s_Program_holds) := ⟨rfl, rfl, rfl, by decide +kernel, rfl, by decide +kernel, by decide +kernel⟩
theorem sc_joined : FnScope ["word", "one", "other"] ["word", "one", "other"] (defScope s_joined) := ⟨rfl, rfl, rfl, by decide +kernel, rfl, by decide +kernel, by decide +kernel⟩
theorem sc_need_like : FnScope ["one", "other"] ["one", "other"] (defScope s_need_like) := ⟨rfl, rfl, rfl, by decide +kernel, rfl, by decide +kernel, by decide +kernel⟩
theorem sc_need_program : FnScope ["thing", "part"] ["thing", "part"] (defScope s_need_program) := ⟨rfl, rfl, rfl, by decide +kernel, rfl, by decide +kernel, by decide +kernel⟩
theorem sc_flow : FnScope ["fields", "tree", "base", "some", "hits", "outs", "part", "more", "through", "fresh", "packet"] ["fields", "tree", "base", "some"] (defScope s_flow) := ⟨rfl, rfl, rfl, by decide +kernel, rfl, by decide +kernel, by decide +kernel⟩
theorem sc_flow_on : FnScope ["fields", "parts", "base", "hits", "some", "part", "more"] ["fields", "parts", "base", "hits", "some"] (defScope s_flow_on) := ⟨rfl, rfl, rfl, by decide +kernel, rfl, by decide +kernel, by decide +kernel⟩
theorem sc_onward : FnScope ["fields", "tree", "base", "place", "packet", "hits", "outs", "more", "through", "at"] ["fields", "tree", "base", "place", "packet"] (defScope s_onward) := ⟨rfl, rfl, rfl, by decide +kernel, rfl, by decide +kernel, by decide +kernel⟩
theorem sc_Walk_init : FnScope ["self", "program"] ["self", "program"] (defScope s_Walk_init) := ⟨rfl, rfl, rfl, by decide +kernel, rfl, by decide +kernel, by decide +kernel⟩
theorem sc_Walk_beginnings : FnScope ["self", "place", "packet"] ["self", "place", "packet"] (defScope s_Walk_beginnings) := ⟨rfl, rfl, rfl, by decide +kernel, rfl, by decide +kernel, by decide +kernel⟩
theorem sc_Walk_around : FnScope ["self", "place", "packet", "line", "behind", "at", "hit"] ["self", "place", "packet"] (defScope s_Walk_around) := ⟨rfl, rfl, rfl, by decide +kernel, rfl, by decide +kernel, by decide +kernel⟩
theorem sc_Walk_look_on : FnScope ["self", "place", "packet", "behind", "live", "entry", "hits", "outs", "hit"] ["self", "place", "packet"] (defScope s_Walk_look_on) := ⟨rfl, rfl, rfl, by decide +kernel, rfl, by decide +kernel, by decide +kernel⟩
theorem sc_Walk_steps : FnScope ["self", "place", "packet", "hit"] ["self", "place", "packet"] (defScope s_Walk_steps) := ⟨rfl, rfl, rfl, by decide +kernel, rfl, by decide +kernel, by decide +kernel⟩
theorem sc_Walk_ends : FnScope ["self", "place", "packet"] ["self", "place", "packet"] (defScope s_Walk_ends) := ⟨rfl, rfl, rfl, by decide +kernel, rfl, by decide +kernel, by decide +kernel⟩
theorem sc_Walk_moves : FnScope ["self", "places", "packet", "found", "entry", "place", "fresh"] ["self", "places", "packet"] (defScope s_Walk_moves) := ⟨rfl, rfl, rfl, by decide +kernel, rfl, by decide +kernel, by decide +kernel⟩
theorem sc_Walk_all_ends : FnScope ["self", "places", "packet", "place", "end"] ["self", "places", "packet"] (defScope s_Walk_all_ends) := ⟨rfl, rfl, rfl, by decide +kernel, rfl, by decide +kernel, by decide +kernel⟩
theorem sc_ways_to : FnScope ["walk", "packet", "most", "found", "layer", "many", "ending", "later", "done", "last", "places", "after", "end", "fresh"] ["walk", "packet", "most"] (defScope s_ways_to) := ⟨rfl, rfl, rfl, by decide +kernel, rfl, by decide +kernel, by decide +kernel⟩
theorem sc_need_most : FnScope ["most"] ["most"] (defScope s_need_most) := ⟨rfl, rfl, rfl, by decide +kernel, rfl, by decide +kernel, by decide +kernel⟩
theorem sc_ways : FnScope ["program", "packet", "most"] ["program", "packet", "most"] (defScope s_ways) := ⟨rfl, rfl, rfl, by decide +kernel, rfl, by decide +kernel, by decide +kernel⟩
theorem sc__law_begun : FnScope ["script", "wide", "cell"] ["script"] (defScope s__law_begun) := ⟨rfl, rfl, rfl, by decide +kernel, rfl, by decide +kernel, by decide +kernel⟩
theorem sc__law_mixed : FnScope ["state", "turn", "found", "prime", "blend", "cell"] ["state"] (defScope s__law_mixed) := ⟨rfl, rfl, rfl, by decide +kernel, rfl, by decide +kernel, by decide +kernel⟩
theorem sc__law_take : FnScope ["state", "size", "found"] ["state", "size"] (defScope s__law_take) := ⟨rfl, rfl, rfl, by decide +kernel, rfl, by decide +kernel, by decide +kernel⟩
theorem sc__law_pick : FnScope ["state", "some"] ["state", "some"] (defScope s__law_pick) := ⟨rfl, rfl, rfl, by decide +kernel, rfl, by decide +kernel, by decide +kernel⟩
theorem sc__law_shuffled : FnScope ["state", "some", "left", "found"] ["state", "some"] (defScope s__law_shuffled) := ⟨rfl, rfl, rfl, by decide +kernel, rfl, by decide +kernel, by decide +kernel⟩
theorem sc__law_frame : FnScope ["state", "upto", "some", "names", "digits"] ["state", "upto"] (defScope s__law_frame) := ⟨rfl, rfl, rfl, by decide +kernel, rfl, by decide +kernel, by decide +kernel⟩
theorem sc__law_test : FnScope ["state", "frame", "deep", "sort", "many", "portions", "turn"] ["state", "frame", "deep"] (defScope s__law_test) := ⟨rfl, rfl, rfl, by decide +kernel, rfl, by decide +kernel, by decide +kernel⟩
theorem sc__law_leaf : FnScope ["state", "frame", "names", "sort"] ["state", "frame"] (defScope s__law_leaf) := ⟨rfl, rfl, rfl, by decide +kernel, rfl, by decide +kernel, by decide +kernel⟩
theorem sc__law_tree : FnScope ["state", "frame", "deep", "sort", "many", "portions", "turn"] ["state", "frame", "deep"] (defScope s__law_tree) := ⟨rfl, rfl, rfl, by decide +kernel, rfl, by decide +kernel, by decide +kernel⟩
theorem sc__law_marked_tree : FnScope ["state", "frame", "deep", "marks"] ["state", "frame", "deep", "marks"] (defScope s__law_marked_tree) := ⟨rfl, rfl, rfl, by decide +kernel, rfl, by decide +kernel, by decide +kernel⟩
theorem sc__law_program : FnScope ["state", "frame", "plan"] ["state", "frame", "plan"] (defScope s__law_program) := ⟨rfl, rfl, rfl, by decide +kernel, rfl, by decide +kernel, by decide +kernel⟩
theorem sc__law_packet : FnScope ["state", "frame", "near", "number", "name"] ["state", "frame"] (defScope s__law_packet) := ⟨rfl, rfl, rfl, by decide +kernel, rfl, by decide +kernel, by decide +kernel⟩
theorem sc__law_ordered : FnScope ["some", "many", "uno"] ["some"] (defScope s__law_ordered) := ⟨rfl, rfl, rfl, by decide +kernel, rfl, by decide +kernel, by decide +kernel⟩
theorem sc__law_behind : FnScope ["some", "gadget", "upto", "found", "uno", "duo"] ["some", "gadget", "upto"] (defScope s__law_behind) := ⟨rfl, rfl, rfl, by decide +kernel, rfl, by decide +kernel, by decide +kernel⟩
theorem sc_law : FnScope ["script", "state", "turn", "frame", "uno", "duo", "gate", "note", "lap", "card", "first", "second", "round_here", "some"] ["script"] (defScope s_law) := ⟨rfl, rfl, rfl, by decide +kernel, rfl, by decide +kernel, by decide +kernel⟩
/-- what the top has made -/
structure TX (K : PySem.W.Frag) (mg : Str → Option Value) where
  z_isinstance : mg "isinstance" = none
  z_int : mg "int" = none
  z_bool : mg "bool" = none
  z_str : mg "str" = none
  z_tuple : mg "tuple" = none
  z_list : mg "list" = none
  z_len : mg "len" = none
  z_all : mg "all" = none
  z_any : mg "any" = none
  z_set : mg "set" = none
  z_sorted : mg "sorted" = none
  z_range : mg "range" = none
  z_min : mg "min" = none
  z_abs : mg "abs" = none
  z_dict : mg "dict" = none
  a_is_number : Addr
  fd_is_number : FuncData
  F_is_number : Fun K "is_number" "is_number" s_is_number a_is_number fd_is_number
  m_is_number : mg "is_number" = some (.ref a_is_number)
  a_is_count : Addr
  fd_is_count : FuncData
  F_is_count : Fun K "is_count" "is_count" s_is_count a_is_count fd_is_count
  m_is_count : mg "is_count" = some (.ref a_is_count)
  a_is_list : Addr
  fd_is_list : FuncData
  F_is_list : Fun K "is_list" "is_list" s_is_list a_is_list fd_is_list
  m_is_list : mg "is_list" = some (.ref a_is_list)
  a_is_field : Addr
  fd_is_field : FuncData
  F_is_field : Fun K "is_field" "is_field" s_is_field a_is_field fd_is_field
  m_is_field : mg "is_field" = some (.ref a_is_field)
  a_are_different : Addr
  fd_are_different : FuncData
  F_are_different : Fun K "are_different" "are_different" s_are_different a_are_different fd_are_different
  m_are_different : mg "are_different" = some (.ref a_are_different)
  a_need_fields : Addr
  fd_need_fields : FuncData
  F_need_fields : Fun K "need_fields" "need_fields" s_need_fields a_need_fields fd_need_fields
  m_need_fields : mg "need_fields" = some (.ref a_need_fields)
  a_is_packet_of : Addr
  fd_is_packet_of : FuncData
  F_is_packet_of : Fun K "is_packet_of" "is_packet_of" s_is_packet_of a_is_packet_of fd_is_packet_of
  m_is_packet_of : mg "is_packet_of" = some (.ref a_is_packet_of)
  a_need_packet : Addr
  fd_need_packet : FuncData
  F_need_packet : Fun K "need_packet" "need_packet" s_need_packet a_need_packet fd_need_packet
  m_need_packet : mg "need_packet" = some (.ref a_need_packet)
  a_are_trees : Addr
  fd_are_trees : FuncData
  F_are_trees : Fun K "are_trees" "are_trees" s_are_trees a_are_trees fd_are_trees
  m_are_trees : mg "are_trees" = some (.ref a_are_trees)
  a_is_tree_of : Addr
  fd_is_tree_of : FuncData
  F_is_tree_of : Fun K "is_tree_of" "is_tree_of" s_is_tree_of a_is_tree_of fd_is_tree_of
  m_is_tree_of : mg "is_tree_of" = some (.ref a_is_tree_of)
  a_is_tree : Addr
  fd_is_tree : FuncData
  F_is_tree : Fun K "is_tree" "is_tree" s_is_tree a_is_tree fd_is_tree
  m_is_tree : mg "is_tree" = some (.ref a_is_tree)
  a_is_test : Addr
  fd_is_test : FuncData
  F_is_test : Fun K "is_test" "is_test" s_is_test a_is_test fd_is_test
  m_is_test : mg "is_test" = some (.ref a_is_test)
  a_inner_trees : Addr
  fd_inner_trees : FuncData
  F_inner_trees : Fun K "inner_trees" "inner_trees" s_inner_trees a_inner_trees fd_inner_trees
  m_inner_trees : mg "inner_trees" = some (.ref a_inner_trees)
  a_all_trees : Addr
  fd_all_trees : FuncData
  F_all_trees : Fun K "all_trees" "all_trees" s_all_trees a_all_trees fd_all_trees
  m_all_trees : mg "all_trees" = some (.ref a_all_trees)
  a_marks_in : Addr
  fd_marks_in : FuncData
  F_marks_in : Fun K "marks_in" "marks_in" s_marks_in a_marks_in fd_marks_in
  m_marks_in : mg "marks_in" = some (.ref a_marks_in)
  a_numbers_in : Addr
  fd_numbers_in : FuncData
  F_numbers_in : Fun K "numbers_in" "numbers_in" s_numbers_in a_numbers_in fd_numbers_in
  m_numbers_in : mg "numbers_in" = some (.ref a_numbers_in)
  a_fields_in : Addr
  fd_fields_in : FuncData
  F_fields_in : Fun K "fields_in" "fields_in" s_fields_in a_fields_in fd_fields_in
  m_fields_in : mg "fields_in" = some (.ref a_fields_in)
  a_holds : Addr
  fd_holds : FuncData
  F_holds : Fun K "holds" "holds" s_holds a_holds fd_holds
  m_holds : mg "holds" = some (.ref a_holds)
  a_written : Addr
  fd_written : FuncData
  F_written : Fun K "written" "written" s_written a_written fd_written
  m_written : mg "written" = some (.ref a_written)
  a_past_leaf : Addr
  fd_past_leaf : FuncData
  F_past_leaf : Fun K "past_leaf" "past_leaf" s_past_leaf a_past_leaf fd_past_leaf
  m_past_leaf : mg "past_leaf" = some (.ref a_past_leaf)
  a_parts_for : Addr
  fd_parts_for : FuncData
  F_parts_for : Fun K "parts_for" "parts_for" s_parts_for a_parts_for fd_parts_for
  m_parts_for : mg "parts_for" = some (.ref a_parts_for)
  a_Program_init : Addr
  fd_Program_init : FuncData
  F_Program_init : Fun K "__init__" "Program.__init__" s_Program_init a_Program_init fd_Program_init
  a_Program_add : Addr
  fd_Program_add : FuncData
  F_Program_add : Fun K "__add__" "Program.__add__" s_Program_add a_Program_add fd_Program_add
  a_Program_rshift : Addr
  fd_Program_rshift : FuncData
  F_Program_rshift : Fun K "__rshift__" "Program.__rshift__" s_Program_rshift a_Program_rshift fd_Program_rshift
  a_Program_loop : Addr
  fd_Program_loop : FuncData
  F_Program_loop : Fun K "loop" "Program.loop" s_Program_loop a_Program_loop fd_Program_loop
  a_Program_holds : Addr
  fd_Program_holds : FuncData
  F_Program_holds : Fun K "holds" "Program.holds" s_Program_holds a_Program_holds fd_Program_holds
  a_joined : Addr
  fd_joined : FuncData
  F_joined : Fun K "joined" "joined" s_joined a_joined fd_joined
  m_joined : mg "joined" = some (.ref a_joined)
  a_need_like : Addr
  fd_need_like : FuncData
  F_need_like : Fun K "need_like" "need_like" s_need_like a_need_like fd_need_like
  m_need_like : mg "need_like" = some (.ref a_need_like)
  a_need_program : Addr
  fd_need_program : FuncData
  F_need_program : Fun K "need_program" "need_program" s_need_program a_need_program fd_need_program
  m_need_program : mg "need_program" = some (.ref a_need_program)
  a_flow : Addr
  fd_flow : FuncData
  F_flow : Fun K "flow" "flow" s_flow a_flow fd_flow
  m_flow : mg "flow" = some (.ref a_flow)
  a_flow_on : Addr
  fd_flow_on : FuncData
  F_flow_on : Fun K "flow_on" "flow_on" s_flow_on a_flow_on fd_flow_on
  m_flow_on : mg "flow_on" = some (.ref a_flow_on)
  a_onward : Addr
  fd_onward : FuncData
  F_onward : Fun K "onward" "onward" s_onward a_onward fd_onward
  m_onward : mg "onward" = some (.ref a_onward)
  a_Walk_init : Addr
  fd_Walk_init : FuncData
  F_Walk_init : Fun K "__init__" "Walk.__init__" s_Walk_init a_Walk_init fd_Walk_init
  a_Walk_beginnings : Addr
  fd_Walk_beginnings : FuncData
  F_Walk_beginnings : Fun K "beginnings" "Walk.beginnings" s_Walk_beginnings a_Walk_beginnings fd_Walk_beginnings
  a_Walk_around : Addr
  fd_Walk_around : FuncData
  F_Walk_around : Fun K "around" "Walk.around" s_Walk_around a_Walk_around fd_Walk_around
  a_Walk_look_on : Addr
  fd_Walk_look_on : FuncData
  F_Walk_look_on : Fun K "look_on" "Walk.look_on" s_Walk_look_on a_Walk_look_on fd_Walk_look_on
  a_Walk_steps : Addr
  fd_Walk_steps : FuncData
  F_Walk_steps : Fun K "steps" "Walk.steps" s_Walk_steps a_Walk_steps fd_Walk_steps
  a_Walk_ends : Addr
  fd_Walk_ends : FuncData
  F_Walk_ends : Fun K "ends" "Walk.ends" s_Walk_ends a_Walk_ends fd_Walk_ends
  a_Walk_moves : Addr
  fd_Walk_moves : FuncData
  F_Walk_moves : Fun K "moves" "Walk.moves" s_Walk_moves a_Walk_moves fd_Walk_moves
  a_Walk_all_ends : Addr
  fd_Walk_all_ends : FuncData
  F_Walk_all_ends : Fun K "all_ends" "Walk.all_ends" s_Walk_all_ends a_Walk_all_ends fd_Walk_all_ends
  a_ways_to : Addr
  fd_ways_to : FuncData
  F_ways_to : Fun K "ways_to" "ways_to" s_ways_to a_ways_to fd_ways_to
  m_ways_to : mg "ways_to" = some (.ref a_ways_to)
  a_need_most : Addr
  fd_need_most : FuncData
  F_need_most : Fun K "need_most" "need_most" s_need_most a_need_most fd_need_most
  m_need_most : mg "need_most" = some (.ref a_need_most)
  a_ways : Addr
  fd_ways : FuncData
  F_ways : Fun K "ways" "ways" s_ways a_ways fd_ways
  m_ways : mg "ways" = some (.ref a_ways)
  a__law_begun : Addr
  fd__law_begun : FuncData
  F__law_begun : Fun K "_law_begun" "_law_begun" s__law_begun a__law_begun fd__law_begun
  m__law_begun : mg "_law_begun" = some (.ref a__law_begun)
  a__law_mixed : Addr
  fd__law_mixed : FuncData
  F__law_mixed : Fun K "_law_mixed" "_law_mixed" s__law_mixed a__law_mixed fd__law_mixed
  m__law_mixed : mg "_law_mixed" = some (.ref a__law_mixed)
  a__law_take : Addr
  fd__law_take : FuncData
  F__law_take : Fun K "_law_take" "_law_take" s__law_take a__law_take fd__law_take
  m__law_take : mg "_law_take" = some (.ref a__law_take)
  a__law_pick : Addr
  fd__law_pick : FuncData
  F__law_pick : Fun K "_law_pick" "_law_pick" s__law_pick a__law_pick fd__law_pick
  m__law_pick : mg "_law_pick" = some (.ref a__law_pick)
  a__law_shuffled : Addr
  fd__law_shuffled : FuncData
  F__law_shuffled : Fun K "_law_shuffled" "_law_shuffled" s__law_shuffled a__law_shuffled fd__law_shuffled
  m__law_shuffled : mg "_law_shuffled" = some (.ref a__law_shuffled)
  a__law_frame : Addr
  fd__law_frame : FuncData
  F__law_frame : Fun K "_law_frame" "_law_frame" s__law_frame a__law_frame fd__law_frame
  m__law_frame : mg "_law_frame" = some (.ref a__law_frame)
  a__law_test : Addr
  fd__law_test : FuncData
  F__law_test : Fun K "_law_test" "_law_test" s__law_test a__law_test fd__law_test
  m__law_test : mg "_law_test" = some (.ref a__law_test)
  a__law_leaf : Addr
  fd__law_leaf : FuncData
  F__law_leaf : Fun K "_law_leaf" "_law_leaf" s__law_leaf a__law_leaf fd__law_leaf
  m__law_leaf : mg "_law_leaf" = some (.ref a__law_leaf)
  a__law_tree : Addr
  fd__law_tree : FuncData
  F__law_tree : Fun K "_law_tree" "_law_tree" s__law_tree a__law_tree fd__law_tree
  m__law_tree : mg "_law_tree" = some (.ref a__law_tree)
  a__law_marked_tree : Addr
  fd__law_marked_tree : FuncData
  F__law_marked_tree : Fun K "_law_marked_tree" "_law_marked_tree" s__law_marked_tree a__law_marked_tree fd__law_marked_tree
  m__law_marked_tree : mg "_law_marked_tree" = some (.ref a__law_marked_tree)
  a__law_program : Addr
  fd__law_program : FuncData
  F__law_program : Fun K "_law_program" "_law_program" s__law_program a__law_program fd__law_program
  m__law_program : mg "_law_program" = some (.ref a__law_program)
  a__law_packet : Addr
  fd__law_packet : FuncData
  F__law_packet : Fun K "_law_packet" "_law_packet" s__law_packet a__law_packet fd__law_packet
  m__law_packet : mg "_law_packet" = some (.ref a__law_packet)
  a__law_ordered : Addr
  fd__law_ordered : FuncData
  F__law_ordered : Fun K "_law_ordered" "_law_ordered" s__law_ordered a__law_ordered fd__law_ordered
  m__law_ordered : mg "_law_ordered" = some (.ref a__law_ordered)
  a__law_behind : Addr
  fd__law_behind : FuncData
  F__law_behind : Fun K "_law_behind" "_law_behind" s__law_behind a__law_behind fd__law_behind
  m__law_behind : mg "_law_behind" = some (.ref a__law_behind)
  a_law : Addr
  fd_law : FuncData
  F_law : Fun K "law" "law" s_law a_law fd_law
  m_law : mg "law" = some (.ref a_law)
  m_holds_programs : mg "holds_programs" = some (.ref a_holds)
  c_Program : Addr
  m_Program : mg "Program" = some (.ref c_Program)
  cl_Program : Cls K c_Program
  mk_Program : Mk K c_Program a_Program_init
  me_Program_add : Meth K c_Program "__add__" a_Program_add
  me_Program_rshift : Meth K c_Program "__rshift__" a_Program_rshift
  me_Program_loop : Meth K c_Program "loop" a_Program_loop
  me_Program_holds : Meth K c_Program "holds" a_Program_holds
  c_Walk : Addr
  m_Walk : mg "Walk" = some (.ref c_Walk)
  cl_Walk : Cls K c_Walk
  mk_Walk : Mk K c_Walk a_Walk_init
  me_Walk_beginnings : Meth K c_Walk "beginnings" a_Walk_beginnings
  me_Walk_around : Meth K c_Walk "around" a_Walk_around
  me_Walk_look_on : Meth K c_Walk "look_on" a_Walk_look_on
  me_Walk_steps : Meth K c_Walk "steps" a_Walk_steps
  me_Walk_ends : Meth K c_Walk "ends" a_Walk_ends
  me_Walk_moves : Meth K c_Walk "moves" a_Walk_moves
  me_Walk_all_ends : Meth K c_Walk "all_ends" a_Walk_all_ends
  y_first : PySem.W.selfFirst K c_Program = true
  y_cls : PySem.W.findIn K (.ref c_Program) "__class__" = some (some (.builtin "object.__class__"))
  y_get : PySem.W.specialIn K (.builtin "object.__class__") "__get__" = some (some (.builtin "getset_descriptor.__get__"))
  y_takes : PySem.W.takesIn K (.builtin "object.__class__") = some true
  y_mro : PySem.W.mroIn K c_Program (.type "object") = some true
  y_kit : PySem.W.kitOne K (.ref c_Program) (.ref c_Program) = some true
  no_p_fields : NoAttr K c_Program "p_fields"
  no_p_tree : NoAttr K c_Program "p_tree"
  no_p_marks : NoAttr K c_Program "p_marks"
  no_p_numbers : NoAttr K c_Program "p_numbers"
  no_k_fields : NoAttr K c_Walk "k_fields"
  no_k_tree : NoAttr K c_Walk "k_tree"
  no_k_found : NoAttr K c_Walk "k_found"
  no_k_live : NoAttr K c_Walk "k_live"
  u_MOST_LETTERS : Value
  g_MOST_LETTERS : mg "MOST_LETTERS" = some u_MOST_LETTERS
  r_MOST_LETTERS : RelV (.int 6) u_MOST_LETTERS
  u_MOST_FIELDS : Value
  g_MOST_FIELDS : mg "MOST_FIELDS" = some u_MOST_FIELDS
  r_MOST_FIELDS : RelV (.int 3) u_MOST_FIELDS
  u_MOST_NUMBERS : Value
  g_MOST_NUMBERS : mg "MOST_NUMBERS" = some u_MOST_NUMBERS
  r_MOST_NUMBERS : RelV (.int 8) u_MOST_NUMBERS
  u_MOST_LEVELS : Value
  g_MOST_LEVELS : mg "MOST_LEVELS" = some u_MOST_LEVELS
  r_MOST_LEVELS : RelV (.int 12) u_MOST_LEVELS
  u_MOST_TREES : Value
  g_MOST_TREES : mg "MOST_TREES" = some u_MOST_TREES
  r_MOST_TREES : RelV (.int 4000) u_MOST_TREES
  u_MOST_MARKS : Value
  g_MOST_MARKS : mg "MOST_MARKS" = some u_MOST_MARKS
  r_MOST_MARKS : RelV (.int 6) u_MOST_MARKS
  u_LETTERS : Value
  g_LETTERS : mg "LETTERS" = some u_LETTERS
  r_LETTERS : RelV (.str "abcdefghijklmnopqrstuvwxyz") u_LETTERS
  p_KEPT_WORDS : Addr
  g_KEPT_WORDS : mg "KEPT_WORDS" = some (.ref p_KEPT_WORDS)
  r_KEPT_WORDS : ∀ H : Hp, SqT K H p_KEPT_WORDS [.str "drop", .str "mark", .str "not", .str "pass"]
  p_BARE : Addr
  g_BARE : mg "BARE" = some (.ref p_BARE)
  r_BARE : ∀ H : Hp, SqT K H p_BARE [.str "drop", .str "mark", .str "pass"]
  p_WITH_NUMBER : Addr
  g_WITH_NUMBER : mg "WITH_NUMBER" = some (.ref p_WITH_NUMBER)
  r_WITH_NUMBER : ∀ H : Hp, SqT K H p_WITH_NUMBER [.str "is", .str "set"]
  p_JOINING : Addr
  g_JOINING : mg "JOINING" = some (.ref p_JOINING)
  r_JOINING : ∀ H : Hp, SqT K H p_JOINING [.str "choice", .str "row"]
  p_ONLY_TREES : Addr
  g_ONLY_TREES : mg "ONLY_TREES" = some (.ref p_ONLY_TREES)
  r_ONLY_TREES : ∀ H : Hp, SqT K H p_ONLY_TREES [.str "loop", .str "mark", .str "set", .str "take"]
section
variable {K : PySem.W.Frag} {mg : Str → Option Value}
theorem TX.b_is_number (T : TX K mg) : Binds K T.fd_is_number ["thing"] [] := T.F_is_number.binds fun _ _ _ _ _ _ us hl => match us, hl with | [_], _ => rfl
theorem TX.b_is_count (T : TX K mg) : Binds K T.fd_is_count ["thing"] [] := T.F_is_count.binds fun _ _ _ _ _ _ us hl => match us, hl with | [_], _ => rfl
theorem TX.b_is_list (T : TX K mg) : Binds K T.fd_is_list ["thing"] [] := T.F_is_list.binds fun _ _ _ _ _ _ us hl => match us, hl with | [_], _ => rfl
theorem TX.b_is_field (T : TX K mg) : Binds K T.fd_is_field ["thing"] [] := T.F_is_field.binds fun _ _ _ _ _ _ us hl => match us, hl with | [_], _ => rfl
theorem TX.b_are_different (T : TX K mg) : Binds K T.fd_are_different ["things"] [] := T.F_are_different.binds fun _ _ _ _ _ _ us hl => match us, hl with | [_], _ => rfl
theorem TX.b_need_fields (T : TX K mg) : Binds K T.fd_need_fields ["fields"] [] := T.F_need_fields.binds fun _ _ _ _ _ _ us hl => match us, hl with | [_], _ => rfl
theorem TX.b_is_packet_of (T : TX K mg) : Binds K T.fd_is_packet_of ["many", "thing"] [] := T.F_is_packet_of.binds fun _ _ _ _ _ _ us hl => match us, hl with | [_, _], _ => rfl
theorem TX.b_need_packet (T : TX K mg) : Binds K T.fd_need_packet ["fields", "packet"] [] := T.F_need_packet.binds fun _ _ _ _ _ _ us hl => match us, hl with | [_, _], _ => rfl
theorem TX.b_are_trees (T : TX K mg) : Binds K T.fd_are_trees ["things", "levels", "is_test_alone"] [] := T.F_are_trees.binds fun _ _ _ _ _ _ us hl => match us, hl with | [_, _, _], _ => rfl
theorem TX.b_is_tree_of (T : TX K mg) : Binds K T.fd_is_tree_of ["thing", "levels", "is_test_alone"] [] := T.F_is_tree_of.binds fun _ _ _ _ _ _ us hl => match us, hl with | [_, _, _], _ => rfl
theorem TX.b_is_tree (T : TX K mg) : Binds K T.fd_is_tree ["thing"] [] := T.F_is_tree.binds fun _ _ _ _ _ _ us hl => match us, hl with | [_], _ => rfl
theorem TX.b_is_test (T : TX K mg) : Binds K T.fd_is_test ["thing"] [] := T.F_is_test.binds fun _ _ _ _ _ _ us hl => match us, hl with | [_], _ => rfl
theorem TX.b_inner_trees (T : TX K mg) : Binds K T.fd_inner_trees ["tree"] [] := T.F_inner_trees.binds fun _ _ _ _ _ _ us hl => match us, hl with | [_], _ => rfl
theorem TX.b_all_trees (T : TX K mg) : Binds K T.fd_all_trees ["tree"] [] := T.F_all_trees.binds fun _ _ _ _ _ _ us hl => match us, hl with | [_], _ => rfl
theorem TX.b_marks_in (T : TX K mg) : Binds K T.fd_marks_in ["tree"] [] := T.F_marks_in.binds fun _ _ _ _ _ _ us hl => match us, hl with | [_], _ => rfl
theorem TX.b_numbers_in (T : TX K mg) : Binds K T.fd_numbers_in ["tree"] [] := T.F_numbers_in.binds fun _ _ _ _ _ _ us hl => match us, hl with | [_], _ => rfl
theorem TX.b_fields_in (T : TX K mg) : Binds K T.fd_fields_in ["tree"] [] := T.F_fields_in.binds fun _ _ _ _ _ _ us hl => match us, hl with | [_], _ => rfl
theorem TX.b_holds (T : TX K mg) : Binds K T.fd_holds ["fields", "test", "packet"] [] := T.F_holds.binds fun _ _ _ _ _ _ us hl => match us, hl with | [_, _, _], _ => rfl
theorem TX.b_written (T : TX K mg) : Binds K T.fd_written ["packet", "place", "number"] [] := T.F_written.binds fun _ _ _ _ _ _ us hl => match us, hl with | [_, _, _], _ => rfl
theorem TX.b_past_leaf (T : TX K mg) : Binds K T.fd_past_leaf ["fields", "tree", "some"] [] := T.F_past_leaf.binds fun _ _ _ _ _ _ us hl => match us, hl with | [_, _, _], _ => rfl
theorem TX.b_parts_for (T : TX K mg) : Binds K T.fd_parts_for ["word", "tree"] [] := T.F_parts_for.binds fun _ _ _ _ _ _ us hl => match us, hl with | [_, _], _ => rfl
theorem TX.b_Program_init (T : TX K mg) : Binds K T.fd_Program_init ["self", "fields", "tree"] [] := T.F_Program_init.binds fun _ _ _ _ _ _ us hl => match us, hl with | [_, _, _], _ => rfl
theorem TX.b_Program_add (T : TX K mg) : Binds K T.fd_Program_add ["self", "other"] [] := T.F_Program_add.binds fun _ _ _ _ _ _ us hl => match us, hl with | [_, _], _ => rfl
theorem TX.b_Program_rshift (T : TX K mg) : Binds K T.fd_Program_rshift ["self", "other"] [] := T.F_Program_rshift.binds fun _ _ _ _ _ _ us hl => match us, hl with | [_, _], _ => rfl
theorem TX.b_Program_loop (T : TX K mg) : Binds K T.fd_Program_loop ["self"] [] := T.F_Program_loop.binds fun _ _ _ _ _ _ us hl => match us, hl with | [_], _ => rfl
theorem TX.b_Program_holds (T : TX K mg) : Binds K T.fd_Program_holds ["self", "packet"] [] := T.F_Program_holds.binds fun _ _ _ _ _ _ us hl => match us, hl with | [_, _], _ => rfl
theorem TX.b_joined (T : TX K mg) : Binds K T.fd_joined ["word", "one", "other"] [] := T.F_joined.binds fun _ _ _ _ _ _ us hl => match us, hl with | [_, _, _], _ => rfl
theorem TX.b_need_like (T : TX K mg) : Binds K T.fd_need_like ["one", "other"] [] := T.F_need_like.binds fun _ _ _ _ _ _ us hl => match us, hl with | [_, _], _ => rfl
theorem TX.b_need_program (T : TX K mg) : Binds K T.fd_need_program ["thing", "part"] [] := T.F_need_program.binds fun _ _ _ _ _ _ us hl => match us, hl with | [_, _], _ => rfl
theorem TX.b_flow (T : TX K mg) : Binds K T.fd_flow ["fields", "tree", "base", "some"] [] := T.F_flow.binds fun _ _ _ _ _ _ us hl => match us, hl with | [_, _, _, _], _ => rfl
theorem TX.b_flow_on (T : TX K mg) : Binds K T.fd_flow_on ["fields", "parts", "base", "hits", "some"] [] := T.F_flow_on.binds fun _ _ _ _ _ _ us hl => match us, hl with | [_, _, _, _, _], _ => rfl
theorem TX.b_onward (T : TX K mg) : Binds K T.fd_onward ["fields", "tree", "base", "place", "packet"] [] := T.F_onward.binds fun _ _ _ _ _ _ us hl => match us, hl with | [_, _, _, _, _], _ => rfl
theorem TX.b_Walk_init (T : TX K mg) : Binds K T.fd_Walk_init ["self", "program"] [] := T.F_Walk_init.binds fun _ _ _ _ _ _ us hl => match us, hl with | [_, _], _ => rfl
theorem TX.b_Walk_beginnings (T : TX K mg) : Binds K T.fd_Walk_beginnings ["self", "place", "packet"] [] := T.F_Walk_beginnings.binds fun _ _ _ _ _ _ us hl => match us, hl with | [_, _, _], _ => rfl
theorem TX.b_Walk_around (T : TX K mg) : Binds K T.fd_Walk_around ["self", "place", "packet"] [] := T.F_Walk_around.binds fun _ _ _ _ _ _ us hl => match us, hl with | [_, _, _], _ => rfl
theorem TX.b_Walk_look_on (T : TX K mg) : Binds K T.fd_Walk_look_on ["self", "place", "packet"] [] := T.F_Walk_look_on.binds fun _ _ _ _ _ _ us hl => match us, hl with | [_, _, _], _ => rfl
theorem TX.b_Walk_steps (T : TX K mg) : Binds K T.fd_Walk_steps ["self", "place", "packet"] [] := T.F_Walk_steps.binds fun _ _ _ _ _ _ us hl => match us, hl with | [_, _, _], _ => rfl
theorem TX.b_Walk_ends (T : TX K mg) : Binds K T.fd_Walk_ends ["self", "place", "packet"] [] := T.F_Walk_ends.binds fun _ _ _ _ _ _ us hl => match us, hl with | [_, _, _], _ => rfl
theorem TX.b_Walk_moves (T : TX K mg) : Binds K T.fd_Walk_moves ["self", "places", "packet"] [] := T.F_Walk_moves.binds fun _ _ _ _ _ _ us hl => match us, hl with | [_, _, _], _ => rfl
theorem TX.b_Walk_all_ends (T : TX K mg) : Binds K T.fd_Walk_all_ends ["self", "places", "packet"] [] := T.F_Walk_all_ends.binds fun _ _ _ _ _ _ us hl => match us, hl with | [_, _, _], _ => rfl
theorem TX.b_ways_to (T : TX K mg) : Binds K T.fd_ways_to ["walk", "packet", "most"] [] := T.F_ways_to.binds fun _ _ _ _ _ _ us hl => match us, hl with | [_, _, _], _ => rfl
theorem TX.b_need_most (T : TX K mg) : Binds K T.fd_need_most ["most"] [] := T.F_need_most.binds fun _ _ _ _ _ _ us hl => match us, hl with | [_], _ => rfl
theorem TX.b_ways (T : TX K mg) : Binds K T.fd_ways ["program", "packet", "most"] [] := T.F_ways.binds fun _ _ _ _ _ _ us hl => match us, hl with | [_, _, _], _ => rfl
theorem TX.b__law_begun (T : TX K mg) : Binds K T.fd__law_begun ["script"] [] := T.F__law_begun.binds fun _ _ _ _ _ _ us hl => match us, hl with | [_], _ => rfl
theorem TX.b__law_mixed (T : TX K mg) : Binds K T.fd__law_mixed ["state"] [] := T.F__law_mixed.binds fun _ _ _ _ _ _ us hl => match us, hl with | [_], _ => rfl
theorem TX.b__law_take (T : TX K mg) : Binds K T.fd__law_take ["state", "size"] [] := T.F__law_take.binds fun _ _ _ _ _ _ us hl => match us, hl with | [_, _], _ => rfl
theorem TX.b__law_pick (T : TX K mg) : Binds K T.fd__law_pick ["state", "some"] [] := T.F__law_pick.binds fun _ _ _ _ _ _ us hl => match us, hl with | [_, _], _ => rfl
theorem TX.b__law_shuffled (T : TX K mg) : Binds K T.fd__law_shuffled ["state", "some"] [] := T.F__law_shuffled.binds fun _ _ _ _ _ _ us hl => match us, hl with | [_, _], _ => rfl
theorem TX.b__law_frame (T : TX K mg) : Binds K T.fd__law_frame ["state", "upto"] [] := T.F__law_frame.binds fun _ _ _ _ _ _ us hl => match us, hl with | [_, _], _ => rfl
theorem TX.b__law_test (T : TX K mg) : Binds K T.fd__law_test ["state", "frame", "deep"] [] := T.F__law_test.binds fun _ _ _ _ _ _ us hl => match us, hl with | [_, _, _], _ => rfl
theorem TX.b__law_leaf (T : TX K mg) : Binds K T.fd__law_leaf ["state", "frame"] [] := T.F__law_leaf.binds fun _ _ _ _ _ _ us hl => match us, hl with | [_, _], _ => rfl
theorem TX.b__law_tree (T : TX K mg) : Binds K T.fd__law_tree ["state", "frame", "deep"] [] := T.F__law_tree.binds fun _ _ _ _ _ _ us hl => match us, hl with | [_, _, _], _ => rfl
theorem TX.b__law_marked_tree (T : TX K mg) : Binds K T.fd__law_marked_tree ["state", "frame", "deep", "marks"] [] := T.F__law_marked_tree.binds fun _ _ _ _ _ _ us hl => match us, hl with | [_, _, _, _], _ => rfl
theorem TX.b__law_program (T : TX K mg) : Binds K T.fd__law_program ["state", "frame", "plan"] [] := T.F__law_program.binds fun _ _ _ _ _ _ us hl => match us, hl with | [_, _, _], _ => rfl
theorem TX.b__law_packet (T : TX K mg) : Binds K T.fd__law_packet ["state", "frame"] [] := T.F__law_packet.binds fun _ _ _ _ _ _ us hl => match us, hl with | [_, _], _ => rfl
theorem TX.b__law_ordered (T : TX K mg) : Binds K T.fd__law_ordered ["some"] [] := T.F__law_ordered.binds fun _ _ _ _ _ _ us hl => match us, hl with | [_], _ => rfl
theorem TX.b__law_behind (T : TX K mg) : Binds K T.fd__law_behind ["some", "gadget", "upto"] [] := T.F__law_behind.binds fun _ _ _ _ _ _ us hl => match us, hl with | [_, _, _], _ => rfl
theorem TX.b_law (T : TX K mg) : Binds K T.fd_law ["script"] [] := T.F_law.binds fun _ _ _ _ _ _ us hl => match us, hl with | [_], _ => rfl
end
end Mw
/-! Data that never change, read off the abstract heap. -/
namespace Mw
open PySem PySem.Spec PyProof.Rows L2
abbrev D := NestedKey

mutual
/-- the value is the datum -/
inductive NV (H : Hp) : D → V → Prop
  | num (i : Int) : NV H (.num i) (.int i)
  | text (x : Str) : NV H (.text x) (.str x)
  | tup {a : Addr} {xs : List V} {ks : List D} : H a = some (.tup xs) → NVs H ks xs → NV H (.tup ks) (.ref a)
inductive NVs (H : Hp) : List D → List V → Prop
  | nil : NVs H [] []
  | cons {k : D} {v : V} {ks : List D} {vs : List V} : NV H k v → NVs H ks vs → NVs H (k :: ks) (v :: vs)
end

/-- what never changes stays: tuples, and what is locked -/
structure Tp (H H' : Hp) : Prop where
  tup : ∀ a xs, H a = some (.tup xs) → H' a = some (.tup xs)
  frz : ∀ a o u, H a = some (.frz o u) → H' a = some (.frz o u)
theorem Tp.refl (H : Hp) : Tp H H := ⟨fun _ _ e => e, fun _ _ _ e => e⟩
theorem Tp.trans {H H1 H2 : Hp} (a : Tp H H1) (b : Tp H1 H2) : Tp H H2 := ⟨fun x xs e => b.tup x xs (a.tup x xs e), fun x o u e => b.frz x o u (a.frz x o u e)⟩
theorem Tp.same {H H' : Hp} (a : Same H H') : Tp H H' := ⟨fun x _ e => a x _ e, fun x _ _ e => a x _ e⟩
/-- a store at what may change -/
theorem Tp.write {H : Hp} {a : Addr} {o : HO} (h : Mut (H a)) : Tp H (upd H a o) :=
  ⟨fun x xs e => by rw [upd_ne (fun z => by rw [z] at e; rw [e] at h; exact h)]; exact e, fun x ob u e => by rw [upd_ne (fun z => by rw [z] at e; rw [e] at h; exact h)]; exact e⟩
theorem Tp.new {H : Hp} {a : Addr} {o : HO} (h : H a = none) : Tp H (upd H a o) := .same (fun b u e => by rw [upd_ne (ne_of_none e h)]; exact e)
theorem same_new {H : Hp} {a : Addr} {o : HO} (h : H a = none) : Same H (upd H a o) := fun b u e => by rw [upd_ne (ne_of_none e h)]; exact e

mutual
theorem NV.mono {H H' : Hp} (t : Tp H H') : ∀ {k : D} {v : V}, NV H k v → NV H' k v
  | _, _, .num i => .num i
  | _, _, .text x => .text x
  | _, _, .tup h r => .tup (t.tup _ _ h) (NVs.mono t r)
theorem NVs.mono {H H' : Hp} (t : Tp H H') : ∀ {ks : List D} {vs : List V}, NVs H ks vs → NVs H' ks vs
  | _, _, .nil => .nil
  | _, _, .cons a b => .cons (NV.mono t a) (NVs.mono t b)
end
theorem NVs.length {H : Hp} : ∀ {ks : List D} {vs : List V}, NVs H ks vs → vs.length = ks.length
  | _, _, .nil => rfl
  | _, _, .cons _ b => by rw [List.length_cons, List.length_cons, NVs.length b]
theorem NVs.get {H : Hp} : ∀ {ks : List D} {vs : List V} {i : Nat} {k : D}, NVs H ks vs → ks[i]? = some k → ∃ v, vs[i]? = some v ∧ NV H k v
  | _, _, _, _, .nil, e => by simp at e  -- no item
  | _, _, 0, _, .cons a _, e => by simp at e; subst e; exact ⟨_, rfl, a⟩
  | _, _, i + 1, _, .cons _ b, e => by
    obtain ⟨v, h1, h2⟩ := NVs.get (i := i) b (by simpa using e)
    exact ⟨v, by simpa using h1, h2⟩
theorem NVs.getV {H : Hp} : ∀ {ks : List D} {vs : List V} {i : Nat} {v : V}, NVs H ks vs → vs[i]? = some v → ∃ k, ks[i]? = some k ∧ NV H k v
  | _, _, _, _, .nil, e => by simp at e  -- no item
  | _, _, 0, _, .cons a _, e => by simp at e; subst e; exact ⟨_, rfl, a⟩
  | _, _, i + 1, _, .cons _ b, e => by
    obtain ⟨k, h1, h2⟩ := NVs.getV (i := i) b (by simpa using e)
    exact ⟨k, by simpa using h1, h2⟩
theorem NVs.append {H : Hp} : ∀ {ks ls : List D} {vs ws : List V}, NVs H ks vs → NVs H ls ws → NVs H (ks ++ ls) (vs ++ ws)
  | _, _, _, _, .nil, r => r
  | _, _, _, _, .cons a b, r => .cons a (NVs.append b r)
theorem NVs.take {H : Hp} : ∀ {ks : List D} {vs : List V} (n : Nat), NVs H ks vs → NVs H (ks.take n) (vs.take n)
  | _, _, 0, _ => by simp only [List.take_zero]; exact .nil
  | _, _, _ + 1, .nil => .nil
  | _, _, n + 1, .cons a b => .cons a (NVs.take n b)
theorem NVs.drop {H : Hp} : ∀ {ks : List D} {vs : List V} (n : Nat), NVs H ks vs → NVs H (ks.drop n) (vs.drop n)
  | _, _, 0, r => r
  | _, _, _ + 1, .nil => .nil
  | _, _, n + 1, .cons _ b => NVs.drop n b
theorem NVs.snoc {H : Hp} {ks : List D} {vs : List V} {k : D} {v : V} (r : NVs H ks vs) (h : NV H k v) : NVs H (ks ++ [k]) (vs ++ [v]) := r.append (.cons h .nil)
theorem NVs.dropLast {H : Hp} {ks : List D} {vs : List V} (r : NVs H ks vs) : NVs H ks.dropLast vs.dropLast := by
  rw [List.dropLast_eq_take, List.dropLast_eq_take, r.length]
  exact r.take _
theorem NVs.eraseIdx {H : Hp} : ∀ {ks : List D} {vs : List V} (i : Nat), NVs H ks vs → NVs H (ks.eraseIdx i) (vs.eraseIdx i)
  | _, _, _, .nil => .nil
  | _, _, 0, .cons _ b => b
  | _, _, i + 1, .cons a b => .cons a (NVs.eraseIdx i b)
mutual
theorem NV.inj {H : Hp} : ∀ {k k' : D} {v : V}, NV H k v → NV H k' v → k = k'
  | _, _, _, .num _, h => by cases h; rfl
  | _, _, _, .text _, h => by cases h; rfl
  | _, _, _, .tup h r, h' => by
    cases h' with
    | tup g r' =>
      rw [h] at g
      cases g
      rw [NVs.inj r r']
theorem NVs.inj {H : Hp} : ∀ {ks ls : List D} {vs : List V}, NVs H ks vs → NVs H ls vs → ks = ls
  | _, _, _, .nil, h => by cases h; rfl
  | _, _, _, .cons a b, h => by
    cases h with
    | cons a' b' => rw [NV.inj a a', NVs.inj b b']
end
theorem nv_int {H : Hp} {i : Int} {v : V} (h : NV H (.num i) v) : v = .int i := by cases h; rfl
theorem nv_str {H : Hp} {x : Str} {v : V} (h : NV H (.text x) v) : v = .str x := by cases h; rfl
theorem nv_tup {H : Hp} {ks : List D} {v : V} (h : NV H (.tup ks) v) : ∃ a xs, v = .ref a ∧ H a = some (.tup xs) ∧ NVs H ks xs := by cases h with | tup h r => exact ⟨_, _, rfl, h, r⟩

section
variable {P : Program} {w : World} {H : Hp} {h : Heap}
mutual
/-- .. in the machine's heap -/
theorem NV.nested (ok : HOk P w H h) : ∀ {k : D} {v : V} {u : Value}, NV H k v → RelV v u → NestedIs h k u
  | _, _, _, .num i, r => by obtain ⟨t, rfl⟩ := r; exact .int i t
  | _, _, _, .text x, r => by obtain ⟨t, rfl⟩ := r; exact .text x t
  | _, _, _, .tup (a := a) (xs := xs) e q, r => by
    cases r
    obtain ⟨_, its, rv, o, h1, h2, n, h3⟩ := (show ObjOk P w H h a (.tup xs) from ok a _ e)
    exact .tup h1 h2 h3 (by simpa using NVs.nested ok q rv)
theorem NVs.nested (ok : HOk P w H h) : ∀ {ks : List D} {vs : List V} {us : List Value}, NVs H ks vs → Vals vs us → NestedAll h ks us
  | _, _, _, .nil, r => by cases r; exact .nil
  | _, _, _, .cons a b, r => by
    cases r with
    | cons r1 r2 => exact .cons (NV.nested ok a r1) (NVs.nested ok b r2)
end
end

/-! ### dicts whose keys are data -/
abbrev Ent := D × Addr × V
/-- the entries, at d, whatever the tuples are -/
def rawD (P : Program) (w : World) (d : Addr) (xs : List Ent) (h : Heap) : Prop :=
  xs.length ≤ sizeLine ∧ (d == sysModules) = false ∧ ∃ ys : List (D × Addr × Value), Paired (fun (p : Ent) (q : D × Addr × Value) => p.1 = q.1 ∧ p.2.1 = q.2.1 ∧ RelV p.2.2 q.2.2) xs ys ∧
    ∃ o es ep, h.get? d = some o ∧ o.ExactDict ∧ o.data = .dict es ep ∧ es.toList = ys.map (entryOfKey (nestedKind P w)) ∧ (ys.map (·.1)).Nodup
def DO (P : Program) (w : World) (d : Addr) (xs : List Ent) : HO := .ext (rawD P w d xs)
def pairsE (xs : List Ent) : List (D × V) := xs.map fun x => (x.1, x.2.2)
/-- the keys are data that stand in tuples -/
def KeysIn (H : Hp) (xs : List Ent) : Prop := (∀ x ∈ xs, NV H x.1 (.ref x.2.1) ∧ x.1.depth ≤ 8) ∧ (xs.map (·.1)).Nodup
theorem KeysIn.mono {H H' : Hp} {xs : List Ent} (t : Tp H H') (k : KeysIn H xs) : KeysIn H' xs := ⟨fun x hx => ⟨(k.1 x hx).1.mono t, (k.1 x hx).2⟩, k.2⟩
/-- a dict that may change; one that is locked -/
def MD (P : Program) (w : World) (H : Hp) (d : Addr) (kvs : List (D × V)) : Prop := ∃ xs, H d = some (DO P w d xs) ∧ pairsE xs = kvs ∧ KeysIn H xs
def FD (P : Program) (w : World) (H : Hp) (d : Addr) (kvs : List (D × V)) : Prop := ∃ o xs, H d = some (.frz o (DO P w d xs)) ∧ pairsE xs = kvs ∧ KeysIn H xs
def RD (P : Program) (w : World) (H : Hp) (d : Addr) (kvs : List (D × V)) : Prop := MD P w H d kvs ∨ FD P w H d kvs
section
variable {P : Program} {w : World} {H H' : Hp} {h h' : Heap} {d : Addr} {xs : List Ent} {kvs : List (D × V)}
theorem FD.mono (t : Tp H H') (f : FD P w H d kvs) : FD P w H' d kvs := by
  obtain ⟨o, xs, e, p, k⟩ := f
  exact ⟨o, xs, t.frz _ _ _ e, p, k.mono t⟩
theorem MD.mono (t : Tp H H') (e : H' d = H d) (f : MD P w H d kvs) : MD P w H' d kvs := by
  obtain ⟨xs, e0, p, k⟩ := f
  exact ⟨xs, e.trans e0, p, k.mono t⟩
theorem do_ok (r : rawD P w d xs h) : ObjOk P w H h d (DO P w d xs) := by
  have ⟨z, y, ys, p, o, es, ep, ho, r2⟩ := r
  refine ⟨r, ⟨o, ho⟩, fun h1 h2 ⟨z, y, ys, p, o, es, ep, ho, r2⟩ k => ⟨z, y, ys, p, o, es, ep, k o ho, r2⟩⟩
theorem key_is (ok : HOk P w H h) {k : D} {a : Addr} (n : NV H k (.ref a)) (hd : k.depth ≤ 8) : (nestedKind P w).is h k a := ⟨n.nested ok rfl, hd⟩
theorem raw_keys (ok : HOk P w H h) (k : ∀ x ∈ xs, NV H x.1 (.ref x.2.1) ∧ x.1.depth ≤ 8) {ys : List (D × Addr × Value)} (p : Paired (fun (p : Ent) (q : D × Addr × Value) => p.1 = q.1 ∧ p.2.1 = q.2.1 ∧ RelV p.2.2 q.2.2) xs ys) : ∀ y ∈ ys, (nestedKind P w).is h y.1 y.2.1 := by
  induction p with
  | nil => intro y hy; cases hy
  | @cons a b as bs h1 _ ih =>
    intro y hy
    rcases List.mem_cons.mp hy with rfl | hy
    · have q := k a List.mem_cons_self
      rw [h1.1, h1.2.1] at q
      exact key_is ok q.1 q.2
    · exact ih (fun x hx => k x (List.mem_cons_of_mem _ hx)) y hy
theorem rawD.at {P : Program} {w : World} (ok : HOk P w H h) (r : rawD P w d xs h) (k : KeysIn H xs) : xs.length ≤ sizeLine ∧ (d == sysModules) = false ∧ ∃ ys : List (D × Addr × Value),
    Paired (fun (p : Ent) (q : D × Addr × Value) => p.1 = q.1 ∧ p.2.1 = q.2.1 ∧ RelV p.2.2 q.2.2) xs ys ∧ h.DictOfH (nestedKind P w) d ys := by
  obtain ⟨z, y, ys, p, o, es, ep, ho, h1, h2, h3, h4⟩ := r
  exact ⟨z, y, ys, p, o, es, ep, ho, h1, h2, h3, raw_keys ok k.1 p, h4⟩
theorem RD.raw (ok : HOk P w H h) (r : RD P w H d kvs) : ∃ xs, pairsE xs = kvs ∧ KeysIn H xs ∧ rawD P w d xs h := by
  rcases r with ⟨xs, e, p, k⟩ | ⟨o, xs, e, p, k⟩
  · exact ⟨xs, p, k, (ok d _ e).1⟩
  · obtain ⟨_, q⟩ := ok d _ e
    exact ⟨xs, p, k, q.1⟩
theorem RD.get (ok : HOk P w H h) (r : RD P w H d kvs) : ∃ xs, pairsE xs = kvs ∧ KeysIn H xs ∧ xs.length ≤ sizeLine ∧ (d == sysModules) = false ∧ ∃ ys : List (D × Addr × Value),
    Paired (fun (p : Ent) (q : D × Addr × Value) => p.1 = q.1 ∧ p.2.1 = q.2.1 ∧ RelV p.2.2 q.2.2) xs ys ∧ h.DictOfH (nestedKind P w) d ys := by
  obtain ⟨xs, e, k, q⟩ := r.raw ok
  exact ⟨xs, e, k, q.at ok k⟩
end
end Mw
/-! The table of a set, of up to 2 ^ 13 places: the round of i -> 5 i + 1, the first free place, tables laid anew. -/
namespace Mw
open PySem L2

/-! ### the round -/
/-- 1 + 5 + .. + 5 ^ (n - 1) -/
def geo : Nat → Nat
  | 0 => 0
  | n + 1 => 5 * geo n + 1
theorem geo_pow (n : Nat) : 5 ^ n = 4 * geo n + 1 := by
  induction n with
  | zero => rfl
  | succ n ih => rw [Nat.pow_succ, ih, geo]; omega
theorem geo_add (a b : Nat) : geo (a + b) = geo a * 5 ^ b + geo b := by
  induction b with
  | zero => simp [geo]
  | succ b ih =>
    rw [← Nat.add_assoc, geo, geo, ih, Nat.pow_succ, Nat.mul_add, ← Nat.mul_assoc (geo a)]
    have : 5 * (geo a * 5 ^ b) = geo a * 5 ^ b * 5 := Nat.mul_comm _ _
    omega
theorem geo_par (n : Nat) : geo n % 2 = n % 2 := by
  induction n with
  | zero => rfl
  | succ n ih => rw [geo]; omega
theorem pow5_mod (n : Nat) : 5 ^ n % 4 = 1 := by rw [geo_pow]; omega
theorem odd_cop {o : Nat} (h : o % 2 = 1) (k : Nat) : Nat.Coprime (2 ^ k) o := by
  apply Nat.Coprime.pow_left
  rw [Nat.Coprime, Nat.gcd_rec, h]
  rfl
theorem geo_dvd : ∀ (k n : Nat), 2 ^ k ∣ geo n → 2 ^ k ∣ n
  | 0, n, _ => ⟨n, by simp⟩
  | k + 1, n, h => by
    have even : n % 2 = 0 := by
      have h2 : 2 ∣ geo n := Nat.dvd_trans ⟨2 ^ k, by rw [Nat.pow_succ, Nat.mul_comm]⟩ h
      have := geo_par n
      omega
    obtain ⟨m, rfl⟩ : ∃ m, n = m + m := ⟨n / 2, by omega⟩
    have e : geo (m + m) = 2 * (geo m * (5 ^ m / 2 + 1)) := by
      have h1 : geo (m + m) = geo m * (5 ^ m + 1) := by rw [geo_add, Nat.mul_add, Nat.mul_one]
      have h2 : 5 ^ m + 1 = 2 * (5 ^ m / 2 + 1) := by have := pow5_mod m; omega
      rw [h1, h2, ← Nat.mul_assoc, Nat.mul_comm (geo m) 2, Nat.mul_assoc]
    rw [e, Nat.pow_succ, Nat.mul_comm _ 2] at h
    have h3 := Nat.dvd_of_mul_dvd_mul_left (by decide) h
    have odd : (5 ^ m / 2 + 1) % 2 = 1 := by have := pow5_mod m; omega
    obtain ⟨q, hq⟩ := geo_dvd k m ((odd_cop odd k).dvd_of_dvd_mul_right h3)
    exact ⟨q, by rw [Nat.pow_succ, hq]; have : 2 ^ k * q + 2 ^ k * q = 2 ^ k * 2 * q := by rw [Nat.mul_right_comm]; omega
                 exact this⟩
theorem lcg_eq {m x : Nat} (hx : x ≤ m) : ∀ n, lcgI m x n = (x + geo n * (4 * x + 1)) % (m + 1)
  | 0 => by
    rw [lcgI, geo, Nat.zero_mul, Nat.add_zero, Nat.mod_eq_of_lt (by omega)]
  | n + 1 => by
    rw [lcgI, lcg_eq hx n, geo, Nat.add_mod, Nat.mod_mul_mod, ← Nat.add_mod]
    have : (x + geo n * (4 * x + 1)) * 5 + 1 = x + (5 * geo n + 1) * (4 * x + 1) := by
      rw [Nat.add_mul, Nat.add_mul (5 * geo n), Nat.mul_right_comm, Nat.mul_comm (geo n * 5)]
      have : (4 * x + 1) * (geo n * 5) = 5 * geo n * (4 * x + 1) := by rw [Nat.mul_comm, Nat.mul_comm (geo n)]
      omega
    rw [this]
theorem lcg_le {m x : Nat} (hx : x ≤ m) (n : Nat) : lcgI m x n ≤ m := by
  rw [lcg_eq hx]
  exact Nat.le_of_lt_succ (Nat.mod_lt _ (Nat.succ_pos _))
theorem lcg_add (m x a : Nat) : ∀ n, lcgI m x (a + n) = lcgI m (lcgI m x a) n
  | 0 => rfl
  | n + 1 => by rw [← Nat.add_assoc, lcgI, lcg_add m x a n, ← lcgI]
/-- the masks that may come -/
def Msk (m : Nat) : Prop := ∃ k, 3 ≤ k ∧ k ≤ 13 ∧ m + 1 = 2 ^ k
theorem lcg_inj {m x : Nat} (hm : Msk m) (hx : x ≤ m) {a n : Nat} (hn : 0 < n) (hl : n ≤ m) : lcgI m x a ≠ lcgI m x (a + n) := by
  obtain ⟨k, _, _, e⟩ := hm
  rw [lcg_add]
  have hy := lcg_le hx a
  generalize lcgI m x a = y at hy
  intro q
  rw [lcg_eq hy] at q
  have d : (m + 1) ∣ geo n * (4 * y + 1) := by
    have h1 : y + geo n * (4 * y + 1) = (m + 1) * ((y + geo n * (4 * y + 1)) / (m + 1)) + y := by
      have := Nat.div_add_mod (y + geo n * (4 * y + 1)) (m + 1)
      omega
    exact ⟨(y + geo n * (4 * y + 1)) / (m + 1), by omega⟩
  rw [e] at d
  have odd : (4 * y + 1) % 2 = 1 := by omega
  have d2 := geo_dvd k n ((odd_cop odd k).dvd_of_dvd_mul_right d)
  have := Nat.le_of_dvd hn d2
  omega
/-- from anywhere every place comes -/
theorem lcg_all {m i j : Nat} (hm : Msk m) (hi : i ≤ m) (hj : j ≤ m) : ∃ n, n ≤ m ∧ lcgI m i n = j := by
  rcases Classical.em (∃ n, n ≤ m ∧ lcgI m i n = j) with h | h
  · exact h
  exfalso
  have nd : ((List.range (m + 1)).map (lcgI m i)).Nodup := by
    rw [List.nodup_iff_pairwise_ne, List.pairwise_map]
    refine List.Pairwise.imp_of_mem (fun {a b} ha hb hab => ?_) (List.pairwise_lt_range (n := m + 1))
    have h1 := List.mem_range.mp hb
    obtain ⟨n, rfl⟩ : ∃ n, b = a + n := ⟨b - a, by omega⟩
    exact lcg_inj hm hi (by omega) (by omega)
  have all : (j :: (List.range (m + 1)).map (lcgI m i)).Nodup := List.nodup_cons.mpr ⟨fun q => by
    obtain ⟨n, hn, e⟩ := List.mem_map.mp q
    exact h ⟨n, by have := List.mem_range.mp hn; omega, e⟩, nd⟩
  have len := nat_nodup_len _ (List.range (m + 1)) all fun x hx => by
    rcases List.mem_cons.mp hx with rfl | hx
    · exact List.mem_range.mpr (by omega)
    · obtain ⟨n, _, e⟩ := List.mem_map.mp hx
      exact List.mem_range.mpr (by have := lcg_le hi n; omega)
  simp at len
  omega

/-! ### the first free place -/
theorem way_in {m : Nat} (h : Int) (k : Nat) : way m h k ≤ m := by
  have lt : SetTable.bits h % (m + 1) ≤ m := Nat.le_of_lt_succ (Nat.mod_lt _ (Nat.succ_pos _))
  have ends := runEnd_bd lt
  have q := nth_in (m := m) k (runAt m (SetTable.bits h % (m + 1)) (SetTable.bits h)) (by unfold runAt; dsimp only; omega)
  exact Nat.le_trans (Nat.le_add_right _ _) q
theorem off_le {m : Nat} : ∀ (n i b : Nat), i ≤ m → off m i b n ≤ 10 * n
  | 0, _, _, _ => Nat.le_refl _
  | n + 1, i, b, hi => by
    have r := runEnd_bd hi
    have q := off_le n (SetTable.leap m i b).1 (SetTable.leap m i b).2 (leap_le m i b)
    unfold off
    omega
/-- where less than all places are taken, the way comes to the first free one in time -/
theorem first_free {m : Nat} (hm : Msk m) (h : Int) (taken : List Nat) (hl : taken.length ≤ m) : ∃ K n, n ≤ m + 12 ∧ K ≤ off m (SetTable.bits h % (m + 1)) (SetTable.bits h) n ∧ K ≤ 10 * (m + 12) ∧
    way m h K ∉ taken ∧ ∀ k, k < K → way m h k ∈ taken := by
  obtain ⟨j, hj, free⟩ := st_missing taken (m + 1) (Nat.lt_succ_of_le hl)
  obtain ⟨n0, hn0, e0⟩ := lcg_all hm (runI_le m (SetTable.bits h) 12) (Nat.le_of_lt_succ hj)
  have at_j : way m h (off m (SetTable.bits h % (m + 1)) (SetTable.bits h) (12 + n0)) = j := by
    show (nth m (runAt m (SetTable.bits h % (m + 1)) (SetTable.bits h)) _).j = j
    rw [nth_off, itL_run, runI_tail (bits_lt h), e0]
    rfl
  obtain ⟨K, h1, h2, h3⟩ := st_least (p := fun k => way m h k ∉ taken) _ (by rw [at_j]; exact free)
  have bound := off_le (m := m) (12 + n0) (SetTable.bits h % (m + 1)) (SetTable.bits h) (Nat.le_of_lt_succ (Nat.mod_lt _ (Nat.succ_pos _)))
  refine ⟨K, 12 + n0, by omega, h1, by omega, h2, fun k hk => ?_⟩
  exact Classical.byContradiction fun q => h3 k hk q

/-! ### a table from which each hash is found again -/
structure Tab (t : SetTable) (hs : List Int) : Prop where
  ris : Ris t.place.toList
  dm : t.dummies = #[]
  sz : t.place.size = hs.length
  msk : Msk t.mask
  bd : ∀ x ∈ t.place.toList, x ≤ t.mask
  reach : ∀ (i : Nat) (h : Int) (j : Nat), hs[i]? = some h → t.place.toList[i]? = some j → ∃ k, way t.mask h k = j ∧ ∀ k', k' < k → way t.mask h k' ∈ t.place.toList
theorem Tab.before {t : SetTable} {hs : List Int} (T : Tab t hs) {h : Int} {K i j : Nat} (hK : way t.mask h K ∉ t.place.toList) (hi : hs[i]? = some h) (hj : t.place.toList[i]? = some j) : ∃ k, k < K ∧ way t.mask h k = j := by
  obtain ⟨k, e, full⟩ := T.reach i h j hi hj
  refine ⟨k, Nat.lt_of_not_le fun le => ?_, e⟩
  rcases Nat.lt_or_eq_of_le le with lt | rfl
  · exact hK (full K lt)
  · exact hK (e ▸ List.mem_of_getElem? hj)
theorem Tab.put {t : SetTable} {hs : List Int} (T : Tab t hs) {h : Int} {K : Nat} (hK : way t.mask h K ∉ t.place.toList) (full : ∀ k, k < K → way t.mask h k ∈ t.place.toList) :
    ∃ p t', t.put (way t.mask h K) = (t', p) ∧ p ≤ hs.length ∧ Tab t' (hs.take p ++ h :: hs.drop p) ∧ t'.mask = t.mask ∧ t'.led = t.led ∧ t'.plain = t.plain ∧ t'.fill = hs.length + 1 := by
  have inn := way_in (m := t.mask) h K
  obtain ⟨j, hj⟩ : ∃ j, j = way t.mask h K := ⟨_, rfl⟩
  rw [← hj] at hK inn ⊢
  obtain ⟨p, hp⟩ : ∃ p, p = SetTable.below t.place j := ⟨_, rfl⟩
  have cut : p ≤ t.place.size := hp ▸ (below_cut T.ris j).1
  have places := put_place t j
  rw [← hp] at places
  have lp : p ≤ t.place.toList.length := cut
  have lh : p ≤ hs.length := T.sz ▸ cut
  have size : (t.put j).1.place.size = hs.length + 1 := by
    have := congrArg List.length places
    rw [len_ins _ lp] at this
    rw [← T.sz]; exact this
  have more : ∀ {x : Nat}, x ∈ t.place.toList → x ∈ (t.put j).1.place.toList := fun hx => places ▸ mem_ins.2 (.inr hx)
  refine ⟨p, (t.put j).1, by rw [hp]; rfl, lh, ⟨ris_insert T.ris fun e => hK (List.mem_of_getElem? (Array.getElem?_toList .. ▸ e)), put_dm T.dm j, by rw [len_ins _ lh]; exact size, T.msk, fun x hx => ?_, ?_⟩, rfl, rfl, rfl, ?_⟩
  · rcases mem_ins.1 (places ▸ hx) with rfl | q
    · exact inn
    · exact T.bd x q
  · intro i h' j' h1 h2
    rw [tins_get _ lh] at h1
    rw [places, tins_get _ lp] at h2
    have keep : ∀ i', hs[i']? = some h' → t.place.toList[i']? = some j' → ∃ k, way (t.put j).1.mask h' k = j' ∧ ∀ k', k' < k → way (t.put j).1.mask h' k' ∈ (t.put j).1.place.toList := fun i' q1 q2 => by
      obtain ⟨k, e, f⟩ := T.reach i' h' j' q1 q2
      exact ⟨k, e, fun k' hk' => more (f k' hk')⟩
    rcases Nat.lt_trichotomy i p with c | c | c
    · rw [if_pos c] at h1 h2
      exact keep i h1 h2
    · rw [if_neg (by omega), if_pos c] at h1 h2
      cases h1
      cases h2
      exact ⟨K, hj.symm, fun k' hk' => more (full k' hk')⟩
    · rw [if_neg (by omega), if_neg (by omega)] at h1 h2
      exact keep (i - 1) h1 h2
  · show (t.put j).1.place.size + (t.put j).1.dummies.size = _
    rw [size, put_dm T.dm j]
    rfl

/-! ### laid anew -/
theorem own_step {m : Nat} (hm : Msk m) {done : List Int} {owner : Array (Option Nat)} (W : Own m done owner) (hl : done.length ≤ m) (h : Int) :
    ∃ j, SetTable.layClean.free m owner (SetTable.turns m) (SetTable.bits h % (m + 1)) (SetTable.bits h) = some j ∧ Own m (done ++ [h]) (owner.setIfInBounds j (some done.length)) := by
  obtain ⟨ps, len, occ⟩ := W.ps
  -- the taken places are ps's that are taken
  obtain ⟨K, n, hn, hK, _, free, full⟩ := first_free hm h (ps.filter fun j => (oAt owner j).isSome) (Nat.le_trans (List.length_filter_le _ _) (by omega))
  have none_at : oAt owner (way m h K) = none := by
    cases e : oAt owner (way m h K) with
    | none => rfl
    | some q => exact absurd (List.mem_filter.mpr ⟨occ _ (way_in h K) (by rw [e]; exact fun z => nomatch z), by rw [e]; rfl⟩) free
  have some_at : ∀ k, k < K → (oAt owner (way m h k)).isSome = true := fun k hk => (List.mem_filter.mp (full k hk)).2
  have inn : way m h K < owner.size := W.sz ▸ Nat.lt_succ_of_le (way_in h K)
  have self := oAt_set_self (some done.length) inn
  have stay : ∀ {i : Nat}, oAt owner i ≠ none → oAt (owner.setIfInBounds (way m h K) (some done.length)) i ≠ none := fun {i} q => by
    by_cases c : i = way m h K
    · rw [c, self]; exact fun z => nomatch z
    · rw [oAt_set_ne _ c]; exact q
  refine ⟨way m h K, free_spec m owner _ n _ _ K (by unfold SetTable.turns; omega) hK (fun k hk => ?_) ?_, ?_⟩
  · have := some_at k hk
    cases e : oAt owner (nth m (runAt m (SetTable.bits h % (m + 1)) (SetTable.bits h)) k).j with
    | none => rw [show oAt owner (way m h k) = none from e] at this; cases this
    | some _ => rfl
  · rw [show oAt owner (nth m (runAt m (SetTable.bits h % (m + 1)) (SetTable.bits h)) K).j = none from none_at]; rfl
  constructor
  case sz => rw [Array.size_setIfInBounds]; exact W.sz
  case at_ =>
    intro j k hj e
    by_cases c : j = way m h K
    · rw [c, self] at e
      cases e
      exact ⟨h, K, by simp, c.symm, fun k' hk' => stay (by have := some_at k' hk'; intro z; rw [z] at this; cases this)⟩
    · rw [oAt_set_ne _ c] at e
      obtain ⟨h', K', a1, a2, a3⟩ := W.at_ j k hj e
      exact ⟨h', K', by rw [List.getElem?_append_left (List.getElem?_eq_some_iff.mp a1).1]; exact a1, a2, fun k' hk' => stay (a3 k' hk')⟩
  case all =>
    intro k hk
    rw [List.length_append, List.length_singleton] at hk
    rcases Nat.lt_or_ge k done.length with c | c
    · obtain ⟨j, hj, e⟩ := W.all k c
      exact ⟨j, hj, by rw [oAt_set_ne _ fun z => by rw [z, none_at] at e; cases e]; exact e⟩
    · obtain rfl : k = done.length := by omega
      exact ⟨way m h K, way_in h K, self⟩
  case ps =>
    refine ⟨way m h K :: ps, by simp [len], fun j hj e => ?_⟩
    by_cases c : j = way m h K
    · exact c ▸ List.mem_cons_self
    · rw [oAt_set_ne _ c] at e
      exact List.mem_cons_of_mem _ (occ j hj e)
theorem own_fold {m : Nat} (hm : Msk m) : ∀ (rest done : List Int) (owner : Array (Option Nat)), Own m done owner → done.length + rest.length ≤ m →
    ∃ owner' k, rest.foldl (stepF m) (some (owner, done.length)) = some (owner', k) ∧ Own m (done ++ rest) owner'
  | [], done, owner, W, _ => ⟨owner, _, rfl, by simpa using W⟩
  | h :: rest, done, owner, W, hl => by
    simp only [List.length_cons] at hl
    obtain ⟨j, e, W1⟩ := own_step hm W (by omega) h
    obtain ⟨o2, k, f, W2⟩ := own_fold hm rest _ _ W1 (by simp; omega)
    refine ⟨o2, k, ?_, by simpa using W2⟩
    rw [List.foldl_cons, stepF_some e]
    simpa using f
theorem laid {m : Nat} (hm : Msk m) {hs : Array Int} (hn : hs.size ≤ m) : ∃ owner, SetTable.layClean m hs = some owner ∧ Own m hs.toList owner := by
  obtain ⟨owner, k, f, W⟩ := own_fold hm hs.toList [] _ (Own.init m) (by simpa using hn)
  refine ⟨owner, ?_, by simpa using W⟩
  rw [layClean_eq]
  exact congrArg (Option.map (·.1)) f
theorem own_len {m : Nat} {hs : List Int} {owner : Array (Option Nat)} (W : Own m hs owner) (nd : ((liveOf m owner).map (·.1)).Nodup) : (liveOf m owner).length = hs.length := by
  obtain ⟨ps, p1, p2⟩ := W.ps
  apply Nat.le_antisymm
  · rw [← p1, ← List.length_map (f := (·.1))]
    refine nat_nodup_len _ ps nd fun x hx => ?_
    obtain ⟨⟨y, k⟩, hq, rfl⟩ := List.mem_map.mp hx
    obtain ⟨b1, b2⟩ := (mem_live W.sz).1 hq
    exact p2 y b1 (by rw [b2]; exact fun z => nomatch z)
  · have q := nat_nodup_len (List.range hs.length) ((liveOf m owner).map (·.2)) List.nodup_range fun k hk => by
      obtain ⟨j, b1, b2⟩ := W.all k (List.mem_range.mp hk)
      exact List.mem_map.mpr ⟨(j, k), (mem_live W.sz).2 ⟨b1, b2⟩, rfl⟩
    simpa using q
theorem relaid {t : SetTable} {hs : Array Int} {wanted M : Nat} (hw : SetTable.sizeAbove wanted - 1 = M) (hM : Msk M) (hn : hs.size ≤ M) :
    ∃ t' order, t.relaid hs wanted = some (t', order) ∧ order.toList.Perm (List.range hs.size) ∧ Tab t' (order.toList.map fun i => hs.getD i 0) ∧ t'.mask = M ∧ t'.led = t.led ∧ t'.plain = t.plain := by
  obtain ⟨owner, e, W⟩ := laid hM hn
  have rise := ris_live (fun j => owner.getD j none) (List.range (M + 1)) List.pairwise_lt_range
  have r1 : Ris ((liveOf M owner).map (·.1)) := rise.1
  have len := own_len W (List.Pairwise.imp (fun h => Nat.ne_of_lt h) r1)
  refine ⟨tabOf t M owner, ((liveOf M owner).map (·.2)).toArray, by rw [relaid_eq, hw, e]; rfl, ?_, ⟨r1, rfl, ?_, hM, fun x hx => ?_, ?_⟩, rfl, rfl, rfl⟩
  · refine perm_range hs.size _ (by simpa using len) fun k hk => ?_
    obtain ⟨j, b1, b2⟩ := W.all k hk
    exact List.mem_map.mpr ⟨(j, k), (mem_live W.sz).2 ⟨b1, b2⟩, rfl⟩
  · simp [tabOf]
  · have : x ∈ List.range (M + 1) := rise.2 x hx
    exact Nat.le_of_lt_succ (List.mem_range.mp this)
  · intro i h j h1 h2
    have h1' : (((liveOf M owner).map (·.2)).map fun i => hs.getD i 0)[i]? = some h := h1
    have h2' : ((liveOf M owner).map (·.1))[i]? = some j := h2
    simp only [List.getElem?_map] at h1' h2'
    cases hq : (liveOf M owner)[i]? with
    | none => rw [hq] at h2'; cases h2'
    | some q =>
      obtain ⟨y, k⟩ := q
      rw [hq] at h1' h2'
      cases h2'
      obtain ⟨b1, b2⟩ := (mem_live W.sz).1 (List.mem_of_getElem? hq)
      obtain ⟨h0, K, a1, a2, a3⟩ := W.at_ y k b1 b2
      have e0 : hs.getD k 0 = h0 := by
        rw [Array.getD_eq_getD_getElem?, ← Array.getElem?_toList, a1]; rfl
      obtain rfl : h0 = h := e0.symm.trans (Option.some.inj h1')
      refine ⟨K, a2, fun k' hk' => ?_⟩
      cases z : oAt owner (way M h0 k') with
      | none => exact absurd z (a3 k' hk')
      | some k2 => exact List.mem_map.mpr ⟨(way M h0 k', k2), (mem_live W.sz).2 ⟨way_in h0 k', z⟩, rfl⟩
end Mw
/-! Sets of data made of numbers: the search, adding. -/
namespace Mw
open PySem PySem.Spec PyProof.Rows L2

mutual
/-- numbers alone within -/
def numk : D → Bool
  | .num _ => true
  | .tup ks => numks ks
  | _ => false
def numks : List D → Bool
  | [] => true
  | k :: ks => numk k && numks ks
end
section
variable {P : Program} {w : World} {A : Around} {E : Value → Shared → Prop} {s : Shared}
/-- what a walk over a tuple's items answers -/
theorem each_item {vs : List Value} {f : Value → Sem Bool} {stop : Bool} {Q : Bool → Shared → Prop} (hf : ∀ v ∈ vs, ∀ (Q : Bool → Shared → Prop), Q (!stop) s → wpAny (model P w) A (f v) Q E s) (h : Q (!stop) s) :
    wpAny (model P w) A (do
      for y in vs do
        if (← f y) == stop then return stop
      return (!stop)) Q E s := by
  refine wpAny_bind (wpAny_forIn_list _ (fun left r s' => r.1 = none ∧ s' = s ∧ ∀ v ∈ left, v ∈ vs) _ ?_ ?_ _ _ ⟨rfl, rfl, fun _ q => q⟩)
  · rintro v left r s' ⟨_, rfl, sub⟩
    refine wpAny_bind (hf v (sub v List.mem_cons_self) _ ?_)
    rw [if_neg (by cases stop <;> decide)]
    exact wpAny_pure ⟨rfl, rfl, fun u hu => sub u (List.mem_cons_of_mem _ hu)⟩
  · rintro ⟨_, _⟩ _ ⟨rfl, rfl, _⟩
    exact wpAny_pure h
mutual
/-- its hash is told by its value -/
theorem hash_by : ∀ (k : D) (v : Value) (n : Nat), NestedIs s.heap k v → numk k = true → k.depth ≤ n → ∀ (Q : Bool → Shared → Prop), Q true s → wpAny (model P w) A (hashByValue n v) Q E s
  | .num i, v, n, x, _, _, Q, h => by
    cases x with
    | bool _ => cases n <;> exact wpAny_pure h
    | int _ _ => cases n <;> exact wpAny_pure h
  | .tup ks, _, n, .tup hg hc hd hk, num, dp, Q, h => by
    cases n with
    | zero => simp [NestedKey.depth] at dp
    | succ n =>
      simp only [NestedKey.depth, Nat.add_le_add_iff_right] at dp
      unfold hashByValue
      refine wpAny_bind (wpAny_specialOf ⟨_, hg, hc⟩ F.slot_tuple_hash.lookup (wpAny_bind (wpAny_seqItems hg hd (wpAny_bind ?_))))
      show wpAny _ _ (forIn _ _ _) _ _ _
      rw [← Array.forIn_toList]
      refine wpAny_forIn_list _ (fun left r s' => r.1 = none ∧ s' = s ∧ ∀ v ∈ left, ∀ (Q : Bool → Shared → Prop), Q true s → wpAny (model P w) A (hashByValue n v) Q E s) _ ?_ ?_ _ _ ⟨rfl, rfl, hash_bys ks _ n hk num dp⟩
      · rintro v left r _ ⟨_, rfl, all⟩
        refine wpAny_bind (all v List.mem_cons_self _ ?_)
        rw [if_neg (by decide)]
        exact wpAny_pure ⟨rfl, rfl, fun u hu => all u (List.mem_cons_of_mem _ hu)⟩
      · rintro ⟨_, _⟩ _ ⟨rfl, rfl, _⟩
        exact wpAny_pure h
  | .text _, _, _, _, num, _, _, _ => nomatch num
  | .none, _, _, _, num, _, _, _ => nomatch num
theorem hash_bys : ∀ (ks : List D) (vs : List Value) (n : Nat), NestedAll s.heap ks vs → numks ks = true → NestedKey.depthAll ks ≤ n → ∀ v ∈ vs, ∀ (Q : Bool → Shared → Prop), Q true s → wpAny (model P w) A (hashByValue n v) Q E s
  | [], _, _, .nil, _, _, v, hv, _, _ => absurd hv List.not_mem_nil
  | k :: ks, _, n, .cons x1 x2, num, dp, v, hv, Q, h => by
    have q : numk k = true ∧ numks ks = true := by simpa [numks] using num
    simp only [NestedKey.depthAll] at dp
    rcases List.mem_cons.mp hv with rfl | hv
    · exact hash_by k v n x1 q.1 (by omega) Q h
    · exact hash_bys ks _ n x2 q.2 (by omega) v hv Q h
end
mutual
/-- no class statement made it -/
theorem no_stmt : ∀ (k : D) (v : Value) (n : Nat), NestedIs s.heap k v → numk k = true → k.depth ≤ n → ∀ (Q : Bool → Shared → Prop), Q false s → wpAny (model P w) A (ofAClassStatement n v) Q E s
  | .num i, v, n, x, _, _, Q, h => by
    cases x with
    | bool _ => cases n <;> exact wpAny_pure h
    | int _ _ => cases n <;> exact wpAny_pure h
  | .tup ks, _, n, .tup hg hc hd hk, num, dp, Q, h => by
    cases n with
    | zero => simp [NestedKey.depth] at dp
    | succ n =>
      simp only [NestedKey.depth, Nat.add_le_add_iff_right] at dp
      unfold ofAClassStatement
      refine wpAny_bind (wpAny_typeOf ⟨_, hg, hc⟩ ?_)
      dsimp only
      rw [if_pos (by decide)]
      refine wpAny_bind (wpAny_pure ?_)
      rw [if_neg (by decide)]
      refine wpAny_bind (wpAny_seqItems hg hd (wpAny_bind ?_))
      show wpAny _ _ (forIn _ _ _) _ _ _
      rw [← Array.forIn_toList]
      refine wpAny_forIn_list _ (fun left r s' => r.1 = none ∧ s' = s ∧ ∀ v ∈ left, ∀ (Q : Bool → Shared → Prop), Q false s → wpAny (model P w) A (ofAClassStatement n v) Q E s) _ ?_ ?_ _ _ ⟨rfl, rfl, no_stmts ks _ n hk num dp⟩
      · rintro v left r _ ⟨_, rfl, all⟩
        refine wpAny_bind (all v List.mem_cons_self _ ?_)
        rw [if_neg (by decide)]
        exact wpAny_pure ⟨rfl, rfl, fun u hu => all u (List.mem_cons_of_mem _ hu)⟩
      · rintro ⟨_, _⟩ _ ⟨rfl, rfl, _⟩
        exact wpAny_pure h
  | .text _, _, _, _, num, _, _, _ => nomatch num
  | .none, _, _, _, num, _, _, _ => nomatch num
theorem no_stmts : ∀ (ks : List D) (vs : List Value) (n : Nat), NestedAll s.heap ks vs → numks ks = true → NestedKey.depthAll ks ≤ n → ∀ v ∈ vs, ∀ (Q : Bool → Shared → Prop), Q false s → wpAny (model P w) A (ofAClassStatement n v) Q E s
  | [], _, _, .nil, _, _, v, hv, _, _ => absurd hv List.not_mem_nil
  | k :: ks, _, n, .cons x1 x2, num, dp, v, hv, Q, h => by
    have q : numk k = true ∧ numks ks = true := by simpa [numks] using num
    simp only [NestedKey.depthAll] at dp
    rcases List.mem_cons.mp hv with rfl | hv
    · exact no_stmt k v n x1 q.1 (by omega) Q h
    · exact no_stmts ks _ n x2 q.2 (by omega) v hv Q h
end
/-- the tuple at b is the datum, of numbers -/
def IsN (P : Program) (w : World) (h : Heap) (k : D) (b : Addr) : Prop := (nestedKind P w).is h k b ∧ numk k = true
theorem seen {k : D} {b : Addr} {Q : Bool → Shared → Prop} (hk : IsN P w s.heap k b) {ys : List Value} (hy : ∀ y ∈ ys, ∃ k' c, y = .ref c ∧ IsN P w s.heap k' c) (h : Q false s) : wpAny (model P w) A (searchCouldBeSeen (.ref b) ys) Q E s := by
  unfold searchCouldBeSeen
  refine wpAny_bind (wpAny_forIn_list _ (fun left r s' => r.1 = none ∧ s' = s ∧ ∀ y ∈ left, ∃ k' c, y = Value.ref c ∧ IsN P w s.heap k' c) _ ?_ ?_ _ _ ⟨rfl, rfl, hy⟩)
  · rintro v left r _ ⟨_, rfl, all⟩
    obtain ⟨k', c, rfl, hc⟩ := all v List.mem_cons_self
    have more : ∀ y ∈ left, ∃ k' c, y = Value.ref c ∧ IsN P w _ k' c := fun u hu => all u (List.mem_cons_of_mem _ hu)
    dsimp only
    refine wpAny_ite_split (fun _ => wpAny_pure ⟨rfl, rfl, more⟩) fun _ => ?_
    refine wpAny_bind ((nestedKind P w).quiet hk.1 ?_)
    rw [if_neg (by decide)]
    refine wpAny_bind ((nestedKind P w).quiet hc.1 ?_)
    rw [if_neg (by decide)]
    refine wpAny_bind (no_stmt k _ 8 hk.1.1 hk.2 hk.1.2 _ ?_)
    rw [if_neg (by decide)]
    refine wpAny_bind (no_stmt k' _ 8 hc.1.1 hc.2 hc.1.2 _ ?_)
    rw [if_neg (by decide)]
    exact wpAny_pure ⟨rfl, rfl, more⟩
  · rintro ⟨_, _⟩ _ ⟨rfl, rfl, _⟩
    exact wpAny_pure h

/-! ### the set -/
abbrev hs (w : World) (k : D) : Int := NestedKey.hash w k
def rowN (w : World) (L : List (Addr × D)) : List (Int × Value) := L.map fun p => (hs w p.2, Value.ref p.1)
/-- the masks, one after another -/
def Six (m : Nat) : Prop := m = 7 ∨ m = 31 ∨ m = 127 ∨ m = 511 ∨ m = 2047 ∨ m = 8191
structure SetN (P : Program) (w : World) (h : Heap) (a : Addr) (L : List (Addr × D)) (es : Array (Int × Value)) (ep : Nat) (t : SetTable) : Prop where
  ob : ∃ o, h.get? a = some o ∧ o.ExactSet ∧ o.data = .set es ep t
  rows : es.toList = rowN w L
  tab : Tab t (L.map fun p => hs w p.2)
  nd : (L.map (·.2)).Nodup
  tup : ∀ p ∈ L, IsN P w h p.2 p.1
  plain : t.plain = true
  led : w.params.followText "set-order" = true ∨ t.led = true
  room : L.length * 5 < t.mask * 3
  six : Six t.mask
variable {a : Addr} {L : List (Addr × D)} {es : Array (Int × Value)} {ep : Nat} {t : SetTable}
theorem Msk.le {m : Nat} (h : Msk m) : m ≤ 8191 ∧ m % 2 = 1 := by
  obtain ⟨k, h1, h2, e⟩ := h
  have q : 2 ^ k ≤ 2 ^ 13 := Nat.pow_le_pow_right (by decide) h2
  obtain ⟨j, rfl⟩ : ∃ j, k = j + 1 := ⟨k - 1, by omega⟩
  rw [Nat.pow_succ] at e
  omega
theorem SetN.size (R : SetN P w s.heap a L es ep t) : es.size = L.length := by
  rw [← Array.length_toList, R.rows, rowN, List.length_map]
theorem SetN.fits (R : SetN P w s.heap a L es ep t) : t.fits es.size = true := by
  have h1 := R.tab.sz
  have h2 := R.room
  rw [List.length_map] at h1
  simp only [SetTable.fits, SetTable.fill, R.tab.dm, R.size, Bool.and_eq_true, beq_iff_eq, decide_eq_true_eq]
  refine ⟨h1, ?_⟩
  show t.place.size + 0 ≤ t.mask
  omega
theorem SetN.entry (R : SetN P w s.heap a L es ep t) {i : Nat} {p : Addr × D} (h : L[i]? = some p) : es[i]? = some (hs w p.2, Value.ref p.1) := by
  rw [← Array.getElem?_toList, R.rows, rowN, List.getElem?_map, h]
  rfl
theorem SetN.gw (R : SetN P w s.heap a L es ep t) : ¬ t.gaveWay = true := by
  unfold SetTable.gaveWay
  rw [R.tab.msk.le.2]
  decide
theorem nth_dummy {m : Nat} : ∀ (n : Nat) (p : SetTable.Probe), p.dummy = none → (nth m p n).dummy = none
  | 0, _, h => h
  | n + 1, p, h => nth_dummy n (adv m p) (by unfold adv; split <;> exact h)
/-- the c-th step of the way -/
abbrev pr (m : Nat) (h : Int) (c : Nat) : SetTable.Probe := nth m (runAt m (SetTable.bits h % (m + 1)) (SetTable.bits h)) c
theorem pr_add (m : Nat) (h : Int) (c q : Nat) : nth m (pr m h c) q = pr m h (c + q) := (nth_add m c _ q).symm
theorem look (R : SetN P w s.heap a L es ep t) {x : Addr} {k : D} (hx : IsN P w s.heap k x) (hu : A.units + 8 < cLine) {K : Nat} (inTime : K < 10 * SetTable.turns t.mask)
    (free : way t.mask (hs w k) K ∉ t.place.toList) (full : ∀ c, c < K → way t.mask (hs w k) c ∈ t.place.toList) {Q : SetFound → Shared → Prop}
    (hin : k ∈ L.map (·.2) → Q (.there none) s) (hout : k ∉ L.map (·.2) → Q (.free (way t.mask (hs w k) K) false) s) :
    ∀ (f c : Nat) (stand : Option SetTable.Probe), stand.getD (t.probeStart (hs w k)) = pr t.mask (hs w k) c → c ≤ K → K - c < f →
      (∀ (i : Nat) p, L[i]? = some p → p.2 = k → ∃ c', c ≤ c' ∧ c' < K ∧ t.place.toList[i]? = some (way t.mask (hs w k) c')) →
      wpAny (model P w) A (setSearchFrom a (.ref x) (hs w k) true f stand) Q E s := by
  intro f
  induction f with
  | zero => exact fun c stand _ _ q _ => absurd q (Nat.not_lt_zero _)
  | succ f ih =>
    intro c stand hst hc hf ahead
    obtain ⟨o, ho, hex, hd⟩ := R.ob
    have at_ : ∀ q, (nth t.mask (pr t.mask (hs w k) c) q).j = way t.mask (hs w k) (c + q) := fun q => by rw [pr_add]
    have up : c + (K - c) = K := by omega
    have hash_at : ∀ (i : Nat) p, L[i]? = some p → (es[i]?.map (·.1)).getD 0 = hs w p.2 := fun i p hp => by rw [R.entry hp]; rfl
    rw [setSearchFrom_succ]
    refine wpAny_bind (wpAny_setState_of ho hd R.fits ?_)
    dsimp only
    rw [if_neg R.gw]
    have spec := go_spec t R.tab.ris R.tab.dm (fun i => (es[i]?.map (·.1)).getD 0) (hs w k) (10 * SetTable.turns t.mask) (K - c) _ (nth_dummy c _ rfl) (by omega)
      (fun q hq => by rw [at_]; exact full (c + q) (by omega)) (by rw [at_, up]; exact free)
    rcases spec with ⟨q, i, lt, hi, _, none_before, met⟩ | ⟨none_before, met⟩
    · -- an entry of equal hash
      rw [at_] at hi
      have met' : t.probe (fun i => (es[i]?.map (·.1)).getD 0) (hs w k) (stand.getD (t.probeStart (hs w k))) = some (.candidate (way t.mask (hs w k) (c + q)) i (pr t.mask (hs w k) (c + (q + 1)))) := by
        rw [hst, ← at_, ← pr_add]
        exact met
      rw [met']
      dsimp only
      have il : i < L.length := by
        have h1 := (List.getElem?_eq_some_iff.mp hi).1
        have h2 := R.tab.sz
        rw [List.length_map] at h2
        rw [Array.length_toList] at h1
        omega
      obtain ⟨p, hp⟩ : ∃ p, L[i]? = some p := ⟨_, List.getElem?_eq_getElem il⟩
      have mem : p ∈ L := List.mem_of_getElem? hp
      have slot := slot_live R.tab.ris hi
      have tail : wpAny (model P w) A (searchRest a (.ref x) (hs w k) true f es t (way t.mask (hs w k) (c + q)) i (pr t.mask (hs w k) (c + (q + 1)))) Q E s := by
        unfold searchRest
        rw [R.entry hp]
        dsimp only
        refine wpAny_bind (wpAny_holding ((nestedKind P w).eqBool hu (R.tup p mem).1 hx.1 (wpAny_bind (wpAny_setState_of ho hd R.fits ?_))))
        dsimp only
        by_cases e : p.2 = k
        · rw [if_pos (by simp [e])]
          exact wpAny_pure (hin (List.mem_map.mpr ⟨p, mem, e⟩))
        · rw [if_neg (by simp [e]), sameMem]
          dsimp only
          simp only [if_true, slot, R.entry hp]
          refine wpAny_bind (wpAny_isSame_ref_self (wpAny_bind (wpAny_pure ?_)))
          simp only [if_true]
          rw [if_neg (by simp [e])]
          refine ih (c + (q + 1)) _ rfl (by omega) (by omega) fun i0 p0 h0 e0 => ?_
          obtain ⟨c', a1, a2, a3⟩ := ahead i0 p0 h0 e0
          refine ⟨c', Nat.lt_of_not_le fun le => ?_, a2, a3⟩
          have le' : c' ≤ c + q := le
          rcases (show c' < c + q ∨ c' = c + q by omega) with z | rfl
          · exact none_before (c' - c) i0 (by omega) (by rw [at_, show c + (c' - c) = c' by omega]; exact a3) ((hash_at i0 p0 h0).trans (congrArg (hs w) e0))
          · have s0 := slot_live R.tab.ris a3
            rw [slot] at s0
            cases s0
            rw [hp] at h0
            cases h0
            exact e e0
      by_cases led : t.led = true
      · rw [if_neg (by simp [led])]
        exact tail
      · rw [if_pos (by simp [led])]
        refine wpAny_bind (seen hx (fun y hy => ?_) ?_)
        · obtain ⟨e, he, rfl⟩ := List.mem_map.mp hy
          have he2 : e ∈ rowN w L := by
            rw [← R.rows]
            simp at he ⊢
            exact he.1
          obtain ⟨p2, hp2, rfl⟩ := List.mem_map.mp he2
          exact ⟨p2.2, p2.1, rfl, R.tup p2 hp2⟩
        · rw [if_neg (by decide)]
          exact tail
    · -- the free place
      have met' : t.probe (fun i => (es[i]?.map (·.1)).getD 0) (hs w k) (stand.getD (t.probeStart (hs w k))) = some (.empty (way t.mask (hs w k) K) none) := by
        have e2 := at_ (K - c)
        rw [up] at e2
        rw [hst, ← e2]
        exact met
      rw [met']
      dsimp only
      refine wpAny_pure (hout fun m => ?_)
      obtain ⟨p0, h0, e0⟩ := List.mem_map.mp m
      obtain ⟨i0, h00⟩ := List.getElem?_of_mem h0
      obtain ⟨c', a1, a2, a3⟩ := ahead i0 p0 h00 e0
      exact none_before (c' - c) i0 (by omega) (by rw [at_, show c + (c' - c) = c' by omega]; exact a3) ((hash_at i0 p0 h00).trans (congrArg (hs w) e0))
theorem look_at (R : SetN P w s.heap a L es ep t) {x : Addr} {k : D} (hx : IsN P w s.heap k x) (hu : A.units + 8 < cLine) {Q : SetFound → Shared → Prop} (hin : k ∈ L.map (·.2) → Q (.there none) s)
    (hout : ∀ K, k ∉ L.map (·.2) → way t.mask (hs w k) K ∉ t.place.toList → (∀ c, c < K → way t.mask (hs w k) c ∈ t.place.toList) → Q (.free (way t.mask (hs w k) K) false) s) :
    wpAny (model P w) A (setSearch a (.ref x) (hs w k) true) Q E s := by
  have len := R.tab.sz
  rw [List.length_map] at len
  have room := R.room
  have small := R.tab.msk.le.1
  obtain ⟨K, _, _, _, le, free, full⟩ := first_free R.tab.msk (hs w k) t.place.toList (by rw [Array.length_toList]; omega)
  unfold setSearch
  refine look R hx hu (by unfold SetTable.turns; omega) free full hin (fun n => hout K n free full) 100000 0 none rfl (Nat.zero_le _) (by omega) fun i p hp e => ?_
  have il : i < t.place.toList.length := by
    have := (List.getElem?_eq_some_iff.mp hp).1
    rw [Array.length_toList]
    omega
  obtain ⟨c, lt, e2⟩ := R.tab.before free (i := i) (h := hs w k) (by rw [List.getElem?_map, hp, ← e]; rfl) (List.getElem?_eq_getElem il)
  exact ⟨c, Nat.zero_le _, lt, by rw [List.getElem?_eq_getElem il, e2]⟩
/-! ### laid anew, added to -/
theorem IsN.keep {h h' : Heap} {k : D} {b : Addr} (x : IsN P w h k b) (stay : ∀ c o vs n, h.get? c = some o → o.data = .seq vs n → h'.get? c = some o) : IsN P w h' k b := ⟨nestedKind_stays.stays stay x.1, x.2⟩
theorem IsN.same {h h' : Heap} {k : D} {b : Addr} {o : Obj} (x : IsN P w h k b) (ho : h.get? a = some o) (hd : o.data = .set es ep t) (sb : Heap.SameBut a h h') : IsN P w h' k b :=
  x.keep fun c u vs n e d => (sb.2 c fun z => by rw [z, ho] at e; cases e; rw [hd] at d; cases d).trans e
theorem pick_all {α : Type} (L : List α) : (List.range L.length).filterMap (fun i => L[i]?) = L := by
  have q : ∀ n, n ≤ L.length → (List.range n).filterMap (fun i => L[i]?) = L.take n := by
    intro n
    induction n with
    | zero => intro _; rfl
    | succ n ih =>
      intro lt
      rw [List.range_succ, List.filterMap_append, ih (Nat.le_of_succ_le lt), List.take_succ, List.getElem?_eq_getElem lt]
      simp [List.getElem?_eq_getElem (show n < L.length from lt)]
  rw [q _ (Nat.le_refl _), List.take_length]
theorem ordered (rows : es.toList = rowN w L) {order : Array Nat} (hp : order.toList.Perm (List.range L.length)) :
    ∃ L2, (order.filterMap (es[·]?)).toList = rowN w L2 ∧ L2.Perm L ∧ (L2.map fun p => hs w p.2) = order.toList.map fun i => (es.map (·.1)).getD i 0 := by
  have ent : ∀ i, es[i]? = (L[i]?).map fun (p : Addr × D) => (hs w p.2, Value.ref p.1) := fun i => by rw [← Array.getElem?_toList, rows, rowN, List.getElem?_map]
  refine ⟨order.toList.filterMap fun i => L[i]?, ?_, ?_, ?_⟩
  · rw [Array.toList_filterMap, rowN, List.map_filterMap]
    exact congrArg (fun f => List.filterMap f order.toList) (funext ent)
  · have q := hp.filterMap fun i => L[i]?
    rw [pick_all] at q
    exact q
  · have within : ∀ i ∈ order.toList, i < L.length := fun i hi => List.mem_range.mp (hp.mem_iff.mp hi)
    generalize order.toList = l at within
    induction l with
    | nil => rfl
    | cons i l ih =>
      have lt := within i List.mem_cons_self
      have e1 : (es.map (·.1)).getD i 0 = hs w L[i].2 := by
        rw [Array.getD_eq_getD_getElem?, Array.getElem?_map, ent, List.getElem?_eq_getElem lt]
        rfl
      rw [List.filterMap_cons_some (List.getElem?_eq_getElem lt), List.map_cons, List.map_cons, e1, ih fun j hj => within j (List.mem_cons_of_mem _ hj)]
/-- the table laid anew, larger -/
theorem relay {o : Obj} (ho : s.heap.get? a = some o) (hex : o.ExactSet) (hd : o.data = .set es ep t) (rows : es.toList = rowN w L) (sz : t.place.size = es.size) (dm : t.dummies = #[]) (fl : es.size ≤ t.mask)
    (nd : (L.map (·.2)).Nodup) (tup : ∀ p ∈ L, IsN P w s.heap p.2 p.1) (pl : t.plain = true) (ld : w.params.followText "set-order" = true ∨ t.led = true) {wanted M : Nat}
    (hw : SetTable.sizeAbove wanted = M + 1) (hM : Msk M) (six : Six M) (hn : L.length * 5 < M * 3) {Q : Unit → Shared → Prop}
    (h : ∀ h' L' es' ep' t', Heap.SameBut a s.heap h' → SetN P w h' a L' es' ep' t' → L'.Perm L → Q () { s with heap := h' }) : wpAny (model P w) A (setRelay a wanted) Q E s := by
  have size : es.size = L.length := by rw [← Array.length_toList, rows, rowN, List.length_map]
  have small := hM.le.1
  have fits : t.fits es.size = true := by
    simp only [SetTable.fits, SetTable.fill, dm, Bool.and_eq_true, beq_iff_eq, decide_eq_true_eq]
    exact ⟨sz, by show t.place.size + 0 ≤ t.mask; omega⟩
  obtain ⟨t', order, e, perm, T, em, el, epl⟩ := relaid (t := t) (hs := es.map (·.1)) (wanted := wanted) (M := M) (by rw [hw]; rfl) hM (by rw [Array.size_map, size]; omega)
  rw [Array.size_map, size] at perm
  obtain ⟨L2, r1, r2, r3⟩ := ordered rows perm
  rw [← r3] at T
  have size2 : (order.filterMap (es[·]?)).size = es.size := by rw [← Array.length_toList, r1, rowN, List.length_map, r2.length_eq, size]
  rw [setRelay_eq]
  refine wpAny_bind (wpAny_setState_of ho hd fits ?_)
  dsimp only
  rw [if_neg (by rw [sizeLine_eq, hw]; omega), e]
  dsimp only
  rw [if_neg (by rw [size2]; simp)]
  refine wpAny_bind (wpAny_pure ?_)
  refine wpAny_storeSet_of ho hd ?_ (by rw [size2, size, sizeLine_eq]; omega)
  have sb : Heap.SameBut a s.heap (s.heap.update a (Obj.putSet (order.filterMap (es[·]?)) t')) := Heap.SameBut.update ..
  refine h _ L2 _ (ep + 1) t' sb ⟨⟨_, store_at ho hd, ⟨hex.1, hex.2.1, hex.2.2⟩, rfl⟩, r1, T, (r2.map (·.2)).nodup_iff.mpr nd, fun p hp => (tup p (r2.mem_iff.mp hp)).same ho hd sb, by rw [epl]; exact pl, by rw [el]; exact ld, ?_, by rw [em]; exact six⟩ r2
  rw [r2.length_eq, em]
  exact hn
theorem sizes : SetTable.sizeAbove (SetTable.grown 5) = 32 ∧ SetTable.sizeAbove (SetTable.grown 19) = 128 ∧ SetTable.sizeAbove (SetTable.grown 77) = 512 ∧ SetTable.sizeAbove (SetTable.grown 307) = 2048 ∧ SetTable.sizeAbove (SetTable.grown 1229) = 8192 := by decide +kernel
/-- where the table fills, the next one -/
theorem grows {m n : Nat} (hm : Msk m) (few : n + 1 ≤ 4914) (room : n * 5 < m * 3) (full : (n + 1) * 5 ≥ m * 3) (alt : Six m) :
    ∃ M, SetTable.sizeAbove (SetTable.grown (n + 1)) = M + 1 ∧ Msk M ∧ (n + 1) * 5 < M * 3 ∧ Six M := by
  obtain ⟨s1, s2, s3, s4, s5⟩ := sizes
  rcases alt with rfl | rfl | rfl | rfl | rfl | rfl
  · obtain rfl : n = 4 := by omega
    exact ⟨31, s1, ⟨5, by decide⟩, by decide, .inr (.inl rfl)⟩
  · obtain rfl : n = 18 := by omega
    exact ⟨127, s2, ⟨7, by decide⟩, by decide, .inr (.inr (.inl rfl))⟩
  · obtain rfl : n = 76 := by omega
    exact ⟨511, s3, ⟨9, by decide⟩, by decide, .inr (.inr (.inr (.inl rfl)))⟩
  · obtain rfl : n = 306 := by omega
    exact ⟨2047, s4, ⟨11, by decide⟩, by decide, .inr (.inr (.inr (.inr (.inl rfl))))⟩
  · obtain rfl : n = 1228 := by omega
    exact ⟨8191, s5, ⟨13, by decide⟩, by decide, .inr (.inr (.inr (.inr (.inr rfl))))⟩
  · omega
/-- ADDING -/
theorem add_n (R : SetN P w s.heap a L es ep t) {x : Addr} {k : D} (hx : IsN P w s.heap k x) (hu : A.units + 8 < cLine) (few0 : k ∉ L.map (·.2) → L.length + 1 ≤ 4914) {Q : Bool → Shared → Prop}
    (h : ∀ b h' L' es' ep' t', Heap.SameBut a s.heap h' → SetN P w h' a L' es' ep' t' → (k ∈ L.map (·.2) → L' = L) → (k ∉ L.map (·.2) → L'.Perm ((x, k) :: L)) → Q b { s with heap := h' }) :
    wpAny (model P w) A (setAddHashed a (.ref x) (hs w k)) Q E s := by
  obtain ⟨o, ho, hex, hd⟩ := R.ob
  have size := R.size
  have room := R.room
  unfold setAddHashed
  refine wpAny_holding ?_
  rw [show (100000 : Nat) = 99999 + 1 from rfl, setAddHashedIn_succ]
  refine wpAny_bind (wpAny_setState_of ho hd R.fits ?_)
  dsimp only
  rw [if_neg (by simp [byScan, Value.scannable])]
  refine wpAny_bind (look_at R hx hu (fun m => ?_) fun K m free full => ?_)
  · exact wpAny_pure (h false s.heap L es ep t (Heap.SameBut.refl _ _) R (fun _ => rfl) fun z => absurd m z)
  · dsimp only
    have few := few0 m
    refine wpAny_bind (wpAny_setState_of ho hd R.fits ?_)
    dsimp only
    obtain ⟨p, t1, put, lep, T, e1, e2, e3, e4⟩ := R.tab.put free full
    rw [put]
    dsimp only
    rw [List.length_map] at lep e4
    rw [if_pos (by rw [e3]; exact R.plain)]
    refine wpAny_bind (hash_by k _ 8 hx.1.1 hx.2 hx.1.2 _ ?_)
    simp only [if_true]
    -- the rows with the new one
    have perm : (L.take p ++ (x, k) :: L.drop p).Perm ((x, k) :: L) := by
      have q : (L.take p ++ (x, k) :: L.drop p).Perm ((x, k) :: (L.take p ++ L.drop p)) := List.perm_middle
      rwa [List.take_append_drop] at q
    have rows : (SetTable.insertAt es p (hs w k, Value.ref x)).toList = rowN w (L.take p ++ (x, k) :: L.drop p) := by
      rw [SetTable.toList_insertAt, R.rows, rowN, rowN, List.map_append, List.map_cons, List.map_take, List.map_drop]
    have hashes : (L.take p ++ (x, k) :: L.drop p).map (fun p => hs w p.2) = (L.map fun p => hs w p.2).take p ++ hs w k :: (L.map fun p => hs w p.2).drop p := by
      rw [List.map_append, List.map_cons, List.map_take, List.map_drop]
    rw [← hashes] at T
    generalize SetTable.insertAt es p (hs w k, Value.ref x) = es1 at rows
    generalize L.take p ++ (x, k) :: L.drop p = L1 at perm rows T
    have len : L1.length = L.length + 1 := perm.length_eq
    have nd : (L1.map (·.2)).Nodup := (perm.map (·.2)).nodup_iff.mpr (List.nodup_cons.mpr ⟨m, R.nd⟩)
    have size1 : es1.size = L.length + 1 := by rw [← Array.length_toList, rows, rowN, List.length_map, len]
    refine wpAny_bind (wpAny_storeSet_of ho hd ?_ (by rw [size1, sizeLine_eq]; omega))
    have sb : Heap.SameBut a s.heap (s.heap.update a (Obj.putSet es1 t1)) := Heap.SameBut.update ..
    have ho1 := store_at (es' := es1) (t' := t1) ho hd
    generalize s.heap.update a (Obj.putSet es1 t1) = h1 at sb ho1
    have tup : ∀ p ∈ L1, IsN P w h1 p.2 p.1 := fun p hp => by
      rcases List.mem_cons.mp (perm.mem_iff.mp hp) with rfl | hp
      · exact hx.same ho hd sb
      · exact (R.tup p hp).same ho hd sb
    have ld : w.params.followText "set-order" = true ∨ t1.led = true := by rw [e2]; exact R.led
    have pl : t1.plain = true := by rw [e3]; exact R.plain
    have full1 : t1.tooFull = decide ((L.length + 1) * 5 ≥ t.mask * 3) := by unfold SetTable.tooFull; rw [e4, e1]
    rw [full1]
    by_cases c : (L.length + 1) * 5 ≥ t.mask * 3
    · rw [if_pos (by simp [c])]
      obtain ⟨M, m1, m2, m3, m4⟩ := grows R.tab.msk few room c R.six
      rw [size]
      refine wpAny_bind (relay (s := { s with heap := h1 }) (o := { o with data := .set es1 (ep + 1) t1 }) ho1 ⟨hex.1, hex.2.1, hex.2.2⟩ rfl rows (by rw [T.sz, List.length_map, len, size1]) T.dm (by rw [size1, e1]; omega) nd tup pl ld m1 m2 m4 (by rw [len]; exact m3) ?_)
      intro h2 L2 es2 ep2 t2 sb2 R2 perm2
      exact wpAny_pure (h true h2 L2 es2 ep2 t2 (sb.trans sb2) R2 (fun z => absurd z m) fun _ => perm2.trans perm)
    · rw [if_neg (by simp [c])]
      refine wpAny_pure (h true h1 L1 es1 (ep + 1) t1 sb ⟨⟨_, ho1, ⟨hex.1, hex.2.1, hex.2.2⟩, rfl⟩, rows, T, nd, tup, pl, ld, ?_, by rw [e1]; exact R.six⟩ (fun z => absurd z m) fun _ => perm)
      rw [len, e1]
      omega
end
end Mw
/-! Sets of data made of numbers: set(xs). -/
namespace Mw
open PySem PySem.Spec PyProof.Rows L2

theorem nodup_le {α : Type} [DecidableEq α] : ∀ {l U : List α}, l.Nodup → (∀ x ∈ l, x ∈ U) → l.length ≤ U.length
  | [], _, _, _ => Nat.zero_le _
  | x :: l, U, n, h => by
    obtain ⟨h1, h2⟩ := List.nodup_cons.mp n
    have m : x ∈ U := h x List.mem_cons_self
    have q := nodup_le (l := l) (U := U.erase x) h2 fun y hy => (List.mem_erase_of_ne fun e => h1 (by rw [← e]; exact hy)).2 (h y (List.mem_cons_of_mem _ hy))
    have pos := List.length_pos_of_mem m
    rw [List.length_erase_of_mem m] at q
    simp only [List.length_cons]
    omega
/-- what the set holds of the first i items -/
structure Took (ks : List (Addr × D)) (i : Nat) (L : List (Addr × D)) : Prop where
  sub : ∀ p ∈ L, p ∈ ks.take i
  all : ∀ p ∈ ks.take i, p.2 ∈ L.map (·.2)
theorem Took.zero (ks : List (Addr × D)) : Took ks 0 [] := ⟨fun _ h => absurd h List.not_mem_nil, fun _ h => absurd h (by simp)⟩
theorem Took.next {ks L L' : List (Addr × D)} {i : Nat} {x : Addr × D} (g : Took ks i L) (h : ks[i]? = some x) (c1 : x.2 ∈ L.map (·.2) → L' = L) (c2 : x.2 ∉ L.map (·.2) → L'.Perm (x :: L)) : Took ks (i + 1) L' := by
  have e : ks.take (i + 1) = ks.take i ++ [x] := by rw [List.take_succ, h]; rfl
  by_cases c : x.2 ∈ L.map (·.2)
  · rw [c1 c]
    refine ⟨fun p hp => e ▸ List.mem_append_left _ (g.sub p hp), fun p hp => ?_⟩
    rcases List.mem_append.mp (e ▸ hp) with q | q
    · exact g.all p q
    · exact List.mem_singleton.mp q ▸ c
  · have pm := c2 c
    refine ⟨fun p hp => ?_, fun p hp => (pm.map (·.2)).mem_iff.mpr ?_⟩
    · rcases List.mem_cons.mp (pm.mem_iff.mp hp) with rfl | q
      · exact e ▸ List.mem_append_right _ (List.mem_singleton.mpr rfl)
      · exact e ▸ List.mem_append_left _ (g.sub p q)
    · rcases List.mem_append.mp (e ▸ hp) with q | q
      · exact List.mem_cons_of_mem _ (g.all p q)
      · exact List.mem_singleton.mp q ▸ List.mem_cons_self
section
variable {P : Program} {w : World} {A : Around} {E : Value → Shared → Prop} {s : Shared}
theorem SetN.at {h h' : Heap} {a : Addr} {L : List (Addr × D)} {es : Array (Int × Value)} {ep : Nat} {t : SetTable} (R : SetN P w h a L es ep t) (ha : ∀ o, h.get? a = some o → h'.get? a = some o) (ht : ∀ p ∈ L, IsN P w h' p.2 p.1) : SetN P w h' a L es ep t := by
  obtain ⟨o, ho, r⟩ := R.ob
  exact ⟨⟨o, ha o ho, r⟩, R.rows, R.tab, R.nd, ht, R.plain, R.led, R.room, R.six⟩
/-- the new set's object -/
abbrev set0 (w : World) : Obj := { cls := .type "set", dict := none, data := .set #[] 0 (.fresh 0 0 (!w.params.followText "set-order")) }
theorem setN_new {h : Heap} {a : Addr} (ho : h.get? a = some (set0 w)) : SetN P w h a [] #[] 0 (.fresh 0 0 (!w.params.followText "set-order")) := by
  refine ⟨⟨_, ho, ⟨rfl, rfl, rfl⟩, rfl⟩, rfl, ⟨List.Pairwise.nil, rfl, rfl, ⟨3, by decide, by decide, rfl⟩, fun _ h => absurd h (by simp [SetTable.fresh]), fun i h j q => by simp at q⟩, List.nodup_nil, fun _ h => absurd h List.not_mem_nil, rfl, ?_, (by decide : 0 * 5 < 7 * 3), .inl rfl⟩
  cases w.params.followText "set-order"
  · exact .inr rfl
  · exact .inl rfl
/-- nothing but the set and its iterator changes while the items are taken in -/
theorem take_in {I : Addr} {fp wr : List Addr} {G : Array GenState → Array GenState → Prop} {Pv : Nat → Value → Prop} {St : Nat → Shared → Prop} {R : Result → Shared → Prop} {S : Addr} {ks : List (Addr × D)}
    (W : WalksS P w A.in1 I fp wr G ks.length Pv St) (apart : S ∉ fp) (U : List D) (hU : U.length ≤ 4914) (inU : ∀ p ∈ ks, p.2 ∈ U) (val : ∀ i v, Pv i v → ∃ p, ks[i]? = some p ∧ v = .ref p.1)
    (h0 : Heap) (tup : ∀ p ∈ ks, IsN P w h0 p.2 p.1) (newS : h0.get? S = none) (newW : ∀ b ∈ wr, h0.get? b = none) (hu : A.in1.units + 8 < cLine) (n : Nat) :
    ∀ (i : Nat) (s : Shared), ks.length - i = n → i ≤ ks.length → St i s → (∀ b o, h0.get? b = some o → s.heap.get? b = some o) → (∃ L es ep t, SetN P w s.heap S L es ep t ∧ Took ks i L) →
      (∀ s' L es ep t, Moved (S :: wr) G s s' → SetN P w s'.heap S L es ep t → Took ks ks.length L → (∀ b o, h0.get? b = some o → s'.heap.get? b = some o) → R (.ok (.ret .none)) s') →
      codeAny (model P w) A (.builtin "set.update.loop" ⟨[.ref S, .ref I], []⟩) R s := by
  have later : ∀ {s s' : Shared}, Moved wr G s s' → (∀ b o, h0.get? b = some o → s.heap.get? b = some o) → ∀ b o, h0.get? b = some o → s'.heap.get? b = some o := fun m q b o e =>
    m.heap b o (fun hb => by rw [newW b hb] at e; cases e) (q b o e)
  have notW : S ∉ wr := fun h => apart (W.sub _ h)
  have inl : ∀ b ∈ wr, b ∈ S :: wr := fun b hb => List.mem_cons_of_mem _ hb
  have stands : ∀ {h : Heap}, (∀ b o, h0.get? b = some o → h.get? b = some o) → ∀ p ∈ ks, IsN P w h p.2 p.1 := fun q p hp => (tup p hp).keep fun c o _ _ e _ => q c o e
  induction n with
  | zero =>
    rintro i s e le st kept ⟨L, es, ep, t, hS, g⟩ fin
    obtain rfl : i = ks.length := by omega
    refine codeAny_builtin F.entry_set_update_loop ?_
    rw [Around.under_plainId F.plain_set_update_loop]
    show wpAny _ A.in1 (pyNext (.ref I) >>= _) _ _ s
    refine wpAny_bind (W.done s _ _ st fun s' m => ?_)
    have kept' := later m kept
    exact wpAny_pure (fin s' L es ep t (m.mono inl) (hS.at (fun o e => m.heap S o notW e) fun p hp => stands kept' p (List.mem_of_mem_take (g.sub p hp))) g kept')
  | succ n ih =>
    rintro i s e le st kept ⟨L, es, ep, t, hS, g⟩ fin
    have lt : i < ks.length := by omega
    refine codeAny_builtin F.entry_set_update_loop ?_
    rw [Around.under_plainId F.plain_set_update_loop]
    show wpAny _ A.in1 (pyNext (.ref I) >>= _) _ _ s
    refine wpAny_bind (W.item i s _ _ lt st fun v s' pv st' m => ?_)
    obtain ⟨⟨b, k⟩, hp, rfl⟩ := val i v pv
    have kept' := later m kept
    have hS' : SetN P w s'.heap S L es ep t := hS.at (fun o e => m.heap S o notW e) fun p hp => stands kept' p (List.mem_of_mem_take (g.sub p hp))
    have hx := stands kept' _ (List.mem_of_getElem? hp)
    show wpAny _ A.in1 (holding [Value.ref b] (setAdd S (.ref b)) >>= _) _ _ s'
    refine wpAny_bind (wpAny_holding ?_)
    unfold setAdd
    refine wpAny_holding (wpAny_bind ((nestedKind P w).pyHash (k := k) hu hx.1 ?_))
    have few : k ∉ L.map (·.2) → L.length + 1 ≤ 4914 := fun n => by
      have nd : (k :: L.map (·.2)).Nodup := List.nodup_cons.mpr ⟨n, hS.nd⟩
      have le : (k :: L.map (·.2)).length ≤ U.length := by
        refine nodup_le nd fun j hj => ?_
        rcases List.mem_cons.mp hj with rfl | hj
        · exact inU _ (List.mem_of_getElem? hp)
        · obtain ⟨p, hp, rfl⟩ := List.mem_map.mp hj
          exact inU p (List.mem_of_mem_take (g.sub p hp))
      simp at le
      omega
    refine add_n (s := { s' with toks := s'.toks + (nestedKind P w).draws k }) hS' hx hu few fun _ h' L' es' ep' t' sb hS2 c1 c2 => wpAny_pure ?_
    have kept2 : ∀ b o, h0.get? b = some o → h'.get? b = some o := fun b o e => (sb.2 b fun z => by rw [z, newS] at e; cases e).trans (kept' b o e)
    have still : ∀ b o, b ≠ S → s'.heap.get? b = some o → h'.get? b = some o := fun b o ne e => (sb.2 b ne).trans e
    refine ⟨plainId_quiet F.plain_set_update_loop _, ih (i + 1) _ (by omega) lt (W.frame _ s' _ _ st' (Nat.le_add_right _ _) fun b hb o e => still b o (fun z => apart (z ▸ hb)) e) kept2 ⟨L', es', ep', t', hS2, g.next hp c1 c2⟩ ?_⟩
    intro s2 L2 es2 ep2 t2 m2 hS3 g3 kept3
    exact fin s2 L2 es2 ep2 t2 (Moved.trans W.gtrans ((m.mono inl).then_heap (Nat.le_add_right _ _) fun b o hb e => still b o (fun z => hb (z ▸ List.mem_cons_self)) e) m2) hS3 g3 kept3
set_option maxHeartbeats 3200000 in
/-- set(x), by what its __init__ does to the new set -/
theorem set_made {x : Value} {Q : Value → Shared → Prop}
    (h : wpAny (model P w) A.in1.in1 (Builtin.«set.__init__» ⟨[.ref s.heap.objs.size, x], []⟩)
      (fun fin s' => match fin with | .done f => wants (fun r s₂ => r = .none ∧ Q (.ref s.heap.objs.size) s₂) E (.ok f) s' | .again c => c.quiet = true ∧ codeAny (model P w) A.in1 c (wants (fun r s₂ => r = .none ∧ Q (.ref s.heap.objs.size) s₂) E) s')
      (fun e s' => wants (fun r s₂ => r = .none ∧ Q (.ref s.heap.objs.size) s₂) E (.error e) s') { s with heap := s.heap.push (set0 w) }) :
    wpAny (model P w) A (call (.type "set") [x]) Q E s := by
  obtain ⟨c, tl, hmro⟩ := F.called_set.mro
  have made := F.called_set.made
  have self := F.called_set.sub
  have notT := F.called_set.notType
  have can := F.called_set.canCreate
  have okc := F.typeCall_set_1 x
  refine wpAny_call (codeAny_of_tree ?_)
  show wpAny _ _ (callAny (.type "set") _) _ _ _
  refine wpAny_pure ⟨Code.quiet_builtin _ (by decide +kernel), codeAny_builtin F.entry_type_call ?_⟩
  rw [Around.under_plain (weight_type_call_type "set" [x] []) rfl]
  repeat (any_goals (first | assumption | wp_step))
  refine codeAny_mono (code_set_led1 x (E := E) (Q₁ := fun obj s₁ => obj = .ref s.heap.objs.size ∧ s₁ = { s with heap := s.heap.push (set0 w) }) ⟨rfl, rfl⟩) ?_
  rintro (e | (_ | _ | _ | obj)) s₁ hr
  · exact hr
  · exact hr.elim
  · exact hr.elim
  · exact hr.elim
  obtain ⟨rfl, rfl⟩ := hr
  have ty : Shared.TypeIs { s with heap := s.heap.push (set0 w) } (.ref s.heap.objs.size) "set" := ⟨_, Heap.get?_push_size _ rfl, rfl⟩
  have look := F.called_set.init.lookup
  have bound := F.called_set.init.bind (.ref s.heap.objs.size)
  repeat (any_goals (first | assumption | wp_step))
  refine codeAny_mono (codeAny_call_builtin F.called_set.init.plain F.entry_set_init (check_set_init_1 ty h)) ?_
  rintro (e | (_ | _ | _ | r)) s₂ hr
  · exact hr
  · exact hr.elim
  · exact hr.elim
  · exact hr.elim
  obtain ⟨rfl, q⟩ := hr
  repeat (any_goals (first | assumption | wp_step))
set_option maxHeartbeats 3200000 in
/-- set(xs), xs a list of data -/
theorem call_setN {l : Addr} {items : Array Value} {ks : List (Addr × D)} {Q : Value → Shared → Prop} (hh : A.handled = none) (hl : s.heap.IsList l items) (hit : items.toList = ks.map fun p => .ref p.1)
    (tup : ∀ p ∈ ks, IsN P w s.heap p.2 p.1) (U : List D) (hU : U.length ≤ 4914) (inU : ∀ p ∈ ks, p.2 ∈ U) (hu : A.units + 12 < cLine)
    (h : ∀ (h' : Heap) (tk : Nat) L es ep t, SetN P w h' s.heap.objs.size L es ep t → Took ks ks.length L → (∀ b o, s.heap.get? b = some o → h'.get? b = some o) → Q (.ref s.heap.objs.size) { s with heap := h', toks := tk }) :
    wpAny (model P w) A (call (.type "set") [.ref l]) Q E s := by
  have n : items.size = ks.length := by rw [← Array.length_toList, hit, List.length_map]
  refine set_made ?_
  obtain ⟨ol, hol, hcl, nl, hdl⟩ := hl
  obtain ⟨ocls, odict, odata, oslots⟩ := ol
  simp only at hcl hdl
  subst hcl hdl
  have hol' : (s.heap.push (set0 w)).get? l = some { cls := .type "list", dict := odict, data := .seq items nl, slots := oslots } := Heap.get?_push_of_some _ hol
  have hS : (s.heap.push (set0 w)).get? s.heap.objs.size = some (set0 w) := Heap.get?_push_size _ rfl
  have notSet := F.sub_list_set
  have notFrozen := F.sub_list_frozenset
  have ne : (Value.type "list" == Value.type "dict") = false := by decide
  have hl1 : (s.heap.push (set0 w)).IsList l items := ⟨_, hol', rfl, nl, rfl⟩
  have lS : l < s.heap.objs.size := Heap.lt_size hol
  have size1 : (s.heap.push (set0 w)).objs.size = s.heap.objs.size + 1 := Heap.size_push ..
  unfold Builtin.«set.__init__» noKeywords Builtin.Frozenset.updateFrom
  generalize hPI : pyIter = PI
  wp_walk
  subst hPI
  refine wpAny_pyIter_list hl1 ?_
  refine wpAny_bind (wpAny_runValue ?_)
  have none_at : ∀ b, s.heap.objs.size ≤ b → s.heap.get? b = none := fun b hb => by
    cases q : s.heap.get? b with
    | none => rfl
    | some o => exact absurd (Heap.lt_size q) (Nat.not_lt_of_le hb)
  have walk := (Walks.list (prog := P) (w := w) (A := A.in1.in1.in1) (by simp [hh]) (s.heap.push (set0 w)).objs.size l (Nat.ne_of_lt (by rw [size1]; exact Nat.lt_succ_of_lt lS)) items).toS
  rw [n] at walk
  refine take_in walk ?_ U hU inU ?_ s.heap tup (none_at _ (Nat.le_refl _)) (fun b hb => none_at b ?_) ?_ ks.length 0 _ rfl (Nat.zero_le _) ?_ (fun b o e => Heap.get?_push_of_some _ (Heap.get?_push_of_some _ e)) ?_ ?_
  · rw [size1]
    simp only [List.mem_cons, List.not_mem_nil, or_false, not_or]
    exact ⟨Nat.ne_of_lt (Nat.lt_succ_self _), Nat.ne_of_gt lS⟩
  · intro i v hv
    have q : (ks.map fun p => Value.ref p.1)[i]? = some v := by rw [← hit, Array.getElem?_toList]; exact hv
    rw [List.getElem?_map] at q
    obtain ⟨p, hp, e⟩ := Option.map_eq_some_iff.mp q
    exact ⟨p, hp, e.symm⟩
  · rw [List.mem_singleton.mp hb, size1]
    exact Nat.le_succ _
  · show A.units + 1 + 1 + 1 + 8 < cLine
    omega
  · exact ⟨⟨_, Heap.get?_push_size _ rfl, rfl, rfl⟩, hl1.push _⟩
  · exact ⟨[], #[], 0, _, setN_new (Heap.get?_push_of_some _ hS), Took.zero ks⟩
  · rintro ⟨h', g', d', tk', os'⟩ L es ep t m hS' took kept
    obtain rfl : g' = s.gens := m.gens
    obtain rfl : d' = s.drawn := m.drawn
    obtain rfl : os' = s.os := m.os
    exact wpAny_pure (wpAny_pure ⟨rfl, h h' tk' L es ep t hS' took kept⟩)
end
end Mw
/-! Sets of data made of numbers: gathered into a list, whatever their size. -/
namespace Mw
open PySem PySem.Spec PyProof.Rows L2
section
variable {P : Program} {w : World} {A : Around} {E : Value → Shared → Prop} {s : Shared} {a : Addr} {L : List (Addr × D)} {es : Array (Int × Value)} {ep : Nat} {t : SetTable}
/-- a walk over the set begins -/
def Begun (P : Program) (w : World) (s : Shared) (a : Addr) (es : Array (Int × Value)) (ob : Obj) : Prop :=
  ∃ (out : List Value) (Pv : Nat → Value → Prop) (St : Nat → Heap → Prop), out.Perm (es.toList.map (·.2)) ∧ (∀ j v, Pv j v → out[j]? = some v) ∧ St 0 (s.heap.push ob) ∧ ∀ A' : Around, A'.handled = none → Walks P w A' s.heap.objs.size [s.heap.objs.size, a] [s.heap.objs.size] out.length Pv St
theorem begun_of {ob : Obj} {n : Nat} {out : List Value} {Pv : Nat → Value → Prop} {St : Nat → Heap → Prop} (len : out.length = n) (perm : out.Perm (es.toList.map (·.2))) (W : ∀ A' : Around, A'.handled = none → Walks P w A' s.heap.objs.size [s.heap.objs.size, a] [s.heap.objs.size] n Pv St)
    (val : ∀ j v, Pv j v → out[j]? = some v) (st : St 0 (s.heap.push ob)) : Begun P w s a es ob := by
  subst len
  exact ⟨out, Pv, St, perm, val, st, W⟩
theorem begin_n (R : SetN P w s.heap a L es ep t) {Q : Value → Shared → Prop} (h : ∀ ob, Begun P w s a es ob → Q (.ref s.heap.objs.size) { s with heap := s.heap.push ob }) : wpAny (model P w) A (pyIter (.ref a)) Q E s := by
  obtain ⟨o, ho, hex, hd⟩ := R.ob
  have ty : s.TypeIs (.ref a) "set" := ⟨o, ho, hex.1⟩
  have at_ : SetAt s.heap a es ep t := ⟨o, ho, hex.1, hd⟩
  have ne : a ≠ s.heap.objs.size := Nat.ne_of_lt (Heap.lt_size ho)
  have pl : (!t.plain && decide (es.size > 1)) = false := by rw [R.plain]; rfl
  refine wpAny_pyIter_slot ty F.slot_set_iter (wpAny_call_entry F.slot_set_iter ty entry_s_iter ?_ (F.args_set_iter_1 _))
  unfold Builtin.«frozenset.__iter__»
  refine wpAny_bind (m := Builtin.Frozenset.slot0 "__iter__" _) (wpAny_of_eq (a := a) (by rfl) ?_)
  refine wpAny_bind (m := Builtin.Frozenset.sizeOf a) ?_
  unfold Builtin.Frozenset.sizeOf
  refine wpAny_bind (wpAny_setEntries_of ho hd R.fits (wpAny_pure (wpAny_bind (setDrawn_at at_ R.fits ?_))))
  rw [pl, Bool.and_false, if_neg (by decide)]
  refine wpAny_bind (wpAny_pure (wpAny_bind (wpAny_setEpoch_of ho hd R.fits (wpAny_bind (wpAny_newObj_type (wpAny_pure ⟨_, rfl, "set_iterator", _, ⟨_, Heap.get?_push_size _ rfl, rfl⟩, slot_si_next.lookup, ?_⟩))))))
  have at2 : ∀ ob, SetAt (s.heap.push ob) a es ep t := fun ob => at_.at fun u e => Heap.get?_push_of_some _ e
  refine h _ ?_
  cases text : w.params.followText "set-order" with
  | true =>
    refine begun_of (out := (pickOrder (w.params.setOrder a ep) es).toList.map (·.2)) (by simp) ((pick_perm _ es).map _) (fun A' hA' => walks_text (P := P) (ep := ep) hA' ne R.fits text) (fun j v q => ?_) ⟨⟨_, Heap.get?_push_size _ rfl, rfl, rfl⟩, at2 _⟩
    rw [List.getElem?_map, Array.getElem?_toList]
    exact q
  | false =>
    have led : t.led = true := R.led.resolve_left (by rw [text]; decide)
    refine begun_of (out := es.toList.map (·.2)) (by simp) (List.Perm.refl _) (fun A' hA' => walks_led (P := P) (ep := ep) hA' ne R.fits R.tab.ris text pl led) (fun j v q => ?_) ⟨⟨_, Heap.get?_push_size _ rfl, rfl, rfl⟩, at2 _⟩
    rw [List.getElem?_map, Array.getElem?_toList]
    exact q
/-- its members as a list of values, in some order -/
theorem gather (R : SetN P w s.heap a L es ep t) (hh : A.handled = none) {Q : List Value → Shared → Prop}
    (h : ∀ h' tk out, (∀ b o, s.heap.get? b = some o → h'.get? b = some o) → out.Perm (es.toList.map (·.2)) → Q out { s with heap := h', toks := tk }) : wpAny (model P w) A (collect (.ref a)) Q E s := by
  obtain ⟨o, ho, hex, hd⟩ := id R.ob
  have lt : a < s.heap.objs.size := Heap.lt_size ho
  unfold collect
  refine wpAny_bind (wpAny_runValue (codeAny_builtin F.entry_proto_collect ?_))
  rw [Around.under_plainId F.plain_proto_collect]
  show wpAny _ A.in1 (newList [] >>= fun l => again (.builtin "list.__iadd__" ⟨[l, .ref a], []⟩)) _ _ s
  refine wpAny_bind (wpAny_newObj_type (wpAny_pure ⟨plainId_quiet F.plain_list_iadd _, codeAny_builtin F.entry_list_iadd ?_⟩))
  rw [Around.under_plainId F.plain_list_iadd]
  obtain ⟨n, hn⟩ : ∃ n, n = s.heap.objs.size := ⟨_, rfl⟩
  obtain ⟨h1, hh1⟩ : ∃ h1 : Heap, h1 = s.heap.push { cls := .type "list", data := .seq ([] : List Value).toArray } := ⟨_, rfl⟩
  have grown : ∀ b v, s.heap.get? b = some v → h1.get? b = some v := fun b v e => hh1 ▸ Heap.get?_push_of_some _ e
  have size1 : h1.objs.size = n + 1 := by rw [hh1, hn]; exact Heap.size_push ..
  have new : h1.get? n = some { cls := .type "list", data := .seq ([] : List Value).toArray } := by rw [hh1, hn]; exact Heap.get?_push_size _ rfl
  have R1 : SetN P w h1 a L es ep t := R.at (grown a) fun p hp => (R.tup p hp).keep fun c o _ _ e _ => grown c o e
  rw [← hn, ← hh1]
  show wpAny _ A.in1 (Builtin.List.listExtendWith (.ref n) (.ref a) (.ref n)) _ _ _
  unfold Builtin.List.listExtendWith
  refine wpAny_bind (wpAny_typeOf (T := "set") ⟨o, grown _ _ ho, hex.1⟩ ?_)
  have ne : n ≠ a := by rw [hn]; exact Nat.ne_of_gt lt
  have b1 : Builtin.List.listSameRef (.ref n) (.ref a) = false := by simp [Builtin.List.listSameRef, ne]
  have b2 : (Value.type "set" == Value.type "list") = false := by decide
  have b3 : (Value.type "set" == Value.type "tuple") = false := by decide
  simp only [b1, b2, b3, Bool.or_false, Bool.false_eq_true, if_false]
  refine wpAny_bind (begin_n (s := { s with heap := h1 }) R1 fun ob beg => ?_)
  obtain ⟨out, Pv, St, perm, val, st0, walk⟩ := beg
  have ty2 : Shared.TypeIs { s with heap := h1.push ob } (.ref a) "set" := ⟨o, Heap.get?_push_of_some _ (grown _ _ ho), hex.1⟩
  refine wpAny_bind (wpAny_holding ?_)
  unfold Builtin.List.listLengthHint
  refine wpAny_bind (wpAny_specialOf ty2 F.slot_set_len.lookup ?_)
  generalize hid : ("set.__len__" : String) = id0
  wp_delta
  rw [show splitId id0 = some ("set", "__len__") from by subst hid; decide +kernel]
  subst hid
  refine wpAny_bind (wpAny_isInstance (b := true) ty2 sub_set_self ?_)
  show wpAny _ A.in1 (typeOf (.ref a) >>= _) _ _ _
  refine wpAny_bind (wpAny_typeOf ty2 (wpAny_pure ?_))
  show wpAny _ A.in1 (rule "list.extend.makes-room" >>= fun _ => Builtin.List.listTouch (.ref n) >>= fun _ => again (.builtin "list.extend.loop" ⟨[.ref n, .ref h1.objs.size, .ref n], []⟩)) _ _ _
  refine wpAny_bind (wpAny_rule (wpAny_bind ?_))
  show wpAny _ A.in1 (updateSeq n (·.push .none) >>= fun _ => updateSeq n (·.pop)) _ _ _
  have l1 : (h1.push ob).get? n = _ := Heap.get?_push_of_some _ new
  have l2 := Heap.get?_update_self (Obj.mapSeq (·.push Value.none)) l1 rfl
  have l3 := Heap.get?_update_self (Obj.mapSeq (·.pop)) l2 rfl
  refine wpAny_bind (wpAny_updateSeq l1 rfl (wpAny_updateSeq l2 rfl ?_))
  obtain ⟨h2, hh2⟩ : ∃ h2 : Heap, h2 = ((h1.push ob).update n (Obj.mapSeq (·.push Value.none))).update n (Obj.mapSeq (·.pop)) := ⟨_, rfl⟩
  rw [← hh2] at l3
  have others : ∀ b v, b ≠ n → (h1.push ob).get? b = some v → h2.get? b = some v := fun b v q e => by
    rw [hh2]
    exact (Heap.get?_update_other _ _ (Ne.symm q)).trans ((Heap.get?_update_other _ _ (Ne.symm q)).trans e)
  have apart : n ∉ [h1.objs.size, a] := by
    rw [size1]
    simp only [List.mem_cons, List.not_mem_nil, or_false, not_or]
    exact ⟨Nat.ne_of_lt (Nat.lt_succ_self _), ne⟩
  have small : out.length ≤ sizeLine := by
    rw [perm.length_eq, List.length_map, Array.length_toList, R.size, sizeLine_eq]
    have := R.room
    have := R.tab.msk.le.1
    omega
  have W := walk A.in1 hh
  have st2 : St 0 h2 := W.frame 0 _ _ st0 fun b hb u e => others b u (fun z => apart (z ▸ hb)) e
  refine wpAny_pure ⟨plainId_quiet F.plain_extend_loop _, ?_⟩
  show codeAny _ _ _ _ { s with heap := ((h1.push ob).update n (Obj.mapSeq (·.push Value.none))).update n (Obj.mapSeq (·.pop)) }
  rw [← hh2]
  refine codeAny_extend_loopS W.toS small n apart _ out.length 0 _ _ _ rfl (Nat.zero_le _) st2 l3 (ItemsOf.nil Pv) ?_
  rintro ⟨h', g', d', tk', os'⟩ acc c m at_n items
  obtain rfl : g' = s.gens := m.gens
  obtain rfl : d' = s.drawn := m.drawn
  obtain rfl : os' = s.os := m.os
  show wpAny _ A (load n >>= _) _ _ _
  refine wpAny_bind (wpAny_load at_n (wpAny_pure ?_))
  show Q acc.toList _
  rw [items_out items val]
  refine h h' tk' out (fun b v e => ?_) perm
  have bl : b < n := hn ▸ Heap.lt_size e
  refine m.heap b v (fun z => ?_) (others b v (Nat.ne_of_lt bl) (Heap.get?_push_of_some _ (grown b v e)))
  rcases List.mem_cons.mp z with z | z
  · exact absurd bl (by rw [z]; exact Nat.lt_irrefl _)
  · rw [List.mem_singleton.mp z, size1] at bl
    exact absurd bl (Nat.not_lt_of_le (Nat.le_succ n))
end
end Mw
/-! Dicts whose keys are data: the rules. -/
namespace Mw
open PySem PySem.Spec PyProof.Rows L2

abbrev EntR (p : Ent) (q : D × Addr × Value) : Prop := p.1 = q.1 ∧ p.2.1 = q.2.1 ∧ RelV p.2.2 q.2.2
abbrev EntP (xs : List Ent) (ys : List (D × Addr × Value)) : Prop := Paired (fun (p : Ent) (q : D × Addr × Value) => p.1 = q.1 ∧ p.2.1 = q.2.1 ∧ RelV p.2.2 q.2.2) xs ys
def putE (xs : List Ent) (k : D) (a : Addr) (v : V) : List Ent :=
  if (valV (pairsE xs) k).isSome = true then xs.map (fun x => if x.1 = k then (x.1, x.2.1, v) else x) else xs ++ [(k, a, v)]
theorem pairsE_put (xs : List Ent) (k : D) (a : Addr) (v : V) : pairsE (putE xs k a v) = putK (pairsE xs) k v := by
  unfold putE putK
  rw [valV_any]
  split
  · rw [pairsE, pairsE, List.map_map, List.map_map]
    apply List.map_congr_left
    intro x _
    by_cases h : x.1 = k <;> simp [h]
  · simp [pairsE]
/-- without the tuples -/
theorem EntP.kv {xs : List Ent} {ys : List (D × Addr × Value)} (r : EntP xs ys) : KV (pairsE xs) (pairsH ys) := by
  induction r with
  | nil => exact .nil
  | cons h _ ih => exact .cons ⟨h.1, h.2.2⟩ ih
theorem EntP.val {xs : List Ent} {ys : List (D × Addr × Value)} (r : EntP xs ys) (k : D) : RelO (valV (pairsE xs) k) ((atKey ys k).map (·.2)) :=
  valueAt_pairsH ys k ▸ r.kv.val k
theorem EntP.repl {xs : List Ent} {ys : List (D × Addr × Value)} (r : EntP xs ys) (k : D) {v : V} {u : Value} (ru : RelV v u) : EntP (xs.map fun x => if x.1 = k then (x.1, x.2.1, v) else x) (ys.map (putAt k u)) := by
  induction r with
  | nil => exact .nil
  | @cons p q _ _ h _ ih =>
    refine .cons ?_ ih
    obtain ⟨k1, a1, u1⟩ := q
    obtain ⟨k0, a0, v0⟩ := p
    obtain ⟨rfl, rfl, hv⟩ := h
    show EntR (if k0 = k then (k0, a0, v) else (k0, a0, v0)) (if k0 = k then (k0, a0, u) else (k0, a0, u1))
    split
    · exact ⟨rfl, rfl, ru⟩
    · exact ⟨rfl, rfl, hv⟩
theorem EntP.put {xs : List Ent} {ys : List (D × Addr × Value)} (r : EntP xs ys) (k : D) (a : Addr) {v : V} {u : Value} (ru : RelV v u) : EntP (putE xs k a v) (storedH ys k a u) := by
  have e : (valV (pairsE xs) k).isSome = (atKey ys k).isSome := by rw [(r.val k).isSome_eq, Option.isSome_map]
  unfold putE storedH
  rw [e]
  by_cases q : (atKey ys k).isSome = true
  · rw [if_pos q, if_pos q]; exact r.repl k ru
  · rw [if_neg q, if_neg q]; exact Paired.snoc r ⟨rfl, rfl, ru⟩
theorem EntP.keys {xs : List Ent} {ys : List (D × Addr × Value)} (r : EntP xs ys) : xs.map (·.1) = ys.map (·.1) := by
  induction r with
  | nil => rfl
  | cons h _ ih => simp only [List.map_cons, ih, h.1]
def mergeE (xs more : List Ent) : List Ent := more.foldl (fun acc e => putE acc e.1 e.2.1 e.2.2) xs
def mergeD (kvs more : List (D × V)) : List (D × V) := more.foldl (fun acc kv => putK acc kv.1 kv.2) kvs
theorem pairsE_merge : ∀ (more xs : List Ent), pairsE (mergeE xs more) = mergeD (pairsE xs) (pairsE more)
  | [], _ => rfl
  | m :: more, xs => by
    show pairsE (mergeE (putE xs m.1 m.2.1 m.2.2) more) = mergeD (putK (pairsE xs) m.1 m.2.2) (pairsE more)
    rw [pairsE_merge more, pairsE_put]
theorem EntP.merge {more : List Ent} {ms : List (D × Addr × Value)} (r : EntP more ms) : ∀ {xs : List Ent} {ys : List (D × Addr × Value)}, EntP xs ys → EntP (mergeE xs more) (storedAllH ys ms) := by
  induction r with
  | nil => intro xs ys q; exact q
  | @cons p q ps qs h t ih =>
    intro xs ys r0
    have e : EntP (putE xs p.1 p.2.1 p.2.2) (storedH ys q.1 q.2.1 q.2.2) := by
      rw [← h.1, ← h.2.1]
      exact r0.put _ _ h.2.2
    exact ih e
theorem putE_len (xs : List Ent) (k : D) (a : Addr) (v : V) : (putE xs k a v).length ≤ xs.length + 1 := by
  unfold putE
  split
  · rw [List.length_map]; omega
  · simp
theorem mergeE_len : ∀ (more xs : List Ent), (mergeE xs more).length ≤ xs.length + more.length
  | [], xs => by show xs.length ≤ xs.length + 0; omega
  | p :: r, xs => by
    have h1 := mergeE_len r (putE xs p.1 p.2.1 p.2.2)
    have h2 := putE_len xs p.1 p.2.1 p.2.2
    show (mergeE (putE xs p.1 p.2.1 p.2.2) r).length ≤ _
    rw [List.length_cons]; omega
/-! #### keys of puts -/
theorem putK_keys {κ : Type} [DecidableEq κ] (kvs : List (κ × V)) (k : κ) (v : V) : (putK kvs k v).map (·.1) = if k ∈ kvs.map (·.1) then kvs.map (·.1) else kvs.map (·.1) ++ [k] := by
  have e : (kvs.any fun kv => decide (kv.1 = k)) = true ↔ k ∈ kvs.map (·.1) := by simp
  unfold putK
  by_cases h : k ∈ List.map (·.1) kvs
  · rw [if_pos (e.mpr h), if_pos h, List.map_map]
    apply List.map_congr_left
    intro x _
    show (if x.1 = k then (x.1, v) else x).1 = x.1
    split <;> rfl
  · rw [if_neg (fun z => h (e.mp z)), if_neg h, List.map_append]; rfl
theorem putK_nodup {κ : Type} [DecidableEq κ] {kvs : List (κ × V)} {k : κ} {v : V} (h : (kvs.map (·.1)).Nodup) : ((putK kvs k v).map (·.1)).Nodup := by
  rw [putK_keys]
  split
  · exact h
  · rename_i n
    rw [List.nodup_append]
    refine ⟨h, by simp, fun a ha b hb e => ?_⟩
    have e2 : b = k := by simpa using hb
    rw [e, e2] at ha
    exact n ha
theorem mem_putK {κ : Type} [DecidableEq κ] {kvs : List (κ × V)} {k : κ} {v : V} {j : κ} : j ∈ (putK kvs k v).map (·.1) ↔ j ∈ kvs.map (·.1) ∨ j = k := by
  rw [putK_keys]
  split
  · rename_i h
    constructor
    · exact .inl
    · rintro (q | rfl)
      · exact q
      · exact h
  · simp
theorem mergeD_nodup : ∀ (more kvs : List (D × V)), (kvs.map (·.1)).Nodup → ((mergeD kvs more).map (·.1)).Nodup
  | [], _, h => h
  | m :: more, kvs, h => mergeD_nodup more (putK kvs m.1 m.2) (putK_nodup h)
theorem mem_mergeD : ∀ (more kvs : List (D × V)) (j : D), j ∈ (mergeD kvs more).map (·.1) ↔ j ∈ kvs.map (·.1) ∨ j ∈ more.map (·.1)
  | [], _, _ => by simp [mergeD]
  | m :: more, kvs, j => by
    show j ∈ (mergeD (putK kvs m.1 m.2) more).map (·.1) ↔ _
    rw [mem_mergeD more (putK kvs m.1 m.2) j, mem_putK, List.map_cons, List.mem_cons, or_assoc]
theorem keysE (xs : List Ent) : (pairsE xs).map (·.1) = xs.map (·.1) := by rw [pairsE, List.map_map]; rfl
theorem valV_mem {κ : Type} [DecidableEq κ] (kvs : List (κ × V)) (k : κ) : (valV kvs k).isSome = true ↔ k ∈ kvs.map (·.1) := by
  rw [← valV_any]; simp
theorem KeysIn.put {H : Hp} {xs : List Ent} {k : D} {a : Addr} {v : V} (h : KeysIn H xs) (n : NV H k (.ref a)) (d : k.depth ≤ 8) : KeysIn H (putE xs k a v) := by
  refine ⟨fun x hx => ?_, ?_⟩
  · unfold putE at hx
    split at hx
    · obtain ⟨y, hy, rfl⟩ := List.mem_map.mp hx
      by_cases e : y.1 = k
      · rw [if_pos e]; exact h.1 y hy
      · rw [if_neg e]; exact h.1 y hy
    · rcases List.mem_append.mp hx with q | q
      · exact h.1 x q
      · simp only [List.mem_singleton] at q
        subst q
        exact ⟨n, d⟩
  · rw [← keysE, pairsE_put]
    exact putK_nodup (by rw [keysE]; exact h.2)
theorem KeysIn.merge {H : Hp} : ∀ {more xs : List Ent}, KeysIn H xs → (∀ x ∈ more, NV H x.1 (.ref x.2.1) ∧ x.1.depth ≤ 8) → KeysIn H (mergeE xs more)
  | [], _, h, _ => h
  | m :: more, xs, h, r => KeysIn.merge (xs := putE xs m.1 m.2.1 m.2.2) (h.put (r m List.mem_cons_self).1 (r m List.mem_cons_self).2) fun x hx => r x (List.mem_cons_of_mem _ hx)
theorem KeysIn.nil {H : Hp} : KeysIn H [] := ⟨fun _ h => absurd h (List.not_mem_nil), List.nodup_nil⟩
theorem MD.nodup {P : Program} {w : World} {H : Hp} {d : Addr} {kvs : List (D × V)} (m : MD P w H d kvs) : (kvs.map (·.1)).Nodup := by
  obtain ⟨xs, _, rfl, k⟩ := m
  rw [keysE]; exact k.2
theorem FD.nodup {P : Program} {w : World} {H : Hp} {d : Addr} {kvs : List (D × V)} (m : FD P w H d kvs) : (kvs.map (·.1)).Nodup := by
  obtain ⟨_, xs, _, rfl, k⟩ := m
  rw [keysE]; exact k.2
/-- the keys of a dict are data in the heap -/
theorem FD.keyNV {P : Program} {w : World} {H : Hp} {d : Addr} {kvs : List (D × V)} (m : FD P w H d kvs) : ∀ k ∈ kvs.map (·.1), k.depth ≤ 8 ∧ ∃ a, NV H k (.ref a) := by
  obtain ⟨_, xs, _, rfl, h⟩ := m
  intro k hk
  rw [keysE] at hk
  obtain ⟨x, hx, rfl⟩ := List.mem_map.mp hk
  exact ⟨(h.1 x hx).2, _, (h.1 x hx).1⟩
theorem MD.keyNV {P : Program} {w : World} {H : Hp} {d : Addr} {kvs : List (D × V)} (m : MD P w H d kvs) : ∀ k ∈ kvs.map (·.1), k.depth ≤ 8 ∧ ∃ a, NV H k (.ref a) := by
  obtain ⟨xs, _, rfl, h⟩ := m
  intro k hk
  rw [keysE] at hk
  obtain ⟨x, hx, rfl⟩ := List.mem_map.mp hk
  exact ⟨(h.1 x hx).2, _, (h.1 x hx).1⟩
theorem MD.mut {P : Program} {w : World} {H : Hp} {d : Addr} {kvs : List (D × V)} (m : MD P w H d kvs) : Mut (H d) := by
  obtain ⟨xs, e, _⟩ := m
  rw [e]; exact True.intro

section
variable {X : Cx} {pins : List (Addr × Obj)} {σ : L2.St} {H : Hp} {s : Shared} {d : Addr} {kvs : List (D × V)} {k : D} {b : Addr} {y v : V} {u r : Value} {A : Around} {E : Value → Shared → Prop}
/-- a key as it stands -/
def KeyV (H : Hp) (k : D) (y : V) : Prop := NV H k y ∧ k.depth ≤ 8 ∧ ∃ b, y = .ref b
theorem KeyV.mono {H H' : Hp} {k : D} {y : V} (t : Tp H H') (h : KeyV H k y) : KeyV H' k y := ⟨h.1.mono t, h.2⟩
theorem RD.typeIs (I : Inv X pins σ H s) (g : RD X.prog X.w H d kvs) : s.TypeIs (.ref d) "dict" := by
  obtain ⟨xs, _, _, _, _, ys, _, dd⟩ := g.get I.hok
  exact dd.typeIs
theorem RD.noDict (I : Inv X pins σ H s) (g : RD X.prog X.w H d kvs) : ∀ b, Value.ref d = .ref b → ∃ ob, s.heap.get? b = some ob ∧ ob.dict = none := fun b q => by
  cases q
  obtain ⟨xs, _, _, _, _, ys, _, ob, _, _, h1, h2, _⟩ := g.get I.hok
  exact ⟨ob, h1, h2.2.1⟩
theorem n_getItem {Q : Value → Shared → Prop} (hu : A.units + 9 < cLine) (I : Inv X pins σ H s) (g : RD X.prog X.w H d kvs) (ky : KeyV H k y) (hv : valV kvs k = some v) (ry : RelV y u) (h : ∀ w' s', Inv X pins σ H s' → RelV v w' → Q w' s') :
    wpAny (model X.prog X.w) A (getItem (.ref d) u) Q E s := by
  obtain ⟨n, hd, b, rfl⟩ := ky
  obtain rfl : u = .ref b := ry
  obtain ⟨xs, e, _, _, _, ys, rel, dd⟩ := g.get I.hok
  subst e
  obtain ⟨w', hw, rw'⟩ := RelO.some_of (v := v) (o := (atKey ys k).map (·.2)) (by rw [← hv]; exact EntP.val rel k)
  obtain ⟨q, hq, hq2⟩ := Option.map_eq_some_iff.mp hw
  refine wpAny_getItem_heap (knd := nestedKind X.prog X.w) (show A.in1.units + 8 < cLine from by have : A.in1.units = A.units + 1 := rfl; omega) (key_is I.hok n hd) dd hq ?_
  rw [hq2]
  exact h w' _ (I.tok _) rw'
theorem n_in {Q : Value → Shared → Prop} (hu : A.units + 9 < cLine) (I : Inv X pins σ H s) (g : RD X.prog X.w H d kvs) (ky : KeyV H k y) (ry : RelV y u) (h : ∀ s', Inv X pins σ H s' → Q (.bool (valV kvs k).isSome) s') :
    wpAny (model X.prog X.w) A (compareOp .In u (.ref d)) Q E s := by
  obtain ⟨n, hd, b, rfl⟩ := ky
  obtain rfl : u = .ref b := ry
  obtain ⟨xs, e, _, _, hm, ys, rel, dd⟩ := g.get I.hok
  subst e
  refine wpAny_in_heap (knd := nestedKind X.prog X.w) (show A.in1.units + 8 < cLine from by have : A.in1.units = A.units + 1 := rfl; omega) (key_is I.hok n hd) hm dd ?_
  have q := (EntP.val rel k).isSome_eq
  rw [Option.isSome_map] at q
  rw [← q]
  exact h _ (I.tok _)
theorem n_notIn {Q : Value → Shared → Prop} (hu : A.units + 9 < cLine) (I : Inv X pins σ H s) (g : RD X.prog X.w H d kvs) (ky : KeyV H k y) (ry : RelV y u) (h : ∀ s', Inv X pins σ H s' → Q (.bool (!(valV kvs k).isSome)) s') :
    wpAny (model X.prog X.w) A (compareOp .NotIn u (.ref d)) Q E s := by
  obtain ⟨n, hd, b, rfl⟩ := ky
  obtain rfl : u = .ref b := ry
  obtain ⟨xs, e, _, _, hm, ys, rel, dd⟩ := g.get I.hok
  subst e
  refine wpAny_notIn_heap (knd := nestedKind X.prog X.w) (show A.in1.units + 8 < cLine from by have : A.in1.units = A.units + 1 := rfl; omega) (key_is I.hok n hd) hm dd ?_
  have q := (EntP.val rel k).isSome_eq
  rw [Option.isSome_map] at q
  rw [← q]
  exact h _ (I.tok _)
theorem n_get2 {z : V} {Q : Value → Shared → Prop} (hu : A.units + 9 < cLine) (I : Inv X pins σ H s) (g : RD X.prog X.w H d kvs) (ky : KeyV H k y) (ry : RelV y u) (rz : RelV z r) (h : ∀ w' s', Inv X pins σ H s' → RelV ((valV kvs k).getD z) w' → Q w' s') :
    wpAny (model X.prog X.w) A (call (.builtin "dict.get") [.ref d, u, r]) Q E s := by
  obtain ⟨n, hd, b, rfl⟩ := ky
  obtain rfl : u = .ref b := ry
  obtain ⟨xs, e, _, _, hm, ys, rel, dd⟩ := g.get I.hok
  subst e
  refine call_meetsIn PySem.F.slot_dict_get dd.typeIs PySem.F.entry_dict_get (PySem.F.args_dict_get_3 _ _ _) (meetsH_dict_get_default (nestedKind X.prog X.w) d b hm r)
    ⟨show A.in1.units + 8 < cLine from by have : A.in1.units = A.units + 1 := rfl; omega, k, ys, key_is I.hok n hd, dd, h _ _ (I.tok _) ?_⟩
  exact (EntP.val rel k).getD rz
/-- the entries, laid anew at d -/
theorem raw_of {P : Program} {w : World} {h : Heap} {xs : List Ent} {ys : List (D × Addr × Value)} (z : xs.length ≤ sizeLine) (hd : (d == sysModules) = false) (rel : EntP xs ys) (dd : h.DictOfH (nestedKind P w) d ys) : rawD P w d xs h := by
  obtain ⟨o, es, ep, h1, h2, h3, h4, _, h5⟩ := dd
  exact ⟨z, hd, ys, rel, o, es, ep, h1, h2, h3, h4, h5⟩
theorem n_write {xs : List Ent} {ys : List (D × Addr × Value)} {h' : Heap} {t' : Nat} (I : Inv X pins σ H s) (mu : Mut (H d)) (hs : Heap.SameBut d s.heap h') (z : xs.length ≤ sizeLine) (hd : (d == sysModules) = false) (rel : EntP xs ys) (dd : h'.DictOfH (nestedKind X.prog X.w) d ys) :
    Inv X pins σ (upd H d (DO X.prog X.w d xs)) { s with heap := h', toks := t' } := by
  have he : ∃ q, h'.get? d = some q := let ⟨q, _, _, hq, _⟩ := dd; ⟨q, hq⟩
  exact d_write I mu hs he (do_ok (raw_of z hd rel dd))
theorem MD.ofUpd {P : Program} {w : World} {xs : List Ent} (mu : Mut (H d) ∨ H d = none) (k : KeysIn H xs) : MD P w (upd H d (DO P w d xs)) d (pairsE xs) :=
  ⟨xs, upd_same, rfl, k.mono (mu.elim (fun m => Tp.write m) fun n => Tp.new n)⟩
/-- d[y] = v -/
theorem n_setItem {Q : Unit → Shared → Prop} (hu : A.units + 9 < cLine) (I : Inv X pins σ H s) (g : MD X.prog X.w H d kvs) (ky : KeyV H k y) (hz : kvs.length < sizeLine) (ry : RelV y u) (rv : RelV v r)
    (h : ∀ o s', MD X.prog X.w (upd H d o) d (putK kvs k v) → Inv X pins σ (upd H d o) s' → Q () s') : wpAny (model X.prog X.w) A (setItem (.ref d) u r) Q E s := by
  have mu := g.mut
  obtain ⟨n, hdp, b, rfl⟩ := ky
  obtain rfl : u = .ref b := ry
  obtain ⟨xs, e, rfl, kin⟩ := g
  have hzx : xs.length < sizeLine := by rw [pairsE, List.length_map] at hz; exact hz
  obtain ⟨z, hm, ys, rel, dd⟩ := (I.hok d _ e).1.at I.hok kin
  have hzy : ys.length ≤ sizeLine := by rw [← Paired.length rel]; exact z
  refine wpAny_setItem_heap (knd := nestedKind X.prog X.w) (hsz := hzy) (show A.in1.units + 8 < cLine from by have : A.in1.units = A.units + 1 := rfl; omega) (key_is I.hok n hdp) dd fun h' dd' hs => h _ _ ?_ (n_write I mu hs (by have := putE_len xs k b v; omega) hm (EntP.put rel k b rv) dd')
  rw [← pairsE_put xs k b v]
  exact MD.ofUpd (.inl mu) (kin.put n hdp)
/-- the same, by a comprehension -/
theorem n_dictSet {Q : Unit → Shared → Prop} (hu : A.units + 9 < cLine) (I : Inv X pins σ H s) (g : MD X.prog X.w H d kvs) (ky : KeyV H k y) (hz : kvs.length < sizeLine) (ry : RelV y u) (rv : RelV v r)
    (h : ∀ o s', MD X.prog X.w (upd H d o) d (putK kvs k v) → Inv X pins σ (upd H d o) s' → Q () s') : wpAny (model X.prog X.w) A (dictSet d u r) Q E s := by
  have mu := g.mut
  obtain ⟨n, hdp, b, rfl⟩ := ky
  obtain rfl : u = .ref b := ry
  obtain ⟨xs, e, rfl, kin⟩ := g
  have hzx : xs.length < sizeLine := by rw [pairsE, List.length_map] at hz; exact hz
  obtain ⟨z, hm, ys, rel, dd⟩ := (I.hok d _ e).1.at I.hok kin
  have hzy : ys.length ≤ sizeLine := by rw [← Paired.length rel]; exact z
  refine wpAny_dictSet_heap (knd := nestedKind X.prog X.w) (hsz := hzy) (show A.units + 8 < cLine by omega) (key_is I.hok n hdp) dd fun h' dd' hs => h _ _ ?_ (n_write I mu hs (by have := putE_len xs k b v; omega) hm (EntP.put rel k b rv) dd')
  rw [← pairsE_put xs k b v]
  exact MD.ofUpd (.inl mu) (kin.put n hdp)
/-- a dict is locked for good -/
theorem n_freeze (I : Inv X pins σ H s) (g : MD X.prog X.w H d kvs) : ∃ o, Inv X pins σ (upd H d o) s ∧ FD X.prog X.w (upd H d o) d kvs ∧ ∃ ob u, o = .frz ob u := by
  have mu := g.mut
  obtain ⟨xs, e, rfl, kin⟩ := g
  obtain ⟨od, I1⟩ := I.lock e True.intro
  exact ⟨_, I1, ⟨od, xs, upd_same, rfl, kin.mono (Tp.write mu)⟩, _, _, rfl⟩
end

/-! ### the rules -/
def tNGet (P : Program) (w : World) (td ty : TE) : TE := fun σ H Q => td σ H fun x H1 => ty σ H1 fun y H2 => ∃ d kvs k v, x = .ref d ∧ RD P w H2 d kvs ∧ KeyV H2 k y ∧ valV kvs k = some v ∧ Q v H2
def tNIn (P : Program) (w : World) (ty td : TE) : TE := fun σ H Q => ty σ H fun y H1 => td σ H1 fun x H2 => ∃ d kvs k, x = .ref d ∧ RD P w H2 d kvs ∧ KeyV H2 k y ∧ Q (.bl (valV kvs k).isSome) H2
def tNNotIn (P : Program) (w : World) (ty td : TE) : TE := fun σ H Q => ty σ H fun y H1 => td σ H1 fun x H2 => ∃ d kvs k, x = .ref d ∧ RD P w H2 d kvs ∧ KeyV H2 k y ∧ Q (.bl (!(valV kvs k).isSome)) H2
def tNGet2 (P : Program) (w : World) (td ty tx : TE) : TE := fun σ H Q => td σ H fun x H1 => ∃ d, x = .ref d ∧ (∃ l, RD P w H1 d l) ∧ ty σ H1 fun y H2 => tx σ H2 fun z H3 => ∃ kvs k, RD P w H3 d kvs ∧ KeyV H3 k y ∧ Q ((valV kvs k).getD z) H3
def sNPut (P : Program) (w : World) (td ty tv : TE) : TS := fun D σ H => tv σ H fun v H1 => td σ H1 fun x H2 => ty σ H2 fun y H3 => ∃ d kvs k, x = .ref d ∧ MD P w H3 d kvs ∧ KeyV H3 k y ∧ kvs.length < sizeLine ∧
  ∀ o, MD P w (upd H3 d o) d (putK kvs k v) → D.nx σ (upd H3 d o)
def tNNewM (P : Program) (w : World) : TE := fun _ H Q => ∀ p o, H p = none → MD P w (upd H p o) p [] → Q (.ref p) (upd H p o)
def tNNewF (P : Program) (w : World) : TE := fun _ H Q => ∀ p o, H p = none → FD P w (upd H p o) p [] → Q (.ref p) (upd H p o)
/-- what the expression gives is locked -/
def tNFrz (P : Program) (w : World) (t : TE) : TE := fun σ H Q => t σ H fun x H1 => ∃ d kvs, x = .ref d ∧ MD P w H1 d kvs ∧ ∀ o, FD P w (upd H1 d o) d kvs → Q (.ref d) (upd H1 d o)
section
variable {X : Cx} {o i e f value : Expr} {pos pos' apos cpos : Pos} {td ty tv tx : TE}
theorem pe_nget (hu : X.A.units + 9 < cLine) (ho : PE X o td) (hi : PE X i ty) (hs : NoSl i) : PE X (.Subscript o i pos) (tNGet X.prog X.w td ty) := by
  refine .mk fun pins s σ H Q I h => ?_
  refine subD_of PySem.F.slot_dict_getitem.lookup hs (thn (ho.run pins s σ H _ I h) fun u s1 ⟨x, H1, I1, rx, q1⟩ => thn (hi.run pins s1 σ H1 _ I1 q1) fun iv s2 ⟨y, H2, I2, ry, d, kvs, k, v, ex, g, ky, hv, q2⟩ => ?_)
  subst ex
  obtain rfl : u = .ref d := rx
  exact ⟨g.typeIs I2, n_getItem hu I2 g ky hv ry fun w' s3 I3 rw' => ⟨v, H2, I3, rw', q2⟩⟩
theorem pc_nin (hu : X.A.units + 9 < cLine) (hi : PE X i ty) (ho : PE X o td) : PC X .In i o (tNIn X.prog X.w ty td) := by
  refine .mk fun pins s σ H Q I h => ?_
  refine thn (hi.run pins s σ H _ I h) fun iv s1 ⟨y, H1, I1, ry, q1⟩ => thn (ho.run pins s1 σ H1 _ I1 q1) fun u s2 ⟨x, H2, I2, rx, d, kvs, k, ex, g, ky, q2⟩ => ?_
  subst ex
  obtain rfl : u = .ref d := rx
  exact n_in hu I2 g ky ry fun s3 I3 => ⟨.bl _, H2, I3, rfl, q2⟩
theorem pc_nnotin (hu : X.A.units + 9 < cLine) (hi : PE X i ty) (ho : PE X o td) : PC X .NotIn i o (tNNotIn X.prog X.w ty td) := by
  refine .mk fun pins s σ H Q I h => ?_
  refine thn (hi.run pins s σ H _ I h) fun iv s1 ⟨y, H1, I1, ry, q1⟩ => thn (ho.run pins s1 σ H1 _ I1 q1) fun u s2 ⟨x, H2, I2, rx, d, kvs, k, ex, g, ky, q2⟩ => ?_
  subst ex
  obtain rfl : u = .ref d := rx
  exact n_notIn hu I2 g ky ry fun s3 I3 => ⟨.bl _, H2, I3, rfl, q2⟩
theorem pe_nget2 (hu : X.A.units + 9 < cLine) (ho : PE X o td) (he : PE X e ty) (hf : PE X f tx) (m : M2 X o "get" apos e f cpos) : PE X (.Call (.Attribute o "get" apos) [e, f] [] cpos) (tNGet2 X.prog X.w td ty tx) := by
  refine .mk fun pins s σ H Q I h => ?_
  refine wpAny_Call_method m.base m.few m.line PySem.F.plainAttrs_dict PySem.F.slot_dict_get PySem.F.type_dict_get (thn (ho.run pins s σ H _ I h) fun u s1 ⟨x, H1, I1, rx, d, ex, ⟨l, g⟩, q1⟩ => ?_)
  subst ex
  obtain rfl : u = .ref d := rx
  refine ⟨g.typeIs I1, g.noDict I1, ?_⟩
  rw [m.trees]
  refine Calls.callWith_builtin rfl (Calls.evalArgs_plain (Calls.spliced_cons (thn (he.run pins s1 σ H1 _ I1 q1) fun iv s2 ⟨y, H2, I2, ry, q2⟩ =>
    Calls.spliced_cons (thn (hf.run pins s2 σ H2 _ I2 q2) fun fv s3 ⟨z, H3, I3, rz, kvs, k, g3, ky, q3⟩ => Calls.spliced_nil ?_))))
  exact n_get2 hu I3 g3 ky ry rz fun w' s4 I4 rw' => ⟨_, H3, I4, rw', q3⟩
theorem ps_nput (hu : X.A.units + 9 < cLine) (ho : PE X o td) (hi : PE X i ty) (hv : PE X value tv) (hs : swapsWith value (some (.Subscript o i pos')) pos.line X.env = pure false) :
    PS X (.Assign [.Subscript o i pos'] value pos) (sNPut X.prog X.w td ty tv) := by
  refine .mk fun pins s σ H D I h => ?_
  refine wpAny_Assign_Subscript (thn (hv.run pins s σ H _ I h) fun r s1 ⟨v, H1, I1, rv, q1⟩ => thn (ho.run pins s1 σ H1 _ I1 q1) fun u s2 ⟨x, H2, I2, rx, q2⟩ => thn (hi.run pins s2 σ H2 _ I2 q2) fun iv s3 ⟨y, H3, I3, ry, d, kvs, k, ex, g, ky, hz, q3⟩ => ?_) hs
  subst ex
  obtain rfl : u = .ref d := rx
  exact n_setItem hu I3 g ky hz ry rv fun ob s4 m I4 => ⟨σ, _, I4, q3 ob m⟩
theorem raw_new {P : Program} {w : World} {h : Heap} (hb : sysModules < h.objs.size) : rawD P w h.objs.size [] (h.push { cls := .type "dict", data := .dict #[] }) :=
  raw_of (Nat.zero_le _) (beq_eq_false_iff_ne.mpr (Ne.symm (Nat.ne_of_lt hb))) .nil (Heap.DictOfH.new h)
theorem n_new {pins : List (Addr × Obj)} {σ : L2.St} {H : Hp} {s : Shared} (I : Inv X pins σ H s) {t' : Nat} : Inv X pins σ (upd H s.heap.objs.size (DO X.prog X.w s.heap.objs.size [])) { s with heap := s.heap.push { cls := .type "dict", data := .dict #[] }, toks := t' } :=
  I.laid (fun _ _ q => Heap.get?_push_of_some _ q) (Nat.le_refl _) (do_ok (raw_new I.big))
theorem pe_nnewM : PE X (.Dict [] [] pos) (tNNewM X.prog X.w) := ⟨fun pins s σ H Q I h =>
  wpAny_Dict_empty ⟨.ref s.heap.objs.size, _, n_new (t' := s.toks) I, rfl, h _ _ (I.hok.fresh (Nat.le_refl _)) (MD.ofUpd (.inr (I.hok.fresh (Nat.le_refl _))) KeysIn.nil)⟩⟩
theorem pe_nfrz {t : TE} (h : PE X e t) : PE X e (tNFrz X.prog X.w t) := by
  refine .mk fun pins s σ H Q I hw => ?_
  refine thn (h.run pins s σ H _ I hw) fun u s1 ⟨x, H1, I1, rx, d, kvs, ex, g, q⟩ => ?_
  obtain ⟨ob, I2, f, _⟩ := n_freeze I1 g
  exact ⟨x, _, I2, rx, by rw [ex]; exact q ob f⟩
theorem pe_nnewF : PE X (.Dict [] [] pos) (tNNewF X.prog X.w) := ⟨fun pins s σ H Q I h => by
  refine thn (pe_nnewM.run pins s σ H (fun x H1 => ∃ p o, x = .ref p ∧ H p = none ∧ H1 = upd H p o ∧ MD X.prog X.w H1 p []) I fun p o hp m => ⟨p, o, rfl, hp, rfl, m⟩) fun u s1 ⟨x, H1, I1, rx, p, ob, ex, hp, eH, m⟩ => ?_
  obtain ⟨ob2, I2, f, _⟩ := n_freeze I1 m
  subst eH ex
  rw [upd_upd] at I2 f
  exact ⟨.ref p, _, I2, rx, h p ob2 hp f⟩⟩
end
end Mw
/-! Dicts whose keys are data: walks, comprehensions, merges, copies, the test against the empty dict. -/
namespace Mw
open PySem PySem.Spec PyProof.Rows L2

/-! ### walks -/
/-- the walk gives vs one by one, while Kp is so -/
def Steady (J : It) (Kp : Hp → Prop) (vs : List V) : Prop := ∀ i H, Kp H → (i < vs.length → J.go i H) ∧ (vs.length ≤ i → J.stop i H) ∧ ∀ x H', J.yld i H x H' → H' = H ∧ vs[i]? = some x
theorem steady_list {K : PySem.W.Frag} {a : Addr} {xs : List V} : Steady (Itl K a) (fun H => SqL K H a xs) xs := fun i H q =>
  ⟨fun h => ⟨xs, xs[i], q, by simp [h]⟩, fun h => ⟨xs, q, h⟩, fun x H' y => ⟨y.1, y.2 xs q⟩⟩
theorem steady_tup {K : PySem.W.Frag} {a : Addr} {xs : List V} : Steady (Itt K a) (fun H => SqT K H a xs) xs := fun i H q =>
  ⟨fun h => ⟨xs, xs[i], q, by simp [h]⟩, fun h => ⟨xs, q, h⟩, fun x H' y => ⟨y.1, y.2 xs q⟩⟩
section
variable {J : It} {Kp : Hp → Prop} {vs : List V} {g : TG} {tb : TS} {tt : TT} {te tk tv : TE} {own : List Nat} {D : Ends} {σ : L2.St} {H H1 : Hp} {P : Program} {w : World}
theorem for_st (st : Steady J Kp vs) (Pv : Nat → L2.St → Hp → Prop) (h0 : Pv 0 σ H) (hl : ∀ i σ H, i ≤ vs.length → Pv i σ H → Kp H)
    (hs : ∀ i x σ H, vs[i]? = some x → Pv i σ H → g x σ H fun σ2 H2 => tb { D with nx := Pv (i + 1), ct := Pv (i + 1), bk := D.nx } σ2 H2) (hd : ∀ σ H, Pv vs.length σ H → D.nx σ H) :
    ∃ W : Nat → Nat → L2.St → Hp → Prop, (∃ m, W 0 m σ H) ∧ ∀ i m σ H, W i m σ H → (J.stop i H ∧ D.nx σ H) ∨ (J.go i H ∧ ∃ N : L2.St → Hp → Prop, (∀ σ' H', N σ' H' → ∃ m', m' < m ∧ W (i + 1) m' σ' H') ∧ ∀ x H', J.yld i H x H' → g x σ H' fun σ2 H2 => tb { D with nx := N, ct := N, bk := D.nx } σ2 H2) := by
  refine ⟨fun i m σ H => m = vs.length - i ∧ i ≤ vs.length ∧ Pv i σ H, ⟨vs.length, by simp, Nat.zero_le _, h0⟩, ?_⟩
  rintro i m σ H ⟨rfl, hi, p⟩
  obtain ⟨q1, q2, q3⟩ := st i H (hl i σ H hi p)
  by_cases hlt : i < vs.length
  · refine .inr ⟨q1 hlt, Pv (i + 1), fun σ' H' p' => ⟨vs.length - (i + 1), by omega, rfl, hlt, p'⟩, fun x H' y => ?_⟩
    obtain ⟨e, hx⟩ := q3 x H' y
    subst e
    exact hs i x σ _ hx p
  · have e : i = vs.length := by omega
    subst e
    exact .inl ⟨q2 (Nat.le_refl _), hd σ H p⟩
theorem lc_st {Dl : Addr} {Qd : Hp → Prop} (st : Steady J Kp vs) (Pv : Nat → Hp → Prop) (h0 : Pv 0 (upd H1 Dl (.lst []))) (hl : ∀ i H, i ≤ vs.length → Pv i H → Kp H)
    (hs : ∀ i x H, vs[i]? = some x → Pv i H → g x (wipe σ own) H fun σ2 H2 => wipe σ2 own = wipe σ own ∧ tt σ2 H2 fun b H3 =>
      if b = true then te σ2 H3 fun y H4 => ∃ acc, H4 Dl = some (.lst acc) ∧ acc.length < sizeLine ∧ Pv (i + 1) (upd H4 Dl (.lst (acc ++ [y]))) else Pv (i + 1) H3) (hd : ∀ H, Pv vs.length H → Qd H) :
    ∃ W : Nat → Nat → Hp → Prop, (∃ m, W 0 m (upd H1 Dl (.lst []))) ∧ ∀ i m H, W i m H →
      (J.stop i H ∧ Qd H) ∨ (J.go i H ∧ ∃ Nx : Hp → Prop, (∀ H', Nx H' → ∃ m', m' < m ∧ W (i + 1) m' H') ∧ ∀ x H', J.yld i H x H' → g x (wipe σ own) H' fun σ2 H2 => wipe σ2 own = wipe σ own ∧ tt σ2 H2 fun b H3 =>
        if b = true then te σ2 H3 fun y H4 => ∃ acc, H4 Dl = some (.lst acc) ∧ acc.length < sizeLine ∧ Nx (upd H4 Dl (.lst (acc ++ [y]))) else Nx H3) := by
  refine ⟨fun i m H => m = vs.length - i ∧ i ≤ vs.length ∧ Pv i H, ⟨vs.length, by simp, Nat.zero_le _, h0⟩, ?_⟩
  rintro i m H ⟨rfl, hi, p⟩
  obtain ⟨q1, q2, q3⟩ := st i H (hl i H hi p)
  by_cases hlt : i < vs.length
  · refine .inr ⟨q1 hlt, Pv (i + 1), fun H' p' => ⟨vs.length - (i + 1), by omega, rfl, hlt, p'⟩, fun x H' y => ?_⟩
    obtain ⟨e, hx⟩ := q3 x H' y
    subst e
    exact hs i x _ hx p
  · have e : i = vs.length := by omega
    subst e
    exact .inl ⟨q2 (Nat.le_refl _), hd H p⟩
theorem dcn_st {Dd : Addr} {o : HO} {Qd : Hp → Prop} (st : Steady J Kp vs) (Pv : Nat → Hp → Prop) (h0 : Pv 0 (upd H1 Dd o)) (hl : ∀ i H, i ≤ vs.length → Pv i H → Kp H)
    (hs : ∀ i x H, vs[i]? = some x → Pv i H → g x (wipe σ own) H fun σ2 H2 => wipe σ2 own = wipe σ own ∧ tt σ2 H2 fun b H3 =>
      if b = true then tk σ2 H3 fun y H4 => tv σ2 H4 fun z H5 => ∃ kvs k, MD P w H5 Dd kvs ∧ KeyV H5 k y ∧ kvs.length < sizeLine ∧ ∀ o, MD P w (upd H5 Dd o) Dd (putK kvs k z) → Pv (i + 1) (upd H5 Dd o) else Pv (i + 1) H3) (hd : ∀ H, Pv vs.length H → Qd H) :
    ∃ W : Nat → Nat → Hp → Prop, (∃ m, W 0 m (upd H1 Dd o)) ∧ ∀ i m H, W i m H →
      (J.stop i H ∧ Qd H) ∨ (J.go i H ∧ ∃ Nx : Hp → Prop, (∀ H', Nx H' → ∃ m', m' < m ∧ W (i + 1) m' H') ∧ ∀ x H', J.yld i H x H' → g x (wipe σ own) H' fun σ2 H2 => wipe σ2 own = wipe σ own ∧ tt σ2 H2 fun b H3 =>
        if b = true then tk σ2 H3 fun y H4 => tv σ2 H4 fun z H5 => ∃ kvs k, MD P w H5 Dd kvs ∧ KeyV H5 k y ∧ kvs.length < sizeLine ∧ ∀ o, MD P w (upd H5 Dd o) Dd (putK kvs k z) → Nx (upd H5 Dd o) else Nx H3) := by
  refine ⟨fun i m H => m = vs.length - i ∧ i ≤ vs.length ∧ Pv i H, ⟨vs.length, by simp, Nat.zero_le _, h0⟩, ?_⟩
  rintro i m H ⟨rfl, hi, p⟩
  obtain ⟨q1, q2, q3⟩ := st i H (hl i H hi p)
  by_cases hlt : i < vs.length
  · refine .inr ⟨q1 hlt, Pv (i + 1), fun H' p' => ⟨vs.length - (i + 1), by omega, rfl, hlt, p'⟩, fun x H' y => ?_⟩
    obtain ⟨e, hx⟩ := q3 x H' y
    subst e
    exact hs i x _ hx p
  · have e : i = vs.length := by omega
    subst e
    exact .inl ⟨q2 (Nat.le_refl _), hd H p⟩
end
/-- the keys of a locked dict, their tuples, in their order -/
def Itn (P : Program) (w : World) (d : Addr) (ob : Obj) (xs : List Ent) : It :=
  ⟨fun i H => H d = some (.frz ob (DO P w d xs)) ∧ i < xs.length, fun i H x H' => H' = H ∧ ∃ e, xs[i]? = some e ∧ x = .ref e.2.1, fun i H => H d = some (.frz ob (DO P w d xs)) ∧ xs.length ≤ i⟩
section
variable {X : Cx} {pins : List (Addr × Obj)} {σ : L2.St} {H : Hp} {s : Shared} {d : Addr} {ob : Obj} {xs : List Ent}
theorem frzN (I : Inv X pins σ H s) (h : H d = some (.frz ob (DO X.prog X.w d xs))) :
    (d == sysModules) = false ∧ s.heap.get? d = some ob ∧ ob.ExactDict ∧ ∃ (es : Array DictEntry) (ep : Nat), ob.data = .dict es ep ∧ es.size = xs.length ∧
      ∀ (i : Nat) (e : Ent), xs[i]? = some e → ∃ (en : DictEntry), es[i]? = some en ∧ en.key = .ref e.2.1 := by
  obtain ⟨hd, ⟨z, hs, ys, rel, o', es, ep, ho, hx, hdt, he, _⟩, _⟩ := I.hok d _ h
  rw [hd] at ho
  cases ho
  refine ⟨hs, hd, hx, es, ep, hdt, ?_, fun i e he2 => ?_⟩
  · have l1 : es.size = ys.length := size_of_entries he
    have l2 : xs.length = ys.length := Paired.length rel
    omega
  · obtain ⟨b, hb, e1, e2, _⟩ := paired_get rel he2
    have q := entry_at he i
    rw [hb] at q
    exact ⟨_, q, by rw [e2]; rfl⟩
end
section
variable {P : Program} {w : World} {K : PySem.W.Frag} {tg : Expr}
variable {d : Addr} {o : Obj} {es : Array DictEntry} {ep : Nat}
theorem turn_n {xs : List Ent} (it : Addr) (hod : o.data = .dict es ep) : Turn P w K tg (Itn P w d o xs) [it] it (fun i h => h.IsKeyIter it d i xs.length ep) := by
  have only : ∀ {b : Addr}, b ∈ [it] → b = it := fun h => List.mem_singleton.mp h
  have me : it ∈ [it] := List.mem_singleton.mpr rfl
  constructor
  case mem => exact me
  case obj =>
    rintro i h ⟨q, h1, _, h3⟩ b hb
    rw [only hb]
    exact ⟨q, h1, fun v z => by simp [h3] at z⟩
  case keep => exact fun i h h' st kept => st.at (kept it me)
  case self => exact fun A i s Q E st h => wpAny_pyIter_keyiter st h  -- its own iterator
  case item =>
    rintro X rfl rfl rfl calm i pins s σ H E I free st ⟨here, lt⟩
    obtain ⟨-, at_d, -, es', ep', hdt, size, entry⟩ := frzN I here
    obtain ⟨rfl, rfl⟩ := dict_ep hod hdt
    obtain ⟨en, hen, hkey⟩ := entry i xs[i] (List.getElem?_eq_getElem lt)
    obtain ⟨n0, n1, _, n3, n4, n5⟩ := free it me
    apply next_key_item st at_d hdt size hen
    intro h' st' same
    have J : Inv X pins σ H { s with heap := h' } := Inv.turned (t' := s.toks) I (fun b _ ne e => (same.2 b ne).trans e) n0 n1 n3 n4 n5
    obtain ⟨_, c1, c2, c3⟩ := id st'
    exact ⟨_, rfl, go_of (s := { s with heap := h' }) c1 c2 c3 (by decide) ⟨.ref xs[i].2.1, H, J, hkey, ⟨rfl, xs[i], List.getElem?_eq_getElem lt, rfl⟩, st', fun b hb => (free b hb).1⟩⟩
  case done =>
    rintro X rfl rfl rfl calm i pins s σ H E I free st ⟨here, ge⟩
    obtain ⟨-, at_d, -, es', ep', hdt, size, -⟩ := frzN I here
    obtain ⟨rfl, rfl⟩ := dict_ep hod hdt
    obtain ⟨n0, n1, _, n3, n4, n5⟩ := free it me
    apply next_key_end (I.ok.hd calm) st at_d hdt size ge
    exact fun h' kept => ⟨rfl, Inv.turned (t' := s.toks) I (fun b v ne e => kept b v ne e) n0 n1 n3 n4 n5⟩
end
/-- the data ks as values in the heap -/
def AllKey (H : Hp) (ks : List D) (vs : List V) : Prop := NVs H ks vs ∧ ∀ k ∈ ks, k.depth ≤ 8 ∧ ∃ l, k = .tup l
theorem nv_ref_tup {H : Hp} {k : D} {a : Addr} (h : NV H k (.ref a)) : ∃ l, k = .tup l := by cases h with | tup _ _ => exact ⟨_, rfl⟩
theorem allKey_of {H : Hp} : ∀ {xs : List Ent}, (∀ x ∈ xs, NV H x.1 (.ref x.2.1) ∧ x.1.depth ≤ 8) → AllKey H (xs.map (·.1)) (xs.map fun e => V.ref e.2.1)
  | [], _ => ⟨.nil, fun _ h => absurd h List.not_mem_nil⟩
  | x :: xs, h => by
    have q := h x List.mem_cons_self
    have r := allKey_of (xs := xs) fun y hy => h y (List.mem_cons_of_mem _ hy)
    refine ⟨.cons q.1 r.1, fun k hk => ?_⟩
    rcases List.mem_cons.mp hk with e | hk
    · subst e; exact ⟨q.2, nv_ref_tup q.1⟩
    · exact r.2 k hk
theorem AllKey.get {H : Hp} {ks : List D} {vs : List V} {i : Nat} {x : V} (h : AllKey H ks vs) (e : vs[i]? = some x) : ∃ k, ks[i]? = some k ∧ KeyV H k x := by
  obtain ⟨k, e1, n⟩ := h.1.getV e
  obtain ⟨d, l, e2⟩ := h.2 k (List.mem_of_getElem? e1)
  refine ⟨k, e1, n, d, ?_⟩
  subst e2
  obtain ⟨a, _, e3, _⟩ := nv_tup n
  exact ⟨a, e3⟩
theorem AllKey.mono {H H' : Hp} {ks : List D} {vs : List V} (t : Tp H H') (h : AllKey H ks vs) : AllKey H' ks vs := ⟨h.1.mono t, h.2⟩
/-- for x in d (d locked) -/
def iN (P : Program) (w : World) (ta : TE) : TI := fun σ H R => ta σ H fun v H1 => ∃ d kvs, v = .ref d ∧ FD P w H1 d kvs ∧ ∀ J vs, Steady J (Tp H1) vs → AllKey H1 (kvs.map (·.1)) vs → R J H1
section
variable {X : Cx} {e tg : Expr} {td : TE}
theorem pi_n (he : PE X e td) : PI X tg e (iN X.prog X.w td) := by
  refine .mk fun pins s σ H R I h => ?_
  refine thn (he.run pins s σ H _ I h) fun u s1 ⟨x, H1, I1, rx, d, kvs, ex, ⟨ob, xs, e1, e2, kin⟩, q⟩ => ?_
  subst ex
  obtain rfl : u = .ref d := rx
  obtain ⟨hs, hgd, hx, es, ep, hdt, hsz, ent⟩ := frzN I1 e1
  have q2 := q (Itn X.prog X.w d ob xs) (xs.map fun e => V.ref e.2.1) (fun i H t => by
    have e3 := t.frz _ _ _ e1
    refine ⟨fun h => ⟨e3, by simpa using h⟩, fun h => ⟨e3, by simpa using h⟩, fun x H' y => ⟨y.1, ?_⟩⟩
    obtain ⟨_, en, h1, h2⟩ := y
    rw [List.getElem?_map, h1, h2]; rfl) (by rw [← e2, keysE]; exact allKey_of kin.1)
  refine iter_keys hs hgd hx hdt (pi_one (tk := s1.toks) I1 _ (turn_n _ hdt) ⟨_, Heap.get?_push_size _ rfl, rfl, ?_⟩ q2)
  rw [hsz] <;> rfl
end

/-! ### comprehensions -/
/-- a block B of a comprehension over X: how it is left, what stands in it at each turn -/
structure Block (X B : Cx) (pins : List (Addr × Obj)) (σ : L2.St) (own : List Nat) (C : Addr) (fp : List Addr) : Prop where
  leave : ∀ {H' : Hp} {s' : Shared}, Inv B [] (wipe σ own) H' s' → Inv X pins σ H' s' ∧ FpOk X pins H' C ∧ ∃ m, s'.heap.Ns C m
  fits : ∀ {σ' : L2.St} {H' : Hp} {s' : Shared}, Inv B [] σ' H' s' → (∀ b ∈ fp, H' b = none) → ∀ b ∈ fp, FpOk B [] H' b
  rest : ∀ {h7 : Heap} {σ8 : L2.St} {H' : Hp} {s' : Shared}, Inv B ([] ++ pinsAt fp h7) σ8 H' s' → wipe σ8 own = wipe σ own →
    Inv B [] (wipe σ own) H' s' ∧ ∀ b ∈ fp, ∀ v, h7.get? b = some v → s'.heap.get? b = some v ∧ H' b = none
theorem block_of {X : Cx} {pins : List (Addr × Obj)} {σ : L2.St} {own : List Nat} {H : Hp} {s : Shared} {scope : Scope} {ce : Env} {fp : List Addr} (I : Inv X pins σ H s) (hce : ce.locals = s.heap.objs.size) (hf : ∀ b ∈ fp, FpOk X pins H b) :
    Block X (X.blk s H scope ce fp) pins σ own s.heap.objs.size fp where
  leave := by
    intro H' s' J
    have back : Inv X pins σ H' s' := by
      apply I.call' (ch := fp) J.os J.base J.hok J.bare
      intro b hb
      obtain ⟨_, g1, _, g3, g4, g5⟩ := hf b hb
      exact ⟨g3, g1, g4, g5⟩
    have none_at : H' s.heap.objs.size = none := hce ▸ (show H' ce.locals = none from J.free)
    obtain ⟨m, ns, _⟩ := J.loc
    exact ⟨back, I.fpOk (Nat.le_refl _) none_at, m, hce ▸ (show s'.heap.Ns ce.locals m from ns)⟩
  fits := fun J hn b hb => ⟨hn b hb, (J.ok.exf b hb).1, J.ok.exfs b hb, .inl hb, (J.ok.exf b hb).2, fun p hp => by simp at hp⟩
  rest := by
    intro h7 σ8 H' s' J e
    constructor
    · refine (Inv.unpinned (pins := []) J).weak ?_ ?_
      · rw [← e, wipe_length]
      · intro j v hv
        rw [← e] at hv
        exact (wipe_some hv).1
    · intro b hb v hv
      have z := J.pin (b, v) (by simpa using mem_pinsAt hb hv)
      exact ⟨z.1, z.2.1⟩
section
variable {X : Cx}
def tDcN (P : Program) (w : World) (wi : TI) (g : TG) (tt : TT) (tk tv : TE) (own : List Nat) : TE := fun σ H Q => wi σ H fun J H1 => ∀ Dd o, H1 Dd = none → MD P w (upd H1 Dd o) Dd [] → ∃ W : Nat → Nat → Hp → Prop, (∃ m, W 0 m (upd H1 Dd o)) ∧ ∀ i m H, W i m H →
  (J.stop i H ∧ Q (.ref Dd) H) ∨ (J.go i H ∧ ∃ Nx : Hp → Prop, (∀ H', Nx H' → ∃ m', m' < m ∧ W (i + 1) m' H') ∧ ∀ x H', J.yld i H x H' → g x (wipe σ own) H' fun σ2 H2 => wipe σ2 own = wipe σ own ∧ tt σ2 H2 fun b H3 =>
    if b = true then tk σ2 H3 fun y H4 => tv σ2 H4 fun z H5 => ∃ kvs k, MD P w H5 Dd kvs ∧ KeyV H5 k y ∧ kvs.length < sizeLine ∧ ∀ o, MD P w (upd H5 Dd o) Dd (putK kvs k z) → Nx (upd H5 Dd o) else Nx H3)
/-- what the parts of a comprehension are, in its block -/
structure Parts (X : Cx) (scope : Scope) (kx vx tg : Expr) (ifs : List Expr) (g : TG) (tt : TT) (tk tv : TE) : Prop where
  target : ∀ (s : Shared) (H : Hp) (C : Addr) (cl : List (Str × Addr)) (fp : List Addr), PG (X.blk s H scope (compEnvC scope cl C X.env) fp) tg g
  tests : ∀ (s : Shared) (H : Hp) (C : Addr) (cl : List (Str × Addr)) (fp : List Addr), PTs (X.blk s H scope (compEnvC scope cl C X.env) fp) ifs tt
  key : ∀ (s : Shared) (H : Hp) (C : Addr) (cl : List (Str × Addr)) (fp : List Addr), PE (X.blk s H scope (compEnvC scope cl C X.env) fp) kx tk
  val : ∀ (s : Shared) (H : Hp) (C : Addr) (cl : List (Str × Addr)) (fp : List Addr), PE (X.blk s H scope (compEnvC scope cl C X.env) fp) vx tv
/-- the block's own frame, laid behind s -/
abbrev envB (X : Cx) (scope : Scope) (s : Shared) : Env := compEnvC scope (cellsFrom (s.heap.objs.size + 1) scope.names (cloFrom X.env.cells scope.names [])) s.heap.objs.size X.env
abbrev shB (scope : Scope) (s : Shared) : Shared := { s with heap := pushCells (s.heap.push { cls := .type "dict", data := .dict #[] }) scope.names }
theorem keepB {scope : Scope} {s : Shared} {b : Addr} {v : Obj} (e : s.heap.get? b = some v) : (shB scope s).heap.get? b = some v := pushCells_keeps _ _ _ _ (Heap.get?_push_of_some _ e)
theorem dcn_run {pins : List (Addr × Obj)} {s : Shared} {σ : L2.St} {H : Hp} {Q : VK} {kx vx tg iter : Expr} {ifs : List Expr} {scope : Scope} {own : List (Str × Nat)} {pos place : Pos} {wi : TI} {g : TG} {tt : TT} {tk tv : TE} {use : Option (Value → Sem Unit)} {Qf : Value → Shared → Prop}
    (hu : X.A.units + 9 < cLine) (calm : X.calm = true) (nd : X.N.Nodup) (I : Inv X pins σ H s) (hi : PI X tg iter wi) (ok : BlkOk X.N X.env.scope scope own) (pp : Parts X scope kx vx tg ifs g tt tk tv) (hs : ∀ x, foldedSetIterable iter X.env x = pure x)
    (h : tDcN X.prog X.w wi g tt tk tv (own.map (·.2)) σ H Q)
    (fin : ∀ Dd C s' H', Inv X pins σ H' s' → Q (.ref Dd) H' → FpOk X pins H' C → (∃ m, s'.heap.Ns C m) → compPost (model X.prog X.w) X.A X.xe use Qf (.ref Dd) C (.ok .next) s') :
    wpAny (model X.prog X.w) X.A (comprehension (.DictComp kx vx [⟨tg, iter, ifs, 0⟩] scope pos) scope X.env place newDict false (eval iter X.env) use) Qf X.xe s := by
  have clo : ∀ y ∈ scope.names, y.2 = .free → ∃ c, X.env.cells.lookup y.1 = some c := fun y hy e => (ok.free y hy e).elim (fun q => I.ok.has _ (.inl q)) fun q => I.ok.has _ (.inr q)
  apply wpAny_comprehension_free rfl hs (closure_ok clo) ok.kind fun y hy e => e ▸ ok.uniq y hy
  refine thn (hi.run _ _ _ _ _ I h) fun _ _ walked => thn walked ?_
  rintro _ s2 ⟨it, fp, tn, J, H2, rfl, I2, T, st2, f2, q⟩
  refine wpAny_newObj_type (newEnv_comp ?_)
  have new : H2 s2.heap.objs.size = none := I2.hok.fresh (Nat.le_refl _)
  have I3 := n_new (t' := s2.toks) I2
  obtain ⟨W, ⟨m0, w0⟩, turn⟩ := q _ _ new (MD.ofUpd (P := X.prog) (w := X.w) (.inr new) KeysIn.nil)
  obtain ⟨Dd, hd⟩ : ∃ Dd, Dd = s2.heap.objs.size := ⟨_, rfl⟩
  obtain ⟨s3, hs3⟩ : ∃ s3 : Shared, s3 = { s2 with heap := s2.heap.push { cls := .type "dict", data := .dict #[] } } := ⟨_, rfl⟩
  have grown : ∀ {b : Addr} {v : Obj}, s2.heap.get? b = some v → s3.heap.get? b = some v := fun e => hs3 ▸ Heap.get?_push_of_some _ e
  have old : ∀ b ∈ fp, b < s2.heap.objs.size := fun b hb => (T.obj _ _ st2 b hb).elim fun _ e => Heap.lt_size e.1
  have f3 : ∀ b ∈ fp, FpOk X pins (upd H2 s2.heap.objs.size (DO X.prog X.w s2.heap.objs.size [])) b ∧ b < s3.heap.objs.size := by
    intro b hb
    refine ⟨⟨(upd_ne (Nat.ne_of_lt (old b hb))).trans (f2 b hb).1, (f2 b hb).2⟩, ?_⟩
    rw [hs3]
    exact Nat.lt_trans (old b hb) (by rw [Heap.size_push]; exact Nat.lt_succ_self _)
  have st3 : tn 0 s3.heap := T.keep _ _ _ st2 fun b _ v e => grown e
  rw [← hs3, ← hd] at I3
  rw [← hd] at w0 turn f3
  show codeAny _ _ (.compStart (.DictComp kx vx [⟨tg, iter, ifs, 0⟩] scope pos) 0 (.ref it) (.ref s2.heap.objs.size) (envB X scope { s2 with heap := s2.heap.push { cls := .type "dict", data := .dict #[] } }))
    (compPost (model X.prog X.w) X.A X.xe use Qf (.ref s2.heap.objs.size) (Shared.heap { s2 with heap := s2.heap.push { cls := .type "dict", data := .dict #[] } }).objs.size) (shB scope { s2 with heap := s2.heap.push { cls := .type "dict", data := .dict #[] } })
  rw [← hs3, ← hd]
  generalize upd H2 Dd (DO X.prog X.w Dd []) = H3 at I3 w0 f3
  have B0 := block_start I3 ok nd f3
  have B := block_of (own := own.map (·.2)) (scope := scope) (ce := envB X scope s3) I3 rfl fun b hb => (f3 b hb).1
  have go : codeAny (model X.prog X.w) X.A (.compLoop (.DictComp kx vx [⟨tg, iter, ifs, 0⟩] scope pos) 0 (.ref it) (.ref Dd) (envB X scope s3)) (compPost (model X.prog X.w) X.A X.xe use Qf (.ref Dd) s3.heap.objs.size) (shB scope s3) := by
    apply compLoop_anyD (fun m s' => ∃ i H', W i m H' ∧ Inv (X.blk s3 H3 scope (envB X scope s3) fp) [] (wipe σ (own.map (·.2))) H' s' ∧ tn i s'.heap ∧ ∀ b ∈ fp, H' b = none) ?_ m0
    · exact ⟨0, H3, w0, B0, T.keep _ _ _ st3 (fun b _ v e => keepB e), fun b hb => (f3 b hb).1.1⟩
    rintro m s5 ⟨i, H5, w5, I5, st5, n5⟩
    rcases turn i m H5 w5 with ⟨stop, qq⟩ | ⟨more, Nx, next, step⟩
    · refine thnF (T.done (X.blk s3 H3 scope (envB X scope s3) fp) rfl rfl rfl calm i [] s5 _ H5 (fun _ _ => False) I5 (B.fits I5 n5) st5 stop) ?_
      rintro _ s6 ⟨rfl, I6⟩
      obtain ⟨I7, fc, ns⟩ := B.leave I6
      exact fin Dd _ s6 H5 I7 qq fc ns
    · refine thnF (T.item (X.blk s3 H3 scope (envB X scope s3) fp) rfl rfl rfl calm i [] s5 _ H5 (fun _ _ => False) I5 (B.fits I5 n5) st5 more) ?_
      rintro _ s6 ⟨u, rfl, h6⟩
      refine thnF h6 ?_
      rintro _ s7 ⟨x, H7, I7, r7, y7, st7, n7⟩
      have objs := T.obj _ _ st7
      have end_ : ∀ {σ8 : L2.St} {s' : Shared} {H' : Hp}, wipe σ8 (own.map (·.2)) = wipe σ (own.map (·.2)) → Inv (X.blk s3 H3 scope (envB X scope s3) fp) ([] ++ pinsAt fp s7.heap) σ8 H' s' → Nx H' →
          ∃ m', m' < m ∧ ∃ i H', W i m' H' ∧ Inv (X.blk s3 H3 scope (envB X scope s3) fp) [] (wipe σ (own.map (·.2))) H' s' ∧ tn i s'.heap ∧ ∀ b ∈ fp, H' b = none := by
        intro σ8 s' H' e8 K nx
        obtain ⟨K2, pinned⟩ := B.rest K e8
        obtain ⟨m', lt, w'⟩ := next H' nx
        exact ⟨m', lt, i + 1, H', w', K2, T.keep _ _ _ st7 (fun b hb v e => (pinned b hb v e).1), fun b hb => (objs b hb).elim fun v e => (pinned b hb v e.1).2⟩
      refine thnF ((pp.target _ _ _ _ _).run _ _ _ _ _ _ _ (I7.pinned (B.fits I7 n7) objs) r7 (step x H7 y7)) ?_
      rintro _ s8 ⟨σ8, H8, I8, e8, q8⟩
      refine thnF ((pp.tests _ _ _ _ _).run _ _ _ _ _ I8 q8) ?_
      rintro (_ | _) s9 ⟨H9, I9, q9⟩
      · exact end_ e8 I9 q9
      · refine thnF ((pp.key _ _ _ _ _).run _ _ _ _ _ I9 q9) ?_
        rintro kv sA ⟨yk, HA, IA, rA, qA⟩
        refine thnF ((pp.val _ _ _ _ _).run _ _ _ _ _ IA qA) ?_
        rintro vv sB ⟨yv, HB, IB, rB, kvs, k, md, ky, small, nx⟩
        exact n_dictSet (X := X.blk s3 H3 scope (envB X scope s3) fp) hu IB md ky small rA rB fun o sC md' IC => end_ e8 IC (nx o md')
  exact codeAny_compStart_dict go (T.self _ _ _ _ _ (T.keep _ _ _ st3 fun b _ v e => keepB e) go)
/-- as a value -/
theorem pe_dcn {kx vx tg iter : Expr} {ifs : List Expr} {scope : Scope} {own : List (Str × Nat)} {pos : Pos} {wi : TI} {g : TG} {tt : TT} {tk tv : TE} (hu : X.A.units + 9 < cLine) (calm : X.calm = true) (nd : X.N.Nodup) (hi : PI X tg iter wi) (ok : BlkOk X.N X.env.scope scope own)
    (pp : Parts X scope kx vx tg ifs g tt tk tv) (hs : ∀ x, foldedSetIterable iter X.env x = pure x := by intro _; rfl) : PE X (.DictComp kx vx [⟨tg, iter, ifs, 0⟩] scope pos) (tDcN X.prog X.w wi g tt tk tv (own.map (·.2))) := by
  refine .mk fun pins s σ H Q I h => ?_
  rw [arm_eval_DictComp]
  refine dcn_run hu calm nd I hi ok pp hs h ?_
  rintro Dd C s' H' J q ⟨c0, c1, _, c3, c4, c5⟩ ⟨m, ns⟩
  exact ⟨m, ns, fun h'' sb => ⟨.ref Dd, H', J.turned (t' := s'.toks) (fun b _ ne e => (sb.2 b ne).trans e) c0 c1 c3 c4 c5, rfl, q⟩⟩
theorem sw_dict {kx vx : Expr} {gs : List Comprehension} {scope : Scope} {pos py : Pos} {y : Str} {l : Nat} {env : Env} (hk : env.scope.kind = .function) (hy : env.scope.names.lookup y = some .local) (hl : (py.line == pos.line) = true)
    (ha : (scope.names.any fun (n, k) => n == y && (k == .local || k == .cell)) = false) : swapsWith (.DictComp kx vx gs scope pos) (some (.Name y py)) l env = pure true := by
  have q1 : env.blockKind = .function := by simp [Env.blockKind, hk]
  have q2 : env.kindOf y = some .local := hy
  simp only [swapsWith, q1, q2, ha, Expr.pos, hl]
  rfl
/-- name = {..} on one line, the name a local -/
theorem ps_setDcn {i : Nat} {y : Str} {py spos : Pos} {kx vx tg iter : Expr} {ifs : List Expr} {scope : Scope} {own : List (Str × Nat)} {pos : Pos} {wi : TI} {g : TG} {tt : TT} {tk tv : TE} (hu : X.A.units + 9 < cLine) (calm : X.calm = true) (nd : X.N.Nodup) (hy : X.N[i]? = some y) (hyl : X.env.scope.names.lookup y = some .local)
    (hsw : swapsWith (.DictComp kx vx [⟨tg, iter, ifs, 0⟩] scope pos) (some (.Name y py)) spos.line X.env = pure true) (hi : PI X tg iter wi) (ok : BlkOk X.N X.env.scope scope own)
    (pp : Parts X scope kx vx tg ifs g tt tk tv) (hs : ∀ x, foldedSetIterable iter X.env x = pure x := by intro _; rfl) :
    PS X (.Assign [.Name y py] (.DictComp kx vx [⟨tg, iter, ifs, 0⟩] scope pos) spos) (tAsg (tDcN X.prog X.w wi g tt tk tv (own.map (·.2))) (gName i)) := by
  refine .mk fun pins s σ H D I h => ?_
  rw [exec_Assign_Name_used _ _ _ _ hsw]
  refine wpAny_bind (wpAny_standAt (wpAny_bind ?_))
  show wpAny _ _ (comprehension (.DictComp kx vx [⟨tg, iter, ifs, 0⟩] scope pos) scope X.env (firstIterPos [⟨tg, iter, ifs, 0⟩] pos) newDict false (eval iter X.env) (some (assign (.Name y py) X.env)) >>= _) _ _ _
  refine wpAny_bind (thn (dcn_run (Q := fun x H1 => gName i x σ H1 D.nx) (Qf := fun _ s' => SP X pins D .next s') hu calm nd I hi ok pp hs h ?_) fun _ s' hq => wpAny_pure (wpAny_pure hq))
  rintro Dd C s' H' J q ⟨c0, c1, _, c3, c4, c5⟩ ⟨m, ns⟩
  show wpAny _ _ (assign (.Name y py) X.env (.ref Dd)) _ _ _
  refine wpAny_assign_Name (store_ok2 (v := .ref Dd) J nd hy (.inl hyl) rfl ?_ (.inr hyl))
  rintro s2 J2 ⟨a, sb, ha⟩
  have apart : C ≠ a := by
    rcases ha with rfl | z
    · exact c1
    · exact fun e => c4 y a z e.symm
  exact ⟨m, ns.sameBut sb apart, fun h3 sb3 => ⟨_, H', J2.turned (t' := s2.toks) (fun b _ ne e => (sb3.2 b ne).trans e) c0 c1 c3 c4 c5, q⟩⟩
end
end Mw
/-! Data sorted: lists, sets, dicts; the order and the one sorted list. -/
namespace Mw
open PySem PySem.Spec PyProof.Rows L2
open PySem.W (dataLe dataLt keyToks keyToksAll alike alikeAll AllAlike Sortable EachIs TotalLe)

mutual
def enc : D → PyData
  | .none => .none
  | .num i => .int i
  | .text x => .str x
  | .tup ks => .tuple (encs ks)
def encs : List D → List PyData
  | [] => []
  | k :: ks => enc k :: encs ks
end
theorem encs_map : ∀ ks : List D, encs ks = ks.map enc
  | [] => rfl
  | k :: ks => by rw [encs, encs_map ks, List.map_cons]
def leD : D → D → Bool := dataLe false enc
def sortD (l : List D) : List D := l.mergeSort leD
/-- the data can be sorted -/
def Alike (l : List D) : Prop := AllAlike (l.map enc) ∧ Sortable (l.map enc)
theorem leD_total : TotalLe leD := PySem.W.sortLe_total (PyProof.Rows.listOrd PyProof.Rows.itemOrd) false fun b => keyToks (enc b)
theorem sortD_perm (l : List D) : (sortD l).Perm l := List.mergeSort_perm _ _
theorem sortD_le (l : List D) : (sortD l).Pairwise fun a b => leD a b = true := PySem.W.sort_pairwise leD_total l
theorem leD_toks {a b : D} (h1 : leD a b = true) (h2 : leD b a = true) : keyToks (enc a) = keyToks (enc b) := by
  simp only [leD, PySem.W.dataLe_eq, cond_false, Bool.not_eq_true'] at h1 h2
  exact PyProof.Rows.lex_total _ _ h2 h1
mutual
/-- of alike data the tokens tell which it is -/
theorem toks_inj : ∀ (x y : D) (a b : List (Int ⊕ List Nat)), alike (enc x) (enc y) = true → keyToks (enc x) ++ a = keyToks (enc y) ++ b → x = y ∧ a = b
  | .none, .none, _, _, _, e => ⟨rfl, e⟩
  | .num i, .num j, a, b, _, e => by
    simp [enc, keyToks] at e
    exact ⟨by rw [e.1], e.2⟩
  | .text i, .text j, a, b, _, e => by
    simp [enc, keyToks] at e
    refine ⟨?_, e.2⟩
    rw [PySem.W.str_of_cps (x := i) (y := j) (by rw [e.1])]
  | .tup ks, .tup ls, a, b, h, e => by
    simp only [enc, keyToks, alike] at e h
    obtain ⟨q1, q2⟩ := toks_injs ks ls a b h e
    exact ⟨by rw [q1], q2⟩
  | .none, .num _, _, _, h, _ => by simp [enc, alike] at h
  | .none, .text _, _, _, h, _ => by simp [enc, alike] at h
  | .none, .tup _, _, _, h, _ => by simp [enc, alike] at h
  | .num _, .none, _, _, h, _ => by simp [enc, alike] at h
  | .num _, .text _, _, _, h, _ => by simp [enc, alike] at h
  | .num _, .tup _, _, _, h, _ => by simp [enc, alike] at h
  | .text _, .none, _, _, h, _ => by simp [enc, alike] at h
  | .text _, .num _, _, _, h, _ => by simp [enc, alike] at h
  | .text _, .tup _, _, _, h, _ => by simp [enc, alike] at h
  | .tup _, .none, _, _, h, _ => by simp [enc, alike] at h
  | .tup _, .num _, _, _, h, _ => by simp [enc, alike] at h
  | .tup _, .text _, _, _, h, _ => by simp [enc, alike] at h
theorem toks_injs : ∀ (xs ys : List D) (a b : List (Int ⊕ List Nat)), alikeAll (encs xs) (encs ys) = true → keyToksAll (encs xs) ++ a = keyToksAll (encs ys) ++ b → xs = ys ∧ a = b
  | [], [], a, b, _, e => by simpa [encs, keyToksAll] using e
  | [], _ :: _, _, _, _, e => by simp [encs, keyToksAll] at e
  | _ :: _, [], _, _, _, e => by simp [encs, keyToksAll] at e
  | x :: xs, y :: ys, a, b, h, e => by
    simp only [encs, keyToksAll, alikeAll, Bool.and_eq_true, List.cons_append, List.cons.injEq, true_and, List.append_assoc] at e h
    obtain ⟨q1, q2⟩ := toks_inj x y _ _ h.1 e
    obtain ⟨q3, q4⟩ := toks_injs xs ys a b h.2 q2
    exact ⟨by rw [q1, q3], q4⟩
end
theorem Alike.sub {l m : List D} (h : Alike l) (s : ∀ x ∈ m, x ∈ l) : Alike m := by
  have t : ∀ d ∈ m.map enc, d ∈ l.map enc := fun d hd => by
    obtain ⟨x, hx, rfl⟩ := List.mem_map.mp hd
    exact List.mem_map.mpr ⟨x, s x hx, rfl⟩
  exact ⟨fun d hd d' hd' => h.1 d (t d hd) d' (t d' hd'), h.2.elim (fun q => .inl fun d hd => q d (t d hd)) fun q => .inr fun d hd => q d (t d hd)⟩
theorem perm_map_inv {α β : Type} {f : α → β} {l₁ l₂ : List β} (p : l₁.Perm l₂) : ∀ {L : List α}, l₂ = L.map f → ∃ M : List α, M.Perm L ∧ l₁ = M.map f := by
  induction p with
  | nil => intro L e; exact ⟨L, .refl _, e⟩
  | cons x _ ih =>
    intro L e
    cases L with
    | nil => cases e
    | cons y L =>
      rw [List.map_cons, List.cons.injEq] at e
      obtain ⟨M, h1, h2⟩ := ih e.2
      exact ⟨y :: M, h1.cons y, by rw [List.map_cons, ← h2, e.1]⟩
  | swap x y l =>
    intro L e
    rcases L with _ | ⟨a, _ | ⟨b, L⟩⟩
    · cases e
    · cases e
    · simp only [List.map_cons, List.cons.injEq] at e
      exact ⟨b :: a :: L, .swap _ _ _, by simp only [List.map_cons, e.1, e.2.1, e.2.2]⟩
  | trans _ _ ih1 ih2 =>
    intro L e
    obtain ⟨M, h1, h2⟩ := ih2 e
    obtain ⟨N, h3, h4⟩ := ih1 h2
    exact ⟨N, h3.trans h1, h4⟩
theorem leD_anti {l : List D} (h : Alike l) {a b : D} (ha : a ∈ l) (hb : b ∈ l) (h1 : leD a b = true) (h2 : leD b a = true) : a = b := by
  refine (toks_inj a b [] [] (h.1 _ (List.mem_map.mpr ⟨a, ha, rfl⟩) _ (List.mem_map.mpr ⟨b, hb, rfl⟩)) ?_).1
  rw [leD_toks h1 h2]
/-- there is one sorted list -/
theorem sort_one {l m : List D} (h : Alike l) (p : m.Perm l) (s : m.Pairwise fun a b => leD a b = true) : m = sortD l :=
  List.Perm.eq_of_pairwise (le := fun a b => leD a b = true) (fun a b ha hb h1 h2 => leD_anti h (p.mem_iff.mp ha) ((sortD_perm l).mem_iff.mp hb) h1 h2) s (sortD_le l) (p.trans (sortD_perm l).symm)
theorem sort_perm {l m : List D} (h : Alike l) (p : m.Perm l) : sortD m = sortD l := sort_one h ((sortD_perm m).trans p) (sortD_le m)

/-! ### read off the heap -/
section
variable {P : Program} {w : World} {H : Hp} {h : Heap}
mutual
theorem nv_reads (ok : HOk P w H h) : ∀ {k : D} {v : V} {u : Value}, NV H k v → RelV v u → Reads h u (enc k) []
  | _, _, _, .num i, r => by obtain ⟨t, rfl⟩ := r; exact .int i t
  | _, _, _, .text x, r => by obtain ⟨t, rfl⟩ := r; exact .str x t
  | _, _, _, .tup (a := a) (xs := xs) e q, r => by
    cases r
    obtain ⟨_, its, rv, o, h1, h2, n, h3⟩ := (show ObjOk P w H h a (.tup xs) from ok a _ e)
    exact .tuple h1 h2 h3 (by simpa using nvs_reads ok q rv)
theorem nvs_reads (ok : HOk P w H h) : ∀ {ks : List D} {vs : List V} {us : List Value}, NVs H ks vs → Vals vs us → ReadsAll h us (encs ks) []
  | _, _, _, .nil, r => by cases r; exact .nil
  | _, _, _, .cons a b, r => by
    cases r with
    | cons r1 r2 => exact .cons (nv_reads ok a r1) (nvs_reads ok b r2)
end
/-- the value stands for the datum -/
def Stands (H : Hp) (u : Value) (k : D) : Prop := ∃ v, RelV v u ∧ NV H k v
theorem each_of : ∀ {ks : List D} {vs : List V} {us : List Value}, NVs H ks vs → Vals vs us → EachIs (Stands H) us ks
  | _, _, _, .nil, r => by cases r; exact .nil
  | _, _, _, .cons a b, r => by
    cases r with
    | cons r1 r2 => exact .cons ⟨_, r1, a⟩ (each_of b r2)
theorem of_each : ∀ {us : List Value} {ks : List D}, EachIs (Stands H) us ks → ∃ vs, Vals vs us ∧ NVs H ks vs
  | _, _, .nil => ⟨[], .nil, .nil⟩
  | _, _, .cons ⟨v, r, n⟩ t => by
    obtain ⟨vs, r2, n2⟩ := of_each t
    exact ⟨v :: vs, .cons r r2, .cons n n2⟩
end
mutual
theorem enc_depth : ∀ k : D, (enc k).depth = k.depth
  | .none => rfl
  | .num _ => rfl
  | .text _ => rfl
  | .tup ks => by rw [enc, PyData.depth, NestedKey.depth, encs_depth]
theorem encs_depth : ∀ ks : List D, PyData.depthAll (encs ks) = NestedKey.depthAll ks
  | [] => rfl
  | k :: ks => by rw [encs, PyData.depthAll, NestedKey.depthAll, enc_depth, encs_depth]
end

/-! ### the rules -/
section
variable {X : Cx} {pins : List (Addr × Obj)} {σ : L2.St} {H : Hp} {s : Shared}
theorem each_reads {ks : List D} {vs : List V} {us : List Value} (ok : HOk X.prog X.w H s.heap) (n : NVs H ks vs) (r : Vals vs us) : EachIs (fun v b => ∃ as, Reads s.heap v (enc b) as) us ks :=
  (each_of n r).mono fun u k q => let ⟨_, rv, nv⟩ := q; ⟨[], nv_reads ok nv rv⟩
/-- behind a sort the new list stands at p -/
theorem sorted_at (I : Inv X pins σ H s) {p : Addr} {h1 h2 : Heap} {tk : Nat} {us out : List Value} {c : Nat} {ks : List D} {Q : V → Hp → Prop} (hp : s.heap.objs.size ≤ p) (keep : ∀ b o, s.heap.get? b = some o → h1.get? b = some o)
    (at_p : h1.get? p = some (seqObj "list" us.toArray c)) (e : h2 = sortedHeap h1 p us out.toArray) (small : ks.length ≤ sizeLine) (st : EachIs (Stands H) out (sortD ks)) (q : ∀ ys, NVs H (sortD ks) ys → Q (.ref p) (upd H p (.lst ys))) :
    EP X pins σ Q (.ref p) { s with heap := h2, toks := tk } := by
  obtain ⟨ys, rv, n⟩ := of_each st
  obtain ⟨c2, at2⟩ := sortedHeap_at (vs := us) (out := out.toArray) at_p
  have lp : p < h1.objs.size := Heap.lt_size at_p
  refine ⟨.ref p, _, I.laid (t' := tk) (fun b o eb => ?_) hp ?_, rfl, q ys n⟩
  · have lb : b < s.heap.objs.size := Heap.lt_size eb
    rw [e, sortedHeap_old (Nat.ne_of_lt (Nat.lt_of_lt_of_le lb hp)) (Heap.lt_size (keep b o eb))]
    exact keep b o eb
  · rw [e]
    exact ⟨by rw [n.length, (sortD_perm ks).length_eq]; exact small, out, c2, rv, by simpa using at2⟩
/-- sorted(xs) -/
def rSortL (K : PySem.W.Frag) : List V → Hp → VK → Prop := fun vs H Q => ∃ l xs ks, vs = [.ref l] ∧ SqL K H l xs ∧ NVs H ks xs ∧ Alike ks ∧ (∀ k ∈ ks, k.depth ≤ 8) ∧ ∀ p ys, H p = none → NVs H (sortD ks) ys → Q (.ref p) (upd H p (.lst ys))
theorem cr_sortL (hu : X.A.units + 12 < cLine) : CallR X (.builtin "sorted") (rSortL X.K) := by
  rintro pins s σ H vs us Q I r ⟨l, xs, ks, rfl, hl, n, al, dp, q⟩
  obtain ⟨u, rfl, ru⟩ := vals1 r
  obtain rfl : u = .ref l := ru
  obtain ⟨its, rv, pl, hz⟩ := I.list hl
  have len : ks.length ≤ sizeLine := by rw [← n.length]; exact hz
  refine PySem.W.sorted_data (enc := enc) pl.isList (each_of n rv) (each_reads I.hok n rv) al.1 al.2 len (fun k hk => by rw [enc_depth]; have := dp k hk; omega) fun out _ st => ?_
  have fresh : H (s.heap.objs.size + 1) = none := I.hok.fresh (Nat.le_succ _)
  exact sorted_at I (h1 := PySem.W.copyHeap s.heap its) (us := its) (out := out) (tk := s.toks) (Nat.le_succ _) (fun _ _ => PySem.W.copyHeap_old) (PySem.W.copyHeap_at s.heap its) rfl len st fun ys ny => q _ ys fresh ny
/-- behind the gathering: the new list, sorted -/
theorem sort_gathered (I : Inv X pins σ H s) {h1 : Heap} {tk : Nat} {us : List Value} {xs : List V} {ks : List D} {Q : V → Hp → Prop} {A : Around} {E : Value → Shared → Prop} (hu : A.units + 12 < cLine) (keep : ∀ b o, s.heap.get? b = some o → h1.get? b = some o) (le : s.heap.objs.size ≤ h1.objs.size)
    (n : NVs H ks xs) (rv : Vals xs us) (al : Alike ks) (dp : ∀ k ∈ ks, k.depth ≤ 8) (small : ks.length ≤ sizeLine) (q : ∀ p ys, H p = none → NVs H (sortD ks) ys → Q (.ref p) (upd H p (.lst ys))) :
    wpAny (model X.prog X.w) A (call (.builtin "list.sort") [.ref h1.objs.size]) (fun _ s' => EP X pins σ Q (.ref h1.objs.size) s') E { s with heap := h1.push (seqObj "list" us.toArray 0), toks := tk } := by
  have keep2 : ∀ b o, s.heap.get? b = some o → (h1.push (seqObj "list" us.toArray 0)).get? b = some o := fun b o e => Heap.get?_push_of_some _ (keep b o e)
  have ok : HOk X.prog X.w H (h1.push (seqObj "list" us.toArray 0)) := I.hok.kept keep2
  have at_ : (h1.push (seqObj "list" us.toArray 0)).get? h1.objs.size = some (seqObj "list" us.toArray 0) := Heap.get?_push_size _ rfl
  have er : EachIs (fun v b => ∃ as, Reads (h1.push (seqObj "list" us.toArray 0)) v (enc b) as ∧ h1.objs.size ∉ as) us ks :=
    (each_of n rv).mono fun u k z => let ⟨_, rv, nv⟩ := z; ⟨[], nv_reads ok nv rv, List.not_mem_nil⟩
  refine PySem.W.list_sort_data (s := { s with heap := h1.push (seqObj "list" us.toArray 0), toks := tk }) (enc := enc) at_ (each_of n rv) er al.1 al.2 small (fun k hk => by rw [enc_depth]; have := dp k hk; omega) fun out _ st => ?_
  exact sorted_at I (us := us) (out := out) (tk := tk) le keep2 at_ rfl small st fun ys ny => q _ ys (I.hok.fresh le) ny
/-- sorted(d), d a dict whose keys are data -/
def rSortN (P : Program) (w : World) : List V → Hp → VK → Prop := fun vs H Q => ∃ d kvs, vs = [.ref d] ∧ RD P w H d kvs ∧ Alike (kvs.map (·.1)) ∧ ∀ p ys, H p = none → NVs H (sortD (kvs.map (·.1))) ys → Q (.ref p) (upd H p (.lst ys))
theorem cr_sortN (hc : X.calm = true) (hu : X.A.units + 13 < cLine) : CallR X (.builtin "sorted") (rSortN X.prog X.w) := by
  rintro pins s σ H vs us Q I r ⟨d, kvs, rfl, g, al, q⟩
  obtain ⟨u, rfl, ru⟩ := vals1 r
  obtain rfl : u = .ref d := ru
  obtain ⟨xs, rfl, kin, z, hm, ys, rel, dd⟩ := g.get I.hok
  obtain ⟨o, es, ep, ho, hex, hd, he, _⟩ := id dd
  rw [keysE] at al q
  have ly : ys.length = xs.length := (Paired.length rel).symm
  have size : es.size = xs.length := by rw [size_of_entries he]; exact ly
  refine Calls.call_function_entry PyProof.Rows.kind_sorted PyProof.Rows.plain_sorted PyProof.Rows.entry_sorted (PyProof.Rows.args_sorted1 _) ?_
  unfold Builtin.«sorted»
  refine wpAny_bind (m := checkCount "sorted" 1 1 _) (wpAny_pure (wpAny_bind (PySem.W.kdu_collect (A := X.A.in1) (KdlSrc.rawDict hm) (I.ok.hd hc) (show Heap.DictRaw s.heap d es ep from ⟨o, ho, hex, hd⟩) (by rw [size]; exact z) fun h' tk acc keep items => ?_)))
  have vals : acc.toList = xs.map fun e => Value.ref e.2.1 := by
    apply List.ext_getElem?
    intro i
    rw [Array.getElem?_toList, List.getElem?_map]
    by_cases lt : i < acc.size
    · obtain ⟨hi, e⟩ := items.2 i acc[i] (Array.getElem?_eq_getElem lt)
      obtain ⟨x, hx⟩ : ∃ x, xs[i]? = some x := ⟨_, List.getElem?_eq_getElem (size ▸ hi)⟩
      obtain ⟨y, hy, _, e2, _⟩ := paired_get rel hx
      have en := entry_at he i
      rw [hy, Array.getElem?_eq_getElem hi] at en
      rw [Array.getElem?_eq_getElem lt, hx, e, Option.some.inj en]
      exact congrArg (fun b => some (Value.ref b)) e2.symm
    · have h1 := items.1
      rw [Array.getElem?_eq_none (Nat.le_of_not_lt lt), List.getElem?_eq_none (by omega)]
      rfl
  have rv : Vals (xs.map fun e => V.ref e.2.1) acc.toList := by
    rw [vals]
    clear vals items rel kin al q g z size ly dd he
    induction xs with
    | nil => exact .nil
    | cons x xs ih => exact .cons rfl ih
  have ks := allKey_of kin.1
  have small : (xs.map (·.1)).length ≤ sizeLine := by rw [List.length_map]; exact z
  have len : acc.toList.length ≤ sizeLine := by rw [vals, List.length_map]; exact z
  have I1 : Inv X pins σ H { s with heap := h', toks := tk } := I.kept keep
  refine wpAny_bind (wpAny_newList ?_ len)
  refine wpAny_bind (wpAny_holding (thn (sort_gathered (A := X.A.in1) (tk := tk) I1 (show X.A.units + 1 + 12 < cLine by omega) (fun _ _ e => e) (Nat.le_refl _) ks.1 rv al (fun k hk => (ks.2 k hk).1) small q) fun _ s' fin => wpAny_pure ⟨_, rfl, fin⟩))
/-- the set at a, whatever the tuples are -/
def rawS (P : Program) (w : World) (a : Addr) (L : List (Addr × D)) (h : Heap) : Prop := ∃ (es : Array (Int × Value)) (ep : Nat) (t : SetTable), (∃ o, h.get? a = some o ∧ o.ExactSet ∧ o.data = .set es ep t) ∧ es.toList = rowN w L ∧ Tab t (L.map fun p => hs w p.2) ∧ (L.map (·.2)).Nodup ∧
  t.plain = true ∧ (w.params.followText "set-order" = true ∨ t.led = true) ∧ L.length * 5 < t.mask * 3 ∧ Six t.mask
/-- a set of the data S -/
def SD (P : Program) (w : World) (H : Hp) (a : Addr) (S : List D) : Prop := ∃ L, H a = some (.ext (rawS P w a L)) ∧ L.map (·.2) = S ∧ ∀ p ∈ L, NV H p.2 (.ref p.1) ∧ p.2.depth ≤ 8 ∧ numk p.2 = true
theorem rawS_ok {P : Program} {w : World} {h : Heap} {a : Addr} {L : List (Addr × D)} (r : rawS P w a L h) : ObjOk P w H h a (.ext (rawS P w a L)) := by
  have ⟨es, ep, t, ⟨o, ho, r1⟩, r2⟩ := r
  refine ⟨r, ⟨o, ho⟩, fun h1 h2 p k => ?_⟩
  have ⟨es, ep, t, ⟨o, ho, r1⟩, r2⟩ := p
  exact ⟨es, ep, t, ⟨o, k o ho, r1⟩, r2⟩
/-- set(xs), the data within U -/
def rSetN (P : Program) (w : World) (K : PySem.W.Frag) : List V → Hp → VK → Prop := fun vs H Q => ∃ (l : Addr) (xs : List V) (ks U : List D), vs = [.ref l] ∧ SqL K H l xs ∧ AllKey H ks xs ∧ (∀ k ∈ ks, numk k = true ∧ k ∈ U) ∧ U.length ≤ 4914 ∧
  ∀ a o S, H a = none → SD P w (upd H a o) a S → S.Nodup → (∀ k, k ∈ S ↔ k ∈ ks) → Q (.ref a) (upd H a o)
theorem zip_refs {H : Hp} : ∀ {ks : List D} {xs : List V} {us : List Value}, AllKey H ks xs → Vals xs us → ∃ L : List (Addr × D), L.map (·.2) = ks ∧ us = L.map (fun p => .ref p.1) ∧ ∀ p ∈ L, NV H p.2 (.ref p.1) ∧ p.2.depth ≤ 8
  | _, _, _, ⟨.nil, _⟩, r => by cases r; exact ⟨[], rfl, rfl, fun _ h => absurd h List.not_mem_nil⟩
  | k :: ks, _, _, ⟨.cons n ns, ok⟩, r => by
    cases r with
    | cons r1 r2 =>
      obtain ⟨d, l, rfl⟩ := ok k List.mem_cons_self
      obtain ⟨a, _, rfl, _⟩ := nv_tup n
      obtain ⟨L, e1, e2, h⟩ := zip_refs ⟨ns, fun j hj => ok j (List.mem_cons_of_mem _ hj)⟩ r2
      obtain rfl := r1
      refine ⟨(a, .tup l) :: L, by rw [List.map_cons, e1], by rw [List.map_cons, e2], fun p hp => ?_⟩
      rcases List.mem_cons.mp hp with rfl | hp
      · exact ⟨n, d⟩
      · exact h p hp
theorem cr_setN (hc : X.calm = true) (hu : X.A.units + 12 < cLine) : CallR X (.type "set") (rSetN X.prog X.w X.K) := by
  rintro pins s σ H vs us Q I r ⟨l, xs, ks, U, rfl, hl, ak, num, hU, q⟩
  obtain ⟨u, rfl, ru⟩ := vals1 r
  obtain rfl : u = .ref l := ru
  obtain ⟨its, rv, pl, hz⟩ := I.list hl
  obtain ⟨L, e1, e2, nv⟩ := zip_refs ak rv
  have num2 : ∀ p ∈ L, numk p.2 = true ∧ p.2 ∈ U := fun p hp => num p.2 (e1 ▸ List.mem_map.mpr ⟨p, hp, rfl⟩)
  refine call_setN (P := X.prog) (w := X.w) (ks := L) (I.ok.hd hc) pl.isList (by simpa using e2) (fun p hp => ⟨key_is I.hok (nv p hp).1 (nv p hp).2, (num2 p hp).1⟩) U hU (fun p hp => (num2 p hp).2) hu fun h' tk M es ep t R took keep => ?_
  have fresh : H s.heap.objs.size = none := I.hok.fresh (Nat.le_refl _)
  have sub : ∀ p ∈ M, p ∈ L := fun p hp => List.mem_of_mem_take (took.sub p hp)
  have raw : rawS X.prog X.w s.heap.objs.size M h' := ⟨es, ep, t, R.ob, R.rows, R.tab, R.nd, R.plain, R.led, R.room, R.six⟩
  refine ⟨.ref _, _, I.laid (t' := tk) keep (Nat.le_refl _) (rawS_ok raw), rfl, q _ _ (M.map (·.2)) fresh ⟨M, upd_same, rfl, fun p hp => ?_⟩ R.nd fun k => ⟨fun m => ?_, fun m => ?_⟩⟩
  · exact ⟨(nv p (sub p hp)).1.mono (Tp.new fresh), (nv p (sub p hp)).2, (num2 p (sub p hp)).1⟩
  · obtain ⟨p, hp, rfl⟩ := List.mem_map.mp m
    exact e1 ▸ List.mem_map.mpr ⟨p, sub p hp, rfl⟩
  · rw [← e1] at m
    obtain ⟨p, hp, rfl⟩ := List.mem_map.mp m
    exact took.all p (by rw [List.take_length]; exact hp)
/-- sorted(a set) -/
def rSortS (P : Program) (w : World) : List V → Hp → VK → Prop := fun vs H Q => ∃ a S, vs = [.ref a] ∧ SD P w H a S ∧ Alike S ∧ ∀ p ys, H p = none → NVs H (sortD S) ys → Q (.ref p) (upd H p (.lst ys))
theorem cr_sortS (hc : X.calm = true) (hu : X.A.units + 13 < cLine) : CallR X (.builtin "sorted") (rSortS X.prog X.w) := by
  rintro pins s σ H vs us Q I r ⟨a, S, rfl, ⟨L, at_, rfl, nv⟩, al, q⟩
  obtain ⟨u, rfl, ru⟩ := vals1 r
  obtain rfl : u = .ref a := ru
  obtain ⟨es, ep, t, ob, rows, tab, nd, pl, led, room, six⟩ := (I.hok a _ at_).1
  have R : SetN X.prog X.w s.heap a L es ep t := ⟨ob, rows, tab, nd, fun p hp => ⟨key_is I.hok (nv p hp).1 (nv p hp).2.1, (nv p hp).2.2⟩, pl, led, room, six⟩
  refine Calls.call_function_entry PyProof.Rows.kind_sorted PyProof.Rows.plain_sorted PyProof.Rows.entry_sorted (PyProof.Rows.args_sorted1 _) ?_
  unfold Builtin.«sorted»
  refine wpAny_bind (m := checkCount "sorted" 1 1 _) (wpAny_pure (wpAny_bind (gather (A := X.A.in1) R (I.ok.hd hc) fun h' tk out keep perm => ?_)))
  rw [rows, rowN, List.map_map] at perm
  -- the values are the rows' tuples, in some order
  obtain ⟨M, pm, rfl⟩ : ∃ M : List (Addr × D), M.Perm L ∧ out = M.map fun p => Value.ref p.1 := perm_map_inv perm rfl
  have I1 : Inv X pins σ H { s with heap := h', toks := tk } := I.kept keep
  have size := R.room
  have small : (M.map (·.2)).length ≤ sizeLine := by
    rw [List.length_map, pm.length_eq, sizeLine_eq]
    have := tab.msk.le.1
    omega
  have ns : ∀ M : List (Addr × D), (∀ p ∈ M, NV H p.2 (.ref p.1)) → NVs H (M.map (·.2)) (M.map fun p => V.ref p.1) ∧ Vals (M.map fun p => V.ref p.1) (M.map fun p => Value.ref p.1) := by
    intro M
    induction M with
    | nil => exact fun _ => ⟨.nil, .nil⟩
    | cons p M ih =>
      intro h
      obtain ⟨h1, h2⟩ := ih fun q hq => h q (List.mem_cons_of_mem _ hq)
      exact ⟨.cons (h p List.mem_cons_self) h1, .cons rfl h2⟩
  obtain ⟨n1, n2⟩ := ns M fun p hp => (nv p (pm.mem_iff.mp hp)).1
  have pd : (M.map (·.2)).Perm (L.map (·.2)) := pm.map _
  have al2 : Alike (M.map (·.2)) := al.sub fun x hx => pd.mem_iff.mp hx
  refine wpAny_bind (wpAny_newList ?_ (by simpa using small))
  refine wpAny_bind (wpAny_holding (thn (sort_gathered (A := X.A.in1) (tk := tk) I1 (show X.A.units + 1 + 12 < cLine by omega) (fun _ _ e => e) (Nat.le_refl _) n1 n2 al2 (fun k hk => ?_) small fun p ys hp ny => ?_) fun _ s' fin => wpAny_pure ⟨_, rfl, fin⟩))
  · obtain ⟨p, hp, rfl⟩ := List.mem_map.mp (pd.mem_iff.mp hk)
    exact (nv p hp).2.1
  · rw [sort_perm al pd] at ny
    exact q p ys hp ny
end
end Mw
/-! Programs of the network as trees; their runs; the first mark that is met, what comes behind a mark. -/
namespace Mw
open PySem L2

abbrev Pk := List Nat
inductive Src where
  | pass | drop | mark
  | is (f : Str) (n : Nat) | set (f : Str) (n : Nat) | take (f g : Str)
  | not (t : Src) | loop (t : Src)
  | row (ts : List Src) | alt (ts : List Src)
/-- where a field stands -/
def at_ (fs : List Str) (f : Str) : Nat := fs.idxOf f
mutual
def holds (fs : List Str) : Src → Pk → Bool
  | .pass, _ => true
  | .is f n, p => p.getD (at_ fs f) 0 == n
  | .not t, p => !holds fs t p
  | .row ts, p => holdsAll fs ts p
  | .alt ts, p => holdsAny fs ts p
  | _, _ => false
def holdsAll (fs : List Str) : List Src → Pk → Bool
  | [], _ => true
  | t :: ts, p => holds fs t p && holdsAll fs ts p
def holdsAny (fs : List Str) : List Src → Pk → Bool
  | [], _ => false
  | t :: ts, p => holds fs t p || holdsAny fs ts p
end
/-- what a leaf makes of a packet -/
def act (fs : List Str) : Src → Pk → Option Pk
  | .set f n, p => some (p.set (at_ fs f) n)
  | .take f g, p => some (p.set (at_ fs f) (p.getD (at_ fs g) 0))
  | t, p => if holds fs t p = true then some p else none
mutual
/-- how many marks -/
def nm : Src → Nat
  | .mark => 1
  | .row ts => nms ts
  | .alt ts => nms ts
  | .loop t => nm t
  | _ => 0
def nms : List Src → Nat
  | [] => 0
  | t :: ts => nm t + nms ts
end
inductive Star {α : Type} (R : α → α → Prop) : α → α → Prop
  | refl {a : α} : Star R a a
  | step {a b c : α} : R a b → Star R b c → Star R a c
theorem Star.trans {α : Type} {R : α → α → Prop} {a b c : α} (h : Star R a b) (g : Star R b c) : Star R a c := by
  induction h with
  | refl => exact g
  | step r _ ih => exact .step r (ih g)
theorem Star.one {α : Type} {R : α → α → Prop} {a b : α} (h : R a b) : Star R a b := .step h .refl
/-- laps of a loop, with what they write down -/
inductive Laps (R : Pk → List Pk → Pk → Prop) : Pk → List Pk → Pk → Prop
  | refl {p : Pk} : Laps R p [] p
  | step {p r q : Pk} {m n : List Pk} : R p m r → Laps R r n q → Laps R p (m ++ n) q
section
variable (fs : List Str)
mutual
/-- a run from p that writes ms down and ends at q -/
def Run : Src → Pk → List Pk → Pk → Prop
  | .mark, p, ms, q => ms = [p] ∧ q = p
  | .row ts, p, ms, q => RunL ts p ms q
  | .alt ts, p, ms, q => RunA ts p ms q
  | .loop t, p, ms, q => Laps (Run t) p ms q
  | .pass, p, ms, q => ms = [] ∧ act fs .pass p = some q
  | .drop, p, ms, q => ms = [] ∧ act fs .drop p = some q
  | .is f n, p, ms, q => ms = [] ∧ act fs (.is f n) p = some q
  | .set f n, p, ms, q => ms = [] ∧ act fs (.set f n) p = some q
  | .take f g, p, ms, q => ms = [] ∧ act fs (.take f g) p = some q
  | .not t, p, ms, q => ms = [] ∧ act fs (.not t) p = some q
def RunL : List Src → Pk → List Pk → Pk → Prop
  | [], p, ms, q => ms = [] ∧ q = p
  | t :: ts, p, ms, q => ∃ m n r, ms = m ++ n ∧ Run t p m r ∧ RunL ts r n q
def RunA : List Src → Pk → List Pk → Pk → Prop
  | [], _, _, _ => False
  | t :: ts, p, ms, q => Run t p ms q ∨ RunA ts p ms q
end
mutual
/-- through without a mark -/
def Out : Src → Pk → Pk → Prop
  | .mark, _, _ => False
  | .row ts, p, q => OutL ts p q
  | .alt ts, p, q => OutA ts p q
  | .loop t, p, q => Star (Out t) p q
  | .pass, p, q => act fs .pass p = some q
  | .drop, p, q => act fs .drop p = some q
  | .is f n, p, q => act fs (.is f n) p = some q
  | .set f n, p, q => act fs (.set f n) p = some q
  | .take f g, p, q => act fs (.take f g) p = some q
  | .not t, p, q => act fs (.not t) p = some q
def OutL : List Src → Pk → Pk → Prop
  | [], p, q => q = p
  | t :: ts, p, q => ∃ r, Out t p r ∧ OutL ts r q
def OutA : List Src → Pk → Pk → Prop
  | [], _, _ => False
  | t :: ts, p, q => Out t p q ∨ OutA ts p q
end
mutual
/-- the first mark met: its number (b marks stand ahead of the tree), the packet there -/
def Hit : Src → Nat → Pk → Nat → Pk → Prop
  | .mark, b, p, m, q => m = b + 1 ∧ q = p
  | .row ts, b, p, m, q => HitL ts b p m q
  | .alt ts, b, p, m, q => HitA ts b p m q
  | .loop t, b, p, m, q => ∃ r, Star (Out fs t) p r ∧ Hit t b r m q
  | _, _, _, _, _ => False
def HitL : List Src → Nat → Pk → Nat → Pk → Prop
  | [], _, _, _, _ => False
  | t :: ts, b, p, m, q => Hit t b p m q ∨ ∃ r, Out fs t p r ∧ HitL ts (b + nm t) r m q
def HitA : List Src → Nat → Pk → Nat → Pk → Prop
  | [], _, _, _, _ => False
  | t :: ts, b, p, m, q => Hit t b p m q ∨ HitA ts (b + nm t) p m q
end
mutual
/-- from mark m on to the end, no mark between -/
def OnOut : Src → Nat → Nat → Pk → Pk → Prop
  | .mark, _, _, p, q => q = p
  | .row ts, b, m, p, q => OnOutL ts b m p q
  | .alt ts, b, m, p, q => OnOutA ts b m p q
  | .loop t, b, m, p, q => ∃ r, OnOut t b m p r ∧ Star (Out fs t) r q
  | _, _, _, _, _ => False
def OnOutL : List Src → Nat → Nat → Pk → Pk → Prop
  | [], _, _, _, _ => False
  | t :: ts, b, m, p, q => if m ≤ b + nm t then ∃ r, OnOut t b m p r ∧ OutL fs ts r q else OnOutL ts (b + nm t) m p q
def OnOutA : List Src → Nat → Nat → Pk → Pk → Prop
  | [], _, _, _, _ => False
  | t :: ts, b, m, p, q => if m ≤ b + nm t then OnOut t b m p q else OnOutA ts (b + nm t) m p q
end
mutual
/-- from mark m on to the next mark -/
def OnHit : Src → Nat → Nat → Pk → Nat → Pk → Prop
  | .row ts, b, m, p, m', q => OnHitL ts b m p m' q
  | .alt ts, b, m, p, m', q => OnHitA ts b m p m' q
  | .loop t, b, m, p, m', q => OnHit t b m p m' q ∨ ∃ r, OnOut fs t b m p r ∧ Hit fs (.loop t) b r m' q
  | _, _, _, _, _, _ => False
def OnHitL : List Src → Nat → Nat → Pk → Nat → Pk → Prop
  | [], _, _, _, _, _ => False
  | t :: ts, b, m, p, m', q => if m ≤ b + nm t then OnHit t b m p m' q ∨ ∃ r, OnOut fs t b m p r ∧ HitL fs ts (b + nm t) r m' q else OnHitL ts (b + nm t) m p m' q
def OnHitA : List Src → Nat → Nat → Pk → Nat → Pk → Prop
  | [], _, _, _, _, _ => False
  | t :: ts, b, m, p, m', q => if m ≤ b + nm t then OnHit t b m p m' q else OnHitA ts (b + nm t) m p m' q
end
/-- from mark m on, by a next mark each -/
def From (t : Src) (b : Nat) : Nat → Pk → List Pk → Pk → Prop
  | m, p, [], q => OnOut fs t b m p q
  | m, p, p' :: ms, q => ∃ m', OnHit fs t b m p m' p' ∧ From t b m' p' ms q
/-- by the marks -/
def Way (t : Src) (b : Nat) (p : Pk) (ms : List Pk) (q : Pk) : Prop := (ms = [] ∧ Out fs t p q) ∨ ∃ m p' ms', ms = p' :: ms' ∧ Hit fs t b p m p' ∧ From fs t b m p' ms' q
end
end Mw
/-! The course of a run, mark by mark. -/
namespace Mw
open PySem L2
variable {fs : List Str}

mutual
theorem hit_in : ∀ (t : Src) (b : Nat) (p : Pk) (m : Nat) (q : Pk), Hit fs t b p m q → b < m ∧ m ≤ b + nm t
  | .mark, b, p, m, q, h => by
    simp only [Hit] at h
    simp only [nm]
    omega
  | .row ts, b, p, m, q, h => by
    simp only [Hit] at h
    exact hitL_in ts b p m q h
  | .alt ts, b, p, m, q, h => by
    simp only [Hit] at h
    exact hitA_in ts b p m q h
  | .loop t, b, p, m, q, h => by
    simp only [Hit] at h
    obtain ⟨r, _, h⟩ := h
    exact hit_in t b r m q h
  | .pass, _, _, _, _, h => by simp only [Hit] at h
  | .drop, _, _, _, _, h => by simp only [Hit] at h
  | .is _ _, _, _, _, _, h => by simp only [Hit] at h
  | .set _ _, _, _, _, _, h => by simp only [Hit] at h
  | .take _ _, _, _, _, _, h => by simp only [Hit] at h
  | .not _, _, _, _, _, h => by simp only [Hit] at h
theorem hitL_in : ∀ (ts : List Src) (b : Nat) (p : Pk) (m : Nat) (q : Pk), HitL fs ts b p m q → b < m ∧ m ≤ b + nms ts
  | [], _, _, _, _, h => by simp only [HitL] at h
  | t :: ts, b, p, m, q, h => by
    simp only [HitL] at h
    simp only [nms]
    rcases h with h | ⟨r, _, h⟩
    · have := hit_in t b p m q h; omega
    · have := hitL_in ts (b + nm t) r m q h; omega
theorem hitA_in : ∀ (ts : List Src) (b : Nat) (p : Pk) (m : Nat) (q : Pk), HitA fs ts b p m q → b < m ∧ m ≤ b + nms ts
  | [], _, _, _, _, h => by simp only [HitA] at h
  | t :: ts, b, p, m, q, h => by
    simp only [HitA] at h
    simp only [nms]
    rcases h with h | h
    · have := hit_in t b p m q h; omega
    · have := hitA_in ts (b + nm t) p m q h; omega
end
mutual
theorem onHit_in : ∀ (t : Src) (b m : Nat) (p : Pk) (m' : Nat) (q : Pk), OnHit fs t b m p m' q → b < m' ∧ m' ≤ b + nm t
  | .mark, _, _, _, _, _, h => by simp only [OnHit] at h
  | .row ts, b, m, p, m', q, h => by
    simp only [OnHit] at h
    exact onHitL_in ts b m p m' q h
  | .alt ts, b, m, p, m', q, h => by
    simp only [OnHit] at h
    exact onHitA_in ts b m p m' q h
  | .loop t, b, m, p, m', q, h => by
    simp only [OnHit] at h
    rcases h with h | ⟨r, _, h⟩
    · exact onHit_in t b m p m' q h
    · exact hit_in (.loop t) b r m' q h
  | .pass, _, _, _, _, _, h => by simp only [OnHit] at h
  | .drop, _, _, _, _, _, h => by simp only [OnHit] at h
  | .is _ _, _, _, _, _, _, h => by simp only [OnHit] at h
  | .set _ _, _, _, _, _, _, h => by simp only [OnHit] at h
  | .take _ _, _, _, _, _, _, h => by simp only [OnHit] at h
  | .not _, _, _, _, _, _, h => by simp only [OnHit] at h
theorem onHitL_in : ∀ (ts : List Src) (b m : Nat) (p : Pk) (m' : Nat) (q : Pk), OnHitL fs ts b m p m' q → b < m' ∧ m' ≤ b + nms ts
  | [], _, _, _, _, _, h => by simp only [OnHitL] at h
  | t :: ts, b, m, p, m', q, h => by
    simp only [OnHitL] at h
    simp only [nms]
    split at h
    · rcases h with h | ⟨r, _, h⟩
      · have := onHit_in t b m p m' q h; omega
      · have := hitL_in ts (b + nm t) r m' q h; omega
    · have := onHitL_in ts (b + nm t) m p m' q h; omega
theorem onHitA_in : ∀ (ts : List Src) (b m : Nat) (p : Pk) (m' : Nat) (q : Pk), OnHitA fs ts b m p m' q → b < m' ∧ m' ≤ b + nms ts
  | [], _, _, _, _, _, h => by simp only [OnHitA] at h
  | t :: ts, b, m, p, m', q, h => by
    simp only [OnHitA] at h
    simp only [nms]
    split at h
    · have := onHit_in t b m p m' q h; omega
    · have := onHitA_in ts (b + nm t) m p m' q h; omega
end

/-! ### rows -/
theorem way_nil {t : Src} {b : Nat} {p q : Pk} : Way fs t b p [] q ↔ Out fs t p q := by
  constructor
  · rintro (⟨_, h⟩ | ⟨_, _, _, e, _⟩)
    · exact h
    · cases e
  · exact fun h => .inl ⟨rfl, h⟩
theorem way_cons {t : Src} {b : Nat} {p q x : Pk} {ms : List Pk} : Way fs t b p (x :: ms) q ↔ ∃ m, Hit fs t b p m x ∧ From fs t b m x ms q := by
  constructor
  · rintro (⟨e, _⟩ | ⟨m, x', ms', e, h1, h2⟩)
    · cases e
    · cases e
      exact ⟨m, h1, h2⟩
  · exact fun ⟨m, h1, h2⟩ => .inr ⟨m, x, ms, rfl, h1, h2⟩
theorem row_out {t : Src} {ts : List Src} {b : Nat} : ∀ (ms : List Pk) {m : Nat} {p q : Pk}, b + nm t < m → (From fs (.row (t :: ts)) b m p ms q ↔ From fs (.row ts) (b + nm t) m p ms q)
  | [], m, p, q, h => by
    simp only [From, OnOut, OnOutL]
    simp only [if_neg (show ¬ m ≤ b + nm t by omega)]
  | x :: ms, m, p, q, h => by
    simp only [From, OnHit, OnHitL]
    simp only [if_neg (show ¬ m ≤ b + nm t by omega)]
    constructor
    · rintro ⟨m', h1, h2⟩
      exact ⟨m', h1, (row_out ms (by have := onHitL_in ts _ _ _ _ _ h1; omega)).mp h2⟩
    · rintro ⟨m', h1, h2⟩
      exact ⟨m', h1, (row_out ms (by have := onHitL_in ts _ _ _ _ _ h1; omega)).mpr h2⟩
theorem row_in {t : Src} {ts : List Src} {b : Nat} : ∀ (ms : List Pk) {m : Nat} {p q : Pk}, m ≤ b + nm t → From fs (.row (t :: ts)) b m p ms q →
    ∃ s1 s2 r, ms = s1 ++ s2 ∧ From fs t b m p s1 r ∧ Way fs (.row ts) (b + nm t) r s2 q
  | [], m, p, q, h, f => by
    simp only [From, OnOut, OnOutL] at f
    simp only [if_pos h] at f
    obtain ⟨r, h1, h2⟩ := f
    exact ⟨[], [], r, rfl, h1, way_nil.mpr (by simpa only [Out] using h2)⟩
  | x :: ms, m, p, q, h, f => by
    simp only [From, OnHit, OnHitL] at f
    simp only [if_pos h] at f
    obtain ⟨m', h1 | ⟨r, h1, h2⟩, f⟩ := f
    · have := onHit_in t _ _ _ _ _ h1
      obtain ⟨s1, s2, r, rfl, f1, f2⟩ := row_in ms this.2 f
      exact ⟨x :: s1, s2, r, rfl, ⟨m', h1, f1⟩, f2⟩
    · have := hitL_in ts _ _ _ _ h2
      exact ⟨[], x :: ms, r, rfl, h1, way_cons.mpr ⟨m', by simpa only [Hit] using h2, (row_out ms this.1).mp f⟩⟩
theorem row_in' {t : Src} {ts : List Src} {b : Nat} {s2 : List Pk} {r q : Pk} (w : Way fs (.row ts) (b + nm t) r s2 q) : ∀ (s1 : List Pk) {m : Nat} {p : Pk}, m ≤ b + nm t → From fs t b m p s1 r → From fs (.row (t :: ts)) b m p (s1 ++ s2) q
  | [], m, p, h, f => by
    have f : OnOut fs t b m p r := f
    cases s2 with
    | nil =>
      simp only [List.append_nil, From, OnOut, OnOutL]
      simp only [if_pos h]
      exact ⟨r, f, by simpa only [Out] using way_nil.mp w⟩
    | cons x s2 =>
      obtain ⟨m', h1, h2⟩ := way_cons.mp w
      simp only [Hit] at h1
      simp only [List.nil_append, From, OnHit, OnHitL]
      simp only [if_pos h]
      exact ⟨m', .inr ⟨r, f, h1⟩, (row_out s2 (hitL_in ts _ _ _ _ h1).1).mpr h2⟩
  | x :: s1, m, p, h, ⟨m', h1, f⟩ => by
    simp only [List.cons_append, From, OnHit, OnHitL]
    simp only [if_pos h]
    exact ⟨m', .inl h1, row_in' w s1 (onHit_in t _ _ _ _ _ h1).2 f⟩
theorem way_row {t : Src} {ts : List Src} {b : Nat} {p q : Pk} {ms : List Pk} : Way fs (.row (t :: ts)) b p ms q ↔ ∃ m n r, ms = m ++ n ∧ Way fs t b p m r ∧ Way fs (.row ts) (b + nm t) r n q := by
  constructor
  · cases ms with
    | nil =>
      intro w
      have w := way_nil.mp w
      simp only [Out, OutL] at w
      obtain ⟨r, h1, h2⟩ := w
      exact ⟨[], [], r, rfl, way_nil.mpr h1, way_nil.mpr (by simpa only [Out] using h2)⟩
    | cons x ms =>
      intro w
      obtain ⟨m, h1, f⟩ := way_cons.mp w
      simp only [Hit, HitL] at h1
      rcases h1 with h1 | ⟨r, h1, h2⟩
      · obtain ⟨s1, s2, r, rfl, f1, f2⟩ := row_in ms (hit_in t _ _ _ _ h1).2 f
        exact ⟨x :: s1, s2, r, rfl, way_cons.mpr ⟨m, h1, f1⟩, f2⟩
      · exact ⟨[], x :: ms, r, rfl, way_nil.mpr h1, way_cons.mpr ⟨m, by simpa only [Hit] using h2, (row_out ms (hitL_in ts _ _ _ _ h2).1).mp f⟩⟩
  · rintro ⟨m, n, r, rfl, w1, w2⟩
    cases m with
    | nil =>
      have w1 := way_nil.mp w1
      cases n with
      | nil =>
        refine way_nil.mpr ?_
        simp only [Out, OutL]
        exact ⟨r, w1, by simpa only [Out] using way_nil.mp w2⟩
      | cons x n =>
        obtain ⟨m, h1, f⟩ := way_cons.mp w2
        simp only [Hit] at h1
        refine way_cons.mpr ⟨m, ?_, (row_out n (hitL_in ts _ _ _ _ h1).1).mpr f⟩
        simp only [Hit, HitL]
        exact .inr ⟨r, w1, h1⟩
    | cons x m =>
      obtain ⟨k, h1, f⟩ := way_cons.mp w1
      refine way_cons.mpr ⟨k, ?_, row_in' w2 m (hit_in t _ _ _ _ h1).2 f⟩
      simp only [Hit, HitL]
      exact .inl h1
/-! ### choices -/
theorem alt_in {t : Src} {ts : List Src} {b : Nat} : ∀ (ms : List Pk) {m : Nat} {p q : Pk}, m ≤ b + nm t → (From fs (.alt (t :: ts)) b m p ms q ↔ From fs t b m p ms q)
  | [], m, p, q, h => by
    simp only [From, OnOut, OnOutA]
    simp only [if_pos h]
  | x :: ms, m, p, q, h => by
    simp only [From, OnHit, OnHitA]
    simp only [if_pos h]
    constructor
    · rintro ⟨m', h1, h2⟩
      exact ⟨m', h1, (alt_in ms (onHit_in t _ _ _ _ _ h1).2).mp h2⟩
    · rintro ⟨m', h1, h2⟩
      exact ⟨m', h1, (alt_in ms (onHit_in t _ _ _ _ _ h1).2).mpr h2⟩
theorem alt_out {t : Src} {ts : List Src} {b : Nat} : ∀ (ms : List Pk) {m : Nat} {p q : Pk}, b + nm t < m → (From fs (.alt (t :: ts)) b m p ms q ↔ From fs (.alt ts) (b + nm t) m p ms q)
  | [], m, p, q, h => by
    simp only [From, OnOut, OnOutA]
    simp only [if_neg (show ¬ m ≤ b + nm t by omega)]
  | x :: ms, m, p, q, h => by
    simp only [From, OnHit, OnHitA]
    simp only [if_neg (show ¬ m ≤ b + nm t by omega)]
    constructor
    · rintro ⟨m', h1, h2⟩
      exact ⟨m', h1, (alt_out ms (onHitA_in ts _ _ _ _ _ h1).1).mp h2⟩
    · rintro ⟨m', h1, h2⟩
      exact ⟨m', h1, (alt_out ms (onHitA_in ts _ _ _ _ _ h1).1).mpr h2⟩
theorem way_alt {t : Src} {ts : List Src} {b : Nat} {p q : Pk} {ms : List Pk} : Way fs (.alt (t :: ts)) b p ms q ↔ Way fs t b p ms q ∨ Way fs (.alt ts) (b + nm t) p ms q := by
  cases ms with
  | nil => simp only [way_nil, Out, OutA]
  | cons x ms =>
    simp only [way_cons, Hit, HitA]
    constructor
    · rintro ⟨m, h | h, f⟩
      · exact .inl ⟨m, h, (alt_in ms (hit_in t _ _ _ _ h).2).mp f⟩
      · exact .inr ⟨m, h, (alt_out ms (hitA_in ts _ _ _ _ h).1).mp f⟩
    · rintro (⟨m, h, f⟩ | ⟨m, h, f⟩)
      · exact ⟨m, .inl h, (alt_in ms (hit_in t _ _ _ _ h).2).mpr f⟩
      · exact ⟨m, .inr h, (alt_out ms (hitA_in ts _ _ _ _ h).1).mpr f⟩
/-! ### loops -/
theorem loop_in {t : Src} {b : Nat} {s2 : List Pk} {r q : Pk} (w : Way fs (.loop t) b r s2 q) : ∀ (s1 : List Pk) {m : Nat} {p : Pk}, From fs t b m p s1 r → From fs (.loop t) b m p (s1 ++ s2) q
  | [], m, p, f => by
    have f : OnOut fs t b m p r := f
    cases s2 with
    | nil =>
      simp only [List.append_nil, From, OnOut]
      exact ⟨r, f, by simpa only [Out] using way_nil.mp w⟩
    | cons x s2 =>
      obtain ⟨m', h1, h2⟩ := way_cons.mp w
      simp only [List.nil_append, From, OnHit]
      exact ⟨m', .inr ⟨r, f, h1⟩, h2⟩
  | x :: s1, m, p, ⟨m', h1, f⟩ => by
    simp only [List.cons_append, From, OnHit]
    exact ⟨m', .inl h1, loop_in w s1 f⟩
theorem laps_silent {t : Src} (ih : ∀ b p ms q, Run fs t p ms q ↔ Way fs t b p ms q) {p r q : Pk} {ms : List Pk} (h : Star (Out fs t) p r) (l : Laps (Run fs t) r ms q) : Laps (Run fs t) p ms q := by
  induction h with
  | refl => exact l
  | step o _ ih2 => exact Laps.step (m := []) ((ih 0 _ _ _).mpr (way_nil.mpr o)) (ih2 l)
theorem loop_out {t : Src} {b : Nat} (ih : ∀ b p ms q, Run fs t p ms q ↔ Way fs t b p ms q) : ∀ (ms : List Pk) {m : Nat} {p q : Pk}, From fs (.loop t) b m p ms q → ∃ s1 s2 r, ms = s1 ++ s2 ∧ From fs t b m p s1 r ∧ Laps (Run fs t) r s2 q
  | [], m, p, q, f => by
    simp only [From, OnOut] at f
    obtain ⟨r, h1, h2⟩ := f
    exact ⟨[], [], r, rfl, h1, laps_silent ih h2 .refl⟩
  | x :: ms, m, p, q, f => by
    simp only [From, OnHit] at f
    obtain ⟨m', h1, f⟩ := f
    obtain ⟨s1, s2, r, rfl, f1, f2⟩ := loop_out ih ms f
    rcases h1 with h1 | ⟨r0, h1, h2⟩
    · exact ⟨x :: s1, s2, r, rfl, ⟨m', h1, f1⟩, f2⟩
    · simp only [Hit] at h2
      obtain ⟨q0, h3, h4⟩ := h2
      refine ⟨[], x :: (s1 ++ s2), r0, rfl, h1, laps_silent ih h3 ?_⟩
      exact Laps.step (m := x :: s1) ((ih b _ _ _).mpr (way_cons.mpr ⟨m', h4, f1⟩)) f2
theorem way_loop {t : Src} {b : Nat} (ih : ∀ b p ms q, Run fs t p ms q ↔ Way fs t b p ms q) {p q : Pk} {ms : List Pk} : Laps (Run fs t) p ms q ↔ Way fs (.loop t) b p ms q := by
  constructor
  · intro l
    induction l with
    | refl => exact way_nil.mpr (by simp only [Out]; exact .refl)
    | @step p r q m n h _ ih2 =>
      have w1 := (ih b _ _ _).mp h
      cases m with
      | nil =>
        have o := way_nil.mp w1
        cases n with
        | nil =>
          refine way_nil.mpr ?_
          have := way_nil.mp ih2
          simp only [Out] at this ⊢
          exact .step o this
        | cons x n =>
          obtain ⟨k, h1, f⟩ := way_cons.mp ih2
          refine way_cons.mpr ⟨k, ?_, f⟩
          simp only [Hit] at h1 ⊢
          obtain ⟨r1, s, h1⟩ := h1
          exact ⟨r1, .step o s, h1⟩
      | cons x m =>
        obtain ⟨k, h1, f⟩ := way_cons.mp w1
        refine way_cons.mpr ⟨k, ?_, loop_in ih2 m f⟩
        simp only [Hit]
        exact ⟨p, .refl, h1⟩
  · cases ms with
    | nil =>
      intro w
      have := way_nil.mp w
      simp only [Out] at this
      exact laps_silent ih this .refl
    | cons x ms =>
      intro w
      obtain ⟨m, h1, f⟩ := way_cons.mp w
      simp only [Hit] at h1
      obtain ⟨q0, h3, h4⟩ := h1
      obtain ⟨s1, s2, r, rfl, f1, f2⟩ := loop_out ih ms f
      exact laps_silent ih h3 (Laps.step (m := x :: s1) ((ih b _ _ _).mpr (way_cons.mpr ⟨m, h4, f1⟩)) f2)
/-! ### all -/
theorem way_leaf {t : Src} {b : Nat} {p q : Pk} {ms : List Pk} {P : Prop} (h : ∀ b p m q, ¬ Hit fs t b p m q) (e : Out fs t p q ↔ P) : (ms = [] ∧ P) ↔ Way fs t b p ms q := by
  rw [← e]
  constructor
  · exact .inl
  · rintro (h1 | ⟨_, _, _, _, h1, _⟩)
    · exact h1
    · exact absurd h1 (h _ _ _ _)
mutual
theorem run_way : ∀ (t : Src) (b : Nat) (p : Pk) (ms : List Pk) (q : Pk), Run fs t p ms q ↔ Way fs t b p ms q
  | .mark, b, p, ms, q => by
    simp only [Run]
    constructor
    · rintro ⟨rfl, rfl⟩
      exact way_cons.mpr ⟨b + 1, by simp [Hit], by simp only [From, OnOut]⟩
    · cases ms with
      | nil => intro w; exact absurd (way_nil.mp w) (by simp only [Out]; exact fun h => h)
      | cons x ms =>
        intro w
        obtain ⟨m, h1, f⟩ := way_cons.mp w
        simp only [Hit] at h1
        obtain ⟨rfl, rfl⟩ := h1
        cases ms with
        | nil => simp only [From, OnOut] at f; exact ⟨rfl, f⟩
        | cons y ms => simp only [From, OnHit] at f; obtain ⟨_, h, _⟩ := f; exact h.elim
  | .row ts, b, p, ms, q => by
    simp only [Run]
    exact runL_way ts b p ms q
  | .alt ts, b, p, ms, q => by
    simp only [Run]
    exact runA_way ts b p ms q
  | .loop t, b, p, ms, q => by
    simp only [Run]
    exact way_loop (run_way t)
  | .pass, b, p, ms, q => by simp only [Run]; exact way_leaf (fun _ _ _ _ => by simp only [Hit]; exact fun h => h) (by simp only [Out])
  | .drop, b, p, ms, q => by simp only [Run]; exact way_leaf (fun _ _ _ _ => by simp only [Hit]; exact fun h => h) (by simp only [Out])
  | .is _ _, b, p, ms, q => by simp only [Run]; exact way_leaf (fun _ _ _ _ => by simp only [Hit]; exact fun h => h) (by simp only [Out])
  | .set _ _, b, p, ms, q => by simp only [Run]; exact way_leaf (fun _ _ _ _ => by simp only [Hit]; exact fun h => h) (by simp only [Out])
  | .take _ _, b, p, ms, q => by simp only [Run]; exact way_leaf (fun _ _ _ _ => by simp only [Hit]; exact fun h => h) (by simp only [Out])
  | .not _, b, p, ms, q => by simp only [Run]; exact way_leaf (fun _ _ _ _ => by simp only [Hit]; exact fun h => h) (by simp only [Out])
theorem runL_way : ∀ (ts : List Src) (b : Nat) (p : Pk) (ms : List Pk) (q : Pk), RunL fs ts p ms q ↔ Way fs (.row ts) b p ms q
  | [], b, p, ms, q => by
    simp only [RunL]
    exact way_leaf (fun _ _ _ _ => by simp only [Hit, HitL]; exact fun h => h) (by simp only [Out, OutL])
  | t :: ts, b, p, ms, q => by
    simp only [RunL]
    rw [way_row]
    constructor
    · rintro ⟨m, n, r, e, h1, h2⟩
      exact ⟨m, n, r, e, (run_way t b p m r).mp h1, (runL_way ts _ r n q).mp h2⟩
    · rintro ⟨m, n, r, e, h1, h2⟩
      exact ⟨m, n, r, e, (run_way t b p m r).mpr h1, (runL_way ts _ r n q).mpr h2⟩
theorem runA_way : ∀ (ts : List Src) (b : Nat) (p : Pk) (ms : List Pk) (q : Pk), RunA fs ts p ms q ↔ Way fs (.alt ts) b p ms q
  | [], b, p, ms, q => by
    simp only [RunA]
    constructor
    · exact fun h => h.elim
    · cases ms with
      | nil => intro w; have := way_nil.mp w; simp only [Out, OutA] at this
      | cons x ms => intro w; obtain ⟨m, h, _⟩ := way_cons.mp w; simp only [Hit, HitA] at h
  | t :: ts, b, p, ms, q => by
    simp only [RunA]
    rw [way_alt, run_way t b, runA_way ts (b + nm t)]
end
end Mw
/-! Parts put together; tests; the numbers that a run may write; how many ways there can be. -/
namespace Mw
open PySem L2
variable {fs : List Str}

/-! ### parts put together -/
def partsR : Src → List Src
  | .row ts => ts
  | t => [t]
def partsA : Src → List Src
  | .alt ts => ts
  | t => [t]
theorem runL_append : ∀ (ts us : List Src) {p q : Pk} {ms : List Pk}, RunL fs (ts ++ us) p ms q ↔ ∃ m n r, ms = m ++ n ∧ RunL fs ts p m r ∧ RunL fs us r n q
  | [], us, p, q, ms => by
    simp only [List.nil_append, RunL]
    constructor
    · exact fun h => ⟨[], ms, p, rfl, ⟨rfl, rfl⟩, h⟩
    · rintro ⟨_, n, _, rfl, ⟨rfl, rfl⟩, h⟩
      exact h
  | t :: ts, us, p, q, ms => by
    simp only [List.cons_append, RunL]
    constructor
    · rintro ⟨m, n, r, rfl, h1, h2⟩
      obtain ⟨m2, n2, r2, rfl, h3, h4⟩ := (runL_append ts us).mp h2
      exact ⟨m ++ m2, n2, r2, (List.append_assoc ..).symm, ⟨m, m2, r, rfl, h1, h3⟩, h4⟩
    · rintro ⟨_, n, r, rfl, ⟨m, m2, r2, rfl, h1, h3⟩, h4⟩
      exact ⟨m, m2 ++ n, r2, List.append_assoc .., h1, (runL_append ts us).mpr ⟨m2, n, r, rfl, h3, h4⟩⟩
theorem runA_append : ∀ (ts us : List Src) {p q : Pk} {ms : List Pk}, RunA fs (ts ++ us) p ms q ↔ RunA fs ts p ms q ∨ RunA fs us p ms q
  | [], us, p, q, ms => by simp only [List.nil_append, RunA, false_or]
  | t :: ts, us, p, q, ms => by
    simp only [List.cons_append, RunA]
    rw [runA_append ts us, or_assoc]
theorem runL_one (t : Src) {p q : Pk} {ms : List Pk} : RunL fs [t] p ms q ↔ Run fs t p ms q := by
  simp only [RunL]
  constructor
  · rintro ⟨m, _, r, rfl, h, rfl, rfl⟩
    rwa [List.append_nil]
  · exact fun h => ⟨ms, [], q, (List.append_nil _).symm, h, rfl, rfl⟩
theorem runA_one (t : Src) {p q : Pk} {ms : List Pk} : RunA fs [t] p ms q ↔ Run fs t p ms q := by simp only [RunA, or_false]
theorem run_partsR (t : Src) {p q : Pk} {ms : List Pk} : RunL fs (partsR t) p ms q ↔ Run fs t p ms q := by
  cases t with
  | row ts => simp only [partsR, Run]
  | _ => exact runL_one _
theorem run_partsA (t : Src) {p q : Pk} {ms : List Pk} : RunA fs (partsA t) p ms q ↔ Run fs t p ms q := by
  cases t with
  | alt ts => simp only [partsA, Run]
  | _ => exact runA_one _
theorem run_seq (a b : Src) {p q : Pk} {ms : List Pk} : Run fs (.row (partsR a ++ partsR b)) p ms q ↔ ∃ m n r, ms = m ++ n ∧ Run fs a p m r ∧ Run fs b r n q := by
  rw [Run, runL_append]
  simp only [run_partsR]
theorem run_both (a b : Src) {p q : Pk} {ms : List Pk} : Run fs (.alt (partsA a ++ partsA b)) p ms q ↔ Run fs a p ms q ∨ Run fs b p ms q := by
  rw [Run, runA_append, run_partsA, run_partsA]
theorem run_loop (a : Src) {p q : Pk} {ms : List Pk} : Run fs (.loop a) p ms q ↔ (ms = [] ∧ q = p) ∨ ∃ m n r, ms = m ++ n ∧ Run fs a p m r ∧ Run fs (.loop a) r n q := by
  simp only [Run]
  constructor
  · intro l
    cases l with
    | refl => exact .inl ⟨rfl, rfl⟩
    | step h l => exact .inr ⟨_, _, _, rfl, h, l⟩
  · rintro (⟨rfl, rfl⟩ | ⟨m, n, r, rfl, h, l⟩)
    · exact .refl
    · exact .step h l

/-! ### tests -/
mutual
def isTest : Src → Bool
  | .pass => true
  | .drop => true
  | .is _ _ => true
  | .not t => isTest t
  | .row ts => areTests ts
  | .alt ts => areTests ts
  | _ => false
def areTests : List Src → Bool
  | [] => true
  | t :: ts => isTest t && areTests ts
end
theorem act_test {t : Src} {p q : Pk} {ms : List Pk} (e : act fs t p = if holds fs t p = true then some p else none) : (ms = [] ∧ act fs t p = some q) ↔ (ms = [] ∧ q = p ∧ holds fs t p = true) := by
  rw [e]
  split
  · rename_i h
    simp [h, eq_comm]
  · rename_i h
    simp [h]
mutual
theorem run_test : ∀ (t : Src), isTest t = true → ∀ {p q : Pk} {ms : List Pk}, Run fs t p ms q ↔ ms = [] ∧ q = p ∧ holds fs t p = true
  | .pass, _, _, _, _ => by simp only [Run]; exact act_test rfl
  | .drop, _, _, _, _ => by simp only [Run]; exact act_test rfl
  | .is _ _, _, _, _, _ => by simp only [Run]; exact act_test rfl
  | .not _, _, _, _, _ => by simp only [Run]; exact act_test rfl
  | .row ts, h, p, q, ms => by
    simp only [isTest] at h
    simp only [Run, holds]
    exact runL_test ts h
  | .alt ts, h, p, q, ms => by
    simp only [isTest] at h
    simp only [Run, holds]
    exact runA_test ts h
  | .mark, h, _, _, _ => by simp [isTest] at h
  | .set _ _, h, _, _, _ => by simp [isTest] at h
  | .take _ _, h, _, _, _ => by simp [isTest] at h
  | .loop _, h, _, _, _ => by simp [isTest] at h
theorem runL_test : ∀ (ts : List Src), areTests ts = true → ∀ {p q : Pk} {ms : List Pk}, RunL fs ts p ms q ↔ ms = [] ∧ q = p ∧ holdsAll fs ts p = true
  | [], _, p, q, ms => by simp [RunL, holdsAll]
  | t :: ts, h, p, q, ms => by
    simp only [areTests, Bool.and_eq_true] at h
    simp only [RunL, holdsAll, Bool.and_eq_true]
    constructor
    · rintro ⟨m, n, r, rfl, h1, h2⟩
      obtain ⟨rfl, rfl, h1⟩ := (run_test t h.1).mp h1
      obtain ⟨rfl, rfl, h2⟩ := (runL_test ts h.2).mp h2
      exact ⟨rfl, rfl, h1, h2⟩
    · rintro ⟨rfl, rfl, h1, h2⟩
      exact ⟨[], [], q, rfl, (run_test t h.1).mpr ⟨rfl, rfl, h1⟩, (runL_test ts h.2).mpr ⟨rfl, rfl, h2⟩⟩
theorem runA_test : ∀ (ts : List Src), areTests ts = true → ∀ {p q : Pk} {ms : List Pk}, RunA fs ts p ms q ↔ ms = [] ∧ q = p ∧ holdsAny fs ts p = true
  | [], _, p, q, ms => by simp [RunA, holdsAny]
  | t :: ts, h, p, q, ms => by
    simp only [areTests, Bool.and_eq_true] at h
    simp only [RunA, holdsAny, Bool.or_eq_true]
    rw [run_test t h.1, runA_test ts h.2]
    constructor
    · rintro (⟨h1, h2, h3⟩ | ⟨h1, h2, h3⟩)
      · exact ⟨h1, h2, .inl h3⟩
      · exact ⟨h1, h2, .inr h3⟩
    · rintro ⟨h1, h2, h3 | h3⟩
      · exact .inl ⟨h1, h2, h3⟩
      · exact .inr ⟨h1, h2, h3⟩
end

/-! ### what may be written -/
/-- q has as many fields as p, and no numbers but N's and p's -/
def Sub (N : List Nat) (p q : Pk) : Prop := q.length = p.length ∧ ∀ v ∈ q, v ∈ N ∨ v ∈ p
theorem Sub.refl (N : List Nat) (p : Pk) : Sub N p p := ⟨rfl, fun _ h => .inr h⟩
theorem Sub.trans {N : List Nat} {p q r : Pk} (h : Sub N p q) (g : Sub N q r) : Sub N p r := ⟨g.1.trans h.1, fun v hv => (g.2 v hv).elim .inl fun h' => h.2 v h'⟩
/-- each packet from the one before -/
def Line (N : List Nat) : Pk → List Pk → Prop
  | _, [] => True
  | p, q :: l => Sub N p q ∧ Line N q l
mutual
/-- the fields are fs's, the numbers that are set N's -/
def Fits (fs : List Str) (N : List Nat) : Src → Prop
  | .is f n => f ∈ fs ∧ n ∈ N
  | .set f n => f ∈ fs ∧ n ∈ N
  | .take f g => f ∈ fs ∧ g ∈ fs
  | .not t => Fits fs N t
  | .loop t => Fits fs N t
  | .row ts => FitsL fs N ts
  | .alt ts => FitsL fs N ts
  | _ => True
def FitsL (fs : List Str) (N : List Nat) : List Src → Prop
  | [] => True
  | t :: ts => Fits fs N t ∧ FitsL fs N ts
end
theorem line_join {N : List Nat} : ∀ {p q : Pk} {l m : List Pk}, Line N p (l ++ [q]) → Line N q m → Line N p (l ++ m)
  | p, q, [], m, h, g => by
    cases m with
    | nil => trivial
    | cons x m => exact ⟨h.1.trans g.1, g.2⟩
  | p, q, x :: l, m, h, g => ⟨h.1, line_join h.2 g⟩
theorem line_len {N : List Nat} : ∀ {p q : Pk} {l : List Pk}, Line N p (l ++ [q]) → q.length = p.length
  | p, q, [], h => h.1.1
  | p, q, x :: l, h => (line_len h.2).trans h.1.1
theorem act_sub {N : List Nat} {t : Src} {p q : Pk} (hp : p.length = fs.length) (ft : Fits fs N t) (h : act fs t p = some q) : Sub N p q := by
  have same : ∀ t : Src, (if holds fs t p = true then some p else none) = some q → Sub N p q := fun t h => by
    split at h
    · cases h; exact Sub.refl N p
    · cases h
  cases t with
  | set f n =>
    simp only [act] at h
    cases h
    simp only [Fits] at ft
    exact ⟨List.length_set .., fun v hv => (List.mem_or_eq_of_mem_set hv).elim .inr fun e => .inl (e ▸ ft.2)⟩
  | take f g =>
    simp only [act] at h
    cases h
    simp only [Fits] at ft
    refine ⟨List.length_set .., fun v hv => (List.mem_or_eq_of_mem_set hv).elim .inr fun e => .inr ?_⟩
    have lt : at_ fs g < p.length := by rw [hp]; exact List.idxOf_lt_length_of_mem ft.2
    rw [e, List.getD_eq_getElem?_getD, List.getElem?_eq_getElem lt]
    exact List.getElem_mem lt
  | _ => simp only [act] at h; exact same _ h
mutual
theorem run_line : ∀ (t : Src) {N : List Nat} {p q : Pk} {ms : List Pk}, p.length = fs.length → Fits fs N t → Run fs t p ms q → Line N p (ms ++ [q])
  | .mark, N, p, q, ms, hp, ft, h => by
    simp only [Run] at h
    obtain ⟨rfl, rfl⟩ := h
    exact ⟨Sub.refl N _, Sub.refl N _, trivial⟩
  | .row ts, N, p, q, ms, hp, ft, h => by
    simp only [Run] at h
    simp only [Fits] at ft
    exact runL_line ts hp ft h
  | .alt ts, N, p, q, ms, hp, ft, h => by
    simp only [Run] at h
    simp only [Fits] at ft
    exact runA_line ts hp ft h
  | .loop t, N, p, q, ms, hp, ft, h => by
    simp only [Run] at h
    simp only [Fits] at ft
    induction h with
    | refl => exact ⟨Sub.refl N _, trivial⟩
    | @step p r q m n h1 _ ih =>
      have l1 := run_line t hp ft h1
      have hr : r.length = fs.length := (line_len l1).trans hp
      rw [List.append_assoc]
      exact line_join l1 (ih hr)
  | .pass, N, p, q, ms, hp, ft, h => by simp only [Run] at h; obtain ⟨rfl, h⟩ := h; exact ⟨act_sub hp ft h, trivial⟩
  | .drop, N, p, q, ms, hp, ft, h => by simp only [Run] at h; obtain ⟨rfl, h⟩ := h; exact ⟨act_sub hp ft h, trivial⟩
  | .is _ _, N, p, q, ms, hp, ft, h => by simp only [Run] at h; obtain ⟨rfl, h⟩ := h; exact ⟨act_sub hp ft h, trivial⟩
  | .set _ _, N, p, q, ms, hp, ft, h => by simp only [Run] at h; obtain ⟨rfl, h⟩ := h; exact ⟨act_sub hp ft h, trivial⟩
  | .take _ _, N, p, q, ms, hp, ft, h => by simp only [Run] at h; obtain ⟨rfl, h⟩ := h; exact ⟨act_sub hp ft h, trivial⟩
  | .not _, N, p, q, ms, hp, ft, h => by simp only [Run] at h; obtain ⟨rfl, h⟩ := h; exact ⟨act_sub hp ft h, trivial⟩
theorem runL_line : ∀ (ts : List Src) {N : List Nat} {p q : Pk} {ms : List Pk}, p.length = fs.length → FitsL fs N ts → RunL fs ts p ms q → Line N p (ms ++ [q])
  | [], N, p, q, ms, hp, ft, h => by
    simp only [RunL] at h
    obtain ⟨rfl, rfl⟩ := h
    exact ⟨Sub.refl N _, trivial⟩
  | t :: ts, N, p, q, ms, hp, ft, h => by
    simp only [RunL] at h
    simp only [FitsL] at ft
    obtain ⟨m, n, r, rfl, h1, h2⟩ := h
    have l1 := run_line t hp ft.1 h1
    rw [List.append_assoc]
    exact line_join l1 (runL_line ts ((line_len l1).trans hp) ft.2 h2)
theorem runA_line : ∀ (ts : List Src) {N : List Nat} {p q : Pk} {ms : List Pk}, p.length = fs.length → FitsL fs N ts → RunA fs ts p ms q → Line N p (ms ++ [q])
  | [], N, p, q, ms, hp, ft, h => by simp only [RunA] at h
  | t :: ts, N, p, q, ms, hp, ft, h => by
    simp only [RunA] at h
    simp only [FitsL] at ft
    exact h.elim (run_line t hp ft.1) (runA_line ts hp ft.2)
end
end Mw
/-! How many ways there can be. -/
namespace Mw
open PySem L2

/-- the indices that may follow c: those of the known numbers, and c's -/
def alpha (c : List Nat) : List Nat := (List.range 5).filter fun i => decide (i < 3) || c.contains i
def lists (a : List Nat) : Nat → List (List Nat)
  | 0 => [[]]
  | k + 1 => a.flatMap fun x => (lists a k).map (x :: ·)
def nextI (c : List Nat) : List (List Nat) := lists (alpha c) c.length
def linesI : Nat → List Nat → List (List (List Nat))
  | 0, c => (nextI c).map fun d => [d]
  | k + 1, c => (nextI c).flatMap fun d => (linesI k d).map (d :: ·)
def uniI (c : List Nat) : List (List (List Nat)) := linesI 0 c ++ (linesI 1 c ++ linesI 2 c)
theorem uni_len : (uniI [3]).length ≤ 4521 ∧ (uniI [3, 4]).length ≤ 4521 := by decide +kernel
theorem next_len : (nextI [3]).length ≤ 25 ∧ (nextI [3, 4]).length ≤ 25 := by decide +kernel
/-- what an index stands for -/
def valI (N : List Nat) (p : Pk) (i : Nat) : Nat := if i < 3 then N.getD i 0 else p.getD (i - 3) 0
theorem mem_lists {a : List Nat} : ∀ {d : List Nat}, (∀ x ∈ d, x ∈ a) → d ∈ lists a d.length
  | [], _ => List.mem_singleton.mpr rfl
  | x :: d, h => List.mem_flatMap.mpr ⟨x, h x List.mem_cons_self, List.mem_map.mpr ⟨d, mem_lists fun y hy => h y (List.mem_cons_of_mem _ hy), rfl⟩⟩
theorem mem_alpha {c : List Nat} {i : Nat} (h : i < 5) (g : i < 3 ∨ i ∈ c) : i ∈ alpha c := by
  refine List.mem_filter.mpr ⟨List.mem_range.mpr h, ?_⟩
  rcases g with g | g
  · simp [g]
  · simp [g]
theorem sub_next {N : List Nat} {p q : Pk} {c : List Nat} (hN : N.length ≤ 3) (hc : ∀ i ∈ c, i < 5) (h : Sub N (c.map (valI N p)) q) : ∃ d, d ∈ nextI c ∧ (∀ i ∈ d, i < 5) ∧ d.length = c.length ∧ q = d.map (valI N p) := by
  have one : ∀ v ∈ q, ∃ i, i ∈ alpha c ∧ i < 5 ∧ v = valI N p i := fun v hv => by
    rcases h.2 v hv with m | m
    · obtain ⟨i, hi, e⟩ := List.getElem_of_mem m
      have lt : i < 3 := by omega
      refine ⟨i, mem_alpha (by omega) (.inl lt), by omega, ?_⟩
      rw [valI, if_pos lt, List.getD_eq_getElem?_getD, List.getElem?_eq_getElem hi]
      exact e.symm
    · obtain ⟨i, hi, e⟩ := List.mem_map.mp m
      exact ⟨i, mem_alpha (hc i hi) (.inr hi), hc i hi, e.symm⟩
  have all : ∀ q : Pk, (∀ v ∈ q, ∃ i, i ∈ alpha c ∧ i < 5 ∧ v = valI N p i) → ∃ d : List Nat, d.length = q.length ∧ (∀ i ∈ d, i ∈ alpha c ∧ i < 5) ∧ q = d.map (valI N p) := by
    intro q
    induction q with
    | nil => exact fun _ => ⟨[], rfl, fun _ h => absurd h List.not_mem_nil, rfl⟩
    | cons v q ih =>
      intro h
      obtain ⟨i, h1, h2, h3⟩ := h v List.mem_cons_self
      obtain ⟨d, e1, e2, e3⟩ := ih fun u hu => h u (List.mem_cons_of_mem _ hu)
      refine ⟨i :: d, by simp [e1], fun j hj => ?_, by rw [List.map_cons, ← e3, h3]⟩
      rcases List.mem_cons.mp hj with rfl | hj
      · exact ⟨h1, h2⟩
      · exact e2 j hj
  obtain ⟨d, e1, e2, e3⟩ := all q one
  have len : d.length = c.length := by rw [e1, h.1, List.length_map]
  exact ⟨d, by rw [nextI, ← len]; exact mem_lists fun x hx => (e2 x hx).1, fun i hi => (e2 i hi).2, len, e3⟩
theorem line_uni {N : List Nat} {p : Pk} (hN : N.length ≤ 3) : ∀ (k : Nat) {c : List Nat} {l : List Pk}, (∀ i ∈ c, i < 5) → Line N (c.map (valI N p)) l → l.length = k + 1 → ∃ ds, ds ∈ linesI k c ∧ l = ds.map fun d => d.map (valI N p)
  | 0, c, l, hc, h, len => by
    match l, len, h with
    | [q], _, h =>
      obtain ⟨d, h1, _, _, rfl⟩ := sub_next hN hc h.1
      exact ⟨[d], List.mem_map.mpr ⟨d, h1, rfl⟩, rfl⟩
  | k + 1, c, l, hc, h, len => by
    match l, len, h with
    | q :: l, len, h =>
      obtain ⟨d, h1, h2, _, rfl⟩ := sub_next hN hc h.1
      obtain ⟨ds, h4, rfl⟩ := line_uni hN k h2 h.2 (by simpa using len)
      exact ⟨d :: ds, List.mem_flatMap.mpr ⟨d, h1, List.mem_map.mpr ⟨ds, h4, rfl⟩⟩, rfl⟩
def c0 (n : Nat) : List Nat := if n = 1 then [3] else [3, 4]
theorem c0_lt (n : Nat) : ∀ i ∈ c0 n, i < 5 := by unfold c0; split <;> simp
theorem c0_val {N : List Nat} {p : Pk} (hp : p.length = 1 ∨ p.length = 2) : (c0 p.length).map (valI N p) = p := by
  match p, hp with
  | [a], _ => rfl
  | [a, b], _ => rfl
def pkD (p : Pk) : D := .tup (p.map fun (v : Nat) => .num (v : Int))
def wayD (l : List Pk) : D := .tup (l.map pkD)
/-- all ways of at most two marks -/
def uniW (N : List Nat) (p : Pk) : List (List Pk) := (uniI (c0 p.length)).map fun ds => ds.map fun d => d.map (valI N p)
theorem uniW_len (N : List Nat) (p : Pk) : (uniW N p).length ≤ 4521 := by
  rw [uniW, List.length_map, c0]
  split
  · exact uni_len.1
  · exact uni_len.2
theorem mem_uniW {N : List Nat} {p : Pk} {l : List Pk} (hN : N.length ≤ 3) (hp : p.length = 1 ∨ p.length = 2) (h : Line N p l) (h1 : 1 ≤ l.length) (h3 : l.length ≤ 3) : l ∈ uniW N p := by
  have h' : Line N ((c0 p.length).map (valI N p)) l := by rw [c0_val hp]; exact h
  obtain ⟨k, hk⟩ : ∃ k, l.length = k + 1 := ⟨l.length - 1, by omega⟩
  obtain ⟨ds, m, e⟩ := line_uni hN k (c0_lt _) h' hk
  refine List.mem_map.mpr ⟨ds, ?_, e.symm⟩
  have : k = 0 ∨ k = 1 ∨ k = 2 := by omega
  rcases this with rfl | rfl | rfl
  · exact List.mem_append_left _ m
  · exact List.mem_append_right _ (List.mem_append_left _ m)
  · exact List.mem_append_right _ (List.mem_append_right _ m)
/-- all packets that can come of p -/
def uniP (N : List Nat) (p : Pk) : List Pk := (nextI (c0 p.length)).map fun d => d.map (valI N p)
theorem uniP_len (N : List Nat) (p : Pk) : (uniP N p).length ≤ 25 := by
  rw [uniP, List.length_map, c0]
  split
  · exact next_len.1
  · exact next_len.2
theorem mem_uniP {N : List Nat} {p q : Pk} (hN : N.length ≤ 3) (hp : p.length = 1 ∨ p.length = 2) (h : Sub N p q) : q ∈ uniP N p := by
  have h' : Sub N ((c0 p.length).map (valI N p)) q := by rw [c0_val hp]; exact h
  obtain ⟨d, m, _, _, e⟩ := sub_next hN (c0_lt _) h'
  exact List.mem_map.mpr ⟨d, m, e.symm⟩
end Mw
/-! The ways in their order: by length, then as tuples; one list for a set of ways. -/
namespace Mw
open PySem L2
open PySem.W (dataLe dataLt keyToks keyToksAll alike alikeAll AllAlike Sortable)
open PyProof.Rows (lexLt itemOrd)

theorem leD_eq (a b : D) : leD a b = !lexLt itemOrd (keyToks (enc b)) (keyToks (enc a)) := by
  rw [leD, PySem.W.dataLe_eq]
  rfl
theorem lex_tail {s : List (Int ⊕ List Nat)} : ∀ {A B : List (Int ⊕ List Nat)}, (∀ u v, A ++ u = B ++ v → A = B) → lexLt itemOrd (A ++ s) (B ++ s) = lexLt itemOrd A B
  | [], B, h => by
    obtain rfl : [] = B := h B [] (by simp)
    rw [List.nil_append, PyProof.Rows.lex_irrefl, PyProof.Rows.lex_irrefl]
  | x :: A, [], h => by
    have := h [] (x :: A) (by simp)
    cases this
  | x :: A, y :: B, h => by
    rw [List.cons_append, List.cons_append, PyProof.Rows.lex_cons, PyProof.Rows.lex_cons]
    cases h1 : itemOrd.blt x y with
    | true => rfl
    | false =>
      cases h2 : itemOrd.blt y x with
      | true => rfl
      | false =>
        obtain rfl := itemOrd.total _ _ h1 h2
        rw [lex_tail (A := A) (B := B) fun u v e => (List.cons.inj (h u v (by rw [List.cons_append, List.cons_append, e]))).2]
/-- a number ahead -/
def pairD (n : Int) (a : D) : D := .tup [.num n, a]
theorem toks_pair (n : Int) (a : D) : keyToks (enc (pairD n a)) = [Sum.inl 1] ++ (Sum.inl n :: ([Sum.inl 1] ++ (keyToks (enc a) ++ [Sum.inl 0]))) := by
  simp [pairD, enc, encs, keyToks, keyToksAll]
theorem lex_num (n m : Int) : lexLt itemOrd [Sum.inl n] [Sum.inl m] = decide (n < m) := by
  rw [PyProof.Rows.lex_cons]
  show (decide (n < m) || (!decide (m < n) && lexLt itemOrd [] [])) = _
  rw [PyProof.Rows.lex_irrefl, Bool.and_false, Bool.or_false]
theorem leD_pair {n m : Int} {a b : D} (h : alike (enc b) (enc a) = true) : leD (pairD n a) (pairD m b) = true ↔ n < m ∨ (n = m ∧ leD a b = true) := by
  rw [leD_eq, toks_pair, toks_pair, PySem.W.lex_pre]
  by_cases e : n = m
  · subst e
    have step : ∀ A B : List (Int ⊕ List Nat), lexLt itemOrd (Sum.inl n :: A) (Sum.inl n :: B) = lexLt itemOrd A B := fun A B => PySem.W.lex_pre [Sum.inl n] A B
    rw [step, PySem.W.lex_pre, lex_tail (A := keyToks (enc b)) (B := keyToks (enc a)) fun u v q => by rw [(toks_inj b a u v h q).1], ← leD_eq]
    simp
  · rw [PySem.W.lex_atom (fun q => e (Sum.inl.inj q).symm), lex_num]
    simp only [Bool.not_eq_true', decide_eq_false_iff_not, Int.not_lt]
    omega
theorem leD_cons (c : D) (xs ys : List D) : leD (.tup (c :: xs)) (.tup (c :: ys)) = leD (.tup xs) (.tup ys) := by
  rw [leD_eq, leD_eq]
  have q : ∀ zs : List D, keyToks (enc (.tup (c :: zs))) = (Sum.inl 1 :: keyToks (enc c)) ++ keyToks (enc (.tup zs)) := fun zs => by simp [enc, encs, keyToks, keyToksAll]
  rw [q, q, PySem.W.lex_pre]
/-! ### packets and ways are alike -/
theorem alike_nums : ∀ p q : Pk, alikeAll (encs (p.map fun (v : Nat) => NestedKey.num (v : Int))) (encs (q.map fun (v : Nat) => NestedKey.num (v : Int))) = true
  | [], _ => by simp [encs, alikeAll]
  | _ :: _, [] => by simp [encs, alikeAll]
  | v :: p, u :: q => by simp [encs, enc, alikeAll, alike, alike_nums p q]
theorem alike_pk (p q : Pk) : alike (enc (pkD p)) (enc (pkD q)) = true := by simp [pkD, enc, alike, alike_nums]
theorem alike_pks : ∀ l m : List Pk, alikeAll (encs (l.map pkD)) (encs (m.map pkD)) = true
  | [], _ => by simp [encs, alikeAll]
  | _ :: _, [] => by simp [encs, alikeAll]
  | p :: l, q :: m => by simp [encs, alikeAll, alike_pk, alike_pks l m]
theorem alike_way (l m : List Pk) : alike (enc (wayD l)) (enc (wayD m)) = true := by simp [wayD, enc, alike, alike_pks]
theorem nums_inj : ∀ {p q : Pk}, (p.map fun (v : Nat) => NestedKey.num (v : Int)) = (q.map fun (v : Nat) => NestedKey.num (v : Int)) → p = q
  | [], [], _ => rfl
  | [], _ :: _, h => by simp at h
  | _ :: _, [], h => by simp at h
  | v :: p, u :: q, h => by
    simp only [List.map_cons, List.cons.injEq, NestedKey.num.injEq] at h
    rw [nums_inj h.2, Int.ofNat_inj.mp h.1]
theorem pkD_inj {p q : Pk} (h : pkD p = pkD q) : p = q := nums_inj (NestedKey.tup.inj h)
theorem pks_inj : ∀ {l m : List Pk}, l.map pkD = m.map pkD → l = m
  | [], [], _ => rfl
  | [], _ :: _, h => by simp at h
  | _ :: _, [], h => by simp at h
  | p :: l, q :: m, h => by
    simp only [List.map_cons, List.cons.injEq] at h
    rw [pkD_inj h.1, pks_inj h.2]
theorem wayD_inj {l m : List Pk} (h : wayD l = wayD m) : l = m := pks_inj (NestedKey.tup.inj h)
/-! ### the one list of a set of ways -/
def leW (l m : List Pk) : Prop := l.length < m.length ∨ (l.length = m.length ∧ leD (wayD l) (wayD m) = true)
theorem leD_wayanti {l m : List Pk} (h1 : leD (wayD l) (wayD m) = true) (h2 : leD (wayD m) (wayD l) = true) : l = m := by
  refine wayD_inj (toks_inj _ _ [] [] (alike_way l m) ?_).1
  rw [leD_toks h1 h2]
theorem leW_anti {l m : List Pk} (h1 : leW l m) (h2 : leW m l) : l = m := by
  unfold leW at h1 h2
  rcases h1 with h1 | ⟨e, h1⟩
  · rcases h2 with h2 | ⟨e, h2⟩ <;> omega
  · rcases h2 with h2 | ⟨_, h2⟩
    · omega
    · exact leD_wayanti h1 h2
structure Canon (S : List Pk → Prop) (ls : List (List Pk)) : Prop where
  nd : ls.Nodup
  le : ls.Pairwise leW
  mem : ∀ l, l ∈ ls ↔ S l
theorem Canon.one {S : List Pk → Prop} {ls ms : List (List Pk)} (a : Canon S ls) (b : Canon S ms) : ls = ms :=
  List.Perm.eq_of_pairwise (le := leW) (fun _ _ _ _ h1 h2 => leW_anti h1 h2) a.le b.le ((List.perm_ext_iff_of_nodup a.nd b.nd).mpr fun l => (a.mem l).trans (b.mem l).symm)
theorem Canon.iff {S T : List Pk → Prop} {ls : List (List Pk)} (a : Canon S ls) (h : ∀ l, S l ↔ T l) : Canon T ls := ⟨a.nd, a.le, fun l => (a.mem l).trans (h l)⟩
theorem Canon.nil : Canon (fun _ => False) [] := ⟨List.nodup_nil, List.Pairwise.nil, fun l => by simp⟩
theorem Canon.append {S T : List Pk → Prop} {ls ms : List (List Pk)} (a : Canon S ls) (b : Canon T ms) (h : ∀ l m, S l → T m → l.length < m.length) : Canon (fun l => S l ∨ T l) (ls ++ ms) := by
  refine ⟨List.nodup_append.mpr ⟨a.nd, b.nd, fun l hl m hm e => ?_⟩, List.pairwise_append.mpr ⟨a.le, b.le, fun l hl m hm => .inl (h l m ((a.mem l).mp hl) ((b.mem m).mp hm))⟩, fun l => by rw [List.mem_append, a.mem, b.mem]⟩
  have := h l m ((a.mem l).mp hl) ((b.mem m).mp hm)
  rw [e] at this
  omega
theorem Canon.filter {S : List Pk → Prop} {ls : List (List Pk)} (a : Canon S ls) (p : List Pk → Bool) : Canon (fun l => S l ∧ p l = true) (ls.filter p) :=
  ⟨a.nd.filter p, a.le.filter p, fun l => by rw [List.mem_filter, a.mem]⟩
theorem Canon.ahead {S : List Pk → Prop} {ls : List (List Pk)} (a : Canon S ls) (c : Pk) : Canon (fun l => ∃ m, S m ∧ l = c :: m) (ls.map (c :: ·)) := by
  refine ⟨?_, List.pairwise_map.mpr (a.le.imp fun {l m} h => ?_), fun l => ?_⟩
  · refine List.Pairwise.map _ ?_ a.nd
    exact fun l m ne e => ne (List.cons.inj e).2
  · unfold leW at h ⊢
    rcases h with h | ⟨e, h⟩
    · exact .inl (by simpa using h)
    · exact .inr ⟨by simpa using e, by rw [wayD, wayD, List.map_cons, List.map_cons, leD_cons]; exact h⟩
  · rw [List.mem_map]
    constructor
    · rintro ⟨m, h, rfl⟩
      exact ⟨m, (a.mem m).mp h, rfl⟩
    · rintro ⟨m, h, rfl⟩
      exact ⟨m, (a.mem m).mpr h, rfl⟩
/-- the pairs (length, way) as they are sorted -/
def pairW (l : List Pk) : D := pairD (l.length : Int) (wayD l)
theorem alike_pairs {ls : List (List Pk)} : Alike (ls.map pairW) := by
  refine ⟨fun d hd d' hd' => ?_, .inl fun d hd => ?_⟩
  · obtain ⟨k, hk, rfl⟩ := List.mem_map.mp hd
    obtain ⟨k', hk', rfl⟩ := List.mem_map.mp hd'
    obtain ⟨l, _, rfl⟩ := List.mem_map.mp hk
    obtain ⟨m, _, rfl⟩ := List.mem_map.mp hk'
    simp [pairW, pairD, enc, encs, alike, alikeAll, alike_way]
  · obtain ⟨k, hk, rfl⟩ := List.mem_map.mp hd
    obtain ⟨l, _, rfl⟩ := List.mem_map.mp hk
    exact ⟨_, _, by rw [pairW, pairD, enc, encs]⟩
/-- the sorted pairs are the one list -/
theorem canon_pairs {S : List D} {ls : List (List Pk)} (nd : S.Nodup) (h : ∀ k, k ∈ S ↔ k ∈ ls.map pairW) : ∃ ms, sortD S = ms.map pairW ∧ Canon (fun l => l ∈ ls) ms := by
  have pinj : ∀ {l m : List Pk}, pairW l = pairW m → l = m := fun {l m} e => by
    have e1 := NestedKey.tup.inj e
    simp only [List.cons.injEq, and_true] at e1
    exact wayD_inj e1.2
  obtain ⟨us, e⟩ : ∃ us : List (List Pk), S = us.map pairW := by
    have : ∀ k ∈ S, ∃ l, k = pairW l := fun k hk => by
      obtain ⟨l, _, e⟩ := List.mem_map.mp ((h k).mp hk)
      exact ⟨l, e.symm⟩
    clear h nd
    induction S with
    | nil => exact ⟨[], rfl⟩
    | cons k S ih =>
      obtain ⟨l, rfl⟩ := this k List.mem_cons_self
      obtain ⟨us, rfl⟩ := ih fun j hj => this j (List.mem_cons_of_mem _ hj)
      exact ⟨l :: us, rfl⟩
  subst e
  obtain ⟨ms, p, e⟩ := perm_map_inv (sortD_perm (us.map pairW)) rfl
  have nu : us.Nodup := by
    rw [List.nodup_iff_pairwise_ne, List.pairwise_map] at nd
    exact nd.imp fun h e => h (by rw [e])
  refine ⟨ms, e, p.nodup_iff.mpr nu, ?_, fun l => ?_⟩
  · have s := sortD_le (us.map pairW)
    rw [e, List.pairwise_map] at s
    refine s.imp fun {l m} q => ?_
    rcases (leD_pair (alike_way m l)).mp q with q | ⟨q1, q2⟩
    · exact .inl (by omega)
    · exact .inr ⟨by omega, q2⟩
  · rw [p.mem_iff]
    constructor
    · intro hl
      obtain ⟨m, hm, e⟩ := List.mem_map.mp ((h (pairW l)).mp (List.mem_map.mpr ⟨l, hl, rfl⟩))
      rw [← pinj e]
      exact hm
    · intro hl
      obtain ⟨m, hm, e⟩ := List.mem_map.mp ((h (pairW l)).mpr (List.mem_map.mpr ⟨l, hl, rfl⟩))
      rw [← pinj e]
      exact hm
/-- ways of one length, sorted -/
theorem canon_sort {ls : List (List Pk)} {n : Nat} (nd : ls.Nodup) (len : ∀ l ∈ ls, l.length = n) : ∃ ms, sortD (ls.map wayD) = ms.map wayD ∧ Canon (fun l => l ∈ ls) ms := by
  obtain ⟨ms, p, e⟩ := perm_map_inv (sortD_perm (ls.map wayD)) rfl
  refine ⟨ms, e, p.nodup_iff.mpr nd, ?_, fun l => p.mem_iff⟩
  have s := sortD_le (ls.map wayD)
  rw [e, List.pairwise_map] at s
  refine List.Pairwise.imp_of_mem (fun {l m} hl hm q => ?_) s
  exact .inr ⟨by rw [len l (p.mem_iff.mp hl), len m (p.mem_iff.mp hm)], q⟩
end Mw
/-! The law's equations, said of sets of ways. -/
namespace Mw
open PySem L2
variable {fs : List Str}

/-- the ways of at most n marks: the packets at the marks, the end last -/
def WaysOf (fs : List Str) (t : Src) (p : Pk) (n : Nat) (l : List Pk) : Prop := ∃ ms q, l = ms ++ [q] ∧ ms.length ≤ n ∧ Run fs t p ms q
theorem snoc_inj {α : Type} {a b : List α} {x y : α} (h : a ++ [x] = b ++ [y]) : a = b ∧ x = y := by
  have := List.append_inj' h rfl
  exact ⟨this.1, List.cons.inj this.2 |>.1⟩
theorem waysOf_snoc {t : Src} {p q : Pk} {n : Nat} {ms : List Pk} : WaysOf fs t p n (ms ++ [q]) ↔ ms.length ≤ n ∧ Run fs t p ms q := by
  constructor
  · rintro ⟨ms', q', e, h1, h2⟩
    obtain ⟨rfl, rfl⟩ := snoc_inj e
    exact ⟨h1, h2⟩
  · exact fun ⟨h1, h2⟩ => ⟨ms, q, rfl, h1, h2⟩
theorem law_both (a b : Src) {p : Pk} {n : Nat} (l : List Pk) : WaysOf fs (.alt (partsA a ++ partsA b)) p n l ↔ WaysOf fs a p n l ∨ WaysOf fs b p n l := by
  simp only [WaysOf, run_both]
  constructor
  · rintro ⟨ms, q, e, h, h1 | h1⟩
    · exact .inl ⟨ms, q, e, h, h1⟩
    · exact .inr ⟨ms, q, e, h, h1⟩
  · rintro (⟨ms, q, e, h, h1⟩ | ⟨ms, q, e, h, h1⟩)
    · exact ⟨ms, q, e, h, .inl h1⟩
    · exact ⟨ms, q, e, h, .inr h1⟩
/-- ways of b put behind ways of a -/
def Behind (fs : List Str) (b : Src) (n : Nat) (U : List Pk → Prop) (l : List Pk) : Prop := ∃ ms r d, U (ms ++ [r]) ∧ WaysOf fs b r (n - ms.length) d ∧ l = ms ++ d
theorem seq_behind (a b : Src) {p : Pk} {n : Nat} (l : List Pk) : (∃ ms q, l = ms ++ [q] ∧ ms.length ≤ n ∧ ∃ m k r, ms = m ++ k ∧ Run fs a p m r ∧ Run fs b r k q) ↔ Behind fs b n (WaysOf fs a p n) l := by
  constructor
  · rintro ⟨_, q, rfl, h, m, k, r, rfl, h1, h2⟩
    rw [List.length_append] at h
    exact ⟨m, r, k ++ [q], waysOf_snoc.mpr ⟨by omega, h1⟩, waysOf_snoc.mpr ⟨by omega, h2⟩, List.append_assoc ..⟩
  · rintro ⟨m, r, d, h1, ⟨k, q, rfl, h, h2⟩, rfl⟩
    obtain ⟨h3, h4⟩ := waysOf_snoc.mp h1
    exact ⟨m ++ k, q, (List.append_assoc ..).symm, by rw [List.length_append]; omega, m, k, r, rfl, h4, h2⟩
theorem law_row (a b : Src) {p : Pk} {n : Nat} (l : List Pk) : WaysOf fs (.row (partsR a ++ partsR b)) p n l ↔ Behind fs b n (WaysOf fs a p n) l := by
  rw [← seq_behind]
  simp only [WaysOf, run_seq]
theorem law_loop (a : Src) {p : Pk} {n : Nat} (l : List Pk) : WaysOf fs (.loop a) p n l ↔ l = [p] ∨ Behind fs (.loop a) n (WaysOf fs a p n) l := by
  rw [← seq_behind]
  constructor
  · rintro ⟨ms, q, rfl, h, r⟩
    rcases (run_loop a).mp r with ⟨rfl, rfl⟩ | r
    · exact .inl rfl
    · exact .inr ⟨ms, q, rfl, h, r⟩
  · rintro (rfl | ⟨ms, q, rfl, h, r⟩)
    · exact ⟨[], p, rfl, Nat.zero_le _, (run_loop a).mpr (.inl ⟨rfl, rfl⟩)⟩
    · exact ⟨ms, q, rfl, h, (run_loop a).mpr (.inr r)⟩
theorem law_gate (g a : Src) (hg : isTest g = true) {p : Pk} {n : Nat} (l : List Pk) : WaysOf fs (.row (partsR g ++ partsR a)) p n l ↔ holds fs g p = true ∧ WaysOf fs a p n l := by
  simp only [WaysOf, run_seq]
  constructor
  · rintro ⟨ms, q, e, h, m, k, r, rfl, h1, h2⟩
    obtain ⟨rfl, rfl, h3⟩ := (run_test g hg).mp h1
    exact ⟨h3, k, q, e, h, h2⟩
  · rintro ⟨h3, ms, q, e, h, h2⟩
    exact ⟨ms, q, e, h, [], ms, p, rfl, (run_test g hg).mpr ⟨rfl, rfl, h3⟩, h2⟩
theorem law_behind_gate (g a : Src) (hg : isTest g = true) {p : Pk} {n : Nat} (l : List Pk) : WaysOf fs (.row (partsR a ++ partsR g)) p n l ↔ WaysOf fs a p n l ∧ holds fs g (l.getLastD []) = true := by
  simp only [WaysOf, run_seq]
  constructor
  · rintro ⟨ms, q, rfl, h, m, k, r, rfl, h1, h2⟩
    obtain ⟨rfl, rfl, h3⟩ := (run_test g hg).mp h2
    rw [List.append_nil] at *
    exact ⟨⟨m, q, rfl, h, h1⟩, by simpa using h3⟩
  · rintro ⟨⟨ms, q, rfl, h, h1⟩, h3⟩
    exact ⟨ms, q, rfl, h, ms, [], q, (List.append_nil _).symm, h1, (run_test g hg).mpr ⟨rfl, rfl, by simpa using h3⟩⟩
theorem law_note (a : Src) {p : Pk} {n : Nat} (l : List Pk) : WaysOf fs (.row (partsR .mark ++ partsR a)) p (n + 1) l ↔ ∃ m, WaysOf fs a p n m ∧ l = p :: m := by
  simp only [WaysOf, run_seq]
  constructor
  · rintro ⟨ms, q, rfl, h, m, k, r, rfl, h1, h2⟩
    simp only [Run] at h1
    obtain ⟨rfl, rfl⟩ := h1
    simp at h
    exact ⟨k ++ [q], ⟨k, q, rfl, by omega, h2⟩, rfl⟩
  · rintro ⟨_, ⟨ms, q, rfl, h, h1⟩, rfl⟩
    exact ⟨p :: ms, q, rfl, by simp; omega, [p], ms, p, rfl, by simp [Run], h1⟩
theorem law_behind_note (a : Src) {p : Pk} {n : Nat} (l : List Pk) : WaysOf fs (.row (partsR a ++ partsR .mark)) p (n + 1) l ↔ ∃ m, WaysOf fs a p n m ∧ l = m ++ [m.getLastD []] := by
  simp only [WaysOf, run_seq]
  constructor
  · rintro ⟨ms, q, rfl, h, m, k, r, rfl, h1, h2⟩
    simp only [Run] at h2
    obtain ⟨rfl, rfl⟩ := h2
    simp at h
    exact ⟨m ++ [q], ⟨m, q, rfl, by omega, h1⟩, by simp⟩
  · rintro ⟨_, ⟨ms, q, rfl, h, h1⟩, rfl⟩
    exact ⟨ms ++ [q], q, by simp, by simp; omega, ms, [q], q, rfl, h1, by simp [Run]⟩
/-- ways are lines of packets -/
theorem waysOf_line {t : Src} {p : Pk} {n : Nat} {l : List Pk} {N : List Nat} (hp : p.length = fs.length) (ft : Fits fs N t) (h : WaysOf fs t p n l) : Line N p l ∧ 1 ≤ l.length ∧ l.length ≤ n + 1 := by
  obtain ⟨ms, q, rfl, h1, h2⟩ := h
  exact ⟨run_line t hp ft h2, by simp, by simp; omega⟩
end Mw
namespace Mw
/-! Hashes of packets and of entries: no two of those that the law meets are equal. Plain numbers. -/
/-- the turn by 31 bits, and back -/
def rot (y : Nat) : Nat := (y % 8589934592) * 2147483648 + y / 8589934592
def rotr (y : Nat) : Nat := y / 2147483648 + (y % 2147483648) * 8589934592
def stp (acc l : Nat) : Nat := rot ((acc + l * 14029467366897019727) % 18446744073709551616) * 11400714785074694791 % 18446744073709551616
def AA (a : Nat) : Nat := stp 2870177450012600261 a
theorem rot_lt {y : Nat} (h : y < 18446744073709551616) : rot y < 18446744073709551616 := by unfold rot; omega
theorem rotr_rot {y : Nat} (h : y < 18446744073709551616) : rotr (rot y) = y := by unfold rot rotr; omega
theorem stp_lt (a l : Nat) : stp a l < 18446744073709551616 := Nat.mod_lt _ (by decide)
theorem AA_lt (a : Nat) : AA a < 18446744073709551616 := stp_lt _ _
/-- what was under the last turn -/
theorem stp_eq {a l t : Nat} (h : stp a l = t) : rot ((a + l * 14029467366897019727) % 18446744073709551616) = t * 614540362697595703 % 18446744073709551616 := by
  have hl : rot ((a + l * 14029467366897019727) % 18446744073709551616) < 18446744073709551616 := rot_lt (Nat.mod_lt _ (by decide))
  unfold stp at h
  generalize rot ((a + l * 14029467366897019727) % 18446744073709551616) = r at *
  subst h
  omega
theorem under_eq {a l t : Nat} (h : stp a l = t) : (a + l * 14029467366897019727) % 18446744073709551616 = rotr (t * 614540362697595703 % 18446744073709551616) := by
  rw [← stp_eq h, rotr_rot (Nat.mod_lt _ (by decide))]
theorem rot_mk {h l : Nat} (hl : l < 8589934592) : rot (h * 8589934592 + l) = l * 2147483648 + h := by unfold rot; omega
theorem rot_key {h l h' l' K : Nat} (a1 : l < 8589934592) (a2 : l' < 8589934592) (b1 : h < 2147483648) (b2 : h' < 2147483648) (hK : K < 18446744073709551616) (q : (l * 2147483648 + h) % 18446744073709551616 = (l' * 2147483648 + h' + K) % 18446744073709551616) :
    ∃ c e d : Nat, (c = 0 ∨ c = 1) ∧ (e = 0 ∨ e = 1) ∧ d < 18446744073709551616 ∧ h * 8589934592 + l = (h' * 8589934592 + l' + d) % 18446744073709551616 ∧ rot d = (K + 18446744073709551616 - c + e * 2147483648) % 18446744073709551616 := by
  by_cases c1 : l' ≤ l
  · obtain ⟨x, rfl⟩ : ∃ x, l = l' + x := ⟨l - l', by omega⟩
    by_cases c2 : h' ≤ h
    · obtain ⟨y, rfl⟩ : ∃ y, h = h' + y := ⟨h - h', by omega⟩
      refine ⟨0, 0, y * 8589934592 + x, .inl rfl, .inl rfl, by omega, by omega, ?_⟩
      rw [rot_mk (by omega)]
      omega
    · obtain ⟨y, rfl⟩ : ∃ y, h' = h + y := ⟨h' - h, by omega⟩
      refine ⟨0, 1, (2147483648 - y) * 8589934592 + x, .inl rfl, .inr rfl, by omega, by omega, ?_⟩
      rw [rot_mk (by omega)]
      omega
  · obtain ⟨x, rfl⟩ : ∃ x, l' = l + x := ⟨l' - l, by omega⟩
    by_cases c2 : h' + 1 ≤ h
    · obtain ⟨y, rfl⟩ : ∃ y, h = h' + 1 + y := ⟨h - h' - 1, by omega⟩
      refine ⟨1, 0, y * 8589934592 + (8589934592 - x), .inr rfl, .inl rfl, by omega, by omega, ?_⟩
      rw [rot_mk (by omega)]
      omega
    · obtain ⟨y, rfl⟩ : ∃ y, h' = h + y := ⟨h' - h, by omega⟩
      refine ⟨1, 1, (2147483648 - 1 - y) * 8589934592 + (8589934592 - x), .inr rfl, .inr rfl, by omega, by omega, ?_⟩
      rw [rot_mk (by omega)]
      omega
/-- the turn of a difference -/
theorem rot_diff {z z' K : Nat} (hz : z < 18446744073709551616) (hz' : z' < 18446744073709551616) (hK : K < 18446744073709551616) (h : rot z % 18446744073709551616 = (rot z' + K) % 18446744073709551616) :
    ∃ c e : Nat, (c = 0 ∨ c = 1) ∧ (e = 0 ∨ e = 1) ∧ z = (z' + rotr ((K + 18446744073709551616 - c + e * 2147483648) % 18446744073709551616)) % 18446744073709551616 := by
  have r1 : rot z = (z % 8589934592) * 2147483648 + z / 8589934592 := rfl
  have r2 : rot z' = (z' % 8589934592) * 2147483648 + z' / 8589934592 := rfl
  rw [r1, r2] at h
  obtain ⟨c, e, d, hc, he, hd, q1, q2⟩ := rot_key (Nat.mod_lt _ (by decide)) (Nat.mod_lt _ (by decide)) (by omega) (by omega) hK h
  refine ⟨c, e, hc, he, ?_⟩
  rw [← q2, rotr_rot hd]
  omega
/-! ### the numbers that stand in packets, and the differences -/
def FF : List Nat := [0, 1, 2, 3, 4, 5, 7, 8, 9, 1000000000000]
def DD : List Nat := [786788282530685373, 786788282530685374, 786788291120619965, 786788291120619966, 1573576573651305338, 1573576573651305339, 1573576582241239930, 1573576582241239931, 2463288220732754658, 2463288220732754659, 2463288229322689250, 2463288229322689251, 4016504799376804846, 4016504799376804847, 4016504807966739438, 4016504807966739439, 4803293090119066108, 4803293090119066109, 4803293090497424811, 4803293090497424812, 4803293098709000700, 4803293098709000701, 4803293099087359403, 4803293099087359404, 5590081372649751481, 5590081372649751482, 5590081373028110184, 5590081373028110185, 5590081381239686073, 5590081381239686074, 5590081381618044776, 5590081381618044777, 6376869663770371446, 6376869663770371447, 6376869664148730149, 6376869664148730150, 6376869672360306038, 6376869672360306039, 6376869672738664741, 6376869672738664742, 7266581310851820766, 7266581310851820767, 7266581319441755358, 7266581319441755359, 8053369593382506139, 8053369593382506140, 8053369601972440731, 8053369601972440732, 8840157884503126104, 8840157884503126105, 8840157893093060696, 8840157893093060697, 9606586180616490919, 9606586180616490920, 9606586189206425511, 9606586189206425512, 10393374471737110884, 10393374471737110885, 10393374480327045476, 10393374480327045477, 11180162754267796257, 11180162754267796258, 11180162762857730849, 11180162762857730850, 12069874400970886874, 12069874400970886875, 12069874401349245577, 12069874401349245578, 12069874409560821466, 12069874409560821467, 12069874409939180169, 12069874409939180170, 12856662692091506839, 12856662692091506840, 12856662692469865542, 12856662692469865543, 12856662700681441431, 12856662700681441432, 12856662701059800134, 12856662701059800135, 13643450974622192212, 13643450974622192213, 13643450975000550915, 13643450975000550916, 13643450983212126804, 13643450983212126805, 13643450983590485507, 13643450983590485508, 14430239265742812177, 14430239265742812178, 14430239274332746769, 14430239274332746770, 15983455844386862365, 15983455844386862366, 15983455852976796957, 15983455852976796958, 16873167491468311685, 16873167491468311686, 16873167500058246277, 16873167500058246278, 17659955782588931650, 17659955782588931651, 17659955791178866242, 17659955791178866243]
/-- what was put in, from what came out -/
def unl (acc t : Nat) : Nat := (rotr (t * 614540362697595703 % 18446744073709551616) + 18446744073709551616 - acc) * 839798700976720815 % 18446744073709551616
theorem unl_stp {acc l : Nat} (ha : acc < 18446744073709551616) (hl : l < 18446744073709551616) : unl acc (stp acc l) = l := by
  unfold unl
  rw [← under_eq (a := acc) (l := l) rfl]
  omega
theorem AA_inj {a b : Nat} (ha : a < 18446744073709551616) (hb : b < 18446744073709551616) (h : AA a = AA b) : a = b := by
  have e1 := unl_stp (acc := 2870177450012600261) (l := a) (by decide) ha
  have e2 := unl_stp (acc := 2870177450012600261) (l := b) (by decide) hb
  have h' : stp 2870177450012600261 a = stp 2870177450012600261 b := h
  rw [← e1, h', e2]
/-- one first number -/
theorem ck1 : (DD.all fun d => decide (1000000000000 < d * 839798700976720815 % 18446744073709551616 ∧ d * 839798700976720815 % 18446744073709551616 < 18446744073709551616 - 1000000000000)) = true := by decide +kernel
/-- two fixed first numbers -/
theorem ck2 : (FF.all fun a => FF.all fun c => a == c || (0 :: DD).all fun d => decide (1000000000000 < (AA c + 18446744073709551616 - AA a + d) * 839798700976720815 % 18446744073709551616 ∧ (AA c + 18446744073709551616 - AA a + d) * 839798700976720815 % 18446744073709551616 < 18446744073709551616 - 1000000000000)) = true := by decide +kernel
/-- the drawn number stands first in one of both -/
def dfs : List Nat := [0, 1, 2, 3, 4, 5, 6, 7, 8, 9, 999999999991, 999999999992, 999999999993, 999999999995, 999999999996, 999999999997, 999999999998, 999999999999, 1000000000000, 18446743073709551616, 18446743073709551617, 18446743073709551618, 18446743073709551619, 18446743073709551620, 18446743073709551621, 18446743073709551623, 18446743073709551624, 18446743073709551625, 18446744073709551607, 18446744073709551608, 18446744073709551609, 18446744073709551610, 18446744073709551611, 18446744073709551612, 18446744073709551613, 18446744073709551614, 18446744073709551615]
theorem ck3a : (FF.all fun b => FF.all fun d => dfs.contains ((d + 18446744073709551616 - b) % 18446744073709551616)) = true := by decide +kernel
theorem ck3 : (FF.all fun c => dfs.all fun f => (0 :: DD).all fun d => (f == 0 && d == 0) || decide (1000000000000 < unl 2870177450012600261 ((AA c + f * 14029467366897019727 + d) % 18446744073709551616))) = true := by decide +kernel
/-! ### the drawn number twice: two linear conditions on the halves of what is turned -/
theorem sp33 (y : Nat) : ∃ m : Int, ((y % 18446744073709551616 / 8589934592 : Nat) : Int) * 8589934592 + ((y % 18446744073709551616 % 8589934592 : Nat) : Int) + 18446744073709551616 * m = y := ⟨((y / 18446744073709551616 : Nat) : Int), by omega⟩
theorem spM (y : Nat) : ∃ m : Int, ((y % 18446744073709551616 : Nat) : Int) + 18446744073709551616 * m = y := ⟨((y / 18446744073709551616 : Nat) : Int), by omega⟩
theorem eqM {y z : Nat} (h : y % 18446744073709551616 = z % 18446744073709551616) : ∃ m : Int, (y : Int) = z + 18446744073709551616 * m := ⟨((y / 18446744073709551616 : Nat) : Int) - ((z / 18446744073709551616 : Nat) : Int), by omega⟩
theorem win {t : Nat} {E w : Int} {B : Nat} (e : (t : Int) = E + 18446744073709551616 * w) (h0 : 0 ≤ E) (h1 : E ≤ (B : Int)) (hB : B < 18446744073709551616) : ¬ (B < t % 18446744073709551616) := by omega
theorem half_lt (y : Nat) : y % 18446744073709551616 / 8589934592 < 2147483648 := by omega
theorem duI0 (lo hi x k a m1 m2 m3 : Int) (h1 : hi * 8589934592 + lo + 18446744073709551616 * m1 = 2870177450012600261 + x * 14029467366897019727) (h2 : a + 18446744073709551616 * m2 = (lo * 2147483648 + hi) * 11400714785074694791) (h3 : a + x * 14029467366897019727 = k + 18446744073709551616 * m3) :
    18418480609777849268 * 2870177450012600261 + 17203449741152844999 * k + 0 = (3838900 * lo + 13161201 * hi + 24029 * x + 0) + 18446744073709551616 * (22832726107240965474374478925 * lo + 10632316640419627579 * hi + -924078300920403087 * x + 18418480609777849268 * m1 - 17203449741152844999 * m2 - 17203449741152844999 * m3) := by omega
def ckI0 (k : Nat) : Bool := decide (85268363823769947 < (18418480609777849268 * 2870177450012600261 + 17203449741152844999 * k + 0) % 18446744073709551616)
theorem dualI0 {x k : Nat} (h : (AA x + x * 14029467366897019727) % 18446744073709551616 = k % 18446744073709551616) : ∃ w : Int, 18418480609777849268 * 2870177450012600261 + 17203449741152844999 * (k : Int) + 0 = (3838900 * (((2870177450012600261 + x * 14029467366897019727) % 18446744073709551616 % 8589934592 : Nat) : Int) + 13161201 * (((2870177450012600261 + x * 14029467366897019727) % 18446744073709551616 / 8589934592 : Nat) : Int) + 24029 * (x : Int) + 0) + 18446744073709551616 * w := by
  obtain ⟨m1, h1⟩ := sp33 (2870177450012600261 + x * 14029467366897019727)
  obtain ⟨m2, h2⟩ := spM (((2870177450012600261 + x * 14029467366897019727) % 18446744073709551616 % 8589934592 * 2147483648 + (2870177450012600261 + x * 14029467366897019727) % 18446744073709551616 / 8589934592) * 11400714785074694791)
  obtain ⟨m3, h3⟩ := eqM h
  have e : AA x = ((2870177450012600261 + x * 14029467366897019727) % 18446744073709551616 % 8589934592 * 2147483648 + (2870177450012600261 + x * 14029467366897019727) % 18446744073709551616 / 8589934592) * 11400714785074694791 % 18446744073709551616 := rfl
  rw [← e] at h2
  generalize (2870177450012600261 + x * 14029467366897019727) % 18446744073709551616 % 8589934592 = lo at *
  generalize (2870177450012600261 + x * 14029467366897019727) % 18446744073709551616 / 8589934592 = hi at *
  generalize AA x = a at *
  exact ⟨_, duI0 lo hi x k a m1 m2 m3 (by omega) (by omega) (by omega)⟩
theorem noI0 {x k : Nat} (hx : x ≤ 1000000000000) (h : (AA x + x * 14029467366897019727) % 18446744073709551616 = k % 18446744073709551616) : ckI0 k = false := by
  obtain ⟨w, e⟩ := dualI0 h
  unfold ckI0
  refine decide_eq_false ?_
  have b1 : (2870177450012600261 + x * 14029467366897019727) % 18446744073709551616 % 8589934592 < 8589934592 := Nat.mod_lt _ (by decide)
  have b2 : (2870177450012600261 + x * 14029467366897019727) % 18446744073709551616 / 8589934592 < 2147483648 := half_lt _
  generalize (2870177450012600261 + x * 14029467366897019727) % 18446744073709551616 % 8589934592 = lo at *
  generalize (2870177450012600261 + x * 14029467366897019727) % 18446744073709551616 / 8589934592 = hi at *
  have c : ((18418480609777849268 * 2870177450012600261 + 17203449741152844999 * k + 0 : Nat) : Int) = 18418480609777849268 * 2870177450012600261 + 17203449741152844999 * (k : Int) + 0 := by omega
  rw [← c] at e
  have b : 0 ≤ 3838900 * (lo : Int) + 13161201 * (hi : Int) + 24029 * (x : Int) + 0 ∧ 3838900 * (lo : Int) + 13161201 * (hi : Int) + 24029 * (x : Int) + 0 ≤ 85268363823769947 := by
    clear h c e
    omega
  exact win e b.1 b.2 (by decide)
theorem duI1 (lo hi x k a m1 m2 m3 : Int) (h1 : hi * 8589934592 + lo + 18446744073709551616 * m1 = 2870177450012600261 + x * 14029467366897019727) (h2 : a + 18446744073709551616 * m2 = (lo * 2147483648 + hi) * 11400714785074694791) (h3 : a + x * 14029467366897019727 = k + 18446744073709551616 * m3) :
    8812123991252429 * 2870177450012600261 + 2971371007405730097 * k + 53904123983536855 = (3612109 * lo + -4103465 * hi + -45092 * x + 53904123983536855) + 18446744073709551616 * (3943656731405388278300992051 * lo + 1836408270250167885 * hi + 2253141422209591183 * x + 8812123991252429 * m1 - 2971371007405730097 * m2 - 2971371007405730097 * m3) := by omega
def ckI1 (k : Nat) : Bool := decide (84931904029099274 < (8812123991252429 * 2870177450012600261 + 2971371007405730097 * k + 53904123983536855) % 18446744073709551616)
theorem dualI1 {x k : Nat} (h : (AA x + x * 14029467366897019727) % 18446744073709551616 = k % 18446744073709551616) : ∃ w : Int, 8812123991252429 * 2870177450012600261 + 2971371007405730097 * (k : Int) + 53904123983536855 = (3612109 * (((2870177450012600261 + x * 14029467366897019727) % 18446744073709551616 % 8589934592 : Nat) : Int) + -4103465 * (((2870177450012600261 + x * 14029467366897019727) % 18446744073709551616 / 8589934592 : Nat) : Int) + -45092 * (x : Int) + 53904123983536855) + 18446744073709551616 * w := by
  obtain ⟨m1, h1⟩ := sp33 (2870177450012600261 + x * 14029467366897019727)
  obtain ⟨m2, h2⟩ := spM (((2870177450012600261 + x * 14029467366897019727) % 18446744073709551616 % 8589934592 * 2147483648 + (2870177450012600261 + x * 14029467366897019727) % 18446744073709551616 / 8589934592) * 11400714785074694791)
  obtain ⟨m3, h3⟩ := eqM h
  have e : AA x = ((2870177450012600261 + x * 14029467366897019727) % 18446744073709551616 % 8589934592 * 2147483648 + (2870177450012600261 + x * 14029467366897019727) % 18446744073709551616 / 8589934592) * 11400714785074694791 % 18446744073709551616 := rfl
  rw [← e] at h2
  generalize (2870177450012600261 + x * 14029467366897019727) % 18446744073709551616 % 8589934592 = lo at *
  generalize (2870177450012600261 + x * 14029467366897019727) % 18446744073709551616 / 8589934592 = hi at *
  generalize AA x = a at *
  exact ⟨_, duI1 lo hi x k a m1 m2 m3 (by omega) (by omega) (by omega)⟩
theorem noI1 {x k : Nat} (hx : x ≤ 1000000000000) (h : (AA x + x * 14029467366897019727) % 18446744073709551616 = k % 18446744073709551616) : ckI1 k = false := by
  obtain ⟨w, e⟩ := dualI1 h
  unfold ckI1
  refine decide_eq_false ?_
  have b1 : (2870177450012600261 + x * 14029467366897019727) % 18446744073709551616 % 8589934592 < 8589934592 := Nat.mod_lt _ (by decide)
  have b2 : (2870177450012600261 + x * 14029467366897019727) % 18446744073709551616 / 8589934592 < 2147483648 := half_lt _
  generalize (2870177450012600261 + x * 14029467366897019727) % 18446744073709551616 % 8589934592 = lo at *
  generalize (2870177450012600261 + x * 14029467366897019727) % 18446744073709551616 / 8589934592 = hi at *
  have c : ((8812123991252429 * 2870177450012600261 + 2971371007405730097 * k + 53904123983536855 : Nat) : Int) = 8812123991252429 * 2870177450012600261 + 2971371007405730097 * (k : Int) + 53904123983536855 := by omega
  rw [← c] at e
  have b : 0 ≤ 3612109 * (lo : Int) + -4103465 * (hi : Int) + -45092 * (x : Int) + 53904123983536855 ∧ 3612109 * (lo : Int) + -4103465 * (hi : Int) + -45092 * (x : Int) + 53904123983536855 ≤ 84931904029099274 := by
    clear h c e
    omega
  exact win e b.1 b.2 (by decide)
theorem duI2 (lo hi x k a m1 m2 m3 : Int) (h1 : hi * 8589934592 + lo + 18446744073709551616 * m1 = 2870177450012600261 + x * 14029467366897019727) (h2 : a + 18446744073709551616 * m2 = (lo * 2147483648 + hi) * 11400714785074694791) (h3 : a + x * 14029467366897019727 = k + 18446744073709551616 * m3) :
    106630225349679399 * 2870177450012600261 + 5890174564979528000 * k + 106630225295202496 = (4823335 * lo + -49653568 * hi + 49847 * x + 106630225295202496) + 18446744073709551616 * (7817545003447799646529152729 * lo + 3640328069941340886 * hi + 4398610738763399630 * x + 106630225349679399 * m1 - 5890174564979528000 * m2 - 5890174564979528000 * m3) := by omega
def ckI2 (k : Nat) : Bool := decide (197909357455683481 < (106630225349679399 * 2870177450012600261 + 5890174564979528000 * k + 106630225295202496) % 18446744073709551616)
theorem dualI2 {x k : Nat} (h : (AA x + x * 14029467366897019727) % 18446744073709551616 = k % 18446744073709551616) : ∃ w : Int, 106630225349679399 * 2870177450012600261 + 5890174564979528000 * (k : Int) + 106630225295202496 = (4823335 * (((2870177450012600261 + x * 14029467366897019727) % 18446744073709551616 % 8589934592 : Nat) : Int) + -49653568 * (((2870177450012600261 + x * 14029467366897019727) % 18446744073709551616 / 8589934592 : Nat) : Int) + 49847 * (x : Int) + 106630225295202496) + 18446744073709551616 * w := by
  obtain ⟨m1, h1⟩ := sp33 (2870177450012600261 + x * 14029467366897019727)
  obtain ⟨m2, h2⟩ := spM (((2870177450012600261 + x * 14029467366897019727) % 18446744073709551616 % 8589934592 * 2147483648 + (2870177450012600261 + x * 14029467366897019727) % 18446744073709551616 / 8589934592) * 11400714785074694791)
  obtain ⟨m3, h3⟩ := eqM h
  have e : AA x = ((2870177450012600261 + x * 14029467366897019727) % 18446744073709551616 % 8589934592 * 2147483648 + (2870177450012600261 + x * 14029467366897019727) % 18446744073709551616 / 8589934592) * 11400714785074694791 % 18446744073709551616 := rfl
  rw [← e] at h2
  generalize (2870177450012600261 + x * 14029467366897019727) % 18446744073709551616 % 8589934592 = lo at *
  generalize (2870177450012600261 + x * 14029467366897019727) % 18446744073709551616 / 8589934592 = hi at *
  generalize AA x = a at *
  exact ⟨_, duI2 lo hi x k a m1 m2 m3 (by omega) (by omega) (by omega)⟩
theorem noI2 {x k : Nat} (hx : x ≤ 1000000000000) (h : (AA x + x * 14029467366897019727) % 18446744073709551616 = k % 18446744073709551616) : ckI2 k = false := by
  obtain ⟨w, e⟩ := dualI2 h
  unfold ckI2
  refine decide_eq_false ?_
  have b1 : (2870177450012600261 + x * 14029467366897019727) % 18446744073709551616 % 8589934592 < 8589934592 := Nat.mod_lt _ (by decide)
  have b2 : (2870177450012600261 + x * 14029467366897019727) % 18446744073709551616 / 8589934592 < 2147483648 := half_lt _
  generalize (2870177450012600261 + x * 14029467366897019727) % 18446744073709551616 % 8589934592 = lo at *
  generalize (2870177450012600261 + x * 14029467366897019727) % 18446744073709551616 / 8589934592 = hi at *
  have c : ((106630225349679399 * 2870177450012600261 + 5890174564979528000 * k + 106630225295202496 : Nat) : Int) = 106630225349679399 * 2870177450012600261 + 5890174564979528000 * (k : Int) + 106630225295202496 := by omega
  rw [← c] at e
  have b : 0 ≤ 4823335 * (lo : Int) + -49653568 * (hi : Int) + 49847 * (x : Int) + 106630225295202496 ∧ 4823335 * (lo : Int) + -49653568 * (hi : Int) + 49847 * (x : Int) + 106630225295202496 ≤ 197909357455683481 := by
    clear h c e
    omega
  exact win e b.1 b.2 (by decide)
theorem duJ0 (lo hi x k a m1 m2 m3 : Int) (h1 : hi * 8589934592 + lo + 18446744073709551616 * m1 = 2870177450012600261 + x * 14029467366897019727) (h2 : a + 18446744073709551616 * m2 = (lo * 2147483648 + hi) * 11400714785074694791) (h3 : a = x * 14029467366897019727 + k + 18446744073709551616 * m3) :
    18400257095745263064 * 2870177450012600261 + 3543348218889121950 * k + 55581599682164184 = (-4074024 * lo + 21647186 * hi + -20586 * x + 55581599682164184) + 18446744073709551616 * (4702795113874284846904125993 * lo + 2189909635239533122 * hi + -16688966543016744462 * x + 18400257095745263064 * m1 - 3543348218889121950 * m2 - 3543348218889121950 * m3) := by omega
def ckJ0 (k : Nat) : Bool := decide (102068577620731526 < (18400257095745263064 * 2870177450012600261 + 3543348218889121950 * k + 55581599682164184) % 18446744073709551616)
theorem dualJ0 {x k : Nat} (h : AA x % 18446744073709551616 = (x * 14029467366897019727 + k) % 18446744073709551616) : ∃ w : Int, 18400257095745263064 * 2870177450012600261 + 3543348218889121950 * (k : Int) + 55581599682164184 = (-4074024 * (((2870177450012600261 + x * 14029467366897019727) % 18446744073709551616 % 8589934592 : Nat) : Int) + 21647186 * (((2870177450012600261 + x * 14029467366897019727) % 18446744073709551616 / 8589934592 : Nat) : Int) + -20586 * (x : Int) + 55581599682164184) + 18446744073709551616 * w := by
  obtain ⟨m1, h1⟩ := sp33 (2870177450012600261 + x * 14029467366897019727)
  obtain ⟨m2, h2⟩ := spM (((2870177450012600261 + x * 14029467366897019727) % 18446744073709551616 % 8589934592 * 2147483648 + (2870177450012600261 + x * 14029467366897019727) % 18446744073709551616 / 8589934592) * 11400714785074694791)
  obtain ⟨m3, h3⟩ := eqM h
  have e : AA x = ((2870177450012600261 + x * 14029467366897019727) % 18446744073709551616 % 8589934592 * 2147483648 + (2870177450012600261 + x * 14029467366897019727) % 18446744073709551616 / 8589934592) * 11400714785074694791 % 18446744073709551616 := rfl
  rw [← e] at h2
  generalize (2870177450012600261 + x * 14029467366897019727) % 18446744073709551616 % 8589934592 = lo at *
  generalize (2870177450012600261 + x * 14029467366897019727) % 18446744073709551616 / 8589934592 = hi at *
  generalize AA x = a at *
  exact ⟨_, duJ0 lo hi x k a m1 m2 m3 (by omega) (by omega) (by omega)⟩
theorem noJ0 {x k : Nat} (hx : x ≤ 1000000000000) (h : AA x % 18446744073709551616 = (x * 14029467366897019727 + k) % 18446744073709551616) : ckJ0 k = false := by
  obtain ⟨w, e⟩ := dualJ0 h
  unfold ckJ0
  refine decide_eq_false ?_
  have b1 : (2870177450012600261 + x * 14029467366897019727) % 18446744073709551616 % 8589934592 < 8589934592 := Nat.mod_lt _ (by decide)
  have b2 : (2870177450012600261 + x * 14029467366897019727) % 18446744073709551616 / 8589934592 < 2147483648 := half_lt _
  generalize (2870177450012600261 + x * 14029467366897019727) % 18446744073709551616 % 8589934592 = lo at *
  generalize (2870177450012600261 + x * 14029467366897019727) % 18446744073709551616 / 8589934592 = hi at *
  have c : ((18400257095745263064 * 2870177450012600261 + 3543348218889121950 * k + 55581599682164184 : Nat) : Int) = 18400257095745263064 * 2870177450012600261 + 3543348218889121950 * (k : Int) + 55581599682164184 := by omega
  rw [← c] at e
  have b : 0 ≤ -4074024 * (lo : Int) + 21647186 * (hi : Int) + -20586 * (x : Int) + 55581599682164184 ∧ -4074024 * (lo : Int) + 21647186 * (hi : Int) + -20586 * (x : Int) + 55581599682164184 ≤ 102068577620731526 := by
    clear h c e
    omega
  exact win e b.1 b.2 (by decide)
theorem duJ1 (lo hi x k a m1 m2 m3 : Int) (h1 : hi * 8589934592 + lo + 18446744073709551616 * m1 = 2870177450012600261 + x * 14029467366897019727) (h2 : a + 18446744073709551616 * m2 = (lo * 2147483648 + hi) * 11400714785074694791) (h3 : a = x * 14029467366897019727 + k + 18446744073709551616 * m3) :
    5458613528198632 * 2870177450012600261 + 2088185210478441777 * k + 52489613520381655 = (5275112 * lo + -2541865 * hi + -47031 * x + 52489613520381655) + 18446744073709551616 * (2771476749688839149739541016 * lo + 1290569431006115751 * hi + -1592297675375074382 * x + 5458613528198632 * m1 - 2088185210478441777 * m2 - 2088185210478441777 * m3) := by omega
def ckJ1 (k : Nat) : Bool := decide (97802480560580847 < (5458613528198632 * 2870177450012600261 + 2088185210478441777 * k + 52489613520381655) % 18446744073709551616)
theorem dualJ1 {x k : Nat} (h : AA x % 18446744073709551616 = (x * 14029467366897019727 + k) % 18446744073709551616) : ∃ w : Int, 5458613528198632 * 2870177450012600261 + 2088185210478441777 * (k : Int) + 52489613520381655 = (5275112 * (((2870177450012600261 + x * 14029467366897019727) % 18446744073709551616 % 8589934592 : Nat) : Int) + -2541865 * (((2870177450012600261 + x * 14029467366897019727) % 18446744073709551616 / 8589934592 : Nat) : Int) + -47031 * (x : Int) + 52489613520381655) + 18446744073709551616 * w := by
  obtain ⟨m1, h1⟩ := sp33 (2870177450012600261 + x * 14029467366897019727)
  obtain ⟨m2, h2⟩ := spM (((2870177450012600261 + x * 14029467366897019727) % 18446744073709551616 % 8589934592 * 2147483648 + (2870177450012600261 + x * 14029467366897019727) % 18446744073709551616 / 8589934592) * 11400714785074694791)
  obtain ⟨m3, h3⟩ := eqM h
  have e : AA x = ((2870177450012600261 + x * 14029467366897019727) % 18446744073709551616 % 8589934592 * 2147483648 + (2870177450012600261 + x * 14029467366897019727) % 18446744073709551616 / 8589934592) * 11400714785074694791 % 18446744073709551616 := rfl
  rw [← e] at h2
  generalize (2870177450012600261 + x * 14029467366897019727) % 18446744073709551616 % 8589934592 = lo at *
  generalize (2870177450012600261 + x * 14029467366897019727) % 18446744073709551616 / 8589934592 = hi at *
  generalize AA x = a at *
  exact ⟨_, duJ1 lo hi x k a m1 m2 m3 (by omega) (by omega) (by omega)⟩
theorem noJ1 {x k : Nat} (hx : x ≤ 1000000000000) (h : AA x % 18446744073709551616 = (x * 14029467366897019727 + k) % 18446744073709551616) : ckJ1 k = false := by
  obtain ⟨w, e⟩ := dualJ1 h
  unfold ckJ1
  refine decide_eq_false ?_
  have b1 : (2870177450012600261 + x * 14029467366897019727) % 18446744073709551616 % 8589934592 < 8589934592 := Nat.mod_lt _ (by decide)
  have b2 : (2870177450012600261 + x * 14029467366897019727) % 18446744073709551616 / 8589934592 < 2147483648 := half_lt _
  generalize (2870177450012600261 + x * 14029467366897019727) % 18446744073709551616 % 8589934592 = lo at *
  generalize (2870177450012600261 + x * 14029467366897019727) % 18446744073709551616 / 8589934592 = hi at *
  have c : ((5458613528198632 * 2870177450012600261 + 2088185210478441777 * k + 52489613520381655 : Nat) : Int) = 5458613528198632 * 2870177450012600261 + 2088185210478441777 * (k : Int) + 52489613520381655 := by omega
  rw [← c] at e
  have b : 0 ≤ 5275112 * (lo : Int) + -2541865 * (hi : Int) + -47031 * (x : Int) + 52489613520381655 ∧ 5275112 * (lo : Int) + -2541865 * (hi : Int) + -47031 * (x : Int) + 52489613520381655 ≤ 97802480560580847 := by
    clear h c e
    omega
  exact win e b.1 b.2 (by decide)
theorem duJ2 (lo hi x k a m1 m2 m3 : Int) (h1 : hi * 8589934592 + lo + 18446744073709551616 * m1 = 2870177450012600261 + x * 14029467366897019727) (h2 : a + 18446744073709551616 * m2 = (lo * 2147483648 + hi) * 11400714785074694791) (h3 : a = x * 14029467366897019727 + k + 18446744073709551616 * m3) :
    18404041163807413157 * 2870177450012600261 + 4538534416441083836 * k + 0 = (6837157 * lo + 19885092 * hi + 49681 * x + 0) + 18446744073709551616 * (6023624029952359438197697628 * lo + 2804968528615497333 * hi + -17448722339808436962 * x + 18404041163807413157 * m1 - 4538534416441083836 * m2 - 4538534416441083836 * m3) := by omega
def ckJ2 (k : Nat) : Bool := decide (151114641307488311 < (18404041163807413157 * 2870177450012600261 + 4538534416441083836 * k + 0) % 18446744073709551616)
theorem dualJ2 {x k : Nat} (h : AA x % 18446744073709551616 = (x * 14029467366897019727 + k) % 18446744073709551616) : ∃ w : Int, 18404041163807413157 * 2870177450012600261 + 4538534416441083836 * (k : Int) + 0 = (6837157 * (((2870177450012600261 + x * 14029467366897019727) % 18446744073709551616 % 8589934592 : Nat) : Int) + 19885092 * (((2870177450012600261 + x * 14029467366897019727) % 18446744073709551616 / 8589934592 : Nat) : Int) + 49681 * (x : Int) + 0) + 18446744073709551616 * w := by
  obtain ⟨m1, h1⟩ := sp33 (2870177450012600261 + x * 14029467366897019727)
  obtain ⟨m2, h2⟩ := spM (((2870177450012600261 + x * 14029467366897019727) % 18446744073709551616 % 8589934592 * 2147483648 + (2870177450012600261 + x * 14029467366897019727) % 18446744073709551616 / 8589934592) * 11400714785074694791)
  obtain ⟨m3, h3⟩ := eqM h
  have e : AA x = ((2870177450012600261 + x * 14029467366897019727) % 18446744073709551616 % 8589934592 * 2147483648 + (2870177450012600261 + x * 14029467366897019727) % 18446744073709551616 / 8589934592) * 11400714785074694791 % 18446744073709551616 := rfl
  rw [← e] at h2
  generalize (2870177450012600261 + x * 14029467366897019727) % 18446744073709551616 % 8589934592 = lo at *
  generalize (2870177450012600261 + x * 14029467366897019727) % 18446744073709551616 / 8589934592 = hi at *
  generalize AA x = a at *
  exact ⟨_, duJ2 lo hi x k a m1 m2 m3 (by omega) (by omega) (by omega)⟩
theorem noJ2 {x k : Nat} (hx : x ≤ 1000000000000) (h : AA x % 18446744073709551616 = (x * 14029467366897019727 + k) % 18446744073709551616) : ckJ2 k = false := by
  obtain ⟨w, e⟩ := dualJ2 h
  unfold ckJ2
  refine decide_eq_false ?_
  have b1 : (2870177450012600261 + x * 14029467366897019727) % 18446744073709551616 % 8589934592 < 8589934592 := Nat.mod_lt _ (by decide)
  have b2 : (2870177450012600261 + x * 14029467366897019727) % 18446744073709551616 / 8589934592 < 2147483648 := half_lt _
  generalize (2870177450012600261 + x * 14029467366897019727) % 18446744073709551616 % 8589934592 = lo at *
  generalize (2870177450012600261 + x * 14029467366897019727) % 18446744073709551616 / 8589934592 = hi at *
  have c : ((18404041163807413157 * 2870177450012600261 + 4538534416441083836 * k + 0 : Nat) : Int) = 18404041163807413157 * 2870177450012600261 + 4538534416441083836 * (k : Int) + 0 := by omega
  rw [← c] at e
  have b : 0 ≤ 6837157 * (lo : Int) + 19885092 * (hi : Int) + 49681 * (x : Int) + 0 ∧ 6837157 * (lo : Int) + 19885092 * (hi : Int) + 49681 * (x : Int) + 0 ≤ 151114641307488311 := by
    clear h c e
    omega
  exact win e b.1 b.2 (by decide)
theorem ckI : (FF.all fun c => FF.all fun d => (0 :: DD).all fun e => (e == 0 && c == d) || (ckI0 ((AA c + d * 14029467366897019727 + e) % 18446744073709551616) || (ckI1 ((AA c + d * 14029467366897019727 + e) % 18446744073709551616) || ckI2 ((AA c + d * 14029467366897019727 + e) % 18446744073709551616)))) = true := by decide +kernel
theorem ckJ : (FF.all fun c => FF.all fun b => (0 :: DD).all fun e => (e == 0 && c == b) || (ckJ0 ((AA c + b * 4417276706812531889 + e) % 18446744073709551616) || (ckJ1 ((AA c + b * 4417276706812531889 + e) % 18446744073709551616) || ckJ2 ((AA c + b * 4417276706812531889 + e) % 18446744073709551616)))) = true := by decide +kernel
theorem selfJ (c : Nat) : AA c % 18446744073709551616 = (c * 14029467366897019727 + (AA c + c * 4417276706812531889)) % 18446744073709551616 := by omega
theorem unq {E F w v : Int} {B : Nat} (h : E + 18446744073709551616 * w = F + 18446744073709551616 * v) (a0 : 0 ≤ E) (a1 : E ≤ (B : Int)) (b0 : 0 ≤ F) (b1 : F ≤ (B : Int)) (hB : B < 18446744073709551616) : E = F := by omega
theorem solveI (a b x : Int) (g0 : 3838900 * a + 13161201 * b + 24029 * x = 0) (g1 : 3612109 * a + -4103465 * b + -45092 * x = 0) (g2 : 4823335 * a + -49653568 * b + 49847 * x = 0) : x = 0 := by lia
theorem allI {x k : Nat} (h : (AA x + x * 14029467366897019727) % 18446744073709551616 = k % 18446744073709551616) : ∃ lo hi : Nat, lo < 8589934592 ∧ hi < 2147483648 ∧ (∃ w : Int, 18418480609777849268 * 2870177450012600261 + 17203449741152844999 * (k : Int) + 0 = (3838900 * (lo : Int) + 13161201 * (hi : Int) + 24029 * (x : Int) + 0) + 18446744073709551616 * w) ∧ (∃ w : Int, 8812123991252429 * 2870177450012600261 + 2971371007405730097 * (k : Int) + 53904123983536855 = (3612109 * (lo : Int) + -4103465 * (hi : Int) + -45092 * (x : Int) + 53904123983536855) + 18446744073709551616 * w) ∧ (∃ w : Int, 106630225349679399 * 2870177450012600261 + 5890174564979528000 * (k : Int) + 106630225295202496 = (4823335 * (lo : Int) + -49653568 * (hi : Int) + 49847 * (x : Int) + 106630225295202496) + 18446744073709551616 * w) :=
  ⟨(2870177450012600261 + x * 14029467366897019727) % 18446744073709551616 % 8589934592, (2870177450012600261 + x * 14029467366897019727) % 18446744073709551616 / 8589934592, Nat.mod_lt _ (by decide), half_lt _, dualI0 h, dualI1 h, dualI2 h⟩
theorem uniqI {x c : Nat} (hx : x ≤ 1000000000000) (hc : c ≤ 1000000000000) (h : (AA x + x * 14029467366897019727) % 18446744073709551616 = (AA c + c * 14029467366897019727) % 18446744073709551616) : x = c := by
  obtain ⟨lo, hi, b1, b2, ⟨w0, e0⟩, ⟨w1, e1⟩, ⟨w2, e2⟩⟩ := allI h
  obtain ⟨lo', hi', b3, b4, ⟨v0, f0⟩, ⟨v1, f1⟩, ⟨v2, f2⟩⟩ := allI (x := c) (k := AA c + c * 14029467366897019727) rfl
  clear h
  have g0 : 3838900 * (lo : Int) + 13161201 * (hi : Int) + 24029 * (x : Int) + 0 = 3838900 * (lo' : Int) + 13161201 * (hi' : Int) + 24029 * (c : Int) + 0 := unq (B := 85268363823769947) (e0.symm.trans f0) (by clear e0 f0 e1 f1 e2 f2; omega) (by clear e0 f0 e1 f1 e2 f2; omega) (by clear e0 f0 e1 f1 e2 f2; omega) (by clear e0 f0 e1 f1 e2 f2; omega) (by decide)
  have g1 : 3612109 * (lo : Int) + -4103465 * (hi : Int) + -45092 * (x : Int) + 53904123983536855 = 3612109 * (lo' : Int) + -4103465 * (hi' : Int) + -45092 * (c : Int) + 53904123983536855 := unq (B := 84931904029099274) (e1.symm.trans f1) (by clear e0 f0 e1 f1 e2 f2 g0; omega) (by clear e0 f0 e1 f1 e2 f2 g0; omega) (by clear e0 f0 e1 f1 e2 f2 g0; omega) (by clear e0 f0 e1 f1 e2 f2 g0; omega) (by decide)
  have g2 : 4823335 * (lo : Int) + -49653568 * (hi : Int) + 49847 * (x : Int) + 106630225295202496 = 4823335 * (lo' : Int) + -49653568 * (hi' : Int) + 49847 * (c : Int) + 106630225295202496 := unq (B := 197909357455683481) (e2.symm.trans f2) (by clear e0 f0 e1 f1 e2 f2 g0 g1; omega) (by clear e0 f0 e1 f1 e2 f2 g0 g1; omega) (by clear e0 f0 e1 f1 e2 f2 g0 g1; omega) (by clear e0 f0 e1 f1 e2 f2 g0 g1; omega) (by decide)
  clear e0 f0 e1 f1 e2 f2 b1 b2 b3 b4 hx hc
  have z : (x : Int) - (c : Int) = 0 := solveI ((lo : Int) - lo') ((hi : Int) - hi') ((x : Int) - c) (by lia) (by lia) (by lia)
  clear g0 g1 g2
  omega
theorem solveJ (a b x : Int) (g0 : -4074024 * a + 21647186 * b + -20586 * x = 0) (g1 : 5275112 * a + -2541865 * b + -47031 * x = 0) (g2 : 6837157 * a + 19885092 * b + 49681 * x = 0) : x = 0 := by lia
theorem allJ {x k : Nat} (h : AA x % 18446744073709551616 = (x * 14029467366897019727 + k) % 18446744073709551616) : ∃ lo hi : Nat, lo < 8589934592 ∧ hi < 2147483648 ∧ (∃ w : Int, 18400257095745263064 * 2870177450012600261 + 3543348218889121950 * (k : Int) + 55581599682164184 = (-4074024 * (lo : Int) + 21647186 * (hi : Int) + -20586 * (x : Int) + 55581599682164184) + 18446744073709551616 * w) ∧ (∃ w : Int, 5458613528198632 * 2870177450012600261 + 2088185210478441777 * (k : Int) + 52489613520381655 = (5275112 * (lo : Int) + -2541865 * (hi : Int) + -47031 * (x : Int) + 52489613520381655) + 18446744073709551616 * w) ∧ (∃ w : Int, 18404041163807413157 * 2870177450012600261 + 4538534416441083836 * (k : Int) + 0 = (6837157 * (lo : Int) + 19885092 * (hi : Int) + 49681 * (x : Int) + 0) + 18446744073709551616 * w) :=
  ⟨(2870177450012600261 + x * 14029467366897019727) % 18446744073709551616 % 8589934592, (2870177450012600261 + x * 14029467366897019727) % 18446744073709551616 / 8589934592, Nat.mod_lt _ (by decide), half_lt _, dualJ0 h, dualJ1 h, dualJ2 h⟩
theorem uniqJ {x c : Nat} (hx : x ≤ 1000000000000) (hc : c ≤ 1000000000000) (h : AA x % 18446744073709551616 = (x * 14029467366897019727 + (AA c + c * 4417276706812531889)) % 18446744073709551616) : x = c := by
  obtain ⟨lo, hi, b1, b2, ⟨w0, e0⟩, ⟨w1, e1⟩, ⟨w2, e2⟩⟩ := allJ h
  obtain ⟨lo', hi', b3, b4, ⟨v0, f0⟩, ⟨v1, f1⟩, ⟨v2, f2⟩⟩ := allJ (x := c) (k := AA c + c * 4417276706812531889) (selfJ c)
  clear h
  have g0 : -4074024 * (lo : Int) + 21647186 * (hi : Int) + -20586 * (x : Int) + 55581599682164184 = -4074024 * (lo' : Int) + 21647186 * (hi' : Int) + -20586 * (c : Int) + 55581599682164184 := unq (B := 102068577620731526) (e0.symm.trans f0) (by clear e0 f0 e1 f1 e2 f2; omega) (by clear e0 f0 e1 f1 e2 f2; omega) (by clear e0 f0 e1 f1 e2 f2; omega) (by clear e0 f0 e1 f1 e2 f2; omega) (by decide)
  have g1 : 5275112 * (lo : Int) + -2541865 * (hi : Int) + -47031 * (x : Int) + 52489613520381655 = 5275112 * (lo' : Int) + -2541865 * (hi' : Int) + -47031 * (c : Int) + 52489613520381655 := unq (B := 97802480560580847) (e1.symm.trans f1) (by clear e0 f0 e1 f1 e2 f2 g0; omega) (by clear e0 f0 e1 f1 e2 f2 g0; omega) (by clear e0 f0 e1 f1 e2 f2 g0; omega) (by clear e0 f0 e1 f1 e2 f2 g0; omega) (by decide)
  have g2 : 6837157 * (lo : Int) + 19885092 * (hi : Int) + 49681 * (x : Int) + 0 = 6837157 * (lo' : Int) + 19885092 * (hi' : Int) + 49681 * (c : Int) + 0 := unq (B := 151114641307488311) (e2.symm.trans f2) (by clear e0 f0 e1 f1 e2 f2 g0 g1; omega) (by clear e0 f0 e1 f1 e2 f2 g0 g1; omega) (by clear e0 f0 e1 f1 e2 f2 g0 g1; omega) (by clear e0 f0 e1 f1 e2 f2 g0 g1; omega) (by decide)
  clear e0 f0 e1 f1 e2 f2 b1 b2 b3 b4 hx hc
  have z : (x : Int) - (c : Int) = 0 := solveJ ((lo : Int) - lo') ((hi : Int) - hi') ((x : Int) - c) (by lia) (by lia) (by lia)
  clear g0 g1 g2
  omega

theorem FF_le {a : Nat} (h : a ∈ FF) : a ≤ 1000000000000 := by
  have c : (FF.all fun a => decide (a ≤ 1000000000000)) = true := by decide +kernel
  exact of_decide_eq_true (List.all_eq_true.mp c a h)
theorem mulinv {A b C d e : Nat} (hA : A < 18446744073709551616) (hd : d ≤ 18446744073709551616) (h : (A + b * 14029467366897019727) % 18446744073709551616 = (C + d * 14029467366897019727 + e) % 18446744073709551616) : ((C + 18446744073709551616 - A + e) * 839798700976720815) % 18446744073709551616 = (b + 18446744073709551616 - d) % 18446744073709551616 := by lia
theorem moved {A b C d e : Nat} (hA : A < 18446744073709551616) (hb : b ≤ 1000000000000) (h : (A + b * 14029467366897019727) % 18446744073709551616 = (C + d * 14029467366897019727 + e) % 18446744073709551616) : A = (C + (d + 18446744073709551616 - b) % 18446744073709551616 * 14029467366897019727 + e) % 18446744073709551616 := by lia
theorem movedJ {A b C d e : Nat} (hA : A < 18446744073709551616) (hb : b ≤ 1000000000000) (h : (A + b * 14029467366897019727) % 18446744073709551616 = (C + d * 14029467366897019727 + e) % 18446744073709551616) : A % 18446744073709551616 = (d * 14029467366897019727 + (C + b * 4417276706812531889 + e) % 18446744073709551616) % 18446744073709551616 := by lia
theorem small_mod {b d : Nat} (hb : b ≤ 1000000000000) (hd : d ≤ 1000000000000) (h : 1000000000000 < (b + 18446744073709551616 - d) % 18446744073709551616 ∧ (b + 18446744073709551616 - d) % 18446744073709551616 < 18446744073709551616 - 1000000000000) : False := by omega
theorem zero_mod {b d : Nat} (hb : b ≤ 1000000000000) (hd : d ≤ 1000000000000) (h : (b + 18446744073709551616 - d) % 18446744073709551616 = 0) : b = d := by omega
theorem zinv {A : Nat} (hA : A < 18446744073709551616) : ((A + 18446744073709551616 - A + 0) * 839798700976720815) % 18446744073709551616 = 0 := by
  rw [show A + 18446744073709551616 - A + 0 = 18446744073709551616 by omega]
theorem einv {A e : Nat} (hA : A < 18446744073709551616) : ((A + 18446744073709551616 - A + e) * 839798700976720815) % 18446744073709551616 = e * 839798700976720815 % 18446744073709551616 := by
  rw [show A + 18446744073709551616 - A + e = 18446744073709551616 + e by omega]
  lia
/-- no two packets lie in one row, but for themselves -/
theorem lin0 {a b d e : Nat} (hb : b ≤ 1000000000000) (hd : d ≤ 1000000000000) (he : e ∈ 0 :: DD) (h : (AA a + b * 14029467366897019727) % 18446744073709551616 = (AA a + d * 14029467366897019727 + e) % 18446744073709551616) : e = 0 ∧ b = d := by
  have q := mulinv (AA_lt a) (Nat.le_trans hd (by decide)) h
  rcases List.mem_cons.mp he with rfl | he
  · rw [zinv (AA_lt a)] at q
    exact ⟨rfl, zero_mod hb hd q.symm⟩
  · have c := of_decide_eq_true (List.all_eq_true.mp ck1 e he)
    rw [einv (AA_lt a)] at q
    rw [q] at c
    exact (small_mod hb hd c).elim
theorem lin2 {a b c d e : Nat} (ha : a ∈ FF) (hc : c ∈ FF) (hac : a ≠ c) (hb : b ≤ 1000000000000) (hd : d ≤ 1000000000000) (he : e ∈ 0 :: DD) (h : (AA a + b * 14029467366897019727) % 18446744073709551616 = (AA c + d * 14029467366897019727 + e) % 18446744073709551616) : False := by
  have c1 := List.all_eq_true.mp (List.all_eq_true.mp ck2 a ha) c hc
  rw [Bool.or_eq_true] at c1
  rcases c1 with c1 | c1
  · exact hac (beq_iff_eq.mp c1)
  · have c2 := of_decide_eq_true (List.all_eq_true.mp c1 e he)
    rw [mulinv (AA_lt a) (Nat.le_trans hd (by decide)) h] at c2
    exact small_mod hb hd c2
theorem z00 {A : Nat} (hA : A < 18446744073709551616) : (A + 0 * 14029467366897019727 + 0) % 18446744073709551616 = A := by omega
theorem lin3a {x c e f : Nat} (hx : x ≤ 1000000000000) (hc : c ∈ FF) (hxc : x ≠ c) (he : e ∈ 0 :: DD) (hf : f ∈ dfs) (q : AA x = (AA c + f * 14029467366897019727 + e) % 18446744073709551616) : False := by
  have hc' := FF_le hc
  have c1 := List.all_eq_true.mp (List.all_eq_true.mp (List.all_eq_true.mp ck3 c hc) f hf) e he
  rw [Bool.or_eq_true] at c1
  rcases c1 with c1 | c1
  · rw [Bool.and_eq_true, beq_iff_eq, beq_iff_eq] at c1
    obtain ⟨rfl, rfl⟩ := c1
    exact hxc (AA_inj (Nat.lt_of_le_of_lt hx (by decide)) (Nat.lt_of_le_of_lt hc' (by decide)) (q.trans (z00 (AA_lt c))))
  · have c2 := of_decide_eq_true c1
    rw [← q] at c2
    have u : unl 2870177450012600261 (AA x) = x := unl_stp (by decide) (Nat.lt_of_le_of_lt hx (by decide))
    rw [u] at c2
    exact absurd hx (Nat.not_le_of_lt c2)
theorem lin3b {x b c e : Nat} (hx : x ≤ 1000000000000) (hc : c ∈ FF) (hxc : x ≠ c) (hb : b ∈ FF) (he : e ∈ 0 :: DD) (q : AA x % 18446744073709551616 = (x * 14029467366897019727 + (AA c + b * 4417276706812531889 + e) % 18446744073709551616) % 18446744073709551616) : False := by
  have hc' := FF_le hc
  have c1 := List.all_eq_true.mp (List.all_eq_true.mp (List.all_eq_true.mp ckJ c hc) b hb) e he
  rw [Bool.or_eq_true] at c1
  rcases c1 with c1 | c1
  · rw [Bool.and_eq_true, beq_iff_eq, beq_iff_eq] at c1
    obtain ⟨rfl, rfl⟩ := c1
    rw [Nat.add_zero, Nat.add_mod_mod] at q
    exact hxc (uniqJ hx hc' q)
  · rw [noJ0 hx q, noJ1 hx q, noJ2 hx q] at c1
    cases c1
theorem lin3c {x c d e : Nat} (hx : x ≤ 1000000000000) (hc : c ∈ FF) (hxc : x ≠ c) (hd : d ∈ FF) (he : e ∈ 0 :: DD) (h : (AA x + x * 14029467366897019727) % 18446744073709551616 = (AA c + d * 14029467366897019727 + e) % 18446744073709551616) : False := by
  have hc' := FF_le hc
  have c1 := List.all_eq_true.mp (List.all_eq_true.mp (List.all_eq_true.mp ckI c hc) d hd) e he
  rw [Bool.or_eq_true] at c1
  rcases c1 with c1 | c1
  · rw [Bool.and_eq_true, beq_iff_eq, beq_iff_eq] at c1
    obtain ⟨rfl, rfl⟩ := c1
    rw [Nat.add_zero] at h
    exact hxc (uniqI hx hc' h)
  · rw [← Nat.mod_mod (AA c + d * 14029467366897019727 + e)] at h
    rw [noI0 hx h, noI1 hx h, noI2 hx h] at c1
    cases c1
theorem dfs0 {d : Nat} : (d + 18446744073709551616 - d) % 18446744073709551616 ∈ dfs := by
  have c : dfs.contains 0 = true := by decide +kernel
  rw [show (d + 18446744073709551616 - d) % 18446744073709551616 = 0 by omega]
  exact List.contains_iff_mem.mp c
theorem lin3 {x b c d e : Nat} (hx : x ≤ 1000000000000) (hc : c ∈ FF) (hxc : x ≠ c) (hb : b ∈ FF ∨ b = x) (hd : d ∈ FF ∨ d = x) (he : e ∈ 0 :: DD) (h : (AA x + b * 14029467366897019727) % 18446744073709551616 = (AA c + d * 14029467366897019727 + e) % 18446744073709551616) : False := by
  have lx := AA_lt x
  have hbX : b ≤ 1000000000000 := hb.elim FF_le fun z => z ▸ hx
  rcases hb with hb | rfl
  · rcases hd with hd | rfl
    · exact lin3a hx hc hxc he (f := (d + 18446744073709551616 - b) % 18446744073709551616) (List.contains_iff_mem.mp (List.all_eq_true.mp (List.all_eq_true.mp ck3a b hb) d hd)) (moved lx hbX h)
    · exact lin3b hx hc hxc hb he (movedJ lx hbX h)
  · rcases hd with hd | rfl
    · exact lin3c hx hc hxc hd he h
    · exact lin3a hx hc hxc he dfs0 (moved lx hbX h)
end Mw
namespace Mw
theorem DD_neg : (DD.all fun e => DD.contains (18446744073709551616 - e) && decide (0 < e ∧ e < 18446744073709551616)) = true := by decide +kernel
theorem lin {x a b c d e : Nat} (hx : x ≤ 1000000000000) (ha : a ∈ FF ∨ a = x) (hb : b ∈ FF ∨ b = x) (hc : c ∈ FF ∨ c = x) (hd : d ∈ FF ∨ d = x) (he : e ∈ 0 :: DD) (h : (AA a + b * 14029467366897019727) % 18446744073709551616 = (AA c + d * 14029467366897019727 + e) % 18446744073709551616) : e = 0 ∧ a = c ∧ b = d := by
  have hbX : b ≤ 1000000000000 := hb.elim FF_le fun z => z ▸ hx
  have hdX : d ≤ 1000000000000 := hd.elim FF_le fun z => z ▸ hx
  by_cases hac : a = c
  · subst hac
    obtain ⟨z1, z2⟩ := lin0 hbX hdX he h
    exact ⟨z1, rfl, z2⟩
  · exfalso
    rcases hc with hc | rfl
    · rcases ha with ha | rfl
      · exact lin2 ha hc hac hbX hdX he h
      · exact lin3 hx hc hac hb hd he h
    · rcases ha with ha | rfl
      · have he' : (18446744073709551616 - e) % 18446744073709551616 ∈ 0 :: DD := by
          rcases List.mem_cons.mp he with rfl | he
          · exact List.mem_cons_self
          · have q := List.all_eq_true.mp DD_neg e he
            rw [Bool.and_eq_true] at q
            have q2 := of_decide_eq_true q.2
            rw [Nat.mod_eq_of_lt (by omega)]
            exact List.mem_cons_of_mem _ (List.contains_iff_mem.mp q.1)
        have hel : e < 18446744073709551616 := by
          rcases List.mem_cons.mp he with rfl | he
          · decide
          · have q := List.all_eq_true.mp DD_neg e he
            rw [Bool.and_eq_true] at q
            exact (of_decide_eq_true q.2).2
        have h' : (AA c + d * 14029467366897019727) % 18446744073709551616 = (AA a + b * 14029467366897019727 + (18446744073709551616 - e) % 18446744073709551616) % 18446744073709551616 := by
          generalize AA a = A at *
          generalize AA c = C at *
          omega
        exact lin3 hx ha (Ne.symm hac) hd hb he' h'
      · exact hac rfl
/-! ### packets of two fields -/
def RR (a b : Nat) : Nat := stp (AA a) b
/-- the differences of what two places put in -/
def KK : List Nat := (List.range 7).flatMap fun p => (List.range 7).filterMap fun q => if p = q then none else some ((AA q + 18446744073709551616 - AA p) * 839798700976720815 % 18446744073709551616)
theorem KK_dd : (KK.all fun K => (DD.contains (rotr ((K * 614540362697595703 % 18446744073709551616 + 18446744073709551616 - 0 + 0 * 2147483648) % 18446744073709551616)) && DD.contains (rotr ((K * 614540362697595703 % 18446744073709551616 + 18446744073709551616 - 0 + 1 * 2147483648) % 18446744073709551616))) && (DD.contains (rotr ((K * 614540362697595703 % 18446744073709551616 + 18446744073709551616 - 1 + 0 * 2147483648) % 18446744073709551616)) && DD.contains (rotr ((K * 614540362697595703 % 18446744073709551616 + 18446744073709551616 - 1 + 1 * 2147483648) % 18446744073709551616)))) = true := by decide +kernel
theorem DD_pos {e : Nat} (h : e ∈ DD) : e ≠ 0 := by
  have q := List.all_eq_true.mp DD_neg e h
  rw [Bool.and_eq_true] at q
  have := of_decide_eq_true q.2
  omega
theorem unturn {r s K : Nat} (h : r * 11400714785074694791 % 18446744073709551616 = (s * 11400714785074694791 % 18446744073709551616 + K) % 18446744073709551616) : r % 18446744073709551616 = (s + K * 614540362697595703 % 18446744073709551616) % 18446744073709551616 := by lia
theorem colR {x a b c d K : Nat} (hx : x ≤ 1000000000000) (ha : a ∈ FF ∨ a = x) (hb : b ∈ FF ∨ b = x) (hc : c ∈ FF ∨ c = x) (hd : d ∈ FF ∨ d = x) (h : RR a b = (RR c d + K) % 18446744073709551616) (hK : K ∈ KK) : False := by
  have z1 : (AA a + b * 14029467366897019727) % 18446744073709551616 < 18446744073709551616 := Nat.mod_lt _ (by decide)
  have z2 : (AA c + d * 14029467366897019727) % 18446744073709551616 < 18446744073709551616 := Nat.mod_lt _ (by decide)
  have q : rot ((AA a + b * 14029467366897019727) % 18446744073709551616) % 18446744073709551616 = (rot ((AA c + d * 14029467366897019727) % 18446744073709551616) + K * 614540362697595703 % 18446744073709551616) % 18446744073709551616 := unturn h
  obtain ⟨c1, e1, hc1, he1, q2⟩ := rot_diff z1 z2 (Nat.mod_lt _ (by decide)) q
  have m := List.all_eq_true.mp KK_dd K hK
  rw [Bool.and_eq_true, Bool.and_eq_true, Bool.and_eq_true] at m
  have hm : rotr ((K * 614540362697595703 % 18446744073709551616 + 18446744073709551616 - c1 + e1 * 2147483648) % 18446744073709551616) ∈ DD := by
    rcases hc1 with rfl | rfl <;> rcases he1 with rfl | rfl
    · exact List.contains_iff_mem.mp m.1.1
    · exact List.contains_iff_mem.mp m.1.2
    · exact List.contains_iff_mem.mp m.2.1
    · exact List.contains_iff_mem.mp m.2.2
  rw [Nat.mod_add_mod] at q2
  exact DD_pos hm (lin hx ha hb hc hd (List.mem_cons_of_mem _ hm) q2).1
theorem colR0 {x a b c d : Nat} (hx : x ≤ 1000000000000) (ha : a ∈ FF ∨ a = x) (hb : b ∈ FF ∨ b = x) (hc : c ∈ FF ∨ c = x) (hd : d ∈ FF ∨ d = x) (h : RR a b = RR c d) : a = c ∧ b = d := by
  have u1 : (AA a + b * 14029467366897019727) % 18446744073709551616 = rotr (RR a b * 614540362697595703 % 18446744073709551616) := under_eq rfl
  have u2 : (AA c + d * 14029467366897019727) % 18446744073709551616 = rotr (RR c d * 614540362697595703 % 18446744073709551616) := under_eq rfl
  rw [h, ← u2] at u1
  obtain ⟨e, he⟩ : ∃ e : Nat, e = 0 := ⟨0, rfl⟩
  have h2 : (AA a + b * 14029467366897019727) % 18446744073709551616 = (AA c + d * 14029467366897019727 + e) % 18446744073709551616 := by
    rw [u1]
    exact congrArg (· % 18446744073709551616) (by omega)
  exact (lin hx ha hb hc hd (by rw [he]; exact List.mem_cons_self) h2).2
/-! ### the end of a hash -/
def fin (c acc : Nat) : Nat := if (acc + c) % 18446744073709551616 = 18446744073709551615 then 1546275796 else (acc + c) % 18446744073709551616
def u1 (a : Nat) : Nat := fin 2870177450013471927 (AA a)
def u2 (a b : Nat) : Nat := fin 2870177450013471924 (RR a b)
def vv (p u : Nat) : Nat := fin 2870177450013471924 (stp (AA p) u)
theorem fin_lt (c acc : Nat) : fin c acc < 18446744073709551616 := by
  unfold fin
  split
  · decide
  · exact Nat.mod_lt _ (by decide)
theorem fin_of {c acc : Nat} (h : (acc + c) % 18446744073709551616 ≠ 18446744073709551615) : fin c acc = (acc + c) % 18446744073709551616 := if_neg h
/-- what a packet must not come to: the mark of an error, of its own or of an entry's -/
def SS : List Nat := (18446744073709551615 - 2870177450013471924) :: (List.range 7).map fun p => (unl (AA p) (18446744073709551615 - 2870177450013471924) + 18446744073709551616 - 2870177450013471924) % 18446744073709551616
def SS1 : List Nat := (18446744073709551615 - 2870177450013471927) :: (List.range 7).map fun p => (unl (AA p) (18446744073709551615 - 2870177450013471924) + 18446744073709551616 - 2870177450013471927) % 18446744073709551616
theorem ckS : (SS.all fun s => (FF.all fun a => decide (1000000000000 < (rotr (s * 614540362697595703 % 18446744073709551616) + 18446744073709551616 - AA a) * 839798700976720815 % 18446744073709551616) && decide (1000000000000 < unl 2870177450012600261 ((rotr (s * 614540362697595703 % 18446744073709551616) + a * 4417276706812531889) % 18446744073709551616))) && (ckI0 (rotr (s * 614540362697595703 % 18446744073709551616)) || (ckI1 (rotr (s * 614540362697595703 % 18446744073709551616)) || ckI2 (rotr (s * 614540362697595703 % 18446744073709551616))))) = true := by decide +kernel
theorem ckS1 : (SS1.all fun s => decide (1000000000000 < unl 2870177450012600261 s)) = true := by decide +kernel
theorem ckK1 : (KK.all fun K => FF.all fun c => decide (1000000000000 < unl 2870177450012600261 ((AA c + K) % 18446744073709551616)) && decide (1000000000000 < unl 2870177450012600261 ((AA c + (18446744073709551616 - K)) % 18446744073709551616))) = true := by decide +kernel
theorem KK_pos : (KK.all fun K => decide (0 < K)) = true := by decide +kernel
theorem mul1 {A b k : Nat} (hA : A < 18446744073709551616) (hb : b < 18446744073709551616) (h : (A + b * 14029467366897019727) % 18446744073709551616 = k) : (k + 18446744073709551616 - A) * 839798700976720815 % 18446744073709551616 = b := by lia
theorem mov1 {A b k : Nat} (hA : A < 18446744073709551616) (h : (A + b * 14029467366897019727) % 18446744073709551616 = k) : A = (k + b * 4417276706812531889) % 18446744073709551616 := by lia
theorem spR {x a b : Nat} (hx : x ≤ 1000000000000) (ha : a ∈ FF ∨ a = x) (hb : b ∈ FF ∨ b = x) : RR a b ∉ SS := fun hs => by
  have hbX : b ≤ 1000000000000 := hb.elim FF_le fun z => z ▸ hx
  have c := List.all_eq_true.mp ckS _ hs
  have u : (AA a + b * 14029467366897019727) % 18446744073709551616 = rotr (RR a b * 614540362697595703 % 18446744073709551616) := under_eq rfl
  generalize rotr (RR a b * 614540362697595703 % 18446744073709551616) = k at c u
  rw [Bool.and_eq_true] at c
  rcases ha with ha | rfl
  · have c1 := List.all_eq_true.mp c.1 a ha
    rw [Bool.and_eq_true] at c1
    have c2 := of_decide_eq_true c1.1
    rw [mul1 (AA_lt a) (Nat.lt_of_le_of_lt hbX (by decide)) u] at c2
    exact absurd hbX (Nat.not_le_of_lt c2)
  · rcases hb with hb | rfl
    · have c1 := List.all_eq_true.mp c.1 b hb
      rw [Bool.and_eq_true] at c1
      have c2 := of_decide_eq_true c1.2
      rw [← mov1 (AA_lt a) u, show AA a = stp 2870177450012600261 a from rfl, unl_stp (by decide) (Nat.lt_of_le_of_lt hx (by decide))] at c2
      exact absurd hx (Nat.not_le_of_lt c2)
    · have c2 := c.2
      have q : (AA b + b * 14029467366897019727) % 18446744073709551616 = k % 18446744073709551616 := by rw [← u, Nat.mod_mod]
      rw [noI0 hx q, noI1 hx q, noI2 hx q] at c2
      cases c2
theorem spA {a : Nat} (ha : a ≤ 1000000000000) : AA a ∉ SS1 := fun hs => by
  have c := of_decide_eq_true (List.all_eq_true.mp ckS1 _ hs)
  rw [show AA a = stp 2870177450012600261 a from rfl, unl_stp (by decide) (Nat.lt_of_le_of_lt ha (by decide))] at c
  exact absurd ha (Nat.not_le_of_lt c)
theorem fin_ne {r c : Nat} (hr : r < 18446744073709551616) (hc : c < 18446744073709551615) (h : r ≠ 18446744073709551615 - c) : (r + c) % 18446744073709551616 ≠ 18446744073709551615 := by omega
theorem fin_inj {c r s : Nat} (hr : r < 18446744073709551616) (hs : s < 18446744073709551616) (h : (r + c) % 18446744073709551616 = (s + c) % 18446744073709551616) : r = s := by omega
/-- an entry's end is plain, if the packet's raw number is none of those -/
theorem ent_ne {p r c u : Nat} (hp : p < 7) (hr : r < 18446744073709551616) (hc : c < 18446744073709551616) (hu : u = (r + c) % 18446744073709551616) (h : r ∉ (List.range 7).map fun p => (unl (AA p) (18446744073709551615 - 2870177450013471924) + 18446744073709551616 - c) % 18446744073709551616) : (stp (AA p) u + 2870177450013471924) % 18446744073709551616 ≠ 18446744073709551615 := fun e => by
  have hl := stp_lt (AA p) u
  have e1 : stp (AA p) u = 18446744073709551615 - 2870177450013471924 := by omega
  have hu' : u < 18446744073709551616 := by rw [hu]; exact Nat.mod_lt _ (by decide)
  have e2 := unl_stp (AA_lt p) hu'
  rw [e1] at e2
  refine h (List.mem_map.mpr ⟨p, List.mem_range.mpr hp, ?_⟩)
  rw [e2, hu]
  omega
theorem stp_inj {A u v : Nat} (hA : A < 18446744073709551616) (hu : u < 18446744073709551616) (hv : v < 18446744073709551616) (h : stp A u = stp A v) : u = v := by
  have a := unl_stp hA hu
  have b := unl_stp hA hv
  rw [h, b] at a
  exact a.symm
/-- two entries of equal hash, unlike places: the packets' raw numbers differ by a known number -/
theorem mulinv0 {A b C d : Nat} (hA : A < 18446744073709551616) (hd : d ≤ 18446744073709551616) (h : (A + b * 14029467366897019727) % 18446744073709551616 = (C + d * 14029467366897019727) % 18446744073709551616) : ((C + 18446744073709551616 - A) * 839798700976720815) % 18446744073709551616 = (b + 18446744073709551616 - d) % 18446744073709551616 := by
  obtain ⟨e, he⟩ : ∃ e : Nat, e = 0 := ⟨0, rfl⟩
  have h2 : (A + b * 14029467366897019727) % 18446744073709551616 = (C + d * 14029467366897019727 + e) % 18446744073709551616 := by
    rw [h]
    exact congrArg (· % 18446744073709551616) (by omega)
  have q := mulinv hA hd h2
  have w : C + 18446744073709551616 - A + e = C + 18446744073709551616 - A := by omega
  rw [w] at q
  exact q
theorem back {u v : Nat} (hv : v < 18446744073709551616) : u % 18446744073709551616 = (v + (u + 18446744073709551616 - v) % 18446744073709551616) % 18446744073709551616 := by omega
theorem ent_diff {p q u v : Nat} (hv : v < 18446744073709551616) (h : stp (AA p) u = stp (AA q) v) : u % 18446744073709551616 = (v + (AA q + 18446744073709551616 - AA p) * 839798700976720815 % 18446744073709551616) % 18446744073709551616 := by
  have a := under_eq h
  have b := under_eq (a := AA q) (l := v) (t := stp (AA q) v) rfl
  rw [← b] at a
  have l := AA_lt p
  generalize AA p = A at *
  generalize AA q = B at *
  clear b h
  rw [mulinv0 l (Nat.le_of_lt hv) a]
  exact back hv
theorem KK_mem {p q : Nat} (hp : p < 7) (hq : q < 7) (h : p ≠ q) : (AA q + 18446744073709551616 - AA p) * 839798700976720815 % 18446744073709551616 ∈ KK :=
  List.mem_flatMap.mpr ⟨p, List.mem_range.mpr hp, List.mem_filterMap.mpr ⟨q, List.mem_range.mpr hq, if_neg h⟩⟩
theorem shift {r s c K : Nat} (hr : r < 18446744073709551616) (h : (r + c) % 18446744073709551616 % 18446744073709551616 = ((s + c) % 18446744073709551616 + K) % 18446744073709551616) : r = (s + K) % 18446744073709551616 := by omega
theorem RR_ne {x a b : Nat} (hx : x ≤ 1000000000000) (ha : a ∈ FF ∨ a = x) (hb : b ∈ FF ∨ b = x) : (RR a b + 2870177450013471924) % 18446744073709551616 ≠ 18446744073709551615 :=
  fin_ne (stp_lt _ _) (by decide) fun e => spR hx ha hb (e ▸ List.mem_cons_self)
theorem AA_ne {a : Nat} (ha : a ≤ 1000000000000) : (AA a + 2870177450013471927) % 18446744073709551616 ≠ 18446744073709551615 :=
  fin_ne (stp_lt _ _) (by decide) fun e => spA ha (e ▸ List.mem_cons_self)
/-- packets of two fields -/
theorem u2_inj {x a b c d : Nat} (hx : x ≤ 1000000000000) (ha : a ∈ FF ∨ a = x) (hb : b ∈ FF ∨ b = x) (hc : c ∈ FF ∨ c = x) (hd : d ∈ FF ∨ d = x) (h : u2 a b = u2 c d) : a = c ∧ b = d := by
  unfold u2 at h
  rw [fin_of (RR_ne hx ha hb), fin_of (RR_ne hx hc hd)] at h
  have e := fin_inj (stp_lt _ _) (stp_lt _ _) h
  exact colR0 hx ha hb hc hd e
theorem v2_inj {x a b c d p q : Nat} (hx : x ≤ 1000000000000) (ha : a ∈ FF ∨ a = x) (hb : b ∈ FF ∨ b = x) (hc : c ∈ FF ∨ c = x) (hd : d ∈ FF ∨ d = x) (hp : p < 7) (hq : q < 7) (h : vv p (u2 a b) = vv q (u2 c d)) : p = q ∧ a = c ∧ b = d := by
  have e1 : u2 a b = (RR a b + 2870177450013471924) % 18446744073709551616 := fin_of (RR_ne hx ha hb)
  have e2 : u2 c d = (RR c d + 2870177450013471924) % 18446744073709551616 := fin_of (RR_ne hx hc hd)
  have n1 := ent_ne hp (stp_lt _ _) (by decide) e1 fun z => spR hx ha hb (List.mem_cons_of_mem _ z)
  have n2 := ent_ne hq (stp_lt _ _) (by decide) e2 fun z => spR hx hc hd (List.mem_cons_of_mem _ z)
  unfold vv at h
  rw [fin_of n1, fin_of n2] at h
  have e := fin_inj (stp_lt _ _) (stp_lt _ _) h
  by_cases hpq : p = q
  · subst hpq
    have e3 := stp_inj (AA_lt p) (fin_lt _ _) (fin_lt _ _) e
    exact ⟨rfl, u2_inj hx ha hb hc hd e3⟩
  · have e3 := ent_diff (v := u2 c d) (fin_lt _ _) e
    rw [e1, e2] at e3
    exact (colR hx ha hb hc hd (shift (stp_lt _ _) e3) (KK_mem hp hq hpq)).elim
/-- packets of one field -/
theorem u1_inj {a c : Nat} (ha : a ≤ 1000000000000) (hc : c ≤ 1000000000000) (h : u1 a = u1 c) : a = c := by
  unfold u1 at h
  rw [fin_of (AA_ne ha), fin_of (AA_ne hc)] at h
  exact AA_inj (Nat.lt_of_le_of_lt ha (by decide)) (Nat.lt_of_le_of_lt hc (by decide)) (fin_inj (stp_lt _ _) (stp_lt _ _) h)
theorem AA_diff {x a c K : Nat} (hx : x ≤ 1000000000000) (ha : a ∈ FF ∨ a = x) (hc : c ∈ FF ∨ c = x) (m : K ∈ KK) (hK : K < 18446744073709551616) (e4 : AA a = (AA c + K) % 18446744073709551616) : False := by
  have haX : a ≤ 1000000000000 := ha.elim FF_le fun z => z ▸ hx
  have hne : a ≠ c := fun z => by
    subst z
    have k0 := of_decide_eq_true (List.all_eq_true.mp KK_pos K m)
    have l := AA_lt a
    clear ha hc hx haX m
    generalize AA a = A at *
    omega
  rcases hc with hc | hc
  · have d := List.all_eq_true.mp (List.all_eq_true.mp ckK1 K m) c hc
    rw [Bool.and_eq_true] at d
    have d2 := of_decide_eq_true d.1
    rw [← e4] at d2
    have u : unl 2870177450012600261 (AA a) = a := unl_stp (by decide) (Nat.lt_of_le_of_lt haX (by decide))
    rw [u] at d2
    exact absurd haX (Nat.not_le_of_lt d2)
  · rcases ha with ha | ha
    · have d := List.all_eq_true.mp (List.all_eq_true.mp ckK1 K m) a ha
      rw [Bool.and_eq_true] at d
      have d2 := of_decide_eq_true d.2
      have e5 : AA c = (AA a + (18446744073709551616 - K)) % 18446744073709551616 := by
        have l1 := AA_lt a
        have l2 := AA_lt c
        clear d d2 m ha hne haX hx
        generalize AA a = A at *
        generalize AA c = C at *
        omega
      rw [← e5] at d2
      have u : unl 2870177450012600261 (AA c) = c := unl_stp (by decide) (Nat.lt_of_le_of_lt (hc ▸ hx) (by decide))
      rw [u] at d2
      exact absurd (hc ▸ hx) (Nat.not_le_of_lt d2)
    · exact hne (ha.trans hc.symm)
theorem v1_inj {x a c p q : Nat} (hx : x ≤ 1000000000000) (ha : a ∈ FF ∨ a = x) (hc : c ∈ FF ∨ c = x) (hp : p < 7) (hq : q < 7) (h : vv p (u1 a) = vv q (u1 c)) : p = q ∧ a = c := by
  have haX : a ≤ 1000000000000 := ha.elim FF_le fun z => z ▸ hx
  have hcX : c ≤ 1000000000000 := hc.elim FF_le fun z => z ▸ hx
  have e1 : u1 a = (AA a + 2870177450013471927) % 18446744073709551616 := fin_of (AA_ne haX)
  have e2 : u1 c = (AA c + 2870177450013471927) % 18446744073709551616 := fin_of (AA_ne hcX)
  have n1 := ent_ne hp (AA_lt a) (by decide) e1 fun z => spA haX (List.mem_cons_of_mem _ z)
  have n2 := ent_ne hq (AA_lt c) (by decide) e2 fun z => spA hcX (List.mem_cons_of_mem _ z)
  unfold vv at h
  rw [fin_of n1, fin_of n2] at h
  have e := fin_inj (stp_lt _ _) (stp_lt _ _) h
  by_cases hpq : p = q
  · subst hpq
    exact ⟨rfl, u1_inj haX hcX (stp_inj (AA_lt p) (fin_lt _ _) (fin_lt _ _) e)⟩
  · exfalso
    have e3 := ent_diff (v := u1 c) (fin_lt _ _) e
    rw [e1, e2] at e3
    have e4 := shift (AA_lt a) e3
    exact AA_diff hx ha hc (KK_mem hp hq hpq) (Nat.mod_lt _ (by decide)) e4
end Mw
/-! Dicts whose keys are data: displays with **, copies, updates, the test against the empty dict. -/
namespace Mw
open PySem PySem.Spec PyProof.Rows L2

section
variable {P : Program} {w : World} {h : Heap} {d a : Addr} {xs : List (D × Addr × Value)} {k : D} {v : Value}
/-- all but the dict stays -/
theorem keys_upd {h' : Heap} {o : Obj} {es : Array DictEntry} {ep : Nat} (ho : h.get? d = some o) (hd : o.data = .dict es ep) (hs : Heap.SameBut d h h') {k : D} {a : Addr} (x : (nestedKind P w).is h k a) : (nestedKind P w).is h' k a :=
  (nestedKind P w).keeps x ho hd hs
theorem dictOf_push (hm : h.DictOfH (nestedKind P w) d xs) (hk : (nestedKind P w).is h k a) (hn : atKey xs k = none) :
    (h.update d (Obj.mapDictKeys fun es => es.push ⟨(nestedKind P w).hash k, .ref a, v⟩)).DictOfH (nestedKind P w) d (storedH xs k a v) := by
  obtain ⟨o, es, ep, ho, hc, hd, he, his, nd⟩ := hm
  have sb := Heap.SameBut.update h d (Obj.mapDictKeys fun es => es.push ⟨(nestedKind P w).hash k, .ref a, v⟩)
  rw [storedH_new hn]
  refine ⟨_, _, ep + 1, Heap.get?_update_self _ ho (Obj.isFreed_of_dict (Obj.data_mapDictKeys hd _)), hc.mapDictKeys _, Obj.data_mapDictKeys hd _, by simp [he, entryOfKey], fun x hx => ?_, ?_⟩
  · rcases List.mem_append.mp hx with q | q
    · exact keys_upd ho hd sb (his x q)
    · rw [List.mem_singleton.mp q]
      exact keys_upd ho hd sb hk
  · have fresh : k ∉ xs.map (·.1) := fun q => by
      obtain ⟨x, hx, e⟩ := List.mem_map.mp q
      have : (atKey xs k).isSome = true := by
        unfold atKey
        rw [Option.isSome_map, List.find?_isSome]
        exact ⟨x, hx, by simp [e]⟩
      rw [hn] at this
      exact absurd this (by decide)
    rw [List.map_append, List.nodup_append]
    exact ⟨nd, by simp, fun x hx y hy e => fresh (by have : y = k := by simpa using hy
                                                     rw [← this, ← e]; exact hx)⟩
theorem dictOf_mod {j : Nat} {p : Addr × Value} (hm : h.DictOfH (nestedKind P w) d xs) (hj : xs[j]? = some (k, p)) :
    (h.update d (Obj.mapDict fun es => es.modify j fun e => { e with val := v })).DictOfH (nestedKind P w) d (storedH xs k a v) := by
  obtain ⟨o, es, ep, ho, hc, hd, he, his, nd⟩ := hm
  have sb := Heap.SameBut.update h d (Obj.mapDict fun es => es.modify j fun e => { e with val := v })
  rw [storedH_old (atKey_of_get nd hj)]
  refine ⟨_, _, ep, Heap.get?_update_self _ ho (Obj.isFreed_of_dict (Obj.data_mapDict hd _)), hc.mapDict _, Obj.data_mapDict hd _, ?_, fun x hx => ?_, by rw [keys_map_putAt]; exact nd⟩
  · have q := modify_map_putAt (entryOfKey (nestedKind P w)) (fun e : DictEntry => { e with val := v }) k v (fun _ _ => rfl) nd hj
    rw [← he] at q
    simpa using q
  · obtain ⟨y, hy, e⟩ := List.mem_map.mp hx
    have q := keys_upd ho hd sb (his y hy)
    rw [← e]
    unfold putAt
    split <;> exact q
end
section
variable {P : Program} {w : World} {A : Around} {E : Value → Shared → Prop} {s : Shared} {d o a : Addr} {xs ys : List (D × Addr × Value)} {k : D} {v : Value}
theorem n_put {Q : Unit → Shared → Prop} (hu : A.units + 8 < cLine) (hk : (nestedKind P w).is s.heap k a) (hm : s.heap.DictOfH (nestedKind P w) d xs) (hz : xs.length ≤ sizeLine)
    (h : ∀ h', h'.DictOfH (nestedKind P w) d (storedH xs k a v) → Heap.SameBut d s.heap h' → Q () { s with heap := h' }) : wpAny (model P w) A (dictPut d ((nestedKind P w).hash k) (.ref a) v) Q E s := by
  obtain ⟨ob, es, ep, ho, hc, hd, he, his, nd⟩ := id hm
  have size := size_of_entries he
  unfold dictPut
  refine wpAny_bind (wpAny_dictFind_heap (knd := nestedKind P w) hu hk ho hd he his nd (fun no => ?_) fun j p hj => ?_)
  · have hn : atKey xs k = none := by
      cases q : atKey xs k with
      | none => rfl
      | some p =>
        exfalso
        unfold atKey at q
        obtain ⟨x, hx, _⟩ := Option.map_eq_some_iff.mp q
        obtain ⟨j, hj⟩ := List.getElem?_of_mem (List.mem_of_find?_eq_some hx)
        have e : x.1 = k := by simpa using List.find?_some hx
        exact no j x.2 (by rw [hj, ← e])
    exact wpAny_updateDictKeys (hz := by rw [size]; exact hz) ho hd (h _ (dictOf_push hm hk hn) (Heap.SameBut.update ..))
  · exact wpAny_updateDict ho hd (h _ (dictOf_mod hm hj) (Heap.SameBut.update ..))
theorem storedAll_snoc (xs ys : List (D × Addr × Value)) (y : D × Addr × Value) : storedAllH xs (ys ++ [y]) = storedH (storedAllH xs ys) y.1 y.2.1 y.2.2 := by
  simp [storedAllH]
/-- the step of {**d} -/
theorem n_mergeMapping {Q : Unit → Shared → Prop} (hu : A.units + 8 < cLine) (ne : d ≠ o) (ok : (o == sysModules) = false) (hd : s.heap.DictOfH (nestedKind P w) d xs) (ho : s.heap.DictOfH (nestedKind P w) o ys) (ap : (ys.map fun y => (nestedKind P w).hash y.1).Nodup) (hz : xs.length + ys.length ≤ sizeLine)
    (h : ∀ h', h'.DictOfH (nestedKind P w) d (storedAllH xs ys) → Heap.SameBut d s.heap h' → Q () { s with heap := h' }) : wpAny (model P w) A (mergeMapping d (.ref o) false) Q E s := by
  obtain ⟨ob, es, ep, ho1, hoc, hod, hoe, hoi, hon⟩ := id ho
  obtain ⟨ob2, es2, ep2, hd1, hdc, hdd, hde, hdi, hdn⟩ := id hd
  have size := size_of_entries hoe
  have tuples : ∀ y ∈ ys, s.TypeIs (.ref y.2.1) "tuple" := fun y hy => nestedKind_stays.tuple (hoi y hy)
  have quiet := keysApart (knd := nestedKind P w) hoe tuples ap
  unfold mergeMapping
  refine wpAny_bind (wpAny_isInstance (T := "dict") ho.typeIs PySem.F.sub_dict_dict ?_)
  simp only [if_true]
  refine wpAny_bind (wpAny_specialOf ho.typeIs F.slot_dict_iter.lookup (wpAny_bind (wpAny_pure ?_)))
  simp only [beq_self_eq_true]
  rw [if_neg (by rw [ok]; exact Bool.false_ne_true)]
  refine wpAny_bind (wpAny_dictEntries hd1 hdd ?_)
  refine wpAny_ite_split (fun _ => ?_) (fun _ => ?_)
  refine wpAny_bind (wpAny_dictEntries ho1 hod (wpAny_bind ?_))
  rw [← Array.forIn_toList]
  refine wpAny_forIn_list _ (fun left _ s' => s' = s ∧ ∀ e ∈ left, KeyApart s es e) _ ?_ ?_ _ _ ⟨rfl, quiet⟩
  · rintro e left _ s' ⟨rfl, all⟩
    have more : ∀ x ∈ left, KeyApart s' es x := fun x hx => all x (List.mem_cons_of_mem _ hx)
    rcases all e List.mem_cons_self with q | ⟨a, ea, ta, few⟩
    · cases hk : e.key with
      | ref b => rw [hk] at q; exact absurd q Bool.false_ne_true
      | _ => exact wpAny_pure ⟨rfl, more⟩
    · rw [ea]
      refine wpAny_bind (wpAny_specialOf ta F.slot_tuple_eq.lookup ?_)
      rw [if_pos (by decide), if_neg (by omega)]
      exact wpAny_pure ⟨rfl, more⟩
  rintro _ s' ⟨e0, -⟩
  rw [e0]
  all_goals
    refine wpAny_bind (wpAny_dictEntries ho1 hod ?_)
    refine wpAny_bind (wpAny_dictEpoch ho1 hod (wpAny_bind ?_))
    refine wpAny_forIn_list _ (fun left _ s' => ∃ h' i, s' = { s with heap := h' } ∧ left = List.range' i (es.size - i) ∧ i ≤ es.size ∧ h'.DictOfH (nestedKind P w) d (storedAllH xs (ys.take i)) ∧ Heap.SameBut d s.heap h') _ ?_ ?_ _ _
      ⟨s.heap, 0, rfl, by simp [List.range_eq_range'], Nat.zero_le _, by simpa [storedAllH] using hd, Heap.SameBut.refl _ _⟩
    · rintro x left _ _ ⟨h', i, rfl, e, le, hd', sb⟩
      have lt : i < es.size := by
        refine Nat.lt_of_le_of_ne le fun q => ?_
        simp [q] at e
      obtain ⟨rfl, rest⟩ : x = i ∧ left = List.range' (i + 1) (es.size - (i + 1)) := by
        rw [show es.size - i = es.size - (i + 1) + 1 by omega, List.range'_succ] at e
        exact ⟨(List.cons.inj e).1, (List.cons.inj e).2⟩
      have at_o : h'.get? o = some ob := (sb.2 o (Ne.symm ne)).trans ho1
      have lty : x < ys.length := size ▸ lt
      refine wpAny_bind (wpAny_dictEntries at_o hod ?_)
      rw [entry_at hoe x, List.getElem?_eq_getElem lty]
      have len := storedAllH_length (ys.take x) xs
      have len2 : (ys.take x).length ≤ ys.length := by simp; omega
      refine wpAny_bind (wpAny_holding (n_put hu (keys_upd hd1 hdd sb (hoi _ (List.getElem_mem lty))) hd' (by omega) fun h2 hd2 sb2 => ?_))
      refine wpAny_bind (wpAny_dictEpoch ((sb2.2 o (Ne.symm ne)).trans at_o) hod ?_)
      rw [if_neg (by simp)]
      refine wpAny_pure ⟨h2, x + 1, rfl, rest, lt, ?_, sb.trans sb2⟩
      rw [List.take_succ, List.getElem?_eq_getElem lty]
      exact storedAll_snoc xs (ys.take x) ys[x] ▸ hd2
    · rintro _ _ ⟨h', i, rfl, e, le, hd', sb⟩
      have q : i = ys.length := by
        rw [← size]
        have := congrArg List.length e
        simp at this
        omega
      rw [q, List.take_length] at hd'
      exact wpAny_pure (h h' hd' sb)
end
/-- no two keys hash alike -/
def Apart (w : World) (kvs : List (D × V)) : Prop := (kvs.map fun kv => NestedKey.hash w kv.1).Nodup
theorem EntP.hashes {w : World} {xs : List Ent} {ys : List (D × Addr × Value)} (r : EntP xs ys) : (pairsE xs).map (fun kv => NestedKey.hash w kv.1) = ys.map fun y => NestedKey.hash w y.1 := by
  have q := congrArg (List.map (NestedKey.hash w)) r.keys
  rw [List.map_map, List.map_map] at q
  rw [pairsE, List.map_map]
  exact q
section
variable {X : Cx} {pins : List (Addr × Obj)} {σ : L2.St} {H : Hp} {s : Shared} {p d : Addr} {kvs ls : List (D × V)} {A : Around} {E : Value → Shared → Prop}
theorem FD.apart (m : MD X.prog X.w H p kvs) (f : FD X.prog X.w H d ls) : p ≠ d := by
  obtain ⟨xs, e, _⟩ := m
  obtain ⟨o, ys, e2, _⟩ := f
  rintro rfl
  rw [e] at e2
  cases e2
/-- what a merge leaves -/
theorem n_merge {Q : Unit → Shared → Prop} (hu : A.units + 8 < cLine) (I : Inv X pins σ H s) (m : MD X.prog X.w H p kvs) (f : FD X.prog X.w H d ls) (ap : Apart X.w ls) (hz : kvs.length + ls.length ≤ sizeLine)
    (h : ∀ o s', MD X.prog X.w (upd H p o) p (mergeD kvs ls) → Inv X pins σ (upd H p o) s' → Q () s') : wpAny (model X.prog X.w) A (mergeMapping p (.ref d) false) Q E s := by
  have ne := FD.apart m f
  have mu := m.mut
  obtain ⟨xs, e, rfl, kin⟩ := m
  obtain ⟨z, hm, us, rel, dd⟩ := (I.hok p _ e).1.at I.hok kin
  obtain ⟨ys, rfl, kin2, z2, hm2, vs, rel2, dd2⟩ := RD.get I.hok (.inr f)
  have lx : xs.length = us.length := Paired.length rel
  have ly : ys.length = vs.length := Paired.length rel2
  rw [pairsE, pairsE, List.length_map, List.length_map] at hz
  refine n_mergeMapping hu ne hm2 dd dd2 ?_ (by omega) fun h' dd' sb => ?_
  · exact (EntP.hashes rel2 (w := X.w)) ▸ ap
  · have len := mergeE_len ys xs
    refine h _ _ ?_ (n_write (t' := s.toks) I mu sb (by omega) hm (EntP.merge rel2 rel) dd')
    rw [← pairsE_merge]
    exact MD.ofUpd (.inl mu) (kin.merge kin2.1)
end
theorem mergeD_snoc : ∀ (ls kvs : List (D × V)), (∀ x ∈ ls, x.1 ∉ kvs.map (·.1)) → (ls.map (·.1)).Nodup → mergeD kvs ls = kvs ++ ls
  | [], kvs, _, _ => by simp [mergeD]
  | x :: ls, kvs, h, n => by
    have nx : x.1 ∉ kvs.map (·.1) := h x List.mem_cons_self
    have q : valV kvs x.1 = none := by
      cases e : valV kvs x.1 with
      | none => rfl
      | some v => exact absurd ((valV_mem kvs x.1).mp (by rw [e]; rfl)) nx
    show mergeD (putK kvs x.1 x.2) ls = _
    rw [putK_new _ q, mergeD_snoc ls]
    · simp
    · intro y hy
      rw [List.map_append, List.mem_append]
      rintro (r | r)
      · exact h y (List.mem_cons_of_mem _ hy) r
      · have e : y.1 = x.1 := by simpa using r
        rw [List.map_cons, List.nodup_cons] at n
        exact n.1 (List.mem_map.mpr ⟨y, hy, e⟩)
    · rw [List.map_cons, List.nodup_cons] at n
      exact n.2
theorem mergeD_nil {ls : List (D × V)} (n : (ls.map (·.1)).Nodup) : mergeD [] ls = ls := mergeD_snoc ls [] (fun _ _ => List.not_mem_nil) n
/-- {**a, **b} -/
def tNMerge (P : Program) (w : World) (ta tb : TE) : TE := fun σ H Q => ∀ p o, H p = none → MD P w (upd H p o) p [] → ta σ (upd H p o) fun x H1 => ∃ d1 ks, x = .ref d1 ∧ FD P w H1 d1 ks ∧ Apart w ks ∧ MD P w H1 p [] ∧ ks.length ≤ sizeLine ∧
  ∀ o, MD P w (upd H1 p o) p (mergeD [] ks) → tb σ (upd H1 p o) fun y H2 => ∃ d2 ls, y = .ref d2 ∧ FD P w H2 d2 ls ∧ Apart w ls ∧ MD P w H2 p (mergeD [] ks) ∧ (mergeD [] ks).length + ls.length ≤ sizeLine ∧
  ∀ o, FD P w (upd H2 p o) p (mergeD (mergeD [] ks) ls) → Q (.ref p) (upd H2 p o)
section
variable {X : Cx} {a b e : Expr} {pos apos : Pos} {ta tb : TE}
theorem pe_nmerge (hu : X.A.units + 9 < cLine) (ha : PE X a ta) (hb : PE X b tb) : PE X (.Dict [none, none] [a, b] pos) (tNMerge X.prog X.w ta tb) := by
  refine .mk fun pins s σ H Q I h => ?_
  rw [arm_eval_Dict]
  refine wpAny_bind (wpAny_standAt ?_)
  show wpAny _ _ (dictDisplay [(none, do let x ← eval a X.env; standAt pos; pure x), (none, do let x ← eval b X.env; standAt pos; pure x)]) _ _ s
  unfold dictDisplay
  dsimp only
  refine wpAny_bind ?_
  rw [List.forIn_cons]
  have new : H s.heap.objs.size = none := I.hok.fresh (Nat.le_refl _)
  refine wpAny_bind (wpAny_bind (wpAny_pure (wpAny_bind (wpAny_alloc (wpAny_bind (wpAny_holding (wpAny_bind ?_)))))))
  refine thn (ha.run _ _ _ _ _ (n_new (t' := s.toks) I) (h _ _ new (MD.ofUpd (.inr new) KeysIn.nil))) ?_
  rintro u s1 ⟨x, H1, I1, r1, d1, ks, rfl, f1, ap1, m1, z1, q1⟩
  obtain rfl : u = .ref d1 := r1
  refine wpAny_bind (wpAny_standAt (wpAny_pure (wpAny_bind (wpAny_onRaise (wpAny_tryCatch (wpAny_onRaise (wpAny_holding (wpAny_mono (n_merge (E := fun _ _ => False) (by omega) I1 m1 f1 ap1 (by simpa using z1) ?_) (fun _ _ q => q) fun _ _ q => q.elim))))))))
  intro o1 s2 m2 I2
  refine wpAny_pure ?_
  dsimp only
  rw [List.forIn_cons]
  refine wpAny_bind (wpAny_bind (wpAny_pure (wpAny_bind (wpAny_pure (wpAny_bind (wpAny_holding (wpAny_bind ?_)))))))
  refine thn (hb.run _ _ _ _ _ I2 (q1 o1 m2)) ?_
  rintro u s3 ⟨y, H3, I3, r3, d2, ls, rfl, f3, ap3, m3, z3, q3⟩
  obtain rfl : u = .ref d2 := r3
  refine wpAny_bind (wpAny_standAt (wpAny_pure (wpAny_bind (wpAny_onRaise (wpAny_tryCatch (wpAny_onRaise (wpAny_holding (wpAny_mono (n_merge (E := fun _ _ => False) (by omega) I3 m3 f3 ap3 z3 ?_) (fun _ _ q => q) fun _ _ q => q.elim))))))))
  intro o3 s4 m4 I4
  refine wpAny_pure ?_
  dsimp only
  rw [List.forIn_nil]
  refine wpAny_pure (wpAny_bind (wpAny_pure (wpAny_pure ?_)))
  obtain ⟨ob, I5, f5, _⟩ := n_freeze I4 m4
  rw [upd_upd] at I5 f5
  exact ⟨.ref _, _, I5, rfl, q3 ob f5⟩
end
/-- {k: v} -/
def tN1 (P : Program) (w : World) (tk tv : TE) : TE := fun σ H Q => ∀ p o, H p = none → MD P w (upd H p o) p [] → tk σ (upd H p o) fun y H1 => tv σ H1 fun z H2 => ∃ k, KeyV H2 k y ∧ MD P w H2 p [] ∧ ∀ o, MD P w (upd H2 p o) p [(k, z)] → Q (.ref p) (upd H2 p o)
/-- dict(d) -/
def rNDict (P : Program) (w : World) : List V → Hp → VK → Prop := fun vs H Q => ∃ d ks, vs = [.ref d] ∧ RD P w H d ks ∧ Apart w ks ∧ ks.length ≤ sizeLine ∧ ∀ p o, H p = none → FD P w (upd H p o) p ks → Q (.ref p) (upd H p o)
/-- d.update(e) -/
def tNUpd (P : Program) (w : World) (td te : TE) : TE := fun σ H Q => td σ H fun x H1 => ∃ d, x = .ref d ∧ (∃ l, MD P w H1 d l) ∧ te σ H1 fun y H2 => ∃ e ks ls, y = .ref e ∧ MD P w H2 d ks ∧ FD P w H2 e ls ∧ Apart w ls ∧ ks.length + ls.length ≤ sizeLine ∧
  ∀ o, MD P w (upd H2 d o) d (mergeD ks ls) → Q .non (upd H2 d o)
/-- d != {} -/
def tNNe (P : Program) (w : World) (td te : TE) : TE := fun σ H Q => td σ H fun x H1 => te σ H1 fun y H2 => ∃ d e ks, x = .ref d ∧ y = .ref e ∧ RD P w H2 d ks ∧ RD P w H2 e [] ∧ Q (.bl (!ks.isEmpty)) H2
section
variable {X : Cx} {k v e o : Expr} {pos apos cpos : Pos} {tk tv td te : TE}
theorem pe_n1 (hu : X.A.units + 9 < cLine) (hk : PE X k tk) (hv : PE X v tv) : PE X (.Dict [some k] [v] pos) (tN1 X.prog X.w tk tv) := by
  refine .mk fun pins s σ H Q I h => ?_
  have new : H s.heap.objs.size = none := I.hok.fresh (Nat.le_refl _)
  rw [arm_eval_Dict]
  refine wpAny_bind (wpAny_standAt ?_)
  have e1 := dictDisplay_pairs [(eval k X.env, do let x ← eval v X.env; standAt pos; pure x)] (List.cons_ne_nil _ _) (show 1 < 17 by decide)
  simp only [List.map_cons, List.map_nil] at e1
  show wpAny _ _ (dictDisplay [(some (eval k X.env), do let x ← eval v X.env; standAt pos; pure x)]) _ _ _
  rw [e1]
  refine wpAny_bind (wpAny_subDictH (knd := nestedKind X.prog X.w) (show X.A.units + 8 < cLine by omega) (show 1 ≤ 15 by decide) (evalPairs_cons ?_))
  refine thn (hk.run _ _ _ _ _ (n_new (t' := s.toks) I) (h _ _ new (MD.ofUpd (.inr new) KeysIn.nil))) ?_
  rintro u s1 ⟨y, H1, I1, r1, q1⟩
  refine wpAny_bind (thn (hv.run _ _ _ _ _ I1 q1) ?_)
  rintro u2 s2 ⟨z, H2, I2, r2, dk, ⟨n, hd, b, rfl⟩, m, q2⟩
  refine wpAny_bind (wpAny_standAt (wpAny_pure (evalPairs_nil ?_)))
  obtain rfl : u = .ref b := r1
  have mu := m.mut
  obtain ⟨xs, e, e2, kin⟩ := m
  have xs0 : xs = [] := by
    cases xs with
    | nil => rfl
    | cons _ _ => simp [pairsE] at e2
  subst xs0
  obtain ⟨_, hm, ys, rel, dd⟩ := (I2.hok _ _ e).1.at I2.hok kin
  cases rel
  refine ⟨[(dk, b, u2)], ⟨rfl, rfl, key_is I2.hok n hd, trivial⟩, dd, fun h' tk dd' sb => wpAny_pure ?_⟩
  refine ⟨.ref _, _, n_write (xs := [(dk, b, z)]) (t' := tk) I2 mu sb (by simp [sizeLine_eq]) hm (.cons ⟨rfl, rfl, r2⟩ .nil) dd', rfl, q2 _ ?_⟩
  exact MD.ofUpd (xs := [(dk, b, z)]) (.inl mu) ⟨fun x hx => by rw [List.mem_singleton.mp hx]; exact ⟨n, hd⟩, by simp⟩
theorem cr_ndict (hu : X.A.units + 10 < cLine) : CallR X (.type "dict") (rNDict X.prog X.w) := by
  rintro pins s σ H vs us Q I r ⟨d, ks, rfl, g, ap, hz, q⟩
  obtain ⟨u, rfl, ru⟩ := vals1 r
  obtain rfl : u = .ref d := ru
  obtain ⟨xs, rfl, kin, z, hm, ys, rel, dd⟩ := g.get I.hok
  have new : H s.heap.objs.size = none := I.hok.fresh (Nat.le_refl _)
  have I1 := n_new (t' := s.toks) I
  have nod : d ≠ s.heap.objs.size := fun e => by
    obtain ⟨o, _, _, ho, _⟩ := dd
    exact absurd (Heap.lt_size ho) (by rw [e]; exact Nat.lt_irrefl _)
  have g1 : RD X.prog X.w (upd H s.heap.objs.size (DO X.prog X.w s.heap.objs.size [])) d (pairsE xs) := by
    rcases g with m | f
    · exact .inl (m.mono (Tp.new new) (upd_ne nod))
    · exact .inr (f.mono (Tp.new new))
  obtain ⟨xs1, e1, kin1, _, _, ys1, rel1, dd1⟩ := g1.get I1.hok
  have m1 : MD X.prog X.w (upd H s.heap.objs.size (DO X.prog X.w s.heap.objs.size [])) s.heap.objs.size [] := MD.ofUpd (.inr new) KeysIn.nil
  obtain ⟨_, hm0, zs, rel0, dd0⟩ := (I1.hok _ _ upd_same).1.at I1.hok KeysIn.nil
  cases rel0
  have lx : xs1.length = ys1.length := Paired.length rel1
  have lz : xs1.length = xs.length := by simpa [pairsE] using congrArg List.length e1
  rw [pairsE, List.length_map] at hz
  refine callType_codes (Q₁ := fun obj s₁ => obj = .ref s.heap.objs.size ∧ s₁ = { s with heap := s.heap.push { cls := .type "dict", data := .dict #[] } }) F.kt_called_dict (F.kt_typeCall_dict_1 _) F.entry_dict_init (kt_code_dict_new _ ⟨rfl, rfl⟩) ?_
  rintro _ _ ⟨rfl, rfl⟩
  refine ⟨dd0.typeIs, F.args_dict_init_2 _ _, ?_⟩
  unfold Builtin.«dict.__init__» Builtin.Dict.selfAndRest
  refine wpAny_bind (wpAny_bind (wpAny_notOrdered_dict dd0.typeIs ?_))
  show wpAny _ _ (pure (s.heap.objs.size, [Value.ref d])) _ _ _
  refine wpAny_pure ?_
  show wpAny _ _ (Builtin.Dict.updateFrom "dict.__init__" s.heap.objs.size (.ref d) [] .none) _ _ _
  have big : (X.A.in1.in1).units + 8 < cLine := (show X.A.units + 1 + 1 + 8 < cLine by omega)
  have ap1 : Apart X.w (pairsE xs1) := e1 ▸ ap
  refine updateFrom_dictH (knd := nestedKind X.prog X.w) (A := X.A.in1) .none big (Ne.symm nod) hm dd0 dd1 (.inr ⟨keyed_apart nestedKind_stays dd1, ?_⟩) (by simp; omega) fun h' dd' _ sb => ?_
  · exact EntP.hashes (w := X.w) rel1 ▸ ap1
  · have I2 := n_write (t' := s.toks) I1 m1.mut sb (by have := mergeE_len xs1 []; simp at this; omega) hm0 (EntP.merge (xs := []) rel1 .nil) dd'
    have m2 : MD X.prog X.w (upd (upd H s.heap.objs.size (DO X.prog X.w s.heap.objs.size [])) s.heap.objs.size (DO X.prog X.w s.heap.objs.size (mergeE [] xs1))) s.heap.objs.size (pairsE (mergeE [] xs1)) :=
      MD.ofUpd (.inl m1.mut) (KeysIn.nil.merge kin1.1)
    obtain ⟨ob, I3, f, _⟩ := n_freeze I2 m2
    have e3 : pairsE (mergeE [] xs1) = pairsE xs := by
      rw [pairsE_merge, e1]
      exact mergeD_nil (by rw [keysE]; exact kin.2)
    rw [upd_upd, upd_upd] at I3 f
    rw [e3] at f
    exact ⟨rfl, .ref _, _, I3, rfl, q _ ob new f⟩
theorem pe_nupd (hu : X.A.units + 10 < cLine) (ho : PE X o td) (he : PE X e te) (m : M1 X o "update" apos e cpos) : PE X (.Call (.Attribute o "update" apos) [e] [] cpos) (tNUpd X.prog X.w td te) := by
  refine .mk fun pins s σ H Q I h => ?_
  refine wpAny_Call_method m.base m.few m.line PySem.F.plainAttrs_dict PySem.F.slot_dict_update PySem.F.type_dict_update (thn (ho.run _ _ _ _ _ I h) ?_)
  rintro u s1 ⟨x, H1, I1, r1, d, rfl, ⟨l, g1⟩, q1⟩
  obtain rfl : u = .ref d := r1
  refine ⟨RD.typeIs I1 (.inl g1), RD.noDict I1 (.inl g1), ?_⟩
  rw [m.trees]
  refine Calls.callWith_builtin rfl (Calls.evalArgs_plain (Calls.spliced_cons (thn (he.run _ _ _ _ _ I1 q1) ?_)))
  rintro u2 s2 ⟨y, H2, I2, r2, d2, ks, ls, rfl, g2, f2, ap, hz, q2⟩
  obtain rfl : u2 = .ref d2 := r2
  refine Calls.spliced_nil ?_
  have ne := FD.apart g2 f2
  have mu := g2.mut
  obtain ⟨xs, e, rfl, kin⟩ := g2
  obtain ⟨z, hm, us, rel, dd⟩ := (I2.hok d _ e).1.at I2.hok kin
  obtain ⟨ys, rfl, kin2, z2, hm2, vs, rel2, dd2⟩ := RD.get I2.hok (.inr f2)
  have lx : xs.length = us.length := Paired.length rel
  have ly : ys.length = vs.length := Paired.length rel2
  rw [pairsE, pairsE, List.length_map, List.length_map] at hz
  have big : (X.A.in1).units + 8 < cLine := (show X.A.units + 1 + 8 < cLine by omega)
  refine call_update_dictH (knd := nestedKind X.prog X.w) big ne hm2 dd dd2 (.inr ⟨keyed_apart nestedKind_stays dd2, ?_⟩) (by omega) fun h' dd' _ sb => ?_
  · exact EntP.hashes (w := X.w) rel2 ▸ ap
  · have I3 := n_write (t' := s2.toks) I2 mu sb (by have := mergeE_len ys xs; omega) hm (EntP.merge rel2 rel) dd'
    refine ⟨.non, _, I3, rfl, q2 _ ?_⟩
    rw [← pairsE_merge]
    exact MD.ofUpd (.inl mu) (kin.merge kin2.1)
theorem pc_nne (hu : X.A.units < cLine) (ho : PE X o td) (he : PE X e te) : PC X .NotEq o e (tNNe X.prog X.w td te) := by
  refine .mk fun pins s σ H Q I h => ?_
  refine thn (ho.run _ _ _ _ _ I h) ?_
  rintro u s1 ⟨x, H1, I1, r1, q1⟩
  refine thn (he.run _ _ _ _ _ I1 q1) ?_
  rintro u2 s2 ⟨y, H2, I2, r2, a, b, ks, rfl, rfl, g1, g2, q2⟩
  obtain rfl : u = .ref a := r1
  obtain rfl : u2 = .ref b := r2
  obtain ⟨xs, rfl, kin, _, hm1, us, rel, dd1⟩ := g1.get I2.hok
  obtain ⟨ys, e2, kin2, _, hm2, vs, rel2, dd2⟩ := g2.get I2.hok
  have t1 := dd1.typeIs
  have t2 := dd2.typeIs
  obtain ⟨o1, es1, ep1, ho1, _, hd1, he1, _⟩ := id dd1
  obtain ⟨o2, es2, ep2, ho2, _, hd2, he2, _⟩ := id dd2
  have l1 : es1.size = xs.length := by rw [size_of_entries he1]; exact (Paired.length rel).symm
  have l2 : es2.size = 0 := by
    rw [size_of_entries he2, ← Paired.length rel2]
    simpa [pairsE] using e2
  have answer : ∀ s', Inv X pins σ H2 s' → EP X pins σ Q (.bool (!decide (es1.size = 0))) s' := fun s' J => ⟨.bl _, H2, J, rfl, by
    have e : (!(pairsE xs).isEmpty) = !decide (es1.size = 0) := by
      rw [l1]
      cases xs <;> rfl
    rw [← e]; exact q2⟩
  refine wpAny_richCompare_same_room (op := .NotEq) t1 t2 PySem.F.slot_dict_ne (wpAny_call_entry PySem.F.slot_dict_ne t1 PySem.F.entry_dict_ne ?_ (PySem.F.args_dict_ne_2 _ _)) hu
  show wpAny _ _ (Builtin.Dict.dictSlotArgs "__ne__" ⟨[.ref a, .ref b], []⟩ >>= _) _ _ _
  unfold Builtin.Dict.dictSlotArgs
  refine wpAny_bind (wpAny_bind (wpAny_notOrdered_dict t1 ?_))
  show wpAny _ _ (pure (Value.ref a, Value.ref b)) _ _ _
  refine wpAny_pure (wpAny_bind (wpAny_isInstance (T := "dict") t2 PySem.F.sub_dict_dict ?_))
  rw [if_neg (by decide)]
  refine wpAny_bind (wpAny_pure (wpAny_bind (wpAny_pure (wpAny_bind ?_))))
  unfold Builtin.Dict.samePairs Builtin.Dict.showsAll
  rw [if_neg (by rw [hm1]; exact Bool.false_ne_true), if_neg (by rw [hm2]; exact Bool.false_ne_true)]
  refine wpAny_bind (wpAny_pure (wpAny_bind (wpAny_pure (wpAny_bind (wpAny_dictEntries ho1 hd1 (wpAny_bind (wpAny_dictEntries ho2 hd2 ?_)))))))
  by_cases q : es1.size = 0
  · rw [if_neg (by rw [q, l2]; decide)]
    refine wpAny_bind (wpAny_dictEpoch ho1 hd1 (wpAny_bind ?_))
    rw [Std.Legacy.Range.forIn_eq_forIn_range']
    simp only [Std.Legacy.Range.size, q]
    have z := answer _ I2
    rw [q] at z
    have e0 : List.range' 0 ((0 - 0 + 1 - 1) / 1) = ([] : List Nat) := rfl
    rw [e0, List.forIn_nil]
    refine wpAny_pure (wpAny_pure (wpAny_pure ⟨.bool false, rfl, ?_, z⟩))
    exact fun x => nomatch x
  · rw [if_pos (by rw [l2]; simpa using q)]
    have z := answer _ I2
    rw [decide_eq_false q] at z
    refine wpAny_bind (wpAny_rule (wpAny_pure (wpAny_pure ⟨.bool true, rfl, ?_, z⟩)))
    exact fun x => nomatch x
end
end Mw
/-! The hash of a packet, of a place with a packet, in plain numbers. -/
namespace Mw
open PySem PySem.Spec PyProof.Rows L2

/-- 64 bits read with a sign -/
def sgn (u : Nat) : Int := if u < 9223372036854775808 then (u : Int) else (u : Int) - 18446744073709551616
theorem sgn_lane {u : Nat} (h : u < 18446744073709551616) : (sgn u % 18446744073709551616).toNat = u := by
  unfold sgn
  split <;> omega
theorem sgn_inj {u v : Nat} (hu : u < 18446744073709551616) (hv : v < 18446744073709551616) (h : sgn u = sgn v) : u = v := by
  rw [← sgn_lane hu, ← sgn_lane hv, h]
theorem sgn_in {u : Nat} (h : u < 18446744073709551616) : -9223372036854775808 ≤ sgn u ∧ sgn u < 9223372036854775808 := by
  unfold sgn
  split <;> omega
theorem fin_ne1 (c acc : Nat) : fin c acc ≠ 18446744073709551615 := by
  unfold fin
  split
  · decide
  · assumption
theorem sgn_fin (c acc : Nat) : reduceHash (sgn (fin c acc)) = sgn (fin c acc) := by
  have lt := fin_lt c acc
  have r := sgn_in lt
  have ne : sgn (fin c acc) ≠ -1 := fun e => by
    have n1 := fin_ne1 c acc
    unfold sgn at e
    split at e <;> omega
  unfold reduceHash
  rw [if_pos (by simp; omega), if_neg (by simpa using ne)]
theorem fold_step (acc : Nat) (h : Int) (l : Nat) (e : (h % 18446744073709551616).toNat = l) :
    ((((acc + (h % ((18446744073709551616 : Nat) : Int)).toNat * 14029467366897019727) % 18446744073709551616) * 2147483648) % 18446744073709551616 + ((acc + (h % ((18446744073709551616 : Nat) : Int)).toNat * 14029467366897019727) % 18446744073709551616) / 8589934592) * 11400714785074694791 % 18446744073709551616 = stp acc l := by
  have e' : (h % ((18446744073709551616 : Nat) : Int)).toNat = l := e
  rw [e']
  unfold stp rot
  have q : ∀ y : Nat, y < 18446744073709551616 → y * 2147483648 % 18446744073709551616 = y % 8589934592 * 2147483648 := fun y hy => by omega
  rw [q _ (Nat.mod_lt _ (by decide))]
theorem close_1 (acc : Nat) : (if ((acc + 2870177450013471927) % 18446744073709551616 == 18446744073709551615) = true then (1546275796 : Int) else if (acc + 2870177450013471927) % 18446744073709551616 < 9223372036854775808 then (((acc + 2870177450013471927) % 18446744073709551616 : Nat) : Int) else (((acc + 2870177450013471927) % 18446744073709551616 : Nat) : Int) - 18446744073709551616) = sgn (fin 2870177450013471927 acc) := by
  unfold fin sgn
  generalize (acc + 2870177450013471927) % 18446744073709551616 = y
  by_cases e : y = 18446744073709551615
  · rw [if_pos (by simp [e]), if_pos e]
    rfl
  · rw [if_neg (by simpa using e), if_neg e]
theorem close_2 (acc : Nat) : (if ((acc + 2870177450013471924) % 18446744073709551616 == 18446744073709551615) = true then (1546275796 : Int) else if (acc + 2870177450013471924) % 18446744073709551616 < 9223372036854775808 then (((acc + 2870177450013471924) % 18446744073709551616 : Nat) : Int) else (((acc + 2870177450013471924) % 18446744073709551616 : Nat) : Int) - 18446744073709551616) = sgn (fin 2870177450013471924 acc) := by
  unfold fin sgn
  generalize (acc + 2870177450013471924) % 18446744073709551616 = y
  by_cases e : y = 18446744073709551615
  · rw [if_pos (by simp [e]), if_pos e]
    rfl
  · rw [if_neg (by simpa using e), if_neg e]
theorem xor_1 : (1 : Nat) ^^^ (2870177450012600261 ^^^ 3527539) = 2870177450013471927 := by decide
theorem xor_2 : (2 : Nat) ^^^ (2870177450012600261 ^^^ 3527539) = 2870177450013471924 := by decide
/-- one step, the numbers as letters -/
def stG (m q1 q2 p1 p2 : Nat) (acc : Nat) (h : Int) : Nat := ((acc + (h % (m : Int)).toNat * p2) % m * q1 % m + (acc + (h % (m : Int)).toNat * p2) % m / q2) * p1 % m
def endG (m q3 e : Nat) (acc : Nat) : Int := if (acc == e) = true then 1546275796 else if acc < q3 then (acc : Int) else (acc : Int) - m
def G (m q1 q2 q3 e p1 p2 p5 x : Nat) (hs : List Int) : Int := endG m q3 e ((hs.foldl (stG m q1 q2 p1 p2) p5 + (hs.length ^^^ (p5 ^^^ x))) % m)
theorem th_eq (hs : List Int) : Builtin.Tuple.tupleHashOf hs = G (2 ^ 64) (2 ^ 31) (2 ^ 33) (2 ^ 63) (2 ^ 64 - 1) 11400714785074694791 14029467366897019727 2870177450012600261 3527539 hs := rfl
theorem lits : (2 ^ 64 : Nat) = 18446744073709551616 ∧ (2 ^ 31 : Nat) = 2147483648 ∧ (2 ^ 33 : Nat) = 8589934592 ∧ (2 ^ 63 : Nat) = 9223372036854775808 ∧ (2 ^ 64 - 1 : Nat) = 18446744073709551615 := by decide
theorem G_1 (m q1 q2 q3 e p1 p2 p5 x : Nat) (h : Int) : G m q1 q2 q3 e p1 p2 p5 x [h] = endG m q3 e ((stG m q1 q2 p1 p2 p5 h + (1 ^^^ (p5 ^^^ x))) % m) := rfl
theorem G_2 (m q1 q2 q3 e p1 p2 p5 x : Nat) (h k : Int) : G m q1 q2 q3 e p1 p2 p5 x [h, k] = endG m q3 e ((stG m q1 q2 p1 p2 (stG m q1 q2 p1 p2 p5 h) k + (2 ^^^ (p5 ^^^ x))) % m) := rfl
theorem st_lit (acc : Nat) {h : Int} {l : Nat} (e : (h % 18446744073709551616).toNat = l) : stG 18446744073709551616 2147483648 8589934592 11400714785074694791 14029467366897019727 acc h = stp acc l := fold_step acc h l e
theorem end_1 (acc : Nat) : endG 18446744073709551616 9223372036854775808 18446744073709551615 ((acc + 2870177450013471927) % 18446744073709551616) = sgn (fin 2870177450013471927 acc) := close_1 acc
theorem end_2 (acc : Nat) : endG 18446744073709551616 9223372036854775808 18446744073709551615 ((acc + 2870177450013471924) % 18446744073709551616) = sgn (fin 2870177450013471924 acc) := close_2 acc
theorem th_1 {h : Int} {l : Nat} (e : (h % 18446744073709551616).toNat = l) : Builtin.Tuple.tupleHashOf [h] = sgn (fin 2870177450013471927 (stp 2870177450012600261 l)) := by
  obtain ⟨l1, l2, l3, l4, l5⟩ := lits
  rw [th_eq, l5, l1, l2, l3, l4, G_1, st_lit _ e, xor_1]
  exact end_1 _
theorem th_2 {h k : Int} {l m : Nat} (e : (h % 18446744073709551616).toNat = l) (f : (k % 18446744073709551616).toNat = m) : Builtin.Tuple.tupleHashOf [h, k] = sgn (fin 2870177450013471924 (stp (stp 2870177450012600261 l) m)) := by
  obtain ⟨l1, l2, l3, l4, l5⟩ := lits
  rw [th_eq, l5, l1, l2, l3, l4, G_2, st_lit _ e, st_lit _ f, xor_2]
  exact end_2 _

/-! ### packets -/
theorem hash_small {a : Nat} (h : a ≤ 1000000000000) : hashInt (a : Int) = a := by
  have e : rawHash (a : Int) = a := by
    unfold rawHash
    simp only [Int.natAbs_natCast]
    have t : ∀ m : Nat, a < m → (a : Int) % (m : Int) = a := fun m q => Int.emod_eq_of_lt (by omega) (by omega)
    rw [t _ (by omega), if_neg (show ¬ (a : Int) < 0 by omega), if_neg (by simp)]
  unfold hashInt
  rw [e, if_neg (by simp)]
theorem lane_small {a : Nat} (h : a ≤ 1000000000000) : (hashInt (a : Int) % 18446744073709551616).toNat = a := by
  rw [hash_small h]
  omega
abbrev numD (a : Nat) : D := .num (a : Int)
theorem h_1 (w : World) {a : Nat} (ha : a ≤ 1000000000000) : NestedKey.hash w (.tup [numD a]) = sgn (u1 a) := by
  show reduceHash (Builtin.Tuple.tupleHashOf [hashInt (a : Int)]) = _
  rw [th_1 (lane_small ha), sgn_fin, u1, AA]
theorem h_2 (w : World) {a b : Nat} (ha : a ≤ 1000000000000) (hb : b ≤ 1000000000000) : NestedKey.hash w (.tup [numD a, numD b]) = sgn (u2 a b) := by
  show reduceHash (Builtin.Tuple.tupleHashOf [hashInt (a : Int), hashInt (b : Int)]) = _
  rw [th_2 (lane_small ha) (lane_small hb), sgn_fin, u2, RR, AA]
theorem h_ent (w : World) {p u : Nat} {k : D} (hp : p ≤ 1000000000000) (hu : u < 18446744073709551616) (hk : NestedKey.hash w k = sgn u) : NestedKey.hash w (.tup [numD p, k]) = sgn (vv p u) := by
  show reduceHash (Builtin.Tuple.tupleHashOf [hashInt (p : Int), NestedKey.hash w k]) = _
  rw [th_2 (lane_small hp) (show (NestedKey.hash w k % 18446744073709551616).toNat = u by rw [hk]; exact sgn_lane hu), sgn_fin, vv, AA]
/-- the numbers that come: the known ones, and x -/
def Val (x v : Nat) : Prop := v ∈ FF ∨ v = x
theorem Val.le {x v : Nat} (hx : x ≤ 1000000000000) (h : Val x v) : v ≤ 1000000000000 := by
  rcases h with h | rfl
  · exact FF_le h
  · exact hx
/-- a packet of n such numbers -/
def Pkt (x n : Nat) (k : D) : Prop := ∃ vs : List Nat, k = .tup (vs.map numD) ∧ vs.length = n ∧ ∀ v ∈ vs, Val x v
/-- a place with such a packet -/
def Ent2 (x n : Nat) (k : D) : Prop := ∃ p q, p < 7 ∧ Pkt x n q ∧ k = .tup [numD p, q]
theorem Pkt.cases {x n : Nat} {k : D} (hn : n = 1 ∨ n = 2) (h : Pkt x n k) : (n = 1 ∧ ∃ a, Val x a ∧ k = .tup [numD a]) ∨ (n = 2 ∧ ∃ a b, Val x a ∧ Val x b ∧ k = .tup [numD a, numD b]) := by
  obtain ⟨vs, rfl, len, all⟩ := h
  rcases hn with rfl | rfl
  · obtain ⟨a, rfl⟩ : ∃ a, vs = [a] := by
      match vs, len with
      | [a], _ => exact ⟨a, rfl⟩
    exact .inl ⟨rfl, a, all a (by simp), rfl⟩
  · obtain ⟨a, b, rfl⟩ : ∃ a b, vs = [a, b] := by
      match vs, len with
      | [a, b], _ => exact ⟨a, b, rfl⟩
    exact .inr ⟨rfl, a, b, all a (by simp), all b (by simp), rfl⟩
theorem u1_lt (a : Nat) : u1 a < 18446744073709551616 := fin_lt _ _
theorem u2_lt (a b : Nat) : u2 a b < 18446744073709551616 := fin_lt _ _
theorem vv_lt (p u : Nat) : vv p u < 18446744073709551616 := fin_lt _ _
theorem pkt_apart {w : World} {x n : Nat} (hx : x ≤ 1000000000000) (hn : n = 1 ∨ n = 2) {k j : D} (hk : Pkt x n k) (hj : Pkt x n j) (h : NestedKey.hash w k = NestedKey.hash w j) : k = j := by
  rcases hk.cases hn with ⟨rfl, a, va, rfl⟩ | ⟨rfl, a, b, va, vb, rfl⟩
  · rcases hj.cases hn with ⟨_, c, vc, rfl⟩ | ⟨e, _⟩
    · rw [h_1 w (va.le hx), h_1 w (vc.le hx)] at h
      rw [u1_inj (va.le hx) (vc.le hx) (sgn_inj (u1_lt a) (u1_lt c) h)]
    · omega
  · rcases hj.cases hn with ⟨e, _⟩ | ⟨_, c, d, vc, vd, rfl⟩
    · omega
    · rw [h_2 w (va.le hx) (vb.le hx), h_2 w (vc.le hx) (vd.le hx)] at h
      obtain ⟨e1, e2⟩ := u2_inj hx va vb vc vd (sgn_inj (u2_lt a b) (u2_lt c d) h)
      rw [e1, e2]
theorem ent_apart {w : World} {x n : Nat} (hx : x ≤ 1000000000000) (hn : n = 1 ∨ n = 2) {k j : D} (hk : Ent2 x n k) (hj : Ent2 x n j) (h : NestedKey.hash w k = NestedKey.hash w j) : k = j := by
  obtain ⟨p, k, hp, hk, rfl⟩ := hk
  obtain ⟨q, j, hq, hj, rfl⟩ := hj
  rcases hk.cases hn with ⟨rfl, a, va, rfl⟩ | ⟨rfl, a, b, va, vb, rfl⟩
  · rcases hj.cases hn with ⟨_, c, vc, rfl⟩ | ⟨e, _⟩
    · rw [h_ent w (by omega) (u1_lt a) (h_1 w (va.le hx)), h_ent w (by omega) (u1_lt c) (h_1 w (vc.le hx))] at h
      obtain ⟨e1, e2⟩ := v1_inj hx va vc hp hq (sgn_inj (vv_lt _ _) (vv_lt _ _) h)
      rw [e1, e2]
    · omega
  · rcases hj.cases hn with ⟨e, _⟩ | ⟨_, c, d, vc, vd, rfl⟩
    · omega
    · rw [h_ent w (by omega) (u2_lt a b) (h_2 w (va.le hx) (vb.le hx)), h_ent w (by omega) (u2_lt c d) (h_2 w (vc.le hx) (vd.le hx))] at h
      obtain ⟨e1, e2, e3⟩ := v2_inj hx va vb vc vd hp hq (sgn_inj (vv_lt _ _) (vv_lt _ _) h)
      rw [e1, e2, e3]
theorem nodup_map {α β : Type} {f : α → β} : ∀ {l : List α}, l.Nodup → (∀ a ∈ l, ∀ b ∈ l, f a = f b → a = b) → (l.map f).Nodup
  | [], _, _ => List.nodup_nil
  | a :: l, n, h => by
    rw [List.nodup_cons] at n
    rw [List.map_cons, List.nodup_cons]
    refine ⟨fun m => ?_, nodup_map n.2 fun b hb c hc => h b (List.mem_cons_of_mem _ hb) c (List.mem_cons_of_mem _ hc)⟩
    obtain ⟨b, hb, e⟩ := List.mem_map.mp m
    exact n.1 (h b (List.mem_cons_of_mem _ hb) a List.mem_cons_self e ▸ hb)
theorem apart_of {w : World} {kvs : List (D × V)} {S : D → Prop} (n : (kvs.map (·.1)).Nodup) (h : ∀ k ∈ kvs.map (·.1), S k) (inj : ∀ k j, S k → S j → NestedKey.hash w k = NestedKey.hash w j → k = j) : Apart w kvs := by
  have q := nodup_map (f := NestedKey.hash w) n fun a ha b hb e => inj a b (h a ha) (h b hb) e
  rw [List.map_map] at q
  exact q
end Mw
/-! Comprehensions whose parts change nothing. -/
namespace Mw
open PySem PySem.Spec PyProof.Rows L2
theorem same_trans {H H1 H2 : Hp} (a : Same H H1) (b : Same H1 H2) : Same H H2 := fun x o e => b x o (a x o e)
theorem same_refl (H : Hp) : Same H H := fun _ _ e => e
theorem same_upd {H H1 : Hp} {a : Addr} {o : HO} (s : Same H H1) (n : H a = none) : Same H (upd H1 a o) := fun x u e => by rw [upd_ne (ne_of_none e n)]; exact s x u e
theorem paired_mono {α β : Type} {F G : α → β → Prop} (h : ∀ a b, F a b → G a b) : ∀ {l : List α} {m : List β}, Paired F l m → Paired G l m
  | _, _, .nil => .nil
  | _, _, .cons a b => .cons (h _ _ a) (paired_mono h b)
theorem paired_const {α β : Type} {z : β} : ∀ {l : List α} {m : List β}, Paired (fun _ y => y = z) l m → m = List.replicate l.length z
  | _, _, .nil => rfl
  | _, _, .cons a b => by rw [a, paired_const b, List.length_cons, List.replicate_succ]
/-- all of them true -/
theorem all_true {α : Type} {l : List α} {ys : List V} (p : Paired (fun _ y => y = V.bl true) l ys) : ys = (List.replicate l.length true).map V.bl ∧ (List.replicate l.length true).all id = true := by
  rw [paired_const p, List.map_replicate]
  exact ⟨rfl, by simp⟩
theorem range_filter (b : Nat → Bool) (i : Nat) : (List.range (i + 1)).filter b = (List.range i).filter b ++ (if b i = true then [i] else []) := by
  rw [List.range_succ, List.filter_append]
  congr 1
  by_cases h : b i = true
  · rw [if_pos h]; simp [h]
  · rw [if_neg h]; simp [h]
section
variable {J : It} {Kp : Hp → Prop} {vs : List V} {g : TG} {tt : TT} {te tk tv : TE} {own : List Nat} {σ : L2.St} {H1 : Hp}
/-- [e for x in xs if t]: b says which items pass, Rel what each gives -/
theorem lc_pure {Dl : Addr} {Qd : Hp → Prop} (st : Steady J Kp vs) (hk : ∀ H, Same H1 H → Kp H) (b : Nat → Bool) (Rel : Nat → V → Hp → Prop) (mono : ∀ {i y H H'}, Tp H H' → Rel i y H → Rel i y H') (new : H1 Dl = none) (len : vs.length ≤ sizeLine)
    (el : ∀ i x H, vs[i]? = some x → Same H1 H → ∀ (Y : V → Hp → Prop) (Nn : Hp → Prop), (b i = true → ∀ y H', Same H H' → Rel i y H' → Y y H') → (b i = false → ∀ H', Same H H' → Nn H') →
      g x (wipe σ own) H fun σ2 H2 => wipe σ2 own = wipe σ own ∧ tt σ2 H2 fun c H3 => if c = true then te σ2 H3 Y else Nn H3)
    (hd : ∀ H ys, Same H1 H → H Dl = some (.lst ys) → Paired (fun i y => Rel i y H) ((List.range vs.length).filter b) ys → Qd H) :
    ∃ W : Nat → Nat → Hp → Prop, (∃ m, W 0 m (upd H1 Dl (.lst []))) ∧ ∀ i m H, W i m H →
      (J.stop i H ∧ Qd H) ∨ (J.go i H ∧ ∃ Nx : Hp → Prop, (∀ H', Nx H' → ∃ m', m' < m ∧ W (i + 1) m' H') ∧ ∀ x H', J.yld i H x H' → g x (wipe σ own) H' fun σ2 H2 => wipe σ2 own = wipe σ own ∧ tt σ2 H2 fun b H3 =>
        if b = true then te σ2 H3 fun y H4 => ∃ acc, H4 Dl = some (.lst acc) ∧ acc.length < sizeLine ∧ Nx (upd H4 Dl (.lst (acc ++ [y]))) else Nx H3) := by
  refine lc_st st (fun i H => Same H1 H ∧ ∃ ys, H Dl = some (.lst ys) ∧ Paired (fun i y => Rel i y H) ((List.range i).filter b) ys) ⟨same_upd (same_refl _) new, [], upd_same, .nil⟩ (fun i H _ p => hk H p.1) ?_ ?_
  · rintro i x H hx ⟨s, ys, at_, p⟩
    have lt : i < vs.length := (List.getElem?_eq_some_iff.mp hx).1
    have few : ys.length < sizeLine := by
      have l1 := Paired.length p
      have l2 := List.length_filter_le b (List.range i)
      rw [List.length_range] at l2
      omega
    refine el i x H hx s _ _ (fun hb y H' s' r => ?_) fun hb H' s' => ?_
    · have at' := s' _ _ at_
      have t : Tp H' (upd H' Dl (.lst (ys ++ [y]))) := Tp.write (by rw [at']; exact True.intro)
      refine ⟨ys, at', few, same_upd (same_trans s s') new, ys ++ [y], upd_same, ?_⟩
      rw [range_filter, if_pos hb]
      exact Paired.snoc (paired_mono (fun _ _ q => mono t (mono (Tp.same s') q)) p) (mono t r)
    · refine ⟨same_trans s s', ys, s' _ _ at_, ?_⟩
      rw [range_filter, if_neg (by rw [hb]; decide), List.append_nil]
      exact paired_mono (fun _ _ q => mono (Tp.same s') q) p
  · rintro H ⟨s, ys, at_, p⟩
    exact hd H ys s at_ p
/-- what a dict comprehension has made of the first i items -/
def made (b : Nat → Bool) (k : Nat → D) (z : V) : Nat → List (D × V)
  | 0 => []
  | i + 1 => if b i = true then putK (made b k z i) (k i) z else made b k z i
theorem made_len (b : Nat → Bool) (k : Nat → D) (z : V) : ∀ i, (made b k z i).length ≤ i
  | 0 => Nat.le_refl _
  | i + 1 => by
    have q := made_len b k z i
    unfold made
    split
    · have := length_putK (made b k z i) (k i) z; omega
    · omega
theorem mem_made (b : Nat → Bool) (k : Nat → D) (z : V) (j : D) : ∀ i, j ∈ (made b k z i).map (·.1) ↔ ∃ n, n < i ∧ b n = true ∧ k n = j
  | 0 => by simp [made]
  | i + 1 => by
    have q := mem_made b k z j i
    unfold made
    split
    · rename_i h
      rw [mem_putK, q]
      constructor
      · rintro (⟨n, h1, h2, h3⟩ | rfl)
        · exact ⟨n, by omega, h2, h3⟩
        · exact ⟨i, by omega, h, rfl⟩
      · rintro ⟨n, h1, h2, h3⟩
        rcases Nat.lt_succ_iff_lt_or_eq.mp h1 with h4 | rfl
        · exact .inl ⟨n, h4, h2, h3⟩
        · exact .inr h3.symm
    · rename_i h
      rw [q]
      constructor
      · rintro ⟨n, h1, h2, h3⟩
        exact ⟨n, by omega, h2, h3⟩
      · rintro ⟨n, h1, h2, h3⟩
        rcases Nat.lt_succ_iff_lt_or_eq.mp h1 with h4 | rfl
        · exact ⟨n, h4, h2, h3⟩
        · exact absurd h2 h
theorem made_val (b : Nat → Bool) (k : Nat → D) (z : V) : ∀ i, ∀ p ∈ made b k z i, p.2 = z
  | 0, p, h => by simp [made] at h
  | i + 1, p, h => by
    have q := made_val b k z i
    unfold made at h
    split at h
    · unfold putK at h
      split at h
      · obtain ⟨r, hr, rfl⟩ := List.mem_map.mp h
        split
        · rfl
        · exact q r hr
      · rcases List.mem_append.mp h with h | h
        · exact q p h
        · rw [List.mem_singleton.mp h]
    · exact q p h
/-- {k: z for x in xs if t}, z the same for all -/
theorem dc_pure {P : Program} {w : World} {Dd : Addr} {o : HO} {Qd : Hp → Prop} (st : Steady J Kp vs) (hk : ∀ H, Same H1 H → Kp H) (b : Nat → Bool) (k : Nat → D) (z : V) (new : H1 Dd = none) (m0 : MD P w (upd H1 Dd o) Dd []) (len : vs.length ≤ sizeLine)
    (el : ∀ i x H, vs[i]? = some x → Same H1 H → ∀ (Y : V → V → Hp → Prop) (Nn : Hp → Prop), (b i = true → ∀ y H', Same H H' → KeyV H' (k i) y → Y y z H') → (b i = false → ∀ H', Same H H' → Nn H') →
      g x (wipe σ own) H fun σ2 H2 => wipe σ2 own = wipe σ own ∧ tt σ2 H2 fun c H3 => if c = true then tk σ2 H3 fun y H4 => tv σ2 H4 fun z H5 => Y y z H5 else Nn H3)
    (hd : ∀ H, Same H1 H → MD P w H Dd (made b k z vs.length) → Qd H) :
    ∃ W : Nat → Nat → Hp → Prop, (∃ m, W 0 m (upd H1 Dd o)) ∧ ∀ i m H, W i m H →
      (J.stop i H ∧ Qd H) ∨ (J.go i H ∧ ∃ Nx : Hp → Prop, (∀ H', Nx H' → ∃ m', m' < m ∧ W (i + 1) m' H') ∧ ∀ x H', J.yld i H x H' → g x (wipe σ own) H' fun σ2 H2 => wipe σ2 own = wipe σ own ∧ tt σ2 H2 fun b H3 =>
        if b = true then tk σ2 H3 fun y H4 => tv σ2 H4 fun z H5 => ∃ kvs k, MD P w H5 Dd kvs ∧ KeyV H5 k y ∧ kvs.length < sizeLine ∧ ∀ o, MD P w (upd H5 Dd o) Dd (putK kvs k z) → Nx (upd H5 Dd o) else Nx H3) := by
  have keep : ∀ {H H' : Hp} {l : List (D × V)}, Same H H' → MD P w H Dd l → MD P w H' Dd l := fun {H H' l} s m => by
    obtain ⟨xs, e, _⟩ := id m
    exact m.mono (Tp.same s) ((s _ _ e).trans e.symm)
  refine dcn_st st (fun i H => Same H1 H ∧ MD P w H Dd (made b k z i)) ⟨same_upd (same_refl _) new, m0⟩ (fun i H _ p => hk H p.1) ?_ fun H p => hd H p.1 p.2
  rintro i x H hx ⟨s, m⟩
  have lt : i < vs.length := (List.getElem?_eq_some_iff.mp hx).1
  refine el i x H hx s _ _ (fun hb y H' s' ky => ?_) fun hb H' s' => ?_
  · refine ⟨made b k z i, k i, keep s' m, ky, by have := made_len b k z i; omega, fun o m' => ⟨same_upd (same_trans s s') new, ?_⟩⟩
    rw [made, if_pos hb]
    exact m'
  · refine ⟨same_trans s s', ?_⟩
    rw [made, if_neg (by rw [hb]; decide)]
    exact keep s' m
end
end Mw
/-! The small defs of packets. -/
namespace Mw
open PySem L2
section
variable {P : Program} {w : World} {K : PySem.W.Frag} {mg : Str → Option Value} {base : Heap}
/-- is_number of a number -/
def sp_is_number : Sp := fun vs H Q _ => ∃ i, vs = [.int i] ∧ Q (.bl true) H
theorem ok_is_number (T : TX K mg) : FnOk P w K mg base CX0 1 T.a_is_number T.fd_is_number ["thing"] sp_is_number := by
  refine T.F_is_number.ok sc_is_number (fun vs H Q E h => ?_) (fun cdv A outer s H vs Q E hr h => ?_)
  · obtain ⟨i, rfl, _⟩ := h
    rfl
  · obtain ⟨i, rfl, k⟩ := h
    refine ⟨_, pss_one (ps_ret (pe_and (pe_callB call_isi (by rfl) T.z_isinstance (by decide +kernel) (pa_cons (pv 0) (pa_cons (pe_bltn (v := .ty "int") (by rfl) T.z_int (by decide +kernel) rfl) pa_nil)))
      (pe_one (pe_not (pe_callB call_isi (by rfl) T.z_isinstance (by decide +kernel) (pa_cons (pv 0) (pa_cons (pe_bltn (v := .ty "bool") (by rfl) T.z_bool (by decide +kernel) rfl) pa_nil))))))), ?_⟩
    refine ⟨_, rfl, .int i, .ty "int", _, _, true, rfl, .ty _, .base (.int i), kit_ty (by decide +kernel), true, rfl, iteT ?_⟩
    exact ⟨_, rfl, .int i, .ty "bool", _, _, false, rfl, .ty _, .base (.int i), kit_ty (by decide +kernel), false, rfl, k⟩
/-- is_count of a number -/
def sp_is_count : Sp := fun vs H Q _ => ∃ i, vs = [.int i] ∧ Q (.bl (decide (i ≥ 0))) H
theorem ok_is_count (T : TX K mg) : FnOk P w K mg base CX0 2 T.a_is_count T.fd_is_count ["thing"] sp_is_count := by
  refine T.F_is_count.ok sc_is_count (fun vs H Q E h => ?_) (fun cdv A outer s H vs Q E hr h => ?_)
  · obtain ⟨i, rfl, _⟩ := h
    rfl
  · obtain ⟨i, rfl, k⟩ := h
    refine ⟨_, pss_one (ps_ret (pe_and (pe_call (ok_is_number T) hr rfl T.m_is_number T.F_is_number.kp T.b_is_number .nil pass0 (pa_cons (pv 0) pa_nil)) (pe_one (pe_cmp (pc_ge (pv 0) pe_int) rfl)))), ?_⟩
    exact ⟨_, rfl, i, rfl, true, rfl, iteT ⟨_, rfl, i, 0, rfl, rfl, k⟩⟩
theorem rd_same {H H' : Hp} {a : Addr} {u : HO} (s : Same H H') (r : Rd H a u) : Rd H' a u := by
  rcases r with e | ⟨o, e⟩
  · exact .inl (s _ _ e)
  · exact .inr ⟨o, s _ _ e⟩
/-- a list, a tuple -/
def LT (H : Hp) (a : Addr) (xs : List V) : Prop := H a = some (.lst xs) ∨ Rd H a (.tup xs)
theorem LT.same {H H' : Hp} {a : Addr} {xs : List V} (s : Same H H') (r : LT H a xs) : LT H' a xs := r.imp (s _ _) (rd_same s)
/-- is_list of a list, a tuple -/
def sp_is_list : Sp := fun vs H Q _ => ∃ a xs, vs = [.ref a] ∧ LT H a xs ∧ ∀ H', Same H H' → Q (.bl true) H'
theorem ok_is_list (T : TX K mg) : FnOk P w K mg base CX0 1 T.a_is_list T.fd_is_list ["thing"] sp_is_list := by
  refine T.F_is_list.ok sc_is_list (fun vs H Q E h => ?_) (fun cdv A outer s H vs Q E hr h => ?_)
  · obtain ⟨a, xs, rfl, _⟩ := h
    rfl
  · obtain ⟨a, xs, rfl, hv, k⟩ := h
    refine ⟨_, pss_one (ps_ret (pe_callB call_isiT (by rfl) T.z_isinstance (by decide +kernel) (pa_cons (pv 0) (pa_cons (pe_tup (pa_cons (pe_bltn (v := .ty "list") (by rfl) T.z_list (by decide +kernel) rfl) (pa_cons (pe_bltn (v := .ty "tuple") (by rfl) T.z_tuple (by decide +kernel) rfl) pa_nil))) pa_nil)))), ?_⟩
    refine ⟨_, rfl, (by show 2 ≤ sizeLine; decide), fun t nt => ?_⟩
    have s1 : Same H (upd H t (.tup [.ty "list", .ty "tuple"])) := same_new nt
    rcases hv with e | e | ⟨o, e⟩
    · exact ⟨.ref a, t, [.ty "list", .ty "tuple"], .type "list", [.type "list", .type "tuple"], true, rfl, upd_same, .cons (.ty _) (.cons (.ty _) .nil), .base (.lst (s1 a _ e)), kitAny_cons (b := true) (kit_ty (by decide +kernel)) (fun z => nomatch z) (fun _ => rfl), k _ s1⟩
    · exact ⟨.ref a, t, [.ty "list", .ty "tuple"], .type "tuple", [.type "list", .type "tuple"], true, rfl, upd_same, .cons (.ty _) (.cons (.ty _) .nil), .base (.tup (s1 a _ e)),
        kitAny_cons (b := false) (kit_ty (by decide +kernel)) (fun _ => kitAny_cons (b := true) (kit_ty (by decide +kernel)) (fun z => nomatch z) (fun _ => rfl)) (fun z => nomatch z), k _ s1⟩
    · exact ⟨.ref a, t, [.ty "list", .ty "tuple"], .type "tuple", [.type "list", .type "tuple"], true, rfl, upd_same, .cons (.ty _) (.cons (.ty _) .nil), .fTuple (s1 a _ e),
        kitAny_cons (b := false) (kit_ty (by decide +kernel)) (fun _ => kitAny_cons (b := true) (kit_ty (by decide +kernel)) (fun z => nomatch z) (fun _ => rfl)) (fun z => nomatch z), k _ s1⟩
/-- the names that fields have -/
def NAMES : List Str := ["a", "at", "ab", "b", "dst", "note", "marks", "zz", "zzzzzz", "zzzzzy", "drops", "passes"]
def okName (x : Str) : Bool := decide (1 ≤ x.cps.size) && decide (x.cps.size ≤ 6) && x.cps.toList.all (fun c => decide (c ∈ ("abcdefghijklmnopqrstuvwxyz" : Str).cps.toList)) &&
  !(inV (.str x) [.str "drop", .str "mark", .str "not", .str "pass"])
theorem names_ok : NAMES.all okName = true := by decide +kernel
theorem steady_str {x : Str} : Steady (Its x) (fun _ => True) (x.cps.toList.map fun c => .str ⟨#[c]⟩) := fun i H _ => by
  refine ⟨fun h => (show i < x.cps.size by simpa using h), fun h => (show x.cps.size ≤ i by simpa using h), fun v H' y => ⟨y.1, ?_⟩⟩
  obtain ⟨_, c, hc, rfl⟩ := y
  rw [List.getElem?_map, Array.getElem?_toList, hc]
  rfl
/-- is_field of one of these names -/
def sp_is_field : Sp := fun vs H Q _ => ∃ x, vs = [.str x] ∧ x ∈ NAMES ∧ ∀ H', Same H H' → Q (.bl true) H'
theorem ok_is_field (T : TX K mg) : FnOk P w K mg base CX0 1 T.a_is_field T.fd_is_field ["thing"] sp_is_field := by
  refine T.F_is_field.ok sc_is_field (fun vs H Q E h => ?_) (fun cdv A outer s H vs Q E hr h => ?_)
  · obtain ⟨x, rfl, _⟩ := h
    rfl
  · obtain ⟨x, rfl, hx, k⟩ := h
    have okx := List.all_eq_true.mp names_ok x hx
    simp only [okName, Bool.and_eq_true, decide_eq_true_eq, Bool.not_eq_true'] at okx
    obtain ⟨⟨⟨h1, h2⟩, h3⟩, h4⟩ := okx
    refine ⟨_, pss_cons (ps_if (PW.pt (pw_or (pt_not (pt_val (pe_callB call_isi (by rfl) T.z_isinstance (by decide +kernel) (pa_cons (pv 0) (pa_cons (pe_bltn (v := .ty "str") (by rfl) T.z_str (by decide +kernel) rfl) pa_nil)))))
        (pw_or (pt_not (pt_chain op_le op_le pe_int (pe_callB call_len_str (by rfl) T.z_len (by decide +kernel) (pa_cons (pv 0) pa_nil)) (pe_glob (by rfl) T.g_MOST_LETTERS T.r_MOST_LETTERS)))
        (pw_or1 (pt_cmpR op_in_seq (pv 0) (pe_glob (v := .ref T.p_KEPT_WORDS) (by rfl) T.g_KEPT_WORDS rfl) (by rfl)))))) (pss_one (ps_ret pe_bl)) pss_nil)
      (pss_one (ps_ret (pe_callB (cr_all rfl) (by rfl) T.z_all (by decide +kernel) (pa_cons (pe_lc (own := [("sign", 1)]) (g := gName 1) (tt := tYes) rfl sc_is_field.nd (pi_str (pv 0)) (blkOk_by (N := ["thing", "sign"]) (sc := defScope s_is_field) (by decide +kernel))
        (fun _ _ _ _ _ => pg_name (i := 1) sc_is_field.nd rfl (Or.inl rfl)) (fun _ _ _ _ _ => pts_nil) (fun _ _ _ _ _ => pe_cmpR op_in_sign (pv 1) (pe_glob (by rfl) T.g_LETTERS T.r_LETTERS) (by rfl))) pa_nil)))), ?_⟩
    have e1 : decide ((1 : Int) ≤ (x.length : Int)) = true := decide_eq_true (show (1 : Int) ≤ (x.cps.size : Int) by omega)
    have e2 : decide ((x.length : Int) ≤ 6) = true := decide_eq_true (show (x.cps.size : Int) ≤ 6 by omega)
    refine ⟨_, rfl, .str x, .ty "str", _, _, true, rfl, .ty _, .base (.str x), kit_ty (by decide +kernel), true, rfl, iteF ?_⟩
    refine ⟨_, rfl, x, rfl, (by rw [sizeLine_eq]; show x.cps.size ≤ _; omega), 1, _, rfl, rfl, true, congrArg V.bl e1, iteT ?_⟩
    refine ⟨_, 6, rfl, rfl, true, congrArg V.bl e2, iteF ?_⟩
    refine ⟨_, rfl, T.p_KEPT_WORDS, _, rfl, .inr (T.r_KEPT_WORDS _), rfl, rfl, false, congrArg V.bl h4, iteF ?_⟩
    refine ⟨_, rfl, x, rfl, fun D hD => lc_pure steady_str (fun _ _ => True.intro) (fun _ => true) (fun _ y _ => y = .bl true) (fun {_ _ _ _} _ q => q) hD (by rw [List.length_map, Array.length_toList, sizeLine_eq]; omega) ?_ ?_⟩
    · intro i y H2 hy s2 Y Nn yes no
      rw [List.getElem?_map] at hy
      obtain ⟨c, hc, rfl⟩ := Option.map_eq_some_iff.mp hy
      have mem := List.all_eq_true.mp h3 c (List.mem_of_getElem? hc)
      refine ⟨rfl, ?_⟩
      simp only [tYes, if_true]
      exact ⟨_, rfl, c, _, rfl, rfl, yes rfl _ _ (same_refl _) (congrArg V.bl mem)⟩
    · intro H2 ys s2 at_ p
      obtain ⟨e, al⟩ := all_true p
      rw [e] at at_
      refine ⟨D, _, rfl, SqL.of at_, ?_⟩
      rw [al]
      exact k _ s2
/-- is_packet_of, the tuple a packet of so many numbers -/
def sp_is_packet_of : Sp := fun vs H Q _ => ∃ a p, vs = [.int (p.length : Nat), .ref a] ∧ NV H (pkD p) (.ref a) ∧ p.length ≤ 1000 ∧ ∀ H', Same H H' → Q (.bl true) H'
theorem pk_tup {H : Hp} {p : Pk} {a : Addr} (h : NV H (pkD p) (.ref a)) : H a = some (.tup (p.map fun (v : Nat) => .int (v : Int))) := by
  obtain ⟨b, xs, e, at_, n⟩ := nv_tup h
  cases e
  rw [at_]
  congr 2
  clear at_ h
  induction p generalizing xs with
  | nil => cases n; rfl
  | cons v p ih =>
    cases n with
    | cons n1 n2 => rw [nv_int n1, ih _ n2, List.map_cons]
theorem ok_is_packet_of (T : TX K mg) : FnOk P w K mg base CX0 3 T.a_is_packet_of T.fd_is_packet_of ["many", "thing"] sp_is_packet_of := by
  refine T.F_is_packet_of.ok sc_is_packet_of (fun vs H Q E h => ?_) (fun cdv A outer s H vs Q E hr h => ?_)
  · obtain ⟨a, p, rfl, _⟩ := h
    rfl
  · obtain ⟨a, p, rfl, n, small, k⟩ := h
    have at_ := pk_tup n
    have sq : SqT K H a (p.map fun (v : Nat) => V.int (v : Int)) := SqT.of at_
    refine ⟨_, pss_one (ps_ret (pe_and (pe_callB call_isi (by rfl) T.z_isinstance (by decide +kernel) (pa_cons (pv 1) (pa_cons (pe_bltn (v := .ty "tuple") (by rfl) T.z_tuple (by decide +kernel) rfl) pa_nil)))
      (pe_and (pe_cmp (pc_eqI (pe_callB call_len_seq (by rfl) T.z_len (by decide +kernel) (pa_cons (pv 1) pa_nil)) (pv 0)) rfl)
      (pe_one (pe_callB (cr_all rfl) (by rfl) T.z_all (by decide +kernel) (pa_cons (pe_lc (own := [("number", 2)]) (g := gName 2) (tt := tYes) rfl sc_is_packet_of.nd (pi_tup (pv 1)) (blkOk_by (N := ["many", "thing", "number"]) (sc := defScope s_is_packet_of) (by decide +kernel))
        (fun _ _ _ _ _ => pg_name (i := 2) sc_is_packet_of.nd rfl (Or.inl rfl)) (fun _ _ _ _ _ => pts_nil) (fun _ _ _ _ _ => pe_call (ok_is_count T) hr rfl T.m_is_count T.F_is_count.kp T.b_is_count .nil pass0 (pa_cons (pv 2) pa_nil))) pa_nil)))))), ?_⟩
    refine ⟨_, rfl, .ref a, .ty "tuple", _, _, true, rfl, .ty _, .base (.tup at_), kit_ty (by decide +kernel), true, rfl, iteT ?_⟩
    refine ⟨_, rfl, a, _, rfl, .inr sq, _, rfl, _, _, rfl, rfl, true, congrArg V.bl (decide_eq_true (by rw [List.length_map])), iteT ?_⟩
    refine ⟨_, rfl, a, rfl, ⟨_, sq⟩, fun D hD => lc_pure (steady_tup (K := K) (a := a) (xs := p.map fun (v : Nat) => V.int (v : Int))) (fun H2 s2 => SqT.of (s2 _ _ at_)) (fun _ => true) (fun _ y _ => y = .bl true) (fun {_ _ _ _} _ q => q) hD (by rw [List.length_map, sizeLine_eq]; omega) ?_ ?_⟩
    · intro i y H2 hy s2 Y Nn yes no
      rw [List.getElem?_map] at hy
      obtain ⟨v, hv, rfl⟩ := Option.map_eq_some_iff.mp hy
      refine ⟨rfl, ?_⟩
      simp only [tYes, if_true]
      exact ⟨_, rfl, _, rfl, yes rfl _ _ (same_refl _) (congrArg V.bl (decide_eq_true (Int.natCast_nonneg v)))⟩
    · intro H2 ys s2 at2 q
      obtain ⟨e, al⟩ := all_true q
      rw [e] at at2
      refine ⟨D, _, rfl, SqL.of at2, ?_⟩
      rw [al]
      exact k _ s2
/-- need_packet of a packet of so many fields -/
def sp_need_packet : Sp := fun vs H Q _ => ∃ a b fs p, vs = [.ref a, .ref b] ∧ Rd H a (.tup fs) ∧ NV H (pkD p) (.ref b) ∧ p.length = fs.length ∧ p.length ≤ 1000 ∧ ∀ H', Same H H' → Q .non H'
theorem ok_need_packet (T : TX K mg) : FnOk P w K mg base CX0 4 T.a_need_packet T.fd_need_packet ["fields", "packet"] sp_need_packet := by
  refine T.F_need_packet.ok sc_need_packet (fun vs H Q E h => ?_) (fun cdv A outer s H vs Q E hr h => ?_)
  · obtain ⟨a, b, fs, p, rfl, _⟩ := h
    rfl
  · obtain ⟨a, b, fs, p, rfl, ha, n, len, small, k⟩ := h
    refine ⟨_, pss_one (ps_if (pt_not (pt_val (pe_call (ok_is_packet_of T) hr rfl T.m_is_packet_of T.F_is_packet_of.kp T.b_is_packet_of .nil pass0 (pa_cons (pe_callB call_len_seq (by rfl) T.z_len (by decide +kernel) (pa_cons (pv 0) pa_nil)) (pa_cons (pv 1) pa_nil)))))
      (pss_one ps_never) pss_nil), ?_⟩
    refine ⟨_, rfl, a, fs, rfl, .inr (.inl ha), _, rfl, b, p, by rw [len]; rfl, n, small, fun H2 s2 => ⟨true, rfl, iteF ?_⟩⟩
    exact k _ s2
end
end Mw
/-! The set of some texts that are apart. -/
namespace Mw
open PySem PySem.Spec PyProof.Rows L2
section
variable {P : Program} {w : World} {A : Around} {E : Value → Shared → Prop} {s : Shared}
/-- which texts the set holds after i of them -/
def Held (xs : List Str) (i : Nat) : Str → Bool := fun k => (xs.take i).any (· == k)
theorem held_next {xs : List Str} {i : Nat} {x : Str} (h : xs[i]? = some x) (k : Str) : (Held xs i k || decide (k = x)) = Held xs (i + 1) k := by
  unfold Held
  rw [List.take_add_one, h, List.any_append]
  by_cases e : k = x
  · subst e; simp
  · have ne : (x == k) = false := beq_eq_false_iff_ne.mpr fun q => e q.symm
    simp [e, ne]
theorem held_not {xs : List Str} {i : Nat} {x : Str} (nd : xs.Nodup) (h : xs[i]? = some x) : Held xs i x = false := by
  unfold Held
  rw [List.any_eq_false]
  intro y hy z
  obtain rfl : y = x := eq_of_beq z
  obtain ⟨j, hj, e⟩ := List.mem_take_iff_getElem.mp hy
  obtain ⟨hi, e2⟩ := List.getElem?_eq_some_iff.mp h
  exact List.pairwise_iff_getElem.mp nd j i (by omega) hi (by omega) (e.trans e2.symm)
theorem set_same {h h' : Heap} {a : Addr} {S : Str → Bool} {n : Nat} (hS : h.SetOf (PySem.strKind P w) a S n) (k : ∀ o, h.get? a = some o → h'.get? a = some o) : h'.SetOf (PySem.strKind P w) a S n := by
  obtain ⟨o, es, ep, t, ho, r⟩ := hS
  exact ⟨o, es, ep, t, k o ho, r⟩
theorem take_texts {I : Addr} {fp wr : List Addr} {G : Array GenState → Array GenState → Prop} {Pv : Nat → Value → Prop} {St : Nat → Shared → Prop} {R : Result → Shared → Prop} {S : Addr} {xs : List Str}
    (W : WalksS P w A.in1 I fp wr G xs.length Pv St) (apart : S ∉ fp) (nd : xs.Nodup) (few : xs.length + 1 < scanBound) (val : ∀ i v, Pv i v → ∃ x t, xs[i]? = some x ∧ v = .str x t) (n : Nat) :
    ∀ (i : Nat) (s : Shared), xs.length - i = n → i ≤ xs.length → St i s → s.heap.SetOf (PySem.strKind P w) S (Held xs i) i →
      (∀ s', Moved (S :: wr) G s s' → s'.heap.SetOf (PySem.strKind P w) S (Held xs xs.length) xs.length → R (.ok (.ret .none)) s') →
      codeAny (model P w) A (.builtin "set.update.loop" ⟨[.ref S, .ref I], []⟩) R s := by
  have notW : S ∉ wr := fun h => apart (W.sub _ h)
  have inl : ∀ b ∈ wr, b ∈ S :: wr := fun b hb => List.mem_cons_of_mem _ hb
  induction n with
  | zero =>
    rintro i s e le st hS fin
    obtain rfl : i = xs.length := by omega
    refine codeAny_builtin F.entry_set_update_loop ?_
    rw [Around.under_plainId F.plain_set_update_loop]
    show wpAny _ A.in1 (pyNext (.ref I) >>= _) _ _ s
    refine wpAny_bind (W.done s _ _ st fun s' m => ?_)
    exact wpAny_pure (fin s' (m.mono inl) (set_same hS fun o e => m.heap S o notW e))
  | succ n ih =>
    rintro i s e le st hS fin
    have lt : i < xs.length := by omega
    refine codeAny_builtin F.entry_set_update_loop ?_
    rw [Around.under_plainId F.plain_set_update_loop]
    show wpAny _ A.in1 (pyNext (.ref I) >>= _) _ _ s
    refine wpAny_bind (W.item i s _ _ lt st fun v s' pv st' m => ?_)
    obtain ⟨x, t, hx, rfl⟩ := val i v pv
    have hS' := set_same (h' := s'.heap) hS fun o e => m.heap S o notW e
    show wpAny _ A.in1 (holding [Value.str x t] (setAdd S (.str x t)) >>= _) _ _ s'
    refine wpAny_bind (wpAny_holding ?_)
    unfold setAdd
    refine wpAny_holding (wpAny_bind ((PySem.strKind P w).pyHash (k := x) (strKind_is _ _ _ _) ?_))
    refine wpAny_setAddHashed_of (knd := PySem.strKind P w) (s := { s' with toks := s'.toks + 1 }) (strKind_is _ _ _ _) rfl hS' (by omega) fun h' sb hS2 => ?_
    have hS3 : h'.SetOf (PySem.strKind P w) S (Held xs (i + 1)) (i + 1) := SetOf_congr hS2 (held_next hx) (by rw [held_not nd hx]; rfl)
    have still : ∀ b o, b ≠ S → s'.heap.get? b = some o → h'.get? b = some o := fun b o ne e => (sb.2 b ne).trans e
    refine wpAny_pure ⟨plainId_quiet F.plain_set_update_loop _, ih (i + 1) _ (by omega) lt (W.frame _ s' _ _ st' (Nat.le_succ _) fun b hb o e => still b o (fun z => apart (z ▸ hb)) e) hS3 fun s2 m2 h2 => ?_⟩
    exact fin s2 (Moved.trans W.gtrans ((m.mono inl).then_heap (Nat.le_succ _) fun b o hb e => still b o (fun z => hb (z ▸ List.mem_cons_self)) e) m2) h2
set_option maxHeartbeats 3200000 in
theorem call_set_tx {l : Addr} {items : Array Value} {xs : List Str} {Q : Value → Shared → Prop} (hh : A.handled = none) (hl : s.heap.IsList l items ∨ s.heap.IsTuple l items) (hi : StrsAre items.toList xs) (nd : xs.Nodup) (few : xs.length + 1 < scanBound)
    (h : ∀ (h' : Heap) (tk : Nat), h'.SetOf (PySem.strKind P w) s.heap.objs.size (Held xs xs.length) xs.length → (∀ b o, s.heap.get? b = some o → h'.get? b = some o) → Q (.ref s.heap.objs.size) { s with heap := h', toks := tk }) :
    wpAny (model P w) A (call (.type "set") [.ref l]) Q E s := by
  have n : items.size = xs.length := by rw [← StrsAre.len_eq hi, Array.length_toList]
  have val : ∀ (i : Nat) (v : Value), items[i]? = some v → ∃ x t, xs[i]? = some x ∧ v = .str x t := fun i v hv => by
    obtain ⟨t, e⟩ := SS.strs_at hi i v (by rw [Array.getElem?_toList]; exact hv)
    have lt : i < xs.length := n ▸ (Array.getElem?_eq_some_iff.mp hv).1
    refine ⟨xs[i], t, List.getElem?_eq_getElem lt, ?_⟩
    rw [e, List.getD_eq_getElem?_getD, List.getElem?_eq_getElem lt, Option.getD_some]
  have size1 : (s.heap.push (set0 w)).objs.size = s.heap.objs.size + 1 := Heap.size_push ..
  have hS : (s.heap.push (set0 w)).get? s.heap.objs.size = some (set0 w) := Heap.get?_push_size _ rfl
  have h0 : ∀ it : Obj, ((s.heap.push (set0 w)).push it).SetOf (PySem.strKind P w) s.heap.objs.size (Held xs 0) 0 := fun it =>
    SetOf_congr ((setObjOf_fresh (knd := PySem.strKind P w) _).setOf (Heap.get?_push_of_some it hS) (by unfold scanBound; omega)) (fun _ => rfl) rfl
  have fin : ∀ {it : Obj} {s' : Shared}, Moved [s.heap.objs.size, (s.heap.push (set0 w)).objs.size] (fun g g' => g' = g) { s with heap := (s.heap.push (set0 w)).push it } s' → s'.heap.SetOf (PySem.strKind P w) s.heap.objs.size (Held xs xs.length) xs.length →
      wants (fun r s₂ => r = .none ∧ Q (.ref s.heap.objs.size) s₂) E (.ok (.ret .none)) s' := fun {it s'} m hS' => by
    obtain ⟨h', g', d', tk', os'⟩ := s'
    obtain rfl : g' = s.gens := m.gens
    obtain rfl : d' = s.drawn := m.drawn
    obtain rfl : os' = s.os := m.os
    refine ⟨rfl, h _ _ hS' fun b o e => ?_⟩
    have lt := Heap.lt_size e
    refine m.heap b o ?_ (Heap.get?_push_of_some _ (Heap.get?_push_of_some _ e))
    simp only [List.mem_cons, List.not_mem_nil, or_false, not_or]
    exact ⟨Nat.ne_of_lt lt, Nat.ne_of_lt (by rw [size1]; exact Nat.lt_succ_of_lt lt)⟩
  refine set_made ?_
  rcases hl with ⟨ol, hol, hcl, nl, hdl⟩ | ⟨ol, hol, hcl, nl, hdl⟩
  all_goals
    obtain ⟨ocls, odict, odata, oslots⟩ := ol
    simp only at hcl hdl
    subst hcl hdl
    have hol' := Heap.get?_push_of_some (set0 w) hol
    have lS : l < s.heap.objs.size := Heap.lt_size hol
    have out : s.heap.objs.size ∉ [(s.heap.push (set0 w)).objs.size, l] := by
      simp only [List.mem_cons, List.not_mem_nil, or_false, not_or]
      exact ⟨by rw [size1]; omega, Nat.ne_of_gt lS⟩
  · have notSet := F.sub_list_set
    have notFrozen := F.sub_list_frozenset
    have ne : (Value.type "list" == Value.type "dict") = false := by decide
    have hl1 : (s.heap.push (set0 w)).IsList l items := ⟨_, hol', rfl, nl, rfl⟩
    unfold Builtin.«set.__init__» noKeywords Builtin.Frozenset.updateFrom
    generalize hPI : pyIter = PI
    wp_walk
    subst hPI
    refine wpAny_pyIter_list hl1 ?_
    refine wpAny_bind (wpAny_runValue ?_)
    have walk := (Walks.list (prog := P) (w := w) (A := A.in1.in1.in1) (by simp [hh]) (s.heap.push (set0 w)).objs.size l (Nat.ne_of_lt (by rw [size1]; exact Nat.lt_succ_of_lt lS)) items).toS
    rw [n] at walk
    refine take_texts walk out nd few val xs.length 0 _ rfl (Nat.zero_le _) ⟨⟨_, Heap.get?_push_size _ rfl, rfl, rfl⟩, hl1.push _⟩ (h0 _) fun s' m hS' => ?_
    refine wpAny_pure (wpAny_pure ?_)
    exact fin m hS'
  · have notSet := PySem.F.sub_tuple_set
    have notFrozen := PySem.F.sub_tuple_frozenset
    have ne : (Value.type "tuple" == Value.type "dict") = false := by decide
    have hl1 : (s.heap.push (set0 w)).IsTuple l items := ⟨_, hol', rfl, nl, rfl⟩
    unfold Builtin.«set.__init__» noKeywords Builtin.Frozenset.updateFrom
    generalize hPI : pyIter = PI
    wp_walk
    subst hPI
    refine wpAny_pyIter_tuple hl1 ?_
    refine wpAny_bind (wpAny_runValue ?_)
    have walk := (Walks.tuple (prog := P) (w := w) (A := A.in1.in1.in1) (by simp [hh]) (s.heap.push (set0 w)).objs.size l (Nat.ne_of_lt (by rw [size1]; exact Nat.lt_succ_of_lt lS)) items).toS
    rw [n] at walk
    refine take_texts walk out nd few val xs.length 0 _ rfl (Nat.zero_le _) ⟨⟨_, Heap.get?_push_size _ rfl, rfl, rfl⟩, hl1.push _⟩ (h0 _) fun s' m hS' => ?_
    refine wpAny_pure (wpAny_pure ?_)
    exact fin m hS'
end
end Mw
/-! len(set(texts)), need_fields. -/
namespace Mw
open PySem PySem.Spec PyProof.Rows L2
section
variable {X : Cx}
def tLenSetX (K : PySem.W.Frag) (ta : TE) : TE := fun σ H Q => ta σ H fun x H1 => ∃ l, ∃ xs : List Str, x = .ref l ∧ (SqL K H1 l (xs.map V.str) ∨ SqT K H1 l (xs.map V.str)) ∧ xs.Nodup ∧ xs.length ≤ 60 ∧ Q (.int xs.length) H1
theorem pe_lenSetX {a : Expr} {ta : TE} {p p2 q pos : Pos} (hc : X.calm = true) (hg : Gl X "len") (hm : X.mg "len" = none) (hg2 : Gl X "set") (hm2 : X.mg "set" = none) (ha : PE X a ta)
    (na : starEach [a] X.env = (false, eval a X.env) :: starEach [] X.env := by rfl) : PE X (.Call (.Name "len" p) [.Call (.Name "set" p2) [a] [] q] [] pos) (tLenSetX X.K ta) := by
  refine ⟨fun pins s σ H Q I h => ?_⟩
  refine Call_ (ld_blt I hg hm boot_len (callWith_builtin1 (args_cons ?_ rfl) rfl rfl))
  refine Call_ (ld_blt I hg2 hm2 boot_set (callWith_type1 (args_cons (thn (ha.run pins s σ H _ I h) fun v s1 got => args_nil ?_) na) na rfl))
  obtain ⟨_, H1, I1, r1, l, xs, rfl, hq, nd, few, q1⟩ := got
  cases r1
  have fz : xs.length + 1 < scanBound := by unfold scanBound; omega
  have line : ∃ its : List Value, Vals (xs.map V.str) its ∧ (s1.heap.IsList l its.toArray ∨ s1.heap.IsTuple l its.toArray) := by
    rcases hq with hq | hq
    · obtain ⟨its, r, pl, _⟩ := I1.list hq
      exact ⟨its, r, .inl pl.isList⟩
    · obtain ⟨its, r, pl, _⟩ := I1.tuple hq
      exact ⟨its, r, .inr pl⟩
  obtain ⟨its, r, hl⟩ := line
  refine call_set_tx (xs := xs) (I1.ok.hd hc) hl (by simpa using strsAre_of r) nd fz fun h' tk hS keep => args_nil ?_
  obtain ⟨o, es, ep, t, ho, hex, hd, _, _, _, hf, hn⟩ := hS
  have I2 : Inv X pins σ H1 { s1 with heap := h', toks := tk } := I1.kept fun b o e => keep b o e
  exact call_len_set ho hex hd hf (by rw [hn]; omega) ⟨.int xs.length, H1, I2.tok _, ⟨_, by rw [hn]⟩, q1⟩
end
section
variable {P : Program} {w : World} {K : PySem.W.Frag} {mg : Str → Option Value} {base : Heap}
/-- are_different of texts that are apart -/
def sp_are_different : Sp := fun vs H Q _ => ∃ a, ∃ xs : List Str, vs = [.ref a] ∧ LT H a (xs.map V.str) ∧ xs.Nodup ∧ xs.length ≤ 60 ∧ Q (.bl true) H
theorem sq_of {H : Hp} {a : Addr} {vs : List V} (h : LT H a vs) : SqL K H a vs ∨ SqT K H a vs := h.imp SqL.of .inl
theorem ok_are_different (T : TX K mg) : FnOk P w K mg base CX0 1 T.a_are_different T.fd_are_different ["things"] sp_are_different := by
  refine T.F_are_different.ok sc_are_different (fun vs H Q E h => ?_) (fun cdv A outer s H vs Q E hr h => ?_)
  · obtain ⟨a, xs, rfl, _⟩ := h
    rfl
  · obtain ⟨a, xs, rfl, hl, nd, few, k⟩ := h
    refine ⟨_, pss_one (ps_ret (pe_cmp (pc_eqI (pe_lenSetX rfl (by rfl) T.z_len (by rfl) T.z_set (pv 0)) (pe_callB call_len_seq (by rfl) T.z_len (by decide +kernel) (pa_cons (pv 0) pa_nil))) rfl)), ?_⟩
    refine ⟨_, rfl, a, xs, rfl, sq_of hl, nd, few, _, rfl, a, _, rfl, sq_of hl, _, _, rfl, rfl, ?_⟩
    show Q (.bl (decide ((xs.length : Int) = ((xs.map V.str).length : Nat)))) H
    rw [List.length_map, decide_eq_true rfl]
    exact k
/-- need_fields of names that are apart -/
def sp_need_fields : Sp := fun vs H Q _ => ∃ a, ∃ xs : List Str, vs = [.ref a] ∧ LT H a (xs.map V.str) ∧ xs.Nodup ∧ 1 ≤ xs.length ∧ xs.length ≤ 3 ∧ (∀ x ∈ xs, x ∈ NAMES) ∧ ∀ H', Same H H' → Q .non H'
theorem ok_need_fields (T : TX K mg) : FnOk P w K mg base CX0 2 T.a_need_fields T.fd_need_fields ["fields"] sp_need_fields := by
  refine T.F_need_fields.ok sc_need_fields (fun vs H Q E h => ?_) (fun cdv A outer s H vs Q E hr h => ?_)
  · obtain ⟨a, xs, rfl, _⟩ := h
    rfl
  · obtain ⟨a, xs, rfl, hl, nd, l1, l3, nm, k⟩ := h
    have e1 : decide ((1 : Int) ≤ ((xs.map V.str).length : Nat)) = true := decide_eq_true (by rw [List.length_map]; omega)
    have e2 : decide ((((xs.map V.str).length : Nat) : Int) ≤ 3) = true := decide_eq_true (by rw [List.length_map]; omega)
    rcases hl with hl | hl
    · refine ⟨_, pss_cons (ps_if (PW.pt (pw_or (pt_not (pt_val (pe_call (ok_is_list T) hr rfl T.m_is_list T.F_is_list.kp T.b_is_list .nil pass0 (pa_cons (pv 0) pa_nil))))
        (pw_or (pt_not (pt_chain op_le op_le pe_int (pe_callB call_len_seq (by rfl) T.z_len (by decide +kernel) (pa_cons (pv 0) pa_nil)) (pe_glob (by rfl) T.g_MOST_FIELDS T.r_MOST_FIELDS)))
        (pw_or1 (pt_not (pt_val (pe_callB (cr_all rfl) (by rfl) T.z_all (by decide +kernel) (pa_cons (pe_lc (own := [("name", 1)]) (g := gName 1) (tt := tYes) rfl sc_need_fields.nd (pi_list (pv 0)) (blkOk_by (N := ["fields", "name"]) (sc := defScope s_need_fields) (by decide +kernel))
          (fun _ _ _ _ _ => pg_name (i := 1) sc_need_fields.nd rfl (Or.inl rfl)) (fun _ _ _ _ _ => pts_nil) (fun _ _ _ _ _ => pe_call (ok_is_field T) hr rfl T.m_is_field T.F_is_field.kp T.b_is_field .nil pass0 (pa_cons (pv 1) pa_nil))) pa_nil)))))))) (pss_one ps_never) pss_nil)
        (pss_one (ps_if (pt_not (pt_val (pe_call (ok_are_different T) hr rfl T.m_are_different T.F_are_different.kp T.b_are_different .nil pass0 (pa_cons (pv 0) pa_nil)))) (pss_one ps_never) pss_nil)), ?_⟩
      refine ⟨_, rfl, a, _, rfl, (.inl hl), fun H1 s1 => ⟨true, rfl, iteF ?_⟩⟩
      have sq : SqL K H1 a (xs.map V.str) := SqL.of (s1 _ _ hl)
      refine ⟨_, rfl, a, _, rfl, .inl sq, 1, _, rfl, rfl, true, congrArg V.bl e1, iteT ⟨_, 3, rfl, rfl, true, congrArg V.bl e2, iteF ?_⟩⟩
      refine ⟨_, rfl, a, rfl, ⟨_, sq⟩, fun D hD => lc_pure (steady_list (K := K) (a := a) (xs := xs.map V.str)) (fun H2 s2 => SqL.of (s2 _ _ (s1 _ _ hl))) (fun _ => true) (fun _ y _ => y = .bl true) (fun {_ _ _ _} _ q => q) hD (by rw [List.length_map, sizeLine_eq]; omega) ?_ ?_⟩
      · intro i y H2 hy s2 Y Nn yes no
        rw [List.getElem?_map] at hy
        obtain ⟨v, hv, rfl⟩ := Option.map_eq_some_iff.mp hy
        refine ⟨rfl, ?_⟩
        simp only [tYes, if_true]
        exact ⟨_, rfl, v, rfl, nm v (List.mem_of_getElem? hv), fun H3 s3 => yes rfl _ _ s3 rfl⟩
      · intro H2 ys s2 at2 q
        obtain ⟨e, al⟩ := all_true q
        rw [e] at at2
        refine ⟨D, _, rfl, SqL.of at2, true, congrArg V.bl al, iteF ?_⟩
        have s12 := same_trans s1 s2
        exact ⟨_, rfl, a, xs, rfl, (.inl (s12 _ _ hl)), nd, by omega, true, rfl, iteF (k _ s12)⟩
    · refine ⟨_, pss_cons (ps_if (PW.pt (pw_or (pt_not (pt_val (pe_call (ok_is_list T) hr rfl T.m_is_list T.F_is_list.kp T.b_is_list .nil pass0 (pa_cons (pv 0) pa_nil))))
        (pw_or (pt_not (pt_chain op_le op_le pe_int (pe_callB call_len_seq (by rfl) T.z_len (by decide +kernel) (pa_cons (pv 0) pa_nil)) (pe_glob (by rfl) T.g_MOST_FIELDS T.r_MOST_FIELDS)))
        (pw_or1 (pt_not (pt_val (pe_callB (cr_all rfl) (by rfl) T.z_all (by decide +kernel) (pa_cons (pe_lc (own := [("name", 1)]) (g := gName 1) (tt := tYes) rfl sc_need_fields.nd (pi_tup (pv 0)) (blkOk_by (N := ["fields", "name"]) (sc := defScope s_need_fields) (by decide +kernel))
          (fun _ _ _ _ _ => pg_name (i := 1) sc_need_fields.nd rfl (Or.inl rfl)) (fun _ _ _ _ _ => pts_nil) (fun _ _ _ _ _ => pe_call (ok_is_field T) hr rfl T.m_is_field T.F_is_field.kp T.b_is_field .nil pass0 (pa_cons (pv 1) pa_nil))) pa_nil)))))))) (pss_one ps_never) pss_nil)
        (pss_one (ps_if (pt_not (pt_val (pe_call (ok_are_different T) hr rfl T.m_are_different T.F_are_different.kp T.b_are_different .nil pass0 (pa_cons (pv 0) pa_nil)))) (pss_one ps_never) pss_nil)), ?_⟩
      refine ⟨_, rfl, a, _, rfl, (.inr hl), fun H1 s1 => ⟨true, rfl, iteF ?_⟩⟩
      have sq : SqT K H1 a (xs.map V.str) := .inl (rd_same s1 hl)
      refine ⟨_, rfl, a, _, rfl, .inr sq, 1, _, rfl, rfl, true, congrArg V.bl e1, iteT ⟨_, 3, rfl, rfl, true, congrArg V.bl e2, iteF ?_⟩⟩
      refine ⟨_, rfl, a, rfl, ⟨_, sq⟩, fun D hD => lc_pure (steady_tup (K := K) (a := a) (xs := xs.map V.str)) (fun H2 s2 => .inl (rd_same s2 (rd_same s1 hl))) (fun _ => true) (fun _ y _ => y = .bl true) (fun {_ _ _ _} _ q => q) hD (by rw [List.length_map, sizeLine_eq]; omega) ?_ ?_⟩
      · intro i y H2 hy s2 Y Nn yes no
        rw [List.getElem?_map] at hy
        obtain ⟨v, hv, rfl⟩ := Option.map_eq_some_iff.mp hy
        refine ⟨rfl, ?_⟩
        simp only [tYes, if_true]
        exact ⟨_, rfl, v, rfl, nm v (List.mem_of_getElem? hv), fun H3 s3 => yes rfl _ _ s3 rfl⟩
      · intro H2 ys s2 at2 q
        obtain ⟨e, al⟩ := all_true q
        rw [e] at at2
        refine ⟨D, _, rfl, SqL.of at2, true, congrArg V.bl al, iteF ?_⟩
        have s12 := same_trans s1 s2
        exact ⟨_, rfl, a, xs, rfl, (.inr (rd_same s12 hl)), nd, by omega, true, rfl, iteF (k _ s12)⟩
end
end Mw
/-! The trees as data. -/
namespace Mw
open PySem L2
mutual
/-- the tree as a datum -/
def srcD : Src → D
  | .pass => .tup [.text "pass"]
  | .drop => .tup [.text "drop"]
  | .mark => .tup [.text "mark"]
  | .is f n => .tup [.text "is", .text f, .num (n : Int)]
  | .set f n => .tup [.text "set", .text f, .num (n : Int)]
  | .take f g => .tup [.text "take", .text f, .text g]
  | .not t => .tup [.text "not", srcD t]
  | .loop t => .tup [.text "loop", srcD t]
  | .row ts => .tup (.text "row" :: srcDs ts)
  | .alt ts => .tup (.text "choice" :: srcDs ts)
def srcDs : List Src → List D
  | [] => []
  | t :: ts => srcD t :: srcDs ts
end
theorem srcDs_map : ∀ ts : List Src, srcDs ts = ts.map srcD
  | [] => rfl
  | t :: ts => by rw [srcDs, srcDs_map ts, List.map_cons]
def word : Src → Str
  | .pass => "pass" | .drop => "drop" | .mark => "mark" | .is _ _ => "is" | .set _ _ => "set" | .take _ _ => "take" | .not _ => "not" | .loop _ => "loop" | .row _ => "row" | .alt _ => "choice"
/-- the trees that stand in it -/
def inner : Src → List Src
  | .not t => [t] | .loop t => [t] | .row ts => ts | .alt ts => ts | _ => []
def rest : Src → List D
  | .is f n => [.text f, .num (n : Int)] | .set f n => [.text f, .num (n : Int)] | .take f g => [.text f, .text g] | t => srcDs (inner t)
theorem srcD_eq (t : Src) : srcD t = .tup (.text (word t) :: rest t) := by cases t <;> rfl
mutual
def dp : Src → Nat
  | .not t => dp t + 1
  | .loop t => dp t + 1
  | .row ts => dps ts + 1
  | .alt ts => dps ts + 1
  | _ => 1
def dps : List Src → Nat
  | [] => 0
  | t :: ts => max (dp t) (dps ts)
end
mutual
/-- all the trees in it, itself ahead -/
def subs : Src → List Src
  | .not t => .not t :: subs t
  | .loop t => .loop t :: subs t
  | .row ts => .row ts :: subss ts
  | .alt ts => .alt ts :: subss ts
  | t => [t]
def subss : List Src → List Src
  | [] => []
  | t :: ts => subs t ++ subss ts
end
mutual
/-- of the right form -/
def Form : Src → Prop
  | .take f g => f ≠ g
  | .not t => isTest t = true ∧ Form t
  | .loop t => Form t
  | .row ts => 2 ≤ ts.length ∧ Forms ts
  | .alt ts => 2 ≤ ts.length ∧ Forms ts
  | _ => True
def Forms : List Src → Prop
  | [] => True
  | t :: ts => Form t ∧ Forms ts
end
theorem dps_mem : ∀ {ts : List Src} {t : Src}, t ∈ ts → dp t ≤ dps ts
  | s :: ts, t, h => by
    rw [dps]
    rcases List.mem_cons.mp h with rfl | h
    · exact Nat.le_max_left ..
    · exact Nat.le_trans (dps_mem h) (Nat.le_max_right ..)
theorem forms_mem : ∀ {ts : List Src} {t : Src}, Forms ts → t ∈ ts → Form t
  | s :: ts, t, f, h => by
    rcases List.mem_cons.mp h with rfl | h
    · exact f.1
    · exact forms_mem f.2 h
theorem fits_mem {fs : List Str} {N : List Nat} : ∀ {ts : List Src} {t : Src}, FitsL fs N ts → t ∈ ts → Fits fs N t
  | s :: ts, t, f, h => by
    rcases List.mem_cons.mp h with rfl | h
    · exact f.1
    · exact fits_mem f.2 h
theorem tests_mem : ∀ {ts : List Src} {t : Src}, areTests ts = true → t ∈ ts → isTest t = true
  | s :: ts, t, f, h => by
    rw [areTests, Bool.and_eq_true] at f
    rcases List.mem_cons.mp h with rfl | h
    · exact f.1
    · exact tests_mem f.2 h
theorem subss_flat : ∀ ts : List Src, subss ts = ts.flatMap subs
  | [] => rfl
  | t :: ts => by rw [subss, subss_flat ts, List.flatMap_cons]
theorem subs_inner (t : Src) : subs t = t :: (inner t).flatMap subs := by
  cases t <;> simp [subs, inner, subss_flat]
theorem inner_dp {t s : Src} (h : s ∈ inner t) : dp s + 1 ≤ dp t := by
  cases t with
  | not u => simp [inner] at h; subst h; simp [dp]
  | loop u => simp [inner] at h; subst h; simp [dp]
  | row ts => simp [inner] at h; simp only [dp]; have := dps_mem h; omega
  | alt ts => simp [inner] at h; simp only [dp]; have := dps_mem h; omega
  | _ => simp [inner] at h
theorem inner_form {t s : Src} (f : Form t) (h : s ∈ inner t) : Form s := by
  cases t with
  | not u => simp [inner] at h; subst h; exact f.2
  | loop u => simp [inner] at h; subst h; exact f
  | row ts => simp [inner] at h; exact forms_mem f.2 h
  | alt ts => simp [inner] at h; exact forms_mem f.2 h
  | _ => simp [inner] at h
theorem inner_fits {fs : List Str} {N : List Nat} {t s : Src} (f : Fits fs N t) (h : s ∈ inner t) : Fits fs N s := by
  cases t with
  | not u => simp [inner] at h; subst h; exact f
  | loop u => simp [inner] at h; subst h; exact f
  | row ts => simp [inner] at h; exact fits_mem f h
  | alt ts => simp [inner] at h; exact fits_mem f h
  | _ => simp [inner] at h
theorem dp_pos (t : Src) : 1 ≤ dp t := by cases t <;> simp [dp]
section
variable {H : Hp} {a : Addr}
theorem src_tup {t : Src} (h : NV H (srcD t) (.ref a)) : ∃ xs, H a = some (.tup (.str (word t) :: xs)) ∧ NVs H (rest t) xs := by
  rw [srcD_eq] at h
  obtain ⟨_, ys, e, at_, n⟩ := nv_tup h
  cases e
  cases n with
  | cons n1 n2 => exact ⟨_, nv_str n1 ▸ at_, n2⟩
theorem nvs_srcs : ∀ {ts : List Src} {xs : List V} {i : Nat} {v : V}, NVs H (srcDs ts) xs → xs[i]? = some v → ∃ t b, ts[i]? = some t ∧ v = .ref b ∧ NV H (srcD t) (.ref b)
  | ts, xs, i, v, n, e => by
    obtain ⟨k, hk, nk⟩ := n.getV e
    rw [srcDs_map, List.getElem?_map] at hk
    obtain ⟨t, ht, rfl⟩ := Option.map_eq_some_iff.mp hk
    obtain ⟨b, ys, rfl, _⟩ := nv_tup (srcD_eq t ▸ nk)
    exact ⟨t, b, ht, rfl, nk⟩
end
end Mw
/-! The defs over trees. -/
namespace Mw
open PySem L2
section
variable {P : Program} {w : World} {K : PySem.W.Frag} {mg : Str → Option Value} {base : Heap}
theorem cut1 {v : V} {xs : List V} : cutV (v :: xs) (some 1) none = xs := by
  unfold cutV
  have e1 : HT.sIx (v :: xs).length 0 (some 1) = 1 := by simp [HT.sIx]
  have e2 : HT.sIx (v :: xs).length (v :: xs).length none = (v :: xs).length := by simp [HT.sIx]
  rw [e1, e2, List.drop_one, List.tail_cons]
  exact List.take_of_length_le (by rw [List.length_cons]; omega)
theorem at0 {v : V} {xs : List V} : atI (v :: xs) 0 = some v := atI_nat (j := 0) rfl
theorem part1 {v : V} {xs : List V} : ¬ (HT.sIx (v :: xs).length 0 (some 1) = 0 ∧ HT.sIx (v :: xs).length (v :: xs).length none = (v :: xs).length) := by
  rintro ⟨e, _⟩
  simp [HT.sIx] at e
/-- inner_trees of a tree -/
def sp_inner_trees : Sp := fun vs H Q _ => ∃ a t, vs = [.ref a] ∧ NV H (srcD t) (.ref a) ∧ ∀ b xs H', Same H H' → H' b = some (.tup xs) → NVs H' (srcDs (inner t)) xs → Q (.ref b) H'
theorem ok_inner_trees (T : TX K mg) : FnOk P w K mg base CX0 1 T.a_inner_trees T.fd_inner_trees ["tree"] sp_inner_trees := by
  refine T.F_inner_trees.ok sc_inner_trees (fun vs H Q E h => ?_) (fun cdv A outer s H vs Q E hr h => ?_)
  · obtain ⟨a, t, rfl, _⟩ := h
    rfl
  · obtain ⟨a, t, rfl, n, k⟩ := h
    obtain ⟨xs, at_, nr⟩ := src_tup n
    have sq : SqT K H a (.str (word t) :: xs) := SqT.of at_
    refine ⟨_, pss_one (ps_ret (pe_ifExp (PW.pt (pw_or (pt_cmpR op_in_seq (pe_ix ix_tup (pv 0) pe_int (fun _ _ => rfl)) (pe_glob (v := .ref T.p_JOINING) (by rfl) T.g_JOINING rfl) (by rfl))
      (pw_or (pt_cmpR op_eq (pe_ix ix_tup (pv 0) pe_int (fun _ _ => rfl)) pe_str (nomark _)) (pw_or1 (pt_cmpR op_eq (pe_ix ix_tup (pv 0) pe_int (fun _ _ => rfl)) pe_str (nomark _))))))
      (pe_slice sl_tup (pv 0) (po_some pe_int) po_none) (pe_tup pa_nil))), ?_⟩
    refine ⟨_, rfl, a, _, _, _, rfl, rfl, sq, at0, T.p_JOINING, _, rfl, .inr (T.r_JOINING _), rfl, rfl, _, rfl, ?_⟩
    have cut : NVs H (srcDs (inner t)) xs → ∃ v, (([some (.ref a)] : L2.St)[0]? = some (some v)) ∧ ∃ i, V.int 1 = .int i ∧ rSlT K v (some i) none H Q := fun nr => by
      refine ⟨_, rfl, 1, rfl, a, _, rfl, sq, part1, fun p np => ?_⟩
      rw [cut1]
      exact k p xs _ (same_new np) upd_same (nr.mono (Tp.new np))
    have none : inner t = [] → (0 ≤ sizeLine ∧ ∀ p, H p = none → Q (.ref p) (upd H p (.tup []))) := fun e => by
      refine ⟨Nat.zero_le _, fun p np => k p [] _ (same_new np) upd_same ?_⟩
      rw [e]
      exact .nil
    cases t with
    | row ts => exact iteT (cut nr)
    | alt ts => exact iteT (cut nr)
    | not s => exact iteF ⟨_, rfl, a, _, _, _, rfl, rfl, sq, at0, rfl, _, rfl, iteT (cut nr)⟩
    | loop s => exact iteF ⟨_, rfl, a, _, _, _, rfl, rfl, sq, at0, rfl, _, rfl, iteF ⟨_, rfl, a, _, _, _, rfl, rfl, sq, at0, rfl, _, rfl, iteT (cut nr)⟩⟩
    | _ => exact iteF ⟨_, rfl, a, _, _, _, rfl, rfl, sq, at0, rfl, _, rfl, iteF ⟨_, rfl, a, _, _, _, rfl, rfl, sq, at0, rfl, _, rfl, iteF (none rfl)⟩⟩
end
end Mw
/-! Small helpers: room, a word between two statements, list.extend of a tuple. -/
namespace Mw
open PySem PyProof.Rows L2
theorem hu_of1 {k : Nat} {A : Around} (r : Room k A) : A.units < cLine := by have := r.un; omega
theorem hu_of2 {k : Nat} {A : Around} (r : Room k A) : A.units + 9 < cLine := by have := r.un; omega
theorem hu_of3 {k : Nat} {A : Around} (r : Room k A) : A.units + 12 < cLine := by have := r.un; omega
theorem hu_of4 {k : Nat} {A : Around} (r : Room k A) : A.units + 10 < cLine := by have := r.un; omega
theorem hu_of5 {k : Nat} {A : Around} (r : Room k A) : A.units + 13 < cLine := by have := r.un; omega
section
variable {X : Cx}
/-- what follows a statement is shown once, from Md -/
def tMid (t u : TS) : TS := fun D σ H => ∃ Md : L2.St → Hp → Prop, t { D with nx := Md } σ H ∧ ∀ σ1 H1, Md σ1 H1 → u D σ1 H1
theorem pss_mid {st : Stmt} {more : List Stmt} {t u : TS} (a : PS X st t) (b : PSs X more u) : PSs X (st :: more) (tMid t u) := by
  constructor
  rintro pins s σ H D I ⟨Md, hm, hk⟩
  refine wpAny_execs_cons (thn (a.run pins s σ H { D with nx := Md } I hm) ?_)
  rintro (_ | v | _ | _) s1 q
  all_goals first | exact q | skip
  obtain ⟨σ1, H1, I1, q⟩ := q
  exact b.run pins s1 σ1 H1 D I1 (hk σ1 H1 q)
section
open PySem.SeqAt
open PySem.AutoSeq1
open PySem.MeetsSeq PySem.MeetsSeq2 PySem.MeetsSeq3
theorem extend_tup_any (l b : Addr) (xs ys : Array Value) (n m : Nat) (dd : Option Addr) (sl : Array (Option Value)) (h1 : ¬(!xs.isEmpty && Builtin.List.listTooLong (xs.size + ys.size)) = true) (h2 : xs.size ≤ sizeLine) (h3 : xs.size + ys.size ≤ sizeLine + 1) :
    Meets (Builtin.«list.extend» ⟨[.ref l, .ref b], []⟩) (fun _ R s => s.heap.get? l = some { cls := .type "list", dict := none, data := .seq xs n, slots := #[] } ∧ s.heap.get? b = some { cls := .type "tuple", dict := dd, data := .seq ys m, slots := sl } ∧
      R (.ok (.ret Value.none)) { s with heap := s.heap.update l (Obj.mapSeq fun z => z ++ ys), toks := s.toks }) :=
  .of_wp fun prog w A R s h => by
    obtain ⟨hp, g, d, tk, os⟩ := s
    obtain ⟨hl, hb, h⟩ := h
    have f1 := AutoSeq1.sub_tuple_tuple
    have f2 := AutoSeq1.sub_list_list
    have f3 := AutoSeq1.sub_tuple_list
    have f4 := AutoSeq1.sub_list_tuple
    have fits : (xs ++ ys).size ≤ sizeLine + 1 := by rw [Array.size_append]; exact h3
    wp_walk using (wpAny_updateSeq hl rfl (hz := h2) (_hz' := fits)), wpAny_loadPart' hl, wpAny_loadPart' hb
    exact ⟨_, rfl, h⟩
end
def rExtT (K : PySem.W.Frag) : V → List V → Hp → VK → Prop := fun x vs H Q => ∃ l b xs zs, x = .ref l ∧ vs = [.ref b] ∧ H l = some (.lst xs) ∧ SqT K H b zs ∧ xs.length + zs.length ≤ sizeLine ∧ Q .non (upd H l (.lst (xs ++ zs)))
theorem mt_extT : MtM X "list.extend" (rExtT X.K) := by
  rintro pins s σ H x vs v us Q I rx rv ⟨l, b, xs, zs, rfl, rfl, hH, hB, few, q⟩
  cases rx
  obtain ⟨u, rfl, ru⟩ := rv.one
  cases ru
  obtain ⟨_, its, n, r, hl, e⟩ := I.lstM hH
  obtain ⟨jts, r2, pl, _⟩ := I.tuple hB
  obtain ⟨⟨cls, dd, dt, sl⟩, ho, hc, m, hd⟩ := pl
  simp only at hc hd
  subst hc hd
  have hl2 := r2.length
  have sz : its.toArray.size + jts.toArray.size ≤ sizeLine := by rw [List.size_toArray, List.size_toArray]; omega
  have fine : ¬ (!its.toArray.isEmpty && Builtin.List.listTooLong (its.toArray.size + jts.toArray.size)) = true := by
    rw [notLongL sz, Bool.and_false]
    exact Bool.false_ne_true
  refine call_meets F.slot_list_extend ⟨_, e, rfl⟩ F.entry_list_extend (F.args_list_extend_2 _ _) (extend_tup_any l b its.toArray jts.toArray n m dd sl fine (by rw [List.size_toArray]; omega) (by omega)) ⟨e, ho, ?_⟩
  refine ⟨.non, _, I.lset (its' := its ++ jts) hH e (by simp) (r.append r2) ?_, rfl, q⟩
  rw [List.length_append]
  exact few
end
end Mw
/-! is_tree_of, are_trees, by the depth of the trees. -/
namespace Mw
open PySem L2
section
variable {P : Program} {w : World} {K : PySem.W.Frag} {mg : Str → Option Value} {base : Heap}
def Named (fs : List Str) : Prop := ∀ f ∈ fs, f ∈ NAMES
theorem subss_len : ∀ ts : List Src, ts.length ≤ (subss ts).length
  | [] => Nat.le_refl _
  | t :: ts => by
    have := subss_len ts
    have h : 1 ≤ (subs t).length := by rw [subs_inner, List.length_cons]; omega
    rw [subss, List.length_append, List.length_cons]
    omega
theorem subss_mem : ∀ {ts : List Src} {t : Src}, t ∈ ts → (subs t).length ≤ (subss ts).length
  | s :: ts, t, h => by
    rw [subss, List.length_append]
    rcases List.mem_cons.mp h with rfl | h
    · omega
    · have := subss_mem h; omega
def sp_is_tree_of (d : Nat) : Sp := fun vs H Q _ => ∃ a t fs N, ∃ (L : Int) (b : Bool), vs = [.ref a, .int L, .bl b] ∧ NV H (srcD t) (.ref a) ∧ Form t ∧ Fits fs N t ∧ Named fs ∧ (subs t).length ≤ 1000 ∧ dp t ≤ d ∧ (dp t : Int) ≤ L ∧ (b = true → isTest t = true) ∧ ∀ H', Same H H' → Q (.bl true) H'
def sp_are_trees (d : Nat) : Sp := fun vs H Q _ => ∃ a xs ts fs N, ∃ (L : Int) (b : Bool), vs = [.ref a, .int L, .bl b] ∧ H a = some (.tup xs) ∧ NVs H (srcDs ts) xs ∧ Forms ts ∧ FitsL fs N ts ∧ Named fs ∧ (subss ts).length ≤ 1000 ∧ dps ts ≤ d ∧ (dps ts : Int) ≤ L ∧ (b = true → areTests ts = true) ∧ ∀ H', Same H H' → Q (.bl true) H'
theorem ok_are_trees (T : TX K mg) {d k : Nat} (G : FnOk P w K mg base CX0 k T.a_is_tree_of T.fd_is_tree_of ["thing", "levels", "is_test_alone"] (sp_is_tree_of d)) :
    FnOk P w K mg base CX0 (k + 1) T.a_are_trees T.fd_are_trees ["things", "levels", "is_test_alone"] (sp_are_trees d) := by
  refine T.F_are_trees.ok sc_are_trees (fun vs H Q E h => ?_) (fun cdv A outer s H vs Q E hr h => ?_)
  · obtain ⟨a, xs, ts, fs, N, L, b, rfl, _⟩ := h
    rfl
  · obtain ⟨a, xs, ts, fs, N, L, b, rfl, at_, n, fm, ft, nm, size, deep, lev, test, k⟩ := h
    have sq : SqT K H a xs := SqT.of at_
    have few := subss_len ts
    have len : xs.length = ts.length := by rw [n.length, srcDs_map, List.length_map]
    refine ⟨_, pss_one (ps_ret (pe_callB (cr_all rfl) (by rfl) T.z_all (by decide +kernel) (pa_cons (pe_lc (own := [("thing", 3)]) (g := gName 3) (tt := tYes) rfl sc_are_trees.nd (pi_tup (pv 0)) (blkOk_by (N := ["things", "levels", "is_test_alone", "thing"]) (sc := defScope s_are_trees) (by decide +kernel))
        (fun _ _ _ _ _ => pg_name (i := 3) sc_are_trees.nd rfl (Or.inl rfl)) (fun _ _ _ _ _ => pts_nil) (fun _ _ _ _ _ => pe_call G hr rfl T.m_is_tree_of T.F_is_tree_of.kp T.b_is_tree_of .nil pass0 (pa_cons (pv 3) (pa_cons (pv 1) (pa_cons (pv 2) pa_nil))))) pa_nil))), ?_⟩
    refine ⟨_, rfl, a, rfl, ⟨_, sq⟩, fun D hD => lc_pure (steady_tup (K := K) (a := a) (xs := xs)) (fun H2 s2 => SqT.of (s2 _ _ at_)) (fun _ => true) (fun _ y _ => y = .bl true) (fun {_ _ _ _} _ q => q) hD (by rw [len, sizeLine_eq]; omega) ?_ ?_⟩
    · intro i y H2 hy s2 Y Nn yes no
      obtain ⟨t, c, ht, rfl, nt⟩ := nvs_srcs n hy
      have mem := List.mem_of_getElem? ht
      have d1 := dps_mem mem
      have z1 := subss_mem mem
      refine ⟨rfl, ?_⟩
      simp only [tYes, if_true]
      exact ⟨_, rfl, _, rfl, _, rfl, c, t, fs, N, L, b, rfl, nt.mono (.same s2), forms_mem fm mem, fits_mem ft mem, nm, by omega, by omega, by omega, fun e => tests_mem (test e) mem, fun H3 s3 => yes rfl _ _ s3 rfl⟩
    · intro H2 ys s2 at2 q
      obtain ⟨e, al⟩ := all_true q
      rw [e] at at2
      refine ⟨D, _, rfl, SqL.of at2, ?_⟩
      rw [al]
      exact k _ s2
theorem rest_len2 {t : Src} {H : Hp} {xs : List V} (n : NVs H (rest t) xs) : xs.length = (rest t).length := n.length
theorem ok_is_tree_of (T : TX K mg) {d k : Nat} (hk : 3 ≤ k) (G : FnOk P w K mg base CX0 k T.a_are_trees T.fd_are_trees ["things", "levels", "is_test_alone"] (sp_are_trees d)) :
    FnOk P w K mg base CX0 (k + 1) T.a_is_tree_of T.fd_is_tree_of ["thing", "levels", "is_test_alone"] (sp_is_tree_of (d + 1)) := by
  refine T.F_is_tree_of.ok sc_is_tree_of (fun vs H Q E h => ?_) (fun cdv A outer s H vs Q E hr h => ?_)
  · obtain ⟨a, t, fs, N, L, b, rfl, _⟩ := h
    rfl
  · obtain ⟨a, t, fs, N, L, b, rfl, n, fm, ft, nm, size, deep, lev, test, k⟩ := h
    obtain ⟨xs, at_, nr⟩ := src_tup n
    have sq : SqT K H a (.str (word t) :: xs) := SqT.of at_
    have pos := dp_pos t
    refine ⟨_, (pss_cons (ps_if (PW.pt (pw_or (pt_cmp (pc_eqI (pv 1) pe_int)) (pw_or (pt_not (pt_val (pe_callB call_isi (by rfl) T.z_isinstance (by decide +kernel) (pa_cons (pv 0) (pa_cons (pe_bltn (v := .ty "tuple") (by rfl) T.z_tuple (by decide +kernel) rfl) pa_nil))))) (pw_or (pt_cmp (pc_eqI (pe_callB call_len_seq (by rfl) T.z_len (by decide +kernel) (pa_cons (pv 0) pa_nil)) pe_int)) (pw_or1 (pt_not (pt_val (pe_callB call_isi (by rfl) T.z_isinstance (by decide +kernel) (pa_cons (pe_ix ix_tup (pv 0) pe_int (fun _ _ => rfl)) (pa_cons (pe_bltn (v := .ty "str") (by rfl) T.z_str (by decide +kernel) rfl) pa_nil)))))))))) (pss_one (ps_ret pe_bl)) pss_nil)
      (pss_cons (ps_par (i := 3) (j := 4) (by rfl) sc_is_tree_of.nd rfl rfl (by decide) rfl rfl (pa_cons (pe_ix ix_tup (pv 0) pe_int (fun _ _ => rfl)) (pa_cons (pe_slice sl_tup (pv 0) (po_some pe_int) po_none) pa_nil)) (by rfl))
      (pss_mid (ps_if (PW.pt (pw_and (pt_val (pv 2)) (pw_and1 (pt_cmpR op_in_seq (pv 3) (pe_glob (v := .ref T.p_ONLY_TREES) (by rfl) T.g_ONLY_TREES rfl) (by rfl))))) (pss_one (ps_ret pe_bl)) pss_nil)
      (pss_cons (ps_if (pt_cmpR op_in_seq (pv 3) (pe_glob (v := .ref T.p_BARE) (by rfl) T.g_BARE rfl) (by rfl)) (pss_one (ps_ret (pe_cmpR (op_eqD hr.units) (pv 4) (pe_tup pa_nil) (nomark _)))) pss_nil)
      (pss_cons (ps_if (pt_cmpR op_in_seq (pv 3) (pe_glob (v := .ref T.p_WITH_NUMBER) (by rfl) T.g_WITH_NUMBER rfl) (by rfl)) (pss_one (ps_ret (pe_and (pe_cmp (pc_eqI (pe_callB call_len_seq (by rfl) T.z_len (by decide +kernel) (pa_cons (pv 4) pa_nil)) pe_int) rfl) (pe_and (pe_call (ok_is_field T) (hr.mono (by omega)) rfl T.m_is_field T.F_is_field.kp T.b_is_field .nil pass0 (pa_cons (pe_ix ix_tup (pv 4) pe_int (fun _ _ => rfl)) pa_nil)) (pe_one (pe_call (ok_is_count T) (hr.mono (by omega)) rfl T.m_is_count T.F_is_count.kp T.b_is_count .nil pass0 (pa_cons (pe_ix ix_tup (pv 4) pe_int (fun _ _ => rfl)) pa_nil))))))) pss_nil)
      (pss_cons (ps_if (pt_cmpR op_eq (pv 3) pe_str (nomark _)) (pss_one (ps_ret (pe_and (pe_cmp (pc_eqI (pe_callB call_len_seq (by rfl) T.z_len (by decide +kernel) (pa_cons (pv 4) pa_nil)) pe_int) rfl) (pe_and (pe_call (ok_is_field T) (hr.mono (by omega)) rfl T.m_is_field T.F_is_field.kp T.b_is_field .nil pass0 (pa_cons (pe_ix ix_tup (pv 4) pe_int (fun _ _ => rfl)) pa_nil)) (pe_and (pe_call (ok_is_field T) (hr.mono (by omega)) rfl T.m_is_field T.F_is_field.kp T.b_is_field .nil pass0 (pa_cons (pe_ix ix_tup (pv 4) pe_int (fun _ _ => rfl)) pa_nil)) (pe_one (pe_cmpR op_ne (pe_ix ix_tup (pv 4) pe_int (fun _ _ => rfl)) (pe_ix ix_tup (pv 4) pe_int (fun _ _ => rfl)) (nomark _)))))))) pss_nil)
      (pss_cons (ps_if (pt_cmpR op_in_seq (pv 3) (pe_glob (v := .ref T.p_JOINING) (by rfl) T.g_JOINING rfl) (by rfl)) (pss_one (ps_ret (pe_and (pe_cmp (pc_ge (pe_callB call_len_seq (by rfl) T.z_len (by decide +kernel) (pa_cons (pv 4) pa_nil)) pe_int) rfl) (pe_one (pe_call G (hr.mono (by omega)) rfl T.m_are_trees T.F_are_trees.kp T.b_are_trees .nil pass0 (pa_cons (pv 4) (pa_cons (pe_op op_sub (pv 1) pe_int) (pa_cons (pv 2) pa_nil)))))))) pss_nil)
      (pss_cons (ps_if (PW.pt (pw_or (pt_cmpR op_eq (pv 3) pe_str (nomark _)) (pw_or1 (pt_cmpR op_eq (pv 3) pe_str (nomark _))))) (pss_one (ps_ret (pe_and (pe_cmp (pc_eqI (pe_callB call_len_seq (by rfl) T.z_len (by decide +kernel) (pa_cons (pv 4) pa_nil)) pe_int) rfl) (pe_one (pe_call G (hr.mono (by omega)) rfl T.m_are_trees T.F_are_trees.kp T.b_are_trees .nil pass0 (pa_cons (pv 4) (pa_cons (pe_op op_sub (pv 1) pe_int) (pa_cons (pe_or (pv 2) (pe_one (pe_cmpR op_eq (pv 3) pe_str (nomark _)))) pa_nil)))))))) pss_nil)
      (pss_one (ps_ret pe_bl)))))))))), ?_⟩
    refine ⟨_, rfl, L, 0, rfl, rfl, false, congrArg V.bl (decide_eq_false (by omega)), iteF ?_⟩
    refine ⟨_, rfl, .ref a, .ty "tuple", _, _, true, rfl, .ty _, .base (.tup at_), kit_ty (by decide +kernel), true, rfl, iteF ?_⟩
    refine ⟨_, rfl, a, _, rfl, .inr sq, _, 0, rfl, rfl, false, congrArg V.bl (decide_eq_false (by rw [List.length_cons]; omega)), iteF ?_⟩
    refine ⟨_, rfl, a, _, _, _, rfl, rfl, sq, at0, .str (word t), .ty "str", _, _, true, rfl, .ty _, .base (.str _), kit_ty (by decide +kernel), true, rfl, iteF ?_⟩
    refine ⟨_, rfl, a, _, _, _, rfl, rfl, sq, at0, _, rfl, 1, rfl, a, _, rfl, sq, part1, fun p np => ?_⟩
    rw [cut1]
    refine ⟨_, _, rfl, ?_⟩
    have s1 : Same H (upd H p (.tup xs)) := same_new np
    have n1 := nr.mono (Tp.new (o := .tup xs) np)
    have sp : SqT K (upd H p (.tup xs)) p xs := SqT.of upd_same
    refine ⟨fun σ' H' => σ' = [some (.ref a), some (.int L), some (.bl b), some (.str (word t)), some (.ref p)] ∧ H' = upd H p (.tup xs), ?_, ?_⟩
    · refine ⟨_, rfl, b, rfl, ?_⟩
      cases b with
      | false => exact iteF (iteF ⟨rfl, rfl⟩)
      | true =>
        have no : inV (.str (word t)) [.str "loop", .str "mark", .str "set", .str "take"] = false := by
          have := test rfl
          cases t <;> first | rfl | (simp [isTest] at this)
        exact iteT ⟨_, rfl, T.p_ONLY_TREES, _, rfl, .inr (T.r_ONLY_TREES _), rfl, rfl, false, congrArg V.bl no, iteF ⟨rfl, rfl⟩⟩
    rintro _ _ ⟨rfl, rfl⟩
    have bare : rest t = [] → (∃ v, (([some (.ref a), some (.int L), some (.bl b), some (.str (word t)), some (.ref p)] : L2.St)[4]? = some (some v)) ∧ (tTup tNil) ([some (.ref a), some (.int L), some (.bl b), some (.str (word t)), some (.ref p)] : L2.St) (upd H p (.tup xs)) (fun y H2 => rEqD K v y H2 Q)) := fun e => by
      have e0 : xs = [] := by
        have := n1.length
        rw [e] at this
        exact List.eq_nil_of_length_eq_zero this
      subst e0
      refine ⟨_, rfl, Nat.zero_le _, fun q nq => ⟨_, _, .tup (SqT.of (same_new nq _ _ upd_same)) .nil, .tup (SqT.of upd_same) .nil, rfl, rfl, ?_⟩⟩
      exact k _ (same_trans s1 (same_new nq))
    have len2 : (rest t).length = 2 → decide (((xs.length : Nat) : Int) = 2) = true := fun e => decide_eq_true (by rw [n1.length, e]; rfl)
    have two : ∀ {x y : D}, rest t = [x, y] → ∃ v1 v2, xs = [v1, v2] ∧ NV H x v1 ∧ NV H y v2 := fun {x y} e => by
      rw [e] at nr
      cases nr with
      | cons a1 r1 => cases r1 with
        | cons a2 r2 => cases r2; exact ⟨_, _, rfl, a1, a2⟩
    cases t with
    | pass => exact ⟨_, rfl, T.p_BARE, _, rfl, .inr (T.r_BARE _), rfl, rfl, true, rfl, iteT (bare rfl)⟩
    | drop => exact ⟨_, rfl, T.p_BARE, _, rfl, .inr (T.r_BARE _), rfl, rfl, true, rfl, iteT (bare rfl)⟩
    | mark => exact ⟨_, rfl, T.p_BARE, _, rfl, .inr (T.r_BARE _), rfl, rfl, true, rfl, iteT (bare rfl)⟩
    | is f m =>
      obtain ⟨v1, v2, rfl, e1, e2⟩ := two rfl
      obtain rfl := nv_str e1
      obtain rfl := nv_int e2
      refine ⟨_, rfl, T.p_BARE, _, rfl, .inr (T.r_BARE _), rfl, rfl, false, rfl, iteF ⟨_, rfl, T.p_WITH_NUMBER, _, rfl, .inr (T.r_WITH_NUMBER _), rfl, rfl, true, rfl, iteT ?_⟩⟩
      refine ⟨_, rfl, p, _, rfl, .inr sp, _, _, rfl, rfl, true, rfl, iteT ⟨_, rfl, p, _, _, _, rfl, rfl, sp, at0, f, rfl, nm f ft.1, fun H2 s2 => ⟨true, rfl, iteT ?_⟩⟩⟩
      exact ⟨_, rfl, p, _, _, _, rfl, rfl, SqT.of (s2 _ _ upd_same), atI_nat (j := 1) rfl, _, rfl, by rw [decide_eq_true (Int.natCast_nonneg m)]; exact k _ (same_trans s1 s2)⟩
    | set f m =>
      obtain ⟨v1, v2, rfl, e1, e2⟩ := two rfl
      obtain rfl := nv_str e1
      obtain rfl := nv_int e2
      refine ⟨_, rfl, T.p_BARE, _, rfl, .inr (T.r_BARE _), rfl, rfl, false, rfl, iteF ⟨_, rfl, T.p_WITH_NUMBER, _, rfl, .inr (T.r_WITH_NUMBER _), rfl, rfl, true, rfl, iteT ?_⟩⟩
      refine ⟨_, rfl, p, _, rfl, .inr sp, _, _, rfl, rfl, true, rfl, iteT ⟨_, rfl, p, _, _, _, rfl, rfl, sp, at0, f, rfl, nm f ft.1, fun H2 s2 => ⟨true, rfl, iteT ?_⟩⟩⟩
      exact ⟨_, rfl, p, _, _, _, rfl, rfl, SqT.of (s2 _ _ upd_same), atI_nat (j := 1) rfl, _, rfl, by rw [decide_eq_true (Int.natCast_nonneg m)]; exact k _ (same_trans s1 s2)⟩
    | take f g =>
      obtain ⟨v1, v2, rfl, e1, e2⟩ := two rfl
      obtain rfl := nv_str e1
      obtain rfl := nv_str e2
      refine ⟨_, rfl, T.p_BARE, _, rfl, .inr (T.r_BARE _), rfl, rfl, false, rfl, iteF ⟨_, rfl, T.p_WITH_NUMBER, _, rfl, .inr (T.r_WITH_NUMBER _), rfl, rfl, false, rfl, iteF ⟨_, rfl, rfl, true, rfl, iteT ?_⟩⟩⟩
      refine ⟨_, rfl, p, _, rfl, .inr sp, _, _, rfl, rfl, true, rfl, iteT ⟨_, rfl, p, _, _, _, rfl, rfl, sp, at0, f, rfl, nm f ft.1, fun H2 s2 => ⟨true, rfl, iteT ?_⟩⟩⟩
      refine ⟨_, rfl, p, _, _, _, rfl, rfl, SqT.of (s2 _ _ upd_same), atI_nat (j := 1) rfl, g, rfl, nm g ft.2, fun H3 s3 => ⟨true, rfl, iteT ?_⟩⟩
      have s23 := same_trans s2 s3
      refine ⟨_, rfl, p, _, _, _, rfl, rfl, SqT.of (s23 _ _ upd_same), at0, _, rfl, p, _, _, _, rfl, rfl, SqT.of (s23 _ _ upd_same), atI_nat (j := 1) rfl, rfl, ?_⟩
      have ne : decide ((V.str f) = (V.str g)) = false := decide_eq_false fun e => fm (V.str.inj e)
      rw [ne]
      exact k _ (same_trans s1 s23)
    | row ts =>
      refine ⟨_, rfl, T.p_BARE, _, rfl, .inr (T.r_BARE _), rfl, rfl, false, rfl, iteF ⟨_, rfl, T.p_WITH_NUMBER, _, rfl, .inr (T.r_WITH_NUMBER _), rfl, rfl, false, rfl, iteF ⟨_, rfl, rfl, false, rfl, iteF ⟨_, rfl, T.p_JOINING, _, rfl, .inr (T.r_JOINING _), rfl, rfl, true, rfl, iteT ?_⟩⟩⟩⟩
      refine ⟨_, rfl, p, _, rfl, .inr sp, _, _, rfl, rfl, true, congrArg V.bl (decide_eq_true (show ((2 : Nat) : Int) ≤ (xs.length : Nat) by rw [n1.length]; show (2 : Int) ≤ ((srcDs ts).length : Nat); rw [srcDs_map, List.length_map]; exact Int.ofNat_le.mpr fm.1)), iteT ?_⟩
      simp only [subs, List.length_cons] at size
      simp only [dp] at deep lev
      exact ⟨_, rfl, _, rfl, _, _, rfl, rfl, _, rfl, p, xs, ts, fs, N, L - 1, b, rfl, upd_same, n1, fm.2, ft, nm, by omega, by omega, by omega, test, fun H2 s2 => k _ (same_trans s1 s2)⟩
    | alt ts =>
      refine ⟨_, rfl, T.p_BARE, _, rfl, .inr (T.r_BARE _), rfl, rfl, false, rfl, iteF ⟨_, rfl, T.p_WITH_NUMBER, _, rfl, .inr (T.r_WITH_NUMBER _), rfl, rfl, false, rfl, iteF ⟨_, rfl, rfl, false, rfl, iteF ⟨_, rfl, T.p_JOINING, _, rfl, .inr (T.r_JOINING _), rfl, rfl, true, rfl, iteT ?_⟩⟩⟩⟩
      refine ⟨_, rfl, p, _, rfl, .inr sp, _, _, rfl, rfl, true, congrArg V.bl (decide_eq_true (show ((2 : Nat) : Int) ≤ (xs.length : Nat) by rw [n1.length]; show (2 : Int) ≤ ((srcDs ts).length : Nat); rw [srcDs_map, List.length_map]; exact Int.ofNat_le.mpr fm.1)), iteT ?_⟩
      simp only [subs, List.length_cons] at size
      simp only [dp] at deep lev
      exact ⟨_, rfl, _, rfl, _, _, rfl, rfl, _, rfl, p, xs, ts, fs, N, L - 1, b, rfl, upd_same, n1, fm.2, ft, nm, by omega, by omega, by omega, test, fun H2 s2 => k _ (same_trans s1 s2)⟩
    | not u =>
      refine ⟨_, rfl, T.p_BARE, _, rfl, .inr (T.r_BARE _), rfl, rfl, false, rfl, iteF ⟨_, rfl, T.p_WITH_NUMBER, _, rfl, .inr (T.r_WITH_NUMBER _), rfl, rfl, false, rfl, iteF ⟨_, rfl, rfl, false, rfl, iteF ⟨_, rfl, T.p_JOINING, _, rfl, .inr (T.r_JOINING _), rfl, rfl, false, rfl, iteF ⟨_, rfl, rfl, true, rfl, iteT ?_⟩⟩⟩⟩⟩
      obtain ⟨v1, rfl, e1⟩ : ∃ v1, xs = [v1] ∧ NV H (srcD u) v1 := by
        cases nr with
        | cons a1 r1 => cases r1; exact ⟨_, rfl, a1⟩
      refine ⟨_, rfl, p, _, rfl, .inr sp, _, _, rfl, rfl, true, rfl, iteT ?_⟩
      simp only [dp] at deep lev
      have one : dps [u] = dp u := by simp [dps]
      have one2 : (subss [u]).length = (subs u).length := by simp [subss]
      simp only [subs, List.length_cons] at size
      refine ⟨_, rfl, _, rfl, _, _, rfl, rfl, _, rfl, b, rfl, ?_⟩
      cases b with
      | true => exact iteT ⟨p, _, [u], fs, N, L - 1, true, rfl, upd_same, n1, ⟨fm.2, True.intro⟩, ⟨ft, True.intro⟩, nm, by omega, by omega, by omega, fun _ => by simpa [areTests, isTest] using test rfl, fun H2 s2 => k _ (same_trans s1 s2)⟩
      | false => exact iteF ⟨_, rfl, rfl, p, _, [u], fs, N, L - 1, true, rfl, upd_same, n1, ⟨fm.2, True.intro⟩, ⟨ft, True.intro⟩, nm, by omega, by omega, by omega, fun e => by simp [areTests, fm.1], fun H2 s2 => k _ (same_trans s1 s2)⟩
    | loop u =>
      refine ⟨_, rfl, T.p_BARE, _, rfl, .inr (T.r_BARE _), rfl, rfl, false, rfl, iteF ⟨_, rfl, T.p_WITH_NUMBER, _, rfl, .inr (T.r_WITH_NUMBER _), rfl, rfl, false, rfl, iteF ⟨_, rfl, rfl, false, rfl, iteF ⟨_, rfl, T.p_JOINING, _, rfl, .inr (T.r_JOINING _), rfl, rfl, false, rfl, iteF ⟨_, rfl, rfl, false, rfl, iteF ⟨_, rfl, rfl, true, rfl, iteT ?_⟩⟩⟩⟩⟩⟩
      obtain ⟨v1, rfl, e1⟩ : ∃ v1, xs = [v1] ∧ NV H (srcD u) v1 := by
        cases nr with
        | cons a1 r1 => cases r1; exact ⟨_, rfl, a1⟩
      refine ⟨_, rfl, p, _, rfl, .inr sp, _, _, rfl, rfl, true, rfl, iteT ?_⟩
      simp only [dp] at deep lev
      have one : dps [u] = dp u := by simp [dps]
      have one2 : (subss [u]).length = (subs u).length := by simp [subss]
      simp only [subs, List.length_cons] at size
      refine ⟨_, rfl, _, rfl, _, _, rfl, rfl, _, rfl, b, rfl, ?_⟩
      cases b with
      | true => exact iteT ⟨p, _, [u], fs, N, L - 1, true, rfl, upd_same, n1, ⟨fm, True.intro⟩, ⟨ft, True.intro⟩, nm, by omega, by omega, by omega, fun _ => by simpa [areTests, isTest] using test rfl, fun H2 s2 => k _ (same_trans s1 s2)⟩
      | false => exact iteF ⟨_, rfl, rfl, p, _, [u], fs, N, L - 1, false, rfl, upd_same, n1, ⟨fm, True.intro⟩, ⟨ft, True.intro⟩, nm, by omega, by omega, by omega, (fun e => Bool.noConfusion e), fun H2 s2 => k _ (same_trans s1 s2)⟩
end
end Mw
/-! The set of some whole numbers, some perhaps several times. -/
namespace Mw
open PySem PySem.Spec PyProof.Rows L2
section
variable {P : Program} {w : World} {A : Around} {E : Value → Shared → Prop} {s : Shared}
set_option maxHeartbeats 3200000 in
theorem call_set_ints {l : Addr} {items : Array Value} {ns : List Int} {Q : Value → Shared → Prop} (hh : A.handled = none) (hl : s.heap.IsList l items) (hi : IntsAre items.toList ns) (few : ns.length + 1 < scanBound)
    (h : ∀ (h' : Heap) (tk c : Nat), SetR w h' s.heap.objs.size (fun j => decide (j ∈ ns)) c → (∀ b o, s.heap.get? b = some o → h'.get? b = some o) → Q (.ref s.heap.objs.size) { s with heap := h', toks := tk }) :
    wpAny (model P w) A (call (.type "set") [.ref l]) Q E s := by
  have n : items.size = ns.length := by rw [← IntsAre.length hi, Array.length_toList]
  have val : ∀ (i : Nat) (v : Value), items[i]? = some v → ∃ k t, ns[i]? = some k ∧ v = .int k t := fun i v hv => by
    obtain ⟨t, e⟩ := IntsAre.int_at hi i v (by rw [Array.getElem?_toList]; exact hv)
    have lt : i < ns.length := n ▸ (Array.getElem?_eq_some_iff.mp hv).1
    refine ⟨ns[i], t, List.getElem?_eq_getElem lt, ?_⟩
    rw [e, List.getD_eq_getElem?_getD, List.getElem?_eq_getElem lt] <;> rfl
  have size1 : (s.heap.push (set0 w)).objs.size = s.heap.objs.size + 1 := Heap.size_push ..
  have hS : (s.heap.push (set0 w)).get? s.heap.objs.size = some (set0 w) := Heap.get?_push_size _ rfl
  refine set_made ?_
  obtain ⟨ol, hol, hcl, nl, hdl⟩ := hl
  obtain ⟨ocls, odict, odata, oslots⟩ := ol
  simp only at hcl hdl
  subst hcl hdl
  have hol' := Heap.get?_push_of_some (set0 w) hol
  have lS : l < s.heap.objs.size := Heap.lt_size hol
  have out : s.heap.objs.size ∉ [(s.heap.push (set0 w)).objs.size, l] := by
    simp only [List.mem_cons, List.not_mem_nil, or_false, not_or]
    exact ⟨by rw [size1]; omega, Nat.ne_of_gt lS⟩
  have notSet := F.sub_list_set
  have notFrozen := F.sub_list_frozenset
  have ne : (Value.type "list" == Value.type "dict") = false := by decide
  have hl1 : (s.heap.push (set0 w)).IsList l items := ⟨_, hol', rfl, nl, rfl⟩
  unfold Builtin.«set.__init__» noKeywords Builtin.Frozenset.updateFrom
  generalize hPI : pyIter = PI
  wp_walk
  subst hPI
  refine wpAny_pyIter_list hl1 ?_
  refine wpAny_bind (wpAny_runValue ?_)
  have walk := (Walks.list (prog := P) (w := w) (A := A.in1.in1.in1) (by simp [hh]) (s.heap.push (set0 w)).objs.size l (Nat.ne_of_lt (by rw [size1]; exact Nat.lt_succ_of_lt lS)) items).toS
  refine set_update_ints walk s.heap.objs.size out ns n few val items.size 0 _ rfl (Nat.zero_le _) ⟨⟨_, Heap.get?_push_size _ rfl, rfl, rfl⟩, hl1.push _⟩ ⟨0, Nat.le_refl _, setR_new_at (Heap.get?_push_of_some _ hS)⟩ fun s' c m _ hS' => ?_
  obtain ⟨h', g', d', tk', os'⟩ := s'
  obtain rfl : g' = s.gens := m.gens
  obtain rfl : d' = s.drawn := m.drawn
  obtain rfl : os' = s.os := m.os
  refine wpAny_pure (wpAny_pure ⟨rfl, h _ _ c hS' fun b o e => ?_⟩)
  have lt := Heap.lt_size e
  refine m.heap b o ?_ (Heap.get?_push_of_some _ (Heap.get?_push_of_some _ e))
  simp only [List.mem_cons, List.not_mem_nil, or_false, not_or]
  exact ⟨Nat.ne_of_lt lt, Nat.ne_of_lt (by rw [size1]; exact Nat.lt_succ_of_lt lt)⟩
end
theorem ints_of : ∀ {ns : List Int} {us : List Value}, Vals (ns.map V.int) us → IntsAre us ns
  | [], _, .nil => .nil
  | n :: _, _, .cons r t => by
    obtain ⟨k, rfl⟩ := r
    exact .cons n k (ints_of t)
/-- set(xs) of whole numbers within U -/
def rSetI (w : World) (K : PySem.W.Frag) : List V → Hp → VK → Prop := fun vs H Q => ∃ (l : Addr) (ns U : List Int), vs = [.ref l] ∧ SqL K H l (ns.map V.int) ∧ ns.length ≤ 1000 ∧ (∀ k ∈ ns, k ∈ U) ∧
  ∀ a c, H a = none → c ≤ U.length → Q (.ref a) (upd H a (SetO w a (fun j => decide (j ∈ ns)) c))
theorem cr_setI {X : Cx} (hc : X.calm = true) : CallR X (.type "set") (rSetI X.w X.K) := by
  rintro pins s σ H vs us Q I r ⟨l, ns, U, rfl, hl, few, inU, q⟩
  obtain ⟨u, rfl, ru⟩ := vals1 r
  obtain rfl : u = .ref l := ru
  obtain ⟨its, rv, pl, hz⟩ := I.list hl
  refine call_set_ints (P := X.prog) (w := X.w) (ns := ns) (I.ok.hd hc) pl.isList (by simpa using ints_of rv) (by unfold scanBound; omega) fun h' tk c R keep => ?_
  have fresh : H s.heap.objs.size = none := I.hok.fresh (Nat.le_refl _)
  refine ⟨.ref _, _, I.laid (t' := tk) keep (Nat.le_refl _) (setO_new R), rfl, q _ c fresh ?_⟩
  obtain ⟨o, es, ep, t, _, _, _, _, nd, mem, _, _, sz, _⟩ := R
  rw [← sz, ← Array.length_toList, ← List.length_map (f := keyOf)]
  exact nodup_le nd fun k hk => inU k (of_decide_eq_true ((mem k).mpr hk))
end Mw
/-! is_tree, is_test, all_trees, marks_in, numbers_in, fields_in. -/
namespace Mw
open PySem L2
section
variable {P : Program} {w : World} {K : PySem.W.Frag} {mg : Str → Option Value} {base : Heap}
theorem ok_tree_of (T : TX K mg) : ∀ d : Nat, FnOk P w K mg base CX0 (2 * d + 4) T.a_is_tree_of T.fd_is_tree_of ["thing", "levels", "is_test_alone"] (sp_is_tree_of d)
  | 0 => by
    have no : ∀ {vs H Q E}, ¬ sp_is_tree_of 0 vs H Q E := fun {vs H Q E} h => by
      obtain ⟨a, t, fs, N, L, b, rfl, n, fm, ft, nm, size, deep, _⟩ := h
      have := dp_pos t
      omega
    exact T.F_is_tree_of.ok sc_is_tree_of (fun vs H Q E h => absurd h no) (fun cdv A outer s H vs Q E hr h => absurd h no)
  | d + 1 => ok_is_tree_of T (by omega) (ok_are_trees T (ok_tree_of T d))
/-- a tree of a program of the law -/
structure Good (fs : List Str) (N : List Nat) (t : Src) : Prop where
  form : Form t
  fits : Fits fs N t
  named : Named fs
  size : (subs t).length ≤ 1000
  deep : dp t ≤ 5
  few : nm t ≤ 6
  nums : N.length ≤ 3
def sp_is_tree : Sp := fun vs H Q _ => ∃ a t fs N, vs = [.ref a] ∧ NV H (srcD t) (.ref a) ∧ Good fs N t ∧ ∀ H', Same H H' → Q (.bl true) H'
theorem ok_is_tree (T : TX K mg) : FnOk P w K mg base CX0 15 T.a_is_tree T.fd_is_tree ["thing"] sp_is_tree := by
  refine T.F_is_tree.ok sc_is_tree (fun vs H Q E h => ?_) (fun cdv A outer s H vs Q E hr h => ?_)
  · obtain ⟨a, t, fs, N, rfl, _⟩ := h
    rfl
  · obtain ⟨a, t, fs, N, rfl, n, g, k⟩ := h
    refine ⟨_, (pss_one (ps_ret (pe_call (ok_tree_of T 5) (hr.mono (by omega)) rfl T.m_is_tree_of T.F_is_tree_of.kp T.b_is_tree_of .nil pass0 (pa_cons (pv 0) (pa_cons (pe_glob (by rfl) T.g_MOST_LEVELS T.r_MOST_LEVELS) (pa_cons pe_bl pa_nil)))))), ?_⟩
    have := g.deep
    exact ⟨_, rfl, a, t, fs, N, 12, false, rfl, n, g.form, g.fits, g.named, g.size, g.deep, by omega, (fun e => Bool.noConfusion e), k⟩
def sp_is_test : Sp := fun vs H Q _ => ∃ a t fs N, vs = [.ref a] ∧ NV H (srcD t) (.ref a) ∧ Good fs N t ∧ isTest t = true ∧ ∀ H', Same H H' → Q (.bl true) H'
theorem ok_is_test (T : TX K mg) : FnOk P w K mg base CX0 15 T.a_is_test T.fd_is_test ["thing"] sp_is_test := by
  refine T.F_is_test.ok sc_is_test (fun vs H Q E h => ?_) (fun cdv A outer s H vs Q E hr h => ?_)
  · obtain ⟨a, t, fs, N, rfl, _⟩ := h
    rfl
  · obtain ⟨a, t, fs, N, rfl, n, g, test, k⟩ := h
    refine ⟨_, (pss_one (ps_ret (pe_call (ok_tree_of T 5) (hr.mono (by omega)) rfl T.m_is_tree_of T.F_is_tree_of.kp T.b_is_tree_of .nil pass0 (pa_cons (pv 0) (pa_cons (pe_glob (by rfl) T.g_MOST_LEVELS T.r_MOST_LEVELS) (pa_cons pe_bl pa_nil)))))), ?_⟩
    have := g.deep
    exact ⟨_, rfl, a, t, fs, N, 12, true, rfl, n, g.form, g.fits, g.named, g.size, g.deep, by omega, (fun _ => test), k⟩
/-- all_trees -/
def sp_all_trees (d : Nat) : Sp := fun vs H Q _ => ∃ a t, vs = [.ref a] ∧ NV H (srcD t) (.ref a) ∧ (subs t).length ≤ 1000 ∧ dp t ≤ d ∧ ∀ p xs H', Same H H' → H p = none → H' p = some (.lst xs) → NVs H' (srcDs (subs t)) xs → Q (.ref p) H'
theorem srcDs_append (ts us : List Src) : srcDs (ts ++ us) = srcDs ts ++ srcDs us := by rw [srcDs_map, srcDs_map, srcDs_map, List.map_append]
theorem ok_all_trees1 (T : TX K mg) {d k : Nat} (hk : 1 ≤ k) (G : FnOk P w K mg base CX0 k T.a_all_trees T.fd_all_trees ["tree"] (sp_all_trees d)) :
    FnOk P w K mg base CX0 (k + 1) T.a_all_trees T.fd_all_trees ["tree"] (sp_all_trees (d + 1)) := by
  refine T.F_all_trees.ok sc_all_trees (fun vs H Q E h => ?_) (fun cdv A outer s H vs Q E hr h => ?_)
  · obtain ⟨a, t, rfl, _⟩ := h
    rfl
  · obtain ⟨a, t, rfl, n, size, deep, k⟩ := h
    refine ⟨_, (pss_cons (ps_set (i := 1) sc_all_trees.nd rfl (Or.inl rfl) (pe_lst (pa_cons (pv 0) pa_nil)))
      (pss_cons (ps_for PassesOwn.never rfl (pi_tup (pe_call (ok_inner_trees T) (hr.mono (by omega)) rfl T.m_inner_trees T.F_inner_trees.kp T.b_inner_trees .nil pass0 (pa_cons (pv 0) pa_nil))) (pg_name (i := 2) sc_all_trees.nd rfl (Or.inl rfl)) (pss_one (ps_expr (pe_bm PySem.F.plainAttrs_list PySem.F.slot_list_extend PySem.F.type_list_extend mt_extend (pv 1) (pa_cons (pe_call G (hr.mono (by omega)) rfl T.m_all_trees T.F_all_trees.kp T.b_all_trees .nil pass0 (pa_cons (pv 2) pa_nil)) pa_nil)))))
      (pss_one (ps_ret (pv 1))))), ?_⟩
    refine ⟨_, rfl, (by show 1 ≤ sizeLine; decide), fun f nf => ⟨_, rfl, a, t, rfl, n.mono (.same (same_new nf)), fun b xs H1 s1 at1 n1 => ⟨b, rfl, ⟨_, SqT.of at1⟩, ?_⟩⟩⟩
    have total : (subs t).length = 1 + ((inner t).flatMap subs).length := by rw [subs_inner, List.length_cons]; omega
    have len : xs.length = (inner t).length := by rw [n1.length, srcDs_map, List.length_map]
    refine for_st (steady_tup (K := K) (a := b) (xs := xs)) (fun i σ H' => ∃ z, σ = [some (.ref a), some (.ref f), z] ∧ Same H H' ∧ Tp H1 H' ∧ ∃ ys, H' f = some (.lst ys) ∧ NVs H' (srcD t :: srcDs (((inner t).take i).flatMap subs)) ys) ?_ ?_ ?_ ?_
    · have s2 : Same H H1 := same_trans (same_new nf) s1
      exact ⟨_, rfl, s2, Tp.refl _, _, s1 _ _ upd_same, .cons (n.mono (.same s2)) .nil⟩
    · rintro i σ H2 _ ⟨z, rfl, s2, tp, _⟩
      exact SqT.of (tp.tup _ _ at1)
    · rintro i v σ H2 hv ⟨z, rfl, s2, tp, ys, at2, n2⟩
      obtain ⟨u, c, hu, rfl, nu⟩ := nvs_srcs (n1.mono tp) hv
      have mem := List.mem_of_getElem? hu
      have z1 : ((((inner t).take (i + 1)).flatMap subs).length) ≤ ((inner t).flatMap subs).length := by
        rw [← List.take_append_drop (i + 1) (inner t)]
        simp only [List.flatMap_append, List.length_append]
        rw [List.take_append_drop]
        omega
      have step : ((inner t).take (i + 1)).flatMap subs = ((inner t).take i).flatMap subs ++ subs u := by
        rw [List.take_add_one, hu, List.flatMap_append]
        simp
      rw [step, List.length_append] at z1
      have l2 := n2.length
      rw [List.length_cons, srcDs_map, List.length_map] at l2
      have d1 := inner_dp mem
      refine ⟨_, rfl, .inl ⟨rfl, _, SqL.of at2⟩, _, rfl, c, u, rfl, nu, by omega, by omega, fun p zs H3 s3 np at3 n3 => ?_⟩
      have l3 := n3.length
      rw [srcDs_map, List.length_map] at l3
      have at4 := s3 _ _ at2
      have tpw : Tp H3 (upd H3 f (.lst (ys ++ zs))) := Tp.write (by rw [at4]; exact True.intro)
      refine ⟨f, p, ys, zs, rfl, rfl, at4, at3, (by rw [sizeLine_eq]; omega), _, rfl, same_upd (same_trans s2 s3) nf, (tp.trans (.same s3)).trans tpw, _, upd_same, ?_⟩
      rw [step, srcDs_append]
      exact ((n2.mono (.same s3)).append n3).mono tpw
    · rintro σ H2 ⟨z, rfl, s2, tp, ys, at2, n2⟩
      refine ⟨_, rfl, k f ys H2 s2 nf at2 ?_⟩
      rw [subs_inner]
      rw [len, List.take_length] at n2
      exact n2
theorem ok_all_trees_by (T : TX K mg) : ∀ d : Nat, FnOk P w K mg base CX0 (d + 1) T.a_all_trees T.fd_all_trees ["tree"] (sp_all_trees d)
  | 0 => by
    have no : ∀ {vs H Q E}, ¬ sp_all_trees 0 vs H Q E := fun {vs H Q E} h => by
      obtain ⟨a, t, rfl, n, size, deep, _⟩ := h
      have := dp_pos t
      omega
    exact T.F_all_trees.ok sc_all_trees (fun vs H Q E h => absurd h no) (fun cdv A outer s H vs Q E hr h => absurd h no)
  | d + 1 => ok_all_trees1 T (by omega) (ok_all_trees_by T d)
theorem ok_all_trees (T : TX K mg) : FnOk P w K mg base CX0 6 T.a_all_trees T.fd_all_trees ["tree"] (sp_all_trees 5) := ok_all_trees_by T 5
theorem iteB {c : Bool} {A B : Prop} (h1 : c = true → A) (h2 : c = false → B) : if c = true then A else B := by
  cases c with
  | true => exact iteT (h1 rfl)
  | false => exact iteF (h2 rfl)
/-- which items pass -/
def pick {α : Type} (l : List α) (p : α → Bool) (i : Nat) : Bool := match l[i]? with | some x => p x | none => false
theorem pick_len {α : Type} (l : List α) (p : α → Bool) : ((List.range l.length).filter (pick l p)).length = l.countP p := by
  have go : ∀ n, n ≤ l.length → ((List.range n).filter (pick l p)).length = (l.take n).countP p := by
    intro n
    induction n with
    | zero => simp
    | succ n ih =>
      intro h
      rw [range_filter, List.length_append, ih (by omega), List.take_add_one, List.countP_append, List.getElem?_eq_getElem h]
      have e : pick l p n = p l[n] := by rw [pick, List.getElem?_eq_getElem h]
      rw [e]
      by_cases q : p l[n] = true <;> simp [q]
  have := go l.length (Nat.le_refl _)
  rwa [List.take_length] at this
def isMark (u : Src) : Bool := decide (V.str (word u) = V.str "mark")
mutual
theorem count_test : ∀ t : Src, isTest t = true → (subs t).countP isMark = 0
  | .pass, _ => rfl
  | .drop, _ => rfl
  | .is _ _, _ => rfl
  | .not t, h => by
    have := count_test t (by simpa [isTest] using h)
    rw [subs, List.countP_cons, this]
    rfl
  | .row ts, h => by
    have := count_tests ts (by simpa [isTest] using h)
    rw [subs, List.countP_cons, this]
    rfl
  | .alt ts, h => by
    have := count_tests ts (by simpa [isTest] using h)
    rw [subs, List.countP_cons, this]
    rfl
  | .mark, h => by simp [isTest] at h
  | .set _ _, h => by simp [isTest] at h
  | .take _ _, h => by simp [isTest] at h
  | .loop _, h => by simp [isTest] at h
theorem count_tests : ∀ ts : List Src, areTests ts = true → (subss ts).countP isMark = 0
  | [], _ => rfl
  | t :: ts, h => by
    rw [areTests, Bool.and_eq_true] at h
    rw [subss, List.countP_append, count_test t h.1, count_tests ts h.2]
end
mutual
theorem count_marks : ∀ t : Src, Form t → (subs t).countP isMark = nm t
  | .pass, _ => rfl
  | .drop, _ => rfl
  | .mark, _ => rfl
  | .is _ _, _ => rfl
  | .set _ _, _ => rfl
  | .take _ _, _ => rfl
  | .not t, h => by
    have := count_test t h.1
    rw [subs, List.countP_cons, this]
    rfl
  | .loop t, h => by
    have := count_marks t h
    rw [subs, List.countP_cons, this]
    rfl
  | .row ts, h => by
    have := counts_marks ts h.2
    rw [subs, List.countP_cons, this]
    rfl
  | .alt ts, h => by
    have := counts_marks ts h.2
    rw [subs, List.countP_cons, this]
    rfl
theorem counts_marks : ∀ ts : List Src, Forms ts → (subss ts).countP isMark = nms ts
  | [], _ => rfl
  | t :: ts, h => by
    rw [subss, List.countP_append, count_marks t h.1, counts_marks ts h.2]
    rfl
end
/-- marks_in -/
def sp_marks_in : Sp := fun vs H Q _ => ∃ a t, vs = [.ref a] ∧ NV H (srcD t) (.ref a) ∧ Form t ∧ (subs t).length ≤ 1000 ∧ dp t ≤ 5 ∧ ∀ H', Same H H' → Q (.int (nm t : Nat)) H'
theorem ok_marks_in (T : TX K mg) : FnOk P w K mg base CX0 7 T.a_marks_in T.fd_marks_in ["tree"] sp_marks_in := by
  refine T.F_marks_in.ok sc_marks_in (fun vs H Q E h => ?_) (fun cdv A outer s H vs Q E hr h => ?_)
  · obtain ⟨a, t, rfl, _⟩ := h
    rfl
  · obtain ⟨a, t, rfl, n, fm, size, deep, k⟩ := h
    refine ⟨_, (pss_one (ps_ret (pe_callB call_len_seq (by rfl) T.z_len (by decide +kernel) (pa_cons (pe_lc (own := [("part", 1)]) (g := (gName 1)) (tt := (tTest (tOp rEq (tOp (rIxT K) (tVar 1) (tC (.int 0))) (tC (.str "mark"))))) (te := (tVar 1)) rfl sc_marks_in.nd (pi_list (pe_call (ok_all_trees T) (hr.mono (by omega)) rfl T.m_all_trees T.F_all_trees.kp T.b_all_trees .nil pass0 (pa_cons (pv 0) pa_nil))) (blkOk_by (own := [("part", 1)]) (N := ["tree", "part"]) (sc := defScope s_marks_in) (by decide +kernel)) (fun _ _ _ _ _ => (pg_name (i := 1) sc_marks_in.nd rfl (Or.inl rfl))) (fun _ _ _ _ _ => (pts_one (pt_cmpR op_eq (pe_ix ix_tup (pv 1) pe_int (fun _ _ => rfl)) pe_str (nomark _)))) (fun _ _ _ _ _ => (pv 1))) pa_nil)))), ?_⟩
    refine ⟨_, rfl, a, t, rfl, n, size, deep, fun p xs H1 s1 np at1 n1 => ⟨p, rfl, ⟨_, SqL.of at1⟩, fun D hD => ?_⟩⟩
    have len : xs.length = (subs t).length := by rw [n1.length, srcDs_map, List.length_map]
    refine lc_pure (steady_list (K := K) (a := p) (xs := xs)) (fun H2 s2 => SqL.of (s2 _ _ at1)) (pick (subs t) isMark) (fun _ _ _ => True) (fun {_ _ _ _} _ q => q) hD (by rw [len, sizeLine_eq]; omega) ?_ ?_
    · intro i v H2 hv s2 Y Nn yes no
      obtain ⟨u, c, hu, rfl, nu⟩ := nvs_srcs (n1.mono (.same s2)) hv
      obtain ⟨zs, at3, _⟩ := src_tup nu
      refine ⟨rfl, _, rfl, c, _, _, _, rfl, rfl, SqT.of at3, at0, rfl, _, rfl, iteB (fun e => ?_) fun e => ?_⟩
      · exact ⟨_, rfl, yes (by rw [pick, hu]; exact e) _ _ (same_refl _) True.intro⟩
      · exact no (by rw [pick, hu]; exact e) _ (same_refl _)
    · intro H2 ys s2 at2 q
      refine ⟨D, ys, rfl, .inl (SqL.of at2), ?_⟩
      have l2 := Paired.length q
      rw [len, pick_len, count_marks t fm] at l2
      rw [show ys.length = nm t from l2.symm]
      exact k _ (same_trans s1 s2)
mutual
theorem fits_subs {fs : List Str} {N : List Nat} : ∀ {t : Src}, Fits fs N t → ∀ u ∈ subs t, Fits fs N u
  | .pass, h, u, m => by rw [List.mem_singleton.mp m]; exact h
  | .drop, h, u, m => by rw [List.mem_singleton.mp m]; exact h
  | .mark, h, u, m => by rw [List.mem_singleton.mp m]; exact h
  | .is _ _, h, u, m => by rw [List.mem_singleton.mp m]; exact h
  | .set _ _, h, u, m => by rw [List.mem_singleton.mp m]; exact h
  | .take _ _, h, u, m => by rw [List.mem_singleton.mp m]; exact h
  | .not t, h, u, m => by
    rcases List.mem_cons.mp m with rfl | m
    · exact h
    · exact fits_subs (t := t) h u m
  | .loop t, h, u, m => by
    rcases List.mem_cons.mp m with rfl | m
    · exact h
    · exact fits_subs (t := t) h u m
  | .row ts, h, u, m => by
    rcases List.mem_cons.mp m with rfl | m
    · exact h
    · exact fits_subss (ts := ts) h u m
  | .alt ts, h, u, m => by
    rcases List.mem_cons.mp m with rfl | m
    · exact h
    · exact fits_subss (ts := ts) h u m
theorem fits_subss {fs : List Str} {N : List Nat} : ∀ {ts : List Src}, FitsL fs N ts → ∀ u ∈ subss ts, Fits fs N u
  | [], _, u, m => absurd m List.not_mem_nil
  | t :: ts, h, u, m => by
    rcases List.mem_append.mp m with m | m
    · exact fits_subs h.1 u m
    · exact fits_subss h.2 u m
end
/-- numbers_in -/
def sp_numbers_in : Sp := fun vs H Q _ => ∃ a t fs N, vs = [.ref a] ∧ NV H (srcD t) (.ref a) ∧ Fits fs N t ∧ N.length ≤ 3 ∧ (subs t).length ≤ 1000 ∧ dp t ≤ 5 ∧ ∀ p, ∀ ns : List Int, ∀ H', Same H H' → H' p = some (.tup (ns.map V.int)) → ns.length ≤ 3 → Q (.ref p) H'
def isNum (u : Src) : Bool := inV (.str (word u)) [.str "is", .str "set"]
theorem ints_within {N : List Nat} : ∀ {l : List Nat} {ys : List V}, Paired (fun _ y => ∃ k : Nat, y = V.int k ∧ k ∈ N) l ys → ∃ ns : List Int, ys = ns.map V.int ∧ ∀ k ∈ ns, k ∈ N.map Int.ofNat
  | _, _, .nil => ⟨[], rfl, fun _ h => absurd h List.not_mem_nil⟩
  | _, _, .cons ⟨k, e, m⟩ r => by
    obtain ⟨ns, rfl, h⟩ := ints_within r
    refine ⟨(k : Int) :: ns, by rw [e, List.map_cons], fun j hj => ?_⟩
    rcases List.mem_cons.mp hj with rfl | hj
    · exact List.mem_map.mpr ⟨k, m, rfl⟩
    · exact h j hj
theorem ok_numbers_in (T : TX K mg) : FnOk P w K mg base CX0 7 T.a_numbers_in T.fd_numbers_in ["tree"] sp_numbers_in := by
  refine T.F_numbers_in.ok sc_numbers_in (fun vs H Q E h => ?_) (fun cdv A outer s H vs Q E hr h => ?_)
  · obtain ⟨a, t, fs, N, rfl, _⟩ := h
    rfl
  · obtain ⟨a, t, fs, N, rfl, n, ft, small, size, deep, k⟩ := h
    refine ⟨_, (pss_one (ps_ret (pe_callTy call_tuple_of (by rfl) T.z_tuple (by decide +kernel) (pa_cons (pe_callB (cr_sortedSet rfl) (by rfl) T.z_sorted (by decide +kernel) (pa_cons (pe_callTy (cr_setI rfl) (by rfl) T.z_set (by decide +kernel) (pa_cons (pe_lc (own := [("part", 1)]) (g := (gName 1)) (tt := (tTest (tOp (rIn K false) (tOp (rIxT K) (tVar 1) (tC (.int 0))) (tC (.ref T.p_WITH_NUMBER))))) (te := (tOp (rIxT K) (tVar 1) (tC (.int 2)))) rfl sc_numbers_in.nd (pi_list (pe_call (ok_all_trees T) (hr.mono (by omega)) rfl T.m_all_trees T.F_all_trees.kp T.b_all_trees .nil pass0 (pa_cons (pv 0) pa_nil))) (blkOk_by (own := [("part", 1)]) (N := ["tree", "part"]) (sc := defScope s_numbers_in) (by decide +kernel)) (fun _ _ _ _ _ => (pg_name (i := 1) sc_numbers_in.nd rfl (Or.inl rfl))) (fun _ _ _ _ _ => (pts_one (pt_cmpR op_in_seq (pe_ix ix_tup (pv 1) pe_int (fun _ _ => rfl)) (pe_glob (v := .ref T.p_WITH_NUMBER) (by rfl) T.g_WITH_NUMBER rfl) (by rfl)))) (fun _ _ _ _ _ => (pe_ix ix_tup (pv 1) pe_int (fun _ _ => rfl)))) pa_nil)) pa_nil)) pa_nil)))), ?_⟩
    refine ⟨_, rfl, a, t, rfl, n, size, deep, fun p xs H1 s1 np at1 n1 => ⟨p, rfl, ⟨_, SqL.of at1⟩, fun D hD => ?_⟩⟩
    have len : xs.length = (subs t).length := by rw [n1.length, srcDs_map, List.length_map]
    refine lc_pure (steady_list (K := K) (a := p) (xs := xs)) (fun H2 s2 => SqL.of (s2 _ _ at1)) (pick (subs t) isNum) (fun _ y _ => ∃ k : Nat, y = V.int k ∧ k ∈ N) (fun {_ _ _ _} _ q => q) hD (by rw [len, sizeLine_eq]; omega) ?_ ?_
    · intro i v H2 hv s2 Y Nn yes no
      obtain ⟨u, c, hu, rfl, nu⟩ := nvs_srcs (n1.mono (.same s2)) hv
      obtain ⟨zs, at3, n3⟩ := src_tup nu
      have fu := fits_subs ft u (List.mem_of_getElem? hu)
      refine ⟨rfl, _, rfl, c, _, _, _, rfl, rfl, SqT.of at3, at0, T.p_WITH_NUMBER, _, rfl, .inr (T.r_WITH_NUMBER _), rfl, rfl, _, rfl, iteB (fun e => ?_) fun e => ?_⟩
      · have num : ∃ f m, rest u = [.text f, .num ((m : Nat) : Int)] ∧ m ∈ N := by
          cases u with
          | is f m => exact ⟨f, m, rfl, fu.2⟩
          | set f m => exact ⟨f, m, rfl, fu.2⟩
          | _ => exact Bool.noConfusion (show false = true from e)
        obtain ⟨f, m, er, hm⟩ := num
        rw [er] at n3
        cases n3 with
        | cons a1 r1 => cases r1 with
          | cons a2 r2 =>
            cases r2
            obtain rfl := nv_int a2
            refine ⟨_, rfl, c, _, _, _, rfl, rfl, SqT.of at3, atI_nat (j := 2) rfl, yes (by rw [pick, hu]; exact e) _ _ (same_refl _) ⟨m, rfl, hm⟩⟩
      · exact no (by rw [pick, hu]; exact e) _ (same_refl _)
    · intro H2 ys s2 at2 q
      have l1 := Paired.length q
      obtain ⟨ns, rfl, inN⟩ := ints_within q
      have l2 := List.length_filter_le (pick (subs t) isNum) (List.range xs.length)
      rw [List.length_range] at l2
      rw [List.length_map] at l1
      refine ⟨D, ns, N.map Int.ofNat, rfl, SqL.of at2, by omega, inN, fun q1 c nq1 few => ⟨q1, _, c, rfl, upd_same, ?_, fun ms q2 _ mem cnt nq2 => ?_⟩⟩
      · rw [List.length_map] at few; omega
      · have s3 := same_trans (same_trans (same_trans s1 s2) (same_new nq1)) (same_new nq2 (o := .lst (ms.map V.int)))
        rw [List.length_map] at few
        exact ⟨q2, _, rfl, .inl ⟨SqL.of upd_same, fun q3 nq3 => k q3 ms _ (same_trans s3 (same_new nq3)) upd_same (by omega)⟩⟩
/-- fields_in -/
def sp_fields_in : Sp := fun vs H Q _ => ∃ a t fs N, vs = [.ref a] ∧ NV H (srcD t) (.ref a) ∧ Fits fs N t ∧ (subs t).length ≤ 1000 ∧ dp t ≤ 5 ∧ ∀ p, ∀ ns : List Str, ∀ H', Same H H' → H' p = some (.lst (ns.map V.str)) → ns.length ≤ 2000 → (∀ x ∈ ns, x ∈ fs) → Q (.ref p) H'
theorem ok_fields_in (T : TX K mg) : FnOk P w K mg base CX0 7 T.a_fields_in T.fd_fields_in ["tree"] sp_fields_in := by
  refine T.F_fields_in.ok sc_fields_in (fun vs H Q E h => ?_) (fun cdv A outer s H vs Q E hr h => ?_)
  · obtain ⟨a, t, fs, N, rfl, _⟩ := h
    rfl
  · obtain ⟨a, t, fs, N, rfl, n, ft, size, deep, k⟩ := h
    refine ⟨_, (pss_cons (ps_set (i := 1) sc_fields_in.nd rfl (Or.inl rfl) (pe_lst pa_nil))
      (pss_cons (ps_for PassesOwn.never rfl (pi_list (pe_call (ok_all_trees T) (hr.mono (by omega)) rfl T.m_all_trees T.F_all_trees.kp T.b_all_trees .nil pass0 (pa_cons (pv 0) pa_nil))) (pg_name (i := 2) sc_fields_in.nd rfl (Or.inl rfl)) (pss_cons (ps_if (pt_cmpR op_in_seq (pe_ix ix_tup (pv 2) pe_int (fun _ _ => rfl)) (pe_glob (v := .ref T.p_WITH_NUMBER) (by rfl) T.g_WITH_NUMBER rfl) (by rfl)) (pss_one (ps_expr (pe_bm PySem.F.plainAttrs_list PySem.F.slot_list_append PySem.F.type_list_append mt_append (pv 1) (pa_cons (pe_ix ix_tup (pv 2) pe_int (fun _ _ => rfl)) pa_nil)))) pss_nil)
        (pss_one (ps_if (pt_cmpR op_eq (pe_ix ix_tup (pv 2) pe_int (fun _ _ => rfl)) pe_str (nomark _)) (pss_one (ps_expr (pe_bm PySem.F.plainAttrs_list PySem.F.slot_list_extend PySem.F.type_list_extend mt_extT (pv 1) (pa_cons (pe_slice sl_tup (pv 2) (po_some pe_int) po_none) pa_nil)))) pss_nil))))
      (pss_one (ps_ret (pv 1))))), ?_⟩
    refine ⟨Nat.zero_le _, fun f nf => ⟨_, rfl, a, t, rfl, n.mono (.same (same_new nf)), size, deep, fun p xs H1 s1 np at1 n1 => ⟨p, rfl, ⟨_, SqL.of at1⟩, ?_⟩⟩⟩
    have len : xs.length = (subs t).length := by rw [n1.length, srcDs_map, List.length_map]
    have pf : p ≠ f := fun e => by rw [e, upd_same] at np; cases np
    refine for_st (steady_list (K := K) (a := p) (xs := xs)) (fun i σ H' => ∃ z, σ = [some (.ref a), some (.ref f), z] ∧ Same H H' ∧ Tp H1 H' ∧ H' p = some (.lst xs) ∧ ∃ zs : List Str, H' f = some (.lst (zs.map V.str)) ∧ zs.length ≤ 2 * i ∧ ∀ x ∈ zs, x ∈ fs) ?_ ?_ ?_ ?_
    · exact ⟨_, rfl, same_trans (same_new nf) s1, Tp.refl _, at1, [], s1 _ _ upd_same, Nat.le_refl _, fun _ h => absurd h List.not_mem_nil⟩
    · rintro i σ H2 _ ⟨z, rfl, s2, tp, at2, _⟩
      exact SqL.of at2
    · rintro i v σ H2 hv ⟨z, rfl, s2, tp, at2, zs, at3, few, mem⟩
      obtain ⟨u, c, hu, rfl, nu⟩ := nvs_srcs (n1.mono tp) hv
      obtain ⟨ys, at4, n4⟩ := src_tup nu
      have fu := fits_subs ft u (List.mem_of_getElem? hu)
      have lt : i < (subs t).length := (List.getElem?_eq_some_iff.mp hu).1
      have two : ∀ {x y : D}, rest u = [x, y] → ∃ v1 v2, ys = [v1, v2] ∧ NV H2 x v1 ∧ NV H2 y v2 := fun {x y} e => by
        rw [e] at n4
        cases n4 with
        | cons a1 r1 => cases r1 with
          | cons a2 r2 => cases r2; exact ⟨_, _, rfl, a1, a2⟩
      have grown : ∀ (H3 : Hp) (ws : List Str), Same H2 H3 → ws.length ≤ 2 → (∀ x ∈ ws, x ∈ fs) → (∃ z, ([some (.ref a), some (.ref f), some (.ref c)] : L2.St) = [some (.ref a), some (.ref f), z] ∧ Same H (upd H3 f (.lst ((zs ++ ws).map V.str))) ∧ Tp H1 (upd H3 f (.lst ((zs ++ ws).map V.str))) ∧
          (upd H3 f (.lst ((zs ++ ws).map V.str))) p = some (.lst xs) ∧ ∃ zs' : List Str, (upd H3 f (.lst ((zs ++ ws).map V.str))) f = some (.lst (zs'.map V.str)) ∧ zs'.length ≤ 2 * (i + 1) ∧ ∀ x ∈ zs', x ∈ fs) := fun H3 ws s3 l2 hw => by
        have at5 := s3 _ _ at3
        refine ⟨_, rfl, same_upd (same_trans s2 s3) nf, (tp.trans (.same s3)).trans (Tp.write (by rw [at5]; exact True.intro)), by rw [upd_ne pf]; exact s3 _ _ at2, _, upd_same, by rw [List.length_append]; omega, fun x hx => ?_⟩
        rcases List.mem_append.mp hx with h | h
        · exact mem x h
        · exact hw x h
      have one : ∀ {x : Str}, x ∈ fs → ∀ y ∈ [x], y ∈ fs := fun {x} h y hy => by rw [List.mem_singleton.mp hy]; exact h
      have room : ∀ ws : List Str, ws.length ≤ 2 → (zs.map V.str).length + (ws.map V.str).length ≤ sizeLine := fun ws h => by rw [List.length_map, List.length_map, sizeLine_eq]; omega
      have sq := SqT.of (K := K) at4
      cases u with
      | is g m =>
        obtain ⟨v1, v2, rfl, e1, e2⟩ := two rfl
        obtain rfl := nv_str e1
        have at4' : SqT K (upd H2 f (.lst ((zs ++ [g]).map V.str))) c _ := SqT.of ((Tp.write (o := .lst ((zs ++ [g]).map V.str)) (by rw [at3]; exact True.intro)).tup _ _ at4)
        refine ⟨_, rfl, c, _, _, _, rfl, rfl, sq, at0, T.p_WITH_NUMBER, _, rfl, .inr (T.r_WITH_NUMBER _), rfl, rfl, true, rfl, iteT ⟨_, rfl, .inl ⟨rfl, _, SqL.of at3⟩, _, rfl, c, _, _, _, rfl, rfl, sq, atI_nat (j := 1) rfl, f, _, _, rfl, rfl, at3, ?_, ?_⟩⟩
        · have := room [g] (by simp); simp only [List.length_map, List.length_cons, List.length_nil] at this ⊢; omega
        · rw [show zs.map V.str ++ [V.str g] = (zs ++ [g]).map V.str by rw [List.map_append]; rfl]
          exact ⟨_, rfl, c, _, _, _, rfl, rfl, at4', at0, rfl, false, rfl, iteF (grown H2 [g] (same_refl _) (by simp) (one fu.1))⟩
      | set g m =>
        obtain ⟨v1, v2, rfl, e1, e2⟩ := two rfl
        obtain rfl := nv_str e1
        have at4' : SqT K (upd H2 f (.lst ((zs ++ [g]).map V.str))) c _ := SqT.of ((Tp.write (o := .lst ((zs ++ [g]).map V.str)) (by rw [at3]; exact True.intro)).tup _ _ at4)
        refine ⟨_, rfl, c, _, _, _, rfl, rfl, sq, at0, T.p_WITH_NUMBER, _, rfl, .inr (T.r_WITH_NUMBER _), rfl, rfl, true, rfl, iteT ⟨_, rfl, .inl ⟨rfl, _, SqL.of at3⟩, _, rfl, c, _, _, _, rfl, rfl, sq, atI_nat (j := 1) rfl, f, _, _, rfl, rfl, at3, ?_, ?_⟩⟩
        · have := room [g] (by simp); simp only [List.length_map, List.length_cons, List.length_nil] at this ⊢; omega
        · rw [show zs.map V.str ++ [V.str g] = (zs ++ [g]).map V.str by rw [List.map_append]; rfl]
          exact ⟨_, rfl, c, _, _, _, rfl, rfl, at4', at0, rfl, false, rfl, iteF (grown H2 [g] (same_refl _) (by simp) (one fu.1))⟩
      | take g g2 =>
        obtain ⟨v1, v2, rfl, e1, e2⟩ := two rfl
        obtain rfl := nv_str e1
        obtain rfl := nv_str e2
        refine ⟨_, rfl, c, _, _, _, rfl, rfl, sq, at0, T.p_WITH_NUMBER, _, rfl, .inr (T.r_WITH_NUMBER _), rfl, rfl, false, rfl, iteF ⟨_, rfl, c, _, _, _, rfl, rfl, sq, at0, rfl, true, rfl, iteT ?_⟩⟩
        refine ⟨_, rfl, .inl ⟨rfl, _, SqL.of at3⟩, _, rfl, _, rfl, c, _, rfl, sq, part1, fun q nq => ?_⟩
        rw [cut1]
        have s3 := same_new (o := .tup [.str g, .str g2]) nq
        refine ⟨f, q, _, _, rfl, rfl, s3 _ _ at3, SqT.of upd_same, room [g, g2] (by simp), ?_⟩
        have := grown _ [g, g2] s3 (by simp) (fun x hx => by simp at hx; rcases hx with rfl | rfl; exact fu.1; exact fu.2)
        rw [List.map_append] at this
        exact this
      | _ => exact ⟨_, rfl, c, _, _, _, rfl, rfl, sq, at0, T.p_WITH_NUMBER, _, rfl, .inr (T.r_WITH_NUMBER _), rfl, rfl, false, rfl, iteF ⟨_, rfl, c, _, _, _, rfl, rfl, sq, at0, rfl, false, rfl, iteF ⟨_, rfl, s2, tp, at2, zs, at3, by omega, mem⟩⟩⟩
    · rintro σ H2 ⟨z, rfl, s2, tp, at2, zs, at3, few, mem⟩
      exact ⟨_, rfl, k f zs H2 s2 at3 (by omega) mem⟩
end
end Mw
/-! Tuples made by tuple(..) that bear no dict of their own: their methods. -/
namespace Mw
open PySem PySem.Spec PyProof.Rows L2
/-- a tuple without a dict, as it was made -/
def PTup (H : Hp) (a : Addr) (xs : List V) : Prop := ∃ o, H a = some (.frz o (.tup xs)) ∧ o.cls = .type "tuple" ∧ o.dict = none
theorem PTup.mono {H H' : Hp} {a : Addr} {xs : List V} (t : Tp H H') (h : PTup H a xs) : PTup H' a xs := by
  obtain ⟨o, e, r⟩ := h
  exact ⟨o, t.frz _ _ _ e, r⟩
theorem PTup.sq {K : PySem.W.Frag} {H : Hp} {a : Addr} {xs : List V} (h : PTup H a xs) : SqT K H a xs := by
  obtain ⟨o, e, _⟩ := h
  exact .inl (.inr ⟨o, e⟩)
section
variable {X : Cx}
/-- tuple(xs) -/
def rTupF (K : PySem.W.Frag) : List V → Hp → VK → Prop := fun vs H Q => ∃ p ys, vs = [.ref p] ∧ SqL K H p ys ∧ ∀ l o, H l = none → PTup (upd H l o) l ys → Q (.ref l) (upd H l o)
theorem cr_tupF : CallR X (.type "tuple") (rTupF X.K) := by
  rintro pins s σ H vs us Q I r ⟨p, ys, rfl, hq, q⟩
  obtain ⟨u, rfl, rx⟩ := vals1 r
  cases rx
  obtain ⟨its, r', pl, hz⟩ := I.list hq
  have size := r'.length
  refine call_tuple_list pl.isList (fun h' kp => ?_) (by simp only [List.size_toArray] <;> omega)
  have I1 : Inv X pins σ H { s with heap := h' } := I.kept (t' := s.toks) kp
  have fresh := I1.hok.fresh (Nat.le_refl _)
  refine ⟨.ref h'.objs.size, _, I1.laid (o := .frz { cls := .type "tuple", data := .seq its.toArray } (.tup ys)) (t' := s.toks) (fun b o e => Heap.get?_push_of_some _ e) (Nat.le_refl _) ⟨Heap.get?_push_size _ rfl, ⟨hz, its, r', IsTup.new _ _⟩⟩, rfl, q _ _ fresh ⟨_, upd_same, rfl, rfl⟩⟩
/-- t.m(e, ..), t such a tuple -/
def tTM (r : V → List V → Hp → VK → Prop) (to : TE) (t : TA) : TE := fun σ H Q => to σ H fun x H1 => (∃ a xs, x = .ref a ∧ PTup H1 a xs) ∧ t σ H1 fun vs H2 => r x vs H2 Q
theorem pe_tm {id : String} {name : Str} {o e : Expr} {es : List Expr} {apos cpos : Pos} {r : V → List V → Hp → VK → Prop} {to : TE} {t : TA} (pa : PlainAttrs "tuple") (slot : Slot "tuple" name id) (ty : typeOf (.builtin id) = pure (.type "method_descriptor")) (rule : MtR X id r) (ho : PE X o to) (ha : PA X (e :: es) t)
    (base : attributeBase o name X.env (eval o X.env) = eval o X.env := by rfl)
    (few : ((backTo cpos (starEach (e :: es) X.env)).all (fun x => !x.1) && (backToKw cpos (keywordEach [] X.env)).all (fun x => x.1.isSome) && decide ((e :: es).length + ([] : List Keyword).length + (if ([] : List Keyword).isEmpty then 0 else 1) < 30)) = true := by rfl)
    (line : (apos.endLine == cpos.line) = true := by rfl) (star : starEach (e :: es) X.env = (false, eval e X.env) :: starEach es X.env := by rfl) (plain : (backTo cpos (starEach es X.env)).any (·.1) = false := by rfl) :
    PE X (.Call (.Attribute o name apos) (e :: es) [] cpos) (tTM r to t) := by
  constructor
  intro pins s σ H Q I h
  refine wpAny_Call_method_late base few line rfl (thn (ho.run pins s σ H _ I h) ?_)
  rintro v s1 ⟨x, H1, I1, r1, ⟨a, xs, rfl, pt⟩, q1⟩
  cases r1
  obtain ⟨ob, e1, c1, d1⟩ := pt
  have at1 := (I1.hok a _ e1).1
  refine ⟨"tuple", id, pa, slot, ty, ⟨ob, at1, c1⟩, fun b e => ?_, ?_⟩
  · cases e
    exact ⟨ob, at1, d1⟩
  have got := ha.run cpos pins s1 σ H1 _ I1 q1
  rw [star] at got ⊢
  refine Calls.callWith_builtin (by show (false || (backTo cpos (starEach es X.env)).any (·.1)) = false; rw [plain] <;> rfl) (Calls.evalArgs_plain ?_)
  exact thn got fun us s2 ⟨vs, H2, I2, r2, q2⟩ => rule pins s2 σ H2 (.ref a) vs (.ref a) us Q I2 rfl r2 q2
end
end Mw
/-! Comprehensions over a list of things: what they give, thing by thing. -/
namespace Mw
open PySem PySem.Spec PyProof.Rows L2
theorem paired_split {α β : Type} {F : α → β → Prop} : ∀ {l m : List α} {ys : List β}, Paired F (l ++ m) ys → ∃ y1 y2, ys = y1 ++ y2 ∧ Paired F l y1 ∧ Paired F m y2
  | [], m, ys, h => ⟨[], ys, rfl, .nil, h⟩
  | a :: l, m, ys, h => by
    cases h with
    | cons h r =>
      obtain ⟨y1, y2, rfl, r1, r2⟩ := paired_split r
      exact ⟨_ :: y1, y2, rfl, .cons h r1, r2⟩
theorem paired_join {α β : Type} {F : α → β → Prop} : ∀ {l m : List α} {y1 y2 : List β}, Paired F l y1 → Paired F m y2 → Paired F (l ++ m) (y1 ++ y2)
  | _, _, _, _, .nil, h => h
  | _, _, _, _, .cons a b, h => .cons a (paired_join b h)
theorem paired_pick {α β : Type} {l : List α} {p : α → Bool} {R : α → β → Prop} {ys : List β} (h : Paired (fun i y => ∃ x, l[i]? = some x ∧ R x y) ((List.range l.length).filter (pick l p)) ys) : Paired R (l.filter p) ys := by
  have go : ∀ (n : Nat) (ys : List β), n ≤ l.length → Paired (fun i y => ∃ x, l[i]? = some x ∧ R x y) ((List.range n).filter (pick l p)) ys → Paired R ((l.take n).filter p) ys := by
    intro n
    induction n with
    | zero => intro ys _ q; cases q; exact .nil
    | succ n ih =>
      intro ys le q
      rw [range_filter] at q
      obtain ⟨y1, y2, rfl, q1, q2⟩ := paired_split q
      rw [List.take_add_one, List.getElem?_eq_getElem (show n < l.length by omega), List.filter_append]
      refine paired_join (ih _ (by omega) q1) ?_
      have e : pick l p n = p l[n] := by rw [pick, List.getElem?_eq_getElem (show n < l.length by omega)]
      rw [e] at q2
      by_cases t : p l[n] = true
      · rw [if_pos t] at q2
        cases q2 with
        | cons a r =>
          cases r
          obtain ⟨x, hx, r⟩ := a
          rw [List.getElem?_eq_getElem (show n < l.length by omega)] at hx
          cases hx
          simp only [Option.toList, List.filter_cons, t, if_true]
          exact .cons r .nil
      · rw [if_neg t] at q2
        cases q2
        simp only [Option.toList, List.filter_cons, if_neg t]
        exact .nil
  have := go l.length ys (Nat.le_refl _) h
  rwa [List.take_length] at this
section
variable {J : It} {Kp : Hp → Prop} {vs : List V} {g : TG} {tt : TT} {te tk tv : TE} {own : List Nat} {σ : L2.St} {H1 : Hp}
/-- [e for x in l if t] -/
theorem lc_items {α : Type} {Dl : Addr} {Qd : Hp → Prop} {l : List α} (st : Steady J Kp vs) (hk : ∀ H, Same H1 H → Kp H) (p : α → Bool) (R : α → V → Hp → Prop) (mono : ∀ {a y H H'}, Tp H H' → R a y H → R a y H') (new : H1 Dl = none) (len : vs.length = l.length) (small : l.length ≤ sizeLine)
    (el : ∀ (i : Nat) (a : α) (x : V) (H : Hp), l[i]? = some a → vs[i]? = some x → Same H1 H → ∀ (Y : V → Hp → Prop) (Nn : Hp → Prop), (p a = true → ∀ y H', Same H H' → R a y H' → Y y H') → (p a = false → ∀ H', Same H H' → Nn H') →
      g x (wipe σ own) H fun σ2 H2 => wipe σ2 own = wipe σ own ∧ tt σ2 H2 fun c H3 => if c = true then te σ2 H3 Y else Nn H3)
    (hd : ∀ H ys, Same H1 H → H Dl = some (.lst ys) → Paired (fun a y => R a y H) (l.filter p) ys → Qd H) :
    ∃ W : Nat → Nat → Hp → Prop, (∃ m, W 0 m (upd H1 Dl (.lst []))) ∧ ∀ i m H, W i m H →
      (J.stop i H ∧ Qd H) ∨ (J.go i H ∧ ∃ Nx : Hp → Prop, (∀ H', Nx H' → ∃ m', m' < m ∧ W (i + 1) m' H') ∧ ∀ x H', J.yld i H x H' → g x (wipe σ own) H' fun σ2 H2 => wipe σ2 own = wipe σ own ∧ tt σ2 H2 fun b H3 =>
        if b = true then te σ2 H3 fun y H4 => ∃ acc, H4 Dl = some (.lst acc) ∧ acc.length < sizeLine ∧ Nx (upd H4 Dl (.lst (acc ++ [y]))) else Nx H3) := by
  refine lc_pure st hk (pick l p) (fun i y H => ∃ x, l[i]? = some x ∧ R x y H) (fun {_ _ _ _} t ⟨x, hx, r⟩ => ⟨x, hx, mono t r⟩) new (by rw [len]; exact small) ?_ fun H ys s at_ q => hd H ys s at_ (paired_pick (by rw [← len]; exact q))
  intro i x H hx s Y Nn yes no
  have lt : i < l.length := len ▸ (List.getElem?_eq_some_iff.mp hx).1
  have e := List.getElem?_eq_getElem lt
  have pe : pick l p i = p l[i] := by rw [pick, e]
  exact el i l[i] x H e hx s Y Nn (fun t y H' s' r => yes (pe.trans t) y H' s' ⟨_, e, r⟩) fun t H' s' => no (pe.trans t) H' s'
theorem filter_all {α : Type} (l : List α) : l.filter (fun _ => true) = l := List.filter_eq_self.mpr fun _ _ => rfl
/-- .. of all of it -/
theorem lc_each {α : Type} {Dl : Addr} {Qd : Hp → Prop} {l : List α} (st : Steady J Kp vs) (hk : ∀ H, Same H1 H → Kp H) (R : α → V → Hp → Prop) (mono : ∀ {a y H H'}, Tp H H' → R a y H → R a y H') (new : H1 Dl = none) (len : vs.length = l.length) (small : l.length ≤ sizeLine)
    (el : ∀ (i : Nat) (a : α) (x : V) (H : Hp), l[i]? = some a → vs[i]? = some x → Same H1 H → ∀ (Y : V → Hp → Prop), (∀ y H', Same H H' → R a y H' → Y y H') →
      g x (wipe σ own) H fun σ2 H2 => wipe σ2 own = wipe σ own ∧ te σ2 H2 Y)
    (hd : ∀ H ys, Same H1 H → H Dl = some (.lst ys) → Paired (fun a y => R a y H) l ys → Qd H) :
    ∃ W : Nat → Nat → Hp → Prop, (∃ m, W 0 m (upd H1 Dl (.lst []))) ∧ ∀ i m H, W i m H →
      (J.stop i H ∧ Qd H) ∨ (J.go i H ∧ ∃ Nx : Hp → Prop, (∀ H', Nx H' → ∃ m', m' < m ∧ W (i + 1) m' H') ∧ ∀ x H', J.yld i H x H' → g x (wipe σ own) H' fun σ2 H2 => wipe σ2 own = wipe σ own ∧ tYes σ2 H2 fun b H3 =>
        if b = true then te σ2 H3 fun y H4 => ∃ acc, H4 Dl = some (.lst acc) ∧ acc.length < sizeLine ∧ Nx (upd H4 Dl (.lst (acc ++ [y]))) else Nx H3) := by
  refine lc_pure (tt := tYes) st hk (fun _ => true) (fun i y H => ∃ x, l[i]? = some x ∧ R x y H) (fun {_ _ _ _} t ⟨x, hx, r⟩ => ⟨x, hx, mono t r⟩) new (by rw [len]; exact small) ?_ ?_
  · intro i x H hx s Y Nn yes no
    have lt : i < l.length := len ▸ (List.getElem?_eq_some_iff.mp hx).1
    have e := List.getElem?_eq_getElem lt
    simp only [tYes, if_true]
    exact el i l[i] x H e hx s Y fun y H' s' r => yes rfl y H' s' ⟨_, e, r⟩
  · intro H ys s at_ q
    rw [filter_all] at q
    have q2 : Paired (fun a y => R a y H) (l.filter fun _ => true) ys := paired_pick (p := fun _ => true) (by
      have e : (List.range l.length).filter (pick l fun _ => true) = List.range l.length := List.filter_eq_self.mpr fun i hi => by
        rw [pick, List.getElem?_eq_getElem (List.mem_range.mp hi)]
      rw [e, ← len]
      exact q)
    rw [filter_all] at q2
    exact hd H ys s at_ q2
end
end Mw
/-! holds, by the depth of the test; written; past_leaf. -/
namespace Mw
open PySem L2
theorem idx_at : ∀ {fs : List Str} {f : Str}, f ∈ fs → fs[at_ fs f]? = some f
  | g :: fs, f, h => by
    unfold at_
    rw [List.idxOf_cons]
    by_cases e : g = f
    · subst e; simp
    · have ne : (g == f) = false := beq_eq_false_iff_ne.mpr e
      rw [ne]
      exact idx_at (fs := fs) ((List.mem_cons.mp h).resolve_left fun q => e q.symm)
theorem idx_first : ∀ {fs : List Str} {f : Str} {m : Nat}, m < at_ fs f → fs[m]? ≠ some f
  | [], f, m, h => by simp
  | g :: fs, f, m, h => by
    unfold at_ at h
    rw [List.idxOf_cons] at h
    by_cases e : g = f
    · subst e; simp at h
    · have ne : (g == f) = false := beq_eq_false_iff_ne.mpr e
      rw [ne] at h
      cases m with
      | zero => simpa using e
      | succ m => exact idx_first (fs := fs) (m := m) (by simpa [at_] using h)
theorem at_lt {fs : List Str} {f : Str} (h : f ∈ fs) : at_ fs f < fs.length := List.idxOf_lt_length_of_mem h
section
variable {P : Program} {w : World} {K : PySem.W.Frag} {mg : Str → Option Value} {base : Heap}
theorem holdsAll_eq {fs : List Str} {p : Pk} : ∀ ts : List Src, holdsAll fs ts p = (ts.map fun t => holds fs t p).all id
  | [] => rfl
  | t :: ts => by rw [holdsAll, holdsAll_eq ts, List.map_cons, List.all_cons]; rfl
theorem holdsAny_eq {fs : List Str} {p : Pk} : ∀ ts : List Src, holdsAny fs ts p = (ts.map fun t => holds fs t p).any id
  | [] => rfl
  | t :: ts => by rw [holdsAny, holdsAny_eq ts, List.map_cons, List.any_cons]; rfl
def sp_holds (d : Nat) : Sp := fun vs H Q _ => ∃ a b c fs N t, ∃ p : Pk, vs = [.ref a, .ref b, .ref c] ∧ PTup H a (fs.map V.str) ∧ NV H (srcD t) (.ref b) ∧ NV H (pkD p) (.ref c) ∧ Fits fs N t ∧ p.length = fs.length ∧ (subs t).length ≤ 1000 ∧ dp t ≤ d ∧ ∀ H', Same H H' → Q (.bl (holds fs t p)) H'
theorem bools_of {α : Type} {f : α → Bool} : ∀ {ts : List α} {ys : List V}, Paired (fun u y => y = V.bl (f u)) ts ys → ys = (ts.map f).map V.bl
  | _, _, .nil => rfl
  | _, _, .cons e r => by rw [e, bools_of r]; rfl
theorem ok_holds1 (T : TX K mg) {d k : Nat} (G : FnOk P w K mg base CX0 k T.a_holds T.fd_holds ["fields", "test", "packet"] (sp_holds d)) :
    FnOk P w K mg base CX0 (k + 1) T.a_holds T.fd_holds ["fields", "test", "packet"] (sp_holds (d + 1)) := by
  refine T.F_holds.ok sc_holds (fun vs H Q E h => ?_) (fun cdv A outer s H vs Q E hr h => ?_)
  · obtain ⟨a, b, c, fs, N, t, p, rfl, _⟩ := h
    rfl
  · obtain ⟨a, b, c, fs, N, t, p, rfl, hf, nt, np, ft, len, size, deep, k⟩ := h
    refine ⟨_, (pss_cons (ps_set (i := 3) sc_holds.nd rfl (Or.inl rfl) (pe_ix ix_tup (pv 1) pe_int (fun _ _ => rfl)))
      (pss_cons (ps_if (pt_cmpR op_eq (pv 3) pe_str (nomark _)) (pss_one (ps_ret (pe_cmp (pc_eqI (pe_ix ix_tup (pv 2) (pe_tm PySem.F.plainAttrs_tuple PySem.F.slot_tuple_index PySem.F.type_tuple_index mt_tup_index (pv 0) (pa_cons (pe_ix ix_tup (pv 1) pe_int (fun _ _ => rfl)) pa_nil)) (fun _ _ => rfl)) (pe_ix ix_tup (pv 1) pe_int (fun _ _ => rfl))) rfl))) pss_nil)
      (pss_cons (ps_if (pt_cmpR op_eq (pv 3) pe_str (nomark _)) (pss_one (ps_ret (pe_not (pe_call G (hr.mono (by omega)) rfl T.m_holds_programs T.F_holds.kp T.b_holds .nil pass0 (pa_cons (pv 0) (pa_cons (pe_ix ix_tup (pv 1) pe_int (fun _ _ => rfl)) (pa_cons (pv 2) pa_nil))))))) pss_nil)
      (pss_cons (ps_if (pt_cmpR op_eq (pv 3) pe_str (nomark _)) (pss_one (ps_ret (pe_callB (cr_all rfl) (by rfl) T.z_all (by decide +kernel) (pa_cons (pe_lc (own := [("part", 4)]) (g := (gName 4)) (tt := tYes) (te := (tCall (sp_holds d) [] E0 (tCons (tVar 0) (tCons (tVar 4) (tCons (tVar 2) tNil))))) rfl sc_holds.nd (pi_tup (pe_slice sl_tup (pv 1) (po_some pe_int) po_none)) (blkOk_by (own := [("part", 4)]) (N := ["fields", "test", "packet", "word", "part"]) (sc := defScope s_holds) (by decide +kernel)) (fun _ _ _ _ _ => (pg_name (i := 4) sc_holds.nd rfl (Or.inl rfl))) (fun _ _ _ _ _ => pts_nil) (fun _ _ _ _ _ => (pe_call G (hr.mono (by omega)) rfl T.m_holds_programs T.F_holds.kp T.b_holds .nil pass0 (pa_cons (pv 0) (pa_cons (pv 4) (pa_cons (pv 2) pa_nil)))))) pa_nil)))) pss_nil)
      (pss_cons (ps_if (pt_cmpR op_eq (pv 3) pe_str (nomark _)) (pss_one (ps_ret (pe_callB (cr_any rfl) (by rfl) T.z_any (by decide +kernel) (pa_cons (pe_lc (own := [("part", 4)]) (g := (gName 4)) (tt := tYes) (te := (tCall (sp_holds d) [] E0 (tCons (tVar 0) (tCons (tVar 4) (tCons (tVar 2) tNil))))) rfl sc_holds.nd (pi_tup (pe_slice sl_tup (pv 1) (po_some pe_int) po_none)) (blkOk_by (own := [("part", 4)]) (N := ["fields", "test", "packet", "word", "part"]) (sc := defScope s_holds) (by decide +kernel)) (fun _ _ _ _ _ => (pg_name (i := 4) sc_holds.nd rfl (Or.inl rfl))) (fun _ _ _ _ _ => pts_nil) (fun _ _ _ _ _ => (pe_call G (hr.mono (by omega)) rfl T.m_holds_programs T.F_holds.kp T.b_holds .nil pass0 (pa_cons (pv 0) (pa_cons (pv 4) (pa_cons (pv 2) pa_nil)))))) pa_nil)))) pss_nil)
      (pss_one (ps_ret (pe_cmpR op_eq (pv 3) pe_str (nomark _))))))))), ?_⟩
    obtain ⟨xs, ht, nr⟩ := src_tup nt
    have sq : SqT K H b (.str (word t) :: xs) := SqT.of ht
    refine ⟨_, rfl, b, _, _, _, rfl, rfl, sq, at0, ?_⟩
    have two : ∀ {x y : D}, rest t = [x, y] → ∃ v1 v2, xs = [v1, v2] ∧ NV H x v1 ∧ NV H y v2 := fun {x y} e => by
      rw [e] at nr
      cases nr with
      | cons a1 r1 => cases r1 with
        | cons a2 r2 => cases r2; exact ⟨_, _, rfl, a1, a2⟩
    cases t with
    | is f m =>
      obtain ⟨v1, v2, rfl, e1, e2⟩ := two rfl
      obtain rfl := nv_str e1
      obtain rfl := nv_int e2
      refine ⟨_, rfl, rfl, true, rfl, iteT ?_⟩
      have at2 : (p.map fun (v : Nat) => V.int (v : Int))[at_ fs f]? = some (.int ((p.getD (at_ fs f) 0 : Nat) : Int)) := by
        have lt : at_ fs f < p.length := len ▸ at_lt ft.1
        rw [List.getElem?_map, List.getD_eq_getElem?_getD, List.getElem?_eq_getElem lt]
        rfl
      refine ⟨_, rfl, _, rfl, ⟨a, _, rfl, hf⟩, _, rfl, b, _, _, _, rfl, rfl, sq, atI_nat (j := 1) rfl, a, fs, f, at_ fs f, rfl, rfl, hf.sq, idx_at ft.1, fun m hm => idx_first hm, ?_⟩
      refine ⟨c, _, _, _, rfl, rfl, SqT.of (pk_tup np), atI_nat at2, _, rfl, b, _, _, _, rfl, rfl, sq, atI_nat (j := 2) rfl, _, _, rfl, rfl, ?_⟩
      have e : holds fs (.is f m) p = decide (((p.getD (at_ fs f) 0 : Nat) : Int) = (m : Int)) := by
        rw [holds, Bool.beq_eq_decide_eq]
        exact decide_eq_decide.mpr Int.ofNat_inj.symm
      show Q (.bl (decide _)) H
      rw [← e]
      exact k H (same_refl H)
    | not u =>
      obtain ⟨v1, rfl, e1⟩ : ∃ v1, xs = [v1] ∧ NV H (srcD u) v1 := by
        cases nr with
        | cons a1 r1 => cases r1; exact ⟨_, rfl, a1⟩
      obtain ⟨q, _, rfl, _⟩ := nv_tup (srcD_eq u ▸ e1)
      refine ⟨_, rfl, rfl, false, rfl, iteF ⟨_, rfl, rfl, true, rfl, iteT ?_⟩⟩
      simp only [subs, List.length_cons] at size
      simp only [dp] at deep
      exact ⟨_, rfl, _, rfl, b, _, _, _, rfl, rfl, sq, atI_nat (j := 1) rfl, _, rfl, a, q, c, fs, N, u, p, rfl, hf, e1, np, ft, len, by omega, by omega, fun H2 s2 => ⟨_, rfl, by rw [holds] at k; exact k _ s2⟩⟩
    | row ts =>
      refine ⟨_, rfl, rfl, false, rfl, iteF ⟨_, rfl, rfl, false, rfl, iteF ⟨_, rfl, rfl, true, rfl, iteT ⟨_, rfl, 1, rfl, b, _, rfl, sq, part1, fun q nq => ?_⟩⟩⟩⟩
      rw [cut1]
      simp only [subs, List.length_cons] at size
      simp only [dp] at deep
      have few := subss_len ts
      have s1 : Same H (upd H q (.tup xs)) := same_new nq
      have at2 : (upd H q (.tup xs)) q = some (.tup xs) := upd_same
      have n2 : NVs (upd H q (.tup xs)) (srcDs ts) xs := nr.mono (.same s1)
      refine ⟨q, rfl, ⟨_, SqT.of at2⟩, fun D hD => lc_each (l := ts) (steady_tup (K := K) (a := q) (xs := xs)) (fun H2 s2 => SqT.of (s2 _ _ at2)) (fun u y _ => y = V.bl (holds fs u p)) (fun {_ _ _ _} _ h => h) hD (by rw [n2.length, srcDs_map, List.length_map]) (by rw [sizeLine_eq]; omega) ?_ ?_⟩
      · intro i u v H2 hu hv s2 Y yes
        obtain ⟨u', r, hu', rfl, nu⟩ := nvs_srcs (n2.mono (.same s2)) hv
        obtain rfl := Option.some.inj (hu.symm.trans hu')
        have mem := List.mem_of_getElem? hu
        have d1 := dps_mem mem
        have z1 := subss_mem mem
        have s12 := same_trans s1 s2
        exact ⟨rfl, _, rfl, _, rfl, _, rfl, a, r, c, fs, N, u, p, rfl, hf.mono (.same s12), nu, np.mono (.same s12), fits_mem ft mem, len, by omega, by omega, fun H3 s3 => yes _ _ s3 rfl⟩
      · intro H2 ys s2 at3 h
        obtain rfl := bools_of h
        refine ⟨D, _, rfl, SqL.of at3, ?_⟩
        rw [← holdsAll_eq]
        rw [holds] at k
        exact k _ (same_trans s1 s2)
    | alt ts =>
      refine ⟨_, rfl, rfl, false, rfl, iteF ⟨_, rfl, rfl, false, rfl, iteF ⟨_, rfl, rfl, false, rfl, iteF ⟨_, rfl, rfl, true, rfl, iteT ⟨_, rfl, 1, rfl, b, _, rfl, sq, part1, fun q nq => ?_⟩⟩⟩⟩⟩
      rw [cut1]
      simp only [subs, List.length_cons] at size
      simp only [dp] at deep
      have few := subss_len ts
      have s1 : Same H (upd H q (.tup xs)) := same_new nq
      have at2 : (upd H q (.tup xs)) q = some (.tup xs) := upd_same
      have n2 : NVs (upd H q (.tup xs)) (srcDs ts) xs := nr.mono (.same s1)
      refine ⟨q, rfl, ⟨_, SqT.of at2⟩, fun D hD => lc_each (l := ts) (steady_tup (K := K) (a := q) (xs := xs)) (fun H2 s2 => SqT.of (s2 _ _ at2)) (fun u y _ => y = V.bl (holds fs u p)) (fun {_ _ _ _} _ h => h) hD (by rw [n2.length, srcDs_map, List.length_map]) (by rw [sizeLine_eq]; omega) ?_ ?_⟩
      · intro i u v H2 hu hv s2 Y yes
        obtain ⟨u', r, hu', rfl, nu⟩ := nvs_srcs (n2.mono (.same s2)) hv
        obtain rfl := Option.some.inj (hu.symm.trans hu')
        have mem := List.mem_of_getElem? hu
        have d1 := dps_mem mem
        have z1 := subss_mem mem
        have s12 := same_trans s1 s2
        exact ⟨rfl, _, rfl, _, rfl, _, rfl, a, r, c, fs, N, u, p, rfl, hf.mono (.same s12), nu, np.mono (.same s12), fits_mem ft mem, len, by omega, by omega, fun H3 s3 => yes _ _ s3 rfl⟩
      · intro H2 ys s2 at3 h
        obtain rfl := bools_of h
        refine ⟨D, _, rfl, SqL.of at3, ?_⟩
        rw [← holdsAny_eq]
        rw [holds] at k
        exact k _ (same_trans s1 s2)
    | pass => exact ⟨_, rfl, rfl, false, rfl, iteF ⟨_, rfl, rfl, false, rfl, iteF ⟨_, rfl, rfl, false, rfl, iteF ⟨_, rfl, rfl, false, rfl, iteF ⟨_, rfl, rfl, k H (same_refl H)⟩⟩⟩⟩⟩
    | _ => exact ⟨_, rfl, rfl, false, rfl, iteF ⟨_, rfl, rfl, false, rfl, iteF ⟨_, rfl, rfl, false, rfl, iteF ⟨_, rfl, rfl, false, rfl, iteF ⟨_, rfl, rfl, k H (same_refl H)⟩⟩⟩⟩⟩
end
end Mw
/-! written, past_leaf; dicts that stand for sets of packets and of entries. -/
namespace Mw
open PySem L2
theorem cut_to {xs : List V} {i : Nat} (h : i ≤ xs.length) : cutV xs none (some (i : Int)) = xs.take i := by
  unfold cutV
  rw [HT.sIx_none, HT.sIx_nat, List.drop_zero, Nat.sub_zero, Nat.min_eq_left h]
theorem cut_from {xs : List V} {i : Nat} (h : i ≤ xs.length) : cutV xs (some (i : Int)) none = xs.drop i := by
  unfold cutV
  rw [HT.sIx_none, HT.sIx_nat, Nat.min_eq_left h]
  exact List.take_of_length_le (by rw [List.length_drop]; omega)
theorem same_none {H H' : Hp} {a : Addr} (s : Same H H') (h : H' a = none) : H a = none := by
  cases e : H a with
  | none => rfl
  | some o => rw [s a o e] at h; cases h
theorem depth_nums : ∀ p : Pk, NestedKey.depthAll (p.map fun (v : Nat) => NestedKey.num (v : Int)) ≤ 1
  | [] => by simp [NestedKey.depthAll]
  | v :: p => by
    have := depth_nums p
    rw [List.map_cons, NestedKey.depthAll, NestedKey.depth]
    omega
theorem depth_pk (p : Pk) : (pkD p).depth ≤ 3 := by
  have := depth_nums p
  rw [pkD, NestedKey.depth]
  omega
def entD (e : Nat × Pk) : D := .tup [.num (e.1 : Int), pkD e.2]
theorem depth_ent (e : Nat × Pk) : (entD e).depth ≤ 8 := by
  have := depth_pk e.2
  simp only [entD, NestedKey.depth, NestedKey.depthAll]
  omega
theorem entD_inj {e f : Nat × Pk} (h : entD e = entD f) : e = f := by
  simp only [entD, NestedKey.tup.injEq, List.cons.injEq, NestedKey.num.injEq, and_true] at h
  exact Prod.ext (Int.ofNat_inj.mp h.1) (pkD_inj h.2)
theorem map_of {α β : Type} {f : α → β} : ∀ {l : List β}, (∀ b ∈ l, ∃ a, f a = b) → ∃ as : List α, l = as.map f
  | [], _ => ⟨[], rfl⟩
  | b :: l, h => by
    obtain ⟨a, e⟩ := h b List.mem_cons_self
    obtain ⟨as, e2⟩ := map_of fun x hx => h x (List.mem_cons_of_mem _ hx)
    exact ⟨a :: as, by rw [List.map_cons, e, e2]⟩
section
variable {P : Program} {w : World} {K : PySem.W.Frag} {mg : Str → Option Value} {base : Heap}
/-- a locked dict whose keys are these things -/
def FS {α : Type} (P : Program) (w : World) (f : α → D) (H : Hp) (d : Addr) (l : List α) : Prop := ∃ kvs, FD P w H d kvs ∧ kvs.map (·.1) = l.map f
theorem FS.mono {α : Type} {f : α → D} {H H' : Hp} {d : Addr} {l : List α} (t : Tp H H') (h : FS P w f H d l) : FS P w f H' d l := by
  obtain ⟨kvs, a, b⟩ := h
  exact ⟨kvs, a.mono t, b⟩
theorem FS.nodup {α : Type} {f : α → D} {H : Hp} {d : Addr} {l : List α} (h : FS P w f H d l) : l.Nodup := by
  obtain ⟨kvs, a, b⟩ := h
  have n := a.nodup
  rw [b] at n
  exact (List.pairwise_map.mp n).imp fun q e => q (by rw [e])
abbrev FP (P : Program) (w : World) (H : Hp) (d : Addr) (l : List Pk) : Prop := FS P w pkD H d l
abbrev FE (P : Program) (w : World) (H : Hp) (d : Addr) (l : List (Nat × Pk)) : Prop := FS P w entD H d l
/-- {f a: z for a in l if p a} -/
theorem dc_items {J : It} {Kp : Hp → Prop} {vs : List V} {g : TG} {tt : TT} {tk tv : TE} {own : List Nat} {σ : L2.St} {H1 : Hp} {α : Type} {Dd : Addr} {o : HO} {Qd : Hp → Prop} {l : List α} (st : Steady J Kp vs) (hk : ∀ H, Same H1 H → Kp H) (p : α → Bool) (f : α → D) (z : V) (new : H1 Dd = none) (m0 : MD P w (upd H1 Dd o) Dd [])
    (len : vs.length = l.length) (small : l.length ≤ sizeLine)
    (el : ∀ (i : Nat) (a : α) (x : V) (H : Hp), l[i]? = some a → vs[i]? = some x → Same H1 H → ∀ (Y : V → V → Hp → Prop) (Nn : Hp → Prop), (p a = true → ∀ y H', Same H H' → KeyV H' (f a) y → Y y z H') → (p a = false → ∀ H', Same H H' → Nn H') →
      g x (wipe σ own) H fun σ2 H2 => wipe σ2 own = wipe σ own ∧ tt σ2 H2 fun c H3 => if c = true then tk σ2 H3 fun y H4 => tv σ2 H4 fun z H5 => Y y z H5 else Nn H3)
    (hd : ∀ H kvs, Same H1 H → MD P w H Dd kvs → kvs.length ≤ l.length → (∀ j, j ∈ kvs.map (·.1) ↔ ∃ a ∈ l, p a = true ∧ f a = j) → Qd H) :
    ∃ W : Nat → Nat → Hp → Prop, (∃ m, W 0 m (upd H1 Dd o)) ∧ ∀ i m H, W i m H →
      (J.stop i H ∧ Qd H) ∨ (J.go i H ∧ ∃ Nx : Hp → Prop, (∀ H', Nx H' → ∃ m', m' < m ∧ W (i + 1) m' H') ∧ ∀ x H', J.yld i H x H' → g x (wipe σ own) H' fun σ2 H2 => wipe σ2 own = wipe σ own ∧ tt σ2 H2 fun b H3 =>
        if b = true then tk σ2 H3 fun y H4 => tv σ2 H4 fun z H5 => ∃ kvs k, MD P w H5 Dd kvs ∧ KeyV H5 k y ∧ kvs.length < sizeLine ∧ ∀ o, MD P w (upd H5 Dd o) Dd (putK kvs k z) → Nx (upd H5 Dd o) else Nx H3) := by
  refine dc_pure st hk (pick l p) (fun i => match l[i]? with | some a => f a | none => .num 0) z new m0 (by rw [len]; exact small) ?_ fun H s m => hd H _ s m (by have := made_len (pick l p) (fun i => match l[i]? with | some a => f a | none => .num 0) z vs.length; omega) fun j => ?_
  · intro i x H hx s Y Nn yes no
    have lt : i < l.length := len ▸ (List.getElem?_eq_some_iff.mp hx).1
    have e := List.getElem?_eq_getElem lt
    have pe : pick l p i = p l[i] := by rw [pick, e]
    exact el i l[i] x H e hx s Y Nn (fun t y H' s' r => yes (pe.trans t) y H' s' (by rw [e]; exact r)) fun t H' s' => no (pe.trans t) H' s'
  · rw [mem_made, len]
    constructor
    · rintro ⟨n, lt, b, e⟩
      have en := List.getElem?_eq_getElem lt
      rw [en] at e
      rw [pick, en] at b
      exact ⟨_, List.getElem_mem lt, b, e⟩
    · rintro ⟨a, m, b, e⟩
      obtain ⟨n, lt, q⟩ := List.getElem_of_mem m
      have en := List.getElem?_eq_getElem lt
      refine ⟨n, lt, ?_, ?_⟩
      · rw [pick, en, q]; exact b
      · rw [en, q]; exact e
/-- written -/
def sp_written : Sp := fun vs H Q _ => ∃ a, ∃ p : Pk, ∃ i m : Nat, vs = [.ref a, .int (i : Int), .int (m : Int)] ∧ NV H (pkD p) (.ref a) ∧ i < p.length ∧ p.length ≤ 1000 ∧ ∀ q H', Same H H' → NV H' (pkD (p.set i m)) (.ref q) → Q (.ref q) H'
theorem nv_pk {H : Hp} {p : Pk} {a : Addr} (h : H a = some (.tup (p.map fun (v : Nat) => .int (v : Int)))) : NV H (pkD p) (.ref a) := by
  refine .tup h ?_
  clear h
  induction p with
  | nil => exact .nil
  | cons v p ih => exact .cons (.num _) ih
theorem ok_written (T : TX K mg) : FnOk P w K mg base CX0 1 T.a_written T.fd_written ["packet", "place", "number"] sp_written := by
  refine T.F_written.ok sc_written (fun vs H Q E h => ?_) (fun cdv A outer s H vs Q E hr h => ?_)
  · obtain ⟨a, p, i, m, rfl, _⟩ := h
    rfl
  · obtain ⟨a, p, i, m, rfl, n, lt, small, k⟩ := h
    have at1 := pk_tup n
    refine ⟨_, (pss_one (ps_ret (pe_tup (StX.pa_star (pe_slice sl_tup (pv 0) po_none (po_some (pv 1))) (pa_cons (pv 2) (StX.pa_star (pe_slice sl_tup (pv 0) (po_some (pe_op op_add (pv 1) pe_int)) po_none) pa_nil)))))), ?_⟩
    have len : (p.map fun (v : Nat) => V.int (v : Int)).length = p.length := List.length_map ..
    refine ⟨_, rfl, _, rfl, (i : Int), rfl, a, _, rfl, SqT.of at1, ?_, fun q nq => ?_⟩
    · rw [HT.sIx_nat, len]; omega
    rw [cut_to (by rw [len]; omega)]
    have s1 := same_new (o := .tup ((p.map fun (v : Nat) => V.int (v : Int)).take i)) nq
    refine ⟨q, _, rfl, .inl (SqT.of upd_same), _, rfl, _, rfl, _, rfl, (i : Int), 1, rfl, rfl, ((i : Int) + 1), rfl, a, _, rfl, SqT.of (s1 _ _ at1), ?_, fun r nr => ?_⟩
    · rw [show (i : Int) + 1 = ((i + 1 : Nat) : Int) from rfl, HT.sIx_nat, len]; omega
    rw [show (i : Int) + 1 = ((i + 1 : Nat) : Int) from rfl, cut_from (by rw [len]; omega)]
    have s2 := same_trans s1 (same_new (o := .tup ((p.map fun (v : Nat) => V.int (v : Int)).drop (i + 1))) nr)
    refine ⟨r, _, rfl, .inl (SqT.of upd_same), ?_, fun t nt => k t _ (same_trans s2 (same_new nt)) (nv_pk ?_)⟩
    · simp only [List.length_append, List.length_cons, List.length_take, List.length_drop, len, List.length_nil]
      rw [sizeLine_eq]
      omega
    · rw [upd_same, List.append_nil, List.set_eq_take_append_cons_drop, if_pos lt, List.map_append, List.map_cons, List.map_take, List.map_drop]
end
end Mw
/-! past_leaf. -/
namespace Mw
open PySem L2
section
variable {P : Program} {w : World} {K : PySem.W.Frag} {mg : Str → Option Value} {base : Heap}
theorem key_at {α : Type} {f : α → D} {H : Hp} {l : List α} {vs : List V} {i : Nat} {a : α} {x : V} (ak : AllKey H (l.map f) vs) (ha : l[i]? = some a) (hx : vs[i]? = some x) : KeyV H (f a) x := by
  obtain ⟨k, e, h⟩ := ak.get hx
  rw [List.getElem?_map, ha] at e
  cases e
  exact h
theorem pk_key {H : Hp} {p : Pk} {q : Addr} (n : NV H (pkD p) (.ref q)) : KeyV H (pkD p) (.ref q) := ⟨n, by have := depth_pk p; omega, _, rfl⟩
theorem ok_holds_by (T : TX K mg) : ∀ d : Nat, FnOk P w K mg base CX0 (d + 1) T.a_holds T.fd_holds ["fields", "test", "packet"] (sp_holds d)
  | 0 => by
    have no : ∀ {vs H Q E}, ¬ sp_holds 0 vs H Q E := fun {vs H Q E} h => by
      obtain ⟨a, b, c, fs, N, t, p, rfl, _, _, _, _, _, _, deep, _⟩ := h
      have := dp_pos t
      omega
    exact T.F_holds.ok sc_holds (fun vs H Q E h => absurd h no) (fun cdv A outer s H vs Q E hr h => absurd h no)
  | d + 1 => ok_holds1 T (ok_holds_by T d)
theorem ok_holds (T : TX K mg) : FnOk P w K mg base CX0 6 T.a_holds T.fd_holds ["fields", "test", "packet"] (sp_holds 5) := ok_holds_by T 5
def sp_past_leaf (P : Program) (w : World) : Sp := fun vs H Q _ => ∃ a b d fs N t ps, vs = [.ref a, .ref b, .ref d] ∧ PTup H a (fs.map V.str) ∧ NV H (srcD t) (.ref b) ∧ FP P w H d ps ∧ Fits fs N t ∧ (∀ p ∈ ps, p.length = fs.length) ∧ (subs t).length ≤ 1000 ∧ dp t ≤ 5 ∧ fs.length ≤ 1000 ∧ ps.length ≤ 1000 ∧
  ∀ r qs H', Same H H' → FP P w H' r qs → (∀ q, q ∈ qs ↔ ∃ p ∈ ps, act fs t p = some q) → Q (.ref r) H'
/-- a new dict made of the packets that pass -/
theorem past_made {H H2 : Hp} {Dd : Addr} {kvs : List (D × V)} {ps : List Pk} {g : Pk → Option Pk} {p : Pk → Bool} {f : Pk → D} {R : Addr → Hp → Prop} (nD : H Dd = none) (s : Same H H2) (m : MD P w H2 Dd kvs) (mem : ∀ j, j ∈ kvs.map (·.1) ↔ ∃ a ∈ ps, p a = true ∧ f a = j) (same : ∀ a j, (p a = true ∧ f a = j) ↔ ∃ q, g a = some q ∧ pkD q = j)
    (k : ∀ r qs H', Same H H' → FP P w H' r qs → (∀ q, q ∈ qs ↔ ∃ p ∈ ps, g p = some q) → R r H') : ∃ d kvs', V.ref Dd = .ref d ∧ MD P w H2 d kvs' ∧ ∀ o, FD P w (upd H2 d o) d kvs' → R d (upd H2 d o) := by
  obtain ⟨qs, e⟩ : ∃ qs : List Pk, kvs.map (·.1) = qs.map pkD := map_of fun j hj => by
    obtain ⟨a, _, h⟩ := (mem j).mp hj
    obtain ⟨q, _, e⟩ := (same a j).mp h
    exact ⟨q, e⟩
  refine ⟨Dd, kvs, rfl, m, fun o fd => k Dd qs _ (same_upd s nD) ⟨kvs, fd, e⟩ fun q => ?_⟩
  have e1 : q ∈ qs ↔ pkD q ∈ kvs.map (·.1) := by
    rw [e, List.mem_map]
    exact ⟨fun h => ⟨q, h, rfl⟩, fun ⟨q', h, e⟩ => pkD_inj e ▸ h⟩
  rw [e1, mem]
  constructor
  · rintro ⟨a, h1, h2⟩
    obtain ⟨q', h3, e⟩ := (same a _).mp h2
    exact ⟨a, h1, pkD_inj e ▸ h3⟩
  · rintro ⟨a, h1, h2⟩
    exact ⟨a, h1, (same a _).mpr ⟨q, h2, rfl⟩⟩
theorem ok_past_leaf (T : TX K mg) : FnOk P w K mg base CX0 7 T.a_past_leaf T.fd_past_leaf ["fields", "tree", "some"] (sp_past_leaf P w) := by
  refine T.F_past_leaf.ok sc_past_leaf (fun vs H Q E h => ?_) (fun cdv A outer s H vs Q E hr h => ?_)
  · obtain ⟨a, b, d, fs, N, t, ps, rfl, _⟩ := h
    rfl
  · obtain ⟨a, b, d, fs, N, t, ps, rfl, hf, nt, ⟨kvs, fd, ek⟩, ft, lens, size, deep, fl, pl, k⟩ := h
    refine ⟨_, (pss_cons (ps_if (pt_cmpR op_eq (pe_ix ix_tup (pv 1) pe_int (fun _ _ => rfl)) pe_str (nomark _)) (pss_cons (ps_set (i := 3) sc_past_leaf.nd rfl (Or.inr rfl) (pe_tm PySem.F.plainAttrs_tuple PySem.F.slot_tuple_index PySem.F.type_tuple_index mt_tup_index (pv 0) (pa_cons (pe_ix ix_tup (pv 1) pe_int (fun _ _ => rfl)) pa_nil)))
        (pss_one (ps_ret (pe_nfrz (pe_dcn (own := [("packet", 5)]) (g := (gName 5)) (tt := tYes) (tk := (tCall sp_written [] E0 (tCons (tVar 5) (tCons (tVar 3) (tCons (tOp (rIxT K) (tVar 1) (tC (.int 2))) tNil))))) (tv := (tC (.bl true))) (hu_of2 hr) rfl sc_past_leaf.nd (pi_n (pv 2)) (blkOk_by (own := [("packet", 5)]) (N := ["fields", "tree", "some", "place", "other", "packet"]) (sc := defScope s_past_leaf) (by decide +kernel)) ⟨fun _ _ _ _ _ => (pg_name (i := 5) sc_past_leaf.nd rfl (Or.inl rfl)), fun _ _ _ _ _ => pts_nil, fun _ _ _ _ _ => (pe_call (ok_written T) (hr.mono (by omega)) rfl T.m_written T.F_written.kp T.b_written .nil pass0 (pa_cons (pv 5) (pa_cons (pv 3) (pa_cons (pe_ix ix_tup (pv 1) pe_int (fun _ _ => rfl)) pa_nil)))), fun _ _ _ _ _ => pe_bl⟩))))) pss_nil)
      (pss_cons (ps_if (pt_cmpR op_eq (pe_ix ix_tup (pv 1) pe_int (fun _ _ => rfl)) pe_str (nomark _)) (pss_cons (ps_asg (pe_tup (pa_cons (pe_tm PySem.F.plainAttrs_tuple PySem.F.slot_tuple_index PySem.F.type_tuple_index mt_tup_index (pv 0) (pa_cons (pe_ix ix_tup (pv 1) pe_int (fun _ _ => rfl)) pa_nil)) (pa_cons (pe_tm PySem.F.plainAttrs_tuple PySem.F.slot_tuple_index PySem.F.type_tuple_index mt_tup_index (pv 0) (pa_cons (pe_ix ix_tup (pv 1) pe_int (fun _ _ => rfl)) pa_nil)) pa_nil))) (pg_tup rfl (pgs_cons (pg_name (i := 3) sc_past_leaf.nd rfl (Or.inr rfl)) (pgs_cons (pg_name (i := 4) sc_past_leaf.nd rfl (Or.inr rfl)) pgs_nil))))
        (pss_one (ps_ret (pe_nfrz (pe_dcn (own := [("packet", 5)]) (g := (gName 5)) (tt := tYes) (tk := (tCall sp_written [] E0 (tCons (tVar 5) (tCons (tVar 3) (tCons (tOp (rIxT K) (tVar 5) (tVar 4)) tNil))))) (tv := (tC (.bl true))) (hu_of2 hr) rfl sc_past_leaf.nd (pi_n (pv 2)) (blkOk_by (own := [("packet", 5)]) (N := ["fields", "tree", "some", "place", "other", "packet"]) (sc := defScope s_past_leaf) (by decide +kernel)) ⟨fun _ _ _ _ _ => (pg_name (i := 5) sc_past_leaf.nd rfl (Or.inl rfl)), fun _ _ _ _ _ => pts_nil, fun _ _ _ _ _ => (pe_call (ok_written T) (hr.mono (by omega)) rfl T.m_written T.F_written.kp T.b_written .nil pass0 (pa_cons (pv 5) (pa_cons (pv 3) (pa_cons (pe_ix ix_tup (pv 5) (pv 4) (fun _ _ => rfl)) pa_nil)))), fun _ _ _ _ _ => pe_bl⟩))))) pss_nil)
      (pss_one (ps_ret (pe_nfrz (pe_dcn (own := [("packet", 5)]) (g := (gName 5)) (tt := (tB (tCall (sp_holds 5) [] E0 (tCons (tVar 0) (tCons (tVar 1) (tCons (tVar 5) tNil)))))) (tk := (tVar 5)) (tv := (tC (.bl true))) (hu_of2 hr) rfl sc_past_leaf.nd (pi_n (pv 2)) (blkOk_by (own := [("packet", 5)]) (N := ["fields", "tree", "some", "place", "other", "packet"]) (sc := defScope s_past_leaf) (by decide +kernel)) ⟨fun _ _ _ _ _ => (pg_name (i := 5) sc_past_leaf.nd rfl (Or.inl rfl)), fun _ _ _ _ _ => (pts_one (pt_val (pe_call (ok_holds T) (hr.mono (by omega)) rfl T.m_holds_programs T.F_holds.kp T.b_holds .nil pass0 (pa_cons (pv 0) (pa_cons (pv 1) (pa_cons (pv 5) pa_nil)))))), fun _ _ _ _ _ => (pv 5), fun _ _ _ _ _ => pe_bl⟩)))))), ?_⟩
    obtain ⟨xs, ht, nr⟩ := src_tup nt
    have sq : SqT K H b (.str (word t) :: xs) := SqT.of ht
    have two : ∀ {x y : D}, rest t = [x, y] → ∃ v1 v2, xs = [v1, v2] ∧ NV H x v1 ∧ NV H y v2 := fun {x y} e => by
      rw [e] at nr
      cases nr with
      | cons a1 r1 => cases r1 with
        | cons a2 r2 => cases r2; exact ⟨_, _, rfl, a1, a2⟩
    refine ⟨_, rfl, b, _, _, _, rfl, rfl, sq, at0, rfl, ?_⟩
    have kinds : (∃ f m, t = .set f m) ∨ (∃ f g, t = .take f g) ∨ ((∀ p, act fs t p = if holds fs t p = true then some p else none) ∧ decide (V.str (word t) = V.str "set") = false ∧ decide (V.str (word t) = V.str "take") = false) := by
      cases t with
      | set f m => exact .inl ⟨f, m, rfl⟩
      | take f g => exact .inr (.inl ⟨f, g, rfl⟩)
      | _ => exact .inr (.inr ⟨fun p => rfl, rfl, rfl⟩)
    have vlen : ∀ {vs : List V}, AllKey H (kvs.map (·.1)) vs → vs.length = ps.length := fun {vs} ak => by rw [ak.1.length, ek, List.length_map]
    have small : ps.length ≤ sizeLine := by rw [sizeLine_eq]; omega
    rcases kinds with ⟨f, m, rfl⟩ | ⟨f, g, rfl⟩ | ⟨ea, e1, e2⟩
    · obtain ⟨v1, v2, rfl, n1, n2⟩ := two rfl
      obtain rfl := nv_str n1
      obtain rfl := nv_int n2
      refine ⟨true, rfl, iteT ⟨_, rfl, ⟨a, _, rfl, hf⟩, _, rfl, b, _, _, _, rfl, rfl, sq, atI_nat (j := 1) rfl, a, fs, f, at_ fs f, rfl, rfl, hf.sq, idx_at ft.1, fun m hm => idx_first hm, ?_⟩⟩
      refine ⟨_, rfl, d, kvs, rfl, fd, fun J vs st ak Dd o nD mD => dc_items (l := ps) st (fun H2 s2 => Tp.same s2) (fun _ => true) (fun p => pkD (p.set (at_ fs f) m)) (.bl true) nD mD (vlen ak) small ?_ ?_⟩
      · intro i p x H2 hp hx s2 Y Nn yes no
        obtain ⟨n, _, q, rfl⟩ := key_at (f := pkD) (ek ▸ ak) hp hx
        have hl := lens p (List.mem_of_getElem? hp)
        have lt := at_lt ft.1
        refine ⟨rfl, ?_⟩
        simp only [tYes, if_true]
        exact ⟨_, rfl, _, rfl, _, rfl, b, _, _, _, rfl, rfl, SqT.of (s2 _ _ ht), atI_nat (j := 2) rfl, q, p, at_ fs f, m, rfl, n.mono (.same s2), by omega, by omega, fun r H3 s3 nr => yes rfl _ _ s3 (pk_key nr)⟩
      · intro H2 kvs2 s2 m2 _ mem
        exact past_made (g := act fs (.set f m)) (p := fun _ => true) (f := fun p => pkD (p.set (at_ fs f) m)) (R := fun r H' => Q (.ref r) H') nD s2 m2 mem (fun p j => by simp [act]) k
    · obtain ⟨v1, v2, rfl, n1, n2⟩ := two rfl
      obtain rfl := nv_str n1
      obtain rfl := nv_str n2
      refine ⟨false, rfl, iteF ⟨_, rfl, b, _, _, _, rfl, rfl, sq, at0, rfl, true, rfl, iteT ?_⟩⟩
      refine ⟨_, rfl, ⟨a, _, rfl, hf⟩, _, rfl, b, _, _, _, rfl, rfl, sq, atI_nat (j := 1) rfl, a, fs, f, at_ fs f, rfl, rfl, hf.sq, idx_at ft.1, fun m hm => idx_first hm, ?_⟩
      refine ⟨_, rfl, ⟨a, _, rfl, hf⟩, _, rfl, b, _, _, _, rfl, rfl, sq, atI_nat (j := 2) rfl, a, fs, g, at_ fs g, rfl, rfl, hf.sq, idx_at ft.2, fun m hm => idx_first hm, (by show 2 ≤ sizeLine; decide), fun t nt2 => ?_⟩
      refine ⟨t, _, rfl, SqT.of upd_same, rfl, _, _, rfl, _, _, rfl, rfl, ?_⟩
      have st2 : Same H (upd H t (.tup [.int (at_ fs f : Nat), .int (at_ fs g : Nat)])) := same_new nt2
      refine ⟨_, rfl, d, kvs, rfl, fd.mono (.same st2), fun J vs st ak Dd o nD mD => ?_⟩
      have ak := ak
      refine dc_items (l := ps) st (fun H2 s2 => Tp.same s2) (fun _ => true) (fun p => pkD (p.set (at_ fs f) (p.getD (at_ fs g) 0))) (.bl true) nD mD (by rw [ak.1.length, ek, List.length_map]) small ?_ ?_
      · intro i p x H2 hp hx s2 Y Nn yes no
        obtain ⟨n, _, q, rfl⟩ := key_at (f := pkD) (ek ▸ ak) hp hx
        have hl := lens p (List.mem_of_getElem? hp)
        have lt := at_lt ft.1
        have lt2 := at_lt ft.2
        have at2 : (p.map fun (v : Nat) => V.int (v : Int))[at_ fs g]? = some (.int ((p.getD (at_ fs g) 0 : Nat) : Int)) := by
          rw [List.getElem?_map, List.getD_eq_getElem?_getD, List.getElem?_eq_getElem (show at_ fs g < p.length by omega)]
          rfl
        refine ⟨rfl, ?_⟩
        simp only [tYes, if_true]
        exact ⟨_, rfl, _, rfl, _, rfl, _, rfl, q, _, _, _, rfl, rfl, SqT.of (s2 _ _ (pk_tup n)), atI_nat at2, q, p, at_ fs f, _, rfl, n.mono (.same s2), by omega, by omega, fun r H3 s3 nr => yes rfl _ _ s3 (pk_key nr)⟩
      · intro H2 kvs2 s2 m2 _ mem
        exact past_made (g := act fs (.take f g)) (p := fun _ => true) (f := fun p => pkD (p.set (at_ fs f) (p.getD (at_ fs g) 0))) (R := fun r H' => Q (.ref r) H') (same_none st2 nD) (same_trans st2 s2) m2 mem (fun p j => by simp [act]) k
    · refine ⟨false, congrArg V.bl e1, iteF ⟨_, rfl, b, _, _, _, rfl, rfl, sq, at0, rfl, false, congrArg V.bl e2, iteF ?_⟩⟩
      refine ⟨_, rfl, d, kvs, rfl, fd, fun J vs st ak Dd o nD mD => dc_items (l := ps) st (fun H2 s2 => Tp.same s2) (fun p => holds fs t p) pkD (.bl true) nD mD (vlen ak) small ?_ ?_⟩
      · intro i p x H2 hp hx s2 Y Nn yes no
        obtain ⟨n, _, q, rfl⟩ := key_at (f := pkD) (ek ▸ ak) hp hx
        have hl := lens p (List.mem_of_getElem? hp)
        refine ⟨rfl, _, rfl, _, rfl, _, rfl, a, b, q, fs, N, t, p, rfl, hf.mono (.same s2), nt.mono (.same s2), n.mono (.same s2), ft, hl, size, deep, fun H3 s3 => ⟨_, rfl, iteB (fun e => ?_) fun e => no e _ s3⟩⟩
        exact ⟨_, rfl, yes e _ _ s3 (pk_key (n.mono (.same (same_trans s2 s3))))⟩
      · intro H2 kvs2 s2 m2 _ mem
        refine past_made (g := act fs t) (p := fun p => holds fs t p) (f := pkD) (R := fun r H' => Q (.ref r) H') nD s2 m2 mem (fun p j => ?_) k
        rw [ea]
        constructor
        · rintro ⟨h, rfl⟩
          exact ⟨p, by rw [if_pos h], rfl⟩
        · rintro ⟨q, h, rfl⟩
          by_cases c : holds fs t p = true
          · rw [if_pos c] at h
            cases h
            exact ⟨c, rfl⟩
          · rw [if_neg c] at h
            cases h
end
end Mw
/-! Sorts of keys: packets, entries; dicts of them put together. -/
namespace Mw
open PySem L2
/-- a sort of keys: apart by their hashes, and few -/
structure Sorts {α : Type} (w : World) (f : α → D) (S : α → Prop) : Prop where
  inj : ∀ a b, f a = f b → a = b
  apart : ∀ a b, S a → S b → NestedKey.hash w (f a) = NestedKey.hash w (f b) → a = b
  deep : ∀ a, (f a).depth ≤ 8
  few : ∃ U : List α, U.length ≤ 1000 ∧ ∀ a, S a → a ∈ U
theorem nodup_len {α : Type} : ∀ {l U : List α}, l.Nodup → (∀ a ∈ l, a ∈ U) → l.length ≤ U.length
  | [], U, _, _ => Nat.zero_le _
  | a :: l, U, n, h => by
    rw [List.nodup_cons] at n
    obtain ⟨U1, U2, e⟩ := List.append_of_mem (h a List.mem_cons_self)
    have := nodup_len (l := l) (U := U1 ++ U2) n.2 fun b hb => by
      have m := h b (List.mem_cons_of_mem _ hb)
      rw [e, List.mem_append, List.mem_cons] at m
      rw [List.mem_append]
      rcases m with m | rfl | m
      · exact .inl m
      · exact absurd hb n.1
      · exact .inr m
    rw [e, List.length_append, List.length_cons]
    rw [List.length_append] at this
    rw [List.length_cons]
    omega
section
variable {P : Program} {w : World} {α : Type} {f : α → D} {S : α → Prop}
theorem Sorts.small (s : Sorts w f S) {l : List α} (n : l.Nodup) (h : ∀ a ∈ l, S a) : l.length ≤ 1000 := by
  obtain ⟨U, hU, m⟩ := s.few
  exact Nat.le_trans (nodup_len n fun a ha => m a (h a ha)) hU
theorem Sorts.apartD (s : Sorts w f S) {kvs : List (D × V)} {l : List α} (e : kvs.map (·.1) = l.map f) (n : (kvs.map (·.1)).Nodup) (h : ∀ a ∈ l, S a) : Apart w kvs := by
  refine apart_of (S := fun k => ∃ a, S a ∧ f a = k) n (fun k hk => ?_) ?_
  · rw [e] at hk
    obtain ⟨a, m, q⟩ := List.mem_map.mp hk
    exact ⟨a, h a m, q⟩
  · rintro _ _ ⟨a, ha, rfl⟩ ⟨b, hb, rfl⟩ q
    rw [s.apart a b ha hb q]
theorem keys_len {kvs : List (D × V)} {l : List α} (e : kvs.map (·.1) = l.map f) : kvs.length = l.length := by
  have := congrArg List.length e
  simpa using this
/-- {**a, **b}, a and b locals -/
theorem read_merge {σ : L2.St} {H : Hp} {Q : VK} {i j : Nat} {d1 d2 : Addr} {l1 l2 : List α} (s : Sorts w f S) (hi : σ[i]? = some (some (.ref d1))) (hj : σ[j]? = some (some (.ref d2))) (F1 : FS P w f H d1 l1) (F2 : FS P w f H d2 l2) (S1 : ∀ a ∈ l1, S a) (S2 : ∀ a ∈ l2, S a)
    (k : ∀ r l H', Same H H' → FS P w f H' r l → (∀ a, a ∈ l ↔ a ∈ l1 ∨ a ∈ l2) → Q (.ref r) H') : tNMerge P w (tVar i) (tVar j) σ H Q := by
  intro p o np mp
  have z1 := s.small F1.nodup S1
  have z2 := s.small F2.nodup S2
  obtain ⟨ks, f1, e1⟩ := F1
  obtain ⟨ls, f2, e2⟩ := F2
  have s1 : Same H (upd H p o) := same_new np
  have lk := keys_len e1
  have ll := keys_len e2
  refine ⟨_, hi, d1, ks, rfl, f1.mono (.same s1), s.apartD e1 f1.nodup S1, mp, by rw [sizeLine_eq]; omega, fun o2 m2 => ?_⟩
  have s2 : Same H (upd (upd H p o) p o2) := same_upd s1 np
  rw [mergeD_nil f1.nodup] at m2 ⊢
  refine ⟨_, hj, d2, ls, rfl, f2.mono (.same s2), s.apartD e2 f2.nodup S2, m2, by rw [sizeLine_eq]; omega, fun o3 f3 => ?_⟩
  have s3 : Same H (upd (upd (upd H p o) p o2) p o3) := same_upd s2 np
  have mem := mem_mergeD ls ks
  obtain ⟨l, e⟩ : ∃ l : List α, (mergeD ks ls).map (·.1) = l.map f := map_of fun j hj => by
    rcases (mem j).mp hj with h | h
    · rw [e1] at h
      obtain ⟨a, _, q⟩ := List.mem_map.mp h
      exact ⟨a, q⟩
    · rw [e2] at h
      obtain ⟨a, _, q⟩ := List.mem_map.mp h
      exact ⟨a, q⟩
  have back : ∀ {m : List α} {a : α}, a ∈ m ↔ f a ∈ m.map f := fun {m a} => ⟨fun h => List.mem_map.mpr ⟨a, h, rfl⟩, fun h => by
    obtain ⟨b, hb, q⟩ := List.mem_map.mp h
    exact s.inj b a q ▸ hb⟩
  refine k p l _ s3 ⟨_, f3, e⟩ fun a => ?_
  rw [back (m := l), ← e, mem, e1, e2, ← back, ← back]
end
/-- the numbers that a packet may have -/
def InU (x n : Nat) (p : Pk) : Prop := p.length = n ∧ ∀ v ∈ p, Val x v
def InE (x n : Nat) (e : Nat × Pk) : Prop := e.1 < 7 ∧ InU x n e.2
def allP (x n : Nat) : List Pk := lists (x :: FF) n
theorem mem_allP {x n : Nat} {p : Pk} (h : InU x n p) : p ∈ allP x n := by
  have := mem_lists (a := x :: FF) (d := p) fun v hv => by
    rcases h.2 v hv with m | rfl
    · exact List.mem_cons_of_mem _ m
    · exact List.mem_cons_self
  rw [h.1] at this
  exact this
theorem allP_len {x n : Nat} (hn : n = 1 ∨ n = 2) : (allP x n).length ≤ 121 := by
  rcases hn with rfl | rfl <;> simp [allP, lists, FF]
theorem pkt_of {x n : Nat} {p : Pk} (h : InU x n p) : Pkt x n (pkD p) := ⟨p, rfl, h.1, h.2⟩
theorem sortsP {w : World} {x n : Nat} (hx : x ≤ 1000000000000) (hn : n = 1 ∨ n = 2) : Sorts w pkD (InU x n) where
  inj := fun _ _ => pkD_inj
  apart := fun a b ha hb e => pkD_inj (pkt_apart hx hn (pkt_of ha) (pkt_of hb) e)
  deep := fun a => by have := depth_pk a; omega
  few := ⟨allP x n, by have := allP_len (x := x) hn; omega, fun a h => mem_allP h⟩
theorem sortsE {w : World} {x n : Nat} (hx : x ≤ 1000000000000) (hn : n = 1 ∨ n = 2) : Sorts w entD (InE x n) where
  inj := fun _ _ => entD_inj
  apart := fun a b ha hb e => entD_inj (ent_apart hx hn ⟨a.1, pkD a.2, ha.1, pkt_of ha.2, rfl⟩ ⟨b.1, pkD b.2, hb.1, pkt_of hb.2, rfl⟩ e)
  deep := depth_ent
  few := ⟨(List.range 7).flatMap fun m => (allP x n).map fun p => (m, p), by
    have := allP_len (x := x) hn
    simp only [List.length_flatMap, List.length_map, List.map_const', List.sum_replicate_nat, List.length_range]
    omega, fun a h => List.mem_flatMap.mpr ⟨a.1, List.mem_range.mpr h.1, List.mem_map.mpr ⟨a.2, mem_allP h.2, rfl⟩⟩⟩
section
variable {X : Cx}
/-- behind the statement a dict is locked for good -/
def sNFrz (P : Program) (w : World) (t : TS) : TS := fun D σ H => t { D with nx := fun σ1 H1 => ∃ d kvs, MD P w H1 d kvs ∧ ∀ o, FD P w (upd H1 d o) d kvs → D.nx σ1 (upd H1 d o) } σ H
theorem ps_nfrz {st : Stmt} {t : TS} (a : PS X st t) : PS X st (sNFrz X.prog X.w t) := by
  constructor
  intro pins s σ H D I h
  refine thn (a.run pins s σ H _ I h) ?_
  rintro (_ | v | _ | _) s1 q
  all_goals first | exact q | skip
  obtain ⟨σ1, H1, I1, d, kvs, m, k⟩ := q
  obtain ⟨ob, I2, f, _⟩ := n_freeze I1 m
  exact ⟨σ1, _, I2, k ob f⟩
end
end Mw
/-! What packets a flow can come to; flows of lists that grow at the end. -/
namespace Mw
open PySem L2
variable {fs : List Str} {N : List Nat}
theorem out_sub {t : Src} {p q : Pk} (hp : p.length = fs.length) (ft : Fits fs N t) (o : Out fs t p q) : Sub N p q :=
  (run_line t hp ft ((run_way t 0 p [] q).mpr (way_nil.mpr o))).1
theorem star_sub {t : Src} {p q : Pk} (hp : p.length = fs.length) (ft : Fits fs N t) (o : Star (Out fs t) p q) : Sub N p q :=
  out_sub (t := .loop t) hp ft (by simp only [Out]; exact o)
theorem outL_sub {ts : List Src} {p q : Pk} (hp : p.length = fs.length) (ft : FitsL fs N ts) (o : OutL fs ts p q) : Sub N p q :=
  out_sub (t := .row ts) hp ft (by simp only [Out]; exact o)
mutual
theorem hit_sub : ∀ {t : Src} {b m : Nat} {p q : Pk}, p.length = fs.length → Fits fs N t → Hit fs t b p m q → Sub N p q
  | .mark, b, m, p, q, hp, ft, h => by
    simp only [Hit] at h
    rw [h.2]
    exact Sub.refl N p
  | .row ts, b, m, p, q, hp, ft, h => by
    simp only [Hit] at h
    exact hitL_sub (ts := ts) hp ft h
  | .alt ts, b, m, p, q, hp, ft, h => by
    simp only [Hit] at h
    exact hitA_sub (ts := ts) hp ft h
  | .loop t, b, m, p, q, hp, ft, h => by
    simp only [Hit] at h
    obtain ⟨r, h1, h2⟩ := h
    have s1 := star_sub (t := t) hp ft h1
    exact s1.trans (hit_sub (t := t) (s1.1.trans hp) ft h2)
  | .pass, _, _, _, _, _, _, h => by simp only [Hit] at h
  | .drop, _, _, _, _, _, _, h => by simp only [Hit] at h
  | .is _ _, _, _, _, _, _, _, h => by simp only [Hit] at h
  | .set _ _, _, _, _, _, _, _, h => by simp only [Hit] at h
  | .take _ _, _, _, _, _, _, _, h => by simp only [Hit] at h
  | .not _, _, _, _, _, _, _, h => by simp only [Hit] at h
theorem hitL_sub : ∀ {ts : List Src} {b m : Nat} {p q : Pk}, p.length = fs.length → FitsL fs N ts → HitL fs ts b p m q → Sub N p q
  | [], _, _, _, _, _, _, h => by simp only [HitL] at h
  | t :: ts, b, m, p, q, hp, ft, h => by
    simp only [HitL] at h
    rcases h with h | ⟨r, h1, h2⟩
    · exact hit_sub hp ft.1 h
    · have s1 := out_sub hp ft.1 h1
      exact s1.trans (hitL_sub (s1.1.trans hp) ft.2 h2)
theorem hitA_sub : ∀ {ts : List Src} {b m : Nat} {p q : Pk}, p.length = fs.length → FitsL fs N ts → HitA fs ts b p m q → Sub N p q
  | [], _, _, _, _, _, _, h => by simp only [HitA] at h
  | t :: ts, b, m, p, q, hp, ft, h => by
    simp only [HitA] at h
    rcases h with h | h
    · exact hit_sub hp ft.1 h
    · exact hitA_sub hp ft.2 h
end
mutual
theorem onOut_sub : ∀ {t : Src} {b m : Nat} {p q : Pk}, p.length = fs.length → Fits fs N t → OnOut fs t b m p q → Sub N p q
  | .mark, b, m, p, q, hp, ft, h => by
    simp only [OnOut] at h
    rw [h]
    exact Sub.refl N p
  | .row ts, b, m, p, q, hp, ft, h => by
    simp only [OnOut] at h
    exact onOutL_sub (ts := ts) hp ft h
  | .alt ts, b, m, p, q, hp, ft, h => by
    simp only [OnOut] at h
    exact onOutA_sub (ts := ts) hp ft h
  | .loop t, b, m, p, q, hp, ft, h => by
    simp only [OnOut] at h
    obtain ⟨r, h1, h2⟩ := h
    have s1 := onOut_sub (t := t) hp ft h1
    exact s1.trans (star_sub (t := t) (s1.1.trans hp) ft h2)
  | .pass, _, _, _, _, _, _, h => by simp only [OnOut] at h
  | .drop, _, _, _, _, _, _, h => by simp only [OnOut] at h
  | .is _ _, _, _, _, _, _, _, h => by simp only [OnOut] at h
  | .set _ _, _, _, _, _, _, _, h => by simp only [OnOut] at h
  | .take _ _, _, _, _, _, _, _, h => by simp only [OnOut] at h
  | .not _, _, _, _, _, _, _, h => by simp only [OnOut] at h
theorem onOutL_sub : ∀ {ts : List Src} {b m : Nat} {p q : Pk}, p.length = fs.length → FitsL fs N ts → OnOutL fs ts b m p q → Sub N p q
  | [], _, _, _, _, _, _, h => by simp only [OnOutL] at h
  | t :: ts, b, m, p, q, hp, ft, h => by
    simp only [OnOutL] at h
    split at h
    · obtain ⟨r, h1, h2⟩ := h
      have s1 := onOut_sub hp ft.1 h1
      exact s1.trans (outL_sub (s1.1.trans hp) ft.2 h2)
    · exact onOutL_sub hp ft.2 h
theorem onOutA_sub : ∀ {ts : List Src} {b m : Nat} {p q : Pk}, p.length = fs.length → FitsL fs N ts → OnOutA fs ts b m p q → Sub N p q
  | [], _, _, _, _, _, _, h => by simp only [OnOutA] at h
  | t :: ts, b, m, p, q, hp, ft, h => by
    simp only [OnOutA] at h
    split at h
    · exact onOut_sub hp ft.1 h
    · exact onOutA_sub hp ft.2 h
end
mutual
theorem onHit_sub : ∀ {t : Src} {b m n : Nat} {p q : Pk}, p.length = fs.length → Fits fs N t → OnHit fs t b m p n q → Sub N p q
  | .mark, _, _, _, _, _, _, _, h => by simp only [OnHit] at h
  | .row ts, b, m, n, p, q, hp, ft, h => by
    simp only [OnHit] at h
    exact onHitL_sub (ts := ts) hp ft h
  | .alt ts, b, m, n, p, q, hp, ft, h => by
    simp only [OnHit] at h
    exact onHitA_sub (ts := ts) hp ft h
  | .loop t, b, m, n, p, q, hp, ft, h => by
    simp only [OnHit] at h
    rcases h with h | ⟨r, h1, h2⟩
    · exact onHit_sub (t := t) hp ft h
    · have s1 := onOut_sub (t := t) hp ft h1
      exact s1.trans (hit_sub (t := .loop t) (s1.1.trans hp) ft h2)
  | .pass, _, _, _, _, _, _, _, h => by simp only [OnHit] at h
  | .drop, _, _, _, _, _, _, _, h => by simp only [OnHit] at h
  | .is _ _, _, _, _, _, _, _, _, h => by simp only [OnHit] at h
  | .set _ _, _, _, _, _, _, _, _, h => by simp only [OnHit] at h
  | .take _ _, _, _, _, _, _, _, _, h => by simp only [OnHit] at h
  | .not _, _, _, _, _, _, _, _, h => by simp only [OnHit] at h
theorem onHitL_sub : ∀ {ts : List Src} {b m n : Nat} {p q : Pk}, p.length = fs.length → FitsL fs N ts → OnHitL fs ts b m p n q → Sub N p q
  | [], _, _, _, _, _, _, _, h => by simp only [OnHitL] at h
  | t :: ts, b, m, n, p, q, hp, ft, h => by
    simp only [OnHitL] at h
    split at h
    · rcases h with h | ⟨r, h1, h2⟩
      · exact onHit_sub hp ft.1 h
      · have s1 := onOut_sub hp ft.1 h1
        exact s1.trans (hitL_sub (s1.1.trans hp) ft.2 h2)
    · exact onHitL_sub hp ft.2 h
theorem onHitA_sub : ∀ {ts : List Src} {b m n : Nat} {p q : Pk}, p.length = fs.length → FitsL fs N ts → OnHitA fs ts b m p n q → Sub N p q
  | [], _, _, _, _, _, _, _, h => by simp only [OnHitA] at h
  | t :: ts, b, m, n, p, q, hp, ft, h => by
    simp only [OnHitA] at h
    split at h
    · exact onHit_sub hp ft.1 h
    · exact onHitA_sub hp ft.2 h
end
/-- what the numbers of a call of ways are -/
structure Net (x : Nat) (fs : List Str) (N : List Nat) : Prop where
  hx : x ≤ 1000000000000
  hn : fs.length = 1 ∨ fs.length = 2
  vals : ∀ v ∈ N, Val x v
theorem Net.sub {x : Nat} (n : Net x fs N) {p q : Pk} (h : InU x fs.length p) (s : Sub N p q) : InU x fs.length q :=
  ⟨s.1.trans h.1, fun v hv => (s.2 v hv).elim (n.vals v) (h.2 v)⟩
/-! ### lists that grow at the end -/
theorem nms_snoc : ∀ (ts : List Src) (t : Src), nms (ts ++ [t]) = nms ts + nm t
  | [], t => by simp [nms]
  | s :: ts, t => by rw [List.cons_append, nms, nms, nms_snoc ts t]; omega
theorem outL_snoc : ∀ {ts : List Src} {t : Src} {p q : Pk}, OutL fs (ts ++ [t]) p q ↔ ∃ r, OutL fs ts p r ∧ Out fs t r q
  | [], t, p, q => by
    simp only [List.nil_append, OutL]
    constructor
    · rintro ⟨r, h, rfl⟩
      exact ⟨p, rfl, h⟩
    · rintro ⟨r, rfl, h⟩
      exact ⟨q, h, rfl⟩
  | s :: ts, t, p, q => by
    simp only [List.cons_append, OutL, outL_snoc (ts := ts)]
    constructor
    · rintro ⟨r, h, r2, h2, h3⟩
      exact ⟨r2, ⟨r, h, h2⟩, h3⟩
    · rintro ⟨r2, ⟨r, h, h2⟩, h3⟩
      exact ⟨r, h, r2, h2, h3⟩
theorem outA_snoc : ∀ {ts : List Src} {t : Src} {p q : Pk}, OutA fs (ts ++ [t]) p q ↔ OutA fs ts p q ∨ Out fs t p q
  | [], t, p, q => by simp only [List.nil_append, OutA, or_false, false_or]
  | s :: ts, t, p, q => by simp only [List.cons_append, OutA, outA_snoc (ts := ts), or_assoc]
theorem hitL_snoc : ∀ {ts : List Src} {t : Src} {b m : Nat} {p q : Pk}, HitL fs (ts ++ [t]) b p m q ↔ HitL fs ts b p m q ∨ ∃ r, OutL fs ts p r ∧ Hit fs t (b + nms ts) r m q
  | [], t, b, m, p, q => by
    simp only [List.nil_append, HitL, OutL, nms, Nat.add_zero, false_or]
    constructor
    · rintro (h | ⟨r, _, h⟩)
      · exact ⟨p, rfl, h⟩
      · exact h.elim
    · rintro ⟨r, rfl, h⟩
      exact .inl h
  | s :: ts, t, b, m, p, q => by
    simp only [List.cons_append, HitL, OutL, nms, hitL_snoc (ts := ts)]
    have e : b + nm s + nms ts = b + (nm s + nms ts) := by omega
    rw [e]
    constructor
    · rintro (h | ⟨r, h1, h2 | ⟨r2, h2, h3⟩⟩)
      · exact .inl (.inl h)
      · exact .inl (.inr ⟨r, h1, h2⟩)
      · exact .inr ⟨r2, ⟨r, h1, h2⟩, h3⟩
    · rintro ((h | ⟨r, h1, h2⟩) | ⟨r2, ⟨r, h1, h2⟩, h3⟩)
      · exact .inl h
      · exact .inr ⟨r, h1, .inl h2⟩
      · exact .inr ⟨r, h1, .inr ⟨r2, h2, h3⟩⟩
theorem hitA_snoc : ∀ {ts : List Src} {t : Src} {b m : Nat} {p q : Pk}, HitA fs (ts ++ [t]) b p m q ↔ HitA fs ts b p m q ∨ Hit fs t (b + nms ts) p m q
  | [], t, b, m, p, q => by simp only [List.nil_append, HitA, nms, Nat.add_zero, or_false, false_or]
  | s :: ts, t, b, m, p, q => by
    simp only [List.cons_append, HitA, nms, hitA_snoc (ts := ts), or_assoc]
    rw [show b + nm s + nms ts = b + (nm s + nms ts) by omega]
theorem nms_take {ts : List Src} {i : Nat} {t : Src} (h : ts[i]? = some t) : nms (ts.take (i + 1)) = nms (ts.take i) + nm t := by
  rw [List.take_add_one, h, Option.toList, nms_snoc]
theorem nms_le : ∀ (ts : List Src) (i : Nat), nms (ts.take i) ≤ nms ts
  | [], i => by simp
  | t :: ts, 0 => by simp [nms]
  | t :: ts, i + 1 => by
    have := nms_le ts i
    rw [List.take_succ_cons, nms, nms]
    omega
end Mw
/-! flow, flow_on, by the depth of the tree. -/
namespace Mw
open PySem L2
section
variable {P : Program} {w : World} {K : PySem.W.Frag} {mg : Str → Option Value} {base : Heap}
def sp_flow (P : Program) (w : World) (d : Nat) : Sp := fun vs H Q _ => ∃ a b d0 fs N x t, ∃ bs : Nat, ∃ ps, vs = [.ref a, .ref b, .int (bs : Int), .ref d0] ∧ PTup H a (fs.map V.str) ∧ NV H (srcD t) (.ref b) ∧ FP P w H d0 ps ∧ Net x fs N ∧ Fits fs N t ∧ Form t ∧ (∀ p ∈ ps, InU x fs.length p) ∧
  (subs t).length ≤ 1000 ∧ dp t ≤ d ∧ d ≤ 5 ∧ bs + nm t ≤ 6 ∧ ∀ r r1 r2 hs qs H', Same H H' → H' r = some (.tup [.ref r1, .ref r2]) → FE P w H' r1 hs → FP P w H' r2 qs → (∀ e : Nat × Pk, e ∈ hs ↔ ∃ p ∈ ps, Hit fs t bs p e.1 e.2) → (∀ q, q ∈ qs ↔ ∃ p ∈ ps, Out fs t p q) → Q (.ref r) H'
def sp_flow_on (P : Program) (w : World) (d : Nat) : Sp := fun vs H Q _ => ∃ a b h0 d0 fs N x ts xs, ∃ bs : Nat, ∃ hs0 ps, vs = [.ref a, .ref b, .int (bs : Int), .ref h0, .ref d0] ∧ PTup H a (fs.map V.str) ∧ H b = some (.tup xs) ∧ NVs H (srcDs ts) xs ∧ FE P w H h0 hs0 ∧ FP P w H d0 ps ∧ Net x fs N ∧ FitsL fs N ts ∧ Forms ts ∧ (∀ p ∈ ps, InU x fs.length p) ∧ (∀ e ∈ hs0, InE x fs.length e) ∧
  (subss ts).length ≤ 1000 ∧ dps ts ≤ d ∧ d ≤ 5 ∧ bs + nms ts ≤ 6 ∧ ∀ r r1 r2 hs qs H', Same H H' → H' r = some (.tup [.ref r1, .ref r2]) → FE P w H' r1 hs → FP P w H' r2 qs → (∀ e : Nat × Pk, e ∈ hs ↔ e ∈ hs0 ∨ ∃ p ∈ ps, HitL fs ts bs p e.1 e.2) → (∀ q, q ∈ qs ↔ ∃ p ∈ ps, OutL fs ts p q) → Q (.ref r) H'
theorem fitsL_take {fs : List Str} {N : List Nat} : ∀ {ts : List Src} (i : Nat), FitsL fs N ts → FitsL fs N (ts.take i)
  | [], i, _ => by simp [FitsL]
  | _ :: _, 0, _ => by simp [FitsL]
  | t :: ts, i + 1, h => by
    rw [List.take_succ_cons]
    exact ⟨h.1, fitsL_take i h.2⟩
theorem srcs_at {H : Hp} {ts : List Src} {xs : List V} (n : NVs H (srcDs ts) xs) : xs.length = ts.length := by rw [n.length, srcDs_map, List.length_map]
theorem ok_flow_on1 (T : TX K mg) {d k : Nat} (hk : 7 ≤ k) (G : FnOk P w K mg base CX0 k T.a_flow T.fd_flow ["fields", "tree", "base", "some"] (sp_flow P w d)) :
    FnOk P w K mg base CX0 (k + 1) T.a_flow_on T.fd_flow_on ["fields", "parts", "base", "hits", "some"] (sp_flow_on P w d) := by
  refine T.F_flow_on.ok sc_flow_on (fun vs H Q E h => ?_) (fun cdv A outer s H vs Q E hr h => ?_)
  · obtain ⟨a, b, h0, d0, fs, N, x, ts, xs, bs, hs0, ps, rfl, _⟩ := h
    rfl
  · obtain ⟨a, b, h0, d0, fs, N, x, ts, xs, bs, hs0, ps, rfl, hf, hb, nts, f0, fp, net, ft, fm, inP, inH, size, deep, d5, marks, k⟩ := h
    refine ⟨_, (pss_cons (ps_for PassesOwn.never rfl (pi_tup (pv 1)) (pg_name (i := 5) sc_flow_on.nd rfl (Or.inl rfl)) (pss_cons (ps_asg (pe_call G (hr.mono (by omega)) rfl T.m_flow T.F_flow.kp T.b_flow .nil pass0 (pa_cons (pv 0) (pa_cons (pv 5) (pa_cons (pv 2) (pa_cons (pv 4) pa_nil))))) (pg_tup rfl (pgs_cons (pg_name (i := 6) sc_flow_on.nd rfl (Or.inl rfl)) (pgs_cons (pg_name (i := 4) sc_flow_on.nd rfl (Or.inl rfl)) pgs_nil))))
        (pss_one (ps_par (i := 3) (j := 2) (by rfl) sc_flow_on.nd rfl rfl (by decide) rfl rfl (pa_cons (pe_nmerge (hu_of2 hr) (pv 3) (pv 6)) (pa_cons (pe_op op_add (pv 2) (pe_call (ok_marks_in T) (hr.mono (by omega)) rfl T.m_marks_in T.F_marks_in.kp T.b_marks_in .nil pass0 (pa_cons (pv 5) pa_nil))) pa_nil)) (by rfl)))))
      (pss_one (ps_ret (pe_tup (pa_cons (pv 3) (pa_cons (pv 4) pa_nil)))))), ?_⟩
    have len := srcs_at nts
    refine ⟨_, rfl, b, rfl, ⟨_, SqT.of hb⟩, ?_⟩
    refine for_st (steady_tup (K := K) (a := b) (xs := xs)) (fun i σ H' => ∃ r1 r2 hs qs z1 z2, σ = [some (.ref a), some (.ref b), some (.int ((bs + nms (ts.take i) : Nat) : Int)), some (.ref r1), some (.ref r2), z1, z2] ∧ Same H H' ∧ FE P w H' r1 hs ∧ FP P w H' r2 qs ∧
      (∀ e : Nat × Pk, e ∈ hs ↔ e ∈ hs0 ∨ ∃ p ∈ ps, HitL fs (ts.take i) bs p e.1 e.2) ∧ (∀ q, q ∈ qs ↔ ∃ p ∈ ps, OutL fs (ts.take i) p q)) ?_ ?_ ?_ ?_
    · exact ⟨h0, d0, hs0, ps, none, none, rfl, same_refl H, f0, fp, fun e => by simp [HitL], fun q => by simp [OutL]⟩
    · rintro i σ H2 _ ⟨r1, r2, hs, qs, z1, z2, rfl, s2, _⟩
      exact SqT.of (s2 _ _ hb)
    · rintro i v σ H2 hv ⟨r1, r2, hs, qs, z1, z2, rfl, s2, fe, fq, me, mq⟩
      obtain ⟨t, c, ht, rfl, nt⟩ := nvs_srcs (nts.mono (.same s2)) hv
      have mem := List.mem_of_getElem? ht
      have d1 := dps_mem mem
      have z1' := subss_mem mem
      have tk : ts.take (i + 1) = ts.take i ++ [t] := by rw [List.take_add_one, ht]; rfl
      have nk := nms_take ht
      have nl := nms_le ts (i + 1)
      have ftk : FitsL fs N (ts.take i) := fitsL_take i ft
      have nl0 := nms_le ts i
      have inH1 : ∀ e ∈ hs, InE x fs.length e := fun e he => by
        rcases (me e).mp he with h | ⟨p, hp, h⟩
        · exact inH e h
        · have := hitL_in _ _ _ _ _ h
          exact ⟨by omega, net.sub (inP p hp) (hitL_sub (inP p hp).1 ftk h)⟩
      have inQ : ∀ q ∈ qs, InU x fs.length q := fun q hq => by
        obtain ⟨p, hp, o⟩ := (mq q).mp hq
        exact net.sub (inP p hp) (outL_sub (inP p hp).1 ftk o)
      refine ⟨_, rfl, _, rfl, _, rfl, _, rfl, a, c, r2, fs, N, x, t, _, qs, rfl, hf.mono (.same s2), nt, fq, net, fits_mem ft mem, forms_mem fm mem, inQ, by omega, by omega, d5, by omega, ?_⟩
      intro r r3 r4 hs2 qs2 H3 s3 at3 fe3 fq3 me3 mq3
      refine ⟨r, _, rfl, SqT.of at3, rfl, _, _, rfl, _, _, rfl, rfl, ?_⟩
      have inH3 : ∀ e ∈ hs2, InE x fs.length e := fun e he => by
        obtain ⟨p, hp, h⟩ := (me3 e).mp he
        have := hit_in _ _ _ _ _ h
        exact ⟨by omega, net.sub (inQ p hp) (hit_sub (inQ p hp).1 (fits_mem ft mem) h)⟩
      dsimp only [tPar, tCons]
      refine read_merge (sortsE net.hx net.hn) rfl rfl (fe.mono (.same s3)) fe3 inH1 inH3 fun r5 hs5 H5 s5 fe5 me5 => ?_
      have s25 := same_trans s2 (same_trans s3 s5)
      refine ⟨_, rfl, _, rfl, c, t, rfl, nt.mono (.same (same_trans s3 s5)), forms_mem fm mem, by omega, by omega, fun H6 s6 => ⟨_, _, rfl, rfl, _, _, rfl, ?_⟩⟩
      refine ⟨r5, r4, hs5, qs2, some (.ref c), some (.ref r3), ?_, same_trans s25 s6, fe5.mono (.same s6), fq3.mono (.same (same_trans s5 s6)), fun e => ?_, fun q => ?_⟩
      · rw [nk, ← Nat.add_assoc]
        rfl
      · rw [me5, me, me3, tk]
        constructor
        · rintro ((h | ⟨p, hp, h⟩) | ⟨r, hr, h⟩)
          · exact .inl h
          · exact .inr ⟨p, hp, hitL_snoc.mpr (.inl h)⟩
          · obtain ⟨p, hp, o⟩ := (mq r).mp hr
            exact .inr ⟨p, hp, hitL_snoc.mpr (.inr ⟨r, o, h⟩)⟩
        · rintro (h | ⟨p, hp, h⟩)
          · exact .inl (.inl h)
          · rcases hitL_snoc.mp h with h | ⟨r, o, h⟩
            · exact .inl (.inr ⟨p, hp, h⟩)
            · exact .inr ⟨r, (mq r).mpr ⟨p, hp, o⟩, h⟩
      · rw [mq3, tk]
        constructor
        · rintro ⟨r, hr, o⟩
          obtain ⟨p, hp, o1⟩ := (mq r).mp hr
          exact ⟨p, hp, outL_snoc.mpr ⟨r, o1, o⟩⟩
        · rintro ⟨p, hp, h⟩
          obtain ⟨r, o1, o⟩ := outL_snoc.mp h
          exact ⟨r, (mq r).mpr ⟨p, hp, o1⟩, o⟩
    · rintro σ H2 ⟨r1, r2, hs, qs, z1, z2, rfl, s2, fe, fq, me, mq⟩
      rw [len, List.take_length] at me mq
      exact ⟨_, rfl, _, rfl, (by show 2 ≤ sizeLine; decide), fun r nr => k r r1 r2 hs qs _ (same_trans s2 (same_new nr)) upd_same (fe.mono (Tp.new nr)) (fq.mono (Tp.new nr)) me mq⟩
end
end Mw
/-! flow. -/
namespace Mw
open PySem L2
section
variable {P : Program} {w : World} {K : PySem.W.Frag} {mg : Str → Option Value} {base : Heap}
theorem fs_made {α β : Type} {f : β → D} {H : Hp} {d : Addr} {kvs : List (D × V)} {l : List α} {p : α → Bool} {g : α → D} (inj : ∀ a b, f a = f b → a = b) (fd : FD P w H d kvs) (mem : ∀ j, j ∈ kvs.map (·.1) ↔ ∃ a ∈ l, p a = true ∧ g a = j) (shape : ∀ a ∈ l, p a = true → ∃ b, f b = g a) :
    ∃ m : List β, FS P w f H d m ∧ ∀ b, b ∈ m ↔ ∃ a ∈ l, p a = true ∧ g a = f b := by
  obtain ⟨m, e⟩ : ∃ m : List β, kvs.map (·.1) = m.map f := map_of fun j hj => by
    obtain ⟨a, h1, h2, rfl⟩ := (mem j).mp hj
    exact shape a h1 h2
  refine ⟨m, ⟨kvs, fd, e⟩, fun b => ?_⟩
  rw [← mem (f b), e, List.mem_map]
  exact ⟨fun h => ⟨b, h, rfl⟩, fun ⟨c, h, q⟩ => inj c b q ▸ h⟩
theorem kinds_of (fs : List Str) (t : Src) : t = .mark ∨ (∃ ts, t = .row ts) ∨ (∃ ts, t = .alt ts) ∨ (∃ u, t = .loop u) ∨ (decide (V.str (word t) = V.str "mark") = false ∧ decide (V.str (word t) = V.str "row") = false ∧ decide (V.str (word t) = V.str "choice") = false ∧ decide (V.str (word t) = V.str "loop") = false ∧
    (∀ b p m q, ¬ Hit fs t b p m q) ∧ ∀ p q, Out fs t p q ↔ act fs t p = some q) := by
  cases t with
  | mark => exact .inl rfl
  | row ts => exact .inr (.inl ⟨ts, rfl⟩)
  | alt ts => exact .inr (.inr (.inl ⟨ts, rfl⟩))
  | loop u => exact .inr (.inr (.inr (.inl ⟨u, rfl⟩)))
  | _ => exact .inr (.inr (.inr (.inr ⟨rfl, rfl, rfl, rfl, fun _ _ _ _ h => by simp only [Hit] at h, fun p q => by simp only [Out]⟩)))
theorem ent_key {H : Hp} {m : Nat} {p : Pk} {q t : Addr} (n : NV H (pkD p) (.ref q)) (h : H t = some (.tup [.int (m : Int), .ref q])) : KeyV H (entD (m, p)) (.ref t) :=
  ⟨.tup h (.cons (.num _) (.cons n .nil)), depth_ent _, _, rfl⟩
/-- a loop's round: what it has found so far -/
structure Round (fs : List Str) (u : Src) (bs : Nat) (ps : List Pk) (hs : List (Nat × Pk)) (qs fr : List Pk) : Prop where
  sub : ∀ q ∈ fr, q ∈ qs
  come : ∀ q ∈ qs, ∃ p ∈ ps, Star (Out fs u) p q
  from_ : ∀ p ∈ ps, p ∈ qs
  shut : ∀ q ∈ qs, q ∉ fr → (∀ r, Out fs u q r → r ∈ qs) ∧ ∀ m r, Hit fs u bs q m r → (m, r) ∈ hs
  hits : ∀ e ∈ hs, ∃ p ∈ ps, Hit fs (.loop u) bs p e.1 e.2
theorem star_snoc {α : Type} {R : α → α → Prop} {a b c : α} (h : Star R a b) (r : R b c) : Star R a c := h.trans (.one r)
theorem Round.next {fs : List Str} {u : Src} {bs : Nat} {ps : List Pk} {hs hs2 hs3 : List (Nat × Pk)} {qs fr qs2 fr3 qs3 : List Pk} (R : Round fs u bs ps hs qs fr) (h2 : ∀ e : Nat × Pk, e ∈ hs2 ↔ ∃ p ∈ fr, Hit fs u bs p e.1 e.2) (q2 : ∀ q, q ∈ qs2 ↔ ∃ p ∈ fr, Out fs u p q)
    (f3 : ∀ q, q ∈ fr3 ↔ q ∈ qs2 ∧ q ∉ qs) (h3 : ∀ e, e ∈ hs3 ↔ e ∈ hs ∨ e ∈ hs2) (q3 : ∀ q, q ∈ qs3 ↔ q ∈ qs ∨ q ∈ fr3) : Round fs u bs ps hs3 qs3 fr3 where
  sub := fun q h => (q3 q).mpr (.inr h)
  come := fun q h => by
    rcases (q3 q).mp h with h | h
    · exact R.come q h
    · obtain ⟨p, hp, o⟩ := (q2 q).mp ((f3 q).mp h).1
      obtain ⟨p0, hp0, st⟩ := R.come p (R.sub p hp)
      exact ⟨p0, hp0, star_snoc st o⟩
  from_ := fun p hp => (q3 p).mpr (.inl (R.from_ p hp))
  shut := fun q h nf => by
    have hq : q ∈ qs := ((q3 q).mp h).resolve_right nf
    by_cases hf : q ∈ fr
    · refine ⟨fun r o => ?_, fun m r o => (h3 _).mpr (.inr ((h2 _).mpr ⟨q, hf, o⟩))⟩
      by_cases e : r ∈ qs
      · exact (q3 r).mpr (.inl e)
      · exact (q3 r).mpr (.inr ((f3 r).mpr ⟨(q2 r).mpr ⟨q, hf, o⟩, e⟩))
    · obtain ⟨h1, h2⟩ := R.shut q hq hf
      exact ⟨fun r o => (q3 r).mpr (.inl (h1 r o)), fun m r o => (h3 _).mpr (.inl (h2 m r o))⟩
  hits := fun e h => by
    rcases (h3 e).mp h with h | h
    · exact R.hits e h
    · obtain ⟨p, hp, o⟩ := (h2 e).mp h
      obtain ⟨p0, hp0, st⟩ := R.come p (R.sub p hp)
      exact ⟨p0, hp0, by simp only [Hit]; exact ⟨p, st, o⟩⟩
theorem Round.done {fs : List Str} {u : Src} {bs : Nat} {ps : List Pk} {hs : List (Nat × Pk)} {qs : List Pk} (R : Round fs u bs ps hs qs []) : (∀ e : Nat × Pk, e ∈ hs ↔ ∃ p ∈ ps, Hit fs (.loop u) bs p e.1 e.2) ∧ ∀ q, q ∈ qs ↔ ∃ p ∈ ps, Out fs (.loop u) p q := by
  have shut : ∀ q r, Star (Out fs u) q r → q ∈ qs → r ∈ qs := fun q r st => by
    induction st with
    | refl => exact fun h => h
    | step o _ ih => exact fun h => ih ((R.shut _ h List.not_mem_nil).1 _ o)
  refine ⟨fun e => ⟨R.hits e, ?_⟩, fun q => ⟨fun h => ?_, ?_⟩⟩
  · rintro ⟨p, hp, h⟩
    simp only [Hit] at h
    obtain ⟨r, st, h⟩ := h
    exact (R.shut r (shut p r st (R.from_ p hp)) List.not_mem_nil).2 _ _ h
  · obtain ⟨p, hp, st⟩ := R.come q h
    exact ⟨p, hp, by simp only [Out]; exact st⟩
  · rintro ⟨p, hp, o⟩
    simp only [Out] at o
    exact shut p q o (R.from_ p hp)
theorem ok_flow1 (T : TX K mg) {d k : Nat} (hk : 8 ≤ k) (G : FnOk P w K mg base CX0 k T.a_flow T.fd_flow ["fields", "tree", "base", "some"] (sp_flow P w d)) (G2 : FnOk P w K mg base CX0 (k + 1) T.a_flow_on T.fd_flow_on ["fields", "parts", "base", "hits", "some"] (sp_flow_on P w d)) :
    FnOk P w K mg base CX0 (k + 2) T.a_flow T.fd_flow ["fields", "tree", "base", "some"] (sp_flow P w (d + 1)) := by
  refine T.F_flow.ok sc_flow (fun vs H Q E h => ?_) (fun cdv A outer s H vs Q E hr h => ?_)
  · obtain ⟨a, b, d0, fs, N, x, t, bs, ps, rfl, _⟩ := h
    rfl
  · obtain ⟨a, b, d0, fs, N, x, t, bs, ps, rfl, hf, nt, fp, net, ft, fm, inP, size, deep, d5, marks, k⟩ := h
    refine ⟨_, (pss_cons (ps_if (pt_cmpR op_eq (pe_ix ix_tup (pv 1) pe_int (fun _ _ => rfl)) pe_str (nomark _)) (pss_one (ps_ret (pe_tup (pa_cons (pe_nfrz (pe_dcn (own := [("packet", 10)]) (g := (gName 10)) (tt := tYes) (tk := (tTup (tCons (tOp (rI0 fun i j => .int (i + j)) (tVar 2) (tC (.int 1))) (tCons (tVar 10) tNil)))) (tv := (tC (.bl true))) (hu_of2 hr) rfl sc_flow.nd (pi_n (pv 3)) (blkOk_by (own := [("packet", 10)]) (N := ["fields", "tree", "base", "some", "hits", "outs", "part", "more", "through", "fresh", "packet"]) (sc := defScope s_flow) (by decide +kernel)) ⟨fun _ _ _ _ _ => (pg_name (i := 10) sc_flow.nd rfl (Or.inl rfl)), fun _ _ _ _ _ => pts_nil, fun _ _ _ _ _ => (pe_tup (pa_cons (pe_op op_add (pv 2) pe_int) (pa_cons (pv 10) pa_nil))), fun _ _ _ _ _ => pe_bl⟩)) (pa_cons pe_nnewF pa_nil))))) pss_nil)
      (pss_cons (ps_if (pt_cmpR op_eq (pe_ix ix_tup (pv 1) pe_int (fun _ _ => rfl)) pe_str (nomark _)) (pss_one (ps_ret (pe_call G2 (hr.mono (by omega)) rfl T.m_flow_on T.F_flow_on.kp T.b_flow_on .nil pass0 (pa_cons (pv 0) (pa_cons (pe_slice sl_tup (pv 1) (po_some pe_int) po_none) (pa_cons (pv 2) (pa_cons pe_nnewF (pa_cons (pv 3) pa_nil)))))))) pss_nil)
      (pss_cons (ps_if (pt_cmpR op_eq (pe_ix ix_tup (pv 1) pe_int (fun _ _ => rfl)) pe_str (nomark _)) (pss_cons (ps_asg (pe_tup (pa_cons pe_nnewF (pa_cons pe_nnewF pa_nil))) (pg_tup rfl (pgs_cons (pg_name (i := 4) sc_flow.nd rfl (Or.inl rfl)) (pgs_cons (pg_name (i := 5) sc_flow.nd rfl (Or.inr rfl)) pgs_nil))))
        (pss_cons (ps_for PassesOwn.never rfl (pi_tup (pe_slice sl_tup (pv 1) (po_some pe_int) po_none)) (pg_name (i := 6) sc_flow.nd rfl (Or.inl rfl)) (pss_cons (ps_asg (pe_call G (hr.mono (by omega)) rfl T.m_flow T.F_flow.kp T.b_flow .nil pass0 (pa_cons (pv 0) (pa_cons (pv 6) (pa_cons (pv 2) (pa_cons (pv 3) pa_nil))))) (pg_tup rfl (pgs_cons (pg_name (i := 7) sc_flow.nd rfl (Or.inl rfl)) (pgs_cons (pg_name (i := 8) sc_flow.nd rfl (Or.inl rfl)) pgs_nil))))
          (pss_one (ps_asg (pe_tup (pa_cons (pe_nmerge (hu_of2 hr) (pv 4) (pv 7)) (pa_cons (pe_nmerge (hu_of2 hr) (pv 5) (pv 8)) (pa_cons (pe_op op_add (pv 2) (pe_call (ok_marks_in T) (hr.mono (by omega)) rfl T.m_marks_in T.F_marks_in.kp T.b_marks_in .nil pass0 (pa_cons (pv 6) pa_nil))) pa_nil)))) (pg_tup rfl (pgs_cons (pg_name (i := 4) sc_flow.nd rfl (Or.inl rfl)) (pgs_cons (pg_name (i := 5) sc_flow.nd rfl (Or.inr rfl)) (pgs_cons (pg_name (i := 2) sc_flow.nd rfl (Or.inr rfl)) pgs_nil))))))))
        (pss_one (ps_ret (pe_tup (pa_cons (pv 4) (pa_cons (pv 5) pa_nil))))))) pss_nil)
      (pss_cons (ps_if (pt_cmpR op_eq (pe_ix ix_tup (pv 1) pe_int (fun _ _ => rfl)) pe_str (nomark _)) (pss_cons (ps_asg (pe_tup (pa_cons pe_nnewF (pa_cons (pe_callTy (cr_ndict (hu_of4 hr)) (by rfl) T.z_dict (by decide +kernel) (pa_cons (pv 3) pa_nil)) (pa_cons (pv 3) pa_nil)))) (pg_tup rfl (pgs_cons (pg_name (i := 4) sc_flow.nd rfl (Or.inl rfl)) (pgs_cons (pg_name (i := 5) sc_flow.nd rfl (Or.inr rfl)) (pgs_cons (pg_name (i := 9) sc_flow.nd rfl (Or.inl rfl)) pgs_nil)))))
        (pss_cons (ps_while PassesOwn.never (pt_cmp (pc_nne (hu_of1 hr) (pv 9) pe_nnewF)) (pss_cons (ps_asg (pe_call G (hr.mono (by omega)) rfl T.m_flow T.F_flow.kp T.b_flow .nil pass0 (pa_cons (pv 0) (pa_cons (pe_ix ix_tup (pv 1) pe_int (fun _ _ => rfl)) (pa_cons (pv 2) (pa_cons (pv 9) pa_nil))))) (pg_tup rfl (pgs_cons (pg_name (i := 7) sc_flow.nd rfl (Or.inl rfl)) (pgs_cons (pg_name (i := 8) sc_flow.nd rfl (Or.inl rfl)) pgs_nil))))
          (pss_cons (ps_nfrz (ps_setDcn (i := 9) (own := [("packet", 10)]) (g := (gName 10)) (tt := (tB (tNNotIn P w (tVar 10) (tVar 5)))) (tk := (tVar 10)) (tv := (tC (.bl true))) (hu_of2 hr) rfl sc_flow.nd rfl rfl (sw_dict rfl rfl rfl (by decide +kernel)) (pi_n (pv 8)) (blkOk_by (own := [("packet", 10)]) (N := ["fields", "tree", "base", "some", "hits", "outs", "part", "more", "through", "fresh", "packet"]) (sc := defScope s_flow) (by decide +kernel)) ⟨fun _ _ _ _ _ => (pg_name (i := 10) sc_flow.nd rfl (Or.inl rfl)), fun _ _ _ _ _ => (pts_one (pt_cmp (pc_nnotin (hu_of2 hr) (pv 10) (pv 5)))), fun _ _ _ _ _ => (pv 10), fun _ _ _ _ _ => pe_bl⟩))
          (pss_one (ps_asg (pe_tup (pa_cons (pe_nmerge (hu_of2 hr) (pv 4) (pv 7)) (pa_cons (pe_nmerge (hu_of2 hr) (pv 5) (pv 9)) pa_nil))) (pg_tup rfl (pgs_cons (pg_name (i := 4) sc_flow.nd rfl (Or.inl rfl)) (pgs_cons (pg_name (i := 5) sc_flow.nd rfl (Or.inr rfl)) pgs_nil))))))))
        (pss_one (ps_ret (pe_tup (pa_cons (pv 4) (pa_cons (pv 5) pa_nil))))))) pss_nil)
      (pss_one (ps_ret (pe_tup (pa_cons pe_nnewF (pa_cons (pe_call (ok_past_leaf T) (hr.mono (by omega)) rfl T.m_past_leaf T.F_past_leaf.kp T.b_past_leaf .nil pass0 (pa_cons (pv 0) (pa_cons (pv 1) (pa_cons (pv 3) pa_nil)))) pa_nil))))))))), ?_⟩
    obtain ⟨xs, ht, nr⟩ := src_tup nt
    have sq : SqT K H b (.str (word t) :: xs) := SqT.of ht
    have sP := sortsP (w := w) net.hx net.hn
    have sE := sortsE (w := w) net.hx net.hn
    have pl := sP.small fp.nodup inP
    have small : ps.length ≤ sizeLine := by rw [sizeLine_eq]; omega
    obtain ⟨kvs, fd, ek⟩ := id fp
    refine ⟨_, rfl, b, _, _, _, rfl, rfl, sq, at0, rfl, ?_⟩
    rcases kinds_of fs t with rfl | ⟨ts, rfl⟩ | ⟨ts, rfl⟩ | ⟨u, rfl⟩ | ⟨w1, w2, w3, w4, noHit, outAct⟩
    · -- a mark
      refine ⟨true, rfl, iteT ⟨_, rfl, d0, kvs, rfl, fd, fun J vs st ak Dd o nD mD => ?_⟩⟩
      refine dc_items (l := ps) st (fun H2 s2 => Tp.same s2) (fun _ => true) (fun p => entD (bs + 1, p)) (.bl true) nD mD (by rw [ak.1.length, ek, List.length_map]) small ?_ ?_
      · intro i p v H2 hp hx s2 Y Nn yes no
        obtain ⟨n, _, q, rfl⟩ := key_at (f := pkD) (ek ▸ ak) hp hx
        refine ⟨rfl, ?_⟩
        simp only [tYes, if_true]
        exact ⟨_, rfl, _, _, rfl, rfl, _, rfl, (by show 2 ≤ sizeLine; decide), fun r nr => yes rfl _ _ (same_new nr) (ent_key (n.mono (.same (same_trans s2 (same_new nr)))) upd_same)⟩
      · intro H2 kvs2 s2 m2 _ mem
        refine ⟨Dd, kvs2, rfl, m2, fun o2 f2 p o3 np f3 => ⟨(by show 2 ≤ sizeLine; decide), fun r nr => ?_⟩⟩
        obtain ⟨hs, fe, me⟩ := fs_made (f := entD) (fun _ _ => entD_inj) f2 mem (fun a _ _ => ⟨_, rfl⟩)
        have s3 := same_trans (same_new (o := o3) np) (same_new (o := .tup [.ref Dd, .ref p]) nr)
        refine k r Dd p hs [] _ (same_trans (same_upd s2 nD) s3) upd_same (fe.mono (.same s3)) ⟨[], f3.mono (Tp.new nr), rfl⟩ (fun e => ?_) fun q => ?_
        · rw [me]
          simp only [Hit, true_and]
          constructor
          · rintro ⟨p, hp, e1⟩
            have := entD_inj e1
            exact ⟨p, hp, by rw [← this], by rw [← this]⟩
          · rintro ⟨p, hp, e1, e2⟩
            exact ⟨p, hp, by rw [← e1, ← e2]⟩
        · simp [Out]
    · -- a row
      refine ⟨false, rfl, iteF ⟨_, rfl, b, _, _, _, rfl, rfl, sq, at0, rfl, true, rfl, iteT ?_⟩⟩
      refine ⟨_, rfl, _, rfl, 1, rfl, b, _, rfl, sq, part1, fun q nq => ?_⟩
      rw [cut1]
      simp only [subs, List.length_cons] at size
      simp only [dp] at deep
      simp only [nm] at marks
      refine ⟨_, rfl, fun p o np fnew => ⟨_, rfl, ?_⟩⟩
      have s1 : Same H (upd H q (.tup xs)) := same_new nq
      have s2 := same_trans s1 (same_new (o := o) np)
      have at2 : (upd H q (.tup xs)) q = some (.tup xs) := upd_same
      refine ⟨a, q, p, d0, fs, N, x, ts, xs, bs, [], ps, rfl, hf.mono (.same s2), same_new np _ _ at2, nr.mono (.same s2), ⟨[], fnew, rfl⟩, fp.mono (.same s2), net, ft, fm.2, inP, fun e h => absurd h List.not_mem_nil, by omega, by omega, by omega, by omega, ?_⟩
      intro r r1 r2 hs qs H' s3 at3 fe fq me mq
      refine k r r1 r2 hs qs H' (same_trans s2 s3) at3 fe fq (fun e => ?_) fun q => ?_
      · rw [me]; simp [Hit]
      · rw [mq]; simp [Out]
    · -- a choice
      refine ⟨false, rfl, iteF ⟨_, rfl, b, _, _, _, rfl, rfl, sq, at0, rfl, false, rfl, iteF ⟨_, rfl, b, _, _, _, rfl, rfl, sq, at0, rfl, true, rfl, iteT ?_⟩⟩⟩
      simp only [subs, List.length_cons] at size
      simp only [dp] at deep
      simp only [nm] at marks
      intro p1 o1 np1 f1 p2 o2 np2 f2
      refine ⟨(by show 2 ≤ sizeLine; decide), fun t nt2 => ⟨t, _, rfl, SqT.of upd_same, rfl, _, _, rfl, _, _, rfl, rfl, ?_⟩⟩
      have s1 := same_trans (same_new (o := o1) np1) (same_trans (same_new (o := o2) np2) (same_new (o := .tup [.ref p1, .ref p2]) nt2))
      refine ⟨_, rfl, 1, rfl, b, _, rfl, SqT.of (s1 _ _ ht), part1, fun q nq => ?_⟩
      rw [cut1]
      have nr : NVs H (srcDs ts) xs := nr
      have s1q := same_trans s1 (same_new (o := .tup xs) nq)
      have len : xs.length = ts.length := srcs_at nr
      refine ⟨q, rfl, ⟨_, SqT.of upd_same⟩, ?_⟩
      refine for_st (steady_tup (K := K) (a := q) (xs := xs)) (fun i σ H' => ∃ r1 r2 hs qs z6 z7 z8, σ = [some (.ref a), some (.ref b), some (.int ((bs + nms (ts.take i) : Nat) : Int)), some (.ref d0), some (.ref r1), some (.ref r2), z6, z7, z8, none, none] ∧ Same H H' ∧ H' q = some (.tup xs) ∧ FE P w H' r1 hs ∧ FP P w H' r2 qs ∧
        (∀ e : Nat × Pk, e ∈ hs ↔ ∃ p ∈ ps, HitA fs (ts.take i) bs p e.1 e.2) ∧ (∀ q, q ∈ qs ↔ ∃ p ∈ ps, OutA fs (ts.take i) p q)) ?_ ?_ ?_ ?_
      · have sa : Same (upd H p1 o1) _ := same_trans (same_new (o := o2) np2) (same_trans (same_new (o := .tup [.ref p1, .ref p2]) nt2) (same_new (o := .tup xs) nq))
        have sb : Same (upd (upd H p1 o1) p2 o2) _ := same_trans (same_new (o := .tup [.ref p1, .ref p2]) nt2) (same_new (o := .tup xs) nq)
        exact ⟨p1, p2, [], [], none, none, none, rfl, s1q, upd_same, ⟨[], f1.mono (.same sa), rfl⟩, ⟨[], f2.mono (.same sb), rfl⟩, fun e => by simp [HitA], fun q => by simp [OutA]⟩
      · rintro i σ H2 _ ⟨r1, r2, hs, qs, z6, z7, z8, rfl, s2, atq, _⟩
        exact SqT.of atq
      · rintro i v σ H2 hv ⟨r1, r2, hs, qs, z6, z7, z8, rfl, s2, atq, fe, fq, me, mq⟩
        obtain ⟨t, c, ht, rfl, nt⟩ := nvs_srcs (nr.mono (.same s2)) hv
        have mem := List.mem_of_getElem? ht
        have d1 := dps_mem mem
        have z1' := subss_mem mem
        have tk : ts.take (i + 1) = ts.take i ++ [t] := by rw [List.take_add_one, ht]; rfl
        have nk := nms_take ht
        have nl := nms_le ts (i + 1)
        have nl0 := nms_le ts i
        have ftk : FitsL fs N (ts.take i) := fitsL_take i ft
        have inH1 : ∀ e ∈ hs, InE x fs.length e := fun e he => by
          obtain ⟨p, hp, h⟩ := (me e).mp he
          have := hitA_in _ _ _ _ _ h
          exact ⟨by omega, net.sub (inP p hp) (hitA_sub (inP p hp).1 ftk h)⟩
        have inQ1 : ∀ q ∈ qs, InU x fs.length q := fun q hq => by
          obtain ⟨p, hp, o⟩ := (mq q).mp hq
          exact net.sub (inP p hp) (out_sub (t := .alt (ts.take i)) (inP p hp).1 ftk (by simp only [Out]; exact o))
        refine ⟨_, rfl, _, rfl, _, rfl, _, rfl, a, c, d0, fs, N, x, t, _, ps, rfl, hf.mono (.same s2), nt, fp.mono (.same s2), net, fits_mem ft mem, forms_mem fm.2 mem, inP, by omega, by omega, by omega, by omega, ?_⟩
        intro r r3 r4 hs2 qs2 H3 s3 at3 fe3 fq3 me3 mq3
        refine ⟨r, _, rfl, SqT.of at3, rfl, _, _, rfl, _, _, rfl, rfl, ?_⟩
        have inH3 : ∀ e ∈ hs2, InE x fs.length e := fun e he => by
          obtain ⟨p, hp, h⟩ := (me3 e).mp he
          have := hit_in _ _ _ _ _ h
          exact ⟨by omega, net.sub (inP p hp) (hit_sub (inP p hp).1 (fits_mem ft mem) h)⟩
        have inQ3 : ∀ q ∈ qs2, InU x fs.length q := fun q hq => by
          obtain ⟨p, hp, o⟩ := (mq3 q).mp hq
          exact net.sub (inP p hp) (out_sub (inP p hp).1 (fits_mem ft mem) o)
        dsimp only [tAsg, tTup, tCons]
        refine read_merge sE rfl rfl (fe.mono (.same s3)) fe3 inH1 inH3 fun r5 hs5 H5 s5 fe5 me5 => ?_
        refine read_merge sP rfl rfl (fq.mono (.same (same_trans s3 s5))) (fq3.mono (.same s5)) inQ1 inQ3 fun r6 qs6 H6 s6 fq6 mq6 => ?_
        have s26 := same_trans s2 (same_trans s3 (same_trans s5 s6))
        refine ⟨_, rfl, _, rfl, c, t, rfl, nt.mono (.same (same_trans s3 (same_trans s5 s6))), forms_mem fm.2 mem, by omega, by omega, fun H7 s7 => ⟨_, _, rfl, rfl, (by show 3 ≤ sizeLine; decide), fun y ny => ?_⟩⟩
        have s8 := same_trans s7 (same_new (o := .tup [.ref r5, .ref r6, .int (((bs + nms (ts.take i) : Nat) : Int) + (nm t : Nat))]) ny)
        refine ⟨y, _, rfl, SqT.of upd_same, rfl, _, _, rfl, _, _, rfl, _, _, rfl, rfl, ?_⟩
        refine ⟨r5, r6, hs5, qs6, some (.ref c), some (.ref r3), some (.ref r4), ?_, same_trans s26 s8, same_trans s3 (same_trans s5 (same_trans s6 s8)) _ _ atq, fe5.mono (.same (same_trans s6 s8)), fq6.mono (.same s8), fun e => ?_, fun q => ?_⟩
        · rw [nk, ← Nat.add_assoc]
          rfl
        · rw [me5, me, me3, tk]
          constructor
          · rintro (⟨p, hp, h⟩ | ⟨p, hp, h⟩)
            · exact ⟨p, hp, hitA_snoc.mpr (.inl h)⟩
            · exact ⟨p, hp, hitA_snoc.mpr (.inr h)⟩
          · rintro ⟨p, hp, h⟩
            rcases hitA_snoc.mp h with h | h
            · exact .inl ⟨p, hp, h⟩
            · exact .inr ⟨p, hp, h⟩
        · rw [mq6, mq, mq3, tk]
          constructor
          · rintro (⟨p, hp, h⟩ | ⟨p, hp, h⟩)
            · exact ⟨p, hp, outA_snoc.mpr (.inl h)⟩
            · exact ⟨p, hp, outA_snoc.mpr (.inr h)⟩
          · rintro ⟨p, hp, h⟩
            rcases outA_snoc.mp h with h | h
            · exact .inl ⟨p, hp, h⟩
            · exact .inr ⟨p, hp, h⟩
      · rintro σ H2 ⟨r1, r2, hs, qs, z6, z7, z8, rfl, s2, atq, fe, fq, me, mq⟩
        rw [len, List.take_length] at me mq
        exact ⟨_, rfl, _, rfl, (by show 2 ≤ sizeLine; decide), fun r nr => k r r1 r2 hs qs _ (same_trans s2 (same_new nr)) upd_same (fe.mono (Tp.new nr)) (fq.mono (Tp.new nr)) (fun e => by rw [me]; simp only [Hit]) fun q => by rw [mq]; simp only [Out]⟩
    · -- a loop
      refine ⟨false, rfl, iteF ⟨_, rfl, b, _, _, _, rfl, rfl, sq, at0, rfl, false, rfl, iteF ⟨_, rfl, b, _, _, _, rfl, rfl, sq, at0, rfl, false, rfl, iteF ⟨_, rfl, b, _, _, _, rfl, rfl, sq, at0, rfl, true, rfl, iteT ?_⟩⟩⟩⟩
      simp only [subs, List.length_cons] at size
      simp only [dp] at deep
      simp only [nm] at marks
      have nr : NVs H (srcDs [u]) xs := nr
      obtain ⟨cu, rfl, nu⟩ : ∃ cu, xs = [.ref cu] ∧ NV H (srcD u) (.ref cu) := by
        cases nr with
        | cons a1 r1 =>
          cases r1
          obtain ⟨cu, _, rfl, _⟩ := nv_tup (srcD_eq u ▸ a1)
          exact ⟨cu, rfl, a1⟩
      intro p1 o1 np1 f1
      have s1 := same_new (o := o1) np1
      have ft : Fits fs N u := ft
      have fm : Form u := fm
      refine ⟨_, rfl, d0, kvs, rfl, .inr (fd.mono (.same s1)), sP.apartD ek fd.nodup inP, by rw [keys_len ek]; exact small, fun p2 o2 np2 f2 => ?_⟩
      have s2 := same_trans s1 (same_new (o := o2) np2)
      refine ⟨_, rfl, (by show 3 ≤ sizeLine; decide), fun t nt2 => ?_⟩
      have s3 := same_trans s2 (same_new (o := .tup [.ref p1, .ref p2, .ref d0]) nt2)
      refine ⟨t, _, rfl, SqT.of upd_same, rfl, _, _, rfl, _, _, rfl, _, _, rfl, rfl, ?_⟩
      refine ⟨fun m σ H' => ∃ r1 r2 r3 hs qs fr z7 z8, m = 2 * (1000 - qs.length) + (if fr = [] then 0 else 1) ∧ σ = [some (.ref a), some (.ref b), some (.int (bs : Int)), some (.ref d0), some (.ref r1), some (.ref r2), none, z7, z8, some (.ref r3), none] ∧ Same H H' ∧ FE P w H' r1 hs ∧ FP P w H' r2 qs ∧ FP P w H' r3 fr ∧ Round fs u bs ps hs qs fr, ⟨_, p1, p2, d0, [], ps, ps, none, none, rfl, rfl, s3, ?_, ?_, fp.mono (.same s3), ?_⟩, ?_⟩
      · exact ⟨[], f1.mono (.same (same_trans (same_new (o := o2) np2) (same_new (o := .tup [.ref p1, .ref p2, .ref d0]) nt2))), rfl⟩
      · exact ⟨kvs, f2.mono (Tp.new nt2), ek⟩
      · exact ⟨fun q h => h, fun q h => ⟨q, h, .refl⟩, fun p h => h, fun q h n => absurd h n, fun e h => absurd h List.not_mem_nil⟩
      rintro m σ H2 ⟨r1, r2, r3, hs, qs, fr, z7, z8, rfl, rfl, sH, fe, fq, ffr, R⟩
      have inQ : ∀ q ∈ qs, InU x fs.length q := fun q hq => by
        obtain ⟨p, hp, o⟩ := R.come q hq
        exact net.sub (inP p hp) (star_sub (inP p hp).1 ft o)
      have inH : ∀ e ∈ hs, InE x fs.length e := fun e he => by
        obtain ⟨p, hp, h⟩ := R.hits e he
        have := hit_in _ _ _ _ _ h
        simp only [nm] at this
        exact ⟨by omega, net.sub (inP p hp) (hit_sub (t := .loop u) (inP p hp).1 ft h)⟩
      obtain ⟨kf, fdf, ekf⟩ := id ffr
      refine ⟨_, rfl, fun pe oe npe fe0 => ⟨r3, pe, kf, rfl, rfl, .inr (fdf.mono (Tp.new npe)), .inr fe0, !kf.isEmpty, rfl, iteB (fun ne => ?_) fun em => ?_⟩⟩
      · have frn : fr ≠ [] := fun e => by
          rw [e] at ekf
          have : kf = [] := List.map_eq_nil_iff.mp ekf
          rw [this] at ne
          cases ne
        have se := same_new (o := oe) npe
        have sHe := same_trans sH se
        refine ⟨_, fun _ _ h => h, ?_⟩
        refine ⟨_, rfl, _, rfl, b, _, _, _, rfl, rfl, SqT.of (sHe _ _ ht), atI_nat (j := 1) rfl, _, rfl, _, rfl, a, cu, r3, fs, N, x, u, bs, fr, rfl, hf.mono (.same sHe), nu.mono (.same sHe), ffr.mono (.same se), net, ft, fm, fun p hp => inQ p (R.sub p hp), by omega, by omega, by omega, by omega, ?_⟩
        intro r r4 r5 hs2 qs2 H3 s4 at3 fe3 fq3 me3 mq3
        refine ⟨r, _, rfl, SqT.of at3, rfl, _, _, rfl, _, _, rfl, rfl, ?_⟩
        have inQ2 : ∀ q ∈ qs2, InU x fs.length q := fun q hq => by
          obtain ⟨p, hp, o⟩ := (mq3 q).mp hq
          have i := inQ p (R.sub p hp)
          exact net.sub i (out_sub i.1 ft o)
        have inH2 : ∀ e ∈ hs2, InE x fs.length e := fun e he => by
          obtain ⟨p, hp, h⟩ := (me3 e).mp he
          have i := inQ p (R.sub p hp)
          have := hit_in _ _ _ _ _ h
          exact ⟨by omega, net.sub i (hit_sub i.1 ft h)⟩
        obtain ⟨k5, fd5, ek5⟩ := id fq3
        have fq2 := fq.mono (.same (same_trans se s4))
        obtain ⟨kq, fdq, ekq⟩ := id fq2
        have l2 := sP.small fq3.nodup inQ2
        refine ⟨_, rfl, r5, k5, rfl, fd5, fun J vs st ak Dd o nD mD => ?_⟩
        refine dc_items (l := qs2) st (fun H2 s2 => Tp.same s2) (fun p => !(valV kq (pkD p)).isSome) pkD (.bl true) nD mD (by rw [ak.1.length, ek5, List.length_map]) (by rw [sizeLine_eq]; omega) ?_ ?_
        · intro i p v H4 hp hv s5 Y Nn yes no
          have kv := key_at (f := pkD) (ek5 ▸ ak) hp hv
          refine ⟨rfl, _, rfl, _, rfl, r2, kq, pkD p, rfl, .inr (fdq.mono (.same s5)), kv.mono (.same s5), _, rfl, iteB (fun e => ?_) fun e => no e _ (same_refl _)⟩
          exact ⟨_, rfl, yes e _ _ (same_refl _) (kv.mono (.same s5))⟩
        · intro H4 kv4 s5 m4 _ mem
          refine ⟨Dd, kv4, m4, fun o5 f5 => ?_⟩
          obtain ⟨fr3, ff3, mf3⟩ := fs_made (f := pkD) (fun _ _ => pkD_inj) f5 mem (fun a _ _ => ⟨_, rfl⟩)
          have s35 := same_upd (o := o5) s5 nD
          have sub3 : ∀ q, q ∈ fr3 ↔ q ∈ qs2 ∧ q ∉ qs := fun q => by
            rw [mf3]
            have e1 : ∀ p, (!(valV kq (pkD p)).isSome) = true ↔ p ∉ qs := fun p => by
              rw [Bool.not_eq_true', ← Bool.not_eq_true, valV_mem, ekq, List.mem_map]
              exact ⟨fun h m => h ⟨p, m, rfl⟩, fun h ⟨p', m, e⟩ => h (pkD_inj e ▸ m)⟩
            constructor
            · rintro ⟨p, hp, h1, h2⟩
              rw [← pkD_inj h2]
              exact ⟨hp, (e1 p).mp h1⟩
            · rintro ⟨h1, h2⟩
              exact ⟨q, h1, (e1 q).mpr h2, rfl⟩
          have inF3 : ∀ q ∈ fr3, InU x fs.length q := fun q hq => inQ2 q ((sub3 q).mp hq).1
          dsimp only [tAsg, tTup, tCons]
          refine read_merge sE rfl rfl (fe.mono (.same (same_trans (same_trans se s4) s35))) (fe3.mono (.same s35)) inH inH2 fun r6 hs6 H6 s6 fe6 me6 => ?_
          refine read_merge sP rfl rfl (fq2.mono (.same (same_trans s35 s6))) (ff3.mono (.same s6)) inQ inF3 fun r7 qs7 H7 s7 fq7 mq7 => ?_
          refine ⟨(by show 2 ≤ sizeLine; decide), fun y ny => ?_⟩
          have s8 := same_new (o := .tup [.ref r6, .ref r7]) ny
          have sAll := same_trans (same_trans sHe s4) (same_trans s35 (same_trans s6 (same_trans s7 s8)))
          refine ⟨y, _, rfl, SqT.of upd_same, rfl, _, _, rfl, _, _, rfl, rfl, ?_⟩
          have n7 := fq7.nodup
          have R2 := R.next me3 mq3 sub3 me6 mq7
          have in7 : ∀ q ∈ qs7, InU x fs.length q := fun q hq => by
            rcases (mq7 q).mp hq with h | h
            · exact inQ q h
            · exact inF3 q h
          have l7 := sP.small n7 in7
          refine ⟨_, ?_, r6, r7, Dd, hs6, qs7, fr3, some (.ref r4), some (.ref r5), rfl, rfl, sAll, fe6.mono (.same (same_trans s7 s8)), fq7.mono (.same s8), ff3.mono (.same (same_trans s6 (same_trans s7 s8))), R2⟩
          have lq := nodup_len fq.nodup fun q hq => (mq7 q).mpr (.inl hq)
          rw [if_neg frn]
          by_cases e3 : fr3 = []
          · rw [if_pos e3]
            omega
          · rw [if_neg e3]
            obtain ⟨q3, h3⟩ := List.exists_mem_of_ne_nil fr3 e3
            have lt : qs.length < qs7.length := by
              have := nodup_len (l := q3 :: qs) (U := qs7) (List.nodup_cons.mpr ⟨((sub3 q3).mp h3).2, fq.nodup⟩) fun q hq => by
                rcases List.mem_cons.mp hq with rfl | hq
                · exact (mq7 _).mpr (.inr h3)
                · exact (mq7 _).mpr (.inl hq)
              rw [List.length_cons] at this
              omega
            omega
      · have fr0 : fr = [] := by
          have : kf = [] := by
            cases kf with
            | nil => rfl
            | cons _ _ => cases em
          rw [this] at ekf
          exact List.map_eq_nil_iff.mp ekf.symm
        subst fr0
        obtain ⟨me, mq⟩ := R.done
        have se := same_new (o := oe) npe
        exact ⟨_, rfl, _, rfl, (by show 2 ≤ sizeLine; decide), fun r nr => k r r1 r2 hs qs _ (same_trans (same_trans sH se) (same_new nr)) upd_same (fe.mono (.same (same_trans se (same_new nr)))) (fq.mono (.same (same_trans se (same_new nr)))) me mq⟩
    · refine ⟨false, congrArg V.bl w1, iteF ⟨_, rfl, b, _, _, _, rfl, rfl, sq, at0, rfl, false, congrArg V.bl w2, iteF ⟨_, rfl, b, _, _, _, rfl, rfl, sq, at0, rfl, false, congrArg V.bl w3, iteF ⟨_, rfl, b, _, _, _, rfl, rfl, sq, at0, rfl, false, congrArg V.bl w4, iteF ?_⟩⟩⟩⟩
      intro p o np fnew
      have s1 := same_new (o := o) np
      refine ⟨_, rfl, _, rfl, _, rfl, a, b, d0, fs, N, t, ps, rfl, hf.mono (.same s1), nt.mono (.same s1), fp.mono (.same s1), ft, fun p hp => (inP p hp).1, size, by omega, by have := net.hn; omega, pl, ?_⟩
      intro r qs H2 s2 fq mq
      refine ⟨(by show 2 ≤ sizeLine; decide), fun t2 nt2 => ?_⟩
      have s3 := same_new (o := .tup [.ref p, .ref r]) nt2
      refine k t2 p r [] qs _ (same_trans s1 (same_trans s2 s3)) upd_same ⟨[], fnew.mono (.same (same_trans s2 s3)), rfl⟩ (fq.mono (.same s3)) (fun e => ?_) fun q => ?_
      · exact ⟨fun h => absurd h List.not_mem_nil, fun ⟨p, _, h⟩ => absurd h (noHit _ _ _ _)⟩
      · rw [mq]
        simp only [outAct]
end
end Mw
/-! flow of all depths; onward. -/
namespace Mw
open PySem L2
section
variable {fs : List Str}
/-- the part that has the mark m -/
theorem onHitL_at : ∀ {ts : List Src} {j b m : Nat} {t : Src} {p q : Pk} {n : Nat}, ts[j]? = some t → b + nms (ts.take j) < m → m ≤ b + nms (ts.take (j + 1)) → (OnHitL fs ts b m p n q ↔ OnHit fs t (b + nms (ts.take j)) m p n q ∨ ∃ r, OnOut fs t (b + nms (ts.take j)) m p r ∧ HitL fs (ts.drop (j + 1)) (b + nms (ts.take (j + 1))) r n q)
  | [], j, b, m, t, p, q, n, h, _, _ => by simp at h
  | s :: ts, 0, b, m, t, p, q, n, h, h1, h2 => by
    simp only [List.getElem?_cons_zero, Option.some.injEq] at h
    subst h
    simp only [List.take_succ_cons, List.take_zero, nms, Nat.add_zero] at h1 h2 ⊢
    simp only [OnHitL, if_pos h2, List.drop_succ_cons, List.drop_zero]
  | s :: ts, j + 1, b, m, t, p, q, n, h, h1, h2 => by
    simp only [List.getElem?_cons_succ] at h
    simp only [List.take_succ_cons, nms] at h1 h2 ⊢
    have no : ¬ m ≤ b + nm s := by omega
    simp only [OnHitL, if_neg no, List.drop_succ_cons]
    have := onHitL_at (b := b + nm s) (p := p) (q := q) (n := n) h (by omega) (by omega : m ≤ b + nm s + nms (ts.take (j + 1)))
    rw [this, show b + nm s + nms (ts.take j) = b + (nm s + nms (ts.take j)) by omega, show b + nm s + nms (ts.take (j + 1)) = b + (nm s + nms (ts.take (j + 1))) by omega]
theorem onOutL_at : ∀ {ts : List Src} {j b m : Nat} {t : Src} {p q : Pk}, ts[j]? = some t → b + nms (ts.take j) < m → m ≤ b + nms (ts.take (j + 1)) → (OnOutL fs ts b m p q ↔ ∃ r, OnOut fs t (b + nms (ts.take j)) m p r ∧ OutL fs (ts.drop (j + 1)) r q)
  | [], j, b, m, t, p, q, h, _, _ => by simp at h
  | s :: ts, 0, b, m, t, p, q, h, h1, h2 => by
    simp only [List.getElem?_cons_zero, Option.some.injEq] at h
    subst h
    simp only [List.take_succ_cons, List.take_zero, nms, Nat.add_zero] at h1 h2 ⊢
    simp only [OnOutL, if_pos h2, List.drop_succ_cons, List.drop_zero]
  | s :: ts, j + 1, b, m, t, p, q, h, h1, h2 => by
    simp only [List.getElem?_cons_succ] at h
    simp only [List.take_succ_cons, nms] at h1 h2 ⊢
    have no : ¬ m ≤ b + nm s := by omega
    simp only [OnOutL, if_neg no, List.drop_succ_cons]
    have := onOutL_at (b := b + nm s) (p := p) (q := q) h (by omega) (by omega : m ≤ b + nm s + nms (ts.take (j + 1)))
    rw [this, show b + nm s + nms (ts.take j) = b + (nm s + nms (ts.take j)) by omega]
theorem onHitA_at : ∀ {ts : List Src} {j b m : Nat} {t : Src} {p q : Pk} {n : Nat}, ts[j]? = some t → b + nms (ts.take j) < m → m ≤ b + nms (ts.take (j + 1)) → (OnHitA fs ts b m p n q ↔ OnHit fs t (b + nms (ts.take j)) m p n q)
  | [], j, b, m, t, p, q, n, h, _, _ => by simp at h
  | s :: ts, 0, b, m, t, p, q, n, h, h1, h2 => by
    simp only [List.getElem?_cons_zero, Option.some.injEq] at h
    subst h
    simp only [List.take_succ_cons, List.take_zero, nms, Nat.add_zero] at h1 h2 ⊢
    simp only [OnHitA, if_pos h2]
  | s :: ts, j + 1, b, m, t, p, q, n, h, h1, h2 => by
    simp only [List.getElem?_cons_succ] at h
    simp only [List.take_succ_cons, nms] at h1 h2 ⊢
    have no : ¬ m ≤ b + nm s := by omega
    simp only [OnHitA, if_neg no]
    have := onHitA_at (b := b + nm s) (p := p) (q := q) (n := n) h (by omega) (by omega : m ≤ b + nm s + nms (ts.take (j + 1)))
    rw [this, show b + nm s + nms (ts.take j) = b + (nm s + nms (ts.take j)) by omega]
theorem onOutA_at : ∀ {ts : List Src} {j b m : Nat} {t : Src} {p q : Pk}, ts[j]? = some t → b + nms (ts.take j) < m → m ≤ b + nms (ts.take (j + 1)) → (OnOutA fs ts b m p q ↔ OnOut fs t (b + nms (ts.take j)) m p q)
  | [], j, b, m, t, p, q, h, _, _ => by simp at h
  | s :: ts, 0, b, m, t, p, q, h, h1, h2 => by
    simp only [List.getElem?_cons_zero, Option.some.injEq] at h
    subst h
    simp only [List.take_succ_cons, List.take_zero, nms, Nat.add_zero] at h1 h2 ⊢
    simp only [OnOutA, if_pos h2]
  | s :: ts, j + 1, b, m, t, p, q, h, h1, h2 => by
    simp only [List.getElem?_cons_succ] at h
    simp only [List.take_succ_cons, nms] at h1 h2 ⊢
    have no : ¬ m ≤ b + nm s := by omega
    simp only [OnOutA, if_neg no]
    have := onOutA_at (b := b + nm s) (p := p) (q := q) h (by omega) (by omega : m ≤ b + nm s + nms (ts.take (j + 1)))
    rw [this, show b + nm s + nms (ts.take j) = b + (nm s + nms (ts.take j)) by omega]
end
section
variable {P : Program} {w : World} {K : PySem.W.Frag} {mg : Str → Option Value} {base : Heap}
theorem ok_flow_by (T : TX K mg) : ∀ d : Nat, FnOk P w K mg base CX0 (2 * d + 8) T.a_flow T.fd_flow ["fields", "tree", "base", "some"] (sp_flow P w d)
  | 0 => by
    have no : ∀ {vs H Q E}, ¬ sp_flow P w 0 vs H Q E := fun {vs H Q E} h => by
      obtain ⟨a, b, d0, fs, N, x, t, bs, ps, rfl, _, _, _, _, _, _, _, _, deep, _⟩ := h
      have := dp_pos t
      omega
    exact T.F_flow.ok sc_flow (fun vs H Q E h => absurd h no) (fun cdv A outer s H vs Q E hr h => absurd h no)
  | d + 1 => ok_flow1 T (by omega) (ok_flow_by T d) (ok_flow_on1 T (by omega) (ok_flow_by T d))
theorem ok_flow (T : TX K mg) : FnOk P w K mg base CX0 18 T.a_flow T.fd_flow ["fields", "tree", "base", "some"] (sp_flow P w 5) := ok_flow_by T 5
theorem ok_flow_on (T : TX K mg) : FnOk P w K mg base CX0 19 T.a_flow_on T.fd_flow_on ["fields", "parts", "base", "hits", "some"] (sp_flow_on P w 5) := ok_flow_on1 T (by omega) (ok_flow T)
def sp_onward (P : Program) (w : World) (d : Nat) : Sp := fun vs H Q _ => ∃ a b c fs N x t, ∃ bs m : Nat, ∃ p : Pk, vs = [.ref a, .ref b, .int (bs : Int), .int (m : Int), .ref c] ∧ PTup H a (fs.map V.str) ∧ NV H (srcD t) (.ref b) ∧ NV H (pkD p) (.ref c) ∧ Net x fs N ∧ Fits fs N t ∧ Form t ∧ InU x fs.length p ∧
  (subs t).length ≤ 1000 ∧ dp t ≤ d ∧ d ≤ 5 ∧ bs + nm t ≤ 6 ∧ bs < m ∧ m ≤ bs + nm t ∧ ∀ r r1 r2 hs qs H', Same H H' → H' r = some (.tup [.ref r1, .ref r2]) → FE P w H' r1 hs → FP P w H' r2 qs → (∀ e : Nat × Pk, e ∈ hs ↔ OnHit fs t bs m p e.1 e.2) → (∀ q, q ∈ qs ↔ OnOut fs t bs m p q) → Q (.ref r) H'
theorem fitsL_drop {fs : List Str} {N : List Nat} : ∀ {ts : List Src} (i : Nat), FitsL fs N ts → FitsL fs N (ts.drop i)
  | [], i, h => by simpa using h
  | _ :: _, 0, h => h
  | t :: ts, i + 1, h => fitsL_drop (ts := ts) i h.2
theorem forms_drop : ∀ {ts : List Src} (i : Nat), Forms ts → Forms (ts.drop i)
  | [], i, h => by simpa using h
  | _ :: _, 0, h => h
  | t :: ts, i + 1, h => forms_drop (ts := ts) i h.2
theorem subss_drop : ∀ (ts : List Src) (i : Nat), (subss (ts.drop i)).length ≤ (subss ts).length
  | [], i => by simp
  | _ :: _, 0 => Nat.le_refl _
  | t :: ts, i + 1 => by
    have := subss_drop ts i
    rw [List.drop_succ_cons, subss, List.length_append]
    omega
theorem dps_drop : ∀ (ts : List Src) (i : Nat), dps (ts.drop i) ≤ dps ts
  | [], i => by simp
  | _ :: _, 0 => Nat.le_refl _
  | t :: ts, i + 1 => by
    have := dps_drop ts i
    rw [List.drop_succ_cons, dps]
    omega
theorem nms_drop : ∀ (ts : List Src) (i : Nat), nms (ts.take i) + nms (ts.drop i) = nms ts
  | [], i => by simp [nms]
  | _ :: _, 0 => by simp [nms]
  | t :: ts, i + 1 => by
    have := nms_drop ts i
    rw [List.take_succ_cons, List.drop_succ_cons, nms, nms]
    omega
theorem leaf_nm {fs : List Str} {t : Src} (w1 : decide (V.str (word t) = V.str "mark") = false) (w2 : decide (V.str (word t) = V.str "row") = false) (w3 : decide (V.str (word t) = V.str "choice") = false) (w4 : decide (V.str (word t) = V.str "loop") = false) : nm t = 0 := by
  cases t with
  | mark => exact absurd w1 (by decide)
  | row ts => exact Bool.noConfusion (show true = false from w2)
  | alt ts => exact Bool.noConfusion (show true = false from w3)
  | loop u => exact Bool.noConfusion (show true = false from w4)
  | _ => simp [nm]
theorem ok_onward1 (T : TX K mg) {d k : Nat} (hk : 19 ≤ k) (G : FnOk P w K mg base CX0 k T.a_onward T.fd_onward ["fields", "tree", "base", "place", "packet"] (sp_onward P w d)) :
    FnOk P w K mg base CX0 (k + 1) T.a_onward T.fd_onward ["fields", "tree", "base", "place", "packet"] (sp_onward P w (d + 1)) := by
  refine T.F_onward.ok sc_onward (fun vs H Q E h => ?_) (fun cdv A outer s H vs Q E hr h => ?_)
  · obtain ⟨a, b, c, fs, N, x, t, bs, m, p, rfl, _⟩ := h
    rfl
  · obtain ⟨a, b, c, fs, N, x, t, bs, m, p, rfl, hf, nt, np, net, ft, fm, inp, size, deep, d5, marks, lo, hi, k⟩ := h
    refine ⟨_, (pss_cons (ps_if (pt_cmpR op_eq (pe_ix ix_tup (pv 1) pe_int (fun _ _ => rfl)) pe_str (nomark _)) (pss_one (ps_ret (pe_tup (pa_cons pe_nnewF (pa_cons (pe_nfrz (pe_n1 (hu_of2 hr) (pv 4) pe_bl)) pa_nil))))) pss_nil)
      (pss_cons (ps_if (pt_cmpR op_eq (pe_ix ix_tup (pv 1) pe_int (fun _ _ => rfl)) pe_str (nomark _)) (pss_cons (ps_asg (pe_call G (hr.mono (by omega)) rfl T.m_onward T.F_onward.kp T.b_onward .nil pass0 (pa_cons (pv 0) (pa_cons (pe_ix ix_tup (pv 1) pe_int (fun _ _ => rfl)) (pa_cons (pv 2) (pa_cons (pv 3) (pa_cons (pv 4) pa_nil)))))) (pg_tup rfl (pgs_cons (pg_name (i := 5) sc_onward.nd rfl (Or.inl rfl)) (pgs_cons (pg_name (i := 6) sc_onward.nd rfl (Or.inl rfl)) pgs_nil))))
        (pss_cons (ps_asg (pe_call (ok_flow T) (hr.mono (by omega)) rfl T.m_flow T.F_flow.kp T.b_flow .nil pass0 (pa_cons (pv 0) (pa_cons (pv 1) (pa_cons (pv 2) (pa_cons (pv 6) pa_nil))))) (pg_tup rfl (pgs_cons (pg_name (i := 7) sc_onward.nd rfl (Or.inl rfl)) (pgs_cons (pg_name (i := 8) sc_onward.nd rfl (Or.inl rfl)) pgs_nil))))
        (pss_one (ps_ret (pe_tup (pa_cons (pe_nmerge (hu_of2 hr) (pv 5) (pv 7)) (pa_cons (pv 8) pa_nil))))))) pss_nil)
      (pss_cons (ps_set (i := 9) sc_onward.nd rfl (Or.inl rfl) pe_int)
      (pss_cons (ps_while PassesOwn.never (pt_cmp (pc_gt (pv 3) (pe_op op_add (pv 2) (pe_call (ok_marks_in T) (hr.mono (by omega)) rfl T.m_marks_in T.F_marks_in.kp T.b_marks_in .nil pass0 (pa_cons (pe_ix ix_tup (pv 1) (pv 9) (fun _ _ => rfl)) pa_nil))))) (pss_one (ps_par (i := 2) (j := 9) (by rfl) sc_onward.nd rfl rfl (by decide) rfl rfl (pa_cons (pe_op op_add (pv 2) (pe_call (ok_marks_in T) (hr.mono (by omega)) rfl T.m_marks_in T.F_marks_in.kp T.b_marks_in .nil pass0 (pa_cons (pe_ix ix_tup (pv 1) (pv 9) (fun _ _ => rfl)) pa_nil))) (pa_cons (pe_op op_add (pv 9) pe_int) pa_nil)) (by rfl))))
      (pss_cons (ps_asg (pe_call G (hr.mono (by omega)) rfl T.m_onward T.F_onward.kp T.b_onward .nil pass0 (pa_cons (pv 0) (pa_cons (pe_ix ix_tup (pv 1) (pv 9) (fun _ _ => rfl)) (pa_cons (pv 2) (pa_cons (pv 3) (pa_cons (pv 4) pa_nil)))))) (pg_tup rfl (pgs_cons (pg_name (i := 5) sc_onward.nd rfl (Or.inl rfl)) (pgs_cons (pg_name (i := 6) sc_onward.nd rfl (Or.inl rfl)) pgs_nil))))
      (pss_cons (ps_if (pt_cmpR op_eq (pe_ix ix_tup (pv 1) pe_int (fun _ _ => rfl)) pe_str (nomark _)) (pss_one (ps_ret (pe_tup (pa_cons (pv 5) (pa_cons (pv 6) pa_nil))))) pss_nil)
      (pss_one (ps_ret (pe_call (ok_flow_on T) (hr.mono (by omega)) rfl T.m_flow_on T.F_flow_on.kp T.b_flow_on .nil pass0 (pa_cons (pv 0) (pa_cons (pe_slice sl_tup (pv 1) (po_some (pe_op op_add (pv 9) pe_int)) po_none) (pa_cons (pe_op op_add (pv 2) (pe_call (ok_marks_in T) (hr.mono (by omega)) rfl T.m_marks_in T.F_marks_in.kp T.b_marks_in .nil pass0 (pa_cons (pe_ix ix_tup (pv 1) (pv 9) (fun _ _ => rfl)) pa_nil))) (pa_cons (pv 5) (pa_cons (pv 6) pa_nil)))))))))))))), ?_⟩
    obtain ⟨xs, ht, nr⟩ := src_tup nt
    have sq : SqT K H b (.str (word t) :: xs) := SqT.of ht
    have sP := sortsP (w := w) net.hx net.hn
    have sE := sortsE (w := w) net.hx net.hn
    refine ⟨_, rfl, b, _, _, _, rfl, rfl, sq, at0, rfl, ?_⟩
    by_cases hj : ∃ ts, t = .row ts ∨ t = .alt ts
    · obtain ⟨ts, hj⟩ := hj
      have w1 : decide (V.str (word t) = V.str "mark") = false := by rcases hj with rfl | rfl <;> rfl
      have w4 : decide (V.str (word t) = V.str "loop") = false := by rcases hj with rfl | rfl <;> rfl
      have ns : NVs H (srcDs ts) xs := by rcases hj with rfl | rfl <;> exact nr
      have ftl : FitsL fs N ts := by rcases hj with rfl | rfl <;> exact ft
      have fml : Forms ts := by rcases hj with rfl | rfl <;> exact fm.2
      have size1 : (subss ts).length ≤ 1000 := by rcases hj with rfl | rfl <;> (simp only [subs, List.length_cons] at size; omega)
      have deep1 : dps ts ≤ d := by rcases hj with rfl | rfl <;> (simp only [dp] at deep; omega)
      have nms1 : nm t = nms ts := by rcases hj with rfl | rfl <;> rfl
      have len := srcs_at ns
      refine ⟨false, congrArg V.bl w1, iteF ⟨_, rfl, b, _, _, _, rfl, rfl, sq, at0, rfl, false, congrArg V.bl w4, iteF ?_⟩⟩
      have inx : ∀ {j : Nat} {H' : Hp}, Same H H' → j < ts.length → ∃ u cu, ts[j]? = some u ∧ NV H' (srcD u) (.ref cu) ∧ atI (.str (word t) :: xs) ((j + 1 : Nat) : Int) = some (.ref cu) := fun {j H'} s lt => by
        have hv : xs[j]? = some xs[j] := List.getElem?_eq_getElem (by omega)
        obtain ⟨u, cu, hu, e, nu⟩ := nvs_srcs (ns.mono (.same s)) hv
        exact ⟨u, cu, hu, nu, atI_nat (by rw [List.getElem?_cons_succ, hv, e])⟩
      have pos : 0 < ts.length := by
        cases ts with
        | nil => rw [nms1] at hi; simp [nms] at hi; omega
        | cons _ _ => simp
      refine ⟨fun μ σ H' => ∃ j, μ = ts.length - j ∧ j < ts.length ∧ bs + nms (ts.take j) < m ∧ Same H H' ∧ σ = [some (.ref a), some (.ref b), some (.int ((bs + nms (ts.take j) : Nat) : Int)), some (.int (m : Int)), some (.ref c), none, none, none, none, some (.int ((j + 1 : Nat) : Int))], ⟨_, 0, rfl, pos, by simpa [nms] using lo, same_refl H, rfl⟩, ?_⟩
      rintro μ σ H2 ⟨j, rfl, lt, below, s2, rfl⟩
      obtain ⟨u, cu, hu, nu, hat⟩ := inx s2 lt
      have mem := List.mem_of_getElem? hu
      have d1 := dps_mem mem
      have z1 := subss_mem mem
      have nk := nms_take hu
      have nl := nms_le ts (j + 1)
      refine ⟨_, rfl, _, rfl, _, rfl, _, rfl, b, _, _, _, rfl, rfl, SqT.of (s2 _ _ ht), hat, cu, u, rfl, nu, forms_mem fml mem, by omega, by omega, fun H3 s3 => ⟨_, _, rfl, rfl, _, _, rfl, rfl, _, rfl, iteB (fun gt => ?_) fun le => ?_⟩⟩
      · have gt : bs + nms (ts.take j) + nm u < m := by
          have := of_decide_eq_true gt
          omega
        have s23 := same_trans s2 s3
        have lt2 : j + 1 < ts.length := by
          rcases Nat.lt_or_ge (j + 1) ts.length with h | h
          · exact h
          · rw [List.take_of_length_le h] at nk
            omega
        refine ⟨_, fun _ _ h => h, ?_⟩
        refine ⟨_, rfl, _, rfl, _, rfl, b, _, _, _, rfl, rfl, SqT.of (s23 _ _ ht), hat, cu, u, rfl, nu.mono (.same s3), forms_mem fml mem, by omega, by omega, fun H4 s4 => ⟨_, _, rfl, rfl, _, rfl, _, _, rfl, rfl, _, _, rfl, ?_⟩⟩
        refine ⟨_, (by omega : ts.length - (j + 1) < ts.length - j), j + 1, rfl, lt2, by omega, same_trans s23 s4, ?_⟩
        rw [nk, ← Nat.add_assoc]
        rfl
      · have le : m ≤ bs + nms (ts.take j) + nm u := by
          have := of_decide_eq_false le
          omega
        have hi2 : m ≤ bs + nms (ts.take (j + 1)) := by omega
        have s23 := same_trans s2 s3
        have fu := fits_mem ftl mem
        refine ⟨_, rfl, _, rfl, _, rfl, b, _, _, _, rfl, rfl, SqT.of (s23 _ _ ht), hat, _, rfl, _, rfl, _, rfl, a, cu, c, fs, N, x, u, _, m, p, rfl, hf.mono (.same s23), nu.mono (.same s3), np.mono (.same s23), net, fu, forms_mem fml mem, inp, by omega, by omega, by omega, by omega, below, le, ?_⟩
        intro r r1 r2 hs qs H4 s4 at4 fe fq me mq
        refine ⟨r, _, rfl, SqT.of at4, rfl, _, _, rfl, _, _, rfl, rfl, ?_⟩
        have s24 := same_trans s23 s4
        refine ⟨_, rfl, b, _, _, _, rfl, rfl, SqT.of (s24 _ _ ht), at0, rfl, _, rfl, iteB (fun ch => ?_) fun nch => ?_⟩
        · obtain rfl : t = .alt ts := hj.resolve_left fun e => by rw [e] at ch; exact Bool.noConfusion (show false = true from ch)
          refine ⟨_, rfl, _, rfl, (by show 2 ≤ sizeLine; decide), fun y ny => ?_⟩
          have s5 := same_new (o := .tup [.ref r1, .ref r2]) ny
          refine k y r1 r2 hs qs _ (same_trans s24 s5) upd_same (fe.mono (.same s5)) (fq.mono (.same s5)) (fun e => ?_) fun q => ?_
          · rw [me]; simp only [OnHit]; exact (onHitA_at hu below hi2).symm
          · rw [mq]; simp only [OnOut]; exact (onOutA_at hu below hi2).symm
        · obtain rfl : t = .row ts := hj.resolve_right fun e => by rw [e] at nch; exact Bool.noConfusion (show true = false from nch)
          have inQ : ∀ q ∈ qs, InU x fs.length q := fun q hq => net.sub inp (onOut_sub inp.1 fu ((mq q).mp hq))
          have inH : ∀ e ∈ hs, InE x fs.length e := fun e he => by
            have h := (me e).mp he
            have := onHit_in _ _ _ _ _ _ h
            exact ⟨by omega, net.sub inp (onHit_sub inp.1 fu h)⟩
          have lx : (V.str (word (.row ts)) :: xs).length = ts.length + 1 := by rw [List.length_cons, len]
          refine ⟨_, rfl, _, rfl, _, rfl, ((j + 1 : Nat) : Int), 1, rfl, rfl, (((j + 1 : Nat) : Int) + 1), rfl, b, _, rfl, SqT.of (s24 _ _ ht), ?_, fun q nq => ?_⟩
          · rw [show ((j + 1 : Nat) : Int) + 1 = ((j + 2 : Nat) : Int) from rfl, HT.sIx_nat, lx]; omega
          rw [show ((j + 1 : Nat) : Int) + 1 = ((j + 2 : Nat) : Int) from rfl, cut_from (by rw [lx]; omega), List.drop_succ_cons]
          have s5 := same_new (o := .tup (xs.drop (j + 1))) nq
          have s25 := same_trans s24 s5
          refine ⟨_, rfl, _, rfl, _, rfl, b, _, _, _, rfl, rfl, SqT.of (s25 _ _ ht), hat, cu, u, rfl, nu.mono (.same (same_trans s3 (same_trans s4 s5))), forms_mem fml mem, by omega, by omega, fun H6 s6 => ⟨_, _, rfl, rfl, _, rfl, _, rfl, ?_⟩⟩
          have s26 := same_trans s25 s6
          have s56 := same_trans s5 s6
          have nd : NVs H (srcDs (ts.drop (j + 1))) (xs.drop (j + 1)) := by
            have := ns.drop (j + 1)
            rwa [srcDs_map, ← List.map_drop, ← srcDs_map] at this
          refine ⟨a, q, r1, r2, fs, N, x, ts.drop (j + 1), xs.drop (j + 1), bs + nms (ts.take j) + nm u, hs, qs, rfl, hf.mono (.same s26), s6 _ _ upd_same, nd.mono (.same s26), fe.mono (.same s56), fq.mono (.same s56), net, fitsL_drop _ ftl, forms_drop _ fml, inQ, inH, ?_, ?_, by omega, ?_, ?_⟩
          · have := subss_drop ts (j + 1); omega
          · have := dps_drop ts (j + 1); omega
          · have := nms_drop ts (j + 1); omega
          intro y r3 r4 hs5 qs5 H7 s7 at7 fe7 fq7 me7 mq7
          have en : bs + nms (ts.take j) + nm u = bs + nms (ts.take (j + 1)) := by omega
          rw [en] at me7
          refine k y r3 r4 hs5 qs5 H7 (same_trans s26 s7) at7 fe7 fq7 (fun e => ?_) fun q => ?_
          · rw [me7, me]
            simp only [OnHit]
            rw [onHitL_at hu below hi2]
            constructor
            · rintro (h | ⟨q, hq, h⟩)
              · exact .inl h
              · exact .inr ⟨q, (mq q).mp hq, h⟩
            · rintro (h | ⟨q, hq, h⟩)
              · exact .inl h
              · exact .inr ⟨q, (mq q).mpr hq, h⟩
          · rw [mq7]
            simp only [OnOut]
            rw [onOutL_at hu below hi2]
            constructor
            · rintro ⟨q, hq, h⟩
              exact ⟨q, (mq q).mp hq, h⟩
            · rintro ⟨q, hq, h⟩
              exact ⟨q, (mq q).mpr hq, h⟩
    rcases kinds_of fs t with rfl | ⟨ts, rfl⟩ | ⟨ts, rfl⟩ | ⟨u, rfl⟩ | ⟨w1, w2, w3, w4, _⟩
    · -- a mark
      refine ⟨true, rfl, iteT ?_⟩
      intro p1 o1 np1 f1 p2 o2 np2 m2
      have s1 := same_new (o := o1) np1
      have s2 := same_trans s1 (same_new (o := o2) np2)
      refine ⟨_, rfl, pkD p, (pk_key np).mono (.same s2), m2, fun o3 m3 => ⟨p2, _, rfl, m3, fun o4 f4 => ⟨(by show 2 ≤ sizeLine; decide), fun r nr => ?_⟩⟩⟩
      have s12 : Same (upd H p1 o1) _ := same_upd (o := o4) (same_upd (o := o3) (same_new (o := o2) np2) np2) np2
      have s5 := same_new (o := .tup [.ref p1, .ref p2]) nr
      refine k r p1 p2 [] [p] _ (same_trans s1 (same_trans s12 s5)) upd_same ⟨[], f1.mono (.same (same_trans s12 s5)), rfl⟩ ⟨_, f4.mono (.same s5), rfl⟩ (fun e => ?_) fun q => ?_
      · simp [OnHit]
      · simp [OnOut]
    · exact absurd ⟨ts, .inl rfl⟩ hj
    · exact absurd ⟨ts, .inr rfl⟩ hj
    · -- a loop
      refine ⟨false, rfl, iteF ⟨_, rfl, b, _, _, _, rfl, rfl, sq, at0, rfl, true, rfl, iteT ?_⟩⟩
      have nr : NVs H (srcDs [u]) xs := nr
      obtain ⟨cu, rfl, nu⟩ : ∃ cu, xs = [.ref cu] ∧ NV H (srcD u) (.ref cu) := by
        cases nr with
        | cons a1 r1 =>
          cases r1
          obtain ⟨cu, _, rfl, _⟩ := nv_tup (srcD_eq u ▸ a1)
          exact ⟨cu, rfl, a1⟩
      have ft' : Fits fs N u := ft
      have fm' : Form u := fm
      have size' := size
      have deep' := deep
      simp only [subs, List.length_cons] at size'
      simp only [dp] at deep'
      simp only [nm] at marks hi
      refine ⟨_, rfl, _, rfl, b, _, _, _, rfl, rfl, sq, atI_nat (j := 1) rfl, _, rfl, _, rfl, _, rfl, a, cu, c, fs, N, x, u, bs, m, p, rfl, hf, nu, np, net, ft', fm', inp, by omega, by omega, by omega, by omega, lo, hi, ?_⟩
      intro r r1 r2 hs qs H2 s2 at2 fe fq me mq
      refine ⟨r, _, rfl, SqT.of at2, rfl, _, _, rfl, _, _, rfl, rfl, ?_⟩
      have inQ : ∀ q ∈ qs, InU x fs.length q := fun q hq => net.sub inp (onOut_sub inp.1 ft' ((mq q).mp hq))
      have inH : ∀ e ∈ hs, InE x fs.length e := fun e he => by
        have h := (me e).mp he
        have := onHit_in _ _ _ _ _ _ h
        exact ⟨by omega, net.sub inp (onHit_sub inp.1 ft' h)⟩
      refine ⟨_, rfl, _, rfl, _, rfl, _, rfl, a, b, r2, fs, N, x, .loop u, bs, qs, rfl, hf.mono (.same s2), nt.mono (.same s2), fq, net, ft, fm, inQ, size, by omega, by omega, by simp only [nm]; omega, ?_⟩
      intro r' r3 r4 hs2 qs2 H3 s3 at3 fe3 fq3 me3 mq3
      refine ⟨r', _, rfl, SqT.of at3, rfl, _, _, rfl, _, _, rfl, rfl, ?_⟩
      have inH2 : ∀ e ∈ hs2, InE x fs.length e := fun e he => by
        obtain ⟨q, hq, h⟩ := (me3 e).mp he
        have := hit_in _ _ _ _ _ h
        simp only [nm] at this
        exact ⟨by omega, net.sub (inQ q hq) (hit_sub (inQ q hq).1 ft h)⟩
      dsimp only [tRet, tTup, tCons]
      refine read_merge sE rfl rfl (fe.mono (.same s3)) fe3 inH inH2 fun r5 hs5 H5 s5 fe5 me5 => ?_
      refine ⟨_, rfl, (by show 2 ≤ sizeLine; decide), fun y ny => ?_⟩
      have s6 := same_new (o := .tup [.ref r5, .ref r4]) ny
      refine k y r5 r4 hs5 qs2 _ (same_trans s2 (same_trans s3 (same_trans s5 s6))) upd_same (fe5.mono (.same s6)) (fq3.mono (.same (same_trans s5 s6))) (fun e => ?_) fun q => ?_
      · rw [me5, me, me3]
        simp only [OnHit]
        constructor
        · rintro (h | ⟨q, hq, h⟩)
          · exact .inl h
          · exact .inr ⟨q, (mq q).mp hq, h⟩
        · rintro (h | ⟨q, hq, h⟩)
          · exact .inl h
          · exact .inr ⟨q, (mq q).mpr hq, h⟩
      · rw [mq3]
        simp only [OnOut]
        constructor
        · rintro ⟨r, hr, h⟩
          exact ⟨r, (mq r).mp hr, by simpa only [Out] using h⟩
        · rintro ⟨r, hr, h⟩
          exact ⟨r, (mq r).mpr hr, by simpa only [Out] using h⟩
    · have := leaf_nm (fs := fs) w1 w2 w3 w4
      omega
theorem ok_onward_by (T : TX K mg) : ∀ d : Nat, FnOk P w K mg base CX0 (d + 19) T.a_onward T.fd_onward ["fields", "tree", "base", "place", "packet"] (sp_onward P w d)
  | 0 => by
    have no : ∀ {vs H Q E}, ¬ sp_onward P w 0 vs H Q E := fun {vs H Q E} h => by
      obtain ⟨a, b, c, fs, N, x, t, bs, m, p, rfl, _, _, _, _, _, _, _, _, deep, _⟩ := h
      have := dp_pos t
      omega
    exact T.F_onward.ok sc_onward (fun vs H Q E h => absurd h no) (fun cdv A outer s H vs Q E hr h => absurd h no)
  | d + 1 => ok_onward1 T (by omega) (ok_onward_by T d)
theorem ok_onward (T : TX K mg) : FnOk P w K mg base CX0 24 T.a_onward T.fd_onward ["fields", "tree", "base", "place", "packet"] (sp_onward P w 5) := ok_onward_by T 5
end
end Mw
/-! sorted() of a list or a tuple of data; texts as data. -/
namespace Mw
open PySem PySem.Spec PyProof.Rows L2
section
variable {X : Cx}
/-- sorted(xs), a list or a tuple -/
def rSortA (K : PySem.W.Frag) : List V → Hp → VK → Prop := fun vs H Q => ∃ l xs ks, vs = [.ref l] ∧ (SqL K H l xs ∨ SqT K H l xs) ∧ NVs H ks xs ∧ Alike ks ∧ (∀ k ∈ ks, k.depth ≤ 8) ∧ ∀ p ys, H p = none → NVs H (sortD ks) ys → Q (.ref p) (upd H p (.lst ys))
theorem cr_sortA (hu : X.A.units + 13 < cLine) : CallR X (.builtin "sorted") (rSortA X.K) := by
  rintro pins s σ H vs us Q I r ⟨l, xs, ks, rfl, hl | hl, n, al, dp, q⟩
  · exact cr_sortL (by omega) pins s σ H _ us Q I r ⟨l, xs, ks, rfl, hl, n, al, dp, q⟩
  obtain ⟨u, rfl, ru⟩ := vals1 r
  obtain rfl : u = .ref l := ru
  obtain ⟨its, rv, pl, hz⟩ := I.tuple hl
  obtain ⟨o, ho, hc, m, hd⟩ := pl
  have size := rv.length
  have len : its.length ≤ sizeLine := by omega
  refine Calls.call_function_entry PyProof.Rows.kind_sorted PyProof.Rows.plain_sorted PyProof.Rows.entry_sorted (PyProof.Rows.args_sorted1 _) ?_
  unfold Builtin.«sorted»
  refine wpAny_bind (m := checkCount "sorted" 1 1 _) (wpAny_pure (wpAny_bind (wpAny_collect_seq (A := X.A.in1) l (T := "tuple") (.inr rfl) ho hc hd (fun h' keep => ?_) (by rw [List.size_toArray]; exact len))))
  have I1 : Inv X pins σ H { s with heap := h', toks := s.toks } := I.kept keep
  have small : ks.length ≤ sizeLine := by rw [← n.length]; exact hz
  refine wpAny_bind (wpAny_newList ?_ (by simpa using len))
  refine wpAny_bind (wpAny_holding (thn (sort_gathered (A := X.A.in1) (tk := s.toks) I1 (show X.A.units + 1 + 12 < cLine by omega) (fun _ _ e => e) (Nat.le_refl _) n (by simpa using rv) al dp small q) fun _ s' fin => wpAny_pure ⟨_, rfl, fin⟩))
end
def textD (x : Str) : D := .text x
theorem alike_texts (l : List Str) : Alike (l.map textD) := by
  refine ⟨fun d hd d' hd' => ?_, .inr fun d hd => ?_⟩
  · obtain ⟨k, hk, rfl⟩ := List.mem_map.mp hd
    obtain ⟨k', hk', rfl⟩ := List.mem_map.mp hd'
    obtain ⟨x, _, rfl⟩ := List.mem_map.mp hk
    obtain ⟨y, _, rfl⟩ := List.mem_map.mp hk'
    simp [textD, enc, PySem.W.alike]
  · obtain ⟨k, hk, rfl⟩ := List.mem_map.mp hd
    obtain ⟨x, _, rfl⟩ := List.mem_map.mp hk
    simp [textD, enc]
theorem nv_texts {H : Hp} : ∀ l : List Str, NVs H (l.map textD) (l.map V.str)
  | [] => .nil
  | x :: l => .cons (.text x) (nv_texts l)
theorem texts_nv {H : Hp} : ∀ {l : List Str} {vs : List V}, NVs H (l.map textD) vs → vs = l.map V.str
  | [], _, .nil => rfl
  | x :: l, _, .cons a b => by rw [nv_str a, texts_nv b, List.map_cons]
theorem text_depth (l : List Str) : ∀ k ∈ l.map textD, k.depth ≤ 8 := fun k hk => by
  obtain ⟨x, _, rfl⟩ := List.mem_map.mp hk
  simp [textD, NestedKey.depth]
/-- the names in their order -/
def InOrder (fs : List Str) : Prop := sortD (fs.map textD) = fs.map textD
theorem order_perm {fs gs : List Str} (o : InOrder fs) (p : gs.Perm fs) : sortD (gs.map textD) = fs.map textD := by
  rw [← o]
  exact sort_perm (alike_texts fs) (p.map _)
theorem textD_inj {x y : Str} (h : textD x = textD y) : x = y := by cases h; rfl
theorem order_made (gs : List Str) : ∃ fs : List Str, sortD (gs.map textD) = fs.map textD ∧ fs.Perm gs ∧ InOrder fs := by
  obtain ⟨fs, p, e⟩ := perm_map_inv (sortD_perm (gs.map textD)) rfl
  refine ⟨fs, e, p, ?_⟩
  have := sort_perm (alike_texts gs) (p.map textD)
  unfold InOrder
  rw [this, e]
end Mw
/-! Program.__init__ and what makes programs. -/
namespace Mw
open PySem L2
section
variable {P : Program} {w : World} {K : PySem.W.Frag} {mg : Str → Option Value} {base : Heap}
/-- what stood stays, but at one place -/
def But (a : Addr) (H H' : Hp) : Prop := ∀ c o, c ≠ a → H c = some o → H' c = some o
theorem But.of {a : Addr} {H H' : Hp} (s : Same H H') : But a H H' := fun c o _ e => s c o e
theorem But.trans {a : Addr} {H H1 H2 : Hp} (s : But a H H1) (t : But a H1 H2) : But a H H2 := fun c o n e => t c o n (s c o n e)
theorem But.upd {a : Addr} {H : Hp} {o : HO} : But a H (upd H a o) := fun c u n e => by rw [upd_ne n]; exact e
theorem putF_len (f : Str) (v : V) : ∀ fs : List (Str × V), (putF f v fs).length ≤ fs.length + 1
  | [] => Nat.le_refl _
  | (g, x) :: r => by
    have := putF_len f v r
    unfold putF
    split
    · simp
    · rw [List.length_cons, List.length_cons]; omega
/-- at most five fields put -/
inductive Puts : Nat → List (Str × V) → Prop
  | nil : Puts 0 []
  | put {n : Nat} {f : Str} {v : V} {fs : List (Str × V)} : Puts n fs → Puts (n + 1) (putF f v fs)
theorem Puts.le {n : Nat} {fs : List (Str × V)} (h : Puts n fs) : fs.length ≤ n := by
  induction h with
  | nil => exact Nat.le_refl _
  | put _ ih => exact Nat.le_trans (putF_len _ _ _) (by omega)
theorem few_fields {n : Nat} {fs : List (Str × V)} (h : Puts n fs) (k : n < 1000) : fs.length < 1000 := Nat.lt_of_le_of_lt h.le k
/-- the fields that stand -/
def progF (p b : Addr) (t : Src) (q : Addr) : List (Str × V) := [("p_fields", .ref p), ("p_tree", .ref b), ("p_marks", .int ((nm t : Nat) : Int)), ("p_numbers", .ref q)]
def Prog (T : TX K mg) (H : Hp) (a : Addr) (fs : List Str) (t : Src) : Prop := ∃ dx p b q, H a = some (.ins T.c_Program dx (progF p b t q)) ∧ PTup H p (fs.map V.str) ∧ NV H (srcD t) (.ref b)
theorem Prog.same {T : TX K mg} {H H' : Hp} {a : Addr} {fs : List Str} {t : Src} (s : Same H H') (h : Prog T H a fs t) : Prog T H' a fs t := by
  obtain ⟨dx, p, b, q, e, f, n⟩ := h
  exact ⟨dx, p, b, q, s _ _ e, f.mono (.same s), n.mono (.same s)⟩
/-- names of a law's program -/
structure Names (fs : List Str) : Prop where
  nd : fs.Nodup
  len : fs.length = 1 ∨ fs.length = 2
  named : Named fs
  order : InOrder fs
def sp_Program_init (T : TX K mg) : Sp := fun vs H Q _ => ∃ self dx a b, ∃ fs gs : List Str, ∃ N t, vs = [.ref self, .ref a, .ref b] ∧ H self = some (.ins T.c_Program dx []) ∧ LT H a (gs.map V.str) ∧ gs.Perm fs ∧ Names fs ∧ NV H (srcD t) (.ref b) ∧ Good fs N t ∧
  ∀ p q H', But self H H' → H' self = some (.ins T.c_Program dx (progF p b t q)) → PTup H' p (fs.map V.str) → Q .non H'
theorem ok_Program_init (T : TX K mg) : FnOk P w K mg base CX0 16 T.a_Program_init T.fd_Program_init ["self", "fields", "tree"] (sp_Program_init T) := by
  refine T.F_Program_init.ok sc_Program_init (fun vs H Q E h => ?_) (fun cdv A outer s H vs Q E hr h => ?_)
  · obtain ⟨self, dx, a, b, fs, gs, N, t, rfl, _⟩ := h
    rfl
  · obtain ⟨self, dx, a, b, fs, gs, N, t, rfl, hs, hl, pm, nms, nt, g, k⟩ := h
    refine ⟨_, (pss_cons (ps_expr (pe_call (ok_need_fields T) (hr.mono (by omega)) rfl T.m_need_fields T.F_need_fields.kp T.b_need_fields .nil pass0 (pa_cons (pv 1) pa_nil)))
      (pss_cons (ps_if (PW.pt (pw_or (pt_not (pt_val (pe_call (ok_is_tree T) (hr.mono (by omega)) rfl T.m_is_tree T.F_is_tree.kp T.b_is_tree .nil pass0 (pa_cons (pv 2) pa_nil)))) (pw_or1 (pt_not (pt_val (pe_callB (cr_all rfl) (by rfl) T.z_all (by decide +kernel) (pa_cons (pe_lc (own := [("name", 3)]) (g := (gName 3)) (tt := tYes) (te := (tOp (rIn K false) (tVar 3) (tVar 1))) rfl sc_Program_init.nd (pi_list (pe_call (ok_fields_in T) (hr.mono (by omega)) rfl T.m_fields_in T.F_fields_in.kp T.b_fields_in .nil pass0 (pa_cons (pv 2) pa_nil))) (blkOk_by (own := [("name", 3)]) (N := ["self", "fields", "tree", "name"]) (sc := defScope s_Program_init) (by decide +kernel)) (fun _ _ _ _ _ => (pg_name (i := 3) sc_Program_init.nd rfl (Or.inl rfl))) (fun _ _ _ _ _ => pts_nil) (fun _ _ _ _ _ => (pe_cmpR op_in_seq (pv 3) (pv 1) (by rfl)))) pa_nil))))))) (pss_one ps_never) pss_nil)
      (pss_cons (ps_if (pt_cmp (pc_gt (pe_callB call_len_seq (by rfl) T.z_len (by decide +kernel) (pa_cons (pe_call (ok_all_trees T) (hr.mono (by omega)) rfl T.m_all_trees T.F_all_trees.kp T.b_all_trees .nil pass0 (pa_cons (pv 2) pa_nil)) pa_nil)) (pe_glob (by rfl) T.g_MOST_TREES T.r_MOST_TREES))) (pss_one ps_never) pss_nil)
      (pss_cons (ps_if (pt_cmp (pc_gt (pe_call (ok_marks_in T) (hr.mono (by omega)) rfl T.m_marks_in T.F_marks_in.kp T.b_marks_in .nil pass0 (pa_cons (pv 2) pa_nil)) (pe_glob (by rfl) T.g_MOST_MARKS T.r_MOST_MARKS))) (pss_one ps_never) pss_nil)
      (pss_cons (ps_if (pt_cmp (pc_gt (pe_callB call_len_seq (by rfl) T.z_len (by decide +kernel) (pa_cons (pe_call (ok_numbers_in T) (hr.mono (by omega)) rfl T.m_numbers_in T.F_numbers_in.kp T.b_numbers_in .nil pass0 (pa_cons (pv 2) pa_nil)) pa_nil)) (pe_glob (by rfl) T.g_MOST_NUMBERS T.r_MOST_NUMBERS))) (pss_one ps_never) pss_nil)
      (pss_cons (ps_fld (pv 0) (pe_callTy cr_tupF (by rfl) T.z_tuple (by decide +kernel) (pa_cons (pe_callB (cr_sortA (hu_of5 hr)) (by rfl) T.z_sorted (by decide +kernel) (pa_cons (pv 1) pa_nil)) pa_nil)) rfl)
      (pss_cons (ps_fld (pv 0) (pv 2) rfl)
      (pss_cons (ps_fld (pv 0) (pe_call (ok_marks_in T) (hr.mono (by omega)) rfl T.m_marks_in T.F_marks_in.kp T.b_marks_in .nil pass0 (pa_cons (pv 2) pa_nil)) rfl)
      (pss_one (ps_fld (pv 0) (pe_call (ok_numbers_in T) (hr.mono (by omega)) rfl T.m_numbers_in T.F_numbers_in.kp T.b_numbers_in .nil pass0 (pa_cons (pv 2) pa_nil)) rfl)))))))))), ?_⟩
    have len : gs.length = fs.length := pm.length_eq
    have l12 := nms.len
    refine ⟨_, rfl, a, gs, rfl, hl, pm.nodup_iff.mpr nms.nd, by omega, by omega, fun x hx => nms.named x (pm.mem_iff.mp hx), fun H1 s1 => ?_⟩
    refine ⟨_, rfl, b, t, fs, N, rfl, nt.mono (.same s1), g, fun H2 s2 => ⟨true, rfl, iteF ?_⟩⟩
    have s12 := same_trans s1 s2
    refine ⟨_, rfl, b, t, fs, N, rfl, nt.mono (.same s12), g.fits, g.size, g.deep, fun p ns H3 s3 at3 few mem => ⟨p, rfl, ⟨_, SqL.of at3⟩, fun D hD => ?_⟩⟩
    have s13 := same_trans s12 s3
    refine lc_each (l := ns) (steady_list (K := K) (a := p) (xs := ns.map V.str)) (fun H2 s2 => SqL.of (s2 _ _ at3)) (fun _ y _ => y = V.bl true) (fun {_ _ _ _} _ q => q) hD (List.length_map ..) (by rw [sizeLine_eq]; omega) ?_ ?_
    · intro i x v H4 hx hv s4 Y yes
      rw [List.getElem?_map, hx] at hv
      cases hv
      have inx : inV (.str x) (gs.map V.str) = true := by
        have m := pm.mem_iff.mpr (mem x (List.mem_of_getElem? hx))
        exact List.any_eq_true.mpr ⟨_, List.mem_map.mpr ⟨x, m, rfl⟩, beq_self_eq_true x⟩
      have flat : (gs.map V.str).all flatV = true := flat_strs gs
      exact ⟨rfl, _, rfl, _, rfl, a, _, rfl, sq_of ((hl.same s13).same s4), rfl, flat, yes _ _ (same_refl _) (congrArg V.bl inx)⟩
    · intro H4 ys s4 at4 q
      obtain ⟨e, al⟩ := all_true q
      rw [e] at at4
      have s14 := same_trans s13 s4
      refine ⟨D, _, rfl, SqL.of at4, true, congrArg V.bl al, iteF ?_⟩
      refine ⟨_, rfl, b, t, rfl, nt.mono (.same s14), g.size, g.deep, fun p2 xs H5 s5 np5 at5 n5 => ⟨p2, _, rfl, .inl (SqL.of at5), _, _, rfl, rfl, false, congrArg V.bl (decide_eq_false ?_), iteF ?_⟩⟩
      · have l5 := srcs_at n5
        have := g.size
        omega
      have s15 := same_trans s14 s5
      refine ⟨_, rfl, b, t, rfl, nt.mono (.same s15), g.form, g.size, g.deep, fun H6 s6 => ⟨_, _, rfl, rfl, false, congrArg V.bl (decide_eq_false (by have := g.few; omega)), iteF ?_⟩⟩
      have s16 := same_trans s15 s6
      refine ⟨_, rfl, b, t, fs, N, rfl, nt.mono (.same s16), g.fits, g.nums, g.size, g.deep, fun p3 ms H7 s7 at7 few7 => ⟨p3, _, rfl, .inr (SqT.of at7), _, _, rfl, rfl, false, congrArg V.bl (decide_eq_false (by rw [List.length_map]; omega)), iteF ?_⟩⟩
      have s17 := same_trans s16 s7
      have l7 : LT _ a (gs.map V.str) := hl.same s17
      refine ⟨_, rfl, a, _, gs.map textD, rfl, sq_of l7, nv_texts gs, alike_texts gs, text_depth gs, fun p4 ys np4 ny => ?_⟩
      rw [order_perm nms.order pm] at ny
      obtain rfl := texts_nv ny
      have s8 := same_trans s17 (same_new (o := .lst (fs.map V.str)) np4)
      refine ⟨p4, _, rfl, SqL.of upd_same, fun p5 o5 np5' pt5 => ?_⟩
      have s9 := same_trans s8 (same_new (o := o5) np5')
      refine ⟨_, rfl, self, _, dx, [], rfl, s9 _ _ hs, T.cl_Program, T.no_p_fields, by decide, ?_⟩
      have m9 : Mut ((upd (upd H7 p4 (.lst (fs.map V.str))) p5 o5) self) := by rw [s9 _ _ hs]; exact True.intro
      refine ⟨_, rfl, _, rfl, self, _, dx, _, rfl, upd_same, T.cl_Program, T.no_p_tree, (few_fields (.put .nil) (by decide)), ?_⟩
      rw [upd_upd]
      have tp : ∀ fs' : List (Str × V), Tp (upd (upd H7 p4 (.lst (fs.map V.str))) p5 o5) (upd (upd (upd H7 p4 (.lst (fs.map V.str))) p5 o5) self (.ins T.c_Program dx fs')) := fun fs' => Tp.write m9
      have ntt : NV (upd (upd H7 p4 (.lst (fs.map V.str))) p5 o5) (srcD t) (.ref b) := nt.mono (.same s9)
      refine ⟨_, rfl, b, t, rfl, ntt.mono (tp _), g.form, g.size, g.deep, fun H10 s10 => ⟨_, rfl, self, _, dx, _, rfl, s10 _ _ upd_same, T.cl_Program, T.no_p_marks, (few_fields (.put (.put .nil)) (by decide)), ?_⟩⟩
      have m10 := s10 _ _ upd_same
      have tp2 : ∀ fs' : List (Str × V), Tp H10 (upd H10 self (.ins T.c_Program dx fs')) := fun fs' => Tp.write (by rw [m10]; exact True.intro)
      refine ⟨_, rfl, b, t, fs, N, rfl, ((ntt.mono (tp _)).mono (.same s10)).mono (tp2 _), g.fits, g.nums, g.size, g.deep, fun q2 ms H11 s11 at11 few11 => ⟨_, rfl, self, _, dx, _, rfl, s11 _ _ upd_same, T.cl_Program, T.no_p_numbers, (few_fields (.put (.put (.put .nil))) (by decide)), ?_⟩⟩
      have b9 : But self H _ := (But.of s9).trans (But.upd (o := .ins T.c_Program dx (putF "p_tree" (.ref b) (putF "p_fields" (.ref p5) []))))
      refine k p5 q2 _ (((b9.trans (.of s10)).trans But.upd).trans ((But.of s11).trans But.upd)) upd_same ?_
      have m11 := s11 _ _ upd_same
      exact (((pt5.mono (tp _)).mono (.same s10)).mono (tp2 _)).mono ((Tp.same s11).trans (Tp.write (by rw [m11]; exact True.intro)))
end
end Mw
/-! a + b, a >> b of two programs: the class's own method. -/
namespace Mw
open PySem L2
section
variable {X : Cx}
def rOwnOp (C : Addr) (sp : Sp) (E : XK) : V → V → Hp → VK → Prop := fun x y H Q => ∃ a b dx dy fs gs, x = .ref a ∧ y = .ref b ∧ H a = some (.ins C dx fs) ∧ H b = some (.ins C dy gs) ∧ sp [.ref a, .ref b] H (fun v H' => (∃ r, v = .ref r) ∧ Q v H') E
theorem op_own {op : Operator} {CX : CXT} {k : Nat} {C f : Addr} {fd : FuncData} {ps : List Str} {sp : Sp} {E : XK} (first : PySem.W.selfFirst X.K C = true) (m : Meth X.K C (PySem.dunder op.info.2) f) (F : FnOk X.prog X.w X.K X.mg X.base CX k f fd ps sp) (hr : Room k X.A) (hb : Binds X.K fd ps []) (hx : Passes CX X E) :
    OpR X (binaryOp op) (rOwnOp C sp E) := by
  rintro pins s σ H x y u v Q I rx ry ⟨a, b, dx, dy, fs, gs, rfl, rfl, ha, hb', hsp⟩
  cases rx
  cases ry
  obtain ⟨mA, J, _⟩ := ins_get I.hok ha
  obtain ⟨mB, J', _⟩ := ins_get I.hok hb'
  obtain ⟨od, J, _⟩ := J.look
  obtain ⟨od', J', _⟩ := J'.look
  obtain ⟨fr, hF⟩ := I.fr
  refine PySem.W.binop_K hF I.ok.mod.kin J J'.type first m.at_ m.fn ?_
  have e0 : Env0 X.prog X.w X.K X.mg X.base X.A X.stack s H := I.env0
  have hl := F.len _ _ _ _ hsp
  have r2 : Vals [V.ref a, V.ref b] [Value.ref a, Value.ref b] := .cons rfl (.cons rfl .nil)
  refine wpAny_call (codeAny_mono (F.run X.A X.stack s H ⟨[.ref a, .ref b], []⟩ [.ref a, .ref b] [.ref a, .ref b] _ E hr e0 (by
    have := hb s [.ref a, .ref b] I.kIn (by simpa using hl)
    simpa using this) r2 hsp) ?_)
  rintro (e | (_ | _ | _ | z)) s' hq
  · exact hx pins σ H s e s' I hq
  · exact hq.elim
  · exact hq.elim
  · exact hq.elim
  · obtain ⟨z', H', I', rz, ⟨r, rfl⟩, q⟩ := I.after hq
    cases rz
    exact ⟨.ref r, H', I', rfl, q⟩
end
end Mw
/-! What makes programs of programs. -/
namespace Mw
open PySem L2
section
variable {P : Program} {w : World} {K : PySem.W.Frag} {mg : Str → Option Value} {base : Heap}
/-- Program(fields, tree) -/
theorem made_program {T : TX K mg} {H : Hp} {Q : VK} {E : XK} {a b : Addr} {fs gs : List Str} {N : List Nat} {t : Src} (hl : LT H a (gs.map V.str)) (pm : gs.Perm fs) (nm : Names fs) (nt : NV H (srcD t) (.ref b)) (g : Good fs N t)
    (k : ∀ x H', Same H H' → H x = none → Prog T H' x fs t → Q (.ref x) H') : ∀ x dx, H x = none → H dx = none → dx ≠ x → sp_Program_init T [.ref x, .ref a, .ref b] (upd (upd H dx (.own x)) x (.ins T.c_Program dx [])) (fun v H2 => v = .non ∧ Q (.ref x) H2) E := by
  intro x dx nx ndx ne
  have s1 : Same H (upd H dx (.own x)) := same_new ndx
  have nx1 : (upd H dx (.own x)) x = none := by rw [upd_ne (fun e => ne e.symm)]; exact nx
  have s2 : Same H (upd (upd H dx (.own x)) x (.ins T.c_Program dx [])) := same_trans s1 (same_new nx1)
  refine ⟨x, dx, a, b, fs, gs, N, t, rfl, upd_same, hl.same s2, pm, nm, nt.mono (.same s2), g, fun p q H' but at_ pt => ⟨rfl, ?_⟩⟩
  have s3 : Same H H' := fun c o e => but c o (ne_of_none e nx) (s2 c o e)
  exact k x H' s3 nx ⟨dx, p, b, q, at_, pt, nt.mono (.same s3)⟩
/-- the parts that a tree adds -/
def partsOf (wd : Str) (t : Src) : List Src := if word t = wd then inner t else [t]
theorem partsOf_row (t : Src) : partsOf "row" t = partsR t := by cases t <;> rfl
theorem partsOf_alt (t : Src) : partsOf "choice" t = partsA t := by cases t <;> rfl
def Joins (wd : Str) : Prop := wd = "row" ∨ wd = "choice"
def sp_parts_for : Sp := fun vs H Q _ => ∃ wd b t, vs = [.str wd, .ref b] ∧ Joins wd ∧ NV H (srcD t) (.ref b) ∧ ∀ q xs H', Same H H' → H' q = some (.tup xs) → NVs H' (srcDs (partsOf wd t)) xs → Q (.ref q) H'
theorem ok_parts_for (T : TX K mg) : FnOk P w K mg base CX0 1 T.a_parts_for T.fd_parts_for ["word", "tree"] sp_parts_for := by
  refine T.F_parts_for.ok sc_parts_for (fun vs H Q E h => ?_) (fun cdv A outer s H vs Q E hr h => ?_)
  · obtain ⟨wd, b, t, rfl, _⟩ := h
    rfl
  · obtain ⟨wd, b, t, rfl, j, nt, k⟩ := h
    refine ⟨_, (pss_one (ps_ret (pe_ifExp (pt_cmpR op_eq (pe_ix ix_tup (pv 1) pe_int (fun _ _ => rfl)) (pv 0) (nomark _)) (pe_slice sl_tup (pv 1) (po_some pe_int) po_none) (pe_tup (pa_cons (pv 1) pa_nil))))), ?_⟩
    obtain ⟨xs, ht, nr⟩ := src_tup nt
    have sq : SqT K H b (.str (word t) :: xs) := SqT.of ht
    refine ⟨_, rfl, b, _, _, _, rfl, rfl, sq, at0, _, rfl, rfl, _, rfl, iteB (fun e => ?_) fun e => ?_⟩
    · have e : word t = wd := V.str.inj (of_decide_eq_true e)
      refine ⟨_, rfl, 1, rfl, b, _, rfl, sq, part1, fun q nq => ?_⟩
      rw [cut1]
      have in_ : rest t = srcDs (partsOf wd t) := by
        unfold partsOf
        rw [if_pos e]
        rcases j with rfl | rfl <;> cases t <;> first | rfl | exact absurd e (by simp only [word]; decide)
      rw [in_] at nr
      exact k q xs _ (same_new nq) upd_same (nr.mono (Tp.new nq))
    · have e : word t ≠ wd := fun h => by rw [h] at e; simp at e
      refine ⟨_, rfl, (by show 1 ≤ sizeLine; decide), fun q nq => k q _ _ (same_new nq) upd_same ?_⟩
      unfold partsOf
      rw [if_neg e]
      exact .cons (nt.mono (Tp.new nq)) .nil
theorem canLay_strs : ∀ {l : List Str}, (∀ f ∈ l, PyData.strOk f = true) → PyData.canLayAll0 (l.map PyData.str) = true
  | [], _ => rfl
  | f :: l, h => by
    rw [List.map_cons, PyData.canLayAll0, PyData.canLay0, h f List.mem_cons_self, canLay_strs fun g hg => h g (List.mem_cons_of_mem _ hg)]
    rfl
theorem depth_strs : ∀ l : List Str, PyData.depthAll (l.map PyData.str) = 0
  | [] => rfl
  | f :: l => by rw [List.map_cons, PyData.depthAll, depth_strs l]; rfl
theorem shaped_strs {l : List Str} (h : ∀ f ∈ l, PyData.strOk f = true) : SeqAt.shaped (.tuple (l.map PyData.str)) = true := by
  rw [SeqAt.shaped, PyData.canLay0, canLay_strs h, PyData.depth, depth_strs]
  rfl
theorem names_str : NAMES.all PyData.strOk = true := by decide +kernel
def sp_need_like (T : TX K mg) : Sp := fun vs H Q _ => ∃ a b fs t u, vs = [.ref a, .ref b] ∧ Named fs ∧ Prog T H a fs t ∧ Prog T H b fs u ∧ Q .non H
theorem dp_strs {H : Hp} : ∀ l : List Str, DpAll K H (l.map V.str) (l.map PyData.str)
  | [] => .nil
  | x :: l => .cons (.str x) (dp_strs l)
theorem ok_need_like (T : TX K mg) : FnOk P w K mg base CX0 1 T.a_need_like T.fd_need_like ["one", "other"] (sp_need_like T) := by
  refine T.F_need_like.ok sc_need_like (fun vs H Q E h => ?_) (fun cdv A outer s H vs Q E hr h => ?_)
  · obtain ⟨a, b, fs, t, u, rfl, _⟩ := h
    rfl
  · obtain ⟨a, b, fs, t, u, rfl, nm, ⟨dx, p, c, q, ha, hp, nc⟩, ⟨dx2, p2, c2, q2, hb, hp2, nc2⟩, k⟩ := h
    refine ⟨_, (pss_one (ps_if (pt_cmpR (op_neD hr.units) (pe_fld (pv 0) rfl) (pe_fld (pv 1) rfl) (nomark _)) (pss_one ps_never) pss_nil)), ?_⟩
    refine ⟨_, rfl, a, _, dx, _, _, rfl, ha, T.cl_Program, T.no_p_fields, rfl, _, rfl, b, _, dx2, _, _, rfl, hb, T.cl_Program, T.no_p_fields, rfl, ?_⟩
    have sh := shaped_strs fun f hf => List.all_eq_true.mp names_str f (nm f hf)
    refine ⟨_, _, .tup hp.sq (dp_strs fs), .tup hp2.sq (dp_strs fs), sh, sh, false, ?_, iteF k⟩
    rw [SeqAt.eqv_refl _ (SeqAt.canLay_of_shaped sh)]
    rfl
def sp_need_program (T : TX K mg) : Sp := fun vs H Q _ => ∃ a fs t x, vs = [.ref a, .str x] ∧ Prog T H a fs t ∧ Q .non H
theorem ok_need_program (T : TX K mg) : FnOk P w K mg base CX0 1 T.a_need_program T.fd_need_program ["thing", "part"] (sp_need_program T) := by
  refine T.F_need_program.ok sc_need_program (fun vs H Q E h => ?_) (fun cdv A outer s H vs Q E hr h => ?_)
  · obtain ⟨a, fs, t, x, rfl, _⟩ := h
    rfl
  · obtain ⟨a, fs, t, x, rfl, ⟨dx, p, c, q, ha, hp, nc⟩, k⟩ := h
    refine ⟨_, (pss_one (ps_if (pt_not (pt_val (pe_callB call_isi (by rfl) T.z_isinstance (by decide +kernel) (pa_cons (pv 0) (pa_cons (pe_glob (v := .ref T.c_Program) (by rfl) T.m_Program rfl) pa_nil))))) (pss_one ps_never) pss_nil)), ?_⟩
    exact ⟨_, rfl, .ref a, .ref T.c_Program, _, _, true, rfl, .own _, .base (.ins ha T.cl_Program T.y_cls T.y_get T.y_takes T.y_mro), T.y_kit, true, rfl, iteF k⟩
/-- joined -/
def joinS (wd : Str) (t u : Src) : Src := if wd = "row" then .row (partsR t ++ partsR u) else .alt (partsA t ++ partsA u)
theorem joinS_D {wd : Str} (j : Joins wd) (t u : Src) : srcD (joinS wd t u) = .tup (.text wd :: (srcDs (partsOf wd t) ++ srcDs (partsOf wd u))) := by
  rcases j with rfl | rfl
  · rw [joinS, if_pos rfl, srcD, srcDs_append, partsOf_row, partsOf_row]
  · rw [joinS, if_neg (by decide), srcD, srcDs_append, partsOf_alt, partsOf_alt]
def sp_joined (T : TX K mg) : Sp := fun vs H Q _ => ∃ wd a b fs N t u, vs = [.str wd, .ref a, .ref b] ∧ Joins wd ∧ Prog T H a fs t ∧ Prog T H b fs u ∧ Mw.Names fs ∧ Good fs N (joinS wd t u) ∧ ∀ r H', Same H H' → Prog T H' r fs (joinS wd t u) → Q (.ref r) H'
theorem ok_joined (T : TX K mg) : FnOk P w K mg base CX0 18 T.a_joined T.fd_joined ["word", "one", "other"] (sp_joined T) := by
  refine T.F_joined.ok sc_joined (fun vs H Q E h => ?_) (fun cdv A outer s H vs Q E hr h => ?_)
  · obtain ⟨wd, a, b, fs, N, t, u, rfl, _⟩ := h
    rfl
  · obtain ⟨wd, a, b, fs, N, t, u, rfl, j, pa, pb, nms, g, k⟩ := h
    refine ⟨_, (pss_cons (ps_expr (pe_call (ok_need_like T) (hr.mono (by omega)) rfl T.m_need_like T.F_need_like.kp T.b_need_like .nil pass0 (pa_cons (pv 1) (pa_cons (pv 2) pa_nil))))
      (pss_one (ps_ret (pe_make T.mk_Program (ok_Program_init T) (hr.mono (by omega)) (by rfl) T.m_Program T.b_Program_init .nil pass0 (pa_cons (pe_fld (pv 1) rfl) (pa_cons (pe_tup (pa_cons (pv 0) (StX.pa_star (pe_call (ok_parts_for T) (hr.mono (by omega)) rfl T.m_parts_for T.F_parts_for.kp T.b_parts_for .nil pass0 (pa_cons (pv 0) (pa_cons (pe_fld (pv 1) rfl) pa_nil))) (StX.pa_star (pe_call (ok_parts_for T) (hr.mono (by omega)) rfl T.m_parts_for T.F_parts_for.kp T.b_parts_for .nil pass0 (pa_cons (pv 0) (pa_cons (pe_fld (pv 2) rfl) pa_nil))) pa_nil)))) pa_nil)))))), ?_⟩
    obtain ⟨dx, p, c, q, ha, hp, nc⟩ := id pa
    obtain ⟨dx2, p2, c2, q2, hb, hp2, nc2⟩ := id pb
    refine ⟨_, rfl, _, rfl, a, b, fs, t, u, rfl, nms.named, pa, pb, ?_⟩
    refine ⟨_, rfl, a, _, dx, _, _, rfl, ha, T.cl_Program, T.no_p_fields, rfl, _, rfl, ?_⟩
    refine ⟨_, rfl, _, rfl, a, _, dx, _, _, rfl, ha, T.cl_Program, T.no_p_tree, rfl, wd, c, t, rfl, j, nc, fun q3 xs H1 s1 at1 n1 => ⟨q3, xs, rfl, .inl (SqT.of at1), ?_⟩⟩
    refine ⟨_, rfl, _, rfl, b, _, dx2, _, _, rfl, s1 _ _ hb, T.cl_Program, T.no_p_tree, rfl, wd, c2, u, rfl, j, nc2.mono (.same s1), fun q4 ys H2 s2 at2 n2 => ⟨q4, ys, rfl, .inl (SqT.of at2), ?_⟩⟩
    have l1 := srcs_at n1
    have l2 := srcs_at n2
    have few : (partsOf wd t).length + (partsOf wd u).length ≤ 1000 := by
      have z := g.size
      rcases j with rfl | rfl
      · rw [partsOf_row, partsOf_row, ← List.length_append]
        rw [joinS, if_pos rfl, subs, List.length_cons] at z
        have := subss_len (partsR t ++ partsR u)
        omega
      · rw [partsOf_alt, partsOf_alt, ← List.length_append]
        rw [joinS, if_neg (by decide), subs, List.length_cons] at z
        have := subss_len (partsA t ++ partsA u)
        omega
    refine ⟨by simp only [List.length_append, List.length_cons, List.length_nil, l1, l2]; rw [sizeLine_eq]; omega, fun z nz => ?_⟩
    have s3 := same_new (o := .tup (.str wd :: (xs ++ (ys ++ [])))) nz
    have s13 := same_trans s1 (same_trans s2 s3)
    have nj : NV (upd H2 z (.tup (.str wd :: (xs ++ (ys ++ []))))) (srcD (joinS wd t u)) (.ref z) := by
      rw [joinS_D j]
      refine .tup upd_same (.cons (.text wd) ?_)
      have := (n1.mono (.same (same_trans s2 s3))).append (n2.mono (.same s3))
      rwa [show xs ++ ys = xs ++ (ys ++ []) by rw [List.append_nil]] at this
    refine made_program (N := N) (.inr (.inr ?_)) (List.Perm.refl _) nms nj g fun x H' s4 _ pr => k x H' (same_trans s13 s4) pr
    obtain ⟨o, e, _⟩ := hp
    exact ⟨o, s13 _ _ e⟩
/-- one + other, one >> other -/
def sp_Program_add (T : TX K mg) : Sp := fun vs H Q E => ∃ a b, vs = [.ref a, .ref b] ∧ sp_joined T [.str "choice", .ref a, .ref b] H Q E
def sp_Program_rshift (T : TX K mg) : Sp := fun vs H Q E => ∃ a b, vs = [.ref a, .ref b] ∧ sp_joined T [.str "row", .ref a, .ref b] H Q E
theorem ok_Program_add (T : TX K mg) : FnOk P w K mg base CX0 19 T.a_Program_add T.fd_Program_add ["self", "other"] (sp_Program_add T) := by
  refine T.F_Program_add.ok sc_Program_add (fun vs H Q E h => ?_) (fun cdv A outer s H vs Q E hr h => ?_)
  · obtain ⟨a, b, rfl, _⟩ := h
    rfl
  · obtain ⟨a, b, rfl, h⟩ := h
    exact ⟨_, (pss_one (ps_ret (pe_call (ok_joined T) (hr.mono (by omega)) rfl T.m_joined T.F_joined.kp T.b_joined .nil pass0 (pa_cons pe_str (pa_cons (pv 0) (pa_cons (pv 1) pa_nil)))))), _, rfl, _, rfl, h⟩
theorem ok_Program_rshift (T : TX K mg) : FnOk P w K mg base CX0 19 T.a_Program_rshift T.fd_Program_rshift ["self", "other"] (sp_Program_rshift T) := by
  refine T.F_Program_rshift.ok sc_Program_rshift (fun vs H Q E h => ?_) (fun cdv A outer s H vs Q E hr h => ?_)
  · obtain ⟨a, b, rfl, _⟩ := h
    rfl
  · obtain ⟨a, b, rfl, h⟩ := h
    exact ⟨_, (pss_one (ps_ret (pe_call (ok_joined T) (hr.mono (by omega)) rfl T.m_joined T.F_joined.kp T.b_joined .nil pass0 (pa_cons pe_str (pa_cons (pv 0) (pa_cons (pv 1) pa_nil)))))), _, rfl, _, rfl, h⟩
/-- the loop -/
def sp_Program_loop (T : TX K mg) : Sp := fun vs H Q _ => ∃ a fs N t, vs = [.ref a] ∧ Prog T H a fs t ∧ Mw.Names fs ∧ Good fs N (.loop t) ∧ ∀ r H', Same H H' → Prog T H' r fs (.loop t) → Q (.ref r) H'
theorem ok_Program_loop (T : TX K mg) : FnOk P w K mg base CX0 18 T.a_Program_loop T.fd_Program_loop ["self"] (sp_Program_loop T) := by
  refine T.F_Program_loop.ok sc_Program_loop (fun vs H Q E h => ?_) (fun cdv A outer s H vs Q E hr h => ?_)
  · obtain ⟨a, fs, N, t, rfl, _⟩ := h
    rfl
  · obtain ⟨a, fs, N, t, rfl, ⟨dx, p, c, q, ha, hp, nc⟩, nms, g, k⟩ := h
    refine ⟨_, (pss_one (ps_ret (pe_make T.mk_Program (ok_Program_init T) (hr.mono (by omega)) (by rfl) T.m_Program T.b_Program_init .nil pass0 (pa_cons (pe_fld (pv 0) rfl) (pa_cons (pe_tup (pa_cons pe_str (pa_cons (pe_fld (pv 0) rfl) pa_nil))) pa_nil))))), ?_⟩
    refine ⟨_, rfl, a, _, dx, _, _, rfl, ha, T.cl_Program, T.no_p_fields, rfl, _, rfl, a, _, dx, _, _, rfl, ha, T.cl_Program, T.no_p_tree, rfl, (by show 2 ≤ sizeLine; decide), fun z nz => ?_⟩
    have s1 := same_new (o := .tup [.str "loop", .ref c]) nz
    have nj : NV (upd H z (.tup [.str "loop", .ref c])) (srcD (.loop t)) (.ref z) := .tup upd_same (.cons (.text _) (.cons (nc.mono (.same s1)) .nil))
    refine made_program (N := N) (.inr (.inr ?_)) (List.Perm.refl _) nms nj g fun x H' s4 _ pr => k x H' (same_trans s1 s4) pr
    obtain ⟨o, e, _⟩ := hp
    exact ⟨o, s1 _ _ e⟩
/-- holds, of a program -/
def sp_Program_holds (T : TX K mg) : Sp := fun vs H Q _ => ∃ a b fs N t, ∃ p : Pk, vs = [.ref a, .ref b] ∧ Prog T H a fs t ∧ Good fs N t ∧ isTest t = true ∧ NV H (pkD p) (.ref b) ∧ p.length = fs.length ∧ p.length ≤ 1000 ∧ ∀ H', Same H H' → Q (.bl (holds fs t p)) H'
theorem ok_Program_holds (T : TX K mg) : FnOk P w K mg base CX0 16 T.a_Program_holds T.fd_Program_holds ["self", "packet"] (sp_Program_holds T) := by
  refine T.F_Program_holds.ok sc_Program_holds (fun vs H Q E h => ?_) (fun cdv A outer s H vs Q E hr h => ?_)
  · obtain ⟨a, b, fs, N, t, p, rfl, _⟩ := h
    rfl
  · obtain ⟨a, b, fs, N, t, pk, rfl, pr, g, test, np, len, small, k⟩ := h
    obtain ⟨dx, p, c, q, ha, hp, nc⟩ := id pr
    refine ⟨_, (pss_cons (ps_if (pt_not (pt_val (pe_call (ok_is_test T) (hr.mono (by omega)) rfl T.m_is_test T.F_is_test.kp T.b_is_test .nil pass0 (pa_cons (pe_fld (pv 0) rfl) pa_nil)))) (pss_one ps_never) pss_nil)
      (pss_cons (ps_expr (pe_call (ok_need_packet T) (hr.mono (by omega)) rfl T.m_need_packet T.F_need_packet.kp T.b_need_packet .nil pass0 (pa_cons (pe_fld (pv 0) rfl) (pa_cons (pv 1) pa_nil))))
      (pss_one (ps_ret (pe_call (ok_holds T) (hr.mono (by omega)) rfl T.m_holds_programs T.F_holds.kp T.b_holds .nil pass0 (pa_cons (pe_fld (pv 0) rfl) (pa_cons (pe_fld (pv 0) rfl) (pa_cons (pv 1) pa_nil)))))))), ?_⟩
    refine ⟨_, rfl, a, _, dx, _, _, rfl, ha, T.cl_Program, T.no_p_tree, rfl, c, t, fs, N, rfl, nc, g, test, fun H1 s1 => ⟨true, rfl, iteF ?_⟩⟩
    obtain ⟨o, e, _⟩ := id hp
    refine ⟨_, rfl, a, _, dx, _, _, rfl, s1 _ _ ha, T.cl_Program, T.no_p_fields, rfl, _, rfl, p, b, fs.map V.str, pk, rfl, .inr ⟨o, s1 _ _ e⟩, np.mono (.same s1), by rw [List.length_map]; exact len, small, fun H2 s2 => ?_⟩
    have s12 := same_trans s1 s2
    exact ⟨_, rfl, a, _, dx, _, _, rfl, s12 _ _ ha, T.cl_Program, T.no_p_fields, rfl, _, rfl, a, _, dx, _, _, rfl, s12 _ _ ha, T.cl_Program, T.no_p_tree, rfl, _, rfl, p, c, b, fs, N, t, pk, rfl, hp.mono (.same s12), nc.mono (.same s12), np.mono (.same s12), g.fits, len, g.size, g.deep, fun H3 s3 => k H3 (same_trans s12 s3)⟩
end
end Mw
/-! The class Walk: its state, beginnings. -/
namespace Mw
open PySem L2
/-- what comes next behind an entry: entries, ends -/
def Nexts (fs : List Str) (t : Src) (e h : Nat × Pk) : Prop := if e.1 = 0 then Hit fs t 0 e.2 h.1 h.2 else OnHit fs t 0 e.1 e.2 h.1 h.2
def Stops (fs : List Str) (t : Src) (e : Nat × Pk) (q : Pk) : Prop := if e.1 = 0 then Out fs t e.2 q else OnOut fs t 0 e.1 e.2 q
/-- from an entry to an end, by the packets of entries -/
def Goes (fs : List Str) (t : Src) : Nat × Pk → List Pk → Pk → Prop
  | e, [], q => Stops fs t e q
  | e, p :: ms, q => ∃ m, Nexts fs t e (m, p) ∧ Goes fs t (m, p) ms q
def Dead (fs : List Str) (t : Src) (e : Nat × Pk) : Prop := ∀ ms q, ¬ Goes fs t e ms q
/-- an entry of this job -/
def Valid (x : Nat) (fs : List Str) (t : Src) (e : Nat × Pk) : Prop := e.1 ≤ nm t ∧ InU x fs.length e.2
structure Job (x : Nat) (fs : List Str) (N : List Nat) (t : Src) : Prop where
  net : Net x fs N
  good : Good fs N t
section
variable {x : Nat} {fs : List Str} {N : List Nat} {t : Src}
theorem Job.inE (j : Job x fs N t) {e : Nat × Pk} (v : Valid x fs t e) : InE x fs.length e := ⟨by have := v.1; have := j.good.few; omega, v.2⟩
theorem Job.next (j : Job x fs N t) {e h : Nat × Pk} (v : Valid x fs t e) (n : Nexts fs t e h) : Valid x fs t h ∧ h.1 ≠ 0 := by
  unfold Nexts at n
  split at n
  · have := hit_in _ _ _ _ _ n
    exact ⟨⟨by omega, j.net.sub v.2 (hit_sub v.2.1 j.good.fits n)⟩, by omega⟩
  · have := onHit_in _ _ _ _ _ _ n
    exact ⟨⟨by omega, j.net.sub v.2 (onHit_sub v.2.1 j.good.fits n)⟩, by omega⟩
theorem Job.stop (j : Job x fs N t) {e : Nat × Pk} {q : Pk} (v : Valid x fs t e) (n : Stops fs t e q) : InU x fs.length q := by
  unfold Stops at n
  split at n
  · exact j.net.sub v.2 (out_sub v.2.1 j.good.fits n)
  · exact j.net.sub v.2 (onOut_sub v.2.1 j.good.fits n)
theorem goes_from : ∀ (ms : List Pk) {m : Nat} {p q : Pk}, m ≠ 0 → (Goes fs t (m, p) ms q ↔ From fs t 0 m p ms q)
  | [], m, p, q, h => by simp only [Goes, Stops, From, if_neg h]
  | p' :: ms, m, p, q, h => by
    simp only [Goes, Nexts, From, if_neg h]
    constructor
    · rintro ⟨m', h1, h2⟩
      exact ⟨m', h1, (goes_from ms (by have := onHit_in _ _ _ _ _ _ h1; omega)).mp h2⟩
    · rintro ⟨m', h1, h2⟩
      exact ⟨m', h1, (goes_from ms (by have := onHit_in _ _ _ _ _ _ h1; omega)).mpr h2⟩
theorem goes_run {p q : Pk} {ms : List Pk} : Goes fs t (0, p) ms q ↔ Run fs t p ms q := by
  rw [run_way t 0]
  cases ms with
  | nil => simp only [Goes, Stops, if_true, way_nil]
  | cons p' ms =>
    simp only [Goes, Nexts, if_true, way_cons]
    constructor
    · rintro ⟨m, h1, h2⟩
      exact ⟨m, h1, (goes_from ms (by have := hit_in _ _ _ _ _ h1; omega)).mp h2⟩
    · rintro ⟨m, h1, h2⟩
      exact ⟨m, h1, (goes_from ms (by have := hit_in _ _ _ _ _ h1; omega)).mpr h2⟩
end
/-- only the dicts at f and at l may have changed -/
structure Kept (f l : Addr) (H H' : Hp) : Prop where
  keep : ∀ c o, c ≠ f → c ≠ l → H c = some o → H' c = some o
  tp : Tp H H'
theorem Kept.same {f l : Addr} {H H' : Hp} (s : Same H H') : Kept f l H H' := ⟨fun c o _ _ e => s c o e, .same s⟩
theorem Kept.trans {f l : Addr} {H H1 H2 : Hp} (a : Kept f l H H1) (b : Kept f l H1 H2) : Kept f l H H2 := ⟨fun c o n1 n2 e => b.keep c o n1 n2 (a.keep c o n1 n2 e), a.tp.trans b.tp⟩
theorem Kept.f {f l : Addr} {H : Hp} {o : HO} (m : Mut (H f)) : Kept f l H (upd H f o) := ⟨fun c u n _ e => by rw [upd_ne n]; exact e, Tp.write m⟩
theorem Kept.l {f l : Addr} {H : Hp} {o : HO} (m : Mut (H l)) : Kept f l H (upd H l o) := ⟨fun c u _ n e => by rw [upd_ne n]; exact e, Tp.write m⟩
section
variable {P : Program} {w : World} {K : PySem.W.Frag} {mg : Str → Option Value} {base : Heap}
/-- a value of k_found -/
def Beg (P : Program) (w : World) (H : Hp) (fs : List Str) (t : Src) (e : Nat × Pk) (v : V) : Prop := ∃ r r1 r2 hs qs, v = .ref r ∧ H r = some (.tup [.ref r1, .ref r2]) ∧ FE P w H r1 hs ∧ FP P w H r2 qs ∧ (∀ h, h ∈ hs ↔ Nexts fs t e h) ∧ ∀ q, q ∈ qs ↔ Stops fs t e q
theorem Beg.mono {H H' : Hp} {fs : List Str} {t : Src} {e : Nat × Pk} {v : V} (tp : Tp H H') (h : Beg P w H fs t e v) : Beg P w H' fs t e v := by
  obtain ⟨r, r1, r2, hs, qs, e0, e1, f1, f2, m⟩ := h
  exact ⟨r, r1, r2, hs, qs, e0, tp.tup _ _ e1, f1.mono tp, f2.mono tp, m⟩
structure FoundOk (P : Program) (w : World) (H : Hp) (x : Nat) (fs : List Str) (t : Src) (kf : List (D × V)) : Prop where
  keys : ∀ k ∈ kf.map (·.1), ∃ e, k = entD e ∧ Valid x fs t e
  vals : ∀ e v, valV kf (entD e) = some v → Beg P w H fs t e v
theorem FoundOk.mono {H H' : Hp} {x : Nat} {fs : List Str} {t : Src} {kf : List (D × V)} (tp : Tp H H') (h : FoundOk P w H x fs t kf) : FoundOk P w H' x fs t kf := ⟨h.keys, fun e v q => (h.vals e v q).mono tp⟩
def walkF (p b f l : Addr) : List (Str × V) := [("k_fields", .ref p), ("k_tree", .ref b), ("k_found", .ref f), ("k_live", .ref l)]
structure WalkSt (P : Program) (w : World) (T : TX K mg) (H : Hp) (a f l : Addr) (x : Nat) (fs : List Str) (t : Src) (kl : List (D × V)) : Prop where
  obj : ∃ dx p b, H a = some (.ins T.c_Walk dx (walkF p b f l)) ∧ PTup H p (fs.map V.str) ∧ NV H (srcD t) (.ref b)
  found : ∃ kf, MD P w H f kf ∧ FoundOk P w H x fs t kf
  live : MD P w H l kl
  ne : f ≠ l
theorem MD.same {H H' : Hp} {d : Addr} {l : List (D × V)} (s : Same H H') (m : MD P w H d l) : MD P w H' d l := by
  obtain ⟨xs, e, _⟩ := id m
  exact m.mono (Tp.same s) ((s _ _ e).trans e.symm)
theorem md_ne_ins {H : Hp} {a d C dx : Addr} {fs : List (Str × V)} {l : List (D × V)} (m : MD P w H d l) (h : H a = some (.ins C dx fs)) : a ≠ d := by
  obtain ⟨xs, e, _⟩ := m
  intro q
  rw [q, e] at h
  cases h
theorem WalkSt.same {T : TX K mg} {H H' : Hp} {a f l : Addr} {x : Nat} {fs : List Str} {t : Src} {kl : List (D × V)} (s : Same H H') (h : WalkSt P w T H a f l x fs t kl) : WalkSt P w T H' a f l x fs t kl := by
  obtain ⟨⟨dx, p, b, e, pt, n⟩, ⟨kf, m, ok⟩, m2, ne⟩ := h
  exact ⟨⟨dx, p, b, s _ _ e, pt.mono (.same s), n.mono (.same s)⟩, ⟨kf, m.same s, ok.mono (.same s)⟩, m2.same s, ne⟩
/-- k_found has grown -/
theorem WalkSt.putF {T : TX K mg} {H : Hp} {a f l : Addr} {x : Nat} {fs : List Str} {t : Src} {kl kf : List (D × V)} {o : HO} (h : WalkSt P w T H a f l x fs t kl) (m : MD P w (upd H f o) f kf) (ok : FoundOk P w (upd H f o) x fs t kf) : WalkSt P w T (upd H f o) a f l x fs t kl := by
  obtain ⟨⟨dx, p, b, e, pt, n⟩, ⟨kf0, m0, _⟩, m2, ne⟩ := h
  have tp : Tp H (upd H f o) := Tp.write m0.mut
  exact ⟨⟨dx, p, b, by rw [upd_ne (md_ne_ins m0 e)]; exact e, pt.mono tp, n.mono tp⟩, ⟨kf, m, ok⟩, m2.mono tp (upd_ne fun e => ne e.symm), ne⟩
/-- k_live has grown -/
theorem WalkSt.putL {T : TX K mg} {H : Hp} {a f l : Addr} {x : Nat} {fs : List Str} {t : Src} {kl kl2 : List (D × V)} {o : HO} (h : WalkSt P w T H a f l x fs t kl) (m : MD P w (upd H l o) l kl2) : WalkSt P w T (upd H l o) a f l x fs t kl2 := by
  obtain ⟨⟨dx, p, b, e, pt, n⟩, ⟨kf0, m0, ok⟩, m2, ne⟩ := h
  have tp : Tp H (upd H l o) := Tp.write m2.mut
  exact ⟨⟨dx, p, b, by rw [upd_ne (md_ne_ins m2 e)]; exact e, pt.mono tp, n.mono tp⟩, ⟨kf0, m0.mono tp (upd_ne ne), ok.mono tp⟩, m, ne⟩
theorem But.tp {a : Addr} {H H' : Hp} (b : But a H H') (m : Mut (H a)) : Tp H H' :=
  ⟨fun c xs e => b c _ (fun q => by rw [q] at e; rw [e] at m; exact m) e, fun c o u e => b c _ (fun q => by rw [q] at e; rw [e] at m; exact m) e⟩
def sp_Walk_init (P : Program) (w : World) (T : TX K mg) : Sp := fun vs H Q _ => ∃ self dx b fs t x, vs = [.ref self, .ref b] ∧ H self = some (.ins T.c_Walk dx []) ∧ Prog T H b fs t ∧ ∀ f l H', But self H H' → H f = none → H l = none → WalkSt P w T H' self f l x fs t [] → Q .non H'
theorem ok_Walk_init (T : TX K mg) : FnOk P w K mg base CX0 1 T.a_Walk_init T.fd_Walk_init ["self", "program"] (sp_Walk_init P w T) := by
  refine T.F_Walk_init.ok sc_Walk_init (fun vs H Q E h => ?_) (fun cdv A outer s H vs Q E hr h => ?_)
  · obtain ⟨self, dx, b, fs, t, x, rfl, _⟩ := h
    rfl
  · obtain ⟨self, dx, b, fs, t, x, rfl, hs, ⟨dx2, p, c, q, hb, hp, nc⟩, k⟩ := h
    refine ⟨_, (pss_cons (ps_fld (pv 0) (pe_fld (pv 1) rfl) rfl)
      (pss_cons (ps_fld (pv 0) (pe_fld (pv 1) rfl) rfl)
      (pss_cons (ps_fld (pv 0) pe_nnewM rfl)
      (pss_one (ps_fld (pv 0) pe_nnewM rfl))))), ?_⟩
    have ne : b ≠ self := fun e => by
      rw [e, hs] at hb
      have := (HO.ins.inj (Option.some.inj hb)).2.2
      simp [progF] at this
    have w0 : ∀ o, Tp H (upd H self o) := fun o => Tp.write (by rw [hs]; exact True.intro)
    refine ⟨_, rfl, b, _, dx2, _, _, rfl, hb, T.cl_Program, T.no_p_fields, rfl, _, rfl, self, _, dx, [], rfl, hs, T.cl_Walk, T.no_k_fields, by decide, ?_⟩
    refine ⟨_, rfl, b, _, dx2, _, _, rfl, by rw [upd_ne ne]; exact hb, T.cl_Program, T.no_p_tree, rfl, _, rfl, self, _, dx, _, rfl, upd_same, T.cl_Walk, T.no_k_tree, few_fields (.put .nil) (by decide), ?_⟩
    rw [upd_upd]
    intro f o nf mf
    have nfs : f ≠ self := fun e => by rw [e, upd_same] at nf; cases nf
    have nf0 : H f = none := by rwa [upd_ne nfs] at nf
    refine ⟨_, rfl, self, _, dx, _, rfl, by rw [upd_ne (fun e => nfs e.symm)]; exact upd_same, T.cl_Walk, T.no_k_found, few_fields (.put (.put .nil)) (by decide), ?_⟩
    intro l o2 nl ml
    have nls : l ≠ self := fun e => by rw [e, upd_same] at nl; cases nl
    have nlf : l ≠ f := fun e => by
      obtain ⟨xs, e1, _⟩ := mf
      rw [e, upd_ne nfs, e1] at nl
      cases nl
    have nl0 : H l = none := by rwa [upd_ne nls, upd_ne nlf, upd_ne nls] at nl
    refine ⟨_, rfl, self, _, dx, _, rfl, by rw [upd_ne (fun e => nls e.symm)]; exact upd_same, T.cl_Walk, T.no_k_live, few_fields (.put (.put (.put .nil))) (by decide), ?_⟩
    have mf1 : MD P w (upd (upd (upd (upd H self (.ins T.c_Walk dx (L2.putF "k_tree" (.ref c) (L2.putF "k_fields" (.ref p) [])))) f o) self (.ins T.c_Walk dx (L2.putF "k_found" (.ref f) (L2.putF "k_tree" (.ref c) (L2.putF "k_fields" (.ref p) []))))) l o2) f [] := by
      refine mf.mono ((Tp.write ?_).trans (Tp.new nl)) ?_
      · rw [upd_ne (fun e => nfs e.symm), upd_same]; exact True.intro
      · rw [upd_ne (fun e => nlf e.symm), upd_ne nfs]
    have bt : But self H (upd (upd (upd (upd (upd H self (.ins T.c_Walk dx (L2.putF "k_tree" (.ref c) (L2.putF "k_fields" (.ref p) [])))) f o) self (.ins T.c_Walk dx (L2.putF "k_found" (.ref f) (L2.putF "k_tree" (.ref c) (L2.putF "k_fields" (.ref p) []))))) l o2) self (.ins T.c_Walk dx (L2.putF "k_live" (.ref l) (L2.putF "k_found" (.ref f) (L2.putF "k_tree" (.ref c) (L2.putF "k_fields" (.ref p) [])))))) :=
      (((But.upd.trans (But.of (same_new nf))).trans But.upd).trans (But.of (same_new nl))).trans But.upd
    have last : ∀ u, Tp (upd (upd (upd (upd H self (.ins T.c_Walk dx (L2.putF "k_tree" (.ref c) (L2.putF "k_fields" (.ref p) [])))) f o) self (.ins T.c_Walk dx (L2.putF "k_found" (.ref f) (L2.putF "k_tree" (.ref c) (L2.putF "k_fields" (.ref p) []))))) l o2) (upd (upd (upd (upd (upd H self (.ins T.c_Walk dx (L2.putF "k_tree" (.ref c) (L2.putF "k_fields" (.ref p) [])))) f o) self (.ins T.c_Walk dx (L2.putF "k_found" (.ref f) (L2.putF "k_tree" (.ref c) (L2.putF "k_fields" (.ref p) []))))) l o2) self u) := fun u => Tp.write (by
      rw [upd_ne (fun e => nls e.symm), upd_same]; exact True.intro)
    have tpB := bt.tp (by rw [hs]; exact True.intro)
    exact k f l _ bt nf0 nl0 ⟨⟨dx, p, c, upd_same, hp.mono tpB, nc.mono tpB⟩, ⟨[], mf1.mono (last _) (upd_ne nfs), ⟨fun _ h => absurd h List.not_mem_nil, fun e v h => by cases h⟩⟩, ml.mono (last _) (upd_ne nls), fun e => nlf e.symm⟩
end
end Mw
/-! beginnings. -/
namespace Mw
open PySem L2
section
variable {P : Program} {w : World} {K : PySem.W.Frag} {mg : Str → Option Value} {base : Heap}
def sp_Walk_beginnings (P : Program) (w : World) (T : TX K mg) : Sp := fun vs H Q _ => ∃ a c f l x fs N t kl, ∃ e : Nat × Pk, vs = [.ref a, .int (e.1 : Int), .ref c] ∧ WalkSt P w T H a f l x fs t kl ∧ Job x fs N t ∧ Valid x fs t e ∧ NV H (pkD e.2) (.ref c) ∧
  ∀ v H', Kept f l H H' → WalkSt P w T H' a f l x fs t kl → Beg P w H' fs t e v → Q v H'
theorem ent_tup {H : Hp} {m : Nat} {p : Pk} {c y : Addr} (n : NV H (pkD p) (.ref c)) (ny : H y = none) : KeyV (upd H y (.tup [.int (m : Int), .ref c])) (entD (m, p)) (.ref y) :=
  ent_key (n.mono (Tp.new ny)) upd_same
theorem FoundOk.put {H : Hp} {x : Nat} {fs : List Str} {t : Src} {kf : List (D × V)} {e : Nat × Pk} {v : V} (h : FoundOk P w H x fs t kf) (v1 : Valid x fs t e) (b : Beg P w H fs t e v) : FoundOk P w H x fs t (putK kf (entD e) v) := by
  refine ⟨fun k hk => ?_, fun e' u hu => ?_⟩
  · rcases mem_putK.mp hk with h1 | h1
    · exact h.keys k h1
    · exact ⟨e, h1, v1⟩
  · rw [valV_put] at hu
    split at hu
    · rename_i q
      rw [entD_inj q]
      cases hu
      exact b
    · exact h.vals e' u hu
theorem FoundOk.few {H : Hp} {x : Nat} {fs : List Str} {N : List Nat} {t : Src} {kf : List (D × V)} (j : Job x fs N t) (h : FoundOk P w H x fs t kf) (n : (kf.map (·.1)).Nodup) : kf.length ≤ 1000 := by
  obtain ⟨es, e⟩ : ∃ es : List (Nat × Pk), kf.map (·.1) = es.map entD := map_of fun k hk => by
    obtain ⟨e, q, _⟩ := h.keys k hk
    exact ⟨e, q.symm⟩
  rw [keys_len e]
  refine (sortsE (w := w) j.net.hx j.net.hn).small ?_ fun a ha => ?_
  · rw [e] at n
    exact (List.pairwise_map.mp n).imp fun q r => q (by rw [r])
  · obtain ⟨e', q, v⟩ := h.keys (entD a) (by rw [e]; exact List.mem_map.mpr ⟨a, ha, rfl⟩)
    rw [entD_inj q]
    exact j.inE v
theorem ok_Walk_beginnings (T : TX K mg) : FnOk P w K mg base CX0 25 T.a_Walk_beginnings T.fd_Walk_beginnings ["self", "place", "packet"] (sp_Walk_beginnings P w T) := by
  refine T.F_Walk_beginnings.ok sc_Walk_beginnings (fun vs H Q E h => ?_) (fun cdv A outer s H vs Q E hr h => ?_)
  · obtain ⟨a, c, f, l, x, fs, N, t, kl, e, rfl, _⟩ := h
    rfl
  · obtain ⟨a, c, f, l, x, fs, N, t, kl, ⟨m, p⟩, rfl, W, J, V1, np, k⟩ := h
    refine ⟨_, (pss_mid (ps_if (pt_cmp (pc_nnotin (hu_of2 hr) (pe_tup (pa_cons (pv 1) (pa_cons (pv 2) pa_nil))) (pe_fld (pv 0) rfl))) (pss_one (ps_if (pt_cmp (pc_eqI (pv 1) pe_int)) (pss_one (ps_nput (hu_of2 hr) (pe_fld (pv 0) rfl) (pe_tup (pa_cons (pv 1) (pa_cons (pv 2) pa_nil))) (pe_call (ok_flow T) (hr.mono (by omega)) rfl T.m_flow T.F_flow.kp T.b_flow .nil pass0 (pa_cons (pe_fld (pv 0) rfl) (pa_cons (pe_fld (pv 0) rfl) (pa_cons pe_int (pa_cons (pe_nfrz (pe_n1 (hu_of2 hr) (pv 2) pe_bl)) pa_nil))))) rfl)) (pss_one (ps_nput (hu_of2 hr) (pe_fld (pv 0) rfl) (pe_tup (pa_cons (pv 1) (pa_cons (pv 2) pa_nil))) (pe_call (ok_onward T) (hr.mono (by omega)) rfl T.m_onward T.F_onward.kp T.b_onward .nil pass0 (pa_cons (pe_fld (pv 0) rfl) (pa_cons (pe_fld (pv 0) rfl) (pa_cons pe_int (pa_cons (pv 1) (pa_cons (pv 2) pa_nil)))))) rfl)))) pss_nil)
      (pss_one (ps_ret (pe_nget (hu_of2 hr) (pe_fld (pv 0) rfl) (pe_tup (pa_cons (pv 1) (pa_cons (pv 2) pa_nil))) (fun _ _ => rfl))))), ?_⟩
    refine ⟨fun σ' H' => σ' = [some (.ref a), some (.int (m : Int)), some (.ref c)] ∧ Kept f l H H' ∧ WalkSt P w T H' a f l x fs t kl ∧ ∃ kf, MD P w H' f kf ∧ FoundOk P w H' x fs t kf ∧ (valV kf (entD (m, p))).isSome = true, ?_, ?_⟩
    · refine ⟨_, rfl, _, rfl, (by show 2 ≤ sizeLine; decide), fun y ny => ?_⟩
      have s1 := same_new (o := .tup [.int (m : Int), .ref c]) ny
      have W1 := W.same s1
      obtain ⟨⟨dx, pf, b, ea, pt, nt⟩, ⟨kf, mf, ok⟩, ml, ne⟩ := id W1
      refine ⟨_, rfl, a, _, dx, _, _, rfl, ea, T.cl_Walk, T.no_k_found, rfl, f, kf, entD (m, p), rfl, .inl mf, ent_tup np ny, _, rfl, iteB (fun no => ?_) fun yes => ?_⟩
      · have fewK := ok.few J mf.nodup
        have np1 := np.mono (Tp.same s1)
        -- behind either call
        have store : ∀ (r : Addr) (H2 : Hp), Same (upd H y (.tup [.int (m : Int), .ref c])) H2 → Beg P w H2 fs t (m, p) (.ref r) → (tFld K (tVar 0) "k_found") ([some (.ref a), some (.int (m : Int)), some (.ref c)] : L2.St) H2 (fun z H3 => tTup (tCons (tVar 1) (tCons (tVar 2) tNil)) ([some (.ref a), some (.int (m : Int)), some (.ref c)] : L2.St) H3 fun y H4 => ∃ d kvs k, z = .ref d ∧ MD P w H4 d kvs ∧ KeyV H4 k y ∧ kvs.length < sizeLine ∧
            ∀ o, MD P w (upd H4 d o) d (putK kvs k (.ref r)) → (([some (.ref a), some (.int (m : Int)), some (.ref c)] : L2.St) = [some (.ref a), some (.int (m : Int)), some (.ref c)] ∧ Kept f l H (upd H4 d o) ∧ WalkSt P w T (upd H4 d o) a f l x fs t kl ∧ ∃ kf, MD P w (upd H4 d o) f kf ∧ FoundOk P w (upd H4 d o) x fs t kf ∧ (valV kf (entD (m, p))).isSome = true)) := fun r H2 s2 bg => by
          have s12 := same_trans s1 s2
          refine ⟨_, rfl, a, _, dx, _, _, rfl, s2 _ _ ea, T.cl_Walk, T.no_k_found, rfl, _, rfl, _, rfl, (by show 2 ≤ sizeLine; decide), fun y2 ny2 => ?_⟩
          have s3 := same_new (o := .tup [.int (m : Int), .ref c]) ny2
          have m3 := mf.same (same_trans s2 s3)
          refine ⟨f, kf, entD (m, p), rfl, m3, ent_tup (np1.mono (.same s2)) ny2, by rw [sizeLine_eq]; omega, fun o mo => ?_⟩
          have ok3 : FoundOk P w _ x fs t (putK kf (entD (m, p)) (.ref r)) := (((ok.mono (.same s2)).put V1 bg).mono (.same s3)).mono (Tp.write (a := f) (o := o) m3.mut)
          exact ⟨rfl, (Kept.same (same_trans s12 s3)).trans (Kept.f m3.mut), (W1.same (same_trans s2 s3)).putF mo ok3, _, mo, ok3, by rw [valV_put, if_pos rfl]; rfl⟩
        have g := J.good
        refine ⟨_, rfl, _, _, rfl, rfl, _, rfl, iteB (fun z => ?_) fun nz => ?_⟩
        · have z : m = 0 := by have := of_decide_eq_true z; omega
          subst z
          refine ⟨_, rfl, a, _, dx, _, _, rfl, ea, T.cl_Walk, T.no_k_fields, rfl, _, rfl, a, _, dx, _, _, rfl, ea, T.cl_Walk, T.no_k_tree, rfl, fun p1 o1 np1' m1 => ⟨_, rfl, pkD p, (pk_key np1).mono (Tp.new np1'), m1, fun o2 m2 => ⟨p1, _, rfl, m2, fun o3 f3 => ?_⟩⟩⟩
          have s4 : Same (upd H y (.tup [.int ((0 : Nat) : Int), .ref c])) _ := same_upd (o := o3) (same_upd (o := o2) (same_new (o := o1) np1') np1') np1'
          refine ⟨pf, b, p1, fs, N, x, t, 0, [p], rfl, pt.mono (.same s4), nt.mono (.same s4), ⟨_, f3, rfl⟩, J.net, g.fits, g.form, fun q hq => by rw [List.mem_singleton.mp hq]; exact V1.2, g.size, g.deep, by omega, by have := g.few; omega, ?_⟩
          intro r r1 r2 hs qs H2 s5 at2 fe fq me mq
          exact store r H2 (same_trans s4 s5) ⟨r, r1, r2, hs, qs, rfl, at2, fe, fq, fun h => by rw [me]; simp [Nexts], fun q => by rw [mq]; simp [Stops]⟩
        · have nz : m ≠ 0 := by have := of_decide_eq_false nz; omega
          refine ⟨_, rfl, a, _, dx, _, _, rfl, ea, T.cl_Walk, T.no_k_fields, rfl, _, rfl, a, _, dx, _, _, rfl, ea, T.cl_Walk, T.no_k_tree, rfl, _, rfl, _, rfl, pf, b, c, fs, N, x, t, 0, m, p, rfl, pt, nt, np1, J.net, g.fits, g.form, V1.2, g.size, g.deep, by omega, by have := g.few; omega, by omega, by have := V1.1; simpa using this, ?_⟩
          intro r r1 r2 hs qs H2 s5 at2 fe fq me mq
          exact store r H2 s5 ⟨r, r1, r2, hs, qs, rfl, at2, fe, fq, fun h => by rw [me]; simp [Nexts, nz], fun q => by rw [mq]; simp [Stops, nz]⟩
      · refine ⟨rfl, .same s1, W1, kf, mf, ok, ?_⟩
        simpa using yes
    · rintro σ' H1 ⟨rfl, K1, W1, kf, mf, ok, has⟩
      obtain ⟨⟨dx, pf, b, ea, pt, nt⟩, _, ml, ne⟩ := id W1
      obtain ⟨v, hv⟩ := Option.isSome_iff_exists.mp has
      refine ⟨_, rfl, a, _, dx, _, _, rfl, ea, T.cl_Walk, T.no_k_found, rfl, _, rfl, _, rfl, (by show 2 ≤ sizeLine; decide), fun y ny => ?_⟩
      have s2 := same_new (o := .tup [.int (m : Int), .ref c]) ny
      exact ⟨f, kf, entD (m, p), v, rfl, .inl (mf.same s2), ent_tup (np.mono K1.tp) ny, hv, k v _ (K1.trans (.same s2)) (W1.same s2) ((ok.vals _ _ hv).mono (.same s2))⟩
end
end Mw
/-! The dict behind, while around makes it. -/
namespace Mw
open PySem L2
section
variable {P : Program} {w : World}
theorem md_ne_lst {H : Hp} {a d : Addr} {xs : List V} {l : List (D × V)} (m : MD P w H d l) (h : H a = some (.lst xs)) : a ≠ d := by
  obtain ⟨zs, e, _⟩ := m
  intro q
  rw [q, e] at h
  cases h
theorem Kept.upd_new {f l a : Addr} {H H1 : Hp} {o : HO} (k : Kept f l H H1) (n : H a = none) : Kept f l H (upd H1 a o) :=
  ⟨fun c u n1 n2 e => by rw [upd_ne (ne_of_none e n)]; exact k.keep c u n1 n2 e, ⟨fun c xs e => by rw [upd_ne (ne_of_none e n)]; exact k.tp.tup c xs e, fun c o' u e => by rw [upd_ne (ne_of_none e n)]; exact k.tp.frz c o' u e⟩⟩
structure Bh (P : Program) (w : World) (H : Hp) (x : Nat) (fs : List Str) (t : Src) (kl : List (D × V)) (ln bd : Addr) (kb : List (D × V)) (es : List (Nat × Pk)) (pr : Nat × Pk → List (Nat × Pk)) (n : Nat) (S : List (Nat × Pk)) : Prop where
  dict : MD P w H bd kb
  keys : kb.map (·.1) = es.map entD
  nd : es.Nodup
  valid : ∀ e ∈ es, Valid x fs t e
  out : ∀ e ∈ es, valV kl (entD e) = none
  lists : ∀ e ∈ es, ∃ ls ys, valV kb (entD e) = some (.ref ls) ∧ ls ≠ ln ∧ H ls = some (.lst ys) ∧ NVs H ((pr e).map entD) ys
  none : ∀ e, e ∉ es → pr e = []
  sub : ∀ e, ∀ p ∈ pr e, p ∈ es
  len : ∀ e, (pr e).length ≤ n + (if e ∈ S then 1 else 0)
variable {H H' : Hp} {x : Nat} {fs : List Str} {t : Src} {kl kb : List (D × V)} {ln bd f l : Addr} {es S : List (Nat × Pk)} {pr : Nat × Pk → List (Nat × Pk)} {n : Nat}
theorem Bh.kept (b : Bh P w H x fs t kl ln bd kb es pr n S) (k : Kept f l H H') (nf : bd ≠ f) (nl : bd ≠ l) {kf kl2 : List (D × V)} (mf : MD P w H f kf) (ml : MD P w H l kl2) : Bh P w H' x fs t kl ln bd kb es pr n S := by
  refine { b with dict := ?_, lists := fun e he => ?_ }
  · obtain ⟨xs, e, _⟩ := id b.dict
    exact b.dict.mono k.tp ((k.keep bd _ nf nl e).trans e.symm)
  · obtain ⟨ls, ys, h1, h2, h3, h4⟩ := b.lists e he
    exact ⟨ls, ys, h1, h2, k.keep ls _ (md_ne_lst mf h3) (md_ne_lst ml h3) h3, h4.mono k.tp⟩
theorem Bh.same (b : Bh P w H x fs t kl ln bd kb es pr n S) (s : Same H H') : Bh P w H' x fs t kl ln bd kb es pr n S := by
  refine { b with dict := b.dict.same s, lists := fun e he => ?_ }
  obtain ⟨ls, ys, h1, h2, h3, h4⟩ := b.lists e he
  exact ⟨ls, ys, h1, h2, s _ _ h3, h4.mono (.same s)⟩
theorem Bh.line (b : Bh P w H x fs t kl ln bd kb es pr n S) {xs zs : List V} (h : H ln = some (.lst xs)) : Bh P w (upd H ln (.lst zs)) x fs t kl ln bd kb es pr n S := by
  have tp : Tp H (upd H ln (.lst zs)) := Tp.write (by rw [h]; exact True.intro)
  refine { b with dict := b.dict.mono tp (upd_ne fun e => md_ne_lst b.dict h e.symm), lists := fun e he => ?_ }
  obtain ⟨ls, ys, h1, h2, h3, h4⟩ := b.lists e he
  exact ⟨ls, ys, h1, h2, by rw [upd_ne h2]; exact h3, h4.mono tp⟩
theorem mem_keys {e : Nat × Pk} (h : kb.map (·.1) = es.map entD) : entD e ∈ kb.map (·.1) ↔ e ∈ es := by
  rw [h, List.mem_map]
  exact ⟨fun ⟨a, m, q⟩ => entD_inj q ▸ m, fun m => ⟨e, m, rfl⟩⟩
theorem val_keys {e : Nat × Pk} (h : kb.map (·.1) = es.map entD) : (valV kb (entD e)).isSome = true ↔ e ∈ es := by rw [valV_mem, mem_keys h]
/-- behind[h] = [*behind.get(h, []), cur] -/
theorem Bh.put (b : Bh P w H x fs t kl ln bd kb es pr n S) {h cur : Nat × Pk} {es1 : List (Nat × Pk)} {q : Addr} {ys : List V} {o : HO} (e1 : (h ∈ es ∧ es1 = es) ∨ (h ∉ es ∧ es1 = es ++ [h])) (v : Valid x fs t h) (nk : valV kl (entD h) = Option.none) (hc : cur ∈ es) (hq : H q = some (.lst ys)) (ny : NVs H ((pr h ++ [cur]).map entD) ys) (ql : q ≠ ln) (hS : h ∉ S)
    (m : MD P w (upd H bd o) bd (putK kb (entD h) (.ref q))) : Bh P w (upd H bd o) x fs t kl ln bd (putK kb (entD h) (.ref q)) es1 (fun e => if e = h then pr h ++ [cur] else pr e) n (h :: S) := by
  have tp : Tp H (upd H bd o) := Tp.write b.dict.mut
  have sub1 : ∀ e ∈ es, e ∈ es1 := fun e he => by
    rcases e1 with ⟨_, rfl⟩ | ⟨_, rfl⟩
    · exact he
    · exact List.mem_append_left _ he
  have in1 : ∀ e ∈ es1, e ∈ es ∨ e = h := fun e he => by
    rcases e1 with ⟨_, rfl⟩ | ⟨_, rfl⟩
    · exact .inl he
    · exact (List.mem_append.mp he).imp id List.mem_singleton.mp
  have hin : h ∈ es1 := by
    rcases e1 with ⟨m, rfl⟩ | ⟨_, rfl⟩
    · exact m
    · simp
  refine ⟨m, ?_, ?_, fun e he => ?_, fun e he => ?_, fun e he => ?_, fun e he => ?_, fun e p hp => ?_, fun e => ?_⟩
  · rw [putK_keys]
    rcases e1 with ⟨hm, rfl⟩ | ⟨hm, rfl⟩
    · rw [if_pos ((mem_keys b.keys).mpr hm), b.keys]
    · rw [if_neg (fun q => hm ((mem_keys b.keys).mp q)), b.keys, List.map_append]
      rfl
  · rcases e1 with ⟨_, rfl⟩ | ⟨hm, rfl⟩
    · exact b.nd
    · refine List.nodup_append.mpr ⟨b.nd, by simp, fun a ha c hc e => ?_⟩
      rw [List.mem_singleton.mp hc] at e
      exact hm (e ▸ ha)
  · rcases in1 e he with h1 | rfl
    · exact b.valid e h1
    · exact v
  · rcases in1 e he with h1 | rfl
    · exact b.out e h1
    · exact nk
  · by_cases eh : e = h
    · subst eh
      refine ⟨q, ys, by rw [valV_put, if_pos rfl], ql, by rw [upd_ne (md_ne_lst b.dict hq)]; exact hq, ?_⟩
      rw [if_pos rfl]
      exact ny.mono tp
    · obtain ⟨ls, zs, h1, h2, h3, h4⟩ := b.lists e ((in1 e he).resolve_right eh)
      refine ⟨ls, zs, by rw [valV_put, if_neg (fun q => eh (entD_inj q))]; exact h1, h2, by rw [upd_ne (md_ne_lst b.dict h3)]; exact h3, ?_⟩
      rw [if_neg eh]
      exact h4.mono tp
  · have eh : e ≠ h := fun q => he (q ▸ hin)
    show (if e = h then pr h ++ [cur] else pr e) = []
    rw [if_neg eh]
    exact b.none e fun q => he (sub1 e q)
  · have hp : p ∈ (if e = h then pr h ++ [cur] else pr e) := hp
    by_cases eh : e = h
    · rw [if_pos eh] at hp
      rcases List.mem_append.mp hp with h1 | h1
      · exact sub1 p (b.sub h p h1)
      · rw [List.mem_singleton.mp h1]
        exact sub1 cur hc
    · rw [if_neg eh] at hp
      exact sub1 p (b.sub e p hp)
  · show (if e = h then pr h ++ [cur] else pr e).length ≤ _
    by_cases eh : e = h
    · subst eh
      have := b.len e
      rw [if_neg hS] at this
      rw [if_pos rfl, if_pos List.mem_cons_self, List.length_append, List.length_singleton]
      omega
    · have := b.len e
      rw [if_neg eh]
      by_cases es' : e ∈ S
      · rw [if_pos es'] at this
        rw [if_pos (List.mem_cons_of_mem _ es')]
        exact this
      · rw [if_neg es'] at this
        omega
end
end Mw
/-! around. -/
namespace Mw
open PySem L2
section
variable {P : Program} {w : World} {K : PySem.W.Frag} {mg : Str → Option Value} {base : Heap}
theorem WalkSt.at_ {T : TX K mg} {H H' : Hp} {a f l : Addr} {x : Nat} {fs : List Str} {t : Src} {kl : List (D × V)} (h : WalkSt P w T H a f l x fs t kl) (tp : Tp H H') (ea : H' a = H a) (ef : H' f = H f) (el : H' l = H l) : WalkSt P w T H' a f l x fs t kl := by
  obtain ⟨⟨dx, p, b, e, pt, n⟩, ⟨kf, m, ok⟩, m2, ne⟩ := h
  exact ⟨⟨dx, p, b, ea.trans e, pt.mono tp, n.mono tp⟩, ⟨kf, m.mono tp ef, ok.mono tp⟩, m2.mono tp el, ne⟩
structure Arnd (P : Program) (w : World) (H : Hp) (x : Nat) (fs : List Str) (t : Src) (kl : List (D × V)) (bd : Addr) (kb : List (D × V)) (es : List (Nat × Pk)) (pr : Nat × Pk → List (Nat × Pk)) : Prop where
  dict : FD P w H bd kb
  keys : kb.map (·.1) = es.map entD
  nd : es.Nodup
  valid : ∀ e ∈ es, Valid x fs t e
  out : ∀ e ∈ es, valV kl (entD e) = none
  lists : ∀ e ∈ es, ∃ ls ys, valV kb (entD e) = some (.ref ls) ∧ H ls = some (.lst ys) ∧ NVs H ((pr e).map entD) ys
  sub : ∀ e, ∀ p ∈ pr e, p ∈ es
  len : ∀ e, (pr e).length ≤ 1000
  shut : ∀ e ∈ es, ∀ h, Nexts fs t e h → (valV kl (entD h)).isSome = true ∨ (h ∈ es ∧ e ∈ pr h)
def sp_Walk_around (P : Program) (w : World) (T : TX K mg) : Sp := fun vs H Q _ => ∃ a c f l x fs N t kl, ∃ e : Nat × Pk, vs = [.ref a, .int (e.1 : Int), .ref c] ∧ WalkSt P w T H a f l x fs t kl ∧ Job x fs N t ∧ Valid x fs t e ∧ NV H (pkD e.2) (.ref c) ∧ valV kl (entD e) = none ∧
  ∀ bd kb es pr H', Kept f l H H' → WalkSt P w T H' a f l x fs t kl → Arnd P w H' x fs t kl bd kb es pr → e ∈ es → Q (.ref bd) H'
theorem Bh.sub_S {H : Hp} {x : Nat} {fs : List Str} {t : Src} {kl kb : List (D × V)} {ln bd : Addr} {es S S' : List (Nat × Pk)} {pr : Nat × Pk → List (Nat × Pk)} {n : Nat} (b : Bh P w H x fs t kl ln bd kb es pr n S) (h : ∀ e ∈ S, e ∈ S') : Bh P w H x fs t kl ln bd kb es pr n S' :=
  have len : ∀ e, (pr e).length ≤ n + (if e ∈ S' then 1 else 0) := fun e => by
    have := b.len e
    by_cases m : e ∈ S
    · rw [if_pos m] at this
      rw [if_pos (h e m)]
      exact this
    · rw [if_neg m] at this
      omega
  { b with len := len }
theorem Bh.next {H : Hp} {x : Nat} {fs : List Str} {t : Src} {kl kb : List (D × V)} {ln bd : Addr} {es S : List (Nat × Pk)} {pr : Nat × Pk → List (Nat × Pk)} {n : Nat} (b : Bh P w H x fs t kl ln bd kb es pr n S) : Bh P w H x fs t kl ln bd kb es pr (n + 1) [] :=
  have len : ∀ e, (pr e).length ≤ (n + 1) + (if e ∈ [] then 1 else 0) := fun e => by
    have := b.len e
    split at this <;> omega
  { b with len := len }
/-- an entry's tuple -/
theorem ent_at {H : Hp} {e : Nat × Pk} {v : V} (n : NV H (entD e) v) : ∃ y c, v = .ref y ∧ H y = some (.tup [.int (e.1 : Int), .ref c]) ∧ NV H (pkD e.2) (.ref c) := by
  obtain ⟨y, xs, rfl, e1, n1⟩ := nv_tup n
  cases n1 with
  | cons a1 r1 => cases r1 with
    | cons a2 r2 =>
      cases r2
      obtain rfl := nv_int a1
      obtain ⟨c, _, rfl, _⟩ := nv_tup a2
      exact ⟨y, c, rfl, e1, a2⟩
def Done (fs : List Str) (t : Src) (kl : List (D × V)) (es : List (Nat × Pk)) (pr : Nat × Pk → List (Nat × Pk)) (e : Nat × Pk) : Prop := ∀ h, Nexts fs t e h → (valV kl (entD h)).isSome = true ∨ (h ∈ es ∧ e ∈ pr h)
theorem nvs_at {α : Type} {f : α → D} {H : Hp} {l : List α} {vs : List V} {i : Nat} {a : α} (n : NVs H (l.map f) vs) (h : l[i]? = some a) : ∃ v, vs[i]? = some v ∧ NV H (f a) v := n.get (by rw [List.getElem?_map, h]; rfl)
theorem ok_Walk_around (T : TX K mg) : FnOk P w K mg base CX0 26 T.a_Walk_around T.fd_Walk_around ["self", "place", "packet"] (sp_Walk_around P w T) := by
  refine T.F_Walk_around.ok sc_Walk_around (fun vs H Q E h => ?_) (fun cdv A outer s H vs Q E hr h => ?_)
  · obtain ⟨a, c, f, l, x, fs, N, t, kl, e, rfl, _⟩ := h
    rfl
  · obtain ⟨a, c, f, l, x, fs, N, t, kl, e0, rfl, W, J, V0, np, no0, k⟩ := h
    refine ⟨_, (pss_cons (ps_par3 (i := 3) (j := 4) (l := 5) (by rfl) sc_Walk_around.nd rfl rfl rfl (by decide) (by decide) (by decide) rfl rfl rfl (pa_cons (pe_lst (pa_cons (pe_tup (pa_cons (pv 1) (pa_cons (pv 2) pa_nil))) pa_nil)) (pa_cons (pe_n1 (hu_of2 hr) (pe_tup (pa_cons (pv 1) (pa_cons (pv 2) pa_nil))) (pe_lst pa_nil)) (pa_cons pe_int pa_nil))) (by rfl))
      (pss_cons (ps_while PassesOwn.never (pt_cmp (pc_lt (pv 5) (pe_callB call_len_seq (by rfl) T.z_len (by decide +kernel) (pa_cons (pv 3) pa_nil)))) (pss_cons (ps_for PassesOwn.never rfl (pi_n (pe_ix ix_tup (pe_meth (pv 0) T.cl_Walk T.me_Walk_beginnings (ok_Walk_beginnings T) (hr.mono (by omega)) T.b_Walk_beginnings .nil pass0 (pa_cons (pe_ix ix_tup (pe_ix ix_list (pv 3) (pv 5) (fun _ _ => rfl)) pe_int (fun _ _ => rfl)) (pa_cons (pe_ix ix_tup (pe_ix ix_list (pv 3) (pv 5) (fun _ _ => rfl)) pe_int (fun _ _ => rfl)) pa_nil))) pe_int (fun _ _ => rfl))) (pg_name (i := 6) sc_Walk_around.nd rfl (Or.inl rfl)) (pss_one (ps_if (pt_cmp (pc_nnotin (hu_of2 hr) (pv 6) (pe_fld (pv 0) rfl))) (pss_mid (ps_if (pt_cmp (pc_nnotin (hu_of2 hr) (pv 6) (pv 4))) (pss_one (ps_expr (pe_bm PySem.F.plainAttrs_list PySem.F.slot_list_append PySem.F.type_list_append mt_append (pv 3) (pa_cons (pv 6) pa_nil)))) pss_nil)
            (pss_one (ps_nput (hu_of2 hr) (pv 4) (pv 6) (pe_lst (StX.pa_star (pe_nget2 (hu_of2 hr) (pv 4) (pv 6) (pe_lst pa_nil) ⟨by rfl, by rfl, by rfl, by rfl⟩) (pa_cons (pe_ix ix_list (pv 3) (pv 5) (fun _ _ => rfl)) pa_nil))) rfl))) pss_nil)))
        (pss_one (ps_set (i := 5) sc_Walk_around.nd rfl (Or.inl rfl) (pe_op op_add (pv 5) pe_int)))))
      (pss_one (ps_ret (pe_nfrz (pv 4)))))), ?_⟩
    have sE := sortsE (w := w) J.net.hx J.net.hn
    obtain ⟨⟨dx, pf, b0, ea, pt, nt⟩, ⟨kf0, mf0, _⟩, ml0, nfl⟩ := id W
    refine ⟨_, rfl, _, rfl, (by show 2 ≤ sizeLine; decide), fun y1 ny1 => ⟨(by show 1 ≤ sizeLine; decide), fun ln nln bd o1 nbd m1 => ⟨_, rfl, _, rfl, (by show 2 ≤ sizeLine; decide), fun y2 ny2 => ⟨Nat.zero_le _, fun l0 nl0 => ?_⟩⟩⟩⟩
    have s1 := same_new (o := .tup [.int (e0.1 : Int), .ref c]) ny1
    have s2 := same_trans s1 (same_new (o := .lst [.ref y1]) nln)
    have s3 := same_trans s2 (same_new (o := o1) nbd)
    have s34 := same_new (o := .tup [.int (e0.1 : Int), .ref c]) ny2
    have s45 := same_new (o := .lst []) nl0
    have s5 := same_trans s3 (same_trans s34 s45)
    have nbd0 := same_none s2 nbd
    have nln0 := same_none s1 nln
    refine ⟨entD e0, (ent_tup (np.mono (.same s3)) ny2).mono (.same s45), m1.same (same_trans s34 s45), fun o2 m2 => ⟨_, _, _, rfl, ?_⟩⟩
    have s6 : Same H _ := same_upd (o := o2) s5 nbd0
    have nbf : bd ≠ f := fun q => by obtain ⟨zs, e1, _⟩ := id mf0; rw [q, e1] at nbd0; cases nbd0
    have nbl : bd ≠ l := fun q => by obtain ⟨zs, e1, _⟩ := id ml0; rw [q, e1] at nbd0; cases nbd0
    have nba : bd ≠ a := fun q => by rw [q, ea] at nbd0; cases nbd0
    have nlf : ln ≠ f := fun q => by obtain ⟨zs, e1, _⟩ := id mf0; rw [q, e1] at nln0; cases nln0
    have nll : ln ≠ l := fun q => by obtain ⟨zs, e1, _⟩ := id ml0; rw [q, e1] at nln0; cases nln0
    have nla : ln ≠ a := fun q => by rw [q, ea] at nln0; cases nln0
    refine ⟨fun μ σ H' => ∃ (i : Nat) (es : List (Nat × Pk)) (kb : List (D × V)) (pr : Nat × Pk → List (Nat × Pk)) (z6 : Option V), μ = 1000 - i ∧ σ = [some (.ref a), some (.int (e0.1 : Int)), some (.ref c), some (.ref ln), some (.ref bd), some (.int (i : Int)), z6] ∧ Kept f l H H' ∧ WalkSt P w T H' a f l x fs t kl ∧
      (∃ xs, H' ln = some (.lst xs) ∧ NVs H' (es.map entD) xs) ∧ Bh P w H' x fs t kl ln bd kb es pr i [] ∧ i ≤ es.length ∧ e0 ∈ es ∧ ∀ j e, j < i → es[j]? = some e → Done fs t kl es pr e, ⟨_, 0, [e0], [(entD e0, .ref l0)], fun _ => [], none, rfl, rfl, .same s6, W.same s6, ?_, ?_, Nat.zero_le _, List.mem_singleton.mpr rfl, fun j e h => absurd h (Nat.not_lt_zero _)⟩, ?_⟩
    · have at2 := (same_trans (same_new (o := o1) nbd) (same_trans s34 s45)) ln _ upd_same
      have m5 := m1.same (same_trans s34 s45)
      refine ⟨[.ref y1], by rw [upd_ne (md_ne_lst m5 at2)]; exact at2, .cons ?_ .nil⟩
      have sy : Same (upd H y1 (.tup [.int (e0.1 : Int), .ref c])) _ := same_upd (o := o2) (same_trans (same_new (o := .lst [.ref y1]) nln) (same_trans (same_new (o := o1) nbd) (same_trans s34 s45))) (same_none (same_new (o := .lst [.ref y1]) nln) nbd)
      exact (ent_tup np ny1).1.mono (.same sy)
    · have m5 := m1.same (same_trans s34 s45)
      have at2 := (same_trans (same_new (o := o1) nbd) (same_trans s34 s45)) ln _ upd_same
      have nl0ln : l0 ≠ ln := fun q => by
        have := (same_trans (same_new (o := o1) nbd) s34) ln _ upd_same
        rw [q, this] at nl0
        cases nl0
      have val1 : valV [(entD e0, V.ref l0)] (entD e0) = some (.ref l0) := valV_pos rfl
      refine ⟨m2, rfl, by simp, fun e he => ?_, fun e he => ?_, fun e he => ?_, fun _ _ => rfl, fun _ p hp => absurd hp List.not_mem_nil, fun _ => Nat.zero_le _⟩
      · rw [List.mem_singleton.mp he]; exact V0
      · rw [List.mem_singleton.mp he]; exact no0
      · rw [List.mem_singleton.mp he]
        refine ⟨l0, [], val1, nl0ln, ?_, .nil⟩
        rw [upd_ne (md_ne_lst m5 upd_same)]
        exact upd_same
    rintro μ σ H1 ⟨i, es, kb, pr, z6, rfl, rfl, K1, W1, ⟨xs, hln, nxs⟩, B, le, in0, done⟩
    have lx : xs.length = es.length := by rw [nxs.length, List.length_map]
    have esl : es.length ≤ 1000 := sE.small B.nd fun e he => J.inE (B.valid e he)
    refine ⟨_, rfl, _, rfl, ln, _, rfl, .inl (SqL.of hln), _, _, rfl, rfl, _, rfl, iteB (fun lt => ?_) fun ge => ?_⟩
    · have lt : i < es.length := by have := of_decide_eq_true lt; omega
      refine ⟨_, fun _ _ h => h, ?_⟩
      have hc : es[i]? = some es[i] := List.getElem?_eq_getElem lt
      generalize es[i] = cur at hc
      have cmem := List.mem_of_getElem? hc
      obtain ⟨vc, hvc, nvc⟩ := nvs_at nxs hc
      obtain ⟨yc, pc, rfl, ayc, npc⟩ := ent_at nvc
      obtain ⟨⟨dx1, pf1, b1, ea1, _⟩, ⟨kf1, mf1, _⟩, ml1, _⟩ := id W1
      refine ⟨_, rfl, a, dx1, _, rfl, ea1, rfl, _, rfl, _, rfl, ln, _, _, _, rfl, rfl, SqL.of hln, atI_nat hvc, _, _, _, _, rfl, rfl, SqT.of ayc, at0, _, rfl, _, rfl, ln, _, _, _, rfl, rfl, SqL.of hln, atI_nat hvc, _, _, _, _, rfl, rfl, SqT.of ayc, atI_nat (j := 1) rfl, a, pc, f, l, x, fs, N, t, kl, cur, rfl, W1, J, B.valid cur cmem, npc, fun v H2 K2 W2 bg => ?_⟩
      obtain ⟨r, r1, r2, hs, qs, rfl, atr, fe, fq, me, mq⟩ := bg
      obtain ⟨kvh, fdh, ekh⟩ := id fe
      refine ⟨r, _, _, _, rfl, rfl, SqT.of atr, at0, r1, kvh, rfl, fdh, fun Jw vs st ak => ?_⟩
      have lv : vs.length = hs.length := by rw [ak.1.length, ekh, List.length_map]
      have hsnd := fe.nodup
      refine for_st st (fun j σ H' => ∃ (es2 : List (Nat × Pk)) (kb2 : List (D × V)) (pr2 : Nat × Pk → List (Nat × Pk)) (z6 : Option V), σ = [some (.ref a), some (.int (e0.1 : Int)), some (.ref c), some (.ref ln), some (.ref bd), some (.int (i : Int)), z6] ∧ Kept f l H H' ∧ WalkSt P w T H' a f l x fs t kl ∧ Tp H2 H' ∧
        (∃ xs, H' ln = some (.lst xs) ∧ NVs H' (es2.map entD) xs) ∧ Bh P w H' x fs t kl ln bd kb2 es2 pr2 i (hs.take j) ∧ (∃ more, es2 = es ++ more) ∧ (∀ j e, j < i → es[j]? = some e → Done fs t kl es2 pr2 e) ∧ ∀ h ∈ hs.take j, (valV kl (entD h)).isSome = true ∨ (h ∈ es2 ∧ cur ∈ pr2 h)) ?_ ?_ ?_ ?_
      · exact ⟨es, kb, pr, z6, rfl, K1.trans K2, W2, Tp.refl _, ⟨xs, K2.keep ln _ nlf nll hln, nxs.mono K2.tp⟩, (B.kept K2 nbf nbl mf1 ml1).sub_S (fun _ h => absurd h List.not_mem_nil), ⟨[], (List.append_nil _).symm⟩, done, fun h hh => absurd hh (by simp)⟩
      · rintro j σ H3 _ ⟨es2, kb2, pr2, z, rfl, _, _, tp, _⟩
        exact tp
      · rintro j v σ H3 hv ⟨es2, kb2, pr2, z, rfl, K3, W3, tp3, ⟨xs2, hln3, nxs3⟩, B3, ⟨more, em⟩, dn3, old3⟩
        have lj : j < hs.length := lv ▸ (List.getElem?_eq_some_iff.mp hv).1
        have hj : hs[j]? = some hs[j] := List.getElem?_eq_getElem lj
        generalize hs[j] = h at hj
        have kv2 := key_at (f := entD) (ekh ▸ ak) hj hv
        have kv := kv2.mono tp3
        have hmem := List.mem_of_getElem? hj
        have vh : Valid x fs t h := (J.next (B.valid cur cmem) ((me h).mp hmem)).1
        have tk : hs.take (j + 1) = hs.take j ++ [h] := by rw [List.take_add_one, hj]; rfl
        have hnS : h ∉ hs.take j := fun m => by
          obtain ⟨i2, l2, e2⟩ := List.mem_take_iff_getElem.mp m
          have e3 := (List.getElem?_eq_some_iff.mp hj).2
          exact List.pairwise_iff_getElem.mp hsnd i2 j (by omega) lj (by omega) (e2.trans e3.symm)
        obtain ⟨⟨dx3, pf3, b3, ea3, _⟩, ⟨kf3, mf3, _⟩, ml3, _⟩ := id W3
        refine ⟨_, rfl, _, rfl, a, _, dx3, _, _, rfl, ea3, T.cl_Walk, T.no_k_live, rfl, l, kl, entD h, rfl, .inl ml3, kv, _, rfl, iteB (fun out => ?_) fun isin => ?_⟩
        · have out : valV kl (entD h) = none := by
            cases q : valV kl (entD h) with
            | none => rfl
            | some _ => rw [q] at out; cases out
          refine ⟨fun σ' H' => ∃ es1 : List (Nat × Pk), σ' = [some (.ref a), some (.int (e0.1 : Int)), some (.ref c), some (.ref ln), some (.ref bd), some (.int (i : Int)), some v] ∧ Kept f l H H' ∧ WalkSt P w T H' a f l x fs t kl ∧ Tp H2 H' ∧ (∃ xs, H' ln = some (.lst xs) ∧ NVs H' (es1.map entD) xs) ∧
            Bh P w H' x fs t kl ln bd kb2 es2 pr2 i (hs.take j) ∧ ((h ∈ es2 ∧ es1 = es2) ∨ (h ∉ es2 ∧ es1 = es2 ++ [h])), ?_, ?_⟩
          · refine ⟨_, rfl, _, rfl, bd, kb2, entD h, rfl, .inl B3.dict, kv, _, rfl, iteB (fun no => ?_) fun yes => ?_⟩
            · have no : h ∉ es2 := fun m => by
                have := (val_keys B3.keys).mpr m
                rw [this] at no
                cases no
              have tpl : Tp H3 (upd H3 ln (.lst (xs2 ++ [v]))) := Tp.write (by rw [hln3]; exact True.intro)
              have l2 : es2.length ≤ 1000 := sE.small B3.nd fun e he => J.inE (B3.valid e he)
              have lx2 : xs2.length = es2.length := by rw [nxs3.length, List.length_map]
              refine ⟨_, rfl, .inl ⟨rfl, _, SqL.of hln3⟩, _, rfl, ln, xs2, v, rfl, rfl, hln3, by rw [sizeLine_eq]; omega, ?_⟩
              refine ⟨es2 ++ [h], rfl, K3.upd_new nln0, W3.at_ tpl (upd_ne nla.symm) (upd_ne nlf.symm) (upd_ne nll.symm), tp3.trans tpl, ⟨_, upd_same, ?_⟩, B3.line hln3, .inr ⟨no, rfl⟩⟩
              rw [List.map_append]
              exact (nxs3.append (.cons kv.1 .nil)).mono tpl
            · have yes : h ∈ es2 := (val_keys B3.keys).mp (by simpa using yes)
              exact ⟨es2, rfl, K3, W3, tp3, ⟨xs2, hln3, nxs3⟩, B3, .inl ⟨yes, rfl⟩⟩
          · rintro σ' H4 ⟨es1, rfl, K4, W4, tp4, ⟨xs4, hln4, nxs4⟩, B4, e1⟩
            have kv4 := kv2.mono tp4
            refine ⟨_, rfl, bd, rfl, ⟨_, .inl B4.dict⟩, _, rfl, Nat.zero_le _, fun p0 np0 => ?_⟩
            have s0 := same_new (o := .lst []) np0
            have B5 := B4.same s0
            have got : ∃ lp ys, (valV kb2 (entD h)).getD (.ref p0) = .ref lp ∧ (upd H4 p0 (.lst [])) lp = some (.lst ys) ∧ NVs (upd H4 p0 (.lst [])) ((pr2 h).map entD) ys := by
              rcases e1 with ⟨m, _⟩ | ⟨m, _⟩
              · obtain ⟨ls, ys, h1, _, h3, h4⟩ := B5.lists h m
                exact ⟨ls, ys, by rw [h1]; rfl, h3, h4⟩
              · have : valV kb2 (entD h) = none := by
                  cases q : valV kb2 (entD h) with
                  | none => rfl
                  | some _ => exact absurd ((val_keys B4.keys).mp (by rw [q]; rfl)) m
                rw [this, B4.none h m]
                exact ⟨p0, [], rfl, upd_same, .nil⟩
            obtain ⟨lp, ys, gv, gl, gn⟩ := got
            have hc1 : es1[i]? = some cur := by
              have h2 : es2[i]? = some cur := by rw [em, List.getElem?_append_left lt]; exact hc
              rcases e1 with ⟨_, rfl⟩ | ⟨_, rfl⟩
              · exact h2
              · rw [List.getElem?_append_left (List.getElem?_eq_some_iff.mp h2).1]; exact h2
            obtain ⟨vc4, hvc4, nvc4⟩ := nvs_at nxs4 hc1
            have lpr := B4.len h
            rw [if_neg hnS] at lpr
            have ly : ys.length = (pr2 h).length := by rw [gn.length, List.length_map]
            refine ⟨kb2, entD h, .inl B5.dict, kv4.mono (.same s0), lp, ys, gv, .inr (SqL.of gl), _, rfl, _, rfl, ln, _, _, _, rfl, rfl, SqL.of (s0 _ _ hln4), atI_nat hvc4, (by simp only [List.length_append, List.length_cons, List.length_nil]; rw [sizeLine_eq]; omega), fun q nq => ?_⟩
            have s1q := same_new (o := .lst (ys ++ [vc4])) nq
            have s0q := same_trans s0 s1q
            have B6 := B5.same s1q
            have l2 : es2.length ≤ 1000 := sE.small B4.nd fun e he => J.inE (B4.valid e he)
            refine ⟨_, rfl, _, rfl, bd, kb2, entD h, rfl, B6.dict, kv4.mono (.same s0q), by rw [keys_len B4.keys, sizeLine_eq]; omega, fun o mo => ?_⟩
            have tpb : Tp _ (upd (upd (upd H4 p0 (.lst [])) q (.lst (ys ++ [vc4]))) bd o) := Tp.write B6.dict.mut
            have cin : cur ∈ es2 := by rw [em]; exact List.mem_append_left _ cmem
            have qln : q ≠ ln := fun e => by rw [e, s0 _ _ hln4] at nq; cases nq
            have B7 := B6.put e1 vh out cin upd_same (by
              rw [List.map_append]
              exact ((gn.append (.cons (nvc4.mono (.same s0)) .nil))).mono (.same s1q)) qln hnS mo
            have sub1 : ∀ e ∈ es2, e ∈ es1 := fun e he => by
              rcases e1 with ⟨_, rfl⟩ | ⟨_, rfl⟩
              · exact he
              · exact List.mem_append_left _ he
            have hin1 : h ∈ es1 := by
              rcases e1 with ⟨m, rfl⟩ | ⟨_, rfl⟩
              · exact m
              · simp
            have grow : ∀ e p, p ∈ pr2 e → p ∈ (fun e => if e = h then pr2 h ++ [cur] else pr2 e) e := fun e p hp => by
              show p ∈ (if e = h then pr2 h ++ [cur] else pr2 e)
              by_cases eh : e = h
              · rw [if_pos eh]; exact List.mem_append_left _ (eh ▸ hp)
              · rw [if_neg eh]; exact hp
            refine ⟨es1, _, _, some v, rfl, ((K4.trans (.same s0q)).upd_new nbd0), (W4.same s0q).at_ tpb (upd_ne nba.symm) (upd_ne nbf.symm) (upd_ne nbl.symm), (tp4.trans (.same s0q)).trans tpb, ⟨xs4, ?_, nxs4.mono ((Tp.same s0q).trans tpb)⟩, B7.sub_S (fun e he => ?_), ?_, fun j2 e hj2 he g nx => ?_, fun g hg => ?_⟩
            · rw [upd_ne (md_ne_lst B6.dict (s0q _ _ hln4))]
              exact s0q _ _ hln4
            · rw [tk]
              rcases List.mem_cons.mp he with rfl | he
              · simp
              · exact List.mem_append_left _ he
            · rcases e1 with ⟨_, rfl⟩ | ⟨_, rfl⟩
              · exact ⟨more, em⟩
              · exact ⟨more ++ [h], by rw [em, List.append_assoc]⟩
            · rcases dn3 j2 e hj2 he g nx with h1 | ⟨h1, h2⟩
              · exact .inl h1
              · exact .inr ⟨sub1 g h1, grow g e h2⟩
            · rw [tk] at hg
              rcases List.mem_append.mp hg with hg | hg
              · rcases old3 g hg with h1 | ⟨h1, h2⟩
                · exact .inl h1
                · exact .inr ⟨sub1 g h1, grow g cur h2⟩
              · rw [List.mem_singleton.mp hg]
                refine .inr ⟨hin1, ?_⟩
                show cur ∈ (if h = h then pr2 h ++ [cur] else pr2 h)
                rw [if_pos rfl]
                simp
        · have isin : (valV kl (entD h)).isSome = true := by simpa using isin
          refine ⟨es2, kb2, pr2, some v, rfl, K3, W3, tp3, ⟨xs2, hln3, nxs3⟩, B3.sub_S (fun e he => by rw [tk]; exact List.mem_append_left _ he), ⟨more, em⟩, dn3, fun g hg => ?_⟩
          rw [tk] at hg
          rcases List.mem_append.mp hg with hg | hg
          · exact old3 g hg
          · rw [List.mem_singleton.mp hg]
            exact .inl isin
      · rintro σ H3 ⟨es2, kb2, pr2, z, rfl, K3, W3, tp3, ln3, B3, ⟨more, em⟩, dn3, old3⟩
        rw [lv, List.take_length] at old3
        have le2 : es.length ≤ es2.length := by rw [em, List.length_append]; omega
        refine ⟨_, rfl, _, _, rfl, rfl, _, (by omega : 1000 - (i + 1) < 1000 - i), i + 1, es2, kb2, pr2, z, rfl, rfl, K3, W3, ln3, B3.next, by omega, by rw [em]; exact List.mem_append_left _ in0, fun j e hj he => ?_⟩
        rcases Nat.lt_succ_iff_lt_or_eq.mp hj with hj | rfl
        · rw [em, List.getElem?_append_left (by omega)] at he
          exact dn3 j e hj he
        · rw [em, List.getElem?_append_left lt, hc] at he
          cases he
          exact fun h nx => old3 h ((me h).mpr nx)
    · have ei : i = es.length := by have := of_decide_eq_false ge; omega
      refine ⟨_, rfl, bd, kb, rfl, B.dict, fun o fd => ?_⟩
      have mu := B.dict.mut
      have tp : Tp H1 (upd H1 bd o) := Tp.write mu
      refine k bd kb es pr _ (K1.upd_new nbd0) (W1.at_ tp (upd_ne nba.symm) (upd_ne nbf.symm) (upd_ne nbl.symm)) ⟨fd, B.keys, B.nd, B.valid, B.out, fun e he => ?_, B.sub, fun e => ?_, fun e he h nx => ?_⟩ in0
      · obtain ⟨ls, ys, h1, h2, h3, h4⟩ := B.lists e he
        exact ⟨ls, ys, h1, by rw [upd_ne (md_ne_lst B.dict h3)]; exact h3, h4.mono tp⟩
      · have := B.len e
        simp at this
        omega
      · obtain ⟨j, lj, ej⟩ := List.getElem_of_mem he
        exact done j e (by omega) (by rw [List.getElem?_eq_getElem lj, ej]) h nx
end
end Mw
/-! What look_on is about: from which entries an end is come to. -/
namespace Mw
open PySem L2
section
variable {P : Program} {w : World}
structure LiveOk (x : Nat) (fs : List Str) (t : Src) (kl : List (D × V)) : Prop where
  keys : ∀ k ∈ kl.map (·.1), ∃ e, k = entD e ∧ Valid x fs t e
  vals : ∀ e v, valV kl (entD e) = some v → ∃ b, v = .bl b ∧ (b = false → Dead fs t e)
  shut : ∀ e, (valV kl (entD e)).isSome = true → ∀ h, Nexts fs t e h → (valV kl (entD h)).isSome = true
theorem LiveOk.nil {x : Nat} {fs : List Str} {t : Src} : LiveOk x fs t [] := ⟨fun _ h => absurd h List.not_mem_nil, (fun e v h => by cases h), (fun e h => by cases h)⟩
theorem valV_merge : ∀ (ls ks : List (D × V)) (j : D), (ls.map (·.1)).Nodup → valV (mergeD ks ls) j = (valV ls j).or (valV ks j)
  | [], ks, j, _ => by
    show valV ks j = _
    rw [valV_nil]
    rfl
  | (k, v) :: ls, ks, j, n => by
    rw [List.map_cons, List.nodup_cons] at n
    show valV (mergeD (putK ks k v) ls) j = _
    rw [valV_merge ls (putK ks k v) j n.2, valV_put]
    by_cases e : k = j
    · subst e
      have no : valV ls k = none := by
        cases q : valV ls k with
        | none => rfl
        | some u => exact absurd ((valV_mem ls k).mp (by rw [q]; rfl)) n.1
      rw [valV_pos rfl, if_pos rfl, no]
      rfl
    · rw [valV_neg (fun q => e q), if_neg (fun q => e q.symm)]
/-- an entry from which one sees at once that an end is come to -/
def Lively (fs : List Str) (t : Src) (kl : List (D × V)) (e : Nat × Pk) : Prop := (∃ q, Stops fs t e q) ∨ ∃ h, Nexts fs t e h ∧ valV kl (entD h) = some (.bl true)
/-- what the marks of the new entries are, lv still to be looked at -/
structure Marks (fs : List Str) (t : Src) (kl kl2 : List (D × V)) (es : List (Nat × Pk)) (pr : Nat × Pk → List (Nat × Pk)) (lv : List (Nat × Pk)) : Prop where
  keys : ∀ k, k ∈ kl2.map (·.1) ↔ k ∈ kl.map (·.1) ∨ k ∈ es.map entD
  bool : ∀ e ∈ es, ∃ b, valV kl2 (entD e) = some (.bl b)
  old : ∀ e, e ∉ es → valV kl2 (entD e) = valV kl (entD e)
  sub : ∀ e ∈ lv, e ∈ es
  live : ∀ e ∈ es, Lively fs t kl e → valV kl2 (entD e) = some (.bl true) ∨ e ∈ lv
  back : ∀ e ∈ es, valV kl2 (entD e) = some (.bl true) → ∀ p ∈ pr e, valV kl2 (entD p) = some (.bl true) ∨ p ∈ lv
theorem Marks.done {x : Nat} {fs : List Str} {t : Src} {kl kl2 : List (D × V)} {es : List (Nat × Pk)} {pr : Nat × Pk → List (Nat × Pk)} (m : Marks fs t kl kl2 es pr []) (ok : LiveOk x fs t kl) (valid : ∀ e ∈ es, Valid x fs t e)
    (shut : ∀ e ∈ es, ∀ h, Nexts fs t e h → (valV kl (entD h)).isSome = true ∨ (h ∈ es ∧ e ∈ pr h)) (sub : ∀ e, ∀ p ∈ pr e, p ∈ es) : LiveOk x fs t kl2 := by
  have goes : ∀ (ms : List Pk) (e : Nat × Pk) (q : Pk), e ∈ es → Goes fs t e ms q → valV kl2 (entD e) = some (.bl true) := by
    intro ms
    induction ms with
    | nil => exact fun e q he g => (m.live e he (.inl ⟨q, g⟩)).resolve_right List.not_mem_nil
    | cons p ms ih =>
      rintro e q he ⟨n, nx, g⟩
      rcases shut e he (n, p) nx with h | ⟨h1, h2⟩
      · obtain ⟨v, hv⟩ := Option.isSome_iff_exists.mp h
        obtain ⟨b, rfl, dead⟩ := ok.vals _ _ hv
        cases b with
        | true => exact (m.live e he (.inr ⟨_, nx, hv⟩)).resolve_right List.not_mem_nil
        | false => exact absurd g (dead rfl ms q)
      · exact (m.back _ h1 (ih _ q h1 g) e h2).resolve_right List.not_mem_nil
  have has : ∀ e, (valV kl2 (entD e)).isSome = true ↔ (valV kl (entD e)).isSome = true ∨ e ∈ es := fun e => by
    rw [valV_mem, valV_mem, m.keys]
    exact or_congr_right ⟨fun h => by
      obtain ⟨a, h, q⟩ := List.mem_map.mp h
      exact entD_inj q ▸ h, fun h => List.mem_map.mpr ⟨e, h, rfl⟩⟩
  refine ⟨fun k hk => ?_, fun e v hv => ?_, fun e he h nx => ?_⟩
  · rcases (m.keys k).mp hk with h | h
    · exact ok.keys k h
    · obtain ⟨e, he, rfl⟩ := List.mem_map.mp h
      exact ⟨e, rfl, valid e he⟩
  · by_cases he : e ∈ es
    · obtain ⟨b, hb⟩ := m.bool e he
      rw [hb] at hv
      cases hv
      refine ⟨b, rfl, fun eb ms q g => ?_⟩
      rw [goes ms e q he g] at hb
      rw [eb] at hb
      cases hb
    · rw [m.old e he] at hv
      exact ok.vals e v hv
  · rw [has]
    by_cases hs : e ∈ es
    · exact (shut e hs h nx).imp id And.left
    · rw [m.old e hs] at he
      exact .inl (ok.shut e he h nx)
/-- what is left to be done -/
def pot (es : List (Nat × Pk)) (pr : Nat × Pk → List (Nat × Pk)) (kl : List (D × V)) : Nat := (es.map fun e => if valV kl (entD e) = some (.bl true) then 0 else (pr e).length + 1).sum
theorem sum_at {α : Type} {f g : α → Nat} {a : α} : ∀ {l : List α}, l.Nodup → a ∈ l → (∀ b, b ≠ a → g b = f b) → g a = 0 → (l.map g).sum + f a = (l.map f).sum
  | b :: l, n, h, e, z => by
    rw [List.nodup_cons] at n
    rw [List.map_cons, List.map_cons, List.sum_cons, List.sum_cons]
    rcases List.mem_cons.mp h with rfl | h
    · have : l.map g = l.map f := List.map_congr_left fun c hc => e c fun q => n.1 (q ▸ hc)
      rw [this, z]
      omega
    · have ba : b ≠ a := fun q => n.1 (q ▸ h)
      have := sum_at n.2 h e z
      rw [e b ba]
      omega
theorem pot_mark {es : List (Nat × Pk)} {pr : Nat × Pk → List (Nat × Pk)} {kl : List (D × V)} {e : Nat × Pk} (n : es.Nodup) (h : e ∈ es) (no : valV kl (entD e) ≠ some (.bl true)) : pot es pr (putK kl (entD e) (.bl true)) + ((pr e).length + 1) = pot es pr kl := by
  have := sum_at (f := fun e => if valV kl (entD e) = some (.bl true) then 0 else (pr e).length + 1) (g := fun b => if valV (putK kl (entD e) (.bl true)) (entD b) = some (.bl true) then 0 else (pr b).length + 1) n h (fun b ne => by
    show (if valV (putK kl (entD e) (.bl true)) (entD b) = some (.bl true) then 0 else (pr b).length + 1) = _
    rw [valV_put, if_neg (fun q => ne (entD_inj q))]) (by
    show (if valV (putK kl (entD e) (.bl true)) (entD e) = some (.bl true) then 0 else (pr e).length + 1) = 0
    rw [valV_put, if_pos rfl, if_pos rfl])
  show pot es pr (putK kl (entD e) (.bl true)) + _ = _
  rw [show (pr e).length + 1 = (if valV kl (entD e) = some (.bl true) then 0 else (pr e).length + 1) by rw [if_neg no]]
  exact this
theorem pot_le {pr : Nat × Pk → List (Nat × Pk)} {kl : List (D × V)} (h : ∀ e, (pr e).length ≤ 1000) : ∀ es : List (Nat × Pk), pot es pr kl ≤ 1001 * es.length
  | [] => Nat.le_refl _
  | e :: es => by
    have := pot_le (kl := kl) h es
    have h1 := h e
    unfold pot at this ⊢
    rw [List.map_cons, List.sum_cons, List.length_cons]
    split <;> omega
/-- one entry that was not marked is -/
theorem Marks.mark {fs : List Str} {t : Src} {kl kl2 : List (D × V)} {es : List (Nat × Pk)} {pr : Nat × Pk → List (Nat × Pk)} {lv : List (Nat × Pk)} {e : Nat × Pk} (m : Marks fs t kl kl2 es pr (lv ++ [e])) (sub : ∀ p ∈ pr e, p ∈ es) : Marks fs t kl (putK kl2 (entD e) (.bl true)) es pr (lv ++ pr e) := by
  have he : e ∈ es := m.sub e (by simp)
  have val : ∀ g, valV (putK kl2 (entD e) (.bl true)) (entD g) = if g = e then some (.bl true) else valV kl2 (entD g) := fun g => by
    rw [valV_put]
    by_cases q : g = e
    · rw [if_pos q, if_pos (by rw [q])]
    · rw [if_neg q, if_neg (fun r => q (entD_inj r))]
  have step : ∀ g, (valV kl2 (entD g) = some (.bl true) ∨ g ∈ lv ++ [e]) → valV (putK kl2 (entD e) (.bl true)) (entD g) = some (.bl true) ∨ g ∈ lv ++ pr e := fun g h => by
    rw [val]
    by_cases q : g = e
    · rw [if_pos q]; exact .inl rfl
    · rw [if_neg q]
      rcases h with h | h
      · exact .inl h
      · rcases List.mem_append.mp h with h | h
        · exact .inr (List.mem_append_left _ h)
        · exact absurd (List.mem_singleton.mp h) q
  refine ⟨fun k => ?_, fun g hg => ?_, fun g hg => ?_, fun g hg => ?_, fun g hg lg => step g (m.live g hg lg), fun g hg tr p hp => ?_⟩
  · rw [mem_putK, m.keys]
    constructor
    · rintro (h | rfl)
      · exact h
      · exact .inr (List.mem_map.mpr ⟨e, he, rfl⟩)
    · exact .inl
  · rw [val]
    by_cases q : g = e
    · rw [if_pos q]; exact ⟨true, rfl⟩
    · rw [if_neg q]; exact m.bool g hg
  · rw [val, if_neg (show ¬ g = e from fun q => hg (q ▸ he))]
    exact m.old g hg
  · rcases List.mem_append.mp hg with h | h
    · exact m.sub g (List.mem_append_left _ h)
    · exact sub g h
  · by_cases q : g = e
    · exact .inr (List.mem_append_right _ (q ▸ hp))
    · rw [val, if_neg q] at tr
      exact step p (m.back g hg tr p hp)
/-- one that was marked is taken off -/
theorem Marks.drop {fs : List Str} {t : Src} {kl kl2 : List (D × V)} {es : List (Nat × Pk)} {pr : Nat × Pk → List (Nat × Pk)} {lv : List (Nat × Pk)} {e : Nat × Pk} (m : Marks fs t kl kl2 es pr (lv ++ [e])) (h : valV kl2 (entD e) = some (.bl true)) : Marks fs t kl kl2 es pr lv := by
  have step : ∀ g, (valV kl2 (entD g) = some (.bl true) ∨ g ∈ lv ++ [e]) → valV kl2 (entD g) = some (.bl true) ∨ g ∈ lv := fun g q => by
    rcases q with q | q
    · exact .inl q
    · rcases List.mem_append.mp q with q | q
      · exact .inr q
      · rw [List.mem_singleton.mp q]; exact .inl h
  exact ⟨m.keys, m.bool, m.old, fun g hg => m.sub g (List.mem_append_left _ hg), fun g hg lg => step g (m.live g hg lg), fun g hg tr p hp => step p (m.back g hg tr p hp)⟩
end
end Mw
/-! look_on. -/
namespace Mw
open PySem L2
theorem dc_vals {P : Program} {w : World} {J : It} {Kp : Hp → Prop} {vs : List V} {g : TG} {tk tv : TE} {own : List Nat} {σ : L2.St} {H1 : Hp} {α : Type} {Dd : Addr} {o : HO} {Qd : Hp → Prop} {l : List α} (st : Steady J Kp vs) (hk : ∀ H, Same H1 H → Kp H) (f : α → D) (z : V) (new : H1 Dd = none) (m0 : MD P w (upd H1 Dd o) Dd [])
    (len : vs.length = l.length) (small : l.length ≤ sizeLine)
    (el : ∀ (i : Nat) (a : α) (x : V) (H : Hp), l[i]? = some a → vs[i]? = some x → Same H1 H → ∀ (Y : V → V → Hp → Prop), (∀ y H', Same H H' → KeyV H' (f a) y → Y y z H') →
      g x (wipe σ own) H fun σ2 H2 => wipe σ2 own = wipe σ own ∧ tk σ2 H2 fun y H4 => tv σ2 H4 fun z H5 => Y y z H5)
    (hd : ∀ H kvs, Same H1 H → MD P w H Dd kvs → kvs.length ≤ l.length → (∀ p ∈ kvs, p.2 = z) → (∀ j, j ∈ kvs.map (·.1) ↔ ∃ a ∈ l, f a = j) → Qd H) :
    ∃ W : Nat → Nat → Hp → Prop, (∃ m, W 0 m (upd H1 Dd o)) ∧ ∀ i m H, W i m H →
      (J.stop i H ∧ Qd H) ∨ (J.go i H ∧ ∃ Nx : Hp → Prop, (∀ H', Nx H' → ∃ m', m' < m ∧ W (i + 1) m' H') ∧ ∀ x H', J.yld i H x H' → g x (wipe σ own) H' fun σ2 H2 => wipe σ2 own = wipe σ own ∧ tYes σ2 H2 fun b H3 =>
        if b = true then tk σ2 H3 fun y H4 => tv σ2 H4 fun z H5 => ∃ kvs k, MD P w H5 Dd kvs ∧ KeyV H5 k y ∧ kvs.length < sizeLine ∧ ∀ o, MD P w (upd H5 Dd o) Dd (putK kvs k z) → Nx (upd H5 Dd o) else Nx H3) := by
  refine dc_pure st hk (pick l fun _ => true) (fun i => match l[i]? with | some a => f a | none => .num 0) z new m0 (by rw [len]; exact small) ?_ fun H s m => hd H _ s m (by have := made_len (pick l fun _ => true) (fun i => match l[i]? with | some a => f a | none => .num 0) z vs.length; omega) (made_val _ _ _ _) fun j => ?_
  · intro i x H hx s Y Nn yes no
    have lt : i < l.length := len ▸ (List.getElem?_eq_some_iff.mp hx).1
    have e := List.getElem?_eq_getElem lt
    simp only [tYes, if_true]
    exact el i l[i] x H e hx s Y fun y H' s' r => yes (by rw [pick, e]) y H' s' (by rw [e]; exact r)
  · rw [mem_made, len]
    constructor
    · rintro ⟨n, lt, b, e⟩
      rw [List.getElem?_eq_getElem lt] at e
      exact ⟨_, List.getElem_mem lt, e⟩
    · rintro ⟨a, m, e⟩
      obtain ⟨n, lt, q⟩ := List.getElem_of_mem m
      have en := List.getElem?_eq_getElem lt
      refine ⟨n, lt, by rw [pick, en], ?_⟩
      rw [en, q]
      exact e
section
variable {P : Program} {w : World} {K : PySem.W.Frag} {mg : Str → Option Value} {base : Heap}
def Lst (H : Hp) (lvA : Addr) (kb : List (D × V)) (es : List (Nat × Pk)) (pr : Nat × Pk → List (Nat × Pk)) : Prop := ∀ e ∈ es, ∃ ls ys, valV kb (entD e) = some (.ref ls) ∧ ls ≠ lvA ∧ H ls = some (.lst ys) ∧ NVs H ((pr e).map entD) ys
theorem Lst.same {H H' : Hp} {lvA : Addr} {kb : List (D × V)} {es : List (Nat × Pk)} {pr : Nat × Pk → List (Nat × Pk)} (h : Lst H lvA kb es pr) (s : Same H H') : Lst H' lvA kb es pr := fun e he => by
  obtain ⟨ls, ys, h1, h2, h3, h4⟩ := h e he
  exact ⟨ls, ys, h1, h2, s _ _ h3, h4.mono (.same s)⟩
theorem Lst.kept {H H' : Hp} {lvA f l : Addr} {kb kf kl : List (D × V)} {es : List (Nat × Pk)} {pr : Nat × Pk → List (Nat × Pk)} (h : Lst H lvA kb es pr) (k : Kept f l H H') (mf : MD P w H f kf) (ml : MD P w H l kl) : Lst H' lvA kb es pr := fun e he => by
  obtain ⟨ls, ys, h1, h2, h3, h4⟩ := h e he
  exact ⟨ls, ys, h1, h2, k.keep ls _ (md_ne_lst mf h3) (md_ne_lst ml h3) h3, h4.mono k.tp⟩
theorem Lst.upd {H : Hp} {lvA : Addr} {kb : List (D × V)} {es : List (Nat × Pk)} {pr : Nat × Pk → List (Nat × Pk)} {xs zs : List V} (h : Lst H lvA kb es pr) (e0 : H lvA = some (.lst xs)) : Lst (upd H lvA (.lst zs)) lvA kb es pr := fun e he => by
  obtain ⟨ls, ys, h1, h2, h3, h4⟩ := h e he
  exact ⟨ls, ys, h1, h2, by rw [upd_ne h2]; exact h3, h4.mono (Tp.write (by rw [e0]; exact True.intro))⟩
/-- while the lively ones are gathered, and while marks are set -/
structure Ph (P : Program) (w : World) (T : TX K mg) (H0 : Hp) (a f l : Addr) (x : Nat) (fs : List Str) (t : Src) (kl : List (D × V)) (bd : Addr) (kb : List (D × V)) (es : List (Nat × Pk)) (pr : Nat × Pk → List (Nat × Pk)) (lvA : Addr) (lv : List (Nat × Pk)) (H : Hp) : Prop where
  kept : Kept f l H0 H
  walk : WalkSt P w T H a f l x fs t kl
  list : ∃ xs, H lvA = some (.lst xs) ∧ NVs H (lv.map entD) xs
  dict : FD P w H bd kb
  lst : Lst H lvA kb es pr
theorem Ph.same {T : TX K mg} {H0 H H' : Hp} {a f l bd lvA : Addr} {x : Nat} {fs : List Str} {t : Src} {kl kb : List (D × V)} {es lv : List (Nat × Pk)} {pr : Nat × Pk → List (Nat × Pk)} (h : Ph P w T H0 a f l x fs t kl bd kb es pr lvA lv H) (s : Same H H') : Ph P w T H0 a f l x fs t kl bd kb es pr lvA lv H' := by
  obtain ⟨xs, e, n⟩ := h.list
  exact ⟨h.kept.trans (.same s), h.walk.same s, ⟨xs, s _ _ e, n.mono (.same s)⟩, h.dict.mono (.same s), h.lst.same s⟩
theorem Ph.push {T : TX K mg} {H0 H : Hp} {a f l bd lvA : Addr} {x : Nat} {fs : List Str} {t : Src} {kl kb : List (D × V)} {es lv lv2 : List (Nat × Pk)} {pr : Nat × Pk → List (Nat × Pk)} {zs : List V} (h : Ph P w T H0 a f l x fs t kl bd kb es pr lvA lv H) (new : H0 lvA = none) (nla : lvA ≠ a) (n : NVs H (lv2.map entD) zs) : Ph P w T H0 a f l x fs t kl bd kb es pr lvA lv2 (upd H lvA (.lst zs)) := by
  obtain ⟨xs, e, _⟩ := h.list
  have tp : Tp H (upd H lvA (.lst zs)) := Tp.write (by rw [e]; exact True.intro)
  obtain ⟨_, ⟨kf, mf, _⟩, ml, _⟩ := id h.walk
  exact ⟨h.kept.upd_new new, h.walk.at_ tp (upd_ne nla.symm) (upd_ne (md_ne_lst mf e).symm) (upd_ne (md_ne_lst ml e).symm), ⟨zs, upd_same, n.mono tp⟩, h.dict.mono tp, h.lst.upd e⟩
mutual
theorem nv_dp {H : Hp} : ∀ {k : D} {v : V}, NV H k v → Dp K H v (enc k)
  | _, _, .num i => .int i
  | _, _, .text x => .str x
  | _, _, .tup h r => .tup (SqT.of h) (nvs_dp r)
theorem nvs_dp {H : Hp} : ∀ {ks : List D} {vs : List V}, NVs H ks vs → DpAll K H vs (encs ks)
  | _, _, .nil => .nil
  | _, _, .cons a b => .cons (nv_dp a) (nvs_dp b)
end
mutual
theorem canLay_num : ∀ k : D, numk k = true → PyData.canLay0 (enc k) = true
  | .num i, _ => rfl
  | .tup ks, h => by
    rw [enc, PyData.canLay0]
    exact canLays_num ks (by rw [numk] at h; exact h)
  | .none, h => by simp [numk] at h
  | .text _, h => by simp [numk] at h
theorem canLays_num : ∀ ks : List D, numks ks = true → PyData.canLayAll0 (encs ks) = true
  | [], _ => rfl
  | k :: ks, h => by
    rw [numks, Bool.and_eq_true] at h
    rw [encs, PyData.canLayAll0, canLay_num k h.1, canLays_num ks h.2]
    rfl
end
theorem numks_all : ∀ {ks : List D}, (∀ k ∈ ks, numk k = true) → numks ks = true
  | [], _ => rfl
  | k :: ks, h => by
    rw [numks, h k List.mem_cons_self, numks_all fun j hj => h j (List.mem_cons_of_mem _ hj)]
    rfl
theorem num_pk (p : Pk) : numk (pkD p) = true := by
  rw [pkD, numk]
  refine numks_all fun k hk => ?_
  obtain ⟨v, _, rfl⟩ := List.mem_map.mp hk
  rfl
theorem num_ent (e : Nat × Pk) : numk (entD e) = true := by
  simp only [entD, numk, numks, num_pk, Bool.and_true]
theorem depths_le {n : Nat} : ∀ {ks : List D}, (∀ k ∈ ks, k.depth ≤ n) → NestedKey.depthAll ks ≤ n
  | [], _ => Nat.zero_le _
  | k :: ks, h => by
    rw [NestedKey.depthAll]
    exact Nat.max_le.mpr ⟨h k List.mem_cons_self, depths_le fun j hj => h j (List.mem_cons_of_mem _ hj)⟩
/-- a list of such data can be compared -/
theorem shaped_list {ks : List D} (h : ∀ k ∈ ks, numk k = true ∧ k.depth ≤ 8) : SeqAt.shaped (.list (encs ks)) = true := by
  have d : PyData.depthAll (encs ks) ≤ 8 := by
    rw [encs_depth]
    exact depths_le fun k hk => (h k hk).2
  rw [SeqAt.shaped, PyData.canLay0, canLays_num ks (numks_all fun k hk => (h k hk).1), PyData.depth]
  simp
  omega
theorem valV_pair {kvs : List (D × V)} {k : D} {v : V} (h : valV kvs k = some v) : (k, v) ∈ kvs := by
  unfold valV at h
  obtain ⟨p, hp, rfl⟩ := Option.map_eq_some_iff.mp h
  have e := List.find?_some hp
  rw [← of_decide_eq_true e]
  exact List.mem_of_find?_eq_some hp
theorem nvs_snoc {H : Hp} : ∀ {ks : List D} {k : D} {ls : List D} {vs : List V}, NVs H ls vs → ls = ks ++ [k] → ∃ us v, vs = us ++ [v] ∧ NVs H ks us ∧ NV H k v
  | [], k, _, _, n, rfl => by
    cases n with
    | cons a r => cases r; exact ⟨[], _, rfl, .nil, a⟩
  | j :: ks, k, _, _, n, rfl => by
    cases n with
    | cons a r =>
      obtain ⟨us, v, rfl, n1, n2⟩ := nvs_snoc (ks := ks) r rfl
      exact ⟨_ :: us, v, rfl, .cons a n1, n2⟩
/-- look_on -/
def sp_Walk_look_on (P : Program) (w : World) (T : TX K mg) : Sp := fun vs H Q _ => ∃ a c f l x fs N t kl, ∃ e : Nat × Pk, vs = [.ref a, .int (e.1 : Int), .ref c] ∧ WalkSt P w T H a f l x fs t kl ∧ Job x fs N t ∧ LiveOk x fs t kl ∧ Valid x fs t e ∧ NV H (pkD e.2) (.ref c) ∧ valV kl (entD e) = none ∧
  ∀ kl2 H', Kept f l H H' → WalkSt P w T H' a f l x fs t kl2 → LiveOk x fs t kl2 → (valV kl2 (entD e)).isSome = true → Q .non H'
theorem LiveOk.few (w : World) {x : Nat} {fs : List Str} {N : List Nat} {t : Src} {kl : List (D × V)} (j : Job x fs N t) (h : ∀ k ∈ kl.map (·.1), ∃ e, k = entD e ∧ Valid x fs t e) (n : (kl.map (·.1)).Nodup) : kl.length ≤ 1000 := by
  obtain ⟨es, e⟩ : ∃ es : List (Nat × Pk), kl.map (·.1) = es.map entD := map_of fun k hk => by
    obtain ⟨e, q, _⟩ := h k hk
    exact ⟨e, q.symm⟩
  rw [keys_len e]
  refine (sortsE (w := w) j.net.hx j.net.hn).small ?_ fun a ha => ?_
  · rw [e] at n
    exact (List.pairwise_map.mp n).imp fun q r => q (by rw [r])
  · obtain ⟨e', q, v⟩ := h (entD a) (by rw [e]; exact List.mem_map.mpr ⟨a, ha, rfl⟩)
    rw [entD_inj q]
    exact j.inE v
set_option maxHeartbeats 1000000 in
theorem ok_Walk_look_on (T : TX K mg) : FnOk P w K mg base CX0 27 T.a_Walk_look_on T.fd_Walk_look_on ["self", "place", "packet"] (sp_Walk_look_on P w T) := by
  refine T.F_Walk_look_on.ok sc_Walk_look_on (fun vs H Q E h => ?_) (fun cdv A outer s H vs Q E hr h => ?_)
  · obtain ⟨a, c, f, l, x, fs, N, t, kl, e, rfl, _⟩ := h
    rfl
  · obtain ⟨a, c, f, l, x, fs, N, t, kl, e0, rfl, W, J, L, V0, np, no0, k⟩ := h
    refine ⟨_, (pss_cons (ps_par (i := 3) (j := 4) (by rfl) sc_Walk_look_on.nd rfl rfl (by decide) rfl rfl (pa_cons (pe_meth (pv 0) T.cl_Walk T.me_Walk_around (ok_Walk_around T) (hr.mono (by omega)) T.b_Walk_around .nil pass0 (pa_cons (pv 1) (pa_cons (pv 2) pa_nil))) (pa_cons (pe_lst pa_nil) pa_nil)) (by rfl))
      (pss_cons (ps_for PassesOwn.never rfl (pi_n (pv 3)) (pg_name (i := 5) sc_Walk_look_on.nd rfl (Or.inl rfl)) (pss_cons (ps_asg (pe_meth (pv 0) T.cl_Walk T.me_Walk_beginnings (ok_Walk_beginnings T) (hr.mono (by omega)) T.b_Walk_beginnings .nil pass0 (pa_cons (pe_ix ix_tup (pv 5) pe_int (fun _ _ => rfl)) (pa_cons (pe_ix ix_tup (pv 5) pe_int (fun _ _ => rfl)) pa_nil))) (pg_tup rfl (pgs_cons (pg_name (i := 6) sc_Walk_look_on.nd rfl (Or.inl rfl)) (pgs_cons (pg_name (i := 7) sc_Walk_look_on.nd rfl (Or.inl rfl)) pgs_nil))))
        (pss_one (ps_if (PW.pt (pw_or (pt_cmp (pc_nne (hu_of1 hr) (pv 7) pe_nnewF)) (pw_or1 (pt_val (pe_callB (cr_any rfl) (by rfl) T.z_any (by decide +kernel) (pa_cons (pe_lc (own := [("hit", 8)]) (g := (gName 8)) (tt := tYes) (te := (tNGet2 P w (tFld K (tVar 0) "k_live") (tVar 8) (tC (.bl false)))) rfl sc_Walk_look_on.nd (pi_n (pv 6)) (blkOk_by (own := [("hit", 8)]) (N := ["self", "place", "packet", "behind", "live", "entry", "hits", "outs", "hit"]) (sc := defScope s_Walk_look_on) (by decide +kernel)) (fun _ _ _ _ _ => (pg_name (i := 8) sc_Walk_look_on.nd rfl (Or.inl rfl))) (fun _ _ _ _ _ => pts_nil) (fun _ _ _ _ _ => (pe_nget2 (hu_of2 hr) (pe_fld (pv 0) rfl) (pv 8) pe_bl ⟨by rfl, by rfl, by rfl, by rfl⟩))) pa_nil)))))) (pss_one (ps_expr (pe_bm PySem.F.plainAttrs_list PySem.F.slot_list_append PySem.F.type_list_append mt_append (pv 4) (pa_cons (pv 5) pa_nil)))) pss_nil))))
      (pss_cons (ps_expr (pe_nupd (hu_of4 hr) (pe_fld (pv 0) rfl) (pe_nfrz (pe_dcn (own := [("entry", 5)]) (g := (gName 5)) (tt := tYes) (tk := (tVar 5)) (tv := (tC (.bl false))) (hu_of2 hr) rfl sc_Walk_look_on.nd (pi_n (pv 3)) (blkOk_by (own := [("entry", 5)]) (N := ["self", "place", "packet", "behind", "live", "entry", "hits", "outs", "hit"]) (sc := defScope s_Walk_look_on) (by decide +kernel)) ⟨fun _ _ _ _ _ => (pg_name (i := 5) sc_Walk_look_on.nd rfl (Or.inl rfl)), fun _ _ _ _ _ => pts_nil, fun _ _ _ _ _ => (pv 5), fun _ _ _ _ _ => pe_bl⟩)) ⟨by rfl, by rfl, by rfl, by rfl⟩))
      (pss_one (ps_while PassesOwn.never (pt_cmpR (op_neD hr.units) (pv 4) (pe_lst pa_nil) (nomark _)) (pss_cons (ps_set (i := 5) sc_Walk_look_on.nd rfl (Or.inl rfl) (pe_bm0 PySem.F.plainAttrs_list PySem.F.slot_list_pop PySem.F.type_list_pop mt_pop (pv 4)))
        (pss_one (ps_if (pt_not (pt_val (pe_nget (hu_of2 hr) (pe_fld (pv 0) rfl) (pv 5) (fun _ _ => rfl)))) (pss_cons (ps_nput (hu_of2 hr) (pe_fld (pv 0) rfl) (pv 5) pe_bl rfl)
          (pss_one (ps_expr (pe_bm PySem.F.plainAttrs_list PySem.F.slot_list_extend PySem.F.type_list_extend mt_extend (pv 4) (pa_cons (pe_nget (hu_of2 hr) (pv 3) (pv 5) (fun _ _ => rfl)) pa_nil))))) pss_nil)))))))), ?_⟩
    have sE := sortsE (w := w) J.net.hx J.net.hn
    obtain ⟨⟨dx, pf, b0, ea, pt, nt⟩, _, _, nfl⟩ := id W
    refine ⟨_, rfl, a, dx, _, rfl, ea, rfl, _, rfl, _, rfl, a, c, f, l, x, fs, N, t, kl, e0, rfl, W, J, V0, np, no0, fun bd kb es pr H1 K1 W1 A1 in0 => ⟨Nat.zero_le _, fun lvA nlv => ⟨_, _, rfl, ?_⟩⟩⟩
    have s2 := same_new (o := .lst []) nlv
    have ph0 : Ph P w T H1 a f l x fs t kl bd kb es pr lvA [] (upd H1 lvA (.lst [])) := by
      refine ⟨.same s2, W1.same s2, ⟨[], upd_same, .nil⟩, A1.dict.mono (.same s2), fun e he => ?_⟩
      obtain ⟨ls, ys, h1, h3, h4⟩ := A1.lists e he
      exact ⟨ls, ys, h1, ne_of_none h3 nlv, s2 _ _ h3, h4.mono (.same s2)⟩
    obtain ⟨⟨dx1, pf1, b1, ea1, _⟩, _, _, _⟩ := id W1
    have nla : lvA ≠ a := fun q => by rw [q, ea1] at nlv; cases nlv
    have esl : es.length ≤ 1000 := sE.small A1.nd fun e he => J.inE (A1.valid e he)
    refine ⟨_, rfl, bd, kb, rfl, ph0.dict, fun Jw vs st ak => ?_⟩
    have lv0 : vs.length = es.length := by rw [ak.1.length, A1.keys, List.length_map]
    refine for_st st (fun j σ H' => ∃ lv z5 z6 z7, σ = [some (.ref a), some (.int (e0.1 : Int)), some (.ref c), some (.ref bd), some (.ref lvA), z5, z6, z7, none] ∧ Tp (upd H1 lvA (.lst [])) H' ∧ Ph P w T H1 a f l x fs t kl bd kb es pr lvA lv H' ∧ (∀ e ∈ lv, e ∈ es) ∧ lv.length ≤ j ∧ ∀ e ∈ es.take j, Lively fs t kl e → e ∈ lv) ?_ ?_ ?_ ?_
    · exact ⟨[], none, none, none, rfl, Tp.refl _, ph0, fun _ h => absurd h List.not_mem_nil, Nat.le_refl _, fun e h => absurd h (by simp)⟩
    · rintro j σ H2 _ ⟨lv, z5, z6, z7, rfl, tp, _⟩
      exact tp
    · rintro j v σ H2 hv ⟨lv, z5, z6, z7, rfl, tp2, ph2, sub2, len2, liv2⟩
      have lj : j < es.length := lv0 ▸ (List.getElem?_eq_some_iff.mp hv).1
      have hj : es[j]? = some es[j] := List.getElem?_eq_getElem lj
      generalize es[j] = e at hj
      have emem := List.mem_of_getElem? hj
      have kv := (key_at (f := entD) (A1.keys ▸ ak) hj hv).mono tp2
      obtain ⟨y, pc, rfl, aty, npc⟩ := ent_at kv.1
      have tk : es.take (j + 1) = es.take j ++ [e] := by rw [List.take_add_one, hj]; rfl
      obtain ⟨⟨dx2, pf2, b2, ea2, _⟩, ⟨kf2, mf2, _⟩, ml2, _⟩ := id ph2.walk
      refine ⟨_, rfl, a, dx2, _, rfl, ea2, rfl, _, rfl, y, _, _, _, rfl, rfl, SqT.of aty, at0, _, rfl, y, _, _, _, rfl, rfl, SqT.of aty, atI_nat (j := 1) rfl, a, pc, f, l, x, fs, N, t, kl, e, rfl, ph2.walk, J, A1.valid e emem, npc, fun v H3 K3 W3 bg => ?_⟩
      obtain ⟨r, r1, r2, hs, qs, rfl, atr, fe, fq, me, mq⟩ := bg
      refine ⟨r, _, rfl, SqT.of atr, rfl, _, _, rfl, _, _, rfl, rfl, ?_⟩
      obtain ⟨xs2, hl2, nx2⟩ := ph2.list
      have hl3 := K3.keep lvA _ (md_ne_lst mf2 hl2) (md_ne_lst ml2 hl2) hl2
      have ph3 : Ph P w T H1 a f l x fs t kl bd kb es pr lvA lv H3 := ⟨ph2.kept.trans K3, W3, ⟨xs2, hl3, nx2.mono K3.tp⟩, ph2.dict.mono K3.tp, ph2.lst.kept K3 mf2 ml2⟩
      have lx2 : xs2.length = lv.length := by rw [nx2.length, List.length_map]
      have small : xs2.length < sizeLine := by rw [sizeLine_eq]; omega
      have grown : ∀ H5, Same H3 H5 → ∃ lv' z5 z6 z7, ([some (.ref a), some (.int (e0.1 : Int)), some (.ref c), some (.ref bd), some (.ref lvA), some (.ref y), some (.ref r1), some (.ref r2), none] : L2.St) = [some (.ref a), some (.int (e0.1 : Int)), some (.ref c), some (.ref bd), some (.ref lvA), z5, z6, z7, none] ∧ Tp (upd H1 lvA (.lst [])) (upd H5 lvA (.lst (xs2 ++ [.ref y]))) ∧
          Ph P w T H1 a f l x fs t kl bd kb es pr lvA lv' (upd H5 lvA (.lst (xs2 ++ [.ref y]))) ∧ (∀ e ∈ lv', e ∈ es) ∧ lv'.length ≤ j + 1 ∧ ∀ e ∈ es.take (j + 1), Lively fs t kl e → e ∈ lv' := fun H5 s5 => by
        have ph5 := ph3.same s5
        have n5 : NVs H5 ((lv ++ [e]).map entD) (xs2 ++ [.ref y]) := by
          rw [List.map_append]
          exact (nx2.mono (K3.tp.trans (.same s5))).append (.cons (kv.1.mono (K3.tp.trans (.same s5))) .nil)
        have ph6 := ph5.push (lv2 := lv ++ [e]) nlv nla n5
        refine ⟨lv ++ [e], _, _, _, rfl, (tp2.trans (K3.tp.trans (.same s5))).trans (Tp.write (by rw [s5 _ _ hl3]; exact True.intro)), ph6, fun g hg => ?_, by rw [List.length_append, List.length_singleton]; omega, fun g hg lg => ?_⟩
        · rcases List.mem_append.mp hg with h | h
          · exact sub2 g h
          · rw [List.mem_singleton.mp h]; exact emem
        · rw [tk] at hg
          rcases List.mem_append.mp hg with h | h
          · exact List.mem_append_left _ (liv2 g h lg)
          · exact List.mem_append_right _ h
      obtain ⟨kq, fdq, ekq⟩ := id fq
      obtain ⟨kvh, fdh, ekh⟩ := id fe
      refine ⟨_, rfl, fun pe oe npe fe0 => ⟨r2, pe, kq, rfl, rfl, .inr (fdq.mono (Tp.new npe)), .inr fe0, !kq.isEmpty, rfl, iteB (fun ne => iteT ?_) fun em => ?_⟩⟩
      · have s4 := same_new (o := oe) npe
        exact ⟨_, rfl, .inl ⟨rfl, _, SqL.of (s4 _ _ hl3)⟩, _, rfl, lvA, xs2, _, rfl, rfl, s4 _ _ hl3, small, grown _ s4⟩
      · have s4 := same_new (o := oe) npe
        have noq : ∀ q, ¬ Stops fs t e q := fun q hq => by
          have m := (mq q).mpr hq
          have : kq = [] := by
            cases kq with
            | nil => rfl
            | cons _ _ => cases em
          rw [this] at ekq
          rw [List.map_eq_nil_iff.mp ekq.symm] at m
          exact absurd m List.not_mem_nil
        obtain ⟨⟨dx3, pf3, b3, ea3, _⟩, _, ml3, _⟩ := id (W3.same s4)
        refine ⟨_, rfl, r1, kvh, rfl, fdh.mono (.same s4), fun J2 vs2 st2 ak2 D nD => ?_⟩
        refine lc_each (l := hs) st2 (fun H6 s6 => Tp.same s6) (fun h y _ => y = V.bl (decide (valV kl (entD h) = some (.bl true)))) (fun {_ _ _ _} _ q => q) nD (by rw [ak2.1.length, ekh, List.length_map]) (by rw [sizeLine_eq]; have := sE.small fe.nodup (fun h hh => J.inE (J.next (A1.valid e emem) ((me h).mp hh)).1); omega) ?_ ?_
        · intro i h v2 H6 hh hv2 s6 Y yes
          have kv6 := (key_at (f := entD) (ekh ▸ ak2) hh hv2).mono (.same s6)
          refine ⟨rfl, _, rfl, a, _, dx3, _, _, rfl, s6 _ _ ea3, T.cl_Walk, T.no_k_live, rfl, l, rfl, ⟨_, .inl (ml3.same s6)⟩, _, rfl, kl, entD h, .inl (ml3.same s6), kv6, yes _ _ (same_refl _) ?_⟩
          cases q : valV kl (entD h) with
          | none => rfl
          | some u =>
            obtain ⟨bb, rfl, _⟩ := L.vals h u q
            cases bb <;> rfl
        · intro H6 ys s6 at6 q
          obtain rfl := bools_of q
          have s46 := same_trans s4 s6
          refine ⟨D, _, rfl, SqL.of at6, _, rfl, iteB (fun ay => ?_) fun an => ?_⟩
          · exact ⟨_, rfl, .inl ⟨rfl, _, SqL.of (s46 _ _ hl3)⟩, _, rfl, lvA, xs2, _, rfl, rfl, s46 _ _ hl3, small, grown _ s46⟩
          · refine ⟨lv, _, _, _, rfl, tp2.trans (K3.tp.trans (.same s46)), ph3.same s46, sub2, by omega, fun g hg lg => ?_⟩
            rw [tk] at hg
            rcases List.mem_append.mp hg with h | h
            · exact liv2 g h lg
            · rw [List.mem_singleton.mp h] at lg ⊢
              exfalso
              rcases lg with ⟨q, hq⟩ | ⟨h2, nx, tr⟩
              · exact noq q hq
              · have := List.any_eq_false.mp an (decide (valV kl (entD h2) = some (.bl true))) (List.mem_map.mpr ⟨h2, (me h2).mpr nx, rfl⟩)
                exact this (decide_eq_true tr)
    · rintro σ H2 ⟨lv, z5, z6, z7, rfl, tp2, ph2, sub2, len2, liv2⟩
      rw [lv0] at liv2 len2
      rw [List.take_length] at liv2
      obtain ⟨⟨dx2, pf2, b2, ea2, _⟩, ⟨kf2, mf2, _⟩, ml2, _⟩ := id ph2.walk
      have kl_few := LiveOk.few w J L.keys ml2.nodup
      refine ⟨_, rfl, a, _, dx2, _, _, rfl, ea2, T.cl_Walk, T.no_k_live, rfl, l, rfl, ⟨_, ml2⟩, _, rfl, bd, kb, rfl, ph2.dict, fun J2 vs2 st2 ak2 Dd o nD mD => ?_⟩
      refine dc_vals (l := es) st2 (fun H6 s6 => Tp.same s6) entD (.bl false) nD mD (by rw [ak2.1.length, A1.keys, List.length_map]) (by rw [sizeLine_eq]; omega) ?_ ?_
      · intro i g v H6 hg hv2 s6 Y yes
        exact ⟨rfl, _, rfl, yes _ _ (same_refl _) ((key_at (f := entD) (A1.keys ▸ ak2) hg hv2).mono (.same s6))⟩
      intro H3 kvs s3 m3 kvl vals mem
      refine ⟨Dd, kvs, rfl, m3, fun o3 f3 => ?_⟩
      have s24 := same_upd (o := o3) s3 nD
      obtain ⟨es', ek'⟩ : ∃ es' : List (Nat × Pk), kvs.map (·.1) = es'.map entD := map_of fun j hj => by
        obtain ⟨a, _, e⟩ := (mem j).mp hj
        exact ⟨a, e⟩
      have in' : ∀ e, e ∈ es' ↔ e ∈ es := fun e => by
        rw [← mem_keys ek', mem]
        exact ⟨fun ⟨a, m, q⟩ => entD_inj q ▸ m, fun m => ⟨e, m, rfl⟩⟩
      refine ⟨Dd, kl, kvs, rfl, ml2.same s24, f3, sE.apartD ek' f3.nodup (fun e he => J.inE (A1.valid e ((in' e).mp he))), by rw [sizeLine_eq]; omega, fun o4 m4 => ?_⟩
      have ph4 := ph2.same s24
      obtain ⟨⟨dx4, pf4, b4, ea4, _⟩, ⟨kf4, mf4, _⟩, ml4, _⟩ := id ph4.walk
      have K45 : Kept f l _ (upd (upd H3 Dd o3) l o4) := Kept.l ml4.mut
      obtain ⟨xs4, hl4, nx4⟩ := ph4.list
      have ph5 : Ph P w T H1 a f l x fs t (mergeD kl kvs) bd kb es pr lvA lv (upd (upd H3 Dd o3) l o4) := ⟨ph4.kept.trans K45, ph4.walk.putL m4, ⟨xs4, by rw [upd_ne (md_ne_lst ml4 hl4)]; exact hl4, nx4.mono K45.tp⟩, ph4.dict.mono K45.tp, ph4.lst.kept K45 mf4 ml4⟩
      have val2 : ∀ e, valV (mergeD kl kvs) (entD e) = (valV kvs (entD e)).or (valV kl (entD e)) := fun e => valV_merge kvs kl _ f3.nodup
      have isin : ∀ e ∈ es, valV kvs (entD e) = some (.bl false) := fun e he => by
        have : (valV kvs (entD e)).isSome = true := (val_keys ek').mpr ((in' e).mpr he)
        obtain ⟨v, hv⟩ := Option.isSome_iff_exists.mp this
        have hv2 : v = .bl false := vals _ (valV_pair hv)
        rw [hv, hv2]
      have notin : ∀ e, e ∉ es → valV kvs (entD e) = none := fun e he => by
        cases q : valV kvs (entD e) with
        | none => rfl
        | some v => exact absurd ((in' e).mp ((val_keys ek').mp (by rw [q]; rfl))) he
      have marks0 : Marks fs t kl (mergeD kl kvs) es pr lv := by
        refine ⟨fun k => ?_, fun e he => ⟨false, by rw [val2, isin e he]; rfl⟩, fun e he => by rw [val2, notin e he]; rfl, sub2, fun e he lg => .inr (liv2 e he lg), fun e he tr => ?_⟩
        · rw [mem_mergeD, ek']
          refine or_congr_right ⟨fun h => ?_, fun h => ?_⟩
          · obtain ⟨a, m, q⟩ := List.mem_map.mp h
            exact List.mem_map.mpr ⟨a, (in' a).mp m, q⟩
          · obtain ⟨a, m, q⟩ := List.mem_map.mp h
            exact List.mem_map.mpr ⟨a, (in' a).mpr m, q⟩
        · rw [val2, isin e he] at tr
          cases tr
      have pl := pot_le (kl := mergeD kl kvs) A1.len es
      refine ⟨fun μ σ H' => ∃ lv kl2 z5 z6 z7, μ = lv.length + pot es pr kl2 ∧ σ = [some (.ref a), some (.int (e0.1 : Int)), some (.ref c), some (.ref bd), some (.ref lvA), z5, z6, z7, none] ∧ Ph P w T H1 a f l x fs t kl2 bd kb es pr lvA lv H' ∧ Marks fs t kl kl2 es pr lv ∧ μ ≤ 1002000, ⟨_, lv, _, z5, z6, z7, rfl, rfl, ph5, marks0, by omega⟩, ?_⟩
      rintro μ σ H6 ⟨lv, kl2, z5, z6, z7, rfl, rfl, ph6, mk, bound⟩
      obtain ⟨xs6, hl6, nx6⟩ := ph6.list
      have ents : ∀ k ∈ lv.map entD, numk k = true ∧ k.depth ≤ 8 := fun k hk => by
        obtain ⟨e, _, rfl⟩ := List.mem_map.mp hk
        exact ⟨num_ent e, depth_ent e⟩
      refine ⟨_, rfl, Nat.zero_le _, fun p np => ?_⟩
      have s67 := same_new (o := .lst []) np
      have ph7 := ph6.same s67
      refine ⟨_, _, .lst (SqL.of (s67 _ _ hl6)) (nvs_dp (nx6.mono (.same s67))), .lst (SqL.of upd_same) .nil, shaped_list ents, rfl, _, rfl, iteB (fun ne => ?_) fun em => ?_⟩
      · obtain ⟨lv', e, rfl⟩ : ∃ lv' e, lv = lv' ++ [e] := by
          rcases List.eq_nil_or_concat lv with rfl | ⟨lv', e, h⟩
          · cases ne
          · exact ⟨lv', e, by rw [h, List.concat_eq_append]⟩
        obtain ⟨xs', v, rfl, nx', nv⟩ := nvs_snoc (nx6.mono (.same s67)) (by rw [List.map_append]; rfl)
        have hl7 := s67 _ _ hl6
        obtain ⟨⟨dx7, pf7, b7, ea7, _⟩, ⟨kf7, mf7, _⟩, ml7, _⟩ := id ph7.walk
        refine ⟨_, fun _ _ h => h, ?_⟩
        refine ⟨_, rfl, .inl ⟨rfl, _, SqL.of hl7⟩, lvA, _, v, rfl, rfl, hl7, by simp, ?_⟩
        rw [List.dropLast_concat]
        have ph8 := ph7.push (lv2 := lv') (zs := xs') nlv nla nx'
        obtain ⟨⟨dx8, pf8, b8, ea8, _⟩, ⟨kf8, mf8, _⟩, ml8, _⟩ := id ph8.walk
        have tp78 : Tp _ (upd (upd H6 p (.lst [])) lvA (.lst xs')) := Tp.write (a := lvA) (o := .lst xs') (by rw [hl7]; exact True.intro)
        have emem : e ∈ es := mk.sub e (by simp)
        obtain ⟨y, pc, rfl, _, _⟩ := ent_at nv
        have kv8 : KeyV (upd (upd H6 p (.lst [])) lvA (.lst xs')) (entD e) (.ref y) := ⟨nv.mono tp78, depth_ent e, y, rfl⟩
        obtain ⟨bb, hb⟩ := mk.bool e emem
        refine ⟨_, rfl, a, _, dx8, _, _, rfl, ea8, T.cl_Walk, T.no_k_live, rfl, _, rfl, l, kl2, entD e, .bl bb, rfl, .inl ml8, kv8, hb, bb, rfl, ?_⟩
        cases bb with
        | true =>
          refine iteF ⟨_, ?_, lv', kl2, some (.ref y), z6, z7, rfl, rfl, ph8, mk.drop hb, ?_⟩
          · rw [List.length_append, List.length_singleton]; omega
          · rw [List.length_append, List.length_singleton] at bound; omega
        | false =>
          have few2 : kl2.length ≤ 1000 := LiveOk.few w J (fun k hk => by
            rcases (mk.keys k).mp hk with h | h
            · exact L.keys k h
            · obtain ⟨e, he, rfl⟩ := List.mem_map.mp h
              exact ⟨e, rfl, A1.valid e he⟩) ml8.nodup
          refine iteT ⟨_, rfl, a, _, dx8, _, _, rfl, ea8, T.cl_Walk, T.no_k_live, rfl, _, rfl, l, kl2, entD e, rfl, ml8, kv8, by rw [sizeLine_eq]; omega, fun o m9 => ?_⟩
          have K89 : Kept f l _ (upd (upd (upd H6 p (.lst [])) lvA (.lst xs')) l o) := Kept.l ml8.mut
          obtain ⟨xs8, hl8, nx8⟩ := ph8.list
          obtain rfl : xs8 = xs' := by rw [upd_same] at hl8; cases hl8; rfl
          have hl9 : (upd (upd (upd H6 p (.lst [])) lvA (.lst xs8)) l o) lvA = some (.lst xs8) := by rw [upd_ne (md_ne_lst ml8 hl8)]; exact hl8
          have ph9 : Ph P w T H1 a f l x fs t (putK kl2 (entD e) (.bl true)) bd kb es pr lvA lv' (upd (upd (upd H6 p (.lst [])) lvA (.lst xs8)) l o) := ⟨ph8.kept.trans K89, ph8.walk.putL m9, ⟨xs8, hl9, nx8.mono K89.tp⟩, ph8.dict.mono K89.tp, ph8.lst.kept K89 mf8 ml8⟩
          obtain ⟨ls, ys, v1, v2, v3, v4⟩ := ph9.lst e emem
          have ly : ys.length = (pr e).length := by rw [v4.length, List.length_map]
          have lx8 : xs8.length = lv'.length := by rw [nx8.length, List.length_map]
          have pm := pot_mark (pr := pr) A1.nd emem (by rw [hb]; intro q; cases q)
          rw [List.length_append, List.length_singleton] at bound
          refine ⟨_, rfl, .inl ⟨rfl, _, SqL.of hl9⟩, _, rfl, _, rfl, bd, kb, entD e, .ref ls, rfl, .inr ph9.dict, kv8.mono K89.tp, v1, lvA, ls, xs8, ys, rfl, rfl, hl9, v3, by rw [sizeLine_eq]; omega, ?_⟩
          have n9 : NVs (upd (upd (upd H6 p (.lst [])) lvA (.lst xs8)) l o) ((lv' ++ pr e).map entD) (xs8 ++ ys) := by
            rw [List.map_append]
            exact (nx8.mono K89.tp).append v4
          refine ⟨_, ?_, lv' ++ pr e, _, some (.ref y), z6, z7, rfl, rfl, ph9.push nlv nla n9, mk.mark (fun p hp => A1.sub e p hp), ?_⟩
          · rw [List.length_append, List.length_append, List.length_singleton]; omega
          · rw [List.length_append]; omega
      · obtain rfl : lv = [] := by
          cases lv with
          | nil => rfl
          | cons _ _ => cases em
        refine k kl2 _ (K1.trans ph7.kept) ph7.walk (mk.done L A1.valid A1.shut A1.sub) ?_
        obtain ⟨bb, hb⟩ := mk.bool e0 in0
        rw [hb]
        rfl
end
end Mw
/-! steps, ends; comprehensions with two walks. -/
namespace Mw
open PySem PySem.Spec PyProof.Rows L2
/-- the inner walk of [e for x in xs for y in ys(x)] -/
def Inner (J1 : It) (g1 : TG) (te : TE) (vs1 : List Nat) (σ2 : L2.St) (Dl : Addr) (Nx : Hp → Prop) (H4 : Hp) : Prop := ∃ W1 : Nat → Nat → Hp → Prop, (∃ m, W1 0 m H4) ∧ ∀ j k H, W1 j k H →
  (J1.stop j H ∧ Nx H) ∨ (J1.go j H ∧ ∃ Nx1 : Hp → Prop, (∀ H', Nx1 H' → ∃ k', k' < k ∧ W1 (j + 1) k' H') ∧ ∀ x H', J1.yld j H x H' → g1 x (wipe σ2 vs1) H' fun σ3 H5 => wipe σ3 vs1 = wipe σ2 vs1 ∧ tYes σ3 H5 fun b H6 =>
    if b = true then te σ3 H6 fun y H7 => ∃ acc, H7 Dl = some (.lst acc) ∧ acc.length < sizeLine ∧ Nx1 (upd H7 Dl (.lst (acc ++ [y]))) else Nx1 H6)
theorem inner_st {J1 : It} {g1 : TG} {te : TE} {vs1 : List Nat} {σ2 : L2.St} {Dl : Addr} {Nx Kp : Hp → Prop} {H4 : Hp} {us : List V} (st : Steady J1 Kp us) (R : Nat → Hp → Prop) (h0 : R 0 H4) (hl : ∀ j H, j ≤ us.length → R j H → Kp H)
    (hs : ∀ j y H, us[j]? = some y → R j H → g1 y (wipe σ2 vs1) H fun σ3 H5 => wipe σ3 vs1 = wipe σ2 vs1 ∧ tYes σ3 H5 fun b H6 => if b = true then te σ3 H6 fun z H7 => ∃ acc, H7 Dl = some (.lst acc) ∧ acc.length < sizeLine ∧ R (j + 1) (upd H7 Dl (.lst (acc ++ [z]))) else R (j + 1) H6)
    (hd : ∀ H, R us.length H → Nx H) : Inner J1 g1 te vs1 σ2 Dl Nx H4 := by
  refine ⟨fun i m H => m = us.length - i ∧ i ≤ us.length ∧ R i H, ⟨us.length, by simp, Nat.zero_le _, h0⟩, ?_⟩
  rintro i m H ⟨rfl, hi, p⟩
  obtain ⟨q1, q2, q3⟩ := st i H (hl i H hi p)
  by_cases lt : i < us.length
  · refine .inr ⟨q1 lt, R (i + 1), fun H' p' => ⟨us.length - (i + 1), by omega, rfl, lt, p'⟩, fun x H' y => ?_⟩
    obtain ⟨rfl, hx⟩ := q3 x H' y
    exact hs i x _ hx p
  · obtain rfl : i = us.length := by omega
    exact .inl ⟨q2 (Nat.le_refl _), hd H p⟩
/-- the outer one -/
theorem lc2_st {J : It} {Kp : Hp → Prop} {vs : List V} {g g1 : TG} {wi1 : TI} {te : TE} {own vs1 : List Nat} {σ : L2.St} {H1 : Hp} {Dl : Addr} {Qd : Hp → Prop} (st : Steady J Kp vs) (Pv : Nat → Hp → Prop) (h0 : Pv 0 (upd H1 Dl (.lst []))) (hl : ∀ i H, i ≤ vs.length → Pv i H → Kp H)
    (hs : ∀ i x H, vs[i]? = some x → Pv i H → g x (wipe σ own) H fun σ2 H2 => wipe σ2 own = wipe σ own ∧ tYes σ2 H2 fun b H3 => if b = true then wi1 σ2 H3 fun J1 H4 => Inner J1 g1 te vs1 σ2 Dl (Pv (i + 1)) H4 else Pv (i + 1) H3)
    (hd : ∀ H, Pv vs.length H → Qd H) :
    (∃ W : Nat → Nat → Hp → Prop, (∃ m, W 0 m (upd H1 Dl (.lst []))) ∧ ∀ i m H, W i m H →
      (J.stop i H ∧ Qd H) ∨ (J.go i H ∧ ∃ Nx : Hp → Prop, (∀ H', Nx H' → ∃ m', m' < m ∧ W (i + 1) m' H') ∧ ∀ x H', J.yld i H x H' → g x (wipe σ own) H' fun σ2 H2 => wipe σ2 own = wipe σ own ∧ tYes σ2 H2 fun b H3 =>
        if b = true then wi1 σ2 H3 fun J1 H4 => Inner J1 g1 te vs1 σ2 Dl Nx H4 else Nx H3)) := by
  refine ⟨fun i m H => m = vs.length - i ∧ i ≤ vs.length ∧ Pv i H, ⟨vs.length, by simp, Nat.zero_le _, h0⟩, ?_⟩
  rintro i m H ⟨rfl, hi, p⟩
  obtain ⟨q1, q2, q3⟩ := st i H (hl i H hi p)
  by_cases lt : i < vs.length
  · refine .inr ⟨q1 lt, Pv (i + 1), fun H' p' => ⟨vs.length - (i + 1), by omega, rfl, lt, p'⟩, fun x H' y => ?_⟩
    obtain ⟨rfl, hx⟩ := q3 x H' y
    exact hs i x _ hx p
  · obtain rfl : i = vs.length := by omega
    exact .inl ⟨q2 (Nat.le_refl _), hd H p⟩
theorem paired_nvs {α : Type} {f : α → D} {H : Hp} : ∀ {l : List α} {ys : List V}, Paired (fun a y => NV H (f a) y) l ys → NVs H (l.map f) ys
  | _, _, .nil => .nil
  | _, _, .cons a b => .cons a (paired_nvs b)
theorem alike_ent (e h : Nat × Pk) : PySem.W.alike (enc (entD e)) (enc (entD h)) = true := by simp [entD, enc, encs, PySem.W.alike, PySem.W.alikeAll, alike_pk]
theorem alike_ents (l : List (Nat × Pk)) : Alike (l.map entD) := by
  refine ⟨fun d hd d' hd' => ?_, .inl fun d hd => ?_⟩
  · obtain ⟨k, hk, rfl⟩ := List.mem_map.mp hd
    obtain ⟨k', hk', rfl⟩ := List.mem_map.mp hd'
    obtain ⟨x, _, rfl⟩ := List.mem_map.mp hk
    obtain ⟨y, _, rfl⟩ := List.mem_map.mp hk'
    exact alike_ent x y
  · obtain ⟨k, hk, rfl⟩ := List.mem_map.mp hd
    obtain ⟨x, _, rfl⟩ := List.mem_map.mp hk
    exact ⟨_, _, by rw [entD, enc, encs]⟩
theorem pk_cons {n : Nat} {p : Pk} (h : p.length = n) (hn : n = 1 ∨ n = 2) : ∃ v r, p = v :: r := by
  cases p with
  | nil => simp at h; omega
  | cons v r => exact ⟨v, r, rfl⟩
/-- packets of one or two fields -/
theorem alike_pkts {n : Nat} (hn : n = 1 ∨ n = 2) {l : List Pk} (h : ∀ p ∈ l, p.length = n) : Alike (l.map pkD) := by
  refine ⟨fun d hd d' hd' => ?_, .inl fun d hd => ?_⟩
  · obtain ⟨k, hk, rfl⟩ := List.mem_map.mp hd
    obtain ⟨k', hk', rfl⟩ := List.mem_map.mp hd'
    obtain ⟨x, _, rfl⟩ := List.mem_map.mp hk
    obtain ⟨y, _, rfl⟩ := List.mem_map.mp hk'
    exact alike_pk x y
  · obtain ⟨k, hk, rfl⟩ := List.mem_map.mp hd
    obtain ⟨x, hx, rfl⟩ := List.mem_map.mp hk
    obtain ⟨v, r, rfl⟩ := pk_cons (h x hx) hn
    exact ⟨_, _, by rw [pkD, List.map_cons, enc, encs]⟩
theorem sort_map {α : Type} {f : α → D} (l : List α) : ∃ m : List α, sortD (l.map f) = m.map f ∧ m.Perm l := by
  obtain ⟨m, p, e⟩ := perm_map_inv (sortD_perm (l.map f)) rfl
  exact ⟨m, e, p⟩
section
variable {P : Program} {w : World} {K : PySem.W.Frag} {mg : Str → Option Value} {base : Heap}
def sp_Walk_ends (P : Program) (w : World) (T : TX K mg) : Sp := fun vs H Q _ => ∃ a c f l x fs N t kl, ∃ e : Nat × Pk, vs = [.ref a, .int (e.1 : Int), .ref c] ∧ WalkSt P w T H a f l x fs t kl ∧ Job x fs N t ∧ Valid x fs t e ∧ NV H (pkD e.2) (.ref c) ∧
  ∀ q xs, ∀ qs : List Pk, ∀ H', Kept f l H H' → WalkSt P w T H' a f l x fs t kl → H' q = some (.tup xs) → NVs H' (qs.map pkD) xs → qs.Nodup → (∀ r, r ∈ qs ↔ Stops fs t e r) → Q (.ref q) H'
theorem ok_Walk_ends (T : TX K mg) : FnOk P w K mg base CX0 26 T.a_Walk_ends T.fd_Walk_ends ["self", "place", "packet"] (sp_Walk_ends P w T) := by
  refine T.F_Walk_ends.ok sc_Walk_ends (fun vs H Q E h => ?_) (fun cdv A outer s H vs Q E hr h => ?_)
  · obtain ⟨a, c, f, l, x, fs, N, t, kl, e, rfl, _⟩ := h
    rfl
  · obtain ⟨a, c, f, l, x, fs, N, t, kl, e, rfl, W, J, V0, np, k⟩ := h
    refine ⟨_, (pss_one (ps_ret (pe_callTy call_tuple_of (by rfl) T.z_tuple (by decide +kernel) (pa_cons (pe_callB (cr_sortN rfl (hu_of5 hr)) (by rfl) T.z_sorted (by decide +kernel) (pa_cons (pe_ix ix_tup (pe_meth (pv 0) T.cl_Walk T.me_Walk_beginnings (ok_Walk_beginnings T) (hr.mono (by omega)) T.b_Walk_beginnings .nil pass0 (pa_cons (pv 1) (pa_cons (pv 2) pa_nil))) pe_int (fun _ _ => rfl)) pa_nil)) pa_nil)))), ?_⟩
    obtain ⟨⟨dx, pf, b0, ea, pt, nt⟩, _, _, _⟩ := id W
    refine ⟨_, rfl, a, dx, _, rfl, ea, rfl, _, rfl, _, rfl, a, c, f, l, x, fs, N, t, kl, e, rfl, W, J, V0, np, fun v H2 K2 W2 bg => ?_⟩
    obtain ⟨r, r1, r2, hs, qs, rfl, atr, fe, fq, me, mq⟩ := bg
    obtain ⟨kq, fdq, ekq⟩ := id fq
    have inQ : ∀ q ∈ qs, InU x fs.length q := fun q hq => J.stop V0 ((mq q).mp hq)
    refine ⟨r, _, _, _, rfl, rfl, SqT.of atr, atI_nat (j := 1) rfl, r2, kq, rfl, .inr fdq, by rw [ekq]; exact alike_pkts J.net.hn fun p hp => (inQ p hp).1, fun p ys np2 ny => ?_⟩
    rw [ekq] at ny
    obtain ⟨ms, em, pm⟩ := sort_map (f := pkD) qs
    rw [em] at ny
    refine ⟨p, ys, rfl, .inl ⟨SqL.of upd_same, fun q nq => ?_⟩⟩
    have s3 := same_trans (same_new (o := .lst ys) np2) (same_new (o := .tup ys) nq)
    exact k q ys ms _ (K2.trans (.same s3)) (W2.same s3) upd_same (ny.mono (.same s3)) (pm.nodup_iff.mpr fq.nodup) fun r => by rw [pm.mem_iff]; exact mq r
def sp_Walk_steps (P : Program) (w : World) (T : TX K mg) : Sp := fun vs H Q _ => ∃ a c f l x fs N t kl, ∃ e : Nat × Pk, vs = [.ref a, .int (e.1 : Int), .ref c] ∧ WalkSt P w T H a f l x fs t kl ∧ Job x fs N t ∧ LiveOk x fs t kl ∧ Valid x fs t e ∧ NV H (pkD e.2) (.ref c) ∧
  ∀ q xs, ∀ hs : List (Nat × Pk), ∀ kl2 H', Kept f l H H' → WalkSt P w T H' a f l x fs t kl2 → LiveOk x fs t kl2 → H' q = some (.tup xs) → NVs H' (hs.map entD) xs → hs.Nodup → (∀ h ∈ hs, Nexts fs t e h) → (∀ h, Nexts fs t e h → ¬ Dead fs t h → h ∈ hs) → Q (.ref q) H'
theorem ok_Walk_steps (T : TX K mg) : FnOk P w K mg base CX0 28 T.a_Walk_steps T.fd_Walk_steps ["self", "place", "packet"] (sp_Walk_steps P w T) := by
  refine T.F_Walk_steps.ok sc_Walk_steps (fun vs H Q E h => ?_) (fun cdv A outer s H vs Q E hr h => ?_)
  · obtain ⟨a, c, f, l, x, fs, N, t, kl, e, rfl, _⟩ := h
    rfl
  · obtain ⟨a, c, f, l, x, fs, N, t, kl, e, rfl, W, J, L, V0, np, k⟩ := h
    refine ⟨_, (pss_mid (ps_if (pt_cmp (pc_nnotin (hu_of2 hr) (pe_tup (pa_cons (pv 1) (pa_cons (pv 2) pa_nil))) (pe_fld (pv 0) rfl))) (pss_one (ps_expr (pe_meth (pv 0) T.cl_Walk T.me_Walk_look_on (ok_Walk_look_on T) (hr.mono (by omega)) T.b_Walk_look_on .nil pass0 (pa_cons (pv 1) (pa_cons (pv 2) pa_nil))))) pss_nil)
      (pss_one (ps_ret (pe_callTy call_tuple_of (by rfl) T.z_tuple (by decide +kernel) (pa_cons (pe_callB (cr_sortL (hu_of3 hr)) (by rfl) T.z_sorted (by decide +kernel) (pa_cons (pe_lc (own := [("hit", 3)]) (g := (gName 3)) (tt := (tB (tNGet P w (tFld K (tVar 0) "k_live") (tVar 3)))) (te := (tVar 3)) rfl sc_Walk_steps.nd (pi_n (pe_ix ix_tup (pe_meth (pv 0) T.cl_Walk T.me_Walk_beginnings (ok_Walk_beginnings T) (hr.mono (by omega)) T.b_Walk_beginnings .nil pass0 (pa_cons (pv 1) (pa_cons (pv 2) pa_nil))) pe_int (fun _ _ => rfl))) (blkOk_by (own := [("hit", 3)]) (N := ["self", "place", "packet", "hit"]) (sc := defScope s_Walk_steps) (by decide +kernel)) (fun _ _ _ _ _ => (pg_name (i := 3) sc_Walk_steps.nd rfl (Or.inl rfl))) (fun _ _ _ _ _ => (pts_one (pt_val (pe_nget (hu_of2 hr) (pe_fld (pv 0) rfl) (pv 3) (fun _ _ => rfl))))) (fun _ _ _ _ _ => (pv 3))) pa_nil)) pa_nil))))), ?_⟩
    refine ⟨fun σ' H' => ∃ kl2, σ' = [some (.ref a), some (.int (e.1 : Int)), some (.ref c), none] ∧ Kept f l H H' ∧ WalkSt P w T H' a f l x fs t kl2 ∧ LiveOk x fs t kl2 ∧ (valV kl2 (entD e)).isSome = true, ?_, ?_⟩
    · refine ⟨_, rfl, _, rfl, (by show 2 ≤ sizeLine; decide), fun y ny => ?_⟩
      have s1 := same_new (o := .tup [.int (e.1 : Int), .ref c]) ny
      have W1 := W.same s1
      obtain ⟨⟨dx, pf, b0, ea, pt, nt⟩, _, ml, _⟩ := id W1
      refine ⟨_, rfl, a, _, dx, _, _, rfl, ea, T.cl_Walk, T.no_k_live, rfl, l, kl, entD e, rfl, .inl ml, ent_tup np ny, _, rfl, iteB (fun no => ?_) fun yes => ?_⟩
      · have no : valV kl (entD e) = none := by
          cases q : valV kl (entD e) with
          | none => rfl
          | some _ => rw [q] at no; cases no
        exact ⟨_, rfl, a, dx, _, rfl, ea, rfl, _, rfl, _, rfl, a, c, f, l, x, fs, N, t, kl, e, rfl, W1, J, L, V0, np.mono (.same s1), no, fun kl2 H2 K2 W2 L2' has => ⟨kl2, rfl, (Kept.same s1).trans K2, W2, L2', has⟩⟩
      · exact ⟨kl, rfl, .same s1, W1, L, by simpa using yes⟩
    · rintro σ' H1 ⟨kl2, rfl, K1, W1, L1, has⟩
      obtain ⟨⟨dx, pf, b0, ea, pt, nt⟩, _, ml, _⟩ := id W1
      refine ⟨_, rfl, a, dx, _, rfl, ea, rfl, _, rfl, _, rfl, a, c, f, l, x, fs, N, t, kl2, e, rfl, W1, J, V0, np.mono K1.tp, fun v H2 K2 W2 bg => ?_⟩
      obtain ⟨r, r1, r2, hs, qs, rfl, atr, fe, fq, me, mq⟩ := bg
      obtain ⟨kvh, fdh, ekh⟩ := id fe
      obtain ⟨⟨dx2, pf2, b2, ea2, _⟩, _, ml2, _⟩ := id W2
      have sE := sortsE (w := w) J.net.hx J.net.hn
      have hl := sE.small fe.nodup fun h hh => J.inE (J.next V0 ((me h).mp hh)).1
      refine ⟨r, _, _, _, rfl, rfl, SqT.of atr, at0, r1, kvh, rfl, fdh, fun Jw vs st ak D nD => ?_⟩
      refine lc_items (l := hs) st (fun H6 s6 => Tp.same s6) (fun h => decide (valV kl2 (entD h) = some (.bl true))) (fun h y H => NV H (entD h) y) (fun {_ _ _ _} tp n => n.mono tp) nD (by rw [ak.1.length, ekh, List.length_map]) (by rw [sizeLine_eq]; omega) ?_ ?_
      · intro i h v2 H6 hh hv2 s6 Y Nn yes no
        have kv6 := (key_at (f := entD) (ekh ▸ ak) hh hv2).mono (.same s6)
        have in2 := L1.shut e has h ((me h).mp (List.mem_of_getElem? hh))
        obtain ⟨v3, hv3⟩ := Option.isSome_iff_exists.mp in2
        obtain ⟨bb, rfl, _⟩ := L1.vals h v3 hv3
        refine ⟨rfl, _, rfl, a, _, dx2, _, _, rfl, s6 _ _ ea2, T.cl_Walk, T.no_k_live, rfl, _, rfl, l, kl2, entD h, .bl bb, rfl, .inl (ml2.same s6), kv6, hv3, bb, rfl, iteB (fun tr => ?_) fun fa => ?_⟩
        · exact ⟨_, rfl, yes (decide_eq_true (by rw [hv3, tr])) _ _ (same_refl _) kv6.1⟩
        · exact no (decide_eq_false (by rw [hv3, fa]; intro q; cases q)) _ (same_refl _)
      · intro H6 ys s6 at6 q
        have nys := paired_nvs q
        generalize hF : hs.filter (fun h => decide (valV kl2 (entD h) = some (.bl true))) = F at nys
        have memF : ∀ h, h ∈ F ↔ h ∈ hs ∧ valV kl2 (entD h) = some (.bl true) := fun h => by rw [← hF, List.mem_filter, decide_eq_true_iff]
        refine ⟨D, ys, F.map entD, rfl, SqL.of at6, nys, alike_ents F, fun k hk => by obtain ⟨e, _, rfl⟩ := List.mem_map.mp hk; exact depth_ent e, fun p zs np2 nz => ?_⟩
        obtain ⟨ms, em, pm⟩ := sort_map (f := entD) F
        rw [em] at nz
        refine ⟨p, zs, rfl, .inl ⟨SqL.of upd_same, fun q nq => ?_⟩⟩
        have s3 := same_trans s6 (same_trans (same_new (o := .lst zs) np2) (same_new (o := .tup zs) nq))
        refine k q zs ms kl2 _ (K1.trans (K2.trans (.same s3))) (W2.same s3) L1 upd_same (nz.mono (.same (same_trans (same_new (o := .lst zs) np2) (same_new (o := .tup zs) nq)))) (pm.nodup_iff.mpr (hF ▸ fe.nodup.filter _)) (fun h hm => (me h).mp ((memF h).mp (pm.mem_iff.mp hm)).1) fun h nx nd => pm.mem_iff.mpr ((memF h).mpr ⟨(me h).mpr nx, ?_⟩)
        obtain ⟨v3, hv3⟩ := Option.isSome_iff_exists.mp (L1.shut e has h nx)
        obtain ⟨bb, rfl, dead⟩ := L1.vals h v3 hv3
        cases bb with
        | true => exact hv3
        | false => exact absurd (dead rfl) nd
end
end Mw
/-! all_ends, moves. -/
namespace Mw
open PySem L2
section
variable {P : Program} {w : World} {K : PySem.W.Frag} {mg : Str → Option Value} {base : Heap}
def placeV (ms : List Nat) : List V := ms.map fun (m : Nat) => .int (m : Int)
theorem all_keys {α : Type} {f : α → D} {H : Hp} {l : List α} {vs : List V} (n : NVs H (l.map f) vs) (h : ∀ a, (f a).depth ≤ 8 ∧ ∃ ks, f a = .tup ks) : AllKey H (l.map f) vs :=
  ⟨n, fun k hk => by obtain ⟨a, _, rfl⟩ := List.mem_map.mp hk; exact h a⟩
theorem pk_tupD (p : Pk) : (pkD p).depth ≤ 8 ∧ ∃ ks, pkD p = .tup ks := ⟨by have := depth_pk p; omega, _, rfl⟩
theorem ent_tupD (e : Nat × Pk) : (entD e).depth ≤ 8 ∧ ∃ ks, entD e = .tup ks := ⟨depth_ent e, _, rfl⟩
theorem SD.list {α : Type} {f : α → D} {S : List D} {l : List α} (inj : ∀ a b, f a = f b → a = b) (n : S.Nodup) (h : ∀ k, k ∈ S ↔ k ∈ l.map f) : ∃ m : List α, S = m.map f ∧ m.Nodup ∧ ∀ a, a ∈ m ↔ a ∈ l := by
  obtain ⟨m, rfl⟩ : ∃ m : List α, S = m.map f := map_of fun k hk => by
    obtain ⟨a, _, e⟩ := List.mem_map.mp ((h k).mp hk)
    exact ⟨a, e⟩
  have mem : ∀ {l : List α} {a : α}, f a ∈ l.map f ↔ a ∈ l := fun {l a} => ⟨fun h => by
    obtain ⟨b, hb, e⟩ := List.mem_map.mp h
    exact inj _ _ e ▸ hb, fun h => List.mem_map.mpr ⟨a, h, rfl⟩⟩
  exact ⟨m, rfl, (List.pairwise_map.mp n).imp fun q e => q (by rw [e]), fun a => by rw [← mem, h, mem]⟩
def sp_Walk_all_ends (P : Program) (w : World) (T : TX K mg) : Sp := fun vs H Q _ => ∃ a b c f l x fs N t kl, ∃ ms : List Nat, ∃ p : Pk, vs = [.ref a, .ref b, .ref c] ∧ H b = some (.tup (placeV ms)) ∧ WalkSt P w T H a f l x fs t kl ∧ Job x fs N t ∧ (∀ m ∈ ms, Valid x fs t (m, p)) ∧ ms.length ≤ 1000 ∧ NV H (pkD p) (.ref c) ∧
  ∀ q xs, ∀ qs : List Pk, ∀ H', Kept f l H H' → WalkSt P w T H' a f l x fs t kl → H' q = some (.tup xs) → NVs H' (qs.map pkD) xs → qs.Nodup → (∀ r, r ∈ qs ↔ ∃ m ∈ ms, Stops fs t (m, p) r) → Q (.ref q) H'
theorem ok_Walk_all_ends (T : TX K mg) : FnOk P w K mg base CX0 27 T.a_Walk_all_ends T.fd_Walk_all_ends ["self", "places", "packet"] (sp_Walk_all_ends P w T) := by
  refine T.F_Walk_all_ends.ok sc_Walk_all_ends (fun vs H Q E h => ?_) (fun cdv A outer s H vs Q E hr h => ?_)
  · obtain ⟨a, b, c, f, l, x, fs, N, t, kl, ms, p, rfl, _⟩ := h
    rfl
  · obtain ⟨a, b, c, f, l, x, fs, N, t, kl, ms, p, rfl, hb, W, J, V0, msl, np, k⟩ := h
    refine ⟨_, (pss_one (ps_ret (pe_callTy call_tuple_of (by rfl) T.z_tuple (by decide +kernel) (pa_cons (pe_callB (cr_sortS rfl (hu_of5 hr)) (by rfl) T.z_sorted (by decide +kernel) (pa_cons (pe_callTy (cr_setN rfl (hu_of3 hr)) (by rfl) T.z_set (by decide +kernel) (pa_cons (pe_lc2 (own := [("place", 3), ("end", 4)]) (vs1 := [4]) (g := (gName 3)) (tt := tYes) (wi1 := (iTup K (tMeth T.c_Walk "ends" (sp_Walk_ends P w T) [] E0 (tVar 0) (tCons (tVar 3) (tCons (tVar 2) tNil))))) (g1 := (gName 4)) (tt1 := tYes) (te := (tVar 4)) rfl sc_Walk_all_ends.nd (pi_tup (pv 1)) (blkOk_by (own := [("place", 3), ("end", 4)]) (N := ["self", "places", "packet", "place", "end"]) (sc := defScope s_Walk_all_ends) (by decide +kernel)) (by decide) (fun _ _ _ _ _ => (pg_name (i := 3) sc_Walk_all_ends.nd rfl (Or.inl rfl))) (fun _ _ _ _ _ => pts_nil) (fun _ _ _ _ _ => (pi_tup (pe_meth (pv 0) T.cl_Walk T.me_Walk_ends (ok_Walk_ends T) (hr.mono (by omega)) T.b_Walk_ends .nil pass0 (pa_cons (pv 3) (pa_cons (pv 2) pa_nil))))) (fun _ _ _ _ _ => (pg_name (i := 4) sc_Walk_all_ends.nd rfl (Or.inl rfl))) (fun _ _ _ _ _ => pts_nil) (fun _ _ _ _ _ => (pv 4))) pa_nil)) pa_nil)) pa_nil)))), ?_⟩
    have lv : (placeV ms).length = ms.length := List.length_map ..
    have sP := sortsP (w := w) J.net.hx J.net.hn
    refine ⟨_, rfl, b, rfl, ⟨_, SqT.of hb⟩, fun D nD => ?_⟩
    refine lc2_st (steady_tup (K := K) (a := b) (xs := placeV ms)) (fun i H' => ∃ (as : List Pk) (ys : List V), Kept f l H H' ∧ WalkSt P w T H' a f l x fs t kl ∧ H' D = some (.lst ys) ∧ NVs H' (as.map pkD) ys ∧ as.length ≤ 1000 * i ∧ ∀ r, r ∈ as ↔ ∃ m ∈ ms.take i, Stops fs t (m, p) r) ?_ ?_ ?_ ?_
    · exact ⟨[], [], (Kept.same (same_new nD)), W.same (same_new nD), upd_same, .nil, Nat.zero_le _, fun r => by simp⟩
    · rintro i H2 _ ⟨as, ys, K2, _⟩
      exact SqT.of (K2.tp.tup _ _ hb)
    · rintro i v H2 hv ⟨as, ys, K2, W2, atD, ny, la, ma⟩
      rw [placeV, List.getElem?_map] at hv
      obtain ⟨m, hm, rfl⟩ := Option.map_eq_some_iff.mp hv
      have mm := List.mem_of_getElem? hm
      have li : i < ms.length := (List.getElem?_eq_some_iff.mp hm).1
      have tk : ms.take (i + 1) = ms.take i ++ [m] := by rw [List.take_add_one, hm]; rfl
      obtain ⟨⟨dx, pf, b0, ea, pt, nt⟩, ⟨kf2, mf2, _⟩, ml2, _⟩ := id W2
      refine ⟨rfl, ?_⟩
      simp only [tYes, if_true]
      refine ⟨_, rfl, a, dx, _, rfl, ea, rfl, _, rfl, _, rfl, a, c, f, l, x, fs, N, t, kl, (m, p), rfl, W2, J, V0 m mm, np.mono K2.tp, fun q xs qs H3 K3 W3 atq nq qn mq => ⟨q, rfl, ⟨_, SqT.of atq⟩, ?_⟩⟩
      have atD3 := K3.keep D _ (md_ne_lst mf2 atD) (md_ne_lst ml2 atD) atD
      have lq := sP.small qn fun r hr => J.stop (V0 m mm) ((mq r).mp hr)
      have lx : xs.length = qs.length := by rw [nq.length, List.length_map]
      refine inner_st (steady_tup (K := K) (a := q) (xs := xs)) (fun j H' => ∃ ys, Kept f l H H' ∧ WalkSt P w T H' a f l x fs t kl ∧ Tp H3 H' ∧ H' D = some (.lst ys) ∧ NVs H' ((as ++ qs.take j).map pkD) ys) ?_ ?_ ?_ ?_
      · exact ⟨ys, K2.trans K3, W3, Tp.refl _, atD3, by simpa using ny.mono K3.tp⟩
      · rintro j H4 _ ⟨ys4, _, _, tp4, _⟩
        exact SqT.of (tp4.tup _ _ atq)
      · rintro j y H4 hy ⟨ys4, K4, W4, tp4, atD4, ny4⟩
        have lj : j < qs.length := lx ▸ (List.getElem?_eq_some_iff.mp hy).1
        have hj : qs[j]? = some qs[j] := List.getElem?_eq_getElem lj
        obtain ⟨v', hv', nv'⟩ := nvs_at nq hj
        obtain rfl := Option.some.inj (hv'.symm.trans hy)
        obtain ⟨_, ⟨kf4, mf4, _⟩, ml4, _⟩ := id W4
        obtain ⟨⟨dx4, pf4, b4, ea4, _⟩, _, _, _⟩ := id W4
        have ly4 : ys4.length = (as ++ qs.take j).length := by rw [ny4.length, List.length_map]
        refine ⟨rfl, ?_⟩
        simp only [tYes, if_true]
        have tpw : Tp H4 (upd H4 D (.lst (ys4 ++ [v']))) := Tp.write (by rw [atD4]; exact True.intro)
        have nDa : D ≠ a := fun e => by rw [e, ea4] at atD4; cases atD4
        refine ⟨_, rfl, ys4, atD4, by rw [ly4, List.length_append, List.length_take, sizeLine_eq]; omega, ys4 ++ [v'], K4.upd_new nD, W4.at_ tpw (upd_ne nDa.symm) (upd_ne (md_ne_lst mf4 atD4).symm) (upd_ne (md_ne_lst ml4 atD4).symm), tp4.trans tpw, upd_same, ?_⟩
        rw [List.take_add_one, hj]
        simp only [Option.toList, ← List.append_assoc]
        rw [List.map_append]
        exact (ny4.append (.cons (nv'.mono tp4) .nil)).mono tpw
      · rintro H4 ⟨ys4, K4, W4, tp4, atD4, ny4⟩
        rw [lx, List.take_length] at ny4
        refine ⟨as ++ qs, ys4, K4, W4, atD4, ny4, by rw [List.length_append]; omega, fun r => ?_⟩
        rw [tk, List.mem_append, ma, mq]
        constructor
        · rintro (⟨m', h1, h2⟩ | h)
          · exact ⟨m', List.mem_append_left _ h1, h2⟩
          · exact ⟨m, by simp, h⟩
        · rintro ⟨m', h1, h2⟩
          rcases List.mem_append.mp h1 with h1 | h1
          · exact .inl ⟨m', h1, h2⟩
          · rw [List.mem_singleton.mp h1] at h2
            exact .inr h2
    · rintro H2 ⟨as, ys, K2, W2, atD, ny, la, ma⟩
      rw [lv, List.take_length] at ma
      have inA : ∀ r ∈ as, InU x fs.length r := fun r hr => by
        obtain ⟨m, hm, h⟩ := (ma r).mp hr
        exact J.stop (V0 m hm) h
      refine ⟨D, ys, as.map pkD, (allP x fs.length).map pkD, rfl, SqL.of atD, all_keys ny pk_tupD, fun k hk => ?_, by rw [List.length_map]; have := allP_len (x := x) J.net.hn; omega, fun sA o S nS sd nd mem => ?_⟩
      · obtain ⟨r, hr, rfl⟩ := List.mem_map.mp hk
        exact ⟨num_pk r, List.mem_map.mpr ⟨r, mem_allP (inA r hr), rfl⟩⟩
      obtain ⟨qs, rfl, qn, mq⟩ := SD.list (fun _ _ => pkD_inj) nd mem
      have inQ : ∀ r ∈ qs, r.length = fs.length := fun r hr => (inA r ((mq r).mp hr)).1
      have s3 := same_new (o := o) nS
      refine ⟨sA, _, rfl, sd, alike_pkts J.net.hn inQ, fun p2 zs np2 nz => ?_⟩
      obtain ⟨rs, em, pm⟩ := sort_map (f := pkD) qs
      rw [em] at nz
      refine ⟨p2, zs, rfl, .inl ⟨SqL.of upd_same, fun q nq => ?_⟩⟩
      have s4 := same_trans (same_new (o := .lst zs) np2) (same_new (o := .tup zs) nq)
      exact k q zs rs _ (K2.trans (.same (same_trans s3 s4))) (W2.same (same_trans s3 s4)) upd_same (nz.mono (.same s4)) (pm.nodup_iff.mpr qn) fun r => by rw [pm.mem_iff, mq, ma]
end
end Mw
/-! moves. -/
namespace Mw
open PySem L2
section
variable {P : Program} {w : World} {K : PySem.W.Frag} {mg : Str → Option Value} {base : Heap}
def sp_Walk_moves (P : Program) (w : World) (T : TX K mg) : Sp := fun vs H Q _ => ∃ a b c f l x fs N t kl, ∃ ms : List Nat, ∃ p : Pk, vs = [.ref a, .ref b, .ref c] ∧ H b = some (.tup (placeV ms)) ∧ WalkSt P w T H a f l x fs t kl ∧ Job x fs N t ∧ LiveOk x fs t kl ∧ (∀ m ∈ ms, Valid x fs t (m, p)) ∧ ms.length ≤ 1000 ∧ NV H (pkD p) (.ref c) ∧
  ∀ r kv, ∀ qs : List Pk, ∀ (pl : Pk → List Nat), ∀ kl2 H', Kept f l H H' → WalkSt P w T H' a f l x fs t kl2 → LiveOk x fs t kl2 → FD P w H' r kv → kv.map (·.1) = qs.map pkD → (∀ q ∈ qs, ∃ tq, valV kv (pkD q) = some (.ref tq) ∧ H' tq = some (.tup (placeV (pl q))) ∧ (pl q).length ≤ 1000) →
    (∀ q ∈ qs, ∀ m ∈ pl q, ∃ m0 ∈ ms, Nexts fs t (m0, p) (m, q)) → (∀ q ∈ qs, pl q ≠ []) → (∀ m0 ∈ ms, ∀ m q, Nexts fs t (m0, p) (m, q) → ¬ Dead fs t (m, q) → q ∈ qs ∧ m ∈ pl q) → Q (.ref r) H'
theorem MD.kept {H H' : Hp} {f l d : Addr} {kv : List (D × V)} (k : Kept f l H H') (nf : d ≠ f) (nl : d ≠ l) (m : MD P w H d kv) : MD P w H' d kv := by
  obtain ⟨xs, e, _⟩ := id m
  exact m.mono k.tp ((k.keep d _ nf nl e).trans e.symm)
theorem ok_Walk_moves (T : TX K mg) : FnOk P w K mg base CX0 29 T.a_Walk_moves T.fd_Walk_moves ["self", "places", "packet"] (sp_Walk_moves P w T) := by
  refine T.F_Walk_moves.ok sc_Walk_moves (fun vs H Q E h => ?_) (fun cdv A outer s H vs Q E hr h => ?_)
  · obtain ⟨a, b, c, f, l, x, fs, N, t, kl, ms, p, rfl, _⟩ := h
    rfl
  · obtain ⟨a, b, c, f, l, x, fs, N, t, kl, ms, p, rfl, hb, W, J, L, V0, msl, np, k⟩ := h
    refine ⟨_, (pss_cons (ps_set (i := 3) sc_Walk_moves.nd rfl (Or.inr rfl) pe_nnewM)
      (pss_cons (ps_for PassesOwn.never rfl (pi_list (pe_callB (cr_sortS rfl (hu_of5 hr)) (by rfl) T.z_sorted (by decide +kernel) (pa_cons (pe_callTy (cr_setN rfl (hu_of3 hr)) (by rfl) T.z_set (by decide +kernel) (pa_cons (pe_lc2 (own := [("place", 5), ("entry", 4)]) (vs1 := [4]) (g := (gName 5)) (tt := tYes) (wi1 := (iTup K (tMeth T.c_Walk "steps" (sp_Walk_steps P w T) [] E0 (tVar 0) (tCons (tVar 5) (tCons (tVar 2) tNil))))) (g1 := (gName 4)) (tt1 := tYes) (te := (tVar 4)) rfl sc_Walk_moves.nd (pi_tup (pv 1)) (blkOk_by (own := [("place", 5), ("entry", 4)]) (N := ["self", "places", "packet", "found", "entry", "place", "fresh"]) (sc := defScope s_Walk_moves) (by decide +kernel)) (by decide) (fun _ _ _ _ _ => (pg_name (i := 5) sc_Walk_moves.nd rfl (Or.inl rfl))) (fun _ _ _ _ _ => pts_nil) (fun _ _ _ _ _ => (pi_tup (pe_meth (pv 0) T.cl_Walk T.me_Walk_steps (ok_Walk_steps T) (hr.mono (by omega)) T.b_Walk_steps .nil pass0 (pa_cons (pv 5) (pa_cons (pv 2) pa_nil))))) (fun _ _ _ _ _ => (pg_name (i := 4) sc_Walk_moves.nd rfl (Or.inl rfl))) (fun _ _ _ _ _ => pts_nil) (fun _ _ _ _ _ => (pv 4))) pa_nil)) pa_nil))) (pg_name (i := 4) sc_Walk_moves.nd rfl (Or.inl rfl)) (pss_one (ps_nput (hu_of2 hr) (pv 3) (pe_ix ix_tup (pv 4) pe_int (fun _ _ => rfl)) (pe_tup (StX.pa_star (pe_nget2 (hu_of2 hr) (pv 3) (pe_ix ix_tup (pv 4) pe_int (fun _ _ => rfl)) (pe_tup pa_nil) ⟨by rfl, by rfl, by rfl, by rfl⟩) (pa_cons (pe_ix ix_tup (pv 4) pe_int (fun _ _ => rfl)) pa_nil))) rfl)))
      (pss_one (ps_ret (pe_nfrz (pe_dcn (own := [("fresh", 6)]) (g := (gName 6)) (tt := tYes) (tk := (tVar 6)) (tv := (tNGet P w (tVar 3) (tVar 6))) (hu_of2 hr) rfl sc_Walk_moves.nd (pi_list (pe_callB (cr_sortN rfl (hu_of5 hr)) (by rfl) T.z_sorted (by decide +kernel) (pa_cons (pv 3) pa_nil))) (blkOk_by (own := [("fresh", 6)]) (N := ["self", "places", "packet", "found", "entry", "place", "fresh"]) (sc := defScope s_Walk_moves) (by decide +kernel)) ⟨fun _ _ _ _ _ => (pg_name (i := 6) sc_Walk_moves.nd rfl (Or.inl rfl)), fun _ _ _ _ _ => pts_nil, fun _ _ _ _ _ => (pv 6), fun _ _ _ _ _ => (pe_nget (hu_of2 hr) (pv 3) (pv 6) (fun _ _ => rfl))⟩)))))), ?_⟩
    have lv : (placeV ms).length = ms.length := List.length_map ..
    have sP := sortsP (w := w) J.net.hx J.net.hn
    have sE := sortsE (w := w) J.net.hx J.net.hn
    obtain ⟨⟨dx0, pf0, b00, ea0, _⟩, ⟨kf0, mf0, _⟩, ml0, _⟩ := id W
    intro fd o0 nfd mfd
    have s0 := same_new (o := o0) nfd
    have nff : fd ≠ f := fun q => by obtain ⟨zs, e1, _⟩ := id mf0; rw [q, e1] at nfd; cases nfd
    have nfl : fd ≠ l := fun q => by obtain ⟨zs, e1, _⟩ := id ml0; rw [q, e1] at nfd; cases nfd
    have nfa : fd ≠ a := fun q => by rw [q, ea0] at nfd; cases nfd
    refine ⟨_, rfl, b, rfl, ⟨_, SqT.of (s0 _ _ hb)⟩, fun D nD => ?_⟩
    refine lc2_st (steady_tup (K := K) (a := b) (xs := placeV ms)) (fun i H' => ∃ (as : List (Nat × Pk)) (ys : List V) (kl' : List (Mw.D × V)), Kept f l (upd H fd o0) H' ∧ WalkSt P w T H' a f l x fs t kl' ∧ LiveOk x fs t kl' ∧ H' D = some (.lst ys) ∧ NVs H' (as.map entD) ys ∧ as.length ≤ 1000 * i ∧ (∀ h ∈ as, ∃ m ∈ ms.take i, Nexts fs t (m, p) h) ∧
      ∀ m ∈ ms.take i, ∀ h, Nexts fs t (m, p) h → ¬ Dead fs t h → h ∈ as) ?_ ?_ ?_ ?_
    · exact ⟨[], [], kl, (Kept.same (same_new nD)), W.same (same_trans s0 (same_new nD)), L, upd_same, .nil, Nat.zero_le _, fun h hh => absurd hh List.not_mem_nil, fun m hm => absurd hm (by simp)⟩
    · rintro i H2 _ ⟨as, ys, kl', K2, _⟩
      exact SqT.of (K2.tp.tup _ _ (s0 _ _ hb))
    · rintro i v H2 hv ⟨as, ys, kl', K2, W2, L2', atD, ny, la, ma, mc⟩
      rw [placeV, List.getElem?_map] at hv
      obtain ⟨m, hm, rfl⟩ := Option.map_eq_some_iff.mp hv
      have mm := List.mem_of_getElem? hm
      have li : i < ms.length := (List.getElem?_eq_some_iff.mp hm).1
      have tk : ms.take (i + 1) = ms.take i ++ [m] := by rw [List.take_add_one, hm]; rfl
      obtain ⟨⟨dx, pf, b0, ea, pt, nt⟩, ⟨kf2, mf2, _⟩, ml2, _⟩ := id W2
      refine ⟨rfl, ?_⟩
      simp only [tYes, if_true]
      refine ⟨_, rfl, a, dx, _, rfl, ea, rfl, _, rfl, _, rfl, a, c, f, l, x, fs, N, t, kl', (m, p), rfl, W2, J, L2', V0 m mm, (np.mono (.same s0)).mono K2.tp, fun q xs hs kl3 H3 K3 W3 L3 atq nq qn mq1 mq2 => ⟨q, rfl, ⟨_, SqT.of atq⟩, ?_⟩⟩
      have atD3 := K3.keep D _ (md_ne_lst mf2 atD) (md_ne_lst ml2 atD) atD
      have lq := sE.small qn fun h hh => J.inE (J.next (V0 m mm) (mq1 h hh)).1
      have lx : xs.length = hs.length := by rw [nq.length, List.length_map]
      refine inner_st (steady_tup (K := K) (a := q) (xs := xs)) (fun j H' => ∃ ys, Kept f l (upd H fd o0) H' ∧ WalkSt P w T H' a f l x fs t kl3 ∧ Tp H3 H' ∧ H' D = some (.lst ys) ∧ NVs H' ((as ++ hs.take j).map entD) ys) ?_ ?_ ?_ ?_
      · exact ⟨ys, K2.trans K3, W3, Tp.refl _, atD3, by simpa using ny.mono K3.tp⟩
      · rintro j H4 _ ⟨ys4, _, _, tp4, _⟩
        exact SqT.of (tp4.tup _ _ atq)
      · rintro j y H4 hy ⟨ys4, K4, W4, tp4, atD4, ny4⟩
        have lj : j < hs.length := lx ▸ (List.getElem?_eq_some_iff.mp hy).1
        have hj : hs[j]? = some hs[j] := List.getElem?_eq_getElem lj
        obtain ⟨v', hv', nv'⟩ := nvs_at nq hj
        obtain rfl := Option.some.inj (hv'.symm.trans hy)
        obtain ⟨⟨dx4, pf4, b4, ea4, _⟩, ⟨kf4, mf4, _⟩, ml4, _⟩ := id W4
        have ly4 : ys4.length = (as ++ hs.take j).length := by rw [ny4.length, List.length_map]
        refine ⟨rfl, ?_⟩
        simp only [tYes, if_true]
        have tpw : Tp H4 (upd H4 D (.lst (ys4 ++ [v']))) := Tp.write (by rw [atD4]; exact True.intro)
        have nDa : D ≠ a := fun e => by rw [e, ea4] at atD4; cases atD4
        refine ⟨_, rfl, ys4, atD4, by rw [ly4, List.length_append, List.length_take, sizeLine_eq]; omega, ys4 ++ [v'], K4.upd_new nD, W4.at_ tpw (upd_ne nDa.symm) (upd_ne (md_ne_lst mf4 atD4).symm) (upd_ne (md_ne_lst ml4 atD4).symm), tp4.trans tpw, upd_same, ?_⟩
        rw [List.take_add_one, hj]
        simp only [Option.toList, ← List.append_assoc]
        rw [List.map_append]
        exact (ny4.append (.cons (nv'.mono tp4) .nil)).mono tpw
      · rintro H4 ⟨ys4, K4, W4, tp4, atD4, ny4⟩
        rw [lx, List.take_length] at ny4
        refine ⟨as ++ hs, ys4, kl3, K4, W4, L3, atD4, ny4, by rw [List.length_append]; omega, fun h hh => ?_, fun m' hm' h nx nd => ?_⟩
        · rw [tk]
          rcases List.mem_append.mp hh with h1 | h1
          · obtain ⟨m', h2, h3⟩ := ma h h1
            exact ⟨m', List.mem_append_left _ h2, h3⟩
          · exact ⟨m, by simp, mq1 h h1⟩
        · rw [tk] at hm'
          rcases List.mem_append.mp hm' with h1 | h1
          · exact List.mem_append_left _ (mc m' h1 h nx nd)
          · rw [List.mem_singleton.mp h1] at nx
            exact List.mem_append_right _ (mq2 h nx nd)
    · rintro H2 ⟨as, ys, kl', K2, W2, L2', atD, ny, la, ma, mc⟩
      rw [lv, List.take_length] at ma mc
      have inA : ∀ h ∈ as, Valid x fs t h := fun h hh => by
        obtain ⟨m, hm, nx⟩ := ma h hh
        exact (J.next (V0 m hm) nx).1
      obtain ⟨U, hU, memU⟩ := sE.few
      refine ⟨D, ys, as.map entD, U.map entD, rfl, SqL.of atD, all_keys ny ent_tupD, fun k hk => ?_, by rw [List.length_map]; omega, fun sA o S nS sd nd mem => ?_⟩
      · obtain ⟨r, hr, rfl⟩ := List.mem_map.mp hk
        exact ⟨num_ent r, List.mem_map.mpr ⟨r, memU r (J.inE (inA r hr)), rfl⟩⟩
      obtain ⟨es, rfl, esn, mes⟩ := SD.list (fun _ _ => entD_inj) nd mem
      have s3 := same_new (o := o) nS
      refine ⟨sA, _, rfl, sd, alike_ents es, fun p2 zs np2 nz => ?_⟩
      obtain ⟨rs, em, pm⟩ := sort_map (f := entD) es
      rw [em] at nz
      have s4 := same_new (o := .lst zs) np2
      have s34 := same_trans s3 s4
      have mrs : ∀ h, h ∈ rs ↔ h ∈ as := fun h => by rw [pm.mem_iff, mes]
      have rsn : rs.Nodup := pm.nodup_iff.mpr esn
      have rsl := sE.small rsn fun h hh => J.inE (inA h ((mrs h).mp hh))
      have lz : zs.length = rs.length := by rw [nz.length, List.length_map]
      refine ⟨p2, rfl, ⟨_, SqL.of upd_same⟩, ?_⟩
      have W5 := W2.same s34
      have K5 := K2.trans (Kept.same (f := f) (l := l) s34)
      have mfd5 := (mfd.kept K2 nff nfl).same s34
      generalize hH5 : upd (upd H2 sA o) p2 (.lst zs) = H5 at *
      have atz : H5 p2 = some (.lst zs) := by rw [← hH5]; exact upd_same
      have nz5 : NVs H5 (rs.map entD) zs := nz.mono (.same s4)
      refine for_st (steady_list (K := K) (a := p2) (xs := zs)) (fun i σ H' => ∃ (kv : List (Mw.D × V)) (qs : List Pk) (pl : Pk → List Nat) (z4 : Option V), σ = [some (.ref a), some (.ref b), some (.ref c), some (.ref fd), z4, none, none] ∧ Kept f l H H' ∧ WalkSt P w T H' a f l x fs t kl' ∧ Tp H5 H' ∧ H' p2 = some (.lst zs) ∧ MD P w H' fd kv ∧ kv.map (·.1) = qs.map pkD ∧
        (∀ q, q ∈ qs ↔ ∃ m, (m, q) ∈ rs.take i) ∧ (∀ q ∈ qs, ∃ tq, valV kv (pkD q) = some (.ref tq) ∧ H' tq = some (.tup (placeV (pl q)))) ∧ (∀ q m, m ∈ pl q ↔ (m, q) ∈ rs.take i) ∧ ∀ q, (pl q).length ≤ i) ?_ ?_ ?_ ?_
      · exact ⟨[], [], fun _ => [], none, rfl, (Kept.same s0).trans K5, W5, Tp.refl _, atz, mfd5, rfl, fun q => by simp, fun q h => absurd h List.not_mem_nil, fun q m => by simp, fun q => Nat.le_refl _⟩
      · rintro i σ H6 _ ⟨kv, qs, pl, z4, rfl, _, _, _, atz6, _⟩
        exact SqL.of atz6
      · rintro i v σ H6 hv ⟨kv, qs, pl, z4, rfl, K6, W6, tp6, atz6, md6, ekv, mqs, vals, mpl, lpl⟩
        have li : i < rs.length := lz ▸ (List.getElem?_eq_some_iff.mp hv).1
        have hi : rs[i]? = some rs[i] := List.getElem?_eq_getElem li
        generalize rs[i] = e at hi
        have tk : rs.take (i + 1) = rs.take i ++ [e] := by rw [List.take_add_one, hi]; rfl
        obtain ⟨v', hv', nv'⟩ := nvs_at nz5 hi
        obtain rfl := Option.some.inj (hv'.symm.trans hv)
        obtain ⟨y, pc, rfl, aty, npc⟩ := ent_at (nv'.mono tp6)
        obtain ⟨⟨dx6, pf6, b6, ea6, _⟩, ⟨kf6, mf6, _⟩, ml6, _⟩ := id W6
        refine ⟨_, rfl, fd, rfl, ⟨_, .inl md6⟩, _, rfl, y, _, _, _, rfl, rfl, SqT.of aty, atI_nat (j := 1) rfl, Nat.zero_le _, fun p0 np0 => ?_⟩
        have s7 := same_new (o := .tup []) np0
        have got : ∃ lp, (valV kv (pkD e.2)).getD (.ref p0) = .ref lp ∧ (upd H6 p0 (.tup [])) lp = some (.tup (placeV (pl e.2))) := by
          by_cases m : e.2 ∈ qs
          · obtain ⟨tq, h1, h2⟩ := vals e.2 m
            exact ⟨tq, by rw [h1]; rfl, s7 _ _ h2⟩
          · have n1 : valV kv (pkD e.2) = none := by
              cases q : valV kv (pkD e.2) with
              | none => rfl
              | some u =>
                have : pkD e.2 ∈ kv.map (·.1) := (valV_mem kv _).mp (by rw [q]; rfl)
                rw [ekv] at this
                obtain ⟨q', hq', e'⟩ := List.mem_map.mp this
                exact absurd (pkD_inj e' ▸ hq') m
            have n2 : pl e.2 = [] := List.eq_nil_iff_forall_not_mem.mpr fun m' hm' => m ((mqs e.2).mpr ⟨m', (mpl e.2 m').mp hm'⟩)
            exact ⟨p0, by rw [n1]; rfl, by rw [n2]; exact upd_same⟩
        obtain ⟨lp, gv, gl⟩ := got
        have lpe := lpl e.2
        refine ⟨kv, pkD e.2, .inl (md6.same s7), (pk_key npc).mono (.same s7), lp, _, gv, .inl (SqT.of gl), _, rfl, y, _, _, _, rfl, rfl, SqT.of (s7 _ _ aty), at0, (by simp only [List.length_append, placeV, List.length_map, List.length_cons, List.length_nil]; rw [sizeLine_eq]; omega), fun q nq => ?_⟩
        have s8 := same_new (o := .tup (placeV (pl e.2) ++ [.int (e.1 : Int)])) nq
        have s78 := same_trans s7 s8
        have mdq := md6.same s78
        have lkv : kv.length ≤ 1000 := by
          rw [keys_len ekv]
          refine sP.small ?_ fun q' hq' => ?_
          · have n := md6.nodup
            rw [ekv] at n
            exact (List.pairwise_map.mp n).imp fun h e => h (by rw [e])
          · obtain ⟨m, hm⟩ := (mqs q').mp hq'
            exact (inA _ ((mrs _).mp (List.mem_of_mem_take hm))).2
        refine ⟨_, rfl, _, rfl, y, _, _, _, rfl, rfl, SqT.of (s78 _ _ aty), atI_nat (j := 1) rfl, fd, kv, pkD e.2, rfl, mdq, (pk_key npc).mono (.same s78), by rw [sizeLine_eq]; omega, fun o9 m9 => ?_⟩
        have tpw : Tp _ (upd (upd (upd H6 p0 (.tup [])) q (.tup (placeV (pl e.2) ++ [.int (e.1 : Int)]))) fd o9) := Tp.write (a := fd) (o := o9) mdq.mut
        have newq : (upd (upd (upd H6 p0 (.tup [])) q (.tup (placeV (pl e.2) ++ [.int (e.1 : Int)]))) fd o9) q = some (.tup (placeV (pl e.2 ++ [e.1]))) := by
          rw [show placeV (pl e.2 ++ [e.1]) = placeV (pl e.2) ++ [.int (e.1 : Int)] by simp [placeV]]
          exact tpw.tup _ _ upd_same
        obtain ⟨qs', eqs, mqs'⟩ : ∃ qs' : List Pk, (putK kv (pkD e.2) (.ref q)).map (·.1) = qs'.map pkD ∧ ∀ r, r ∈ qs' ↔ r ∈ qs ∨ r = e.2 := by
          rw [putK_keys, ekv]
          by_cases m : pkD e.2 ∈ qs.map pkD
          · rw [if_pos m]
            obtain ⟨q', hq', e'⟩ := List.mem_map.mp m
            exact ⟨qs, rfl, fun r => ⟨.inl, fun h => h.elim id fun h => h ▸ pkD_inj e' ▸ hq'⟩⟩
          · rw [if_neg m]
            exact ⟨qs ++ [e.2], by rw [List.map_append]; rfl, fun r => by rw [List.mem_append, List.mem_singleton]⟩
        refine ⟨_, qs', fun r => if r = e.2 then pl r ++ [e.1] else pl r, some (.ref y), rfl, (K6.trans (.same s78)).upd_new nfd, (W6.same s78).at_ tpw (upd_ne nfa.symm) (upd_ne nff.symm) (upd_ne nfl.symm), (tp6.trans (.same s78)).trans tpw, ?_, m9, eqs, fun r => ?_, fun r hr => ?_, fun r m => ?_, fun r => ?_⟩
        · rw [upd_ne (md_ne_lst mdq (s78 _ _ atz6))]
          exact s78 _ _ atz6
        · rw [mqs', mqs, tk]
          constructor
          · rintro (⟨m, hm⟩ | rfl)
            · exact ⟨m, List.mem_append_left _ hm⟩
            · exact ⟨e.1, by simp⟩
          · rintro ⟨m, hm⟩
            rcases List.mem_append.mp hm with h | h
            · exact .inl ⟨m, h⟩
            · rw [← List.mem_singleton.mp h]; exact .inr rfl
        · by_cases er : r = e.2
          · subst er
            exact ⟨q, by rw [valV_put, if_pos rfl], by simp only [if_true]; exact newq⟩
          · obtain ⟨tq, h1, h2⟩ := vals r (((mqs' r).mp hr).resolve_right er)
            exact ⟨tq, by rw [valV_put, if_neg (fun h => er (pkD_inj h))]; exact h1, by simp only [if_neg er]; exact tpw.tup _ _ (s78 _ _ h2)⟩
        · show m ∈ (if r = e.2 then pl r ++ [e.1] else pl r) ↔ _
          rw [tk, List.mem_append, List.mem_singleton]
          by_cases er : r = e.2
          · rw [if_pos er, List.mem_append, List.mem_singleton, mpl]
            refine or_congr_right ⟨fun h => by rw [h, er], fun h => by rw [← h]⟩
          · rw [if_neg er, mpl]
            exact ⟨.inl, fun h => h.elim id fun h => absurd (by rw [← h]) er⟩
        · show (if r = e.2 then pl r ++ [e.1] else pl r).length ≤ i + 1
          have := lpl r
          split
          · rw [List.length_append, List.length_singleton]; omega
          · omega
      · rintro σ H6 ⟨kv, qs, pl, z4, rfl, K6, W6, tp6, atz6, md6, ekv, mqs, vals, mpl, lpl⟩
        rw [lz, List.take_length] at mqs mpl
        have inQ : ∀ q ∈ qs, InU x fs.length q := fun q hq => by
          obtain ⟨m, hm⟩ := (mqs q).mp hq
          exact (inA _ ((mrs _).mp hm)).2
        have qsn : qs.Nodup := by
          have n := md6.nodup
          rw [ekv] at n
          exact (List.pairwise_map.mp n).imp fun h e => h (by rw [e])
        have lqs := sP.small qsn inQ
        refine ⟨_, rfl, fd, kv, rfl, .inl md6, by rw [ekv]; exact alike_pkts J.net.hn fun q hq => (inQ q hq).1, fun p3 ws np3 nw => ?_⟩
        rw [ekv] at nw
        obtain ⟨rq, emq, pmq⟩ := sort_map (f := pkD) qs
        rw [emq] at nw
        have s7 := same_new (o := .lst ws) np3
        have lw : ws.length = rq.length := by rw [nw.length, List.length_map]
        have lrq : rq.length = qs.length := pmq.length_eq
        have md7 := md6.same s7
        refine ⟨p3, rfl, ⟨_, SqL.of upd_same⟩, fun Dd o nDd mDd => ?_⟩
        refine dcn_st (steady_list (K := K) (a := p3) (xs := ws)) (fun i H' => Same (upd H6 p3 (.lst ws)) H' ∧ ∃ kv2, MD P w H' Dd kv2 ∧ kv2.map (·.1) = (rq.take i).map pkD ∧ ∀ q ∈ rq.take i, valV kv2 (pkD q) = valV kv (pkD q)) ?_ ?_ ?_ ?_
        · exact ⟨same_new nDd, [], mDd, by simp, fun q h => absurd h (by simp)⟩
        · rintro i H8 _ ⟨s8, _⟩
          exact SqL.of (s8 _ _ upd_same)
        · rintro i v H8 hv ⟨s8, kv2, m8, ek2, vv2⟩
          have li : i < rq.length := lw ▸ (List.getElem?_eq_some_iff.mp hv).1
          have hi : rq[i]? = some rq[i] := List.getElem?_eq_getElem li
          generalize rq[i] = q at hi
          have tk : rq.take (i + 1) = rq.take i ++ [q] := by rw [List.take_add_one, hi]; rfl
          obtain ⟨v', hv', nv'⟩ := nvs_at (nw.mono (.same s7)) hi
          obtain rfl := Option.some.inj (hv'.symm.trans hv)
          obtain ⟨_, _, rfl, _⟩ := nv_tup (show NV _ (pkD q) v' from nv')
          have kq := (pk_key nv').mono (.same s8)
          have qin : q ∈ qs := pmq.mem_iff.mp (List.mem_of_getElem? hi)
          obtain ⟨tq, h1, h2⟩ := vals q qin
          have qno : q ∉ rq.take i := fun m => by
            obtain ⟨i2, l2, e2⟩ := List.mem_take_iff_getElem.mp m
            have e3 := (List.getElem?_eq_some_iff.mp hi).2
            exact List.pairwise_iff_getElem.mp (pmq.nodup_iff.mpr qsn) i2 i (by omega) li (by omega) (e2.trans e3.symm)
          have n2 : valV kv2 (pkD q) = none := by
            cases e : valV kv2 (pkD q) with
            | none => rfl
            | some u =>
              have : pkD q ∈ kv2.map (·.1) := (valV_mem kv2 _).mp (by rw [e]; rfl)
              rw [ek2] at this
              obtain ⟨q', hq', e'⟩ := List.mem_map.mp this
              exact absurd (pkD_inj e' ▸ hq') qno
          have len2 : kv2.length ≤ i := by rw [keys_len ek2, List.length_take]; omega
          refine ⟨rfl, ?_⟩
          simp only [tYes, if_true]
          refine ⟨_, rfl, _, rfl, _, rfl, fd, kv, pkD q, .ref tq, rfl, .inl (md7.same s8), kq, h1, kv2, pkD q, m8, kq, by rw [sizeLine_eq]; omega, fun o9 m9 => ⟨same_upd s8 nDd, _, m9, ?_, fun r hr => ?_⟩⟩
          · rw [putK_new _ n2, List.map_append, ek2, tk, List.map_append]
            rfl
          · rw [valV_put]
            by_cases er : r = q
            · rw [if_pos (by rw [er]), er, h1]
            · rw [if_neg (fun h => er (pkD_inj h))]
              rw [tk] at hr
              exact vv2 r ((List.mem_append.mp hr).resolve_right fun h => er (List.mem_singleton.mp h))
        · rintro H8 ⟨s8, kv2, m8, ek2, vv2⟩
          rw [lw, List.take_length] at ek2 vv2
          refine ⟨Dd, kv2, rfl, m8, fun o9 f9 => ?_⟩
          have s9 := same_upd (o := o9) s8 nDd
          have s79 := same_trans s7 s9
          refine k Dd kv2 rq pl kl' _ (K6.trans (.same s79)) (W6.same s79) L2' f9 ek2 (fun q hq => ?_) (fun q hq m hm => ?_) (fun q hq e => ?_) fun m0 h0 m q nx nd => ?_
          · obtain ⟨tq, h1, h2⟩ := vals q (pmq.mem_iff.mp hq)
            exact ⟨tq, by rw [vv2 q hq]; exact h1, s79 _ _ h2, by have := lpl q; omega⟩
          · exact ma _ ((mrs _).mp ((mpl q m).mp hm))
          · obtain ⟨m, hm⟩ := (mqs q).mp (pmq.mem_iff.mp hq)
            have := (mpl q m).mpr hm
            rw [e] at this
            exact absurd this List.not_mem_nil
          · have hin := (mrs _).mpr (mc m0 h0 (m, q) nx nd)
            exact ⟨pmq.mem_iff.mpr ((mqs q).mpr ⟨m, hin⟩), (mpl q m).mpr hin⟩
end
end Mw
/-! The layers of ways_to. -/
namespace Mw
open PySem L2
/-- by entries that write ms -/
def Trail (fs : List Str) (t : Src) : Nat × Pk → List Pk → Nat × Pk → Prop
  | e, [], e' => e' = e
  | e, p :: ms, e' => ∃ m, Nexts fs t e (m, p) ∧ Trail fs t (m, p) ms e'
section
variable {x : Nat} {fs : List Str} {N : List Nat} {t : Src}
theorem trail_snoc : ∀ {ms : List Pk} {e : Nat × Pk} {m : Nat} {q r : Pk}, Trail fs t e (ms ++ [q]) (m, r) ↔ r = q ∧ ∃ e1, Trail fs t e ms e1 ∧ Nexts fs t e1 (m, q)
  | [], e, m, q, r => by
    simp only [List.nil_append, Trail, Prod.mk.injEq]
    constructor
    · rintro ⟨m', h, rfl, rfl⟩
      exact ⟨rfl, e, rfl, h⟩
    · rintro ⟨rfl, _, rfl, h⟩
      exact ⟨m, h, rfl, rfl⟩
  | p :: ms, e, m, q, r => by
    simp only [List.cons_append, Trail]
    constructor
    · rintro ⟨m', h, g⟩
      obtain ⟨rfl, e1, h1, h2⟩ := trail_snoc.mp g
      exact ⟨rfl, e1, ⟨m', h, h1⟩, h2⟩
    · rintro ⟨rfl, e1, ⟨m', h, h1⟩, h2⟩
      exact ⟨m', h, trail_snoc.mpr ⟨rfl, e1, h1, h2⟩⟩
theorem goes_trail : ∀ {ms : List Pk} {e : Nat × Pk} {q : Pk}, Goes fs t e ms q ↔ ∃ e', Trail fs t e ms e' ∧ Stops fs t e' q
  | [], e, q => by
    simp only [Goes, Trail]
    exact ⟨fun h => ⟨e, rfl, h⟩, fun ⟨_, h, g⟩ => h ▸ g⟩
  | p :: ms, e, q => by
    simp only [Goes, Trail]
    constructor
    · rintro ⟨m, h, g⟩
      obtain ⟨e', h1, h2⟩ := goes_trail.mp g
      exact ⟨e', ⟨m, h, h1⟩, h2⟩
    · rintro ⟨e', ⟨m, h, h1⟩, h2⟩
      exact ⟨m, h, goes_trail.mpr ⟨e', h1, h2⟩⟩
/-- an item of a layer: what was written down, the last packet, the places -/
abbrev Item := List Pk × Pk × List Nat
structure Layer (x : Nat) (fs : List Str) (t : Src) (p0 : Pk) (k : Nat) (its : List Item) : Prop where
  len : ∀ it ∈ its, it.1.length = k
  in_ : ∀ it ∈ its, ∀ q ∈ it.1, InU x fs.length q
  last : ∀ it ∈ its, InU x fs.length it.2.1
  ne : ∀ it ∈ its, it.2.2 ≠ []
  few : ∀ it ∈ its, it.2.2.length ≤ 1000
  from_ : ∀ it ∈ its, ∀ m ∈ it.2.2, Trail fs t (0, p0) it.1 (m, it.2.1)
  valid : ∀ it ∈ its, ∀ m ∈ it.2.2, Valid x fs t (m, it.2.1)
  nd : (its.map (·.1)).Nodup
  all : ∀ ms m q, ms.length = k → Trail fs t (0, p0) ms (m, q) → ¬ Dead fs t (m, q) → ∃ it ∈ its, it.1 = ms ∧ it.2.1 = q ∧ m ∈ it.2.2
theorem Layer.zero {p0 : Pk} (h : InU x fs.length p0) : Layer x fs t p0 0 [([], p0, [0])] where
  len := fun it h => by rw [List.mem_singleton.mp h]; rfl
  in_ := fun it h => by rw [List.mem_singleton.mp h]; exact fun q hq => absurd hq List.not_mem_nil
  last := fun it h' => by rw [List.mem_singleton.mp h']; exact h
  ne := fun it h => by rw [List.mem_singleton.mp h]; simp
  few := fun it h => by rw [List.mem_singleton.mp h]; simp
  from_ := fun it h m hm => by
    rw [List.mem_singleton.mp h] at hm ⊢
    rw [List.mem_singleton.mp hm]
    rfl
  valid := fun it h' m hm => by
    rw [List.mem_singleton.mp h'] at hm ⊢
    rw [List.mem_singleton.mp hm]
    exact ⟨Nat.zero_le _, h⟩
  nd := by simp
  all := fun ms m q len tr nd => by
    obtain rfl := List.eq_nil_of_length_eq_zero len
    obtain ⟨rfl, rfl⟩ := Prod.mk.inj (show (m, q) = (0, p0) from tr)
    exact ⟨_, List.mem_singleton.mpr rfl, rfl, rfl, by simp⟩
/-- the last one is known by what was written down -/
theorem trail_last {p0 : Pk} {m m' : Nat} {ms : List Pk} {q q' : Pk} (h : Trail fs t (0, p0) ms (m, q)) (h' : Trail fs t (0, p0) ms (m', q')) : q = q' := by
  rcases List.eq_nil_or_concat ms with rfl | ⟨ns, r, e⟩
  · rw [(Prod.mk.inj (show (m, q) = (0, p0) from h)).2, (Prod.mk.inj (show (m', q') = (0, p0) from h')).2]
  · rw [List.concat_eq_append] at e
    subst e
    rw [(trail_snoc.mp h).1, (trail_snoc.mp h').1]
theorem Layer.last_eq {p0 : Pk} {k : Nat} {its : List Item} (L : Layer x fs t p0 k its) {it it' : Item} (h : it ∈ its) (h' : it' ∈ its) (e : it.1 = it'.1) : it.2.1 = it'.2.1 := by
  obtain ⟨m, hm⟩ := List.exists_mem_of_ne_nil _ (L.ne it h)
  obtain ⟨m', hm'⟩ := List.exists_mem_of_ne_nil _ (L.ne it' h')
  have a := L.from_ it h m hm
  have b := L.from_ it' h' m' hm'
  rw [e] at a
  exact trail_last a b
/-- what comes of some items: the next ones -/
structure Later (fs : List Str) (t : Src) (its nx : List Item) : Prop where
  from_ : ∀ n ∈ nx, ∃ it ∈ its, n.1 = it.1 ++ [n.2.1] ∧ n.2.2 ≠ [] ∧ n.2.2.length ≤ 1000 ∧ ∀ m' ∈ n.2.2, ∃ m ∈ it.2.2, Nexts fs t (m, it.2.1) (m', n.2.1)
  all : ∀ it ∈ its, ∀ m ∈ it.2.2, ∀ m' q, Nexts fs t (m, it.2.1) (m', q) → ¬ Dead fs t (m', q) → ∃ n ∈ nx, n.1 = it.1 ++ [q] ∧ n.2.1 = q ∧ m' ∈ n.2.2
  nd : (nx.map (·.1)).Nodup
theorem Layer.next (J : Job x fs N t) {p0 : Pk} {k : Nat} {its nx : List Item} (L : Layer x fs t p0 k its) (R : Later fs t its nx) : Layer x fs t p0 (k + 1) nx where
  len := fun n h => by
    obtain ⟨it, hi, e, _⟩ := R.from_ n h
    rw [e, List.length_append, L.len it hi, List.length_singleton]
  in_ := fun n h q hq => by
    obtain ⟨it, hi, e, ne, _, nx'⟩ := R.from_ n h
    rw [e] at hq
    rcases List.mem_append.mp hq with h1 | h1
    · exact L.in_ it hi q h1
    · rw [List.mem_singleton.mp h1]
      obtain ⟨m', hm'⟩ := List.exists_mem_of_ne_nil _ ne
      obtain ⟨m, hm, nn⟩ := nx' m' hm'
      exact (J.next (L.valid it hi m hm) nn).1.2
  last := fun n h => by
    obtain ⟨it, hi, e, ne, _, nx'⟩ := R.from_ n h
    obtain ⟨m', hm'⟩ := List.exists_mem_of_ne_nil _ ne
    obtain ⟨m, hm, nn⟩ := nx' m' hm'
    exact (J.next (L.valid it hi m hm) nn).1.2
  ne := fun n h => by
    obtain ⟨it, hi, e, ne, _⟩ := R.from_ n h
    exact ne
  few := fun n h => by
    obtain ⟨it, hi, e, _, l, _⟩ := R.from_ n h
    exact l
  from_ := fun n h m' hm' => by
    obtain ⟨it, hi, e, _, _, nx'⟩ := R.from_ n h
    obtain ⟨m, hm, nn⟩ := nx' m' hm'
    rw [e]
    exact trail_snoc.mpr ⟨rfl, _, L.from_ it hi m hm, nn⟩
  valid := fun n h m' hm' => by
    obtain ⟨it, hi, e, _, _, nx'⟩ := R.from_ n h
    obtain ⟨m, hm, nn⟩ := nx' m' hm'
    exact (J.next (L.valid it hi m hm) nn).1
  nd := R.nd
  all := fun ms m q len tr nd => by
    rcases List.eq_nil_or_concat ms with rfl | ⟨ns, r, e⟩
    · simp at len
    · rw [List.concat_eq_append] at e
      subst e
      obtain ⟨rfl, ⟨m1, q1⟩, h1, h2⟩ := trail_snoc.mp tr
      have nd1 : ¬ Dead fs t (m1, q1) := fun d => nd fun us z g => d (q :: us) z ⟨m, h2, g⟩
      obtain ⟨it, hi, e1, e2, hm⟩ := L.all ns m1 q1 (by simpa using len) h1 nd1
      obtain ⟨n, hn, e3, e4, hm'⟩ := R.all it hi m1 hm m q (by rw [e2]; exact h2) nd
      exact ⟨n, hn, by rw [e3, e1], e4, hm'⟩
/-- the ways that end in a layer -/
theorem Layer.ends (J : Job x fs N t) {p0 : Pk} {k : Nat} {its : List Item} (L : Layer x fs t p0 k its) (l : List Pk) : (∃ it ∈ its, ∃ q, l = it.1 ++ [q] ∧ ∃ m ∈ it.2.2, Stops fs t (m, it.2.1) q) ↔ ∃ ms q, l = ms ++ [q] ∧ ms.length = k ∧ Run fs t p0 ms q := by
  constructor
  · rintro ⟨it, hi, q, e, m, hm, st⟩
    exact ⟨it.1, q, e, L.len it hi, goes_run.mp (goes_trail.mpr ⟨_, L.from_ it hi m hm, st⟩)⟩
  · rintro ⟨ms, q, e, len, r⟩
    obtain ⟨⟨m, z⟩, tr, st⟩ := goes_trail.mp (goes_run.mpr r)
    obtain ⟨it, hi, rfl, rfl, hm⟩ := L.all ms m z len tr fun d => d [] q st
    exact ⟨it, hi, q, e, m, hm, st⟩
def seqs (a : List Pk) : Nat → List (List Pk)
  | 0 => [[]]
  | k + 1 => a.flatMap fun x => (seqs a k).map (x :: ·)
theorem mem_seqs {a : List Pk} : ∀ {d : List Pk}, (∀ x ∈ d, x ∈ a) → d ∈ seqs a d.length
  | [], _ => List.mem_singleton.mpr rfl
  | x :: d, h => List.mem_flatMap.mpr ⟨x, h x List.mem_cons_self, List.mem_map.mpr ⟨d, mem_seqs fun y hy => h y (List.mem_cons_of_mem _ hy), rfl⟩⟩
/-- at most so many -/
theorem lists_len {a : List Pk} : ∀ k : Nat, (seqs a k).length = a.length ^ k
  | 0 => rfl
  | k + 1 => by
    rw [seqs, List.length_flatMap]
    simp only [List.length_map, lists_len k, List.map_const', List.sum_replicate_nat]
    rw [Nat.pow_succ, Nat.mul_comm]
end
end Mw
/-! ways_to. -/
namespace Mw
open PySem L2
section
variable {x : Nat} {fs : List Str} {N : List Nat} {t : Src}
theorem Later.nil : Later fs t [] [] := ⟨fun _ h => absurd h List.not_mem_nil, fun _ h => absurd h List.not_mem_nil, List.nodup_nil⟩
theorem Later.snoc {its nx : List Item} {it : Item} (R : Later fs t its nx) (h : ∀ i ∈ its, i.1 ≠ it.1) {qs : List Pk} {pl : Pk → List Nat} (qn : qs.Nodup) (m1 : ∀ q ∈ qs, ∀ m ∈ pl q, ∃ m0 ∈ it.2.2, Nexts fs t (m0, it.2.1) (m, q)) (ne : ∀ q ∈ qs, pl q ≠ []) (le : ∀ q ∈ qs, (pl q).length ≤ 1000)
    (m2 : ∀ m0 ∈ it.2.2, ∀ m q, Nexts fs t (m0, it.2.1) (m, q) → ¬ Dead fs t (m, q) → q ∈ qs ∧ m ∈ pl q) : Later fs t (its ++ [it]) (nx ++ qs.map fun q => ((it.1 ++ [q], q, pl q) : Item)) := by
  refine ⟨fun n hn => ?_, fun i hi m hm m' q nn nd => ?_, ?_⟩
  · rcases List.mem_append.mp hn with hn | hn
    · obtain ⟨i, hi, r⟩ := R.from_ n hn
      exact ⟨i, List.mem_append_left _ hi, r⟩
    · obtain ⟨q, hq, rfl⟩ := List.mem_map.mp hn
      exact ⟨it, by simp, rfl, ne q hq, le q hq, m1 q hq⟩
  · rcases List.mem_append.mp hi with hi | hi
    · obtain ⟨n, hn, r⟩ := R.all i hi m hm m' q nn nd
      exact ⟨n, List.mem_append_left _ hn, r⟩
    · rw [List.mem_singleton.mp hi] at hm nn ⊢
      obtain ⟨h1, h2⟩ := m2 m hm m' q nn nd
      exact ⟨(it.1 ++ [q], q, pl q), List.mem_append_right _ (List.mem_map.mpr ⟨q, h1, rfl⟩), rfl, rfl, h2⟩
  · rw [List.map_append]
    refine List.nodup_append.mpr ⟨R.nd, ?_, fun l hl l' hl' e => ?_⟩
    · rw [List.map_map]
      exact List.Pairwise.map _ (fun a b n e => n (snoc_inj e).2) qn
    · subst e
      obtain ⟨n, hn, rfl⟩ := List.mem_map.mp hl
      obtain ⟨n', hn', e⟩ := List.mem_map.mp hl'
      obtain ⟨q, hq, rfl⟩ := List.mem_map.mp hn'
      obtain ⟨i, hi, e2, _⟩ := R.from_ n hn
      rw [e2] at e
      exact h i hi (snoc_inj e).1.symm
/-- the ways that end with some items -/
def EndsOf (fs : List Str) (t : Src) (its : List Item) (l : List Pk) : Prop := ∃ it ∈ its, ∃ q, l = it.1 ++ [q] ∧ ∃ m ∈ it.2.2, Stops fs t (m, it.2.1) q
theorem ends_snoc {its : List Item} {it : Item} {es : List (List Pk)} (nd : es.Nodup) (me : ∀ l, l ∈ es ↔ EndsOf fs t its l) (h : ∀ i ∈ its, i.1 ≠ it.1) {qs : List Pk} (qn : qs.Nodup) (mq : ∀ q, q ∈ qs ↔ ∃ m ∈ it.2.2, Stops fs t (m, it.2.1) q) :
    (es ++ qs.map fun q => it.1 ++ [q]).Nodup ∧ ∀ l, l ∈ (es ++ qs.map fun q => it.1 ++ [q]) ↔ EndsOf fs t (its ++ [it]) l := by
  refine ⟨List.nodup_append.mpr ⟨nd, List.Pairwise.map _ (fun a b n e => n (snoc_inj e).2) qn, fun l hl l' hl' e => ?_⟩, fun l => ?_⟩
  · subst e
    obtain ⟨q, hq, e⟩ := List.mem_map.mp hl'
    obtain ⟨i, hi, q', e', _⟩ := (me l).mp hl
    rw [e'] at e
    exact h i hi (snoc_inj e).1.symm
  · rw [List.mem_append, me]
    constructor
    · rintro (⟨i, hi, r⟩ | hl)
      · exact ⟨i, List.mem_append_left _ hi, r⟩
      · obtain ⟨q, hq, rfl⟩ := List.mem_map.mp hl
        exact ⟨it, by simp, q, rfl, (mq q).mp hq⟩
    · rintro ⟨i, hi, q, e, r⟩
      rcases List.mem_append.mp hi with hi | hi
      · exact .inl ⟨i, hi, q, e, r⟩
      · rw [List.mem_singleton.mp hi] at e r
        exact .inr (List.mem_map.mpr ⟨q, (mq q).mpr r, e.symm⟩)
theorem few_ways {n k : Nat} {es : List (List Pk)} (hn : n = 1 ∨ n = 2) (nd : es.Nodup) (len : ∀ l ∈ es, l.length = k) (h : ∀ l ∈ es, ∀ q ∈ l, InU x n q) (hk : k ≤ 3) : es.length ≤ 1771561 := by
  have a := nodup_len nd (U := seqs (allP x n) k) fun l hl => by
    have := mem_seqs (a := allP x n) (d := l) fun q hq => mem_allP (h l hl q hq)
    rwa [len l hl] at this
  rw [lists_len] at a
  have b : (allP x n).length ^ k ≤ 121 ^ k := Nat.pow_le_pow_left (allP_len hn) k
  have c : 121 ^ k ≤ 121 ^ 3 := Nat.pow_le_pow_right (by omega) hk
  omega
theorem Layer.later_few (J : Job x fs N t) {p0 : Pk} {k i : Nat} {its nx : List Item} (L : Layer x fs t p0 k its) (R : Later fs t (its.take i) nx) (hk : k ≤ 2) : nx.length ≤ 1771561 := by
  have := few_ways (x := x) (k := k + 1) J.net.hn R.nd (fun l hl => ?_) (fun l hl q hq => ?_) (by omega)
  · rwa [List.length_map] at this
  · obtain ⟨n, hn, rfl⟩ := List.mem_map.mp hl
    obtain ⟨it, hi, e, _⟩ := R.from_ n hn
    rw [e, List.length_append, L.len it (List.mem_of_mem_take hi), List.length_singleton]
  · obtain ⟨n, hn, rfl⟩ := List.mem_map.mp hl
    obtain ⟨it, hi, e, ne, _, nx'⟩ := R.from_ n hn
    have hi := List.mem_of_mem_take hi
    rw [e] at hq
    rcases List.mem_append.mp hq with h1 | h1
    · exact L.in_ it hi q h1
    · rw [List.mem_singleton.mp h1]
      obtain ⟨m', hm'⟩ := List.exists_mem_of_ne_nil _ ne
      obtain ⟨m, hm, nn⟩ := nx' m' hm'
      exact (J.next (L.valid it hi m hm) nn).1.2
theorem Layer.ends_len {p0 : Pk} {k i : Nat} {its : List Item} {l : List Pk} (L : Layer x fs t p0 k its) (h : EndsOf fs t (its.take i) l) : l.length = k + 1 := by
  obtain ⟨it, hi, q, e, _⟩ := h
  rw [e, List.length_append, L.len it (List.mem_of_mem_take hi), List.length_singleton]
theorem Layer.ends_few (J : Job x fs N t) {p0 : Pk} {k i : Nat} {its : List Item} {es : List (List Pk)} (L : Layer x fs t p0 k its) (nd : es.Nodup) (me : ∀ l, l ∈ es ↔ EndsOf fs t (its.take i) l) (hk : k ≤ 2) : es.length ≤ 1771561 := by
  refine few_ways (x := x) (k := k + 1) J.net.hn nd (fun l hl => L.ends_len ((me l).mp hl)) (fun l hl q hq => ?_) (by omega)
  obtain ⟨it, hi, q', e, m, hm, st⟩ := (me l).mp hl
  have hi := List.mem_of_mem_take hi
  rw [e] at hq
  rcases List.mem_append.mp hq with h1 | h1
  · exact L.in_ it hi q h1
  · rw [List.mem_singleton.mp h1]
    exact J.stop (L.valid it hi m hm) st
theorem Layer.apart {p0 : Pk} {k i : Nat} {its : List Item} {it : Item} (L : Layer x fs t p0 k its) (h : its[i]? = some it) : ∀ j ∈ its.take i, j.1 ≠ it.1 := by
  intro j hj e
  obtain ⟨n, ln, e2⟩ := List.mem_take_iff_getElem.mp hj
  obtain ⟨li, e3⟩ := List.getElem?_eq_some_iff.mp h
  have nd := L.nd
  rw [List.nodup_iff_pairwise_ne, List.pairwise_map] at nd
  exact List.pairwise_iff_getElem.mp nd n i (by omega) li (by omega) (by rw [e2, e3]; exact e)
theorem depth_pks : ∀ l : List Pk, NestedKey.depthAll (l.map pkD) ≤ 3
  | [] => by simp [NestedKey.depthAll]
  | p :: l => by
    have a := depth_pk p
    have b := depth_pks l
    rw [List.map_cons, NestedKey.depthAll]
    omega
theorem depth_way (l : List Pk) : (wayD l).depth ≤ 8 := by
  have := depth_pks l
  rw [wayD, NestedKey.depth]
  omega
theorem alike_ways {l : List (List Pk)} (h : ∀ m ∈ l, m ≠ []) : Alike (l.map wayD) := by
  refine ⟨fun d hd d' hd' => ?_, .inl fun d hd => ?_⟩
  · obtain ⟨k, hk, rfl⟩ := List.mem_map.mp hd
    obtain ⟨k', hk', rfl⟩ := List.mem_map.mp hd'
    obtain ⟨x, _, rfl⟩ := List.mem_map.mp hk
    obtain ⟨y, _, rfl⟩ := List.mem_map.mp hk'
    exact alike_way x y
  · obtain ⟨k, hk, rfl⟩ := List.mem_map.mp hd
    obtain ⟨m, hm, rfl⟩ := List.mem_map.mp hk
    match m, h m hm with
    | p :: r, _ => exact ⟨_, _, by rw [wayD, List.map_cons, enc, encs]⟩
end
section
variable {P : Program} {w : World} {K : PySem.W.Frag} {mg : Str → Option Value} {base : Heap}
theorem nv_snoc {H : Hp} {l : List Pk} {q : Pk} {ys : List V} {v : V} {a : Addr} (h : H a = some (.tup (ys ++ [v]))) (n : NVs H (l.map pkD) ys) (m : NV H (pkD q) v) : NV H (wayD (l ++ [q])) (.ref a) := by
  rw [wayD, List.map_append]
  exact .tup h (n.append (.cons m .nil))
/-- a value of a layer -/
def ItemOk (H : Hp) (it : Item) (v : V) : Prop := ∃ b d c e, v = .ref b ∧ H b = some (.tup [.ref d, .ref c, .ref e]) ∧ NV H (wayD it.1) (.ref d) ∧ NV H (pkD it.2.1) (.ref c) ∧ H e = some (.tup (placeV it.2.2))
theorem ItemOk.mono {H H' : Hp} (t : Tp H H') {it : Item} {v : V} (h : ItemOk H it v) : ItemOk H' it v := by
  obtain ⟨b, d, c, e, h1, h2, h3, h4, h5⟩ := h
  exact ⟨b, d, c, e, h1, t.tup _ _ h2, h3.mono t, h4.mono t, t.tup _ _ h5⟩
theorem items_mono {H H' : Hp} (t : Tp H H') {its : List Item} {vs : List V} (h : Paired (ItemOk H) its vs) : Paired (ItemOk H') its vs := paired_mono (fun _ _ q => q.mono t) h
theorem paired_at {α β : Type} {R : α → β → Prop} : ∀ {l : List α} {m : List β} {i : Nat} {a : α}, Paired R l m → l[i]? = some a → ∃ b, m[i]? = some b ∧ R a b
  | _, _, 0, _, .cons h _, e => by cases e; exact ⟨_, rfl, h⟩
  | _, _, i + 1, _, .cons _ r, e => paired_at (i := i) r (by simpa using e)
theorem paired_app {α β : Type} {R : α → β → Prop} : ∀ {l l' : List α} {m m' : List β}, Paired R l m → Paired R l' m' → Paired R (l ++ l') (m ++ m')
  | _, _, _, _, .nil, q => q
  | _, _, _, _, .cons h r, q => .cons h (paired_app r q)
theorem paired_mapL {α β γ : Type} {R : β → γ → Prop} {g : α → β} : ∀ {l : List α} {m : List γ}, Paired (fun a y => R (g a) y) l m → Paired R (l.map g) m
  | _, _, .nil => .nil
  | _, _, .cons h r => .cons h (paired_mapL r)
theorem WalkSt.lst {T : TX K mg} {H : Hp} {a f l b : Addr} {x : Nat} {fs : List Str} {t : Src} {kl : List (D × V)} {xs : List V} (h : WalkSt P w T H a f l x fs t kl) (e : H b = some (.lst xs)) : b ≠ a ∧ b ≠ f ∧ b ≠ l := by
  obtain ⟨⟨dx, _, _, ea, _⟩, ⟨_, mf, _⟩, ml, _⟩ := h
  exact ⟨fun q => (by rw [q, ea] at e; cases e), md_ne_lst mf e, md_ne_lst ml e⟩
theorem WalkSt.no {T : TX K mg} {H : Hp} {a f l b : Addr} {x : Nat} {fs : List Str} {t : Src} {kl : List (D × V)} (h : WalkSt P w T H a f l x fs t kl) (e : H b = none) : b ≠ a ∧ b ≠ f ∧ b ≠ l := by
  obtain ⟨⟨dx, _, _, ea, _⟩, ⟨_, mf, _⟩, ml, _⟩ := h
  refine ⟨fun q => (by rw [q, ea] at e; cases e), fun q => ?_, fun q => ?_⟩
  · obtain ⟨zs, e1, _⟩ := mf
    rw [q, e1] at e
    cases e
  · obtain ⟨zs, e1, _⟩ := ml
    rw [q, e1] at e
    cases e
theorem WalkSt.put {T : TX K mg} {H : Hp} {a f l b : Addr} {x : Nat} {fs : List Str} {t : Src} {kl : List (D × V)} {xs ys : List V} (h : WalkSt P w T H a f l x fs t kl) (e : H b = some (.lst xs)) : WalkSt P w T (upd H b (.lst ys)) a f l x fs t kl ∧ Tp H (upd H b (.lst ys)) := by
  obtain ⟨n1, n2, n3⟩ := h.lst e
  have tp : Tp H (upd H b (.lst ys)) := Tp.write (by rw [e]; exact True.intro)
  exact ⟨h.at_ tp (upd_ne n1.symm) (upd_ne n2.symm) (upd_ne n3.symm), tp⟩
theorem WalkSt.newH {T : TX K mg} {H H1 : Hp} {a f l b : Addr} {x : Nat} {fs : List Str} {t : Src} {kl : List (D × V)} (h : WalkSt P w T H1 a f l x fs t kl) (k : Kept f l H H1) (e : H1 b = none) : H b = none := by
  obtain ⟨_, n2, n3⟩ := h.no e
  cases q : H b with
  | none => rfl
  | some o => rw [k.keep b o n2 n3 q] at e; cases e
def sp_ways_to (P : Program) (w : World) (T : TX K mg) : Sp := fun vs H Q _ => ∃ a c f l x fs N t kl, ∃ p : Pk, ∃ most : Nat, vs = [.ref a, .ref c, .int (most : Int)] ∧ WalkSt P w T H a f l x fs t kl ∧ Job x fs N t ∧ LiveOk x fs t kl ∧ InU x fs.length p ∧ most ≤ 2 ∧ NV H (pkD p) (.ref c) ∧
  ∀ r xs ls H', Kept f l H H' → H' r = some (.lst xs) → NVs H' (ls.map wayD) xs → Canon (WaysOf fs t p most) ls → Q (.ref r) H'
theorem ok_ways_to (T : TX K mg) : FnOk P w K mg base CX0 30 T.a_ways_to T.fd_ways_to ["walk", "packet", "most"] (sp_ways_to P w T) := by
  refine T.F_ways_to.ok sc_ways_to (fun vs H Q E h => ?_) (fun cdv A outer s H vs Q E hr h => ?_)
  · obtain ⟨a, c, f, l, x, fs, N, t, kl, p, most, rfl, _⟩ := h
    rfl
  · obtain ⟨a, c, f, l, x, fs, N, t, kl, p, most, rfl, W, J, L, ip, m2, np, k⟩ := h
    refine ⟨_, (pss_cons (ps_par (i := 3) (j := 4) (by rfl) sc_ways_to.nd rfl rfl (by decide) rfl rfl (pa_cons (pe_lst pa_nil) (pa_cons (pe_lst (pa_cons (pe_tup (pa_cons (pe_tup pa_nil) (pa_cons (pv 1) (pa_cons (pe_tup (pa_cons pe_int pa_nil)) pa_nil)))) pa_nil)) pa_nil)) (by rfl))
      (pss_cons (ps_for PassesOwn.never rfl (pi_range1 rfl T.z_range (pa_cons (pe_op op_add (pv 2) pe_int) pa_nil)) (pg_name (i := 5) sc_ways_to.nd rfl (Or.inl rfl)) (pss_cons (ps_par (i := 6) (j := 7) (by rfl) sc_ways_to.nd rfl rfl (by decide) rfl rfl (pa_cons (pe_lst pa_nil) (pa_cons (pe_lst pa_nil) pa_nil)) (by rfl))
        (pss_cons (ps_for PassesOwn.never rfl (pi_list (pv 4)) (pg_tup rfl (pgs_cons (pg_name (i := 8) sc_ways_to.nd rfl (Or.inr rfl)) (pgs_cons (pg_name (i := 9) sc_ways_to.nd rfl (Or.inl rfl)) (pgs_cons (pg_name (i := 10) sc_ways_to.nd rfl (Or.inl rfl)) pgs_nil)))) (pss_cons (ps_expr (pe_bm PySem.F.plainAttrs_list PySem.F.slot_list_extend PySem.F.type_list_extend mt_extend (pv 6) (pa_cons (pe_lc (own := [("end", 12)]) (g := (gName 12)) (tt := tYes) (te := (tTup (StX.tStar K (tVar 8) (tCons (tVar 12) tNil)))) rfl sc_ways_to.nd (pi_tup (pe_meth (pv 0) T.cl_Walk T.me_Walk_all_ends (ok_Walk_all_ends T) (hr.mono (by omega)) T.b_Walk_all_ends .nil pass0 (pa_cons (pv 10) (pa_cons (pv 9) pa_nil)))) (blkOk_by (own := [("end", 12)]) (N := ["walk", "packet", "most", "found", "layer", "many", "ending", "later", "done", "last", "places", "after", "end", "fresh"]) (sc := defScope s_ways_to) (by decide +kernel)) (fun _ _ _ _ _ => (pg_name (i := 12) sc_ways_to.nd rfl (Or.inl rfl))) (fun _ _ _ _ _ => pts_nil) (fun _ _ _ _ _ => (pe_tup (StX.pa_star (pv 8) (pa_cons (pv 12) pa_nil))))) pa_nil)))
          (pss_cons (ps_set (i := 11) sc_ways_to.nd rfl (Or.inr rfl) (pe_meth (pv 0) T.cl_Walk T.me_Walk_moves (ok_Walk_moves T) (hr.mono (by omega)) T.b_Walk_moves .nil pass0 (pa_cons (pv 10) (pa_cons (pv 9) pa_nil))))
          (pss_one (ps_expr (pe_bm PySem.F.plainAttrs_list PySem.F.slot_list_extend PySem.F.type_list_extend mt_extend (pv 7) (pa_cons (pe_lc (own := [("fresh", 13)]) (g := (gName 13)) (tt := tYes) (te := (tTup (tCons (tTup (StX.tStar K (tVar 8) (tCons (tVar 13) tNil))) (tCons (tVar 13) (tCons (tNGet P w (tVar 11) (tVar 13)) tNil))))) rfl sc_ways_to.nd (pi_n (pv 11)) (blkOk_by (own := [("fresh", 13)]) (N := ["walk", "packet", "most", "found", "layer", "many", "ending", "later", "done", "last", "places", "after", "end", "fresh"]) (sc := defScope s_ways_to) (by decide +kernel)) (fun _ _ _ _ _ => (pg_name (i := 13) sc_ways_to.nd rfl (Or.inl rfl))) (fun _ _ _ _ _ => pts_nil) (fun _ _ _ _ _ => (pe_tup (pa_cons (pe_tup (StX.pa_star (pv 8) (pa_cons (pv 13) pa_nil))) (pa_cons (pv 13) (pa_cons (pe_nget (hu_of2 hr) (pv 11) (pv 13) (fun _ _ => rfl)) pa_nil)))))) pa_nil)))))))
        (pss_cons (ps_expr (pe_bm PySem.F.plainAttrs_list PySem.F.slot_list_extend PySem.F.type_list_extend mt_extend (pv 3) (pa_cons (pe_callB (cr_sortL (hu_of3 hr)) (by rfl) T.z_sorted (by decide +kernel) (pa_cons (pv 6) pa_nil)) pa_nil)))
        (pss_one (ps_set (i := 4) sc_ways_to.nd rfl (Or.inl rfl) (pv 7)))))))
      (pss_one (ps_ret (pv 3))))), ?_⟩
    have hn := J.net.hn
    have sP := sortsP (w := w) J.net.hx J.net.hn
    refine ⟨by simp [sizeLine], fun FD nFD => ?_⟩
    have s1 := same_new (o := .lst []) nFD
    refine ⟨by simp [sizeLine], fun d0 nd0 => ?_⟩
    have s2 := same_new (o := .tup []) nd0
    refine ⟨_, rfl, by simp [sizeLine], fun e0 ne0 => ?_⟩
    have s3 := same_new (o := .tup [.int 0]) ne0
    refine ⟨by simp [sizeLine], fun b0 nb0 => ?_⟩
    have s4 := same_new (o := .tup [.ref d0, .ref c, .ref e0]) nb0
    refine ⟨by simp [sizeLine], fun LA0 nLA0 => ?_⟩
    have s5 := same_new (o := .lst [.ref b0]) nLA0
    have s15 := same_trans s1 (same_trans s2 (same_trans s3 (same_trans s4 s5)))
    refine ⟨_, _, rfl, ?_⟩
    refine ⟨_, rfl, _, _, rfl, rfl, _, rfl, by omega, by omega, ?_⟩
    refine for_range (lo := 0) (n := ((most : Int) + 1).toNat) (fun k σ H' => ∃ (ls : List (List Pk)) (fx : List V) (its : List Item) (lx : List V) (LA : Addr) (kl' : List (D × V)) (z5 z6 z7 z8 z9 z10 z11 : Option V), σ = [some (.ref a), some (.ref c), some (.int (most : Int)), some (.ref FD), some (.ref LA), z5, z6, z7, z8, z9, z10, z11, none, none] ∧
      Kept f l H H' ∧ WalkSt P w T H' a f l x fs t kl' ∧ LiveOk x fs t kl' ∧ H' FD = some (.lst fx) ∧ NVs H' (ls.map wayD) fx ∧ Canon (fun l => ∃ ms q, l = ms ++ [q] ∧ ms.length < k ∧ Run fs t p ms q) ls ∧ ls.length ≤ 1771561 * k ∧ LA ≠ FD ∧ H' LA = some (.lst lx) ∧ Paired (ItemOk H') its lx ∧ Layer x fs t p k its) ?_ ?_ ?_
    · refine ⟨[], [], [([], p, [0])], [.ref b0], LA0, kl, none, none, none, none, none, none, none, rfl, .same s15, W.same s15, L, ?_, .nil, Canon.nil.iff fun l => ⟨False.elim, fun ⟨ms, q, _, h, _⟩ => by omega⟩, Nat.zero_le _, ?_, upd_same, .cons ?_ .nil, .zero ip⟩
      · exact same_trans s2 (same_trans s3 (same_trans s4 s5)) _ _ upd_same
      · exact (ne_of_none (same_trans s2 (same_trans s3 s4) FD _ upd_same) nLA0).symm
      · exact ⟨b0, d0, c, e0, rfl, s5 _ _ upd_same, .tup (same_trans s3 (same_trans s4 s5) _ _ upd_same) .nil, np.mono (.same s15), same_trans s4 s5 _ _ upd_same⟩
    · rintro k5 σ5 H5 hk ⟨ls, fx, its, lx, LA, kl5, z5, z6, z7, z8, z9, z10, z11, rfl, K5, W5, L5, atF, nvF, cF, lsl, neLF, atL, pL, Ly⟩
      have hk : k5 ≤ 2 := by omega
      refine ⟨by simp [sizeLine], fun EA nEA => ?_⟩
      have s6 := same_new (o := .lst []) nEA
      refine ⟨by simp [sizeLine], fun TA nTA => ?_⟩
      have s7 := same_new (o := .lst []) nTA
      have s67 := same_trans s6 s7
      refine ⟨_, _, rfl, ?_⟩
      have EF : EA ≠ FD := (ne_of_none atF nEA).symm
      have EL : EA ≠ LA := (ne_of_none atL nEA).symm
      have TF : TA ≠ FD := (ne_of_none (s6 _ _ atF) nTA).symm
      have TL : TA ≠ LA := (ne_of_none (s6 _ _ atL) nTA).symm
      have TE : TA ≠ EA := (ne_of_none upd_same nTA).symm
      have nE0 := W5.newH K5 nEA
      have nT0 := (W5.same s6).newH (K5.trans (.same s6)) nTA
      refine ⟨_, rfl, LA, rfl, ⟨_, SqL.of (s67 _ _ atL)⟩, ?_⟩
      have W7 := W5.same s67
      have K7 := K5.trans (Kept.same (f := f) (l := l) s67)
      have atF7 := s67 _ _ atF
      have atL7 := s67 _ _ atL
      have nvF7 := nvF.mono (.same s67)
      have pL7 := items_mono (.same s67) pL
      have atE7 : (upd (upd H5 EA (.lst [])) TA (.lst [])) EA = some (.lst []) := s7 _ _ upd_same
      have atT7 : (upd (upd H5 EA (.lst [])) TA (.lst [])) TA = some (.lst []) := upd_same
      generalize upd (upd H5 EA (.lst [])) TA (.lst []) = H7 at *
      have lxl : lx.length = its.length := (Paired.length pL).symm
      refine for_st (steady_list (K := K) (a := LA) (xs := lx)) (fun i σ H' => ∃ (es : List (List Pk)) (nx : List Item) (ex tx : List V) (kl' : List (D × V)) (z8 z9 z10 z11 : Option V), σ = [some (.ref a), some (.ref c), some (.int (most : Int)), some (.ref FD), some (.ref LA), some (.int (0 + (k5 : Int))), some (.ref EA), some (.ref TA), z8, z9, z10, z11, none, none] ∧
        Kept f l H H' ∧ WalkSt P w T H' a f l x fs t kl' ∧ LiveOk x fs t kl' ∧ H' FD = some (.lst fx) ∧ H' LA = some (.lst lx) ∧ Tp H7 H' ∧ H' EA = some (.lst ex) ∧ NVs H' (es.map wayD) ex ∧ es.Nodup ∧ (∀ l, l ∈ es ↔ EndsOf fs t (its.take i) l) ∧ H' TA = some (.lst tx) ∧ Paired (ItemOk H') nx tx ∧ Later fs t (its.take i) nx) ?_ ?_ ?_ ?_
      · exact ⟨[], [], [], [], kl5, z8, z9, z10, z11, rfl, K7, W7, L5, atF7, atL7, Tp.refl _, atE7, .nil, List.nodup_nil, fun l => ⟨fun h => absurd h List.not_mem_nil, fun ⟨it, hi, _⟩ => by simp at hi⟩, atT7, .nil, Later.nil⟩
      · rintro i σ H8 _ ⟨es, nx, ex, tx, kl8, _, _, _, _, rfl, _, _, _, _, atL8, _⟩
        exact SqL.of atL8
      · rintro i v σ H8 hv ⟨es, nx, ex, tx, kl8, y8, y9, y10, y11, rfl, K8, W8, L8, atF8, atL8, tp8, atE8, nvE, esn, me, atT8, pT, R⟩
        have li : i < its.length := lxl ▸ (List.getElem?_eq_some_iff.mp hv).1
        have hi : its[i]? = some its[i] := List.getElem?_eq_getElem li
        generalize its[i] = it at hi
        have mem := List.mem_of_getElem? hi
        have tk : its.take (i + 1) = its.take i ++ [it] := by rw [List.take_add_one, hi]; rfl
        obtain ⟨v', hv', ok⟩ := paired_at pL7 hi
        obtain rfl := Option.some.inj (hv'.symm.trans hv)
        obtain ⟨b, d, cc, e, rfl, hb, hd, hc, he⟩ := ok.mono tp8
        obtain ⟨⟨dx, pf, b1, ea, _⟩, _, _, _⟩ := id W8
        obtain ⟨d', dv, ed, atd, nvd⟩ := nv_tup hd
        cases ed
        have ldv : dv.length = k5 := by rw [nvd.length, List.length_map, Ly.len it mem]
        have valid := Ly.valid it mem
        have few := Ly.few it mem
        have apart := Ly.apart hi
        refine ⟨b, _, rfl, SqT.of hb, rfl, _, _, rfl, _, _, rfl, _, _, rfl, rfl, ?_⟩
        refine ⟨_, rfl, .inl ⟨rfl, _, SqL.of atE8⟩, _, rfl, a, dx, _, rfl, ea, rfl, _, rfl, _, rfl, a, e, cc, f, l, x, fs, N, t, kl8, it.2.2, it.2.1, rfl, he, W8, J, valid, few, hc, fun q xs qs H9 K9 W9 atq nq qn mq => ⟨q, rfl, ⟨_, SqT.of atq⟩, fun D9 nD9 => ?_⟩⟩
        have lq := sP.small qn fun r hr => by
          obtain ⟨m, hm, st⟩ := (mq r).mp hr
          exact J.stop (valid m hm) st
        have lxs : xs.length = qs.length := by rw [nq.length, List.length_map]
        have keepL : ∀ {z : Addr} {ys : List V}, H8 z = some (.lst ys) → H9 z = some (.lst ys) := fun {z ys} h => K9.keep z _ (W8.lst h).2.1 (W8.lst h).2.2 h
        refine lc_each (l := qs) (steady_tup (K := K) (a := q) (xs := xs)) (fun H' s' => SqT.of (s' _ _ atq)) (fun r y H' => NV H' (wayD (it.1 ++ [r])) y) (fun {_ _ _ _} tp n => n.mono tp) nD9 lxs (by rw [sizeLine_eq]; omega) ?_ ?_
        · intro j r v9 H10 hr hv9 s10 Y yes
          obtain ⟨v', hv', nv'⟩ := nvs_at nq hr
          obtain rfl := Option.some.inj (hv'.symm.trans hv9)
          refine ⟨rfl, _, rfl, d, dv, rfl, .inl (SqT.of (s10 _ _ (K9.tp.tup _ _ atd))), _, rfl, by simp only [List.length_append, List.length_cons, List.length_nil]; rw [sizeLine_eq]; omega, fun q2 nq2 => ?_⟩
          have s11 := same_new (o := .tup (dv ++ [v'])) nq2
          exact yes _ _ s11 (nv_snoc upd_same (((nvd.mono K9.tp).mono (.same s10)).mono (.same s11)) ((nv'.mono (.same s10)).mono (.same s11)))
        · intro H10 ys s10 at10 pr10
          obtain ⟨esn2, me2⟩ := ends_snoc esn me apart qn mq
          rw [← tk] at me2
          have les2 := Ly.ends_few J esn2 me2 hk
          have lex : ex.length = es.length := by rw [nvE.length, List.length_map]
          have lys : ys.length = qs.length := (Paired.length pr10).symm
          have atE10 := s10 _ _ (keepL atE8)
          refine ⟨EA, D9, ex, ys, rfl, rfl, atE10, at10, by rw [List.length_append, List.length_map] at les2; rw [sizeLine_eq]; omega, ?_⟩
          have W10 := W9.same s10
          obtain ⟨W11, tp11⟩ := W10.put (ys := ex ++ ys) atE10
          have K10 := K9.trans (Kept.same (f := f) (l := l) s10)
          have K11 := (K8.trans K10).upd_new (o := .lst (ex ++ ys)) nE0
          have nvE11 : NVs (upd H10 EA (.lst (ex ++ ys))) ((es ++ qs.map fun q => it.1 ++ [q]).map wayD) (ex ++ ys) := by
            rw [List.map_append, List.map_map]
            exact ((nvE.mono K10.tp).append (paired_nvs pr10)).mono tp11
          have tp811 := K10.tp.trans tp11
          have atF11 : (upd H10 EA (.lst (ex ++ ys))) FD = some (.lst fx) := by rw [upd_ne EF.symm]; exact s10 _ _ (keepL atF8)
          have atL11 : (upd H10 EA (.lst (ex ++ ys))) LA = some (.lst lx) := by rw [upd_ne EL.symm]; exact s10 _ _ (keepL atL8)
          have atT11 : (upd H10 EA (.lst (ex ++ ys))) TA = some (.lst tx) := by rw [upd_ne TE]; exact s10 _ _ (keepL atT8)
          have atE11 : (upd H10 EA (.lst (ex ++ ys))) EA = some (.lst (ex ++ ys)) := upd_same
          generalize upd H10 EA (.lst (ex ++ ys)) = H11 at *
          obtain ⟨⟨dx2, pf2, b2, ea2, _⟩, _, _, _⟩ := id W11
          refine ⟨_, rfl, a, dx2, _, rfl, ea2, rfl, _, rfl, _, rfl, a, e, cc, f, l, x, fs, N, t, kl8, it.2.2, it.2.1, rfl, tp811.tup _ _ he, W11, J, L8, valid, few, hc.mono tp811, fun r kv qs2 pl kl2 H12 K12 W12 L12 fd ekv vals n1 ne n2 => ?_⟩
          refine ⟨_, rfl, .inl ⟨rfl, _, SqL.of (K12.keep TA _ (W11.lst atT11).2.1 (W11.lst atT11).2.2 atT11)⟩, _, rfl, r, kv, rfl, fd, fun Jw vs st ak D2 nD2 => ?_⟩
          have keep2 : ∀ {z : Addr} {ys : List V}, H11 z = some (.lst ys) → H12 z = some (.lst ys) := fun {z ys} h => K12.keep z _ (W11.lst h).2.1 (W11.lst h).2.2 h
          have qn2 : qs2.Nodup := by
            have n := fd.nodup
            rw [ekv] at n
            exact (List.pairwise_map.mp n).imp fun h e => h (by rw [e])
          have R2 := R.snoc apart qn2 n1 ne (fun q hq => by obtain ⟨_, _, _, h⟩ := vals q hq; exact h) n2
          rw [← tk] at R2
          have lnx2 := Ly.later_few J R2 hk
          rw [List.length_append, List.length_map] at lnx2
          have ltx : tx.length = nx.length := (Paired.length pT).symm
          refine lc_each (l := qs2) st (fun H' s' => Tp.same s') (fun q y H' => ItemOk H' (it.1 ++ [q], q, pl q) y) (fun {_ _ _ _} tp n => n.mono tp) nD2 (by rw [ak.1.length, ekv, List.length_map]) (by rw [sizeLine_eq]; omega) ?_ ?_
          · intro j q2 v12 H13 hq2 hv12 s13 Y yes
            have kq := (key_at (f := pkD) (ekv ▸ ak) hq2 hv12).mono (.same s13)
            obtain ⟨vq, _, rfl, _⟩ := nv_tup kq.1
            obtain ⟨tq, hv, htq, _⟩ := vals q2 (List.mem_of_getElem? hq2)
            have nvd13 := ((nvd.mono tp811).mono K12.tp).mono (.same s13)
            refine ⟨rfl, _, rfl, d, dv, rfl, .inl (SqT.of (s13 _ _ (K12.tp.tup _ _ (tp811.tup _ _ atd)))), _, rfl, by simp only [List.length_append, List.length_cons, List.length_nil]; rw [sizeLine_eq]; omega, fun q3 nq3 => ?_⟩
            have s14 := same_new (o := .tup (dv ++ [.ref vq])) nq3
            refine ⟨_, rfl, _, rfl, _, rfl, r, kv, pkD q2, .ref tq, rfl, .inr ((fd.mono (.same s13)).mono (.same s14)), kq.mono (.same s14), hv, by simp [sizeLine], fun q4 nq4 => ?_⟩
            have s15 := same_new (o := .tup [.ref q3, .ref vq, .ref tq]) nq4
            exact yes _ _ (same_trans s14 s15) ⟨q4, q3, vq, tq, rfl, upd_same, (nv_snoc upd_same (nvd13.mono (.same s14)) (kq.1.mono (.same s14))).mono (.same s15), kq.1.mono (.same (same_trans s14 s15)), s15 _ _ (s14 _ _ (s13 _ _ htq))⟩
          · intro H13 ys2 s13 at13 pr13
            have W13 := W12.same s13
            have atT13 := s13 _ _ (keep2 atT11)
            have lys2 : ys2.length = qs2.length := (Paired.length pr13).symm
            refine ⟨TA, D2, tx, ys2, rfl, rfl, atT13, at13, by rw [sizeLine_eq]; omega, ?_⟩
            obtain ⟨W14, tp14⟩ := W13.put (ys := tx ++ ys2) atT13
            have tpz := K12.tp.trans ((Tp.same s13).trans tp14)
            refine ⟨_, _, ex ++ ys, tx ++ ys2, kl2, _, _, _, _, rfl, (K11.trans (K12.trans (.same s13))).upd_new nT0, W14, L12, ?_, ?_, (tp8.trans tp811).trans tpz, ?_, nvE11.mono tpz, esn2, me2, upd_same, ?_, R2⟩
            · rw [upd_ne TF.symm]; exact s13 _ _ (keep2 atF11)
            · rw [upd_ne TL.symm]; exact s13 _ _ (keep2 atL11)
            · rw [upd_ne TE.symm]; exact s13 _ _ (keep2 atE11)
            · refine paired_app (items_mono (tp811.trans tpz) pT) (paired_mapL ?_)
              exact paired_mono (fun _ _ q => q.mono tp14) pr13
      · rintro σ H8 ⟨es, nx, ex, tx, kl8, y8, y9, y10, y11, rfl, K8, W8, L8, atF8, atL8, tp8, atE8, nvE, esn, me, atT8, pT, R⟩
        rw [lxl] at me R
        have les := Ly.ends_few J esn me hk
        have elen : ∀ l ∈ es, l.length = k5 + 1 := fun l hl => Ly.ends_len ((me l).mp hl)
        refine ⟨_, rfl, .inl ⟨rfl, _, SqL.of atF8⟩, _, rfl, EA, ex, es.map wayD, rfl, SqL.of atE8, nvE, alike_ways (fun m hm e => by have := elen m hm; rw [e] at this; simp at this), fun k hk => by obtain ⟨m, _, rfl⟩ := List.mem_map.mp hk; exact depth_way m, fun p1 ys np1 nys => ?_⟩
        obtain ⟨ms, em, cE⟩ := canon_sort esn elen
        rw [em] at nys
        have s9 := same_new (o := .lst ys) np1
        have lms := nodup_len cE.nd fun l hl => (cE.mem l).mp hl
        have lfx : fx.length = ls.length := by rw [nvF.length, List.length_map]
        have lys : ys.length = ms.length := by rw [nys.length, List.length_map]
        refine ⟨FD, p1, fx, ys, rfl, rfl, s9 _ _ atF8, upd_same, by rw [sizeLine_eq]; omega, ?_⟩
        obtain ⟨W9, tp9⟩ := (W8.same s9).put (ys := fx ++ ys) (s9 _ _ atF8)
        have tpz := (Tp.same s9).trans tp9
        refine ⟨_, rfl, ls ++ ms, fx ++ ys, nx, tx, TA, kl8, _, _, _, _, _, _, _, rfl, (K8.trans (.same s9)).upd_new nFD, W9, L8, upd_same, ?_, ?_, ?_, TF, ?_, items_mono tpz pT, ?_⟩
        · rw [List.map_append]
          exact (((nvF7.mono tp8).mono (.same s9)).append (nys.mono (.same s9))).mono tp9
        · have cE2 : Canon (fun l => ∃ ms q, l = ms ++ [q] ∧ ms.length = k5 ∧ Run fs t p ms q) ms := cE.iff fun l => (me l).trans (by rw [List.take_length]; exact Ly.ends J l)
          refine (cF.append cE2 ?_).iff fun l => ?_
          · rintro _ _ ⟨m1, q1, rfl, h1, _⟩ ⟨m2, q2, rfl, h2, _⟩
            simp only [List.length_append, List.length_singleton]
            omega
          · constructor
            · rintro (⟨m1, q1, e, h1, r⟩ | ⟨m1, q1, e, h1, r⟩)
              · exact ⟨m1, q1, e, by omega, r⟩
              · exact ⟨m1, q1, e, by omega, r⟩
            · rintro ⟨m1, q1, e, h1, r⟩
              rcases Nat.lt_succ_iff_lt_or_eq.mp h1 with h1 | h1
              · exact .inl ⟨m1, q1, e, h1, r⟩
              · exact .inr ⟨m1, q1, e, h1, r⟩
        · rw [List.length_append]; omega
        · rw [upd_ne TF]; exact s9 _ _ atT8
        · rw [List.take_length] at R
          exact Ly.next J R
    · rintro σ5 H5 ⟨ls, fx, its, lx, LA, kl5, z5, z6, z7, z8, z9, z10, z11, rfl, K5, W5, L5, atF, nvF, cF, lsl, neLF, atL, pL, Ly⟩
      refine ⟨_, rfl, k FD fx ls H5 K5 atF nvF (cF.iff fun l => ?_)⟩
      constructor
      · rintro ⟨m1, q1, e, h1, r⟩
        exact ⟨m1, q1, e, by omega, r⟩
      · rintro ⟨m1, q1, e, h1, r⟩
        exact ⟨m1, q1, e, by omega, r⟩
end
end Mw
/-! need_most, ways. -/
namespace Mw
open PySem L2
section
variable {P : Program} {w : World} {K : PySem.W.Frag} {mg : Str → Option Value} {base : Heap}
def sp_need_most : Sp := fun vs H Q _ => ∃ n : Nat, vs = [.int (n : Int)] ∧ n ≤ 6 ∧ Q .non H
theorem ok_need_most (T : TX K mg) : FnOk P w K mg base CX0 2 T.a_need_most T.fd_need_most ["most"] sp_need_most := by
  refine T.F_need_most.ok sc_need_most (fun vs H Q E h => ?_) (fun cdv A outer s H vs Q E hr h => ?_)
  · obtain ⟨n, rfl, _⟩ := h
    rfl
  · obtain ⟨n, rfl, h6, k⟩ := h
    refine ⟨_, (pss_one (ps_if (PW.pt (pw_or (pt_not (pt_val (pe_call (ok_is_number T) (hr.mono (by omega)) rfl T.m_is_number T.F_is_number.kp T.b_is_number .nil pass0 (pa_cons (pv 0) pa_nil)))) (pw_or1 (pt_not (pt_chain op_le op_le pe_int (pv 0) (pe_glob (by rfl) T.g_MOST_MARKS T.r_MOST_MARKS)))))) (pss_one ps_never) pss_nil)), ?_⟩
    exact ⟨_, rfl, _, rfl, true, rfl, iteF ⟨_, rfl, 0, _, rfl, rfl, true, congrArg V.bl (decide_eq_true (by omega)), iteT ⟨_, 6, rfl, rfl, true, congrArg V.bl (decide_eq_true (by omega)), iteF k⟩⟩⟩
def sp_ways (P : Program) (w : World) (T : TX K mg) : Sp := fun vs H Q _ => ∃ a b x fs N t, ∃ p : Pk, ∃ most : Nat, vs = [.ref a, .ref b, .int (most : Int)] ∧ Prog T H a fs t ∧ Job x fs N t ∧ InU x fs.length p ∧ most ≤ 2 ∧ NV H (pkD p) (.ref b) ∧
  ∀ r xs ls H', Same H H' → H' r = some (.lst xs) → NVs H' (ls.map wayD) xs → Canon (WaysOf fs t p most) ls → Q (.ref r) H'
theorem ok_ways (T : TX K mg) : FnOk P w K mg base CX0 31 T.a_ways T.fd_ways ["program", "packet", "most"] (sp_ways P w T) := by
  refine T.F_ways.ok sc_ways (fun vs H Q E h => ?_) (fun cdv A outer s H vs Q E hr h => ?_)
  · obtain ⟨a, b, x, fs, N, t, p, most, rfl, _⟩ := h
    rfl
  · obtain ⟨a, b, x, fs, N, t, p, most, rfl, pr, J, ip, m2, np, k⟩ := h
    refine ⟨_, (pss_cons (ps_expr (pe_call (ok_need_program T) (hr.mono (by omega)) rfl T.m_need_program T.F_need_program.kp T.b_need_program .nil pass0 (pa_cons (pv 0) (pa_cons pe_str pa_nil))))
      (pss_cons (ps_expr (pe_call (ok_need_packet T) (hr.mono (by omega)) rfl T.m_need_packet T.F_need_packet.kp T.b_need_packet .nil pass0 (pa_cons (pe_fld (pv 0) rfl) (pa_cons (pv 1) pa_nil))))
      (pss_cons (ps_expr (pe_call (ok_need_most T) (hr.mono (by omega)) rfl T.m_need_most T.F_need_most.kp T.b_need_most .nil pass0 (pa_cons (pv 2) pa_nil)))
      (pss_one (ps_ret (pe_call (ok_ways_to T) (hr.mono (by omega)) rfl T.m_ways_to T.F_ways_to.kp T.b_ways_to .nil pass0 (pa_cons (pe_make T.mk_Walk (ok_Walk_init T) (hr.mono (by omega)) (by rfl) T.m_Walk T.b_Walk_init .nil pass0 (pa_cons (pv 0) pa_nil)) (pa_cons (pv 1) (pa_cons (pv 2) pa_nil))))))))), ?_⟩
    obtain ⟨dx, pf, c, q, ha, hp, nc⟩ := id pr
    have lf := J.net.hn
    refine ⟨_, rfl, a, fs, t, _, rfl, pr, ?_⟩
    refine ⟨_, rfl, a, _, dx, _, _, rfl, ha, T.cl_Program, T.no_p_fields, rfl, _, rfl, pf, b, fs.map V.str, p, rfl, .inr (let ⟨o, e, _⟩ := hp; ⟨o, e⟩), np, by rw [List.length_map]; exact ip.1, by rw [ip.1]; omega, fun H1 s1 => ?_⟩
    refine ⟨_, rfl, most, rfl, by omega, ?_⟩
    refine ⟨_, rfl, fun xw dw nx ndx ne => ?_⟩
    have s2 : Same H1 (upd H1 dw (.own xw)) := same_new ndx
    have nx1 : (upd H1 dw (.own xw)) xw = none := by rw [upd_ne (fun e => ne e.symm)]; exact nx
    have s3 : Same H1 (upd (upd H1 dw (.own xw)) xw (.ins T.c_Walk dw [])) := same_trans s2 (same_new nx1)
    have s13 := same_trans s1 s3
    refine ⟨xw, dw, a, fs, t, x, rfl, upd_same, pr.same s13, fun f l H4 but nf nl W => ⟨rfl, ?_⟩⟩
    have s4 : Same H1 H4 := fun c o e => but c o (ne_of_none e nx) (s3 c o e)
    refine ⟨_, rfl, _, rfl, xw, b, f, l, x, fs, N, t, [], p, most, rfl, W, J, .nil, ip, m2, np.mono (.same (same_trans s1 s4)), fun r xs ls H5 K5 at5 n5 c5 => ?_⟩
    refine k r xs ls H5 (same_trans s1 fun c o e => ?_) at5 n5 c5
    have hc := s3 _ _ e
    refine K5.keep c o (fun e' => ?_) (fun e' => ?_) (s4 _ _ e)
    · rw [e', nf] at hc; cases hc
    · rw [e', nl] at hc; cases hc
end
end Mw
/-! The law's draws. -/
namespace Mw
open PySem L2
/-- the law's state: at most n numbers were mixed -/
def St (H : Hp) (s wl cl : Addr) (n : Nat) : Prop := ∃ (r : Int) (t : Nat) (ws cs : List Int), H s = some (.dK [(.inr "wide", .ref wl), (.inr "cells", .ref cl), (.inr "rest", .int r), (.inr "turn", .int (t : Int))]) ∧ H wl = some (.lst (ws.map V.int)) ∧ H cl = some (.lst (cs.map V.int)) ∧ wl ≠ cl ∧ t ≤ n
theorem nvs_ints {H : Hp} : ∀ l : List Int, NVs H (l.map .num) (l.map V.int)
  | [] => .nil
  | i :: l => .cons (.num i) (nvs_ints l)
theorem St.le {H : Hp} {s wl cl : Addr} {n m : Nat} (h : St H s wl cl n) (le : n ≤ m) : St H s wl cl m := by
  obtain ⟨r, t, ws, cs, e1, e2, e3, ne, l⟩ := h
  exact ⟨r, t, ws, cs, e1, e2, e3, ne, by omega⟩
theorem St.same {H H' : Hp} {s wl cl : Addr} {n : Nat} (h : St H s wl cl n) (q : Same H H') : St H' s wl cl n := by
  obtain ⟨r, t, ws, cs, e1, e2, e3, ne, l⟩ := h
  exact ⟨r, t, ws, cs, q _ _ e1, q _ _ e2, q _ _ e3, ne, l⟩
theorem get_wide {a b c d : V} : valV [((.inr "wide" : Key), a), (.inr "cells", b), (.inr "rest", c), (.inr "turn", d)] (.inr "wide") = some a := valV_pos rfl
theorem get_cells {a b c d : V} : valV [((.inr "wide" : Key), a), (.inr "cells", b), (.inr "rest", c), (.inr "turn", d)] (.inr "cells") = some b := by
  rw [valV_neg (show (.inr "wide" : Key) ≠ .inr "cells" by decide +kernel)]; exact valV_pos rfl
theorem get_rest {a b c d : V} : valV [((.inr "wide" : Key), a), (.inr "cells", b), (.inr "rest", c), (.inr "turn", d)] (.inr "rest") = some c := by
  rw [valV_neg (show (.inr "wide" : Key) ≠ .inr "rest" by decide +kernel), valV_neg (show (.inr "cells" : Key) ≠ .inr "rest" by decide +kernel)]; exact valV_pos rfl
theorem get_turn {a b c d : V} : valV [((.inr "wide" : Key), a), (.inr "cells", b), (.inr "rest", c), (.inr "turn", d)] (.inr "turn") = some d := by
  rw [valV_neg (show (.inr "wide" : Key) ≠ .inr "turn" by decide +kernel), valV_neg (show (.inr "cells" : Key) ≠ .inr "turn" by decide +kernel), valV_neg (show (.inr "rest" : Key) ≠ .inr "turn" by decide +kernel)]; exact valV_pos rfl
theorem put_rest {a b c d x : V} : putK [((.inr "wide" : Key), a), (.inr "cells", b), (.inr "rest", c), (.inr "turn", d)] (.inr "rest") x = [(.inr "wide", a), (.inr "cells", b), (.inr "rest", x), (.inr "turn", d)] := by rfl
theorem put_turn {a b c d x : V} : putK [((.inr "wide" : Key), a), (.inr "cells", b), (.inr "rest", c), (.inr "turn", d)] (.inr "turn") x = [(.inr "wide", a), (.inr "cells", b), (.inr "rest", c), (.inr "turn", x)] := by rfl
section
variable {P : Program} {w : World} {K : PySem.W.Frag} {mg : Str → Option Value} {base : Heap}
def sp__law_mixed : Sp := fun vs H Q _ => ∃ s wl cl n, vs = [.ref s] ∧ St H s wl cl n ∧ n ≤ 1000000 ∧ ∀ (r : Int) H', Kept s wl H H' → St H' s wl cl (n + 1) → Q (.int r) H'
theorem ok__law_mixed (T : TX K mg) : FnOk P w K mg base CX0 1 T.a__law_mixed T.fd__law_mixed ["state"] sp__law_mixed := by
  refine T.F__law_mixed.ok sc__law_mixed (fun vs H Q E h => ?_) (fun cdv A outer z H vs Q E hr h => ?_)
  · obtain ⟨s, wl, cl, n, rfl, _⟩ := h
    rfl
  · obtain ⟨s, wl, cl, n, rfl, st, h6, k⟩ := h
    refine ⟨_, (pss_cons (ps_par (i := 1) (j := 2) (by rfl) sc__law_mixed.nd rfl rfl (by decide) rfl rfl (pa_cons (pe_op op_add (pe_dget (hu_of hr) (pv 0) pe_str (fun _ _ => rfl)) pe_int) (pa_cons pe_int pa_nil)) (by rfl))
      (pss_cons (ps_dput (hu_of hr) (pv 0) pe_str (pv 1) rfl)
      (pss_cons (ps_for PassesOwn.never rfl (pi_list (pe_lst (pa_cons pe_int (pa_cons pe_int (pa_cons pe_int (pa_cons pe_int pa_nil)))))) (pg_name (i := 3) sc__law_mixed.nd rfl (Or.inl rfl)) (pss_cons (ps_set (i := 4) sc__law_mixed.nd rfl (Or.inl rfl) (pe_op op_add (pe_op op_mul pe_int (pv 1)) (pe_op op_fdivW (pv 3) pe_int)))
        (pss_cons (ps_for PassesOwn.never rfl (pi_list (pe_dget (hu_of hr) (pv 0) pe_str (fun _ _ => rfl))) (pg_name (i := 5) sc__law_mixed.nd rfl (Or.inl rfl)) (pss_one (ps_set (i := 4) sc__law_mixed.nd rfl (Or.inl rfl) (pe_op op_mod (pe_callTy call_int1 (by rfl) T.z_int (by decide +kernel) (pa_cons (pe_op op_add (pe_op op_add (pe_op op_mul (pv 4) pe_int) (pv 5)) (pv 1)) pa_nil)) (pv 3)))))
        (pss_one (ps_set (i := 2) sc__law_mixed.nd rfl (Or.inl rfl) (pe_op op_add (pe_op op_mul (pv 2) pe_int) (pe_op op_mod (pe_callTy call_int1 (by rfl) T.z_int (by decide +kernel) (pa_cons (pe_op op_pow (pv 4) pe_int) pa_nil)) (pv 3))))))))
      (pss_one (ps_ret (pv 2)))))), ?_⟩
    obtain ⟨r, t, ws, cs, hs, hw, hc, wc, tn⟩ := st
    refine ⟨_, rfl, s, _, rfl, .inl ⟨_, .inr "turn", .inl hs, rfl, get_turn.symm⟩, _, _, rfl, rfl, _, _, rfl, ?_⟩
    refine ⟨_, rfl, _, rfl, s, _, rfl, .inl ⟨_, .inr "turn", hs, rfl, by show 4 < sizeLine; decide, rfl⟩, ?_⟩
    rw [put_turn]
    have ws' : s ≠ wl := fun e => by rw [e, hw] at hs; cases hs
    have cs' : s ≠ cl := fun e => by rw [e, hc] at hs; cases hs
    have m : Mut (H s) := by rw [hs]; exact True.intro
    have K1 : Kept s wl H (upd H s (.dK [(.inr "wide", .ref wl), (.inr "cells", .ref cl), (.inr "rest", .int r), (.inr "turn", .int ((t : Int) + 1))])) := Kept.f m
    have st1 : St (upd H s (.dK [(.inr "wide", .ref wl), (.inr "cells", .ref cl), (.inr "rest", .int r), (.inr "turn", .int ((t : Int) + 1))])) s wl cl (n + 1) :=
      ⟨r, t + 1, ws, cs, upd_same, by rw [upd_ne ws'.symm]; exact hw, by rw [upd_ne cs'.symm]; exact hc, wc, by omega⟩
    have hs1 : (upd H s (.dK [(.inr "wide", .ref wl), (.inr "cells", .ref cl), (.inr "rest", .int r), (.inr "turn", .int ((t : Int) + 1))])) s = some (.dK [(.inr "wide", .ref wl), (.inr "cells", .ref cl), (.inr "rest", .int r), (.inr "turn", .int ((t : Int) + 1))]) := upd_same
    have hc1 : (upd H s (.dK [(.inr "wide", .ref wl), (.inr "cells", .ref cl), (.inr "rest", .int r), (.inr "turn", .int ((t : Int) + 1))])) cl = some (.lst (cs.map V.int)) := by rw [upd_ne cs'.symm]; exact hc
    generalize upd H s (.dK [(.inr "wide", .ref wl), (.inr "cells", .ref cl), (.inr "rest", .int r), (.inr "turn", .int ((t : Int) + 1))]) = H1 at *
    refine ⟨by show 4 ≤ sizeLine; decide, fun pr npr => ⟨pr, rfl, ⟨_, SqL.of upd_same⟩, ?_⟩⟩
    have s2 := same_new (o := .lst ([2147483629, 2147483587, 2147483579, 2147483563].map V.int)) npr
    have k2 : Kept s wl H1 (upd H1 pr (.lst ([2147483629, 2147483587, 2147483579, 2147483563].map V.int))) := Kept.same s2
    refine for_st (steady_list (K := K) (a := pr) (xs := [2147483629, 2147483587, 2147483579, 2147483563].map V.int)) (fun i σ H' => ∃ (g : Int) (z3 z4 z5 : Option V), σ = [some (.ref s), some (.int ((t : Int) + 1)), some (.int g), z3, z4, z5] ∧ H' = upd H1 pr (.lst ([2147483629, 2147483587, 2147483579, 2147483563].map V.int))) ?_ ?_ ?_ ?_
    · exact ⟨0, none, none, none, rfl, rfl⟩
    · rintro i σ H' _ ⟨_, _, _, _, _, rfl⟩
      exact SqL.of upd_same
    · rintro i x σ H' hx ⟨g, z3, z4, z5, rfl, rfl⟩
      obtain ⟨pm, hp, rfl⟩ := Option.map_eq_some_iff.mp (by rw [← List.getElem?_map]; exact hx)
      have pb : 0 < pm ∧ pm < 2147483648 := by
        have := List.mem_of_getElem? hp
        simp at this
        omega
      have d0 : 0 ≤ pm / 29 := Int.ediv_nonneg (by omega) (by omega)
      have d1 : pm / 29 ≤ pm := Int.ediv_le_self _ (by omega)
      refine ⟨_, rfl, 57731, _, rfl, rfl, .inl ⟨by decide, by decide⟩, _, rfl, pm, 29, rfl, rfl, ⟨by decide, by decide⟩, _, _, rfl, rfl, ?_⟩
      refine ⟨_, rfl, s, _, rfl, .inl ⟨_, .inr "cells", .inl (s2 _ _ hs1), rfl, get_cells.symm⟩, cl, rfl, ⟨_, SqL.of (s2 _ _ hc1)⟩, ?_⟩
      refine for_st (steady_list (K := K) (a := cl) (xs := cs.map V.int)) (fun i σ H' => ∃ (b : Int) (z5 : Option V), σ = [some (.ref s), some (.int ((t : Int) + 1)), some (.int g), some (.int pm), some (.int b), z5] ∧ 0 ≤ b ∧ b < 18446744073709551616 ∧ H' = upd H1 pr (.lst ([2147483629, 2147483587, 2147483579, 2147483563].map V.int))) ?_ ?_ ?_ ?_
      · exact ⟨_, z5, rfl, by omega, by omega, rfl⟩
      · rintro j σ H' _ ⟨_, _, _, _, _, rfl⟩
        exact SqL.of (s2 _ _ hc1)
      · rintro j x σ H' hx ⟨b, z5, rfl, b0, b1, rfl⟩
        obtain ⟨cv, hcv, rfl⟩ := Option.map_eq_some_iff.mp (by rw [← List.getElem?_map]; exact hx)
        refine ⟨_, rfl, b, 48271, rfl, rfl, .inr ⟨by decide, by decide⟩, _, rfl, _, _, rfl, rfl, _, rfl, _, _, rfl, rfl, .inl ⟨_, rfl, _, rfl, _, _, rfl, rfl, pb.1, _, _, rfl, Int.emod_nonneg _ (by omega), ?_, rfl⟩⟩
        have := Int.emod_lt_of_pos (b * 48271 + cv + ((t : Int) + 1)) pb.1
        omega
      · rintro σ H' ⟨b, z5, rfl, b0, b1, rfl⟩
        refine ⟨_, rfl, g, 2147483647, rfl, rfl, .inr ⟨by decide, by decide⟩, _, rfl, b, 5, rfl, rfl, ⟨by decide, by decide, by omega⟩, .inl ⟨_, rfl, _, rfl, _, _, rfl, rfl, pb.1, _, _, rfl, rfl, ?_⟩⟩
        exact ⟨_, _, _, _, rfl, rfl⟩
    · rintro σ H' ⟨g, z3, z4, z5, rfl, rfl⟩
      exact ⟨_, rfl, k g _ (K1.trans k2) (st1.same s2)⟩
def sp__law_take : Sp := fun vs H Q _ => ∃ s wl cl n size, vs = [.ref s, .int size] ∧ St H s wl cl n ∧ n ≤ 1000000 ∧ 0 < size ∧ size ≤ 1000000000000 ∧ ∀ (r : Nat) H', (r : Int) < size → Kept s wl H H' → St H' s wl cl (n + 1) → Q (.int (r : Int)) H'
theorem ok__law_take (T : TX K mg) : FnOk P w K mg base CX0 2 T.a__law_take T.fd__law_take ["state", "size"] sp__law_take := by
  refine T.F__law_take.ok sc__law_take (fun vs H Q E h => ?_) (fun cdv A outer z H vs Q E hr h => ?_)
  · obtain ⟨s, wl, cl, n, size, rfl, _⟩ := h
    rfl
  · obtain ⟨s, wl, cl, n, size, rfl, st, h6, s0, s1, k⟩ := h
    refine ⟨_, (pss_mid (ps_if (pt_cmp (pc_eqI (pe_dget (hu_of hr) (pv 0) pe_str (fun _ _ => rfl)) pe_int)) (pss_one (ps_dput (hu_of hr) (pv 0) pe_str (pe_ifExp (pt_cmpR (op_neD hr.units) (pe_dget (hu_of hr) (pv 0) pe_str (fun _ _ => rfl)) (pe_lst pa_nil) (nomark _)) (pe_bm PySem.F.plainAttrs_list PySem.F.slot_list_pop PySem.F.type_list_pop mt_popAt (pe_dget (hu_of hr) (pv 0) pe_str (fun _ _ => rfl)) (pa_cons pe_int pa_nil)) (pe_call (ok__law_mixed T) (hr.mono (by omega)) rfl T.m__law_mixed T.F__law_mixed.kp T.b__law_mixed .nil pass0 (pa_cons (pv 0) pa_nil))) rfl)) pss_nil)
      (pss_cons (ps_set (i := 2) sc__law_take.nd rfl (Or.inl rfl) (pe_op op_mod (pe_callTy call_int1 (by rfl) T.z_int (by decide +kernel) (pa_cons (pe_dget (hu_of hr) (pv 0) pe_str (fun _ _ => rfl)) pa_nil)) (pv 1)))
      (pss_cons (ps_dput (hu_of hr) (pv 0) pe_str (pe_op op_fdivW (pe_dget (hu_of hr) (pv 0) pe_str (fun _ _ => rfl)) (pv 1)) rfl)
      (pss_one (ps_ret (pv 2)))))), ?_⟩
    obtain ⟨r, t, ws, cs, hs, hw, hc, wc, tn⟩ := id st
    have ws' : s ≠ wl := fun e => by rw [e, hw] at hs; cases hs
    have cs' : s ≠ cl := fun e => by rw [e, hc] at hs; cases hs
    refine ⟨fun σ H' => σ = [some (.ref s), some (.int size), none] ∧ Kept s wl H H' ∧ St H' s wl cl (n + 1), ?_, ?_⟩
    · refine ⟨_, rfl, s, _, rfl, .inl ⟨_, .inr "rest", .inl hs, rfl, get_rest.symm⟩, r, 0, rfl, rfl, _, rfl, iteB (fun z => ?_) fun nz => ⟨rfl, .same (same_refl _), st.le (by omega)⟩⟩
      refine ⟨_, rfl, s, _, rfl, .inl ⟨_, .inr "wide", .inl hs, rfl, get_wide.symm⟩, by show 0 ≤ sizeLine; decide, fun p np => ?_⟩
      have s2 := same_new (o := .lst []) np
      have shp : ∀ k ∈ ws.map NestedKey.num, numk k = true ∧ k.depth ≤ 8 := fun k hk => by
        obtain ⟨i, _, rfl⟩ := List.mem_map.mp hk
        exact ⟨rfl, by simp [NestedKey.depth]⟩
      have st2 := st.same s2
      refine ⟨_, _, .lst (SqL.of (s2 _ _ hw)) (nvs_dp (nvs_ints ws)), .lst (SqL.of upd_same) .nil, shaped_list shp, rfl, _, rfl, iteB (fun ne => ?_) fun em => ?_⟩
      · obtain ⟨w0, ws2, rfl⟩ : ∃ w0 ws2, ws = w0 :: ws2 := by
          cases ws with
          | nil => cases ne
          | cons a b => exact ⟨a, b, rfl⟩
        have m2 : Mut (upd H p (.lst []) wl) := by rw [s2 _ _ hw]; exact True.intro
        refine ⟨_, rfl, s, _, rfl, .inl ⟨_, .inr "wide", .inl (s2 _ _ hs), rfl, get_wide.symm⟩, .inl ⟨rfl, _, SqL.of (s2 _ _ hw)⟩, wl, _, 0, 0, .int w0, rfl, rfl, s2 _ _ hw, by decide, by decide, by simp [seqIndex?], rfl, ?_⟩
        have hs3 : (upd (upd H p (.lst [])) wl (.lst (ws2.map V.int))) s = _ := (upd_ne ws').trans (s2 _ _ hs)
        refine ⟨_, rfl, s, _, rfl, .inl ⟨_, .inr "rest", hs3, rfl, by show 4 < sizeLine; decide, rfl⟩, rfl, ?_, ?_⟩
        · exact (Kept.same s2).trans ((Kept.l m2).trans (Kept.f (cast (congrArg Mut hs3).symm True.intro)))
        · rw [put_rest]
          have wp : cl ≠ wl := fun e => wc e.symm
          exact ⟨w0, t, ws2, cs, upd_same, by rw [upd_ne ws'.symm]; exact upd_same, by rw [upd_ne cs'.symm, upd_ne wp]; exact s2 _ _ hc, wc, by omega⟩
      · refine ⟨_, rfl, s, wl, cl, n, rfl, st2, h6, fun v H3 k3 st3 => ?_⟩
        obtain ⟨r3, t3, ws3, cs3, hs3, hw3, hc3, _, tn3⟩ := st3
        refine ⟨_, rfl, s, _, rfl, .inl ⟨_, .inr "rest", hs3, rfl, by show 4 < sizeLine; decide, rfl⟩, rfl, ?_, ?_⟩
        · exact (Kept.same s2).trans (k3.trans (Kept.f (by rw [hs3]; exact True.intro)))
        · rw [put_rest]
          exact ⟨v, t3, ws3, cs3, upd_same, by rw [upd_ne ws'.symm]; exact hw3, by rw [upd_ne cs'.symm]; exact hc3, wc, tn3⟩
    · rintro σ H1 ⟨rfl, K1, st1⟩
      obtain ⟨r1, t1, ws1, cs1, hs1, hw1, hc1, _, tn1⟩ := id st1
      have e0 := Int.emod_nonneg r1 (show size ≠ 0 by omega)
      have e1 := Int.emod_lt_of_pos r1 s0
      refine ⟨_, rfl, s, _, rfl, .inl ⟨_, .inr "rest", .inl hs1, rfl, get_rest.symm⟩, .inl ⟨r1, rfl, _, rfl, _, _, rfl, rfl, s0, ?_⟩⟩
      refine ⟨_, rfl, s, _, rfl, .inl ⟨_, .inr "rest", .inl hs1, rfl, get_rest.symm⟩, _, rfl, r1, size, rfl, rfl, wide_div (b := 64) s0 (by omega) (by omega) (by omega), ?_⟩
      refine ⟨_, rfl, s, _, rfl, .inl ⟨_, .inr "rest", hs1, rfl, by show 4 < sizeLine; decide, rfl⟩, _, rfl, ?_⟩
      show Q (V.int (r1 % size)) _
      rw [put_rest, show r1 % size = ((r1 % size).toNat : Int) by omega]
      refine k _ _ (by omega) (K1.trans (Kept.f (by rw [hs1]; exact True.intro))) ?_
      exact ⟨_, t1, ws1, cs1, upd_same, by rw [upd_ne ws'.symm]; exact hw1, by rw [upd_ne cs'.symm]; exact hc1, wc, tn1⟩
end
end Mw
/-! pick, shuffled, begun. -/
namespace Mw
open PySem PySem.Spec PyProof.Rows L2
section
variable {P : Program} {w : World} {K : PySem.W.Frag} {mg : Str → Option Value} {base : Heap}
/-- a list that is not the law's own, a tuple -/
def Some_ (H : Hp) (wl b : Addr) (xs : List V) : Prop := (H b = some (.lst xs) ∧ b ≠ wl) ∨ H b = some (.tup xs)
theorem Some_.kept {H H' : Hp} {s wl cl b : Addr} {n : Nat} {xs : List V} (h : Some_ H wl b xs) (st : St H s wl cl n) (k : Kept s wl H H') : Some_ H' wl b xs := by
  obtain ⟨_, _, _, _, e, _⟩ := st
  refine h.imp (fun ⟨a, c⟩ => ⟨k.keep b _ (fun q => ?_) c a, c⟩) fun a => k.tp.tup _ _ a
  rw [q, e] at a
  cases a
theorem Some_.sq {H : Hp} {wl b : Addr} {xs : List V} (h : Some_ H wl b xs) : SqL K H b xs ∨ SqT K H b xs := h.imp (fun a => SqL.of a.1) fun a => SqT.of a
def sp__law_pick : Sp := fun vs H Q _ => ∃ s wl cl n b xs, vs = [.ref s, .ref b] ∧ St H s wl cl n ∧ n ≤ 1000000 ∧ Some_ H wl b xs ∧ 0 < xs.length ∧ xs.length ≤ 1000 ∧ ∀ v H', v ∈ xs → Kept s wl H H' → St H' s wl cl (n + 1) → Q v H'
theorem ok__law_pick (T : TX K mg) : FnOk P w K mg base CX0 3 T.a__law_pick T.fd__law_pick ["state", "some"] sp__law_pick := by
  refine T.F__law_pick.ok sc__law_pick (fun vs H Q E h => ?_) (fun cdv A outer z H vs Q E hr h => ?_)
  · obtain ⟨s, wl, cl, n, b, xs, rfl, _⟩ := h
    rfl
  · obtain ⟨s, wl, cl, n, b, xs, rfl, st, h6, sb, l0, l1, k⟩ := h
    refine ⟨_, (pss_one (ps_ret (pe_ix ix_seq (pv 1) (pe_call (ok__law_take T) (hr.mono (by omega)) rfl T.m__law_take T.F__law_take.kp T.b__law_take .nil pass0 (pa_cons (pv 0) (pa_cons (pe_callB call_len_seq (by rfl) T.z_len (by decide +kernel) (pa_cons (pv 1) pa_nil)) pa_nil))) (fun _ _ => rfl)))), ?_⟩
    refine ⟨_, rfl, _, rfl, _, rfl, b, xs, rfl, sb.sq, s, wl, cl, n, _, rfl, st, h6, by omega, by omega, fun r H1 lr k1 st1 => ?_⟩
    have hv : xs[r]? = some xs[r] := List.getElem?_eq_getElem (by omega)
    have go := k xs[r] H1 (List.mem_of_getElem? hv) k1 st1
    rcases sb.kept st k1 with ⟨e, _⟩ | e
    · exact .inl ⟨b, xs, _, _, rfl, rfl, SqL.of e, atI_nat hv, go⟩
    · exact .inr (.inl ⟨b, xs, _, _, rfl, rfl, SqT.of e, atI_nat hv, go⟩)
def flatOk : V → Bool
  | .int _ => true
  | .str x => PyData.strOk x
  | _ => false
def dataOf : V → D
  | .int i => .num i
  | .str x => .text x
  | _ => .none
theorem nv_flat {H : Hp} {v : V} (h : flatOk v = true) : NV H (dataOf v) v := by
  cases v with
  | int i => exact .num i
  | str x => exact .text x
  | _ => cases h
theorem nvs_flat {H : Hp} : ∀ {vs : List V}, (∀ v ∈ vs, flatOk v = true) → NVs H (vs.map dataOf) vs
  | [], _ => .nil
  | v :: vs, h => .cons (nv_flat (h v List.mem_cons_self)) (nvs_flat fun u hu => h u (List.mem_cons_of_mem _ hu))
theorem canLay_flats : ∀ {vs : List V}, (∀ v ∈ vs, flatOk v = true) → PyData.canLayAll0 (encs (vs.map dataOf)) = true ∧ PyData.depthAll (encs (vs.map dataOf)) = 0
  | [], _ => ⟨rfl, rfl⟩
  | v :: vs, h => by
    obtain ⟨a, b⟩ := canLay_flats fun u hu => h u (List.mem_cons_of_mem _ hu)
    have c := h v List.mem_cons_self
    rw [List.map_cons, encs, PyData.canLayAll0, PyData.depthAll, a, b]
    cases v with
    | int i => exact ⟨rfl, rfl⟩
    | str x => exact ⟨by rw [dataOf, enc, PyData.canLay0, Bool.and_true]; exact c, rfl⟩
    | _ => cases c
theorem shaped_flats {vs : List V} (h : ∀ v ∈ vs, flatOk v = true) : SeqAt.shaped (.list (encs (vs.map dataOf))) = true := by
  obtain ⟨a, b⟩ := canLay_flats h
  rw [SeqAt.shaped, PyData.canLay0, a, PyData.depth, b]
  rfl
theorem perm_erase {α : Type} : ∀ {l : List α} {r : Nat} {v : α}, l[r]? = some v → l.Perm (v :: l.eraseIdx r)
  | a :: l, 0, v, h => by cases h; exact List.Perm.refl _
  | a :: l, r + 1, v, h => ((perm_erase (l := l) (r := r) (by simpa using h)).cons a).trans (List.Perm.swap v a _)
theorem paired_fun {α : Type} {f : α → V} {l : List α} {ys : List V} (p : Paired (fun a y => y = f a) l ys) : ys = l.map f := by
  induction p with
  | nil => rfl
  | cons h _ ih => rw [List.map_cons, ← h, ← ih]
def sp__law_shuffled : Sp := fun vs H Q _ => ∃ s wl cl n b xs, vs = [.ref s, .ref b] ∧ St H s wl cl n ∧ n + xs.length ≤ 1000000 ∧ Some_ H wl b xs ∧ (∀ v ∈ xs, flatOk v = true) ∧ xs.length ≤ 1000 ∧
  ∀ r ys H', ys.Perm xs → H r = none → H' r = some (.lst ys) → Kept s wl H H' → St H' s wl cl (n + xs.length) → Q (.ref r) H'
theorem ok__law_shuffled (T : TX K mg) : FnOk P w K mg base CX0 3 T.a__law_shuffled T.fd__law_shuffled ["state", "some"] sp__law_shuffled := by
  refine T.F__law_shuffled.ok sc__law_shuffled (fun vs H Q E h => ?_) (fun cdv A outer z H vs Q E hr h => ?_)
  · obtain ⟨s, wl, cl, n, b, xs, rfl, _⟩ := h
    rfl
  · obtain ⟨s, wl, cl, n, b, xs, rfl, st, h6, sb, fl, l1, k⟩ := h
    refine ⟨_, (pss_cons (ps_par (i := 2) (j := 3) (by rfl) sc__law_shuffled.nd rfl rfl (by decide) rfl rfl (pa_cons (pe_callTy call_list_of (by rfl) T.z_list (by decide +kernel) (pa_cons (pv 1) pa_nil)) (pa_cons (pe_lst pa_nil) pa_nil)) (by rfl))
      (pss_cons (ps_while PassesOwn.never (pt_cmpR (op_neD hr.units) (pv 2) (pe_lst pa_nil) (nomark _)) (pss_one (ps_expr (pe_bm PySem.F.plainAttrs_list PySem.F.slot_list_append PySem.F.type_list_append mt_append (pv 3) (pa_cons (pe_bm PySem.F.plainAttrs_list PySem.F.slot_list_pop PySem.F.type_list_pop mt_popAt (pv 2) (pa_cons (pe_call (ok__law_take T) (hr.mono (by omega)) rfl T.m__law_take T.F__law_take.kp T.b__law_take .nil pass0 (pa_cons (pv 0) (pa_cons (pe_callB call_len_seq (by rfl) T.z_len (by decide +kernel) (pa_cons (pv 2) pa_nil)) pa_nil))) pa_nil)) pa_nil)))))
      (pss_one (ps_ret (pv 3))))), ?_⟩
    refine ⟨_, rfl, b, xs, rfl, sb.sq, fun lf nlf => ⟨by show 0 ≤ sizeLine; decide, fun fd nfd => ⟨_, _, rfl, ?_⟩⟩⟩
    have s1 := same_new (o := .lst xs) nlf
    have s2 := same_new (o := .lst []) nfd
    have s12 := same_trans s1 s2
    have fl1 : fd ≠ lf := (ne_of_none upd_same nfd).symm
    have nfd0 := same_none s1 nfd
    have stS := st.same s12
    obtain ⟨_, _, _, _, hs0, hw0, _⟩ := id st
    have lfw : lf ≠ wl := (ne_of_none hw0 nlf).symm
    have lfs : lf ≠ s := (ne_of_none hs0 nlf).symm
    have fdw : fd ≠ wl := (ne_of_none hw0 nfd0).symm
    have fds : fd ≠ s := (ne_of_none hs0 nfd0).symm
    refine ⟨fun μ σ H' => ∃ ls ys, μ = ls.length ∧ σ = [some (.ref s), some (.ref b), some (.ref lf), some (.ref fd)] ∧ Kept s wl H H' ∧ St H' s wl cl (n + ys.length) ∧ H' lf = some (.lst ls) ∧ H' fd = some (.lst ys) ∧ (ys ++ ls).Perm xs, ⟨_, xs, [], rfl, rfl, .same s12, stS, s2 _ _ upd_same, upd_same, List.Perm.refl _⟩, ?_⟩
    rintro μ σ H1 ⟨ls, ys, rfl, rfl, K1, st1, hl, hf, pm⟩
    have lp := pm.length_eq
    rw [List.length_append] at lp
    have fls : ∀ v ∈ ls, flatOk v = true := fun v hv => fl v (pm.mem_iff.mp (List.mem_append_right _ hv))
    refine ⟨_, rfl, by show 0 ≤ sizeLine; decide, fun p np => ?_⟩
    have s3 := same_new (o := .lst []) np
    have K2 := K1.trans (Kept.same (f := s) (l := wl) s3)
    have st2 := st1.same s3
    have hl2 := s3 _ _ hl
    have hf2 := s3 _ _ hf
    have nv2 : NVs (upd H1 p (.lst [])) (ls.map dataOf) ls := nvs_flat fls
    have atp : (upd H1 p (.lst [])) p = some (.lst []) := upd_same
    generalize upd H1 p (.lst []) = H2 at *
    refine ⟨_, _, .lst (SqL.of hl2) (nvs_dp nv2), .lst (SqL.of atp) .nil, shaped_flats fls, rfl, _, rfl, iteB (fun ne => ?_) fun em => ?_⟩
    · have l0 : 0 < ls.length := by
        cases ls with
        | nil => cases ne
        | cons a b => simp
      refine ⟨_, fun _ _ h => h, ?_⟩
      refine ⟨_, rfl, .inl ⟨rfl, _, SqL.of hf2⟩, _, rfl, .inl ⟨rfl, _, SqL.of hl2⟩, _, rfl, _, rfl, lf, ls, rfl, .inl (SqL.of hl2), s, wl, cl, _, _, rfl, st2, by omega, by omega, by omega, fun r H3 lr k3 st3 => ?_⟩
      have hl3 := k3.keep lf _ lfs lfw hl2
      have hf3 := k3.keep fd _ fds fdw hf2
      have hv : ls[r]? = some ls[r] := List.getElem?_eq_getElem (by omega)
      generalize ls[r] = v at hv
      have pe : ls.Perm (v :: ls.eraseIdx r) := perm_erase hv
      refine ⟨lf, ls, _, r, v, rfl, rfl, hl3, by omega, by omega, by simp [seqIndex?]; omega, hv, ?_⟩
      have hf4 : (upd H3 lf (.lst (ls.eraseIdx r))) fd = some (.lst ys) := (upd_ne fl1).trans hf3
      refine ⟨fd, ys, v, rfl, rfl, hf4, by rw [sizeLine_eq]; omega, ?_⟩
      refine ⟨_, (by have := pe.length_eq; rw [List.length_cons] at this; omega : (ls.eraseIdx r).length < ls.length), ls.eraseIdx r, ys ++ [v], rfl, rfl, ((K2.trans k3).upd_new nlf).upd_new nfd0, ?_, ?_, upd_same, ?_⟩
      · obtain ⟨r3, t3, ws3, cs3, e1, e2, e3, ne, tn⟩ := st3
        have hcl : ∀ {z : Addr} {o : HO}, H3 z = some o → z ≠ lf → z ≠ fd → (upd (upd H3 lf (.lst (ls.eraseIdx r))) fd (.lst (ys ++ [v]))) z = some o := fun {z o} h a b => by rw [upd_ne b, upd_ne a]; exact h
        have ncl : ∀ {z : Addr} {o : HO}, H z = some o → z ≠ lf ∧ z ≠ fd := fun {z o} h => ⟨ne_of_none h nlf, ne_of_none h nfd0⟩
        obtain ⟨_, _, _, _, _, _, hc0, _⟩ := id st
        refine ⟨r3, t3, ws3, cs3, hcl e1 lfs.symm fds.symm, hcl e2 lfw.symm fdw.symm, hcl e3 (ncl hc0).1 (ncl hc0).2, ne, by rw [List.length_append, List.length_singleton]; omega⟩
      · rw [upd_ne fl1.symm]; exact upd_same
      · rw [List.append_assoc]
        exact (List.Perm.append_left ys pe.symm).trans pm
    · obtain rfl : ls = [] := by
        cases ls with
        | nil => rfl
        | cons a b => cases em
      rw [List.append_nil] at pm
      rw [List.length_nil, Nat.add_zero] at lp
      exact ⟨_, rfl, k fd ys H2 pm nfd0 hf2 K2 (lp ▸ st2)⟩
def sp__law_begun (K : PySem.W.Frag) : Sp := fun vs H Q _ => ∃ b, ∃ cs : List Int, vs = [.ref b] ∧ SqL K H b (cs.map V.int) ∧ cs.length ≤ 1000 ∧ ∀ s wl cl H', Same H H' → H wl = none → St H' s wl cl 0 → Q (.ref s) H'
theorem ok__law_begun (T : TX K mg) : FnOk P w K mg base CX0 1 T.a__law_begun T.fd__law_begun ["script"] (sp__law_begun K) := by
  refine T.F__law_begun.ok sc__law_begun (fun vs H Q E h => ?_) (fun cdv A outer z H vs Q E hr h => ?_)
  · obtain ⟨b, cs, rfl, _⟩ := h
    rfl
  · obtain ⟨b, cs, rfl, hb, l1, k⟩ := h
    refine ⟨_, (pss_cons (ps_setLc (i := 1) (own := [("cell", 2)]) (g := (gName 2)) (tt := _) (te := _) rfl sc__law_begun.nd rfl rfl (sw_true rfl rfl rfl (by decide +kernel)) (pi_list (pv 0)) (blkOk_by (own := [("cell", 2)]) (N := ["script", "wide", "cell"]) (sc := defScope s__law_begun) (by decide +kernel)) (fun _ _ _ _ _ => (pg_name (i := 2) sc__law_begun.nd rfl (Or.inl rfl))) (fun _ _ _ _ _ => (pts_one (pt_cmp (pc_ge (pe_callB call_abs (by rfl) T.z_abs (by decide +kernel) (pa_cons (pv 2) pa_nil)) (pe_op op_pow pe_int pe_int))))) (fun _ _ _ _ _ => (pe_op op_sub (pe_callB call_abs (by rfl) T.z_abs (by decide +kernel) (pa_cons (pv 2) pa_nil)) (pe_op op_pow pe_int pe_int))))
      (pss_one (ps_ret (pe_disp (pps_cons pe_str (pv 1) (pps_cons pe_str (pe_lc (own := [("cell", 2)]) (g := (gName 2)) (tt := tYes) (te := _) rfl sc__law_begun.nd (pi_list (pv 0)) (blkOk_by (own := [("cell", 2)]) (N := ["script", "wide", "cell"]) (sc := defScope s__law_begun) (by decide +kernel)) (fun _ _ _ _ _ => (pg_name (i := 2) sc__law_begun.nd rfl (Or.inl rfl))) (fun _ _ _ _ _ => pts_nil) (fun _ _ _ _ _ => (pe_op op_mod (pe_callTy call_int1 (by rfl) T.z_int (by decide +kernel) (pa_cons (pe_callB call_abs (by rfl) T.z_abs (by decide +kernel) (pa_cons (pv 2) pa_nil)) pa_nil)) pe_int))) (pps_cons pe_str pe_int (pps_cons pe_str pe_int pps_nil)))) (by rfl) (by rfl) (fun z => by cases z) (by decide))))), ?_⟩
    have abs0 : ∀ c : Int, (if c < 0 then -c else c) = (c.natAbs : Int) := fun c => by split <;> omega
    refine ⟨_, rfl, b, rfl, ⟨_, hb⟩, fun W nW => ?_⟩
    refine lc_items (l := cs) (steady_list (K := K) (a := b) (xs := cs.map V.int)) (fun H2 s2 => s2.seq hb) (fun c => decide (c.natAbs ≥ (10 : Int) ^ 18)) (fun c y _ => y = V.int (c.natAbs - (10 : Int) ^ 18)) (fun {_ _ _ _} _ q => q) nW (List.length_map ..) (by rw [sizeLine_eq]; omega) ?_ ?_
    · intro i c x H2 hc hx s2 Y Nn yes no
      rw [List.getElem?_map, hc] at hx
      cases hx
      refine ⟨rfl, _, rfl, c, rfl, _, _, rfl, rfl, ⟨by decide, by decide, by decide⟩, _, _, rfl, rfl, _, rfl, iteB (fun y => ?_) fun n => ?_⟩
      · refine ⟨_, rfl, c, rfl, _, _, rfl, rfl, ⟨by decide, by decide, by decide⟩, _, _, rfl, rfl, yes ?_ _ _ (same_refl _) ?_⟩
        · rw [← abs0]; exact y
        · rw [← abs0]; rfl
      · exact no (by rw [← abs0]; exact n) _ (same_refl _)
    · intro H2 ys s2 at2 pr2
      have eys := paired_fun pr2
      refine fun sd nsd => ⟨_, rfl, _, rfl, b, rfl, ⟨_, (same_trans s2 (same_new nsd)).seq hb⟩, fun C nC => ?_⟩
      have s3 := same_new (o := .dK []) nsd
      have s23 := same_trans s2 s3
      refine lc_each (l := cs) (steady_list (K := K) (a := b) (xs := cs.map V.int)) (fun H4 s4 => s4.seq (s23.seq hb)) (fun c y _ => y = V.int ((c.natAbs : Int) % 2147483629)) (fun {_ _ _ _} _ q => q) nC (List.length_map ..) (by rw [sizeLine_eq]; omega) ?_ ?_
      · intro i c x H4 hc hx s4 Y yes
        rw [List.getElem?_map, hc] at hx
        cases hx
        exact ⟨rfl, _, rfl, c, rfl, .inl ⟨_, rfl, _, _, rfl, rfl, (by show (0 : Int) < 2147483629; decide), yes _ _ (same_refl _) (by rw [← abs0])⟩⟩
      · intro H4 zs s4 at4 pr4
        have ezs := paired_fun pr4
        have atW := s4 _ _ (s3 _ _ at2)
        refine ⟨s4 _ _ upd_same, [(.inr "wide", .ref W), (.inr "cells", .ref C), (.inr "rest", .int 0), (.inr "turn", .int 0)], rfl, by show 4 ≤ 15; decide, ?_⟩
        have WC : W ≠ C := ne_of_none (s3 _ _ at2) nC
        have ss := same_new nC (o := .lst zs)
        have nsd0 := same_none s2 nsd
        have sdW : W ≠ sd := ne_of_none at2 nsd
        have sdC : C ≠ sd := fun e => by rw [e, upd_same] at nC; cases nC
        refine k sd W C _ (same_upd (same_trans s23 s4) nsd0) nW ⟨0, 0, (cs.filter fun c => decide (c.natAbs ≥ (10 : Int) ^ 18)).map fun c => (c.natAbs : Int) - (10 : Int) ^ 18, cs.map fun c => (c.natAbs : Int) % 2147483629, upd_same, ?_, ?_, WC, Nat.le_refl _⟩
        · rw [upd_ne sdW, atW, eys, List.map_map]; rfl
        · rw [upd_ne sdC, at4, ezs, List.map_map]; rfl
end
end Mw
/-! The law's frame. -/
namespace Mw
open PySem L2
section
variable {P : Program} {w : World} {K : PySem.W.Frag} {mg : Str → Option Value} {base : Heap}
def Digits (N : List Nat) : Prop := (N.length = 1 ∨ N.length = 2 ∨ N.length = 3) ∧ ∀ v ∈ N, v ∈ [0, 1, 2, 3, 7, 1000000000000]
def numV (N : List Nat) : List V := N.map fun (v : Nat) => .int (v : Int)
def FrA (H : Hp) (s wl fr fa na : Addr) (fs : List Str) (N : List Nat) (m : Nat) : Prop := H fr = some (.dK [(.inr "fields", .ref fa), (.inr "numbers", .ref na), (.inr "marks", .int (m : Int))]) ∧ H fa = some (.tup (fs.map V.str)) ∧ H na = some (.lst (numV N)) ∧ na ≠ wl ∧ fr ≠ s
def Fr (H : Hp) (s wl fr : Addr) (fs : List Str) (N : List Nat) (m : Nat) : Prop := ∃ fa na, FrA H s wl fr fa na fs N m
theorem St.ne {H : Hp} {s wl cl a : Addr} {n : Nat} (st : St H s wl cl n) (h : H a = none) : a ≠ s ∧ a ≠ wl ∧ a ≠ cl := by
  obtain ⟨_, _, _, _, h1, h2, h3, _⟩ := st
  exact ⟨(ne_of_none h1 h).symm, (ne_of_none h2 h).symm, (ne_of_none h3 h).symm⟩
theorem cut_take (xs : List V) (k : Nat) : cutV xs none (some (k : Int)) = xs.take k := by
  rw [cutV, HT.sIx_none, HT.sIx_nat, List.drop_zero, Nat.sub_zero]
  by_cases h : k ≤ xs.length
  · rw [Nat.min_eq_left h]
  · rw [Nat.min_eq_right (by omega), List.take_length, List.take_of_length_le (by omega)]
def sp__law_frame : Sp := fun vs H Q _ => ∃ s wl cl n, vs = [.ref s, .int 2] ∧ St H s wl cl n ∧ n ≤ 900000 ∧ ∀ fr fs N H', Kept s wl H H' → St H' s wl cl (n + 20) → H fr = none → Fr H' s wl fr fs N 0 → Names fs → Digits N → Q (.ref fr) H'
theorem ok__law_frame (T : TX K mg) : FnOk P w K mg base CX0 4 T.a__law_frame T.fd__law_frame ["state", "upto"] sp__law_frame := by
  refine T.F__law_frame.ok sc__law_frame (fun vs H Q E h => ?_) (fun cdv A outer z H vs Q E hr h => ?_)
  · obtain ⟨s, wl, cl, n, rfl, _⟩ := h
    rfl
  · obtain ⟨s, wl, cl, n, rfl, st, h6, k⟩ := h
    refine ⟨_, (pss_cons (ps_set (i := 2) sc__law_frame.nd rfl (Or.inl rfl) (pe_lst (pa_cons pe_str (pa_cons pe_str (pa_cons pe_str (pa_cons pe_str (pa_cons pe_str (pa_cons pe_str (pa_cons pe_str (pa_cons pe_str (pa_cons pe_str (pa_cons pe_str (pa_cons pe_str (pa_cons pe_str pa_nil))))))))))))))
      (pss_cons (ps_set (i := 3) sc__law_frame.nd rfl (Or.inl rfl) (pe_callB (cr_sortL (hu_of3 hr)) (by rfl) T.z_sorted (by decide +kernel) (pa_cons (pe_slice sl_list (pe_call (ok__law_shuffled T) (hr.mono (by omega)) rfl T.m__law_shuffled T.F__law_shuffled.kp T.b__law_shuffled .nil pass0 (pa_cons (pv 0) (pa_cons (pv 2) pa_nil))) po_none (po_some (pe_op op_add pe_int (pe_call (ok__law_take T) (hr.mono (by omega)) rfl T.m__law_take T.F__law_take.kp T.b__law_take .nil pass0 (pa_cons (pv 0) (pa_cons (pv 1) pa_nil)))))) pa_nil)))
      (pss_cons (ps_set (i := 4) sc__law_frame.nd rfl (Or.inl rfl) (pe_slice sl_list (pe_call (ok__law_shuffled T) (hr.mono (by omega)) rfl T.m__law_shuffled T.F__law_shuffled.kp T.b__law_shuffled .nil pass0 (pa_cons (pv 0) (pa_cons (pe_lst (pa_cons pe_int (pa_cons pe_int (pa_cons pe_int (pa_cons pe_int (pa_cons pe_int (pa_cons (pe_op op_pow pe_int pe_int) pa_nil))))))) pa_nil))) po_none (po_some (pe_op op_add pe_int (pe_call (ok__law_take T) (hr.mono (by omega)) rfl T.m__law_take T.F__law_take.kp T.b__law_take .nil pass0 (pa_cons (pv 0) (pa_cons pe_int pa_nil)))))))
      (pss_one (ps_ret (pe_disp (pps_cons pe_str (pe_callTy call_tuple_of (by rfl) T.z_tuple (by decide +kernel) (pa_cons (pv 3) pa_nil)) (pps_cons pe_str (pv 4) (pps_cons pe_str pe_int pps_nil))) (by rfl) (by rfl) (fun z => by cases z) (by decide))))))), ?_⟩
    obtain ⟨_, _, _, _, hs0, hw0, _⟩ := id st
    have NL : NAMES.length = 12 := rfl
    refine ⟨by show 12 ≤ sizeLine; decide, fun A1 nA1 => ?_⟩
    have s1 : Same H (upd H A1 (.lst (NAMES.map V.str))) := same_new nA1
    refine ⟨_, rfl, _, rfl, s, wl, cl, n, A1, NAMES.map V.str, rfl, st.same s1, by rw [List.length_map, NL]; omega, .inl ⟨upd_same, (ne_of_none hw0 nA1).symm⟩, fun v hv => ?_, by rw [List.length_map, NL]; omega, fun r1 ys1 H2 pm1 nr1 e2 k2 st2 => ?_⟩
    · obtain ⟨f, hf, rfl⟩ := List.mem_map.mp hv
      exact List.all_eq_true.mp names_str f hf
    rw [List.length_map, NL] at st2
    obtain ⟨gs, pg, rfl⟩ : ∃ gs : List Str, gs.Perm NAMES ∧ ys1 = gs.map V.str := by
      obtain ⟨m, p, e⟩ := perm_map_inv pm1 rfl
      exact ⟨m, p, e⟩
    have lg := pg.length_eq
    have r1w : r1 ≠ wl := (ne_of_none (s1 _ _ hw0) nr1).symm
    have r1s : r1 ≠ s := (ne_of_none (s1 _ _ hs0) nr1).symm
    refine ⟨_, rfl, _, rfl, s, wl, cl, _, 2, rfl, st2, by omega, by omega, by omega, fun q H3 lq k3 st3 => ?_⟩
    have e3 := k3.keep r1 _ r1s r1w e2
    have k13 := (Kept.same (f := s) (l := wl) s1).trans (k2.trans k3)
    refine ⟨_, _, rfl, rfl, _, rfl, r1, _, rfl, SqL.of e3, fun p4 np4 => ?_⟩
    have cut4 : cutV (gs.map V.str) none (some (1 + (q : Int))) = (gs.take (1 + q)).map V.str := by
      rw [show (1 : Int) + (q : Int) = ((1 + q : Nat) : Int) from rfl, cut_take, List.map_take]
    rw [cut4]
    have s4 := same_new (o := .lst ((gs.take (1 + q)).map V.str)) np4
    obtain ⟨fs, efs, pfs, ord⟩ := order_made (gs.take (1 + q))
    refine ⟨p4, _, _, rfl, SqL.of upd_same, nv_texts _, alike_texts _, text_depth _, fun p5 zs np5 nz => ?_⟩
    rw [efs] at nz
    obtain rfl := texts_nv nz
    have s5 := same_new (o := .lst (fs.map V.str)) np5
    have s45 := same_trans s4 s5
    have nms : Names fs := by
      have sub : ∀ f ∈ fs, f ∈ NAMES := fun f hf => pg.mem_iff.mp (List.mem_of_mem_take (pfs.mem_iff.mp hf))
      refine ⟨pfs.nodup_iff.mpr ((List.take_sublist _ _).nodup (pg.nodup_iff.mpr (by decide +kernel))), ?_, sub, ord⟩
      rw [pfs.length_eq, List.length_take, lg, NL]
      omega
    have at5 : (upd (upd H3 p4 (.lst ((gs.take (1 + q)).map V.str))) p5 (.lst (fs.map V.str))) p5 = some (.lst (fs.map V.str)) := upd_same
    have st5 := st3.same s45
    have k15 := k13.trans (Kept.same (f := s) (l := wl) s45)
    generalize upd (upd H3 p4 (.lst ((gs.take (1 + q)).map V.str))) p5 (.lst (fs.map V.str)) = H5 at *
    obtain ⟨_, _, _, _, hs5, hw5, _⟩ := id st5
    have p5w : p5 ≠ wl := ((st3.same s4).ne np5).2.1
    have p5s : p5 ≠ s := ((st3.same s4).ne np5).1
    refine ⟨_, rfl, _, _, rfl, rfl, ⟨by decide, by decide, by decide⟩, by show 6 ≤ sizeLine; decide, fun A2 nA2 => ?_⟩
    have s6 : Same H5 (upd H5 A2 (.lst (numV [0, 1, 2, 3, 7, 1000000000000]))) := same_new nA2
    refine ⟨s, wl, cl, _, A2, numV [0, 1, 2, 3, 7, 1000000000000], rfl, st5.same s6, by show _ + 6 ≤ _; omega, .inl ⟨upd_same, (ne_of_none hw5 nA2).symm⟩, fun v hv => ?_, by decide, fun r7 ys7 H7 pm7 nr7 e7 k7 st7 => ?_⟩
    · obtain ⟨i, _, rfl⟩ := List.mem_map.mp hv
      rfl
    obtain ⟨ds, pd, rfl⟩ : ∃ ds : List Nat, ds.Perm [0, 1, 2, 3, 7, 1000000000000] ∧ ys7 = numV ds := by
      obtain ⟨m, p, e⟩ := perm_map_inv pm7 rfl
      exact ⟨m, p, e⟩
    have ld := pd.length_eq
    have r7w : r7 ≠ wl := (ne_of_none (s6 _ _ hw5) nr7).symm
    have r7s : r7 ≠ s := (ne_of_none (s6 _ _ hs5) nr7).symm
    refine ⟨_, rfl, s, wl, cl, _, 3, rfl, st7, by show _ + 6 ≤ _; omega, by omega, by omega, fun q8 H8 lq8 k8 st8 => ?_⟩
    refine ⟨_, _, rfl, rfl, _, rfl, r7, _, rfl, SqL.of (k8.keep r7 _ r7s r7w e7), fun p9 np9 => ?_⟩
    have cut9 : cutV (numV ds) none (some (1 + (q8 : Int))) = numV (ds.take (1 + q8)) := by
      rw [show (1 : Int) + (q8 : Int) = ((1 + q8 : Nat) : Int) from rfl, cut_take, numV, numV, List.map_take]
    rw [cut9]
    have s9 := same_new (o := .lst (numV (ds.take (1 + q8)))) np9
    have k59 := (Kept.same (f := s) (l := wl) s6).trans (k7.trans (k8.trans (.same s9)))
    have st9 := st8.same s9
    have dig : Digits (ds.take (1 + q8)) := by
      refine ⟨?_, fun v hv => pd.mem_iff.mp (List.mem_of_mem_take hv)⟩
      rw [List.length_take, ld]
      simp only [List.length_cons, List.length_nil]
      omega
    have at59 := k59.keep p5 _ p5s p5w at5
    have at9 : (upd H8 p9 (.lst (numV (ds.take (1 + q8))))) p9 = some (.lst (numV (ds.take (1 + q8)))) := upd_same
    have p9w : p9 ≠ wl := (st8.ne np9).2.1
    generalize upd H8 p9 (.lst (numV (ds.take (1 + q8)))) = H9 at *
    refine fun fr nfr => ⟨_, rfl, p5, _, rfl, .inl ⟨SqL.of (same_new nfr _ _ at59), fun fa nfa => ⟨_, rfl, ?_⟩⟩⟩
    have s10 := same_new (o := .dK []) nfr
    have s11 := same_new (o := .tup (fs.map V.str)) nfa
    refine ⟨s11 _ _ upd_same, [(.inr "fields", .ref fa), (.inr "numbers", .ref p9), (.inr "marks", .int 0)], rfl, by show 3 ≤ 15; decide, ?_⟩
    have s12 := same_upd (o := .dK (mergeK [] [(.inr "fields", .ref fa), (.inr "numbers", .ref p9), (.inr "marks", .int 0)])) (same_trans s10 s11) nfr
    have faf : fa ≠ fr := fun e => by rw [e, upd_same] at nfa; cases nfa
    have nfr5 : H fr = none := by
      obtain ⟨_, _, _, _, h1, h2, _⟩ := st9
      have n1 : fr ≠ s := fun e => by rw [e, h1] at nfr; cases nfr
      have n2 : fr ≠ wl := fun e => by rw [e, h2] at nfr; cases nfr
      cases e : H fr with
      | none => rfl
      | some o => rw [(k15.trans k59).keep fr o n1 n2 e] at nfr; cases nfr
    refine k fr fs _ _ ((k15.trans k59).trans (.same s12)) ((st9.same s12).le (by show _ + 1 + 6 + 1 ≤ _; omega)) nfr5 ⟨fa, p9, upd_same, ?_, s12 _ _ at9, p9w, fun e => ?_⟩ nms dig
    · rw [upd_ne faf]; exact upd_same
    · obtain ⟨_, _, _, _, h1, _⟩ := st9
      rw [e, h1] at nfr
      cases nfr
end
end Mw
/-! How the law's trees have grown. -/
namespace Mw
open PySem L2
/-- how a tree has grown -/
structure Grown (fs : List Str) (N : List Nat) (d z : Nat) (t : Src) : Prop where
  form : Form t
  fits : Fits fs N t
  deep : dp t ≤ d
  size : (subs t).length ≤ z
structure Test (fs : List Str) (N : List Nat) (d z : Nat) (t : Src) : Prop extends Grown fs N d z t where
  test : isTest t = true
def cT : Nat → Nat
  | 0 => 3
  | d + 1 => 3 * cT d + 3
def zT : Nat → Nat
  | 0 => 1
  | d + 1 => 3 * zT d + 1
theorem cT_le : ∀ d : Nat, 3 ≤ cT d
  | 0 => Nat.le_refl _
  | d + 1 => by have := cT_le d; rw [cT]; omega
theorem zT_le : ∀ d : Nat, 1 ≤ zT d
  | 0 => Nat.le_refl _
  | d + 1 => by rw [zT]; omega
section
variable {fs : List Str} {N : List Nat} {d z : Nat}
theorem Grown.le {t : Src} {d' z' : Nat} (h : Grown fs N d z t) (h1 : d ≤ d') (h2 : z ≤ z') : Grown fs N d' z' t := ⟨h.form, h.fits, Nat.le_trans h.deep h1, Nat.le_trans h.size h2⟩
theorem Test.le {t : Src} {d' z' : Nat} (h : Test fs N d z t) (h1 : d ≤ d') (h2 : z ≤ z') : Test fs N d' z' t := ⟨h.toGrown.le h1 h2, h.test⟩
theorem grown_parts : ∀ {ts : List Src}, (∀ t ∈ ts, Grown fs N d z t) → Forms ts ∧ FitsL fs N ts ∧ dps ts ≤ d ∧ (subss ts).length ≤ ts.length * z
  | [], _ => ⟨trivial, trivial, Nat.zero_le _, by simp [subss]⟩
  | t :: ts, h => by
    obtain ⟨a, b, c, e⟩ := grown_parts fun u hu => h u (List.mem_cons_of_mem _ hu)
    have g := h t List.mem_cons_self
    refine ⟨⟨g.form, a⟩, ⟨g.fits, b⟩, by rw [dps]; exact Nat.max_le.mpr ⟨g.deep, c⟩, ?_⟩
    have := g.size
    rw [subss, List.length_append, List.length_cons, Nat.succ_mul]
    omega
theorem grown_row {ts : List Src} (h : ∀ t ∈ ts, Grown fs N d z t) (l2 : 2 ≤ ts.length) (l3 : ts.length ≤ 3) : Grown fs N (d + 1) (3 * z + 1) (.row ts) ∧ Grown fs N (d + 1) (3 * z + 1) (.alt ts) := by
  obtain ⟨a, b, c, e⟩ := grown_parts h
  have := Nat.mul_le_mul_right z l3
  refine ⟨⟨⟨l2, a⟩, b, by rw [dp]; omega, by rw [subs, List.length_cons]; omega⟩, ⟨l2, a⟩, b, by rw [dp]; omega, by rw [subs, List.length_cons]; omega⟩
theorem areTests_of : ∀ {ts : List Src}, (∀ t ∈ ts, isTest t = true) → areTests ts = true
  | [], _ => rfl
  | t :: ts, h => by rw [areTests, h t List.mem_cons_self, areTests_of fun u hu => h u (List.mem_cons_of_mem _ hu)]; rfl
theorem test_row {ts : List Src} (h : ∀ t ∈ ts, Test fs N d z t) (l2 : 2 ≤ ts.length) (l3 : ts.length ≤ 3) : Test fs N (d + 1) (3 * z + 1) (.row ts) ∧ Test fs N (d + 1) (3 * z + 1) (.alt ts) := by
  obtain ⟨a, b⟩ := grown_row (fun t ht => (h t ht).toGrown) l2 l3
  have c := areTests_of fun t ht => (h t ht).test
  exact ⟨⟨a, by rw [isTest]; exact c⟩, ⟨b, by rw [isTest]; exact c⟩⟩
mutual
theorem nm_test : ∀ {t : Src}, isTest t = true → nm t = 0
  | .pass, _ => by simp only [nm]
  | .drop, _ => by simp only [nm]
  | .mark, h => by simp [isTest] at h
  | .is _ _, _ => by simp only [nm]
  | .set _ _, h => by simp [isTest] at h
  | .take _ _, h => by simp [isTest] at h
  | .not _, _ => by simp only [nm]
  | .loop _, h => by simp [isTest] at h
  | .row ts, h => by rw [nm]; exact nms_test (by rw [isTest] at h; exact h)
  | .alt ts, h => by rw [nm]; exact nms_test (by rw [isTest] at h; exact h)
theorem nms_test : ∀ {ts : List Src}, areTests ts = true → nms ts = 0
  | [], _ => rfl
  | t :: ts, h => by
    rw [areTests, Bool.and_eq_true] at h
    rw [nms, nm_test h.1, nms_test h.2]
end
end
/-- the frame stays -/
theorem FrA.kept {H H' : Hp} {s wl cl fr fa na : Addr} {n m : Nat} {fs : List Str} {N : List Nat} (h : FrA H s wl fr fa na fs N m) (st : St H s wl cl n) (k : Kept s wl H H') : FrA H' s wl fr fa na fs N m := by
  obtain ⟨e1, e2, e3, n1, n2⟩ := h
  obtain ⟨_, _, _, _, h1, h2, _⟩ := st
  refine ⟨k.keep fr _ n2 (fun q => ?_) e1, k.tp.tup _ _ e2, k.keep na _ (fun q => ?_) n1 e3, n1, n2⟩
  · rw [q, h2] at e1; cases e1
  · rw [q, h1] at e3; cases e3
theorem Fr.kept {H H' : Hp} {s wl cl fr : Addr} {n m : Nat} {fs : List Str} {N : List Nat} (h : Fr H s wl fr fs N m) (st : St H s wl cl n) (k : Kept s wl H H') : Fr H' s wl fr fs N m := by
  obtain ⟨fa, na, h⟩ := h
  exact ⟨fa, na, h.kept st k⟩
theorem get_fields {a b c : V} : valV [((.inr "fields" : Key), a), (.inr "numbers", b), (.inr "marks", c)] (.inr "fields") = some a := valV_pos rfl
theorem get_numbers {a b c : V} : valV [((.inr "fields" : Key), a), (.inr "numbers", b), (.inr "marks", c)] (.inr "numbers") = some b := by
  rw [valV_neg (show (.inr "fields" : Key) ≠ .inr "numbers" by decide +kernel)]; exact valV_pos rfl
theorem get_marks {a b c : V} : valV [((.inr "fields" : Key), a), (.inr "numbers", b), (.inr "marks", c)] (.inr "marks") = some c := by
  rw [valV_neg (show (.inr "fields" : Key) ≠ .inr "marks" by decide +kernel), valV_neg (show (.inr "numbers" : Key) ≠ .inr "marks" by decide +kernel)]; exact valV_pos rfl
theorem put_marks {a b c x : V} : putK [((.inr "fields" : Key), a), (.inr "numbers", b), (.inr "marks", c)] (.inr "marks") x = [(.inr "fields", a), (.inr "numbers", b), (.inr "marks", x)] := by rfl
end Mw
/-! The law's tests. -/
namespace Mw
open PySem L2
section
variable {P : Program} {w : World} {K : PySem.W.Frag} {mg : Str → Option Value} {base : Heap}
/-- a list of ours is written -/
theorem St.put {H : Hp} {s wl cl L : Addr} {n : Nat} {xs ys : List V} (st : St H s wl cl n) (ne : L ≠ s ∧ L ≠ wl ∧ L ≠ cl) (h : H L = some (.lst xs)) : St (upd H L (.lst ys)) s wl cl n := by
  obtain ⟨r, t, ws, cs, h1, h2, h3, h4, h5⟩ := st
  exact ⟨r, t, ws, cs, by rw [upd_ne ne.1.symm]; exact h1, by rw [upd_ne ne.2.1.symm]; exact h2, by rw [upd_ne ne.2.2.symm]; exact h3, h4, h5⟩
def sp__law_test (d : Nat) : Sp := fun vs H Q _ => ∃ s wl cl n fr fs N m deep, vs = [.ref s, .ref fr, .int ((deep : Nat) : Int)] ∧ deep < d ∧ St H s wl cl n ∧ Fr H s wl fr fs N m ∧ Names fs ∧ Digits N ∧ n + cT deep ≤ 1000000 ∧
  ∀ r t H', Kept s wl H H' → St H' s wl cl (n + cT deep) → NV H' (srcD t) (.ref r) → Test fs N (deep + 1) (zT deep) t → Q (.ref r) H'
theorem ok__law_test1 (T : TX K mg) {d : Nat} (G : FnOk P w K mg base CX0 (d + 3) T.a__law_test T.fd__law_test ["state", "frame", "deep"] (sp__law_test d)) : FnOk P w K mg base CX0 (d + 4) T.a__law_test T.fd__law_test ["state", "frame", "deep"] (sp__law_test (d + 1)) := by
  refine T.F__law_test.ok sc__law_test (fun vs H Q E h => ?_) (fun cdv A outer z H vs Q E hr h => ?_)
  · obtain ⟨s, wl, cl, n, fr, fs, N, m, deep, rfl, _⟩ := h
    rfl
  · obtain ⟨s, wl, cl, n, fr, fs, N, m, deep, rfl, h0, st, fo, nms, dig, h6, k⟩ := h
    refine ⟨_, (pss_cons (ps_set (i := 3) sc__law_test.nd rfl (Or.inl rfl) (pe_call (ok__law_take T) (hr.mono (by omega)) rfl T.m__law_take T.F__law_take.kp T.b__law_take .nil pass0 (pa_cons (pv 0) (pa_cons pe_int pa_nil))))
      (pss_cons (ps_if (pt_cmp (pc_eqI (pv 3) pe_int)) (pss_one (ps_ret (pe_call (ok__law_pick T) (hr.mono (by omega)) rfl T.m__law_pick T.F__law_pick.kp T.b__law_pick .nil pass0 (pa_cons (pv 0) (pa_cons (pe_lst (pa_cons (pe_tup (pa_cons pe_str pa_nil)) (pa_cons (pe_tup (pa_cons pe_str pa_nil)) pa_nil))) pa_nil))))) pss_nil)
      (pss_cons (ps_if (PW.pt (pw_or (pt_cmp (pc_eqI (pv 2) pe_int)) (pw_or1 (pt_cmp (pc_lt (pv 3) pe_int))))) (pss_one (ps_ret (pe_tup (pa_cons pe_str (pa_cons (pe_call (ok__law_pick T) (hr.mono (by omega)) rfl T.m__law_pick T.F__law_pick.kp T.b__law_pick .nil pass0 (pa_cons (pv 0) (pa_cons (pe_dget (hu_of hr) (pv 1) pe_str (fun _ _ => rfl)) pa_nil))) (pa_cons (pe_call (ok__law_pick T) (hr.mono (by omega)) rfl T.m__law_pick T.F__law_pick.kp T.b__law_pick .nil pass0 (pa_cons (pv 0) (pa_cons (pe_dget (hu_of hr) (pv 1) pe_str (fun _ _ => rfl)) pa_nil))) pa_nil)))))) pss_nil)
      (pss_cons (ps_if (PW.pt (pw_or (pt_cmp (pc_eqI (pv 3) pe_int)) (pw_or1 (pt_cmp (pc_eqI (pv 3) pe_int))))) (pss_one (ps_ret (pe_tup (pa_cons pe_str (pa_cons (pe_call G (hr.mono (by omega)) rfl T.m__law_test T.F__law_test.kp T.b__law_test .nil pass0 (pa_cons (pv 0) (pa_cons (pv 1) (pa_cons (pe_op op_sub (pv 2) pe_int) pa_nil)))) pa_nil))))) pss_nil)
      (pss_cons (ps_set (i := 4) sc__law_test.nd rfl (Or.inl rfl) (pe_op op_add pe_int (pe_callTy call_int1 (by rfl) T.z_int (by decide +kernel) (pa_cons (pe_cmp (pc_eqI (pe_call (ok__law_take T) (hr.mono (by omega)) rfl T.m__law_take T.F__law_take.kp T.b__law_take .nil pass0 (pa_cons (pv 0) (pa_cons pe_int pa_nil))) pe_int) rfl) pa_nil))))
      (pss_cons (ps_setLc (i := 5) (own := [("turn", 6)]) (g := (gName 6)) (tt := tYes) (te := (tCall (sp__law_test d) [] E0 (tCons (tVar 0) (tCons (tVar 1) (tCons (tOp (rI0 fun i j => .int (i - j)) (tVar 2) (tC (.int 1))) tNil))))) rfl sc__law_test.nd rfl rfl (sw_true rfl rfl rfl (by decide +kernel)) (pi_range1 rfl T.z_range (pa_cons (pv 4) pa_nil)) (blkOk_by (own := [("turn", 6)]) (N := ["state", "frame", "deep", "sort", "many", "portions", "turn"]) (sc := defScope s__law_test) (by decide +kernel)) (fun _ _ _ _ _ => (pg_name (i := 6) sc__law_test.nd rfl (Or.inl rfl))) (fun _ _ _ _ _ => pts_nil) (fun _ _ _ _ _ => (pe_call G (hr.mono (by omega)) rfl T.m__law_test T.F__law_test.kp T.b__law_test .nil pass0 (pa_cons (pv 0) (pa_cons (pv 1) (pa_cons (pe_op op_sub (pv 2) pe_int) pa_nil))))))
      (pss_one (ps_ret (pe_op op_catT (pe_tup (pa_cons (pe_call (ok__law_pick T) (hr.mono (by omega)) rfl T.m__law_pick T.F__law_pick.kp T.b__law_pick .nil pass0 (pa_cons (pv 0) (pa_cons (pe_lst (pa_cons pe_str (pa_cons pe_str pa_nil))) pa_nil))) pa_nil)) (pe_callTy call_tuple_of (by rfl) T.z_tuple (by decide +kernel) (pa_cons (pv 5) pa_nil))))))))))), ?_⟩
    have c3 := cT_le deep
    have z1 := zT_le deep
    have lf := nms.len
    have lN : 0 < N.length ∧ N.length ≤ 3 := by have := dig.1; omega
    refine ⟨_, rfl, s, wl, cl, n, 12, rfl, st, by omega, by omega, by omega, fun q H1 lq k1 st1 => ?_⟩
    have fo1 := fo.kept st k1
    have small : (4 : Nat) ≤ sizeLine := by rw [sizeLine_eq]; omega
    refine ⟨_, rfl, _, 0, rfl, rfl, _, rfl, iteB (fun e0 => ?_) fun _ => ?_⟩
    · refine ⟨_, rfl, by show 1 ≤ sizeLine; omega, fun p1 np1 => ⟨by show 1 ≤ sizeLine; omega, fun p2 np2 => ⟨by show 2 ≤ sizeLine; omega, fun L nL => ?_⟩⟩⟩
      have a1 := same_new (o := .tup [.str "pass"]) np1
      have a2 := same_new (o := .tup [.str "drop"]) np2
      have a3 := same_new (o := .lst [.ref p1, .ref p2]) nL
      have a13 := same_trans a1 (same_trans a2 a3)
      have st2 := st1.same a13
      refine ⟨s, wl, cl, _, L, [.ref p1, .ref p2], rfl, st2, by omega, .inl ⟨upd_same, (((st1.same a1).same a2).ne nL).2.1⟩, by show 0 < 2; decide, by show 2 ≤ 1000; omega, fun v H5 hv k5 st5 => ?_⟩
      have e1 := (Tp.same a3).trans k5.tp |>.tup _ _ (a2 _ _ upd_same)
      have e2 := (Tp.same a3).trans k5.tp |>.tup _ _ (upd_same (H := upd H1 p1 (.tup [.str "pass"])) (a := p2) (o := .tup [.str "drop"]))
      have K5 := k1.trans ((Kept.same a13).trans k5)
      rcases List.mem_cons.mp hv with rfl | hv
      · exact k p1 .pass H5 K5 (st5.le (by omega)) (.tup e1 (.cons (.text _) .nil)) ⟨⟨trivial, trivial, by simp [dp], by simp [subs]; omega⟩, rfl⟩
      · obtain rfl := List.mem_singleton.mp hv
        exact k p2 .drop H5 K5 (st5.le (by omega)) (.tup e2 (.cons (.text _) .nil)) ⟨⟨trivial, trivial, by simp [dp], by simp [subs]; omega⟩, rfl⟩
    have isCase : ∀ (D : Ends) (σ : L2.St), σ = [some (.ref s), some (.ref fr), some (.int (deep : Int)), some (.int (q : Int)), none, none, none] → D.rt = Q → tRet (tTup (tCons (tC (V.str (Str.ofString "is"))) (tCons (tCall sp__law_pick [] E0 (tCons (tVar 0) (tCons (tDGet (tVar 1) (tC (V.str (Str.ofString "fields")))) tNil))) (tCons (tCall sp__law_pick [] E0 (tCons (tVar 0) (tCons (tDGet (tVar 1) (tC (V.str (Str.ofString "numbers")))) tNil))) tNil)))) D σ H1 := by
      rintro D σ rfl rfl
      obtain ⟨fa, na, f1, f2, f3, f4, f5⟩ := id fo1
      refine ⟨_, rfl, _, rfl, fr, _, rfl, .inl ⟨_, .inr "fields", .inl f1, rfl, get_fields.symm⟩, s, wl, cl, _, fa, fs.map V.str, rfl, st1, by omega, .inr f2, by rw [List.length_map]; omega, by rw [List.length_map]; omega, fun v H2 hv k2 st2 => ?_⟩
      obtain ⟨f, hf, rfl⟩ := List.mem_map.mp hv
      obtain ⟨fa2, na2, g1, g2, g3, g4, g5⟩ := fo1.kept st1 k2
      refine ⟨_, rfl, _, rfl, fr, _, rfl, .inl ⟨_, .inr "numbers", .inl g1, rfl, get_numbers.symm⟩, s, wl, cl, _, na2, numV N, rfl, st2, by omega, .inl ⟨g3, g4⟩, by rw [numV, List.length_map]; omega, by rw [numV, List.length_map]; omega, fun u H3 hu k3 st3 => ?_⟩
      obtain ⟨c, hc, rfl⟩ := List.mem_map.mp hu
      refine ⟨by show 3 ≤ sizeLine; omega, fun p np => ?_⟩
      have a1 := same_new (o := .tup [.str "is", .str f, .int (c : Int)]) np
      exact k p (.is f c) _ (k1.trans (k2.trans (k3.trans (.same a1)))) ((st3.same a1).le (by omega)) (.tup upd_same (.cons (.text _) (.cons (.text _) (.cons (.num _) .nil)))) ⟨⟨trivial, ⟨hf, hc⟩, by simp [dp], by simp [subs]; omega⟩, rfl⟩
    refine ⟨_, rfl, _, 0, rfl, rfl, _, rfl, iteB (fun e1 => isCase _ _ rfl rfl) fun ne1 => ?_⟩
    obtain ⟨e, rfl⟩ : ∃ e, deep = e + 1 := by
      have : ¬ ((deep : Int) = 0) := of_decide_eq_false ne1
      exact ⟨deep - 1, by omega⟩
    have sub1 : (((e + 1 : Nat) : Int) - 1) = (e : Int) := by omega
    have cE : cT (e + 1) = 3 * cT e + 3 := rfl
    have zE : zT (e + 1) = 3 * zT e + 1 := rfl
    refine ⟨_, rfl, _, 7, rfl, rfl, _, rfl, iteB (fun e1 => isCase _ _ rfl rfl) fun _ => ?_⟩
    have notCase : ∀ (D : Ends) (σ : L2.St), σ = [some (.ref s), some (.ref fr), some (.int ((e + 1 : Nat) : Int)), some (.int (q : Int)), none, none, none] → D.rt = Q → tRet (tTup (tCons (tC (V.str (Str.ofString "not"))) (tCons (tCall (sp__law_test d) [] E0 (tCons (tVar 0) (tCons (tVar 1) (tCons (tOp (rI0 fun i j => V.int (i - j)) (tVar 2) (tC (V.int 1))) tNil)))) tNil))) D σ H1 := by
      rintro D σ rfl rfl
      refine ⟨_, rfl, _, rfl, _, rfl, _, _, rfl, rfl, s, wl, cl, _, fr, fs, N, m, e, (by show [V.ref s, V.ref fr, V.int (((e + 1 : Nat) : Int) - 1)] = _; rw [sub1]), by omega, st1, fo1, nms, dig, by omega, fun r t H2 k2 st2 nt te => ⟨by show 2 ≤ sizeLine; omega, fun p np => ?_⟩⟩
      have a1 := same_new (o := .tup [.str "not", .ref r]) np
      refine k p (.not t) _ (k1.trans (k2.trans (.same a1))) ((st2.same a1).le (by omega)) (.tup upd_same (.cons (.text _) (.cons (nt.mono (.same a1)) .nil))) ⟨⟨⟨te.test, te.form⟩, te.fits, ?_, ?_⟩, te.test⟩
      · have := te.deep; rw [dp]; omega
      · have := te.size; rw [subs, List.length_cons]; omega
    refine ⟨_, rfl, _, 7, rfl, rfl, _, rfl, iteB (fun e1 => notCase _ _ rfl rfl) fun _ => ?_⟩
    refine ⟨_, rfl, _, 8, rfl, rfl, _, rfl, iteB (fun e1 => notCase _ _ rfl rfl) fun _ => ?_⟩
    refine ⟨_, rfl, s, wl, cl, _, 3, rfl, st1, by omega, by omega, by omega, fun q2 H2 lq2 k2 st2 => ⟨_, _, rfl, rfl, .inr ⟨_, rfl, _, _, rfl, rfl, ?_⟩⟩⟩
    obtain ⟨mn, emn, l2, l3⟩ : ∃ mn : Nat, (2 : Int) + (if decide ((q2 : Int) = 0) = true then 1 else 0) = (mn : Int) ∧ 2 ≤ mn ∧ mn ≤ 3 := by
      by_cases h : (q2 : Int) = 0
      · exact ⟨3, by simp [h], by omega, by omega⟩
      · exact ⟨2, by rw [if_neg (by rw [decide_eq_true_iff]; exact h)]; rfl, by omega, by omega⟩
    refine ⟨_, rfl, _, rfl, by rw [emn]; omega, by rw [emn]; omega, fun L nL => ?_⟩
    have nLs := st2.ne nL
    have k12 := k1.trans k2
    have fo2 := fo1.kept st1 k2
    have aL := same_new (o := .lst []) nL
    refine lc_range (lo := 0) (fun i H' => ∃ (ts : List Src) (ys : List V), Kept s wl H2 H' ∧ St H' s wl cl (n + 2 + i * cT e) ∧ H' L = some (.lst ys) ∧ NVs H' (ts.map srcD) ys ∧ ts.length = i ∧ ∀ t ∈ ts, Test fs N (e + 1) (zT e) t) ?_ ?_ ?_
    · exact ⟨[], [], .same aL, (st2.same aL).le (by omega), upd_same, .nil, rfl, fun t h => absurd h List.not_mem_nil⟩
    · rintro i H3 hi ⟨ts, ys, k3, st3, at3, nv3, lt, te⟩
      have hi : i < mn := by
        have e : ((2 : Int) + (if decide ((q2 : Int) = 0) = true then 1 else 0)).toNat = mn := by rw [emn]; rfl
        rw [← e]; exact hi
      have ii : i * cT e ≤ 2 * cT e := Nat.mul_le_mul_right _ (by omega)
      refine ⟨rfl, ?_⟩
      simp only [tYes, if_true]
      refine ⟨_, rfl, _, rfl, _, rfl, _, _, rfl, rfl, s, wl, cl, _, fr, fs, N, m, e, (by show [V.ref s, V.ref fr, V.int (((e + 1 : Nat) : Int) - 1)] = _; rw [sub1]), by omega, st3, fo2.kept st2 k3, nms, dig, by omega, fun r t H4 k4 st4 nt te4 => ?_⟩
      have at4 := k4.keep L _ nLs.1 nLs.2.1 at3
      have lys : ys.length = i := by rw [nv3.length, List.length_map, lt]
      have tpw : Tp H4 (upd H4 L (.lst (ys ++ [.ref r]))) := Tp.write (by rw [at4]; exact True.intro)
      refine ⟨ys, at4, by rw [lys]; omega, ts ++ [t], ys ++ [.ref r], (k3.trans k4).upd_new nL, (st4.put (nLs) at4).le (by rw [Nat.succ_mul]; omega), upd_same, ?_, by rw [List.length_append, lt]; rfl, fun u hu => ?_⟩
      · rw [List.map_append]
        exact ((nv3.mono k4.tp).append (.cons nt .nil)).mono tpw
      · rcases List.mem_append.mp hu with hu | hu
        · exact te u hu
        · rw [List.mem_singleton.mp hu]; exact te4
    · rintro H3 ⟨ts, ys, k3, st3, at3, nv3, lt, te⟩
      have lt : ts.length = mn := by
        have e : ((2 : Int) + (if decide ((q2 : Int) = 0) = true then 1 else 0)).toNat = mn := by rw [emn]; rfl
        rw [← e]; exact lt
      have st3 : St H3 s wl cl (n + 2 + mn * cT e) := by
        have e : ((2 : Int) + (if decide ((q2 : Int) = 0) = true then 1 else 0)).toNat = mn := by rw [emn]; rfl
        rw [← e]; exact st3
      have ii : mn * cT e ≤ 3 * cT e := Nat.mul_le_mul_right _ (by omega)
      have lys : ys.length = mn := by rw [nv3.length, List.length_map, lt]
      refine ⟨_, rfl, by show 2 ≤ sizeLine; omega, fun L2 nL2 => ?_⟩
      have a4 := same_new (o := .lst [.str "row", .str "choice"]) nL2
      refine ⟨s, wl, cl, _, L2, [.str "row", .str "choice"], rfl, st3.same a4, by omega, .inl ⟨upd_same, (st3.ne nL2).2.1⟩, by decide, by show 2 ≤ 1000; omega, fun v H5 hv k5 st5 => ⟨by show 1 ≤ sizeLine; omega, fun p6 np6 => ?_⟩⟩
      have a6 := same_new (o := .tup [v]) np6
      have at6 := a6 _ _ (k5.keep L _ nLs.1 nLs.2.1 (a4 _ _ at3))
      refine ⟨_, rfl, L, ys, rfl, .inl ⟨SqL.of at6, fun p7 np7 => ?_⟩⟩
      have a7 := same_new (o := .tup ys) np7
      have K7 := k12.trans (k3.trans ((Kept.same a4).trans (k5.trans (.same (same_trans a6 a7)))))
      have nv7 := ((((nv3.mono (.same a4)).mono k5.tp).mono (.same a6)).mono (.same a7))
      refine ⟨p6, p7, [v], ys, rfl, rfl, SqT.of (a7 _ _ upd_same), SqT.of upd_same, by simp, by rw [lys]; show 1 + mn ≤ _; omega, fun e => by rw [e] at lys; simp at lys; omega, fun _ p8 np8 => ?_⟩
      have a8 := same_new (o := .tup ([v] ++ ys)) np8
      obtain ⟨tr, ta⟩ := test_row te (by omega) (by omega)
      have nv8 := nv7.mono (.same a8)
      rw [← srcDs_map] at nv8
      rcases List.mem_cons.mp hv with rfl | hv
      · exact k p8 (.row ts) _ (K7.trans (.same a8)) ((((st5.same a6).same a7).same a8).le (by omega)) (.tup upd_same (.cons (.text _) nv8)) tr
      · obtain rfl := List.mem_singleton.mp hv
        exact k p8 (.alt ts) _ (K7.trans (.same a8)) ((((st5.same a6).same a7).same a8).le (by omega)) (.tup upd_same (.cons (.text _) nv8)) ta
theorem ok__law_test (T : TX K mg) : ∀ d : Nat, FnOk P w K mg base CX0 (d + 3) T.a__law_test T.fd__law_test ["state", "frame", "deep"] (sp__law_test d)
  | 0 => by
    have no : ∀ {vs H Q E}, ¬ sp__law_test 0 vs H Q E := fun {vs H Q E} h => by
      obtain ⟨s, wl, cl, n, fr, fs, N, m, deep, rfl, h, _⟩ := h
      omega
    exact T.F__law_test.ok sc__law_test (fun vs H Q E h => absurd h no) (fun cdv A outer s H vs Q E hr h => absurd h no)
  | d + 1 => ok__law_test1 T (ok__law_test T d)
end
end Mw
/-! The law's leaves. -/
namespace Mw
open PySem L2
theorem two_of {α : Type} : ∀ {l : List α}, l.length = 2 → ∃ a b, l = [a, b]
  | [a, b], _ => ⟨a, b, rfl⟩
/-- only the law's state and its frame may have changed -/
structure Kept3 (s l r : Addr) (H H' : Hp) : Prop where
  keep : ∀ c o, c ≠ s → c ≠ l → c ≠ r → H c = some o → H' c = some o
  tp : Tp H H'
theorem Kept.three {s l r : Addr} {H H' : Hp} (k : Kept s l H H') : Kept3 s l r H H' := ⟨fun c o a b _ e => k.keep c o a b e, k.tp⟩
theorem Kept3.trans {s l r : Addr} {H H1 H2 : Hp} (a : Kept3 s l r H H1) (b : Kept3 s l r H1 H2) : Kept3 s l r H H2 := ⟨fun c o x y z e => b.keep c o x y z (a.keep c o x y z e), a.tp.trans b.tp⟩
theorem Kept3.same {s l r : Addr} {H H' : Hp} (q : Same H H') : Kept3 s l r H H' := ⟨fun c o _ _ _ e => q c o e, .same q⟩
theorem Kept3.new {s l r a : Addr} {H H1 : Hp} {o : HO} (k : Kept3 s l r H H1) (n : H a = none) : Kept3 s l r H (upd H1 a o) :=
  ⟨fun c u x y z e => by rw [upd_ne (ne_of_none e n)]; exact k.keep c u x y z e, ⟨fun c xs e => by rw [upd_ne (ne_of_none e n)]; exact k.tp.tup c xs e, fun c o' u e => by rw [upd_ne (ne_of_none e n)]; exact k.tp.frz c o' u e⟩⟩
theorem FrA.same {H H' : Hp} {s wl fr fa na : Addr} {m : Nat} {fs : List Str} {N : List Nat} (h : FrA H s wl fr fa na fs N m) (q : Same H H') : FrA H' s wl fr fa na fs N m := by
  obtain ⟨e1, e2, e3, n1, n2⟩ := h
  exact ⟨q _ _ e1, q _ _ e2, q _ _ e3, n1, n2⟩
/-- a list of ours is written -/
theorem FrA.put {H : Hp} {s wl fr fa na L : Addr} {m : Nat} {fs : List Str} {N : List Nat} {xs ys : List V} (h : FrA H s wl fr fa na fs N m) (e : H L = some (.lst xs)) (ne : L ≠ na) : FrA (upd H L (.lst ys)) s wl fr fa na fs N m := by
  obtain ⟨e1, e2, e3, n1, n2⟩ := h
  refine ⟨?_, ?_, (upd_ne ne.symm).trans e3, n1, n2⟩
  · rw [upd_ne fun q => by rw [q, e] at e1; cases e1]; exact e1
  · rw [upd_ne fun q => by rw [q, e] at e2; cases e2]; exact e2
/-- marks are set -/
theorem FrA.marks {H : Hp} {s wl cl fr fa na : Addr} {n m : Nat} {fs : List Str} {N : List Nat} (h : FrA H s wl fr fa na fs N m) (st : St H s wl cl n) : ∃ kvs, H fr = some (.dK kvs) ∧ kvs.length < sizeLine ∧ valV kvs (.inr "marks") = some (.int (m : Int)) ∧ ∀ m' : Nat, FrA (upd H fr (.dK (putK kvs (.inr "marks") (.int (m' : Int))))) s wl fr fa na fs N m' ∧ St (upd H fr (.dK (putK kvs (.inr "marks") (.int (m' : Int))))) s wl cl n ∧ Kept3 s wl fr H (upd H fr (.dK (putK kvs (.inr "marks") (.int (m' : Int))))) := by
  obtain ⟨e1, e2, e3, n1, n2⟩ := h
  obtain ⟨r, t, ws, cs, h1, h2, h3, h4, h5⟩ := st
  refine ⟨_, e1, by show 3 < sizeLine; rw [sizeLine_eq]; omega, get_marks, fun m' => ⟨⟨by rw [put_marks]; exact upd_same, ?_, ?_, n1, n2⟩, ⟨r, t, ws, cs, ?_, ?_, ?_, h4, h5⟩, ⟨fun c o _ _ z e => by rw [upd_ne z]; exact e, Tp.write (by rw [e1]; exact True.intro)⟩⟩⟩
  · rw [upd_ne fun q => by rw [q, e1] at e2; cases e2]; exact e2
  · rw [upd_ne fun q => by rw [q, e1] at e3; cases e3]; exact e3
  · rw [upd_ne n2.symm]; exact h1
  · rw [upd_ne fun q => by rw [q, e1] at h2; cases h2]; exact h2
  · rw [upd_ne fun q => by rw [q, e1] at h3; cases h3]; exact h3
section
variable {P : Program} {w : World} {K : PySem.W.Frag} {mg : Str → Option Value} {base : Heap}
def sp__law_leaf : Sp := fun vs H Q _ => ∃ s wl cl n fr fa na fs N m, vs = [.ref s, .ref fr] ∧ St H s wl cl n ∧ FrA H s wl fr fa na fs N m ∧ Names fs ∧ Digits N ∧ n + 4 ≤ 1000000 ∧
  ∀ r t m' H', Kept3 s wl fr H H' → St H' s wl cl (n + 4) → FrA H' s wl fr fa na fs N m' → nm t + m' ≤ m → NV H' (srcD t) (.ref r) → Grown fs N 1 1 t → Q (.ref r) H'
theorem ok__law_leaf (T : TX K mg) : FnOk P w K mg base CX0 5 T.a__law_leaf T.fd__law_leaf ["state", "frame"] sp__law_leaf := by
  refine T.F__law_leaf.ok sc__law_leaf (fun vs H Q E h => ?_) (fun cdv A outer z H vs Q E hr h => ?_)
  · obtain ⟨s, wl, cl, n, fr, fa, na, fs, N, m, rfl, _⟩ := h
    rfl
  · obtain ⟨s, wl, cl, n, fr, fa, na, fs, N, m, rfl, st, fo, nms, dig, h6, k⟩ := h
    refine ⟨_, (pss_cons (ps_par (i := 2) (j := 3) (by rfl) sc__law_leaf.nd rfl rfl (by decide) rfl rfl (pa_cons (pe_dget (hu_of hr) (pv 1) pe_str (fun _ _ => rfl)) (pa_cons (pe_call (ok__law_take T) (hr.mono (by omega)) rfl T.m__law_take T.F__law_take.kp T.b__law_take .nil pass0 (pa_cons (pv 0) (pa_cons pe_int pa_nil))) pa_nil)) (by rfl))
      (pss_mid (ps_if (PW.pt (pw_and (pt_cmp (pc_lt (pv 3) pe_int)) (pw_and1 (pt_cmp (pc_gt (pe_dget (hu_of hr) (pv 1) pe_str (fun _ _ => rfl)) pe_int))))) (pss_cons (ps_dput (hu_of hr) (pv 1) pe_str (pe_op op_sub (pe_dget (hu_of hr) (pv 1) pe_str (fun _ _ => rfl)) pe_int) rfl)
        (pss_one (ps_ret (pe_tup (pa_cons pe_str pa_nil))))) pss_nil)
      (pss_cons (ps_if (pt_cmp (pc_lt (pv 3) pe_int)) (pss_one (ps_ret (pe_call (ok__law_test T 1) (hr.mono (by omega)) rfl T.m__law_test T.F__law_test.kp T.b__law_test .nil pass0 (pa_cons (pv 0) (pa_cons (pv 1) (pa_cons pe_int pa_nil)))))) pss_nil)
      (pss_mid (ps_if (PW.pt (pw_and (pt_cmp (pc_lt (pv 3) pe_int)) (pw_and1 (pt_cmp (pc_gt (pe_callB call_len_seq (by rfl) T.z_len (by decide +kernel) (pa_cons (pv 2) pa_nil)) pe_int))))) (pss_cons (ps_set (i := 2) sc__law_leaf.nd rfl (Or.inl rfl) (pe_call (ok__law_shuffled T) (hr.mono (by omega)) rfl T.m__law_shuffled T.F__law_shuffled.kp T.b__law_shuffled .nil pass0 (pa_cons (pv 0) (pa_cons (pv 2) pa_nil))))
        (pss_one (ps_ret (pe_tup (pa_cons pe_str (pa_cons (pe_ix ix_seq (pv 2) pe_int (fun _ _ => rfl)) (pa_cons (pe_ix ix_seq (pv 2) pe_int (fun _ _ => rfl)) pa_nil))))))) pss_nil)
      (pss_one (ps_ret (pe_tup (pa_cons pe_str (pa_cons (pe_call (ok__law_pick T) (hr.mono (by omega)) rfl T.m__law_pick T.F__law_pick.kp T.b__law_pick .nil pass0 (pa_cons (pv 0) (pa_cons (pv 2) pa_nil))) (pa_cons (pe_call (ok__law_pick T) (hr.mono (by omega)) rfl T.m__law_pick T.F__law_pick.kp T.b__law_pick .nil pass0 (pa_cons (pv 0) (pa_cons (pe_dget (hu_of hr) (pv 1) pe_str (fun _ _ => rfl)) pa_nil))) pa_nil)))))))))), ?_⟩
    have lf := nms.len
    have lN : 0 < N.length ∧ N.length ≤ 3 := by have := dig.1; omega
    have small : (4 : Nat) ≤ sizeLine := by rw [sizeLine_eq]; omega
    obtain ⟨f1, f2, f3, f4, f5⟩ := id fo
    refine ⟨_, rfl, fr, _, rfl, .inl ⟨_, .inr "fields", .inl f1, rfl, get_fields.symm⟩, _, rfl, s, wl, cl, n, 10, rfl, st, by omega, by omega, by omega, fun q H1 lq k1 st1 => ⟨_, _, rfl, ?_⟩⟩
    have fo1 := fo.kept st k1
    obtain ⟨kvs, g1, gl, gm, gp⟩ := fo1.marks st1
    have hfa1 := k1.tp.tup _ _ f2
    refine ⟨fun σ H' => σ = [some (.ref s), some (.ref fr), some (.ref fa), some (.int (q : Int))] ∧ H1 = H', ?_, ?_⟩
    · refine ⟨_, rfl, _, 2, rfl, rfl, _, rfl, iteB (fun _ => ?_) fun _ => ⟨rfl, rfl⟩⟩
      refine ⟨_, rfl, fr, _, rfl, .inl ⟨_, .inr "marks", .inl g1, rfl, gm.symm⟩, _, 0, rfl, rfl, _, rfl, iteB (fun pos => ?_) fun _ => ⟨rfl, rfl⟩⟩
      obtain ⟨m', rfl⟩ : ∃ m', m = m' + 1 := by
        have : (m : Int) > 0 := of_decide_eq_true pos
        exact ⟨m - 1, by omega⟩
      obtain ⟨p1, p2, p3⟩ := gp m'
      have e1 : (((m' + 1 : Nat) : Int) - 1) = (m' : Int) := by omega
      refine ⟨_, rfl, fr, _, rfl, .inl ⟨_, .inr "marks", .inl g1, rfl, gm.symm⟩, _, _, rfl, rfl, _, rfl, fr, _, rfl, .inl ⟨_, .inr "marks", g1, rfl, gl, rfl⟩, ?_⟩
      simp only [e1]
      refine ⟨by show 1 ≤ sizeLine; omega, fun p np => ?_⟩
      have a1 := same_new (o := .tup [.str "mark"]) np
      exact k p .mark m' _ (k1.three.trans (p3.trans (.same a1))) ((p2.same a1).le (by omega)) (p1.same a1) (by simp only [nm]; omega) (.tup upd_same (.cons (.text _) .nil)) ⟨trivial, trivial, by simp [dp], by simp [subs]⟩
    · rintro σ H' ⟨rfl, rfl⟩
      refine ⟨_, rfl, _, 5, rfl, rfl, _, rfl, iteB (fun _ => ?_) fun _ => ?_⟩
      · refine ⟨_, rfl, _, rfl, s, wl, cl, _, fr, fs, N, m, 0, rfl, by omega, st1, ⟨fa, na, fo1⟩, nms, dig, by show n + 1 + 3 ≤ _; omega, fun r t H2 k2 st2 nt te => ?_⟩
        exact k r t m H2 (k1.three.trans k2.three) st2 (fo1.kept st1 k2) (by rw [nm_test te.test]; omega) nt te.toGrown
      refine ⟨fun σ H' => σ = [some (.ref s), some (.ref fr), some (.ref fa), some (.int (q : Int))] ∧ H1 = H', ?_, ?_⟩
      · refine ⟨_, rfl, _, 7, rfl, rfl, _, rfl, iteB (fun _ => ?_) fun _ => ⟨rfl, rfl⟩⟩
        refine ⟨_, rfl, fa, _, rfl, .inr (SqT.of hfa1), _, 1, rfl, rfl, _, rfl, iteB (fun two => ?_) fun _ => ⟨rfl, rfl⟩⟩
        have two : fs.length = 2 := by
          have := of_decide_eq_true two
          rw [List.length_map] at this
          omega
        refine ⟨_, rfl, _, rfl, s, wl, cl, _, fa, fs.map V.str, rfl, st1, by rw [List.length_map]; omega, .inr hfa1, fun v hv => ?_, by rw [List.length_map]; omega, fun r ys H2 pm nr e2 k2 st2 => ?_⟩
        · obtain ⟨f, hf, rfl⟩ := List.mem_map.mp hv
          exact List.all_eq_true.mp names_str f (nms.named f hf)
        obtain ⟨gs, pg, rfl⟩ : ∃ gs : List Str, gs.Perm fs ∧ ys = gs.map V.str := by
          obtain ⟨m, p, e⟩ := perm_map_inv pm rfl
          exact ⟨m, p, e⟩
        have lg := pg.length_eq
        rw [List.length_map] at st2
        have ng := pg.nodup_iff.mpr nms.nd
        obtain ⟨f, g, rfl⟩ := two_of (lg.trans two)
        refine ⟨_, rfl, .inl ⟨r, _, 0, _, rfl, rfl, SqL.of e2, at0, _, rfl, .inl ⟨r, _, 1, _, rfl, rfl, SqL.of e2, atI_nat (j := 1) rfl, by show 3 ≤ sizeLine; omega, fun p np => ?_⟩⟩⟩
        have a1 := same_new (o := .tup [.str "take", .str f, .str g]) np
        refine k p (.take f g) m _ (k1.three.trans (k2.three.trans (.same a1))) ((st2.same a1).le (by omega)) ((fo1.kept st1 k2).same a1) (by simp only [nm]; omega) (.tup upd_same (.cons (.text _) (.cons (.text _) (.cons (.text _) .nil)))) ⟨?_, ⟨pg.mem_iff.mp (by simp), pg.mem_iff.mp (by simp)⟩, by simp [dp], by simp [subs]⟩
        exact fun e => by simp [e] at ng
      · rintro σ H' ⟨rfl, rfl⟩
        refine ⟨_, rfl, _, rfl, s, wl, cl, _, fa, fs.map V.str, rfl, st1, by omega, .inr hfa1, by rw [List.length_map]; omega, by rw [List.length_map]; omega, fun v H2 hv k2 st2 => ?_⟩
        obtain ⟨f, hf, rfl⟩ := List.mem_map.mp hv
        obtain ⟨g1, g2, g3, g4, g5⟩ := fo1.kept st1 k2
        refine ⟨_, rfl, _, rfl, fr, _, rfl, .inl ⟨_, .inr "numbers", .inl g1, rfl, get_numbers.symm⟩, s, wl, cl, _, na, numV N, rfl, st2, by omega, .inl ⟨g3, g4⟩, by rw [numV, List.length_map]; omega, by rw [numV, List.length_map]; omega, fun u H3 hu k3 st3 => ?_⟩
        obtain ⟨c, hc, rfl⟩ := List.mem_map.mp hu
        refine ⟨by show 3 ≤ sizeLine; omega, fun p np => ?_⟩
        have a1 := same_new (o := .tup [.str "set", .str f, .int (c : Int)]) np
        exact k p (.set f c) m _ (k1.three.trans (k2.three.trans (k3.three.trans (.same a1)))) ((st3.same a1).le (by omega)) (((fo1.kept st1 k2).kept st2 k3).same a1) (by simp only [nm]; omega) (.tup upd_same (.cons (.text _) (.cons (.text _) (.cons (.num _) .nil)))) ⟨trivial, ⟨hf, hc⟩, by simp [dp], by simp [subs]⟩
end
end Mw
/-! The law's trees, programs, packets. -/
namespace Mw
open PySem L2
def cR : Nat → Nat
  | 0 => 5
  | d + 1 => 3 * cR d + 42
def zR : Nat → Nat
  | 0 => 1
  | d + 1 => 3 * zR d + 13
def dR : Nat → Nat
  | 0 => 1
  | d + 1 => max 3 (dR d + 1)
theorem cR_le : ∀ d : Nat, 5 ≤ cR d
  | 0 => Nat.le_refl _
  | d + 1 => by rw [cR]; omega
theorem zR_le : ∀ d : Nat, 1 ≤ zR d
  | 0 => Nat.le_refl _
  | d + 1 => by rw [zR]; omega
theorem dR_le : ∀ d : Nat, 1 ≤ dR d
  | 0 => Nat.le_refl _
  | d + 1 => by rw [dR]; omega
theorem nvs_mono_same {H H' : Hp} {ks : List D} {vs : List V} (s : Same H H') (n : NVs H ks vs) : NVs H' ks vs := n.mono (.same s)
theorem St.kept3 {H H' : Hp} {s wl cl fr L : Addr} {n : Nat} {xs : List V} (k : Kept3 s wl fr H H') (ne : L ≠ s ∧ L ≠ wl ∧ L ≠ cl) (nf : L ≠ fr) (h : H L = some (.lst xs)) : H' L = some (.lst xs) := k.keep L _ ne.1 ne.2.1 nf h
section
variable {P : Program} {w : World} {K : PySem.W.Frag} {mg : Str → Option Value} {base : Heap}
def sp__law_tree (d : Nat) : Sp := fun vs H Q _ => ∃ s wl cl n fr fa na fs N m deep, vs = [.ref s, .ref fr, .int ((deep : Nat) : Int)] ∧ deep < d ∧ St H s wl cl n ∧ FrA H s wl fr fa na fs N m ∧ Names fs ∧ Digits N ∧ n + cR deep ≤ 1000000 ∧
  ∀ r t m' H', Kept3 s wl fr H H' → St H' s wl cl (n + cR deep) → FrA H' s wl fr fa na fs N m' → nm t + m' ≤ m → NV H' (srcD t) (.ref r) → Grown fs N (dR deep) (zR deep) t → Q (.ref r) H'
theorem ok__law_tree1 (T : TX K mg) {d : Nat} (G : FnOk P w K mg base CX0 (d + 6) T.a__law_tree T.fd__law_tree ["state", "frame", "deep"] (sp__law_tree d)) : FnOk P w K mg base CX0 (d + 7) T.a__law_tree T.fd__law_tree ["state", "frame", "deep"] (sp__law_tree (d + 1)) := by
  refine T.F__law_tree.ok sc__law_tree (fun vs H Q E h => ?_) (fun cdv A outer z H vs Q E hr h => ?_)
  · obtain ⟨s, wl, cl, n, fr, fa, na, fs, N, m, deep, rfl, _⟩ := h
    rfl
  · obtain ⟨s, wl, cl, n, fr, fa, na, fs, N, m, deep, rfl, h0, st, fo, nms, dig, h6, k⟩ := h
    refine ⟨_, (pss_cons (ps_set (i := 3) sc__law_tree.nd rfl (Or.inl rfl) (pe_call (ok__law_take T) (hr.mono (by omega)) rfl T.m__law_take T.F__law_take.kp T.b__law_take .nil pass0 (pa_cons (pv 0) (pa_cons pe_int pa_nil))))
      (pss_cons (ps_if (PW.pt (pw_or (pt_cmp (pc_eqI (pv 2) pe_int)) (pw_or1 (pt_cmp (pc_eqI (pv 3) pe_int))))) (pss_one (ps_ret (pe_call (ok__law_leaf T) (hr.mono (by omega)) rfl T.m__law_leaf T.F__law_leaf.kp T.b__law_leaf .nil pass0 (pa_cons (pv 0) (pa_cons (pv 1) pa_nil))))) pss_nil)
      (pss_cons (ps_if (pt_cmp (pc_eqI (pv 3) pe_int)) (pss_one (ps_ret (pe_call (ok__law_test T 3) (hr.mono (by omega)) rfl T.m__law_test T.F__law_test.kp T.b__law_test .nil pass0 (pa_cons (pv 0) (pa_cons (pv 1) (pa_cons pe_int pa_nil)))))) pss_nil)
      (pss_cons (ps_if (pt_cmp (pc_lt (pv 3) pe_int)) (pss_one (ps_ret (pe_tup (pa_cons pe_str (pa_cons (pe_call G (hr.mono (by omega)) rfl T.m__law_tree T.F__law_tree.kp T.b__law_tree .nil pass0 (pa_cons (pv 0) (pa_cons (pv 1) (pa_cons (pe_op op_sub (pv 2) pe_int) pa_nil)))) pa_nil))))) pss_nil)
      (pss_cons (ps_set (i := 4) sc__law_tree.nd rfl (Or.inl rfl) (pe_op op_add pe_int (pe_callTy call_int1 (by rfl) T.z_int (by decide +kernel) (pa_cons (pe_cmp (pc_eqI (pe_call (ok__law_take T) (hr.mono (by omega)) rfl T.m__law_take T.F__law_take.kp T.b__law_take .nil pass0 (pa_cons (pv 0) (pa_cons pe_int pa_nil))) pe_int) rfl) pa_nil))))
      (pss_cons (ps_setLc (i := 5) (own := [("turn", 6)]) (g := (gName 6)) (tt := tYes) (te := (tCall (sp__law_tree d) [] E0 (tCons (tVar 0) (tCons (tVar 1) (tCons (tOp (rI0 fun i j => .int (i - j)) (tVar 2) (tC (.int 1))) tNil))))) rfl sc__law_tree.nd rfl rfl (sw_true rfl rfl rfl (by decide +kernel)) (pi_range1 rfl T.z_range (pa_cons (pv 4) pa_nil)) (blkOk_by (own := [("turn", 6)]) (N := ["state", "frame", "deep", "sort", "many", "portions", "turn"]) (sc := defScope s__law_tree) (by decide +kernel)) (fun _ _ _ _ _ => (pg_name (i := 6) sc__law_tree.nd rfl (Or.inl rfl))) (fun _ _ _ _ _ => pts_nil) (fun _ _ _ _ _ => (pe_call G (hr.mono (by omega)) rfl T.m__law_tree T.F__law_tree.kp T.b__law_tree .nil pass0 (pa_cons (pv 0) (pa_cons (pv 1) (pa_cons (pe_op op_sub (pv 2) pe_int) pa_nil))))))
      (pss_one (ps_ret (pe_op op_catT (pe_tup (pa_cons (pe_ifExp (pt_cmp (pc_lt (pv 3) pe_int)) pe_str pe_str) pa_nil)) (pe_callTy call_tuple_of (by rfl) T.z_tuple (by decide +kernel) (pa_cons (pv 5) pa_nil))))))))))), ?_⟩
    have c5 := cR_le deep
    have z1 := zR_le deep
    have d1 := dR_le deep
    have small : (4 : Nat) ≤ sizeLine := by rw [sizeLine_eq]; omega
    refine ⟨_, rfl, s, wl, cl, n, 12, rfl, st, by omega, by omega, by omega, fun q H1 lq k1 st1 => ?_⟩
    have fo1 := fo.kept st k1
    have leafCase : ∀ (D : Ends) (σ : L2.St), σ = [some (.ref s), some (.ref fr), some (.int (deep : Int)), some (.int (q : Int)), none, none, none] → D.rt = Q → tRet (tCall sp__law_leaf [] E0 (tCons (tVar 0) (tCons (tVar 1) tNil))) D σ H1 := by
      rintro D σ rfl rfl
      refine ⟨_, rfl, _, rfl, s, wl, cl, _, fr, fa, na, fs, N, m, rfl, st1, fo1, nms, dig, by omega, fun r t m' H2 k2 st2 fo2 lm nt gr => ?_⟩
      exact k r t m' H2 (k1.three.trans k2) (st2.le (by omega)) fo2 lm nt (gr.le d1 z1)
    refine ⟨_, rfl, _, 0, rfl, rfl, _, rfl, iteB (fun _ => leafCase _ _ rfl rfl) fun ne1 => ?_⟩
    obtain ⟨e, rfl⟩ : ∃ e, deep = e + 1 := by
      have : ¬ ((deep : Int) = 0) := of_decide_eq_false ne1
      exact ⟨deep - 1, by omega⟩
    have sub1 : (((e + 1 : Nat) : Int) - 1) = (e : Int) := by omega
    have cE : cR (e + 1) = 3 * cR e + 42 := rfl
    have zE : zR (e + 1) = 3 * zR e + 13 := rfl
    have dE : dR (e + 1) = max 3 (dR e + 1) := rfl
    refine ⟨_, rfl, _, 0, rfl, rfl, _, rfl, iteB (fun _ => leafCase _ _ rfl rfl) fun _ => ?_⟩
    refine ⟨_, rfl, _, 1, rfl, rfl, _, rfl, iteB (fun _ => ?_) fun _ => ?_⟩
    · refine ⟨_, rfl, _, rfl, s, wl, cl, _, fr, fs, N, m, 2, rfl, by omega, st1, ⟨fa, na, fo1⟩, nms, dig, by show n + 1 + 39 ≤ _; omega, fun r t H2 k2 st2 nt te => ?_⟩
      exact k r t m H2 (k1.three.trans k2.three) (st2.le (by show n + 1 + 39 ≤ _; omega)) (fo1.kept st1 k2) (by rw [nm_test te.test]; omega) nt (te.toGrown.le (by omega) (by show 13 ≤ _; omega))
    refine ⟨_, rfl, _, 4, rfl, rfl, _, rfl, iteB (fun _ => ?_) fun _ => ?_⟩
    · refine ⟨_, rfl, _, rfl, _, rfl, _, _, rfl, rfl, s, wl, cl, _, fr, fa, na, fs, N, m, e, (by show [V.ref s, V.ref fr, V.int (((e + 1 : Nat) : Int) - 1)] = _; rw [sub1]), by omega, st1, fo1, nms, dig, by omega, fun r t m' H2 k2 st2 fo2 lm nt te => ⟨by show 2 ≤ sizeLine; omega, fun p np => ?_⟩⟩
      have a1 := same_new (o := .tup [.str "loop", .ref r]) np
      refine k p (.loop t) m' _ (k1.three.trans (k2.trans (.same a1))) ((st2.same a1).le (by omega)) (fo2.same a1) (by rw [nm]; exact lm) (.tup upd_same (.cons (.text _) (.cons (nt.mono (.same a1)) .nil))) ⟨te.form, te.fits, ?_, ?_⟩
      · have := te.deep; rw [dp]; omega
      · have := te.size; rw [subs, List.length_cons]; omega
    refine ⟨_, rfl, s, wl, cl, _, 3, rfl, st1, by omega, by omega, by omega, fun q2 H2 lq2 k2 st2 => ⟨_, _, rfl, rfl, .inr ⟨_, rfl, _, _, rfl, rfl, ?_⟩⟩⟩
    obtain ⟨mn, emn, l2, l3⟩ : ∃ mn : Nat, (2 : Int) + (if decide ((q2 : Int) = 0) = true then 1 else 0) = (mn : Int) ∧ 2 ≤ mn ∧ mn ≤ 3 := by
      by_cases h : (q2 : Int) = 0
      · exact ⟨3, by simp [h], by omega, by omega⟩
      · exact ⟨2, by rw [if_neg (by rw [decide_eq_true_iff]; exact h)]; rfl, by omega, by omega⟩
    refine ⟨_, rfl, _, rfl, by rw [emn]; omega, by rw [emn]; omega, fun L nL => ?_⟩
    have nLs := st2.ne nL
    have k12 := k1.trans k2
    have fo2 := fo1.kept st1 k2
    have nLf : L ≠ fr := (ne_of_none fo2.1 nL).symm
    have nLa : L ≠ na := (ne_of_none fo2.2.2.1 nL).symm
    have aL := same_new (o := .lst []) nL
    refine lc_range (lo := 0) (fun i H' => ∃ (ts : List Src) (ys : List V) (m' : Nat), Kept3 s wl fr H2 H' ∧ St H' s wl cl (n + 2 + i * cR e) ∧ FrA H' s wl fr fa na fs N m' ∧ Mw.nms ts + m' ≤ m ∧ H' L = some (.lst ys) ∧ NVs H' (ts.map srcD) ys ∧ ts.length = i ∧ ∀ t ∈ ts, Grown fs N (dR e) (zR e) t) ?_ ?_ ?_
    · exact ⟨[], [], m, .same aL, (st2.same aL).le (by omega), fo2.same aL, by simp [Mw.nms], upd_same, .nil, rfl, fun t h => absurd h List.not_mem_nil⟩
    · rintro i H3 hi ⟨ts, ys, m3, k3, st3, fo3, lm3, at3, nv3, lt, te⟩
      have hi : i < mn := by
        have e : ((2 : Int) + (if decide ((q2 : Int) = 0) = true then 1 else 0)).toNat = mn := by rw [emn]; rfl
        rw [← e]; exact hi
      have ii : i * cR e ≤ 2 * cR e := Nat.mul_le_mul_right _ (by omega)
      refine ⟨rfl, ?_⟩
      simp only [tYes, if_true]
      refine ⟨_, rfl, _, rfl, _, rfl, _, _, rfl, rfl, s, wl, cl, _, fr, fa, na, fs, N, m3, e, (by show [V.ref s, V.ref fr, V.int (((e + 1 : Nat) : Int) - 1)] = _; rw [sub1]), by omega, st3, fo3, nms, dig, by omega, fun r t m4 H4 k4 st4 fo4 lm4 nt te4 => ?_⟩
      have at4 := k4.keep L _ nLs.1 nLs.2.1 nLf at3
      have lys : ys.length = i := by rw [nv3.length, List.length_map, lt]
      have tpw : Tp H4 (upd H4 L (.lst (ys ++ [.ref r]))) := Tp.write (by rw [at4]; exact True.intro)
      refine ⟨ys, at4, by rw [lys]; omega, ts ++ [t], ys ++ [.ref r], m4, (k3.trans k4).new nL, (st4.put (nLs) at4).le (by rw [Nat.succ_mul]; omega), fo4.put at4 nLa, by rw [nms_snoc]; omega, upd_same, ?_, by rw [List.length_append, lt]; rfl, fun u hu => ?_⟩
      · rw [List.map_append]
        exact ((nv3.mono k4.tp).append (.cons nt .nil)).mono tpw
      · rcases List.mem_append.mp hu with hu | hu
        · exact te u hu
        · rw [List.mem_singleton.mp hu]; exact te4
    · rintro H3 ⟨ts, ys, m3, k3, st3, fo3, lm3, at3, nv3, lt, te⟩
      have e' : ((2 : Int) + (if decide ((q2 : Int) = 0) = true then 1 else 0)).toNat = mn := by rw [emn]; rfl
      have lt : ts.length = mn := by rw [← e']; exact lt
      have st3 : St H3 s wl cl (n + 2 + mn * cR e) := by rw [← e']; exact st3
      have ii : mn * cR e ≤ 3 * cR e := Nat.mul_le_mul_right _ (by omega)
      have lys : ys.length = mn := by rw [nv3.length, List.length_map, lt]
      obtain ⟨tr, ta⟩ := grown_row te (by omega) (by omega)
      have gr : ∀ t, Grown fs N (dR e + 1) (3 * zR e + 1) t → Grown fs N (dR (e + 1)) (zR (e + 1)) t := fun t h => h.le (by omega) (by omega)
      refine ⟨_, rfl, _, 8, rfl, rfl, _, rfl, iteB (fun _ => ?_) fun _ => ?_⟩
      all_goals
        refine ⟨by show 1 ≤ sizeLine; omega, fun p6 np6 => ?_⟩
        have a6 : ∀ o, Same H3 (upd H3 p6 o) := fun o => same_new np6
        refine ⟨_, rfl, L, ys, rfl, .inl ⟨SqL.of (a6 _ _ _ at3), fun p7 np7 => ?_⟩⟩
        have a7 := same_new (o := .tup ys) np7
        have K7 := k12.three.trans (k3.trans (.same (same_trans (a6 _) a7)))
        have s67 := same_trans (a6 _) a7
        have nv7 := nv3.mono (.same s67)
        refine ⟨p6, p7, _, ys, rfl, rfl, SqT.of (a7 _ _ upd_same), SqT.of upd_same, by simp, by rw [lys]; show 1 + mn ≤ _; omega, fun e => by rw [e] at lys; simp at lys; omega, fun _ p8 np8 => ?_⟩
        rw [← srcDs_map] at nv7
        have a8 : ∀ o, Same _ (upd _ p8 o) := fun o => same_new np8
        have s8 := st3.same s67
        have f8 := fo3.same s67
        first
          | exact k p8 (.row ts) m3 _ (K7.trans (.same (a8 _))) ((s8.same (a8 _)).le (by omega)) (f8.same (a8 _)) (by rw [nm]; exact lm3) (.tup upd_same (.cons (.text _) (nvs_mono_same (a8 _) nv7))) (gr _ tr)
          | exact k p8 (.alt ts) m3 _ (K7.trans (.same (a8 _))) ((s8.same (a8 _)).le (by omega)) (f8.same (a8 _)) (by rw [nm]; exact lm3) (.tup upd_same (.cons (.text _) (nvs_mono_same (a8 _) nv7))) (gr _ ta)
theorem ok__law_tree (T : TX K mg) : ∀ d : Nat, FnOk P w K mg base CX0 (d + 6) T.a__law_tree T.fd__law_tree ["state", "frame", "deep"] (sp__law_tree d)
  | 0 => by
    have no : ∀ {vs H Q E}, ¬ sp__law_tree 0 vs H Q E := fun {vs H Q E} h => by
      obtain ⟨s, wl, cl, n, fr, fa, na, fs, N, m, deep, rfl, h, _⟩ := h
      omega
    exact T.F__law_tree.ok sc__law_tree (fun vs H Q E h => absurd h no) (fun cdv A outer s H vs Q E hr h => absurd h no)
  | d + 1 => ok__law_tree1 T (ok__law_tree T d)
end
end Mw
/-! The law's marked trees, programs, packets. -/
namespace Mw
open PySem L2
section
variable {P : Program} {w : World} {K : PySem.W.Frag} {mg : Str → Option Value} {base : Heap}
def sp__law_marked_tree : Sp := fun vs H Q _ => ∃ s wl cl n fr fa na fs N m, vs = [.ref s, .ref fr, .int 2, .int 2] ∧ St H s wl cl n ∧ FrA H s wl fr fa na fs N m ∧ Names fs ∧ Digits N ∧ n + 213 ≤ 1000000 ∧
  ∀ r t m' H', Kept3 s wl fr H H' → St H' s wl cl (n + 213) → FrA H' s wl fr fa na fs N m' → nm t ≤ 2 → NV H' (srcD t) (.ref r) → Grown fs N 4 61 t → Q (.ref r) H'
theorem ok__law_marked_tree (T : TX K mg) : FnOk P w K mg base CX0 10 T.a__law_marked_tree T.fd__law_marked_tree ["state", "frame", "deep", "marks"] sp__law_marked_tree := by
  refine T.F__law_marked_tree.ok sc__law_marked_tree (fun vs H Q E h => ?_) (fun cdv A outer z H vs Q E hr h => ?_)
  · obtain ⟨s, wl, cl, n, fr, fa, na, fs, N, m, rfl, _⟩ := h
    rfl
  · obtain ⟨s, wl, cl, n, fr, fa, na, fs, N, m, rfl, st, fo, nms, dig, h6, k⟩ := h
    refine ⟨_, (pss_cons (ps_dput (hu_of hr) (pv 1) pe_str (pv 3) rfl)
      (pss_one (ps_ret (pe_call (ok__law_tree T 3) (hr.mono (by omega)) rfl T.m__law_tree T.F__law_tree.kp T.b__law_tree .nil pass0 (pa_cons (pv 0) (pa_cons (pv 1) (pa_cons (pv 2) pa_nil))))))), ?_⟩
    obtain ⟨kvs, e1, lk, gm, put⟩ := fo.marks st
    obtain ⟨fo1, st1, k1⟩ := put 2
    refine ⟨_, rfl, _, rfl, fr, _, rfl, .inl ⟨_, .inr "marks", e1, rfl, lk, rfl⟩, ?_⟩
    refine ⟨_, rfl, _, rfl, _, rfl, s, wl, cl, n, fr, fa, na, fs, N, 2, 2, rfl, by omega, st1, fo1, nms, dig, by show n + 213 ≤ _; omega, fun r t m' H2 k2 st2 fo2 lm nt gr => ?_⟩
    exact k r t m' H2 (k1.trans k2) st2 fo2 (by omega) nt gr
def sp__law_program (T : TX K mg) : Sp := fun vs H Q _ => ∃ s wl cl n fr p fs N m t N', vs = [.ref s, .ref fr, .ref p] ∧ St H s wl cl n ∧ Fr H s wl fr fs N m ∧ Names fs ∧ n + 2 ≤ 1000000 ∧ NV H (srcD t) (.ref p) ∧ Good fs N' t ∧
  ∀ r H', Kept s wl H H' → St H' s wl cl (n + 2) → Prog T H' r fs t → Q (.ref r) H'
theorem ok__law_program (T : TX K mg) : FnOk P w K mg base CX0 18 T.a__law_program T.fd__law_program ["state", "frame", "plan"] (sp__law_program T) := by
  refine T.F__law_program.ok sc__law_program (fun vs H Q E h => ?_) (fun cdv A outer z H vs Q E hr h => ?_)
  · obtain ⟨s, wl, cl, n, fr, p, fs, N, m, t, N', rfl, _⟩ := h
    rfl
  · obtain ⟨s, wl, cl, n, fr, p, fs, N, m, t, N', rfl, st, fo, nms, h6, nt, g, k⟩ := h
    refine ⟨_, (pss_one (ps_ret (pe_make T.mk_Program (ok_Program_init T) (hr.mono (by omega)) (by rfl) T.m_Program T.b_Program_init .nil pass0 (pa_cons (pe_call (ok__law_shuffled T) (hr.mono (by omega)) rfl T.m__law_shuffled T.F__law_shuffled.kp T.b__law_shuffled .nil pass0 (pa_cons (pv 0) (pa_cons (pe_dget (hu_of hr) (pv 1) pe_str (fun _ _ => rfl)) pa_nil))) (pa_cons (pv 2) pa_nil))))), ?_⟩
    have lf := nms.len
    obtain ⟨fa, na, f1, f2, f3, f4, f5⟩ := id fo
    refine ⟨_, rfl, _, rfl, fr, _, rfl, .inl ⟨_, .inr "fields", .inl f1, rfl, get_fields.symm⟩, s, wl, cl, n, fa, fs.map V.str, rfl, st, by rw [List.length_map]; omega, .inr f2, fun v hv => ?_, by rw [List.length_map]; omega, fun r ys H2 pm nr e2 k2 st2 => ?_⟩
    · obtain ⟨f, hf, rfl⟩ := List.mem_map.mp hv
      exact List.all_eq_true.mp names_str f (nms.named f hf)
    obtain ⟨gs, pg, rfl⟩ : ∃ gs : List Str, gs.Perm fs ∧ ys = gs.map V.str := by
      obtain ⟨m, p, e⟩ := perm_map_inv pm rfl
      exact ⟨m, p, e⟩
    rw [List.length_map] at st2
    refine ⟨_, rfl, made_program (N := N') (.inl e2) pg nms (nt.mono k2.tp) g fun x H3 s3 nx pr => ?_⟩
    exact k x H3 (k2.trans (.same s3)) ((st2.same s3).le (by omega)) pr
theorem numV_append (a b : List Nat) : numV (a ++ b) = numV a ++ numV b := List.map_append ..
def nextN (v : Nat) : Nat := if v + 1 < 1000000000000 then v + 1 else 1000000000000
theorem nvs_nums {H : Hp} : ∀ p : Pk, NVs H (p.map fun (v : Nat) => NestedKey.num (v : Int)) (numV p)
  | [] => .nil
  | v :: p => .cons (.num _) (nvs_nums p)
def sp__law_packet : Sp := fun vs H Q _ => ∃ s wl cl n fr fs N m, vs = [.ref s, .ref fr] ∧ St H s wl cl n ∧ Fr H s wl fr fs N m ∧ Names fs ∧ Digits N ∧ n + 3 ≤ 1000000 ∧
  ∀ r x p H', Kept s wl H H' → St H' s wl cl (n + 3) → x ≤ 1000000000000 → InU x fs.length p → NV H' (pkD p) (.ref r) → Q (.ref r) H'
theorem ok__law_packet (T : TX K mg) : FnOk P w K mg base CX0 4 T.a__law_packet T.fd__law_packet ["state", "frame"] sp__law_packet := by
  refine T.F__law_packet.ok sc__law_packet (fun vs H Q E h => ?_) (fun cdv A outer z H vs Q E hr h => ?_)
  · obtain ⟨s, wl, cl, n, fr, fs, N, m, rfl, _⟩ := h
    rfl
  · obtain ⟨s, wl, cl, n, fr, fs, N, m, rfl, st, fo, nms, dig, h6, k⟩ := h
    refine ⟨_, (pss_cons (ps_set (i := 2) sc__law_packet.nd rfl (Or.inr rfl) (pe_lc (own := [("number", 3)]) (g := (gName 3)) (tt := tYes) (te := _) rfl sc__law_packet.nd (pi_list (pe_dget (hu_of hr) (pv 1) pe_str (fun _ _ => rfl))) (blkOk_by (own := [("number", 3)]) (N := ["state", "frame", "near", "number", "name"]) (sc := defScope s__law_packet) (by decide +kernel)) (fun _ _ _ _ _ => (pg_name (i := 3) sc__law_packet.nd rfl (Or.inl rfl))) (fun _ _ _ _ _ => pts_nil) (fun _ _ _ _ _ => (pe_callB (call_min2 rfl) (by rfl) T.z_min (by decide +kernel) (pa_cons (pe_op op_pow pe_int pe_int) (pa_cons (pe_op op_add (pv 3) pe_int) pa_nil))))))
      (pss_cons (ps_set (i := 2) sc__law_packet.nd rfl (Or.inr rfl) (pe_op op_cat (pe_op op_cat (pv 2) (pe_op op_rep (pe_dget (hu_of hr) (pv 1) pe_str (fun _ _ => rfl)) pe_int)) (pe_lst (pa_cons pe_int (pa_cons pe_int (pa_cons pe_int (pa_cons (pe_call (ok__law_take T) (hr.mono (by omega)) rfl T.m__law_take T.F__law_take.kp T.b__law_take .nil pass0 (pa_cons (pv 0) (pa_cons (pe_op op_pow pe_int pe_int) pa_nil))) pa_nil)))))))
      (pss_one (ps_ret (pe_callTy call_tuple_of (by rfl) T.z_tuple (by decide +kernel) (pa_cons (pe_lc (own := [("name", 4)]) (g := (gName 4)) (tt := tYes) (te := (tCall sp__law_pick [] E0 (tCons (tVar 0) (tCons (tVar 2) tNil)))) rfl sc__law_packet.nd (pi_tup (pe_dget (hu_of hr) (pv 1) pe_str (fun _ _ => rfl))) (blkOk_by (own := [("name", 4)]) (N := ["state", "frame", "near", "number", "name"]) (sc := defScope s__law_packet) (by decide +kernel)) (fun _ _ _ _ _ => (pg_name (i := 4) sc__law_packet.nd rfl (Or.inl rfl))) (fun _ _ _ _ _ => pts_nil) (fun _ _ _ _ _ => (pe_call (ok__law_pick T) (hr.mono (by omega)) rfl T.m__law_pick T.F__law_pick.kp T.b__law_pick .nil pass0 (pa_cons (pv 0) (pa_cons (pv 2) pa_nil))))) pa_nil)))))), ?_⟩
    obtain ⟨fa, na, f1, f2, f3, f4, f5⟩ := id fo
    have lf := nms.len
    have lN : N.length ≤ 3 := by have := dig.1; omega
    have small : (20 : Nat) ≤ sizeLine := by rw [sizeLine_eq]; omega
    refine ⟨_, rfl, fr, _, rfl, .inl ⟨_, .inr "numbers", .inl f1, rfl, get_numbers.symm⟩, na, rfl, ⟨_, SqL.of f3⟩, fun A nA => ?_⟩
    refine lc_each (l := N) (steady_list (K := K) (a := na) (xs := numV N)) (fun H' s' => SqL.of (s' _ _ f3)) (fun v y _ => y = V.int ((nextN v : Nat) : Int)) (fun {_ _ _ _} _ q => q) nA (List.length_map ..) (by omega) ?_ ?_
    · intro i v x H1 hv hx s1 Y yes
      rw [numV, List.getElem?_map, hv] at hx
      cases hx
      refine ⟨rfl, _, _, rfl, rfl, ⟨by decide, by decide, by decide⟩, _, rfl, _, _, rfl, rfl, _, _, rfl, yes _ _ (same_refl _) (congrArg V.int ?_)⟩
      show (if (v : Int) + 1 < 10 ^ 12 then (v : Int) + 1 else 10 ^ 12) = _
      unfold nextN
      split
      · rw [if_pos (by omega)]; rfl
      · rw [if_neg (by omega)]; rfl
    · intro H1 ys s1 at1 pr1
      obtain rfl : ys = numV (N.map nextN) := by rw [paired_fun pr1, numV, List.map_map]; rfl
      refine ⟨_, rfl, _, rfl, fr, _, rfl, .inl ⟨_, .inr "numbers", .inl (s1 _ _ f1), rfl, get_numbers.symm⟩, na, 2, numV N, rfl, rfl, s1 _ _ f3, by decide, by decide, by rw [numV, List.length_map]; show N.length * 2 ≤ _; omega, fun B nB => ?_⟩
      have s2 := same_new (o := .lst (List.replicate ((2 : Int).toNat) (numV N)).flatten) nB
      have rep : (List.replicate ((2 : Int).toNat) (numV N)).flatten = numV (N ++ N) := by
        show numV N ++ (numV N ++ []) = _
        rw [List.append_nil, numV_append]
      refine ⟨A, B, _, _, rfl, rfl, s2 _ _ at1, upd_same, by rw [rep, numV, numV, List.length_map, List.length_map, List.length_map, List.length_append]; omega, fun C nC => ?_⟩
      rw [rep] at nC s2 ⊢
      have e3 : numV (N.map nextN) ++ numV (N ++ N) = numV (N.map nextN ++ (N ++ N)) := (numV_append ..).symm
      rw [e3]
      have s3 := same_new (o := .lst (numV (N.map nextN ++ (N ++ N)))) nC
      have s13 := same_trans s1 (same_trans s2 s3)
      have at3 : (upd (upd H1 B (.lst (numV (N ++ N)))) C (.lst (numV (N.map nextN ++ (N ++ N))))) C = some (.lst (numV (N.map nextN ++ (N ++ N)))) := upd_same
      have Cne := ((st.same s1).same s2).ne nC
      generalize upd (upd H1 B (.lst (numV (N ++ N)))) C (.lst (numV (N.map nextN ++ (N ++ N)))) = H3 at *
      refine ⟨_, rfl, _, _, rfl, rfl, ⟨by decide, by decide, by decide⟩, s, wl, cl, n, _, rfl, st.same s13, by omega, by decide, by decide, fun x H4 lx k4 st4 => ?_⟩
      have lx : x < 1000000000000 := by
        have lx : (x : Int) < 10 ^ 12 := lx
        omega
      refine ⟨by show 4 ≤ sizeLine; omega, fun D nD => ?_⟩
      have s5 : Same H4 (upd H4 D (.lst [V.int 0, V.int 5, V.int 9, V.int (x : Int)])) := same_new nD
      have lM : (N.map nextN ++ (N ++ N)).length ≤ 9 := by rw [List.length_append, List.length_append, List.length_map]; omega
      refine ⟨C, D, _, numV [0, 5, 9, x], rfl, rfl, s5 _ _ (k4.keep C _ Cne.1 Cne.2.1 at3), upd_same, by rw [numV, List.length_map]; show _ + 4 ≤ _; omega, fun G nG => ?_⟩
      have e5 : numV (N.map nextN ++ (N ++ N)) ++ numV [0, 5, 9, x] = numV (N.map nextN ++ (N ++ N) ++ [0, 5, 9, x]) := (numV_append ..).symm
      rw [e5]
      have lM2 : (N.map nextN ++ (N ++ N) ++ [0, 5, 9, x]).length ≤ 13 ∧ 0 < (N.map nextN ++ (N ++ N) ++ [0, 5, 9, x]).length := by rw [List.length_append]; show _ + 4 ≤ 13 ∧ 0 < _ + 4; omega
      have vM : ∀ v ∈ N.map nextN ++ (N ++ N) ++ [0, 5, 9, x], Val x v := by
        intro v hv
        have hN : ∀ v ∈ N, v ∈ FF := fun v hv => by
          have := dig.2 v hv
          simp only [List.mem_cons, List.not_mem_nil, or_false] at this
          rcases this with rfl | rfl | rfl | rfl | rfl | rfl <;> decide
        rcases List.mem_append.mp hv with h | h
        · rcases List.mem_append.mp h with h | h
          · obtain ⟨u, hu, rfl⟩ := List.mem_map.mp h
            have := dig.2 u hu
            simp only [List.mem_cons, List.not_mem_nil, or_false] at this
            rcases this with rfl | rfl | rfl | rfl | rfl | rfl <;> exact .inl (by decide)
          · exact .inl (hN v ((List.mem_append.mp h).elim id id))
        · simp only [List.mem_cons, List.not_mem_nil, or_false] at h
          rcases h with rfl | rfl | rfl | rfl
          · exact .inl (by decide)
          · exact .inl (by decide)
          · exact .inl (by decide)
          · exact .inr rfl
      generalize N.map nextN ++ (N ++ N) ++ [0, 5, 9, x] = M at *
      have s6 := same_new (o := .lst (numV M)) nG
      have s56 := same_trans s5 s6
      have Gne := ((st4.same s5).ne nG)
      have K6 := (Kept.same (f := s) (l := wl) s13).trans (k4.trans (.same s56))
      have st6 := st4.same s56
      have atG : (upd (upd H4 D (.lst [V.int 0, V.int 5, V.int 9, V.int (x : Int)])) G (.lst (numV M))) G = some (.lst (numV M)) := upd_same
      generalize upd (upd H4 D (.lst [V.int 0, V.int 5, V.int 9, V.int (x : Int)])) G (.lst (numV M)) = H6 at *
      have fo6 := K6.keep fr _ f5 (fun q => by obtain ⟨_, _, _, _, _, h, _⟩ := st; rw [q, h] at f1; cases f1) f1
      have fa6 := K6.tp.tup _ _ f2
      refine ⟨_, rfl, fr, _, rfl, .inl ⟨_, .inr "fields", .inl fo6, rfl, get_fields.symm⟩, fa, rfl, ⟨_, SqT.of fa6⟩, fun L nL => ?_⟩
      have Lne := st6.ne nL
      have LG : L ≠ G := (ne_of_none atG nL).symm
      have sL := same_new (o := .lst []) nL
      refine lc_st (steady_tup (K := K) (a := fa) (xs := fs.map V.str)) (fun i H' => ∃ p : Pk, Kept s wl H6 H' ∧ St H' s wl cl (n + 1 + i) ∧ H' L = some (.lst (numV p)) ∧ p.length = i ∧ ∀ v ∈ p, Val x v) ?_ ?_ ?_ ?_
      · exact ⟨[], .same sL, st6.same sL, upd_same, rfl, fun v h => absurd h List.not_mem_nil⟩
      · rintro i H7 _ ⟨p, k7, _⟩
        exact SqT.of (k7.tp.tup _ _ fa6)
      · rintro i v H7 hv ⟨p, k7, st7, at7, lp, vp⟩
        have li : i < fs.length := by
          have := (List.getElem?_eq_some_iff.mp hv).1
          rwa [List.length_map] at this
        refine ⟨rfl, ?_⟩
        simp only [tYes, if_true]
        refine ⟨_, rfl, _, rfl, s, wl, cl, _, G, numV M, rfl, st7, by omega, .inl ⟨k7.keep G _ Gne.1 Gne.2.1 atG, Gne.2.1⟩, by rw [numV, List.length_map]; omega, by rw [numV, List.length_map]; omega, fun u H8 hu k8 st8 => ?_⟩
        obtain ⟨c, hc, rfl⟩ := List.mem_map.mp hu
        have at8 := k8.keep L _ Lne.1 Lne.2.1 at7
        refine ⟨numV p, at8, by rw [numV, List.length_map]; omega, p ++ [c], (k7.trans k8).upd_new nL, st8.put Lne at8, ?_, by rw [List.length_append, lp]; rfl, fun v hv => ?_⟩
        · rw [show numV p ++ [V.int (c : Int)] = numV (p ++ [c]) by rw [numV, numV, List.map_append]; rfl]
          exact upd_same
        · rcases List.mem_append.mp hv with h | h
          · exact vp v h
          · rw [List.mem_singleton.mp h]; exact vM c hc
      · rintro H7 ⟨p, k7, st7, at7, lp, vp⟩
        rw [List.length_map] at lp st7
        refine ⟨L, _, rfl, .inl ⟨SqL.of at7, fun r nr => ?_⟩⟩
        have s8 := same_new (o := .tup (numV p)) nr
        exact k r x p _ (K6.trans (k7.trans (.same s8))) ((st7.same s8).le (by omega)) (by omega) ⟨lp, vp⟩ (.tup upd_same (nvs_nums p))
end
end Mw
/-! _law_ordered. -/
namespace Mw
open PySem L2
theorem pairW_inj {l m : List Pk} (e : pairW l = pairW m) : l = m := by
  have e1 := NestedKey.tup.inj e
  simp only [List.cons.injEq, and_true] at e1
  exact wayD_inj e1.2
theorem num_way (l : List Pk) : numk (wayD l) = true := by
  rw [wayD, numk]
  refine numks_all fun k hk => ?_
  obtain ⟨p, _, rfl⟩ := List.mem_map.mp hk
  exact num_pk p
theorem num_pair (l : List Pk) : numk (pairW l) = true := by simp only [pairW, pairD, numk, numks, num_way, Bool.and_true]
theorem pair_tupD (l : List Pk) : (pairW l).depth ≤ 8 ∧ ∃ ks, pairW l = .tup ks := by
  have := depth_pks l
  refine ⟨?_, _, rfl⟩
  simp only [pairW, pairD, wayD, NestedKey.depth, NestedKey.depthAll]
  omega
/-- a way's tuple -/
theorem way_at {H : Hp} {l : List Pk} {v : V} (n : NV H (wayD l) v) : ∃ d xs, v = .ref d ∧ H d = some (.tup xs) ∧ NVs H (l.map pkD) xs ∧ xs.length = l.length := by
  obtain ⟨d, xs, rfl, e, nv⟩ := nv_tup n
  exact ⟨d, xs, rfl, e, nv, by rw [nv.length, List.length_map]⟩
section
variable {P : Program} {w : World} {K : PySem.W.Frag} {mg : Str → Option Value} {base : Heap}
def sp__law_ordered : Sp := fun vs H Q _ => ∃ b xs, ∃ ls U : List (List Pk), vs = [.ref b] ∧ H b = some (.lst xs) ∧ NVs H (ls.map wayD) xs ∧ (∀ l ∈ ls, l ∈ U) ∧ U.length ≤ 4914 ∧ ls.length ≤ 16777216 ∧
  ∀ r ys, ∀ ms : List (List Pk), ∀ H', Same H H' → H' r = some (.lst ys) → NVs H' (ms.map wayD) ys → Canon (fun l => l ∈ ls) ms → Q (.ref r) H'
theorem ok__law_ordered (T : TX K mg) : FnOk P w K mg base CX0 1 T.a__law_ordered T.fd__law_ordered ["some"] sp__law_ordered := by
  refine T.F__law_ordered.ok sc__law_ordered (fun vs H Q E h => ?_) (fun cdv A outer z H vs Q E hr h => ?_)
  · obtain ⟨b, xs, ls, U, rfl, _⟩ := h
    rfl
  · obtain ⟨b, xs, ls, U, rfl, hb, nv, sub, lU, ll, k⟩ := h
    refine ⟨_, (pss_one (ps_ret (pe_lc (own := [("many", 1), ("uno", 2)]) (g := (gTup K 2 (gCons (gName 1) (gCons (gName 2) gNil)))) (tt := tYes) (te := (tVar 2)) rfl sc__law_ordered.nd (pi_list (pe_callB (cr_sortS rfl (hu_of5 hr)) (by rfl) T.z_sorted (by decide +kernel) (pa_cons (pe_callTy (cr_setN rfl (hu_of3 hr)) (by rfl) T.z_set (by decide +kernel) (pa_cons (pe_lc (own := [("uno", 2)]) (g := (gName 2)) (tt := tYes) (te := (tTup (tCons (tCB (fun xs H Q => ∃ p ys, xs = [V.ref p] ∧ (SqL K H p ys ∨ SqT K H p ys) ∧ Q (.int ys.length) H) (tCons (tVar 2) tNil)) (tCons (tVar 2) tNil)))) rfl sc__law_ordered.nd (pi_list (pv 0)) (blkOk_by (own := [("uno", 2)]) (N := ["some", "many", "uno"]) (sc := defScope s__law_ordered) (by decide +kernel)) (fun _ _ _ _ _ => (pg_name (i := 2) sc__law_ordered.nd rfl (Or.inl rfl))) (fun _ _ _ _ _ => pts_nil) (fun _ _ _ _ _ => (pe_tup (pa_cons (pe_callB call_len_seq (by rfl) T.z_len (by decide +kernel) (pa_cons (pv 2) pa_nil)) (pa_cons (pv 2) pa_nil))))) pa_nil)) pa_nil))) (blkOk_by (own := [("many", 1), ("uno", 2)]) (N := ["some", "many", "uno"]) (sc := defScope s__law_ordered) (by decide +kernel)) (fun _ _ _ _ _ => (pg_tup rfl (pgs_cons (pg_name (i := 1) sc__law_ordered.nd rfl (Or.inl rfl)) (pgs_cons (pg_name (i := 2) sc__law_ordered.nd rfl (Or.inl rfl)) pgs_nil)))) (fun _ _ _ _ _ => pts_nil) (fun _ _ _ _ _ => (pv 2))))), ?_⟩
    have lx : xs.length = ls.length := by rw [nv.length, List.length_map]
    have big : (16777216 : Nat) ≤ sizeLine := by rw [sizeLine_eq]; omega
    refine ⟨_, rfl, b, rfl, ⟨_, SqL.of hb⟩, fun D nD => ?_⟩
    refine lc_each (l := ls) (steady_list (K := K) (a := b) (xs := xs)) (fun H' s' => SqL.of (s' _ _ hb)) (fun l y H' => NV H' (pairW l) y) (fun {_ _ _ _} tp n => n.mono tp) nD lx (by omega) ?_ ?_
    · intro i l v H1 hl hv s1 Y yes
      obtain ⟨v', hv', nv'⟩ := nvs_at nv hl
      obtain rfl := Option.some.inj (hv'.symm.trans hv)
      obtain ⟨d, ds, rfl, ed, _, ld⟩ := way_at (nv'.mono (.same s1))
      refine ⟨rfl, _, rfl, d, ds, rfl, .inr (SqT.of ed), _, rfl, by show 2 ≤ sizeLine; omega, fun p np => ?_⟩
      have s2 := same_new (o := .tup [.int (ds.length : Int), .ref d]) np
      refine yes _ _ s2 (.tup upd_same (.cons ?_ (.cons ((nv'.mono (.same s1)).mono (.same s2)) .nil)))
      rw [ld]
      exact .num _
    · intro H1 ys s1 at1 pr1
      have nys := paired_nvs pr1
      refine ⟨D, ys, ls.map pairW, U.map pairW, rfl, SqL.of at1, all_keys nys pair_tupD, fun k hk => ?_, by rw [List.length_map]; exact lU, fun sA o S nS sd nd mem => ?_⟩
      · obtain ⟨l, hl, rfl⟩ := List.mem_map.mp hk
        exact ⟨num_pair l, List.mem_map.mpr ⟨l, sub l hl, rfl⟩⟩
      obtain ⟨us, rfl, _, _⟩ := SD.list (fun _ _ => pairW_inj) nd mem
      obtain ⟨ms, em, cn⟩ := canon_pairs nd mem
      have s2 := same_new (o := o) nS
      refine ⟨sA, _, rfl, sd, alike_pairs, fun p2 zs np2 nz => ?_⟩
      rw [em] at nz
      have s3 := same_new (o := .lst zs) np2
      have lz : zs.length = ms.length := by rw [nz.length, List.length_map]
      have lms := nodup_len cn.nd fun l hl => sub l ((cn.mem l).mp hl)
      refine ⟨p2, rfl, ⟨_, SqL.of upd_same⟩, fun G nG => ?_⟩
      refine lc_each (l := ms) (steady_list (K := K) (a := p2) (xs := zs)) (fun H' s' => SqL.of (s' _ _ upd_same)) (fun l y H' => NV H' (wayD l) y) (fun {_ _ _ _} tp n => n.mono tp) nG lz (by omega) ?_ ?_
      · intro i l v H4 hl hv s4 Y yes
        obtain ⟨v', hv', nv'⟩ := nvs_at nz hl
        obtain rfl := Option.some.inj (hv'.symm.trans hv)
        obtain ⟨p, ps, rfl, ep, np⟩ := nv_tup ((nv'.mono (.same s3)).mono (.same s4))
        cases np with
        | cons a1 r1 => cases r1 with
          | cons a2 r2 =>
            cases r2
            exact ⟨p, _, rfl, SqT.of ep, rfl, _, _, rfl, _, _, rfl, rfl, rfl, _, rfl, yes _ _ (same_refl _) a2⟩
      · intro H4 ws s4 at4 pr4
        exact k G ws ms H4 (same_trans s1 (same_trans s2 (same_trans s3 s4))) at4 (paired_nvs pr4) cn
end
end Mw
/-! _law_behind. -/
namespace Mw
open PySem L2
theorem line_inU {x : Nat} {fs : List Str} {N : List Nat} (n : Net x fs N) : ∀ {l : List Pk} {p : Pk}, InU x fs.length p → Line N p l → ∀ q ∈ l, InU x fs.length q
  | [], _, _, _, q, h => absurd h List.not_mem_nil
  | a :: l, p, hp, hl, q, h => by
    have ha := n.sub hp hl.1
    rcases List.mem_cons.mp h with rfl | h
    · exact ha
    · exact line_inU n ha hl.2 q h
/-- all ways of at most one mark -/
def uniW1 (N : List Nat) (p : Pk) : List (List Pk) := (linesI 0 (c0 p.length) ++ linesI 1 (c0 p.length)).map fun ds => ds.map fun d => d.map (valI N p)
theorem uni1_len : (linesI 0 [3] ++ linesI 1 [3]).length ≤ 380 ∧ (linesI 0 [3, 4] ++ linesI 1 [3, 4]).length ≤ 380 := by decide +kernel
theorem uniW1_len (N : List Nat) (p : Pk) : (uniW1 N p).length ≤ 380 := by
  rw [uniW1, List.length_map, c0]
  split
  · exact uni1_len.1
  · exact uni1_len.2
theorem mem_uniW1 {N : List Nat} {p : Pk} {l : List Pk} (hN : N.length ≤ 3) (hp : p.length = 1 ∨ p.length = 2) (h : Line N p l) (h1 : 1 ≤ l.length) (h3 : l.length ≤ 2) : l ∈ uniW1 N p := by
  have h' : Line N ((c0 p.length).map (valI N p)) l := by rw [c0_val hp]; exact h
  obtain ⟨k, hk⟩ : ∃ k, l.length = k + 1 := ⟨l.length - 1, by omega⟩
  obtain ⟨ds, m, e⟩ := line_uni hN k (c0_lt _) h' hk
  refine List.mem_map.mpr ⟨ds, ?_, e.symm⟩
  have : k = 0 ∨ k = 1 := by omega
  rcases this with rfl | rfl
  · exact List.mem_append_left _ m
  · exact List.mem_append_right _ m
/-- how many may come of some ways -/
def bnd : List (List Pk) → Nat
  | [] => 0
  | l :: us => (if l.length = 1 then 4521 else 380) + bnd us
theorem bnd_snoc (l : List Pk) : ∀ us : List (List Pk), bnd (us ++ [l]) = bnd us + (if l.length = 1 then 4521 else 380)
  | [] => by simp [bnd]
  | u :: us => by rw [List.cons_append, bnd, bnd, bnd_snoc l us]; omega
theorem bnd_le : ∀ us : List (List Pk), bnd us ≤ 4521 * (us.filter fun l => decide (l.length = 1)).length + 380 * us.length
  | [] => Nat.le_refl _
  | l :: us => by
    have := bnd_le us
    rw [bnd, List.length_cons]
    by_cases h : l.length = 1
    · rw [if_pos h, List.filter_cons_of_pos (by simpa using h), List.length_cons]
      omega
    · rw [if_neg h, List.filter_cons_of_neg (by simpa using h)]
      omega
/-- ways of a packet, no two the same -/
structure Firsts (N : List Nat) (p : Pk) (ls : List (List Pk)) : Prop where
  nd : ls.Nodup
  line : ∀ l ∈ ls, Line N p l ∧ 1 ≤ l.length ∧ l.length ≤ 3
theorem Firsts.small {N : List Nat} {p : Pk} {ls : List (List Pk)} (h : Firsts N p ls) (hN : N.length ≤ 3) (hp : p.length = 1 ∨ p.length = 2) : bnd ls ≤ 16000000 ∧ ls.length ≤ 4521 := by
  have a : ls.length ≤ 4521 := by
    have := nodup_len h.nd (U := uniW N p) fun l hl => mem_uniW hN hp (h.line l hl).1 (h.line l hl).2.1 (h.line l hl).2.2
    have := uniW_len N p
    omega
  have b : (ls.filter fun l => decide (l.length = 1)).length ≤ 25 := by
    have := nodup_len (h.nd.filter fun l => decide (l.length = 1)) (U := (uniP N p).map fun q => [q]) fun l hl => by
      obtain ⟨h1, h2⟩ := List.mem_filter.mp hl
      have h2 : l.length = 1 := by simpa using h2
      match l, h2, (h.line l h1).1 with
      | [q], _, r => exact List.mem_map.mpr ⟨q, mem_uniP hN hp r.1, rfl⟩
    rw [List.length_map] at this
    have := uniP_len N p
    omega
  have := bnd_le ls
  exact ⟨by omega, a⟩
theorem Firsts.take {N : List Nat} {p : Pk} {ls : List (List Pk)} (h : Firsts N p ls) (i : Nat) : Firsts N p (ls.take i) :=
  ⟨(List.take_sublist _ _).nodup h.nd, fun l hl => h.line l (List.mem_of_mem_take hl)⟩
theorem at_last (us : List V) (v : V) : atI (us ++ [v]) (-1) = some v := atI_last us v
theorem cut_last (us : List V) (v : V) : cutV (us ++ [v]) none (some (-1)) = us := by
  have e : HT.sIx (us ++ [v]).length (us ++ [v]).length (some (-1)) = us.length := by simp [HT.sIx]; omega
  rw [cutV, HT.sIx_none, e, List.drop_zero, Nat.sub_zero, List.take_left]
section
variable {P : Program} {w : World} {K : PySem.W.Frag} {mg : Str → Option Value} {base : Heap}
def sp__law_behind (P : Program) (w : World) (T : TX K mg) : Sp := fun vs H Q _ => ∃ b g xs, ∃ ls : List (List Pk), ∃ x fs N t p, vs = [.ref b, .ref g, .int 2] ∧ H b = some (.lst xs) ∧ NVs H (ls.map wayD) xs ∧ Prog T H g fs t ∧ Job x fs N t ∧ InU x fs.length p ∧ Firsts N p ls ∧
  ∀ r ys, ∀ ms : List (List Pk), ∀ H', Same H H' → H' r = some (.lst ys) → NVs H' (ms.map wayD) ys → Canon (Behind fs t 2 (fun l => l ∈ ls)) ms → Q (.ref r) H'
theorem ok__law_behind (T : TX K mg) : FnOk P w K mg base CX0 32 T.a__law_behind T.fd__law_behind ["some", "gadget", "upto"] (sp__law_behind P w T) := by
  refine T.F__law_behind.ok sc__law_behind (fun vs H Q E h => ?_) (fun cdv A outer z H vs Q E hr h => ?_)
  · obtain ⟨b, g, xs, ls, x, fs, N, t, p, rfl, _⟩ := h
    rfl
  · obtain ⟨b, g, xs, ls, x, fs, N, t, p, rfl, hb, nv, pr, J, ip, F, k⟩ := h
    refine ⟨_, (pss_cons (ps_set (i := 3) sc__law_behind.nd rfl (Or.inl rfl) (pe_lst pa_nil))
      (pss_cons (ps_for PassesOwn.never rfl (pi_list (pv 0)) (pg_name (i := 4) sc__law_behind.nd rfl (Or.inr rfl)) (pss_one (ps_set (i := 3) sc__law_behind.nd rfl (Or.inl rfl) (pe_op op_cat (pv 3) (pe_lc (own := [("duo", 5)]) (g := (gName 5)) (tt := tYes) (te := (tOp (rCatA K) (tSl (rSlT K) (tVar 4) tNoPart (tPart (tUn (rU fun i => .int (-i)) (tC (.int 1))))) (tVar 5))) rfl sc__law_behind.nd (pi_list (pe_call (ok_ways T) (hr.mono (by omega)) rfl T.m_ways T.F_ways.kp T.b_ways .nil pass0 (pa_cons (pv 1) (pa_cons (pe_ix ix_tup (pv 4) (pe_un un_neg pe_int) (fun _ _ => rfl)) (pa_cons (pe_op op_sub (pe_op op_add (pv 2) pe_int) (pe_callB call_len_seq (by rfl) T.z_len (by decide +kernel) (pa_cons (pv 4) pa_nil))) pa_nil))))) (blkOk_by (own := [("duo", 5)]) (N := ["some", "gadget", "upto", "found", "uno", "duo"]) (sc := defScope s__law_behind) (by decide +kernel)) (fun _ _ _ _ _ => (pg_name (i := 5) sc__law_behind.nd rfl (Or.inl rfl))) (fun _ _ _ _ _ => pts_nil) (fun _ _ _ _ _ => (pe_op op_catA (pe_slice sl_tup (pv 4) po_none (po_some (pe_un un_neg pe_int))) (pv 5))))))))
      (pss_one (ps_ret (pe_call (ok__law_ordered T) (hr.mono (by omega)) rfl T.m__law_ordered T.F__law_ordered.kp T.b__law_ordered .nil pass0 (pa_cons (pv 3) pa_nil)))))), ?_⟩
    have lx : xs.length = ls.length := by rw [nv.length, List.length_map]
    have big : (16777216 : Nat) ≤ sizeLine := by rw [sizeLine_eq]; omega
    have hN := J.good.nums
    have hpl : p.length = 1 ∨ p.length = 2 := by rw [ip.1]; exact J.net.hn
    refine ⟨Nat.zero_le _, fun f0 nf0 => ?_⟩
    have s0 := same_new (o := .lst []) nf0
    refine ⟨_, rfl, b, rfl, ⟨_, SqL.of (s0 _ _ hb)⟩, ?_⟩
    refine for_st (steady_list (K := K) (a := b) (xs := xs)) (fun i σ H' => ∃ (fd : Addr) (ys : List V) (fl : List (List Pk)) (z4 : Option V), σ = [some (.ref b), some (.ref g), some (.int 2), some (.ref fd), z4, none] ∧ Same H H' ∧ H' fd = some (.lst ys) ∧ NVs H' (fl.map wayD) ys ∧ fl.length ≤ bnd (ls.take i) ∧ ∀ l, l ∈ fl ↔ Behind fs t 2 (fun l => l ∈ ls.take i) l) ?_ ?_ ?_ ?_
    · exact ⟨f0, [], [], none, rfl, s0, upd_same, .nil, Nat.zero_le _, fun l => ⟨fun h => absurd h List.not_mem_nil, fun ⟨m, r, d, h, _⟩ => by simp at h⟩⟩
    · rintro i σ H' _ ⟨_, _, _, _, _, s', _⟩
      exact SqL.of (s' _ _ hb)
    · rintro i v0 σ H1 hv ⟨fd, ys, fl, z4, rfl, s1, atf, nvf, lfl, mfl⟩
      have li : i < ls.length := lx ▸ (List.getElem?_eq_some_iff.mp hv).1
      have hi : ls[i]? = some ls[i] := List.getElem?_eq_getElem li
      generalize ls[i] = uno at hi
      have mem := List.mem_of_getElem? hi
      have tk : ls.take (i + 1) = ls.take i ++ [uno] := by rw [List.take_add_one, hi]; rfl
      obtain ⟨v', hv', nu⟩ := nvs_at nv hi
      obtain rfl := Option.some.inj (hv'.symm.trans hv)
      obtain ⟨ln, l1, l3⟩ := F.line uno mem
      obtain ⟨m, r, rfl⟩ : ∃ m r, uno = m ++ [r] := by
        rcases List.eq_nil_or_concat uno with rfl | ⟨m, r, e⟩
        · simp at l1
        · exact ⟨m, r, by rw [e, List.concat_eq_append]⟩
      obtain ⟨d, ds, rfl, ed, nd, ld⟩ := way_at (nu.mono (.same s1))
      obtain ⟨us, v, rfl, n1, n2⟩ := nvs_snoc nd (by rw [List.map_append]; rfl)
      obtain ⟨vr, _, rfl, _⟩ := nv_tup (show NV _ (pkD r) v from n2)
      have lus : us.length = m.length := by rw [n1.length, List.length_map]
      have ir := line_inU J.net ip ln r (by simp)
      have hrl : r.length = 1 ∨ r.length = 2 := by rw [ir.1]; exact J.net.hn
      have lm : m.length ≤ 2 := by rw [List.length_append, List.length_singleton] at l3; omega
      refine ⟨_, rfl, _, rfl, _, rfl, _, rfl, d, _, _, _, rfl, rfl, SqT.of ed, at_last us _, _, rfl, _, _, rfl, rfl, _, rfl, d, _, rfl, .inr (SqT.of ed), _, _, rfl, rfl, g, vr, x, fs, N, t, r, 2 - m.length, ?_, pr.same s1, J, ir, by omega, n2, fun r5 ys5 ws H2 s2 at2 nv2 cw => ?_⟩
      · refine congrArg (fun z => [V.ref g, V.ref vr, V.int z]) ?_
        rw [List.length_append, List.length_singleton, lus]
        omega
      have lw5 : ys5.length = ws.length := by rw [nv2.length, List.length_map]
      have wline : ∀ e ∈ ws, Line N r e ∧ 1 ≤ e.length ∧ e.length ≤ 2 - m.length + 1 := fun e he => waysOf_line ir.1 J.good.fits ((cw.mem e).mp he)
      have lws : ws.length ≤ if (m ++ [r]).length = 1 then 4521 else 380 := by
        rw [List.length_append, List.length_singleton]
        split
        · have := nodup_len cw.nd (U := uniW N r) fun e he => mem_uniW hN hrl (wline e he).1 (wline e he).2.1 (by have := (wline e he).2.2; omega)
          have := uniW_len N r
          omega
        · have := nodup_len cw.nd (U := uniW1 N r) fun e he => mem_uniW1 hN hrl (wline e he).1 (wline e he).2.1 (by have := (wline e he).2.2; omega)
          have := uniW1_len N r
          omega
      have lws2 : ws.length ≤ 4521 := by split at lws <;> omega
      refine ⟨r5, rfl, ⟨_, SqL.of at2⟩, fun G nG => ?_⟩
      refine lc_each (l := ws) (steady_list (K := K) (a := r5) (xs := ys5)) (fun H' s' => SqL.of (s' _ _ at2)) (fun e y H' => NV H' (wayD (m ++ e)) y) (fun {_ _ _ _} tp n => n.mono tp) nG lw5 (by omega) ?_ ?_
      · intro j e v5 H3 he hv5 s3 Y yes
        obtain ⟨v', hv', ne⟩ := nvs_at nv2 he
        obtain rfl := Option.some.inj (hv'.symm.trans hv5)
        obtain ⟨dd, dv, rfl, edd, ndd, ldd⟩ := way_at (ne.mono (.same s3))
        have e1 := (wline e (List.mem_of_getElem? he)).2.1
        have e2 := (wline e (List.mem_of_getElem? he)).2.2
        refine ⟨rfl, _, rfl, _, rfl, _, rfl, d, _, rfl, SqT.of (same_trans s2 s3 _ _ ed), ?_, fun q nq => ?_⟩
        · rintro ⟨_, h⟩
          simp [HT.sIx] at h
          omega
        have s4 := same_new (o := .tup (cutV (us ++ [V.ref vr]) none (some (-1)))) nq
        rw [cut_last] at s4 ⊢
        refine ⟨_, rfl, q, dd, us, dv, rfl, rfl, SqT.of upd_same, SqT.of (s4 _ _ edd), by rw [lus, ldd]; omega, fun z => ?_, fun _ z => ?_, fun _ _ q5 nq5 => ?_⟩
        · have : m = [] := List.eq_nil_of_length_eq_zero (by rw [← lus, z]; rfl)
          subst this
          exact yes _ _ s4 ((ne.mono (.same s3)).mono (.same s4))
        · rw [z] at ldd
          simp at ldd
          omega
        · have s5 := same_new (o := .tup (us ++ dv)) nq5
          refine yes _ _ (same_trans s4 s5) (.tup upd_same ?_)
          rw [List.map_append]
          exact (n1.mono (.same (same_trans s2 (same_trans s3 (same_trans s4 s5))))).append (ndd.mono (.same (same_trans s4 s5)))
      · intro H3 zs s3 at3 pr3
        have nz := paired_nvs pr3
        have lz : zs.length = ws.length := by rw [nz.length, List.length_map]
        have lys : ys.length = fl.length := by rw [nvf.length, List.length_map]
        have s13 := same_trans s2 s3
        have bs := (Firsts.take F (i + 1)).small hN hpl
        rw [tk, bnd_snoc] at bs
        refine ⟨fd, G, ys, zs, rfl, rfl, s13 _ _ atf, at3, by omega, fun f2 nf2 => ?_⟩
        have s4 := same_new (o := .lst (ys ++ zs)) nf2
        refine ⟨f2, ys ++ zs, fl ++ ws.map (m ++ ·), _, rfl, same_trans s1 (same_trans s13 s4), upd_same, ?_, ?_, fun l => ?_⟩
        · rw [List.map_append, List.map_map]
          exact (nvf.mono (.same (same_trans s13 s4))).append (nz.mono (.same s4))
        · rw [tk, bnd_snoc, List.length_append, List.length_map]
          omega
        · rw [List.mem_append, mfl, tk]
          constructor
          · rintro (⟨m1, r1, d1, h1, h2, rfl⟩ | h)
            · exact ⟨m1, r1, d1, List.mem_append_left _ h1, h2, rfl⟩
            · obtain ⟨e, he, rfl⟩ := List.mem_map.mp h
              exact ⟨m, r, e, by simp, (cw.mem e).mp he, rfl⟩
          · rintro ⟨m1, r1, d1, h1, h2, rfl⟩
            rcases List.mem_append.mp h1 with h1 | h1
            · exact .inl ⟨m1, r1, d1, h1, h2, rfl⟩
            · obtain ⟨rfl, rfl⟩ := snoc_inj (List.mem_singleton.mp h1)
              exact .inr (List.mem_map.mpr ⟨d1, (cw.mem d1).mpr h2, rfl⟩)
    · rintro σ H1 ⟨fd, ys, fl, z4, rfl, s1, atf, nvf, lfl, mfl⟩
      rw [lx, List.take_length] at lfl mfl
      have bs := F.small hN hpl
      refine ⟨_, rfl, fd, ys, fl, uniW N p, rfl, atf, nvf, fun l hl => ?_, Nat.le_trans (uniW_len N p) (by omega), by omega, fun r zs ms H2 s2 at2 nv2 cn => ?_⟩
      · obtain ⟨m, r, d, h1, h2, rfl⟩ := (mfl l).mp hl
        obtain ⟨ln, l1, l3⟩ := F.line _ h1
        have ir := line_inU J.net ip ln r (by simp)
        obtain ⟨a1, a2, a3⟩ := waysOf_line ir.1 J.good.fits h2
        rw [List.length_append, List.length_singleton] at l3
        exact mem_uniW hN hpl (line_join ln a1) (by rw [List.length_append]; omega) (by rw [List.length_append]; omega)
      · exact k r zs ms H2 (same_trans s1 s2) at2 nv2 (cn.iff mfl)
end
end Mw
/-! The trees of joined programs are good. -/
namespace Mw
open PySem L2
theorem forms_append : ∀ {ts us : List Src}, Forms ts → Forms us → Forms (ts ++ us)
  | [], _, _, h => h
  | _ :: _, _, a, h => ⟨a.1, forms_append a.2 h⟩
theorem fitsL_append {fs : List Str} {N : List Nat} : ∀ {ts us : List Src}, FitsL fs N ts → FitsL fs N us → FitsL fs N (ts ++ us)
  | [], _, _, h => h
  | _ :: _, _, a, h => ⟨a.1, fitsL_append a.2 h⟩
theorem dps_append : ∀ {ts us : List Src} {d : Nat}, dps ts ≤ d → dps us ≤ d → dps (ts ++ us) ≤ d
  | [], _, _, _, h => h
  | t :: ts, us, d, a, h => by
    rw [dps] at a
    rw [List.cons_append, dps]
    exact Nat.max_le.mpr ⟨by omega, dps_append (by omega) h⟩
theorem subss_append : ∀ (ts us : List Src), (subss (ts ++ us)).length = (subss ts).length + (subss us).length
  | [], us => by simp [subss]
  | t :: ts, us => by
    rw [List.cons_append, subss, subss, List.length_append, List.length_append, subss_append ts us]
    omega
theorem nms_append : ∀ (ts us : List Src), nms (ts ++ us) = nms ts + nms us
  | [], us => by simp [nms]
  | t :: ts, us => by
    rw [List.cons_append, nms, nms, nms_append ts us]
    omega
structure Parts_ (fs : List Str) (N : List Nat) (d z m : Nat) (ts : List Src) : Prop where
  form : Forms ts
  fits : FitsL fs N ts
  deep : dps ts ≤ d
  size : (subss ts).length ≤ z
  few : nms ts ≤ m
  some : 1 ≤ ts.length
section
variable {fs : List Str} {N : List Nat} {d z : Nat}
theorem parts_one {t : Src} (h : Grown fs N d z t) : Parts_ fs N d z (nm t) [t] :=
  ⟨⟨h.form, trivial⟩, ⟨h.fits, trivial⟩, by simp only [dps]; have := h.deep; omega, by simp only [subss, List.append_nil]; exact h.size, by simp [nms], Nat.le_refl _⟩
theorem parts_row {ts : List Src} (h : Grown fs N d z (.row ts)) : Parts_ fs N d z (nm (.row ts)) ts := by
  have h1 := h.deep
  have h2 := h.size
  rw [dp] at h1
  rw [subs, List.length_cons] at h2
  exact ⟨h.form.2, h.fits, by omega, by omega, by rw [nm]; exact Nat.le_refl _, by have := h.form.1; omega⟩
theorem parts_alt {ts : List Src} (h : Grown fs N d z (.alt ts)) : Parts_ fs N d z (nm (.alt ts)) ts := by
  have h1 := h.deep
  have h2 := h.size
  rw [dp] at h1
  rw [subs, List.length_cons] at h2
  exact ⟨h.form.2, h.fits, by omega, by omega, by rw [nm]; exact Nat.le_refl _, by have := h.form.1; omega⟩
theorem partsR_grown {t : Src} (h : Grown fs N d z t) : Parts_ fs N d z (nm t) (partsR t) := by
  cases t with
  | row ts => exact parts_row h
  | _ => exact parts_one h
theorem partsA_grown {t : Src} (h : Grown fs N d z t) : Parts_ fs N d z (nm t) (partsA t) := by
  cases t with
  | alt ts => exact parts_alt h
  | _ => exact parts_one h
theorem good_of {t : Src} (nms : Names fs) (dig : Digits N) (h : Grown fs N 5 1000 t) (m : nm t ≤ 6) : Good fs N t :=
  ⟨h.form, h.fits, nms.named, h.size, h.deep, m, by have := dig.1; omega⟩
theorem good_join {t u : Src} (nms : Names fs) (dig : Digits N) (h : Grown fs N 4 61 t) (h' : Grown fs N 4 61 u) (m : nm t ≤ 2) (m' : nm u ≤ 2) (wd : Str) : Good fs N (joinS wd t u) := by
  unfold joinS
  split
  · have a := partsR_grown h
    have b := partsR_grown h'
    refine good_of nms dig ⟨⟨?_, forms_append a.form b.form⟩, fitsL_append a.fits b.fits, ?_, ?_⟩ ?_
    · rw [List.length_append]; have := a.some; have := b.some; omega
    · rw [dp]; have := dps_append a.deep b.deep; omega
    · rw [subs, List.length_cons, subss_append]; have := a.size; have := b.size; omega
    · rw [nm, nms_append]; have := a.few; have := b.few; omega
  · have a := partsA_grown h
    have b := partsA_grown h'
    refine good_of nms dig ⟨⟨?_, forms_append a.form b.form⟩, fitsL_append a.fits b.fits, ?_, ?_⟩ ?_
    · rw [List.length_append]; have := a.some; have := b.some; omega
    · rw [dp]; have := dps_append a.deep b.deep; omega
    · rw [subs, List.length_cons, subss_append]; have := a.size; have := b.size; omega
    · rw [nm, nms_append]; have := a.few; have := b.few; omega
theorem good_loop {t : Src} (nms : Names fs) (dig : Digits N) (h : Grown fs N 4 61 t) (m : nm t ≤ 2) : Good fs N (.loop t) := by
  refine good_of nms dig ⟨h.form, h.fits, ?_, ?_⟩ ?_
  · rw [dp]; have := h.deep; omega
  · rw [subs, List.length_cons]; have := h.size; omega
  · rw [nm]; omega
theorem grown_mark : Grown fs N 4 61 .mark := ⟨trivial, trivial, by simp [dp], by simp [subs]⟩
theorem net_of {x : Nat} (nms : Names fs) (dig : Digits N) (hx : x ≤ 1000000000000) : Net x fs N := by
  refine ⟨hx, nms.len, fun v hv => ?_⟩
  have := dig.2 v hv
  simp only [List.mem_cons, List.not_mem_nil, or_false] at this
  rcases this with rfl | rfl | rfl | rfl | rfl | rfl <;> exact .inl (by decide)
end
end Mw
/-! The law's comparisons. -/
namespace Mw
open PySem L2
section
variable {P : Program} {w : World} {K : PySem.W.Frag} {mg : Str → Option Value}
/-- what one lap has -/
structure Lap (T : TX K mg) (H : Hp) (u d g n c f1 f2 : Addr) (x : Nat) (fs : List Str) (N : List Nat) (tu td tg : Src) (p : Pk) (la lb : List (List Pk)) : Prop where
  pu : Prog T H u fs tu
  pd : Prog T H d fs td
  pg : Prog T H g fs tg
  pn : Prog T H n fs .mark
  nms : Names fs
  dig : Digits N
  gu : Grown fs N 4 61 tu
  mu : nm tu ≤ 2
  gd : Grown fs N 4 61 td
  md : nm td ≤ 2
  gg : Test fs N 3 13 tg
  hx : x ≤ 1000000000000
  ip : InU x fs.length p
  np : NV H (pkD p) (.ref c)
  e1 : ∃ xs, H f1 = some (.lst xs) ∧ NVs H (la.map wayD) xs
  e2 : ∃ xs, H f2 = some (.lst xs) ∧ NVs H (lb.map wayD) xs
  c1 : Canon (WaysOf fs tu p 2) la
  c2 : Canon (WaysOf fs td p 2) lb
variable {T : TX K mg} {H : Hp} {u d g n c f1 f2 : Addr} {x : Nat} {fs : List Str} {N : List Nat} {tu td tg : Src} {p : Pk} {la lb : List (List Pk)}
theorem Lap.same {H' : Hp} (L : Lap T H u d g n c f1 f2 x fs N tu td tg p la lb) (s : Same H H') : Lap T H' u d g n c f1 f2 x fs N tu td tg p la lb where
  pu := L.pu.same s
  pd := L.pd.same s
  pg := L.pg.same s
  pn := L.pn.same s
  nms := L.nms
  dig := L.dig
  gu := L.gu
  mu := L.mu
  gd := L.gd
  md := L.md
  gg := L.gg
  hx := L.hx
  ip := L.ip
  np := L.np.mono (.same s)
  e1 := let ⟨xs, a, b⟩ := L.e1; ⟨xs, s _ _ a, b.mono (.same s)⟩
  e2 := let ⟨xs, a, b⟩ := L.e2; ⟨xs, s _ _ a, b.mono (.same s)⟩
  c1 := L.c1
  c2 := L.c2
theorem Lap.net (L : Lap T H u d g n c f1 f2 x fs N tu td tg p la lb) : Net x fs N := net_of L.nms L.dig L.hx
theorem Lap.job (L : Lap T H u d g n c f1 f2 x fs N tu td tg p la lb) {t : Src} (h : Good fs N t) : Job x fs N t := ⟨L.net, h⟩
theorem Lap.gateG (L : Lap T H u d g n c f1 f2 x fs N tu td tg p la lb) : Grown fs N 4 61 tg ∧ nm tg ≤ 2 := ⟨L.gg.toGrown.le (by omega) (by omega), by rw [nm_test L.gg.test]; omega⟩
theorem Lap.goodU (L : Lap T H u d g n c f1 f2 x fs N tu td tg p la lb) : Good fs N tu := good_of L.nms L.dig (L.gu.le (by omega) (by omega)) (by have := L.mu; omega)
theorem Lap.goodD (L : Lap T H u d g n c f1 f2 x fs N tu td tg p la lb) : Good fs N td := good_of L.nms L.dig (L.gd.le (by omega) (by omega)) (by have := L.md; omega)
theorem Lap.goodG (L : Lap T H u d g n c f1 f2 x fs N tu td tg p la lb) : Good fs N tg := good_of L.nms L.dig (L.gateG.1.le (by omega) (by omega)) (by have := L.gateG.2; omega)
/-- two lists of the same ways -/
theorem ne_same {r1 r2 : Addr} {xs ys : List V} {ls ms : List (List Pk)} {Q : VK} (e1 : H r1 = some (.lst xs)) (n1 : NVs H (ls.map wayD) xs) (e2 : H r2 = some (.lst ys)) (n2 : NVs H (ms.map wayD) ys) (e : ls = ms) (k : Q (.bl false) H) : rNeD K (.ref r1) (.ref r2) H Q := by
  subst e
  have sh : SeqAt.shaped (.list (encs (ls.map wayD))) = true := shaped_list fun k hk => by
    obtain ⟨l, _, rfl⟩ := List.mem_map.mp hk
    exact ⟨num_way l, depth_way l⟩
  refine ⟨_, _, .lst (SqL.of e1) (nvs_dp n1), .lst (SqL.of e2) (nvs_dp n2), sh, sh, ?_⟩
  rw [SeqAt.eqv_refl _ (SeqAt.canLay_of_shaped sh)]
  exact k
/-- ways of two programs put together -/
theorem joined_ways {dun : TX K mg → Sp} {wd : Str} {i j : Nat} {a b : Addr} {ta tb : Src} {σ : L2.St} {Q : VK} (L : Lap T H u d g n c f1 f2 x fs N tu td tg p la lb) (hd : ∀ a b H Q E, sp_joined T [.str wd, .ref a, .ref b] H Q E → dun T [.ref a, .ref b] H Q E) (jw : Joins wd)
    (hi : σ[i]? = some (some (.ref a))) (hj : σ[j]? = some (some (.ref b))) (h9 : σ[9]? = some (some (.ref c))) (pa : Prog T H a fs ta) (pb : Prog T H b fs tb) (gd : Good fs N (joinS wd ta tb))
    (k : ∀ r xs ls H', Same H H' → H' r = some (.lst xs) → NVs H' (ls.map wayD) xs → Canon (WaysOf fs (joinS wd ta tb) p 2) ls → Q (.ref r) H') :
    tCall (sp_ways P w T) [] E0 (tCons (tOp (rOwnOp T.c_Program (dun T) E0) (tVar i) (tVar j)) (tCons (tVar 9) (tCons (tC (V.int 2)) tNil))) σ H Q := by
  obtain ⟨dx, _, _, _, ea, _⟩ := id pa
  obtain ⟨dy, _, _, _, eb, _⟩ := id pb
  refine ⟨_, hi, _, hj, a, b, dx, dy, _, _, rfl, rfl, ea, eb, hd _ _ _ _ _ ⟨wd, a, b, fs, N, ta, tb, rfl, jw, pa, pb, L.nms, gd, fun r H1 s1 pr => ⟨⟨r, rfl⟩, _, h9, ?_⟩⟩⟩
  exact ⟨r, c, x, fs, N, _, p, 2, rfl, pr, L.job gd, L.ip, by omega, L.np.mono (.same s1), fun r xs ls H2 s2 => k r xs ls H2 (same_trans s1 s2)⟩
theorem Lap.uni (L : Lap T H u d g n c f1 f2 x fs N tu td tg p la lb) {t : Src} (h : Good fs N t) {l : List Pk} (hl : WaysOf fs t p 2 l) : l ∈ uniW N p := by
  obtain ⟨a, b, c⟩ := waysOf_line L.ip.1 h.fits hl
  exact mem_uniW h.nums (by rw [L.ip.1]; exact L.nms.len) a b (by omega)
theorem Lap.few (L : Lap T H u d g n c f1 f2 x fs N tu td tg p la lb) {t : Src} (h : Good fs N t) {k : Nat} (hk : k ≤ 2) {ls : List (List Pk)} (cl : Canon (WaysOf fs t p k) ls) : ls.length ≤ 4521 := by
  have := nodup_len cl.nd (U := uniW N p) fun l hl => L.uni h (by
    obtain ⟨ms, q, e, le, r⟩ := (cl.mem l).mp hl
    exact ⟨ms, q, e, by omega, r⟩)
  have := uniW_len N p
  omega
theorem Lap.firsts (L : Lap T H u d g n c f1 f2 x fs N tu td tg p la lb) : Firsts N p la := ⟨L.c1.nd, fun l hl => by
  obtain ⟨a, b, c⟩ := waysOf_line L.ip.1 L.goodU.fits ((L.c1.mem l).mp hl)
  exact ⟨a, b, by omega⟩⟩
theorem behind_congr {t : Src} {k : Nat} {U V : List Pk → Prop} (h : ∀ l, U l ↔ V l) (l : List Pk) : Behind fs t k U l ↔ Behind fs t k V l := by
  unfold Behind
  constructor
  · rintro ⟨m, r, d, a, b⟩; exact ⟨m, r, d, (h _).mp a, b⟩
  · rintro ⟨m, r, d, a, b⟩; exact ⟨m, r, d, (h _).mpr a, b⟩
theorem joinS_row (t u : Src) : joinS "row" t u = .row (partsR t ++ partsR u) := if_pos rfl
theorem joinS_alt (t u : Src) : joinS "choice" t u = .alt (partsA t ++ partsA u) := if_neg (by decide)
abbrev lapS (b s fr u d g n c f1 f2 : Addr) (z2 z8 z12 z13 : Option V) : L2.St := [some (.ref b), some (.ref s), z2, some (.ref fr), some (.ref u), some (.ref d), some (.ref g), some (.ref n), z8, some (.ref c), some (.ref f1), some (.ref f2), z12, z13]
variable {b s fr rh : Addr} {z2 z8 z12 z13 : Option V} {Q : Bool → Hp → Prop}
theorem check1 (L : Lap T H u d g n c f1 f2 x fs N tu td tg p la lb) (k : ∀ H', Same H H' → Q false H') : tTest (tOp (rNeD K) (tCall (sp_ways P w T) [] E0 (tCons (tOp (rOwnOp T.c_Program (sp_Program_add T) E0) (tVar 4) (tVar 5)) (tCons (tVar 9) (tCons (tC (V.int 2)) tNil)))) (tCall sp__law_ordered [] E0 (tCons (tOp rCat (tVar 10) (tVar 11)) tNil))) (lapS b s fr u d g n c f1 f2 z2 z8 z12 z13) H Q := by
  have gj := good_join L.nms L.dig L.gu L.gd L.mu L.md "choice"
  have lA := L.few L.goodU (Nat.le_refl _) L.c1
  have lB := L.few L.goodD (Nat.le_refl _) L.c2
  refine joined_ways (dun := sp_Program_add) (wd := "choice") L (fun a b H Q E h => ⟨a, b, rfl, h⟩) (.inr rfl) rfl rfl rfl L.pu L.pd gj fun r xs ls H1 s1 e1 n1 c1 => ?_
  have L1 := L.same s1
  obtain ⟨xa, ea, na⟩ := L1.e1
  obtain ⟨xb, eb, nb⟩ := L1.e2
  have la' : xa.length = la.length := by rw [na.length, List.length_map]
  have lb' : xb.length = lb.length := by rw [nb.length, List.length_map]
  refine ⟨_, rfl, _, rfl, f1, f2, xa, xb, rfl, rfl, ea, eb, by rw [sizeLine_eq]; omega, fun q nq => ?_⟩
  have s2 := same_new (o := .lst (xa ++ xb)) nq
  refine ⟨q, _, la ++ lb, uniW N p, rfl, upd_same, by rw [List.map_append]; exact (na.append nb).mono (.same s2), fun l hl => ?_, Nat.le_trans (uniW_len N p) (by omega), by rw [List.length_append]; omega, fun r2 ys ms H2 s3 e2 n2 c2 => ?_⟩
  · rcases List.mem_append.mp hl with h | h
    · exact L.uni L.goodU ((L.c1.mem l).mp h)
    · exact L.uni L.goodD ((L.c2.mem l).mp h)
  · have s23 := same_trans s2 s3
    refine ne_same (s23 _ _ e1) (n1.mono (.same s23)) e2 n2 (c1.one (c2.iff fun l => ?_)) ⟨false, rfl, k H2 (same_trans s1 s23)⟩
    rw [joinS_alt, law_both, List.mem_append, L.c1.mem, L.c2.mem]
theorem check2 (L : Lap T H u d g n c f1 f2 x fs N tu td tg p la lb) (k : ∀ H', Same H H' → Q false H') : tTest (tOp (rNeD K) (tCall (sp_ways P w T) [] E0 (tCons (tOp (rOwnOp T.c_Program (sp_Program_rshift T) E0) (tVar 4) (tVar 5)) (tCons (tVar 9) (tCons (tC (V.int 2)) tNil)))) (tCall (sp__law_behind P w T) [] E0 (tCons (tVar 10) (tCons (tVar 5) (tCons (tC (V.int 2)) tNil))))) (lapS b s fr u d g n c f1 f2 z2 z8 z12 z13) H Q := by
  have gj := good_join L.nms L.dig L.gu L.gd L.mu L.md "row"
  refine joined_ways (dun := sp_Program_rshift) (wd := "row") L (fun a b H Q E h => ⟨a, b, rfl, h⟩) (.inl rfl) rfl rfl rfl L.pu L.pd gj fun r xs ls H1 s1 e1 n1 c1 => ?_
  have L1 := L.same s1
  obtain ⟨xa, ea, na⟩ := L1.e1
  refine ⟨_, rfl, _, rfl, f1, d, xa, la, x, fs, N, td, p, rfl, ea, na, L1.pd, L.job L.goodD, L.ip, L.firsts, fun r2 ys ms H2 s3 e2 n2 c2 => ?_⟩
  refine ne_same (s3 _ _ e1) (n1.mono (.same s3)) e2 n2 (c1.one (c2.iff fun l => ?_)) ⟨false, rfl, k H2 (same_trans s1 s3)⟩
  rw [joinS_row, law_row]
  exact behind_congr L.c1.mem l
theorem check3 (L : Lap T H u d g n c f1 f2 x fs N tu td tg p la lb) (pl : Prog T H rh fs (.loop tu)) (k : ∀ H', Same H H' → Q false H') : tTest (tOp (rNeD K) (tCall (sp_ways P w T) [] E0 (tCons (tVar 12) (tCons (tVar 9) (tCons (tC (V.int 2)) tNil)))) (tCall sp__law_ordered [] E0 (tCons (tOp rCat (tLst (tCons (tTup (tCons (tVar 9) tNil)) tNil)) (tCall (sp__law_behind P w T) [] E0 (tCons (tVar 10) (tCons (tVar 12) (tCons (tC (V.int 2)) tNil))))) tNil))) (lapS b s fr u d g n c f1 f2 z2 z8 (some (.ref rh)) z13) H Q := by
  have gl := good_loop L.nms L.dig L.gu L.mu
  refine ⟨_, rfl, _, rfl, rh, c, x, fs, N, _, p, 2, rfl, pl, L.job gl, L.ip, by omega, L.np, fun r xs ls H1 s1 e1 n1 c1 => ?_⟩
  have L1 := L.same s1
  refine ⟨_, rfl, by show 1 ≤ sizeLine; rw [sizeLine_eq]; omega, fun q nq => ⟨by show 1 ≤ sizeLine; rw [sizeLine_eq]; omega, fun q2 nq2 => ?_⟩⟩
  have s2 := same_new (o := .tup [.ref c]) nq
  have s3 := same_new (o := .lst [.ref q]) nq2
  have s23 := same_trans s2 s3
  have L2' := L1.same s23
  obtain ⟨xa, ea, na⟩ := L2'.e1
  have nvq : NV (upd (upd H1 q (.tup [.ref c])) q2 (.lst [.ref q])) (wayD [p]) (.ref q) := .tup (s3 _ _ upd_same) (.cons L2'.np .nil)
  refine ⟨_, rfl, _, rfl, f1, rh, xa, la, x, fs, N, .loop tu, p, rfl, ea, na, (pl.same s1).same s23, L.job gl, L.ip, L.firsts, fun r2 ys ms H2 s4 e2 n2 c2 => ?_⟩
  have cB : ∀ l, l ∈ ms ↔ Behind fs (.loop tu) 2 (WaysOf fs tu p 2) l := fun l => (c2.mem l).trans (behind_congr L.c1.mem l)
  have sub : ∀ l ∈ [p] :: ms, WaysOf fs (.loop tu) p 2 l := fun l hl => by
    rw [law_loop]
    rcases List.mem_cons.mp hl with rfl | h
    · exact .inl rfl
    · exact .inr ((cB l).mp h)
  have lms : ms.length ≤ 4521 := by
    have := nodup_len c2.nd (U := uniW N p) fun l hl => L.uni gl (sub l (List.mem_cons_of_mem _ hl))
    have := uniW_len N p
    omega
  have lys : ys.length = ms.length := by rw [n2.length, List.length_map]
  refine ⟨q2, r2, _, ys, rfl, rfl, s4 _ _ upd_same, e2, by show 1 + ys.length ≤ _; rw [sizeLine_eq]; omega, fun q5 nq5 => ?_⟩
  have s5 := same_new (o := .lst ([.ref q] ++ ys)) nq5
  refine ⟨q5, _, [p] :: ms, uniW N p, rfl, upd_same, .cons (nvq.mono (.same (same_trans s4 s5))) (n2.mono (.same s5)), fun l hl => L.uni gl (sub l hl), Nat.le_trans (uniW_len N p) (by omega), by rw [List.length_cons]; omega, fun r6 zs us H6 s6 e6 n6 c6 => ?_⟩
  have s26 := same_trans s23 (same_trans s4 (same_trans s5 s6))
  refine ne_same (s26 _ _ e1) (n1.mono (.same s26)) e6 n6 (c1.one (c6.iff fun l => ?_)) ⟨false, rfl, k H6 (same_trans s1 s26)⟩
  rw [law_loop, List.mem_cons, cB]
theorem check4 (L : Lap T H u d g n c f1 f2 x fs N tu td tg p la lb) (k : ∀ H', Same H H' → Q false H') : tTest (tOp (rNeD K) (tCall (sp_ways P w T) [] E0 (tCons (tOp (rOwnOp T.c_Program (sp_Program_rshift T) E0) (tVar 6) (tVar 4)) (tCons (tVar 9) (tCons (tC (V.int 2)) tNil)))) (tIf (tB (tMeth T.c_Program "holds" (sp_Program_holds T) [] E0 (tVar 6) (tCons (tVar 9) tNil))) (tVar 10) (tLst tNil))) (lapS b s fr u d g n c f1 f2 z2 z8 z12 z13) H Q := by
  have gj := good_join L.nms L.dig L.gateG.1 L.gu L.gateG.2 L.mu "row"
  have lf := L.nms.len
  refine joined_ways (dun := sp_Program_rshift) (wd := "row") L (fun a b H Q E h => ⟨a, b, rfl, h⟩) (.inl rfl) rfl rfl rfl L.pg L.pu gj fun r xs ls H1 s1 e1 n1 c1 => ?_
  have L1 := L.same s1
  obtain ⟨dx, _, _, _, eg, _⟩ := id L1.pg
  have c1' := c1.iff fun l => by rw [joinS_row, law_gate tg tu L.gg.test]
  refine ⟨_, rfl, g, dx, _, rfl, eg, rfl, _, rfl, g, c, fs, N, tg, p, rfl, L1.pg, L.goodG, L.gg.test, L1.np, L.ip.1, by rw [L.ip.1]; omega, fun H2 s2 => ⟨_, rfl, iteB (fun y => ?_) fun no => ?_⟩⟩
  · have L2' := L1.same s2
    obtain ⟨xa, ea, na⟩ := L2'.e1
    refine ⟨_, rfl, ne_same (s2 _ _ e1) (n1.mono (.same s2)) ea na (c1'.one (L.c1.iff fun l => ?_)) ⟨false, rfl, k H2 (same_trans s1 s2)⟩⟩
    rw [y]; simp
  · refine ⟨Nat.zero_le _, fun q nq => ?_⟩
    have s3 := same_new (o := .lst []) nq
    have s23 := same_trans s2 s3
    refine ne_same (ms := []) (s23 _ _ e1) (n1.mono (.same s23)) upd_same .nil (c1'.one (Canon.nil.iff fun l => ?_)) ⟨false, rfl, k _ (same_trans s1 s23)⟩
    rw [no]; simp
end
end Mw
/-! The law's comparisons, the others. -/
namespace Mw
open PySem L2
section
variable {P : Program} {w : World} {K : PySem.W.Frag} {mg : Str → Option Value}
variable {T : TX K mg} {H : Hp} {u d g n c f1 f2 : Addr} {x : Nat} {fs : List Str} {N : List Nat} {tu td tg : Src} {p : Pk} {la lb : List (List Pk)}
variable {b s fr rh : Addr} {z2 z8 z12 z13 : Option V} {Q : Bool → Hp → Prop}
/-- a way's last packet -/
theorem way_last {H : Hp} {m : List Pk} {r : Pk} {v : V} (n : NV H (wayD (m ++ [r])) v) : ∃ d us vr, v = .ref d ∧ H d = some (.tup (us ++ [.ref vr])) ∧ NVs H (m.map pkD) us ∧ NV H (pkD r) (.ref vr) ∧ us.length = m.length := by
  obtain ⟨d, xs, rfl, e, nv, ld⟩ := way_at n
  obtain ⟨us, v, rfl, n1, n2⟩ := nvs_snoc nv (by rw [List.map_append]; rfl)
  obtain ⟨vr, _, rfl, _⟩ := nv_tup (show NV _ (pkD r) v from n2)
  exact ⟨d, us, vr, rfl, e, n1, n2, by rw [n1.length, List.length_map]⟩
theorem cut_end (us : List V) (v : V) : cutV (us ++ [v]) (some (-1)) none = [v] := by
  have e : HT.sIx (us ++ [v]).length 0 (some (-1)) = us.length := by simp [HT.sIx]; omega
  rw [cutV, HT.sIx_none, e, List.drop_left]
  refine List.take_of_length_le ?_
  simp
theorem check5 (L : Lap T H u d g n c f1 f2 x fs N tu td tg p la lb) (k : ∀ H', Same H H' → Q false H') : tTest (tOp (rNeD K) (tCall (sp_ways P w T) [] E0 (tCons (tOp (rOwnOp T.c_Program (sp_Program_rshift T) E0) (tVar 4) (tVar 6)) (tCons (tVar 9) (tCons (tC (V.int 2)) tNil)))) (tLc (iList K (tVar 10)) (gName 13) (tB (tMeth T.c_Program "holds" (sp_Program_holds T) [] E0 (tVar 6) (tCons (tOp (rIxT K) (tVar 13) (tUn (rU fun i => V.int (-i)) (tC (V.int 1)))) tNil))) (tVar 13) [13])) (lapS b s fr u d g n c f1 f2 z2 z8 z12 z13) H Q := by
  have gj := good_join L.nms L.dig L.gu L.gateG.1 L.mu L.gateG.2 "row"
  have lf := L.nms.len
  refine joined_ways (dun := sp_Program_rshift) (wd := "row") L (fun a b H Q E h => ⟨a, b, rfl, h⟩) (.inl rfl) rfl rfl rfl L.pu L.pg gj fun r xs ls H1 s1 e1 n1 c1 => ?_
  have L1 := L.same s1
  obtain ⟨xa, ea, na⟩ := L1.e1
  have lx : xa.length = la.length := by rw [na.length, List.length_map]
  have lA := L.few L.goodU (Nat.le_refl _) L.c1
  refine ⟨_, rfl, f1, rfl, ⟨_, SqL.of ea⟩, fun D nD => ?_⟩
  refine lc_items (l := la) (steady_list (K := K) (a := f1) (xs := xa)) (fun H' s' => SqL.of (s' _ _ ea)) (fun l => holds fs tg (l.getLastD [])) (fun l y H' => NV H' (wayD l) y) (fun {_ _ _ _} tp n => n.mono tp) nD lx (by rw [sizeLine_eq]; omega) ?_ ?_
  · intro i l v H2 hl hv s2 Y Nn yes no
    obtain ⟨v', hv', nl⟩ := nvs_at na hl
    obtain rfl := Option.some.inj (hv'.symm.trans hv)
    have wl := (L.c1.mem l).mp (List.mem_of_getElem? hl)
    have ln := (waysOf_line L.ip.1 L.goodU.fits wl).1
    obtain ⟨m, q, rfl, _⟩ := id wl
    have nl2 := nl.mono (.same s2)
    obtain ⟨dd, us, vr, rfl, ed, nu, nr, _⟩ := way_last nl2
    have iq := line_inU L.net L.ip ln q (by simp)
    have L2' := L1.same s2
    obtain ⟨dx, _, _, _, eg, _⟩ := id L2'.pg
    have lst : (m ++ [q]).getLastD [] = q := by simp
    refine ⟨rfl, _, rfl, g, dx, _, rfl, eg, rfl, _, rfl, _, rfl, dd, _, _, _, rfl, rfl, SqT.of ed, at_last us _, g, vr, fs, N, tg, q, rfl, L2'.pg, L.goodG, L.gg.test, nr, iq.1, by rw [iq.1]; omega, fun H3 s3 => ⟨_, rfl, iteB (fun y => ?_) fun z => ?_⟩⟩
    · exact ⟨_, rfl, yes (by rw [lst]; exact y) _ _ s3 (nl2.mono (.same s3))⟩
    · exact no (by rw [lst]; exact z) _ s3
  · intro H2 ys s2 e2 pr2
    refine ne_same (s2 _ _ e1) (n1.mono (.same s2)) e2 (paired_nvs pr2) (c1.one ((L.c1.filter fun l => holds fs tg (l.getLastD [])).iff fun l => ?_)) ⟨false, rfl, k H2 (same_trans s1 s2)⟩
    rw [joinS_row, law_behind_gate tg tu L.gg.test]
theorem check6 (L : Lap T H u d g n c f1 f2 x fs N tu td tg p la lb) (k : ∀ H', Same H H' → Q false H') : tTest (tOp (rNeD K) (tCall (sp_ways P w T) [] E0 (tCons (tOp (rOwnOp T.c_Program (sp_Program_rshift T) E0) (tVar 7) (tVar 4)) (tCons (tVar 9) (tCons (tC (V.int 2)) tNil)))) (tLc (iList K (tCall (sp_ways P w T) [] E0 (tCons (tVar 4) (tCons (tVar 9) (tCons (tC (V.int 1)) tNil))))) (gName 13) tYes (tOp (rCatA K) (tTup (tCons (tVar 9) tNil)) (tVar 13)) [13])) (lapS b s fr u d g n c f1 f2 z2 z8 z12 z13) H Q := by
  have gj := good_join L.nms L.dig grown_mark L.gu (by simp [nm]) L.mu "row"
  refine joined_ways (dun := sp_Program_rshift) (wd := "row") L (fun a b H Q E h => ⟨a, b, rfl, h⟩) (.inl rfl) rfl rfl rfl L.pn L.pu gj fun r xs ls H1 s1 e1 n1 c1 => ?_
  have L1 := L.same s1
  refine ⟨_, rfl, _, rfl, u, c, x, fs, N, tu, p, 1, rfl, L1.pu, L.job L.goodU, L.ip, by omega, L1.np, fun r2 ys ws H2 s2 e2 n2 c2 => ?_⟩
  have ly : ys.length = ws.length := by rw [n2.length, List.length_map]
  have lW := L.few L.goodU (by omega) c2
  refine ⟨r2, rfl, ⟨_, SqL.of e2⟩, fun D nD => ?_⟩
  refine lc_each (l := ws) (steady_list (K := K) (a := r2) (xs := ys)) (fun H' s' => SqL.of (s' _ _ e2)) (fun l y H' => NV H' (wayD (p :: l)) y) (fun {_ _ _ _} tp n => n.mono tp) nD ly (by rw [sizeLine_eq]; omega) ?_ ?_
  · intro i l v H3 hl hv s3 Y yes
    obtain ⟨v', hv', nl⟩ := nvs_at n2 hl
    obtain rfl := Option.some.inj (hv'.symm.trans hv)
    have wl := waysOf_line L.ip.1 L.goodU.fits ((c2.mem l).mp (List.mem_of_getElem? hl))
    obtain ⟨dd, ds, rfl, ed, nd, ld⟩ := way_at (nl.mono (.same s3))
    refine ⟨rfl, _, rfl, by show 1 ≤ sizeLine; rw [sizeLine_eq]; omega, fun q nq => ⟨_, rfl, ?_⟩⟩
    have s4 := same_new (o := .tup [.ref c]) nq
    refine ⟨q, dd, [.ref c], ds, rfl, rfl, SqT.of upd_same, SqT.of (s4 _ _ ed), by rw [ld, sizeLine_eq]; show 1 + _ ≤ _; omega, fun z => (by cases z), fun _ z => (by rw [z] at ld; simp at ld; omega), fun _ _ q5 nq5 => ?_⟩
    have s5 := same_new (o := .tup ([.ref c] ++ ds)) nq5
    have np5 := (((L1.np.mono (.same s2)).mono (.same s3)).mono (.same s4)).mono (.same s5)
    exact yes _ _ (same_trans s4 s5) (.tup upd_same (.cons np5 (nd.mono (.same (same_trans s4 s5)))))
  · intro H3 zs s3 e3 pr3
    have n3 := paired_nvs pr3
    have s23 := same_trans s2 s3
    refine ne_same (ms := ws.map (p :: ·)) (s23 _ _ e1) (n1.mono (.same s23)) e3 (by rw [List.map_map]; exact n3) (c1.one ((c2.ahead p).iff fun l => ?_)) ⟨false, rfl, k H3 (same_trans s1 s23)⟩
    rw [joinS_row, law_note]
theorem check7 (L : Lap T H u d g n c f1 f2 x fs N tu td tg p la lb) (k : ∀ H', Same H H' → Q false H') : tTest (tOp (rNeD K) (tCall (sp_ways P w T) [] E0 (tCons (tOp (rOwnOp T.c_Program (sp_Program_rshift T) E0) (tVar 4) (tVar 7)) (tCons (tVar 9) (tCons (tC (V.int 2)) tNil)))) (tCall sp__law_ordered [] E0 (tCons (tLc (iList K (tCall (sp_ways P w T) [] E0 (tCons (tVar 4) (tCons (tVar 9) (tCons (tC (V.int 1)) tNil))))) (gName 13) tYes (tOp (rCatA K) (tVar 13) (tSl (rSlA K) (tVar 13) (tPart (tUn (rU fun i => V.int (-i)) (tC (V.int 1)))) tNoPart)) [13]) tNil))) (lapS b s fr u d g n c f1 f2 z2 z8 z12 z13) H Q := by
  have gj := good_join L.nms L.dig L.gu grown_mark L.mu (by simp [nm]) "row"
  refine joined_ways (dun := sp_Program_rshift) (wd := "row") L (fun a b H Q E h => ⟨a, b, rfl, h⟩) (.inl rfl) rfl rfl rfl L.pu L.pn gj fun r xs ls H1 s1 e1 n1 c1 => ?_
  have L1 := L.same s1
  refine ⟨_, rfl, _, rfl, u, c, x, fs, N, tu, p, 1, rfl, L1.pu, L.job L.goodU, L.ip, by omega, L1.np, fun r2 ys ws H2 s2 e2 n2 c2 => ?_⟩
  have ly : ys.length = ws.length := by rw [n2.length, List.length_map]
  have lW := L.few L.goodU (by omega) c2
  refine ⟨r2, rfl, ⟨_, SqL.of e2⟩, fun D nD => ?_⟩
  refine lc_each (l := ws) (steady_list (K := K) (a := r2) (xs := ys)) (fun H' s' => SqL.of (s' _ _ e2)) (fun l y H' => NV H' (wayD (l ++ [l.getLastD []])) y) (fun {_ _ _ _} tp n => n.mono tp) nD ly (by rw [sizeLine_eq]; omega) ?_ ?_
  · intro i l v H3 hl hv s3 Y yes
    obtain ⟨v', hv', nl⟩ := nvs_at n2 hl
    obtain rfl := Option.some.inj (hv'.symm.trans hv)
    have wl := (c2.mem l).mp (List.mem_of_getElem? hl)
    obtain ⟨m, q, rfl, lm, _⟩ := id wl
    have lst : (m ++ [q]).getLastD [] = q := by simp
    obtain ⟨dd, us, vr, rfl, ed, nu, nr, lus⟩ := way_last (nl.mono (.same s3))
    have fin : ∀ H4 q4, Same H3 H4 → H4 q4 = some (.tup [.ref vr]) → rCatA K (.ref dd) (.ref q4) H4 Y := fun H4 q4 s4 e4 => by
      refine ⟨dd, q4, us ++ [.ref vr], [.ref vr], rfl, rfl, SqT.of (s4 _ _ ed), SqT.of e4, by rw [List.length_append, lus, sizeLine_eq]; show _ + 1 + 1 ≤ _; omega, fun z => (by simp at z), fun _ z => (by cases z), fun _ _ q5 nq5 => ?_⟩
      have s5 := same_new (o := .tup (us ++ [.ref vr] ++ [.ref vr])) nq5
      have s45 := same_trans s4 s5
      refine yes _ _ s45 ?_
      rw [lst]
      refine nv_snoc upd_same ?_ (nr.mono (.same s45))
      rw [List.map_append]
      exact (nu.mono (.same s45)).append (.cons (nr.mono (.same s45)) .nil)
    refine ⟨rfl, _, rfl, _, rfl, _, rfl, _, rfl, dd, us ++ [.ref vr], rfl, SqT.of ed, fun z => ?_, fun _ q4 nq4 => ?_⟩
    · obtain ⟨z, _⟩ := z
      have : us = [] := by
        simp [HT.sIx] at z
        exact List.eq_nil_of_length_eq_zero (by omega)
      subst this
      exact fin H3 dd (same_refl _) ed
    · have s4 := same_new (o := .tup (cutV (us ++ [V.ref vr]) (some (-1)) none)) nq4
      exact fin _ q4 s4 (by rw [upd_same]; exact congrArg (fun z => some (HO.tup z)) (cut_end us _))
  · intro H3 zs s3 e3 pr3
    have n3 : NVs H3 ((ws.map fun l => l ++ [l.getLastD []]).map wayD) zs := by rw [List.map_map]; exact paired_nvs pr3
    have s23 := same_trans s2 s3
    have e : ∀ l, l ∈ (ws.map fun l => l ++ [l.getLastD []]) ↔ WaysOf fs (joinS "row" tu .mark) p 2 l := fun l => by
      rw [joinS_row, law_behind_note, List.mem_map]
      constructor
      · rintro ⟨m, hm, rfl⟩; exact ⟨m, (c2.mem m).mp hm, rfl⟩
      · rintro ⟨m, hm, rfl⟩; exact ⟨m, (c2.mem m).mpr hm, rfl⟩
    refine ⟨D, zs, _, uniW N p, rfl, e3, n3, fun l hl => L.uni gj ((e l).mp hl), Nat.le_trans (uniW_len N p) (by omega), by rw [List.length_map]; omega, fun r4 us ms H4 s4 e4 n4 c4 => ?_⟩
    have s24 := same_trans s23 s4
    exact ne_same (s24 _ _ e1) (n1.mono (.same s24)) e4 n4 (c1.one (c4.iff e)) ⟨false, rfl, k H4 (same_trans s1 s24)⟩
end
end Mw
/-! law. -/
namespace Mw
open PySem L2
section
variable {P : Program} {w : World} {K : PySem.W.Frag} {mg : Str → Option Value} {base : Heap}
theorem Prog.kept3 {T : TX K mg} {H H' : Hp} {s wl cl fr fa na a : Addr} {n m : Nat} {fs gs : List Str} {N : List Nat} {t : Src} (h : Prog T H a fs t) (st : St H s wl cl n) (fo : FrA H s wl fr fa na gs N m) (k : Kept3 s wl fr H H') : Prog T H' a fs t := by
  obtain ⟨dx, p, b, q, e, f, nv⟩ := h
  obtain ⟨_, _, _, _, h1, h2, _⟩ := st
  refine ⟨dx, p, b, q, k.keep a _ (fun z => ?_) (fun z => ?_) (fun z => ?_) e, f.mono k.tp, nv.mono k.tp⟩
  · rw [z, h1] at e; cases e
  · rw [z, h2] at e; cases e
  · rw [z, fo.1] at e; cases e
theorem Prog.put {T : TX K mg} {H : Hp} {a D : Addr} {fs : List Str} {t : Src} {xs ys : List V} (h : Prog T H a fs t) (e : H D = some (.lst xs)) : Prog T (upd H D (.lst ys)) a fs t := by
  obtain ⟨dx, p, b, q, ea, f, nv⟩ := h
  have tp : Tp H (upd H D (.lst ys)) := Tp.write (by rw [e]; exact True.intro)
  exact ⟨dx, p, b, q, (upd_ne fun z => by rw [z, e] at ea; cases ea).trans ea, f.mono tp, nv.mono tp⟩
theorem Kept.kept3 {s wl fr : Addr} {H H' : Hp} (k : Kept s wl H H') : Kept3 s wl fr H H' := k.three
theorem made_note {T : TX K mg} {H : Hp} {s wl fr fa na : Addr} {m : Nat} {fs : List Str} {N : List Nat} {σ : L2.St} {D : Ends} (h3 : σ[3]? = some (some (.ref fr))) (fo : FrA H s wl fr fa na fs N m) (nms : Names fs) (dig : Digits N) (k : ∀ n H', Same H H' → Prog T H' n fs .mark → D.nx (σ.set 7 (some (.ref n))) H') :
    tAsg (tMake T.c_Program (sp_Program_init T) [] E0 (tCons (tDGet (tVar 3) (tC (V.str "fields"))) (tCons (tTup (tCons (tC (V.str "mark")) tNil)) tNil))) (gName 7) D σ H := by
  refine ⟨_, h3, fr, _, rfl, .inl ⟨_, .inr "fields", .inl fo.1, rfl, get_fields.symm⟩, by show 1 ≤ sizeLine; rw [sizeLine_eq]; omega, fun q nq => ?_⟩
  have s7 := same_new (o := .tup [.str "mark"]) nq
  exact made_program (T := T) (N := N) (Q := fun x H1 => gName 7 x σ H1 D.nx) (.inr (.inl (s7 _ _ fo.2.1))) (List.Perm.refl _) nms (t := .mark) (.tup upd_same (.cons (.text _) .nil)) (good_of nms dig (grown_mark.le (by omega) (by omega)) (by simp [nm])) fun n H8 s8 _ pn => k n H8 (same_trans s7 s8) pn
def sp_law (K : PySem.W.Frag) : Sp := fun vs H Q _ => ∃ b, ∃ cs : List Int, vs = [.ref b] ∧ SqL K H b (cs.map V.int) ∧ cs.length ≤ 1000 ∧ ∀ H', Q (.bl true) H'
theorem ok_law (T : TX K mg) : FnOk P w K mg base CX0 34 T.a_law T.fd_law ["script"] (sp_law K) := by
  refine T.F_law.ok sc_law (fun vs H Q E h => ?_) (fun cdv A outer z H vs Q E hr h => ?_)
  · obtain ⟨b, cs, rfl, _⟩ := h
    rfl
  · obtain ⟨b, cs, rfl, hb, l1, k⟩ := h
    refine ⟨_, (pss_cons (ps_set (i := 1) sc_law.nd rfl (Or.inr rfl) (pe_call (ok__law_begun T) (hr.mono (by omega)) rfl T.m__law_begun T.F__law_begun.kp T.b__law_begun .nil pass0 (pa_cons (pv 0) pa_nil)))
      (pss_cons (ps_for PassesOwn.never rfl (pi_range1 rfl T.z_range (pa_cons (pe_op op_add pe_int (pe_callB (call_min2 rfl) (by rfl) T.z_min (by decide +kernel) (pa_cons (pe_callB call_len_seq (by rfl) T.z_len (by decide +kernel) (pa_cons (pv 0) pa_nil)) (pa_cons pe_int pa_nil)))) pa_nil)) (pg_name (i := 2) sc_law.nd rfl (Or.inl rfl)) (pss_cons (ps_set (i := 3) sc_law.nd rfl (Or.inr rfl) (pe_call (ok__law_frame T) (hr.mono (by omega)) rfl T.m__law_frame T.F__law_frame.kp T.b__law_frame .nil pass0 (pa_cons (pv 1) (pa_cons pe_int pa_nil))))
        (pss_cons (ps_asg (pe_lc (own := [("lap", 8)]) (g := (gName 8)) (tt := tYes) (te := (tCall (sp__law_program T) [] E0 (tCons (tVar 1) (tCons (tVar 3) (tCons (tCall sp__law_marked_tree [] E0 (tCons (tVar 1) (tCons (tVar 3) (tCons (tC (.int 2)) (tCons (tC (.int 2)) tNil))))) tNil))))) rfl sc_law.nd (pi_range1 rfl T.z_range (pa_cons pe_int pa_nil)) (blkOk_by (own := [("lap", 8)]) (N := ["script", "state", "turn", "frame", "uno", "duo", "gate", "note", "lap", "card", "first", "second", "round_here", "some"]) (sc := defScope s_law) (by decide +kernel)) (fun _ _ _ _ _ => (pg_name (i := 8) sc_law.nd rfl (Or.inl rfl))) (fun _ _ _ _ _ => pts_nil) (fun _ _ _ _ _ => (pe_call (ok__law_program T) (hr.mono (by omega)) rfl T.m__law_program T.F__law_program.kp T.b__law_program .nil pass0 (pa_cons (pv 1) (pa_cons (pv 3) (pa_cons (pe_call (ok__law_marked_tree T) (hr.mono (by omega)) rfl T.m__law_marked_tree T.F__law_marked_tree.kp T.b__law_marked_tree .nil pass0 (pa_cons (pv 1) (pa_cons (pv 3) (pa_cons pe_int (pa_cons pe_int pa_nil))))) pa_nil)))))) (pg_unl rfl (pgs_cons (pg_name (i := 4) sc_law.nd rfl (Or.inl rfl)) (pgs_cons (pg_name (i := 5) sc_law.nd rfl (Or.inl rfl)) pgs_nil))))
        (pss_cons (ps_set (i := 6) sc_law.nd rfl (Or.inr rfl) (pe_call (ok__law_program T) (hr.mono (by omega)) rfl T.m__law_program T.F__law_program.kp T.b__law_program .nil pass0 (pa_cons (pv 1) (pa_cons (pv 3) (pa_cons (pe_call (ok__law_test T 3) (hr.mono (by omega)) rfl T.m__law_test T.F__law_test.kp T.b__law_test .nil pass0 (pa_cons (pv 1) (pa_cons (pv 3) (pa_cons pe_int pa_nil)))) pa_nil)))))
        (pss_cons (ps_set (i := 7) sc_law.nd rfl (Or.inl rfl) (pe_make T.mk_Program (ok_Program_init T) (hr.mono (by omega)) (by rfl) T.m_Program T.b_Program_init .nil pass0 (pa_cons (pe_dget (hu_of hr) (pv 3) pe_str (fun _ _ => rfl)) (pa_cons (pe_tup (pa_cons pe_str pa_nil)) pa_nil))))
        (pss_one (ps_for PassesOwn.never rfl (pi_range1 rfl T.z_range (pa_cons pe_int pa_nil)) (pg_name (i := 8) sc_law.nd rfl (Or.inl rfl)) (pss_cons (ps_set (i := 9) sc_law.nd rfl (Or.inr rfl) (pe_call (ok__law_packet T) (hr.mono (by omega)) rfl T.m__law_packet T.F__law_packet.kp T.b__law_packet .nil pass0 (pa_cons (pv 1) (pa_cons (pv 3) pa_nil))))
          (pss_cons (ps_par (i := 10) (j := 11) (by rfl) sc_law.nd rfl rfl (by decide) rfl rfl (pa_cons (pe_call (ok_ways T) (hr.mono (by omega)) rfl T.m_ways T.F_ways.kp T.b_ways .nil pass0 (pa_cons (pv 4) (pa_cons (pv 9) (pa_cons pe_int pa_nil)))) (pa_cons (pe_call (ok_ways T) (hr.mono (by omega)) rfl T.m_ways T.F_ways.kp T.b_ways .nil pass0 (pa_cons (pv 5) (pa_cons (pv 9) (pa_cons pe_int pa_nil)))) pa_nil)) (by rfl))
          (pss_mid (ps_if (pt_cmpR (op_neD hr.units) (pe_call (ok_ways T) (hr.mono (by omega)) rfl T.m_ways T.F_ways.kp T.b_ways .nil pass0 (pa_cons (pe_op (op_own T.y_first T.me_Program_add (ok_Program_add T) (hr.mono (by omega)) T.b_Program_add pass0) (pv 4) (pv 5)) (pa_cons (pv 9) (pa_cons pe_int pa_nil)))) (pe_call (ok__law_ordered T) (hr.mono (by omega)) rfl T.m__law_ordered T.F__law_ordered.kp T.b__law_ordered .nil pass0 (pa_cons (pe_op op_cat (pv 10) (pv 11)) pa_nil)) (nomark _)) (pss_one (ps_ret pe_bl)) pss_nil)
          (pss_mid (ps_if (pt_cmpR (op_neD hr.units) (pe_call (ok_ways T) (hr.mono (by omega)) rfl T.m_ways T.F_ways.kp T.b_ways .nil pass0 (pa_cons (pe_op (op_own T.y_first T.me_Program_rshift (ok_Program_rshift T) (hr.mono (by omega)) T.b_Program_rshift pass0) (pv 4) (pv 5)) (pa_cons (pv 9) (pa_cons pe_int pa_nil)))) (pe_call (ok__law_behind T) (hr.mono (by omega)) rfl T.m__law_behind T.F__law_behind.kp T.b__law_behind .nil pass0 (pa_cons (pv 10) (pa_cons (pv 5) (pa_cons pe_int pa_nil)))) (nomark _)) (pss_one (ps_ret pe_bl)) pss_nil)
          (pss_cons (ps_set (i := 12) sc_law.nd rfl (Or.inl rfl) (pe_meth0 (pv 4) T.cl_Program T.me_Program_loop (ok_Program_loop T) (hr.mono (by omega)) T.b_Program_loop .nil pass0))
          (pss_mid (ps_if (pt_cmpR (op_neD hr.units) (pe_call (ok_ways T) (hr.mono (by omega)) rfl T.m_ways T.F_ways.kp T.b_ways .nil pass0 (pa_cons (pv 12) (pa_cons (pv 9) (pa_cons pe_int pa_nil)))) (pe_call (ok__law_ordered T) (hr.mono (by omega)) rfl T.m__law_ordered T.F__law_ordered.kp T.b__law_ordered .nil pass0 (pa_cons (pe_op op_cat (pe_lst (pa_cons (pe_tup (pa_cons (pv 9) pa_nil)) pa_nil)) (pe_call (ok__law_behind T) (hr.mono (by omega)) rfl T.m__law_behind T.F__law_behind.kp T.b__law_behind .nil pass0 (pa_cons (pv 10) (pa_cons (pv 12) (pa_cons pe_int pa_nil))))) pa_nil)) (nomark _)) (pss_one (ps_ret pe_bl)) pss_nil)
          (pss_mid (ps_if (pt_cmpR (op_neD hr.units) (pe_call (ok_ways T) (hr.mono (by omega)) rfl T.m_ways T.F_ways.kp T.b_ways .nil pass0 (pa_cons (pe_op (op_own T.y_first T.me_Program_rshift (ok_Program_rshift T) (hr.mono (by omega)) T.b_Program_rshift pass0) (pv 6) (pv 4)) (pa_cons (pv 9) (pa_cons pe_int pa_nil)))) (pe_ifExp (pt_val (pe_meth (pv 6) T.cl_Program T.me_Program_holds (ok_Program_holds T) (hr.mono (by omega)) T.b_Program_holds .nil pass0 (pa_cons (pv 9) pa_nil))) (pv 10) (pe_lst pa_nil)) (nomark _)) (pss_one (ps_ret pe_bl)) pss_nil)
          (pss_mid (ps_if (pt_cmpR (op_neD hr.units) (pe_call (ok_ways T) (hr.mono (by omega)) rfl T.m_ways T.F_ways.kp T.b_ways .nil pass0 (pa_cons (pe_op (op_own T.y_first T.me_Program_rshift (ok_Program_rshift T) (hr.mono (by omega)) T.b_Program_rshift pass0) (pv 4) (pv 6)) (pa_cons (pv 9) (pa_cons pe_int pa_nil)))) (pe_lc (own := [("some", 13)]) (g := (gName 13)) (tt := (tB (tMeth T.c_Program "holds" (sp_Program_holds T) [] E0 (tVar 6) (tCons (tOp (rIxT K) (tVar 13) (tUn (rU fun i => .int (-i)) (tC (.int 1)))) tNil)))) (te := (tVar 13)) rfl sc_law.nd (pi_list (pv 10)) (blkOk_by (own := [("some", 13)]) (N := ["script", "state", "turn", "frame", "uno", "duo", "gate", "note", "lap", "card", "first", "second", "round_here", "some"]) (sc := defScope s_law) (by decide +kernel)) (fun _ _ _ _ _ => (pg_name (i := 13) sc_law.nd rfl (Or.inl rfl))) (fun _ _ _ _ _ => (pts_one (pt_val (pe_meth (pv 6) T.cl_Program T.me_Program_holds (ok_Program_holds T) (hr.mono (by omega)) T.b_Program_holds .nil pass0 (pa_cons (pe_ix ix_tup (pv 13) (pe_un un_neg pe_int) (fun _ _ => rfl)) pa_nil))))) (fun _ _ _ _ _ => (pv 13))) (nomark _)) (pss_one (ps_ret pe_bl)) pss_nil)
          (pss_mid (ps_if (pt_cmpR (op_neD hr.units) (pe_call (ok_ways T) (hr.mono (by omega)) rfl T.m_ways T.F_ways.kp T.b_ways .nil pass0 (pa_cons (pe_op (op_own T.y_first T.me_Program_rshift (ok_Program_rshift T) (hr.mono (by omega)) T.b_Program_rshift pass0) (pv 7) (pv 4)) (pa_cons (pv 9) (pa_cons pe_int pa_nil)))) (pe_lc (own := [("some", 13)]) (g := (gName 13)) (tt := tYes) (te := (tOp (rCatA K) (tTup (tCons (tVar 9) tNil)) (tVar 13))) rfl sc_law.nd (pi_list (pe_call (ok_ways T) (hr.mono (by omega)) rfl T.m_ways T.F_ways.kp T.b_ways .nil pass0 (pa_cons (pv 4) (pa_cons (pv 9) (pa_cons pe_int pa_nil))))) (blkOk_by (own := [("some", 13)]) (N := ["script", "state", "turn", "frame", "uno", "duo", "gate", "note", "lap", "card", "first", "second", "round_here", "some"]) (sc := defScope s_law) (by decide +kernel)) (fun _ _ _ _ _ => (pg_name (i := 13) sc_law.nd rfl (Or.inl rfl))) (fun _ _ _ _ _ => pts_nil) (fun _ _ _ _ _ => (pe_op op_catA (pe_tup (pa_cons (pv 9) pa_nil)) (pv 13)))) (nomark _)) (pss_one (ps_ret pe_bl)) pss_nil)
          (pss_one (ps_if (pt_cmpR (op_neD hr.units) (pe_call (ok_ways T) (hr.mono (by omega)) rfl T.m_ways T.F_ways.kp T.b_ways .nil pass0 (pa_cons (pe_op (op_own T.y_first T.me_Program_rshift (ok_Program_rshift T) (hr.mono (by omega)) T.b_Program_rshift pass0) (pv 4) (pv 7)) (pa_cons (pv 9) (pa_cons pe_int pa_nil)))) (pe_call (ok__law_ordered T) (hr.mono (by omega)) rfl T.m__law_ordered T.F__law_ordered.kp T.b__law_ordered .nil pass0 (pa_cons (pe_lc (own := [("some", 13)]) (g := (gName 13)) (tt := tYes) (te := (tOp (rCatA K) (tVar 13) (tSl (rSlA K) (tVar 13) (tPart (tUn (rU fun i => .int (-i)) (tC (.int 1)))) tNoPart))) rfl sc_law.nd (pi_list (pe_call (ok_ways T) (hr.mono (by omega)) rfl T.m_ways T.F_ways.kp T.b_ways .nil pass0 (pa_cons (pv 4) (pa_cons (pv 9) (pa_cons pe_int pa_nil))))) (blkOk_by (own := [("some", 13)]) (N := ["script", "state", "turn", "frame", "uno", "duo", "gate", "note", "lap", "card", "first", "second", "round_here", "some"]) (sc := defScope s_law) (by decide +kernel)) (fun _ _ _ _ _ => (pg_name (i := 13) sc_law.nd rfl (Or.inl rfl))) (fun _ _ _ _ _ => pts_nil) (fun _ _ _ _ _ => (pe_op op_catA (pv 13) (pe_slice sl_tupA (pv 13) (po_some (pe_un un_neg pe_int)) po_none)))) pa_nil)) (nomark _)) (pss_one (ps_ret pe_bl)) pss_nil))))))))))))))))))
      (pss_one (ps_ret pe_bl)))), ?_⟩
    have big : (16777216 : Nat) ≤ sizeLine := by rw [sizeLine_eq]; omega
    refine ⟨_, rfl, b, cs, rfl, hb, l1, fun s wl cl H1 s1 nwl st1 => ?_⟩
    refine ⟨_, rfl, b, _, rfl, .inl (s1.seq hb), _, _, rfl, _, _, rfl, rfl, _, rfl, ?_, ?_, ?_⟩
    · split <;> omega
    · split <;> omega
    have few : ((3 : Int) + (if (12 : Int) < ((cs.map V.int).length : Int) then 12 else ((cs.map V.int).length : Int))).toNat ≤ 15 := by split <;> omega
    refine for_range (lo := 0) (n := ((3 : Int) + (if (12 : Int) < ((cs.map V.int).length : Int) then 12 else ((cs.map V.int).length : Int))).toNat) (fun i σ H' => ∃ (z2 z3 z4 z5 z6 z7 z8 z9 z10 z11 z12 z13 : Option V), σ = [some (.ref b), some (.ref s), z2, z3, z4, z5, z6, z7, z8, z9, z10, z11, z12, z13] ∧ St H' s wl cl (i * 1000)) ?_ ?_ ?_
    · exact ⟨_, _, _, _, _, _, _, _, _, _, _, _, rfl, st1.le (by omega)⟩
    · rintro i σ H2 hi ⟨z2, z3, z4, z5, z6, z7, z8, z9, z10, z11, z12, z13, rfl, st2⟩
      have hi15 : i < 15 := Nat.lt_of_lt_of_le hi few
      refine ⟨_, rfl, s, wl, cl, _, rfl, st2, by omega, fun fr fs N H3 k3 st3 nfr fo3 nms dig => ?_⟩
      obtain ⟨fa, na, fo3⟩ := fo3
      refine ⟨2, rfl, by omega, by omega, fun D nD => ?_⟩
      have nDs := st3.ne nD
      have nDf : D ≠ fr := (ne_of_none fo3.1 nD).symm
      have nDa : D ≠ na := (ne_of_none fo3.2.2.1 nD).symm
      have sD := same_new (o := .lst []) nD
      refine lc_range (lo := 0) (n := 2) (fun j H' => ∃ (os : List (Addr × Src)) (m' : Nat), Kept3 s wl fr H3 H' ∧ St H' s wl cl (i * 1000 + 20 + j * 215) ∧ FrA H' s wl fr fa na fs N m' ∧ H' D = some (.lst (os.map fun o => V.ref o.1)) ∧ os.length = j ∧ ∀ o ∈ os, Prog T H' o.1 fs o.2 ∧ Grown fs N 4 61 o.2 ∧ nm o.2 ≤ 2) ?_ ?_ ?_
      · exact ⟨[], 0, .same sD, (st3.same sD).le (by omega), fo3.same sD, upd_same, rfl, fun o h => absurd h List.not_mem_nil⟩
      · rintro j H4 hj ⟨os, m4, k4, st4, fo4, at4, lo, ok⟩
        refine ⟨rfl, ?_⟩
        simp only [tYes, if_true]
        refine ⟨_, rfl, _, rfl, _, rfl, _, rfl, s, wl, cl, _, fr, fa, na, fs, N, m4, rfl, st4, fo4, nms, dig, by omega, fun r t m5 H5 k5 st5 fo5 lm nt gr => ?_⟩
        have ok5 : ∀ o ∈ os, Prog T H5 o.1 fs o.2 := fun o ho => (ok o ho).1.kept3 st4 fo4 k5
        have at5 := k5.keep D _ nDs.1 nDs.2.1 nDf at4
        refine ⟨s, wl, cl, _, fr, r, fs, N, m5, t, N, rfl, st5, ⟨fa, na, fo5⟩, nms, by omega, nt, good_of nms dig (gr.le (by omega) (by omega)) (by omega), fun q H6 k6 st6 pr6 => ?_⟩
        have fo6 := fo5.kept st5 k6
        have at6 := k6.keep D _ nDs.1 nDs.2.1 at5
        refine ⟨_, at6, by rw [List.length_map]; omega, os ++ [(q, t)], m5, ((k4.trans k5).trans k6.three).new nD, (st6.put nDs at6).le (by omega), fo6.put at6 nDa, ?_, by rw [List.length_append, lo]; rfl, fun o ho => ?_⟩
        · rw [List.map_append]; exact upd_same
        · rcases List.mem_append.mp ho with h | h
          · exact ⟨((ok5 o h).kept3 st5 fo5 k6.three).put at6, (ok o h).2⟩
          · rw [List.mem_singleton.mp h]
            exact ⟨pr6.put at6, gr, lm⟩
      · rintro H4 ⟨os, m4, k4, st4, fo4, at4, lo, ok⟩
        obtain ⟨⟨u, tu⟩, ⟨d, td⟩, rfl⟩ := two_of lo
        obtain ⟨pu, gu, mu⟩ := ok (u, tu) (by simp)
        obtain ⟨pd, gd, md⟩ := ok (d, td) (by simp)
        refine ⟨D, _, rfl, SqL.of at4, rfl, _, _, rfl, _, _, rfl, rfl, ?_⟩
        refine ⟨_, rfl, _, rfl, _, rfl, _, rfl, s, wl, cl, _, fr, fs, N, m4, 2, rfl, by omega, st4, ⟨fa, na, fo4⟩, nms, dig, by show _ + 39 ≤ _; omega, fun r tg H5 k5 st5 nt tt => ?_⟩
        have fo5 := fo4.kept st4 k5
        refine ⟨s, wl, cl, _, fr, r, fs, N, m4, tg, N, rfl, st5, ⟨fa, na, fo5⟩, nms, by show _ + 39 + 2 ≤ _; omega, nt, good_of nms dig (tt.toGrown.le (by omega) (by show 13 ≤ _; omega)) (by rw [nm_test tt.test]; omega), fun g H6 k6 st6 pg => ?_⟩
        have fo6 := fo5.kept st5 k6
        have k46 := k5.trans k6
        have pu6 := pu.kept3 st4 fo4 k46.three
        have pd6 := pd.kept3 st4 fo4 k46.three
        refine made_note rfl fo6 nms dig fun n H8 s78 pn => ?_
        have st8 := st6.same s78
        have fo8 := fo6.same s78
        have pu8 := pu6.same s78
        have pd8 := pd6.same s78
        have pg8 := pg.same s78
        refine ⟨2, rfl, by omega, by omega, ?_⟩
        refine for_range (lo := 0) (n := 2) (fun j σ H' => ∃ (z8 z9 z10 z11 z12 z13 : Option V), σ = [some (.ref b), some (.ref s), some (.int (0 + (i : Int))), some (.ref fr), some (.ref u), some (.ref d), some (.ref g), some (.ref n), z8, z9, z10, z11, z12, z13] ∧ St H' s wl cl (i * 1000 + 500 + j * 3) ∧ FrA H' s wl fr fa na fs N m4 ∧ Prog T H' u fs tu ∧ Prog T H' d fs td ∧ Prog T H' g fs tg ∧ Prog T H' n fs .mark) ?_ ?_ ?_
        · exact ⟨_, _, _, _, _, _, rfl, st8.le (by show _ + 39 + 2 ≤ _; omega), fo8, pu8, pd8, pg8, pn⟩
        · rintro j σ H9 hj ⟨y8, y9, y10, y11, y12, y13, rfl, st9, fo9, pu9, pd9, pg9, pn9⟩
          refine ⟨_, rfl, _, rfl, s, wl, cl, _, fr, fs, N, m4, rfl, st9, ⟨fa, na, fo9⟩, nms, dig, by omega, fun c x p H10 k10 st10 hx ip np => ?_⟩
          have fo10 := fo9.kept st9 k10
          have pu10 := pu9.kept3 st9 fo9 k10.three
          have pd10 := pd9.kept3 st9 fo9 k10.three
          have pg10 := pg9.kept3 st9 fo9 k10.three
          have pn10 := pn9.kept3 st9 fo9 k10.three
          have nt := net_of nms dig hx
          have gU := good_of nms dig (gu.le (d' := 5) (z' := 1000) (by omega) (by omega)) (by omega)
          have gD := good_of nms dig (gd.le (d' := 5) (z' := 1000) (by omega) (by omega)) (by omega)
          refine ⟨_, rfl, _, rfl, u, c, x, fs, N, tu, p, 2, rfl, pu10, ⟨nt, gU⟩, ip, by omega, np, fun f1 xa la H11 s11 ea na' ca => ?_⟩
          refine ⟨_, rfl, _, rfl, d, c, x, fs, N, td, p, 2, rfl, pd10.same s11, ⟨nt, gD⟩, ip, by omega, np.mono (.same s11), fun f2 xb lb H12 s12 eb nb cb => ⟨_, _, rfl, ?_⟩⟩
          have s112 := same_trans s11 s12
          have L : Lap T H12 u d g n c f1 f2 x fs N tu td tg p la lb := ⟨pu10.same s112, pd10.same s112, pg10.same s112, pn10.same s112, nms, dig, gu, mu, gd, md, tt, hx, ip, np.mono (.same s112), ⟨xa, s12 _ _ ea, na'.mono (.same s12)⟩, ⟨xb, eb, nb⟩, ca, cb⟩
          have done : ∀ H' z12 z13, Same H12 H' → ∃ (z8 z9 z10 z11 z12' z13' : Option V), lapS b s fr u d g n c f1 f2 (some (.int (0 + (i : Int)))) (some (.int (0 + (j : Int)))) z12 z13 = [some (.ref b), some (.ref s), some (.int (0 + (i : Int))), some (.ref fr), some (.ref u), some (.ref d), some (.ref g), some (.ref n), z8, z9, z10, z11, z12', z13'] ∧ St H' s wl cl (i * 1000 + 500 + (j + 1) * 3) ∧ FrA H' s wl fr fa na fs N m4 ∧ Prog T H' u fs tu ∧ Prog T H' d fs td ∧ Prog T H' g fs tg ∧ Prog T H' n fs .mark := fun H' z12 z13 s' => by
            have L' := L.same s'
            exact ⟨_, _, _, _, _, _, rfl, ((st10.same s112).same s').le (by omega), (fo10.same s112).same s', L'.pu, L'.pd, L'.pg, L'.pn⟩
          refine ⟨fun σ H' => ∃ z12 z13, σ = lapS b s fr u d g n c f1 f2 (some (.int (0 + (i : Int)))) (some (.int (0 + (j : Int)))) z12 z13 ∧ Same H12 H', check1 L fun H' s' => iteF ⟨_, _, rfl, s'⟩, ?_⟩
          rintro σ H13 ⟨z12, z13, rfl, s13⟩
          refine ⟨fun σ H' => ∃ z12 z13, σ = lapS b s fr u d g n c f1 f2 (some (.int (0 + (i : Int)))) (some (.int (0 + (j : Int)))) z12 z13 ∧ Same H12 H', check2 (L.same s13) fun H' s' => iteF ⟨_, _, rfl, same_trans s13 s'⟩, ?_⟩
          rintro σ H14 ⟨z12, z13, rfl, s14⟩
          obtain ⟨dxu, _, _, _, eu, _⟩ := id (L.same s14).pu
          refine ⟨_, rfl, u, dxu, _, rfl, eu, rfl, u, fs, N, tu, rfl, (L.same s14).pu, nms, good_loop nms dig gu mu, fun rh H15 s15 pl => ?_⟩
          have s15 := same_trans s14 s15
          refine ⟨fun σ H' => ∃ z12 z13, σ = lapS b s fr u d g n c f1 f2 (some (.int (0 + (i : Int)))) (some (.int (0 + (j : Int)))) z12 z13 ∧ Same H12 H', check3 (L.same s15) pl fun H' s' => iteF ⟨_, _, rfl, same_trans s15 s'⟩, ?_⟩
          rintro σ H16 ⟨z12, z13, rfl, s16⟩
          refine ⟨fun σ H' => ∃ z12 z13, σ = lapS b s fr u d g n c f1 f2 (some (.int (0 + (i : Int)))) (some (.int (0 + (j : Int)))) z12 z13 ∧ Same H12 H', check4 (L.same s16) fun H' s' => iteF ⟨_, _, rfl, same_trans s16 s'⟩, ?_⟩
          rintro σ H17 ⟨z12, z13, rfl, s17⟩
          refine ⟨fun σ H' => ∃ z12 z13, σ = lapS b s fr u d g n c f1 f2 (some (.int (0 + (i : Int)))) (some (.int (0 + (j : Int)))) z12 z13 ∧ Same H12 H', check5 (L.same s17) fun H' s' => iteF ⟨_, _, rfl, same_trans s17 s'⟩, ?_⟩
          rintro σ H18 ⟨z12, z13, rfl, s18⟩
          refine ⟨fun σ H' => ∃ z12 z13, σ = lapS b s fr u d g n c f1 f2 (some (.int (0 + (i : Int)))) (some (.int (0 + (j : Int)))) z12 z13 ∧ Same H12 H', check6 (L.same s18) fun H' s' => iteF ⟨_, _, rfl, same_trans s18 s'⟩, ?_⟩
          rintro σ H19 ⟨z12, z13, rfl, s19⟩
          exact check7 (L.same s19) fun H' s' => iteF (done H' _ _ (same_trans s19 s'))
        · rintro σ H9 ⟨y8, y9, y10, y11, y12, y13, rfl, st9, _⟩
          exact ⟨_, _, _, _, _, _, _, _, _, _, _, _, rfl, st9.le (by omega)⟩
    · rintro σ H2 ⟨z2, z3, z4, z5, z6, z7, z8, z9, z10, z11, z12, z13, rfl, st2⟩
      exact k H2
end
end Mw
/-! The end. -/
namespace Mw
open PySem L2
/-- a def of the top -/
structure TopF (K : PySem.W.Frag) (mg : Str → Option Value) (x : Str) (st : Stmt) where
  a : Addr
  fd : FuncData
  F : Fun K x x st a fd
  m : mg x = some (.ref a)
theorem topF {K : PySem.W.Frag} {mg : Str → Option Value} {h : Heap} {x : Str} {st : Stmt} {f : Addr} {oc : Value} {od an : Option Addr} {osl : Array (Option Value)} {kV doc pm cdv ct : Value} (X : K.In h) (G : h.Ns mainGlobals mg) (e : PySem.W.nsIn K mainGlobals x = some (some (.ref f)))
    (l : K.lookup f = some ⟨oc, od, .func (PySem.W.fnOf x x (defArgs st) (defBody st) (defScope st) .none kV doc pm an cdv ct), osl⟩) (c : PySem.W.codeIn K cdv x = true) (k : PySem.W.keepIn K (.ref f) = true) : Nonempty (TopF K mg x st) :=
  ⟨⟨f, _, fun_mk l c k, PySem.W.mg_of X G e⟩⟩
/-- holds, by its second name too -/
structure TopH (K : PySem.W.Frag) (mg : Str → Option Value) (x y : Str) (st : Stmt) extends TopF K mg x st where
  m2 : mg y = some (.ref a)
theorem topH {K : PySem.W.Frag} {mg : Str → Option Value} {h : Heap} {x y : Str} {st : Stmt} {f : Addr} {oc : Value} {od an : Option Addr} {osl : Array (Option Value)} {kV doc pm cdv ct : Value} (X : K.In h) (G : h.Ns mainGlobals mg) (e : PySem.W.nsIn K mainGlobals x = some (some (.ref f))) (e2 : PySem.W.nsIn K mainGlobals y = some (some (.ref f)))
    (l : K.lookup f = some ⟨oc, od, .func (PySem.W.fnOf x x (defArgs st) (defBody st) (defScope st) .none kV doc pm an cdv ct), osl⟩) (c : PySem.W.codeIn K cdv x = true) (k : PySem.W.keepIn K (.ref f) = true) : Nonempty (TopH K mg x y st) :=
  ⟨⟨⟨f, _, fun_mk l c k, PySem.W.mg_of X G e⟩, PySem.W.mg_of X G e2⟩⟩
theorem int_mk {K : PySem.W.Frag} {mg : Str → Option Value} {h : Heap} {x : Str} {i : Int} {t} (X : K.In h) (G : h.Ns mainGlobals mg) (e : PySem.W.nsIn K mainGlobals x = some (some (.int i t))) : ∃ u, mg x = some u ∧ RelV (.int i) u := ⟨_, PySem.W.mg_of X G e, t, rfl⟩
theorem str_mk {K : PySem.W.Frag} {mg : Str → Option Value} {h : Heap} {x z : Str} {t} (X : K.In h) (G : h.Ns mainGlobals mg) (e : PySem.W.nsIn K mainGlobals x = some (some (.str z t))) : ∃ u, mg x = some u ∧ RelV (.str z) u := ⟨_, PySem.W.mg_of X G e, t, rfl⟩
theorem tup_mk {K : PySem.W.Frag} {mg : Str → Option Value} {h : Heap} {x : Str} {p : Addr} {od : Option Addr} {its : Array Value} {n : Nat} {osl : Array (Option Value)} {xs : List V} (X : K.In h) (G : h.Ns mainGlobals mg) (e : PySem.W.nsIn K mainGlobals x = some (some (.ref p))) (l : K.lookup p = some ⟨.type "tuple", od, .seq its n, osl⟩) (z : its.size ≤ sizeLine) (r : Vals xs its.toList) :
    ∃ p : Addr, mg x = some (.ref p) ∧ ∀ H : Hp, SqT K H p xs := ⟨p, PySem.W.mg_of X G e, fun _ => .inr ⟨_, its, n, l, rfl, rfl, z, r⟩⟩
structure OwnProgram (K : PySem.W.Frag) (mg : Str → Option Value) where
  a_Program_init : Addr
  fd_Program_init : FuncData
  F_Program_init : Fun K "__init__" "Program.__init__" s_Program_init a_Program_init fd_Program_init
  a_Program_add : Addr
  fd_Program_add : FuncData
  F_Program_add : Fun K "__add__" "Program.__add__" s_Program_add a_Program_add fd_Program_add
  a_Program_rshift : Addr
  fd_Program_rshift : FuncData
  F_Program_rshift : Fun K "__rshift__" "Program.__rshift__" s_Program_rshift a_Program_rshift fd_Program_rshift
  a_Program_loop : Addr
  fd_Program_loop : FuncData
  F_Program_loop : Fun K "loop" "Program.loop" s_Program_loop a_Program_loop fd_Program_loop
  a_Program_holds : Addr
  fd_Program_holds : FuncData
  F_Program_holds : Fun K "holds" "Program.holds" s_Program_holds a_Program_holds fd_Program_holds
  c : Addr
  m : mg "Program" = some (.ref c)
  cl : Cls K c
  mk_ : Mk K c a_Program_init
  me_Program_add : Meth K c "__add__" a_Program_add
  me_Program_rshift : Meth K c "__rshift__" a_Program_rshift
  me_Program_loop : Meth K c "loop" a_Program_loop
  me_Program_holds : Meth K c "holds" a_Program_holds
  y_first : PySem.W.selfFirst K c = true
  y_cls : PySem.W.findIn K (.ref c) "__class__" = some (some (.builtin "object.__class__"))
  y_get : PySem.W.specialIn K (.builtin "object.__class__") "__get__" = some (some (.builtin "getset_descriptor.__get__"))
  y_takes : PySem.W.takesIn K (.builtin "object.__class__") = some true
  y_mro : PySem.W.mroIn K c (.type "object") = some true
  y_kit : PySem.W.kitOne K (.ref c) (.ref c) = some true
  no_p_fields : NoAttr K c "p_fields"
  no_p_tree : NoAttr K c "p_tree"
  no_p_marks : NoAttr K c "p_marks"
  no_p_numbers : NoAttr K c "p_numbers"
theorem ownProgram {K : PySem.W.Frag} {mg : Str → Option Value} {h : Heap} {C : Addr} {f0 : Addr} {od0 an0 : Option Addr} {sl0 : Array (Option Value)} {oc0 kV0 dc0 pm0 cd0 ct0 : Value} {f1 : Addr} {od1 an1 : Option Addr} {sl1 : Array (Option Value)} {oc1 kV1 dc1 pm1 cd1 ct1 : Value} {f2 : Addr} {od2 an2 : Option Addr} {sl2 : Array (Option Value)} {oc2 kV2 dc2 pm2 cd2 ct2 : Value} {f3 : Addr} {od3 an3 : Option Addr} {sl3 : Array (Option Value)} {oc3 kV3 dc3 pm3 cd3 ct3 : Value} {f4 : Addr} {od4 an4 : Option Addr} {sl4 : Array (Option Value)} {oc4 kV4 dc4 pm4 cd4 ct4 : Value} (X : K.In h) (G : h.Ns mainGlobals mg) (aC : PySem.W.nsIn K mainGlobals "Program" = some (some (.ref C))) (a0 : PySem.W.findIn K (.ref C) "__init__" = some (some (.ref f0))) (i0 : PySem.W.isFn K (.ref f0) = true) (l0 : K.lookup f0 = some ⟨oc0, od0, .func (PySem.W.fnOf "__init__" "Program.__init__" (defArgs s_Program_init) (defBody s_Program_init) (defScope s_Program_init) .none kV0 dc0 pm0 an0 cd0 ct0), sl0⟩) (c0 : PySem.W.codeIn K cd0 "Program.__init__" = true) (k0 : PySem.W.keepIn K (.ref f0) = true) (a1 : PySem.W.findIn K (.ref C) "__add__" = some (some (.ref f1))) (i1 : PySem.W.isFn K (.ref f1) = true) (l1 : K.lookup f1 = some ⟨oc1, od1, .func (PySem.W.fnOf "__add__" "Program.__add__" (defArgs s_Program_add) (defBody s_Program_add) (defScope s_Program_add) .none kV1 dc1 pm1 an1 cd1 ct1), sl1⟩) (c1 : PySem.W.codeIn K cd1 "Program.__add__" = true) (k1 : PySem.W.keepIn K (.ref f1) = true) (a2 : PySem.W.findIn K (.ref C) "__rshift__" = some (some (.ref f2))) (i2 : PySem.W.isFn K (.ref f2) = true) (l2 : K.lookup f2 = some ⟨oc2, od2, .func (PySem.W.fnOf "__rshift__" "Program.__rshift__" (defArgs s_Program_rshift) (defBody s_Program_rshift) (defScope s_Program_rshift) .none kV2 dc2 pm2 an2 cd2 ct2), sl2⟩) (c2 : PySem.W.codeIn K cd2 "Program.__rshift__" = true) (k2 : PySem.W.keepIn K (.ref f2) = true) (a3 : PySem.W.findIn K (.ref C) "loop" = some (some (.ref f3))) (i3 : PySem.W.isFn K (.ref f3) = true) (l3 : K.lookup f3 = some ⟨oc3, od3, .func (PySem.W.fnOf "loop" "Program.loop" (defArgs s_Program_loop) (defBody s_Program_loop) (defScope s_Program_loop) .none kV3 dc3 pm3 an3 cd3 ct3), sl3⟩) (c3 : PySem.W.codeIn K cd3 "Program.loop" = true) (k3 : PySem.W.keepIn K (.ref f3) = true) (a4 : PySem.W.findIn K (.ref C) "holds" = some (some (.ref f4))) (i4 : PySem.W.isFn K (.ref f4) = true) (l4 : K.lookup f4 = some ⟨oc4, od4, .func (PySem.W.fnOf "holds" "Program.holds" (defArgs s_Program_holds) (defBody s_Program_holds) (defScope s_Program_holds) .none kV4 dc4 pm4 an4 cd4 ct4), sl4⟩) (c4 : PySem.W.codeIn K cd4 "Program.holds" = true) (k4 : PySem.W.keepIn K (.ref f4) = true) (pg : PySem.W.plainGet K C Str.empty = true) (hd : PySem.W.hasDictIn K C = true) (po : PySem.W.plainOver K C = true) (sa : PySem.W.findIn K (.ref C) "__setattr__" = some (some (.builtin "object.__setattr__"))) (mk : PySem.W.makesIn K C = true) (kc : PySem.W.keepIn K (.ref C) = true) (n0 : PySem.W.findIn K (.ref C) "p_fields" = some none) (n1 : PySem.W.findIn K (.ref C) "p_tree" = some none) (n2 : PySem.W.findIn K (.ref C) "p_marks" = some none) (n3 : PySem.W.findIn K (.ref C) "p_numbers" = some none) (y1 : PySem.W.selfFirst K C = true) (y2 : PySem.W.findIn K (.ref C) "__class__" = some (some (.builtin "object.__class__"))) (y3 : PySem.W.specialIn K (.builtin "object.__class__") "__get__" = some (some (.builtin "getset_descriptor.__get__"))) (y4 : PySem.W.takesIn K (.builtin "object.__class__") = some true) (y5 : PySem.W.mroIn K C (.type "object") = some true) : Nonempty (OwnProgram K mg) :=
  ⟨{ a_Program_init := f0, fd_Program_init := _, F_Program_init := fun_mk l0 c0 k0, a_Program_add := f1, fd_Program_add := _, F_Program_add := fun_mk l1 c1 k1, a_Program_rshift := f2, fd_Program_rshift := _, F_Program_rshift := fun_mk l2 c2 k2, a_Program_loop := f3, fd_Program_loop := _, F_Program_loop := fun_mk l3 c3 k3, a_Program_holds := f4, fd_Program_holds := _, F_Program_holds := fun_mk l4 c4 k4, c := C, m := PySem.W.mg_of X G aC, cl := ⟨pg, hd, po, sa⟩, mk_ := ⟨mk, a0, i0, kc⟩, me_Program_add := ⟨a1, i1, k1⟩, me_Program_rshift := ⟨a2, i2, k2⟩, me_Program_loop := ⟨a3, i3, k3⟩, me_Program_holds := ⟨a4, i4, k4⟩, y_first := y1, y_cls := y2, y_get := y3, y_takes := y4, y_mro := y5, y_kit := if_pos (beq_self_eq_true _), no_p_fields := n0, no_p_tree := n1, no_p_marks := n2, no_p_numbers := n3 }⟩
structure OwnWalk (K : PySem.W.Frag) (mg : Str → Option Value) where
  a_Walk_init : Addr
  fd_Walk_init : FuncData
  F_Walk_init : Fun K "__init__" "Walk.__init__" s_Walk_init a_Walk_init fd_Walk_init
  a_Walk_beginnings : Addr
  fd_Walk_beginnings : FuncData
  F_Walk_beginnings : Fun K "beginnings" "Walk.beginnings" s_Walk_beginnings a_Walk_beginnings fd_Walk_beginnings
  a_Walk_around : Addr
  fd_Walk_around : FuncData
  F_Walk_around : Fun K "around" "Walk.around" s_Walk_around a_Walk_around fd_Walk_around
  a_Walk_look_on : Addr
  fd_Walk_look_on : FuncData
  F_Walk_look_on : Fun K "look_on" "Walk.look_on" s_Walk_look_on a_Walk_look_on fd_Walk_look_on
  a_Walk_steps : Addr
  fd_Walk_steps : FuncData
  F_Walk_steps : Fun K "steps" "Walk.steps" s_Walk_steps a_Walk_steps fd_Walk_steps
  a_Walk_ends : Addr
  fd_Walk_ends : FuncData
  F_Walk_ends : Fun K "ends" "Walk.ends" s_Walk_ends a_Walk_ends fd_Walk_ends
  a_Walk_moves : Addr
  fd_Walk_moves : FuncData
  F_Walk_moves : Fun K "moves" "Walk.moves" s_Walk_moves a_Walk_moves fd_Walk_moves
  a_Walk_all_ends : Addr
  fd_Walk_all_ends : FuncData
  F_Walk_all_ends : Fun K "all_ends" "Walk.all_ends" s_Walk_all_ends a_Walk_all_ends fd_Walk_all_ends
  c : Addr
  m : mg "Walk" = some (.ref c)
  cl : Cls K c
  mk_ : Mk K c a_Walk_init
  me_Walk_beginnings : Meth K c "beginnings" a_Walk_beginnings
  me_Walk_around : Meth K c "around" a_Walk_around
  me_Walk_look_on : Meth K c "look_on" a_Walk_look_on
  me_Walk_steps : Meth K c "steps" a_Walk_steps
  me_Walk_ends : Meth K c "ends" a_Walk_ends
  me_Walk_moves : Meth K c "moves" a_Walk_moves
  me_Walk_all_ends : Meth K c "all_ends" a_Walk_all_ends
  no_k_fields : NoAttr K c "k_fields"
  no_k_tree : NoAttr K c "k_tree"
  no_k_found : NoAttr K c "k_found"
  no_k_live : NoAttr K c "k_live"
theorem ownWalk {K : PySem.W.Frag} {mg : Str → Option Value} {h : Heap} {C : Addr} {f0 : Addr} {od0 an0 : Option Addr} {sl0 : Array (Option Value)} {oc0 kV0 dc0 pm0 cd0 ct0 : Value} {f1 : Addr} {od1 an1 : Option Addr} {sl1 : Array (Option Value)} {oc1 kV1 dc1 pm1 cd1 ct1 : Value} {f2 : Addr} {od2 an2 : Option Addr} {sl2 : Array (Option Value)} {oc2 kV2 dc2 pm2 cd2 ct2 : Value} {f3 : Addr} {od3 an3 : Option Addr} {sl3 : Array (Option Value)} {oc3 kV3 dc3 pm3 cd3 ct3 : Value} {f4 : Addr} {od4 an4 : Option Addr} {sl4 : Array (Option Value)} {oc4 kV4 dc4 pm4 cd4 ct4 : Value} {f5 : Addr} {od5 an5 : Option Addr} {sl5 : Array (Option Value)} {oc5 kV5 dc5 pm5 cd5 ct5 : Value} {f6 : Addr} {od6 an6 : Option Addr} {sl6 : Array (Option Value)} {oc6 kV6 dc6 pm6 cd6 ct6 : Value} {f7 : Addr} {od7 an7 : Option Addr} {sl7 : Array (Option Value)} {oc7 kV7 dc7 pm7 cd7 ct7 : Value} (X : K.In h) (G : h.Ns mainGlobals mg) (aC : PySem.W.nsIn K mainGlobals "Walk" = some (some (.ref C))) (a0 : PySem.W.findIn K (.ref C) "__init__" = some (some (.ref f0))) (i0 : PySem.W.isFn K (.ref f0) = true) (l0 : K.lookup f0 = some ⟨oc0, od0, .func (PySem.W.fnOf "__init__" "Walk.__init__" (defArgs s_Walk_init) (defBody s_Walk_init) (defScope s_Walk_init) .none kV0 dc0 pm0 an0 cd0 ct0), sl0⟩) (c0 : PySem.W.codeIn K cd0 "Walk.__init__" = true) (k0 : PySem.W.keepIn K (.ref f0) = true) (a1 : PySem.W.findIn K (.ref C) "beginnings" = some (some (.ref f1))) (i1 : PySem.W.isFn K (.ref f1) = true) (l1 : K.lookup f1 = some ⟨oc1, od1, .func (PySem.W.fnOf "beginnings" "Walk.beginnings" (defArgs s_Walk_beginnings) (defBody s_Walk_beginnings) (defScope s_Walk_beginnings) .none kV1 dc1 pm1 an1 cd1 ct1), sl1⟩) (c1 : PySem.W.codeIn K cd1 "Walk.beginnings" = true) (k1 : PySem.W.keepIn K (.ref f1) = true) (a2 : PySem.W.findIn K (.ref C) "around" = some (some (.ref f2))) (i2 : PySem.W.isFn K (.ref f2) = true) (l2 : K.lookup f2 = some ⟨oc2, od2, .func (PySem.W.fnOf "around" "Walk.around" (defArgs s_Walk_around) (defBody s_Walk_around) (defScope s_Walk_around) .none kV2 dc2 pm2 an2 cd2 ct2), sl2⟩) (c2 : PySem.W.codeIn K cd2 "Walk.around" = true) (k2 : PySem.W.keepIn K (.ref f2) = true) (a3 : PySem.W.findIn K (.ref C) "look_on" = some (some (.ref f3))) (i3 : PySem.W.isFn K (.ref f3) = true) (l3 : K.lookup f3 = some ⟨oc3, od3, .func (PySem.W.fnOf "look_on" "Walk.look_on" (defArgs s_Walk_look_on) (defBody s_Walk_look_on) (defScope s_Walk_look_on) .none kV3 dc3 pm3 an3 cd3 ct3), sl3⟩) (c3 : PySem.W.codeIn K cd3 "Walk.look_on" = true) (k3 : PySem.W.keepIn K (.ref f3) = true) (a4 : PySem.W.findIn K (.ref C) "steps" = some (some (.ref f4))) (i4 : PySem.W.isFn K (.ref f4) = true) (l4 : K.lookup f4 = some ⟨oc4, od4, .func (PySem.W.fnOf "steps" "Walk.steps" (defArgs s_Walk_steps) (defBody s_Walk_steps) (defScope s_Walk_steps) .none kV4 dc4 pm4 an4 cd4 ct4), sl4⟩) (c4 : PySem.W.codeIn K cd4 "Walk.steps" = true) (k4 : PySem.W.keepIn K (.ref f4) = true) (a5 : PySem.W.findIn K (.ref C) "ends" = some (some (.ref f5))) (i5 : PySem.W.isFn K (.ref f5) = true) (l5 : K.lookup f5 = some ⟨oc5, od5, .func (PySem.W.fnOf "ends" "Walk.ends" (defArgs s_Walk_ends) (defBody s_Walk_ends) (defScope s_Walk_ends) .none kV5 dc5 pm5 an5 cd5 ct5), sl5⟩) (c5 : PySem.W.codeIn K cd5 "Walk.ends" = true) (k5 : PySem.W.keepIn K (.ref f5) = true) (a6 : PySem.W.findIn K (.ref C) "moves" = some (some (.ref f6))) (i6 : PySem.W.isFn K (.ref f6) = true) (l6 : K.lookup f6 = some ⟨oc6, od6, .func (PySem.W.fnOf "moves" "Walk.moves" (defArgs s_Walk_moves) (defBody s_Walk_moves) (defScope s_Walk_moves) .none kV6 dc6 pm6 an6 cd6 ct6), sl6⟩) (c6 : PySem.W.codeIn K cd6 "Walk.moves" = true) (k6 : PySem.W.keepIn K (.ref f6) = true) (a7 : PySem.W.findIn K (.ref C) "all_ends" = some (some (.ref f7))) (i7 : PySem.W.isFn K (.ref f7) = true) (l7 : K.lookup f7 = some ⟨oc7, od7, .func (PySem.W.fnOf "all_ends" "Walk.all_ends" (defArgs s_Walk_all_ends) (defBody s_Walk_all_ends) (defScope s_Walk_all_ends) .none kV7 dc7 pm7 an7 cd7 ct7), sl7⟩) (c7 : PySem.W.codeIn K cd7 "Walk.all_ends" = true) (k7 : PySem.W.keepIn K (.ref f7) = true) (pg : PySem.W.plainGet K C Str.empty = true) (hd : PySem.W.hasDictIn K C = true) (po : PySem.W.plainOver K C = true) (sa : PySem.W.findIn K (.ref C) "__setattr__" = some (some (.builtin "object.__setattr__"))) (mk : PySem.W.makesIn K C = true) (kc : PySem.W.keepIn K (.ref C) = true) (n0 : PySem.W.findIn K (.ref C) "k_fields" = some none) (n1 : PySem.W.findIn K (.ref C) "k_tree" = some none) (n2 : PySem.W.findIn K (.ref C) "k_found" = some none) (n3 : PySem.W.findIn K (.ref C) "k_live" = some none) : Nonempty (OwnWalk K mg) :=
  ⟨{ a_Walk_init := f0, fd_Walk_init := _, F_Walk_init := fun_mk l0 c0 k0, a_Walk_beginnings := f1, fd_Walk_beginnings := _, F_Walk_beginnings := fun_mk l1 c1 k1, a_Walk_around := f2, fd_Walk_around := _, F_Walk_around := fun_mk l2 c2 k2, a_Walk_look_on := f3, fd_Walk_look_on := _, F_Walk_look_on := fun_mk l3 c3 k3, a_Walk_steps := f4, fd_Walk_steps := _, F_Walk_steps := fun_mk l4 c4 k4, a_Walk_ends := f5, fd_Walk_ends := _, F_Walk_ends := fun_mk l5 c5 k5, a_Walk_moves := f6, fd_Walk_moves := _, F_Walk_moves := fun_mk l6 c6 k6, a_Walk_all_ends := f7, fd_Walk_all_ends := _, F_Walk_all_ends := fun_mk l7 c7 k7, c := C, m := PySem.W.mg_of X G aC, cl := ⟨pg, hd, po, sa⟩, mk_ := ⟨mk, a0, i0, kc⟩, me_Walk_beginnings := ⟨a1, i1, k1⟩, me_Walk_around := ⟨a2, i2, k2⟩, me_Walk_look_on := ⟨a3, i3, k3⟩, me_Walk_steps := ⟨a4, i4, k4⟩, me_Walk_ends := ⟨a5, i5, k5⟩, me_Walk_moves := ⟨a6, i6, k6⟩, me_Walk_all_ends := ⟨a7, i7, k7⟩, no_k_fields := n0, no_k_tree := n1, no_k_found := n2, no_k_live := n3 }⟩
theorem walk {l : PySem.W.OpenLaw} {q : Program} {loose : List Str} {XP : (Str → Option Value) → Heap → Prop} {YP : World → Heap → Prop} {d : DefRec} {K : Params → PySem.W.Frag} (hn : l.most = some 63) (hdf : d.params.defaults = []) (hdn : d.name = "law")
    (hY : ∀ (w : World) (h : Heap), YP w h → (K w.params).In h)
    (F : ∀ (w : World) (mg : Str → Option Value) (h : Heap), (K w.params).In h → h.Ns mainGlobals mg → Nonempty (TX (K w.params) mg)) :
    PySem.W.WalkO q loose XP YP l.row.toRowW d [] (fun f vs => PySem.call f vs) :=
  L2.walk_of (n := 63) (k := 34) (x := "script") (CX := fun _ => CX0) (sp := fun w => sp_law (K w.params)) hn (by decide) hdf ⟨rfl, by decide, by decide⟩ hY (fun w mg fa h KX G hmg => by
    obtain ⟨T⟩ := F w mg h KX G
    rw [hdn] at hmg
    have e := hmg.symm.trans T.m_law
    cases e
    refine ⟨T.fd_law, fun s u => ?_, fun base _ _ => ok_law T⟩
    obtain ⟨⟨oc, od, kV, doc, pm, an, cdv, ct, osl, e, _⟩, _⟩ := T.F_law
    rw [e]
    exact .of_eq rfl) (fun w H a ns hl _ hS => ⟨a, ns, rfl, hS, by omega, fun _ => rfl⟩) fun _ _ _ _ _ z => z
end Mw
open PySem PySem.W PyProof.Rows
set_option maxHeartbeats 0 in
theorem PySem.Challenge.cw_markedways_k16_whole_ways_put_together_holds : PySem.Challenge.rw_markedways_k16_whole_ways_put_together.Holds := by
  w_on; o_law; k_head; (case hw => w_witness2)
  k_fill
  refine Mw.walk (l := PySem.Challenge.rw_markedways_k16_whole_ways_put_together) rfl rfl rfl (fun w h Y => PySem.W.kIn_of Y) ?F
  case F =>
    intro w mg h KX G
    have z_isinstance : mg "isinstance" = none := by
      refine' PySem.W.mg_none_of KX G ?e
      (case e => k_is)
    have z_int : mg "int" = none := by
      refine' PySem.W.mg_none_of KX G ?e
      (case e => k_is)
    have z_bool : mg "bool" = none := by
      refine' PySem.W.mg_none_of KX G ?e
      (case e => k_is)
    have z_str : mg "str" = none := by
      refine' PySem.W.mg_none_of KX G ?e
      (case e => k_is)
    have z_tuple : mg "tuple" = none := by
      refine' PySem.W.mg_none_of KX G ?e
      (case e => k_is)
    have z_list : mg "list" = none := by
      refine' PySem.W.mg_none_of KX G ?e
      (case e => k_is)
    have z_len : mg "len" = none := by
      refine' PySem.W.mg_none_of KX G ?e
      (case e => k_is)
    have z_all : mg "all" = none := by
      refine' PySem.W.mg_none_of KX G ?e
      (case e => k_is)
    have z_any : mg "any" = none := by
      refine' PySem.W.mg_none_of KX G ?e
      (case e => k_is)
    have z_set : mg "set" = none := by
      refine' PySem.W.mg_none_of KX G ?e
      (case e => k_is)
    have z_sorted : mg "sorted" = none := by
      refine' PySem.W.mg_none_of KX G ?e
      (case e => k_is)
    have z_range : mg "range" = none := by
      refine' PySem.W.mg_none_of KX G ?e
      (case e => k_is)
    have z_min : mg "min" = none := by
      refine' PySem.W.mg_none_of KX G ?e
      (case e => k_is)
    have z_abs : mg "abs" = none := by
      refine' PySem.W.mg_none_of KX G ?e
      (case e => k_is)
    have z_dict : mg "dict" = none := by
      refine' PySem.W.mg_none_of KX G ?e
      (case e => k_is)
    obtain ⟨t_is_number⟩ : Nonempty (Mw.TopF _ mg "is_number" Mw.s_is_number) := by
      refine' Mw.topF KX G ?a ?l ?c ?k
      (case a => k_is); (case l => k_is); (case c => k_is); (case k => k_is)
    obtain ⟨t_is_count⟩ : Nonempty (Mw.TopF _ mg "is_count" Mw.s_is_count) := by
      refine' Mw.topF KX G ?a ?l ?c ?k
      (case a => k_is); (case l => k_is); (case c => k_is); (case k => k_is)
    obtain ⟨t_is_list⟩ : Nonempty (Mw.TopF _ mg "is_list" Mw.s_is_list) := by
      refine' Mw.topF KX G ?a ?l ?c ?k
      (case a => k_is); (case l => k_is); (case c => k_is); (case k => k_is)
    obtain ⟨t_is_field⟩ : Nonempty (Mw.TopF _ mg "is_field" Mw.s_is_field) := by
      refine' Mw.topF KX G ?a ?l ?c ?k
      (case a => k_is); (case l => k_is); (case c => k_is); (case k => k_is)
    obtain ⟨t_are_different⟩ : Nonempty (Mw.TopF _ mg "are_different" Mw.s_are_different) := by
      refine' Mw.topF KX G ?a ?l ?c ?k
      (case a => k_is); (case l => k_is); (case c => k_is); (case k => k_is)
    obtain ⟨t_need_fields⟩ : Nonempty (Mw.TopF _ mg "need_fields" Mw.s_need_fields) := by
      refine' Mw.topF KX G ?a ?l ?c ?k
      (case a => k_is); (case l => k_is); (case c => k_is); (case k => k_is)
    obtain ⟨t_is_packet_of⟩ : Nonempty (Mw.TopF _ mg "is_packet_of" Mw.s_is_packet_of) := by
      refine' Mw.topF KX G ?a ?l ?c ?k
      (case a => k_is); (case l => k_is); (case c => k_is); (case k => k_is)
    obtain ⟨t_need_packet⟩ : Nonempty (Mw.TopF _ mg "need_packet" Mw.s_need_packet) := by
      refine' Mw.topF KX G ?a ?l ?c ?k
      (case a => k_is); (case l => k_is); (case c => k_is); (case k => k_is)
    obtain ⟨t_are_trees⟩ : Nonempty (Mw.TopF _ mg "are_trees" Mw.s_are_trees) := by
      refine' Mw.topF KX G ?a ?l ?c ?k
      (case a => k_is); (case l => k_is); (case c => k_is); (case k => k_is)
    obtain ⟨t_is_tree_of⟩ : Nonempty (Mw.TopF _ mg "is_tree_of" Mw.s_is_tree_of) := by
      refine' Mw.topF KX G ?a ?l ?c ?k
      (case a => k_is); (case l => k_is); (case c => k_is); (case k => k_is)
    obtain ⟨t_is_tree⟩ : Nonempty (Mw.TopF _ mg "is_tree" Mw.s_is_tree) := by
      refine' Mw.topF KX G ?a ?l ?c ?k
      (case a => k_is); (case l => k_is); (case c => k_is); (case k => k_is)
    obtain ⟨t_is_test⟩ : Nonempty (Mw.TopF _ mg "is_test" Mw.s_is_test) := by
      refine' Mw.topF KX G ?a ?l ?c ?k
      (case a => k_is); (case l => k_is); (case c => k_is); (case k => k_is)
    obtain ⟨t_inner_trees⟩ : Nonempty (Mw.TopF _ mg "inner_trees" Mw.s_inner_trees) := by
      refine' Mw.topF KX G ?a ?l ?c ?k
      (case a => k_is); (case l => k_is); (case c => k_is); (case k => k_is)
    obtain ⟨t_all_trees⟩ : Nonempty (Mw.TopF _ mg "all_trees" Mw.s_all_trees) := by
      refine' Mw.topF KX G ?a ?l ?c ?k
      (case a => k_is); (case l => k_is); (case c => k_is); (case k => k_is)
    obtain ⟨t_marks_in⟩ : Nonempty (Mw.TopF _ mg "marks_in" Mw.s_marks_in) := by
      refine' Mw.topF KX G ?a ?l ?c ?k
      (case a => k_is); (case l => k_is); (case c => k_is); (case k => k_is)
    obtain ⟨t_numbers_in⟩ : Nonempty (Mw.TopF _ mg "numbers_in" Mw.s_numbers_in) := by
      refine' Mw.topF KX G ?a ?l ?c ?k
      (case a => k_is); (case l => k_is); (case c => k_is); (case k => k_is)
    obtain ⟨t_fields_in⟩ : Nonempty (Mw.TopF _ mg "fields_in" Mw.s_fields_in) := by
      refine' Mw.topF KX G ?a ?l ?c ?k
      (case a => k_is); (case l => k_is); (case c => k_is); (case k => k_is)
    obtain ⟨t_holds⟩ : Nonempty (Mw.TopH _ mg "holds" "holds_programs" Mw.s_holds) := by
      refine' Mw.topH KX G ?a ?b ?l ?c ?k
      (case a => k_is); (case b => k_is); (case l => k_is); (case c => k_is); (case k => k_is)
    obtain ⟨t_written⟩ : Nonempty (Mw.TopF _ mg "written" Mw.s_written) := by
      refine' Mw.topF KX G ?a ?l ?c ?k
      (case a => k_is); (case l => k_is); (case c => k_is); (case k => k_is)
    obtain ⟨t_past_leaf⟩ : Nonempty (Mw.TopF _ mg "past_leaf" Mw.s_past_leaf) := by
      refine' Mw.topF KX G ?a ?l ?c ?k
      (case a => k_is); (case l => k_is); (case c => k_is); (case k => k_is)
    obtain ⟨t_parts_for⟩ : Nonempty (Mw.TopF _ mg "parts_for" Mw.s_parts_for) := by
      refine' Mw.topF KX G ?a ?l ?c ?k
      (case a => k_is); (case l => k_is); (case c => k_is); (case k => k_is)
    obtain ⟨t_joined⟩ : Nonempty (Mw.TopF _ mg "joined" Mw.s_joined) := by
      refine' Mw.topF KX G ?a ?l ?c ?k
      (case a => k_is); (case l => k_is); (case c => k_is); (case k => k_is)
    obtain ⟨t_need_like⟩ : Nonempty (Mw.TopF _ mg "need_like" Mw.s_need_like) := by
      refine' Mw.topF KX G ?a ?l ?c ?k
      (case a => k_is); (case l => k_is); (case c => k_is); (case k => k_is)
    obtain ⟨t_need_program⟩ : Nonempty (Mw.TopF _ mg "need_program" Mw.s_need_program) := by
      refine' Mw.topF KX G ?a ?l ?c ?k
      (case a => k_is); (case l => k_is); (case c => k_is); (case k => k_is)
    obtain ⟨t_flow⟩ : Nonempty (Mw.TopF _ mg "flow" Mw.s_flow) := by
      refine' Mw.topF KX G ?a ?l ?c ?k
      (case a => k_is); (case l => k_is); (case c => k_is); (case k => k_is)
    obtain ⟨t_flow_on⟩ : Nonempty (Mw.TopF _ mg "flow_on" Mw.s_flow_on) := by
      refine' Mw.topF KX G ?a ?l ?c ?k
      (case a => k_is); (case l => k_is); (case c => k_is); (case k => k_is)
    obtain ⟨t_onward⟩ : Nonempty (Mw.TopF _ mg "onward" Mw.s_onward) := by
      refine' Mw.topF KX G ?a ?l ?c ?k
      (case a => k_is); (case l => k_is); (case c => k_is); (case k => k_is)
    obtain ⟨t_ways_to⟩ : Nonempty (Mw.TopF _ mg "ways_to" Mw.s_ways_to) := by
      refine' Mw.topF KX G ?a ?l ?c ?k
      (case a => k_is); (case l => k_is); (case c => k_is); (case k => k_is)
    obtain ⟨t_need_most⟩ : Nonempty (Mw.TopF _ mg "need_most" Mw.s_need_most) := by
      refine' Mw.topF KX G ?a ?l ?c ?k
      (case a => k_is); (case l => k_is); (case c => k_is); (case k => k_is)
    obtain ⟨t_ways⟩ : Nonempty (Mw.TopF _ mg "ways" Mw.s_ways) := by
      refine' Mw.topF KX G ?a ?l ?c ?k
      (case a => k_is); (case l => k_is); (case c => k_is); (case k => k_is)
    obtain ⟨t__law_begun⟩ : Nonempty (Mw.TopF _ mg "_law_begun" Mw.s__law_begun) := by
      refine' Mw.topF KX G ?a ?l ?c ?k
      (case a => k_is); (case l => k_is); (case c => k_is); (case k => k_is)
    obtain ⟨t__law_mixed⟩ : Nonempty (Mw.TopF _ mg "_law_mixed" Mw.s__law_mixed) := by
      refine' Mw.topF KX G ?a ?l ?c ?k
      (case a => k_is); (case l => k_is); (case c => k_is); (case k => k_is)
    obtain ⟨t__law_take⟩ : Nonempty (Mw.TopF _ mg "_law_take" Mw.s__law_take) := by
      refine' Mw.topF KX G ?a ?l ?c ?k
      (case a => k_is); (case l => k_is); (case c => k_is); (case k => k_is)
    obtain ⟨t__law_pick⟩ : Nonempty (Mw.TopF _ mg "_law_pick" Mw.s__law_pick) := by
      refine' Mw.topF KX G ?a ?l ?c ?k
      (case a => k_is); (case l => k_is); (case c => k_is); (case k => k_is)
    obtain ⟨t__law_shuffled⟩ : Nonempty (Mw.TopF _ mg "_law_shuffled" Mw.s__law_shuffled) := by
      refine' Mw.topF KX G ?a ?l ?c ?k
      (case a => k_is); (case l => k_is); (case c => k_is); (case k => k_is)
    obtain ⟨t__law_frame⟩ : Nonempty (Mw.TopF _ mg "_law_frame" Mw.s__law_frame) := by
      refine' Mw.topF KX G ?a ?l ?c ?k
      (case a => k_is); (case l => k_is); (case c => k_is); (case k => k_is)
    obtain ⟨t__law_test⟩ : Nonempty (Mw.TopF _ mg "_law_test" Mw.s__law_test) := by
      refine' Mw.topF KX G ?a ?l ?c ?k
      (case a => k_is); (case l => k_is); (case c => k_is); (case k => k_is)
    obtain ⟨t__law_leaf⟩ : Nonempty (Mw.TopF _ mg "_law_leaf" Mw.s__law_leaf) := by
      refine' Mw.topF KX G ?a ?l ?c ?k
      (case a => k_is); (case l => k_is); (case c => k_is); (case k => k_is)
    obtain ⟨t__law_tree⟩ : Nonempty (Mw.TopF _ mg "_law_tree" Mw.s__law_tree) := by
      refine' Mw.topF KX G ?a ?l ?c ?k
      (case a => k_is); (case l => k_is); (case c => k_is); (case k => k_is)
    obtain ⟨t__law_marked_tree⟩ : Nonempty (Mw.TopF _ mg "_law_marked_tree" Mw.s__law_marked_tree) := by
      refine' Mw.topF KX G ?a ?l ?c ?k
      (case a => k_is); (case l => k_is); (case c => k_is); (case k => k_is)
    obtain ⟨t__law_program⟩ : Nonempty (Mw.TopF _ mg "_law_program" Mw.s__law_program) := by
      refine' Mw.topF KX G ?a ?l ?c ?k
      (case a => k_is); (case l => k_is); (case c => k_is); (case k => k_is)
    obtain ⟨t__law_packet⟩ : Nonempty (Mw.TopF _ mg "_law_packet" Mw.s__law_packet) := by
      refine' Mw.topF KX G ?a ?l ?c ?k
      (case a => k_is); (case l => k_is); (case c => k_is); (case k => k_is)
    obtain ⟨t__law_ordered⟩ : Nonempty (Mw.TopF _ mg "_law_ordered" Mw.s__law_ordered) := by
      refine' Mw.topF KX G ?a ?l ?c ?k
      (case a => k_is); (case l => k_is); (case c => k_is); (case k => k_is)
    obtain ⟨t__law_behind⟩ : Nonempty (Mw.TopF _ mg "_law_behind" Mw.s__law_behind) := by
      refine' Mw.topF KX G ?a ?l ?c ?k
      (case a => k_is); (case l => k_is); (case c => k_is); (case k => k_is)
    obtain ⟨t_law⟩ : Nonempty (Mw.TopF _ mg "law" Mw.s_law) := by
      refine' Mw.topF KX G ?a ?l ?c ?k
      (case a => k_is); (case l => k_is); (case c => k_is); (case k => k_is)
    obtain ⟨w_Program⟩ : Nonempty (Mw.OwnProgram _ mg) := by
      refine' Mw.ownProgram KX G ?aC ?a0 ?i0 ?l0 ?c0 ?k0 ?a1 ?i1 ?l1 ?c1 ?k1 ?a2 ?i2 ?l2 ?c2 ?k2 ?a3 ?i3 ?l3 ?c3 ?k3 ?a4 ?i4 ?l4 ?c4 ?k4 ?pg ?hd ?po ?sa ?mk ?kc ?n0 ?n1 ?n2 ?n3 ?y1 ?y2 ?y3 ?y4 ?y5
      (case aC => k_is); (case a0 => k_is); (case i0 => k_is); (case l0 => k_is); (case c0 => k_is); (case k0 => k_is); (case a1 => k_is); (case i1 => k_is); (case l1 => k_is); (case c1 => k_is); (case k1 => k_is); (case a2 => k_is); (case i2 => k_is); (case l2 => k_is); (case c2 => k_is); (case k2 => k_is); (case a3 => k_is); (case i3 => k_is); (case l3 => k_is); (case c3 => k_is); (case k3 => k_is); (case a4 => k_is); (case i4 => k_is); (case l4 => k_is); (case c4 => k_is); (case k4 => k_is); (case pg => k_is); (case hd => k_is); (case po => k_is); (case sa => k_is); (case mk => k_is); (case kc => k_is); (case n0 => k_is); (case n1 => k_is); (case n2 => k_is); (case n3 => k_is); (case y1 => k_is); (case y2 => k_is); (case y3 => k_is); (case y4 => k_is); (case y5 => k_is)
    obtain ⟨w_Walk⟩ : Nonempty (Mw.OwnWalk _ mg) := by
      refine' Mw.ownWalk KX G ?aC ?a0 ?i0 ?l0 ?c0 ?k0 ?a1 ?i1 ?l1 ?c1 ?k1 ?a2 ?i2 ?l2 ?c2 ?k2 ?a3 ?i3 ?l3 ?c3 ?k3 ?a4 ?i4 ?l4 ?c4 ?k4 ?a5 ?i5 ?l5 ?c5 ?k5 ?a6 ?i6 ?l6 ?c6 ?k6 ?a7 ?i7 ?l7 ?c7 ?k7 ?pg ?hd ?po ?sa ?mk ?kc ?n0 ?n1 ?n2 ?n3
      (case aC => k_is); (case a0 => k_is); (case i0 => k_is); (case l0 => k_is); (case c0 => k_is); (case k0 => k_is); (case a1 => k_is); (case i1 => k_is); (case l1 => k_is); (case c1 => k_is); (case k1 => k_is); (case a2 => k_is); (case i2 => k_is); (case l2 => k_is); (case c2 => k_is); (case k2 => k_is); (case a3 => k_is); (case i3 => k_is); (case l3 => k_is); (case c3 => k_is); (case k3 => k_is); (case a4 => k_is); (case i4 => k_is); (case l4 => k_is); (case c4 => k_is); (case k4 => k_is); (case a5 => k_is); (case i5 => k_is); (case l5 => k_is); (case c5 => k_is); (case k5 => k_is); (case a6 => k_is); (case i6 => k_is); (case l6 => k_is); (case c6 => k_is); (case k6 => k_is); (case a7 => k_is); (case i7 => k_is); (case l7 => k_is); (case c7 => k_is); (case k7 => k_is); (case pg => k_is); (case hd => k_is); (case po => k_is); (case sa => k_is); (case mk => k_is); (case kc => k_is); (case n0 => k_is); (case n1 => k_is); (case n2 => k_is); (case n3 => k_is)
    obtain ⟨u_MOST_LETTERS, g_MOST_LETTERS, r_MOST_LETTERS⟩ : ∃ u, mg "MOST_LETTERS" = some u ∧ L2.RelV (.int 6) u := by
      refine' Mw.int_mk KX G ?e
      (case e => k_is)
    obtain ⟨u_MOST_FIELDS, g_MOST_FIELDS, r_MOST_FIELDS⟩ : ∃ u, mg "MOST_FIELDS" = some u ∧ L2.RelV (.int 3) u := by
      refine' Mw.int_mk KX G ?e
      (case e => k_is)
    obtain ⟨u_MOST_NUMBERS, g_MOST_NUMBERS, r_MOST_NUMBERS⟩ : ∃ u, mg "MOST_NUMBERS" = some u ∧ L2.RelV (.int 8) u := by
      refine' Mw.int_mk KX G ?e
      (case e => k_is)
    obtain ⟨u_MOST_LEVELS, g_MOST_LEVELS, r_MOST_LEVELS⟩ : ∃ u, mg "MOST_LEVELS" = some u ∧ L2.RelV (.int 12) u := by
      refine' Mw.int_mk KX G ?e
      (case e => k_is)
    obtain ⟨u_MOST_TREES, g_MOST_TREES, r_MOST_TREES⟩ : ∃ u, mg "MOST_TREES" = some u ∧ L2.RelV (.int 4000) u := by
      refine' Mw.int_mk KX G ?e
      (case e => k_is)
    obtain ⟨u_MOST_MARKS, g_MOST_MARKS, r_MOST_MARKS⟩ : ∃ u, mg "MOST_MARKS" = some u ∧ L2.RelV (.int 6) u := by
      refine' Mw.int_mk KX G ?e
      (case e => k_is)
    obtain ⟨u_LETTERS, g_LETTERS, r_LETTERS⟩ : ∃ u, mg "LETTERS" = some u ∧ L2.RelV (.str "abcdefghijklmnopqrstuvwxyz") u := by
      refine' Mw.str_mk KX G ?e
      (case e => k_is)
    obtain ⟨p_KEPT_WORDS, g_KEPT_WORDS, r_KEPT_WORDS⟩ : ∃ p : Addr, mg "KEPT_WORDS" = some (.ref p) ∧ ∀ H : L2.Hp, L2.SqT _ H p [.str "drop", .str "mark", .str "not", .str "pass"] := by
      refine' Mw.tup_mk KX G ?e ?l ?z ?r
      (case e => k_is); (case l => k_is); (case z => decide); (case r => exact .cons ⟨_, rfl⟩ (.cons ⟨_, rfl⟩ (.cons ⟨_, rfl⟩ (.cons ⟨_, rfl⟩ (.nil)))))
    obtain ⟨p_BARE, g_BARE, r_BARE⟩ : ∃ p : Addr, mg "BARE" = some (.ref p) ∧ ∀ H : L2.Hp, L2.SqT _ H p [.str "drop", .str "mark", .str "pass"] := by
      refine' Mw.tup_mk KX G ?e ?l ?z ?r
      (case e => k_is); (case l => k_is); (case z => decide); (case r => exact .cons ⟨_, rfl⟩ (.cons ⟨_, rfl⟩ (.cons ⟨_, rfl⟩ (.nil))))
    obtain ⟨p_WITH_NUMBER, g_WITH_NUMBER, r_WITH_NUMBER⟩ : ∃ p : Addr, mg "WITH_NUMBER" = some (.ref p) ∧ ∀ H : L2.Hp, L2.SqT _ H p [.str "is", .str "set"] := by
      refine' Mw.tup_mk KX G ?e ?l ?z ?r
      (case e => k_is); (case l => k_is); (case z => decide); (case r => exact .cons ⟨_, rfl⟩ (.cons ⟨_, rfl⟩ (.nil)))
    obtain ⟨p_JOINING, g_JOINING, r_JOINING⟩ : ∃ p : Addr, mg "JOINING" = some (.ref p) ∧ ∀ H : L2.Hp, L2.SqT _ H p [.str "choice", .str "row"] := by
      refine' Mw.tup_mk KX G ?e ?l ?z ?r
      (case e => k_is); (case l => k_is); (case z => decide); (case r => exact .cons ⟨_, rfl⟩ (.cons ⟨_, rfl⟩ (.nil)))
    obtain ⟨p_ONLY_TREES, g_ONLY_TREES, r_ONLY_TREES⟩ : ∃ p : Addr, mg "ONLY_TREES" = some (.ref p) ∧ ∀ H : L2.Hp, L2.SqT _ H p [.str "loop", .str "mark", .str "set", .str "take"] := by
      refine' Mw.tup_mk KX G ?e ?l ?z ?r
      (case e => k_is); (case l => k_is); (case z => decide); (case r => exact .cons ⟨_, rfl⟩ (.cons ⟨_, rfl⟩ (.cons ⟨_, rfl⟩ (.cons ⟨_, rfl⟩ (.nil)))))
    exact ⟨{ z_isinstance := z_isinstance, z_int := z_int, z_bool := z_bool, z_str := z_str, z_tuple := z_tuple, z_list := z_list, z_len := z_len, z_all := z_all, z_any := z_any, z_set := z_set, z_sorted := z_sorted, z_range := z_range, z_min := z_min, z_abs := z_abs, z_dict := z_dict, a_is_number := t_is_number.a, fd_is_number := t_is_number.fd, F_is_number := t_is_number.F, m_is_number := t_is_number.m, a_is_count := t_is_count.a, fd_is_count := t_is_count.fd, F_is_count := t_is_count.F, m_is_count := t_is_count.m, a_is_list := t_is_list.a, fd_is_list := t_is_list.fd, F_is_list := t_is_list.F, m_is_list := t_is_list.m, a_is_field := t_is_field.a, fd_is_field := t_is_field.fd, F_is_field := t_is_field.F, m_is_field := t_is_field.m, a_are_different := t_are_different.a, fd_are_different := t_are_different.fd, F_are_different := t_are_different.F, m_are_different := t_are_different.m, a_need_fields := t_need_fields.a, fd_need_fields := t_need_fields.fd, F_need_fields := t_need_fields.F, m_need_fields := t_need_fields.m, a_is_packet_of := t_is_packet_of.a, fd_is_packet_of := t_is_packet_of.fd, F_is_packet_of := t_is_packet_of.F, m_is_packet_of := t_is_packet_of.m, a_need_packet := t_need_packet.a, fd_need_packet := t_need_packet.fd, F_need_packet := t_need_packet.F, m_need_packet := t_need_packet.m, a_are_trees := t_are_trees.a, fd_are_trees := t_are_trees.fd, F_are_trees := t_are_trees.F, m_are_trees := t_are_trees.m, a_is_tree_of := t_is_tree_of.a, fd_is_tree_of := t_is_tree_of.fd, F_is_tree_of := t_is_tree_of.F, m_is_tree_of := t_is_tree_of.m, a_is_tree := t_is_tree.a, fd_is_tree := t_is_tree.fd, F_is_tree := t_is_tree.F, m_is_tree := t_is_tree.m, a_is_test := t_is_test.a, fd_is_test := t_is_test.fd, F_is_test := t_is_test.F, m_is_test := t_is_test.m, a_inner_trees := t_inner_trees.a, fd_inner_trees := t_inner_trees.fd, F_inner_trees := t_inner_trees.F, m_inner_trees := t_inner_trees.m, a_all_trees := t_all_trees.a, fd_all_trees := t_all_trees.fd, F_all_trees := t_all_trees.F, m_all_trees := t_all_trees.m, a_marks_in := t_marks_in.a, fd_marks_in := t_marks_in.fd, F_marks_in := t_marks_in.F, m_marks_in := t_marks_in.m, a_numbers_in := t_numbers_in.a, fd_numbers_in := t_numbers_in.fd, F_numbers_in := t_numbers_in.F, m_numbers_in := t_numbers_in.m, a_fields_in := t_fields_in.a, fd_fields_in := t_fields_in.fd, F_fields_in := t_fields_in.F, m_fields_in := t_fields_in.m, m_holds_programs := t_holds.m2, a_holds := t_holds.a, fd_holds := t_holds.fd, F_holds := t_holds.F, m_holds := t_holds.m, a_written := t_written.a, fd_written := t_written.fd, F_written := t_written.F, m_written := t_written.m, a_past_leaf := t_past_leaf.a, fd_past_leaf := t_past_leaf.fd, F_past_leaf := t_past_leaf.F, m_past_leaf := t_past_leaf.m, a_parts_for := t_parts_for.a, fd_parts_for := t_parts_for.fd, F_parts_for := t_parts_for.F, m_parts_for := t_parts_for.m, a_joined := t_joined.a, fd_joined := t_joined.fd, F_joined := t_joined.F, m_joined := t_joined.m, a_need_like := t_need_like.a, fd_need_like := t_need_like.fd, F_need_like := t_need_like.F, m_need_like := t_need_like.m, a_need_program := t_need_program.a, fd_need_program := t_need_program.fd, F_need_program := t_need_program.F, m_need_program := t_need_program.m, a_flow := t_flow.a, fd_flow := t_flow.fd, F_flow := t_flow.F, m_flow := t_flow.m, a_flow_on := t_flow_on.a, fd_flow_on := t_flow_on.fd, F_flow_on := t_flow_on.F, m_flow_on := t_flow_on.m, a_onward := t_onward.a, fd_onward := t_onward.fd, F_onward := t_onward.F, m_onward := t_onward.m, a_ways_to := t_ways_to.a, fd_ways_to := t_ways_to.fd, F_ways_to := t_ways_to.F, m_ways_to := t_ways_to.m, a_need_most := t_need_most.a, fd_need_most := t_need_most.fd, F_need_most := t_need_most.F, m_need_most := t_need_most.m, a_ways := t_ways.a, fd_ways := t_ways.fd, F_ways := t_ways.F, m_ways := t_ways.m, a__law_begun := t__law_begun.a, fd__law_begun := t__law_begun.fd, F__law_begun := t__law_begun.F, m__law_begun := t__law_begun.m, a__law_mixed := t__law_mixed.a, fd__law_mixed := t__law_mixed.fd, F__law_mixed := t__law_mixed.F, m__law_mixed := t__law_mixed.m, a__law_take := t__law_take.a, fd__law_take := t__law_take.fd, F__law_take := t__law_take.F, m__law_take := t__law_take.m, a__law_pick := t__law_pick.a, fd__law_pick := t__law_pick.fd, F__law_pick := t__law_pick.F, m__law_pick := t__law_pick.m, a__law_shuffled := t__law_shuffled.a, fd__law_shuffled := t__law_shuffled.fd, F__law_shuffled := t__law_shuffled.F, m__law_shuffled := t__law_shuffled.m, a__law_frame := t__law_frame.a, fd__law_frame := t__law_frame.fd, F__law_frame := t__law_frame.F, m__law_frame := t__law_frame.m, a__law_test := t__law_test.a, fd__law_test := t__law_test.fd, F__law_test := t__law_test.F, m__law_test := t__law_test.m, a__law_leaf := t__law_leaf.a, fd__law_leaf := t__law_leaf.fd, F__law_leaf := t__law_leaf.F, m__law_leaf := t__law_leaf.m, a__law_tree := t__law_tree.a, fd__law_tree := t__law_tree.fd, F__law_tree := t__law_tree.F, m__law_tree := t__law_tree.m, a__law_marked_tree := t__law_marked_tree.a, fd__law_marked_tree := t__law_marked_tree.fd, F__law_marked_tree := t__law_marked_tree.F, m__law_marked_tree := t__law_marked_tree.m, a__law_program := t__law_program.a, fd__law_program := t__law_program.fd, F__law_program := t__law_program.F, m__law_program := t__law_program.m, a__law_packet := t__law_packet.a, fd__law_packet := t__law_packet.fd, F__law_packet := t__law_packet.F, m__law_packet := t__law_packet.m, a__law_ordered := t__law_ordered.a, fd__law_ordered := t__law_ordered.fd, F__law_ordered := t__law_ordered.F, m__law_ordered := t__law_ordered.m, a__law_behind := t__law_behind.a, fd__law_behind := t__law_behind.fd, F__law_behind := t__law_behind.F, m__law_behind := t__law_behind.m, a_law := t_law.a, fd_law := t_law.fd, F_law := t_law.F, m_law := t_law.m, a_Program_init := w_Program.a_Program_init, fd_Program_init := w_Program.fd_Program_init, F_Program_init := w_Program.F_Program_init, a_Program_add := w_Program.a_Program_add, fd_Program_add := w_Program.fd_Program_add, F_Program_add := w_Program.F_Program_add, a_Program_rshift := w_Program.a_Program_rshift, fd_Program_rshift := w_Program.fd_Program_rshift, F_Program_rshift := w_Program.F_Program_rshift, a_Program_loop := w_Program.a_Program_loop, fd_Program_loop := w_Program.fd_Program_loop, F_Program_loop := w_Program.F_Program_loop, a_Program_holds := w_Program.a_Program_holds, fd_Program_holds := w_Program.fd_Program_holds, F_Program_holds := w_Program.F_Program_holds, c_Program := w_Program.c, m_Program := w_Program.m, cl_Program := w_Program.cl, mk_Program := w_Program.mk_, me_Program_add := w_Program.me_Program_add, me_Program_rshift := w_Program.me_Program_rshift, me_Program_loop := w_Program.me_Program_loop, me_Program_holds := w_Program.me_Program_holds, y_first := w_Program.y_first, y_cls := w_Program.y_cls, y_get := w_Program.y_get, y_takes := w_Program.y_takes, y_mro := w_Program.y_mro, y_kit := w_Program.y_kit, no_p_fields := w_Program.no_p_fields, no_p_tree := w_Program.no_p_tree, no_p_marks := w_Program.no_p_marks, no_p_numbers := w_Program.no_p_numbers, a_Walk_init := w_Walk.a_Walk_init, fd_Walk_init := w_Walk.fd_Walk_init, F_Walk_init := w_Walk.F_Walk_init, a_Walk_beginnings := w_Walk.a_Walk_beginnings, fd_Walk_beginnings := w_Walk.fd_Walk_beginnings, F_Walk_beginnings := w_Walk.F_Walk_beginnings, a_Walk_around := w_Walk.a_Walk_around, fd_Walk_around := w_Walk.fd_Walk_around, F_Walk_around := w_Walk.F_Walk_around, a_Walk_look_on := w_Walk.a_Walk_look_on, fd_Walk_look_on := w_Walk.fd_Walk_look_on, F_Walk_look_on := w_Walk.F_Walk_look_on, a_Walk_steps := w_Walk.a_Walk_steps, fd_Walk_steps := w_Walk.fd_Walk_steps, F_Walk_steps := w_Walk.F_Walk_steps, a_Walk_ends := w_Walk.a_Walk_ends, fd_Walk_ends := w_Walk.fd_Walk_ends, F_Walk_ends := w_Walk.F_Walk_ends, a_Walk_moves := w_Walk.a_Walk_moves, fd_Walk_moves := w_Walk.fd_Walk_moves, F_Walk_moves := w_Walk.F_Walk_moves, a_Walk_all_ends := w_Walk.a_Walk_all_ends, fd_Walk_all_ends := w_Walk.fd_Walk_all_ends, F_Walk_all_ends := w_Walk.F_Walk_all_ends, c_Walk := w_Walk.c, m_Walk := w_Walk.m, cl_Walk := w_Walk.cl, mk_Walk := w_Walk.mk_, me_Walk_beginnings := w_Walk.me_Walk_beginnings, me_Walk_around := w_Walk.me_Walk_around, me_Walk_look_on := w_Walk.me_Walk_look_on, me_Walk_steps := w_Walk.me_Walk_steps, me_Walk_ends := w_Walk.me_Walk_ends, me_Walk_moves := w_Walk.me_Walk_moves, me_Walk_all_ends := w_Walk.me_Walk_all_ends, no_k_fields := w_Walk.no_k_fields, no_k_tree := w_Walk.no_k_tree, no_k_found := w_Walk.no_k_found, no_k_live := w_Walk.no_k_live, u_MOST_LETTERS := u_MOST_LETTERS, g_MOST_LETTERS := g_MOST_LETTERS, r_MOST_LETTERS := r_MOST_LETTERS, u_MOST_FIELDS := u_MOST_FIELDS, g_MOST_FIELDS := g_MOST_FIELDS, r_MOST_FIELDS := r_MOST_FIELDS, u_MOST_NUMBERS := u_MOST_NUMBERS, g_MOST_NUMBERS := g_MOST_NUMBERS, r_MOST_NUMBERS := r_MOST_NUMBERS, u_MOST_LEVELS := u_MOST_LEVELS, g_MOST_LEVELS := g_MOST_LEVELS, r_MOST_LEVELS := r_MOST_LEVELS, u_MOST_TREES := u_MOST_TREES, g_MOST_TREES := g_MOST_TREES, r_MOST_TREES := r_MOST_TREES, u_MOST_MARKS := u_MOST_MARKS, g_MOST_MARKS := g_MOST_MARKS, r_MOST_MARKS := r_MOST_MARKS, u_LETTERS := u_LETTERS, g_LETTERS := g_LETTERS, r_LETTERS := r_LETTERS, p_KEPT_WORDS := p_KEPT_WORDS, g_KEPT_WORDS := g_KEPT_WORDS, r_KEPT_WORDS := r_KEPT_WORDS, p_BARE := p_BARE, g_BARE := g_BARE, r_BARE := r_BARE, p_WITH_NUMBER := p_WITH_NUMBER, g_WITH_NUMBER := g_WITH_NUMBER, r_WITH_NUMBER := r_WITH_NUMBER, p_JOINING := p_JOINING, g_JOINING := g_JOINING, r_JOINING := r_JOINING, p_ONLY_TREES := p_ONLY_TREES, g_ONLY_TREES := g_ONLY_TREES, r_ONLY_TREES := r_ONLY_TREES }⟩
