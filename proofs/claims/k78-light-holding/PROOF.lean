import PyProof.Rows.All
import Wide.All
import OpenK.AllK
import Wide.FinOn
import KE.KStateDown
import Lean
import HandS.ForMost
import HandS.Exc
import HandS.Defaults
import HandS.Head0
import HandS.Head1
import HandS.Head2
import HandS.HeadEnd
import HandS.EndBits
import HandS.HeadHook1
import HandS.HeadHook2
import HandS.HeadHook3
import HandS.HeadHook4
import PySem.Challenge.RW_tiedcut_k78_whole_light_and_holding
import HandS.Evl
import HandS.Steps
import HandS.Walk
import HandS.More
import HandS.Zip
import HandS.Rev
import HandS.IsInst
import HandS.SortInts
import HandS.Codes
import HandS.Replace
import HandS.Wide
import HandS.Style
import PyProof.EqAt
import PyProof.EqKinds
import PyProof.TupleCall
import PyProof.StrLoop
import HandS.Base
import HandS.Call
import HandS.List
import HandS.Dict
import HandS.Iter
import HandS.TupAny
import KE.GoesEnum
import KE.GoesZip
import HandS.Set
import HandS.SetFor
import HandS.Conv
set_option Elab.async false
set_option linter.all false
set_option maxRecDepth 100000
set_option maxHeartbeats 4000000
namespace TC
open PySem L2
def top (i : Nat) : Stmt := PySem.Challenge.pw_tiedcut_k78_whole_light_and_holding.main.body.getD i (.Pass ⟨0, 0, 0, 0⟩)
inductive Dn where
  | is_number_shapes | is_kind | is_number_rows | fits_form | is_row | is_deed | points_of | look_row | kind_bit | st_init | st_put_point | st_is_top | st_flip | st_more_by | st_hand_down | st_gather | st_put_below | st_turn | st_unfold | st_lift | st_hang | st_let_go | st_take_in | st_lead | wy_init | wy_points | wy_turn_about | wy_are_joined | wy_open_way | wy_tie | wy_open_tie | wy_cut | wy_add | wy_inorder | wy_is_below | wy_is_wanted | wy_first_by | wy_of_way | wy_do_deed | wy_look_done | wy_do | look_points | bare_forest | li_init | li_keep_one | li_let_go | li_offer | li_kept | li_way_numbers | li_paper | li_slacks | ho_init | ho_offer | ho_holds | ho_holding | ho_come_to | ho_reason | ho_paper | are_numbers | are_rising | leads | have_ring | is_reason | shows_lightest | is_bank | is_reason_for | shows_holding | law_mixed | law_pot | law_take | law_offers | law_light | law_shuffled | law_firsts | law_held | law_right | law
  deriving DecidableEq
@[reducible] def Dn.at_ : Dn → Str × Option Str
  | .is_number_shapes => ("is_number_shapes", none)
  | .is_kind => ("is_kind", none)
  | .is_number_rows => ("is_number_rows", none)
  | .fits_form => ("fits_form", none)
  | .is_row => ("is_row", none)
  | .is_deed => ("is_deed", none)
  | .points_of => ("points_of", none)
  | .look_row => ("look_row", none)
  | .kind_bit => ("kind_bit", none)
  | .st_init => ("Strands", some "__init__")
  | .st_put_point => ("Strands", some "put_point")
  | .st_is_top => ("Strands", some "is_top")
  | .st_flip => ("Strands", some "flip")
  | .st_more_by => ("Strands", some "more_by")
  | .st_hand_down => ("Strands", some "hand_down")
  | .st_gather => ("Strands", some "gather")
  | .st_put_below => ("Strands", some "put_below")
  | .st_turn => ("Strands", some "turn")
  | .st_unfold => ("Strands", some "unfold")
  | .st_lift => ("Strands", some "lift")
  | .st_hang => ("Strands", some "hang")
  | .st_let_go => ("Strands", some "let_go")
  | .st_take_in => ("Strands", some "take_in")
  | .st_lead => ("Strands", some "lead")
  | .wy_init => ("Ways", some "__init__")
  | .wy_points => ("Ways", some "points")
  | .wy_turn_about => ("Ways", some "turn_about")
  | .wy_are_joined => ("Ways", some "are_joined")
  | .wy_open_way => ("Ways", some "open_way")
  | .wy_tie => ("Ways", some "tie")
  | .wy_open_tie => ("Ways", some "open_tie")
  | .wy_cut => ("Ways", some "cut")
  | .wy_add => ("Ways", some "add")
  | .wy_inorder => ("Ways", some "inorder")
  | .wy_is_below => ("Ways", some "is_below")
  | .wy_is_wanted => ("Ways", some "is_wanted")
  | .wy_first_by => ("Ways", some "first_by")
  | .wy_of_way => ("Ways", some "of_way")
  | .wy_do_deed => ("Ways", some "do_deed")
  | .wy_look_done => ("Ways", some "look_done")
  | .wy_do => ("Ways", some "do")
  | .look_points => ("look_points", none)
  | .bare_forest => ("bare_forest", none)
  | .li_init => ("Lightest", some "__init__")
  | .li_keep_one => ("Lightest", some "keep_one")
  | .li_let_go => ("Lightest", some "let_go")
  | .li_offer => ("Lightest", some "offer")
  | .li_kept => ("Lightest", some "kept")
  | .li_way_numbers => ("Lightest", some "way_numbers")
  | .li_paper => ("Lightest", some "paper")
  | .li_slacks => ("Lightest", some "slacks")
  | .ho_init => ("Holding", some "__init__")
  | .ho_offer => ("Holding", some "offer")
  | .ho_holds => ("Holding", some "holds")
  | .ho_holding => ("Holding", some "holding")
  | .ho_come_to => ("Holding", some "come_to")
  | .ho_reason => ("Holding", some "reason")
  | .ho_paper => ("Holding", some "paper")
  | .are_numbers => ("are_numbers", none)
  | .are_rising => ("are_rising", none)
  | .leads => ("leads", none)
  | .have_ring => ("have_ring", none)
  | .is_reason => ("is_reason", none)
  | .shows_lightest => ("shows_lightest", none)
  | .is_bank => ("is_bank", none)
  | .is_reason_for => ("is_reason_for", none)
  | .shows_holding => ("shows_holding", none)
  | .law_mixed => ("_law_mixed", none)
  | .law_pot => ("_law_pot", none)
  | .law_take => ("_law_take", none)
  | .law_offers => ("_law_offers", none)
  | .law_light => ("_law_light", none)
  | .law_shuffled => ("_law_shuffled", none)
  | .law_firsts => ("_law_firsts", none)
  | .law_held => ("_law_held", none)
  | .law_right => ("_law_right", none)
  | .law => ("law", none)
@[reducible] def Dn.nm : Dn → Str
  | .is_number_shapes => "is_number"
  | .is_kind => "is_kind"
  | .is_number_rows => "is_number"
  | .fits_form => "fits_form"
  | .is_row => "is_row"
  | .is_deed => "is_deed"
  | .points_of => "points_of"
  | .look_row => "look_row"
  | .kind_bit => "kind_bit"
  | .st_init => "__init__"
  | .st_put_point => "put_point"
  | .st_is_top => "is_top"
  | .st_flip => "flip"
  | .st_more_by => "more_by"
  | .st_hand_down => "hand_down"
  | .st_gather => "gather"
  | .st_put_below => "put_below"
  | .st_turn => "turn"
  | .st_unfold => "unfold"
  | .st_lift => "lift"
  | .st_hang => "hang"
  | .st_let_go => "let_go"
  | .st_take_in => "take_in"
  | .st_lead => "lead"
  | .wy_init => "__init__"
  | .wy_points => "points"
  | .wy_turn_about => "turn_about"
  | .wy_are_joined => "are_joined"
  | .wy_open_way => "open_way"
  | .wy_tie => "tie"
  | .wy_open_tie => "open_tie"
  | .wy_cut => "cut"
  | .wy_add => "add"
  | .wy_inorder => "inorder"
  | .wy_is_below => "is_below"
  | .wy_is_wanted => "is_wanted"
  | .wy_first_by => "first_by"
  | .wy_of_way => "of_way"
  | .wy_do_deed => "do_deed"
  | .wy_look_done => "look_done"
  | .wy_do => "do"
  | .look_points => "look_points"
  | .bare_forest => "bare_forest"
  | .li_init => "__init__"
  | .li_keep_one => "keep_one"
  | .li_let_go => "let_go"
  | .li_offer => "offer"
  | .li_kept => "kept"
  | .li_way_numbers => "way_numbers"
  | .li_paper => "paper"
  | .li_slacks => "slacks"
  | .ho_init => "__init__"
  | .ho_offer => "offer"
  | .ho_holds => "holds"
  | .ho_holding => "holding"
  | .ho_come_to => "come_to"
  | .ho_reason => "reason"
  | .ho_paper => "paper"
  | .are_numbers => "are_numbers"
  | .are_rising => "are_rising"
  | .leads => "leads"
  | .have_ring => "have_ring"
  | .is_reason => "is_reason"
  | .shows_lightest => "shows_lightest"
  | .is_bank => "is_bank"
  | .is_reason_for => "is_reason_for"
  | .shows_holding => "shows_holding"
  | .law_mixed => "_law_mixed"
  | .law_pot => "_law_pot"
  | .law_take => "_law_take"
  | .law_offers => "_law_offers"
  | .law_light => "_law_light"
  | .law_shuffled => "_law_shuffled"
  | .law_firsts => "_law_firsts"
  | .law_held => "_law_held"
  | .law_right => "_law_right"
  | .law => "law"
@[reducible] def Dn.ql : Dn → Str
  | .is_number_shapes => "is_number"
  | .is_kind => "is_kind"
  | .is_number_rows => "is_number"
  | .fits_form => "fits_form"
  | .is_row => "is_row"
  | .is_deed => "is_deed"
  | .points_of => "points_of"
  | .look_row => "look_row"
  | .kind_bit => "kind_bit"
  | .st_init => "Strands.__init__"
  | .st_put_point => "Strands.put_point"
  | .st_is_top => "Strands.is_top"
  | .st_flip => "Strands.flip"
  | .st_more_by => "Strands.more_by"
  | .st_hand_down => "Strands.hand_down"
  | .st_gather => "Strands.gather"
  | .st_put_below => "Strands.put_below"
  | .st_turn => "Strands.turn"
  | .st_unfold => "Strands.unfold"
  | .st_lift => "Strands.lift"
  | .st_hang => "Strands.hang"
  | .st_let_go => "Strands.let_go"
  | .st_take_in => "Strands.take_in"
  | .st_lead => "Strands.lead"
  | .wy_init => "Ways.__init__"
  | .wy_points => "Ways.points"
  | .wy_turn_about => "Ways.turn_about"
  | .wy_are_joined => "Ways.are_joined"
  | .wy_open_way => "Ways.open_way"
  | .wy_tie => "Ways.tie"
  | .wy_open_tie => "Ways.open_tie"
  | .wy_cut => "Ways.cut"
  | .wy_add => "Ways.add"
  | .wy_inorder => "Ways.inorder"
  | .wy_is_below => "Ways.is_below"
  | .wy_is_wanted => "Ways.is_wanted"
  | .wy_first_by => "Ways.first_by"
  | .wy_of_way => "Ways.of_way"
  | .wy_do_deed => "Ways.do_deed"
  | .wy_look_done => "Ways.look_done"
  | .wy_do => "Ways.do"
  | .look_points => "look_points"
  | .bare_forest => "bare_forest"
  | .li_init => "Lightest.__init__"
  | .li_keep_one => "Lightest.keep_one"
  | .li_let_go => "Lightest.let_go"
  | .li_offer => "Lightest.offer"
  | .li_kept => "Lightest.kept"
  | .li_way_numbers => "Lightest.way_numbers"
  | .li_paper => "Lightest.paper"
  | .li_slacks => "Lightest.slacks"
  | .ho_init => "Holding.__init__"
  | .ho_offer => "Holding.offer"
  | .ho_holds => "Holding.holds"
  | .ho_holding => "Holding.holding"
  | .ho_come_to => "Holding.come_to"
  | .ho_reason => "Holding.reason"
  | .ho_paper => "Holding.paper"
  | .are_numbers => "are_numbers"
  | .are_rising => "are_rising"
  | .leads => "leads"
  | .have_ring => "have_ring"
  | .is_reason => "is_reason"
  | .shows_lightest => "shows_lightest"
  | .is_bank => "is_bank"
  | .is_reason_for => "is_reason_for"
  | .shows_holding => "shows_holding"
  | .law_mixed => "_law_mixed"
  | .law_pot => "_law_pot"
  | .law_take => "_law_take"
  | .law_offers => "_law_offers"
  | .law_light => "_law_light"
  | .law_shuffled => "_law_shuffled"
  | .law_firsts => "_law_firsts"
  | .law_held => "_law_held"
  | .law_right => "_law_right"
  | .law => "law"
@[reducible] def Dn.sm : Dn → Stmt
  | .is_number_shapes => top 10
  | .is_kind => top 14
  | .is_number_rows => top 18
  | .fits_form => top 20
  | .is_row => top 21
  | .is_deed => top 22
  | .points_of => top 23
  | .look_row => top 24
  | .kind_bit => top 27
  | .st_init => inClass (top 28) 0
  | .st_put_point => inClass (top 28) 1
  | .st_is_top => inClass (top 28) 3
  | .st_flip => inClass (top 28) 4
  | .st_more_by => inClass (top 28) 5
  | .st_hand_down => inClass (top 28) 6
  | .st_gather => inClass (top 28) 7
  | .st_put_below => inClass (top 28) 8
  | .st_turn => inClass (top 28) 9
  | .st_unfold => inClass (top 28) 10
  | .st_lift => inClass (top 28) 11
  | .st_hang => inClass (top 28) 12
  | .st_let_go => inClass (top 28) 13
  | .st_take_in => inClass (top 28) 14
  | .st_lead => inClass (top 28) 15
  | .wy_init => inClass (top 31) 0
  | .wy_points => inClass (top 31) 1
  | .wy_turn_about => inClass (top 31) 6
  | .wy_are_joined => inClass (top 31) 7
  | .wy_open_way => inClass (top 31) 8
  | .wy_tie => inClass (top 31) 9
  | .wy_open_tie => inClass (top 31) 10
  | .wy_cut => inClass (top 31) 11
  | .wy_add => inClass (top 31) 14
  | .wy_inorder => inClass (top 31) 15
  | .wy_is_below => inClass (top 31) 16
  | .wy_is_wanted => inClass (top 31) 17
  | .wy_first_by => inClass (top 31) 18
  | .wy_of_way => inClass (top 31) 22
  | .wy_do_deed => inClass (top 31) 23
  | .wy_look_done => inClass (top 31) 24
  | .wy_do => inClass (top 31) 25
  | .look_points => top 33
  | .bare_forest => top 34
  | .li_init => inClass (top 35) 0
  | .li_keep_one => inClass (top 35) 1
  | .li_let_go => inClass (top 35) 2
  | .li_offer => inClass (top 35) 3
  | .li_kept => inClass (top 35) 4
  | .li_way_numbers => inClass (top 35) 6
  | .li_paper => inClass (top 35) 7
  | .li_slacks => inClass (top 35) 8
  | .ho_init => inClass (top 37) 0
  | .ho_offer => inClass (top 37) 1
  | .ho_holds => inClass (top 37) 2
  | .ho_holding => inClass (top 37) 3
  | .ho_come_to => inClass (top 37) 4
  | .ho_reason => inClass (top 37) 5
  | .ho_paper => inClass (top 37) 6
  | .are_numbers => top 39
  | .are_rising => top 40
  | .leads => top 41
  | .have_ring => top 42
  | .is_reason => top 43
  | .shows_lightest => top 44
  | .is_bank => top 46
  | .is_reason_for => top 47
  | .shows_holding => top 48
  | .law_mixed => top 50
  | .law_pot => top 51
  | .law_take => top 52
  | .law_offers => top 53
  | .law_light => top 54
  | .law_shuffled => top 55
  | .law_firsts => top 56
  | .law_held => top 57
  | .law_right => top 58
  | .law => top 59
@[reducible] def Dn.ps : Dn → List Str
  | .is_number_shapes => ["thing"]
  | .is_kind => ["thing"]
  | .is_number_rows => ["thing"]
  | .fits_form => ["sign", "thing"]
  | .is_row => ["thing"]
  | .is_deed => ["row"]
  | .points_of => ["row"]
  | .look_row => ["row", "many"]
  | .kind_bit => ["kind"]
  | .st_init => ["self"]
  | .st_put_point => ["self", "worth", "kind"]
  | .st_is_top => ["self", "x"]
  | .st_flip => ["self", "x"]
  | .st_more_by => ["self", "x", "more"]
  | .st_hand_down => ["self", "x"]
  | .st_gather => ["self", "x"]
  | .st_put_below => ["self", "u", "old", "new"]
  | .st_turn => ["self", "x"]
  | .st_unfold => ["self", "x"]
  | .st_lift => ["self", "x"]
  | .st_hang => ["self", "u", "x", "sign"]
  | .st_let_go => ["self", "x"]
  | .st_take_in => ["self", "u", "x"]
  | .st_lead => ["self", "p"]
  | .wy_init => ["self", "forest"]
  | .wy_points => ["self"]
  | .wy_turn_about => ["self", "p"]
  | .wy_are_joined => ["self", "a", "b"]
  | .wy_open_way => ["self", "a", "b"]
  | .wy_tie => ["self", "a", "b"]
  | .wy_open_tie => ["self", "a", "b"]
  | .wy_cut => ["self", "a", "b"]
  | .wy_add => ["self", "a", "b", "more"]
  | .wy_inorder => ["self", "top"]
  | .wy_is_below => ["self", "x", "word", "number"]
  | .wy_is_wanted => ["self", "x", "word", "number"]
  | .wy_first_by => ["self", "top", "word", "number"]
  | .wy_of_way => ["self", "row"]
  | .wy_do_deed => ["self", "row"]
  | .wy_look_done => ["self", "row"]
  | .wy_do => ["self", "row"]
  | .look_points => ["many", "a", "b"]
  | .bare_forest => ["many"]
  | .li_init => ["self", "many"]
  | .li_keep_one => ["self", "number"]
  | .li_let_go => ["self", "number"]
  | .li_offer => ["self", "a", "b", "price"]
  | .li_kept => ["self"]
  | .li_way_numbers => ["self", "number"]
  | .li_paper => ["self"]
  | .li_slacks => ["self"]
  | .ho_init => ["self", "many"]
  | .ho_offer => ["self", "a", "b"]
  | .ho_holds => ["self", "number"]
  | .ho_holding => ["self"]
  | .ho_come_to => ["self", "number"]
  | .ho_reason => ["self", "number"]
  | .ho_paper => ["self"]
  | .are_numbers => ["thing", "many"]
  | .are_rising => ["some"]
  | .leads => ["offers", "a", "b", "numbers"]
  | .have_ring => ["many", "offers", "numbers"]
  | .is_reason => ["offers", "kept", "number", "row"]
  | .shows_lightest => ["many", "offers", "thing"]
  | .is_bank => ["many", "offers", "number", "points"]
  | .is_reason_for => ["many", "offers", "number", "row"]
  | .shows_holding => ["many", "offers", "thing"]
  | .law_mixed => ["_law_cell", "_law_k"]
  | .law_pot => ["_law_script"]
  | .law_take => ["_law_pot_here", "_law_many"]
  | .law_offers => ["_law_pot_here"]
  | .law_light => ["_law_many", "_law_offers_here"]
  | .law_shuffled => ["_law_pot_here", "_law_offers_here"]
  | .law_firsts => ["_law_many", "_law_offers_here"]
  | .law_held => ["_law_many", "_law_offers_here"]
  | .law_right => ["_law_pot_here", "_law_many", "_law_offers_here"]
  | .law => ["_law_script"]
def Dn.all : List Dn := [.is_number_shapes, .is_kind, .is_number_rows, .fits_form, .is_row, .is_deed, .points_of, .look_row, .kind_bit, .st_init, .st_put_point, .st_is_top, .st_flip, .st_more_by, .st_hand_down, .st_gather, .st_put_below, .st_turn, .st_unfold, .st_lift, .st_hang, .st_let_go, .st_take_in, .st_lead, .wy_init, .wy_points, .wy_turn_about, .wy_are_joined, .wy_open_way, .wy_tie, .wy_open_tie, .wy_cut, .wy_add, .wy_inorder, .wy_is_below, .wy_is_wanted, .wy_first_by, .wy_of_way, .wy_do_deed, .wy_look_done, .wy_do, .look_points, .bare_forest, .li_init, .li_keep_one, .li_let_go, .li_offer, .li_kept, .li_way_numbers, .li_paper, .li_slacks, .ho_init, .ho_offer, .ho_holds, .ho_holding, .ho_come_to, .ho_reason, .ho_paper, .are_numbers, .are_rising, .leads, .have_ring, .is_reason, .shows_lightest, .is_bank, .is_reason_for, .shows_holding, .law_mixed, .law_pot, .law_take, .law_offers, .law_light, .law_shuffled, .law_firsts, .law_held, .law_right, .law]
theorem Dn.mem (d : Dn) : d ∈ Dn.all := by cases d <;> decide
def dd (d : Dn) : He.DefD := ⟨d.at_, d.nm, d.ql, defArgs d.sm, defBody d.sm, defScope d.sm, [], []⟩
inductive Cn where
  | st | wy | li | ho
@[reducible] def Cn.nm : Cn → Str
  | .st => "Strands"
  | .wy => "Ways"
  | .li => "Lightest"
  | .ho => "Holding"
def Cn.fields : Cn → List Str
  | .st => ["left", "right", "above", "flipped", "later", "worth", "bits", "many", "total", "most", "all_bits", "hung", "all_many", "all_total", "steps"]
  | .wy => ["strands"]
  | .li => ["many_points", "offered", "ways", "spots", "numbers"]
  | .ho => ["many_points", "offered", "ways", "spots"]
def Cn.meths : Cn → List Str
  | .st => ["__init__", "put_point", "is_top", "flip", "more_by", "hand_down", "gather", "put_below", "turn", "unfold", "lift", "hang", "let_go", "take_in", "lead"]
  | .wy => ["__init__", "points", "turn_about", "are_joined", "open_way", "tie", "open_tie", "cut", "add", "inorder", "is_below", "is_wanted", "first_by", "of_way", "do_deed", "look_done", "do"]
  | .li => ["__init__", "keep_one", "let_go", "offer", "kept", "way_numbers", "paper", "slacks"]
  | .ho => ["__init__", "offer", "holds", "holding", "come_to", "reason", "paper"]
def Cn.all : List Cn := [.st, .wy, .li, .ho]
def freeNames : List Str := ["isinstance", "int", "bool", "str", "tuple", "len", "all", "zip", "sum", "max", "range", "enumerate", "sorted", "reversed", "list", "set", "abs"]
def fnNames : List Str := ["is_number_shapes", "is_kind", "is_number_rows", "fits_form", "is_row", "is_deed", "points_of", "look_row", "kind_bit", "look_points", "bare_forest", "are_numbers", "are_rising", "leads", "have_ring", "is_reason", "shows_lightest", "is_bank", "is_reason_for", "shows_holding", "_law_mixed", "_law_pot", "_law_take", "_law_offers", "_law_light", "_law_shuffled", "_law_firsts", "_law_held", "_law_right", "law"]
def faC (c : Cn) : List He.Fa := .glo c.nm :: .cls c.nm :: .mkr c.nm :: (c.fields.map (He.Fa.noat c.nm ·) ++ c.meths.map (He.Fa.meth c.nm ·))
def fa : List He.Fa := Cn.all.flatMap faC ++ freeNames.map He.Fa.free ++ fnNames.map He.Fa.glo ++ [.str "KINDS_forests" "abcdefgh", .str "KINDS_strands" "abcdefgh", .glo "FORMS", .glo "DEEDS", .glo "DONE"]
def fn : List He.DefD := Dn.all.map dd
def formsL : List (Str × Str) := [("new", "wk"), ("put", "pw"), ("paint", "pk"), ("tie", "pp"), ("cut", "pp"), ("add", "ppw"), ("spread", "pqw"), ("joined", "pp"), ("way", "pp"), ("total", "pp"), ("many", "pp"), ("most", "pp"), ("first", "ppk"), ("reach", "ppw"), ("kth", "ppn"), ("meet", "ppp"), ("sum", "pq"), ("size", "pq"), ("top", "pq"), ("least", "pqk")]
def deedsL : List Str := ["new", "put", "paint", "tie", "cut", "add", "spread"]
def doneL : List Str := ["new", "put", "paint", "tie", "cut", "add", "joined", "way", "total", "many", "most", "first", "reach", "kth", "meet", "sum", "size"]
def ex (K : PySem.W.Frag) : Bool := He.tupB K "DEEDS" (deedsL.map He.Dv.str) && (He.tupB K "DONE" (doneL.map He.Dv.str) && He.valsB K (He.ga K "FORMS") (formsL.map fun q => (q.1, He.Dv.str q.2)))
def ts : List He.Tab := [(fun K => He.ga K "FORMS", formsL.map (·.1))]
abbrev R : PySem.W.OpenRow := PySem.W.OpenLaw.row PySem.Challenge.rw_tiedcut_k78_whole_light_and_holding
abbrev hk : PySem.W.Hook := He.hookX 4 fa fn ts [] ex
def ob (s : PySem.W.SharedT) : He.AlX := He.obsX 4 fa fn ts [] ex (HandSHeadRun.getT s)
theorem ob_eq (s : PySem.W.SharedT) : ob s = hk.obs s.abs := He.obsX_eq (HandSHeadRun.getT_eq s)
def loose0 : List PySem.Str := ["_wall", "TreeError", "NoRow", "NoPoint", "Ring", "NoTie", "Apart", "NoPlace", "is_number", "is_number_shapes", "KINDS_forests", "is_kind", "FORMS", "DEEDS", "is_number_rows", "fits_form", "is_row", "is_deed", "points_of", "look_row", "KINDS_strands", "kind_bit", "Strands", "DONE", "Ways", "look_points", "bare_forest", "Lightest", "Holding", "are_numbers"]
def loose1 : List PySem.Str := ["are_rising", "leads", "have_ring", "is_reason", "shows_lightest", "is_bank", "is_reason_for", "shows_holding", "_law_mixed", "_law_pot", "_law_take", "_law_offers", "_law_light", "_law_shuffled", "_law_firsts", "_law_held", "_law_right"]
def loose : List PySem.Str := loose0 ++ loose1
end TC
namespace TC
open PySem L2
theorem run_f (w : World) : HandSHeadRun.RunEq R (PySem.W.view R.prog [59]) hk ob 7000 loose (w.withFollow "special-get-raises" false) := by
  intro os
  kernel_rfl
theorem run_t (w : World) : HandSHeadRun.RunEq R (PySem.W.view R.prog [59]) hk ob 7000 loose (w.withFollow "special-get-raises" true) := by
  intro os
  kernel_rfl
theorem run (w : World) : HandSHeadRun.RunEq R (PySem.W.view R.prog [59]) hk ob 7000 loose w :=
  PySem.W.byRow2 "special-get-raises" (P := fun w => HandSHeadRun.RunEq R (PySem.W.view R.prog [59]) hk ob 7000 loose w) run_f run_t w
end TC
section
set_option autoImplicit false
namespace LC
def up {α : Type} (f : Nat → α) (i : Nat) (v : α) : Nat → α := fun j => if j = i then v else f j
@[simp, grind =] theorem up_same {α : Type} (f : Nat → α) (i : Nat) (v : α) : up f i v i = v := by simp [up]
theorem up_ne {α : Type} (f : Nat → α) {i j : Nat} (v : α) (h : j ≠ i) : up f i v j = f j := by simp [up, h]
@[grind =] theorem up_get {α : Type} (f : Nat → α) (i j : Nat) (v : α) : up f i v j = if j = i then v else f j := rfl
structure S where
  n : Nat
  ch : Bool → Nat → Option Nat
  ab : Nat → Option Nat
  fl : Nat → Bool
  lt : Nat → Int
  wo : Nat → Int
  mn : Nat → Int
  to : Nat → Int
  mo : Nat → Int
  cnt : Nat
def upc (f : Bool → Nat → Option Nat) (b : Bool) (i : Nat) (v : Option Nat) : Bool → Nat → Option Nat := fun c j => if c = b ∧ j = i then v else f c j
@[grind =] theorem upc_get (f : Bool → Nat → Option Nat) (b c : Bool) (i j : Nat) (v : Option Nat) : upc f b i v c j = if c = b ∧ j = i then v else f c j := rfl
def isTop (s : S) (x : Nat) : Bool := match s.ab x with
  | none => true
  | some u => !(s.ch false u == some x || s.ch true u == some x)
def flip1 (s : S) (o : Option Nat) : S := match o with
  | none => s
  | some x => { s with fl := up s.fl x (!s.fl x) }
def moreBy (s : S) (o : Option Nat) (m : Int) : S := match o with
  | none => s
  | some x => { s with wo := up s.wo x (s.wo x + m), lt := up s.lt x (s.lt x + m), to := up s.to x (s.to x + m * s.mn x), mo := up s.mo x (s.mo x + m) }
def swapCh (s : S) (x : Nat) : S := { s with ch := fun b j => if j = x then s.ch (!b) x else s.ch b j }
def setFl (s : S) (x : Nat) (b : Bool) : S := { s with fl := up s.fl x b }
def setLt (s : S) (x : Nat) (d : Int) : S := { s with lt := up s.lt x d }
def handFl (s : S) (x : Nat) : S := if s.fl x then
    let s1 := swapCh s x
    let s2 := flip1 s1 (s1.ch false x)
    let s3 := flip1 s2 (s2.ch true x)
    setFl s3 x false
  else s
def handLt (s : S) (x : Nat) : S := if s.lt x ≠ 0 then
    let s1 := moreBy s (s.ch false x) (s.lt x)
    let s2 := moreBy s1 (s1.ch true x) (s1.lt x)
    setLt s2 x 0
  else s
def handDown (s : S) (x : Nat) : S := handLt (handFl s x) x
def om (f : Nat → Int) (o : Option Nat) : Int := match o with
  | none => 0
  | some y => f y
def omax (a : Int) (f : Nat → Int) (o : Option Nat) : Int := match o with
  | none => a
  | some y => if f y > a then f y else a
def gather (s : S) (x : Nat) : S :=
  { s with mn := up s.mn x (1 + (om s.mn (s.ch false x) + om s.mn (s.ch true x)))
           to := up s.to x (s.wo x + (om s.to (s.ch false x) + om s.to (s.ch true x)))
           mo := up s.mo x (omax (omax (s.wo x) s.mo (s.ch false x)) s.mo (s.ch true x)) }
def setCh (s : S) (b : Bool) (x : Nat) (o : Option Nat) : S := { s with ch := upc s.ch b x o }
def setAb (s : S) (x : Nat) (o : Option Nat) : S := { s with ab := up s.ab x o }
def setAbO (s : S) (i : Option Nat) (o : Option Nat) : S := match i with
  | none => s
  | some y => setAb s y o
def putBelow (s : S) (g : Option Nat) (u x : Nat) : S := match g with
  | none => s
  | some g => if s.ch false g = some u then setCh s false g (some x) else if s.ch true g = some u then setCh s true g (some x) else s
def tick (s : S) : S := { s with cnt := s.cnt + 1 }
def turnAt (s : S) (x u : Nat) (b : Bool) : S :=
  let inner := s.ch (!b) x
  let s4 := setCh (setCh s b u inner) (!b) x (some u)
  let s5 := setAb s4 u (some x)
  let s6 := setAbO s5 inner (some u)
  tick (gather (gather s6 u) x)
def turn (s : S) (x : Nat) : S := match s.ab x with
  | none => s
  | some u =>
    let g := s.ab u
    let s1 := if isTop s u then s else putBelow s g u x
    let s2 := setAb s1 x g
    if s2.ch false u = some x then turnAt s2 x u false else turnAt s2 x u true
def climb (s : S) : Nat → Nat → List Nat → Option (List Nat)
  | 0, _, _ => none
  | k + 1, x, acc => if isTop s x then some (x :: acc) else match s.ab x with
    | none => none
    | some u => climb s k u (x :: acc)
def liftL : Nat → S → Nat → Option S
  | 0, _, _ => none
  | k + 1, s, x => if isTop s x then some s else match s.ab x with
    | none => none
    | some u => if isTop s u then liftL k (turn s x) x else match s.ab u with
      | none => none
      | some g => liftL k (turn (turn s (if (s.ch false u == some x) == (s.ch false g == some u) then u else x)) x) x
def MnOk (s : S) : Prop := ∀ x, x < s.n → -(2 ^ 64) < s.mn x ∧ s.mn x < 2 ^ 64
instance (s : S) : Decidable (MnOk s) := inferInstanceAs (Decidable (∀ x, x < s.n → _))
def lift (s : S) (x : Nat) : Option S := if MnOk s then (match climb s (s.n + 1) x [] with
  | none => none
  | some p => liftL (s.n + 1) (p.foldl handDown s) x) else none
def letGo (s : S) (x : Nat) : S := tick (match s.ch true x with
  | none => s
  | some _ => gather (setCh s true x none) x)
def takeIn (s : S) (u x : Nat) : S := tick (gather (setCh s true u (some x)) u)
def leadL : Nat → S → Nat → Option (S × Nat)
  | 0, _, _ => none
  | k + 1, s, last => match s.ab last with
    | none => some (s, last)
    | some u => match lift s u with
      | none => none
      | some s1 => leadL k (takeIn (letGo s1 u) u last) u
def lead (s : S) (p : Nat) : Option (S × Nat) := match lift s p with
  | none => none
  | some s1 => match leadL (s1.n + 1) (letGo s1 p) p with
    | none => none
    | some (s2, last) => match lift s2 p with
      | none => none
      | some s3 => some (s3, last)
end LC
end
section
set_option autoImplicit false
namespace LC
def ord (b : Bool) (P : List Nat) (x : Nat) (Q : List Nat) : List Nat := if b then Q ++ x :: P else P ++ x :: Q
theorem mem_ord {b : Bool} {P Q : List Nat} {x v : Nat} : v ∈ ord b P x Q ↔ v = x ∨ v ∈ P ∨ v ∈ Q := by
  cases b <;> simp [ord] <;> grind
theorem len_ord {b : Bool} {P Q : List Nat} {x : Nat} : (ord b P x Q).length = P.length + Q.length + 1 := by
  cases b <;> simp [ord] <;> omega
theorem nd_ord {b : Bool} {P Q : List Nat} {x : Nat} : (ord b P x Q).Nodup ↔ x ∉ P ∧ x ∉ Q ∧ P.Nodup ∧ Q.Nodup ∧ (∀ v, v ∈ P → v ∉ Q) := by
  cases b <;> simp [ord, List.nodup_append, List.nodup_cons] <;> grind
theorem sum_app (w : Nat → Int) (P Q : List Nat) : ((P ++ Q).map w).sum = (P.map w).sum + (Q.map w).sum := by
  rw [List.map_append, List.sum_append]
theorem sum_ord {b : Bool} {P Q : List Nat} {x : Nat} (w : Nat → Int) : ((ord b P x Q).map w).sum = w x + (P.map w).sum + (Q.map w).sum := by
  cases b <;> simp [ord] <;> omega
theorem ord_not {b : Bool} {P Q : List Nat} {x : Nat} : ord (!b) P x Q = ord b Q x P := by
  cases b <;> simp [ord]
structure Agg (s : S) (w : Nat → Int) (x : Nat) (d : Int) (C : List Nat) : Prop where
  mn : s.mn x = (C.length : Int)
  to : s.to x + d * (C.length : Int) = (C.map w).sum
  mo1 : ∀ v ∈ C, w v ≤ s.mo x + d
  mo2 : ∃ v ∈ C, w v = s.mo x + d
inductive Sub (s : S) (w : Nat → Int) : Option Nat → Bool → Int → List Nat → Prop
  | nil (b : Bool) (d : Int) : Sub s w none b d []
  | node (x : Nat) (b : Bool) (d : Int) (L R C : List Nat) : (∀ c y, s.ch c x = some y → s.ab y = some x) →
      Sub s w (s.ch false x) (b ^^ s.fl x) (d + s.lt x) L → Sub s w (s.ch true x) (b ^^ s.fl x) (d + s.lt x) R →
      s.wo x + d = w x → C = ord (b ^^ s.fl x) L x R → Agg s w x d C → Sub s w (some x) b d C
theorem Sub.inv {s : S} {w : Nat → Int} {x : Nat} {b : Bool} {d : Int} {C : List Nat} (h : Sub s w (some x) b d C) :
    ∃ L R, (∀ c y, s.ch c x = some y → s.ab y = some x) ∧ Sub s w (s.ch false x) (b ^^ s.fl x) (d + s.lt x) L ∧ Sub s w (s.ch true x) (b ^^ s.fl x) (d + s.lt x) R ∧
      s.wo x + d = w x ∧ C = ord (b ^^ s.fl x) L x R ∧ Agg s w x d C := by
  cases h with
  | node _ _ _ L R _ h1 h2 h3 h4 h5 h6 => exact ⟨L, R, h1, h2, h3, h4, h5, h6⟩
theorem Sub.inv_none {s : S} {w : Nat → Int} {b : Bool} {d : Int} {C : List Nat} (h : Sub s w none b d C) : C = [] := by
  cases h; rfl
theorem Sub.side {s : S} {w : Nat → Int} {x : Nat} {b : Bool} {d : Int} {C : List Nat} (h : Sub s w (some x) b d C) (c : Bool) :
    ∃ P Q, (∀ c y, s.ch c x = some y → s.ab y = some x) ∧ Sub s w (s.ch c x) (b ^^ s.fl x) (d + s.lt x) P ∧ Sub s w (s.ch (!c) x) (b ^^ s.fl x) (d + s.lt x) Q ∧
      s.wo x + d = w x ∧ C = ord (c ^^ (b ^^ s.fl x)) P x Q ∧ Agg s w x d C := by
  obtain ⟨L, R, h1, h2, h3, h4, h5, h6⟩ := h.inv
  cases c with
  | false => exact ⟨L, R, h1, h2, h3, h4, by simpa using h5, h6⟩
  | true => exact ⟨R, L, h1, h3, h2, h4, by rw [h5]; simp [ord_not], h6⟩
theorem Sub.mk_side {s : S} {w : Nat → Int} {x : Nat} {b : Bool} {d : Int} {C P Q : List Nat} (c : Bool) (h1 : ∀ c y, s.ch c x = some y → s.ab y = some x)
    (h2 : Sub s w (s.ch c x) (b ^^ s.fl x) (d + s.lt x) P) (h3 : Sub s w (s.ch (!c) x) (b ^^ s.fl x) (d + s.lt x) Q)
    (h4 : s.wo x + d = w x) (h5 : C = ord (c ^^ (b ^^ s.fl x)) P x Q) (h6 : Agg s w x d C) : Sub s w (some x) b d C := by
  cases c with
  | false => exact .node x b d P Q C h1 h2 h3 h4 (by simpa using h5) h6
  | true => exact .node x b d Q P C h1 h3 h2 h4 (by rw [h5]; simp [ord_not]) h6
theorem Sub.root_mem {s : S} {w : Nat → Int} {x : Nat} {b : Bool} {d : Int} {C : List Nat} (h : Sub s w (some x) b d C) : x ∈ C := by
  obtain ⟨L, R, h1, h2, h3, h4, h5, h6⟩ := h.inv
  rw [h5, mem_ord]; exact .inl rfl
theorem Sub.kids {s : S} {w : Nat → Int} {o : Option Nat} {b : Bool} {d : Int} {C : List Nat} (h : Sub s w o b d C) :
    ∀ v ∈ C, ∀ c y, s.ch c v = some y → y ∈ C ∧ s.ab y = some v := by
  induction h with
  | nil => intro v hv; cases hv
  | node x b d L R C h1 h2 h3 h4 h5 h6 i2 i3 =>
    intro v hv c y hy
    rw [h5, mem_ord] at hv
    rw [h5, mem_ord]
    rcases hv with rfl | hv | hv
    · refine ⟨?_, h1 c y hy⟩
      cases c with
      | false => rw [hy] at h2; exact .inr (.inl h2.root_mem)
      | true => rw [hy] at h3; exact .inr (.inr h3.root_mem)
    · exact ⟨.inr (.inl (i2 v hv c y hy).1), (i2 v hv c y hy).2⟩
    · exact ⟨.inr (.inr (i3 v hv c y hy).1), (i3 v hv c y hy).2⟩
structure Alike (s s' : S) (v : Nat) : Prop where
  ch : ∀ c, s'.ch c v = s.ch c v
  fl : s'.fl v = s.fl v
  lt : s'.lt v = s.lt v
  wo : s'.wo v = s.wo v
  mn : s'.mn v = s.mn v
  to : s'.to v = s.to v
  mo : s'.mo v = s.mo v
theorem Alike.refl (s : S) (v : Nat) : Alike s s v := ⟨fun _ => rfl, rfl, rfl, rfl, rfl, rfl, rfl⟩
theorem Alike.trans {s t u : S} {v : Nat} (a : Alike s t v) (b : Alike t u v) : Alike s u v :=
  ⟨fun c => (b.ch c).trans (a.ch c), b.fl.trans a.fl, b.lt.trans a.lt, b.wo.trans a.wo, b.mn.trans a.mn, b.to.trans a.to, b.mo.trans a.mo⟩
theorem Agg.frame {s s' : S} {w w' : Nat → Int} {x : Nat} {d : Int} {C : List Nat} (h : Agg s w x d C) (a : Alike s s' x) (hw : ∀ v ∈ C, w' v = w v) : Agg s' w' x d C := by
  obtain ⟨h1, h2, h3, v0, h4, h5⟩ := h
  have e : C.map w' = C.map w := List.map_congr_left hw
  refine ⟨by rw [a.mn]; exact h1, by rw [a.to, e]; exact h2, fun v hv => by rw [a.mo, hw v hv]; exact h3 v hv, v0, h4, by rw [a.mo, hw _ h4]; exact h5⟩
theorem Sub.frame {s s' : S} {w w' : Nat → Int} {o : Option Nat} {b : Bool} {d : Int} {C : List Nat} (h : Sub s w o b d C)
    (ha : ∀ v ∈ C, Alike s s' v) (hab : ∀ v ∈ C, o ≠ some v → s'.ab v = s.ab v) (hN : C.Nodup) (hw : ∀ v ∈ C, w' v = w v) : Sub s' w' o b d C := by
  induction h with
  | nil => exact .nil _ _
  | node x b d L R C h1 h2 h3 h4 h5 h6 i2 i3 =>
    subst h5
    have hN' := nd_ord.mp hN
    have hx := ha x (mem_ord.mpr (.inl rfl))
    have hk := Sub.kids (.node x b d L R _ h1 h2 h3 h4 rfl h6)
    refine .node x b d L R _ (fun c y hy => ?_) ?_ ?_ ?_ ?_ ?_
    · rw [hx.ch] at hy
      have hyC := (hk x (mem_ord.mpr (.inl rfl)) c y hy).1
      rw [hab y hyC ?_]; exact h1 c y hy
      intro e; cases e
      cases c with
      | false => rw [hy] at h2; exact hN'.1 h2.root_mem
      | true => rw [hy] at h3; exact hN'.2.1 h3.root_mem
    · rw [hx.ch, hx.fl, hx.lt]
      exact i2 (fun v hv => ha v (mem_ord.mpr (.inr (.inl hv)))) (fun v hv hne => hab v (mem_ord.mpr (.inr (.inl hv))) (fun e => by cases e; exact hN'.1 hv)) hN'.2.2.1 (fun v hv => hw v (mem_ord.mpr (.inr (.inl hv))))
    · rw [hx.ch, hx.fl, hx.lt]
      exact i3 (fun v hv => ha v (mem_ord.mpr (.inr (.inr hv)))) (fun v hv hne => hab v (mem_ord.mpr (.inr (.inr hv))) (fun e => by cases e; exact hN'.2.1 hv)) hN'.2.2.2.1 (fun v hv => hw v (mem_ord.mpr (.inr (.inr hv))))
    · rw [hx.wo, hw x (mem_ord.mpr (.inl rfl))]; exact h4
    · rw [hx.fl]
    · exact h6.frame hx hw
theorem Sub.reroot {s s' : S} {w : Nat → Int} {x : Nat} {b b' : Bool} {d d' : Int} {C : List Nat} (h : Sub s w (some x) b d C) (hN : C.Nodup)
    (ha : ∀ v ∈ C, v ≠ x → Alike s s' v) (hab : ∀ v ∈ C, v ≠ x → s'.ab v = s.ab v) (hc : ∀ c, s'.ch c x = s.ch c x)
    (hf : (b' ^^ s'.fl x) = (b ^^ s.fl x)) (hl : d' + s'.lt x = d + s.lt x) (hwo : s'.wo x + d' = s.wo x + d)
    (hmn : s'.mn x = s.mn x) (hto : s'.to x + d' * s.mn x = s.to x + d * s.mn x) (hmo : s'.mo x + d' = s.mo x + d) : Sub s' w (some x) b' d' C := by
  obtain ⟨L, R, h1, h2, h3, h4, h5, h6⟩ := h.inv
  subst h5
  have hN' := nd_ord.mp hN
  have hk := h.kids
  refine .node x b' d' L R _ (fun c y hy => ?_) ?_ ?_ ?_ ?_ ?_
  · rw [hc] at hy
    have hyC := (hk x (mem_ord.mpr (.inl rfl)) c y hy).1
    rw [hab y hyC ?_]; exact h1 c y hy
    rintro rfl
    cases c with
    | false => rw [hy] at h2; exact hN'.1 h2.root_mem
    | true => rw [hy] at h3; exact hN'.2.1 h3.root_mem
  · rw [hc, hf, hl]
    exact h2.frame (fun v hv => ha v (mem_ord.mpr (.inr (.inl hv))) (fun e => hN'.1 (e ▸ hv))) (fun v hv _ => hab v (mem_ord.mpr (.inr (.inl hv))) (fun e => hN'.1 (e ▸ hv))) hN'.2.2.1 (fun _ _ => rfl)
  · rw [hc, hf, hl]
    exact h3.frame (fun v hv => ha v (mem_ord.mpr (.inr (.inr hv))) (fun e => hN'.2.1 (e ▸ hv))) (fun v hv _ => hab v (mem_ord.mpr (.inr (.inr hv))) (fun e => hN'.2.1 (e ▸ hv))) hN'.2.2.2.1 (fun _ _ => rfl)
  · rw [hwo]; exact h4
  · rw [hf]
  · obtain ⟨a1, a2, a3, v0, a4, a5⟩ := h6
    refine ⟨by rw [hmn]; exact a1, ?_, fun v hv => by rw [hmo]; exact a3 v hv, v0, a4, by rw [hmo]; exact a5⟩
    rw [← a1, hto, a1]; exact a2
end LC
end
section
set_option autoImplicit false
namespace LC
def Fr (s s' : S) (D : List Nat) : Prop := ∀ v, v ∉ D → Alike s s' v ∧ s'.ab v = s.ab v
theorem Fr.refl (s : S) (D : List Nat) : Fr s s D := fun v _ => ⟨Alike.refl s v, rfl⟩
theorem Fr.trans {s t u : S} {D : List Nat} (a : Fr s t D) (b : Fr t u D) : Fr s u D := fun v hv => ⟨(a v hv).1.trans (b v hv).1, (b v hv).2.trans (a v hv).2⟩
theorem Fr.mono {s t : S} {D E : List Nat} (a : Fr s t D) (h : ∀ v ∈ D, v ∈ E) : Fr s t E := fun v hv => a v (fun q => hv (h v q))
theorem flip1_sub {s : S} {w : Nat → Int} {o : Option Nat} {b : Bool} {d : Int} {C : List Nat} (h : Sub s w o b d C) (hN : C.Nodup) : Sub (flip1 s o) w o (!b) d C := by
  cases o with
  | none => rw [h.inv_none]; exact .nil _ _
  | some y =>
    refine h.reroot hN (fun v _ hv => ?_) (fun v _ _ => rfl) (fun c => rfl) ?_ rfl rfl rfl rfl rfl
    · exact ⟨fun _ => rfl, by show up _ _ _ v = _; rw [up_ne _ _ hv], rfl, rfl, rfl, rfl, rfl⟩
    · show ((!b) ^^ up s.fl y (!s.fl y) y) = _
      rw [up_same]; cases b <;> cases s.fl y <;> rfl
theorem moreBy_sub {s : S} {w : Nat → Int} {o : Option Nat} {b : Bool} {d m : Int} {C : List Nat} (h : Sub s w o b (d + m) C) (hN : C.Nodup) : Sub (moreBy s o m) w o b d C := by
  cases o with
  | none => rw [h.inv_none]; exact .nil _ _
  | some y =>
    refine h.reroot hN (fun v _ hv => ?_) (fun v _ _ => rfl) (fun c => rfl) rfl ?_ ?_ rfl ?_ ?_
    · refine ⟨fun _ => rfl, rfl, ?_, ?_, rfl, ?_, ?_⟩ <;> (show up _ _ _ v = _) <;> rw [up_ne _ _ hv]
    · show d + up s.lt y _ y = _; rw [up_same]; omega
    · show up s.wo y _ y + d = _; rw [up_same]; omega
    · show up s.to y _ y + _ = _; rw [up_same, Int.add_mul]; omega
    · show up s.mo y _ y + d = _; rw [up_same]; omega
theorem Sub.shift {s : S} {w w' : Nat → Int} {o : Option Nat} {b : Bool} {d m : Int} {C : List Nat} (h : Sub s w o b d C) (hw : ∀ v ∈ C, w' v = w v + m) : Sub s w' o b (d + m) C := by
  induction h with
  | nil => exact .nil _ _
  | node x b d L R C h1 h2 h3 h4 h5 h6 i2 i3 =>
    have e : ∀ l : List Nat, (∀ v ∈ l, w' v = w v + m) → (l.map w').sum = (l.map w).sum + m * l.length := by
      intro l
      induction l with
      | nil => intro _; simp
      | cons a r ih =>
        intro hl
        have i := ih (fun v hv => hl v (List.mem_cons_of_mem _ hv))
        have j := hl a List.mem_cons_self
        rw [List.map_cons, List.map_cons, List.sum_cons, List.sum_cons, i, j, List.length_cons]
        push_cast
        rw [Int.mul_add]; omega
    refine .node x b (d + m) L R C h1 ?_ ?_ ?_ h5 ?_
    · have q := i2 (fun v hv => hw v (by rw [h5, mem_ord]; exact .inr (.inl hv)))
      rw [show d + m + s.lt x = d + s.lt x + m by omega]; exact q
    · have q := i3 (fun v hv => hw v (by rw [h5, mem_ord]; exact .inr (.inr hv)))
      rw [show d + m + s.lt x = d + s.lt x + m by omega]; exact q
    · rw [hw x (by rw [h5, mem_ord]; exact .inl rfl)]; omega
    · obtain ⟨a1, a2, a3, v0, a4, a5⟩ := h6
      refine ⟨a1, ?_, fun v hv => by rw [hw v hv]; have := a3 v hv; omega, v0, a4, by rw [hw v0 a4]; omega⟩
      rw [e C hw, Int.add_mul]; omega
section
variable {s : S} {x : Nat}
theorem handFl_ch (h : s.fl x = true) (c : Bool) (v : Nat) : (handFl s x).ch c v = if v = x then s.ch (!c) x else s.ch c v := by
  unfold handFl; rw [if_pos h]
  have f : ∀ (t : S) (o : Option Nat), (flip1 t o).ch = t.ch := by intro t o; cases o <;> rfl
  show (flip1 (flip1 (swapCh s x) _) _).ch c v = _
  rw [f, f]; rfl
theorem handFl_same (s : S) (x : Nat) : (handFl s x).ab = s.ab ∧ (handFl s x).lt = s.lt ∧ (handFl s x).wo = s.wo ∧ (handFl s x).mn = s.mn ∧ (handFl s x).to = s.to ∧ (handFl s x).mo = s.mo ∧ (handFl s x).n = s.n ∧ (handFl s x).cnt = s.cnt := by
  have f : ∀ (t : S) (o : Option Nat), (flip1 t o).ab = t.ab ∧ (flip1 t o).lt = t.lt ∧ (flip1 t o).wo = t.wo ∧ (flip1 t o).mn = t.mn ∧ (flip1 t o).to = t.to ∧ (flip1 t o).mo = t.mo ∧ (flip1 t o).n = t.n ∧ (flip1 t o).cnt = t.cnt := by
    intro t o; cases o <;> exact ⟨rfl, rfl, rfl, rfl, rfl, rfl, rfl, rfl⟩
  unfold handFl
  by_cases h : s.fl x
  · rw [if_pos h]
    obtain ⟨a1, a2, a3, a4, a5, a6, a7, a8⟩ := f (swapCh s x) ((swapCh s x).ch false x)
    obtain ⟨b1, b2, b3, b4, b5, b6, b7, b8⟩ := f (flip1 (swapCh s x) ((swapCh s x).ch false x)) ((flip1 (swapCh s x) ((swapCh s x).ch false x)).ch true x)
    exact ⟨b1.trans a1, b2.trans a2, b3.trans a3, b4.trans a4, b5.trans a5, b6.trans a6, b7.trans a7, b8.trans a8⟩
  · rw [if_neg h]; exact ⟨rfl, rfl, rfl, rfl, rfl, rfl, rfl, rfl⟩
theorem handFl_fl (h : s.fl x = true) (hd : ∀ y, s.ch false x = some y → s.ch true x ≠ some y) (v : Nat) :
    (handFl s x).fl v = if v = x then false else if s.ch false x = some v ∨ s.ch true x = some v then !s.fl v else s.fl v := by
  unfold handFl; rw [if_pos h]
  have e1 : (swapCh s x).ch false x = s.ch true x := by simp [swapCh]
  have e2 : (flip1 (swapCh s x) ((swapCh s x).ch false x)).ch true x = s.ch false x := by
    rw [e1]; cases s.ch true x <;> simp [flip1, swapCh]
  show up ((flip1 (flip1 (swapCh s x) ((swapCh s x).ch false x)) ((flip1 (swapCh s x) ((swapCh s x).ch false x)).ch true x)).fl) x false v = _
  rw [e2, e1]
  cases h1 : s.ch true x with
  | none =>
    cases h2 : s.ch false x with
    | none => simp [flip1, swapCh, up_get]
    | some y => simp [flip1, swapCh, up_get]; grind
  | some z =>
    cases h2 : s.ch false x with
    | none => simp [flip1, swapCh, up_get]; grind
    | some y =>
      have hne : y ≠ z := fun e => hd y h2 (by rw [h1, e])
      simp [flip1, swapCh, up_get]; grind
theorem handLt_same (s : S) (x : Nat) : (handLt s x).ab = s.ab ∧ (handLt s x).ch = s.ch ∧ (handLt s x).fl = s.fl ∧ (handLt s x).mn = s.mn ∧ (handLt s x).n = s.n ∧ (handLt s x).cnt = s.cnt := by
  have f : ∀ (t : S) (o : Option Nat) (m : Int), (moreBy t o m).ab = t.ab ∧ (moreBy t o m).ch = t.ch ∧ (moreBy t o m).fl = t.fl ∧ (moreBy t o m).mn = t.mn ∧ (moreBy t o m).n = t.n ∧ (moreBy t o m).cnt = t.cnt := by
    intro t o m; cases o <;> exact ⟨rfl, rfl, rfl, rfl, rfl, rfl⟩
  unfold handLt
  by_cases h : s.lt x ≠ 0
  · rw [if_pos h]
    obtain ⟨a1, a2, a3, a4, a5, a6⟩ := f s (s.ch false x) (s.lt x)
    obtain ⟨b1, b2, b3, b4, b5, b6⟩ := f (moreBy s (s.ch false x) (s.lt x)) ((moreBy s (s.ch false x) (s.lt x)).ch true x) ((moreBy s (s.ch false x) (s.lt x)).lt x)
    exact ⟨b1.trans a1, b2.trans a2, b3.trans a3, b4.trans a4, b5.trans a5, b6.trans a6⟩
  · rw [if_neg h]; exact ⟨rfl, rfl, rfl, rfl, rfl, rfl⟩
def isKid (s : S) (x v : Nat) : Prop := s.ch false x = some v ∨ s.ch true x = some v
instance (s : S) (x v : Nat) : Decidable (isKid s x v) := inferInstanceAs (Decidable (_ ∨ _))
theorem handLt_vals (h0 : ∀ c, s.ch c x ≠ some x) (hd : ∀ y, s.ch false x = some y → s.ch true x ≠ some y) (v : Nat) :
    (handLt s x).lt v = (if v = x then 0 else if isKid s x v then s.lt v + s.lt x else s.lt v) ∧
    (handLt s x).wo v = (if isKid s x v then s.wo v + s.lt x else s.wo v) ∧ (handLt s x).to v = (if isKid s x v then s.to v + s.lt x * s.mn v else s.to v) ∧
    (handLt s x).mo v = (if isKid s x v then s.mo v + s.lt x else s.mo v) := by
  have hx : ¬ isKid s x x := fun q => q.elim (h0 _) (h0 _)
  unfold handLt
  by_cases h : s.lt x ≠ 0
  · rw [if_pos h]
    have e2 : (moreBy s (s.ch false x) (s.lt x)).ch true x = s.ch true x := by cases s.ch false x <;> rfl
    have e3 : (moreBy s (s.ch false x) (s.lt x)).lt x = s.lt x := by
      cases q : s.ch false x with
      | none => rfl
      | some y =>
        show up s.lt y _ x = _
        rw [up_ne]; rintro rfl; exact h0 _ q
    have e4 : (let s1 := moreBy s (s.ch false x) (s.lt x); let s2 := moreBy s1 (s1.ch true x) (s1.lt x); setLt s2 x 0) = setLt (moreBy (moreBy s (s.ch false x) (s.lt x)) (s.ch true x) (s.lt x)) x 0 := by
      show setLt (moreBy (moreBy s (s.ch false x) (s.lt x)) ((moreBy s (s.ch false x) (s.lt x)).ch true x) ((moreBy s (s.ch false x) (s.lt x)).lt x)) x 0 = _
      rw [e2, e3]
    rw [e4]
    unfold isKid
    obtain ⟨o1, q1⟩ : ∃ o, s.ch true x = o := ⟨_, rfl⟩
    obtain ⟨o2, q2⟩ : ∃ o, s.ch false x = o := ⟨_, rfl⟩
    have h1 : o1 ≠ some x := q1 ▸ h0 true
    have h2 : o2 ≠ some x := q2 ▸ h0 false
    have h3 : ∀ y, o2 = some y → o1 ≠ some y := fun y a b => hd y (q2.trans a) (q1.trans b)
    simp only [q1, q2]
    cases o1 with
    | none =>
      cases o2 with
      | none => simp [moreBy, setLt, up_get]
      | some y => simp [moreBy, setLt, up_get]; grind
    | some z =>
      cases o2 with
      | none => simp [moreBy, setLt, up_get]; grind
      | some y =>
        have hne : y ≠ z := fun e => h3 y rfl (by rw [e])
        simp [moreBy, setLt, up_get]; grind
  · rw [if_neg h]
    have h' : s.lt x = 0 := by omega
    rw [h']
    refine ⟨?_, ?_, ?_, ?_⟩
    · by_cases e : v = x
      · rw [if_pos e, e, h']
      · rw [if_neg e]; simp
    · simp
    · simp
    · simp
end
theorem Sub.noself {s : S} {w : Nat → Int} {x : Nat} {b : Bool} {d : Int} {C : List Nat} (h : Sub s w (some x) b d C) (hN : C.Nodup) :
    (∀ c, s.ch c x ≠ some x) ∧ (∀ y, s.ch false x = some y → s.ch true x ≠ some y) := by
  obtain ⟨L, R, h1, h2, h3, h4, h5, h6⟩ := h.inv
  subst h5
  have hN' := nd_ord.mp hN
  refine ⟨fun c e => ?_, fun y e1 e2 => ?_⟩
  · cases c with
    | false => rw [e] at h2; exact hN'.1 h2.root_mem
    | true => rw [e] at h3; exact hN'.2.1 h3.root_mem
  · rw [e1] at h2; rw [e2] at h3
    exact hN'.2.2.2.2 y h2.root_mem h3.root_mem
theorem handFl_sub {s : S} {w : Nat → Int} {x : Nat} {b : Bool} {d : Int} {C : List Nat} (h : Sub s w (some x) b d C) (hN : C.Nodup) :
    Sub (handFl s x) w (some x) b d C ∧ (handFl s x).fl x = false ∧ Fr s (handFl s x) C := by
  by_cases hf : s.fl x = true
  · obtain ⟨n0, n1⟩ := h.noself hN
    obtain ⟨e1, e2, e3, e4, e5, e6, e7, e8⟩ := handFl_same s x
    obtain ⟨L, R, h1, h2, h3, h4, h5, h6⟩ := h.inv
    have hk := h.kids
    have hx := h.root_mem
    subst h5
    have hN' := nd_ord.mp hN
    have kid : ∀ c (P : List Nat), (∀ v ∈ P, v ≠ x) → P.Nodup → (∀ y, s.ch (!c) x = some y → y ∉ P) → Sub s w (s.ch c x) (b ^^ s.fl x) (d + s.lt x) P → Sub (handFl s x) w (s.ch c x) (b ^^ false) (d + s.lt x) P := by
      intro c P hP hPN hPo hS
      have q := flip1_sub hS hPN
      rw [hf, show (!(b ^^ true)) = (b ^^ false) by cases b <;> rfl] at q
      refine q.frame (fun v hv => ?_) (fun v hv _ => ?_) hPN (fun _ _ => rfl)
      · have hvx := hP v hv
        have hcv : s.ch (!c) x ≠ some v := fun e => hPo v e hv
        refine ⟨fun c' => ?_, ?_, ?_, ?_, ?_, ?_, ?_⟩
        · rw [handFl_ch hf, if_neg hvx]; cases s.ch c x <;> rfl
        · rw [handFl_fl hf n1, if_neg hvx]
          cases q2 : s.ch c x with
          | none => cases c <;> simp_all [flip1]
          | some y => cases c <;> simp_all [flip1, up_get] <;> grind
        · rw [e2]; cases s.ch c x <;> rfl
        · rw [e3]; cases s.ch c x <;> rfl
        · rw [e4]; cases s.ch c x <;> rfl
        · rw [e5]; cases s.ch c x <;> rfl
        · rw [e6]; cases s.ch c x <;> rfl
      · rw [e1]; cases s.ch c x <;> rfl
    have ffl : (handFl s x).fl x = false := by rw [handFl_fl hf n1, if_pos rfl]
    refine ⟨?_, ffl, ?_⟩
    · refine .node x b d R L _ (fun c y hy => ?_) ?_ ?_ ?_ ?_ ?_
      · rw [handFl_ch hf, if_pos rfl] at hy; rw [e1]; exact h1 _ y hy
      · rw [handFl_ch hf, if_pos rfl, ffl, e2]
        exact kid true R (fun v hv e => hN'.2.1 (e ▸ hv)) hN'.2.2.2.1 (fun y hy hyR => by rw [show (!true) = false from rfl] at hy; rw [hy] at h2; exact hN'.2.2.2.2 y h2.root_mem hyR) h3
      · rw [handFl_ch hf, if_pos rfl, ffl, e2]
        exact kid false L (fun v hv e => hN'.1 (e ▸ hv)) hN'.2.2.1 (fun y hy hyL => by rw [show (!false) = true from rfl] at hy; rw [hy] at h3; exact hN'.2.2.2.2 y hyL h3.root_mem) h2
      · rw [e3]; exact h4
      · rw [ffl, hf]; cases b <;> simp [ord]
      · exact ⟨by rw [e4]; exact h6.mn, by rw [e5]; exact h6.to, by rw [e6]; exact h6.mo1, by rw [e6]; exact h6.mo2⟩
    · intro v hv
      have hvx : v ≠ x := fun e => hv (e ▸ hx)
      refine ⟨⟨fun c => by rw [handFl_ch hf, if_neg hvx], ?_, by rw [e2], by rw [e3], by rw [e4], by rw [e5], by rw [e6]⟩, by rw [e1]⟩
      rw [handFl_fl hf n1, if_neg hvx, if_neg]
      rintro (q | q)
      · exact hv (hk x hx _ v q).1
      · exact hv (hk x hx _ v q).1
  · have e : handFl s x = s := by unfold handFl; rw [if_neg hf]
    rw [e]
    exact ⟨h, by simpa using hf, Fr.refl _ _⟩
theorem handLt_sub {s : S} {w : Nat → Int} {x : Nat} {b : Bool} {d : Int} {C : List Nat} (h : Sub s w (some x) b d C) (hN : C.Nodup) :
    Sub (handLt s x) w (some x) b d C ∧ (handLt s x).lt x = 0 ∧ Fr s (handLt s x) C := by
  obtain ⟨n0, n1⟩ := h.noself hN
  obtain ⟨e1, e2, e3, e4, e5, e6⟩ := handLt_same s x
  have ev := handLt_vals n0 n1
  have nx : ¬ isKid s x x := fun q => q.elim (n0 _) (n0 _)
  obtain ⟨L, R, h1, h2, h3, h4, h5, h6⟩ := h.inv
  have hk := h.kids
  have hx := h.root_mem
  subst h5
  have hN' := nd_ord.mp hN
  have lx : (handLt s x).lt x = 0 := by rw [(ev x).1, if_pos rfl]
  have kid : ∀ c (P : List Nat), (∀ v ∈ P, v ≠ x) → P.Nodup → (∀ y, s.ch (!c) x = some y → y ∉ P) → Sub s w (s.ch c x) (b ^^ s.fl x) (d + s.lt x) P → Sub (handLt s x) w (s.ch c x) (b ^^ s.fl x) (d + 0) P := by
    intro c P hP hPN hPo hS
    have q := moreBy_sub hS hPN
    rw [Int.add_zero]
    refine q.frame (fun v hv => ?_) (fun v hv _ => ?_) hPN (fun _ _ => rfl)
    · have hvx := hP v hv
      have hcv : s.ch (!c) x ≠ some v := fun e => hPo v e hv
      have kv : isKid s x v ↔ s.ch c x = some v := by
        unfold isKid
        cases c with
        | false => exact ⟨fun q => q.elim id (fun q => absurd q hcv), .inl⟩
        | true => exact ⟨fun q => q.elim (fun q => absurd q hcv) id, .inr⟩
      obtain ⟨v1, v2, v3, v4⟩ := ev v
      rw [if_neg hvx] at v1
      refine ⟨fun c' => ?_, ?_, ?_, ?_, ?_, ?_, ?_⟩
      · rw [e2]; cases s.ch c x <;> rfl
      · rw [e3]; cases s.ch c x <;> rfl
      · rw [v1]
        cases q2 : s.ch c x with
        | none => simp_all [moreBy]
        | some y => simp_all [moreBy, up_get]; grind
      · rw [v2]
        cases q2 : s.ch c x with
        | none => simp_all [moreBy]
        | some y => simp_all [moreBy, up_get]; grind
      · rw [e4]; cases s.ch c x <;> rfl
      · rw [v3]
        cases q2 : s.ch c x with
        | none => simp_all [moreBy]
        | some y => simp_all [moreBy, up_get]; grind
      · rw [v4]
        cases q2 : s.ch c x with
        | none => simp_all [moreBy]
        | some y => simp_all [moreBy, up_get]; grind
    · rw [e1]; cases s.ch c x <;> rfl
  obtain ⟨x1, x2, x3, x4⟩ := ev x
  rw [if_neg nx] at x2 x3 x4
  refine ⟨?_, lx, ?_⟩
  · refine .node x b d L R _ (fun c y hy => ?_) ?_ ?_ ?_ ?_ ?_
    · rw [e2] at hy; rw [e1]; exact h1 _ y hy
    · rw [e2, e3, lx]
      exact kid false L (fun v hv e => hN'.1 (e ▸ hv)) hN'.2.2.1 (fun y hy hyL => by rw [show (!false) = true from rfl] at hy; rw [hy] at h3; exact hN'.2.2.2.2 y hyL h3.root_mem) h2
    · rw [e2, e3, lx]
      exact kid true R (fun v hv e => hN'.2.1 (e ▸ hv)) hN'.2.2.2.1 (fun y hy hyR => by rw [show (!true) = false from rfl] at hy; rw [hy] at h2; exact hN'.2.2.2.2 y h2.root_mem hyR) h3
    · rw [x2]; exact h4
    · rw [e3]
    · exact ⟨by rw [e4]; exact h6.mn, by rw [x3]; exact h6.to, by rw [x4]; exact h6.mo1, by rw [x4]; exact h6.mo2⟩
  · intro v hv
    have hvx : v ≠ x := fun e => hv (e ▸ hx)
    have kv : ¬ isKid s x v := by
      rintro (q | q)
      · exact hv (hk x hx _ v q).1
      · exact hv (hk x hx _ v q).1
    obtain ⟨v1, v2, v3, v4⟩ := ev v
    rw [if_neg hvx, if_neg kv] at v1
    rw [if_neg kv] at v2 v3 v4
    exact ⟨⟨fun c => by rw [e2], by rw [e3], v1, v2, by rw [e4], v3, v4⟩, by rw [e1]⟩
theorem handDown_sub {s : S} {w : Nat → Int} {x : Nat} {b : Bool} {d : Int} {C : List Nat} (h : Sub s w (some x) b d C) (hN : C.Nodup) :
    Sub (handDown s x) w (some x) b d C ∧ (handDown s x).fl x = false ∧ (handDown s x).lt x = 0 ∧ Fr s (handDown s x) C := by
  obtain ⟨a1, a2, a3⟩ := handFl_sub h hN
  obtain ⟨b1, b2, b3⟩ := handLt_sub a1 hN
  refine ⟨b1, ?_, b2, a3.trans b3⟩
  show (handLt (handFl s x) x).fl x = false
  rw [(handLt_same (handFl s x) x).2.2.1]; exact a2
theorem handDown_same (s : S) (x : Nat) : (handDown s x).ab = s.ab ∧ (handDown s x).n = s.n ∧ (handDown s x).cnt = s.cnt ∧ (∀ c v, v ≠ x → (handDown s x).ch c v = s.ch c v) ∧ (∀ y, isKid (handDown s x) x y ↔ isKid s x y) := by
  obtain ⟨e1, e2, e3, e4, e5, e6, e7, e8⟩ := handFl_same s x
  obtain ⟨f1, f2, f3, f4, f5, f6⟩ := handLt_same (handFl s x) x
  refine ⟨f1.trans e1, f5.trans e7, f6.trans e8, fun c v hv => ?_, fun y => ?_⟩
  · show (handLt (handFl s x) x).ch c v = _
    rw [f2]
    by_cases hf : s.fl x = true
    · rw [handFl_ch hf, if_neg hv]
    · unfold handFl; rw [if_neg hf]
  · unfold isKid
    show (handLt (handFl s x) x).ch false x = _ ∨ (handLt (handFl s x) x).ch true x = _ ↔ _
    rw [f2]
    by_cases hf : s.fl x = true
    · rw [handFl_ch hf, handFl_ch hf, if_pos rfl, if_pos rfl]
      exact ⟨fun q => q.symm, fun q => q.symm⟩
    · unfold handFl; rw [if_neg hf]
end LC
end
section
set_option autoImplicit false
namespace LC
theorem Sub.om_mn {s : S} {w : Nat → Int} {o : Option Nat} {b : Bool} {d : Int} {C : List Nat} (h : Sub s w o b d C) : om s.mn o = (C.length : Int) := by
  cases o with
  | none => rw [h.inv_none]; rfl
  | some y => obtain ⟨L, R, _, _, _, _, _, h6⟩ := h.inv; exact h6.mn
theorem Sub.om_to {s : S} {w : Nat → Int} {o : Option Nat} {b : Bool} {C : List Nat} (h : Sub s w o b 0 C) : om s.to o = (C.map w).sum := by
  cases o with
  | none => rw [h.inv_none]; rfl
  | some y => obtain ⟨L, R, _, _, _, _, _, h6⟩ := h.inv; have := h6.to; show s.to y = _; omega
theorem Sub.omax_ok {s : S} {w : Nat → Int} {o : Option Nat} {b : Bool} {C : List Nat} (h : Sub s w o b 0 C) (a : Int) :
    a ≤ omax a s.mo o ∧ (∀ v ∈ C, w v ≤ omax a s.mo o) ∧ (omax a s.mo o = a ∨ ∃ v ∈ C, w v = omax a s.mo o) := by
  cases o with
  | none => rw [h.inv_none]; exact ⟨Int.le_refl _, (fun _ q => by cases q), Or.inl rfl⟩
  | some y =>
    obtain ⟨L, R, _, _, _, _, _, h6⟩ := h.inv
    obtain ⟨_, _, h3, v0, h4, h5⟩ := h6
    show a ≤ (if s.mo y > a then s.mo y else a) ∧ _ ∧ _
    show _ ∧ (∀ v ∈ C, w v ≤ (if s.mo y > a then s.mo y else a)) ∧ ((if s.mo y > a then s.mo y else a) = a ∨ ∃ v ∈ C, w v = (if s.mo y > a then s.mo y else a))
    by_cases q : s.mo y > a
    · simp only [if_pos q]
      exact ⟨by omega, fun v hv => by have := h3 v hv; omega, .inr ⟨v0, h4, by omega⟩⟩
    · simp only [if_neg q]
      exact ⟨by omega, fun v hv => by have := h3 v hv; omega, by simp⟩
theorem gather_fr (s : S) (x : Nat) : (gather s x).ch = s.ch ∧ (gather s x).ab = s.ab ∧ (gather s x).fl = s.fl ∧ (gather s x).lt = s.lt ∧ (gather s x).wo = s.wo ∧ (gather s x).n = s.n ∧ (gather s x).cnt = s.cnt := ⟨rfl, rfl, rfl, rfl, rfl, rfl, rfl⟩
theorem gather_al (s : S) {x v : Nat} (h : v ≠ x) : Alike s (gather s x) v :=
  ⟨fun _ => rfl, rfl, rfl, rfl, up_ne _ _ h, up_ne _ _ h, up_ne _ _ h⟩
theorem gather_sub {s : S} {w : Nat → Int} {x : Nat} {P Q : List Nat} (c : Bool) (hk : ∀ c y, s.ch c x = some y → s.ab y = some x) (hP : Sub s w (s.ch c x) false 0 P) (hQ : Sub s w (s.ch (!c) x) false 0 Q)
    (hf : s.fl x = false) (hl : s.lt x = 0) (hw : s.wo x = w x) (hN : (ord c P x Q).Nodup) : Sub (gather s x) w (some x) false 0 (ord c P x Q) := by
  have hN' := nd_ord.mp hN
  have fP : Sub (gather s x) w (s.ch c x) false 0 P := hP.frame (fun v hv => gather_al s (fun e => hN'.1 (e ▸ hv))) (fun _ _ _ => rfl) hN'.2.2.1 (fun _ _ => rfl)
  have fQ : Sub (gather s x) w (s.ch (!c) x) false 0 Q := hQ.frame (fun v hv => gather_al s (fun e => hN'.2.1 (e ▸ hv))) (fun _ _ _ => rfl) hN'.2.2.2.1 (fun _ _ => rfl)
  refine Sub.mk_side (P := P) (Q := Q) c (fun c y hy => hk c y hy) ?_ ?_ ?_ ?_ ?_
  · show Sub _ w (s.ch c x) (false ^^ s.fl x) (0 + s.lt x) P
    rw [hf, hl]; exact fP
  · show Sub _ w (s.ch (!c) x) (false ^^ s.fl x) (0 + s.lt x) Q
    rw [hf, hl]; exact fQ
  · show s.wo x + 0 = w x; omega
  · show _ = ord (c ^^ (false ^^ s.fl x)) P x Q
    rw [hf]; cases c <;> rfl
  · have m1 := hP.om_mn; have m2 := hQ.om_mn
    have t1 := hP.om_to; have t2 := hQ.om_to
    have em : om s.mn (s.ch false x) + om s.mn (s.ch true x) = (P.length : Int) + Q.length := by
      cases c with
      | false => rw [m1, show s.ch true x = s.ch (!false) x from rfl, m2]
      | true => rw [m1, show s.ch false x = s.ch (!true) x from rfl, m2]; omega
    have et : om s.to (s.ch false x) + om s.to (s.ch true x) = (P.map w).sum + (Q.map w).sum := by
      cases c with
      | false => rw [t1, show s.ch true x = s.ch (!false) x from rfl, t2]
      | true => rw [t1, show s.ch false x = s.ch (!true) x from rfl, t2]; omega
    have mx : ∃ A B, Sub s w (s.ch false x) false 0 A ∧ Sub s w (s.ch true x) false 0 B ∧ (∀ v, v ∈ ord c P x Q ↔ v = x ∨ v ∈ A ∨ v ∈ B) := by
      cases c with
      | false => exact ⟨P, Q, hP, hQ, fun v => mem_ord⟩
      | true => exact ⟨Q, P, hQ, hP, fun v => by rw [mem_ord]; grind⟩
    obtain ⟨A, B, hA, hB, hm⟩ := mx
    obtain ⟨a1, a2, a3⟩ := hA.omax_ok (s.wo x)
    obtain ⟨b1, b2, b3⟩ := hB.omax_ok (omax (s.wo x) s.mo (s.ch false x))
    have emo : (gather s x).mo x = omax (omax (s.wo x) s.mo (s.ch false x)) s.mo (s.ch true x) := up_same _ _ _
    refine ⟨?_, ?_, fun v hv => ?_, ?_⟩
    · show up s.mn x _ x = _
      rw [up_same, em, len_ord]; omega
    · show up s.to x _ x + _ = _
      rw [up_same, et, sum_ord]; omega
    · rw [emo]
      rcases (hm v).mp hv with rfl | hv | hv
      · omega
      · have := a2 v hv; omega
      · have := b2 v hv; omega
    · rw [emo]
      rcases b3 with e | ⟨v, hv, e⟩
      · rw [e]
        rcases a3 with e | ⟨v, hv, e⟩
        · exact ⟨x, (hm x).mpr (.inl rfl), by omega⟩
        · exact ⟨v, (hm v).mpr (.inr (.inl hv)), by omega⟩
      · exact ⟨v, (hm v).mpr (.inr (.inr hv)), by omega⟩
def turnPtr (s : S) (x u : Nat) (b : Bool) : S := setAbO (setAb (setCh (setCh s b u (s.ch (!b) x)) (!b) x (some u)) u (some x)) (s.ch (!b) x) (some u)
theorem turnAt_eq (s : S) (x u : Nat) (b : Bool) : turnAt s x u b = tick (gather (gather (turnPtr s x u b) u) x) := rfl
theorem turnPtr_ch (s : S) (x u : Nat) (b : Bool) : (turnPtr s x u b).ch = upc (upc s.ch b u (s.ch (!b) x)) (!b) x (some u) := by
  unfold turnPtr; cases s.ch (!b) x <;> rfl
theorem turnPtr_ab (s : S) (x u : Nat) (b : Bool) (v : Nat) : (turnPtr s x u b).ab v = if s.ch (!b) x = some v then some u else if v = u then some x else s.ab v := by
  unfold turnPtr
  cases h : s.ch (!b) x with
  | none => simp [setAbO, setAb, setCh, up_get]
  | some y => simp [setAbO, setAb, setCh, up_get]; grind
theorem turnPtr_same (s : S) (x u : Nat) (b : Bool) : (turnPtr s x u b).fl = s.fl ∧ (turnPtr s x u b).lt = s.lt ∧ (turnPtr s x u b).wo = s.wo ∧ (turnPtr s x u b).mn = s.mn ∧ (turnPtr s x u b).to = s.to ∧ (turnPtr s x u b).mo = s.mo ∧ (turnPtr s x u b).n = s.n ∧ (turnPtr s x u b).cnt = s.cnt := by
  unfold turnPtr; cases s.ch (!b) x <;> exact ⟨rfl, rfl, rfl, rfl, rfl, rfl, rfl, rfl⟩
theorem ord_turn (c : Bool) (P Q R : List Nat) (x u : Nat) : ord c P x (ord c Q u R) = ord c (ord c P x Q) u R := by
  cases c <;> simp [ord]
theorem turnAt_sub {s : S} {w : Nat → Int} {x u : Nat} {c : Bool} {C R : List Nat} (hu : s.ch c u = some x) (hC : Sub s w (some x) false 0 C) (hR : Sub s w (s.ch (!c) u) false 0 R)
    (hRab : ∀ y, s.ch (!c) u = some y → s.ab y = some u) (fx : s.fl x = false) (lx : s.lt x = 0) (fu : s.fl u = false) (lu : s.lt u = 0) (hwu : s.wo u = w u) (hN : (ord c C u R).Nodup) :
    Sub (turnAt s x u c) w (some x) false 0 (ord c C u R) ∧ (turnAt s x u c).fl = s.fl ∧ (turnAt s x u c).lt = s.lt ∧ (turnAt s x u c).wo = s.wo ∧ (turnAt s x u c).n = s.n ∧ (turnAt s x u c).cnt = s.cnt + 1 ∧
      Fr s (turnAt s x u c) (ord c C u R) ∧ (turnAt s x u c).ab x = s.ab x := by
  obtain ⟨P, Q, h1, h2, h3, h4, h5, h6⟩ := hC.side c
  rw [fx, lx] at h2 h3
  have h5' : C = ord c P x Q := by rw [h5, fx]; cases c <;> rfl
  have hN' := nd_ord.mp hN
  have hNC := nd_ord.mp (h5' ▸ hN'.2.2.1)
  have xC := hC.root_mem
  have hxu : x ≠ u := fun e => hN'.1 (e ▸ xC)
  obtain ⟨e1, e2, e3, e4, e5, e6, e7, e8⟩ := turnPtr_same s x u c
  have ech := turnPtr_ch s x u c
  have eab := turnPtr_ab s x u c
  have hPu : ∀ v ∈ P, v ≠ u := fun v hv e => hN'.1 (e ▸ (h5' ▸ mem_ord.mpr (.inr (.inl hv))))
  have hQu : ∀ v ∈ Q, v ≠ u := fun v hv e => hN'.1 (e ▸ (h5' ▸ mem_ord.mpr (.inr (.inr hv))))
  have hPx : ∀ v ∈ P, v ≠ x := fun v hv e => hNC.1 (e ▸ hv)
  have hQx : ∀ v ∈ Q, v ≠ x := fun v hv e => hNC.2.1 (e ▸ hv)
  have hRx : ∀ v ∈ R, v ≠ x := fun v hv e => hN'.2.2.2.2 x xC (e ▸ hv)
  have hRu : ∀ v ∈ R, v ≠ u := fun v hv e => hN'.2.1 (e ▸ hv)
  have hPQ : ∀ v ∈ P, v ∉ Q := hNC.2.2.2.2
  have hRQ : ∀ v ∈ R, v ∉ Q := fun v hv q => hN'.2.2.2.2 v (h5' ▸ mem_ord.mpr (.inr (.inr q))) hv
  have innerQ : ∀ v, s.ch (!c) x = some v → v ∈ Q := fun v e => by rw [e] at h3; exact h3.root_mem
  have al : ∀ v, v ≠ x → v ≠ u → Alike s (turnPtr s x u c) v := fun v a b =>
    ⟨fun c' => by rw [ech]; simp only [upc_get]; rw [if_neg (fun q => a q.2), if_neg (fun q => b q.2)], by rw [e1], by rw [e2], by rw [e3], by rw [e4], by rw [e5], by rw [e6]⟩
  have abk : ∀ v, v ∉ Q → v ≠ u → (turnPtr s x u c).ab v = s.ab v := fun v a b => by
    rw [eab, if_neg (fun q => a (innerQ v q)), if_neg b]
  have tP : Sub (turnPtr s x u c) w (s.ch c x) false 0 P := h2.frame (fun v hv => al v (hPx v hv) (hPu v hv)) (fun v hv _ => abk v (hPQ v hv) (hPu v hv)) hNC.2.2.1 (fun _ _ => rfl)
  have tQ : Sub (turnPtr s x u c) w (s.ch (!c) x) false 0 Q := h3.frame (fun v hv => al v (hQx v hv) (hQu v hv)) (fun v hv hne => by rw [eab, if_neg hne, if_neg (hQu v hv)]) hNC.2.2.2.1 (fun _ _ => rfl)
  have tR : Sub (turnPtr s x u c) w (s.ch (!c) u) false 0 R := hR.frame (fun v hv => al v (hRx v hv) (hRu v hv)) (fun v hv _ => abk v (hRQ v hv) (hRu v hv)) hN'.2.2.2.1 (fun _ _ => rfl)
  have cu : (turnPtr s x u c).ch c u = s.ch (!c) x := by rw [ech]; simp only [upc_get]; rw [if_neg (fun q => hxu q.2.symm)]; simp
  have cu' : (turnPtr s x u c).ch (!c) u = s.ch (!c) u := by
    rw [ech]; simp only [upc_get]; rw [if_neg (fun q => hxu q.2.symm), if_neg]; intro q; have := q.1; cases c <;> cases this
  have cx : (turnPtr s x u c).ch c x = s.ch c x := by
    rw [ech]; simp only [upc_get]; rw [if_neg, if_neg (fun q => hxu q.2)]; intro q; have := q.1; cases c <;> cases this
  have cx' : (turnPtr s x u c).ch (!c) x = some u := by rw [ech]; simp [upc_get]
  have hNu : (ord c Q u R).Nodup := nd_ord.mpr ⟨fun q => hQu u q rfl, hN'.2.1, hNC.2.2.2.1, hN'.2.2.2.1, fun v q r => hRQ v r q⟩
  have gu : Sub (gather (turnPtr s x u c) u) w (some u) false 0 (ord c Q u R) := by
    refine gather_sub c (fun c' y hy => ?_) (by rw [cu]; exact tQ) (by rw [cu']; exact tR) (by rw [e1]; exact fu) (by rw [e2]; exact lu) (by rw [e3]; exact hwu) hNu
    by_cases q : c' = c
    · subst q; rw [cu] at hy; rw [eab, if_pos hy]
    · have q' : c' = !c := by cases c <;> cases c' <;> simp_all
      subst q'; rw [cu'] at hy
      have yR : y ∈ R := by rw [hy] at hR; exact hR.root_mem
      rw [abk y (hRQ y yR) (hRu y yR)]; exact hRab y hy
  have gP : Sub (gather (turnPtr s x u c) u) w (s.ch c x) false 0 P := tP.frame (fun v hv => gather_al _ (hPu v hv)) (fun _ _ _ => rfl) hNC.2.2.1 (fun _ _ => rfl)
  have hNx : (ord c P x (ord c Q u R)).Nodup := by rw [ord_turn, ← h5']; exact hN
  have uP : ∀ v, s.ch c x = some v → v ∈ P := fun v e => by rw [e] at h2; exact h2.root_mem
  have gx : Sub (gather (gather (turnPtr s x u c) u) x) w (some x) false 0 (ord c P x (ord c Q u R)) := by
    refine gather_sub c (fun c' y hy => ?_) (by show Sub _ w ((turnPtr s x u c).ch c x) false 0 P; rw [cx]; exact gP) (by show Sub _ w ((turnPtr s x u c).ch (!c) x) false 0 _; rw [cx']; exact gu)
      (by show (turnPtr s x u c).fl x = false; rw [e1]; exact fx) (by show (turnPtr s x u c).lt x = 0; rw [e2]; exact lx) (by show (turnPtr s x u c).wo x = w x; rw [e3]; omega) hNx
    show (turnPtr s x u c).ab y = some x
    have hy' : (turnPtr s x u c).ch c' x = some y := hy
    by_cases q : c' = c
    · subst q; rw [cx] at hy'
      rw [abk y (hPQ y (uP y hy')) (hPu y (uP y hy'))]; exact h1 _ y hy'
    · have q' : c' = !c := by cases c <;> cases c' <;> simp_all
      subst q'; rw [cx'] at hy'; cases hy'
      rw [eab, if_neg (fun q => hQu u (innerQ u q) rfl), if_pos rfl]
  rw [turnAt_eq]
  rw [ord_turn, ← h5'] at gx
  have gx' : Sub (tick (gather (gather (turnPtr s x u c) u) x)) w (some x) false 0 (ord c C u R) :=
    gx.frame (fun v _ => ⟨fun _ => rfl, rfl, rfl, rfl, rfl, rfl, rfl⟩) (fun _ _ _ => rfl) hN (fun _ _ => rfl)
  refine ⟨gx', e1, e2, e3, e7, by show (turnPtr s x u c).cnt + 1 = _; rw [e8], fun v hv => ?_, ?_⟩
  · have vu : v ≠ u := fun e => hv (e ▸ mem_ord.mpr (.inl rfl))
    have vx : v ≠ x := fun e => hv (e ▸ mem_ord.mpr (.inr (.inl xC)))
    have vQ : v ∉ Q := fun q => hv (mem_ord.mpr (.inr (.inl (h5' ▸ mem_ord.mpr (.inr (.inr q))))))
    have a := ((al v vx vu).trans (gather_al _ vu)).trans (gather_al _ vx)
    exact ⟨⟨a.ch, a.fl, a.lt, a.wo, a.mn, a.to, a.mo⟩, abk v vQ vu⟩
  · exact abk x (fun q => hQx x q rfl) hxu
end LC
end
section
set_option autoImplicit false
namespace LC
inductive Up (s : S) (w : Nat → Int) : Nat → List Nat → Nat → List Nat → Nat → Prop
  | top (x : Nat) (C : List Nat) : (∀ u, s.ab x = some u → u ∉ C) → Up s w x C x C 0
  | step (c : Bool) (u x : Nat) (C R : List Nat) (t : Nat) (D : List Nat) (k : Nat) : s.ch c u = some x → s.ab x = some u → s.fl u = false → s.lt u = 0 → s.wo u = w u →
      (∀ y, s.ch (!c) u = some y → s.ab y = some u) → Sub s w (s.ch (!c) u) false 0 R → Agg s w u 0 (ord c C u R) → Up s w u (ord c C u R) t D k → Up s w x C t D (k + 1)
theorem Up.sub {s : S} {w : Nat → Int} {x t k : Nat} {C D : List Nat} (h : Up s w x C t D k) : Sub s w (some x) false 0 C → Sub s w (some t) false 0 D := by
  induction h with
  | top x C _ => exact id
  | step c u x C R t D k h1 h2 h3 h4 h5 h6 h7 h8 _ ih =>
    intro hC
    refine ih (Sub.mk_side (P := C) (Q := R) c (fun c' y hy => ?_) ?_ ?_ ?_ ?_ h8)
    · by_cases q : c' = c
      · subst q; rw [h1] at hy; cases hy; exact h2
      · have q' : c' = !c := by cases c <;> cases c' <;> simp_all
        subst q'; exact h6 y hy
    · rw [h1, h3, h4]; exact hC
    · rw [h3, h4]; exact h7
    · omega
    · rw [h3]; cases c <;> rfl
theorem Up.mem {s : S} {w : Nat → Int} {x t k : Nat} {C D : List Nat} (h : Up s w x C t D k) : ∀ v ∈ C, v ∈ D := by
  induction h with
  | top x C _ => exact fun _ h => h
  | step c u x C R t D k h1 h2 h3 h4 h5 h6 h7 h8 _ ih => exact fun v hv => ih v (mem_ord.mpr (.inr (.inl hv)))
theorem Up.nd {s : S} {w : Nat → Int} {x t k : Nat} {C D : List Nat} (h : Up s w x C t D k) : D.Nodup → C.Nodup := by
  induction h with
  | top x C _ => exact id
  | step c u x C R t D k h1 h2 h3 h4 h5 h6 h7 h8 _ ih => exact fun hD => (nd_ord.mp (ih hD)).2.2.1
theorem Up.top_ab {s : S} {w : Nat → Int} {x t k : Nat} {C D : List Nat} (h : Up s w x C t D k) : ∀ u, s.ab t = some u → u ∉ D := by
  induction h with
  | top x C h => exact h
  | step c u x C R t D k h1 h2 h3 h4 h5 h6 h7 h8 _ ih => exact ih
theorem Up.top_mem {s : S} {w : Nat → Int} {x t k : Nat} {C D : List Nat} (h : Up s w x C t D k) : x ∈ C → t ∈ D := by
  induction h with
  | top x C h => exact id
  | step c u x C R t D k h1 h2 h3 h4 h5 h6 h7 h8 _ ih => exact fun _ => ih (mem_ord.mpr (.inl rfl))
theorem Up.len {s : S} {w : Nat → Int} {x t k : Nat} {C D : List Nat} (h : Up s w x C t D k) : k + C.length ≤ D.length := by
  induction h with
  | top x C h => omega
  | step c u x C R t D k h1 h2 h3 h4 h5 h6 h7 h8 _ ih => rw [len_ord] at ih; omega
theorem Up.zero {s : S} {w : Nat → Int} {x t : Nat} {C D : List Nat} (h : Up s w x C t D 0) : x = t ∧ C = D := by
  cases h; exact ⟨rfl, rfl⟩
theorem Up.frame {s s' : S} {w : Nat → Int} {x t k : Nat} {C D : List Nat} (h : Up s w x C t D k) (hN : D.Nodup) (hx : s'.ab x = s.ab x)
    (ha : ∀ v ∈ D, v ∉ C → Alike s s' v ∧ s'.ab v = s.ab v) : Up s' w x C t D k := by
  induction h with
  | top x C h => exact .top x C (by rw [hx]; exact h)
  | step c u x C R t D k h1 h2 h3 h4 h5 h6 h7 h8 hU ih =>
    have hNC := nd_ord.mp (hU.nd hN)
    have hu := ha u (hU.mem u (mem_ord.mpr (.inl rfl))) hNC.1
    have hR : ∀ v ∈ R, Alike s s' v ∧ s'.ab v = s.ab v := fun v hv => ha v (hU.mem v (mem_ord.mpr (.inr (.inr hv)))) (fun q => hNC.2.2.2.2 v q hv)
    refine .step c u x C R t D k (by rw [hu.1.ch]; exact h1) (by rw [hx]; exact h2) (by rw [hu.1.fl]; exact h3) (by rw [hu.1.lt]; exact h4) (by rw [hu.1.wo]; exact h5) (fun y hy => ?_) ?_ (h8.frame hu.1 fun _ _ => rfl)
      (ih hN hu.2 fun v hv hn => ha v hv fun q => hn (mem_ord.mpr (.inr (.inl q))))
    · rw [hu.1.ch] at hy
      have yR : y ∈ R := by rw [hy] at h7; exact h7.root_mem
      rw [(hR y yR).2]; exact h6 y hy
    · rw [hu.1.ch]
      exact h7.frame (fun v hv => (hR v hv).1) (fun v hv _ => (hR v hv).2) hNC.2.2.2.1 (fun _ _ => rfl)
def Out (s : S) (D : List Nat) : Prop := ∀ v, v ∉ D → ∀ c y, s.ch c v = some y → y ∉ D
theorem Out.fr {s s' : S} {D : List Nat} (h : Out s D) (f : Fr s s' D) : Out s' D := fun v hv c y hy => h v hv c y (by rw [← (f v hv).1.ch]; exact hy)
theorem top_of {s : S} {t : Nat} {D : List Nat} (hO : Out s D) (ht : t ∈ D) (h : ∀ u, s.ab t = some u → u ∉ D) : isTop s t = true := by
  unfold isTop
  cases e : s.ab t with
  | none => rfl
  | some u =>
    have h1 : ∀ c, s.ch c u ≠ some t := fun c q => hO u (h u e) c t q ht
    simp [h1]
theorem not_top {s : S} {c : Bool} {u x : Nat} (h1 : s.ch c u = some x) (h2 : s.ab x = some u) : isTop s x = false := by
  unfold isTop; rw [h2]
  cases c <;> simp [h1]
theorem setAb_sub {s : S} {w : Nat → Int} {o : Option Nat} {x : Nat} {g : Option Nat} {C : List Nat} (h : Sub s w o false 0 C) (hN : C.Nodup) (hx : o = some x ∨ x ∉ C) : Sub (setAb s x g) w o false 0 C := by
  refine h.frame (fun v _ => ⟨fun _ => rfl, rfl, rfl, rfl, rfl, rfl, rfl⟩) (fun v hv hne => up_ne _ _ fun e => ?_) hN (fun _ _ => rfl)
  rcases hx with q | q
  · exact hne (e ▸ q)
  · exact q (e ▸ hv)
theorem turn_step {s : S} {w : Nat → Int} {x t k : Nat} {C D : List Nat} (hC : Sub s w (some x) false 0 C) (fx : s.fl x = false) (lx : s.lt x = 0) (hU : Up s w x C t D (k + 1)) (hN : D.Nodup) (hO : Out s D) :
    ∃ C', Sub (turn s x) w (some x) false 0 C' ∧ Up (turn s x) w x C' (if k = 0 then x else t) D k ∧ (turn s x).fl = s.fl ∧ (turn s x).lt = s.lt ∧ (turn s x).wo = s.wo ∧ (turn s x).n = s.n ∧ (turn s x).cnt = s.cnt + 1 ∧
      Fr s (turn s x) D ∧ (turn s x).ab (if k = 0 then x else t) = s.ab t := by
  cases hU with
  | step c u _ _ R _ _ _ h1 h2 h3 h4 h5 h6 h7 h8 hU =>
  have hNC := nd_ord.mp (hU.nd hN)
  have xC := hC.root_mem
  have hxu : x ≠ u := fun e => hNC.1 (e ▸ xC)
  have uD : u ∈ D := hU.mem u (mem_ord.mpr (.inl rfl))
  have xD : x ∈ D := hU.mem x (mem_ord.mpr (.inr (.inl xC)))
  have side : ∀ (s2 : S), s2.ch c u = some x → s2.ch (!c) u = s.ch (!c) u → (if s2.ch false u = some x then turnAt s2 x u false else turnAt s2 x u true) = turnAt s2 x u c := by
    intro s2 e e'
    cases c with
    | false => rw [if_pos e]
    | true =>
      rw [if_neg]; intro q
      rw [show s2.ch false u = s.ch (!true) u from e'] at q
      rw [q] at h7
      exact hNC.2.2.2.2 x xC h7.root_mem
  cases hU with
  | top _ _ hT =>
    have tu : isTop s t = true := top_of hO uD hT
    have et : turn s x = turnAt (setAb s x (s.ab t)) x t c := by
      unfold turn; rw [h2]
      show (if (setAb (if isTop s t = true then s else _) x (s.ab t)).ch false t = some x then _ else _) = _
      rw [if_pos tu]
      exact side _ h1 rfl
    have xR : x ∉ R := fun q => hNC.2.2.2.2 x xC q
    obtain ⟨a1, a2, a3, a4, a5, a6, a7, a8⟩ := turnAt_sub (s := setAb s x (s.ab t)) (w := w) (x := x) (u := t) (c := c) (C := C) (R := R) h1 (setAb_sub hC hNC.2.2.1 (.inl rfl)) (setAb_sub h7 hNC.2.2.2.1 (.inr xR))
      (fun y hy => by
        have yR : y ∈ R := by rw [show s.ch (!c) t = some y from hy] at h7; exact h7.root_mem
        show up s.ab x _ y = _
        rw [up_ne _ _ (fun (e : y = x) => xR (e ▸ yR))]; exact h6 y hy) fx lx h3 h4 h5 hN
    rw [et, if_pos rfl]
    have abx : (turnAt (setAb s x (s.ab t)) x t c).ab x = s.ab t := by rw [a8]; exact up_same _ _ _
    refine ⟨_, a1, .top x _ (by rw [abx]; exact hT), a2, a3, a4, a5, a6, fun v hv => ?_, abx⟩
    obtain ⟨b1, b2⟩ := a7 v hv
    refine ⟨⟨b1.ch, b1.fl, b1.lt, b1.wo, b1.mn, b1.to, b1.mo⟩, ?_⟩
    rw [b2]; exact up_ne _ _ (fun e => hv (e ▸ xD))
  | step c' g _ _ R' _ _ k g1 g2 g3 g4 g5 g6 g7 g8 hU =>
    have hNg := nd_ord.mp (hU.nd hN)
    have tu : isTop s u = false := not_top g1 g2
    have uU : u ∈ ord c C u R := mem_ord.mpr (.inl rfl)
    have xU : x ∈ ord c C u R := mem_ord.mpr (.inr (.inl xC))
    have gu : g ≠ u := fun e => hNg.1 (e ▸ uU)
    have gx : g ≠ x := fun e => hNg.1 (e ▸ xU)
    have gD : g ∈ D := hU.mem g (mem_ord.mpr (.inl rfl))
    have epb : putBelow s (some g) u x = setCh s c' g (some x) := by
      show (if s.ch false g = some u then setCh s false g (some x) else if s.ch true g = some u then setCh s true g (some x) else s) = _
      cases c' with
      | false => rw [if_pos g1]
      | true =>
        rw [if_neg, if_pos g1]; intro q
        rw [show s.ch (!true) g = some u from q] at g7
        exact hNg.2.2.2.2 u uU g7.root_mem
    let s2 := setAb (setCh s c' g (some x)) x (some g)
    have ch2 : ∀ c v, v ≠ g → s2.ch c v = s.ch c v := fun c v hv => by
      show upc s.ch c' g (some x) c v = _
      rw [upc_get, if_neg (fun q => hv q.2)]
    have et : turn s x = turnAt s2 x u c := by
      unfold turn; rw [h2]
      have e0 : (if isTop s u = true then s else putBelow s (s.ab u) u x) = setCh s c' g (some x) := by rw [tu, g2, epb]; rfl
      have e1 : setAb (if isTop s u = true then s else putBelow s (s.ab u) u x) x (s.ab u) = s2 := by rw [e0, g2]
      show (if (setAb (if isTop s u = true then s else putBelow s (s.ab u) u x) x (s.ab u)).ch false u = some x then turnAt (setAb (if isTop s u = true then s else putBelow s (s.ab u) u x) x (s.ab u)) x u false else turnAt (setAb (if isTop s u = true then s else putBelow s (s.ab u) u x) x (s.ab u)) x u true) = _
      rw [e1]
      exact side s2 (by rw [ch2 _ _ gu.symm]; exact h1) (ch2 _ _ gu.symm)
    have xR : x ∉ R := fun q => hNC.2.2.2.2 x xC q
    have al2 : ∀ v, v ≠ g → Alike s s2 v := fun v hv => ⟨fun c => ch2 c v hv, rfl, rfl, rfl, rfl, rfl, rfl⟩
    have ab2 : ∀ v, v ≠ x → s2.ab v = s.ab v := fun v hv => up_ne _ _ hv
    have gC : ∀ v ∈ C, v ≠ g := fun v hv e => hNg.1 (e ▸ mem_ord.mpr (.inr (.inl hv)))
    have gR : ∀ v ∈ R, v ≠ g := fun v hv e => hNg.1 (e ▸ mem_ord.mpr (.inr (.inr hv)))
    have C2 : Sub s2 w (some x) false 0 C := hC.frame (fun v hv => al2 v (gC v hv)) (fun v hv hne => ab2 v (fun e => hne (by rw [e]))) hNC.2.2.1 (fun _ _ => rfl)
    have R2 : Sub s2 w (s2.ch (!c) u) false 0 R := by
      rw [ch2 _ _ gu.symm]
      exact h7.frame (fun v hv => al2 v (gR v hv)) (fun v hv hne => ab2 v (fun e => xR (e ▸ hv))) hNC.2.2.2.1 (fun _ _ => rfl)
    obtain ⟨a1, a2, a3, a4, a5, a6, a7, a8⟩ := turnAt_sub (s := s2) (w := w) (x := x) (u := u) (c := c) (C := C) (R := R) (by rw [ch2 _ _ gu.symm]; exact h1) C2 R2
      (fun y hy => by
        rw [ch2 _ _ gu.symm] at hy
        have yR : y ∈ R := by rw [show s.ch (!c) u = some y from hy] at h7; exact h7.root_mem
        rw [ab2 y (fun e => xR (e ▸ yR))]; exact h6 y hy) fx lx h3 h4 h5 hNg.2.2.1
    rw [et]
    have abx : (turnAt s2 x u c).ab x = some g := by rw [a8]; exact up_same _ _ _
    have fr : ∀ v, v ∉ ord c C u R → v ≠ g → Alike s (turnAt s2 x u c) v ∧ (turnAt s2 x u c).ab v = s.ab v := fun v hv hg => by
      obtain ⟨b1, b2⟩ := a7 v hv
      exact ⟨(al2 v hg).trans b1, b2.trans (ab2 v (fun e => hv (e ▸ xU)))⟩
    obtain ⟨gb1, gb2⟩ := a7 g hNg.1
    have chg : (turnAt s2 x u c).ch c' g = some x := by
      rw [gb1.ch]; show upc s.ch c' g (some x) c' g = _
      rw [upc_get]; simp
    have chg' : (turnAt s2 x u c).ch (!c') g = s.ch (!c') g := by
      rw [gb1.ch]; show upc s.ch c' g (some x) (!c') g = _
      rw [upc_get, if_neg]; intro q; have := q.1; cases c' <;> cases this
    have abg : (turnAt s2 x u c).ab g = s.ab g := gb2.trans (ab2 g gx)
    have R'n : ∀ v ∈ R', v ∉ ord c C u R ∧ v ≠ g := fun v hv => ⟨fun q => hNg.2.2.2.2 v q hv, fun e => hNg.2.1 (e ▸ hv)⟩
    have ht : (if k + 1 = 0 then x else t) = t := if_neg (by omega)
    have aggg : Agg (turnAt s2 x u c) w g 0 (ord c' (ord c C u R) g R') := by
      obtain ⟨z1, z2, z3, z4⟩ := g8
      exact ⟨by rw [gb1.mn]; exact z1, by rw [gb1.to]; exact z2, by rw [gb1.mo]; exact z3, by rw [gb1.mo]; exact z4⟩
    refine ⟨_, a1, ?_, a2, a3, a4, a5, a6, fun v hv => ?_, ?_⟩
    · rw [ht]
      refine .step c' g x _ R' t D k chg abx (by rw [gb1.fl]; exact g3) (by rw [gb1.lt]; exact g4) (by rw [gb1.wo]; exact g5) (fun y hy => ?_) ?_ aggg ?_
      · rw [chg'] at hy
        have yR : y ∈ R' := by rw [hy] at g7; exact g7.root_mem
        rw [(fr y (R'n y yR).1 (R'n y yR).2).2]; exact g6 y hy
      · rw [chg']
        exact g7.frame (fun v hv => (fr v (R'n v hv).1 (R'n v hv).2).1) (fun v hv _ => (fr v (R'n v hv).1 (R'n v hv).2).2) hNg.2.2.2.1 (fun _ _ => rfl)
      · exact hU.frame hN abg fun v hv hn => fr v (fun q => hn (mem_ord.mpr (.inr (.inl q)))) (fun e => hn (e ▸ mem_ord.mpr (.inl rfl)))
    · exact fr v (fun q => hv (hU.mem v (mem_ord.mpr (.inr (.inl q))))) (fun e => hv (e ▸ gD))
    · rw [ht]
      cases hU with
      | top => exact abg
      | step c3 g3 _ _ R3 _ _ k3 i1 i2 _ _ _ _ _ _ hU =>
        have hN3 := nd_ord.mp (hU.nd hN)
        have tn : t ∉ ord c' (ord c C u R) g R' := by
          intro q
          have : ∀ {x t k : Nat} {C D : List Nat}, Up s w x C t D (k + 1) → D.Nodup → t ∉ C := by
            intro x t k
            induction k generalizing x with
            | zero =>
              intro C D h hD
              cases h with
              | step c u _ _ R _ _ _ _ _ _ _ _ _ _ _ h' =>
                obtain ⟨rfl, rfl⟩ := h'.zero
                exact (nd_ord.mp hD).1
            | succ k ih =>
              intro C D h hD
              cases h with
              | step c u _ _ R _ _ _ _ _ _ _ _ _ _ _ h' => exact fun q => ih h' hD (mem_ord.mpr (.inr (.inl q)))
          exact this (Up.step c3 g3 g _ R3 t D k3 i1 i2 ‹_› ‹_› ‹_› ‹_› ‹_› ‹_› hU) hN q
        exact (fr t (fun q => tn (mem_ord.mpr (.inr (.inl q)))) (fun e => tn (e ▸ mem_ord.mpr (.inl rfl)))).2
end LC
end
section
set_option autoImplicit false
namespace LC
theorem liftL_ok {w : Nat → Int} {D : List Nat} (hN : D.Nodup) : ∀ (k F : Nat) (s : S) (x t : Nat) (C : List Nat), Sub s w (some x) false 0 C → s.fl x = false → s.lt x = 0 → Up s w x C t D k → Out s D → k < F →
    ∃ s', liftL F s x = some s' ∧ Sub s' w (some x) false 0 D ∧ s'.fl = s.fl ∧ s'.lt = s.lt ∧ s'.wo = s.wo ∧ s'.n = s.n ∧ s'.cnt = s.cnt + k ∧ Fr s s' D ∧ s'.ab x = s.ab t := by
  intro k
  induction k using Nat.strongRecOn with
  | ind k ih =>
  intro F s x t C hC fx lx hU hO hF
  cases F with
  | zero => omega
  | succ F =>
  have xC := hC.root_mem
  cases k with
  | zero =>
    obtain ⟨rfl, rfl⟩ := hU.zero
    have tt : isTop s x = true := top_of hO xC hU.top_ab
    refine ⟨s, ?_, hC, rfl, rfl, rfl, rfl, rfl, Fr.refl _ _, rfl⟩
    show (if isTop s x = true then some s else _) = _
    rw [if_pos tt]
  | succ k =>
    obtain ⟨C1, a1, a2, a3, a4, a5, a6, a7, a8, a9⟩ := turn_step hC fx lx hU hN hO
    cases hU with
    | step c u _ _ R _ _ _ h1 h2 h3 h4 h5 h6 h7 h8 hU =>
    have nt : isTop s x = false := not_top h1 h2
    have xD : x ∈ D := hU.mem x (mem_ord.mpr (.inr (.inl xC)))
    cases k with
    | zero =>
      obtain ⟨rfl, rfl⟩ := hU.zero
      have tu : isTop s u = true := top_of hO (mem_ord.mpr (.inl rfl)) hU.top_ab
      rw [if_pos rfl] at a2 a9
      have := a2.zero
      obtain ⟨s', b1, b2, b3, b4, b5, b6, b7, b8, b9⟩ := ih 0 (by omega) F (turn s x) x x C1 a1 (by rw [a3]; exact fx) (by rw [a4]; exact lx) a2 (hO.fr a8) (by omega)
      refine ⟨s', ?_, b2, b3.trans a3, b4.trans a4, b5.trans a5, b6.trans a6, by omega, a8.trans b8, b9.trans a9⟩
      show (if isTop s x = true then some s else match s.ab x with | none => none | some u => _) = _
      rw [if_neg (by rw [nt]; decide), h2]
      show (if isTop s u = true then liftL F (turn s x) x else _) = _
      rw [if_pos tu]; exact b1
    | succ k =>
      have hC' := hC
      have hSu : Sub s w (some u) false 0 (ord c C u R) := Up.sub (.step c u x C R u _ 0 h1 h2 h3 h4 h5 h6 h7 h8 (.top u _ (by
        intro g hg q
        cases hU with
        | step c' g' _ _ R' _ _ _ g1 g2 _ _ _ _ _ _ hU' =>
          rw [g2] at hg; cases hg
          exact (nd_ord.mp (hU'.nd hN)).1 q))) hC
      have hUu := hU
      cases hU with
      | step c' g _ _ R' _ _ k g1 g2 g3 g4 g5 g6 g7 g8 hU =>
      have tu : isTop s u = false := not_top g1 g2
      have run : ∀ (y : Nat) (st : S), y = (if (s.ch false u == some x) == (s.ch false g == some u) then u else x) → liftL F (turn (turn s y) x) x = some st → liftL (F + 1) s x = some st := by
        intro y st hy hr
        show (if isTop s x = true then some s else match s.ab x with | none => none | some u => _) = _
        rw [if_neg (by rw [nt]; decide), h2]
        show (if isTop s u = true then liftL F (turn s x) x else match s.ab u with | none => none | some g => _) = _
        rw [if_neg (by rw [tu]; decide), g2]
        show liftL F (turn (turn s (if (s.ch false u == some x) == (s.ch false g == some u) then u else x)) x) x = _
        rw [← hy]; exact hr
      by_cases al : ((s.ch false u == some x) == (s.ch false g == some u)) = true
      · 
        obtain ⟨C2, e1, e2, e3, e4, e5, e6, e7, e8, e9⟩ := turn_step hSu h3 h4 hUu hN hO
        have hUx : ∃ C3, Sub (turn s u) w (some x) false 0 C3 ∧ Up (turn s u) w x C3 (if k = 0 then u else t) D (k + 1) ∧ (turn s u).ab (if k = 0 then u else t) = s.ab t := by
          have chx : (turn s u).ch c u = some x := by
            have same : c = c' := by
              have q1 : (s.ch false u == some x) = !c := by
                cases c with
                | false => rw [h1]; simp
                | true =>
                  have hh : s.ch false u ≠ some x := by
                    intro q
                    rw [show s.ch (!true) u = some x from q] at h7
                    exact (nd_ord.mp (hUu.nd hN)).2.2.2.2 x xC h7.root_mem
                  simp [hh]
              have q2 : (s.ch false g == some u) = !c' := by
                cases c' with
                | false => rw [g1]; simp
                | true =>
                  have hh : s.ch false g ≠ some u := by
                    intro q
                    rw [show s.ch (!true) g = some u from q] at g7
                    exact (nd_ord.mp (hU.nd hN)).2.2.2.2 u (mem_ord.mpr (.inl rfl)) g7.root_mem
                  simp [hh]
              rw [q1, q2] at al
              cases c <;> cases c' <;> simp_all
            subst same
            have gu : g ≠ u := fun e => (nd_ord.mp (hU.nd hN)).1 (e ▸ mem_ord.mpr (.inl rfl))
            have key : ∀ (s2 : S) (d : Bool), s2.ch c u = some x → s2.ch d g = some u → d = c → (turnAt s2 u g d).ch c u = some x := by
              rintro s2 d q1 q2 rfl
              rw [turnAt_eq]
              show (turnPtr s2 u g d).ch d u = _
              rw [turnPtr_ch]; simp only [upc_get]
              rw [if_neg (by intro z; have := z.1; cases d <;> cases this), if_neg (fun z => gu z.2.symm)]; exact q1
            unfold turn; rw [g2]
            have hpb : ∀ (o : Option Nat), (putBelow s o g u).ch c u = s.ch c u := by
              intro o
              cases o with
              | none => rfl
              | some f =>
                show (if s.ch false f = some g then setCh s false f (some u) else if s.ch true f = some g then setCh s true f (some u) else s).ch c u = _
                have fu : ∀ d, s.ch d f = some g → f ≠ u := by
                  intro d q e
                  rw [e] at q
                  have := (hSu.kids u (mem_ord.mpr (.inl rfl)) d g q).1
                  exact (nd_ord.mp (hU.nd hN)).1 this
                split
                · rename_i q; show upc _ _ _ _ _ _ = _; rw [upc_get, if_neg (fun z => fu _ q z.2.symm)]
                · split
                  · rename_i _ q; show upc _ _ _ _ _ _ = _; rw [upc_get, if_neg (fun z => fu _ q z.2.symm)]
                  · rfl
            have hpg : ∀ d, d = c → (putBelow s (s.ab g) g u).ch d g = some u := by
              rintro d rfl
              cases q : s.ab g with
              | none => exact g1
              | some f =>
                show (if s.ch false f = some g then setCh s false f (some u) else if s.ch true f = some g then setCh s true f (some u) else s).ch d g = _
                have fg : ∀ d, s.ch d f = some g → f ≠ g := by
                  intro d q' e
                  rw [e] at q'
                  cases hU with
                  | top _ _ hT => exact hT f q (e ▸ mem_ord.mpr (.inl rfl))
                  | step c3 g3 _ _ R3 _ _ _ i1 i2 _ _ _ _ _ _ hU3 =>
                    rw [i2] at q; cases q
                    exact (nd_ord.mp (hU3.nd hN)).1 (e ▸ mem_ord.mpr (.inl rfl))
                split
                · rename_i q'; show upc _ _ _ _ _ _ = _; rw [upc_get, if_neg (fun z => fg _ q' z.2.symm)]; exact g1
                · split
                  · rename_i _ q'; show upc _ _ _ _ _ _ = _; rw [upc_get, if_neg (fun z => fg _ q' z.2.symm)]; exact g1
                  · exact g1
            have s1c : (if isTop s g = true then s else putBelow s (s.ab g) g u).ch c u = some x := by
              split
              · exact h1
              · rw [hpb]; exact h1
            have s1g : (if isTop s g = true then s else putBelow s (s.ab g) g u).ch c g = some u := by
              split
              · exact g1
              · exact hpg c rfl
            show (if (setAb (if isTop s g = true then s else putBelow s (s.ab g) g u) u (s.ab g)).ch false g = some u then turnAt (setAb (if isTop s g = true then s else putBelow s (s.ab g) g u) u (s.ab g)) u g false else turnAt (setAb (if isTop s g = true then s else putBelow s (s.ab g) g u) u (s.ab g)) u g true).ch c u = some x
            cases c with
            | false =>
              rw [if_pos (show (setAb (if isTop s g = true then s else putBelow s (s.ab g) g u) u (s.ab g)).ch false g = some u from s1g)]
              exact key _ false s1c s1g rfl
            | true =>
              rw [if_neg]
              · exact key _ true s1c s1g rfl
              · intro q
                have q' : (if isTop s g = true then s else putBelow s (s.ab g) g u).ch false g = some u := q
                have q2 : s.ch false g = some u := by
                  split at q'
                  · exact q'
                  · cases qa : s.ab g with
                    | none => rw [qa] at q'; exact q'
                    | some f =>
                      rw [qa] at q'
                      have q3 : (if s.ch false f = some g then setCh s false f (some u) else if s.ch true f = some g then setCh s true f (some u) else s).ch false g = some u := q'
                      have fg : ∀ d, s.ch d f = some g → f ≠ g := by
                        intro d q' e
                        cases hU with
                        | top _ _ hT => exact hT f qa (e ▸ mem_ord.mpr (.inl rfl))
                        | step c3 g3 _ _ R3 _ _ _ i1 i2 _ _ _ _ _ _ hU3 =>
                          rw [i2] at qa; cases qa
                          exact (nd_ord.mp (hU3.nd hN)).1 (e ▸ mem_ord.mpr (.inl rfl))
                      split at q3
                      · rename_i z; rw [show (setCh s false f (some u)).ch false g = upc s.ch false f (some u) false g from rfl, upc_get, if_neg (fun y => fg _ z y.2.symm)] at q3; exact q3
                      · split at q3
                        · rename_i _ z; rw [show (setCh s true f (some u)).ch false g = upc s.ch true f (some u) false g from rfl, upc_get, if_neg (fun y => fg _ z y.2.symm)] at q3; exact q3
                        · exact q3
                rw [show s.ch (!true) g = some u from q2] at g7
                exact (nd_ord.mp (hU.nd hN)).2.2.2.2 u (mem_ord.mpr (.inl rfl)) g7.root_mem
          obtain ⟨P, Q, z1, z2, z3, z4, z5, z6⟩ := e1.side c
          rw [e3, e4, h3, h4] at z2 z3
          rw [chx] at z2
          rw [e3, h3, show (c ^^ (false ^^ false)) = c by cases c <;> rfl] at z5
          subst z5
          refine ⟨P, z2, ?_, e9⟩
          exact .step c u x P Q _ D k chx (z1 c x chx) (by rw [e3]; exact h3) (by rw [e4]; exact h4) (by omega) (fun y hy => z1 _ y hy) z3 z6 e2
        obtain ⟨C3, f1, f2, f3⟩ := hUx
        have hO2 := hO.fr e8
        obtain ⟨C4, i1, i2, i3, i4, i5, i6, i7, i8, i9⟩ := turn_step f1 (by rw [e3]; exact fx) (by rw [e4]; exact lx) f2 hN hO2
        obtain ⟨s', b1, b2, b3, b4, b5, b6, b7, b8, b9⟩ := ih k (by omega) F (turn (turn s u) x) x _ C4 i1 (by rw [i3, e3]; exact fx) (by rw [i4, e4]; exact lx) i2 (hO2.fr i8) (by omega)
        refine ⟨s', run u s' (by rw [if_pos al]) b1, b2, b3.trans (i3.trans e3), b4.trans (i4.trans e4), b5.trans (i5.trans e5), b6.trans (i6.trans e6), by omega, (e8.trans i8).trans b8, ?_⟩
        rw [b9, i9, f3]
      · have hO2 := hO.fr a8
        rw [if_neg (by omega : ¬ (k + 1 = 0))] at a2 a9
        obtain ⟨C4, i1, i2, i3, i4, i5, i6, i7, i8, i9⟩ := turn_step a1 (by rw [a3]; exact fx) (by rw [a4]; exact lx) a2 hN hO2
        obtain ⟨s', b1, b2, b3, b4, b5, b6, b7, b8, b9⟩ := ih k (by omega) F (turn (turn s x) x) x _ C4 i1 (by rw [i3, a3]; exact fx) (by rw [i4, a4]; exact lx) i2 (hO2.fr i8) (by omega)
        refine ⟨s', run x s' (by rw [if_neg al]) b1, b2, b3.trans (i3.trans a3), b4.trans (i4.trans a4), b5.trans (i5.trans a5), b6.trans (i6.trans a6), by omega, (a8.trans i8).trans b8, ?_⟩
        rw [b9, i9, a9]
end LC
end
section
set_option autoImplicit false
namespace LC
inductive Desc (s : S) : Nat → Nat → List Nat → Prop
  | here (x : Nat) : Desc s x x [x]
  | step (t : Nat) (c : Bool) (y x : Nat) (p : List Nat) : s.ch c t = some y → s.ab y = some t → Desc s y x p → Desc s t x (t :: p)
theorem Desc.of {s : S} {w : Nat → Int} {o : Option Nat} {b : Bool} {d : Int} {C : List Nat} (h : Sub s w o b d C) : ∀ x ∈ C, ∃ t p, o = some t ∧ Desc s t x p ∧ p.length ≤ C.length ∧ ∀ v ∈ p, v ∈ C := by
  induction h with
  | nil => intro x hx; cases hx
  | node z b d L R C h1 h2 h3 h4 h5 h6 i2 i3 =>
    intro x hx
    rw [h5, mem_ord] at hx
    rcases hx with rfl | hx | hx
    · exact ⟨x, [x], rfl, .here x, by rw [h5, len_ord]; simp, fun v hv => by rw [h5, mem_ord]; simp at hv; exact .inl hv⟩
    · obtain ⟨t, p, e, hp, hl, hm⟩ := i2 x hx
      refine ⟨z, z :: p, rfl, .step z false t x p e (h1 _ _ e) hp, by rw [h5, len_ord]; simp; omega, fun v hv => ?_⟩
      rw [h5, mem_ord]
      rcases List.mem_cons.mp hv with q | q
      · exact .inl q
      · exact .inr (.inl (hm v q))
    · obtain ⟨t, p, e, hp, hl, hm⟩ := i3 x hx
      refine ⟨z, z :: p, rfl, .step z true t x p e (h1 _ _ e) hp, by rw [h5, len_ord]; simp; omega, fun v hv => ?_⟩
      rw [h5, mem_ord]
      rcases List.mem_cons.mp hv with q | q
      · exact .inl q
      · exact .inr (.inr (hm v q))
theorem Desc.mem {s : S} {w : Nat → Int} {t x : Nat} {p : List Nat} (h : Desc s t x p) : ∀ {b : Bool} {d : Int} {C : List Nat}, Sub s w (some t) b d C → (∀ v ∈ p, v ∈ C) ∧ x ∈ C := by
  induction h with
  | here x => intro b d C hC; exact ⟨fun v hv => by simp at hv; subst hv; exact hC.root_mem, hC.root_mem⟩
  | step t c y x p h1 h2 _ ih =>
    intro b d C hC
    obtain ⟨P, Q, a1, a2, a3, a4, a5, a6⟩ := hC.side c
    rw [h1] at a2
    obtain ⟨i1, i2⟩ := ih a2
    refine ⟨fun v hv => ?_, by rw [a5, mem_ord]; exact .inr (.inl i2)⟩
    rw [a5, mem_ord]
    rcases List.mem_cons.mp hv with q | q
    · exact .inl q
    · exact .inr (.inl (i1 v q))
theorem Desc.frame {s s' : S} {t x : Nat} {p : List Nat} (h : Desc s t x p) : (∀ v ∈ p, ∀ c, s'.ch c v = s.ch c v) → s'.ab = s.ab → Desc s' t x p := by
  induction h with
  | here x => intro _ _; exact .here x
  | step t c y x p h1 h2 _ ih =>
    intro hc ha
    exact .step t c y x p (by rw [hc t List.mem_cons_self]; exact h1) (by rw [ha]; exact h2) (ih (fun v hv => hc v (List.mem_cons_of_mem _ hv)) ha)
theorem Desc.ne {s : S} {t x : Nat} {p : List Nat} (h : Desc s t x p) : ∃ q, p = t :: q := by
  cases h with
  | here => exact ⟨_, rfl⟩
  | step => exact ⟨_, rfl⟩
theorem climb_eq {s : S} {t x : Nat} {p : List Nat} (h : Desc s t x p) : ∀ (F : Nat) (acc : List Nat), climb s (F + p.length) x acc = climb s (F + 1) t (p.tail ++ acc) := by
  induction h with
  | here x => intro F acc; rfl
  | step t c y x p h1 h2 hp ih =>
    intro F acc
    obtain ⟨q, rfl⟩ := hp.ne
    have e := ih (F + 1) acc
    rw [show F + 1 + (y :: q).length = F + (t :: y :: q).length by simp; omega] at e
    rw [e]
    have nt := not_top h1 h2
    show (if isTop s y = true then _ else match s.ab y with | none => none | some u => climb s (F + 1) u (y :: (q ++ acc))) = _
    rw [if_neg (by rw [nt]; decide), h2]
    rfl
theorem climb_ok {s : S} {t x : Nat} {p : List Nat} (h : Desc s t x p) (ht : isTop s t = true) {F : Nat} (hF : p.length ≤ F) : climb s F x [] = some p := by
  obtain ⟨q, rfl⟩ := h.ne
  have e := climb_eq h (F - (t :: q).length) []
  rw [show F - (t :: q).length + (t :: q).length = F by omega] at e
  rw [e]
  show (if isTop s t = true then some (t :: (q ++ [])) else _) = _
  rw [if_pos ht, List.append_nil]
theorem unfold_ok {w : Nat → Int} {D : List Nat} (hN : D.Nodup) : ∀ (p : List Nat) (s : S) (t x top j : Nat) (C : List Nat), Desc s t x p → Sub s w (some t) false 0 C → Up s w t C top D j →
    ∃ C' j', Sub (p.foldl handDown s) w (some x) false 0 C' ∧ Up (p.foldl handDown s) w x C' top D j' ∧ (p.foldl handDown s).fl x = false ∧ (p.foldl handDown s).lt x = 0 ∧
      Fr s (p.foldl handDown s) D ∧ (p.foldl handDown s).ab = s.ab ∧ (p.foldl handDown s).n = s.n ∧ (p.foldl handDown s).cnt = s.cnt := by
  intro p
  induction p with
  | nil => intro s t x top j C h; cases h
  | cons a p ih =>
    intro s t x top j C h hC hU
    have ea : a = t := by obtain ⟨q, e⟩ := h.ne; cases e; rfl
    subst ea
    have hCN := hU.nd hN
    obtain ⟨b1, b2, b3, b4⟩ := handDown_sub hC hCN
    obtain ⟨e1, e2, e3, e4, e5⟩ := handDown_same s a
    have fr : Fr s (handDown s a) D := b4.mono hU.mem
    have hU1 : Up (handDown s a) w a C top D j := hU.frame hN (by rw [e1]) (fun v hv hn => b4 v hn)
    cases h with
    | here => exact ⟨C, j, b1, hU1, b2, b3, fr, e1, e2, e3⟩
    | step _ c y _ _ h1 h2 hp =>
      obtain ⟨c', hc'⟩ : ∃ c', (handDown s a).ch c' a = some y := by
        have : isKid (handDown s a) a y := (e5 y).mpr (by cases c with | false => exact .inl h1 | true => exact .inr h1)
        exact this.elim (fun q => ⟨false, q⟩) (fun q => ⟨true, q⟩)
      obtain ⟨P, Q, z1, z2, z3, z4, z5, z6⟩ := b1.side c'
      rw [b2, b3] at z2 z3
      rw [hc'] at z2
      rw [b2, show (c' ^^ (false ^^ false)) = c' by cases c' <;> rfl] at z5
      subst z5
      have hUy : Up (handDown s a) w y P top D (j + 1) := .step c' a y P Q top D j hc' (z1 c' y hc') b2 b3 (by omega) (fun y hy => z1 _ y hy) z3 z6 hU1
      have aP : a ∉ p := by
        intro q
        obtain ⟨P0, Q0, y1, y2, y3, y4, y5, y6⟩ := hC.side c
        rw [h1] at y2
        have := (hp.mem y2).1 a q
        rw [y5] at hCN
        exact (nd_ord.mp hCN).1 this
      have hp' : Desc (handDown s a) y x p := hp.frame (fun v hv c => e4 c v (fun e => aP (e ▸ hv))) e1
      obtain ⟨C', j', i1, i2, i3, i4, i5, i6, i7, i8⟩ := ih (handDown s a) y x top (j + 1) P hp' z2 hUy
      exact ⟨C', j', i1, i2, i3, i4, fr.trans i5, i6.trans e1, i7.trans e2, i8.trans e3⟩
theorem lift_ok {s : S} {w : Nat → Int} {t x : Nat} {D : List Nat} (hD : Sub s w (some t) false 0 D) (hN : D.Nodup) (hO : Out s D) (hT : ∀ u, s.ab t = some u → u ∉ D) (hx : x ∈ D) (hn : D.length ≤ s.n) (hM : MnOk s) :
    ∃ s', lift s x = some s' ∧ Sub s' w (some x) false 0 D ∧ s'.fl x = false ∧ s'.lt x = 0 ∧ s'.n = s.n ∧ s'.cnt ≤ s.cnt + D.length ∧ Fr s s' D ∧ s'.ab x = s.ab t := by
  obtain ⟨t', p, e, hp, hl, hm⟩ := Desc.of hD x hx
  cases e
  have tt : isTop s t = true := top_of hO hD.root_mem hT
  have ec : climb s (s.n + 1) x [] = some p := climb_ok hp tt (by omega)
  obtain ⟨C', j', i1, i2, i3, i4, i5, i6, i7, i8⟩ := unfold_ok hN p s t x t 0 D hp hD (.top t D hT)
  have hj := i2.len
  have : 0 < C'.length := List.length_pos_of_mem i1.root_mem
  obtain ⟨s', b1, b2, b3, b4, b5, b6, b7, b8, b9⟩ := liftL_ok hN j' (s.n + 1) (p.foldl handDown s) x t C' i1 i3 i4 i2 (hO.fr i5) (by omega)
  refine ⟨s', ?_, b2, by rw [b3]; exact i3, by rw [b4]; exact i4, b6.trans i7, by omega, i5.trans b8, by rw [b9, i6]⟩
  unfold lift; rw [if_pos hM, ec]; exact b1
theorem tick_fr (s : S) (D : List Nat) : Fr s (tick s) D := fun _ _ => ⟨⟨fun _ => rfl, rfl, rfl, rfl, rfl, rfl, rfl⟩, rfl⟩
theorem Sub.tick {s : S} {w : Nat → Int} {o : Option Nat} {b : Bool} {d : Int} {C : List Nat} (h : Sub s w o b d C) (hN : C.Nodup) : Sub (tick s) w o b d C :=
  h.frame (fun _ _ => ⟨fun _ => rfl, rfl, rfl, rfl, rfl, rfl, rfl⟩) (fun _ _ _ => rfl) hN (fun _ _ => rfl)
theorem letGo_ok {s : S} {w : Nat → Int} {x : Nat} {D : List Nat} (hD : Sub s w (some x) false 0 D) (hN : D.Nodup) (fx : s.fl x = false) (lx : s.lt x = 0) :
    ∃ L R, D = L ++ x :: R ∧ Sub (letGo s x) w (some x) false 0 (L ++ [x]) ∧ (letGo s x).ch true x = none ∧ Sub (letGo s x) w (s.ch true x) false 0 R ∧ (s.ch true x = none → R = []) ∧ (∀ r, s.ch true x = some r → s.ab r = some x) ∧
      (letGo s x).fl = s.fl ∧ (letGo s x).lt = s.lt ∧ (letGo s x).ab = s.ab ∧ (letGo s x).n = s.n ∧ (letGo s x).cnt = s.cnt + 1 ∧ Fr s (letGo s x) [x] ∧ (letGo s x).ch false x = s.ch false x := by
  obtain ⟨L, R, h1, h2, h3, h4, h5, h6⟩ := hD.inv
  rw [fx, lx] at h2 h3
  rw [fx] at h5
  have h5' : D = L ++ x :: R := h5
  have hN' := nd_ord.mp (h5 ▸ hN)
  cases hr : s.ch true x with
  | none =>
    rw [hr] at h3
    have hR := h3.inv_none
    subst hR
    have e : letGo s x = tick s := by unfold letGo; rw [hr]
    rw [e]
    exact ⟨L, [], h5', by rw [← h5']; exact hD.tick hN, hr, .nil _ _, fun _ => rfl, (fun r q => by cases q), rfl, rfl, rfl, rfl, rfl, tick_fr _ _, rfl⟩
  | some r =>
    have e : letGo s x = tick (gather (setCh s true x none) x) := by unfold letGo; rw [hr]
    have fr : Fr s (letGo s x) [x] := by
      intro v hv
      have hvx : v ≠ x := by simpa using hv
      rw [e]
      refine ⟨⟨fun c => ?_, rfl, rfl, rfl, up_ne _ _ hvx, up_ne _ _ hvx, up_ne _ _ hvx⟩, rfl⟩
      show upc s.ch true x none c v = _
      rw [upc_get, if_neg (fun q => hvx q.2)]
    have chx : ∀ c, (setCh s true x none).ch c x = if c = true then none else s.ch c x := fun c => by
      show upc s.ch true x none c x = _
      rw [upc_get]; simp
    have fL : Sub (setCh s true x none) w (s.ch false x) false 0 L := h2.frame (fun v hv => by
      have hvx : v ≠ x := fun q => hN'.1 (q ▸ hv)
      refine ⟨fun c => ?_, rfl, rfl, rfl, rfl, rfl, rfl⟩
      show upc s.ch true x none c v = _
      rw [upc_get, if_neg (fun q => hvx q.2)]) (fun _ _ _ => rfl) hN'.2.2.1 (fun _ _ => rfl)
    have g : Sub (gather (setCh s true x none) x) w (some x) false 0 (ord false L x []) := by
      refine gather_sub false (fun c y hy => ?_) (by rw [chx]; exact fL) (by rw [chx]; exact .nil _ _) fx lx (by show s.wo x = w x; omega) (nd_ord.mpr ⟨hN'.1, by simp, hN'.2.2.1, by simp, by simp⟩)
      rw [chx] at hy
      cases c with
      | false => exact h1 false y hy
      | true => cases hy
    rw [e] at *
    refine ⟨L, R, h5', g.tick (nd_ord.mpr ⟨hN'.1, by simp, hN'.2.2.1, by simp, by simp⟩), by show (setCh s true x none).ch true x = none; rw [chx]; rfl, ?_, (fun q => by cases q), fun r' q => h1 true r' (hr.trans q), rfl, rfl, rfl, rfl, rfl, fr, by show (setCh s true x none).ch false x = _; rw [chx]; rfl⟩
    rw [hr] at h3
    refine h3.frame (fun v hv => (fr v ?_).1) (fun v hv _ => (fr v ?_).2) hN'.2.2.2.1 (fun _ _ => rfl) <;>
    · simp; exact fun q => hN'.2.1 (q ▸ hv)
theorem takeIn_ok {s : S} {w : Nat → Int} {u x : Nat} {A B : List Nat} (hA : Sub s w (some u) false 0 A) (hB : Sub s w (some x) false 0 B) (hN : (A ++ B).Nodup) (fu : s.fl u = false) (lu : s.lt u = 0) (hr : s.ch true u = none) (hx : s.ab x = some u) :
    Sub (takeIn s u x) w (some u) false 0 (A ++ B) ∧ (takeIn s u x).fl = s.fl ∧ (takeIn s u x).lt = s.lt ∧ (takeIn s u x).ab = s.ab ∧ (takeIn s u x).n = s.n ∧ (takeIn s u x).cnt = s.cnt + 1 ∧ Fr s (takeIn s u x) [u] := by
  obtain ⟨L, R, h1, h2, h3, h4, h5, h6⟩ := hA.inv
  rw [fu, lu] at h2 h3
  rw [fu] at h5
  rw [hr] at h3
  have hR := h3.inv_none
  subst hR
  have h5' : A = L ++ [u] := h5
  have hN0 : (ord false L u B).Nodup := by rw [h5'] at hN; simpa [ord] using hN
  have hN' := nd_ord.mp hN0
  have chu : ∀ c, (setCh s true u (some x)).ch c u = if c = true then some x else s.ch c u := fun c => by
    show upc s.ch true u (some x) c u = _
    rw [upc_get]; simp
  have al : ∀ v, v ≠ u → Alike s (setCh s true u (some x)) v := fun v hv => ⟨fun c => by
    show upc s.ch true u (some x) c v = _
    rw [upc_get, if_neg (fun q => hv q.2)], rfl, rfl, rfl, rfl, rfl, rfl⟩
  have g : Sub (gather (setCh s true u (some x)) u) w (some u) false 0 (ord false L u B) := by
    refine gather_sub false (fun c y hy => ?_) ?_ ?_ fu lu (by show s.wo u = w u; omega) hN0
    · rw [chu] at hy
      cases c with
      | false => exact h1 false y hy
      | true => cases hy; exact hx
    · rw [chu]; exact h2.frame (fun v hv => al v (fun q => hN'.1 (q ▸ hv))) (fun _ _ _ => rfl) hN'.2.2.1 (fun _ _ => rfl)
    · rw [chu]; exact hB.frame (fun v hv => al v (fun q => hN'.2.1 (q ▸ hv))) (fun _ _ _ => rfl) hN'.2.2.2.1 (fun _ _ => rfl)
  have e : ord false L u B = A ++ B := by rw [h5']; simp [ord]
  rw [← e]
  refine ⟨g.tick hN0, rfl, rfl, rfl, rfl, rfl, fun v hv => ?_⟩
  have hvu : v ≠ u := by simpa using hv
  have a := (al v hvu).trans (gather_al _ hvu)
  exact ⟨⟨a.ch, a.fl, a.lt, a.wo, a.mn, a.to, a.mo⟩, rfl⟩
end LC
end
section
set_option autoImplicit false
namespace LC
def Adj (par : Nat → Option Nat) (x y : Nat) : Prop := par x = some y ∨ par y = some x
inductive Conn (E : Nat → Nat → Prop) : Nat → Nat → Prop
  | refl (a : Nat) : Conn E a a
  | step (a c b : Nat) : E a c → Conn E c b → Conn E a b
theorem Conn.trans {E : Nat → Nat → Prop} {a b c : Nat} (h : Conn E a b) (k : Conn E b c) : Conn E a c := by
  induction h with
  | refl => exact k
  | step a c b e _ ih => exact .step a _ _ e (ih k)
theorem Conn.one {E : Nat → Nat → Prop} {a b : Nat} (h : E a b) : Conn E a b := .step a b b h (.refl b)
theorem Conn.symm {E : Nat → Nat → Prop} (hE : ∀ x y, E x y → E y x) {a b : Nat} (h : Conn E a b) : Conn E b a := by
  induction h with
  | refl => exact .refl _
  | step a c b e _ ih => exact ih.trans (.one (hE _ _ e))
theorem Conn.mono {E F : Nat → Nat → Prop} (hE : ∀ x y, E x y → F x y) {a b : Nat} (h : Conn E a b) : Conn F a b := by
  induction h with
  | refl => exact .refl _
  | step a c b e _ ih => exact .step a c b (hE _ _ e) ih
theorem Conn.congr {E F : Nat → Nat → Prop} (hE : ∀ x y, E x y ↔ F x y) {a b : Nat} : Conn E a b ↔ Conn F a b := ⟨Conn.mono fun x y => (hE x y).mp, Conn.mono fun x y => (hE x y).mpr⟩
theorem Adj.symm {par : Nat → Option Nat} {x y : Nat} (h : Adj par x y) : Adj par y x := h.elim .inr .inl
inductive Reaches (par : Nat → Option Nat) : Nat → Prop
  | root (x : Nat) : par x = none → Reaches par x
  | step (x y : Nat) : par x = some y → Reaches par y → Reaches par x
inductive Dep (par : Nat → Option Nat) : Nat → Nat → Prop
  | root (x : Nat) : par x = none → Dep par x 0
  | step (x y k : Nat) : par x = some y → Dep par y k → Dep par x (k + 1)
theorem Reaches.dep {par : Nat → Option Nat} {x : Nat} (h : Reaches par x) : ∃ k, Dep par x k := by
  induction h with
  | root x h => exact ⟨0, .root x h⟩
  | step x y h _ ih => obtain ⟨k, hk⟩ := ih; exact ⟨k + 1, .step x y k h hk⟩
theorem Dep.det {par : Nat → Option Nat} {x k l : Nat} (h : Dep par x k) (h' : Dep par x l) : k = l := by
  induction h generalizing l with
  | root x h =>
    cases h' with
    | root => rfl
    | step _ y _ e _ => rw [h] at e; cases e
  | step x y k e _ ih =>
    cases h' with
    | root _ h => rw [h] at e; cases e
    | step _ z l e' h' => rw [e] at e'; cases e'; rw [ih h']
theorem rank_of {par : Nat → Option Nat} (h : ∀ x, Reaches par x) : ∃ rank : Nat → Nat, ∀ x y, par x = some y → rank y < rank x := by
  have hd : ∀ x, ∃ k, Dep par x k := fun x => (h x).dep
  refine ⟨fun x => Classical.choose (hd x), fun x y e => ?_⟩
  have h1 := Classical.choose_spec (hd x)
  have h2 := Classical.choose_spec (hd y)
  have := h1.det (.step x y _ e h2)
  show Classical.choose (hd y) < Classical.choose (hd x)
  omega
inductive DChain (par : Nat → Option Nat) : List Nat → Prop
  | nil : DChain par []
  | one (a : Nat) : DChain par [a]
  | cons (a b : Nat) (l : List Nat) : par b = some a → DChain par (b :: l) → DChain par (a :: b :: l)
theorem DChain.tail {par : Nat → Option Nat} {a : Nat} {l : List Nat} (h : DChain par (a :: l)) : DChain par l := by
  cases h with
  | one => exact .nil
  | cons _ b l _ h => exact h
theorem DChain.app_left {par : Nat → Option Nat} {l m : List Nat} (h : DChain par (l ++ m)) : DChain par l := by
  induction l with
  | nil => exact .nil
  | cons a l ih =>
    cases l with
    | nil => exact .one a
    | cons b l =>
      cases h with
      | cons _ _ _ e h => exact .cons a b l e (ih h)
theorem DChain.app_right {par : Nat → Option Nat} {l m : List Nat} (h : DChain par (l ++ m)) : DChain par m := by
  induction l with
  | nil => exact h
  | cons a l ih => exact ih h.tail
theorem DChain.mid {par : Nat → Option Nat} {l m : List Nat} {a b : Nat} (h : DChain par (l ++ a :: b :: m)) : par b = some a := by
  have h := h.app_right
  cases h with
  | cons _ _ _ e _ => exact e
theorem DChain.app {par : Nat → Option Nat} {l : List Nat} {a b : Nat} {m : List Nat} (h : DChain par (l ++ [a])) (k : DChain par (b :: m)) (e : par b = some a) : DChain par (l ++ a :: b :: m) := by
  induction l with
  | nil => exact .cons a b m e k
  | cons c l ih =>
    cases l with
    | nil =>
      cases h with
      | cons _ _ _ e' h => exact .cons c a _ e' (ih h)
    | cons d l =>
      cases h with
      | cons _ _ _ e' h => exact .cons c d _ e' (ih h)
theorem DChain.rank {par : Nat → Option Nat} {rank : Nat → Nat} (hr : ∀ x y, par x = some y → rank y < rank x) {a : Nat} {l : List Nat} (h : DChain par (a :: l)) : ∀ v ∈ l, rank a < rank v := by
  induction l generalizing a with
  | nil => intro v hv; cases hv
  | cons b l ih =>
    cases h with
    | cons _ _ _ e h =>
      intro v hv
      have h1 := hr b a e
      rcases List.mem_cons.mp hv with q | q
      · subst q; exact h1
      · exact Nat.lt_trans h1 (ih h v q)
theorem DChain.nodup {par : Nat → Option Nat} (hr : ∀ x, Reaches par x) {l : List Nat} (h : DChain par l) : l.Nodup := by
  obtain ⟨rank, hr⟩ := rank_of hr
  induction l with
  | nil => exact List.nodup_nil
  | cons a l ih => exact List.nodup_cons.mpr ⟨fun q => Nat.lt_irrefl _ (h.rank hr a q), ih h.tail⟩
theorem DChain.par_notin {par : Nat → Option Nat} (hr : ∀ x, Reaches par x) {a u : Nat} {l : List Nat} (h : DChain par (a :: l)) (e : par a = some u) : u ∉ a :: l := by
  obtain ⟨rank, hr⟩ := rank_of hr
  have h1 := hr a u e
  intro q
  rcases List.mem_cons.mp q with q | q
  · subst q; exact Nat.lt_irrefl _ h1
  · exact Nat.lt_irrefl _ (Nat.lt_trans h1 (h.rank hr u q))
theorem DChain.conn {par : Nat → Option Nat} {l : List Nat} {a : Nat} (h : DChain par (a :: l)) : ∀ v ∈ a :: l, Conn (Adj par) a v := by
  induction l generalizing a with
  | nil => intro v hv; simp at hv; subst hv; exact .refl _
  | cons b l ih =>
    cases h with
    | cons _ _ _ e h =>
      intro v hv
      rcases List.mem_cons.mp hv with q | q
      · subst q; exact .refl _
      · exact .step a b v (.inr e) (ih h v q)
theorem DChain.conn2 {par : Nat → Option Nat} {l : List Nat} (h : DChain par l) {u v : Nat} (hu : u ∈ l) (hv : v ∈ l) : Conn (Adj par) u v := by
  cases l with
  | nil => cases hu
  | cons a l => exact (Conn.symm (fun _ _ => Adj.symm) (h.conn u hu)).trans (h.conn v hv)
structure Strand (s : S) (par : Nat → Option Nat) (w : Nat → Int) (t : Nat) (C : List Nat) : Prop where
  sub : Sub s w (some t) false 0 C
  ch : DChain par C
  ab : ∀ h l, C = h :: l → s.ab t = par h
  top : ∀ u c, s.ab t = some u → s.ch c u ≠ some t
  lo : ∀ v ∈ C, v < s.n
structure Rep (s : S) (par : Nat → Option Nat) (w : Nat → Int) : Prop where
  ac : ∀ x, Reaches par x
  bd : ∀ x y, par x = some y → x < s.n ∧ y < s.n
  st : ∀ v, v < s.n → ∃ t C, v ∈ C ∧ Strand s par w t C
  out : ∀ v, s.n ≤ v → ∀ c, s.ch c v = none
section
variable {s s' : S} {par : Nat → Option Nat} {w : Nat → Int}
theorem Sub.parent {o : Option Nat} {b : Bool} {d : Int} {C : List Nat} (h : Sub s w o b d C) : ∀ v ∈ C, o ≠ some v → ∃ z ∈ C, ∃ c, s.ch c z = some v ∧ s.ab v = some z := by
  induction h with
  | nil => intro v hv; cases hv
  | node x b d L R C h1 h2 h3 h4 h5 h6 i2 i3 =>
    intro v hv hne
    rw [h5, mem_ord] at hv
    have hm : ∀ z, z ∈ C ↔ z = x ∨ z ∈ L ∨ z ∈ R := fun z => by rw [h5, mem_ord]
    rcases hv with rfl | hv | hv
    · exact absurd rfl hne
    · by_cases e : s.ch false x = some v
      · exact ⟨x, (hm x).mpr (.inl rfl), false, e, h1 _ _ e⟩
      · obtain ⟨z, z1, c, z2⟩ := i2 v hv e
        exact ⟨z, (hm z).mpr (.inr (.inl z1)), c, z2⟩
    · by_cases e : s.ch true x = some v
      · exact ⟨x, (hm x).mpr (.inl rfl), true, e, h1 _ _ e⟩
      · obtain ⟨z, z1, c, z2⟩ := i3 v hv e
        exact ⟨z, (hm z).mpr (.inr (.inr z1)), c, z2⟩
theorem Sub.det {o : Option Nat} {b : Bool} {d : Int} {C C' : List Nat} (h : Sub s w o b d C) (h' : Sub s w o b d C') : C = C' := by
  induction h generalizing C' with
  | nil => exact h'.inv_none.symm
  | node x b d L R C h1 h2 h3 h4 h5 h6 i2 i3 =>
    obtain ⟨L', R', _, k2, k3, _, k5, _⟩ := h'.inv
    rw [h5, k5, i2 k2, i3 k3]
theorem Strand.desc_in {t t' x : Nat} {p C' : List Nat} (h : Desc s t x p) (S' : Strand s par w t' C') : x ∈ C' → t ∈ C' := by
  induction h with
  | here x => exact id
  | step t c y x p h1 h2 _ ih =>
    intro hx
    have hy := ih hx
    by_cases e : t' = y
    · subst e; exact absurd h1 (S'.top t c h2)
    · obtain ⟨z, z1, c', z2, z3⟩ := S'.sub.parent y hy (fun q => e (Option.some.inj q))
      rw [h2] at z3; cases z3; exact z1
theorem Strand.uniq {t t' v : Nat} {C C' : List Nat} (h : Strand s par w t C) (h' : Strand s par w t' C') (hv : v ∈ C) (hv' : v ∈ C') : t = t' ∧ C = C' := by
  obtain ⟨t1, p, e, hp, _, _⟩ := Desc.of h.sub v hv
  cases e
  have ht := h'.desc_in hp hv'
  have et : t = t' := by
    apply Classical.byContradiction
    intro ne
    obtain ⟨z, z1, c, z2, z3⟩ := h'.sub.parent t ht (fun q => ne (Option.some.inj q).symm)
    exact h.top z c z3 z2
  subst et
  exact ⟨rfl, h.sub.det h'.sub⟩
theorem Strand.nd {t : Nat} {C : List Nat} (h : Strand s par w t C) (hR : Rep s par w) : C.Nodup := h.ch.nodup hR.ac
theorem Strand.ab_out {t : Nat} {C : List Nat} (h : Strand s par w t C) (hR : Rep s par w) : ∀ u, s.ab t = some u → u ∉ C := by
  intro u hu
  cases C with
  | nil => exact fun q => nomatch q
  | cons a l =>
    rw [h.ab a l rfl] at hu
    exact h.ch.par_notin hR.ac hu
theorem Strand.out {t : Nat} {C : List Nat} (h : Strand s par w t C) (hR : Rep s par w) : Out s C := by
  intro v hv c y hy hyC
  have hvn : v < s.n := by
    apply Nat.lt_of_not_le; intro q; rw [hR.out v q] at hy; cases hy
  obtain ⟨t', C', hv', S'⟩ := hR.st v hvn
  obtain ⟨y1, y2⟩ := S'.sub.kids v hv' c y hy
  obtain ⟨_, rfl⟩ := h.uniq S' hyC y1
  exact hv hv'
theorem nodup_len : ∀ (n : Nat) (l : List Nat), l.Nodup → (∀ v ∈ l, v < n) → l.length ≤ n := by
  intro n
  induction n with
  | zero =>
    intro l _ h
    cases l with
    | nil => simp
    | cons a l => exact absurd (h a List.mem_cons_self) (by omega)
  | succ n ih =>
    intro l hN h
    have h1 := ih (l.erase n) (hN.erase n) (fun v hv => by
      have := h v (List.mem_of_mem_erase hv)
      have hne : v ≠ n := fun e => by
        rw [e] at hv
        exact (List.Nodup.mem_erase_iff hN).mp hv |>.1 rfl
      omega)
    rw [List.length_erase] at h1
    split at h1 <;> omega
theorem Strand.len {t : Nat} {C : List Nat} (h : Strand s par w t C) (hR : Rep s par w) : C.length ≤ s.n := nodup_len _ _ (h.nd hR) h.lo
theorem Strand.frame {t : Nat} {C D : List Nat} (h : Strand s par w t C) (hN : C.Nodup) (fr : Fr s s' D) (hd : ∀ v ∈ C, v ∉ D) (cl : ∀ v ∈ D, ∀ c y, s'.ch c v = some y → y ∈ D) (hn : s'.n = s.n) : Strand s' par w t C := by
  have ht := h.sub.root_mem
  refine ⟨h.sub.frame (fun v hv => (fr v (hd v hv)).1) (fun v hv _ => (fr v (hd v hv)).2) hN (fun _ _ => rfl), h.ch, fun a l e => by rw [(fr t (hd t ht)).2]; exact h.ab a l e, fun u c hu q => ?_, by rw [hn]; exact h.lo⟩
  rw [(fr t (hd t ht)).2] at hu
  by_cases hD : u ∈ D
  · exact hd t ht (cl u hD c t q)
  · rw [(fr u hD).1.ch] at q; exact h.top u c hu q
theorem Rep.step {D : List Nat} (hR : Rep s par w) (hD : ∀ t C, Strand s par w t C → (∀ v ∈ C, v ∈ D) ∨ (∀ v ∈ C, v ∉ D)) (hDn : ∀ v ∈ D, v < s.n) (fr : Fr s s' D) (hn : s'.n = s.n) (cl : ∀ v ∈ D, ∀ c y, s'.ch c v = some y → y ∈ D)
    (new : ∀ v ∈ D, ∃ t C, v ∈ C ∧ Strand s' par w t C) : Rep s' par w := by
  refine ⟨hR.ac, fun x y e => by rw [hn]; exact hR.bd x y e, fun v hv => ?_, fun v hv c => ?_⟩
  · by_cases q : v ∈ D
    · obtain ⟨t, C, h1, h2⟩ := new v q
      exact ⟨t, C, h1, h2⟩
    · obtain ⟨t, C, h1, h2⟩ := hR.st v (hn ▸ hv)
      refine ⟨t, C, h1, h2.frame (h2.nd hR) fr ?_ cl hn⟩
      rcases hD t C h2 with h | h
      · exact absurd (h v h1) q
      · exact h
  · rw [hn] at hv
    rw [(fr v (fun q => by have := hDn v q; omega)).1.ch]; exact hR.out v hv c
theorem Rep.step1 {t : Nat} {D : List Nat} (hR : Rep s par w) (S : Strand s par w t D) (fr : Fr s s' D) (hn : s'.n = s.n) (cl : ∀ v ∈ D, ∀ c y, s'.ch c v = some y → y ∈ D)
    (new : ∀ v ∈ D, ∃ t C, v ∈ C ∧ Strand s' par w t C) : Rep s' par w := by
  refine hR.step (fun t' C S' => ?_) S.lo fr hn cl new
  by_cases q : ∃ v, v ∈ C ∧ v ∈ D
  · obtain ⟨v, h1, h2⟩ := q
    obtain ⟨_, rfl⟩ := S'.uniq S h1 h2
    exact .inl fun _ h => h
  · exact .inr fun v h1 h2 => q ⟨v, h1, h2⟩
theorem Sub.mn_le {o : Option Nat} {b : Bool} {d : Int} {C : List Nat} (h : Sub s w o b d C) : ∀ v ∈ C, 0 ≤ s.mn v ∧ s.mn v ≤ (C.length : Int) := by
  induction h with
  | nil => intro v hv; cases hv
  | node x b d L R C h1 h2 h3 h4 h5 h6 i2 i3 =>
    intro v hv
    have hl : C.length = L.length + R.length + 1 := by rw [h5, len_ord]
    rw [h5, mem_ord] at hv
    rcases hv with rfl | hv | hv
    · rw [h6.mn]; omega
    · have := i2 v hv; omega
    · have := i3 v hv; omega
theorem Rep.mnOk (hR : Rep s par w) (hn : s.n < 2 ^ 60) : MnOk s := by
  intro x hx
  obtain ⟨t, C, h1, h2⟩ := hR.st x hx
  have := h2.sub.mn_le x h1
  have := h2.len hR
  omega
theorem Rep.lift {t x : Nat} {D : List Nat} (hR : Rep s par w) (S : Strand s par w t D) (hx : x ∈ D) (hn : s.n < 2 ^ 60) :
    ∃ s', lift s x = some s' ∧ Rep s' par w ∧ Strand s' par w x D ∧ s'.fl x = false ∧ s'.lt x = 0 ∧ s'.n = s.n ∧ s'.cnt ≤ s.cnt + D.length ∧ Fr s s' D := by
  obtain ⟨s', h1, h2, h3, h4, h5, h6, h7, h8⟩ := lift_ok S.sub (S.nd hR) (S.out hR) (S.ab_out hR) hx (S.len hR) (hR.mnOk hn)
  have hO := (S.out hR).fr h7
  have S' : Strand s' par w x D := ⟨h2, S.ch, fun a l e => by rw [h8]; exact S.ab a l e, fun u c hu q => by
    rw [h8] at hu
    exact hO u (S.ab_out hR u hu) c x q hx, by rw [h5]; exact S.lo⟩
  exact ⟨s', h1, hR.step1 S h7 h5 (fun v hv c y hy => (h2.kids v hv c y hy).1) (fun v hv => ⟨x, D, hv, S'⟩), S', h3, h4, h5, h6, h7⟩
theorem Rep.letGo {x : Nat} {D : List Nat} (hR : Rep s par w) (S : Strand s par w x D) (fx : s.fl x = false) (lx : s.lt x = 0) :
    ∃ L R, D = L ++ x :: R ∧ Rep (letGo s x) par w ∧ Strand (letGo s x) par w x (L ++ [x]) ∧ (letGo s x).ch true x = none ∧ (letGo s x).fl x = false ∧ (letGo s x).lt x = 0 ∧ (letGo s x).n = s.n ∧ (letGo s x).cnt = s.cnt + 1 ∧ Fr s (letGo s x) D ∧ (∀ v ∈ D, ∀ c y, (letGo s x).ch c v = some y → y ∈ D) := by
  obtain ⟨L, R, h1, h2, h3, h4, h5, h6, h7, h8, h9, h10, h11, h12, h13⟩ := letGo_ok S.sub (S.nd hR) fx lx
  have hN := S.nd hR
  have xD := S.sub.root_mem
  have frD : Fr s (LC.letGo s x) D := h12.mono (fun v hv => by simp at hv; subst hv; exact xD)
  have cl : ∀ v ∈ D, ∀ c y, (LC.letGo s x).ch c v = some y → y ∈ D := by
    intro v hv c y hy
    by_cases e : v = x
    · subst e
      cases c with
      | false => rw [h13] at hy; exact (S.sub.kids v hv _ y hy).1
      | true => rw [h3] at hy; cases hy
    · rw [(h12 v (by simpa using e)).1.ch] at hy; exact (S.sub.kids v hv _ y hy).1
  have cL : DChain par (L ++ [x]) := by have := S.ch; rw [h1, show L ++ x :: R = (L ++ [x]) ++ R by simp] at this; exact this.app_left
  have S1 : Strand (LC.letGo s x) par w x (L ++ [x]) := by
    refine ⟨h2, cL, fun a l e => ?_, fun u c hu q => ?_, fun v hv => by rw [h10]; exact S.lo v (by rw [h1]; simp at hv ⊢; rcases hv with q | q <;> simp [q])⟩
    · rw [h9]
      cases L with
      | nil => cases e; exact S.ab _ _ h1
      | cons b L => cases e; exact S.ab _ _ h1
    · rw [h9] at hu
      have hu' := S.ab_out hR u hu
      rw [(frD u hu').1.ch] at q
      exact S.top u c hu q
  refine ⟨L, R, h1, hR.step1 S frD h10 cl (fun v hv => ?_), S1, h3, by rw [h7]; exact fx, by rw [h8]; exact lx, h10, h11, frD, cl⟩
  rw [h1, show L ++ x :: R = (L ++ [x]) ++ R by simp] at hv
  rcases List.mem_append.mp hv with q | q
  · exact ⟨x, _, q, S1⟩
  · cases hr : s.ch true x with
    | none => rw [h5 hr] at q; cases q
    | some r =>
      rw [hr] at h4
      refine ⟨r, R, q, h4, ?_, fun a l e => ?_, fun u c hu q' => ?_, fun v hv => by rw [h10]; exact S.lo v (by rw [h1]; simp [hv])⟩
      · have := S.ch; rw [h1, show L ++ x :: R = (L ++ [x]) ++ R by simp] at this; exact this.app_right
      · rw [h9, h6 r hr]
        have := S.ch; rw [h1, e] at this
        exact this.mid.symm
      · rw [h9, h6 r hr] at hu
        cases hu
        cases c with
        | true => rw [h3] at q'; cases q'
        | false => rw [h13] at q'; exact (S.sub.noself hN).2 r q' hr
theorem Rep.takeIn {u x : Nat} {A B : List Nat} (hR : Rep s par w) (SA : Strand s par w u (A ++ [u])) (SB : Strand s par w x B) (fu : s.fl u = false) (lu : s.lt u = 0) (hr : s.ch true u = none) (hx : s.ab x = some u) :
    Rep (takeIn s u x) par w ∧ Strand (takeIn s u x) par w u (A ++ u :: B) ∧ (takeIn s u x).fl = s.fl ∧ (takeIn s u x).lt = s.lt ∧ (takeIn s u x).ab = s.ab ∧ (takeIn s u x).n = s.n ∧ (takeIn s u x).cnt = s.cnt + 1 ∧ Fr s (takeIn s u x) [u] := by
  have hB := SB.sub.root_mem
  obtain ⟨b0, B', rfl⟩ : ∃ b0 B', B = b0 :: B' := by
    cases B with
    | nil => cases hB
    | cons b B => exact ⟨b, B, rfl⟩
  have pb : par b0 = some u := by rw [← SB.ab b0 B' rfl]; exact hx
  have cc : DChain par (A ++ u :: b0 :: B') := SA.ch.app SB.ch pb
  have hN : (A ++ [u] ++ b0 :: B').Nodup := by have := cc.nodup hR.ac; simpa using this
  obtain ⟨h2, h3, h4, h5, h6, h7, h8⟩ := takeIn_ok SA.sub SB.sub hN fu lu hr hx
  have e : A ++ [u] ++ b0 :: B' = A ++ u :: b0 :: B' := by simp
  rw [e] at h2 hN
  have uD : u ∈ A ++ u :: b0 :: B' := by simp
  have mD : ∀ v, v ∈ A ++ u :: b0 :: B' ↔ v ∈ A ++ [u] ∨ v ∈ b0 :: B' := fun v => by rw [← e, List.mem_append]
  have frD : Fr s (LC.takeIn s u x) (A ++ u :: b0 :: B') := h8.mono (fun v hv => by simp at hv; subst hv; exact uD)
  have S' : Strand (LC.takeIn s u x) par w u (A ++ u :: b0 :: B') := by
    refine ⟨h2, cc, fun a l el => ?_, fun v c hv q => ?_, fun v hv => ?_⟩
    · rw [h5]
      cases A with
      | nil => cases el; exact SA.ab _ _ rfl
      | cons a' A => cases el; exact SA.ab _ _ rfl
    · rw [h5] at hv
      have hvu : v ≠ u := fun e => SA.ab_out hR v hv (e ▸ SA.sub.root_mem)
      rw [(h8 v (by simpa using hvu)).1.ch] at q
      exact SA.top v c hv q
    · rw [h6]
      rcases (mD v).mp hv with q | q
      · exact SA.lo v q
      · exact SB.lo v q
  refine ⟨hR.step (fun t C S => ?_) (fun v hv => ?_) frD h6 (fun v hv c y hy => (h2.kids v hv c y hy).1) (fun v hv => ⟨u, _, hv, S'⟩), S', h3, h4, h5, h6, h7, h8⟩
  · by_cases q : ∃ v, v ∈ C ∧ v ∈ A ++ u :: b0 :: B'
    · obtain ⟨v, q1, q2⟩ := q
      rcases (mD v).mp q2 with q | q
      · obtain ⟨_, rfl⟩ := S.uniq SA q1 q
        exact .inl fun v hv => (mD v).mpr (.inl hv)
      · obtain ⟨_, rfl⟩ := S.uniq SB q1 q
        exact .inl fun v hv => (mD v).mpr (.inr hv)
    · exact .inr fun v h1 h2 => q ⟨v, h1, h2⟩
  · have := S'.lo v hv; rw [h6] at this; exact this
end
end LC
end
section
set_option autoImplicit false
namespace LC
section
variable {s s' : S} {par : Nat → Option Nat} {w : Nat → Int}
def FrC (par : Nat → Option Nat) (p : Nat) (s s' : S) : Prop := ∀ v, ¬ Conn (Adj par) p v → Alike s s' v ∧ s'.ab v = s.ab v
theorem FrC.refl (p : Nat) : FrC par p s s := fun v _ => ⟨Alike.refl s v, rfl⟩
theorem FrC.trans {p : Nat} {t : S} (a : FrC par p s s') (b : FrC par p s' t) : FrC par p s t := fun v hv => ⟨(a v hv).1.trans (b v hv).1, (b v hv).2.trans (a v hv).2⟩
theorem Fr.toC {p u : Nat} {D : List Nat} (h : Fr s s' D) (hD : DChain par D) (hu : u ∈ D) (hp : Conn (Adj par) p u) : FrC par p s s' := fun v hv => h v (fun q => hv (hp.trans (hD.conn2 hu q)))
def leadM (m : Nat) : Nat := m * m + 5 * m
theorem leadM_mono {a b : Nat} (h : a ≤ b) : leadM a ≤ leadM b := by
  unfold leadM; have := Nat.mul_le_mul h h; omega
theorem leadM_succ (m : Nat) : leadM (m + 1) = leadM m + 2 * (m + 1) + 4 := by
  unfold leadM; rw [Nat.add_mul, Nat.mul_add]; omega
theorem Rep.leadL {p : Nat} : ∀ (F : Nat) (s : S) (last : Nat) (A : List Nat), Rep s par w → Strand s par w last (A ++ [p]) → s.n < F + (A ++ [p]).length → s.n < 2 ^ 60 →
    ∃ s' last' B, leadL F s last = some (s', last') ∧ Rep s' par w ∧ Strand s' par w last' (B ++ [p]) ∧ s'.ab last' = none ∧ s'.n = s.n ∧ 2 * s'.cnt ≤ 2 * s.cnt + leadM (s.n - (A ++ [p]).length) ∧ FrC par p s s' := by
  intro F
  induction F with
  | zero => intro s last A hR S hF _; have := S.len hR; omega
  | succ F ih =>
    intro s last A hR S hF hb60
    cases hl : s.ab last with
    | none =>
      refine ⟨s, last, A, ?_, hR, S, hl, rfl, by omega, FrC.refl p⟩
      show (match s.ab last with | none => some (s, last) | some u => _) = _
      rw [hl]
    | some u =>
      have hA : ∃ a l, A ++ [p] = a :: l := by cases A <;> exact ⟨_, _, rfl⟩
      obtain ⟨a, l, eA⟩ := hA
      have pa : par a = some u := by rw [← S.ab a l eA]; exact hl
      have un : u < s.n := (hR.bd a u pa).2
      have uA : u ∉ A ++ [p] := S.ab_out hR u hl
      obtain ⟨t, D, uD, SD⟩ := hR.st u un
      have dj : ∀ v ∈ A ++ [p], v ∉ D := fun v h1 h2 => by
        obtain ⟨_, e⟩ := S.uniq SD h1 h2
        exact uA (e ▸ uD)
      have lenD : D.length + (A ++ [p]).length ≤ s.n := by
        rw [← List.length_append]
        refine nodup_len _ _ (List.nodup_append.mpr ⟨SD.nd hR, S.nd hR, fun x hx y hy e => dj y hy (e ▸ hx)⟩) (fun v hv => ?_)
        rcases List.mem_append.mp hv with q | q
        · exact SD.lo v q
        · exact S.lo v q
      have cpu : Conn (Adj par) p u := (S.ch.conn2 (by simp : p ∈ A ++ [p]) (by rw [eA]; simp : a ∈ A ++ [p])).trans (.one (.inl pa))
      obtain ⟨s1, a1, a2, a3, a4, a5, a6, a7, a8⟩ := hR.lift SD uD hb60
      have S1 : Strand s1 par w last (A ++ [p]) := S.frame (S.nd hR) a8 dj (fun v hv c y hy => (a3.sub.kids v hv c y hy).1) a6
      obtain ⟨L, R, b1, b2, b3, b4, b5, b6, b7, b8, b9, b10⟩ := a2.letGo a3 a4 a5
      have S2 : Strand (LC.letGo s1 u) par w last (A ++ [p]) := S1.frame (S1.nd a2) b9 dj b10 b7
      have hl2 : (LC.letGo s1 u).ab last = some u := by
        rw [(b9 last (dj last S.sub.root_mem)).2, (a8 last (dj last S.sub.root_mem)).2]; exact hl
      obtain ⟨c1, c2, c3, c4, c5, c6, c7, c8⟩ := b2.takeIn b3 S2 b5 b6 b4 hl2
      rw [show L ++ u :: (A ++ [p]) = (L ++ u :: A) ++ [p] by simp] at c2
      have n3 : (LC.takeIn (LC.letGo s1 u) u last).n = s.n := by rw [c6, b7, a6]
      have ln : ((L ++ u :: A) ++ [p]).length = L.length + 1 + (A ++ [p]).length := by simp; omega
      obtain ⟨s', last', B, d1, d2, d3, d4, d5, d6, d7⟩ := ih _ u (L ++ u :: A) c1 c2 (by rw [n3, ln]; omega) (by rw [n3]; exact hb60)
      refine ⟨s', last', B, ?_, d2, d3, d4, d5.trans n3, ?_, ?_⟩
      · show (match s.ab last with | none => some (s, last) | some u => match LC.lift s u with | none => none | some s1 => LC.leadL F (LC.takeIn (LC.letGo s1 u) u last) u) = _
        rw [hl]
        show (match LC.lift s u with | none => none | some s1 => LC.leadL F (LC.takeIn (LC.letGo s1 u) u last) u) = _
        rw [a1]; exact d1
      · rw [n3, c7, b8, ln] at d6
        have hD0 : 0 < D.length := List.length_pos_of_mem uD
        obtain ⟨m, hm⟩ : ∃ m, s.n - (A ++ [p]).length = m + 1 := ⟨s.n - (A ++ [p]).length - 1, by omega⟩
        have q1 : leadM (s.n - (L.length + 1 + (A ++ [p]).length)) ≤ leadM m := leadM_mono (by omega)
        have q2 := leadM_succ m
        rw [hm]; omega
      · have f1 : FrC par p s s1 := a8.toC SD.ch uD cpu
        have f2 : FrC par p s1 (LC.letGo s1 u) := b9.toC SD.ch uD cpu
        have f3 : FrC par p (LC.letGo s1 u) (LC.takeIn (LC.letGo s1 u) u last) := c8.toC (.one u) (by simp) cpu
        exact ((f1.trans f2).trans f3).trans d7
structure Led (s : S) (par : Nat → Option Nat) (w : Nat → Int) (p : Nat) (A : List Nat) : Prop where
  rep : Rep s par w
  st : Strand s par w p (A ++ [p])
  ab : s.ab p = none
  fl : s.fl p = false
  lt : s.lt p = 0
  ch : s.ch true p = none
def leadB (n : Nat) : Nat := n * n + 7 * n
theorem Rep.lead {p : Nat} (hR : Rep s par w) (hp : p < s.n) (hb60 : s.n < 2 ^ 60) : ∃ s' last A, lead s p = some (s', last) ∧ Led s' par w p A ∧ s'.n = s.n ∧ 2 * s'.cnt ≤ 2 * s.cnt + leadB s.n ∧ FrC par p s s' := by
  obtain ⟨t, D, pD, SD⟩ := hR.st p hp
  obtain ⟨s1, a1, a2, a3, a4, a5, a6, a7, a8⟩ := hR.lift SD pD hb60
  obtain ⟨L, R, b1, b2, b3, b4, b5, b6, b7, b8, b9, b10⟩ := a2.letGo a3 a4 a5
  obtain ⟨s3, last, B, d1, d2, d3, d4, d5, d6, d7⟩ := Rep.leadL (s1.n + 1) _ p L b2 b3 (by rw [b7]; omega) (by rw [b7, a6]; exact hb60)
  obtain ⟨s4, e1, e2, e3, e4, e5, e6, e7, e8⟩ := d2.lift d3 (by simp : p ∈ B ++ [p]) (by rw [d5, b7, a6]; exact hb60)
  refine ⟨s4, last, B, ?_, ⟨e2, e3, ?_, e4, e5, ?_⟩, by rw [e6, d5, b7, a6], ?_, ?_⟩
  · unfold LC.lead
    rw [a1]
    show (match LC.leadL (s1.n + 1) (LC.letGo s1 p) p with | none => none | some (s2, last) => match LC.lift s2 p with | none => none | some s3 => some (s3, last)) = _
    rw [d1]
    show (match LC.lift s3 p with | none => none | some s3 => some (s3, last)) = _
    rw [e1]
  · obtain ⟨a, l, e⟩ : ∃ a l, B ++ [p] = a :: l := by cases B <;> exact ⟨_, _, rfl⟩
    rw [e3.ab a l e, ← d3.ab a l e]; exact d4
  · obtain ⟨P, Q, _, _, f3, _, f5, _⟩ := e3.sub.inv
    have hN := e3.nd e2
    rw [e4] at f5
    have f5' : B ++ [p] = P ++ p :: Q := f5
    have hQ : Q = [] := by
      have h1 : (B ++ [p]).reverse = (P ++ p :: Q).reverse := by rw [f5']
      rw [f5'] at hN
      cases hq : Q.reverse with
      | nil => simpa using hq
      | cons z zs =>
        rw [List.reverse_append, List.reverse_append, List.reverse_cons (as := Q), hq] at h1
        simp at h1
        have : p ∈ Q := by rw [← List.mem_reverse, hq, h1.1]; simp
        have hN2 := (List.nodup_append.mp hN).2.1
        exact absurd this (List.nodup_cons.mp hN2).1
    rw [hQ] at f3
    cases hc : s4.ch true p with
    | none => rfl
    | some r => rw [hc] at f3; exact absurd f3.root_mem (by simp)
  · have l1 := SD.len hR
    have l2 := d3.len d2
    rw [d5, b7, a6] at l2
    rw [b7, a6] at d6
    have q := leadM_mono (show s.n - (L ++ [p]).length ≤ s.n - 1 by simp; omega)
    have q2 : leadM (s.n - 1) + 2 * s.n + 4 = leadM s.n := by
      obtain ⟨m, hm⟩ : ∃ m, s.n = m + 1 := ⟨s.n - 1, by omega⟩
      have := leadM_succ m
      rw [hm]; simp only [Nat.add_sub_cancel]; omega
    have q3 : leadB s.n = leadM s.n + 2 * s.n := by unfold leadB leadM; omega
    omega
  · have f1 : FrC par p s s1 := a8.toC SD.ch pD (.refl p)
    have f2 : FrC par p s1 (LC.letGo s1 p) := b9.toC SD.ch pD (.refl p)
    have f4 : FrC par p s3 s4 := e8.toC d3.ch (by simp) (.refl p)
    exact ((f1.trans f2).trans d7).trans f4
end
end LC
end
section
set_option autoImplicit false
namespace LC
def turnAbout (s : S) (p : Nat) : Option S := match lead s p with
  | none => none
  | some (s1, _) => some (flip1 s1 (some p))
def areJoined (s : S) (a b : Nat) : Option (S × Bool) := match lead s a with
  | none => none
  | some (s1, _) => match lead s1 b with
    | none => none
    | some (s2, _) => some (s2, a == b || (s2.ab a).isSome)
def openWay (s : S) (a b : Nat) : Option S := match areJoined s a b with
  | none => none
  | some (s1, j) => if j then (match turnAbout s1 a with
    | none => none
    | some s2 => match lead s2 b with
      | none => none
      | some (s3, _) => some s3) else none
def tie (s : S) (a b : Nat) : Option S := match areJoined s a b with
  | none => none
  | some (s1, j) => if j then none else match turnAbout s1 b with
    | none => none
    | some s2 => match lead s2 a with
      | none => none
      | some (s3, _) => some (gather (setAb s3 b (some a)) a)
def openTie (s : S) (a b : Nat) : Option S := match turnAbout s a with
  | none => none
  | some s1 => match lead s1 b with
    | none => none
    | some (s2, _) => if a = b ∨ s2.ch false b ≠ some a ∨ s2.mn b ≠ 2 then none else some s2
def cut (s : S) (a b : Nat) : Option S := match openTie s a b with
  | none => none
  | some s1 => some (gather (setAb (setCh s1 false b none) a none) b)
def addW (s : S) (a b : Nat) (m : Int) : Option S := match openWay s a b with
  | none => none
  | some s1 => some (moreBy s1 (some b) m)
def putPoint (s : S) (x : Int) : S :=
  { n := s.n + 1, ch := fun c => up (s.ch c) s.n none, ab := up s.ab s.n none, fl := up s.fl s.n false, lt := up s.lt s.n 0, wo := up s.wo s.n x,
    mn := up s.mn s.n 1, to := up s.to s.n x, mo := up s.mo s.n x, cnt := s.cnt }
inductive Root (par : Nat → Option Nat) : Nat → Nat → Prop
  | here (x : Nat) : par x = none → Root par x x
  | up (x y r : Nat) : par x = some y → Root par y r → Root par x r
theorem Root.det {par : Nat → Option Nat} {x r r' : Nat} (h : Root par x r) (h' : Root par x r') : r = r' := by
  induction h with
  | here x h =>
    cases h' with
    | here => rfl
    | up _ y _ e _ => rw [h] at e; cases e
  | up x y r e _ ih =>
    cases h' with
    | here _ h => rw [h] at e; cases e
    | up _ z _ e' h' => rw [e] at e'; cases e'; exact ih h'
theorem Root.conn {par : Nat → Option Nat} {x y r : Nat} (h : Root par x r) (c : Conn (Adj par) x y) : Root par y r := by
  induction c with
  | refl => exact h
  | step a c b e _ ih =>
    refine ih ?_
    rcases e with e | e
    · cases h with
      | here _ h => rw [h] at e; cases e
      | up _ z _ e' h' => rw [e] at e'; cases e'; exact h'
    · exact .up c a r e h
theorem root_uniq {par : Nat → Option Nat} {r r' : Nat} (h : par r = none) (h' : par r' = none) (c : Conn (Adj par) r r') : r = r' :=
  ((Root.here r h).conn c).det (.here r' h')
theorem sum_rev (w : Nat → Int) (C : List Nat) : (C.reverse.map w).sum = (C.map w).sum := by
  induction C with
  | nil => rfl
  | cons a C ih => rw [List.reverse_cons, sum_app, ih, List.map_cons, List.sum_cons]; simp; omega
theorem Sub.rev {s : S} {w : Nat → Int} {o : Option Nat} {b : Bool} {d : Int} {C : List Nat} (h : Sub s w o b d C) : Sub s w o (!b) d C.reverse := by
  induction h with
  | nil => exact .nil _ _
  | node x b d L R C h1 h2 h3 h4 h5 h6 i2 i3 =>
    refine .node x (!b) d L.reverse R.reverse _ h1 ?_ ?_ h4 ?_ ?_
    · rw [show ((!b) ^^ s.fl x) = !(b ^^ s.fl x) by cases b <;> cases s.fl x <;> rfl]; exact i2
    · rw [show ((!b) ^^ s.fl x) = !(b ^^ s.fl x) by cases b <;> cases s.fl x <;> rfl]; exact i3
    · rw [h5]; cases b <;> cases s.fl x <;> simp [ord]
    · obtain ⟨a1, a2, a3, v0, a4, a5⟩ := h6
      exact ⟨by rw [List.length_reverse]; exact a1, by rw [List.length_reverse, sum_rev]; exact a2, fun v hv => a3 v (List.mem_reverse.mp hv), v0, List.mem_reverse.mpr a4, a5⟩
def nextIn : List Nat → Nat → Option Nat
  | a :: b :: l, v => if v = a then some b else nextIn (b :: l) v
  | _, _ => none
theorem nextIn_mem : ∀ (l : List Nat) (v y : Nat), nextIn l v = some y → v ∈ l ∧ y ∈ l
  | [], _, _, h => nomatch h
  | [a], _, _, h => nomatch h
  | a :: b :: l, v, y, h => by
    unfold nextIn at h
    split at h
    · rename_i e; cases h; exact ⟨by simp [e], by simp⟩
    · have := nextIn_mem (b :: l) v y h
      exact ⟨List.mem_cons_of_mem _ this.1, List.mem_cons_of_mem _ this.2⟩
def rev (par : Nat → Option Nat) (C : List Nat) (v : Nat) : Option Nat := if v ∈ C then nextIn C v else par v
theorem nextIn_iff : ∀ {l : List Nat} (_ : l.Nodup) (v y : Nat), nextIn l v = some y ↔ ∃ p q, l = p ++ v :: y :: q := by
  intro l
  induction l with
  | nil => intro _ v y; exact ⟨(fun h => by cases h), fun ⟨p, q, e⟩ => by simp at e⟩
  | cons a l ih =>
    intro hN v y
    cases l with
    | nil =>
      refine ⟨fun h => (nomatch h), fun ⟨p, q, e⟩ => ?_⟩
      have := congrArg List.length e; simp at this; omega
    | cons b l =>
      have hN' := List.nodup_cons.mp hN
      unfold nextIn
      split
      · rename_i e
        subst e
        constructor
        · intro h; cases h; exact ⟨[], l, rfl⟩
        · rintro ⟨p, q, e⟩
          cases p with
          | nil => simp at e; rw [e.1]
          | cons c p =>
            simp at e
            exfalso; apply hN'.1; rw [e.2]; simp
      · rename_i ne
        rw [ih hN'.2 v y]
        constructor
        · rintro ⟨p, q, e⟩; exact ⟨a :: p, q, by rw [e]; rfl⟩
        · rintro ⟨p, q, e⟩
          cases p with
          | nil => simp at e; exact absurd e.1.symm ne
          | cons c p => simp at e; exact ⟨p, q, e.2⟩
theorem DChain.adj_next {par : Nat → Option Nat} {C : List Nat} (h : DChain par C) (hN : C.Nodup) {v y : Nat} (e : nextIn C v = some y) : par y = some v := by
  obtain ⟨p, q, rfl⟩ := (nextIn_iff hN v y).mp e
  exact h.mid
theorem DChain.next_of {par : Nat → Option Nat} {C : List Nat} (h : DChain par C) (hN : C.Nodup) {v y : Nat} (e : par y = some v) (hy : y ∈ C) (hh : ∀ a l, C = a :: l → par a = none) : nextIn C v = some y := by
  rw [nextIn_iff hN]
  obtain ⟨p, q, rfl⟩ := List.append_of_mem hy
  cases hp : p.reverse with
  | nil =>
    have : p = [] := by simpa using hp
    subst this
    rw [hh y q rfl] at e; cases e
  | cons z zs =>
    have ep : p = zs.reverse ++ [z] := by rw [← List.reverse_reverse (as := p), hp]; simp
    subst ep
    have h' : DChain par (zs.reverse ++ z :: y :: q) := by simpa using h
    have := h'.mid
    rw [e] at this; cases this
    exact ⟨zs.reverse, q, by simp⟩
theorem rev_adj {par : Nat → Option Nat} {C : List Nat} (h : DChain par C) (hN : C.Nodup) (hh : ∀ a l, C = a :: l → par a = none) (x y : Nat) : Adj (rev par C) x y ↔ Adj par x y := by
  have one : ∀ x y, rev par C x = some y → Adj par x y := by
    intro x y e
    unfold rev at e
    split at e
    · exact .inr (h.adj_next hN e)
    · exact .inl e
  have two : ∀ x y, par x = some y → Adj (rev par C) x y := by
    intro x y e
    by_cases hx : x ∈ C
    · right
      have q := h.next_of hN e hx hh
      unfold rev
      rw [if_pos (nextIn_mem _ _ _ q).1]; exact q
    · left; unfold rev; rw [if_neg hx]; exact e
  exact ⟨fun q => q.elim (one x y) (fun q => (one y x q).symm), fun q => q.elim (two x y) (fun q => (two y x q).symm)⟩
theorem rev_reaches {par : Nat → Option Nat} {C : List Nat} (hr : ∀ x, Reaches par x) (hN : C.Nodup) (x : Nat) : Reaches (rev par C) x := by
  have inC : ∀ (q p : List Nat), C = p ++ q → ∀ v ∈ q, Reaches (rev par C) v := by
    intro q
    induction q with
    | nil => intro p _ v hv; cases hv
    | cons a q ih =>
      intro p e v hv
      have ih' := ih (p ++ [a]) (by rw [e]; simp)
      rcases List.mem_cons.mp hv with rfl | hv
      · have vC : v ∈ C := by rw [e]; simp
        cases q with
        | nil =>
          refine .root v ?_
          unfold rev; rw [if_pos vC]
          cases hn : nextIn C v with
          | none => rfl
          | some y =>
            obtain ⟨p', q', e'⟩ := (nextIn_iff hN v y).mp hn
            rw [e] at e' hN
            exfalso
            have h1 : p = p' ∧ ([] : List Nat) = y :: q' := by
              have hN2 : (p' ++ v :: y :: q').Nodup := e' ▸ hN
              have n1 : v ∉ p := (List.nodup_append.mp hN).2.2 |> fun h q => h v q v (by simp) rfl
              have n2 : v ∉ p' := (List.nodup_append.mp hN2).2.2 |> fun h q => h v q v (by simp) rfl
              have := congrArg (List.idxOf v) e'
              rw [List.idxOf_append, List.idxOf_append, if_neg n1, if_neg n2] at this
              simp at this
              have l := congrArg List.length e'
              simp at l; omega
            cases h1.2
        | cons b q =>
          refine .step v b ?_ (ih' b (by simp))
          unfold rev; rw [if_pos vC, nextIn_iff hN]
          exact ⟨p, q, e⟩
      · exact ih' v hv
  by_cases hx : x ∈ C
  · exact inC C [] rfl x hx
  · have h := hr x
    induction h with
    | root x h => exact .root x (by unfold rev; rw [if_neg hx]; exact h)
    | step x y e _ ih =>
      refine .step x y (by unfold rev; rw [if_neg hx]; exact e) ?_
      by_cases hy : y ∈ C
      · exact inC C [] rfl y hy
      · exact ih hy
theorem DChain.rev_chain {par : Nat → Option Nat} {C : List Nat} (hN : C.Nodup) : ∀ (q p : List Nat), C = p ++ q → DChain (rev par C) q.reverse := by
  intro q
  induction q with
  | nil => intro _ _; exact .nil
  | cons a q ih =>
    intro p e
    have h := ih (p ++ [a]) (by rw [e]; simp)
    rw [List.reverse_cons]
    cases q with
    | nil => exact .one a
    | cons b q =>
      rw [List.reverse_cons] at h ⊢
      have e1 : rev par C a = some b := by
        unfold rev; rw [if_pos (by rw [e]; simp), nextIn_iff hN]; exact ⟨p, q, e⟩
      have := DChain.app h (.one a) e1
      simpa using this
theorem DChain.congr {par par' : Nat → Option Nat} {l : List Nat} (h : DChain par l) (e : ∀ v ∈ l, par' v = par v) : DChain par' l := by
  induction h with
  | nil => exact .nil
  | one a => exact .one a
  | cons a b l e' _ ih => exact .cons a b l (by rw [e b (by simp)]; exact e') (ih fun v hv => e v (List.mem_cons_of_mem _ hv))
section
variable {s s' : S} {par : Nat → Option Nat} {w : Nat → Int}
theorem Led.head_none {p : Nat} {A : List Nat} (h : Led s par w p A) : ∀ a l, A ++ [p] = a :: l → par a = none := fun a l e => by
  rw [← h.st.ab a l e]; exact h.ab
theorem Rep.turnAbout {p : Nat} (hR : Rep s par w) (hp : p < s.n) (hb60 : s.n < 2 ^ 60) : ∃ s' par' l, turnAbout s p = some s' ∧ Rep s' par' w ∧ (∀ x y, Adj par' x y ↔ Adj par x y) ∧ par' p = none ∧ Strand s' par' w p (p :: l) ∧ s'.ab p = none ∧
    s'.n = s.n ∧ 2 * s'.cnt ≤ 2 * s.cnt + leadB s.n ∧ FrC par p s s' := by
  obtain ⟨s1, last, A, h1, h2, h3, h4, h5⟩ := hR.lead hp hb60
  have hN := h2.st.nd h2.rep
  have hh := h2.head_none
  let C := A ++ [p]
  have pC : p ∈ C := by simp [C]
  have al : ∀ v, v ≠ p → Alike s1 (flip1 s1 (some p)) v := fun v hv => ⟨fun _ => rfl, up_ne _ _ hv, rfl, rfl, rfl, rfl, rfl⟩
  have fr : Fr s1 (flip1 s1 (some p)) [p] := fun v hv => ⟨al v (by simpa using hv), rfl⟩
  have erev : C.reverse = p :: A.reverse := by simp [C]
  have Sp : Strand (flip1 s1 (some p)) (LC.rev par C) w p C.reverse := by
    refine ⟨?_, DChain.rev_chain hN C [] rfl, fun a l e => ?_, fun u c hu => ?_, fun v hv => h2.st.lo v (List.mem_reverse.mp hv)⟩
    · exact (flip1_sub h2.st.sub hN).rev
    · rw [erev] at e; cases e
      show s1.ab p = _
      rw [h2.ab]
      unfold LC.rev; rw [if_pos pC]
      cases hn : nextIn C p with
      | none => rfl
      | some y =>
        obtain ⟨p', q', e'⟩ := (nextIn_iff hN p y).mp hn
        exfalso
        have hN2 : (p' ++ p :: y :: q').Nodup := e' ▸ hN
        have l1 : C.reverse = q'.reverse ++ y :: p :: p'.reverse := by show (A ++ [p]).reverse = _; rw [e']; simp
        rw [erev] at l1
        have : p ∈ y :: q' := by
          cases hq : q'.reverse with
          | nil => rw [hq] at l1; simp at l1; simp [l1.1]
          | cons z zs => rw [hq] at l1; simp at l1; rw [l1.1]; exact List.mem_cons_of_mem _ (List.mem_reverse.mp (by rw [hq]; simp))
        have hN3 := (List.nodup_append.mp hN2).2.1
        exact (List.nodup_cons.mp hN3).1 this
    · rw [show (flip1 s1 (some p)).ab p = none from h2.ab] at hu; cases hu
  have parp : LC.rev par C p = none := by rw [← Sp.ab p _ erev]; exact h2.ab
  refine ⟨flip1 s1 (some p), LC.rev par C, A.reverse, by unfold LC.turnAbout; rw [h1], ?_, rev_adj h2.st.ch hN hh, parp, by rw [← erev]; exact Sp, h2.ab, h3, h4, ?_⟩
  · refine ⟨rev_reaches h2.rep.ac hN, fun x y e => ?_, fun v hv => ?_, h2.rep.out⟩
    · have := (rev_adj h2.st.ch hN hh x y).mp (.inl e)
      rcases this with q | q
      · exact h2.rep.bd x y q
      · exact (h2.rep.bd y x q).symm
    · obtain ⟨t, C1, v1, S1⟩ := h2.rep.st v hv
      by_cases q : ∃ v, v ∈ C1 ∧ v ∈ C
      · obtain ⟨u, u1, u2⟩ := q
        obtain ⟨_, rfl⟩ := S1.uniq h2.st u1 u2
        exact ⟨p, _, List.mem_reverse.mpr v1, Sp⟩
      · have dj : ∀ v ∈ C1, v ∉ C := fun v a b => q ⟨v, a, b⟩
        have S2 : Strand (flip1 s1 (some p)) par w t C1 := S1.frame (S1.nd h2.rep) (fr.mono (E := C) (fun v hv => by simp at hv; subst hv; exact pC)) dj (fun v hv c y hy => (h2.st.sub.kids v hv c y hy).1) rfl
        refine ⟨t, C1, v1, S2.sub, S2.ch.congr (fun v hv => ?_), fun a l e => ?_, S2.top, S2.lo⟩
        · unfold LC.rev; rw [if_neg (dj v hv)]
        · rw [S2.ab a l e]; unfold LC.rev; rw [if_neg (dj a (by rw [e]; simp))]
  · have f1 : FrC par p s1 (flip1 s1 (some p)) := Fr.toC fr (.one p) (by simp) (.refl p)
    exact h5.trans f1
theorem Rep.areJoined {a b : Nat} (hR : Rep s par w) (ha : a < s.n) (hb : b < s.n) (hb60 : s.n < 2 ^ 60) : ∃ s' r, areJoined s a b = some (s', r) ∧ Rep s' par w ∧ (r = true ↔ Conn (Adj par) a b) ∧ s'.n = s.n ∧ 2 * s'.cnt ≤ 2 * s.cnt + 2 * leadB s.n := by
  obtain ⟨s1, l1, A, a1, a2, a3, a4, a5⟩ := hR.lead ha hb60
  obtain ⟨s2, l2, B, b1, b2, b3, b4, b5⟩ := a2.rep.lead (a3 ▸ hb : b < s1.n) (by rw [a3]; exact hb60)
  refine ⟨s2, a == b || (s2.ab a).isSome, ?_, b2.rep, ?_, by rw [b3, a3], by rw [a3] at b4; omega⟩
  · unfold LC.areJoined; rw [a1]
    show (match LC.lead s1 b with | none => none | some (s2, _) => some (s2, a == b || (s2.ab a).isSome)) = _
    rw [b1]
  · constructor
    · intro h
      apply Classical.byContradiction
      intro nc
      have nab : a ≠ b := fun e => nc (e ▸ .refl a)
      have nc' : ¬ Conn (Adj par) b a := fun q => nc (q.symm fun _ _ => Adj.symm)
      have := (b5 a nc').2
      rw [a2.ab] at this
      rw [this] at h
      simp [nab] at h
    · intro hc
      by_cases e : a = b
      · simp [e]
      · cases hab : s2.ab a with
        | some u => simp
        | none =>
          exfalso
          obtain ⟨t, C, aC, SC⟩ := b2.rep.st a (by rw [b3, a3]; exact ha)
          have et : a = t := by
            apply Classical.byContradiction
            intro ne
            obtain ⟨z, _, c, _, z3⟩ := SC.sub.parent a aC (fun q => ne (Option.some.inj q).symm)
            rw [hab] at z3; cases z3
          subst et
          obtain ⟨h1, l1', e1⟩ : ∃ h l, C = h :: l := by cases C with | nil => cases aC | cons h l => exact ⟨h, l, rfl⟩
          obtain ⟨h2, l2', e2⟩ : ∃ h l, B ++ [b] = h :: l := by cases B <;> exact ⟨_, _, rfl⟩
          have p1 : par h1 = none := by rw [← SC.ab h1 l1' e1]; exact hab
          have p2 : par h2 = none := b2.head_none h2 l2' e2
          have c1 : Conn (Adj par) h1 a := SC.ch.conn2 (by rw [e1]; simp) aC
          have c2 : Conn (Adj par) b h2 := b2.st.ch.conn2 (by simp) (by rw [e2]; simp)
          have eh := root_uniq p1 p2 ((c1.trans hc).trans c2)
          subst eh
          obtain ⟨e3, _⟩ := SC.uniq b2.st (v := h1) (by rw [e1]; simp) (by rw [e2]; simp)
          exact e e3
inductive Path (E : Nat → Nat → Prop) : Nat → Nat → List Nat → Prop
  | one (a : Nat) : Path E a a [a]
  | cons (a c b : Nat) (p : List Nat) : E a c → Path E c b p → Path E a b (a :: p)
theorem DChain.path {par : Nat → Option Nat} : ∀ {A : List Nat} {a b : Nat} {l : List Nat}, DChain par (A ++ [b]) → A ++ [b] = a :: l → Path (Adj par) a b (A ++ [b])
  | [], a, b, l, h, e => by cases e; exact .one a
  | [c], a, b, l, h, e => by
    cases e
    cases h with
    | cons _ _ _ e' _ => exact .cons c b b _ (.inr e') (.one b)
  | c :: d :: A, a, b, l, h, e => by
    cases e
    cases h with
    | cons _ _ _ e' h' => exact .cons c d b _ (.inr e') (DChain.path (A := d :: A) h' rfl)
structure Opened (s : S) (par : Nat → Option Nat) (w : Nat → Int) (a b : Nat) (p : List Nat) : Prop where
  rep : Rep s par w
  st : Strand s par w b p
  path : Path (Adj par) a b p
  ab : s.ab b = none
  fl : s.fl b = false
  lt : s.lt b = 0
theorem Rep.openWay {a b : Nat} (hR : Rep s par w) (ha : a < s.n) (hb : b < s.n) (hb60 : s.n < 2 ^ 60) (hc : Conn (Adj par) a b) : ∃ s' par' p, openWay s a b = some s' ∧ Opened s' par' w a b p ∧ (∀ x y, Adj par' x y ↔ Adj par x y) ∧ s'.n = s.n ∧ 2 * s'.cnt ≤ 2 * s.cnt + 4 * leadB s.n := by
  obtain ⟨s1, r, a1, a2, a3, a4, a5⟩ := hR.areJoined ha hb hb60
  have hr : r = true := a3.mpr hc
  subst hr
  obtain ⟨s2, par', l, b1, b2, b3, b4, b5, b6, b7, b8, b9⟩ := a2.turnAbout (p := a) (by rw [a4]; exact ha) (by rw [a4]; exact hb60)
  obtain ⟨s3, last, B, c1, c2, c3, c4, c5⟩ := b2.lead (p := b) (by rw [b7, a4]; exact hb) (by rw [b7, a4]; exact hb60)
  obtain ⟨h2, l2, e2⟩ : ∃ h l, B ++ [b] = h :: l := by cases B <;> exact ⟨_, _, rfl⟩
  have p2 : par' h2 = none := c2.head_none h2 l2 e2
  have cc : Conn (Adj par') a h2 := ((Conn.congr b3).mpr hc).trans (c2.st.ch.conn2 (by simp) (by rw [e2]; simp))
  have eh := root_uniq b4 p2 cc
  subst eh
  refine ⟨s3, par', B ++ [b], ?_, ⟨c2.rep, c2.st, DChain.path c2.st.ch e2, c2.ab, c2.fl, c2.lt⟩, b3, by rw [c3, b7, a4], by rw [b7, a4] at c4; rw [a4] at b8; omega⟩
  unfold LC.openWay; rw [a1]
  show (if true = true then (match LC.turnAbout s1 a with | none => none | some s2 => match LC.lead s2 b with | none => none | some (s3, _) => some s3) else none) = _
  rw [if_pos rfl, b1]
  show (match LC.lead s2 b with | none => none | some (s3, _) => some s3) = _
  rw [c1]
end
end LC
end
section
set_option autoImplicit false
namespace LC
def without (E : Nat → Nat → Prop) (a b x y : Nat) : Prop := E x y ∧ ¬ (x = a ∧ y = b) ∧ ¬ (x = b ∧ y = a)
def also (E : Nat → Nat → Prop) (a b x y : Nat) : Prop := E x y ∨ (x = a ∧ y = b) ∨ (x = b ∧ y = a)
def Holds (s : S) (E : Nat → Nat → Prop) (w : Nat → Int) : Prop := ∃ par, Rep s par w ∧ ∀ x y, E x y ↔ Adj par x y
section
variable {s s' : S} {par : Nat → Option Nat} {w w' : Nat → Int} {E : Nat → Nat → Prop}
theorem Holds.congr {F : Nat → Nat → Prop} (h : Holds s E w) (e : ∀ x y, F x y ↔ E x y) : Holds s F w := by
  obtain ⟨par, h1, h2⟩ := h
  exact ⟨par, h1, fun x y => (e x y).trans (h2 x y)⟩
theorem Holds.symm (h : Holds s E w) {x y : Nat} (e : E x y) : E y x := by
  obtain ⟨par, _, h2⟩ := h
  exact (h2 y x).mpr ((h2 x y).mp e).symm
theorem Holds.lt (h : Holds s E w) {x y : Nat} (e : E x y) : x < s.n ∧ y < s.n := by
  obtain ⟨par, h1, h2⟩ := h
  rcases (h2 x y).mp e with q | q
  · exact h1.bd x y q
  · exact (h1.bd y x q).symm
theorem Holds.forest (h : Holds s E w) {x y : Nat} (e : E x y) : ¬ Conn (without E x y) x y := by
  obtain ⟨par, h1, h2⟩ := h
  have key : ∀ x y, par x = some y → ∀ u v, Conn (without E x y) u v → ∀ (D : Nat → Prop), (∀ u v, par u = some v → u ≠ x → (D u ↔ D v)) → (D u ↔ D v) := by
    intro x y e u v c D hD
    induction c with
    | refl => exact Iff.rfl
    | step a c b e' _ ih =>
      refine Iff.trans ?_ ih
      obtain ⟨q, n1, n2⟩ := e'
      rcases (h2 a c).mp q with q | q
      · by_cases ax : a = x
        · subst ax; rw [e] at q; cases q; exact absurd ⟨rfl, rfl⟩ n1
        · exact hD a c q ax
      · by_cases cx : c = x
        · subst cx; rw [e] at q; cases q; exact absurd ⟨rfl, rfl⟩ n2
        · exact (hD c a q cx).symm
  have main : ∀ x y, par x = some y → ¬ Conn (without E x y) x y := by
    intro x y e c
    obtain ⟨rank, hr⟩ := rank_of h1.ac
    let D : Nat → Prop := fun u => ∃ l, DChain par (x :: l) ∧ u ∈ x :: l
    have hD : ∀ u v, par u = some v → u ≠ x → (D u ↔ D v) := by
      intro u v q ux
      constructor
      · rintro ⟨l, hl, hu⟩
        rcases List.mem_cons.mp hu with rfl | hu
        · exact absurd rfl ux
        · obtain ⟨p1, p2, rfl⟩ := List.append_of_mem hu
          cases hp : p1.reverse with
          | nil =>
            have : p1 = [] := by simpa using hp
            subst this
            cases hl with
            | cons _ _ _ e' _ => rw [q] at e'; cases e'; exact ⟨[], .one x, by simp⟩
          | cons z zs =>
            have ep : p1 = zs.reverse ++ [z] := by rw [← List.reverse_reverse (as := p1), hp]; simp
            subst ep
            have h' : DChain par ((x :: zs.reverse) ++ z :: u :: p2) := by simpa using hl
            have := h'.mid
            rw [q] at this; cases this
            exact ⟨zs.reverse ++ v :: u :: p2, by simpa using hl, by simp⟩
      · rintro ⟨l, hl, hv⟩
        obtain ⟨p1, p2, ep⟩ := List.append_of_mem hv
        have hl' : DChain par ((p1 ++ [v]) ++ p2) := by rw [ep] at hl; simpa using hl
        have c1 := hl'.app_left
        have c2 : DChain par (p1 ++ v :: [u]) := DChain.app c1 (.one u) q
        cases p1 with
        | nil => simp at ep; exact ⟨[u], by rw [ep.1]; exact c2, by simp⟩
        | cons z p1 => simp at ep; exact ⟨p1 ++ v :: [u], by rw [ep.1]; simpa using c2, by simp⟩
    have := (key x y e x y c D hD).mp ⟨[], .one x, by simp⟩
    obtain ⟨l, hl, hy⟩ := this
    have h3 := hr x y e
    rcases List.mem_cons.mp hy with q | q
    · subst q; exact Nat.lt_irrefl _ h3
    · exact Nat.lt_irrefl _ (Nat.lt_trans h3 (hl.rank hr y q))
  rcases (h2 x y).mp e with q | q
  · exact main x y q
  · intro c
    refine main y x q ?_
    have hs : ∀ a b, without E x y a b → without E x y b a := fun a b ⟨q1, q2, q3⟩ => ⟨(h2 b a).mpr ((h2 a b).mp q1).symm, fun z => q3 ⟨z.2, z.1⟩, fun z => q2 ⟨z.2, z.1⟩⟩
    exact (c.symm hs).mono fun a b ⟨q1, q2, q3⟩ => ⟨q1, q3, q2⟩
theorem FrC.strand {p t : Nat} {C : List Nat} (fr : FrC par p s s') (hR : Rep s par w) (S : Strand s par w t C) (hn : s'.n = s.n) (nc : ∀ v ∈ C, ¬ Conn (Adj par) p v) (top : s.ab t = none) : Strand s' par w t C := by
  have ht := S.sub.root_mem
  refine ⟨S.sub.frame (fun v hv => (fr v (nc v hv)).1) (fun v hv _ => (fr v (nc v hv)).2) (S.nd hR) (fun _ _ => rfl), S.ch, fun a l e => by rw [(fr t (nc t ht)).2]; exact S.ab a l e, fun u c hu => ?_, by rw [hn]; exact S.lo⟩
  rw [(fr t (nc t ht)).2, top] at hu; cases hu
theorem Holds.tie {a b : Nat} (h : Holds s E w) (ha : a < s.n) (hb : b < s.n) (hb60 : s.n < 2 ^ 60) (nc : ¬ Conn E a b) : ∃ s', tie s a b = some s' ∧ Holds s' (also E a b) w ∧ s'.n = s.n ∧ 2 * s'.cnt ≤ 2 * s.cnt + 4 * leadB s.n := by
  obtain ⟨par, hR, hE⟩ := h
  obtain ⟨s1, r, a1, a2, a3, a4, a5⟩ := hR.areJoined ha hb hb60
  have nc' : ¬ Conn (Adj par) a b := fun q => nc ((Conn.congr hE).mpr q)
  have hr : r = false := by
    cases r with
    | false => rfl
    | true => exact absurd (a3.mp rfl) nc'
  subst hr
  obtain ⟨s2, par1, l, b1, b2, b3, b4, b5, b6, b7, b8, b9⟩ := a2.turnAbout (p := b) (by rw [a4]; exact hb) (by rw [a4]; exact hb60)
  have nc1 : ¬ Conn (Adj par1) a b := fun q => nc' ((Conn.congr b3).mp q)
  have n2 : s2.n = s.n := by rw [b7, a4]
  obtain ⟨s3, last, A, c1, c2, c3, c4, c5⟩ := b2.lead (p := a) (by rw [n2]; exact ha) (by rw [n2]; exact hb60)
  have n3 : s3.n = s.n := by rw [c3, n2]
  have Sb : Strand s3 par1 w b (b :: l) := c5.strand b2 b5 c3 (fun v hv q => nc1 (q.trans (b5.ch.conn2 hv (by simp)))) b6
  have abb : s3.ab b = none := by rw [(c5 b nc1).2]; exact b6
  have hNA := c2.st.nd c2.rep
  have bA : b ∉ A ++ [a] := fun q => nc1 (c2.st.ch.conn2 (by simp) q)
  have hab : a ≠ b := fun e => nc1 (e ▸ .refl a)
  let s4 := setAb s3 b (some a)
  let par2 := up par1 b (some a)
  have p2 : ∀ v, v ≠ b → par2 v = par1 v := fun v hv => up_ne _ _ hv
  have p2b : par2 b = some a := up_same _ _ _
  obtain ⟨P, Q, q1, q2, q3, q4, q5, q6⟩ := c2.st.sub.inv
  rw [c2.fl, c2.lt] at q2 q3
  rw [c2.fl] at q5
  have q5' : A ++ [a] = ord false P a Q := q5
  have hNO : (ord false P a Q).Nodup := q5' ▸ hNA
  have hNO' := nd_ord.mp hNO
  have PA : ∀ v ∈ P, v ∈ A ++ [a] := fun v hv => by rw [q5', mem_ord]; exact .inr (.inl hv)
  have QA : ∀ v ∈ Q, v ∈ A ++ [a] := fun v hv => by rw [q5', mem_ord]; exact .inr (.inr hv)
  have al4 : ∀ v, Alike s3 s4 v := fun v => ⟨fun _ => rfl, rfl, rfl, rfl, rfl, rfl, rfl⟩
  have ab4 : ∀ v, v ≠ b → s4.ab v = s3.ab v := fun v hv => up_ne _ _ hv
  have Sa : Sub (gather s4 a) w (some a) false 0 (A ++ [a]) := by
    rw [q5']
    refine gather_sub false (fun c y hy => ?_) (q2.frame (fun v _ => al4 v) (fun v hv _ => ab4 v (fun e => bA (e ▸ PA v hv))) hNO'.2.2.1 (fun _ _ => rfl)) (q3.frame (fun v _ => al4 v) (fun v hv _ => ab4 v (fun e => bA (e ▸ QA v hv))) hNO'.2.2.2.1 (fun _ _ => rfl)) c2.fl c2.lt (by show s3.wo a = w a; omega) hNO
    have hy' : s3.ch c a = some y := hy
    rw [ab4 y (fun e => bA (e ▸ (c2.st.sub.kids a (by simp) c y hy').1))]; exact q1 c y hy'
  have fr : ∀ v, v ≠ a → Alike s3 (gather s4 a) v := fun v hv => (al4 v).trans (gather_al s4 hv)
  have ab5 : ∀ v, v ≠ b → (gather s4 a).ab v = s3.ab v := ab4
  have lC : ∀ v ∈ b :: l, v ≠ a := fun v hv e => nc1 (c2.st.ch.conn2 (by simp : a ∈ A ++ [a]) (by simp : a ∈ A ++ [a]) |>.trans (b5.ch.conn2 (e ▸ hv) (by simp)))
  have Sb5 : Strand (gather s4 a) par2 w b (b :: l) := by
    refine ⟨Sb.sub.frame (fun v hv => fr v (lC v hv)) (fun v hv hne => ab5 v (fun e => hne (by rw [e]))) (Sb.nd c2.rep) (fun _ _ => rfl), ?_, fun a' l' e => ?_, fun u c hu q => ?_, Sb.lo⟩
    · have hnb := (List.nodup_cons.mp (Sb.nd c2.rep)).1
      cases l with
      | nil => exact .one b
      | cons d l =>
        cases hl : Sb.ch with
        | cons _ _ _ e hc => exact .cons b d l (by rw [p2 d (fun e => hnb (by rw [← e]; simp))]; exact e) (hc.congr fun v hv => p2 v (fun e => hnb (e ▸ hv)))
    · cases e; rw [p2b]; exact up_same _ _ _
    · rw [show (gather s4 a).ab b = some a from up_same _ _ _] at hu; cases hu
      exact bA (c2.st.sub.kids a (by simp) c b q).1
  have Sa5 : Strand (gather s4 a) par2 w a (A ++ [a]) := by
    refine ⟨Sa, c2.st.ch.congr (fun v hv => p2 v (fun e => bA (e ▸ hv))), fun a' l' e => ?_, fun u c hu q => ?_, c2.st.lo⟩
    · rw [ab5 a hab, p2 a' (fun e' => bA (e' ▸ (by rw [e]; simp)))]; exact c2.st.ab a' l' e
    · rw [ab5 a hab, c2.ab] at hu; cases hu
  have hAdj : ∀ x y, also E a b x y ↔ Adj par2 x y := by
    intro x y
    have h0 : E x y ↔ Adj par1 x y := (hE x y).trans (b3 x y).symm
    unfold also; rw [h0]
    unfold Adj
    by_cases hx : x = b <;> by_cases hy : y = b
    · subst hx; subst hy; rw [p2b, b4]; simp; exact eq_comm
    · subst hx; rw [p2b, p2 y hy, b4]; simp; constructor
      · rintro (q | ⟨e1, e2⟩ | e)
        · exact .inr q
        · exact absurd e2 hy
        · exact .inl e.symm
      · rintro (e | q)
        · exact .inr (.inr e.symm)
        · exact .inl q
    · subst hy; rw [p2b, p2 x hx, b4]; simp; constructor
      · rintro (q | e | ⟨e1, e2⟩)
        · exact .inl q
        · exact .inr e.symm
        · exact absurd e1 hx
      · rintro (q | e)
        · exact .inl q
        · exact .inr (.inl e.symm)
    · rw [p2 x hx, p2 y hy]; simp [hx, hy]
  refine ⟨gather s4 a, ?_, ⟨par2, ⟨fun x => ?_, fun x y e => ?_, fun v hv => ?_, c2.rep.out⟩, hAdj⟩, n3, ?_⟩
  · unfold LC.tie; rw [a1]
    show (if false = true then none else match LC.turnAbout s1 b with | none => none | some s2 => match LC.lead s2 a with | none => none | some (s3, _) => some (gather (setAb s3 b (some a)) a)) = _
    rw [if_neg (by decide), b1]
    show (match LC.lead s2 a with | none => none | some (s3, _) => some (gather (setAb s3 b (some a)) a)) = _
    rw [c1]
  · 
    have one : ∀ v, Reaches par1 v → Conn (Adj par1) a v → Reaches par2 v := by
      intro v hv
      induction hv with
      | root v e => intro c; exact .root v (by rw [p2 v (fun q => nc1 (q ▸ c))]; exact e)
      | step v y e _ ih => intro c; exact .step v y (by rw [p2 v (fun q => nc1 (q ▸ c))]; exact e) (ih (c.trans (.one (.inl e))))
    have ra : Reaches par2 a := one a (c2.rep.ac a) (.refl a)
    have := c2.rep.ac x
    induction this with
    | root v e =>
      by_cases q : v = b
      · subst q; exact .step v a p2b ra
      · exact .root v (by rw [p2 v q]; exact e)
    | step v y e _ ih =>
      by_cases q : v = b
      · subst q; exact .step v a p2b ra
      · exact .step v y (by rw [p2 v q]; exact e) ih
  · by_cases q : x = b
    · subst q; rw [p2b] at e; cases e
      exact ⟨n3 ▸ hb, n3 ▸ ha⟩
    · rw [p2 x q] at e; exact c2.rep.bd x y e
  · obtain ⟨t, C, vC, SC⟩ := c2.rep.st v hv
    by_cases q1 : ∃ u, u ∈ C ∧ u ∈ A ++ [a]
    · obtain ⟨u, u1, u2⟩ := q1
      obtain ⟨_, rfl⟩ := SC.uniq c2.st u1 u2
      exact ⟨a, _, vC, Sa5⟩
    · by_cases q2 : ∃ u, u ∈ C ∧ u ∈ b :: l
      · obtain ⟨u, u1, u2⟩ := q2
        obtain ⟨_, rfl⟩ := SC.uniq Sb u1 u2
        exact ⟨b, _, vC, Sb5⟩
      · have aC : ∀ v ∈ C, v ≠ a := fun v hv e => q1 ⟨v, hv, by rw [e]; simp⟩
        have bC : ∀ v ∈ C, v ≠ b := fun v hv e => q2 ⟨v, hv, by rw [e]; simp⟩
        have ht := SC.sub.root_mem
        refine ⟨t, C, vC, SC.sub.frame (fun v hv => fr v (aC v hv)) (fun v hv _ => ab5 v (bC v hv)) (SC.nd c2.rep) (fun _ _ => rfl), SC.ch.congr (fun v hv => p2 v (bC v hv)), fun a' l' e => ?_, fun u c hu q => ?_, SC.lo⟩
        · rw [ab5 t (bC t ht), p2 a' (bC a' (by rw [e]; simp))]; exact SC.ab a' l' e
        · rw [ab5 t (bC t ht)] at hu; exact SC.top u c hu q
  · show 2 * s3.cnt ≤ _
    rw [n2] at c4; rw [a4] at b8; omega
theorem Holds.cut {a b : Nat} (h : Holds s E w) (hb60 : s.n < 2 ^ 60) (e : E a b) : ∃ s', cut s a b = some s' ∧ Holds s' (without E a b) w ∧ s'.n = s.n ∧ 2 * s'.cnt ≤ 2 * s.cnt + 2 * leadB s.n := by
  obtain ⟨ha, hb⟩ := h.lt e
  obtain ⟨par, hR, hE⟩ := h
  obtain ⟨s1, par1, l, b1, b2, b3, b4, b5, b6, b7, b8, b9⟩ := hR.turnAbout (p := a) ha hb60
  obtain ⟨s2, last, A, c1, c2, c3, c4, c5⟩ := b2.lead (p := b) (by rw [b7]; exact hb) (by rw [b7]; exact hb60)
  have n2 : s2.n = s.n := by rw [c3, b7]
  have hE1 : ∀ x y, E x y ↔ Adj par1 x y := fun x y => (hE x y).trans (b3 x y).symm
  have pb : par1 b = some a := by
    rcases (hE1 a b).mp e with q | q
    · rw [b4] at q; cases q
    · exact q
  have hN := c2.st.nd c2.rep
  obtain ⟨h2, l2, e2⟩ : ∃ h l, A ++ [b] = h :: l := by cases A <;> exact ⟨_, _, rfl⟩
  have ph2 : par1 h2 = none := c2.head_none h2 l2 e2
  have eA : A = [a] := by
    cases hA : A.reverse with
    | nil =>
      have : A = [] := by simpa using hA
      subst this; simp at e2; rw [← e2.1, pb] at ph2; cases ph2
    | cons z zs =>
      have ep : A = zs.reverse ++ [z] := by rw [← List.reverse_reverse (as := A), hA]; simp
      have hc : DChain par1 (zs.reverse ++ z :: b :: []) := by have := c2.st.ch; rw [ep] at this; simpa using this
      have := hc.mid
      rw [pb] at this; cases this
      have cc : Conn (Adj par1) h2 a := c2.st.ch.conn2 (by rw [e2]; simp) (by rw [ep]; simp)
      have eh := root_uniq ph2 b4 cc
      subst eh
      cases hz : zs.reverse with
      | nil => rw [ep, hz]; rfl
      | cons y ys =>
        exfalso
        rw [ep, hz] at e2 hN
        simp at e2
        rw [e2.1] at hN
        simp at hN
  subst eA
  have hab : a ≠ b := by intro q; subst q; simp at hN
  obtain ⟨P, Q, q1, q2, q3, q4, q5, q6⟩ := c2.st.sub.inv
  rw [c2.fl, c2.lt] at q2 q3
  rw [c2.fl] at q5
  rw [c2.ch] at q3
  have hQ := q3.inv_none
  subst hQ
  have hP : P = [a] := by
    have q5' : [a] ++ [b] = P ++ [b] := q5
    exact (List.append_cancel_right q5').symm
  subst hP
  obtain ⟨x, hx⟩ : ∃ x, s2.ch false b = some x := by
    cases hc : s2.ch false b with
    | none => rw [hc] at q2; exact absurd q2.inv_none (by simp)
    | some x => exact ⟨x, rfl⟩
  rw [hx] at q2
  have xa : x = a := by have := q2.root_mem; simpa using this
  subst xa
  have mn2 : s2.mn b = 2 := q6.mn
  let s3 := setAb (setCh s2 false b none) x none
  let par2 := up par1 b none
  have p2 : ∀ v, v ≠ b → par2 v = par1 v := fun v hv => up_ne _ _ hv
  have p2b : par2 b = none := up_same _ _ _
  have ch3 : ∀ c v, v ≠ b → s3.ch c v = s2.ch c v := fun c v hv => by show upc s2.ch false b none c v = _; rw [upc_get, if_neg (fun q => hv q.2)]
  have ch3b : ∀ c, s3.ch c b = none := fun c => by
    show upc s2.ch false b none c b = _
    rw [upc_get]
    cases c with
    | false => simp
    | true => simp; exact c2.ch
  have ab3 : ∀ v, v ≠ x → s3.ab v = s2.ab v := fun v hv => up_ne _ _ hv
  have abx : s3.ab x = none := up_same _ _ _
  have al3 : ∀ v, v ≠ b → Alike s2 s3 v := fun v hv => ⟨fun c => ch3 c v hv, rfl, rfl, rfl, rfl, rfl, rfl⟩
  have fr : ∀ v, v ≠ b → Alike s2 (gather s3 b) v := fun v hv => (al3 v hv).trans (gather_al s3 hv)
  have Sb : Strand (gather s3 b) par2 w b [b] := by
    refine ⟨gather_sub (P := []) (Q := []) false (fun c y hy => ?_) (by rw [ch3b]; exact .nil _ _) (by rw [ch3b]; exact .nil _ _) c2.fl c2.lt (by show s2.wo b = w b; omega) (by simp [ord]), .one b, fun a' l' e => ?_, fun u c hu => ?_, fun v hv => by simp at hv; subst hv; exact n2 ▸ hb⟩
    · rw [ch3b] at hy; cases hy
    · cases e; rw [p2b]; show s3.ab b = none; rw [ab3 b hab.symm]; exact c2.ab
    · rw [show (gather s3 b).ab b = s3.ab b from rfl, ab3 b hab.symm, c2.ab] at hu; cases hu
  have Sx : Strand (gather s3 b) par2 w x [x] := by
    refine ⟨q2.frame (fun v hv => fr v (by simp at hv; rw [hv]; exact hab)) (fun v hv hne => by simp at hv; exact absurd (by rw [hv]) hne) (by simp) (fun _ _ => rfl), .one x, fun a' l' e => ?_, fun u c hu => ?_, fun v hv => by simp at hv; subst hv; exact n2 ▸ ha⟩
    · cases e; rw [p2 x hab]; rw [b4]; exact abx
    · rw [show (gather s3 b).ab x = none from abx] at hu; cases hu
  have hAdj : ∀ u v, without E x b u v ↔ Adj par2 u v := by
    intro u v
    unfold without; rw [hE1 u v]
    unfold Adj
    by_cases hu : u = b <;> by_cases hv : v = b
    · subst hu; subst hv; rw [p2b]; simp; intro q; rw [pb] at q; cases q; exact absurd rfl hab
    · subst hu; rw [p2b, p2 v hv, pb]; simp [hv]
      constructor
      · rintro ⟨q | q, r⟩
        · exact absurd q.symm r
        · exact q
      · intro q
        refine ⟨.inr q, ?_⟩
        intro vx; subst vx; rw [b4] at q; cases q
    · subst hv; rw [p2b, p2 u hu, pb]; simp [hu]
      constructor
      · rintro ⟨q | q, r⟩
        · exact q
        · exact absurd q.symm r
      · intro q
        refine ⟨.inl q, ?_⟩
        intro ux; subst ux; rw [b4] at q; cases q
    · rw [p2 u hu, p2 v hv]; simp [hu, hv]
  refine ⟨gather s3 b, ?_, ⟨par2, ⟨fun y => ?_, fun y z e => ?_, fun v hv => ?_, fun v hv c => ?_⟩, hAdj⟩, n2, ?_⟩
  · have eo : LC.openTie s x b = some s2 := by
      unfold LC.openTie; rw [b1]
      show (match LC.lead s1 b with | none => none | some (s2, _) => if x = b ∨ s2.ch false b ≠ some x ∨ s2.mn b ≠ 2 then none else some s2) = _
      rw [c1]
      show (if x = b ∨ s2.ch false b ≠ some x ∨ s2.mn b ≠ 2 then none else some s2) = _
      rw [if_neg]; rintro (q | q | q)
      · exact hab q
      · exact q hx
      · exact q mn2
    unfold LC.cut; rw [eo]
  · have := c2.rep.ac y
    induction this with
    | root v e =>
      by_cases q : v = b
      · subst q; exact .root v p2b
      · exact .root v (by rw [p2 v q]; exact e)
    | step v y e _ ih =>
      by_cases q : v = b
      · subst q; exact .root v p2b
      · exact .step v y (by rw [p2 v q]; exact e) ih
  · by_cases q : y = b
    · subst q; rw [p2b] at e; cases e
    · rw [p2 y q] at e; exact c2.rep.bd y z e
  · obtain ⟨t, C, vC, SC⟩ := c2.rep.st v hv
    by_cases q : ∃ u, u ∈ C ∧ u ∈ [x] ++ [b]
    · obtain ⟨u, u1, u2⟩ := q
      obtain ⟨_, rfl⟩ := SC.uniq c2.st u1 u2
      simp at vC
      rcases vC with rfl | rfl
      · exact ⟨v, [v], by simp, Sx⟩
      · exact ⟨v, [v], by simp, Sb⟩
    · have xC : ∀ v ∈ C, v ≠ x := fun v hv e => q ⟨v, hv, by rw [e]; simp⟩
      have bC : ∀ v ∈ C, v ≠ b := fun v hv e => q ⟨v, hv, by rw [e]; simp⟩
      have ht := SC.sub.root_mem
      refine ⟨t, C, vC, SC.sub.frame (fun v hv => fr v (bC v hv)) (fun v hv _ => ab3 v (xC v hv)) (SC.nd c2.rep) (fun _ _ => rfl), SC.ch.congr (fun v hv => p2 v (bC v hv)), fun a' l' e => ?_, fun u c hu q' => ?_, SC.lo⟩
      · show s3.ab t = _
        rw [ab3 t (xC t ht), p2 a' (bC a' (by rw [e]; simp))]; exact SC.ab a' l' e
      · rw [show (gather s3 b).ab t = s3.ab t from rfl, ab3 t (xC t ht)] at hu
        by_cases ub : u = b
        · subst ub; rw [show (gather s3 u).ch c u = s3.ch c u from rfl, ch3b] at q'; cases q'
        · rw [show (gather s3 b).ch c u = s3.ch c u from rfl, ch3 c u ub] at q'; exact SC.top u c hu q'
  · by_cases q : v = b
    · subst q; exact ch3b c
    · show s3.ch c v = none; rw [ch3 c v q]; exact c2.rep.out v hv c
  · show 2 * s2.cnt ≤ _
    rw [b7] at c4; omega
theorem Holds.addW {a b : Nat} {m : Int} (h : Holds s E w) (ha : a < s.n) (hb : b < s.n) (hb60 : s.n < 2 ^ 60) (hc : Conn E a b) : ∃ s' p, addW s a b m = some s' ∧ Path E a b p ∧ p.Nodup ∧ Holds s' E (fun v => if v ∈ p then w v + m else w v) ∧ s'.n = s.n ∧ 2 * s'.cnt ≤ 2 * s.cnt + 4 * leadB s.n := by
  obtain ⟨par, hR, hE⟩ := h
  obtain ⟨s1, par1, p, a1, a2, a3, a4, a5⟩ := hR.openWay ha hb hb60 ((Conn.congr hE).mp hc)
  have hE1 : ∀ x y, E x y ↔ Adj par1 x y := fun x y => (hE x y).trans (a3 x y).symm
  have hN := a2.st.nd a2.rep
  have bp := a2.st.sub.root_mem
  let w' : Nat → Int := fun v => if v ∈ p then w v + m else w v
  have hw : ∀ v ∈ p, w' v = w v + m := fun v hv => if_pos hv
  have hw' : ∀ v, v ∉ p → w' v = w v := fun v hv => if_neg hv
  have Sb : Sub (moreBy s1 (some b) m) w' (some b) false 0 p := moreBy_sub (d := 0) (by have := a2.st.sub.shift (w' := w') (m := m) hw; exact this) hN
  have al : ∀ v, v ≠ b → Alike s1 (moreBy s1 (some b) m) v := fun v hv => ⟨fun _ => rfl, rfl, up_ne _ _ hv, up_ne _ _ hv, rfl, up_ne _ _ hv, up_ne _ _ hv⟩
  have hp : Path E a b p := by
    have : ∀ {a b : Nat} {p : List Nat}, Path (Adj par1) a b p → Path E a b p := by
      intro a b p h
      induction h with
      | one a => exact .one a
      | cons a c b p e _ ih => exact .cons a c b p ((hE1 a c).mpr e) ih
    exact this a2.path
  refine ⟨moreBy s1 (some b) m, p, by unfold LC.addW; rw [a1], hp, hN, ⟨par1, ⟨a2.rep.ac, a2.rep.bd, fun v hv => ?_, a2.rep.out⟩, hE1⟩, a4, a5⟩
  obtain ⟨t, C, vC, SC⟩ := a2.rep.st v hv
  by_cases q : ∃ u, u ∈ C ∧ u ∈ p
  · obtain ⟨u, u1, u2⟩ := q
    obtain ⟨_, rfl⟩ := SC.uniq a2.st u1 u2
    exact ⟨b, _, vC, Sb, a2.st.ch, a2.st.ab, a2.st.top, a2.st.lo⟩
  · have pC : ∀ v ∈ C, v ∉ p := fun v h1 h2 => q ⟨v, h1, h2⟩
    exact ⟨t, C, vC, SC.sub.frame (fun v hv => al v (fun e => pC v hv (e ▸ bp))) (fun _ _ _ => rfl) (SC.nd a2.rep) (fun v hv => hw' v (pC v hv)), SC.ch, SC.ab, SC.top, SC.lo⟩
theorem Holds.new (h : Holds s E w) (x : Int) : Holds (putPoint s x) E (up w s.n x) := by
  obtain ⟨par, hR, hE⟩ := h
  have pn : par s.n = none := by
    cases e : par s.n with
    | none => rfl
    | some y => have := (hR.bd _ _ e).1; omega
  have al : ∀ v, v < s.n → Alike s (putPoint s x) v := fun v hv => by
    have hne : v ≠ s.n := by omega
    exact ⟨fun _ => up_ne _ _ hne, up_ne _ _ hne, up_ne _ _ hne, up_ne _ _ hne, up_ne _ _ hne, up_ne _ _ hne, up_ne _ _ hne⟩
  refine ⟨par, ⟨hR.ac, fun u v e => ?_, fun v hv => ?_, fun v hv c => ?_⟩, hE⟩
  · have := hR.bd u v e
    exact ⟨Nat.lt_succ_of_lt this.1, Nat.lt_succ_of_lt this.2⟩
  · by_cases e : v = s.n
    · subst e
      refine ⟨s.n, [s.n], by simp, .node s.n false 0 [] [] _ (fun c y hy => ?_) ?_ ?_ ?_ ?_ ?_, .one _, fun a l e => ?_, fun u c hu => ?_, fun v hv => by simp at hv; subst hv; exact Nat.lt_succ_self _⟩
      · rw [show (putPoint s x).ch c s.n = none from up_same _ _ _] at hy; cases hy
      · rw [show (putPoint s x).ch false s.n = none from up_same _ _ _]; exact .nil _ _
      · rw [show (putPoint s x).ch true s.n = none from up_same _ _ _]; exact .nil _ _
      · show up s.wo s.n x s.n + 0 = up w s.n x s.n; rw [up_same, up_same]; omega
      · cases (false ^^ (putPoint s x).fl s.n) <;> rfl
      · refine ⟨up_same _ _ _, ?_, fun v hv => ?_, s.n, by simp, ?_⟩
        · show up s.to s.n x s.n + _ = _; rw [up_same]; simp
        · simp at hv; subst hv; show up w s.n x s.n ≤ up s.mo s.n x s.n + 0; rw [up_same, up_same]; omega
        · show up w s.n x s.n = up s.mo s.n x s.n + 0; rw [up_same, up_same]; omega
      · cases e; rw [pn]; exact up_same _ _ _
      · rw [show (putPoint s x).ab s.n = none from up_same _ _ _] at hu; cases hu
    · have hv' : v < s.n := by have : v < s.n + 1 := hv; omega
      obtain ⟨t, C, vC, SC⟩ := hR.st v hv'
      have lo := SC.lo
      have ab : ∀ v, v < s.n → (putPoint s x).ab v = s.ab v := fun v hv => up_ne _ _ (by omega)
      refine ⟨t, C, vC, SC.sub.frame (fun v hv => al v (lo v hv)) (fun v hv _ => ab v (lo v hv)) (SC.nd hR) (fun v hv => up_ne _ _ (by have := lo v hv; omega)), SC.ch, fun a l e => by rw [ab t (lo t SC.sub.root_mem)]; exact SC.ab a l e, fun u c hu q => ?_, fun v hv => Nat.lt_succ_of_lt (lo v hv)⟩
      rw [ab t (lo t SC.sub.root_mem)] at hu
      by_cases e : u = s.n
      · subst e; rw [show (putPoint s x).ch c s.n = none from up_same _ _ _] at q; cases q
      · rw [show (putPoint s x).ch c u = s.ch c u from up_ne _ _ e] at q; exact SC.top u c hu q
  · have hv' : s.n + 1 ≤ v := hv
    rw [show (putPoint s x).ch c v = s.ch c v from up_ne _ _ (by omega)]; exact hR.out v (by omega) c
end
end LC
end
section
set_option autoImplicit false
namespace LC
def inorderL : Nat → S → List (Option Nat × Bool) → List Nat → Option (S × List Nat)
  | 0, _, _, _ => none
  | _ + 1, s, [], found => some (s, found)
  | k + 1, s, (some x, true) :: ws, found => inorderL k s ws (found ++ [x])
  | _ + 1, _, (none, true) :: _, _ => none
  | k + 1, s, (none, false) :: ws, found => inorderL k s ws found
  | k + 1, s, (some x, false) :: ws, found =>
    let s1 := handDown s x
    inorderL k s1 ((s1.ch false x, false) :: (some x, true) :: (s1.ch true x, false) :: ws) found
def inorder (s : S) (top : Nat) : Option (S × List Nat) := if MnOk s then inorderL (4 * s.n + 4) s [(some top, false)] [] else none
def isBelow (s : S) (o : Option Nat) (m : Int) : Bool := match o with
  | none => false
  | some x => decide (m ≤ s.mo x)
def firstL : Nat → S → Nat → Int → Option (S × Nat)
  | 0, _, _, _ => none
  | k + 1, s, x, m => if isBelow s (s.ch false x) m || !decide (m ≤ s.wo x) then
      (match (if isBelow s (s.ch false x) m then s.ch false x else s.ch true x) with
      | none => none
      | some y => firstL k (handDown s y) y m)
    else some (s, x)
def firstBy (s : S) (top : Nat) (m : Int) : Option (S × Nat) := if isBelow s (some top) m = true ∧ MnOk s then
    (match firstL (s.n + 1) (handDown s top) top m with
    | none => none
    | some (s1, x) => match lift s1 x with
      | none => none
      | some s2 => some (s2, x))
  else none
section
variable {s s' : S} {par : Nat → Option Nat} {w : Nat → Int} {E : Nat → Nat → Prop}
theorem inorderL_ok : ∀ (m : Nat) (C : List Nat) (s : S) (o : Option Nat), C.length = m → Sub s w o false 0 C → C.Nodup → ∀ (F : Nat) (ws : List (Option Nat × Bool)) (found : List Nat),
    ∃ s', inorderL (F + (3 * C.length + 1)) s ((o, false) :: ws) found = inorderL F s' ws (found ++ C) ∧ Sub s' w o false 0 C ∧ Fr s s' C ∧ s'.ab = s.ab ∧ s'.n = s.n ∧ s'.cnt = s.cnt := by
  intro m
  induction m using Nat.strongRecOn with
  | ind m ih =>
  intro C s o hm hC hN F ws found
  cases o with
  | none =>
    rw [hC.inv_none]
    exact ⟨s, by simp [inorderL], .nil _ _, Fr.refl _ _, rfl, rfl, rfl⟩
  | some x =>
    obtain ⟨a1, a2, a3, a4⟩ := handDown_sub hC hN
    obtain ⟨e1, e2, e3, e4, e5⟩ := handDown_same s x
    obtain ⟨L, R, b1, b2, b3, b4, b5, b6⟩ := a1.inv
    rw [a2, a3] at b2 b3
    rw [a2] at b5
    have b5' : C = ord false L x R := b5
    have hl : C.length = L.length + R.length + 1 := by rw [b5', len_ord]
    have hN' := nd_ord.mp (b5' ▸ hN)
    have hL : ∀ v ∈ L, v ∈ C := fun v hv => by rw [b5', mem_ord]; exact .inr (.inl hv)
    have hR : ∀ v ∈ R, v ∈ C := fun v hv => by rw [b5', mem_ord]; exact .inr (.inr hv)
    obtain ⟨s2, c1, c2, c3, c4, c5, c6⟩ := ih L.length (by omega) L (handDown s x) ((handDown s x).ch false x) rfl b2 hN'.2.2.1 (F + (3 * R.length + 1) + 1) ((some x, true) :: ((handDown s x).ch true x, false) :: ws) found
    have R2 : Sub s2 w ((handDown s x).ch true x) false 0 R := b3.frame (fun v hv => (c3 v (fun q => hN'.2.2.2.2 v q hv)).1) (fun v hv _ => by rw [c4]) hN'.2.2.2.1 (fun _ _ => rfl)
    obtain ⟨s3, d1, d2, d3, d4, d5, d6⟩ := ih R.length (by omega) R s2 _ rfl R2 hN'.2.2.2.1 F ws (found ++ L ++ [x])
    refine ⟨s3, ?_, ?_, ((a4.trans (c3.mono hL)).trans (d3.mono hR)), by rw [d4, c4, e1], by rw [d5, c5, e2], by rw [d6, c6, e3]⟩
    · rw [show F + (3 * C.length + 1) = (F + (3 * R.length + 1) + 1 + (3 * L.length + 1)) + 1 by omega]
      show inorderL (F + (3 * R.length + 1) + 1 + (3 * L.length + 1)) (handDown s x) (((handDown s x).ch false x, false) :: (some x, true) :: ((handDown s x).ch true x, false) :: ws) found = _
      rw [c1]
      show inorderL (F + (3 * R.length + 1)) s2 (((handDown s x).ch true x, false) :: ws) (found ++ L ++ [x]) = _
      rw [d1, b5']
      show inorderL F s3 ws (found ++ L ++ [x] ++ R) = inorderL F s3 ws (found ++ (L ++ x :: R))
      simp
    · have al2 : Alike (handDown s x) s2 x := (c3 x hN'.1).1
      have al3 : Alike s2 s3 x := (d3 x hN'.2.1).1
      have al := al2.trans al3
      have L3 : Sub s3 w ((handDown s x).ch false x) false 0 L := c2.frame (fun v hv => (d3 v (hN'.2.2.2.2 v hv)).1) (fun v hv _ => by rw [d4]) hN'.2.2.1 (fun _ _ => rfl)
      refine .node x false 0 L R C (fun c y hy => ?_) (by rw [al.ch, al.fl, al.lt, a2, a3]; exact L3) (by rw [al.ch, al.fl, al.lt, a2, a3]; exact d2) (by rw [al.wo]; exact b4) (by rw [al.fl, a2]; exact b5) (b6.frame al (fun _ _ => rfl))
      rw [al.ch] at hy; rw [d4, c4]; exact b1 c y hy
theorem Rep.within {t : Nat} {D : List Nat} (hR : Rep s par w) (St : Strand s par w t D) (h : Sub s' w (some t) false 0 D) (fr : Fr s s' D) (ab : s'.ab = s.ab) (hn : s'.n = s.n) : Rep s' par w ∧ Strand s' par w t D := by
  have S' : Strand s' par w t D := ⟨h, St.ch, fun a l e => by rw [ab]; exact St.ab a l e, fun u c hu q => by
    rw [ab] at hu
    have hu' := St.ab_out hR u hu
    rw [(fr u hu').1.ch] at q; exact St.top u c hu q, by rw [hn]; exact St.lo⟩
  exact ⟨hR.step1 St fr hn (fun v hv c y hy => (h.kids v hv c y hy).1) (fun v hv => ⟨t, D, hv, S'⟩), S'⟩
theorem Path.congr {F : Nat → Nat → Prop} (hE : ∀ x y, E x y → F x y) {a b : Nat} {p : List Nat} (h : Path E a b p) : Path F a b p := by
  induction h with
  | one a => exact .one a
  | cons a c b p e _ ih => exact .cons a c b p (hE _ _ e) ih
theorem Holds.way {a b : Nat} (h : Holds s E w) (ha : a < s.n) (hb : b < s.n) (hb60 : s.n < 2 ^ 60) (hc : Conn E a b) : ∃ s' s'' p, openWay s a b = some s' ∧ inorder s' b = some (s'', p) ∧ Path E a b p ∧ p.Nodup ∧ Holds s'' E w ∧ s''.n = s.n ∧ s'.n = s.n ∧ 2 * s''.cnt ≤ 2 * s.cnt + 4 * leadB s.n ∧ s'.cnt ≤ s''.cnt := by
  obtain ⟨par, hR, hE⟩ := h
  obtain ⟨s1, par1, p, a1, a2, a3, a4, a5⟩ := hR.openWay ha hb hb60 ((Conn.congr hE).mp hc)
  have hE1 : ∀ x y, E x y ↔ Adj par1 x y := fun x y => (hE x y).trans (a3 x y).symm
  have hN := a2.st.nd a2.rep
  have hl := a2.st.len a2.rep
  obtain ⟨s2, b1, b2, b3, b4, b5, b6⟩ := inorderL_ok p.length p s1 (some b) rfl a2.st.sub hN (4 * s1.n + 4 - (3 * p.length + 1)) [] []
  obtain ⟨c1, c2⟩ := a2.rep.within a2.st b2 b3 b4 b5
  refine ⟨s1, s2, p, a1, ?_, a2.path.congr (fun x y => (hE1 x y).mpr), hN, ⟨par1, c1, hE1⟩, by rw [b5, a4], a4, by omega, by omega⟩
  unfold LC.inorder
  rw [if_pos (a2.rep.mnOk (by rw [a4]; exact hb60)), show 4 * s1.n + 4 = 4 * s1.n + 4 - (3 * p.length + 1) + (3 * p.length + 1) by omega, b1]
  obtain ⟨k, hk⟩ : ∃ k, 4 * s1.n + 4 - (3 * p.length + 1) = k + 1 := ⟨4 * s1.n + 4 - (3 * p.length + 1) - 1, by omega⟩
  rw [hk]; simp [inorderL]
theorem isBelow_iff {o : Option Nat} {C : List Nat} {m : Int} (h : Sub s w o false 0 C) : isBelow s o m = true ↔ ∃ v ∈ C, m ≤ w v := by
  cases o with
  | none => rw [h.inv_none]; simp [isBelow]
  | some x =>
    obtain ⟨L, R, _, _, _, _, _, h6⟩ := h.inv
    obtain ⟨_, _, h3, v0, h4, h5⟩ := h6
    unfold isBelow
    simp only [decide_eq_true_eq]
    constructor
    · intro q; exact ⟨v0, h4, by omega⟩
    · rintro ⟨v, hv, q⟩; have := h3 v hv; omega
theorem firstL_ok {m : Int} {D : List Nat} (hN : D.Nodup) : ∀ (k : Nat) (s : S) (x t j : Nat) (C : List Nat), C.length ≤ k → Sub s w (some x) false 0 C → s.fl x = false → s.lt x = 0 → Up s w x C t D j → (∃ v ∈ C, m ≤ w v) →
    ∃ s' y, firstL k s x m = some (s', y) ∧ y ∈ D ∧ m ≤ w y ∧ Sub s' w (some t) false 0 D ∧ Fr s s' D ∧ s'.ab = s.ab ∧ s'.n = s.n ∧ s'.cnt = s.cnt := by
  intro k
  induction k with
  | zero =>
    intro s x t j C hk hC
    have := List.length_pos_of_mem hC.root_mem; omega
  | succ k ih =>
    intro s x t j C hk hC fx lx hU hm
    obtain ⟨L, R, b1, b2, b3, b4, b5, b6⟩ := hC.inv
    rw [fx, lx] at b2 b3
    rw [fx] at b5
    have b5' : C = ord false L x R := b5
    have hCN := hU.nd hN
    have hN' := nd_ord.mp (b5' ▸ hCN)
    have go : ∀ (c : Bool) (y : Nat) (P Q : List Nat), s.ch c x = some y → Sub s w (some y) false 0 P → Sub s w (s.ch (!c) x) false 0 Q → C = ord c P x Q → (∃ v ∈ P, m ≤ w v) →
        ∃ s' z, firstL k (handDown s y) y m = some (s', z) ∧ z ∈ D ∧ m ≤ w z ∧ Sub s' w (some t) false 0 D ∧ Fr s s' D ∧ s'.ab = s.ab ∧ s'.n = s.n ∧ s'.cnt = s.cnt := by
      intro c y P Q h1 h2 h3 h4 h5
      subst h4
      have hNP := nd_ord.mp hCN
      have hl : P.length < (ord c P x Q).length := by rw [len_ord]; omega
      have hUy : Up s w y P t D (j + 1) := .step c x y P Q t D j h1 (b1 c y h1) fx lx (by omega) (fun z hz => b1 _ z hz) h3 b6 hU
      obtain ⟨d1, d2, d3, d4⟩ := handDown_sub h2 hNP.2.2.1
      obtain ⟨e1, e2, e3, e4, e5⟩ := handDown_same s y
      have hUy' : Up (handDown s y) w y P t D (j + 1) := hUy.frame hN (by rw [e1]) (fun v hv hn => d4 v hn)
      obtain ⟨s', z, f1, f2, f3, f4, f5, f6, f7, f8⟩ := ih (handDown s y) y t (j + 1) P (by omega) d1 d2 d3 hUy' h5
      exact ⟨s', z, f1, f2, f3, f4, (d4.mono hUy.mem).trans f5, f6.trans e1, f7.trans e2, f8.trans e3⟩
    by_cases q1 : isBelow s (s.ch false x) m = true
    · cases hc : s.ch false x with
      | none => rw [hc] at q1; cases q1
      | some y =>
        have q := (isBelow_iff b2).mp q1
        rw [hc] at b2
        obtain ⟨s', z, r1, r2⟩ := go false y L R hc b2 b3 b5' q
        refine ⟨s', z, ?_, r2⟩
        unfold firstL
        rw [q1, hc]
        exact r1
    · have q1' : isBelow s (s.ch false x) m = false := by simpa using q1
      by_cases q2 : m ≤ s.wo x
      · refine ⟨s, x, ?_, hU.mem x hC.root_mem, by omega, hU.sub hC, Fr.refl _ _, rfl, rfl, rfl⟩
        unfold firstL
        rw [q1', decide_eq_true q2]; rfl
      · have hm' : ∃ v ∈ R, m ≤ w v := by
          obtain ⟨v, hv, hw⟩ := hm
          rw [b5', mem_ord] at hv
          rcases hv with rfl | hv | hv
          · omega
          · exact absurd ((isBelow_iff b2).mpr ⟨v, hv, hw⟩) q1
          · exact ⟨v, hv, hw⟩
        cases hc : s.ch true x with
        | none => rw [hc] at b3; rw [b3.inv_none] at hm'; obtain ⟨_, q, _⟩ := hm'; cases q
        | some y =>
          rw [hc] at b3
          obtain ⟨s', z, r1, r2⟩ := go true y R L hc b3 b2 (by rw [b5']; rfl) hm'
          refine ⟨s', z, ?_, r2⟩
          unfold firstL
          rw [q1', decide_eq_false q2, hc]
          exact r1
theorem Holds.most {a b : Nat} (h : Holds s E w) (ha : a < s.n) (hb : b < s.n) (hb60 : s.n < 2 ^ 60) (hc : Conn E a b) : ∃ s' s'' p x, openWay s a b = some s' ∧ firstBy s' b (s'.mo b) = some (s'', x) ∧ Path E a b p ∧ p.Nodup ∧ x ∈ p ∧ w x = s'.mo b ∧ (∀ v ∈ p, w v ≤ w x) ∧
    Holds s'' E w ∧ s''.n = s.n ∧ s'.n = s.n ∧ 2 * s''.cnt ≤ 2 * s.cnt + 4 * leadB s.n + 2 * s.n ∧ 2 * s'.cnt ≤ 2 * s.cnt + 4 * leadB s.n := by
  obtain ⟨par, hR, hE⟩ := h
  obtain ⟨s1, par1, p, a1, a2, a3, a4, a5⟩ := hR.openWay ha hb hb60 ((Conn.congr hE).mp hc)
  have hE1 : ∀ x y, E x y ↔ Adj par1 x y := fun x y => (hE x y).trans (a3 x y).symm
  have hN := a2.st.nd a2.rep
  have hl := a2.st.len a2.rep
  obtain ⟨_, _, _, _, _, _, _, h6⟩ := a2.st.sub.inv
  obtain ⟨_, _, m1, v0, m2, m3⟩ := h6
  obtain ⟨d1, d2, d3, d4⟩ := handDown_sub a2.st.sub hN
  obtain ⟨e1, e2, e3, e4, e5⟩ := handDown_same s1 b
  have hT := a2.st.ab_out a2.rep
  obtain ⟨s2, x, f1, f2, f3, f4, f5, f6, f7, f8⟩ := firstL_ok hN (s1.n + 1) (handDown s1 b) b b 0 p (by omega) d1 d2 d3 (.top b p (by rw [e1]; exact hT)) ⟨v0, m2, (by omega : s1.mo b ≤ w v0)⟩
  obtain ⟨c1, c2⟩ := a2.rep.within a2.st f4 (d4.trans f5) (f6.trans e1) (f7.trans e2)
  obtain ⟨s3, g1, g2, g3, g4, g5, g6, g7, g8⟩ := c1.lift c2 f2 (by rw [f7, e2, a4]; exact hb60)
  refine ⟨s1, s3, p, x, a1, ?_, a2.path.congr (fun x y => (hE1 x y).mpr), hN, f2, ?_, ?_, ⟨par1, g2, hE1⟩, by rw [g6, f7, e2, a4], a4, by omega, a5⟩
  · unfold LC.firstBy
    rw [if_pos ⟨by simp [isBelow], a2.rep.mnOk (by rw [a4]; exact hb60)⟩, f1]
    show (match LC.lift s2 x with | none => none | some s2 => some (s2, x)) = _
    rw [g1]
  · have := m1 x f2; omega
  · intro v hv; have := m1 v hv; omega
theorem Holds.total {a : Nat} (h : Holds s E w) (ha : a < s.n) (hb60 : s.n < 2 ^ 60) : ∃ s', openWay s a a = some s' ∧ s'.to a = w a ∧ Holds s' E w ∧ s'.n = s.n ∧ 2 * s'.cnt ≤ 2 * s.cnt + 4 * leadB s.n := by
  obtain ⟨par, hR, hE⟩ := h
  obtain ⟨s1, par1, p, a1, a2, a3, a4, a5⟩ := hR.openWay ha ha hb60 (.refl a)
  have hE1 : ∀ x y, E x y ↔ Adj par1 x y := fun x y => (hE x y).trans (a3 x y).symm
  have hN := a2.st.nd a2.rep
  have hp : p = [a] := by
    have last : ∀ {x y : Nat} {p : List Nat}, Path (Adj par1) x y p → y ∈ p := by
      intro x y p h
      induction h with
      | one a => simp
      | cons a c b p _ _ ih => exact List.mem_cons_of_mem _ ih
    cases a2.path with
    | one => rfl
    | cons _ c _ q e hq => exact absurd (last hq) (List.nodup_cons.mp hN).1
  subst hp
  obtain ⟨_, _, _, _, _, _, _, h6⟩ := a2.st.sub.inv
  have := h6.to
  refine ⟨s1, a1, ?_, ⟨par1, a2.rep, hE1⟩, a4, a5⟩
  simp at this; exact this
theorem Holds.joined {a b : Nat} (h : Holds s E w) (ha : a < s.n) (hb : b < s.n) (hb60 : s.n < 2 ^ 60) : ∃ s' r, areJoined s a b = some (s', r) ∧ Holds s' E w ∧ (r = true ↔ Conn E a b) ∧ s'.n = s.n ∧ 2 * s'.cnt ≤ 2 * s.cnt + 2 * leadB s.n := by
  obtain ⟨par, hR, hE⟩ := h
  obtain ⟨s1, r, a1, a2, a3, a4, a5⟩ := hR.areJoined ha hb hb60
  exact ⟨s1, r, a1, ⟨par, a2, hE⟩, a3.trans (Conn.congr hE).symm, a4, a5⟩
end
theorem turn_cnt (s : S) (x : Nat) : s.cnt ≤ (turn s x).cnt ∧ (turn s x).n = s.n := by
  unfold turn
  cases hx : s.ab x with
  | none => exact ⟨Nat.le_refl _, rfl⟩
  | some u =>
    have hpb : ∀ g, (putBelow s g u x).cnt = s.cnt ∧ (putBelow s g u x).n = s.n := by
      intro g
      cases g with
      | none => exact ⟨rfl, rfl⟩
      | some g =>
        show (if s.ch false g = some u then setCh s false g (some x) else if s.ch true g = some u then setCh s true g (some x) else s : S).cnt = _ ∧ (if s.ch false g = some u then setCh s false g (some x) else if s.ch true g = some u then setCh s true g (some x) else s : S).n = _
        split
        · exact ⟨rfl, rfl⟩
        · split <;> exact ⟨rfl, rfl⟩
    have h0 : ∀ (t : S) (b : Bool), (turnAt t x u b).cnt = t.cnt + 1 ∧ (turnAt t x u b).n = t.n := fun t b => by
      rw [turnAt_eq]; exact ⟨by show (turnPtr t x u b).cnt + 1 = _; rw [(turnPtr_same t x u b).2.2.2.2.2.2.2], (turnPtr_same t x u b).2.2.2.2.2.2.1⟩
    have h1 : (setAb (if isTop s u = true then s else putBelow s (s.ab u) u x) x (s.ab u)).cnt = s.cnt ∧ (setAb (if isTop s u = true then s else putBelow s (s.ab u) u x) x (s.ab u)).n = s.n := by
      show (if isTop s u = true then s else putBelow s (s.ab u) u x).cnt = _ ∧ (if isTop s u = true then s else putBelow s (s.ab u) u x).n = _
      split
      · exact ⟨rfl, rfl⟩
      · exact hpb _
    have this : ∀ t : S, t.cnt = s.cnt ∧ t.n = s.n → s.cnt ≤ (if t.ch false u = some x then turnAt t x u false else turnAt t x u true).cnt ∧ (if t.ch false u = some x then turnAt t x u false else turnAt t x u true).n = s.n := by
      intro t ht
      split
      · rw [(h0 t false).1, (h0 t false).2]; omega
      · rw [(h0 t true).1, (h0 t true).2]; omega
    exact this _ h1
theorem liftL_cnt : ∀ (k : Nat) (s s' : S) (x : Nat), liftL k s x = some s' → s.cnt ≤ s'.cnt ∧ s'.n = s.n := by
  intro k
  induction k with
  | zero => intro s s' x h; cases h
  | succ k ih =>
    intro s s' x h
    unfold liftL at h
    split at h
    · cases h; exact ⟨Nat.le_refl _, rfl⟩
    · cases hx : s.ab x with
      | none => rw [hx] at h; cases h
      | some u =>
        rw [hx] at h
        simp only at h
        split at h
        · have := ih _ _ _ h; have := turn_cnt s x; omega
        · cases hu : s.ab u with
          | none => rw [hu] at h; cases h
          | some g =>
            rw [hu] at h
            simp only at h
            have q := ih _ _ _ h
            generalize (if (s.ch false u == some x) == (s.ch false g == some u) then u else x) = y at q
            have := turn_cnt s y
            have := turn_cnt (turn s y) x
            omega
theorem hand_cnt : ∀ (q : List Nat) (s : S), (q.foldl handDown s).cnt = s.cnt ∧ (q.foldl handDown s).n = s.n := by
  intro q
  induction q with
  | nil => intro s; exact ⟨rfl, rfl⟩
  | cons a q ih => intro s; rw [List.foldl_cons, (ih _).1, (ih _).2, (handDown_same s a).2.2.1, (handDown_same s a).2.1]; exact ⟨rfl, rfl⟩
theorem lift_cnt {s s' : S} {x : Nat} (h : lift s x = some s') : s.cnt ≤ s'.cnt ∧ s'.n = s.n := by
  unfold lift at h
  split at h
  case isFalse => cases h
  cases hcl : climb s (s.n + 1) x [] with
  | none => rw [hcl] at h; cases h
  | some q =>
    rw [hcl] at h
    have h1 := liftL_cnt _ _ _ _ h
    have h2 := hand_cnt q s
    omega
theorem letGo_cnt (s : S) (x : Nat) : (letGo s x).cnt = s.cnt + 1 ∧ (letGo s x).n = s.n := by
  unfold letGo; cases s.ch true x <;> exact ⟨rfl, rfl⟩
theorem leadL_cnt : ∀ (k : Nat) (s s' : S) (x y : Nat), leadL k s x = some (s', y) → s.cnt ≤ s'.cnt ∧ s'.n = s.n := by
  intro k
  induction k with
  | zero => intro s s' x y h; cases h
  | succ k ih =>
    intro s s' x y h
    unfold leadL at h
    cases hx : s.ab x with
    | none => rw [hx] at h; cases h; exact ⟨Nat.le_refl _, rfl⟩
    | some u =>
      rw [hx] at h
      simp only at h
      cases hl : lift s u with
      | none => rw [hl] at h; cases h
      | some s1 =>
        rw [hl] at h
        have q := ih _ _ _ _ h
        have q1 := lift_cnt hl
        have q2 := letGo_cnt s1 u
        have q3 : (takeIn (letGo s1 u) u x).cnt = (letGo s1 u).cnt + 1 ∧ (takeIn (letGo s1 u) u x).n = (letGo s1 u).n := ⟨rfl, rfl⟩
        omega
theorem lead_cnt {s s' : S} {x y : Nat} (h : lead s x = some (s', y)) : s.cnt ≤ s'.cnt ∧ s'.n = s.n := by
  unfold lead at h
  cases h1 : lift s x with
  | none => rw [h1] at h; cases h
  | some s1 =>
    rw [h1] at h
    simp only at h
    cases h2 : leadL (s1.n + 1) (letGo s1 x) x with
    | none => rw [h2] at h; cases h
    | some p =>
      obtain ⟨s2, l⟩ := p
      rw [h2] at h
      simp only at h
      cases h3 : lift s2 x with
      | none => rw [h3] at h; cases h
      | some s3 =>
        rw [h3] at h; cases h
        have q1 := lift_cnt h1
        have q2 := letGo_cnt s1 x
        have q3 := leadL_cnt _ _ _ _ _ h2
        have q4 := lift_cnt h3
        omega
def S0 : S := { n := 0, ch := fun _ _ => none, ab := fun _ => none, fl := fun _ => false, lt := fun _ => 0, wo := fun _ => 0, mn := fun _ => 0, to := fun _ => 0, mo := fun _ => 0, cnt := 0 }
theorem Holds.start (w : Nat → Int) : Holds S0 (fun _ _ => False) w := by
  refine ⟨fun _ => none, ⟨fun x => .root x rfl, (fun x y e => by cases e), (fun v hv => by exact absurd hv (Nat.not_lt_zero _)), fun _ _ _ => rfl⟩, fun x y => ⟨False.elim, ?_⟩⟩
  rintro (e | e) <;> cases e
end LC
end
section
set_option autoImplicit false
namespace LC
def Lk (es : List (Nat × Nat)) (ks : Nat → Prop) (x y : Nat) : Prop := ∃ k, ks k ∧ (es[k]? = some (x, y) ∨ es[k]? = some (y, x))
theorem Lk.symm {es : List (Nat × Nat)} {ks : Nat → Prop} {x y : Nat} (h : Lk es ks x y) : Lk es ks y x := by
  obtain ⟨k, a, b⟩ := h
  exact ⟨k, a, b.symm⟩
theorem Lk.mono {es : List (Nat × Nat)} {ks js : Nat → Prop} {x y : Nat} (hk : ∀ k, k < es.length → ks k → js k) (h : Lk es ks x y) : Lk es js x y := by
  obtain ⟨k, a, b⟩ := h
  refine ⟨k, hk k ?_ a, b⟩
  rcases b with b | b <;> exact (List.getElem?_eq_some_iff.mp b).1
theorem Lk.more {es : List (Nat × Nat)} {ks : Nat → Prop} {x y : Nat} (e : Nat × Nat) (h : Lk es ks x y) : Lk (es ++ [e]) ks x y := by
  obtain ⟨k, a, b⟩ := h
  refine ⟨k, a, ?_⟩
  rcases b with b | b
  · exact .inl (by rw [List.getElem?_append_left (List.getElem?_eq_some_iff.mp b).1]; exact b)
  · exact .inr (by rw [List.getElem?_append_left (List.getElem?_eq_some_iff.mp b).1]; exact b)
theorem Lk.less {es : List (Nat × Nat)} {ks : Nat → Prop} {x y : Nat} {e : Nat × Nat} (hk : ¬ ks es.length) (h : Lk (es ++ [e]) ks x y) : Lk es ks x y := by
  obtain ⟨k, a, b⟩ := h
  have hl : k < (es ++ [e]).length := by rcases b with b | b <;> exact (List.getElem?_eq_some_iff.mp b).1
  rw [List.length_append, List.length_singleton] at hl
  have hk2 : k < es.length := by
    by_cases q : k = es.length
    · rw [q] at a; exact absurd a hk
    · omega
  refine ⟨k, a, ?_⟩
  rw [List.getElem?_append_left hk2] at b
  exact b
theorem Conn.sub {E F : Nat → Nat → Prop} (hE : ∀ x y, E x y → Conn F x y) {a b : Nat} (h : Conn E a b) : Conn F a b := by
  induction h with
  | refl => exact .refl _
  | step a c b e _ ih => exact (hE _ _ e).trans ih
theorem lkSymm {es : List (Nat × Nat)} {ks : Nat → Prop} : ∀ x y, Lk es ks x y → Lk es ks y x := fun _ _ => Lk.symm
def No (ks : Nat → Prop) (k : Nat) : Nat → Prop := fun j => ks j ∧ j ≠ k
theorem cross {es : List (Nat × Nat)} {ks : Nat → Prop} {k x y u v : Nat} (hk : es[k]? = some (x, y)) (h : Conn (Lk es ks) u v) :
    Conn (Lk es (No ks k)) u v ∨ (Conn (Lk es (No ks k)) u x ∧ Conn (Lk es (No ks k)) y v) ∨ (Conn (Lk es (No ks k)) u y ∧ Conn (Lk es (No ks k)) x v) := by
  induction h with
  | refl => exact .inl (.refl _)
  | step a c b e _ ih =>
    obtain ⟨j, hj, he⟩ := e
    by_cases q : j = k
    · subst q
      rw [hk] at he
      have he' : (a = x ∧ c = y) ∨ (a = y ∧ c = x) := by
        rcases he with he | he
        · cases he; exact .inl ⟨rfl, rfl⟩
        · cases he; exact .inr ⟨rfl, rfl⟩
      rcases he' with ⟨rfl, rfl⟩ | ⟨rfl, rfl⟩
      · rcases ih with i | ⟨i1, i2⟩ | ⟨i1, i2⟩
        · exact .inr (.inl ⟨.refl _, i⟩)
        · exact .inr (.inl ⟨.refl _, i2⟩)
        · exact .inl i2
      · rcases ih with i | ⟨i1, i2⟩ | ⟨i1, i2⟩
        · exact .inr (.inr ⟨.refl _, i⟩)
        · exact .inl i2
        · exact .inr (.inr ⟨.refl _, i2⟩)
    · have e1 : Conn (Lk es (No ks k)) a c := .one ⟨j, ⟨hj, q⟩, he⟩
      rcases ih with i | ⟨i1, i2⟩ | ⟨i1, i2⟩
      · exact .inl (e1.trans i)
      · exact .inr (.inl ⟨e1.trans i1, i2⟩)
      · exact .inr (.inr ⟨e1.trans i1, i2⟩)
inductive Lead (es : List (Nat × Nat)) : Nat → Nat → List Nat → Prop
  | nil (u : Nat) : Lead es u u []
  | cons (u x v k : Nat) (r : List Nat) : (es[k]? = some (u, x) ∨ es[k]? = some (x, u)) → Lead es x v r → Lead es u v (k :: r)
theorem Lead.conn {es : List (Nat × Nat)} {u v : Nat} {r : List Nat} {ks : Nat → Prop} (h : Lead es u v r) (hk : ∀ k ∈ r, ks k) : Conn (Lk es ks) u v := by
  induction h with
  | nil => exact .refl _
  | cons u x v k r e _ ih => exact .step _ _ _ ⟨k, hk k List.mem_cons_self, e⟩ (ih fun j hj => hk j (List.mem_cons_of_mem _ hj))
theorem Lead.split {es : List (Nat × Nat)} {u v k : Nat} {r : List Nat} (h : Lead es u v r) (hk : k ∈ r) (hn : r.Nodup) : ∃ x y r1 r2, Lead es u x r1 ∧ Lead es y v r2 ∧ (es[k]? = some (x, y) ∨ es[k]? = some (y, x)) ∧ k ∉ r1 ∧ k ∉ r2 ∧ (∀ j ∈ r1, j ∈ r) ∧ ∀ j ∈ r2, j ∈ r := by
  induction h with
  | nil => cases hk
  | cons u x v j r e h ih =>
    rw [List.nodup_cons] at hn
    by_cases q : k = j
    · subst q
      exact ⟨u, x, [], r, .nil _, h, e, by simp, hn.1, by simp, fun j hj => List.mem_cons_of_mem _ hj⟩
    · have hk' : k ∈ r := by
        rcases List.mem_cons.mp hk with z | z
        · exact absurd z q
        · exact z
      obtain ⟨x', y', r1, r2, a1, a2, a3, a4, a5, a6, a7⟩ := ih hk' hn.2
      refine ⟨x', y', j :: r1, r2, .cons _ _ _ _ _ e a1, a2, a3, ?_, a5, ?_, fun i hi => List.mem_cons_of_mem _ (a7 i hi)⟩
      · intro z
        rcases List.mem_cons.mp z with z | z
        · exact q z
        · exact a4 z
      · intro i hi
        rcases List.mem_cons.mp hi with z | z
        · rw [z]; exact List.mem_cons_self
        · exact List.mem_cons_of_mem _ (a6 i z)
theorem Lead.less {es : List (Nat × Nat)} {u v : Nat} {r : List Nat} {e : Nat × Nat} (h : Lead (es ++ [e]) u v r) (hk : ∀ k ∈ r, k < es.length) : Lead es u v r := by
  induction h with
  | nil => exact .nil _
  | cons u x v k r he _ ih =>
    have := hk k List.mem_cons_self
    rw [List.getElem?_append_left this] at he
    exact .cons _ x _ _ _ he (ih fun j hj => hk j (List.mem_cons_of_mem _ hj))
def Fo (es : List (Nat × Nat)) (ks : Nat → Prop) : Prop := ∀ (k x y : Nat), ks k → es[k]? = some (x, y) → ¬ Conn (Lk es (No ks k)) x y
theorem Lead.sep {es : List (Nat × Nat)} {u v k : Nat} {r : List Nat} {ks : Nat → Prop} (h : Lead es u v r) (hk : k ∈ r) (hn : r.Nodup) (hr : ∀ j ∈ r, ks j) (F : Fo es ks) : ¬ Conn (Lk es (No ks k)) u v := by
  intro c
  obtain ⟨x, y, r1, r2, a1, a2, a3, a4, a5, a6, a7⟩ := h.split hk hn
  have c1 : Conn (Lk es (No ks k)) u x := a1.conn fun j hj => ⟨hr j (a6 j hj), fun e => a4 (e ▸ hj)⟩
  have c2 : Conn (Lk es (No ks k)) y v := a2.conn fun j hj => ⟨hr j (a7 j hj), fun e => a5 (e ▸ hj)⟩
  have c3 : Conn (Lk es (No ks k)) x y := (c1.symm lkSymm).trans (c.trans (c2.symm lkSymm))
  rcases a3 with e | e
  · exact F k x y (hr k hk) e c3
  · exact F k y x (hr k hk) e (c3.symm lkSymm)
theorem Lead.keep {es : List (Nat × Nat)} {u v k : Nat} {r : List Nat} {ks : Nat → Prop} (h : Lead es u v r) (hk : k ∉ r) (hr : ∀ j ∈ r, ks j) : Conn (Lk es (No ks k)) u v := h.conn fun j hj => ⟨hr j hj, fun e => hk (e ▸ hj)⟩
def SE (es : List (Nat × Nat)) (sp : List (Nat × Nat)) (x y : Nat) : Prop := ∃ k s a b, (k, s) ∈ sp ∧ es[k]? = some (a, b) ∧ ((x = s ∧ (y = a ∨ y = b)) ∨ (y = s ∧ (x = a ∨ x = b)))
structure SpOk (m n : Nat) (es sp : List (Nat × Nat)) : Prop where
  kn : (sp.map (·.1)).Nodup
  sn : (sp.map (·.2)).Nodup
  rng : ∀ (k s : Nat), (k, s) ∈ sp → m ≤ s ∧ s < n
  ends : ∀ (k a b : Nat), es[k]? = some (a, b) → a < m ∧ b < m
  at_ : ∀ (k s : Nat), (k, s) ∈ sp → ∃ a b : Nat, es[k]? = some (a, b) ∧ a ≠ b
  mn : m ≤ n
def inK (sp : List (Nat × Nat)) : Nat → Prop := fun k => k ∈ sp.map (·.1)
theorem inK_iff {sp : List (Nat × Nat)} {k : Nat} : inK sp k ↔ ∃ s, (k, s) ∈ sp := by
  unfold inK
  constructor
  · intro h
    obtain ⟨⟨k', s⟩, h1, rfl⟩ := List.mem_map.mp h
    exact ⟨s, h1⟩
  · rintro ⟨s, h⟩
    exact List.mem_map.mpr ⟨_, h, rfl⟩
theorem nodup_fst {α β : Type} {l : List (α × β)} (h : (l.map (·.1)).Nodup) {a : α} {x y : β} (h1 : (a, x) ∈ l) (h2 : (a, y) ∈ l) : x = y := by
  induction l with
  | nil => cases h1
  | cons p r ih =>
    rw [List.map_cons, List.nodup_cons] at h
    rcases List.mem_cons.mp h1 with e1 | e1
    · rcases List.mem_cons.mp h2 with e2 | e2
      · exact (Prod.mk.inj (e1.trans e2.symm)).2
      · exact absurd (List.mem_map.mpr ⟨_, e2, by rw [← e1]⟩) h.1
    · rcases List.mem_cons.mp h2 with e2 | e2
      · exact absurd (List.mem_map.mpr ⟨_, e1, by rw [← e2]⟩) h.1
      · exact ih h.2 e1 e2
theorem nodup_snd {α β : Type} {l : List (α × β)} (h : (l.map (·.2)).Nodup) {a b : α} {x : β} (h1 : (a, x) ∈ l) (h2 : (b, x) ∈ l) : a = b := by
  induction l with
  | nil => cases h1
  | cons p r ih =>
    rw [List.map_cons, List.nodup_cons] at h
    rcases List.mem_cons.mp h1 with e1 | e1
    · rcases List.mem_cons.mp h2 with e2 | e2
      · exact (Prod.mk.inj (e1.trans e2.symm)).1
      · exact absurd (List.mem_map.mpr ⟨_, e2, by rw [← e1]⟩) h.1
    · rcases List.mem_cons.mp h2 with e2 | e2
      · exact absurd (List.mem_map.mpr ⟨_, e1, by rw [← e2]⟩) h.1
      · exact ih h.2 e1 e2
section
variable {m n : Nat} {es sp : List (Nat × Nat)}
theorem SE.symm {x y : Nat} (h : SE es sp x y) : SE es sp y x := by
  obtain ⟨k, s, a, b, h1, h2, h3⟩ := h
  exact ⟨k, s, a, b, h1, h2, h3.symm⟩
theorem SE.of_lk {ks : Nat → Prop} {u v : Nat} (hk : ∀ k, ks k → inK sp k) (h : Conn (Lk es ks) u v) : Conn (SE es sp) u v := by
  refine h.sub fun x y e => ?_
  obtain ⟨k, h1, h2⟩ := e
  obtain ⟨s, hs⟩ := inK_iff.mp (hk k h1)
  rcases h2 with h2 | h2
  · exact .step _ s _ ⟨k, s, x, y, hs, h2, .inr ⟨rfl, .inl rfl⟩⟩ (.one ⟨k, s, x, y, hs, h2, .inl ⟨rfl, .inr rfl⟩⟩)
  · exact .step _ s _ ⟨k, s, y, x, hs, h2, .inr ⟨rfl, .inr rfl⟩⟩ (.one ⟨k, s, y, x, hs, h2, .inl ⟨rfl, .inl rfl⟩⟩)
theorem SE.to_lk (O : SpOk m n es sp) {x v : Nat} (h : Conn (SE es sp) x v) (hv : v < m) : (x < m → Conn (Lk es (inK sp)) x v) ∧ ∀ k s a b, (k, s) ∈ sp → es[k]? = some (a, b) → x = s → Conn (Lk es (inK sp)) a v := by
  induction h with
  | refl v =>
    refine ⟨fun _ => .refl _, fun k s a b h1 h2 e => ?_⟩
    have := (O.rng k s h1).1
    omega
  | step x c v e _ ih =>
    obtain ⟨i1, i2⟩ := ih hv
    obtain ⟨k, s, a, b, h1, h2, h3⟩ := e
    have hab : Conn (Lk es (inK sp)) b a := .one ⟨k, inK_iff.mpr ⟨s, h1⟩, .inr h2⟩
    have hba : Conn (Lk es (inK sp)) a b := .one ⟨k, inK_iff.mpr ⟨s, h1⟩, .inl h2⟩
    have hs := O.rng k s h1
    have hlt := O.ends k a b h2
    rcases h3 with ⟨rfl, h3⟩ | ⟨rfl, h3⟩
    · refine ⟨fun z => by omega, fun k' s' a' b' g1 g2 e => ?_⟩
      subst e
      have : k' = k := nodup_snd O.sn g1 h1
      subst this
      rw [h2] at g2; cases g2
      rcases h3 with rfl | rfl
      · exact i1 hlt.1
      · exact hba.trans (i1 hlt.2)
    · have ha := i2 k c a b h1 h2 rfl
      refine ⟨fun _ => ?_, fun k' s' a' b' g1 g2 e => ?_⟩
      · rcases h3 with rfl | rfl
        · exact ha
        · exact hab.trans ha
      · have := (O.rng k' s' g1).1
        rcases h3 with z | z <;> omega
theorem SE.conn (O : SpOk m n es sp) {u v : Nat} (hu : u < m) (hv : v < m) : Conn (SE es sp) u v ↔ Conn (Lk es (inK sp)) u v :=
  ⟨fun h => (SE.to_lk O h hv).1 hu, fun h => SE.of_lk (fun _ q => q) h⟩
def numOf (sp : List (Nat × Nat)) (x : Nat) : Option Nat := (sp.find? fun p => p.2 == x).map (·.1)
theorem numOf_some (O : SpOk m n es sp) {k x : Nat} : numOf sp x = some k ↔ (k, x) ∈ sp := by
  unfold numOf
  constructor
  · intro h
    cases hf : sp.find? fun p => p.2 == x with
    | none => rw [hf] at h; cases h
    | some p =>
      rw [hf] at h; cases h
      have h1 := List.mem_of_find?_eq_some hf
      have h2 := List.find?_some hf
      have : p.2 = x := by simpa using h2
      rw [← this]; exact h1
  · intro h
    cases hf : sp.find? fun p => p.2 == x with
    | none =>
      have := List.find?_eq_none.mp hf _ h
      simp at this
    | some p =>
      have h1 := List.mem_of_find?_eq_some hf
      have h2 := List.find?_some hf
      have e : p.2 = x := by simpa using h2
      have : p.1 = k := nodup_snd O.sn (x := x) (by rw [← e]; exact h1) h
      rw [← this]; rfl
def nums (sp : List (Nat × Nat)) (p : List Nat) : List Nat := p.filterMap (numOf sp)
theorem numOf_point (O : SpOk m n es sp) {x : Nat} (h : x < m) : numOf sp x = none := by
  cases q : numOf sp x with
  | none => rfl
  | some k => have := (O.rng _ _ ((numOf_some O).mp q)).1; omega
theorem nums_mem (O : SpOk m n es sp) {p : List Nat} {k : Nat} : k ∈ nums sp p ↔ ∃ s ∈ p, (k, s) ∈ sp := by
  unfold nums
  rw [List.mem_filterMap]
  constructor
  · rintro ⟨s, h1, h2⟩; exact ⟨s, h1, (numOf_some O).mp h2⟩
  · rintro ⟨s, h1, h2⟩; exact ⟨s, h1, (numOf_some O).mpr h2⟩
theorem nums_nodup (O : SpOk m n es sp) : ∀ {p : List Nat}, p.Nodup → (nums sp p).Nodup
  | [], _ => List.nodup_nil
  | x :: p, h => by
    rw [List.nodup_cons] at h
    have ih := nums_nodup O h.2
    unfold nums at ih ⊢
    rw [List.filterMap_cons]
    cases q : numOf sp x with
    | none => exact ih
    | some k =>
      rw [List.nodup_cons]
      refine ⟨fun z => ?_, ih⟩
      obtain ⟨s, h1, h2⟩ := (nums_mem O).mp z
      have e := nodup_fst O.kn ((numOf_some O).mp q) h2
      exact h.1 (e ▸ h1)
theorem Path.lead (O : SpOk m n es sp) : ∀ (l : Nat) {u v : Nat} {p : List Nat}, p.length ≤ l → Path (SE es sp) u v p → p.Nodup → u < m → v < m → Lead es u v (nums sp p)
  | 0, u, v, p, hl, h, _, _, _ => by cases h <;> simp at hl
  | l + 1, u, v, p, hl, h, hn, hu, hv => by
    cases h with
    | one =>
      unfold nums
      rw [List.filterMap_cons, numOf_point O hu]; exact .nil _
    | cons _ s _ p e h =>
      obtain ⟨k, s', a, b, h1, h2, h3⟩ := e
      have hs := O.rng k s' h1
      have hlt := O.ends k a b h2
      rcases h3 with ⟨rfl, _⟩ | ⟨rfl, h3⟩
      · omega
      · cases h with
        | one => omega
        | cons _ c _ p2 e2 hp2 =>
          obtain ⟨k2, s2, a2, b2, g1, g2, g3⟩ := e2
          have hs2 := O.rng k2 s2 g1
          have hlt2 := O.ends k2 a2 b2 g2
          rcases g3 with ⟨rfl, g3⟩ | ⟨rfl, g3⟩
          · have : k2 = k := nodup_snd O.sn g1 h1
            subst this
            rw [h2] at g2; cases g2
            have hc : c < m := by rcases g3 with rfl | rfl <;> omega
            have huc : u ≠ c := by
              intro z
              rw [List.nodup_cons] at hn
              refine hn.1 (List.mem_cons_of_mem _ ?_)
              rw [z]
              cases hp2 <;> exact List.mem_cons_self
            have hnp : p2.Nodup := by
              rw [List.nodup_cons, List.nodup_cons] at hn
              exact hn.2.2
            have := Path.lead O l (by simp only [List.length_cons] at hl; omega) hp2 hnp hc hv
            unfold nums at this ⊢
            rw [List.filterMap_cons, numOf_point O hu, List.filterMap_cons, (numOf_some O).mpr h1]
            refine .cons _ c _ _ _ ?_ this
            rcases h3 with rfl | rfl
            · rcases g3 with rfl | rfl
              · exact absurd rfl huc
              · exact .inl h2
            · rcases g3 with rfl | rfl
              · exact .inr h2
              · exact absurd rfl huc
          · exfalso
            rcases g3 with z | z <;> omega
end
end LC
end
section
set_option autoImplicit false
namespace LC
section
variable {m n : Nat} {es sp : List (Nat × Nat)}
theorem fo_of (O : SpOk m n es sp) (hf : ∀ x y, SE es sp x y → ¬ Conn (without (SE es sp) x y) x y) : Fo es (inK sp) := by
  intro k x y hk he hc
  obtain ⟨s, hs⟩ := inK_iff.mp hk
  have hr := O.rng k s hs
  have hl := O.ends k x y he
  have hne : x ≠ y := by
    obtain ⟨a, b, h1, h2⟩ := O.at_ k s hs
    rw [he] at h1; cases h1; exact h2
  have e1 : SE es sp x s := ⟨k, s, x, y, hs, he, .inr ⟨rfl, .inl rfl⟩⟩
  refine hf x s e1 ?_
  have c1 : Conn (without (SE es sp) x s) x y := hc.sub fun p q e => by
    obtain ⟨j, ⟨j1, j2⟩, j3⟩ := e
    obtain ⟨t, ht⟩ := inK_iff.mp j1
    have hts : t ≠ s := fun z => j2 (nodup_snd O.sn (z ▸ ht) hs)
    have htr := O.rng j t ht
    have go : ∀ a b : Nat, es[j]? = some (a, b) → ∀ p q, (p = a ∧ q = b) ∨ (p = b ∧ q = a) → Conn (without (SE es sp) x s) p q := by
      intro a b hj p q hpq
      have hab := O.ends j a b hj
      have h1 : without (SE es sp) x s p t := ⟨⟨j, t, a, b, ht, hj, .inr ⟨rfl, by rcases hpq with z | z <;> simp [z.1]⟩⟩, fun z => hts z.2, fun z => by have := z.1; rcases hpq with y | y <;> omega⟩
      have h2 : without (SE es sp) x s t q := ⟨⟨j, t, a, b, ht, hj, .inl ⟨rfl, by rcases hpq with z | z <;> simp [z.2]⟩⟩, fun z => by have := z.1; omega, fun z => hts z.1⟩
      exact .step _ _ _ h1 (.one h2)
    rcases j3 with j3 | j3
    · exact go p q j3 p q (.inl ⟨rfl, rfl⟩)
    · exact go q p j3 p q (.inr ⟨rfl, rfl⟩)
  exact c1.trans (.one ⟨⟨k, s, x, y, hs, he, .inr ⟨rfl, .inr rfl⟩⟩, fun z => hne z.1.symm, fun z => by have := z.1; omega⟩)
theorem SE.new {k s a b : Nat} (he : es[k]? = some (a, b)) (x y : Nat) : SE es (sp ++ [(k, s)]) x y ↔ also (also (SE es sp) a s) s b x y := by
  unfold also
  constructor
  · rintro ⟨j, t, p, q, h1, h2, h3⟩
    rcases List.mem_append.mp h1 with h1 | h1
    · exact .inl (.inl ⟨j, t, p, q, h1, h2, h3⟩)
    · have := List.mem_singleton.mp h1
      cases this
      rw [he] at h2; cases h2
      rcases h3 with ⟨rfl, rfl | rfl⟩ | ⟨rfl, rfl | rfl⟩
      · exact .inl (.inr (.inr ⟨rfl, rfl⟩))
      · exact .inr (.inl ⟨rfl, rfl⟩)
      · exact .inl (.inr (.inl ⟨rfl, rfl⟩))
      · exact .inr (.inr ⟨rfl, rfl⟩)
  · have hm : (k, s) ∈ sp ++ [(k, s)] := by simp
    rintro ((⟨j, t, p, q, h1, h2, h3⟩ | ⟨rfl, rfl⟩ | ⟨rfl, rfl⟩) | ⟨rfl, rfl⟩ | ⟨rfl, rfl⟩)
    · exact ⟨j, t, p, q, List.mem_append_left _ h1, h2, h3⟩
    · exact ⟨_, _, _, _, hm, he, .inr ⟨rfl, .inl rfl⟩⟩
    · exact ⟨_, _, _, _, hm, he, .inl ⟨rfl, .inl rfl⟩⟩
    · exact ⟨_, _, _, _, hm, he, .inl ⟨rfl, .inr rfl⟩⟩
    · exact ⟨_, _, _, _, hm, he, .inr ⟨rfl, .inr rfl⟩⟩
theorem SE.drop (O : SpOk m n es sp) {k s a b : Nat} (hs : (k, s) ∈ sp) (he : es[k]? = some (a, b)) (x y : Nat) :
    SE es (sp.filter fun p => !decide (p.1 = k)) x y ↔ without (without (SE es sp) a s) s b x y := by
  have hr := O.rng k s hs
  have hl := O.ends k a b he
  unfold without
  constructor
  · rintro ⟨j, t, p, q, h1, h2, h3⟩
    rw [List.mem_filter] at h1
    have hjk : j ≠ k := by simpa using h1.2
    have hts : t ≠ s := fun z => hjk (nodup_snd O.sn (z ▸ h1.1) hs)
    have hpq := O.ends j p q h2
    have ht := O.rng j t h1.1
    refine ⟨⟨⟨j, t, p, q, h1.1, h2, h3⟩, ?_, ?_⟩, ?_, ?_⟩ <;> (rintro ⟨rfl, rfl⟩; rcases h3 with ⟨z1, z2 | z2⟩ | ⟨z1, z2 | z2⟩ <;> first | omega | exact hts z1.symm | exact hts z2.symm)
  · rintro ⟨⟨⟨j, t, p, q, h1, h2, h3⟩, n1, n2⟩, n3, n4⟩
    refine ⟨j, t, p, q, List.mem_filter.mpr ⟨h1, ?_⟩, h2, h3⟩
    have : j ≠ k := by
      intro z
      subst z
      have hts : t = s := nodup_fst O.kn h1 hs
      subst hts
      rw [he] at h2; cases h2
      rcases h3 with ⟨rfl, rfl | rfl⟩ | ⟨rfl, rfl | rfl⟩
      · exact n2 ⟨rfl, rfl⟩
      · exact n3 ⟨rfl, rfl⟩
      · exact n1 ⟨rfl, rfl⟩
      · exact n4 ⟨rfl, rfl⟩
    simpa using this
theorem inK_drop {k j : Nat} : inK (sp.filter fun p => !decide (p.1 = k)) j ↔ No (inK sp) k j := by
  unfold No
  rw [inK_iff, inK_iff]
  constructor
  · rintro ⟨s, h⟩
    rw [List.mem_filter] at h
    exact ⟨⟨s, h.1⟩, by simpa using h.2⟩
  · rintro ⟨⟨s, h⟩, h2⟩
    exact ⟨s, List.mem_filter.mpr ⟨h, by simpa using h2⟩⟩
theorem inK_new {k s j : Nat} : inK (sp ++ [(k, s)]) j ↔ (inK sp j ∨ j = k) := by
  rw [inK_iff, inK_iff]
  constructor
  · rintro ⟨t, h⟩
    rcases List.mem_append.mp h with h | h
    · exact .inl ⟨t, h⟩
    · have := List.mem_singleton.mp h; cases this; exact .inr rfl
  · rintro (⟨t, h⟩ | rfl)
    · exact ⟨t, List.mem_append_left _ h⟩
    · exact ⟨s, by simp⟩
theorem SpOk.drop (O : SpOk m n es sp) (k : Nat) : SpOk m n es (sp.filter fun p => !decide (p.1 = k)) :=
  ⟨O.kn.sublist (List.filter_sublist.map _), O.sn.sublist (List.filter_sublist.map _), fun k s h => O.rng k s (List.mem_filter.mp h).1, O.ends, fun k s h => O.at_ k s (List.mem_filter.mp h).1, O.mn⟩
theorem SpOk.new (O : SpOk m n es sp) {k a b : Nat} (hk : ¬ inK sp k) (he : es[k]? = some (a, b)) (hab : a ≠ b) : SpOk m (n + 1) es (sp ++ [(k, n)]) := by
  refine ⟨?_, ?_, fun j s h => ?_, O.ends, fun j s h => ?_, Nat.le_succ_of_le O.mn⟩
  · rw [List.map_append, List.nodup_append]
    refine ⟨O.kn, by simp, fun x hx y hy e => ?_⟩
    have : y = k := by simpa using hy
    exact hk (by rw [← this, ← e]; exact hx)
  · rw [List.map_append, List.nodup_append]
    refine ⟨O.sn, by simp, fun x hx y hy e => ?_⟩
    have h1 : y = n := by simpa using hy
    obtain ⟨⟨j, s⟩, h2, rfl⟩ := List.mem_map.mp hx
    have := O.rng j s h2
    simp only at e
    omega
  · rcases List.mem_append.mp h with h | h
    · have := O.rng j s h; omega
    · have := List.mem_singleton.mp h; cases this
      exact ⟨O.mn, Nat.lt_succ_self _⟩
  · rcases List.mem_append.mp h with h | h
    · exact O.at_ j s h
    · have := List.mem_singleton.mp h; cases this
      exact ⟨a, b, he, hab⟩
theorem SpOk.more (O : SpOk m n es sp) {a b : Nat} (ha : a < m) (hb : b < m) : SpOk m n (es ++ [(a, b)]) sp := by
  refine ⟨O.kn, O.sn, O.rng, fun k x y h => ?_, fun k s h => ?_, O.mn⟩
  · by_cases q : k < es.length
    · rw [List.getElem?_append_left q] at h; exact O.ends k x y h
    · rw [List.getElem?_append_right (by omega)] at h
      cases z : k - es.length with
      | zero => rw [z] at h; cases h; exact ⟨ha, hb⟩
      | succ i => rw [z] at h; cases h
  · obtain ⟨x, y, h1, h2⟩ := O.at_ k s h
    exact ⟨x, y, by rw [List.getElem?_append_left (List.getElem?_eq_some_iff.mp h1).1]; exact h1, h2⟩
theorem SE.more (O : SpOk m n es sp) (e : Nat × Nat) (x y : Nat) : SE (es ++ [e]) sp x y ↔ SE es sp x y := by
  constructor
  · rintro ⟨k, s, a, b, h1, h2, h3⟩
    obtain ⟨p, q, g1, _⟩ := O.at_ k s h1
    rw [List.getElem?_append_left (List.getElem?_eq_some_iff.mp g1).1] at h2
    exact ⟨k, s, a, b, h1, h2, h3⟩
  · rintro ⟨k, s, a, b, h1, h2, h3⟩
    exact ⟨k, s, a, b, h1, by rw [List.getElem?_append_left (List.getElem?_eq_some_iff.mp h2).1]; exact h2, h3⟩
end
theorem Path.lt {E : Nat → Nat → Prop} {N a b : Nat} {p : List Nat} (hE : ∀ x y, E x y → x < N ∧ y < N) (h : Path E a b p) (ha : a < N) : ∀ x ∈ p, x < N := by
  induction h with
  | one a => intro x hx; rw [List.mem_singleton.mp hx]; exact ha
  | cons a c b p e _ ih =>
    intro x hx
    rcases List.mem_cons.mp hx with z | z
    · rw [z]; exact ha
    · exact ih (hE _ _ e).2 x z
theorem Path.spot {m n : Nat} {es sp : List (Nat × Nat)} {a b x : Nat} {p : List Nat} (O : SpOk m n es sp) (h : Path (SE es sp) a b p) (hx : x ∈ p) (hm : m ≤ x) (ha : a < m) : ∃ k, (k, x) ∈ sp := by
  have key : ∀ {a b p}, Path (SE es sp) a b p → ∀ x ∈ p, x = a ∨ ∃ y, SE es sp y x := by
    intro a b p h
    induction h with
    | one a => intro x hx; exact .inl (List.mem_singleton.mp hx)
    | cons a c b p e _ ih =>
      intro x hx
      rcases List.mem_cons.mp hx with z | z
      · exact .inl z
      · rcases ih x z with z | z
        · exact .inr ⟨a, z ▸ e⟩
        · exact .inr z
  rcases key h x hx with z | ⟨y, k, s, a', b', h1, h2, h3⟩
  · omega
  · have hl := O.ends k a' b' h2
    rcases h3 with ⟨rfl, z | z⟩ | ⟨rfl, _⟩
    · omega
    · omega
    · exact ⟨k, h1⟩
theorem joined_cnt {s s' : S} {a b : Nat} {r : Bool} (h : areJoined s a b = some (s', r)) : s.cnt ≤ s'.cnt ∧ s'.n = s.n := by
  unfold areJoined at h
  cases h1 : lead s a with
  | none => rw [h1] at h; cases h
  | some pr =>
    obtain ⟨S1, l⟩ := pr; rw [h1] at h; dsimp only at h
    cases h2 : lead S1 b with
    | none => rw [h2] at h; cases h
    | some pr => obtain ⟨S2, l2⟩ := pr; rw [h2] at h; dsimp only at h; cases h; have := lead_cnt h1; have := lead_cnt h2; omega
theorem about_cnt {s s' : S} {p : Nat} (h : turnAbout s p = some s') : s.cnt ≤ s'.cnt ∧ s'.n = s.n := by
  unfold turnAbout at h
  cases h1 : lead s p with
  | none => rw [h1] at h; cases h
  | some pr => obtain ⟨S1, l⟩ := pr; rw [h1] at h; dsimp only at h; cases h; exact ⟨(lead_cnt h1).1, (lead_cnt h1).2⟩
theorem tie_cnt {s s' : S} {a b : Nat} (h : tie s a b = some s') : s.cnt ≤ s'.cnt ∧ s'.n = s.n := by
  unfold tie at h
  cases h1 : areJoined s a b with
  | none => rw [h1] at h; cases h
  | some pr =>
    obtain ⟨S1, r⟩ := pr; rw [h1] at h; dsimp only at h
    split at h
    · cases h
    · cases h2 : turnAbout S1 b with
      | none => rw [h2] at h; cases h
      | some S2 =>
        rw [h2] at h; dsimp only at h
        cases h3 : lead S2 a with
        | none => rw [h3] at h; cases h
        | some pr =>
          obtain ⟨S3, l⟩ := pr; rw [h3] at h; dsimp only at h; cases h
          have := joined_cnt h1; have := about_cnt h2; have := lead_cnt h3
          show s.cnt ≤ S3.cnt ∧ S3.n = s.n
          omega
theorem cut_cnt {s s' : S} {a b : Nat} (h : cut s a b = some s') : s.cnt ≤ s'.cnt ∧ s'.n = s.n := by
  unfold cut openTie at h
  cases h2 : turnAbout s a with
  | none => rw [h2] at h; cases h
  | some S2 =>
    rw [h2] at h; dsimp only at h
    cases h3 : lead S2 b with
    | none => rw [h3] at h; cases h
    | some pr =>
      obtain ⟨S3, l⟩ := pr; rw [h3] at h; dsimp only at h
      split at h
      · cases h
      · rename_i q
        split at q
        · cases q
        · cases q; cases h
          have := about_cnt h2; have := lead_cnt h3
          exact ⟨(by omega : s.cnt ≤ S3.cnt), (by omega : S3.n = s.n)⟩
def LB : Nat := leadB 103
theorem leadB_mono {a b : Nat} (h : a ≤ b) : leadB a ≤ leadB b := by
  unfold leadB
  have := Nat.mul_le_mul h h
  omega
structure LH (m nb : Nat) (pt : Int → Prop) (es : List (Nat × Nat)) (wt : Nat → Int → Prop) (sp : List (Nat × Nat)) (s : S) (U : Nat) : Prop where
  O : SpOk m s.n es sp
  hw : ∃ w, Holds s (SE es sp) w ∧ (∀ x, x < m → pt (w x)) ∧ ∀ k t, (k, t) ∈ sp → wt k (w t)
  cnt : 2 * s.cnt ≤ U * LB
  nb : s.n ≤ nb
section
variable {m nb U : Nat} {es sp : List (Nat × Nat)} {wt : Nat → Int → Prop} {pt : Int → Prop} {s : S}
theorem LH.b60 (h : LH m nb pt es wt sp s U) (hn : nb ≤ 103) : s.n < 2 ^ 60 := by have := h.nb; omega
theorem LH.lb (h : LH m nb pt es wt sp s U) (hn : nb ≤ 103) : leadB s.n ≤ LB := leadB_mono (Nat.le_trans h.nb hn)
theorem LH.fo (h : LH m nb pt es wt sp s U) : Fo es (inK sp) := by
  obtain ⟨w, hw, _⟩ := h.hw
  exact fo_of h.O fun x y e => hw.forest e
theorem LH.mono {V : Nat} (h : LH m nb pt es wt sp s U) (hV : U ≤ V) : LH m nb pt es wt sp s V := ⟨h.O, h.hw, Nat.le_trans h.cnt (Nat.mul_le_mul_right _ hV), h.nb⟩
theorem LH.more (h : LH m nb pt es wt sp s U) {a b : Nat} (ha : a < m) (hb : b < m) : LH m nb pt (es ++ [(a, b)]) wt sp s U := by
  obtain ⟨w, h1, h2⟩ := h.hw
  exact ⟨h.O.more ha hb, ⟨w, h1.congr fun x y => SE.more h.O _ x y, h2⟩, h.cnt, h.nb⟩
theorem LH.imp {wt' : Nat → Int → Prop} (h : LH m nb pt es wt sp s U) (hw : ∀ k v, k < es.length → wt k v → wt' k v) : LH m nb pt es wt' sp s U := by
  obtain ⟨w, h1, h2, h3⟩ := h.hw
  exact ⟨h.O, ⟨w, h1, h2, fun k t ht => hw k _ (by
    obtain ⟨a, b, e, _⟩ := h.O.at_ k t ht
    exact (List.getElem?_eq_some_iff.mp e).1) (h3 k t ht)⟩, h.cnt, h.nb⟩
theorem LH.joined (h : LH m nb pt es wt sp s U) (hn : nb ≤ 103) {a b : Nat} (ha : a < m) (hb : b < m) : ∃ s' r, areJoined s a b = some (s', r) ∧ LH m nb pt es wt sp s' (U + 2) ∧ (r = true ↔ Conn (Lk es (inK sp)) a b) := by
  obtain ⟨w, h1, h2⟩ := h.hw
  have := h.O.mn
  obtain ⟨s', r, e, g1, g2, g3, g4⟩ := h1.joined (a := a) (b := b) (by omega) (by omega) (h.b60 hn)
  refine ⟨s', r, e, ⟨by rw [g3]; exact h.O, ⟨w, g1, h2⟩, ?_, by rw [g3]; exact h.nb⟩, g2.trans (SE.conn h.O ha hb)⟩
  have := h.cnt
  have := h.lb hn
  rw [Nat.add_mul]; omega
theorem LH.most (h : LH m nb pt es wt sp s U) (hn : nb ≤ 103) (hpt : ∀ v, pt v → v < 0) {a b : Nat} (ha : a < m) (hb : b < m) (hc : Conn (Lk es (inK sp)) a b) : ∃ s' s'' x r, openWay s a b = some s' ∧ firstBy s' b (s'.mo b) = some (s'', x) ∧ LH m nb pt es wt sp s'' (U + 5) ∧
    Lead es a b r ∧ r.Nodup ∧ (∀ k ∈ r, inK sp k) ∧ (∀ k ∈ r, ∃ d, wt k d ∧ d ≤ s'.mo b) ∧ (0 ≤ s'.mo b → ∃ k ∈ r, (k, x) ∈ sp ∧ wt k (s'.mo b)) := by
  obtain ⟨w, h1, h2, h3⟩ := h.hw
  have hmn := h.O.mn
  obtain ⟨s', s'', p, x, e1, e2, g1, g2, g3, g4, g5, g6, g7, g8, g9, g10⟩ := h1.most (a := a) (b := b) (by omega) (by omega) (h.b60 hn) ((SE.conn h.O ha hb).mpr hc)
  refine ⟨s', s'', x, nums sp p, e1, e2, ⟨by rw [g7]; exact h.O, ⟨w, g6, h2, h3⟩, ?_, by rw [g7]; exact h.nb⟩, Path.lead h.O _ (Nat.le_refl _) g1 g2 ha hb, nums_nodup h.O g2, ?_, ?_, ?_⟩
  · have := h.cnt
    have := h.lb hn
    have h2n : 2 * s.n ≤ LB := Nat.le_trans (Nat.mul_le_mul_left 2 (Nat.le_trans h.nb hn)) (by decide)
    rw [Nat.add_mul]; omega
  · intro k hk
    obtain ⟨t, _, ht⟩ := (nums_mem h.O).mp hk
    exact inK_iff.mpr ⟨t, ht⟩
  · intro k hk
    obtain ⟨t, hp, ht⟩ := (nums_mem h.O).mp hk
    exact ⟨w t, h3 k t ht, by rw [← g4]; exact g5 t hp⟩
  · intro h0
    rw [← g4] at h0
    have hx : ¬ x < m := fun z => by have := hpt _ (h2 x z); omega
    have : ∃ k, (k, x) ∈ sp := Path.spot h.O g1 g3 (by omega) ha
    obtain ⟨k, hk⟩ := this
    exact ⟨k, (nums_mem h.O).mpr ⟨x, g3, hk⟩, hk, by rw [← g4]; exact h3 k x hk⟩
theorem LH.way (h : LH m nb pt es wt sp s U) (hn : nb ≤ 103) {a b : Nat} (ha : a < m) (hb : b < m) (hc : Conn (Lk es (inK sp)) a b) : ∃ s' s'' p, openWay s a b = some s' ∧ inorder s' b = some (s'', p) ∧ s'.cnt ≤ s''.cnt ∧ LH m nb pt es wt sp s'' (U + 4) ∧
    Lead es a b (nums sp p) ∧ (nums sp p).Nodup ∧ (∀ k ∈ nums sp p, inK sp k) ∧ (∀ x ∈ p, x < s.n) ∧ p.Nodup := by
  obtain ⟨w, h1, h2, h3⟩ := h.hw
  have hmn := h.O.mn
  obtain ⟨s', s'', p, e1, e2, g1, g2, g3, g4, g5, g6, g7⟩ := h1.way (a := a) (b := b) (by omega) (by omega) (h.b60 hn) ((SE.conn h.O ha hb).mpr hc)
  refine ⟨s', s'', p, e1, e2, g7, ⟨by rw [g4]; exact h.O, ⟨w, g3, h2, h3⟩, ?_, by rw [g4]; exact h.nb⟩, Path.lead h.O _ (Nat.le_refl _) g1 g2 ha hb, nums_nodup h.O g2, ?_, ?_, g2⟩
  · have := h.cnt
    have := h.lb hn
    rw [Nat.add_mul]; omega
  · intro k hk
    obtain ⟨t, _, ht⟩ := (nums_mem h.O).mp hk
    exact inK_iff.mpr ⟨t, ht⟩
  · exact Path.lt (fun x y e => h1.lt e) g1 (by omega)
theorem LH.keep (h : LH m nb pt es wt sp s U) (hn : nb + 1 ≤ 103) {k a b : Nat} {c : Int} (hk : ¬ inK sp k) (he : es[k]? = some (a, b)) (hc : ¬ Conn (Lk es (inK sp)) a b) (hwt : wt k c) :
    ∃ s2 s3, tie (putPoint s c) a s.n = some s2 ∧ tie s2 s.n b = some s3 ∧ s2.cnt ≤ s3.cnt ∧ s2.n = s.n + 1 ∧ LH m (nb + 1) pt es wt (sp ++ [(k, s.n)]) s3 (U + 8) := by
  obtain ⟨w, h1, h2, h3⟩ := h.hw
  have hmn := h.O.mn
  have hl := h.O.ends k a b he
  have hab : a ≠ b := fun z => hc (z ▸ .refl _)
  have hnb := h.nb
  have hN := h1.new c
  have nS : ∀ {x y}, SE es sp x y → x < s.n ∧ y < s.n := fun e => h1.lt e
  have iso : ∀ v, Conn (SE es sp) s.n v → v = s.n := fun v c => by
    cases c with
    | refl => rfl
    | step _ c _ e _ => have := (nS e).1; omega
  have hb60 : (putPoint s c).n < 2 ^ 60 := by show s.n + 1 < 2 ^ 60; omega
  have lb : leadB (putPoint s c).n ≤ LB := leadB_mono (by show s.n + 1 ≤ 103; omega)
  obtain ⟨s2, e2, t1, t2, t3⟩ := hN.tie (a := a) (b := s.n) (by show a < s.n + 1; omega) (Nat.lt_succ_self _) hb60 (fun c => by
    have := iso a (c.symm fun x y => SE.symm); omega)
  have n2 : s2.n = s.n + 1 := t2
  have nc2 : ¬ Conn (also (SE es sp) a s.n) s.n b := by
    intro cc
    have key : ∀ {x v : Nat}, Conn (also (SE es sp) a s.n) x v → v ≠ s.n → Conn (SE es sp) (if x = s.n then a else x) v := by
      intro x v hh
      induction hh with
      | refl v => intro hv; rw [if_neg hv]; exact .refl _
      | step x y v e _ ih =>
        intro hv
        have i := ih hv
        rcases e with e | ⟨rfl, rfl⟩ | ⟨rfl, rfl⟩
        · have := nS e
          rw [if_neg (by omega)] at i ⊢
          exact .step _ _ _ e i
        · rw [if_pos rfl] at i
          rw [if_neg (by omega)]; exact i
        · rw [if_neg (by omega)] at i
          rw [if_pos rfl]; exact i
    have := key cc (by omega)
    rw [if_pos rfl] at this
    exact hc ((SE.conn h.O hl.1 hl.2).mp this)
  obtain ⟨s3, e3, u1, u2, u3⟩ := t1.tie (a := s.n) (b := b) (by omega) (by omega) (by omega) nc2
  refine ⟨s2, s3, e2, e3, (tie_cnt e3).1, n2, ⟨by rw [u2, n2]; exact h.O.new hk he hab, ⟨up w s.n c, u1.congr fun x y => SE.new he x y, fun x hx => ?_, fun j t ht => ?_⟩, ?_, by rw [u2, n2]; omega⟩⟩
  · rw [up_ne _ _ (by omega)]; exact h2 x hx
  · rcases List.mem_append.mp ht with ht | ht
    · have := (h.O.rng j t ht).2
      rw [up_ne _ _ (by omega)]; exact h3 j t ht
    · have := List.mem_singleton.mp ht; cases this
      rw [up_same]; exact hwt
  · have c1 := h.cnt
    have c2 : (putPoint s c).cnt = s.cnt := rfl
    have n2' : (putPoint s c).n = s2.n := t2.symm
    rw [n2'] at lb t3
    rw [Nat.add_mul]; omega
theorem LH.letGo (h : LH m nb pt es wt sp s U) (hn : nb ≤ 103) {k t a b : Nat} (hk : (k, t) ∈ sp) (he : es[k]? = some (a, b)) :
    ∃ s2 s3, cut s a t = some s2 ∧ cut s2 t b = some s3 ∧ s2.cnt ≤ s3.cnt ∧ s2.n = s.n ∧ LH m nb pt es wt (sp.filter fun p => !decide (p.1 = k)) s3 (U + 4) := by
  obtain ⟨w, h1, h2, h3⟩ := h.hw
  have hr := h.O.rng k t hk
  have hl := h.O.ends k a b he
  have hab : a ≠ b := by
    obtain ⟨x, y, g1, g2⟩ := h.O.at_ k t hk
    rw [he] at g1; cases g1; exact g2
  obtain ⟨s2, e2, t1, t2, t3⟩ := h1.cut (a := a) (b := t) (h.b60 hn) ⟨k, t, a, b, hk, he, .inr ⟨rfl, .inl rfl⟩⟩
  obtain ⟨s3, e3, u1, u2, u3⟩ := t1.cut (a := t) (b := b) (by rw [t2]; exact h.b60 hn) ⟨⟨k, t, a, b, hk, he, .inl ⟨rfl, .inr rfl⟩⟩, fun z => by have := z.1; omega, fun z => hab z.2.symm⟩
  refine ⟨s2, s3, e2, e3, (cut_cnt e3).1, t2, ⟨by rw [u2, t2]; exact h.O.drop k, ⟨w, u1.congr fun x y => SE.drop h.O hk he x y, h2, fun j t ht => h3 j t (List.mem_filter.mp ht).1⟩, ?_, by rw [u2, t2]; exact h.nb⟩⟩
  have := h.cnt
  have := h.lb hn
  rw [t2] at u3
  rw [Nat.add_mul]; omega
end
end LC
end
section
set_option autoImplicit false
namespace LC
section
variable {es : List (Nat × Nat)} {pr : List Int} {K : Nat → Prop}
def Kc (pr : List Int) (K : Nat → Prop) (c : Int) : Nat → Prop := fun k => K k ∧ ∃ d, pr[k]? = some d ∧ d ≤ c
def Ch (es : List (Nat × Nat)) (pr : List Int) (K : Nat → Prop) : Prop := ∀ (g u v : Nat) (c : Int), es[g]? = some (u, v) → pr[g]? = some c → ¬ K g → Conn (Lk es (Kc pr K c)) u v
def Sp (es : List (Nat × Nat)) (K : Nat → Prop) : Prop := ∀ (g u v : Nat), es[g]? = some (u, v) → Conn (Lk es K) u v
theorem at_app {α : Type} {l : List α} {a x : α} {i : Nat} (h : (l ++ [a])[i]? = some x) : (i < l.length ∧ l[i]? = some x) ∨ (i = l.length ∧ x = a) := by
  by_cases q : i < l.length
  · rw [List.getElem?_append_left q] at h; exact .inl ⟨q, h⟩
  · rw [List.getElem?_append_right (by omega)] at h
    cases z : i - l.length with
    | zero => rw [z] at h; cases h; exact .inr ⟨by omega, rfl⟩
    | succ i => rw [z] at h; cases h
theorem at_lt {α : Type} {l : List α} {x : α} {i : Nat} (h : l[i]? = some x) : i < l.length := (List.getElem?_eq_some_iff.mp h).1
theorem Kc.more {c d : Int} {k : Nat} (e : Int) (h : Kc pr K c k) (hcd : c ≤ d) : Kc (pr ++ [e]) K d k := by
  obtain ⟨h1, x, h2, h3⟩ := h
  exact ⟨h1, x, by rw [List.getElem?_append_left (at_lt h2)]; exact h2, by omega⟩
theorem Ch.span (h : Ch es pr K) (hl : pr.length = es.length) : Sp es K := fun g u v e => by
  by_cases q : K g
  · exact .one ⟨g, q, .inl e⟩
  · have : g < pr.length := by rw [hl]; exact at_lt e
    exact (h g u v _ e (List.getElem?_eq_getElem this) q).mono fun x y z => z.mono fun k _ w => w.1
theorem Ch.new (h : Ch es pr K) (hl : pr.length = es.length) (e : Nat × Nat) (c : Int) : Ch (es ++ [e]) (pr ++ [c]) (fun k => K k ∨ k = es.length) := fun g u v d h1 h2 h3 => by
  rcases at_app h1 with ⟨_, h1⟩ | ⟨q, _⟩
  · rcases at_app h2 with ⟨_, h2⟩ | ⟨q, _⟩
    · refine (h g u v d h1 h2 (fun z => h3 (.inl z))).mono fun x y z => (z.more e).mono fun k _ w => ?_
      obtain ⟨w1, w2⟩ := w.more c (Int.le_refl _)
      exact ⟨.inl w1, w2⟩
    · have := at_lt h1; omega
  · exact absurd (.inr q) h3
theorem Ch.old (h : Ch es pr K) (hl : pr.length = es.length) {a b : Nat} {c : Int} (hK : ∀ k, K k → k < es.length) (hc : Conn (Lk es (Kc pr K c)) a b) : Ch (es ++ [(a, b)]) (pr ++ [c]) K := fun g u v d h1 h2 h3 => by
  rcases at_app h1 with ⟨_, h1⟩ | ⟨q, q2⟩
  · rcases at_app h2 with ⟨_, h2⟩ | ⟨q, _⟩
    · exact (h g u v d h1 h2 h3).mono fun x y z => (z.more _).mono fun k _ w => w.more c (Int.le_refl _)
    · have := at_lt h1; omega
  · cases q2
    rcases at_app h2 with ⟨z, _⟩ | ⟨_, z⟩
    · omega
    · subst z
      exact hc.mono fun x y z => (z.more _).mono fun k _ w => w.more _ (Int.le_refl _)
theorem Ch.swap (h : Ch es pr K) (hl : pr.length = es.length) {a b k0 : Nat} {c d0 : Int} {r : List Nat} (hK : ∀ k, K k → k < es.length) (hr : Lead es a b r) (hrK : ∀ k ∈ r, K k) (hn : r.Nodup) (h0 : k0 ∈ r) (hd0 : pr[k0]? = some d0) (hc : c ≤ d0) (hle : ∀ k ∈ r, ∃ d, pr[k]? = some d ∧ d ≤ d0) :
    Ch (es ++ [(a, b)]) (pr ++ [c]) (fun k => No K k0 k ∨ k = es.length) := by
  obtain ⟨x, y, r1, r2, a1, a2, a3, a4, a5, a6, a7⟩ := hr.split h0 hn
  have det : ∀ d, d0 ≤ d → Conn (Lk (es ++ [(a, b)]) (Kc (pr ++ [c]) (fun k => No K k0 k ∨ k = es.length) d)) x y := by
    intro d hd
    have part : ∀ {u v : Nat} {q : List Nat}, Lead es u v q → k0 ∉ q → (∀ j ∈ q, j ∈ r) → Conn (Lk (es ++ [(a, b)]) (Kc (pr ++ [c]) (fun k => No K k0 k ∨ k = es.length) d)) u v := fun hq n1 n2 => by
      refine (hq.conn (ks := fun k => k ∈ r ∧ k ≠ k0) fun j hj => ⟨n2 j hj, fun e => n1 (e ▸ hj)⟩).mono fun p q z => (z.more _).mono fun k _ w => ?_
      obtain ⟨e, e1, e2⟩ := hle k w.1
      exact ⟨.inl ⟨hrK k w.1, w.2⟩, e, by rw [List.getElem?_append_left (at_lt e1)]; exact e1, by omega⟩
    have c1 := part a1 a4 a6
    have c2 := part a2 a5 a7
    have c3 : Conn (Lk (es ++ [(a, b)]) (Kc (pr ++ [c]) (fun k => No K k0 k ∨ k = es.length) d)) a b :=
      .one ⟨es.length, ⟨.inr rfl, c, by rw [← hl, List.getElem?_append_right (Nat.le_refl _), Nat.sub_self]; rfl, by omega⟩, .inl (by rw [List.getElem?_append_right (Nat.le_refl _), Nat.sub_self]; rfl)⟩
    exact (c1.symm lkSymm).trans (c3.trans (c2.symm lkSymm))
  have hk0 : es[k0]? = some (x, y) ∨ es[k0]? = some (y, x) := a3
  have one : ∀ d p q, Lk es (Kc pr K d) p q → Conn (Lk (es ++ [(a, b)]) (Kc (pr ++ [c]) (fun k => No K k0 k ∨ k = es.length) d)) p q := by
    intro d p q ⟨k, ⟨k1, e, k2, k3⟩, k4⟩
    by_cases z : k = k0
    · subst z
      rw [hd0] at k2; cases k2
      have dd := det d k3
      rcases k4 with k4 | k4
      · rcases hk0 with g | g
        · rw [g] at k4; cases k4; exact dd
        · rw [g] at k4; cases k4; exact dd.symm lkSymm
      · rcases hk0 with g | g
        · rw [g] at k4; cases k4; exact dd.symm lkSymm
        · rw [g] at k4; cases k4; exact dd
    · refine .one ⟨k, ⟨.inl ⟨k1, z⟩, e, by rw [List.getElem?_append_left (at_lt k2)]; exact k2, k3⟩, ?_⟩
      rw [List.getElem?_append_left (hK k k1)]; exact k4
  intro g u v d h1 h2 h3
  rcases at_app h1 with ⟨gl, h1⟩ | ⟨q, _⟩
  · rcases at_app h2 with ⟨_, h2⟩ | ⟨q, _⟩
    · by_cases z : g = k0
      · subst z
        rw [hd0] at h2; cases h2
        have dd := det _ (Int.le_refl _)
        rcases hk0 with q | q
        · rw [q] at h1; cases h1; exact dd
        · rw [q] at h1; cases h1; exact dd.symm lkSymm
      · exact (h g u v d h1 h2 (fun w => h3 (.inl ⟨w, z⟩))).sub (one d)
    · omega
  · exact absurd (.inr q) h3
def Br (es : List (Nat × Nat)) (k : Nat) : Prop := ∀ x y, es[k]? = some (x, y) → ¬ Conn (Lk es (No (fun _ => True) k)) x y
def Ok0 (es : List (Nat × Nat)) (K : Nat → Prop) (k : Nat) : Prop := ∀ (g u v : Nat), es[g]? = some (u, v) → ¬ K g → Conn (Lk es (No K k)) u v
theorem Br.kept (S : Sp es K) {k : Nat} (hk : k < es.length) (h : Br es k) : K k := by
  refine Classical.byContradiction fun q => ?_
  refine h _ _ (List.getElem?_eq_getElem hk) ((S k _ _ (List.getElem?_eq_getElem hk)).mono fun x y z => z.mono fun j _ w => ⟨trivial, fun e => q (e ▸ w)⟩)
theorem bridge (F : Fo es K) (S : Sp es K) {k : Nat} (hk : k < es.length) : (K k ∧ Ok0 es K k) ↔ Br es k := by
  constructor
  · rintro ⟨h1, h2⟩ x y e c
    refine F k x y h1 e (c.sub fun p q z => ?_)
    obtain ⟨g, ⟨_, g2⟩, g3⟩ := z
    by_cases w : K g
    · exact .one ⟨g, ⟨w, g2⟩, g3⟩
    · rcases g3 with g3 | g3
      · exact h2 g p q g3 w
      · exact (h2 g q p g3 w).symm lkSymm
  · intro h
    refine ⟨h.kept S hk, fun g u v e hg => ?_⟩
    obtain ⟨⟨x, y⟩, exy⟩ : ∃ q, es[k]? = some q := ⟨_, List.getElem?_eq_getElem hk⟩
    have up : ∀ {p q : Nat}, Conn (Lk es (No K k)) p q → Conn (Lk es (No (fun _ => True) k)) p q := fun c => c.mono fun p q z => z.mono fun j _ w => ⟨trivial, w.2⟩
    have hgk : g ≠ k := fun z => hg (z ▸ h.kept S hk)
    have eg : Conn (Lk es (No (fun _ => True) k)) u v := .one ⟨g, ⟨trivial, hgk⟩, .inl e⟩
    rcases cross exy (S g u v e) with c | ⟨c1, c2⟩ | ⟨c1, c2⟩
    · exact c
    · exact absurd (((up c1).symm lkSymm).trans (eg.trans ((up c2).symm lkSymm))) (h x y exy)
    · exact absurd ((up c2).trans ((eg.symm lkSymm).trans (up c1))) (h x y exy)
def HW (es : List (Nat × Nat)) (K : Nat → Prop) (k : Nat) (v : Int) : Prop := 0 ≤ v ∧ (v = 0 ↔ Ok0 es K k)
theorem HW.add {a b k : Nat} {v : Int} {r : List Nat} (h : HW es K k v) (hkk : K k) (F : Fo es K) (hr : Lead es a b r) (hn : r.Nodup) (hrK : ∀ j ∈ r, K j) (hK : ∀ k, K k → k < es.length) : HW (es ++ [(a, b)]) K k (if k ∈ r then v + 1 else v) := by
  obtain ⟨h1, h2⟩ := h
  have old : Ok0 (es ++ [(a, b)]) K k → Ok0 es K k := fun o g u x e hg => by
    have := o g u x (by rw [List.getElem?_append_left (at_lt e)]; exact e) hg
    exact this.mono fun p q z => Lk.less (fun w => Nat.lt_irrefl _ (hK _ w.1)) z
  by_cases q : k ∈ r
  · rw [if_pos q]
    refine ⟨by omega, ⟨fun e => by omega, fun o => ?_⟩⟩
    exfalso
    have := o es.length a b (by rw [List.getElem?_append_right (Nat.le_refl _), Nat.sub_self]; rfl) (fun w => Nat.lt_irrefl _ (hK _ w))
    exact hr.sep q hn hrK F (this.mono fun p q z => Lk.less (fun w => Nat.lt_irrefl _ (hK _ w.1)) z)
  · rw [if_neg q]
    refine ⟨h1, h2.trans ⟨fun o g u x e hg => ?_, old⟩⟩
    rcases at_app e with ⟨_, e⟩ | ⟨_, e⟩
    · exact (o g u x e hg).mono fun p q z => z.more _
    · cases e
      exact (hr.keep q hrK).mono fun p q z => z.more _
theorem HW.old {a b k : Nat} {v : Int} (h : HW es K k v) (hkk : K k) (F : Fo (es ++ [(a, b)]) (fun k => K k ∨ k = es.length)) (S : Sp es K) (hK : ∀ k, K k → k < es.length) : HW (es ++ [(a, b)]) (fun k => K k ∨ k = es.length) k v := by
  obtain ⟨h1, h2⟩ := h
  refine ⟨h1, h2.trans ⟨fun o g u x e hg => ?_, fun o g u x e hg => ?_⟩⟩
  · rcases at_app e with ⟨_, e⟩ | ⟨q, _⟩
    · exact (o g u x e (fun w => hg (.inl w))).mono fun p q z => (z.more _).mono fun j _ w => ⟨.inl w.1, w.2⟩
    · exact absurd (.inr q) hg
  · have gl := at_lt e
    have e' : (es ++ [(a, b)])[g]? = some (u, x) := by rw [List.getElem?_append_left gl]; exact e
    have hg' : ¬ (K g ∨ g = es.length) := fun w => by rcases w with w | w; exact hg w; omega
    have c := o g u x e' hg'
    obtain ⟨⟨p, q⟩, epq⟩ : ∃ z, es[k]? = some z := ⟨_, List.getElem?_eq_getElem (hK k hkk)⟩
    have up : ∀ {p q : Nat}, Conn (Lk es (No K k)) p q → Conn (Lk (es ++ [(a, b)]) (No (fun k => K k ∨ k = es.length) k)) p q := fun c => c.mono fun p q z => (z.more _).mono fun j _ w => ⟨.inl w.1, w.2⟩
    have fk := F k p q (.inl hkk) (by rw [List.getElem?_append_left (at_lt epq)]; exact epq)
    rcases cross epq (S g u x e) with c0 | ⟨c1, c2⟩ | ⟨c1, c2⟩
    · exact c0
    · exact absurd (((up c1).symm lkSymm).trans (c.trans ((up c2).symm lkSymm))) fk
    · exact absurd ((up c2).trans ((c.symm lkSymm).trans (up c1))) fk
theorem HW.new {a b : Nat} (S : Sp es K) (hK : ∀ k, K k → k < es.length) : HW (es ++ [(a, b)]) (fun k => K k ∨ k = es.length) es.length 0 := by
  refine ⟨Int.le_refl _, ⟨fun _ g u x e hg => ?_, fun _ => rfl⟩⟩
  rcases at_app e with ⟨_, e⟩ | ⟨q, _⟩
  · exact (S g u x e).mono fun p q z => (z.more _).mono fun j jl w => ⟨.inl w, fun z => Nat.lt_irrefl _ (z ▸ hK j w)⟩
  · exact absurd (.inr q) hg
theorem Sp.new (S : Sp es K) (e : Nat × Nat) : Sp (es ++ [e]) (fun k => K k ∨ k = es.length) := fun g u v h => by
  rcases at_app h with ⟨_, h⟩ | ⟨q, _⟩
  · exact (S g u v h).mono fun p q z => (z.more _).mono fun j _ w => .inl w
  · exact .one ⟨g, .inr q, .inl h⟩
theorem Sp.old (S : Sp es K) {a b : Nat} (hc : Conn (Lk es K) a b) : Sp (es ++ [(a, b)]) K := fun g u v h => by
  rcases at_app h with ⟨_, h⟩ | ⟨_, h⟩
  · exact (S g u v h).mono fun p q z => z.more _
  · cases h; exact hc.mono fun p q z => z.more _
inductive FK : List (Nat × Nat) → List Nat → Prop
  | nil : FK [] []
  | new (es : List (Nat × Nat)) (a b : Nat) (L : List Nat) : FK es L → ¬ Conn (Lk es (· ∈ L)) a b → FK (es ++ [(a, b)]) (L ++ [es.length])
  | old (es : List (Nat × Nat)) (a b : Nat) (L : List Nat) : FK es L → Conn (Lk es (· ∈ L)) a b → FK (es ++ [(a, b)]) L
theorem FK.det {L L' : List Nat} (h : FK es L) (h' : FK es L') : L = L' := by
  induction h generalizing L' with
  | nil =>
    generalize e : ([] : List (Nat × Nat)) = es at h'
    cases h' with
    | nil => rfl
    | new => simp at e
    | old => simp at e
  | new es a b L h hc ih =>
    generalize e : es ++ [(a, b)] = es' at h'
    cases h' with
    | nil => simp at e
    | new es2 a2 b2 L2 h2 hc2 =>
      obtain ⟨rfl, e2⟩ := List.append_inj' e rfl
      rw [ih h2]
    | old es2 a2 b2 L2 h2 hc2 =>
      obtain ⟨rfl, e2⟩ := List.append_inj' e rfl
      cases e2
      exact absurd (ih h2 ▸ hc2) hc
  | old es a b L h hc ih =>
    generalize e : es ++ [(a, b)] = es' at h'
    cases h' with
    | nil => simp at e
    | new es2 a2 b2 L2 h2 hc2 =>
      obtain ⟨rfl, e2⟩ := List.append_inj' e rfl
      cases e2
      exact absurd hc (ih h2 ▸ hc2)
    | old es2 a2 b2 L2 h2 hc2 =>
      obtain ⟨rfl, e2⟩ := List.append_inj' e rfl
      exact ih h2
end
section
variable {m nb U : Nat} {es sp : List (Nat × Nat)} {wt : Nat → Int → Prop} {pt : Int → Prop} {s : S}
theorem LH.impK {wt' : Nat → Int → Prop} (h : LH m nb pt es wt sp s U) (hw : ∀ k v, inK sp k → wt k v → wt' k v) : LH m nb pt es wt' sp s U := by
  obtain ⟨w, h1, h2, h3⟩ := h.hw
  exact ⟨h.O, ⟨w, h1, h2, fun k t ht => hw k _ (inK_iff.mpr ⟨t, ht⟩) (h3 k t ht)⟩, h.cnt, h.nb⟩
theorem LH.lt (h : LH m nb pt es wt sp s U) {k : Nat} (hk : inK sp k) : k < es.length := by
  obtain ⟨t, ht⟩ := inK_iff.mp hk
  obtain ⟨a, b, e, _⟩ := h.O.at_ k t ht
  exact at_lt e
theorem LH.addW (h : LH m nb pt es wt sp s U) (hn : nb ≤ 103) (hpt : ∀ v, pt v) {a b : Nat} (ha : a < m) (hb : b < m) (hc : Conn (Lk es (inK sp)) a b) : ∃ s' r, LC.addW s a b 1 = some s' ∧ Lead es a b r ∧ r.Nodup ∧ (∀ k ∈ r, inK sp k) ∧
    LH m nb pt es (fun k v => ∃ v0, wt k v0 ∧ v = if k ∈ r then v0 + 1 else v0) sp s' (U + 4) := by
  obtain ⟨w, h1, h2, h3⟩ := h.hw
  have hmn := h.O.mn
  obtain ⟨s', p, e, g1, g2, g3, g4, g5⟩ := h1.addW (a := a) (b := b) (m := 1) (by omega) (by omega) (h.b60 hn) ((SE.conn h.O ha hb).mpr hc)
  refine ⟨s', nums sp p, e, Path.lead h.O _ (Nat.le_refl _) g1 g2 ha hb, nums_nodup h.O g2, fun k hk => ?_, ⟨by rw [g4]; exact h.O, ⟨_, g3, fun x _ => hpt _, fun k t ht => ⟨w t, h3 k t ht, ?_⟩⟩, ?_, by rw [g4]; exact h.nb⟩⟩
  · obtain ⟨t, _, ht⟩ := (nums_mem h.O).mp hk
    exact inK_iff.mpr ⟨t, ht⟩
  · have : k ∈ nums sp p ↔ t ∈ p := by
      rw [nums_mem h.O]
      constructor
      · rintro ⟨t', h1, h2⟩; exact nodup_fst h.O.kn h2 ht ▸ h1
      · exact fun z => ⟨t, z, ht⟩
    by_cases q : t ∈ p
    · rw [if_pos q, if_pos (this.mpr q)]
    · rw [if_neg q, if_neg (fun z => q (this.mp z))]
  · have := h.cnt
    have := h.lb hn
    rw [Nat.add_mul]; omega
theorem LH.total (h : LH m nb pt es wt sp s U) (hn : nb ≤ 103) {k t : Nat} (ht : (k, t) ∈ sp) : ∃ s', openWay s t t = some s' ∧ wt k (s'.to t) ∧ LH m nb pt es wt sp s' (U + 4) ∧ t < s.n := by
  obtain ⟨w, h1, h2, h3⟩ := h.hw
  have hr := h.O.rng k t ht
  obtain ⟨s', e, g1, g2, g3, g4⟩ := h1.total hr.2 (h.b60 hn)
  refine ⟨s', e, by rw [g1]; exact h3 k t ht, ⟨by rw [g3]; exact h.O, ⟨w, g2, h2, h3⟩, ?_, by rw [g3]; exact h.nb⟩, hr.2⟩
  have := h.cnt
  have := h.lb hn
  rw [Nat.add_mul]; omega
end
end LC
end
section
set_option autoImplicit false
namespace LC
abbrev Fnd := List (Nat × Option (Nat × Nat))
structure FOk (es : List (Nat × Nat)) (N a m : Nat) (fd : Fnd) : Prop where
  nd : (fd.map (·.1)).Nodup
  hd : fd[0]? = some (a, none)
  lt : ∀ (p : Nat) (o : Option (Nat × Nat)), (p, o) ∈ fd → p < m
  st : ∀ (i p : Nat) (o : Option (Nat × Nat)), fd[i]? = some (p, o) → (i = 0 ∧ o = none) ∨ ∃ (k h j : Nat) (oh : Option (Nat × Nat)), o = some (k, h) ∧ k ≠ N ∧ (es[k]? = some (h, p) ∨ es[k]? = some (p, h)) ∧ j < i ∧ fd[j]? = some (h, oh)
def Keys (fd : Fnd) (x : Nat) : Prop := x ∈ fd.map (·.1)
section
variable {es : List (Nat × Nat)} {N a m : Nat} {fd : Fnd}
theorem keys_iff {x : Nat} : Keys fd x ↔ ∃ (i : Nat) (o : Option (Nat × Nat)), fd[i]? = some (x, o) := by
  unfold Keys
  rw [List.mem_map]
  constructor
  · rintro ⟨⟨p, o⟩, h, rfl⟩
    obtain ⟨i, hi⟩ := List.mem_iff_getElem?.mp h
    exact ⟨i, o, hi⟩
  · rintro ⟨i, o, h⟩
    exact ⟨_, List.mem_of_getElem? h, rfl⟩
theorem fd_inj (h : (fd.map (·.1)).Nodup) {i j x : Nat} {o o' : Option (Nat × Nat)} (h1 : fd[i]? = some (x, o)) (h2 : fd[j]? = some (x, o')) : i = j := by
  have hi : i < (fd.map (·.1)).length := by rw [List.length_map]; exact at_lt h1
  exact (List.getElem?_inj hi h).mp (by rw [List.getElem?_map, List.getElem?_map, h1, h2]; rfl)
theorem FOk.start (ha : a < m) : FOk es N a m [(a, none)] := by
  refine ⟨by simp, rfl, fun p o h => ?_, fun i p o h => ?_⟩
  · have := List.mem_singleton.mp h; cases this; exact ha
  · cases i with
    | zero => cases h; exact .inl ⟨rfl, rfl⟩
    | succ i => simp at h
theorem FOk.add (F : FOk es N a m fd) {t k h j : Nat} {oh : Option (Nat × Nat)} (ht : ¬ Keys fd t) (htm : t < m) (hk : k ≠ N) (he : es[k]? = some (h, t) ∨ es[k]? = some (t, h)) (hj : fd[j]? = some (h, oh)) : FOk es N a m (fd ++ [(t, some (k, h))]) := by
  refine ⟨?_, ?_, fun p o hp => ?_, fun i p o hp => ?_⟩
  · rw [List.map_append, List.nodup_append]
    refine ⟨F.nd, by simp, fun x hx y hy e => ?_⟩
    have : y = t := by simpa using hy
    exact ht (by rw [← this, ← e]; exact hx)
  · rw [List.getElem?_append_left (at_lt F.hd)]; exact F.hd
  · rcases List.mem_append.mp hp with z | z
    · exact F.lt p o z
    · have := List.mem_singleton.mp z; cases this; exact htm
  · rcases at_app hp with ⟨_, z⟩ | ⟨z1, z2⟩
    · rcases F.st i p o z with w | ⟨k', h', j', oh', w1, w2, w3, w4, w5⟩
      · exact .inl w
      · exact .inr ⟨k', h', j', oh', w1, w2, w3, w4, by rw [List.getElem?_append_left (at_lt w5)]; exact w5⟩
    · cases z2
      exact .inr ⟨k, h, j, oh, rfl, hk, he, by rw [z1]; exact at_lt hj, by rw [List.getElem?_append_left (at_lt hj)]; exact hj⟩
theorem FOk.len (F : FOk es N a m fd) : fd.length ≤ m := by
  have := nodup_len m (fd.map (·.1)) F.nd (fun x hx => by
    obtain ⟨⟨p, o⟩, h, rfl⟩ := List.mem_map.mp hx
    exact F.lt p o h)
  rwa [List.length_map] at this
def Gone (es : List (Nat × Nat)) (N : Nat) (fd : Fnd) (x n : Nat) : Prop := ∀ (k y : Nat), k < n → k ≠ N → (es[k]? = some (x, y) ∨ es[k]? = some (y, x)) → Keys fd y
theorem Gone.more {x n : Nat} (h : Gone es N fd x n) (e : Nat × Option (Nat × Nat)) : Gone es N (fd ++ [e]) x n := fun k y h1 h2 h3 => by
  have := h k y h1 h2 h3
  unfold Keys at this ⊢
  rw [List.map_append]; exact List.mem_append_left _ this
theorem gone_closed (F : FOk es N a m fd) (h : ∀ x, Keys fd x → Gone es N fd x es.length) {v : Nat} (c : Conn (Lk es (No (fun _ => True) N)) a v) : Keys fd v := by
  have key : ∀ {x v : Nat}, Conn (Lk es (No (fun _ => True) N)) x v → Keys fd x → Keys fd v := by
    intro x v c
    induction c with
    | refl => exact id
    | step x y v e _ ih =>
      intro hx
      obtain ⟨k, ⟨_, k1⟩, k2⟩ := e
      refine ih (h x hx k y ?_ k1 k2)
      rcases k2 with z | z <;> exact at_lt z
  exact key c (keys_iff.mpr ⟨0, none, F.hd⟩)
end
end LC
end
section
set_option autoImplicit false
namespace LC
inductive Rt (ab : Nat → Nat) : Nat → Nat → Nat → Prop
  | top (r : Nat) : ab r = r → Rt ab r r 0
  | up (x r n : Nat) : ab x ≠ x → Rt ab (ab x) r n → Rt ab x r (n + 1)
section
variable {ab : Nat → Nat} {m : Nat} {es : List (Nat × Nat)} {L : List Nat}
theorem Rt.fix {x r n : Nat} (h : Rt ab x r n) : ab r = r := by
  induction h with
  | top r h => exact h
  | up x r n _ _ ih => exact ih
theorem Rt.det {x r n r' n' : Nat} (h : Rt ab x r n) (h' : Rt ab x r' n') : r = r' ∧ n = n' := by
  induction h generalizing n' with
  | top r h =>
    cases h' with
    | top => exact ⟨rfl, rfl⟩
    | up _ _ _ q _ => exact absurd h q
  | up x r n q _ ih =>
    cases h' with
    | top _ h => exact absurd h q
    | up _ _ n' _ h' => obtain ⟨e1, e2⟩ := ih h'; exact ⟨e1, by rw [e2]⟩
theorem Rt.up1 {x r n a b : Nat} (h : Rt ab x r n) (ha : ab a = a) (hb : ab b = b) (hne : a ≠ b) : Rt (LC.up ab a b) x (if r = a then b else r) (if r = a then n + 1 else n) := by
  induction h with
  | top r h =>
    by_cases q : r = a
    · rw [if_pos q, if_pos q]
      subst q
      refine .up _ _ _ (by rw [up_same]; exact fun z => hne z.symm) ?_
      rw [up_same]
      exact .top _ (by rw [up_ne _ _ (Ne.symm hne)]; exact hb)
    · rw [if_neg q, if_neg q]
      exact .top _ (by rw [up_ne _ _ q]; exact h)
  | up x r n q _ ih =>
    have hx : x ≠ a := fun z => q (z ▸ ha)
    have e : LC.up ab a b x = ab x := up_ne _ _ hx
    by_cases z : r = a
    · rw [if_pos z, if_pos z] at ih ⊢
      exact .up _ _ _ (by rw [e]; exact q) (by rw [e]; exact ih)
    · rw [if_neg z, if_neg z] at ih ⊢
      exact .up _ _ _ (by rw [e]; exact q) (by rw [e]; exact ih)
structure UF (es : List (Nat × Nat)) (m : Nat) (ab : Nat → Nat) (L : List Nat) : Prop where
  lt : ∀ x, x < m → ab x < m
  rt : ∀ x, x < m → ∃ r n, r < m ∧ Rt ab x r n
  eq : ∀ (x y r n r' n' : Nat), x < m → y < m → Rt ab x r n → Rt ab y r' n' → (r = r' ↔ Conn (Lk es (· ∈ L)) x y)
theorem UF.start : UF es m id [] := by
  refine ⟨fun x h => h, fun x h => ⟨x, 0, h, .top _ rfl⟩, fun x y r n r' n' _ _ h1 h2 => ?_⟩
  have e1 : r = x := (h1.det (.top x rfl)).1
  have e2 : r' = y := (h2.det (.top y rfl)).1
  subst e1; subst e2
  refine ⟨fun z => by rw [z]; exact .refl _, fun c => ?_⟩
  cases c with
  | refl => rfl
  | step _ _ _ e _ => obtain ⟨k, hk, _⟩ := e; simp at hk
theorem UF.join (U : UF es m ab L) {k a b ra rb na nb : Nat} (hk : es[k]? = some (a, b)) (hkL : k ∉ L) (ha : a < m) (hb : b < m) (h1 : Rt ab a ra na) (h2 : Rt ab b rb nb) (hne : ra ≠ rb) (hra : ra < m) (hrb : rb < m) : UF es m (LC.up ab ra rb) (L ++ [k]) := by
  have f1 := h1.fix
  have f2 := h2.fix
  have sub : ∀ {x y : Nat}, Conn (Lk es (· ∈ L)) x y → Conn (Lk es (· ∈ L ++ [k])) x y := fun c => c.mono fun p q z => z.mono fun j _ w => List.mem_append_left _ w
  have ek : Conn (Lk es (· ∈ L ++ [k])) a b := .one ⟨k, by simp, .inl hk⟩
  refine ⟨fun x hx => ?_, fun x hx => ?_, fun x y r n r' n' hx hy g1 g2 => ?_⟩
  · unfold LC.up; split
    · exact hrb
    · exact U.lt x hx
  · obtain ⟨r, n, hr, g⟩ := U.rt x hx
    refine ⟨_, _, ?_, g.up1 f1 f2 hne⟩
    split
    · exact hrb
    · exact hr
  · obtain ⟨r0, n0, _, k1⟩ := U.rt x hx
    obtain ⟨r0', n0', _, k2⟩ := U.rt y hy
    have e1 := (g1.det (k1.up1 f1 f2 hne)).1
    have e2 := (g2.det (k2.up1 f1 f2 hne)).1
    have q0 := U.eq x y r0 n0 r0' n0' hx hy k1 k2
    have qxa := U.eq x a r0 n0 ra na hx ha k1 h1
    have qxb := U.eq x b r0 n0 rb nb hx hb k1 h2
    have qya := U.eq y a r0' n0' ra na hy ha k2 h1
    have qyb := U.eq y b r0' n0' rb nb hy hb k2 h2
    constructor
    · intro e
      rw [e1, e2] at e
      by_cases z1 : r0 = ra
      · rw [if_pos z1] at e
        by_cases z2 : r0' = ra
        · exact sub (q0.mp (z1.trans z2.symm))
        · rw [if_neg z2] at e
          exact (sub (qxa.mp z1)).trans (ek.trans ((sub (qyb.mp e.symm)).symm lkSymm))
      · rw [if_neg z1] at e
        by_cases z2 : r0' = ra
        · rw [if_pos z2] at e
          exact (sub (qxb.mp e)).trans ((ek.symm lkSymm).trans ((sub (qya.mp z2)).symm lkSymm))
        · rw [if_neg z2] at e
          exact sub (q0.mp e)
    · intro c
      have no : ∀ {x y : Nat}, Conn (Lk es (No (· ∈ L ++ [k]) k)) x y → Conn (Lk es (· ∈ L)) x y := fun c => c.mono fun p q z => z.mono fun j _ w => by
        rcases List.mem_append.mp w.1 with v | v
        · exact v
        · exact absurd (List.mem_singleton.mp v) w.2
      rw [e1, e2]
      rcases cross hk c with c | ⟨c1, c2⟩ | ⟨c1, c2⟩
      · rw [q0.mpr (no c)]
      · have z1 := qxa.mpr (no c1)
        have z2 := qyb.mpr ((no c2).symm lkSymm)
        rw [z1, z2, if_pos rfl, if_neg (Ne.symm hne)]
      · have z1 := qxb.mpr (no c1)
        have z2 := qya.mpr ((no c2).symm lkSymm)
        rw [z1, z2, if_neg (Ne.symm hne), if_pos rfl]
end
end LC
end
section
set_option autoImplicit false
namespace LC
section
variable {es : List (Nat × Nat)} {pr : List Int} {K : Nat → Prop}
theorem Ch.le (C : Ch es pr K) (F : Fo es K) (hl : pr.length = es.length) (hK : ∀ k, K k → k < es.length) {g u v : Nat} {c : Int} {r : List Nat} (hg : es[g]? = some (u, v)) (hc : pr[g]? = some c) (hgK : ¬ K g) (hr : Lead es u v r) (hn : r.Nodup) (hrK : ∀ k ∈ r, K k) :
    ∀ k ∈ r, ∃ d, pr[k]? = some d ∧ d ≤ c := by
  intro k hk
  have hlt : k < pr.length := by rw [hl]; exact hK k (hrK k hk)
  refine ⟨_, List.getElem?_eq_getElem hlt, ?_⟩
  refine Classical.byContradiction fun hd => ?_
  refine hr.sep hk hn hrK F ((C g u v c hg hc hgK).mono fun p q z => z.mono fun j _ w => ⟨w.1, fun e => ?_⟩)
  obtain ⟨_, d, h1, h2⟩ := w
  rw [e, List.getElem?_eq_getElem hlt] at h1
  exact hd (by rw [Option.some.inj h1]; exact h2)
theorem due (F : Fo es K) (S : Sp es K) {ps : List (Nat × List Nat)} (h1 : ∀ (n : Nat) (r : List Nat), (n, r) ∈ ps → ∃ u v, es[n]? = some (u, v) ∧ Lead es u v r ∧ r.Nodup ∧ (∀ k ∈ r, K k) ∧ ¬ K n) (h2 : ∀ n, n < es.length → ¬ K n → ∃ r, (n, r) ∈ ps) {k : Nat} (hk : k < es.length) :
    (K k ∧ ∀ p ∈ ps, k ∉ p.2) ↔ Br es k := by
  rw [← bridge F S hk]
  refine ⟨fun ⟨a, b⟩ => ⟨a, fun g u v e hg => ?_⟩, fun ⟨a, b⟩ => ⟨a, fun p hp hkr => ?_⟩⟩
  · obtain ⟨r, hr⟩ := h2 g (at_lt e) hg
    obtain ⟨u', v', e', l1, l2, l3, _⟩ := h1 g r hr
    rw [e] at e'; cases e'
    exact l1.keep (b (g, r) hr) l3
  · obtain ⟨n, r⟩ := p
    obtain ⟨u, v, e, l1, l2, l3, l4⟩ := h1 n r hp
    exact l1.sep hkr l2 l3 F (b n u v e l4)
end
theorem sorted_ext : ∀ {l l' : List Nat}, l.Pairwise (· < ·) → l'.Pairwise (· < ·) → (∀ k, k ∈ l ↔ k ∈ l') → l = l'
  | [], [], _, _, _ => rfl
  | [], b :: l', _, _, h => by have := (h b).mpr List.mem_cons_self; cases this
  | a :: l, [], _, _, h => by have := (h a).mp List.mem_cons_self; cases this
  | a :: l, b :: l', h1, h2, h => by
    rw [List.pairwise_cons] at h1 h2
    have e : a = b := by
      rcases List.mem_cons.mp ((h a).mp List.mem_cons_self) with z | z
      · exact z
      · rcases List.mem_cons.mp ((h b).mpr List.mem_cons_self) with y | y
        · exact y.symm
        · have := h1.1 b y; have := h2.1 a z; omega
    subst e
    have ih := sorted_ext h1.2 h2.2 fun k => by
      constructor
      · intro z
        rcases List.mem_cons.mp ((h k).mp (List.mem_cons_of_mem _ z)) with y | y
        · have := h1.1 k z; omega
        · exact y
      · intro z
        rcases List.mem_cons.mp ((h k).mpr (List.mem_cons_of_mem _ z)) with y | y
        · have := h2.1 k z; omega
        · exact y
    rw [ih]
theorem FK.sorted {es : List (Nat × Nat)} {L : List Nat} (h : FK es L) : L.Pairwise (· < ·) ∧ ∀ k ∈ L, k < es.length := by
  induction h with
  | nil => exact ⟨List.Pairwise.nil, by simp⟩
  | new es a b L _ _ ih =>
    refine ⟨?_, fun k hk => ?_⟩
    · rw [List.pairwise_append]
      exact ⟨ih.1, by simp, fun x hx y hy => by rw [List.mem_singleton.mp hy]; exact ih.2 x hx⟩
    · rw [List.length_append, List.length_singleton]
      rcases List.mem_append.mp hk with z | z
      · have := ih.2 k z; omega
      · rw [List.mem_singleton.mp z]; omega
  | old es a b L _ _ ih =>
    refine ⟨ih.1, fun k hk => ?_⟩
    rw [List.length_append, List.length_singleton]
    have := ih.2 k hk; omega
theorem lk_take {es : List (Nat × Nat)} {i : Nat} {L : List Nat} (hL : ∀ k ∈ L, k < i) {x y : Nat} : Conn (Lk (es.take i) (· ∈ L)) x y ↔ Conn (Lk es (· ∈ L)) x y := by
  have at_ : ∀ k ∈ L, (es.take i)[k]? = es[k]? := fun k hk => List.getElem?_take_of_lt (hL k hk)
  constructor
  · exact fun c => c.mono fun p q z => by
      obtain ⟨k, k1, k2⟩ := z
      rw [at_ k k1] at k2
      exact ⟨k, k1, k2⟩
  · exact fun c => c.mono fun p q z => by
      obtain ⟨k, k1, k2⟩ := z
      rw [← at_ k k1] at k2
      exact ⟨k, k1, k2⟩
def Lab (es : List (Nat × Nat)) (m : Nat) (lb : Nat → Nat) (L : List Nat) : Prop := ∀ x y, x < m → y < m → (lb x = lb y ↔ Conn (Lk es (· ∈ L)) x y)
theorem Lab.start (es : List (Nat × Nat)) (m : Nat) : Lab es m id [] := fun x y _ _ => by
  refine ⟨fun z => by rw [show x = y from z]; exact .refl _, fun c => ?_⟩
  cases c with
  | refl => rfl
  | step _ _ _ e _ => obtain ⟨k, hk, _⟩ := e; simp at hk
theorem Lab.join {es : List (Nat × Nat)} {m : Nat} {lb : Nat → Nat} {L : List Nat} (h : Lab es m lb L) {k a b : Nat} (hk : es[k]? = some (a, b)) (hkL : k ∉ L) (ha : a < m) (hb : b < m) (hne : lb a ≠ lb b) :
    Lab es m (fun x => if lb x = lb b then lb a else lb x) (L ++ [k]) := by
  have sub : ∀ {x y : Nat}, Conn (Lk es (· ∈ L)) x y → Conn (Lk es (· ∈ L ++ [k])) x y := fun c => c.mono fun p q z => z.mono fun j _ w => List.mem_append_left _ w
  have ek : Conn (Lk es (· ∈ L ++ [k])) a b := .one ⟨k, by simp, .inl hk⟩
  have no : ∀ {x y : Nat}, Conn (Lk es (No (· ∈ L ++ [k]) k)) x y → Conn (Lk es (· ∈ L)) x y := fun c => c.mono fun p q z => z.mono fun j _ w => by
    rcases List.mem_append.mp w.1 with v | v
    · exact v
    · exact absurd (List.mem_singleton.mp v) w.2
  intro x y hx hy
  show (if lb x = lb b then lb a else lb x) = (if lb y = lb b then lb a else lb y) ↔ _
  constructor
  · intro e
    by_cases z1 : lb x = lb b
    · rw [if_pos z1] at e
      have c1 := sub ((h x b hx hb).mp z1)
      by_cases z2 : lb y = lb b
      · exact c1.trans ((sub ((h y b hy hb).mp z2)).symm lkSymm)
      · rw [if_neg z2] at e
        exact c1.trans ((ek.symm lkSymm).trans (sub ((h a y ha hy).mp e)))
    · rw [if_neg z1] at e
      by_cases z2 : lb y = lb b
      · rw [if_pos z2] at e
        exact (sub ((h x a hx ha).mp e)).trans (ek.trans ((sub ((h y b hy hb).mp z2)).symm lkSymm))
      · rw [if_neg z2] at e
        exact sub ((h x y hx hy).mp e)
  · intro c
    rcases cross hk c with c | ⟨c1, c2⟩ | ⟨c1, c2⟩
    · rw [(h x y hx hy).mpr (no c)]
    · have z1 := (h x a hx ha).mpr (no c1)
      have z2 := (h b y hb hy).mpr (no c2)
      rw [if_neg (by rw [z1]; exact hne), if_pos z2.symm, z1]
    · have z1 := (h x b hx hb).mpr (no c1)
      have z2 := (h a y ha hy).mpr (no c2)
      rw [if_pos z1, if_neg (by rw [← z2]; exact hne), z2]
end LC
end
namespace TC
open PySem L2
abbrev Cad (K : PySem.W.Frag) (c : Cn) : Addr := He.ga K c.nm
abbrev Fad (K : PySem.W.Frag) (d : Dn) : Addr := He.fAd K d.at_
def fdOf (K : PySem.W.Frag) (d : Dn) : FuncData := match K.lookup (Fad K d) with
  | some ⟨_, _, .func fd, _⟩ => fd
  | _ => PySem.W.fnOf "x" "x" (defArgs d.sm) (defBody d.sm) (defScope d.sm) .none .none .none .none none .none .none
structure Tx (w : World) (K : PySem.W.Frag) (mg : Str → Option Value) : Prop where
  cls : ∀ c : Cn, Cls K (Cad K c)
  noat : ∀ c : Cn, ∀ f ∈ c.fields, NoAttr K (Cad K c) f
  meth : ∀ c : Cn, ∀ m ∈ c.meths, Meth K (Cad K c) m (He.ma K (Cad K c) m)
  mkr : ∀ c : Cn, Mk K (Cad K c) (He.ma K (Cad K c) "__init__")
  glC : ∀ c : Cn, mg c.nm = some (.ref (Cad K c))
  fn : ∀ d : Dn, FunD K d.nm d.ql (defArgs d.sm) (defBody d.sm) (defScope d.sm) [] [] (Fad K d) (fdOf K d)
  glF : ∀ x ∈ fnNames, mg x = some (.ref (He.ga K x))
  free : ∀ x ∈ freeNames, mg x = none
  kF : ∃ u, mg "KINDS_forests" = some u ∧ RelV (.str "abcdefgh") u
  kS : ∃ u, mg "KINDS_strands" = some u ∧ RelV (.str "abcdefgh") u
  glT : mg "FORMS" = some (.ref (He.ga K "FORMS")) ∧ mg "DEEDS" = some (.ref (He.ga K "DEEDS")) ∧ mg "DONE" = some (.ref (He.ga K "DONE"))
  deeds : ∀ H, SqT K H (He.ga K "DEEDS") (deedsL.map V.str)
  done : ∀ H, SqT K H (He.ga K "DONE") (doneL.map V.str)
  forms : ∃ es n, KDict K w (He.ga K "FORMS") es n
  formsV : ∀ q ∈ formsL, ∃ u, PySem.W.nsIn K (He.ga K "FORMS") q.1 = some (some u) ∧ RelV (.str q.2) u
theorem mem_fa {f : He.Fa} (h : f ∈ fa) {w : World} {h0 : Heap} {K : PySem.W.Frag} (c : He.SaysX fa fn ts [] ex w h0 K) : f.ok K = true := c.t.d.facts h
theorem fa_c (c : Cn) {f : He.Fa} (h : f ∈ faC c) : f ∈ fa := by
  unfold fa
  simp only [List.mem_append, List.mem_flatMap]
  exact .inl (.inl (.inl ⟨c, by cases c <;> simp [Cn.all], h⟩))
theorem tx_of {w : World} {h h0 : Heap} {K : PySem.W.Frag} {mg : Str → Option Value} (X : K.In h) (G : h.Ns mainGlobals mg) (c : He.SaysX fa fn ts [] ex w h0 K) : Tx w K mg := by
  have m := fun (f : He.Fa) (hf : f ∈ fa) => mem_fa hf c
  have hex := c.more
  obtain ⟨x1, x2⟩ := He.ba hex
  obtain ⟨x3, x4⟩ := He.ba x2
  have hst : ∀ (l : List Str), (l.map He.Dv.str).map (He.Dv.v K) = l.map V.str := fun l => by rw [List.map_map]; rfl
  refine ⟨fun k => He.cls_ok (m _ (fa_c k (by simp [faC]))), fun k f hf => He.noat_ok (m _ (fa_c k (by simp [faC, hf]))), fun k f hf => He.meth_ok (m _ (fa_c k (by simp [faC, hf]))), fun k => He.mkr_ok (m _ (fa_c k (by simp [faC]))), fun k => He.glo_ok X G (m _ (fa_c k (by simp [faC]))),
    fun d => ?_, fun x hx => He.glo_ok X G (m _ (by unfold fa; simp [hx])), fun x hx => He.free_ok X G (m _ (by unfold fa; simp [hx])), ?_, ?_, ⟨He.glo_ok X G (m _ (by unfold fa; simp)), He.glo_ok X G (m _ (by unfold fa; simp)), He.glo_ok X G (m _ (by unfold fa; simp))⟩,
    fun H => by rw [← hst]; exact He.tupB_ok x1 H, fun H => by rw [← hst]; exact He.tupB_ok x3 H, c.t.tab 0 (t := (fun K => He.ga K "FORMS", formsL.map (·.1))) rfl, fun q hq => ?_⟩
  · obtain ⟨fd, F⟩ := c.t.d.defs (d := dd d) (List.mem_map.mpr ⟨d, d.mem, rfl⟩)
    have e : fdOf K d = fd := by
      obtain ⟨oc, od, dV, kV, doc, pm, an, cdv, ct, osl, rfl, lk, _⟩ := F.ex
      unfold fdOf
      rw [show K.lookup (Fad K d) = _ from lk]
    rw [e]; exact F
  · obtain ⟨t, e⟩ := He.str_ok X G (m (.str "KINDS_forests" "abcdefgh") (by unfold fa; simp))
    exact ⟨_, e, _, rfl⟩
  · obtain ⟨t, e⟩ := He.str_ok X G (m (.str "KINDS_strands" "abcdefgh") (by unfold fa; simp))
    exact ⟨_, e, _, rfl⟩
  · exact He.valsB_ok x4 (q := (q.1, He.Dv.str q.2)) (List.mem_map.mpr ⟨q, hq, rfl⟩)
abbrev Ok (P : Program) (w : World) (K : PySem.W.Frag) (mg : Str → Option Value) (base : Heap) (k : Nat) (d : Dn) (sp : Sp) : Prop := FnOk P w K mg base CX0 k (Fad K d) (fdOf K d) d.ps sp
section
variable {w : World} {K : PySem.W.Frag} {mg : Str → Option Value}
theorem b_is_number_shapes (T : Tx w K mg) : Binds K (fdOf K .is_number_shapes) ["thing"] [] := (T.fn .is_number_shapes).bindsN fun _ _ _ _ _ _ us hl => match us, hl with | [_], _ => rfl
theorem b_is_kind (T : Tx w K mg) : Binds K (fdOf K .is_kind) ["thing"] [] := (T.fn .is_kind).bindsN fun _ _ _ _ _ _ us hl => match us, hl with | [_], _ => rfl
theorem b_is_number_rows (T : Tx w K mg) : Binds K (fdOf K .is_number_rows) ["thing"] [] := (T.fn .is_number_rows).bindsN fun _ _ _ _ _ _ us hl => match us, hl with | [_], _ => rfl
theorem b_fits_form (T : Tx w K mg) : Binds K (fdOf K .fits_form) ["sign", "thing"] [] := (T.fn .fits_form).bindsN fun _ _ _ _ _ _ us hl => match us, hl with | [_, _], _ => rfl
theorem b_is_row (T : Tx w K mg) : Binds K (fdOf K .is_row) ["thing"] [] := (T.fn .is_row).bindsN fun _ _ _ _ _ _ us hl => match us, hl with | [_], _ => rfl
theorem b_is_deed (T : Tx w K mg) : Binds K (fdOf K .is_deed) ["row"] [] := (T.fn .is_deed).bindsN fun _ _ _ _ _ _ us hl => match us, hl with | [_], _ => rfl
theorem b_points_of (T : Tx w K mg) : Binds K (fdOf K .points_of) ["row"] [] := (T.fn .points_of).bindsN fun _ _ _ _ _ _ us hl => match us, hl with | [_], _ => rfl
theorem b_look_row (T : Tx w K mg) : Binds K (fdOf K .look_row) ["row", "many"] [] := (T.fn .look_row).bindsN fun _ _ _ _ _ _ us hl => match us, hl with | [_, _], _ => rfl
theorem b_kind_bit (T : Tx w K mg) : Binds K (fdOf K .kind_bit) ["kind"] [] := (T.fn .kind_bit).bindsN fun _ _ _ _ _ _ us hl => match us, hl with | [_], _ => rfl
theorem b_st_init (T : Tx w K mg) : Binds K (fdOf K .st_init) ["self"] [] := (T.fn .st_init).bindsN fun _ _ _ _ _ _ us hl => match us, hl with | [_], _ => rfl
theorem b_st_put_point (T : Tx w K mg) : Binds K (fdOf K .st_put_point) ["self", "worth", "kind"] [] := (T.fn .st_put_point).bindsN fun _ _ _ _ _ _ us hl => match us, hl with | [_, _, _], _ => rfl
theorem b_st_is_top (T : Tx w K mg) : Binds K (fdOf K .st_is_top) ["self", "x"] [] := (T.fn .st_is_top).bindsN fun _ _ _ _ _ _ us hl => match us, hl with | [_, _], _ => rfl
theorem b_st_flip (T : Tx w K mg) : Binds K (fdOf K .st_flip) ["self", "x"] [] := (T.fn .st_flip).bindsN fun _ _ _ _ _ _ us hl => match us, hl with | [_, _], _ => rfl
theorem b_st_more_by (T : Tx w K mg) : Binds K (fdOf K .st_more_by) ["self", "x", "more"] [] := (T.fn .st_more_by).bindsN fun _ _ _ _ _ _ us hl => match us, hl with | [_, _, _], _ => rfl
theorem b_st_hand_down (T : Tx w K mg) : Binds K (fdOf K .st_hand_down) ["self", "x"] [] := (T.fn .st_hand_down).bindsN fun _ _ _ _ _ _ us hl => match us, hl with | [_, _], _ => rfl
theorem b_st_gather (T : Tx w K mg) : Binds K (fdOf K .st_gather) ["self", "x"] [] := (T.fn .st_gather).bindsN fun _ _ _ _ _ _ us hl => match us, hl with | [_, _], _ => rfl
theorem b_st_put_below (T : Tx w K mg) : Binds K (fdOf K .st_put_below) ["self", "u", "old", "new"] [] := (T.fn .st_put_below).bindsN fun _ _ _ _ _ _ us hl => match us, hl with | [_, _, _, _], _ => rfl
theorem b_st_turn (T : Tx w K mg) : Binds K (fdOf K .st_turn) ["self", "x"] [] := (T.fn .st_turn).bindsN fun _ _ _ _ _ _ us hl => match us, hl with | [_, _], _ => rfl
theorem b_st_unfold (T : Tx w K mg) : Binds K (fdOf K .st_unfold) ["self", "x"] [] := (T.fn .st_unfold).bindsN fun _ _ _ _ _ _ us hl => match us, hl with | [_, _], _ => rfl
theorem b_st_lift (T : Tx w K mg) : Binds K (fdOf K .st_lift) ["self", "x"] [] := (T.fn .st_lift).bindsN fun _ _ _ _ _ _ us hl => match us, hl with | [_, _], _ => rfl
theorem b_st_hang (T : Tx w K mg) : Binds K (fdOf K .st_hang) ["self", "u", "x", "sign"] [] := (T.fn .st_hang).bindsN fun _ _ _ _ _ _ us hl => match us, hl with | [_, _, _, _], _ => rfl
theorem b_st_let_go (T : Tx w K mg) : Binds K (fdOf K .st_let_go) ["self", "x"] [] := (T.fn .st_let_go).bindsN fun _ _ _ _ _ _ us hl => match us, hl with | [_, _], _ => rfl
theorem b_st_take_in (T : Tx w K mg) : Binds K (fdOf K .st_take_in) ["self", "u", "x"] [] := (T.fn .st_take_in).bindsN fun _ _ _ _ _ _ us hl => match us, hl with | [_, _, _], _ => rfl
theorem b_st_lead (T : Tx w K mg) : Binds K (fdOf K .st_lead) ["self", "p"] [] := (T.fn .st_lead).bindsN fun _ _ _ _ _ _ us hl => match us, hl with | [_, _], _ => rfl
theorem b_wy_init (T : Tx w K mg) : Binds K (fdOf K .wy_init) ["self", "forest"] [] := (T.fn .wy_init).bindsN fun _ _ _ _ _ _ us hl => match us, hl with | [_, _], _ => rfl
theorem b_wy_points (T : Tx w K mg) : Binds K (fdOf K .wy_points) ["self"] [] := (T.fn .wy_points).bindsN fun _ _ _ _ _ _ us hl => match us, hl with | [_], _ => rfl
theorem b_wy_turn_about (T : Tx w K mg) : Binds K (fdOf K .wy_turn_about) ["self", "p"] [] := (T.fn .wy_turn_about).bindsN fun _ _ _ _ _ _ us hl => match us, hl with | [_, _], _ => rfl
theorem b_wy_are_joined (T : Tx w K mg) : Binds K (fdOf K .wy_are_joined) ["self", "a", "b"] [] := (T.fn .wy_are_joined).bindsN fun _ _ _ _ _ _ us hl => match us, hl with | [_, _, _], _ => rfl
theorem b_wy_open_way (T : Tx w K mg) : Binds K (fdOf K .wy_open_way) ["self", "a", "b"] [] := (T.fn .wy_open_way).bindsN fun _ _ _ _ _ _ us hl => match us, hl with | [_, _, _], _ => rfl
theorem b_wy_tie (T : Tx w K mg) : Binds K (fdOf K .wy_tie) ["self", "a", "b"] [] := (T.fn .wy_tie).bindsN fun _ _ _ _ _ _ us hl => match us, hl with | [_, _, _], _ => rfl
theorem b_wy_open_tie (T : Tx w K mg) : Binds K (fdOf K .wy_open_tie) ["self", "a", "b"] [] := (T.fn .wy_open_tie).bindsN fun _ _ _ _ _ _ us hl => match us, hl with | [_, _, _], _ => rfl
theorem b_wy_cut (T : Tx w K mg) : Binds K (fdOf K .wy_cut) ["self", "a", "b"] [] := (T.fn .wy_cut).bindsN fun _ _ _ _ _ _ us hl => match us, hl with | [_, _, _], _ => rfl
theorem b_wy_add (T : Tx w K mg) : Binds K (fdOf K .wy_add) ["self", "a", "b", "more"] [] := (T.fn .wy_add).bindsN fun _ _ _ _ _ _ us hl => match us, hl with | [_, _, _, _], _ => rfl
theorem b_wy_inorder (T : Tx w K mg) : Binds K (fdOf K .wy_inorder) ["self", "top"] [] := (T.fn .wy_inorder).bindsN fun _ _ _ _ _ _ us hl => match us, hl with | [_, _], _ => rfl
theorem b_wy_is_below (T : Tx w K mg) : Binds K (fdOf K .wy_is_below) ["self", "x", "word", "number"] [] := (T.fn .wy_is_below).bindsN fun _ _ _ _ _ _ us hl => match us, hl with | [_, _, _, _], _ => rfl
theorem b_wy_is_wanted (T : Tx w K mg) : Binds K (fdOf K .wy_is_wanted) ["self", "x", "word", "number"] [] := (T.fn .wy_is_wanted).bindsN fun _ _ _ _ _ _ us hl => match us, hl with | [_, _, _, _], _ => rfl
theorem b_wy_first_by (T : Tx w K mg) : Binds K (fdOf K .wy_first_by) ["self", "top", "word", "number"] [] := (T.fn .wy_first_by).bindsN fun _ _ _ _ _ _ us hl => match us, hl with | [_, _, _, _], _ => rfl
theorem b_wy_of_way (T : Tx w K mg) : Binds K (fdOf K .wy_of_way) ["self", "row"] [] := (T.fn .wy_of_way).bindsN fun _ _ _ _ _ _ us hl => match us, hl with | [_, _], _ => rfl
theorem b_wy_do_deed (T : Tx w K mg) : Binds K (fdOf K .wy_do_deed) ["self", "row"] [] := (T.fn .wy_do_deed).bindsN fun _ _ _ _ _ _ us hl => match us, hl with | [_, _], _ => rfl
theorem b_wy_look_done (T : Tx w K mg) : Binds K (fdOf K .wy_look_done) ["self", "row"] [] := (T.fn .wy_look_done).bindsN fun _ _ _ _ _ _ us hl => match us, hl with | [_, _], _ => rfl
theorem b_wy_do (T : Tx w K mg) : Binds K (fdOf K .wy_do) ["self", "row"] [] := (T.fn .wy_do).bindsN fun _ _ _ _ _ _ us hl => match us, hl with | [_, _], _ => rfl
theorem b_look_points (T : Tx w K mg) : Binds K (fdOf K .look_points) ["many", "a", "b"] [] := (T.fn .look_points).bindsN fun _ _ _ _ _ _ us hl => match us, hl with | [_, _, _], _ => rfl
theorem b_bare_forest (T : Tx w K mg) : Binds K (fdOf K .bare_forest) ["many"] [] := (T.fn .bare_forest).bindsN fun _ _ _ _ _ _ us hl => match us, hl with | [_], _ => rfl
theorem b_li_init (T : Tx w K mg) : Binds K (fdOf K .li_init) ["self", "many"] [] := (T.fn .li_init).bindsN fun _ _ _ _ _ _ us hl => match us, hl with | [_, _], _ => rfl
theorem b_li_keep_one (T : Tx w K mg) : Binds K (fdOf K .li_keep_one) ["self", "number"] [] := (T.fn .li_keep_one).bindsN fun _ _ _ _ _ _ us hl => match us, hl with | [_, _], _ => rfl
theorem b_li_let_go (T : Tx w K mg) : Binds K (fdOf K .li_let_go) ["self", "number"] [] := (T.fn .li_let_go).bindsN fun _ _ _ _ _ _ us hl => match us, hl with | [_, _], _ => rfl
theorem b_li_offer (T : Tx w K mg) : Binds K (fdOf K .li_offer) ["self", "a", "b", "price"] [] := (T.fn .li_offer).bindsN fun _ _ _ _ _ _ us hl => match us, hl with | [_, _, _, _], _ => rfl
theorem b_li_kept (T : Tx w K mg) : Binds K (fdOf K .li_kept) ["self"] [] := (T.fn .li_kept).bindsN fun _ _ _ _ _ _ us hl => match us, hl with | [_], _ => rfl
theorem b_li_way_numbers (T : Tx w K mg) : Binds K (fdOf K .li_way_numbers) ["self", "number"] [] := (T.fn .li_way_numbers).bindsN fun _ _ _ _ _ _ us hl => match us, hl with | [_, _], _ => rfl
theorem b_li_paper (T : Tx w K mg) : Binds K (fdOf K .li_paper) ["self"] [] := (T.fn .li_paper).bindsN fun _ _ _ _ _ _ us hl => match us, hl with | [_], _ => rfl
theorem b_li_slacks (T : Tx w K mg) : Binds K (fdOf K .li_slacks) ["self"] [] := (T.fn .li_slacks).bindsN fun _ _ _ _ _ _ us hl => match us, hl with | [_], _ => rfl
theorem b_ho_init (T : Tx w K mg) : Binds K (fdOf K .ho_init) ["self", "many"] [] := (T.fn .ho_init).bindsN fun _ _ _ _ _ _ us hl => match us, hl with | [_, _], _ => rfl
theorem b_ho_offer (T : Tx w K mg) : Binds K (fdOf K .ho_offer) ["self", "a", "b"] [] := (T.fn .ho_offer).bindsN fun _ _ _ _ _ _ us hl => match us, hl with | [_, _, _], _ => rfl
theorem b_ho_holds (T : Tx w K mg) : Binds K (fdOf K .ho_holds) ["self", "number"] [] := (T.fn .ho_holds).bindsN fun _ _ _ _ _ _ us hl => match us, hl with | [_, _], _ => rfl
theorem b_ho_holding (T : Tx w K mg) : Binds K (fdOf K .ho_holding) ["self"] [] := (T.fn .ho_holding).bindsN fun _ _ _ _ _ _ us hl => match us, hl with | [_], _ => rfl
theorem b_ho_come_to (T : Tx w K mg) : Binds K (fdOf K .ho_come_to) ["self", "number"] [] := (T.fn .ho_come_to).bindsN fun _ _ _ _ _ _ us hl => match us, hl with | [_, _], _ => rfl
theorem b_ho_reason (T : Tx w K mg) : Binds K (fdOf K .ho_reason) ["self", "number"] [] := (T.fn .ho_reason).bindsN fun _ _ _ _ _ _ us hl => match us, hl with | [_, _], _ => rfl
theorem b_ho_paper (T : Tx w K mg) : Binds K (fdOf K .ho_paper) ["self"] [] := (T.fn .ho_paper).bindsN fun _ _ _ _ _ _ us hl => match us, hl with | [_], _ => rfl
theorem b_are_numbers (T : Tx w K mg) : Binds K (fdOf K .are_numbers) ["thing", "many"] [] := (T.fn .are_numbers).bindsN fun _ _ _ _ _ _ us hl => match us, hl with | [_, _], _ => rfl
theorem b_are_rising (T : Tx w K mg) : Binds K (fdOf K .are_rising) ["some"] [] := (T.fn .are_rising).bindsN fun _ _ _ _ _ _ us hl => match us, hl with | [_], _ => rfl
theorem b_leads (T : Tx w K mg) : Binds K (fdOf K .leads) ["offers", "a", "b", "numbers"] [] := (T.fn .leads).bindsN fun _ _ _ _ _ _ us hl => match us, hl with | [_, _, _, _], _ => rfl
theorem b_have_ring (T : Tx w K mg) : Binds K (fdOf K .have_ring) ["many", "offers", "numbers"] [] := (T.fn .have_ring).bindsN fun _ _ _ _ _ _ us hl => match us, hl with | [_, _, _], _ => rfl
theorem b_is_reason (T : Tx w K mg) : Binds K (fdOf K .is_reason) ["offers", "kept", "number", "row"] [] := (T.fn .is_reason).bindsN fun _ _ _ _ _ _ us hl => match us, hl with | [_, _, _, _], _ => rfl
theorem b_shows_lightest (T : Tx w K mg) : Binds K (fdOf K .shows_lightest) ["many", "offers", "thing"] [] := (T.fn .shows_lightest).bindsN fun _ _ _ _ _ _ us hl => match us, hl with | [_, _, _], _ => rfl
theorem b_is_bank (T : Tx w K mg) : Binds K (fdOf K .is_bank) ["many", "offers", "number", "points"] [] := (T.fn .is_bank).bindsN fun _ _ _ _ _ _ us hl => match us, hl with | [_, _, _, _], _ => rfl
theorem b_is_reason_for (T : Tx w K mg) : Binds K (fdOf K .is_reason_for) ["many", "offers", "number", "row"] [] := (T.fn .is_reason_for).bindsN fun _ _ _ _ _ _ us hl => match us, hl with | [_, _, _, _], _ => rfl
theorem b_shows_holding (T : Tx w K mg) : Binds K (fdOf K .shows_holding) ["many", "offers", "thing"] [] := (T.fn .shows_holding).bindsN fun _ _ _ _ _ _ us hl => match us, hl with | [_, _, _], _ => rfl
theorem b_law_mixed (T : Tx w K mg) : Binds K (fdOf K .law_mixed) ["_law_cell", "_law_k"] [] := (T.fn .law_mixed).bindsN fun _ _ _ _ _ _ us hl => match us, hl with | [_, _], _ => rfl
theorem b_law_pot (T : Tx w K mg) : Binds K (fdOf K .law_pot) ["_law_script"] [] := (T.fn .law_pot).bindsN fun _ _ _ _ _ _ us hl => match us, hl with | [_], _ => rfl
theorem b_law_take (T : Tx w K mg) : Binds K (fdOf K .law_take) ["_law_pot_here", "_law_many"] [] := (T.fn .law_take).bindsN fun _ _ _ _ _ _ us hl => match us, hl with | [_, _], _ => rfl
theorem b_law_offers (T : Tx w K mg) : Binds K (fdOf K .law_offers) ["_law_pot_here"] [] := (T.fn .law_offers).bindsN fun _ _ _ _ _ _ us hl => match us, hl with | [_], _ => rfl
theorem b_law_light (T : Tx w K mg) : Binds K (fdOf K .law_light) ["_law_many", "_law_offers_here"] [] := (T.fn .law_light).bindsN fun _ _ _ _ _ _ us hl => match us, hl with | [_, _], _ => rfl
theorem b_law_shuffled (T : Tx w K mg) : Binds K (fdOf K .law_shuffled) ["_law_pot_here", "_law_offers_here"] [] := (T.fn .law_shuffled).bindsN fun _ _ _ _ _ _ us hl => match us, hl with | [_, _], _ => rfl
theorem b_law_firsts (T : Tx w K mg) : Binds K (fdOf K .law_firsts) ["_law_many", "_law_offers_here"] [] := (T.fn .law_firsts).bindsN fun _ _ _ _ _ _ us hl => match us, hl with | [_, _], _ => rfl
theorem b_law_held (T : Tx w K mg) : Binds K (fdOf K .law_held) ["_law_many", "_law_offers_here"] [] := (T.fn .law_held).bindsN fun _ _ _ _ _ _ us hl => match us, hl with | [_, _], _ => rfl
theorem b_law_right (T : Tx w K mg) : Binds K (fdOf K .law_right) ["_law_pot_here", "_law_many", "_law_offers_here"] [] := (T.fn .law_right).bindsN fun _ _ _ _ _ _ us hl => match us, hl with | [_, _, _], _ => rfl
theorem b_law (T : Tx w K mg) : Binds K (fdOf K .law) ["_law_script"] [] := (T.fn .law).bindsN fun _ _ _ _ _ _ us hl => match us, hl with | [_], _ => rfl
theorem sc_is_number_shapes : FnScope ["thing"] ["thing"] (defScope (Dn.sm .is_number_shapes)) := ⟨rfl, rfl, rfl, by decide +kernel, rfl, by decide +kernel, by decide +kernel⟩
theorem sc_is_kind : FnScope ["thing"] ["thing"] (defScope (Dn.sm .is_kind)) := ⟨rfl, rfl, rfl, by decide +kernel, rfl, by decide +kernel, by decide +kernel⟩
theorem sc_is_number_rows : FnScope ["thing"] ["thing"] (defScope (Dn.sm .is_number_rows)) := ⟨rfl, rfl, rfl, by decide +kernel, rfl, by decide +kernel, by decide +kernel⟩
theorem sc_fits_form : FnScope ["sign", "thing"] ["sign", "thing"] (defScope (Dn.sm .fits_form)) := ⟨rfl, rfl, rfl, by decide +kernel, rfl, by decide +kernel, by decide +kernel⟩
theorem sc_is_row : FnScope ["thing", "signs", "sign", "one"] ["thing"] (defScope (Dn.sm .is_row)) := ⟨rfl, rfl, rfl, by decide +kernel, rfl, by decide +kernel, by decide +kernel⟩
theorem sc_is_deed : FnScope ["row"] ["row"] (defScope (Dn.sm .is_deed)) := ⟨rfl, rfl, rfl, by decide +kernel, rfl, by decide +kernel, by decide +kernel⟩
theorem sc_points_of : FnScope ["row", "sign", "one"] ["row"] (defScope (Dn.sm .points_of)) := ⟨rfl, rfl, rfl, by decide +kernel, rfl, by decide +kernel, by decide +kernel⟩
theorem sc_look_row : FnScope ["row", "many", "point"] ["row", "many"] (defScope (Dn.sm .look_row)) := ⟨rfl, rfl, rfl, by decide +kernel, rfl, by decide +kernel, by decide +kernel⟩
theorem sc_kind_bit : FnScope ["kind"] ["kind"] (defScope (Dn.sm .kind_bit)) := ⟨rfl, rfl, rfl, by decide +kernel, rfl, by decide +kernel, by decide +kernel⟩
theorem sc_st_init : FnScope ["self"] ["self"] (defScope (Dn.sm .st_init)) := ⟨rfl, rfl, rfl, by decide +kernel, rfl, by decide +kernel, by decide +kernel⟩
theorem sc_st_put_point : FnScope ["self", "worth", "kind", "bit", "row", "thing"] ["self", "worth", "kind"] (defScope (Dn.sm .st_put_point)) := ⟨rfl, rfl, rfl, by decide +kernel, rfl, by decide +kernel, by decide +kernel⟩
theorem sc_st_is_top : FnScope ["self", "x", "u"] ["self", "x"] (defScope (Dn.sm .st_is_top)) := ⟨rfl, rfl, rfl, by decide +kernel, rfl, by decide +kernel, by decide +kernel⟩
theorem sc_st_flip : FnScope ["self", "x"] ["self", "x"] (defScope (Dn.sm .st_flip)) := ⟨rfl, rfl, rfl, by decide +kernel, rfl, by decide +kernel, by decide +kernel⟩
theorem sc_st_more_by : FnScope ["self", "x", "more"] ["self", "x", "more"] (defScope (Dn.sm .st_more_by)) := ⟨rfl, rfl, rfl, by decide +kernel, rfl, by decide +kernel, by decide +kernel⟩
theorem sc_st_hand_down : FnScope ["self", "x"] ["self", "x"] (defScope (Dn.sm .st_hand_down)) := ⟨rfl, rfl, rfl, by decide +kernel, rfl, by decide +kernel, by decide +kernel⟩
theorem sc_st_gather : FnScope ["self", "x", "below", "one", "many", "total"] ["self", "x"] (defScope (Dn.sm .st_gather)) := ⟨rfl, rfl, rfl, by decide +kernel, rfl, by decide +kernel, by decide +kernel⟩
theorem sc_st_put_below : FnScope ["self", "u", "old", "new"] ["self", "u", "old", "new"] (defScope (Dn.sm .st_put_below)) := ⟨rfl, rfl, rfl, by decide +kernel, rfl, by decide +kernel, by decide +kernel⟩
theorem sc_st_turn : FnScope ["self", "x", "u", "g", "inner"] ["self", "x"] (defScope (Dn.sm .st_turn)) := ⟨rfl, rfl, rfl, by decide +kernel, rfl, by decide +kernel, by decide +kernel⟩
theorem sc_st_unfold : FnScope ["self", "x", "row", "one"] ["self", "x"] (defScope (Dn.sm .st_unfold)) := ⟨rfl, rfl, rfl, by decide +kernel, rfl, by decide +kernel, by decide +kernel⟩
theorem sc_st_lift : FnScope ["self", "x", "u", "g", "alike"] ["self", "x"] (defScope (Dn.sm .st_lift)) := ⟨rfl, rfl, rfl, by decide +kernel, rfl, by decide +kernel, by decide +kernel⟩
theorem sc_st_hang : FnScope ["self", "u", "x", "sign", "many", "total"] ["self", "u", "x", "sign"] (defScope (Dn.sm .st_hang)) := ⟨rfl, rfl, rfl, by decide +kernel, rfl, by decide +kernel, by decide +kernel⟩
theorem sc_st_let_go : FnScope ["self", "x"] ["self", "x"] (defScope (Dn.sm .st_let_go)) := ⟨rfl, rfl, rfl, by decide +kernel, rfl, by decide +kernel, by decide +kernel⟩
theorem sc_st_take_in : FnScope ["self", "u", "x"] ["self", "u", "x"] (defScope (Dn.sm .st_take_in)) := ⟨rfl, rfl, rfl, by decide +kernel, rfl, by decide +kernel, by decide +kernel⟩
theorem sc_st_lead : FnScope ["self", "p", "last", "u"] ["self", "p"] (defScope (Dn.sm .st_lead)) := ⟨rfl, rfl, rfl, by decide +kernel, rfl, by decide +kernel, by decide +kernel⟩
theorem sc_wy_init : FnScope ["self", "forest", "worth", "kind", "a", "b"] ["self", "forest"] (defScope (Dn.sm .wy_init)) := ⟨rfl, rfl, rfl, by decide +kernel, rfl, by decide +kernel, by decide +kernel⟩
theorem sc_wy_points : FnScope ["self"] ["self"] (defScope (Dn.sm .wy_points)) := ⟨rfl, rfl, rfl, by decide +kernel, rfl, by decide +kernel, by decide +kernel⟩
theorem sc_wy_turn_about : FnScope ["self", "p"] ["self", "p"] (defScope (Dn.sm .wy_turn_about)) := ⟨rfl, rfl, rfl, by decide +kernel, rfl, by decide +kernel, by decide +kernel⟩
theorem sc_wy_are_joined : FnScope ["self", "a", "b"] ["self", "a", "b"] (defScope (Dn.sm .wy_are_joined)) := ⟨rfl, rfl, rfl, by decide +kernel, rfl, by decide +kernel, by decide +kernel⟩
theorem sc_wy_open_way : FnScope ["self", "a", "b"] ["self", "a", "b"] (defScope (Dn.sm .wy_open_way)) := ⟨rfl, rfl, rfl, by decide +kernel, rfl, by decide +kernel, by decide +kernel⟩
theorem sc_wy_tie : FnScope ["self", "a", "b"] ["self", "a", "b"] (defScope (Dn.sm .wy_tie)) := ⟨rfl, rfl, rfl, by decide +kernel, rfl, by decide +kernel, by decide +kernel⟩
theorem sc_wy_open_tie : FnScope ["self", "a", "b"] ["self", "a", "b"] (defScope (Dn.sm .wy_open_tie)) := ⟨rfl, rfl, rfl, by decide +kernel, rfl, by decide +kernel, by decide +kernel⟩
theorem sc_wy_cut : FnScope ["self", "a", "b"] ["self", "a", "b"] (defScope (Dn.sm .wy_cut)) := ⟨rfl, rfl, rfl, by decide +kernel, rfl, by decide +kernel, by decide +kernel⟩
theorem sc_wy_add : FnScope ["self", "a", "b", "more"] ["self", "a", "b", "more"] (defScope (Dn.sm .wy_add)) := ⟨rfl, rfl, rfl, by decide +kernel, rfl, by decide +kernel, by decide +kernel⟩
theorem sc_wy_inorder : FnScope ["self", "top", "strands", "found", "waiting", "x", "told"] ["self", "top"] (defScope (Dn.sm .wy_inorder)) := ⟨rfl, rfl, rfl, by decide +kernel, rfl, by decide +kernel, by decide +kernel⟩
theorem sc_wy_is_below : FnScope ["self", "x", "word", "number"] ["self", "x", "word", "number"] (defScope (Dn.sm .wy_is_below)) := ⟨rfl, rfl, rfl, by decide +kernel, rfl, by decide +kernel, by decide +kernel⟩
theorem sc_wy_is_wanted : FnScope ["self", "x", "word", "number"] ["self", "x", "word", "number"] (defScope (Dn.sm .wy_is_wanted)) := ⟨rfl, rfl, rfl, by decide +kernel, rfl, by decide +kernel, by decide +kernel⟩
theorem sc_wy_first_by : FnScope ["self", "top", "word", "number", "x"] ["self", "top", "word", "number"] (defScope (Dn.sm .wy_first_by)) := ⟨rfl, rfl, rfl, by decide +kernel, rfl, by decide +kernel, by decide +kernel⟩
theorem sc_wy_of_way : FnScope ["self", "row", "word", "a", "b", "strands", "worth"] ["self", "row"] (defScope (Dn.sm .wy_of_way)) := ⟨rfl, rfl, rfl, by decide +kernel, rfl, by decide +kernel, by decide +kernel⟩
theorem sc_wy_do_deed : FnScope ["self", "row"] ["self", "row"] (defScope (Dn.sm .wy_do_deed)) := ⟨rfl, rfl, rfl, by decide +kernel, rfl, by decide +kernel, by decide +kernel⟩
theorem sc_wy_look_done : FnScope ["self", "row"] ["self", "row"] (defScope (Dn.sm .wy_look_done)) := ⟨rfl, rfl, rfl, by decide +kernel, rfl, by decide +kernel, by decide +kernel⟩
theorem sc_wy_do : FnScope ["self", "row"] ["self", "row"] (defScope (Dn.sm .wy_do)) := ⟨rfl, rfl, rfl, by decide +kernel, rfl, by decide +kernel, by decide +kernel⟩
theorem sc_look_points : FnScope ["many", "a", "b"] ["many", "a", "b"] (defScope (Dn.sm .look_points)) := ⟨rfl, rfl, rfl, by decide +kernel, rfl, by decide +kernel, by decide +kernel⟩
theorem sc_bare_forest : FnScope ["many"] ["many"] (defScope (Dn.sm .bare_forest)) := ⟨rfl, rfl, rfl, by decide +kernel, rfl, by decide +kernel, by decide +kernel⟩
theorem sc_li_init : FnScope ["self", "many"] ["self", "many"] (defScope (Dn.sm .li_init)) := ⟨rfl, rfl, rfl, by decide +kernel, rfl, by decide +kernel, by decide +kernel⟩
theorem sc_li_keep_one : FnScope ["self", "number", "a", "b", "price", "spot"] ["self", "number"] (defScope (Dn.sm .li_keep_one)) := ⟨rfl, rfl, rfl, by decide +kernel, rfl, by decide +kernel, by decide +kernel⟩
theorem sc_li_let_go : FnScope ["self", "number", "a", "b", "price", "spot"] ["self", "number"] (defScope (Dn.sm .li_let_go)) := ⟨rfl, rfl, rfl, by decide +kernel, rfl, by decide +kernel, by decide +kernel⟩
theorem sc_li_offer : FnScope ["self", "a", "b", "price", "number", "gone", "worth", "spot"] ["self", "a", "b", "price"] (defScope (Dn.sm .li_offer)) := ⟨rfl, rfl, rfl, by decide +kernel, rfl, by decide +kernel, by decide +kernel⟩
theorem sc_li_kept : FnScope ["self"] ["self"] (defScope (Dn.sm .li_kept)) := ⟨rfl, rfl, rfl, by decide +kernel, rfl, by decide +kernel, by decide +kernel⟩
theorem sc_li_way_numbers : FnScope ["self", "number", "a", "b", "price", "point"] ["self", "number"] (defScope (Dn.sm .li_way_numbers)) := ⟨rfl, rfl, rfl, by decide +kernel, rfl, by decide +kernel, by decide +kernel⟩
theorem sc_li_paper : FnScope ["self", "numbers", "number"] ["self"] (defScope (Dn.sm .li_paper)) := ⟨rfl, rfl, rfl, by decide +kernel, rfl, by decide +kernel, by decide +kernel⟩
theorem sc_li_slacks : FnScope ["self", "found", "number", "way", "price", "other"] ["self"] (defScope (Dn.sm .li_slacks)) := ⟨rfl, rfl, rfl, by decide +kernel, rfl, by decide +kernel, by decide +kernel⟩
theorem sc_ho_init : FnScope ["self", "many"] ["self", "many"] (defScope (Dn.sm .ho_init)) := ⟨rfl, rfl, rfl, by decide +kernel, rfl, by decide +kernel, by decide +kernel⟩
theorem sc_ho_offer : FnScope ["self", "a", "b", "spot"] ["self", "a", "b"] (defScope (Dn.sm .ho_offer)) := ⟨rfl, rfl, rfl, by decide +kernel, rfl, by decide +kernel, by decide +kernel⟩
theorem sc_ho_holds : FnScope ["self", "number", "spot"] ["self", "number"] (defScope (Dn.sm .ho_holds)) := ⟨rfl, rfl, rfl, by decide +kernel, rfl, by decide +kernel, by decide +kernel⟩
theorem sc_ho_holding : FnScope ["self", "number"] ["self"] (defScope (Dn.sm .ho_holding)) := ⟨rfl, rfl, rfl, by decide +kernel, rfl, by decide +kernel, by decide +kernel⟩
theorem sc_ho_come_to : FnScope ["self", "number", "first", "found", "waiting", "at", "here", "other", "pair", "there"] ["self", "number"] (defScope (Dn.sm .ho_come_to)) := ⟨rfl, rfl, rfl, by decide +kernel, rfl, by decide +kernel, by decide +kernel⟩
theorem sc_ho_reason : FnScope ["self", "number", "found", "here", "row", "other"] ["self", "number"] (defScope (Dn.sm .ho_reason)) := ⟨rfl, rfl, rfl, by decide +kernel, rfl, by decide +kernel, by decide +kernel⟩
theorem sc_ho_paper : FnScope ["self", "number"] ["self"] (defScope (Dn.sm .ho_paper)) := ⟨rfl, rfl, rfl, by decide +kernel, rfl, by decide +kernel, by decide +kernel⟩
theorem sc_are_numbers : FnScope ["thing", "many", "one"] ["thing", "many"] (defScope (Dn.sm .are_numbers)) := ⟨rfl, rfl, rfl, by decide +kernel, rfl, by decide +kernel, by decide +kernel⟩
theorem sc_are_rising : FnScope ["some", "one", "other"] ["some"] (defScope (Dn.sm .are_rising)) := ⟨rfl, rfl, rfl, by decide +kernel, rfl, by decide +kernel, by decide +kernel⟩
theorem sc_leads : FnScope ["offers", "a", "b", "numbers", "here", "number", "one", "other"] ["offers", "a", "b", "numbers"] (defScope (Dn.sm .leads)) := ⟨rfl, rfl, rfl, by decide +kernel, rfl, by decide +kernel, by decide +kernel⟩
theorem sc_have_ring : FnScope ["many", "offers", "numbers", "above", "number", "ends", "here"] ["many", "offers", "numbers"] (defScope (Dn.sm .have_ring)) := ⟨rfl, rfl, rfl, by decide +kernel, rfl, by decide +kernel, by decide +kernel⟩
theorem sc_is_reason : FnScope ["offers", "kept", "number", "row", "one", "a", "b", "price"] ["offers", "kept", "number", "row"] (defScope (Dn.sm .is_reason)) := ⟨rfl, rfl, rfl, by decide +kernel, rfl, by decide +kernel, by decide +kernel⟩
theorem sc_shows_lightest : FnScope ["many", "offers", "thing", "kept", "paper", "others", "number", "row"] ["many", "offers", "thing"] (defScope (Dn.sm .shows_lightest)) := ⟨rfl, rfl, rfl, by decide +kernel, rfl, by decide +kernel, by decide +kernel⟩
theorem sc_is_bank : FnScope ["many", "offers", "number", "points", "a", "b", "others", "other", "pair", "one"] ["many", "offers", "number", "points"] (defScope (Dn.sm .is_bank)) := ⟨rfl, rfl, rfl, by decide +kernel, rfl, by decide +kernel, by decide +kernel⟩
theorem sc_is_reason_for : FnScope ["many", "offers", "number", "row", "a", "b"] ["many", "offers", "number", "row"] (defScope (Dn.sm .is_reason_for)) := ⟨rfl, rfl, rfl, by decide +kernel, rfl, by decide +kernel, by decide +kernel⟩
theorem sc_shows_holding : FnScope ["many", "offers", "thing", "number", "row"] ["many", "offers", "thing"] (defScope (Dn.sm .shows_holding)) := ⟨rfl, rfl, rfl, by decide +kernel, rfl, by decide +kernel, by decide +kernel⟩
theorem sc_law_mixed : FnScope ["_law_cell", "_law_k", "_law_number", "_law_other"] ["_law_cell", "_law_k"] (defScope (Dn.sm .law_mixed)) := ⟨rfl, rfl, rfl, by decide +kernel, rfl, by decide +kernel, by decide +kernel⟩
theorem sc_law_pot : FnScope ["_law_script", "_law_total", "_law_k", "_law_cell"] ["_law_script"] (defScope (Dn.sm .law_pot)) := ⟨rfl, rfl, rfl, by decide +kernel, rfl, by decide +kernel, by decide +kernel⟩
theorem sc_law_take : FnScope ["_law_pot_here", "_law_many", "_law_digit"] ["_law_pot_here", "_law_many"] (defScope (Dn.sm .law_take)) := ⟨rfl, rfl, rfl, by decide +kernel, rfl, by decide +kernel, by decide +kernel⟩
theorem sc_law_offers : FnScope ["_law_pot_here", "_law_many", "_law_size", "_law_far", "_law_offers_here", "_law_k", "_law_a", "_law_b"] ["_law_pot_here"] (defScope (Dn.sm .law_offers)) := ⟨rfl, rfl, rfl, by decide +kernel, rfl, by decide +kernel, by decide +kernel⟩
theorem sc_law_light : FnScope ["_law_many", "_law_offers_here", "_law_light_here", "_law_a", "_law_b", "_law_price"] ["_law_many", "_law_offers_here"] (defScope (Dn.sm .law_light)) := ⟨rfl, rfl, rfl, by decide +kernel, rfl, by decide +kernel, by decide +kernel⟩
theorem sc_law_shuffled : FnScope ["_law_pot_here", "_law_offers_here", "_law_found", "_law_offer"] ["_law_pot_here", "_law_offers_here"] (defScope (Dn.sm .law_shuffled)) := ⟨rfl, rfl, rfl, by decide +kernel, rfl, by decide +kernel, by decide +kernel⟩
theorem sc_law_firsts : FnScope ["_law_many", "_law_offers_here", "_law_parts", "_law_found", "_law_number", "_law_a", "_law_b", "_law_price", "_law_one", "_law_other", "_law_part"] ["_law_many", "_law_offers_here"] (defScope (Dn.sm .law_firsts)) := ⟨rfl, rfl, rfl, by decide +kernel, rfl, by decide +kernel, by decide +kernel⟩
theorem sc_law_held : FnScope ["_law_many", "_law_offers_here", "_law_held_here", "_law_a", "_law_b", "_law_price"] ["_law_many", "_law_offers_here"] (defScope (Dn.sm .law_held)) := ⟨rfl, rfl, rfl, by decide +kernel, rfl, by decide +kernel, by decide +kernel⟩
theorem sc_law_right : FnScope ["_law_pot_here", "_law_many", "_law_offers_here", "_law_light_here", "_law_held_here", "_law_slacks", "_law_due", "_law_number", "_law_pair", "_law_offer", "_law_other", "_law_kept", "_law_alike", "_law_a", "_law_b", "_law_price"] ["_law_pot_here", "_law_many", "_law_offers_here"] (defScope (Dn.sm .law_right)) := ⟨rfl, rfl, rfl, by decide +kernel, rfl, by decide +kernel, by decide +kernel⟩
theorem sc_law : FnScope ["_law_script", "_law_pot_here", "_law_turn", "_law_many", "_law_offers_here"] ["_law_script"] (defScope (Dn.sm .law)) := ⟨rfl, rfl, rfl, by decide +kernel, rfl, by decide +kernel, by decide +kernel⟩
end
end TC
namespace TC
open PySem L2 Evl
theorem lookup_zip : ∀ {ns : List Str} {vs : List V} {i : Nat} {f : Str} {v : V}, ns.Nodup → ns[i]? = some f → vs[i]? = some v → (ns.zip vs).lookup f = some v
  | [], _, _, _, _, _, h, _ => by simp at h
  | _ :: _, [], _, _, _, _, _, h => by simp at h
  | a :: ns, b :: vs, 0, f, v, _, h1, h2 => by
    simp at h1 h2; subst h1; subst h2
    show List.lookup a ((a, b) :: ns.zip vs) = _
    simp [List.lookup]
  | a :: ns, b :: vs, i + 1, f, v, hN, h1, h2 => by
    have hN' := List.nodup_cons.mp hN
    have h1' : ns[i]? = some f := by simpa using h1
    have hne : f ≠ a := fun e => hN'.1 (e ▸ List.mem_of_getElem? h1')
    have hb : (f == a) = false := beq_eq_false_iff_ne.mpr hne
    show List.lookup f ((a, b) :: ns.zip vs) = _
    simp only [List.lookup, hb]
    exact lookup_zip hN'.2 h1' (by simpa using h2)
theorem lookup_zip_none : ∀ {ns : List Str} {vs : List V} {f : Str}, f ∉ ns → (ns.zip vs).lookup f = none
  | [], _, _, _ => by simp
  | _ :: _, [], _, _ => by simp
  | a :: ns, b :: vs, f, h => by
    have hne : f ≠ a := fun e => h (by simp [e])
    have hb : (f == a) = false := beq_eq_false_iff_ne.mpr hne
    show List.lookup f ((a, b) :: ns.zip vs) = _
    simp only [List.lookup, hb]
    exact lookup_zip_none fun q => h (List.mem_cons_of_mem _ q)
theorem putF_new : ∀ {fs : List (Str × V)} {f : Str} (v : V), f ∉ fs.map (·.1) → putF f v fs = fs ++ [(f, v)]
  | [], _, _, _ => rfl
  | (g, x) :: r, f, v, h => by
    have hne : g ≠ f := fun e => h (by simp [e])
    show (if g = f then (g, v) :: r else (g, x) :: putF f v r) = _
    rw [if_neg hne, putF_new v fun q => h (List.mem_cons_of_mem _ q)]; rfl
inductive Fd where
  | left | right | above | flipped | later | worth | bits | many | total | most | all_bits | hung | all_many | all_total | steps
  deriving DecidableEq
@[reducible] def Fd.nm : Fd → Str
  | .left => "left" | .right => "right" | .above => "above" | .flipped => "flipped" | .later => "later" | .worth => "worth" | .bits => "bits" | .many => "many" | .total => "total" | .most => "most"
  | .all_bits => "all_bits" | .hung => "hung" | .all_many => "all_many" | .all_total => "all_total" | .steps => "steps"
@[reducible] def Fd.ix : Fd → Nat
  | .left => 0 | .right => 1 | .above => 2 | .flipped => 3 | .later => 4 | .worth => 5 | .bits => 6 | .many => 7 | .total => 8 | .most => 9
  | .all_bits => 10 | .hung => 11 | .all_many => 12 | .all_total => 13 | .steps => 14
def Fd.all : List Fd := [.left, .right, .above, .flipped, .later, .worth, .bits, .many, .total, .most, .all_bits, .hung, .all_many, .all_total, .steps]
theorem Fd.all_ix (f : Fd) : Fd.all[f.ix]? = some f := by cases f <;> rfl
theorem Fd.nm_ix (f : Fd) : (Cn.fields .st)[f.ix]? = some f.nm := by cases f <;> rfl
theorem st_nd : (Cn.fields .st).Nodup := by decide +kernel
def stF (A : Fd → Addr) : List (Str × V) := (Cn.fields .st).zip (Fd.all.map fun f => V.ref (A f))
theorem stF_at (A : Fd → Addr) (f : Fd) : (stF A).lookup f.nm = some (.ref (A f)) := lookup_zip (i := f.ix) st_nd f.nm_ix (by rw [List.getElem?_map, f.all_ix]; rfl)
theorem stF_no (A : Fd → Addr) {m : Str} (h : m ∉ Cn.fields .st) : (stF A).lookup m = none := lookup_zip_none h
def oV : Option Nat → V
  | none => .non
  | some n => .int n
def enc (n : Nat) (g : Nat → V) : List V := (List.range n).map g
theorem enc_len (n : Nat) (g : Nat → V) : (enc n g).length = n := by simp [enc]
theorem enc_at {n : Nat} {g : Nat → V} {i : Nat} (h : i < n) : (enc n g)[i]? = some (g i) := by simp [enc, h]
theorem enc_set {n : Nat} {g : Nat → V} {i : Nat} (v : V) : (enc n g).set i v = enc n (LC.up g i v) := by
  apply List.ext_getElem?
  intro j
  rw [List.getElem?_set]
  by_cases hj : j < n
  · by_cases e : i = j
    · subst e; simp [enc, hj, LC.up]
    · rw [if_neg e, enc_at hj, enc_at hj, LC.up_ne _ _ (Ne.symm e)]
  · have h1 : ∀ g, (enc n g)[j]? = none := fun g => by simp [enc]; omega
    rw [h1, h1, enc_len]
    split
    · rw [if_neg]; omega
    · rfl
theorem enc_app {n : Nat} {g : Nat → V} (v : V) : enc n g ++ [v] = enc (n + 1) (LC.up g n v) := by
  unfold enc
  rw [List.range_succ, List.map_append]
  congr 1
  · refine List.map_congr_left fun i hi => ?_
    rw [LC.up_ne]; have := List.mem_range.mp hi; omega
  · simp [LC.up]
theorem enc_congr {n : Nat} {g h : Nat → V} (e : ∀ i, i < n → g i = h i) : enc n g = enc n h := List.map_congr_left fun i hi => e i (List.mem_range.mp hi)
def fv (S : LC.S) : Fd → Nat → V
  | .left, i => oV (S.ch false i)
  | .right, i => oV (S.ch true i)
  | .above, i => oV (S.ab i)
  | .flipped, i => .bl (S.fl i)
  | .later, i => .int (S.lt i)
  | .worth, i => .int (S.wo i)
  | .many, i => .int (S.mn i)
  | .total, i => .int (S.to i)
  | .most, i => .int (S.mo i)
  | _, _ => .non
@[reducible] def Fd.typed : Fd → Bool
  | .bits | .all_bits | .hung | .all_many | .all_total | .steps => false
  | _ => true
@[reducible] def Fd.loose : Fd → Bool
  | .bits | .all_bits | .all_many | .all_total => true
  | _ => false
def PairI (H : Hp) (x : V) : Prop := ∃ t a b, x = .ref t ∧ H t = some (.tup [.int a, .int b])
def FieldOk (S : LC.S) (H : Hp) (f : Fd) (o : HO) : Prop :=
  if f.typed = true then o = .lst (enc S.n (fv S f)) else if f.loose = true then ∃ zs : List Int, zs.length = S.n ∧ o = .lst (zs.map V.int)
  else if f = .hung then ∃ hs, o = .lst hs ∧ hs.length = S.n ∧ ∀ x ∈ hs, PairI H x else ∃ ss, o = .lst ss ∧ ss.length = S.cnt
structure Wf (S : LC.S) : Prop where
  ch : ∀ c x y, S.ch c x = some y → y < S.n
  ab : ∀ x y, S.ab x = some y → y < S.n
structure StrAt (K : PySem.W.Frag) (H : Hp) (s : Addr) (A : Fd → Addr) (S : LC.S) : Prop where
  ob : ∃ dx, H s = some (.ins (Cad K .st) dx (stF A))
  inj : ∀ f g, A f = A g → f = g
  fld : ∀ f, ∃ o, H (A f) = some o ∧ FieldOk S H f o
  wf : Wf S
def Keep (A : Fd → Addr) (H H' : Hp) : Prop := ∀ q o, H q = some o → (∀ f, q ≠ A f) → H' q = some o
theorem Keep.refl (A : Fd → Addr) (H : Hp) : Keep A H H := fun _ _ h _ => h
theorem Keep.trans {A : Fd → Addr} {H H1 H2 : Hp} (a : Keep A H H1) (b : Keep A H1 H2) : Keep A H H2 := fun q o h n => b q o (a q o h n) n
theorem Keep.ex {A : Fd → Addr} {H H1 H2 : Hp} (a : Keep A H H1) (b : Ex H1 H2) : Keep A H H2 := fun q o h n => b q o (a q o h n)
theorem Ex.keep {A : Fd → Addr} {H H1 : Hp} (b : Ex H H1) : Keep A H H1 := fun q o h _ => b q o h
section
variable {w : World} {K : PySem.W.Frag} {mg : Str → Option Value} {H H' : Hp} {s : Addr} {A : Fd → Addr} {S S' : LC.S}
theorem PairI.ex {x : V} (h : PairI H x) (e : ∀ t xs, H t = some (.tup xs) → H' t = some (.tup xs)) : PairI H' x := by
  obtain ⟨t, a, b, rfl, h⟩ := h
  exact ⟨t, a, b, rfl, e _ _ h⟩
theorem FieldOk.ex {f : Fd} {o : HO} (h : FieldOk S H f o) (e : ∀ t xs, H t = some (.tup xs) → H' t = some (.tup xs)) : FieldOk S H' f o := by
  unfold FieldOk at h ⊢
  split at h
  · rename_i q; rw [if_pos q]; exact h
  · rename_i q; rw [if_neg q]
    split at h
    · rename_i q; rw [if_pos q]; exact h
    · rename_i q; rw [if_neg q]
      split at h
      · rename_i q; rw [if_pos q]
        obtain ⟨hs, h1, h2, h3⟩ := h
        exact ⟨hs, h1, h2, fun x hx => (h3 x hx).ex e⟩
      · rename_i q; rw [if_neg q]; exact h
theorem StrAt.ex (h : StrAt K H s A S) (e : Ex H H') : StrAt K H' s A S := by
  obtain ⟨⟨dx, h1⟩, h2, h3, h4⟩ := h
  refine ⟨⟨dx, e _ _ h1⟩, h2, fun f => ?_, h4⟩
  obtain ⟨o, a, b⟩ := h3 f
  exact ⟨o, e _ _ a, b.ex fun t xs q => e _ _ q⟩
theorem FieldOk.lst {f : Fd} {o : HO} (h : FieldOk S H f o) : ∃ xs, o = .lst xs ∧ (f ≠ .steps → xs.length = S.n) ∧ (f = .steps → xs.length = S.cnt) := by
  unfold FieldOk at h
  split at h
  · rename_i q
    exact ⟨_, h, fun _ => enc_len _ _, fun e => by subst e; cases q⟩
  · split at h
    · rename_i q
      obtain ⟨zs, h1, h2⟩ := h
      exact ⟨_, h2, fun _ => by rw [List.length_map]; exact h1, fun e => by subst e; cases q⟩
    · split at h
      · rename_i q
        obtain ⟨hs, h1, h2, h3⟩ := h
        exact ⟨_, h1, fun _ => h2, fun e => by subst e; cases q⟩
      · rename_i q1 q2 q3
        obtain ⟨ss, h1, h2⟩ := h
        refine ⟨_, h1, fun e => ?_, fun _ => h2⟩
        cases f <;> first | exact absurd rfl q1 | exact absurd rfl q2 | exact absurd rfl q3 | exact absurd rfl e
theorem StrAt.lst (h : StrAt K H s A S) (f : Fd) : ∃ xs, H (A f) = some (.lst xs) ∧ FieldOk S H f (.lst xs) ∧ (f ≠ .steps → xs.length = S.n) ∧ (f = .steps → xs.length = S.cnt) := by
  obtain ⟨o, a, b⟩ := h.fld f
  obtain ⟨xs, rfl, l1, l2⟩ := b.lst
  exact ⟨xs, a, b, l1, l2⟩
theorem StrAt.typed (h : StrAt K H s A S) (f : Fd) (ht : f.typed = true) : H (A f) = some (.lst (enc S.n (fv S f))) := by
  obtain ⟨o, a, b⟩ := h.fld f
  unfold FieldOk at b
  rw [if_pos ht] at b
  rw [a, b]
theorem StrAt.ne_s (h : StrAt K H s A S) (f : Fd) : s ≠ A f := by
  obtain ⟨⟨dx, h1⟩, _⟩ := id h
  obtain ⟨xs, a, _⟩ := h.lst f
  exact ne_of h1 a (by intro z; cases z)
theorem StrAt.put (h : StrAt K H s A S) (f : Fd) (xs : List V) (hf : FieldOk S' H f (.lst xs)) (hg : ∀ g, g ≠ f → ∀ o, FieldOk S H g o → FieldOk S' H g o) (wf : Wf S') : StrAt K (upd H (A f) (.lst xs)) s A S' ∧ Keep A H (upd H (A f) (.lst xs)) := by
  obtain ⟨ys, hy, _⟩ := h.lst f
  have tups : ∀ t zs, H t = some (.tup zs) → upd H (A f) (.lst xs) t = some (.tup zs) := fun t zs q => by
    rw [upd_ne (ne_of q hy (by intro z; cases z))]; exact q
  refine ⟨⟨?_, h.inj, fun g => ?_, wf⟩, fun q o hq n => by rw [upd_ne (n f)]; exact hq⟩
  · obtain ⟨dx, h1⟩ := h.ob
    exact ⟨dx, by rw [upd_ne (h.ne_s f)]; exact h1⟩
  · by_cases e : g = f
    · subst e; exact ⟨_, upd_same, hf.ex tups⟩
    · obtain ⟨o, a, b⟩ := h.fld g
      exact ⟨o, by rw [upd_ne (fun q => e (h.inj _ _ q))]; exact a, (hg g e o b).ex tups⟩
variable {σ : L2.St} {tb tx te : TE} {D : Ends}
def Else (S S' : LC.S) (f : Fd) : Prop := S'.n = S.n ∧ (f ≠ .steps → S'.cnt = S.cnt) ∧ ∀ g, g ≠ f → ∀ i, i < S.n → fv S' g i = fv S g i
theorem Else.ok {f : Fd} (e : Else S S' f) : ∀ g, g ≠ f → ∀ o, FieldOk S H g o → FieldOk S' H g o := by
  obtain ⟨e1, e2, e3⟩ := e
  intro g hg o h
  unfold FieldOk at h ⊢
  split at h
  · rename_i q; rw [if_pos q, h, e1, enc_congr (e3 g hg)]
  · rename_i q; rw [if_neg q]
    split at h
    · rename_i q; rw [if_pos q, e1]; exact h
    · rename_i q; rw [if_neg q]
      split at h
      · rename_i q4; rw [if_pos q4, e1]; exact h
      · rename_i q3; rw [if_neg q3]
        have : g = .steps := by cases g <;> simp_all [Fd.typed, Fd.loose]
        subst this
        rw [e2 (fun z => hg z.symm)]; exact h
theorem StrAt.set (h : StrAt K H s A S) (f : Fd) (ht : f.typed = true) {x : Nat} (v : V) (hx : x < S.n) (hv : ∀ i, i < S.n → fv S' f i = LC.up (fv S f) x v i) (e : Else S S' f) (wf : Wf S') :
    StrAt K (upd H (A f) (.lst ((enc S.n (fv S f)).set x v))) s A S' ∧ Keep A H (upd H (A f) (.lst ((enc S.n (fv S f)).set x v))) := by
  refine h.put f _ ?_ e.ok wf
  unfold FieldOk
  rw [if_pos ht, enc_set, e.1, enc_congr hv]
theorem StrAt.setl (h : StrAt K H s A S) (f : Fd) (ht : f.loose = true) {x : Nat} (z : Int) {xs : List V} (hf : FieldOk S H f (.lst xs)) :
    StrAt K (upd H (A f) (.lst (xs.set x (.int z)))) s A S ∧ Keep A H (upd H (A f) (.lst (xs.set x (.int z)))) := by
  refine h.put f _ ?_ (fun g _ o q => q) h.wf
  have hnt : ¬ f.typed = true := by cases f <;> first | exact absurd ht (by decide) | decide
  unfold FieldOk at hf ⊢
  rw [if_neg hnt, if_pos ht] at hf ⊢
  obtain ⟨zs, l1, e⟩ := hf
  cases e
  exact ⟨zs.set x z, by rw [List.length_set]; exact l1, by rw [List.map_set]⟩
theorem StrAt.seth (h : StrAt K H s A S) {x : Nat} {v : V} (hp : PairI H v) {xs : List V} (hf : FieldOk S H .hung (.lst xs)) :
    StrAt K (upd H (A .hung) (.lst (xs.set x v))) s A S ∧ Keep A H (upd H (A .hung) (.lst (xs.set x v))) := by
  refine h.put .hung _ ?_ (fun g _ o q => q) h.wf
  unfold FieldOk at hf ⊢
  rw [if_neg (by decide), if_neg (by decide), if_pos rfl] at hf ⊢
  obtain ⟨hs, e, l1, h2⟩ := hf
  cases e
  refine ⟨_, rfl, by rw [List.length_set]; exact l1, fun y hy => ?_⟩
  rcases List.mem_or_eq_of_mem_set hy with q | q
  · exact h2 y q
  · exact q ▸ hp
theorem ixN_nat {n i : Nat} (h : i < n) : ixN n (i : Int) = some i := by
  unfold ixN; rw [if_pos (Int.natCast_nonneg i), if_pos (by omega)]; rfl
def spSt (K : PySem.W.Frag) (F : List V → LC.S → (V → LC.S → Prop) → Prop) : Sp := fun vs H Q _ => ∃ s A S as, vs = .ref s :: as ∧ StrAt K H s A S ∧ F as S (fun v S' => ∀ H', StrAt K H' s A S' → Keep A H H' → Q v H')
end
end TC
namespace TC
open PySem PySem.Spec PyProof.Rows L2
abbrev Ex := Evl.Ex
theorem Ex.refl (H : Hp) : Ex H H := Evl.Ex.refl H
theorem Ex.trans {H H1 H2 : Hp} (a : Ex H H1) (b : Ex H1 H2) : Ex H H2 := Evl.Ex.trans a b
theorem Ex.new {H : Hp} {p : Addr} {o : HO} (h : H p = none) : Ex H (upd H p o) := Evl.Ex.new h
def ValE (te : TE) (σ : L2.St) (H : Hp) (v : V) : Prop := ∀ Q : VK, (∀ H', Ex H H' → Q v H') → te σ H Q
def AnsE (t : TT) (σ : L2.St) (H : Hp) (b : Bool) : Prop := ∀ Q : Bool → Hp → Prop, (∀ H', Ex H H' → Q b H') → t σ H Q
def Args (ta : TA) (σ : L2.St) (H : Hp) (vs : List V) : Prop := ∀ Q : List V → Hp → Prop, Q vs H → ta σ H Q
section
variable {X : Cx} {w : World} {K : PySem.W.Frag} {mg : Str → Option Value} {H H' : Hp} {s : Addr} {A : Fd → Addr} {S S' : LC.S} {σ : L2.St} {ta tb tx te : TE} {D : Ends} {v x y z : V} {t u : TT} {t1 t2 tz : TS}
theorem pget_list : PGet X (rIxL X.K) := by
  intro pins s σ H x y v u Q I rx ry h
  obtain ⟨p, xs, i, z, rfl, rfl, hq, he, q⟩ := h
  cases rx
  obtain ⟨t, rfl⟩ := ry
  obtain ⟨its, r, pl, hz⟩ := I.list hq
  obtain ⟨j, h1, h2, h3, h4, h5⟩ := atI_get he
  obtain ⟨w, ew, rw'⟩ := r.get h2
  have hl := r.length
  have hn := line63
  have fin : EP X pins σ Q w s := ⟨z, H, I, rw', q⟩
  by_cases h0 : 0 ≤ i
  · have hj : i.toNat = j := by
      rw [seqIndex_of h0 h5] at h1
      exact Option.some.inj h1
    exact wpAny_getItem_list pl.isList h0 (by omega) (by rw [hj]; simpa using ew) fin
  · have hj : (i + (its.toArray.size : Int)).toNat = j := by
      rw [seqIndex_neg (by omega) h4] at h1
      rw [List.size_toArray, ← hl]
      exact Option.some.inj h1
    exact wpAny_getItem_list_neg pl.isList (by omega) (by rw [List.size_toArray] <;> omega) (by omega) (by rw [hj]; simpa using ew) fin
theorem Val.e (h : Val te σ H v) : ValE te σ H v := fun Q q => h Q (q H (Ex.refl H))
theorem Ans.e {b : Bool} (h : Ans t σ H b) : AnsE t σ H b := fun Q q => h Q (q H (Ex.refl H))
theorem vv {i : Nat} (h : σ[i]? = some (some v)) : Val (tVar i) σ H v := fun _ q => ⟨v, h, q⟩
theorem vc : Val (tC v) σ H v := fun _ q => q
theorem v_st (T : Tx w K mg) (h : StrAt K H s A S) (f : Fd) (hb : Val tb σ H (.ref s)) : Val (tFld K tb f.nm) σ H (.ref (A f)) := fun Q q => hb _ (by
  obtain ⟨dx, h1⟩ := h.ob
  exact ⟨s, Cad K .st, dx, stF A, _, rfl, h1, T.cls .st, T.noat .st f.nm (by cases f <;> simp [Cn.fields]), stF_at A f, q⟩)
theorem v_ixL {p : Addr} {xs : List V} {i : Nat} (ha : Val tb σ H (.ref p)) (hp : SqL K H p xs) (hx : Val tx σ H (.int i)) (hv : xs[i]? = some v) : Val (tOp (rIxL K) tb tx) σ H v :=
  fun Q q => ha _ (hx _ ⟨p, xs, i, v, rfl, rfl, hp, atI_nat hv, q⟩)
theorem v_ixT {p : Addr} {xs : List V} {i : Nat} (ha : Val tb σ H (.ref p)) (hp : SqT K H p xs) (hx : Val tx σ H (.int i)) (hv : xs[i]? = some v) : Val (tOp (rIxT K) tb tx) σ H v :=
  fun Q q => ha _ (hx _ ⟨p, xs, i, v, rfl, rfl, hp, atI_nat hv, q⟩)
theorem v_rd (T : Tx w K mg) (h : StrAt K H s A S) (f : Fd) (hb : Val tb σ H (.ref s)) {x : Nat} (hx : Val tx σ H (.int x)) (hlt : x < S.n) (ht : f.typed = true := by rfl) : Val (tOp (rIxL K) (tFld K tb f.nm) tx) σ H (fv S f x) :=
  v_ixL (v_st T h f hb) (SqL.of (h.typed f ht)) hx (enc_at hlt)
theorem v_rdl (T : Tx w K mg) (h : StrAt K H s A S) (f : Fd) (hb : Val tb σ H (.ref s)) {x : Nat} (hx : Val tx σ H (.int x)) (hlt : x < S.n) (ht : f.loose = true := by rfl) : ∃ z, Val (tOp (rIxL K) (tFld K tb f.nm) tx) σ H (.int z) := by
  obtain ⟨xs, a, b, l, _⟩ := h.lst f
  have hnt : ¬ f.typed = true := by cases f <;> first | exact absurd ht (by decide) | decide
  unfold FieldOk at b
  rw [if_neg hnt, if_pos ht] at b
  obtain ⟨zs, l1, e⟩ := b
  cases e
  exact ⟨zs[x]'(by omega), v_ixL (v_st T h f hb) (SqL.of a) hx (by rw [List.getElem?_map, List.getElem?_eq_getElem (by omega)]; rfl)⟩
theorem v_rdh (T : Tx w K mg) (h : StrAt K H s A S) (hb : Val tb σ H (.ref s)) {x : Nat} (hx : Val tx σ H (.int x)) (hlt : x < S.n) : ∃ t a b, H t = some (.tup [.int a, .int b]) ∧ Val (tOp (rIxL K) (tFld K tb "hung") tx) σ H (.ref t) := by
  obtain ⟨xs, a, b, l, _⟩ := h.lst .hung
  unfold FieldOk at b
  rw [if_neg (by decide), if_neg (by decide), if_pos rfl] at b
  obtain ⟨hs, e, l1, hp⟩ := b
  cases e
  obtain ⟨t, a', b', e, ht⟩ := hp (xs[x]'(by omega)) (List.getElem_mem _)
  exact ⟨t, a', b', ht, v_ixL (v_st T h .hung hb) (SqL.of a) hx (by rw [List.getElem?_eq_getElem (by omega), e])⟩
theorem v_I0 {g : Int → Int → V} {i j : Int} (ha : Val ta σ H (.int i)) (hb : Val tb σ H (.int j)) : Val (tOp (rI0 g) ta tb) σ H (g i j) := fun Q q => ha _ (hb _ ⟨i, j, rfl, rfl, q⟩)
theorem v_I {C : Int → Int → Prop} {g : Int → Int → V} {i j : Int} (ha : Val ta σ H (.int i)) (hb : Val tb σ H (.int j)) (hc : C i j) : Val (tOp (rI C g) ta tb) σ H (g i j) := fun Q q => ha _ (hb _ ⟨i, j, rfl, rfl, hc, q⟩)
theorem v_eq (ha : Val ta σ H x) (hb : Val tb σ H y) (hs : scal x y = true) : Val (tOp rEq ta tb) σ H (.bl (decide (x = y))) := fun Q q => ha _ (hb _ ⟨hs, q⟩)
theorem v_ne (ha : Val ta σ H x) (hb : Val tb σ H y) (hs : scal x y = true) : Val (tOp rNe ta tb) σ H (.bl (!decide (x = y))) := fun Q q => ha _ (hb _ ⟨hs, q⟩)
theorem v_isN (ha : Val ta σ H x) : Val (tOp rIsN ta (tC .non)) σ H (.bl (decide (x = .non))) := fun Q q => ha _ ⟨rfl, q⟩
theorem v_notN (ha : Val ta σ H x) : Val (tOp rNotN ta (tC .non)) σ H (.bl (!decide (x = .non))) := fun Q q => ha _ ⟨rfl, q⟩
theorem v_not {b : Bool} (ha : Val ta σ H (.bl b)) : Val (tNotV ta) σ H (.bl (!b)) := fun Q q => ha _ ⟨b, rfl, q⟩
theorem v_if {b : Bool} (ht : Ans t σ H b) (h1 : b = true → Val ta σ H v) (h2 : b = false → Val tb σ H v) : Val (tIf t ta tb) σ H v := fun Q q => ht _ (by
  cases b with
  | true => exact iteT (h1 rfl Q q)
  | false => exact iteF (h2 rfl Q q))
theorem v_ix0 : Val (tUn (rU fun i => .int (-i)) (tC (.int 1))) σ H (.int (-1)) := fun Q q => ⟨1, rfl, q⟩
theorem a_test {b : Bool} (h : Val te σ H (.bl b)) : Ans (tTest te) σ H b := fun Q q => h _ ⟨b, rfl, q⟩
theorem a_B {b : Bool} (h : Val te σ H (.bl b)) : Ans (tB te) σ H b := fun Q q => h _ ⟨b, rfl, q⟩
theorem a_not {b : Bool} (h : Ans t σ H b) : Ans (tNot t) σ H (!b) := fun Q q => h _ q
theorem a_and {b : Bool} {c : Bool} (h1 : Ans t σ H b) (h2 : b = true → Ans u σ H c) : Ans (tAnd t u) σ H (b && c) := fun Q q => h1 _ (by
  cases b with
  | true => exact iteT (h2 rfl Q q)
  | false => exact iteF q)
theorem a_or {b : Bool} {c : Bool} (h1 : Ans t σ H b) (h2 : b = false → Ans u σ H c) : Ans (tOr t u) σ H (b || c) := fun Q q => h1 _ (by
  cases b with
  | true => exact iteT q
  | false => exact iteF (h2 rfl Q q))
theorem ve_or {a b : Bool} (h1 : Val ta σ H (.bl a)) (h2 : a = false → ValE tb σ H (.bl b)) : ValE (tOrV ta tb) σ H (.bl (a || b)) := fun Q q => h1 _ ⟨a, rfl, by
  cases a with
  | true => exact iteT (q H (Ex.refl H))
  | false => exact iteF (h2 rfl Q q)⟩
theorem ve_and {a b : Bool} (h1 : Val ta σ H (.bl a)) (h2 : a = true → ValE tb σ H (.bl b)) : ValE (tAndV ta tb) σ H (.bl (a && b)) := fun Q q => h1 _ ⟨a, rfl, by
  cases a with
  | true => exact iteT (h2 rfl Q q)
  | false => exact iteF (q H (Ex.refl H))⟩
theorem ve_ni {tr : TA} {vs : List V} (hx : Val tx σ H x) (ha : Args tr σ H vs) (f1 : flatV x = true) (f2 : vs.all flatV = true) (hl : vs.length ≤ sizeLine) : ValE (tOp (rIn K true) tx (tTup tr)) σ H (.bl (!inV x vs)) :=
  fun Q q => hx _ (ha _ ⟨hl, fun p hp => ⟨p, vs, rfl, .inr (SqT.of upd_same), f1, f2, q _ (Ex.new hp)⟩⟩)
theorem ve_in {tr : TA} {vs : List V} (hx : Val tx σ H x) (ha : Args tr σ H vs) (f1 : flatV x = true) (f2 : vs.all flatV = true) (hl : vs.length ≤ sizeLine) : ValE (tOp (rIn K false) tx (tTup tr)) σ H (.bl (inV x vs)) :=
  fun Q q => hx _ (ha _ ⟨hl, fun p hp => ⟨p, vs, rfl, .inr (SqT.of upd_same), f1, f2, q _ (Ex.new hp)⟩⟩)
theorem args0 : Args tNil σ H [] := fun _ q => q
theorem args1 {tr : TA} {vs : List V} (h : Val te σ H v) (hr : Args tr σ H vs) : Args (tCons te tr) σ H (v :: vs) := fun _ q => h _ (hr _ q)
theorem s_if {b : Bool} (h : Ans t σ H b) (h1 : b = true → t1 D σ H) (h2 : b = false → t2 D σ H) : tIfS t t1 t2 D σ H := h _ (by
  cases b with
  | true => exact iteT (h1 rfl)
  | false => exact iteF (h2 rfl))
theorem s_ifE {b : Bool} (h : AnsE t σ H b) (h1 : b = true → ∀ H', Ex H H' → t1 D σ H') (h2 : b = false → ∀ H', Ex H H' → t2 D σ H') : tIfS t t1 t2 D σ H := h _ (fun H' e => by
  cases b with
  | true => exact iteT (h1 rfl H' e)
  | false => exact iteF (h2 rfl H' e))
theorem s_set {i : Nat} (h : Val te σ H v) (k : D.nx (σ.set i (some v)) H) : tAsg te (gName i) D σ H := h _ k
theorem s_ret (h : Val te σ H v) (k : D.rt v H) : tRet te D σ H := h _ k
theorem s_retE (h : ValE te σ H v) (k : ∀ H', Ex H H' → D.rt v H') : tRet te D σ H := h _ k
theorem s_wrE (T : Tx w K mg) (h : StrAt K H s A S) (f : Fd) {x : Nat} (S' : LC.S) (hv : ValE te σ H v) (hb : ∀ H, Val tb σ H (.ref s)) (hx : ∀ H, Val tx σ H (.int x)) (hlt : x < S.n)
    (hS : ∀ i, i < S.n → fv S' f i = LC.up (fv S f) x v i) (e : Else S S' f) (wf : Wf S') (k : ∀ H1, StrAt K H1 s A S' → Keep A H H1 → D.nx σ H1) (ht : f.typed = true := by rfl) : tAsg te (gSub (tFld K tb f.nm) tx rSetL) D σ H :=
  hv _ fun H1 e1 => v_st T (h.ex e1) f (hb H1) _ (hx H1 _ (by
    have h3 := h.ex e1
    refine ⟨A f, _, x, x, rfl, rfl, h3.typed f ht, by rw [enc_len]; exact ixN_nat hlt, ?_⟩
    obtain ⟨a, b⟩ := h3.set f ht v hlt hS e wf
    exact k _ a (fun q o hq n => b q o (e1 q o hq) n)))
theorem s_wr (T : Tx w K mg) (h : StrAt K H s A S) (f : Fd) {x : Nat} (S' : LC.S) (hv : Val te σ H v) (hb : Val tb σ H (.ref s)) (hx : Val tx σ H (.int x)) (hlt : x < S.n)
    (hS : ∀ i, i < S.n → fv S' f i = LC.up (fv S f) x v i) (e : Else S S' f) (wf : Wf S') (k : ∀ H1, StrAt K H1 s A S' → Keep A H H1 → D.nx σ H1) (ht : f.typed = true := by rfl) : tAsg te (gSub (tFld K tb f.nm) tx rSetL) D σ H :=
  hv _ (v_st T h f hb _ (hx _ (by
    refine ⟨A f, _, x, x, rfl, rfl, h.typed f ht, by rw [enc_len]; exact ixN_nat hlt, ?_⟩
    obtain ⟨a, b⟩ := h.set f ht v hlt hS e wf
    exact k _ a b)))
theorem s_wrlE (T : Tx w K mg) (h : StrAt K H s A S) (f : Fd) {x : Nat} {z : Int} (hv : ValE te σ H (.int z)) (hb : ∀ H, Val tb σ H (.ref s)) (hx : ∀ H, Val tx σ H (.int x)) (hlt : x < S.n)
    (k : ∀ H1, StrAt K H1 s A S → Keep A H H1 → D.nx σ H1) (ht : f.loose = true := by rfl) : tAsg te (gSub (tFld K tb f.nm) tx rSetL) D σ H :=
  hv _ fun H1 e1 => v_st T (h.ex e1) f (hb H1) _ (hx H1 _ (by
    obtain ⟨xs, a, b, l, _⟩ := (h.ex e1).lst f
    refine ⟨A f, xs, x, x, rfl, rfl, a, by rw [l (by intro q; subst q; cases ht)]; exact ixN_nat hlt, ?_⟩
    obtain ⟨a, b⟩ := (h.ex e1).setl f ht (x := x) z b
    exact k _ a (fun q o hq n => b q o (e1 q o hq) n)))
theorem s_aug (T : Tx w K mg) (h : StrAt K H s A S) (f : Fd) {x : Nat} {a b : Int} (S' : LC.S) (hb : Val tb σ H (.ref s)) (hx : Val tx σ H (.int x)) (hlt : x < S.n) (hv : Val te σ H (.int b)) (ha : fv S f x = .int a)
    (hS : ∀ i, i < S.n → fv S' f i = LC.up (fv S f) x (.int (a + b)) i) (e : Else S S' f) (wf : Wf S') (k : ∀ H1, StrAt K H1 s A S' → Keep A H H1 → D.nx σ H1) (ht : f.typed = true := by rfl) :
    tAugS (tFld K tb f.nm) tx te (rIxL K) (ipI fun i j => i + j) rSetL D σ H :=
  v_st T h f hb _ (hx _ ⟨A f, _, x, _, rfl, rfl, SqL.of (h.typed f ht), atI_nat (enc_at hlt), hv _ ⟨a, b, ha, rfl, by
    refine ⟨A f, _, x, x, rfl, rfl, h.typed f ht, by rw [enc_len]; exact ixN_nat hlt, ?_⟩
    obtain ⟨a, b⟩ := h.set f ht _ hlt hS e wf
    exact k _ a b⟩⟩)
theorem s_augl (T : Tx w K mg) (h : StrAt K H s A S) (f : Fd) {x : Nat} {b : Int} (hb : Val tb σ H (.ref s)) (hx : Val tx σ H (.int x)) (hlt : x < S.n) (hv : Val te σ H (.int b))
    (k : ∀ H1, StrAt K H1 s A S → Keep A H H1 → D.nx σ H1) (ht : f.loose = true := by rfl) : tAugS (tFld K tb f.nm) tx te (rIxL K) (ipI fun i j => i + j) rSetL D σ H := by
  obtain ⟨xs, a, b', l, _⟩ := h.lst f
  have hnt : ¬ f.typed = true := by cases f <;> first | exact absurd ht (by decide) | decide
  have b0 := b'
  unfold FieldOk at b'
  rw [if_neg hnt, if_pos ht] at b'
  obtain ⟨zs, l1, e⟩ := b'
  cases e
  refine v_st T h f hb _ (hx _ ⟨A f, _, x, .int (zs[x]'(by omega)), rfl, rfl, SqL.of a, atI_nat (by rw [List.getElem?_map, List.getElem?_eq_getElem (by omega)]; rfl), hv _ ⟨_, b, rfl, rfl, ?_⟩⟩)
  refine ⟨A f, _, x, x, rfl, rfl, a, by rw [List.length_map, l1]; exact ixN_nat hlt, ?_⟩
  obtain ⟨a, b⟩ := h.setl f ht (x := x) _ b0
  exact k _ a b
theorem q_set {i : Nat} (h : Val te σ H v) (k : tz D (σ.set i (some v)) H) : tSeq (tAsg te (gName i)) tz D σ H := s_set (D := { D with nx := tz D }) h k
theorem q_wrE (T : Tx w K mg) (h : StrAt K H s A S) (f : Fd) {x : Nat} (S' : LC.S) (hv : ValE te σ H v) (hb : ∀ H, Val tb σ H (.ref s)) (hx : ∀ H, Val tx σ H (.int x)) (hlt : x < S.n)
    (hS : ∀ i, i < S.n → fv S' f i = LC.up (fv S f) x v i) (e : Else S S' f) (wf : Wf S') (k : ∀ H1, StrAt K H1 s A S' → Keep A H H1 → tz D σ H1) (ht : f.typed = true := by rfl) : tSeq (tAsg te (gSub (tFld K tb f.nm) tx rSetL)) tz D σ H :=
  s_wrE (D := { D with nx := tz D }) T h f S' hv hb hx hlt hS e wf k ht
theorem q_wr (T : Tx w K mg) (h : StrAt K H s A S) (f : Fd) {x : Nat} (S' : LC.S) (hv : Val te σ H v) (hb : Val tb σ H (.ref s)) (hx : Val tx σ H (.int x)) (hlt : x < S.n)
    (hS : ∀ i, i < S.n → fv S' f i = LC.up (fv S f) x v i) (e : Else S S' f) (wf : Wf S') (k : ∀ H1, StrAt K H1 s A S' → Keep A H H1 → tz D σ H1) (ht : f.typed = true := by rfl) : tSeq (tAsg te (gSub (tFld K tb f.nm) tx rSetL)) tz D σ H :=
  s_wr (D := { D with nx := tz D }) T h f S' hv hb hx hlt hS e wf k ht
theorem q_wrlE (T : Tx w K mg) (h : StrAt K H s A S) (f : Fd) {x : Nat} {z : Int} (hv : ValE te σ H (.int z)) (hb : ∀ H, Val tb σ H (.ref s)) (hx : ∀ H, Val tx σ H (.int x)) (hlt : x < S.n)
    (k : ∀ H1, StrAt K H1 s A S → Keep A H H1 → tz D σ H1) (ht : f.loose = true := by rfl) : tSeq (tAsg te (gSub (tFld K tb f.nm) tx rSetL)) tz D σ H :=
  s_wrlE (D := { D with nx := tz D }) T h f hv hb hx hlt k ht
theorem q_aug (T : Tx w K mg) (h : StrAt K H s A S) (f : Fd) {x : Nat} {a b : Int} (S' : LC.S) (hb : Val tb σ H (.ref s)) (hx : Val tx σ H (.int x)) (hlt : x < S.n) (hv : Val te σ H (.int b)) (ha : fv S f x = .int a)
    (hS : ∀ i, i < S.n → fv S' f i = LC.up (fv S f) x (.int (a + b)) i) (e : Else S S' f) (wf : Wf S') (k : ∀ H1, StrAt K H1 s A S' → Keep A H H1 → tz D σ H1) (ht : f.typed = true := by rfl) :
    tSeq (tAugS (tFld K tb f.nm) tx te (rIxL K) (ipI fun i j => i + j) rSetL) tz D σ H :=
  s_aug (D := { D with nx := tz D }) T h f S' hb hx hlt hv ha hS e wf k ht
theorem q_augl (T : Tx w K mg) (h : StrAt K H s A S) (f : Fd) {x : Nat} {b : Int} (hb : Val tb σ H (.ref s)) (hx : Val tx σ H (.int x)) (hlt : x < S.n) (hv : Val te σ H (.int b))
    (k : ∀ H1, StrAt K H1 s A S → Keep A H H1 → tz D σ H1) (ht : f.loose = true := by rfl) : tSeq (tAugS (tFld K tb f.nm) tx te (rIxL K) (ipI fun i j => i + j) rSetL) tz D σ H :=
  s_augl (D := { D with nx := tz D }) T h f hb hx hlt hv k ht
theorem q_if {b : Bool} (h : Ans t σ H b) (h1 : b = true → t1 { D with nx := tz D } σ H) (h2 : b = false → t2 { D with nx := tz D } σ H) : tSeq (tIfS t t1 t2) tz D σ H := s_if (D := { D with nx := tz D }) h h1 h2
theorem q_when {b : Bool} (h : Ans t σ H b) (h1 : b = true → t1 { D with nx := tz D } σ H) (h2 : b = false → tz D σ H) : tSeq (tIfS t t1 tNext) tz D σ H := s_if (D := { D with nx := tz D }) h h1 h2
theorem s_when {b : Bool} (h : Ans t σ H b) (h1 : b = true → t1 D σ H) (h2 : b = false → D.nx σ H) : tIfS t t1 tNext D σ H := s_if h h1 h2
theorem c_stV (h : StrAt K H s A S) {m : Str} {sp : Sp} {E : XK} {t : TA} {vs : List V} {Q : VK} (hm : m ∉ Cn.fields .st) (hb : Val tb σ H (.ref s)) (ht : Args t σ H vs) (k : sp (.ref s :: (vs ++ [])) H Q E) : tMeth (Cad K .st) m sp [] E tb t σ H Q :=
  hb _ (by
    obtain ⟨dx, h1⟩ := h.ob
    exact ⟨s, dx, stF A, rfl, h1, stF_no A hm, ht _ k⟩)
theorem s_call (h : StrAt K H s A S) {m : Str} {sp : Sp} {E : XK} {t : TA} {vs : List V} (hm : m ∉ Cn.fields .st) (hb : Val tb σ H (.ref s)) (ht : Args t σ H vs) (k : sp (.ref s :: (vs ++ [])) H (fun _ H1 => D.nx σ H1) E) : tDrop (tMeth (Cad K .st) m sp [] E tb t) D σ H :=
  c_stV h hm hb ht k
theorem q_call (h : StrAt K H s A S) {m : Str} {sp : Sp} {E : XK} {t : TA} {vs : List V} (hm : m ∉ Cn.fields .st) (hb : Val tb σ H (.ref s)) (ht : Args t σ H vs) (k : sp (.ref s :: (vs ++ [])) H (fun _ H1 => tz D σ H1) E) : tSeq (tDrop (tMeth (Cad K .st) m sp [] E tb t)) tz D σ H :=
  c_stV h hm hb ht k
end
section
variable {P : Program} {w : World} {K : PySem.W.Frag} {mg : Str → Option Value} {base : Heap}
theorem Tx.okd (T : Tx w K mg) (d : Dn) {N : List Str} {k : Nat} {sp : Sp} (S : FnScope N d.ps (defScope d.sm)) (len : ∀ vs H Q E, sp vs H Q E → vs.length = d.ps.length)
    (hbody : ∀ (cdv : Value) (A : Around) (outer : List Env) (s : Shared) (H : Hp) (vs : List V) (Q : VK) (E : XK), Room k (A.deeper (envOfC d.ql (defScope d.sm) s.heap.objs.size (Fad K d) cdv)) → sp vs H Q E →
      ∃ t, PSs (cxOf CX0 P w K mg base N d.ql (defScope d.sm) (Fad K d) cdv A outer s H E).nox (defBody d.sm) t ∧ t { nx := fun _ H' => Q .non H', rt := Q } (start N vs) H) : Ok P w K mg base (k + 1) d sp :=
  (T.fn d).ok S len fun cdv A outer s H vs Q E hr h => by
    obtain ⟨t, a, b⟩ := hbody cdv A outer s H vs Q E hr h
    exact ⟨t, a.nox, b⟩
def fIsTop : List V → LC.S → (V → LC.S → Prop) → Prop := fun as S k => ∃ x, as = [.int (x : Nat)] ∧ x < S.n ∧ k (.bl (LC.isTop S x)) S
def spRd (K : PySem.W.Frag) (F : List V → LC.S → (V → LC.S → Prop) → Prop) : Sp := fun vs H Q _ => ∃ s A S as, vs = .ref s :: as ∧ StrAt K H s A S ∧ F as S (fun v _ => ∀ H', Ex H H' → Q v H')
theorem ok_st_is_top (T : Tx w K mg) : Ok P w K mg base 1 .st_is_top (spRd K fIsTop) := by
  refine T.okd .st_is_top sc_st_is_top (fun vs H Q E h => ?_) (fun cdv A0 outer s0 H vs Q E hr h => ⟨_, (pss_cons (ps_set (i := 2) sc_st_is_top.nd rfl (Or.inl rfl) (pe_ix ix_list (pe_fld (pv 0) rfl) (pv 1) (fun _ _ => rfl)))
    (pss_one (ps_ret (pe_or (pe_cmpR op_isN1 (pv 2) pe_non (nomark _)) (pe_one (pe_cmpR op_notIn_seq (pv 1) (pe_tup (pa_cons (pe_ix ix_list (pe_fld (pv 0) rfl) (pv 2) (fun _ _ => rfl)) (pa_cons (pe_ix ix_list (pe_fld (pv 0) rfl) (pv 2) (fun _ _ => rfl)) pa_nil))) rfl)))))), ?_⟩)
  · obtain ⟨s, A, S, as, rfl, _, x, rfl, _⟩ := h; rfl
  · obtain ⟨s, A, S, as, rfl, hS, x, rfl, hx, k⟩ := h
    refine q_set (v_rd T hS .above (vv rfl) (vv rfl) hx) ?_
    have hret : ValE (tOrV (tOp rIsN (tVar 2) (tC .non)) (tOp (rIn K true) (tVar 1) (tTup (tCons (tOp (rIxL K) (tFld K (tVar 0) "left") (tVar 2)) (tCons (tOp (rIxL K) (tFld K (tVar 0) "right") (tVar 2)) tNil)))))
        ((L2.start ["self", "x", "u"] [V.ref s, V.int x]).set 2 (some (fv S .above x))) H (.bl (LC.isTop S x)) := by
      cases ha : S.ab x with
      | none =>
        have hau : fv S .above x = .non := by show oV (S.ab x) = _; rw [ha]; rfl
        rw [show LC.isTop S x = (true || false) by unfold LC.isTop; rw [ha]; rfl]
        exact ve_or (a := true) (by have := v_isN (vv (σ := (L2.start ["self", "x", "u"] [V.ref s, V.int x]).set 2 (some (fv S .above x))) (H := H) (i := 2) rfl); rw [hau] at this ⊢; exact this) (fun q => by cases q)
      | some u =>
        have hu := hS.wf.ab x u ha
        have hau : fv S .above x = .int u := by show oV (S.ab x) = _; rw [ha]; rfl
        have ht : LC.isTop S x = (false || !inV (.int x) [fv S .left u, fv S .right u]) := by
          unfold LC.isTop; rw [ha]
          show (!(S.ch false u == some x || S.ch true u == some x)) = (false || !inV (.int x) [oV (S.ch false u), oV (S.ch true u)])
          have h1 : ∀ o : Option Nat, eqV (oV o) (.int x) = (o == some x) := by
            intro o
            cases o with
            | none => rfl
            | some y => show ((y : Int) == (x : Int)) = (some y == some x); rw [Bool.eq_iff_iff]; simp; omega
          unfold inV
          rw [List.any_cons, List.any_cons, List.any_nil, h1, h1, Bool.or_false, Bool.false_or]
        rw [ht, hau]
        refine ve_or (a := false) (v_isN (x := .int u) (vv rfl)) fun _ => ve_ni (vv rfl) (args1 (v_rd T hS .left (vv rfl) (vv rfl) hu) (args1 (v_rd T hS .right (vv rfl) (vv rfl) hu) args0)) rfl ?_ (by show 2 ≤ sizeLine; decide)
        have fl : ∀ o, flatV (oV o) = true := fun o => by cases o <;> rfl
        show ([oV _, oV _] : List V).all flatV = true
        rw [List.all_cons, List.all_cons, fl, fl]; rfl
    exact s_retE hret k
theorem up_map {α : Type} (φ : α → V) (g : Nat → α) (x : Nat) (a : α) (i : Nat) : φ (LC.up g x a i) = LC.up (fun j => φ (g j)) x (φ a) i := by
  unfold LC.up; split <;> rfl
theorem else_fl (S : LC.S) (g : Nat → Bool) : Else S { S with fl := g } .flipped := ⟨rfl, fun _ => rfl, fun f hf i hi => by cases f <;> first | rfl | exact absurd rfl hf⟩
theorem else_lt (S : LC.S) (g : Nat → Int) : Else S { S with lt := g } .later := ⟨rfl, fun _ => rfl, fun f hf i hi => by cases f <;> first | rfl | exact absurd rfl hf⟩
theorem else_wo (S : LC.S) (g : Nat → Int) : Else S { S with wo := g } .worth := ⟨rfl, fun _ => rfl, fun f hf i hi => by cases f <;> first | rfl | exact absurd rfl hf⟩
theorem else_mn (S : LC.S) (g : Nat → Int) : Else S { S with mn := g } .many := ⟨rfl, fun _ => rfl, fun f hf i hi => by cases f <;> first | rfl | exact absurd rfl hf⟩
theorem else_to (S : LC.S) (g : Nat → Int) : Else S { S with to := g } .total := ⟨rfl, fun _ => rfl, fun f hf i hi => by cases f <;> first | rfl | exact absurd rfl hf⟩
theorem else_mo (S : LC.S) (g : Nat → Int) : Else S { S with mo := g } .most := ⟨rfl, fun _ => rfl, fun f hf i hi => by cases f <;> first | rfl | exact absurd rfl hf⟩
theorem else_ab (S : LC.S) (g : Nat → Option Nat) : Else S { S with ab := g } .above := ⟨rfl, fun _ => rfl, fun f hf i hi => by cases f <;> first | rfl | exact absurd rfl hf⟩
theorem else_chF (S : LC.S) (x : Nat) (o : Option Nat) : Else S (LC.setCh S false x o) .left := ⟨rfl, fun _ => rfl, fun f hf i hi => by
  cases f <;> first
  | rfl
  | exact absurd rfl hf
  | (show oV (LC.upc S.ch false x o true i) = oV (S.ch true i); rw [LC.upc_get, if_neg (fun q => by cases q.1)])⟩
theorem else_chT (S : LC.S) (x : Nat) (o : Option Nat) : Else S (LC.setCh S true x o) .right := ⟨rfl, fun _ => rfl, fun f hf i hi => by
  cases f <;> first
  | rfl
  | exact absurd rfl hf
  | (show oV (LC.upc S.ch true x o false i) = oV (S.ch false i); rw [LC.upc_get, if_neg (fun q => by cases q.1)])⟩
theorem fv_chF (S : LC.S) (x : Nat) (o : Option Nat) (i : Nat) : fv (LC.setCh S false x o) .left i = LC.up (fv S .left) x (oV o) i := by
  show oV (LC.upc S.ch false x o false i) = LC.up (fun j => oV (S.ch false j)) x (oV o) i
  rw [LC.upc_get]; unfold LC.up; by_cases e : i = x <;> simp [e]
theorem fv_chT (S : LC.S) (x : Nat) (o : Option Nat) (i : Nat) : fv (LC.setCh S true x o) .right i = LC.up (fv S .right) x (oV o) i := by
  show oV (LC.upc S.ch true x o true i) = LC.up (fun j => oV (S.ch true j)) x (oV o) i
  rw [LC.upc_get]; unfold LC.up; by_cases e : i = x <;> simp [e]
theorem Wf.setCh {S : LC.S} (h : Wf S) (b : Bool) (x : Nat) (o : Option Nat) (ho : ∀ y, o = some y → y < S.n) : Wf (LC.setCh S b x o) := ⟨fun c z y e => by
  have e' : LC.upc S.ch b x o c z = some y := e
  rw [LC.upc_get] at e'
  split at e'
  · exact ho y e'
  · exact h.ch c z y e', h.ab⟩
theorem Wf.setAb {S : LC.S} (h : Wf S) (x : Nat) (o : Option Nat) (ho : ∀ y, o = some y → y < S.n) : Wf (LC.setAb S x o) := ⟨h.ch, fun z y e => by
  have e' : LC.up S.ab x o z = some y := e
  unfold LC.up at e'
  split at e'
  · exact ho y e'
  · exact h.ab z y e'⟩
theorem Wf.flip1 {S : LC.S} (h : Wf S) (o : Option Nat) : Wf (LC.flip1 S o) := by cases o <;> exact ⟨h.ch, h.ab⟩
theorem Wf.moreBy {S : LC.S} (h : Wf S) (o : Option Nat) (m : Int) : Wf (LC.moreBy S o m) := by cases o <;> exact ⟨h.ch, h.ab⟩
def fFlip : List V → LC.S → (V → LC.S → Prop) → Prop := fun as S k => ∃ o, as = [oV o] ∧ (∀ x, o = some x → x < S.n) ∧ k .non (LC.flip1 S o)
theorem ok_st_flip (T : Tx w K mg) : Ok P w K mg base 1 .st_flip (spSt K fFlip) := by
  refine T.okd .st_flip sc_st_flip (fun vs H Q E h => ?_) (fun cdv A0 outer s0 H vs Q E hr h => ⟨_, (pss_one (ps_if (pt_cmpR op_notN1 (pv 1) pe_non (nomark _)) (pss_one (ps_asg (pe_not (pe_ix ix_list (pe_fld (pv 0) rfl) (pv 1) (fun _ _ => rfl))) (pg_sub (pe_fld (pv 0) rfl) (pv 1) set_list))) pss_nil)), ?_⟩)
  · obtain ⟨s, A, S, as, rfl, _, x, rfl, _⟩ := h; rfl
  · obtain ⟨s, A, S, as, rfl, hS, o, rfl, ho, k⟩ := h
    refine s_if (b := !decide (oV o = .non)) (a_test (v_notN (vv rfl))) (fun hb => ?_) (fun hb => ?_)
    · cases o with
      | none => cases hb
      | some x =>
        exact s_wr T hS .flipped (LC.flip1 S (some x)) (v_not (v_rd T hS .flipped (vv rfl) (vv rfl) (ho x rfl))) (vv rfl) (vv rfl) (ho x rfl)
          (fun i _ => up_map V.bl S.fl x _ i) (else_fl S _) (hS.wf.flip1 _) (fun H1 h1 kp => k H1 h1 kp)
    · cases o with
      | none => exact k H hS (Keep.refl _ _)
      | some x => cases hb
def Small (m : Int) : Prop := -(2 ^ 64) < m ∧ m < 2 ^ 64
def fMoreBy : List V → LC.S → (V → LC.S → Prop) → Prop := fun as S k => ∃ o m, as = [oV o, .int m] ∧ (∀ x, o = some x → x < S.n ∧ (Small m ∨ Small (S.mn x))) ∧ k .non (LC.moreBy S o m)
theorem ok_st_more_by (T : Tx w K mg) : Ok P w K mg base 1 .st_more_by (spSt K fMoreBy) := by
  refine T.okd .st_more_by sc_st_more_by (fun vs H Q E h => ?_) (fun cdv A0 outer s0 H vs Q E hr h => ⟨_, (pss_one (ps_if (pt_cmpR op_notN1 (pv 1) pe_non (nomark _)) (pss_cons (ps_augS (pe_fld (pv 0) rfl) (pv 1) pget_list (pv 2) ip_add set_list)
    (pss_cons (ps_augS (pe_fld (pv 0) rfl) (pv 1) pget_list (pv 2) ip_add set_list)
    (pss_cons (ps_augS (pe_fld (pv 0) rfl) (pv 1) pget_list (pe_op op_mul (pv 2) (pe_ix ix_list (pe_fld (pv 0) rfl) (pv 1) (fun _ _ => rfl))) ip_add set_list)
    (pss_cons (ps_augS (pe_fld (pv 0) rfl) (pv 1) pget_list (pe_op op_mul (pv 2) (pe_ix ix_list (pe_fld (pv 0) rfl) (pv 1) (fun _ _ => rfl))) ip_add set_list)
    (pss_one (ps_augS (pe_fld (pv 0) rfl) (pv 1) pget_list (pv 2) ip_add set_list)))))) pss_nil)), ?_⟩)
  · obtain ⟨s, A, S, as, rfl, _, x, m, rfl, _⟩ := h; rfl
  · obtain ⟨s, A, S, as, rfl, hS, o, m, rfl, ho, k⟩ := h
    refine s_if (b := !decide (oV o = .non)) (a_test (v_notN (vv rfl))) (fun hb => ?_) (fun hb => ?_)
    · cases o with
      | none => cases hb
      | some x =>
        obtain ⟨hx, hc⟩ := ho x rfl
        refine q_aug T hS .worth (a := S.wo x) (b := m) { S with wo := LC.up S.wo x (S.wo x + m) } (vv rfl) (vv rfl) hx (vv rfl) rfl (fun i _ => up_map V.int S.wo x _ i) (else_wo S _) ⟨hS.wf.ch, hS.wf.ab⟩ fun H1 h1 k1 => ?_
        refine q_aug T h1 .later (a := S.lt x) (b := m) { S with wo := LC.up S.wo x (S.wo x + m), lt := LC.up S.lt x (S.lt x + m) } (vv rfl) (vv rfl) hx (vv rfl) rfl (fun i _ => up_map V.int S.lt x _ i) (else_lt _ _) ⟨hS.wf.ch, hS.wf.ab⟩ fun H2 h2 k2 => ?_
        refine q_aug T h2 .total (a := S.to x) (b := m * S.mn x) { S with wo := LC.up S.wo x (S.wo x + m), lt := LC.up S.lt x (S.lt x + m), to := LC.up S.to x (S.to x + m * S.mn x) } (vv rfl) (vv rfl) hx
          (v_I (vv rfl) (v_rd T h2 .many (vv rfl) (vv rfl) hx) hc) rfl (fun i _ => up_map V.int S.to x _ i) (else_to _ _) ⟨hS.wf.ch, hS.wf.ab⟩ fun H3 h3 k3 => ?_
        refine q_augl T h3 .all_total (vv rfl) (vv rfl) hx (v_I (vv rfl) (v_rd T h3 .many (vv rfl) (vv rfl) hx) hc) fun H4 h4 k4 => ?_
        exact s_aug T h4 .most (a := S.mo x) (b := m) (LC.moreBy S (some x) m) (vv rfl) (vv rfl) hx (vv rfl) rfl (fun i _ => up_map V.int S.mo x _ i) (else_mo _ _) ⟨hS.wf.ch, hS.wf.ab⟩
          fun H5 h5 k5 => k H5 h5 ((((k1.trans k2).trans k3).trans k4).trans k5)
    · cases o with
      | none => exact k H hS (Keep.refl _ _)
      | some x => cases hb
def fPutBelow : List V → LC.S → (V → LC.S → Prop) → Prop := fun as S k => ∃ g u x, as = [oV g, .int (u : Nat), .int (x : Nat)] ∧ (∀ y, g = some y → y < S.n) ∧ x < S.n ∧ k .non (LC.putBelow S g u x)
theorem scal_oV (o : Option Nat) (x : Nat) : scal (oV o) (.int x) = true := by cases o <;> rfl
theorem dec_oV (o : Option Nat) (x : Nat) : decide (oV o = V.int x) = decide (o = some x) := by
  cases o with
  | none => rfl
  | some y =>
    by_cases e : y = x
    · subst e; simp [oV]
    · rw [decide_eq_false (fun q => e (by injection q; omega)), decide_eq_false (fun q => e (Option.some.inj q))]
theorem ok_st_put_below (T : Tx w K mg) : Ok P w K mg base 1 .st_put_below (spSt K fPutBelow) := by
  refine T.okd .st_put_below sc_st_put_below (fun vs H Q E h => ?_) (fun cdv A0 outer s0 H vs Q E hr h => ⟨_, (pss_one (ps_if (PW.pt (pw_and (pt_cmpR op_notN1 (pv 1) pe_non (nomark _)) (pw_and1 (pt_cmpR op_eq (pe_ix ix_list (pe_fld (pv 0) rfl) (pv 1) (fun _ _ => rfl)) (pv 2) (nomark _))))) (pss_one (ps_asg (pv 3) (pg_sub (pe_fld (pv 0) rfl) (pv 1) set_list))) (pss_one (ps_if (PW.pt (pw_and (pt_cmpR op_notN1 (pv 1) pe_non (nomark _)) (pw_and1 (pt_cmpR op_eq (pe_ix ix_list (pe_fld (pv 0) rfl) (pv 1) (fun _ _ => rfl)) (pv 2) (nomark _))))) (pss_one (ps_asg (pv 3) (pg_sub (pe_fld (pv 0) rfl) (pv 1) set_list))) pss_nil)))), ?_⟩)
  · obtain ⟨s, A, S, as, rfl, _, g, u, x, rfl, _⟩ := h; rfl
  · obtain ⟨s, A, S, as, rfl, hS, o, u, x, rfl, ho, hx, k⟩ := h
    cases o with
    | none =>
      refine s_if (b := false) (a_and (b := false) (c := false) (a_test (v_notN (x := .non) (vv rfl))) (fun q => by cases q)) (fun q => by cases q) fun _ => ?_
      refine s_if (b := false) (a_and (b := false) (c := false) (a_test (v_notN (x := .non) (vv rfl))) (fun q => by cases q)) (fun q => by cases q) fun _ => ?_
      exact k H hS (Keep.refl _ _)
    | some g =>
      have hg := ho g rfl
      refine s_if (b := true && decide (S.ch false g = some u)) (a_and (b := true) (a_test (v_notN (x := .int g) (vv rfl))) fun _ => a_test (by rw [← dec_oV]; exact v_eq (v_rd T hS .left (vv rfl) (vv rfl) hg) (vv rfl) (scal_oV _ _))) (fun hb => ?_) (fun hb => ?_)
      · have hb' : S.ch false g = some u := by simpa using hb
        refine s_wr T hS .left (LC.setCh S false g (some x)) (vv rfl) (vv rfl) (vv rfl) hg (fun i _ => fv_chF S g (some x) i) (else_chF S g _) (hS.wf.setCh _ _ _ fun y e => by cases e; exact hx) (fun H1 h1 kp => ?_)
        have e : LC.putBelow S (some g) u x = LC.setCh S false g (some x) := by unfold LC.putBelow; simp [hb']
        rw [e] at k; exact k H1 h1 kp
      · have hb' : ¬ S.ch false g = some u := by simpa using hb
        refine s_if (b := true && decide (S.ch true g = some u)) (a_and (b := true) (a_test (v_notN (x := .int g) (vv rfl))) fun _ => a_test (by rw [← dec_oV]; exact v_eq (v_rd T hS .right (vv rfl) (vv rfl) hg) (vv rfl) (scal_oV _ _))) (fun hc => ?_) (fun hc => ?_)
        · have hc' : S.ch true g = some u := by simpa using hc
          refine s_wr T hS .right (LC.setCh S true g (some x)) (vv rfl) (vv rfl) (vv rfl) hg (fun i _ => fv_chT S g (some x) i) (else_chT S g _) (hS.wf.setCh _ _ _ fun y e => by cases e; exact hx) (fun H1 h1 kp => ?_)
          have e : LC.putBelow S (some g) u x = LC.setCh S true g (some x) := by unfold LC.putBelow; simp [hb', hc']
          rw [e] at k; exact k H1 h1 kp
        · have hc' : ¬ S.ch true g = some u := by simpa using hc
          have e : LC.putBelow S (some g) u x = S := by unfold LC.putBelow; simp [hb', hc']
          rw [e] at k; exact k H hS (Keep.refl _ _)
end
end TC
namespace TC
open PySem PySem.Spec PyProof.Rows L2
def NewL (te : TE) (σ : L2.St) (H : Hp) (ys : List V) : Prop := ∀ Q : VK, (∀ p H', H p = none → Ex H H' → H' p = some (.lst ys) → Q (.ref p) H') → te σ H Q
def NewU (te : TE) (σ : L2.St) (H : Hp) (ys : List V) : Prop := ∀ Q : VK, (∀ p H', H p = none → Ex H H' → H' p = some (.tup ys) → Q (.ref p) H') → te σ H Q
theorem fresh_back {H H' : Hp} {p : Addr} (e : Ex H H') (h : H' p = none) : H p = none := Evl.fresh_back e h
theorem Ex.mut {H H' : Hp} {p : Addr} {o : HO} (e : Ex H H') (h : H p = none) : Ex H (upd H' p o) := Evl.Ex.mut e h
theorem sz_lt {n : Nat} (h : n < 100000) : n < sizeLine := Nat.lt_of_lt_of_le h (by decide)
theorem sz_le {n : Nat} (h : n ≤ 100000) : n ≤ sizeLine := Nat.le_trans h (by decide)
section
variable {K : PySem.W.Frag} {H H' : Hp} {σ : L2.St} {ta tb tx te tl : TE} {D : Ends} {v x y z : V} {t u tt : TT} {t1 t2 tz : TS}
theorem nu_tup {tr : TA} {vs : List V} (h : Args tr σ H vs) (hl : vs.length ≤ 100000) : NewU (tTup tr) σ H vs := fun Q q => h _ ⟨sz_le hl, fun p hp => q p _ hp (Ex.new hp) upd_same⟩
theorem nl_lst {tr : TA} {vs : List V} (h : Args tr σ H vs) (hl : vs.length ≤ 100000) : NewL (tLst tr) σ H vs := fun Q q => h _ ⟨sz_le hl, fun p hp => q p _ hp (Ex.new hp) upd_same⟩
theorem ex_l {a : Addr} {xs : List V} (e : Ex H H') (h : SqL K H a xs) : SqL K H' a xs := Evl.ex_l e h
theorem ex_t {a : Addr} {xs : List V} (e : Ex H H') (h : SqT K H a xs) : SqT K H' a xs := Evl.ex_t e h
section
variable {α : Type} {ks : List α} {φ : α → V} {p : α → Bool} {g : α → V} {j : Nat} {vs : List Nat}
def LcP (H1 : Hp) (ks : List α) (p : α → Bool) (g : α → V) (D : Addr) (i : Nat) (H : Hp) : Prop := H1 D = none ∧ Ex H1 H ∧ H D = some (.lst (((ks.take i).filter p).map g))
theorem lc_turn {H1 : Hp} {D : Addr} {i : Nat} {a : α} (ha : ks[i]? = some a) (hl : ks.length ≤ 50000) (hP : LcP H1 ks p g D i H) {σ2 : L2.St}
    (ht : ∀ H', Ex H1 H' → Ans tt σ2 H' (p a)) (he : p a = true → ∀ H', Ex H1 H' → Val te σ2 H' (g a)) :
    tt σ2 H fun b H3 => if b = true then te σ2 H3 fun y H4 => ∃ acc, H4 D = some (.lst acc) ∧ acc.length < sizeLine ∧ LcP H1 ks p g D (i + 1) (upd H4 D (.lst (acc ++ [y]))) else LcP H1 ks p g D (i + 1) H3 := by
  obtain ⟨h1, h2, h3⟩ := hP
  have hi := (List.getElem?_eq_some_iff.mp ha).1
  have et : ks.take (i + 1) = ks.take i ++ [a] := by rw [List.take_add_one, ha]; rfl
  refine ht H h2 _ ?_
  cases hb : p a with
  | true =>
    refine iteT (he hb H h2 _ ⟨_, h3, sz_lt ?_, h1, Ex.mut h2 h1, ?_⟩)
    · rw [List.length_map]
      have := List.length_filter_le p (ks.take i)
      have := List.length_take_le i ks
      have := List.length_take (i := i) (l := ks)
      omega
    · rw [upd_same, et, List.filter_append, List.map_append]; simp [hb]
  | false =>
    refine iteF ⟨h1, h2, ?_⟩
    rw [et, List.filter_append, h3]; simp [hb]
theorem nl_lcL {a : Addr} (h : Val tl σ H (.ref a)) (hx : SqL K H a (ks.map φ)) (hl : ks.length ≤ 50000) (hw : ∀ x, wipe ((wipe σ vs).set j (some x)) vs = wipe σ vs)
    (ht : ∀ k ∈ ks, ∀ H', Ex H H' → Ans tt ((wipe σ vs).set j (some (φ k))) H' (p k)) (he : ∀ k ∈ ks, p k = true → ∀ H', Ex H H' → Val te ((wipe σ vs).set j (some (φ k))) H' (g k)) :
    NewL (tLc (iList K tl) (gName j) tt te vs) σ H ((ks.filter p).map g) := fun Q q => h _ ⟨a, rfl, ⟨_, hx⟩, fun Dl hD =>
  lc_list (xs := ks.map φ) (LcP H ks p g Dl) ⟨hD, Ex.new hD, by rw [upd_same]; rfl⟩ (fun i H' _ hp => ex_l hp.2.1 hx) (fun i x H' hi hp => by
    rw [List.getElem?_map] at hi
    cases hk : ks[i]? with
    | none => rw [hk] at hi; cases hi
    | some k =>
      rw [hk] at hi
      cases hi
      have hm := List.mem_of_getElem? hk
      exact ⟨hw _, lc_turn hk hl hp (ht k hm) (he k hm)⟩) (fun H' hp => by
    rw [List.length_map] at hp
    have h3 := hp.2.2
    rw [List.take_length] at h3
    exact q Dl H' hp.1 hp.2.1 h3)⟩
theorem nl_lcU (h : NewU tl σ H (ks.map φ)) (hl : ks.length ≤ 50000) (hw : ∀ x, wipe ((wipe σ vs).set j (some x)) vs = wipe σ vs)
    (ht : ∀ k ∈ ks, ∀ H', Ex H H' → Ans tt ((wipe σ vs).set j (some (φ k))) H' (p k)) (he : ∀ k ∈ ks, p k = true → ∀ H', Ex H H' → Val te ((wipe σ vs).set j (some (φ k))) H' (g k)) :
    NewL (tLc (iTup K tl) (gName j) tt te vs) σ H ((ks.filter p).map g) := fun Q q => h _ fun a H1 ha e1 hx => ⟨a, rfl, ⟨_, SqT.of hx⟩, fun Dl hD =>
  lc_tup (xs := ks.map φ) (LcP H1 ks p g Dl) ⟨hD, Ex.new hD, by rw [upd_same]; rfl⟩ (fun i H' _ hp => ex_t hp.2.1 (SqT.of hx)) (fun i x H' hi hp => by
    rw [List.getElem?_map] at hi
    cases hk : ks[i]? with
    | none => rw [hk] at hi; cases hi
    | some k =>
      rw [hk] at hi
      cases hi
      have hm := List.mem_of_getElem? hk
      exact ⟨hw _, lc_turn hk hl hp (fun H' e => ht k hm H' (e1.trans e)) (fun hb H' e => he k hm hb H' (e1.trans e))⟩) (fun H' hp => by
    rw [List.length_map] at hp
    have h3 := hp.2.2
    rw [List.take_length] at h3
    exact q Dl H' (fresh_back e1 hp.1) (e1.trans hp.2.1) h3)⟩
end
theorem ans_yes : Ans tYes σ H true := fun _ q => q
theorem ve_sum {ns : List Int} (h : NewL te σ H (ns.map V.int)) : ValE (tCB (rSum K) (tCons te tNil)) σ H (.int ns.sum) := fun Q q => h _ fun p H1 hp e1 h1 => ⟨p, ns, rfl, SqL.of h1, q H1 e1⟩
theorem ve_max {ns : List Int} {m : Int} (h : NewL te σ H (ns.map V.int)) (hm : m ∈ ns) (hle : ∀ y ∈ ns, y ≤ m) : ValE (tCB (rMax K) (tCons te tNil)) σ H (.int m) := fun Q q => h _ fun p H1 hp e1 h1 =>
  ⟨p, ns, rfl, SqL.of h1, List.length_pos_of_mem hm, fun k hk hk' => by
    have e : k = m := by have := hle k hk; have := hk' m hm; omega
    rw [e]; exact q H1 e1⟩
theorem nl_cat {xs ys : List V} (h1 : NewL ta σ H xs) (h2 : ∀ H', Ex H H' → NewL tb σ H' ys) (hl : xs.length + ys.length ≤ 100000) : NewL (tOp rCat ta tb) σ H (xs ++ ys) := fun Q q =>
  h1 _ fun p H1 hp e1 g1 => h2 H1 e1 _ fun p2 H2 hp2 e2 g2 => ⟨p, p2, xs, ys, rfl, rfl, e2 _ _ g1, g2, sz_le hl, fun r hr => q r _ (fresh_back (e1.trans e2) hr) ((e1.trans e2).trans (Ex.new hr)) upd_same⟩
theorem ve_I0 {g : Int → Int → V} {i j : Int} (ha : Val ta σ H (.int i)) (hb : ValE tb σ H (.int j)) : ValE (tOp (rI0 g) ta tb) σ H (g i j) := fun Q q => ha _ (hb _ fun H' e => ⟨i, j, rfl, rfl, q H' e⟩)
theorem s_setL {i : Nat} {ys : List V} (h : NewL te σ H ys) (k : ∀ p H', H p = none → Ex H H' → H' p = some (.lst ys) → D.nx (σ.set i (some (.ref p))) H') : tAsg te (gName i) D σ H := h _ k
theorem q_setL {i : Nat} {ys : List V} (h : NewL te σ H ys) (k : ∀ p H', H p = none → Ex H H' → H' p = some (.lst ys) → tz D (σ.set i (some (.ref p))) H') : tSeq (tAsg te (gName i)) tz D σ H := h _ k
theorem q_forL {a : Addr} {xs : List V} {j : Nat} (h : Val tl σ H (.ref a)) (hx : SqL K H a xs) (Pv : Nat → L2.St → Hp → Prop) (h0 : Pv 0 σ H) (hl : ∀ i σ' H', i ≤ xs.length → Pv i σ' H' → SqL K H' a xs)
    (hs : ∀ i x σ' H', xs[i]? = some x → Pv i σ' H' → t1 { D with nx := Pv (i + 1), ct := Pv (i + 1), bk := tz D } (σ'.set j (some x)) H') (hd : ∀ σ' H', Pv xs.length σ' H' → tz D σ' H') : tSeq (tFor (iList K tl) (gName j) t1) tz D σ H :=
  h _ ⟨a, rfl, ⟨xs, hx⟩, for_list (D := { D with nx := tz D }) Pv h0 hl hs hd⟩
theorem s_forL {a : Addr} {xs : List V} {j : Nat} (h : Val tl σ H (.ref a)) (hx : SqL K H a xs) (Pv : Nat → L2.St → Hp → Prop) (h0 : Pv 0 σ H) (hl : ∀ i σ' H', i ≤ xs.length → Pv i σ' H' → SqL K H' a xs)
    (hs : ∀ i x σ' H', xs[i]? = some x → Pv i σ' H' → t1 { D with nx := Pv (i + 1), ct := Pv (i + 1), bk := D.nx } (σ'.set j (some x)) H') (hd : ∀ σ' H', Pv xs.length σ' H' → D.nx σ' H') : tFor (iList K tl) (gName j) t1 D σ H :=
  h _ ⟨a, rfl, ⟨xs, hx⟩, for_list Pv h0 hl hs hd⟩
theorem q_unp2 {a : Addr} {v1 v2 : V} {i j : Nat} (h : Val te σ H (.ref a)) (ha : SqT K H a [v1, v2]) (k : tz D ((σ.set i (some v1)).set j (some v2)) H) : tSeq (tAsg te (gTup K 2 (gCons (gName i) (gCons (gName j) gNil)))) tz D σ H :=
  h _ ⟨a, _, rfl, ha, rfl, v1, [v2], rfl, v2, [], rfl, rfl, k⟩
end
section
variable {P : Program} {w : World} {K : PySem.W.Frag} {mg : Str → Option Value} {base : Heap} {H H' : Hp} {s : Addr} {A : Fd → Addr} {S S' : LC.S} {σ : L2.St} {ta tb tx te tx2 : TE} {D : Ends} {v : V} {t1 t2 tz : TS}
theorem q_wr2 (T : Tx w K mg) (h : StrAt K H s A S) (f g : Fd) {x y : Nat} {v1 v2 : V} (S1 S2 : LC.S) (hv : NewU te σ H [v1, v2]) (hb : ∀ H, Val tb σ H (.ref s)) (hx : ∀ H, Val tx σ H (.int x)) (hy : ∀ H, Val tx2 σ H (.int y)) (hlx : x < S.n) (hly : y < S.n)
    (hS1 : ∀ i, i < S.n → fv S1 f i = LC.up (fv S f) x v1 i) (e1 : Else S S1 f) (wf1 : Wf S1) (hS2 : ∀ i, i < S1.n → fv S2 g i = LC.up (fv S1 g) y v2 i) (e2 : Else S1 S2 g) (wf2 : Wf S2)
    (k : ∀ H1, StrAt K H1 s A S2 → Keep A H H1 → tz D σ H1) (ht : f.typed = true := by rfl) (ht2 : g.typed = true := by rfl) : tSeq (tAsg te (gTup K 2 (gCons (gSub (tFld K tb f.nm) tx rSetL) (gCons (gSub (tFld K tb g.nm) tx2 rSetL) gNil)))) tz D σ H :=
  hv _ fun p H1 hp ex1 h1 => ⟨p, _, rfl, SqT.of h1, rfl, v1, [v2], rfl, v_st T (h.ex ex1) f (hb H1) _ (hx H1 _ (by
    have h3 := h.ex ex1
    refine ⟨A f, _, x, x, rfl, rfl, h3.typed f ht, by rw [enc_len]; exact ixN_nat hlx, ?_⟩
    obtain ⟨a, b⟩ := h3.set f ht v1 hlx hS1 e1 wf1
    refine ⟨v2, [], rfl, v_st T a g (hb _) _ (hy _ _ ?_)⟩
    refine ⟨A g, _, y, y, rfl, rfl, a.typed g ht2, by rw [enc_len]; exact ixN_nat (by rw [e1.1]; exact hly), ?_⟩
    obtain ⟨a2, b2⟩ := a.set g ht2 v2 (by rw [e1.1]; exact hly) hS2 e2 wf2
    exact ⟨rfl, k _ a2 (fun q o hq n => b2 q o (b q o (ex1 q o hq) n) n)⟩))⟩
theorem s_wr2 (T : Tx w K mg) (h : StrAt K H s A S) (f g : Fd) {x y : Nat} {v1 v2 : V} (S1 S2 : LC.S) (hv : NewU te σ H [v1, v2]) (hb : ∀ H, Val tb σ H (.ref s)) (hx : ∀ H, Val tx σ H (.int x)) (hy : ∀ H, Val tx2 σ H (.int y)) (hlx : x < S.n) (hly : y < S.n)
    (hS1 : ∀ i, i < S.n → fv S1 f i = LC.up (fv S f) x v1 i) (e1 : Else S S1 f) (wf1 : Wf S1) (hS2 : ∀ i, i < S1.n → fv S2 g i = LC.up (fv S1 g) y v2 i) (e2 : Else S1 S2 g) (wf2 : Wf S2)
    (k : ∀ H1, StrAt K H1 s A S2 → Keep A H H1 → D.nx σ H1) (ht : f.typed = true := by rfl) (ht2 : g.typed = true := by rfl) : tAsg te (gTup K 2 (gCons (gSub (tFld K tb f.nm) tx rSetL) (gCons (gSub (tFld K tb g.nm) tx2 rSetL) gNil))) D σ H :=
  q_wr2 (tz := tNext) (D := D) T h f g S1 S2 hv hb hx hy hlx hly hS1 e1 wf1 hS2 e2 wf2 k ht ht2
theorem handFl_eq (S : LC.S) (x : Nat) (h : S.fl x = true) : LC.handFl S x = LC.setFl (LC.flip1 (LC.flip1 (LC.setCh (LC.setCh S false x (S.ch true x)) true x (S.ch false x)) (S.ch true x)) (S.ch false x)) x false := by
  have e : LC.swapCh S x = LC.setCh (LC.setCh S false x (S.ch true x)) true x (S.ch false x) := by
    unfold LC.swapCh LC.setCh
    have : (fun b j => if j = x then S.ch (!b) x else S.ch b j) = LC.upc (LC.upc S.ch false x (S.ch true x)) true x (S.ch false x) := by
      funext b j
      rw [LC.upc_get, LC.upc_get]
      cases b <;> by_cases q : j = x <;> simp [q]
    rw [this]
  unfold LC.handFl
  rw [if_pos h]
  have e1 : (LC.swapCh S x).ch false x = S.ch true x := by simp [LC.swapCh]
  have e2 : (LC.flip1 (LC.swapCh S x) ((LC.swapCh S x).ch false x)).ch true x = S.ch false x := by rw [e1]; cases S.ch true x <;> simp [LC.flip1, LC.swapCh]
  show LC.setFl (LC.flip1 (LC.flip1 (LC.swapCh S x) ((LC.swapCh S x).ch false x)) ((LC.flip1 (LC.swapCh S x) ((LC.swapCh S x).ch false x)).ch true x)) x false = _
  rw [e2, e1, e]
theorem handFl_mn (S : LC.S) (x : Nat) : (LC.handFl S x).mn = S.mn ∧ (LC.handFl S x).n = S.n := ⟨(LC.handFl_same S x).2.2.2.1, (LC.handFl_same S x).2.2.2.2.2.2.1⟩
theorem Wf.handFl {S : LC.S} (h : Wf S) (x : Nat) : Wf (LC.handFl S x) := by
  by_cases q : S.fl x = true
  · refine ⟨fun c z y e => ?_, fun z y e => ?_⟩
    · rw [(handFl_mn S x).2]; rw [LC.handFl_ch q] at e; split at e
      · exact h.ch _ _ _ e
      · exact h.ch _ _ _ e
    · rw [(handFl_mn S x).2]; rw [(LC.handFl_same S x).1] at e; exact h.ab z y e
  · unfold LC.handFl; rw [if_neg q]; exact h
theorem Wf.handDown {S : LC.S} (h : Wf S) (x : Nat) : Wf (LC.handDown S x) := by
  have h1 := h.handFl x
  obtain ⟨e1, e2, e3, e4, e5, e6⟩ := LC.handLt_same (LC.handFl S x) x
  refine ⟨fun c z y e => ?_, fun z y e => ?_⟩
  · show y < (LC.handLt (LC.handFl S x) x).n
    rw [e5]; exact h1.ch c z y (by rw [← e2]; exact e)
  · show y < (LC.handLt (LC.handFl S x) x).n
    rw [e5]; exact h1.ab z y (by rw [← e1]; exact e)
theorem handDown_mn (S : LC.S) (x : Nat) : (LC.handDown S x).mn = S.mn ∧ (LC.handDown S x).n = S.n := by
  obtain ⟨e1, e2, e3, e4, e5, e6⟩ := LC.handLt_same (LC.handFl S x) x
  exact ⟨e4.trans (handFl_mn S x).1, e5.trans (handFl_mn S x).2⟩
theorem MnOk.handDown {S : LC.S} (h : LC.MnOk S) (x : Nat) : LC.MnOk (LC.handDown S x) := by
  intro y hy
  rw [(handDown_mn S x).2] at hy
  rw [(handDown_mn S x).1]; exact h y hy
def fHandDown : List V → LC.S → (V → LC.S → Prop) → Prop := fun as S k => ∃ x, as = [.int (x : Nat)] ∧ x < S.n ∧ LC.MnOk S ∧ k .non (LC.handDown S x)
theorem ok_st_hand_down (T : Tx w K mg) : Ok P w K mg base 2 .st_hand_down (spSt K fHandDown) := by
  refine T.okd .st_hand_down sc_st_hand_down (fun vs H Q E h => ?_) (fun cdv A0 outer s0 H vs Q E hr h => ⟨_, (Evl.pss_cut (ps_if (pt_val (pe_ix ix_list (pe_fld (pv 0) rfl) (pv 1) (fun _ _ => rfl))) (pss_cons (ps_asg (pe_tup (pa_cons (pe_ix ix_list (pe_fld (pv 0) rfl) (pv 1) (fun _ _ => rfl)) (pa_cons (pe_ix ix_list (pe_fld (pv 0) rfl) (pv 1) (fun _ _ => rfl)) pa_nil))) (pg_tup rfl (pgs_cons (pg_sub (pe_fld (pv 0) rfl) (pv 1) set_list) (pgs_cons (pg_sub (pe_fld (pv 0) rfl) (pv 1) set_list) pgs_nil))))
    (pss_cons (ps_expr (pe_meth (pv 0) (T.cls .st) (T.meth .st _ (by decide +kernel)) (ok_st_flip T) (hr.mono (by decide)) (b_st_flip T) .nil pass0 (pa_cons (pe_ix ix_list (pe_fld (pv 0) rfl) (pv 1) (fun _ _ => rfl)) pa_nil)))
    (pss_cons (ps_expr (pe_meth (pv 0) (T.cls .st) (T.meth .st _ (by decide +kernel)) (ok_st_flip T) (hr.mono (by decide)) (b_st_flip T) .nil pass0 (pa_cons (pe_ix ix_list (pe_fld (pv 0) rfl) (pv 1) (fun _ _ => rfl)) pa_nil)))
    (pss_one (ps_asg pe_bl (pg_sub (pe_fld (pv 0) rfl) (pv 1) set_list)))))) pss_nil)
    (pss_one (ps_if (pt_cmpR op_ne (pe_ix ix_list (pe_fld (pv 0) rfl) (pv 1) (fun _ _ => rfl)) pe_int (nomark _)) (pss_cons (ps_expr (pe_meth (pv 0) (T.cls .st) (T.meth .st _ (by decide +kernel)) (ok_st_more_by T) (hr.mono (by decide)) (b_st_more_by T) .nil pass0 (pa_cons (pe_ix ix_list (pe_fld (pv 0) rfl) (pv 1) (fun _ _ => rfl)) (pa_cons (pe_ix ix_list (pe_fld (pv 0) rfl) (pv 1) (fun _ _ => rfl)) pa_nil))))
    (pss_cons (ps_expr (pe_meth (pv 0) (T.cls .st) (T.meth .st _ (by decide +kernel)) (ok_st_more_by T) (hr.mono (by decide)) (b_st_more_by T) .nil pass0 (pa_cons (pe_ix ix_list (pe_fld (pv 0) rfl) (pv 1) (fun _ _ => rfl)) (pa_cons (pe_ix ix_list (pe_fld (pv 0) rfl) (pv 1) (fun _ _ => rfl)) pa_nil))))
    (pss_one (ps_asg pe_int (pg_sub (pe_fld (pv 0) rfl) (pv 1) set_list))))) pss_nil))), ?_⟩)
  · obtain ⟨s, A, S, as, rfl, _, x, rfl, _⟩ := h; rfl
  · obtain ⟨s, A, S, as, rfl, hS, x, rfl, hx, hM, k⟩ := h
    have wf1 := hS.wf.handFl x
    have n1 := (handFl_mn S x).2
    refine ⟨fun σ' H1 => σ' = L2.start ["self", "x"] [V.ref s, V.int x] ∧ StrAt K H1 s A (LC.handFl S x) ∧ Keep A H H1, ?_, ?_⟩
    rotate_left
    · rintro _ H1 ⟨rfl, h1, k1⟩
      refine s_when (b := !decide ((LC.handFl S x).lt x = 0)) (L2.Ans.to (a_test (v_ne (y := .int 0) (v_rd T h1 .later (vv rfl) (vv rfl) (by rw [n1]; exact hx)) vc rfl)) (by
        rw [show fv (LC.handFl S x) .later x = V.int ((LC.handFl S x).lt x) from rfl, dec_int, Bool.beq_eq_decide_eq])) (fun hb => ?_) (fun hb => ?_)
      · have hne : (LC.handFl S x).lt x ≠ 0 := by simpa using hb
        have hxn : x < (LC.handFl S x).n := by rw [n1]; exact hx
        have mn1 : ∀ y, y < (LC.handFl S x).n → Small ((LC.handFl S x).mn y) := fun y hy => by rw [(handFl_mn S x).1]; exact hM y (by rw [← n1]; exact hy)
        refine q_call h1 (by decide +kernel) (vv rfl) (args1 (v_rd T h1 .left (vv rfl) (vv rfl) hxn) (args1 (v_rd T h1 .later (vv rfl) (vv rfl) hxn) args0)) ?_
        refine ⟨s, A, _, _, rfl, h1, _, _, rfl, fun y hy => ⟨wf1.ch _ _ _ hy, .inr (mn1 y (wf1.ch _ _ _ hy))⟩, fun H2 h2 k2 => ?_⟩
        have sb : ∀ (t : LC.S) (o : Option Nat) (m : Int), (LC.moreBy t o m).n = t.n ∧ (LC.moreBy t o m).ch = t.ch ∧ (LC.moreBy t o m).mn = t.mn := by intro t o m; cases o <;> exact ⟨rfl, rfl, rfl⟩
        obtain ⟨n2, c2, m2⟩ := sb (LC.handFl S x) ((LC.handFl S x).ch false x) ((LC.handFl S x).lt x)
        refine q_call h2 (by decide +kernel) (vv rfl) (args1 (v_rd T h2 .right (vv rfl) (vv rfl) (by rw [n2]; exact hxn)) (args1 (v_rd T h2 .later (vv rfl) (vv rfl) (by rw [n2]; exact hxn)) args0)) ?_
        refine ⟨s, A, _, _, rfl, h2, _, _, rfl, fun y hy => ?_, fun H3 h3 k3 => ?_⟩
        · have hy' : y < (LC.handFl S x).n := wf1.ch true x y (by rw [← c2]; exact hy)
          exact ⟨by rw [n2]; exact hy', .inr (by rw [m2]; exact mn1 y hy')⟩
        · refine s_wr T h3 .later (LC.handDown S x) vc (vv rfl) (vv rfl) (by rw [(sb _ _ _).1, n2]; exact hxn) (fun i _ => ?_) ?_ (hS.wf.handDown x) fun H4 h4 k4 => k H4 h4 (((k1.trans k2).trans k3).trans k4)
          · have e : LC.handDown S x = LC.setLt (LC.moreBy (LC.moreBy (LC.handFl S x) ((LC.handFl S x).ch false x) ((LC.handFl S x).lt x)) ((LC.moreBy (LC.handFl S x) ((LC.handFl S x).ch false x) ((LC.handFl S x).lt x)).ch true x) ((LC.moreBy (LC.handFl S x) ((LC.handFl S x).ch false x) ((LC.handFl S x).lt x)).lt x)) x 0 := by
              show LC.handLt (LC.handFl S x) x = _
              unfold LC.handLt; rw [if_pos hne]
            rw [e]; exact up_map V.int _ x 0 i
          · have e : LC.handDown S x = LC.setLt (LC.moreBy (LC.moreBy (LC.handFl S x) ((LC.handFl S x).ch false x) ((LC.handFl S x).lt x)) ((LC.moreBy (LC.handFl S x) ((LC.handFl S x).ch false x) ((LC.handFl S x).lt x)).ch true x) ((LC.moreBy (LC.handFl S x) ((LC.handFl S x).ch false x) ((LC.handFl S x).lt x)).lt x)) x 0 := by
              show LC.handLt (LC.handFl S x) x = _
              unfold LC.handLt; rw [if_pos hne]
            rw [e]; exact else_lt _ _
      · have he : LC.handDown S x = LC.handFl S x := by
          have : ¬ (LC.handFl S x).lt x ≠ 0 := by simpa using hb
          show LC.handLt (LC.handFl S x) x = _
          unfold LC.handLt; rw [if_neg this]
        rw [he] at k; exact k H1 h1 k1
    refine s_when (b := S.fl x) (a_B (v_rd T hS .flipped (vv rfl) (vv rfl) hx)) (fun hb => ?_) (fun hb => ?_)
    · have e := handFl_eq S x hb
      refine q_wr2 T hS .left .right (LC.setCh S false x (S.ch true x)) (LC.setCh (LC.setCh S false x (S.ch true x)) true x (S.ch false x)) (nu_tup (args1 (v_rd T hS .right (vv rfl) (vv rfl) hx) (args1 (v_rd T hS .left (vv rfl) (vv rfl) hx) args0)) (by show 2 ≤ 100000; decide))
        (fun _ => vv rfl) (fun _ => vv rfl) (fun _ => vv rfl) hx hx (fun i _ => fv_chF S x _ i) (else_chF S x _) (hS.wf.setCh _ _ _ (hS.wf.ch _ _)) (fun i _ => fv_chT _ x _ i) (else_chT _ x _) ((hS.wf.setCh _ _ _ (hS.wf.ch _ _)).setCh _ _ _ (hS.wf.ch _ _)) fun H1 h1 k1 => ?_
      have c1 : (LC.setCh (LC.setCh S false x (S.ch true x)) true x (S.ch false x)).ch false x = S.ch true x := by simp [LC.setCh, LC.upc]
      have c2 : ∀ o, (LC.flip1 (LC.setCh (LC.setCh S false x (S.ch true x)) true x (S.ch false x)) o).ch true x = S.ch false x := by intro o; cases o <;> simp [LC.flip1, LC.setCh, LC.upc]
      have nf : ∀ (t : LC.S) o, (LC.flip1 t o).n = t.n := by intro t o; cases o <;> rfl
      refine q_call h1 (by decide +kernel) (vv rfl) (args1 (v_rd T h1 .left (vv rfl) (vv rfl) hx) args0) ?_
      refine ⟨s, A, _, _, rfl, h1, S.ch true x, by show [oV ((LC.setCh (LC.setCh S false x (S.ch true x)) true x (S.ch false x)).ch false x)] ++ [] = _; rw [c1]; rfl, fun y hy => hS.wf.ch _ _ _ hy, fun H2 h2 k2 => ?_⟩
      refine q_call h2 (by decide +kernel) (vv rfl) (args1 (v_rd T h2 .right (vv rfl) (vv rfl) (by rw [nf]; exact hx)) args0) ?_
      refine ⟨s, A, _, _, rfl, h2, S.ch false x, by show [oV ((LC.flip1 (LC.setCh (LC.setCh S false x (S.ch true x)) true x (S.ch false x)) (S.ch true x)).ch true x)] ++ [] = _; rw [c2]; rfl, fun y hy => by rw [nf]; exact hS.wf.ch _ _ _ hy, fun H3 h3 k3 => ?_⟩
      refine s_wr T h3 .flipped (LC.handFl S x) vc (vv rfl) (vv rfl) (by rw [nf, nf]; exact hx) (fun i _ => by rw [e]; exact up_map V.bl _ x false i) (by rw [e]; exact else_fl _ _) wf1 fun H4 h4 k4 => ?_
      exact ⟨rfl, h4, ((k1.trans k2).trans k3).trans k4⟩
    · have he : LC.handFl S x = S := by unfold LC.handFl; rw [if_neg (by rw [hb]; decide)]
      exact ⟨rfl, by rw [he]; exact hS, Keep.refl _ _⟩
end
end TC
namespace TC
open PySem PySem.Spec PyProof.Rows L2
section
variable {P : Program} {w : World} {K : PySem.W.Frag} {mg : Str → Option Value} {base : Heap} {H H' : Hp} {s : Addr} {A : Fd → Addr} {S S' : LC.S} {σ : L2.St} {ta tb tx te tx2 : TE} {D : Ends} {v : V} {t1 t2 tz : TS}
def kids (S : LC.S) (x : Nat) : List Nat := (S.ch false x).toList ++ (S.ch true x).toList
def iV (n : Nat) : V := .int n
theorem kids_sum (S : LC.S) (x : Nat) (f : Nat → Int) : ((kids S x).map f).sum = LC.om f (S.ch false x) + LC.om f (S.ch true x) := by
  unfold kids; cases S.ch false x <;> cases S.ch true x <;> simp [LC.om]
theorem kids_len (S : LC.S) (x : Nat) : (kids S x).length ≤ 2 := by
  unfold kids; cases S.ch false x <;> cases S.ch true x <;> simp
theorem kids_lt (h : Wf S) {x y : Nat} (hy : y ∈ kids S x) : y < S.n := by
  unfold kids at hy
  rcases List.mem_append.mp hy with q | q
  · exact h.ch false x y (Option.mem_toList.mp q)
  · exact h.ch true x y (Option.mem_toList.mp q)
theorem kids_max (S : LC.S) (x : Nat) : LC.omax (LC.omax (S.wo x) S.mo (S.ch false x)) S.mo (S.ch true x) ∈ S.wo x :: (kids S x).map S.mo ∧ ∀ y ∈ S.wo x :: (kids S x).map S.mo, y ≤ LC.omax (LC.omax (S.wo x) S.mo (S.ch false x)) S.mo (S.ch true x) := by
  unfold kids
  cases S.ch false x with
  | none =>
    cases S.ch true x with
    | none => simp [LC.omax]
    | some b => simp only [LC.omax]; simp; split <;> simp <;> omega
  | some a =>
    cases S.ch true x with
    | none => simp only [LC.omax]; simp; split <;> simp <;> omega
    | some b => simp only [LC.omax]; simp; (repeat' split) <;> simp <;> omega
theorem kids_filter (S : LC.S) (x : Nat) : (([S.ch false x, S.ch true x].filter fun o => !decide (oV o = .non)).map oV) = (kids S x).map iV := by
  have h : ∀ y : Nat, decide (V.int (y : Int) = V.non) = false := fun y => decide_eq_false (fun q => by cases q)
  have h0 : decide (V.non = V.non) = true := decide_eq_true rfl
  unfold kids
  cases S.ch false x <;> cases S.ch true x <;> simp [oV, iV]
def fGather : List V → LC.S → (V → LC.S → Prop) → Prop := fun as S k => ∃ x, as = [.int (x : Nat)] ∧ x < S.n ∧ k .non (LC.gather S x)
theorem nl_kids (T : Tx w K mg) (h : StrAt K H s A S) (f : Fd) (g : Nat → Int) {x : Nat} {p : Addr} (hp : H p = some (.lst ((kids S x).map iV))) {ob : Option V} {r : List (Option V)} {a1 : Option V} (ht : f.typed = true)
    (hg : ∀ y, fv S f y = .int (g y)) : NewL (tLc (iList K (tVar 2)) (gName 3) tYes (tOp (rIxL K) (tFld K (tVar 0) f.nm) (tVar 3)) [3]) (some (.ref s) :: ob :: some (.ref p) :: a1 :: r) H (((kids S x).map g).map V.int) := by
  have := nl_lcL (K := K) (te := tOp (rIxL K) (tFld K (tVar 0) f.nm) (tVar 3)) (tt := tYes) (tl := tVar 2) (σ := some (.ref s) :: ob :: some (.ref p) :: a1 :: r) (H := H) (ks := kids S x) (φ := iV) (p := fun _ => true) (g := fun y => V.int (g y)) (j := 3) (vs := [3]) (vv rfl) (SqL.of hp) (by have := kids_len S x; omega)
    (fun _ => by show ((((some (V.ref s) :: ob :: some (V.ref p) :: a1 :: r).set 3 none).set 3 _).set 3 none) = ((some (V.ref s) :: ob :: some (V.ref p) :: a1 :: r).set 3 none); simp) (fun _ _ _ _ => ans_yes) (fun y hy _ H1 e1 => by
      have h1 := h.ex e1
      rw [← hg]
      exact v_rd T h1 f (vv rfl) (vv rfl) (kids_lt h.wf hy) ht)
  rw [List.filter_eq_self.mpr (fun _ _ => rfl)] at this
  rw [List.map_map]; exact this
theorem nl_kidsl (T : Tx w K mg) (h : StrAt K H s A S) (f : Fd) {x : Nat} {p : Addr} (hp : H p = some (.lst ((kids S x).map iV))) {ob : Option V} {r : List (Option V)} {a1 : Option V} (ht : f.loose = true) :
    ∃ zs : List Int, NewL (tLc (iList K (tVar 2)) (gName 3) tYes (tOp (rIxL K) (tFld K (tVar 0) f.nm) (tVar 3)) [3]) (some (.ref s) :: ob :: some (.ref p) :: a1 :: r) H (zs.map V.int) := by
  obtain ⟨xs, a, b, l, _⟩ := h.lst f
  have hnt : ¬ f.typed = true := by cases f <;> first | exact absurd ht (by decide) | decide
  unfold FieldOk at b
  rw [if_neg hnt, if_pos ht] at b
  obtain ⟨zs, l1, e⟩ := b
  cases e
  refine ⟨(kids S x).map fun y => zs.getD y 0, ?_⟩
  have := nl_lcL (K := K) (te := tOp (rIxL K) (tFld K (tVar 0) f.nm) (tVar 3)) (tt := tYes) (tl := tVar 2) (σ := some (.ref s) :: ob :: some (.ref p) :: a1 :: r) (H := H) (ks := kids S x) (φ := iV) (p := fun _ => true) (g := fun y => V.int (zs.getD y 0)) (j := 3) (vs := [3]) (vv rfl) (SqL.of hp) (by have := kids_len S x; omega)
    (fun _ => by show ((((some (V.ref s) :: ob :: some (V.ref p) :: a1 :: r).set 3 none).set 3 _).set 3 none) = ((some (V.ref s) :: ob :: some (V.ref p) :: a1 :: r).set 3 none); simp) (fun _ _ _ _ => ans_yes) (fun y hy _ H1 e1 => by
      have hy' := kids_lt h.wf hy
      exact v_ixL (v_st T (h.ex e1) f (vv rfl)) (SqL.of (e1 _ _ a)) (vv rfl) (by rw [List.getElem?_map, List.getElem?_eq_getElem (by omega)]; simp [List.getD, List.getElem?_eq_getElem (show y < zs.length by omega)]))
  rw [List.filter_eq_self.mpr (fun _ _ => rfl)] at this
  rw [List.map_map]; exact this
theorem ok_st_gather (T : Tx w K mg) : Ok P w K mg base 1 .st_gather (spSt K fGather) := by
  refine T.okd .st_gather sc_st_gather (fun vs H Q E h => ?_) (fun cdv A0 outer s0 H vs Q E hr h => ⟨_, (pss_cons (ps_setLc (i := 2) (own := [("one", 3)]) (g := gName 3) (tt := (tTest (tOp rNotN (tVar 3) (tC .non)))) (te := (tVar 3)) rfl sc_st_gather.nd rfl rfl (sw_true rfl rfl rfl (by decide +kernel)) (pi_tup (pe_tup (pa_cons (pe_ix ix_list (pe_fld (pv 0) rfl) (pv 1) (fun _ _ => rfl)) (pa_cons (pe_ix ix_list (pe_fld (pv 0) rfl) (pv 1) (fun _ _ => rfl)) pa_nil)))) (blkOk_by (N := ["self", "x", "below", "one", "many", "total"]) (own := [("one", 3)]) (sc := defScope (Dn.sm .st_gather)) (by decide +kernel)) (fun _ _ _ _ _ => (by exact (pg_name (i := 3) sc_st_gather.nd rfl (Or.inl rfl)))) (fun _ _ _ _ _ => (by exact (pts_one (pt_cmpR op_notN1 (pv 3) pe_non (nomark _))))) (fun _ _ _ _ _ => (by exact (pv 3))))
    (pss_cons (ps_asg (pe_op op_add pe_int (pe_callB (cr_sum rfl) (by rfl) (T.free _ (by decide +kernel)) (by decide +kernel) (by exact (pa_cons (pe_lc (own := [("one", 3)]) (g := gName 3) (tt := tYes) (te := (tOp (rIxL K) (tFld K (tVar 0) "many") (tVar 3))) rfl sc_st_gather.nd (pi_list (pv 2)) (blkOk_by (N := ["self", "x", "below", "one", "many", "total"]) (own := [("one", 3)]) (sc := defScope (Dn.sm .st_gather)) (by decide +kernel)) (fun _ _ _ _ _ => (by exact (pg_name (i := 3) sc_st_gather.nd rfl (Or.inl rfl)))) (fun _ _ _ _ _ => (by exact pts_nil)) (fun _ _ _ _ _ => (by exact (pe_ix ix_list (pe_fld (pv 0) rfl) (pv 3) (fun _ _ => rfl))))) pa_nil)))) (pg_sub (pe_fld (pv 0) rfl) (pv 1) set_list))
    (pss_cons (ps_asg (pe_op op_add (pe_ix ix_list (pe_fld (pv 0) rfl) (pv 1) (fun _ _ => rfl)) (pe_callB (cr_sum rfl) (by rfl) (T.free _ (by decide +kernel)) (by decide +kernel) (by exact (pa_cons (pe_lc (own := [("one", 3)]) (g := gName 3) (tt := tYes) (te := (tOp (rIxL K) (tFld K (tVar 0) "total") (tVar 3))) rfl sc_st_gather.nd (pi_list (pv 2)) (blkOk_by (N := ["self", "x", "below", "one", "many", "total"]) (own := [("one", 3)]) (sc := defScope (Dn.sm .st_gather)) (by decide +kernel)) (fun _ _ _ _ _ => (by exact (pg_name (i := 3) sc_st_gather.nd rfl (Or.inl rfl)))) (fun _ _ _ _ _ => (by exact pts_nil)) (fun _ _ _ _ _ => (by exact (pe_ix ix_list (pe_fld (pv 0) rfl) (pv 3) (fun _ _ => rfl))))) pa_nil)))) (pg_sub (pe_fld (pv 0) rfl) (pv 1) set_list))
    (pss_cons (ps_asg (pe_callB (cr_max rfl) (by rfl) (T.free _ (by decide +kernel)) (by decide +kernel) (by exact (pa_cons (pe_op op_cat (pe_lst (pa_cons (pe_ix ix_list (pe_fld (pv 0) rfl) (pv 1) (fun _ _ => rfl)) pa_nil)) (pe_lc (own := [("one", 3)]) (g := gName 3) (tt := tYes) (te := (tOp (rIxL K) (tFld K (tVar 0) "most") (tVar 3))) rfl sc_st_gather.nd (pi_list (pv 2)) (blkOk_by (N := ["self", "x", "below", "one", "many", "total"]) (own := [("one", 3)]) (sc := defScope (Dn.sm .st_gather)) (by decide +kernel)) (fun _ _ _ _ _ => (by exact (pg_name (i := 3) sc_st_gather.nd rfl (Or.inl rfl)))) (fun _ _ _ _ _ => (by exact pts_nil)) (fun _ _ _ _ _ => (by exact (pe_ix ix_list (pe_fld (pv 0) rfl) (pv 3) (fun _ _ => rfl)))))) pa_nil))) (pg_sub (pe_fld (pv 0) rfl) (pv 1) set_list))
    (pss_cons (ps_asg (pe_ix ix_list (pe_fld (pv 0) rfl) (pv 1) (fun _ _ => rfl)) (pg_sub (pe_fld (pv 0) rfl) (pv 1) set_list))
    (pss_cons (ps_for PassesOwn.never rfl (pi_list (pv 2)) (pg_name (i := 3) sc_st_gather.nd rfl (Or.inl rfl)) (pss_one (ps_asg (pe_op op_or (pe_ix ix_list (pe_fld (pv 0) rfl) (pv 1) (fun _ _ => rfl)) (pe_ix ix_list (pe_fld (pv 0) rfl) (pv 3) (fun _ _ => rfl))) (pg_sub (pe_fld (pv 0) rfl) (pv 1) set_list))))
    (pss_cons (ps_asg (pe_ix ix_list (pe_fld (pv 0) rfl) (pv 1) (fun _ _ => rfl)) (pg_tup rfl (pgs_cons (pg_name (i := 4) sc_st_gather.nd rfl (Or.inl rfl)) (pgs_cons (pg_name (i := 5) sc_st_gather.nd rfl (Or.inl rfl)) pgs_nil))))
    (pss_cons (ps_asg (pe_op op_add (pe_op op_add pe_int (pv 4)) (pe_callB (cr_sum rfl) (by rfl) (T.free _ (by decide +kernel)) (by decide +kernel) (by exact (pa_cons (pe_lc (own := [("one", 3)]) (g := gName 3) (tt := tYes) (te := (tOp (rIxL K) (tFld K (tVar 0) "all_many") (tVar 3))) rfl sc_st_gather.nd (pi_list (pv 2)) (blkOk_by (N := ["self", "x", "below", "one", "many", "total"]) (own := [("one", 3)]) (sc := defScope (Dn.sm .st_gather)) (by decide +kernel)) (fun _ _ _ _ _ => (by exact (pg_name (i := 3) sc_st_gather.nd rfl (Or.inl rfl)))) (fun _ _ _ _ _ => (by exact pts_nil)) (fun _ _ _ _ _ => (by exact (pe_ix ix_list (pe_fld (pv 0) rfl) (pv 3) (fun _ _ => rfl))))) pa_nil)))) (pg_sub (pe_fld (pv 0) rfl) (pv 1) set_list))
    (pss_one (ps_asg (pe_op op_add (pe_op op_add (pe_ix ix_list (pe_fld (pv 0) rfl) (pv 1) (fun _ _ => rfl)) (pv 5)) (pe_callB (cr_sum rfl) (by rfl) (T.free _ (by decide +kernel)) (by decide +kernel) (by exact (pa_cons (pe_lc (own := [("one", 3)]) (g := gName 3) (tt := tYes) (te := (tOp (rIxL K) (tFld K (tVar 0) "all_total") (tVar 3))) rfl sc_st_gather.nd (pi_list (pv 2)) (blkOk_by (N := ["self", "x", "below", "one", "many", "total"]) (own := [("one", 3)]) (sc := defScope (Dn.sm .st_gather)) (by decide +kernel)) (fun _ _ _ _ _ => (by exact (pg_name (i := 3) sc_st_gather.nd rfl (Or.inl rfl)))) (fun _ _ _ _ _ => (by exact pts_nil)) (fun _ _ _ _ _ => (by exact (pe_ix ix_list (pe_fld (pv 0) rfl) (pv 3) (fun _ _ => rfl))))) pa_nil)))) (pg_sub (pe_fld (pv 0) rfl) (pv 1) set_list))))))))))), ?_⟩)
  · obtain ⟨s, A, S, as, rfl, _, x, rfl, _⟩ := h; rfl
  · obtain ⟨s, A, S, as, rfl, hS, x, rfl, hx, k⟩ := h
    refine q_setL (ys := (kids S x).map iV) ?_ ?_
    · rw [← kids_filter]
      refine nl_lcU (ks := [S.ch false x, S.ch true x]) (φ := oV) (nu_tup (args1 (v_rd T hS .left (vv rfl) (vv rfl) hx) (args1 (v_rd T hS .right (vv rfl) (vv rfl) hx) args0)) (by show 2 ≤ 100000; decide)) (by show 2 ≤ 50000; decide) (fun _ => rfl)
        (fun o _ H1 _ => a_test (v_notN (vv rfl))) (fun o _ _ H1 _ => vv rfl)
    · intro p H1 hp e1 h1p
      have h1 := hS.ex e1
      have pn : ∀ f, p ≠ A f := fun f q => by
        obtain ⟨xs, a, _⟩ := hS.lst f
        rw [q, a] at hp; cases hp
      have kp1 : Keep A H H1 := fun q o h _ => e1 q o h
      refine q_wrE T h1 .many { S with mn := LC.up S.mn x (1 + ((kids S x).map S.mn).sum) } (ve_I0 vc (ve_sum (nl_kids T h1 .many S.mn h1p rfl (fun _ => rfl)))) (fun _ => vv rfl) (fun _ => vv rfl) hx (fun i _ => up_map V.int S.mn x _ i) (else_mn S _) ⟨hS.wf.ch, hS.wf.ab⟩ fun H2 h2 k2 => ?_
      have h2p := k2 p _ h1p pn
      refine q_wrE T h2 .total { S with mn := LC.up S.mn x (1 + ((kids S x).map S.mn).sum), to := LC.up S.to x (S.wo x + ((kids S x).map S.to).sum) } (ve_I0 (v_rd T h2 .worth (vv rfl) (vv rfl) hx) (ve_sum (nl_kids T h2 .total S.to h2p rfl (fun _ => rfl)))) (fun _ => vv rfl) (fun _ => vv rfl) hx (fun i _ => up_map V.int S.to x _ i) (else_to _ _) ⟨hS.wf.ch, hS.wf.ab⟩ fun H3 h3 k3 => ?_
      have h3p := k3 p _ h2p pn
      have eg : LC.gather S x = { S with mn := LC.up S.mn x (1 + ((kids S x).map S.mn).sum), to := LC.up S.to x (S.wo x + ((kids S x).map S.to).sum), mo := LC.up S.mo x (LC.omax (LC.omax (S.wo x) S.mo (S.ch false x)) S.mo (S.ch true x)) } := by
        unfold LC.gather; rw [kids_sum, kids_sum]
      refine q_wrE T h3 .most (LC.gather S x) (ve_max (ns := S.wo x :: (kids S x).map S.mo) (nl_cat (xs := [V.int (S.wo x)]) (nl_lst (args1 (v_rd T h3 .worth (vv rfl) (vv rfl) hx) args0) (by show 1 ≤ 100000; decide)) (fun H4 e4 => nl_kids T (h3.ex e4) .most S.mo (e4 _ _ h3p) rfl (fun _ => rfl)) (by
        have := kids_len S x; rw [List.length_map, List.length_map]; simp only [List.length_cons, List.length_nil]; omega)) (kids_max S x).1 (kids_max S x).2) (fun _ => vv rfl) (fun _ => vv rfl) hx (fun i _ => by rw [eg]; exact up_map V.int S.mo x _ i) (by rw [eg]; exact else_mo _ _) ⟨hS.wf.ch, hS.wf.ab⟩ fun H4 h4 k4 => ?_
      have h4p := k4 p _ h3p pn
      have xn : x < (LC.gather S x).n := hx
      obtain ⟨z1, hz1⟩ := v_rdl (σ := [some (.ref s), some (.int x), some (.ref p), none, none, none]) (tb := tVar 0) (tx := tVar 1) T h4 .bits (vv rfl) (vv rfl) xn
      refine q_wrlE T h4 .all_bits (Val.e hz1) (fun _ => vv rfl) (fun _ => vv rfl) xn fun H5 h5 k5 => ?_
      have h5p := k5 p _ h4p pn
      refine q_forL (xs := (kids S x).map iV) (vv rfl) (SqL.of h5p) (fun i σ' H' => (∃ u, σ' = [some (.ref s), some (.int x), some (.ref p), u, none, none]) ∧ StrAt K H' s A (LC.gather S x) ∧ H' p = some (.lst ((kids S x).map iV)) ∧ Keep A H H') ⟨⟨none, rfl⟩, h5, h5p, (((kp1.trans k2).trans k3).trans k4).trans k5⟩
        (fun i σ' H' _ hP => SqL.of hP.2.2.1) ?_ ?_
      · rintro i y σ' H' hy ⟨⟨u, rfl⟩, h6, h6p, k6⟩
        rw [List.getElem?_map] at hy
        cases hk : (kids S x)[i]? with
        | none => rw [hk] at hy; cases hy
        | some c =>
          rw [hk] at hy; cases hy
          have hc : c < (LC.gather S x).n := kids_lt hS.wf (List.mem_of_getElem? hk)
          obtain ⟨z1, hz1⟩ := v_rdl (σ := [some (.ref s), some (.int x), some (.ref p), some (iV c), none, none]) (tb := tVar 0) (tx := tVar 1) T h6 .all_bits (vv rfl) (vv rfl) xn
          obtain ⟨z2, hz2⟩ := v_rdl (σ := [some (.ref s), some (.int x), some (.ref p), some (iV c), none, none]) (tb := tVar 0) (tx := tVar 3) T h6 .all_bits (vv rfl) (vv rfl) hc
          exact s_wrlE T h6 .all_bits (Val.e (v_I0 hz1 hz2)) (fun _ => vv rfl) (fun _ => vv rfl) xn fun H7 h7 k7 => ⟨⟨_, rfl⟩, h7, k7 p _ h6p pn, k6.trans k7⟩
      · rintro σ' H6 ⟨⟨u, rfl⟩, h6, h6p, k6⟩
        obtain ⟨t, a, b, ht, hv⟩ := v_rdh (σ := [some (.ref s), some (.int x), some (.ref p), u, none, none]) (tb := tVar 0) (tx := tVar 1) T h6 (vv rfl) (vv rfl) xn
        refine q_unp2 hv (SqT.of ht) ?_
        obtain ⟨zs, hzs⟩ := nl_kidsl (ob := some (.int x)) (r := [some (.int a), some (.int b)]) (a1 := u) T h6 .all_many h6p rfl
        refine q_wrlE T h6 .all_many (ve_I0 (v_I0 vc (vv rfl)) (ve_sum hzs)) (fun _ => vv rfl) (fun _ => vv rfl) xn fun H7 h7 k7 => ?_
        obtain ⟨zs2, hzs2⟩ := nl_kidsl (ob := some (.int x)) (r := [some (.int a), some (.int b)]) (a1 := u) T h7 .all_total (k7 p _ h6p pn) rfl
        exact s_wrlE T h7 .all_total (ve_I0 (v_I0 (v_rd T h7 .worth (vv rfl) (vv rfl) xn) (vv rfl)) (ve_sum hzs2)) (fun _ => vv rfl) (fun _ => vv rfl) xn fun H8 h8 k8 => k H8 h8 ((k6.trans k7).trans k8)
end
end TC
namespace TC
open PySem PySem.Spec PyProof.Rows L2
def cLim : Nat := 16000000
theorem cLim_lt {n : Nat} (h : n ≤ cLim) : n < sizeLine := Nat.lt_of_le_of_lt h (by decide)
section
variable {P : Program} {w : World} {K : PySem.W.Frag} {mg : Str → Option Value} {base : Heap} {H H' : Hp} {s : Addr} {A : Fd → Addr} {S S' : LC.S} {σ : L2.St} {ta tb tx te tx2 : TE} {D : Ends} {v : V} {t1 t2 tz tu : TS} {t : TT}
theorem else_cnt (S : LC.S) : Else S (LC.tick S) .steps := ⟨rfl, fun q => absurd rfl q, fun f hf i hi => by cases f <;> rfl⟩
theorem s_step (T : Tx w K mg) (h : StrAt K H s A S) {ys : List V} (hv : ∀ H1, NewU te σ H1 ys) (hb : Val tb σ H (.ref s)) (hc : S.cnt < sizeLine) (k : ∀ H1, StrAt K H1 s A (LC.tick S) → Keep A H H1 → D.nx σ H1) : tDrop (tBM K "list" rAppend (tFld K tb "steps") (tCons te tNil)) D σ H := by
  obtain ⟨xs, a, _, _, l⟩ := h.lst .steps
  refine v_st T h .steps hb _ ⟨.inl ⟨rfl, _, SqL.of a⟩, hv H _ fun p H1 hp e1 hp1 => ?_⟩
  have h1 := h.ex e1
  refine ⟨A .steps, xs, .ref p, rfl, rfl, e1 _ _ a, by rw [l rfl]; exact hc, ?_⟩
  obtain ⟨a1, b1⟩ := h1.put (S' := LC.tick S) .steps (xs ++ [.ref p]) (by
    unfold FieldOk
    rw [if_neg (by decide), if_neg (by decide), if_neg (by decide)]
    exact ⟨_, rfl, by rw [List.length_append, l rfl]; rfl⟩) (else_cnt S).ok ⟨h.wf.ch, h.wf.ab⟩
  exact k _ a1 fun q o hq n => b1 q o (e1 q o hq) n
theorem ae_top (h : StrAt K H s A S) {x : Nat} (hb : Val tb σ H (.ref s)) (hx : Val tx σ H (.int x)) (hlt : x < S.n) : AnsE (tB (tMeth (Cad K .st) "is_top" (spRd K fIsTop) [] E0 tb (tCons tx tNil))) σ H (LC.isTop S x) := fun Q q =>
  c_stV h (by decide +kernel) hb (args1 hx args0) ⟨s, A, S, _, rfl, h, x, rfl, hlt, fun H' e => ⟨_, rfl, q H' e⟩⟩
theorem ae_not {b : Bool} (h : AnsE t σ H b) : AnsE (tNot t) σ H (!b) := fun Q q => h _ fun H' e => q H' e
theorem q_cut {M : L2.St → Hp → Prop} (h : t1 { D with nx := M } σ H) (k : ∀ σ' H', M σ' H' → tu D σ' H') : Evl.tCut t1 tu D σ H := ⟨M, h, k⟩
theorem q_while (W : Nat → L2.St → Hp → Prop) (m0 : Nat) (h0 : W m0 σ H) (hs : ∀ m σ' H', W m σ' H' → ∃ b, AnsE t σ' H' b ∧ (b = true → ∀ H1, Ex H' H1 → t1 { D with nx := fun σ2 H2 => ∃ m', m' < m ∧ W m' σ2 H2, ct := fun σ2 H2 => ∃ m', m' < m ∧ W m' σ2 H2, bk := tz D } σ' H1) ∧ (b = false → ∀ H1, Ex H' H1 → tz D σ' H1)) :
    tSeq (tWhile t t1) tz D σ H := ⟨W, ⟨m0, h0⟩, fun m σ' H' hW => by
  obtain ⟨b, hb, h1, h2⟩ := hs m σ' H' hW
  refine hb _ fun H1 e1 => ?_
  cases b with
  | true => exact iteT ⟨_, fun _ _ q => q, h1 rfl H1 e1⟩
  | false => exact iteF (h2 rfl H1 e1)⟩
theorem s_while (W : Nat → L2.St → Hp → Prop) (m0 : Nat) (h0 : W m0 σ H) (hs : ∀ m σ' H', W m σ' H' → ∃ b, AnsE t σ' H' b ∧ (b = true → ∀ H1, Ex H' H1 → t1 { D with nx := fun σ2 H2 => ∃ m', m' < m ∧ W m' σ2 H2, ct := fun σ2 H2 => ∃ m', m' < m ∧ W m' σ2 H2, bk := D.nx } σ' H1) ∧ (b = false → ∀ H1, Ex H' H1 → D.nx σ' H1)) :
    tWhile t t1 D σ H := ⟨W, ⟨m0, h0⟩, fun m σ' H' hW => by
  obtain ⟨b, hb, h1, h2⟩ := hs m σ' H' hW
  refine hb _ fun H1 e1 => ?_
  cases b with
  | true => exact iteT ⟨_, fun _ _ q => q, h1 rfl H1 e1⟩
  | false => exact iteF (h2 rfl H1 e1)⟩
theorem exKeep (e : Ex H H') : Keep A H H' := fun q o h _ => e q o h
theorem Wf.n {S S' : LC.S} (h : Wf S) (e1 : S'.ch = S.ch) (e2 : S'.ab = S.ab) (e3 : S'.n = S.n) : Wf S' := ⟨fun c x y q => by rw [e3]; exact h.ch c x y (by rw [← e1]; exact q), fun x y q => by rw [e3]; exact h.ab x y (by rw [← e2]; exact q)⟩
def fTurn : List V → LC.S → (V → LC.S → Prop) → Prop := fun as S k => ∃ x u, as = [.int (x : Nat)] ∧ x < S.n ∧ S.ab x = some u ∧ (LC.turn S x).cnt ≤ cLim ∧ k .non (LC.turn S x)
theorem Wf.putBelow {S : LC.S} (h : Wf S) (g : Option Nat) (u x : Nat) (hx : x < S.n) : Wf (LC.putBelow S g u x) ∧ (LC.putBelow S g u x).n = S.n ∧ (LC.putBelow S g u x).ab = S.ab := by
  cases g with
  | none => exact ⟨h, rfl, rfl⟩
  | some g =>
    show Wf (if S.ch false g = some u then LC.setCh S false g (some x) else if S.ch true g = some u then LC.setCh S true g (some x) else S) ∧ (if S.ch false g = some u then LC.setCh S false g (some x) else if S.ch true g = some u then LC.setCh S true g (some x) else S).n = S.n ∧ (if S.ch false g = some u then LC.setCh S false g (some x) else if S.ch true g = some u then LC.setCh S true g (some x) else S).ab = S.ab
    by_cases q1 : S.ch false g = some u
    · rw [if_pos q1]; exact ⟨h.setCh _ _ _ (fun y e => by cases e; exact hx), rfl, rfl⟩
    · rw [if_neg q1]
      by_cases q2 : S.ch true g = some u
      · rw [if_pos q2]; exact ⟨h.setCh _ _ _ (fun y e => by cases e; exact hx), rfl, rfl⟩
      · rw [if_neg q2]; exact ⟨h, rfl, rfl⟩
theorem ok_st_turn (T : Tx w K mg) : Ok P w K mg base 2 .st_turn (spSt K fTurn) := by
  refine T.okd .st_turn sc_st_turn (fun vs H Q E h => ?_) (fun cdv A0 outer s0 H vs Q E hr h => ⟨_, (pss_cons (ps_set (i := 2) sc_st_turn.nd rfl (Or.inl rfl) (pe_ix ix_list (pe_fld (pv 0) rfl) (pv 1) (fun _ _ => rfl)))
    (pss_cons (ps_set (i := 3) sc_st_turn.nd rfl (Or.inl rfl) (pe_ix ix_list (pe_fld (pv 0) rfl) (pv 2) (fun _ _ => rfl)))
    (Evl.pss_cut (ps_if (pt_not (pt_val (pe_meth (pv 0) (T.cls .st) (T.meth .st _ (by decide +kernel)) (ok_st_is_top T) (hr.mono (by decide)) (b_st_is_top T) .nil pass0 (pa_cons (pv 2) pa_nil)))) (pss_one (ps_expr (pe_meth (pv 0) (T.cls .st) (T.meth .st _ (by decide +kernel)) (ok_st_put_below T) (hr.mono (by decide)) (b_st_put_below T) .nil pass0 (pa_cons (pv 3) (pa_cons (pv 2) (pa_cons (pv 1) pa_nil)))))) pss_nil)
    (pss_cons (ps_asg (pv 3) (pg_sub (pe_fld (pv 0) rfl) (pv 1) set_list))
    (Evl.pss_cut (ps_if (pt_cmpR op_eq (pe_ix ix_list (pe_fld (pv 0) rfl) (pv 2) (fun _ _ => rfl)) (pv 1) (nomark _)) (pss_cons (ps_set (i := 4) sc_st_turn.nd rfl (Or.inl rfl) (pe_ix ix_list (pe_fld (pv 0) rfl) (pv 1) (fun _ _ => rfl)))
    (pss_one (ps_asg (pe_tup (pa_cons (pv 4) (pa_cons (pv 2) pa_nil))) (pg_tup rfl (pgs_cons (pg_sub (pe_fld (pv 0) rfl) (pv 2) set_list) (pgs_cons (pg_sub (pe_fld (pv 0) rfl) (pv 1) set_list) pgs_nil)))))) (pss_cons (ps_set (i := 4) sc_st_turn.nd rfl (Or.inl rfl) (pe_ix ix_list (pe_fld (pv 0) rfl) (pv 1) (fun _ _ => rfl)))
    (pss_one (ps_asg (pe_tup (pa_cons (pv 4) (pa_cons (pv 2) pa_nil))) (pg_tup rfl (pgs_cons (pg_sub (pe_fld (pv 0) rfl) (pv 2) set_list) (pgs_cons (pg_sub (pe_fld (pv 0) rfl) (pv 1) set_list) pgs_nil)))))))
    (pss_cons (ps_asg (pv 1) (pg_sub (pe_fld (pv 0) rfl) (pv 2) set_list))
    (Evl.pss_cut (ps_if (pt_cmpR op_notN1 (pv 4) pe_non (nomark _)) (pss_one (ps_asg (pv 2) (pg_sub (pe_fld (pv 0) rfl) (pv 4) set_list))) pss_nil)
    (pss_cons (ps_expr (pe_meth (pv 0) (T.cls .st) (T.meth .st _ (by decide +kernel)) (ok_st_gather T) (hr.mono (by decide)) (b_st_gather T) .nil pass0 (pa_cons (pv 2) pa_nil)))
    (pss_cons (ps_expr (pe_meth (pv 0) (T.cls .st) (T.meth .st _ (by decide +kernel)) (ok_st_gather T) (hr.mono (by decide)) (b_st_gather T) .nil pass0 (pa_cons (pv 1) pa_nil)))
    (pss_one (ps_expr (pe_bm PySem.F.plainAttrs_list PySem.F.slot_list_append PySem.F.type_list_append mt_append (pe_fld (pv 0) rfl) (pa_cons (pe_tup (pa_cons pe_str (pa_cons (pv 1) pa_nil))) pa_nil))))))))))))), ?_⟩)
  · obtain ⟨s, A, S, as, rfl, _, x, u, rfl, _⟩ := h; rfl
  · obtain ⟨s, A, S, as, rfl, hS, x, u, rfl, hx, hu, hc, k⟩ := h
    have hun := hS.wf.ab x u hu
    have vu : fv S .above x = .int u := by show oV (S.ab x) = _; rw [hu]; rfl
    refine q_set (v := .int u) (by rw [← vu]; exact v_rd T hS .above (vv rfl) (vv rfl) hx) ?_
    refine q_set (v_rd T hS .above (vv rfl) (vv rfl) hun) ?_
    obtain ⟨wf1, n1, ab1⟩ := hS.wf.putBelow (S.ab u) u x hx
    refine q_cut (M := fun σ' H1 => σ' = [some (.ref s), some (.int x), some (.int u), some (oV (S.ab u)), none] ∧ StrAt K H1 s A (if LC.isTop S u then S else LC.putBelow S (S.ab u) u x) ∧ Keep A H H1) ?_ ?_
    · refine s_ifE (ae_not (ae_top hS (vv rfl) (vv rfl) hun)) (fun hb H1 e1 => ?_) (fun hb H1 e1 => ?_)
      · have ht : LC.isTop S u = false := by simpa using hb
        refine s_call (hS.ex e1) (by decide +kernel) (vv rfl) (args1 (vv rfl) (args1 (vv rfl) (args1 (vv rfl) args0))) ?_
        refine ⟨s, A, S, _, rfl, hS.ex e1, S.ab u, u, x, rfl, fun y hy => hS.wf.ab _ _ hy, hx, fun H2 h2 k2 => ⟨rfl, by rw [ht]; exact h2, (exKeep e1).trans k2⟩⟩
      · have ht : LC.isTop S u = true := by simpa using hb
        exact ⟨rfl, by rw [ht]; exact hS.ex e1, exKeep e1⟩
    rintro _ H1 ⟨rfl, h1, k1⟩
    have p1 : Wf (if LC.isTop S u then S else LC.putBelow S (S.ab u) u x) ∧ (if LC.isTop S u then S else LC.putBelow S (S.ab u) u x).n = S.n := by
      split
      · exact ⟨hS.wf, rfl⟩
      · exact ⟨wf1, n1⟩
    obtain ⟨S1, eS1⟩ : ∃ S1, S1 = (if LC.isTop S u then S else LC.putBelow S (S.ab u) u x) := ⟨_, rfl⟩
    have et : LC.turn S x = if (LC.setAb S1 x (S.ab u)).ch false u = some x then LC.turnAt (LC.setAb S1 x (S.ab u)) x u false else LC.turnAt (LC.setAb S1 x (S.ab u)) x u true := by
      unfold LC.turn; rw [hu, eS1]
    rw [← eS1] at h1 p1
    obtain ⟨w1, n1⟩ := p1
    refine q_wr T h1 .above (LC.setAb S1 x (S.ab u)) (vv rfl) (vv rfl) (vv rfl) (by rw [n1]; exact hx) (fun i _ => up_map oV S1.ab x _ i) (else_ab _ _) (w1.setAb _ _ fun y e => by rw [n1]; exact hS.wf.ab _ _ e) fun H2 h2 k2 => ?_
    obtain ⟨S2, eS2⟩ : ∃ S2, S2 = LC.setAb S1 x (S.ab u) := ⟨_, rfl⟩
    have n2 : S2.n = S.n := by rw [eS2]; exact n1
    rw [← eS2] at h2 et
    have hx2 : x < S2.n := by rw [n2]; exact hx
    have hu2 : u < S2.n := by rw [n2]; exact hun
    obtain ⟨b, hb⟩ : ∃ b, b = !decide (S2.ch false u = some x) := ⟨_, rfl⟩
    have et' : LC.turn S x = LC.turnAt S2 x u b := by
      rw [et, hb]; by_cases q : S2.ch false u = some x <;> simp [q]
    have w5 : Wf (LC.setCh (LC.setCh S2 b u (S2.ch (!b) x)) (!b) x (some u)) := (h2.wf.setCh b u _ (h2.wf.ch _ _)).setCh _ _ _ (fun y e => by cases e; exact hu2)
    refine q_cut (M := fun σ' H3 => σ' = [some (.ref s), some (.int x), some (.int u), some (oV (S.ab u)), some (oV (S2.ch (!b) x))] ∧ StrAt K H3 s A (LC.setCh (LC.setCh S2 b u (S2.ch (!b) x)) (!b) x (some u)) ∧ Keep A H H3) ?_ ?_
    · refine s_if (b := decide (S2.ch false u = some x)) (a_test (by rw [← dec_oV]; exact v_eq (v_rd T h2 .left (vv rfl) (vv rfl) hu2) (vv rfl) (scal_oV _ _))) (fun q => ?_) (fun q => ?_)
      · have eb : b = false := by rw [hb, q]; rfl
        subst eb
        refine q_set (v_rd T h2 .right (vv rfl) (vv rfl) hx2) ?_
        exact s_wr2 T h2 .left .right (LC.setCh S2 false u (S2.ch true x)) (LC.setCh (LC.setCh S2 false u (S2.ch true x)) true x (some u)) (nu_tup (args1 (vv rfl) (args1 (vv rfl) args0)) (by show 2 ≤ 100000; decide)) (fun _ => vv rfl) (fun _ => vv rfl) (fun _ => vv rfl) hu2 hx2
          (fun i _ => fv_chF S2 u _ i) (else_chF S2 u _) (h2.wf.setCh _ _ _ (h2.wf.ch _ _)) (fun i _ => fv_chT _ x (some u) i) (else_chT _ x _) w5 fun H3 h3 k3 => ⟨rfl, h3, (k1.trans k2).trans k3⟩
      · have eb : b = true := by rw [hb, q]; rfl
        subst eb
        refine q_set (v_rd T h2 .left (vv rfl) (vv rfl) hx2) ?_
        exact s_wr2 T h2 .right .left (LC.setCh S2 true u (S2.ch false x)) (LC.setCh (LC.setCh S2 true u (S2.ch false x)) false x (some u)) (nu_tup (args1 (vv rfl) (args1 (vv rfl) args0)) (by show 2 ≤ 100000; decide)) (fun _ => vv rfl) (fun _ => vv rfl) (fun _ => vv rfl) hu2 hx2
          (fun i _ => fv_chT S2 u _ i) (else_chT S2 u _) (h2.wf.setCh _ _ _ (h2.wf.ch _ _)) (fun i _ => fv_chF _ x (some u) i) (else_chF _ x _) w5 fun H3 h3 k3 => ⟨rfl, h3, (k1.trans k2).trans k3⟩
    rintro _ H3 ⟨rfl, h3, k3⟩
    obtain ⟨S3, eS3⟩ : ∃ S3, S3 = LC.setCh (LC.setCh S2 b u (S2.ch (!b) x)) (!b) x (some u) := ⟨_, rfl⟩
    rw [← eS3] at h3 w5
    have n3 : S3.n = S.n := by rw [eS3]; exact n2
    refine q_wr T h3 .above (LC.setAb S3 u (some x)) (vv rfl) (vv rfl) (vv rfl) (by rw [n3]; exact hun) (fun i _ => up_map oV S3.ab u (some x) i) (else_ab _ _) (w5.setAb _ _ fun y e => by cases e; rw [n3]; exact hx) fun H4 h4 k4 => ?_
    have w4 := h4.wf
    have hin : ∀ y, S2.ch (!b) x = some y → y < S.n := fun y e => by rw [← n2]; exact h2.wf.ch _ _ _ e
    refine q_cut (M := fun σ' H5 => σ' = [some (.ref s), some (.int x), some (.int u), some (oV (S.ab u)), some (oV (S2.ch (!b) x))] ∧ StrAt K H5 s A (LC.turnPtr S2 x u b) ∧ Keep A H H5) ?_ ?_
    · have ep : LC.turnPtr S2 x u b = LC.setAbO (LC.setAb S3 u (some x)) (S2.ch (!b) x) (some u) := by rw [eS3]; rfl
      cases hi : S2.ch (!b) x with
      | none =>
        refine s_when (b := false) (a_test (v_notN (x := .non) (vv rfl))) (fun q => by cases q) fun _ => ⟨rfl, by rw [ep, hi]; exact h4, k3.trans k4⟩
      | some y =>
        refine s_when (b := true) (a_test (v_notN (x := .int y) (vv rfl))) (fun _ => ?_) (fun q => by cases q)
        refine s_wr T h4 .above (LC.turnPtr S2 x u b) (v := .int u) (x := y) (vv rfl) (vv rfl) (vv rfl) (by show y < S3.n; rw [n3]; exact hin y hi) (fun i _ => by rw [ep, hi]; exact up_map oV _ y (some u) i) (by rw [ep, hi]; exact else_ab _ _) (by rw [ep, hi]; exact w4.setAb _ _ fun z e => by cases e; show u < S3.n; rw [n3]; exact hun) fun H5 h5 k5 => ⟨rfl, h5, (k3.trans k4).trans k5⟩
    rintro _ H5 ⟨rfl, h5, k5⟩
    have n5 : (LC.turnPtr S2 x u b).n = S.n := by rw [(LC.turnPtr_same S2 x u b).2.2.2.2.2.2.1, n2]
    rw [et', LC.turnAt_eq] at k hc
    refine q_call h5 (by decide +kernel) (vv rfl) (args1 (vv rfl) args0) ?_
    refine ⟨s, A, _, _, rfl, h5, u, rfl, by rw [n5]; exact hun, fun H6 h6 k6 => ?_⟩
    refine q_call h6 (by decide +kernel) (vv rfl) (args1 (vv rfl) args0) ?_
    refine ⟨s, A, _, _, rfl, h6, x, rfl, by show x < (LC.turnPtr S2 x u b).n; rw [n5]; exact hx, fun H7 h7 k7 => ?_⟩
    refine s_step T h7 (fun H1 => nu_tup (args1 vc (args1 (vv rfl) args0)) (by show 2 ≤ 100000; decide)) (vv rfl) (cLim_lt (Nat.le_of_succ_le hc)) fun H8 h8 k8 => k H8 h8 (((k5.trans k6).trans k7).trans k8)
end
end TC
namespace TC
open PySem PySem.Spec PyProof.Rows L2
section
variable {P : Program} {w : World} {K : PySem.W.Frag} {mg : Str → Option Value} {base : Heap} {H H' : Hp} {s : Addr} {A : Fd → Addr} {S S' : LC.S} {σ : L2.St} {ta tb tx te tl : TE} {D : Ends} {v : V} {t1 t2 tz tu : TS} {t : TT}
theorem s_append {a : Addr} {xs : List V} {tr : TA} (hb : Val tb σ H (.ref a)) (ha : H a = some (.lst xs)) (hv : Args tr σ H [v]) (hl : xs.length < sizeLine) (k : D.nx σ (upd H a (.lst (xs ++ [v])))) : tDrop (tBM K "list" rAppend tb tr) D σ H :=
  hb _ ⟨.inl ⟨rfl, _, SqL.of ha⟩, hv _ ⟨a, xs, v, rfl, rfl, ha, hl, k⟩⟩
theorem q_append {a : Addr} {xs : List V} {tr : TA} (hb : Val tb σ H (.ref a)) (ha : H a = some (.lst xs)) (hv : Args tr σ H [v]) (hl : xs.length < sizeLine) (k : tz D σ (upd H a (.lst (xs ++ [v])))) : tSeq (tDrop (tBM K "list" rAppend tb tr)) tz D σ H :=
  s_append (D := { D with nx := tz D }) hb ha hv hl k
theorem v_last {a : Addr} {xs : List V} (hb : Val tb σ H (.ref a)) (ha : SqL K H a (xs ++ [v])) (hx : Val tx σ H (.int (-1))) : Val (tOp (rIxL K) tb tx) σ H v := fun Q q =>
  hb _ (hx _ ⟨a, _, (-1 : Int), v, rfl, rfl, ha, atI_last xs v, q⟩)
theorem s_forR {a : Addr} {xs : List V} {j : Nat} (h : Args ta' σ H [.ref a]) (hx : SqL K H a xs) (Pv : Nat → L2.St → Hp → Prop) (h0 : Pv 0 σ H) (hl : ∀ i σ' H', i ≤ xs.length → Pv i σ' H' → SqL K H' a xs)
    (hs : ∀ i x σ' H', xs[xs.length - 1 - i]? = some x → i < xs.length → Pv i σ' H' → t1 { D with nx := Pv (i + 1), ct := Pv (i + 1), bk := D.nx } (σ'.set j (some x)) H') (hd : ∀ σ' H', Pv xs.length σ' H' → D.nx σ' H') : tFor (iRev K ta') (gName j) t1 D σ H :=
  h _ ⟨a, xs, rfl, hx, for_it walk_rev Pv h0 hl (fun i x σ' H1 H2 hi hp hy => by
    obtain ⟨rfl, hy⟩ := hy
    exact hs i x σ' H2 hy hi hp) hd⟩
theorem Keep.upd {a : Addr} {o : HO} (hn : H a = none ∨ True) (h0 : ∀ f, a ≠ A f) (hk : Keep A H0 H) (hf : H0 a = none) : Keep A H0 (upd H a o) := fun q o' h n => by
  rw [upd_ne (fun e => by rw [e, hf] at h; cases h)]; exact hk q o' h n
theorem StrAt.updn (h : StrAt K H s A S) {a : Addr} {xs ys : List V} (ha : H a = some (.lst xs)) (hn : ∀ f, a ≠ A f) : StrAt K (upd H a (.lst ys)) s A S := by
  obtain ⟨⟨dx, h1⟩, h2, h3, h4⟩ := h
  refine ⟨⟨dx, by rw [upd_ne (ne_of h1 ha (by intro z; cases z))]; exact h1⟩, h2, fun f => ?_, h4⟩
  obtain ⟨o, a1, b⟩ := h3 f
  exact ⟨o, by rw [upd_ne (fun e => hn f e.symm)]; exact a1, b.ex fun t zs q => by rw [upd_ne (ne_of q ha (by intro z; cases z))]; exact q⟩
theorem MnOk.foldl {p : List Nat} {S : LC.S} (h : LC.MnOk S) : LC.MnOk (p.foldl LC.handDown S) := by
  induction p generalizing S with
  | nil => exact h
  | cons a r ih => exact ih (MnOk.handDown h a)
def fUnfold : List V → LC.S → (V → LC.S → Prop) → Prop := fun as S k => ∃ x p, as = [.int (x : Nat)] ∧ x < S.n ∧ S.n ≤ 10000 ∧ LC.MnOk S ∧ LC.climb S (S.n + 1) x [] = some p ∧ k .non (p.foldl LC.handDown S)
theorem ok_st_unfold (T : Tx w K mg) : Ok P w K mg base 3 .st_unfold (spSt K fUnfold) := by
  refine T.okd .st_unfold sc_st_unfold (fun vs H Q E h => ?_) (fun cdv A0 outer s0 H vs Q E hr h => ⟨_, (pss_cons (ps_set (i := 2) sc_st_unfold.nd rfl (Or.inl rfl) (pe_lst (pa_cons (pv 1) pa_nil)))
    (pss_cons (ps_while PassesOwn.never (pt_not (pt_val (pe_meth (pv 0) (T.cls .st) (T.meth .st _ (by decide +kernel)) (ok_st_is_top T) (hr.mono (by decide)) (b_st_is_top T) .nil pass0 (pa_cons (pe_ix ix_list (pv 2) (pe_un un_neg pe_int) (fun _ _ => rfl)) pa_nil)))) (pss_one (ps_expr (pe_bm PySem.F.plainAttrs_list PySem.F.slot_list_append PySem.F.type_list_append mt_append (pv 2) (pa_cons (pe_ix ix_list (pe_fld (pv 0) rfl) (pe_ix ix_list (pv 2) (pe_un un_neg pe_int) (fun _ _ => rfl)) (fun _ _ => rfl)) pa_nil)))))
    (pss_one (ps_for PassesOwn.never rfl (pi_reversed (by rfl) (T.free _ (by decide +kernel)) (pa_cons (pv 2) pa_nil)) (pg_name (i := 3) sc_st_unfold.nd rfl (Or.inl rfl)) (pss_one (ps_expr (pe_meth (pv 0) (T.cls .st) (T.meth .st _ (by decide +kernel)) (ok_st_hand_down T) (hr.mono (by decide)) (b_st_hand_down T) .nil pass0 (pa_cons (pv 3) pa_nil)))))))), ?_⟩)
  · obtain ⟨s, A, S, as, rfl, _, x, p, rfl, _⟩ := h; rfl
  · obtain ⟨s, A, S, as, rfl, hS, x, p, rfl, hx, hn, hM, hp, k⟩ := h
    refine q_setL (ys := [.int x]) (nl_lst (args1 (vv rfl) args0) (by show 1 ≤ 100000; decide)) fun r H1 hr0 e1 h1r => ?_
    have rn : ∀ f, r ≠ A f := fun f q => by
      obtain ⟨xs, a, _⟩ := hS.lst f
      rw [q, a] at hr0; cases hr0
    refine q_while (W := fun m σ' H' => σ' = [some (.ref s), some (.int x), some (.ref r), none] ∧ StrAt K H' s A S ∧ Keep A H H' ∧ ∃ (rs : List Nat) (z : Nat), H' r = some (.lst ((rs ++ [z]).map iV)) ∧ z < S.n ∧ (∀ y ∈ rs, y < S.n) ∧ LC.climb S m z rs.reverse = some p ∧ rs.length + m = S.n + 1) (S.n + 1)
      ⟨rfl, hS.ex e1, exKeep e1, [], x, h1r, hx, ⟨fun y hy => absurd hy (by simp), hp, Nat.zero_add _⟩⟩ ?_
    rintro m _ H2 ⟨rfl, h2, k2, rs, z, h2r, hz, hrs, hc, hl⟩
    have sq : SqL K H2 r (rs.map iV ++ [iV z]) := SqL.of (by rw [h2r]; simp)
    refine ⟨!LC.isTop S z, ae_not (fun Q q => c_stV h2 (by decide +kernel) (vv rfl) (args1 (v_last (vv rfl) sq v_ix0) args0) ⟨s, A, S, _, rfl, h2, z, rfl, hz, fun H' e => ⟨_, rfl, q H' e⟩⟩), fun hb H3 e3 => ?_, fun hb H3 e3 => ?_⟩
    · have ht : LC.isTop S z = false := by simpa using hb
      cases m with
      | zero => simp [LC.climb] at hc
      | succ m =>
        simp only [LC.climb, ht] at hc
        cases hu : S.ab z with
        | none => rw [hu] at hc; simp at hc
        | some u =>
          rw [hu] at hc
          have hun := hS.wf.ab z u hu
          have h3 := h2.ex e3
          have sq3 : SqL K H3 r (rs.map iV ++ [iV z]) := ex_l e3 sq
          have g3 := e3 _ _ h2r
          refine s_append (v := .int u) (vv rfl) g3 (args1 (by rw [show V.int u = fv S .above z by show _ = oV (S.ab z); rw [hu]; rfl]; exact v_rd T h3 .above (vv rfl) (v_last (vv rfl) sq3 v_ix0) hz) args0) (by
            rw [List.length_map, List.length_append, List.length_singleton]; exact sz_lt (by omega)) ?_
          refine ⟨m, Nat.lt_succ_self m, rfl, h3.updn g3 rn, Keep.upd (.inr trivial) rn (k2.ex e3) hr0, rs ++ [z], u, by rw [upd_same, List.map_append (l₁ := rs ++ [z])]; rfl, hun, fun y hy => ?_, by rw [List.reverse_append]; exact hc, by rw [List.length_append, List.length_singleton]; omega⟩
          rcases List.mem_append.mp hy with q | q
          · exact hrs y q
          · exact (List.mem_singleton.mp q) ▸ hz
    · have ht : LC.isTop S z = true := by simpa using hb
      cases m with
      | zero => simp [LC.climb] at hc
      | succ m =>
        simp only [LC.climb, ht, if_true] at hc
        have ep : (rs ++ [z]).reverse = p := by rw [List.reverse_append]; exact Option.some.inj hc
        have hpn : ∀ y ∈ p, y < S.n := fun y hy => by
          rw [← ep] at hy
          rcases List.mem_append.mp (List.mem_reverse.mp hy) with q | q
          · exact hrs y q
          · exact (List.mem_singleton.mp q) ▸ hz
        have g3 := e3 _ _ h2r
        have lp : p.length = ((rs ++ [z]).map iV).length := by rw [← ep, List.length_reverse, List.length_map]
        refine s_forR (args1 (vv rfl) args0) (SqL.of g3) (fun i σ' H' => (∃ o, σ' = [some (.ref s), some (.int x), some (.ref r), o]) ∧ StrAt K H' s A ((p.take i).foldl LC.handDown S) ∧ Keep A H H' ∧ H' r = some (.lst ((rs ++ [z]).map iV))) ⟨⟨none, rfl⟩, h2.ex e3, k2.ex e3, g3⟩ (fun i σ' H' _ h => SqL.of h.2.2.2) ?_ ?_
        · rintro i y σ' H4 hy hi ⟨⟨o, rfl⟩, h4, k4, g4⟩
          have hi' : i < p.length := by omega
          have hpi : ∃ c, p[i]? = some c ∧ y = iV c := by
            rw [List.getElem?_map] at hy
            rw [← ep, List.getElem?_reverse (by rw [← List.length_reverse, ep]; exact hi')]
            rw [List.length_map] at hy
            cases hc2 : (rs ++ [z])[(rs ++ [z]).length - 1 - i]? with
            | none => rw [hc2] at hy; cases hy
            | some c => rw [hc2] at hy; cases hy; exact ⟨c, rfl, rfl⟩
          obtain ⟨c, hpc, rfl⟩ := hpi
          have hcn := hpn c (List.mem_of_getElem? hpc)
          have et : p.take (i + 1) = p.take i ++ [c] := by rw [List.take_add_one, hpc]; rfl
          refine s_call h4 (by decide +kernel) (vv rfl) (args1 (vv rfl) args0) ⟨s, A, _, _, rfl, h4, c, rfl, by rw [(LC.hand_cnt _ S).2]; exact hcn, MnOk.foldl hM, fun H5 h5 k5 => ⟨⟨_, rfl⟩, by rw [et, List.foldl_append]; exact h5, k4.trans k5, k5 r _ g4 rn⟩⟩
        · rintro σ' H4 ⟨⟨o, rfl⟩, h4, k4, g4⟩
          rw [← lp, List.take_length] at h4
          exact k H4 h4 k4
theorem gather_ab (S : LC.S) (x : Nat) : (LC.gather S x).ab = S.ab := rfl
theorem turnAt_ab (S : LC.S) (x u : Nat) (b : Bool) : (LC.turnAt S x u b).ab = (LC.setAbO (LC.setAb S u (some x)) (S.ch (!b) x) (some u)).ab := by
  unfold LC.turnAt
  cases S.ch (!b) x <;> rfl
theorem turn_ab_some {S : LC.S} {c u y : Nat} (hu : S.ab c = some u) (hg : (S.ab u).isSome ∨ y ≠ c) (hy : (S.ab y).isSome) : ∃ z, (LC.turn S c).ab y = some z := by
  have key : ∀ (S2 : LC.S) (b : Bool), (S2.ab y).isSome → ∃ z, (LC.turnAt S2 c u b).ab y = some z := by
    intro S2 b h2
    rw [turnAt_ab]
    have h3 : ((LC.setAb S2 u (some c)).ab y).isSome := by
      show (LC.up S2.ab u (some c) y).isSome
      unfold LC.up; split
      · rfl
      · exact h2
    cases S2.ch (!b) c with
    | none => exact Option.isSome_iff_exists.mp h3
    | some i =>
      show ∃ z, LC.up (LC.setAb S2 u (some c)).ab i (some u) y = some z
      unfold LC.up; split
      · exact ⟨_, rfl⟩
      · exact Option.isSome_iff_exists.mp h3
  have h1 : ((LC.setAb (if LC.isTop S u then S else LC.putBelow S (S.ab u) u c) c (S.ab u)).ab y).isSome := by
    have e : (if LC.isTop S u then S else LC.putBelow S (S.ab u) u c).ab = S.ab := by
      split
      · rfl
      · cases S.ab u with
        | none => rfl
        | some g =>
          simp only [LC.putBelow]
          split
          · rfl
          · split <;> rfl
    show (LC.up _ c (S.ab u) y).isSome
    rw [e]
    unfold LC.up; split
    · rename_i q; rcases hg with g | g
      · exact g
      · exact absurd q g
    · exact hy
  have et : LC.turn S c = if (LC.setAb (if LC.isTop S u then S else LC.putBelow S (S.ab u) u c) c (S.ab u)).ch false u = some c then LC.turnAt (LC.setAb (if LC.isTop S u then S else LC.putBelow S (S.ab u) u c) c (S.ab u)) c u false else LC.turnAt (LC.setAb (if LC.isTop S u then S else LC.putBelow S (S.ab u) u c) c (S.ab u)) c u true := by
    unfold LC.turn; rw [hu]
  rw [et]
  generalize LC.setAb (if LC.isTop S u then S else LC.putBelow S (S.ab u) u c) c (S.ab u) = S2 at h1 ⊢
  split
  · exact key _ _ h1
  · exact key _ _ h1
def fLift : List V → LC.S → (V → LC.S → Prop) → Prop := fun as S k => ∃ x S', as = [.int (x : Nat)] ∧ x < S.n ∧ S.n ≤ 10000 ∧ LC.lift S x = some S' ∧ S'.cnt ≤ cLim ∧ k .non S'
theorem a_oV (hx : Val te σ H (oV o)) (hy : Val tx σ H (.int (y : Nat))) : Val (tOp rEq te tx) σ H (.bl (o == some y)) := by
  have := v_eq hx hy (scal_oV _ _)
  rw [dec_oV] at this
  rw [show (o == some y) = decide (o = some y) by cases h : (o == some y) <;> simp_all]; exact this
theorem v_eqB {a b : Bool} (ha : Val ta σ H (.bl a)) (hb : Val tb σ H (.bl b)) : Val (tOp rEq ta tb) σ H (.bl (a == b)) := by
  have := v_eq ha hb rfl
  rw [show (a == b) = decide (V.bl a = V.bl b) by cases a <;> cases b <;> simp]; exact this
theorem ok_st_lift (T : Tx w K mg) : Ok P w K mg base 4 .st_lift (spSt K fLift) := by
  refine T.okd .st_lift sc_st_lift (fun vs H Q E h => ?_) (fun cdv A0 outer s0 H vs Q E hr h => ⟨_, (pss_cons (ps_expr (pe_meth (pv 0) (T.cls .st) (T.meth .st _ (by decide +kernel)) (ok_st_unfold T) (hr.mono (by decide)) (b_st_unfold T) .nil pass0 (pa_cons (pv 1) pa_nil)))
    (pss_one (ps_while PassesOwn.never (pt_not (pt_val (pe_meth (pv 0) (T.cls .st) (T.meth .st _ (by decide +kernel)) (ok_st_is_top T) (hr.mono (by decide)) (b_st_is_top T) .nil pass0 (pa_cons (pv 1) pa_nil)))) (pss_cons (ps_set (i := 2) sc_st_lift.nd rfl (Or.inl rfl) (pe_ix ix_list (pe_fld (pv 0) rfl) (pv 1) (fun _ _ => rfl)))
    (Evl.pss_cut (ps_if (pt_not (pt_val (pe_meth (pv 0) (T.cls .st) (T.meth .st _ (by decide +kernel)) (ok_st_is_top T) (hr.mono (by decide)) (b_st_is_top T) .nil pass0 (pa_cons (pv 2) pa_nil)))) (pss_cons (ps_set (i := 3) sc_st_lift.nd rfl (Or.inl rfl) (pe_ix ix_list (pe_fld (pv 0) rfl) (pv 2) (fun _ _ => rfl)))
    (pss_cons (ps_set (i := 4) sc_st_lift.nd rfl (Or.inl rfl) (pe_cmpR op_eq (pe_cmpR op_eq (pe_ix ix_list (pe_fld (pv 0) rfl) (pv 2) (fun _ _ => rfl)) (pv 1) (nomark _)) (pe_cmpR op_eq (pe_ix ix_list (pe_fld (pv 0) rfl) (pv 3) (fun _ _ => rfl)) (pv 2) (nomark _)) (nomark _)))
    (pss_one (ps_expr (pe_meth (pv 0) (T.cls .st) (T.meth .st _ (by decide +kernel)) (ok_st_turn T) (hr.mono (by decide)) (b_st_turn T) .nil pass0 (pa_cons (pe_ifExp (pt_val (pv 4)) (pv 2) (pv 1)) pa_nil)))))) pss_nil)
    (pss_one (ps_expr (pe_meth (pv 0) (T.cls .st) (T.meth .st _ (by decide +kernel)) (ok_st_turn T) (hr.mono (by decide)) (b_st_turn T) .nil pass0 (pa_cons (pv 1) pa_nil))))))))), ?_⟩)
  · obtain ⟨s, A, S, as, rfl, _, x, S', rfl, _⟩ := h; rfl
  · obtain ⟨s, A, S, as, rfl, hS, x, S', rfl, hx, hn, hl, hc, k⟩ := h
    unfold LC.lift at hl
    split at hl
    rotate_left
    · cases hl
    rename_i hM
    cases hp : LC.climb S (S.n + 1) x [] with
    | none => rw [hp] at hl; cases hl
    | some p =>
      rw [hp] at hl
      refine q_call hS (by decide +kernel) (vv rfl) (args1 (vv rfl) args0) ⟨s, A, S, _, rfl, hS, x, p, rfl, hx, hn, hM, hp, fun H1 h1 k1 => ?_⟩
      refine s_while (W := fun m σ' H' => (∃ o1 o2 o3, σ' = [some (.ref s), some (.int x), o1, o2, o3]) ∧ ∃ S1, StrAt K H' s A S1 ∧ S1.n = S.n ∧ LC.liftL m S1 x = some S' ∧ Keep A H H') (S.n + 1) ⟨⟨_, _, _, rfl⟩, _, h1, (LC.hand_cnt _ _).2, hl, k1⟩ ?_
      rintro m _ H2 ⟨⟨o1, o2, o3, rfl⟩, S1, h2, n1, hl1, k2⟩
      have hx1 : x < S1.n := by rw [n1]; exact hx
      refine ⟨!LC.isTop S1 x, ae_not (ae_top h2 (vv rfl) (vv rfl) hx1), fun hb H3 e3 => ?_, fun hb H3 e3 => ?_⟩
      · have ht : LC.isTop S1 x = false := by simpa using hb
        cases m with
        | zero => simp [LC.liftL] at hl1
        | succ m =>
          simp only [LC.liftL, ht] at hl1
          cases hu : S1.ab x with
          | none => rw [hu] at hl1; simp at hl1
          | some u =>
            rw [hu] at hl1
            simp only [Bool.false_eq_true, if_false] at hl1
            have h3 := h2.ex e3
            have hun := h3.wf.ab x u hu
            have vu : fv S1 .above x = .int u := by show oV (S1.ab x) = _; rw [hu]; rfl
            refine q_set (v := .int u) (by rw [← vu]; exact v_rd T h3 .above (vv rfl) (vv rfl) hx1) ?_
            refine q_cut (M := fun σ' H4 => (∃ o2 o3, σ' = [some (.ref s), some (.int x), some (.int u), o2, o3]) ∧ ∃ S2 u2, StrAt K H4 s A S2 ∧ S2.n = S.n ∧ Keep A H H4 ∧ S2.ab x = some u2 ∧ LC.liftL m (LC.turn S2 x) x = some S') ?_ ?_
            · refine s_ifE (ae_not (ae_top h3 (vv rfl) (vv rfl) hun)) (fun hb4 H4 e4 => ?_) (fun hb4 H4 e4 => ?_)
              · have ht4 : LC.isTop S1 u = false := by simpa using hb4
                rw [ht4] at hl1
                simp only [Bool.false_eq_true, if_false] at hl1
                cases hg : S1.ab u with
                | none => rw [hg] at hl1; simp at hl1
                | some g =>
                  rw [hg] at hl1
                  have h4 := h3.ex e4
                  have hgn := h4.wf.ab u g hg
                  have vg : fv S1 .above u = .int g := by show oV (S1.ab u) = _; rw [hg]; rfl
                  refine q_set (v := .int g) (by rw [← vg]; exact v_rd T h4 .above (vv rfl) (vv rfl) hun) ?_
                  obtain ⟨al, eal⟩ : ∃ al, al = ((S1.ch false u == some x) == (S1.ch false g == some u)) := ⟨_, rfl⟩
                  simp only [← eal] at hl1
                  refine q_set (v := .bl al) (by rw [eal]; exact v_eqB (a_oV (v_rd T h4 .left (vv rfl) (vv rfl) hun) (vv rfl)) (a_oV (v_rd T h4 .left (vv rfl) (vv rfl) hgn) (vv rfl))) ?_
                  have tgt : ∀ σ4 H4, (∃ o2 , σ4 = [some (.ref s), some (.int x), some (.int u), o2, some (.bl al)]) → Val (tIf (tB (tVar 4)) (tVar 2) (tVar 1)) σ4 H4 (.int ((if al = true then u else x : Nat) : Nat)) := by
                    rintro _ H5 ⟨o5, rfl⟩
                    refine v_if (b := al) (a_B (vv rfl)) (fun q => ?_) (fun q => ?_)
                    · rw [if_pos q]; exact vv rfl
                    · rw [if_neg (by rw [q]; decide)]; exact vv rfl
                  obtain ⟨uu, huu⟩ : ∃ uu, S1.ab (if al = true then u else x) = some uu := by cases al <;> simp [hu, hg]
                  have hcn : (LC.turn S1 (if al = true then u else x)).cnt ≤ cLim := by
                    have a1 := (LC.turn_cnt (LC.turn S1 (if al = true then u else x)) x).1
                    have a2 := (LC.liftL_cnt _ _ _ _ hl1).1
                    omega
                  refine s_call h4 (by decide +kernel) (vv rfl) (args1 (tgt _ _ ⟨_, rfl⟩) args0) ⟨s, A, S1, _, rfl, h4, _, uu, rfl, by split <;> assumption, huu, hcn, fun H5 h5 k5 => ?_⟩
                  obtain ⟨u2, hu2⟩ : ∃ u2, (LC.turn S1 (if al = true then u else x)).ab x = some u2 := turn_ab_some huu (by
                    cases al with
                    | true => by_cases q : x = u
                              · left; rw [if_pos rfl, hg] at huu; cases huu; rw [q] at hu; rw [hg] at hu; cases hu; rw [hg]; rfl
                              · right; exact q
                    | false => left; rw [if_neg (by decide), hu] at huu; cases huu; rw [hg]; rfl) (by rw [hu]; rfl)
                  exact ⟨⟨_, _, rfl⟩, _, u2, h5, (LC.turn_cnt _ _).2.trans n1, (k2.ex (e3.trans e4)).trans k5, hu2, hl1⟩
              · have ht4 : LC.isTop S1 u = true := by simpa using hb4
                rw [ht4] at hl1
                simp only [if_true] at hl1
                exact ⟨⟨_, _, rfl⟩, S1, u, h3.ex e4, n1, k2.ex (e3.trans e4), hu, hl1⟩
            · rintro _ H4 ⟨⟨o2, o3, rfl⟩, S2, u2, h4, n2, k4, hu2, hl2⟩
              have hcn : (LC.turn S2 x).cnt ≤ cLim := Nat.le_trans (LC.liftL_cnt _ _ _ _ hl2).1 hc
              exact s_call h4 (by decide +kernel) (vv rfl) (args1 (vv rfl) args0) ⟨s, A, S2, _, rfl, h4, x, u2, rfl, by rw [n2]; exact hx, hu2, hcn, fun H5 h5 k5 => ⟨m, Nat.lt_succ_self m, ⟨_, _, _, rfl⟩, _, h5, (LC.turn_cnt _ _).2.trans n2, hl2, k4.trans k5⟩⟩
      · have ht : LC.isTop S1 x = true := by simpa using hb
        cases m with
        | zero => simp [LC.liftL] at hl1
        | succ m =>
          simp only [LC.liftL, ht, if_true] at hl1
          cases hl1
          exact k H3 (h2.ex e3) (k2.ex e3)
end
end TC
namespace TC
open PySem PySem.Spec PyProof.Rows L2
section
variable {P : Program} {w : World} {K : PySem.W.Frag} {mg : Str → Option Value} {base : Heap} {H H' : Hp} {s : Addr} {A : Fd → Addr} {S S' : LC.S} {σ : L2.St} {ta tb tx te tl : TE} {D : Ends} {v : V} {t1 t2 tz tu : TS} {t : TT}
theorem s_wrh (T : Tx w K mg) (h : StrAt K H s A S) {x : Nat} {a b : Int} (hv : NewU te σ H [.int a, .int b]) (hb : ∀ H, Val tb σ H (.ref s)) (hx : ∀ H, Val tx σ H (.int x)) (hlt : x < S.n)
    (k : ∀ H1, StrAt K H1 s A S → Keep A H H1 → D.nx σ H1) : tAsg te (gSub (tFld K tb "hung") tx rSetL) D σ H :=
  hv _ fun p H1 hp e1 h1 => v_st T (h.ex e1) .hung (hb H1) _ (hx H1 _ (by
    obtain ⟨xs, a', b', l, _⟩ := (h.ex e1).lst .hung
    refine ⟨A .hung, xs, x, x, rfl, rfl, a', by rw [l (by decide)]; exact ixN_nat hlt, ?_⟩
    obtain ⟨a1, b1⟩ := (h.ex e1).seth (x := x) ⟨p, a, b, rfl, h1⟩ b'
    exact k _ a1 (fun q o hq n => b1 q o (e1 q o hq) n)))
def fHang : List V → LC.S → (V → LC.S → Prop) → Prop := fun as S k => ∃ u x sg, as = [.int (u : Nat), .int (x : Nat), .int sg] ∧ u < S.n ∧ x < S.n ∧ Small sg ∧ k .non S
theorem v_mull (T : Tx w K mg) (h : StrAt K H s A S) (f : Fd) (hb : Val tb σ H (.ref s)) {x : Nat} {sg : Int} (hs : Val te σ H (.int sg)) (hsm : Small sg) (hx : Val tx σ H (.int x)) (hlt : x < S.n) {tm : TE} {m : Int} (hm : Val tm σ H (.int m)) (ht : f.loose = true := by rfl) :
    ∃ z : Int, Val (tOp (rI0 fun i j => .int (i + j)) tm (tOp (rI (fun i j => (-(2 ^ 64) < i ∧ i < 2 ^ 64) ∨ (-(2 ^ 64) < j ∧ j < 2 ^ 64)) fun i j => .int (i * j)) te (tOp (rIxL K) (tFld K tb f.nm) tx))) σ H (.int z) := by
  obtain ⟨z, hz⟩ := v_rdl T h f hb hx hlt ht
  exact ⟨_, v_I0 hm (v_I hs hz (.inl hsm))⟩
theorem ok_st_hang (T : Tx w K mg) : Ok P w K mg base 1 .st_hang (spSt K fHang) := by
  refine T.okd .st_hang sc_st_hang (fun vs H Q E h => ?_) (fun cdv A0 outer s0 H vs Q E hr h => ⟨_, (pss_cons (ps_asg (pe_ix ix_list (pe_fld (pv 0) rfl) (pv 1) (fun _ _ => rfl)) (pg_tup rfl (pgs_cons (pg_name (i := 4) sc_st_hang.nd rfl (Or.inl rfl)) (pgs_cons (pg_name (i := 5) sc_st_hang.nd rfl (Or.inl rfl)) pgs_nil))))
    (pss_one (ps_asg (pe_tup (pa_cons (pe_op op_add (pv 4) (pe_op op_mul (pv 3) (pe_ix ix_list (pe_fld (pv 0) rfl) (pv 2) (fun _ _ => rfl)))) (pa_cons (pe_op op_add (pv 5) (pe_op op_mul (pv 3) (pe_ix ix_list (pe_fld (pv 0) rfl) (pv 2) (fun _ _ => rfl)))) pa_nil))) (pg_sub (pe_fld (pv 0) rfl) (pv 1) set_list)))), ?_⟩)
  · obtain ⟨s, A, S, as, rfl, _, u, x, sg, rfl, _⟩ := h; rfl
  · obtain ⟨s, A, S, as, rfl, hS, u, x, sg, rfl, hu, hx, hsg, k⟩ := h
    obtain ⟨t, a, b, ht, hv⟩ := v_rdh (σ := L2.start ["self", "u", "x", "sign", "many", "total"] [V.ref s, V.int u, V.int x, V.int sg]) (tb := tVar 0) (tx := tVar 1) T hS (vv rfl) (vv rfl) hu
    refine q_unp2 hv (SqT.of ht) ?_
    obtain ⟨z1, hz1⟩ := v_mull (σ := [some (.ref s), some (.int u), some (.int x), some (.int sg), some (.int a), some (.int b)]) (tb := tVar 0) (te := tVar 3) (tx := tVar 2) (tm := tVar 4) T hS .all_many (vv rfl) (vv rfl) hsg (vv rfl) hx (vv rfl)
    obtain ⟨z2, hz2⟩ := v_mull (σ := [some (.ref s), some (.int u), some (.int x), some (.int sg), some (.int a), some (.int b)]) (tb := tVar 0) (te := tVar 3) (tx := tVar 2) (tm := tVar 5) T hS .all_total (vv rfl) (vv rfl) hsg (vv rfl) hx (vv rfl)
    exact s_wrh T hS (nu_tup (args1 hz1 (args1 hz2 args0)) (by show 2 ≤ 100000; decide)) (fun _ => vv rfl) (fun _ => vv rfl) hu fun H1 h1 k1 => k H1 h1 k1
def fLetGo : List V → LC.S → (V → LC.S → Prop) → Prop := fun as S k => ∃ x, as = [.int (x : Nat)] ∧ x < S.n ∧ (LC.letGo S x).cnt ≤ cLim ∧ k .non (LC.letGo S x)
theorem small1 : Small 1 := ⟨by decide, by decide⟩
theorem smallm1 : Small (-1) := ⟨by decide, by decide⟩
theorem ok_st_let_go (T : Tx w K mg) : Ok P w K mg base 2 .st_let_go (spSt K fLetGo) := by
  refine T.okd .st_let_go sc_st_let_go (fun vs H Q E h => ?_) (fun cdv A0 outer s0 H vs Q E hr h => ⟨_, (Evl.pss_cut (ps_if (pt_cmpR op_notN1 (pe_ix ix_list (pe_fld (pv 0) rfl) (pv 1) (fun _ _ => rfl)) pe_non (nomark _)) (pss_cons (ps_expr (pe_meth (pv 0) (T.cls .st) (T.meth .st _ (by decide +kernel)) (ok_st_hang T) (hr.mono (by decide)) (b_st_hang T) .nil pass0 (pa_cons (pv 1) (pa_cons (pe_ix ix_list (pe_fld (pv 0) rfl) (pv 1) (fun _ _ => rfl)) (pa_cons pe_int pa_nil)))))
    (pss_cons (ps_asg pe_non (pg_sub (pe_fld (pv 0) rfl) (pv 1) set_list))
    (pss_one (ps_expr (pe_meth (pv 0) (T.cls .st) (T.meth .st _ (by decide +kernel)) (ok_st_gather T) (hr.mono (by decide)) (b_st_gather T) .nil pass0 (pa_cons (pv 1) pa_nil)))))) pss_nil)
    (pss_one (ps_expr (pe_bm PySem.F.plainAttrs_list PySem.F.slot_list_append PySem.F.type_list_append mt_append (pe_fld (pv 0) rfl) (pa_cons (pe_tup (pa_cons pe_str (pa_cons (pv 1) pa_nil))) pa_nil))))), ?_⟩)
  · obtain ⟨s, A, S, as, rfl, _, x, rfl, _⟩ := h; rfl
  · obtain ⟨s, A, S, as, rfl, hS, x, rfl, hx, hc, k⟩ := h
    obtain ⟨S1, eS1⟩ : ∃ S1, S1 = (match S.ch true x with | none => S | some _ => LC.gather (LC.setCh S true x none) x) := ⟨_, rfl⟩
    have el : LC.letGo S x = LC.tick S1 := by rw [eS1]; rfl
    rw [el] at hc k
    refine q_cut (M := fun σ' H1 => σ' = [some (.ref s), some (.int x)] ∧ StrAt K H1 s A S1 ∧ Keep A H H1) ?_ ?_
    · refine s_when (b := !decide (oV (S.ch true x) = .non)) (a_test (v_notN (v_rd T hS .right (vv rfl) (vv rfl) hx))) (fun hb => ?_) (fun hb => ?_)
      · cases hi : S.ch true x with
        | none => rw [hi] at hb; cases hb
        | some y =>
          have hy := hS.wf.ch _ _ _ hi
          have vy : fv S .right x = .int y := by show oV (S.ch true x) = _; rw [hi]; rfl
          refine q_call hS (by decide +kernel) (vv rfl) (args1 (vv rfl) (args1 (v := .int y) (by rw [← vy]; exact v_rd T hS .right (vv rfl) (vv rfl) hx) (args1 vc args0))) ⟨s, A, S, _, rfl, hS, x, y, 1, rfl, hx, hy, small1, fun H1 h1 k1 => ?_⟩
          refine q_wr T h1 .right (LC.setCh S true x none) (v := .non) vc (vv rfl) (vv rfl) hx (fun i _ => fv_chT S x none i) (else_chT S x _) (h1.wf.setCh _ _ _ (fun y e => by cases e)) fun H2 h2 k2 => ?_
          exact s_call h2 (by decide +kernel) (vv rfl) (args1 (vv rfl) args0) ⟨s, A, _, _, rfl, h2, x, rfl, hx, fun H3 h3 k3 => ⟨rfl, by rw [eS1, hi]; exact h3, (k1.trans k2).trans k3⟩⟩
      · cases hi : S.ch true x with
        | none => exact ⟨rfl, by rw [eS1, hi]; exact hS, Keep.refl _ _⟩
        | some y => rw [hi] at hb; cases hb
    · rintro _ H1 ⟨rfl, h1, k1⟩
      exact s_step T h1 (fun H1 => nu_tup (args1 vc (args1 (vv rfl) args0)) (by show 2 ≤ 100000; decide)) (vv rfl) (cLim_lt (Nat.le_of_succ_le hc)) fun H8 h8 k8 => k H8 h8 (k1.trans k8)
def fTakeIn : List V → LC.S → (V → LC.S → Prop) → Prop := fun as S k => ∃ u x, as = [.int (u : Nat), .int (x : Nat)] ∧ u < S.n ∧ x < S.n ∧ (LC.takeIn S u x).cnt ≤ cLim ∧ k .non (LC.takeIn S u x)
theorem v_neg1 : Val (tUn (rU fun i => .int (-i)) (tC (.int 1))) σ H (.int (-1)) := v_ix0
theorem ok_st_take_in (T : Tx w K mg) : Ok P w K mg base 2 .st_take_in (spSt K fTakeIn) := by
  refine T.okd .st_take_in sc_st_take_in (fun vs H Q E h => ?_) (fun cdv A0 outer s0 H vs Q E hr h => ⟨_, (pss_cons (ps_expr (pe_meth (pv 0) (T.cls .st) (T.meth .st _ (by decide +kernel)) (ok_st_hang T) (hr.mono (by decide)) (b_st_hang T) .nil pass0 (pa_cons (pv 1) (pa_cons (pv 2) (pa_cons (pe_un un_neg pe_int) pa_nil)))))
    (pss_cons (ps_asg (pv 2) (pg_sub (pe_fld (pv 0) rfl) (pv 1) set_list))
    (pss_cons (ps_expr (pe_meth (pv 0) (T.cls .st) (T.meth .st _ (by decide +kernel)) (ok_st_gather T) (hr.mono (by decide)) (b_st_gather T) .nil pass0 (pa_cons (pv 1) pa_nil)))
    (pss_one (ps_expr (pe_bm PySem.F.plainAttrs_list PySem.F.slot_list_append PySem.F.type_list_append mt_append (pe_fld (pv 0) rfl) (pa_cons (pe_tup (pa_cons pe_str (pa_cons (pv 2) pa_nil))) pa_nil))))))), ?_⟩)
  · obtain ⟨s, A, S, as, rfl, _, u, x, rfl, _⟩ := h; rfl
  · obtain ⟨s, A, S, as, rfl, hS, u, x, rfl, hu, hx, hc, k⟩ := h
    refine q_call hS (by decide +kernel) (vv rfl) (args1 (vv rfl) (args1 (vv rfl) (args1 v_neg1 args0))) ⟨s, A, S, _, rfl, hS, u, x, -1, rfl, hu, hx, smallm1, fun H1 h1 k1 => ?_⟩
    refine q_wr T h1 .right (LC.setCh S true u (some x)) (v := .int x) (vv rfl) (vv rfl) (vv rfl) hu (fun i _ => fv_chT S u (some x) i) (else_chT S u _) (h1.wf.setCh _ _ _ (fun y e => by cases e; exact hx)) fun H2 h2 k2 => ?_
    refine q_call h2 (by decide +kernel) (vv rfl) (args1 (vv rfl) args0) ⟨s, A, _, _, rfl, h2, u, rfl, hu, fun H3 h3 k3 => ?_⟩
    exact s_step T h3 (fun H1 => nu_tup (args1 vc (args1 (vv rfl) args0)) (by show 2 ≤ 100000; decide)) (vv rfl) (cLim_lt (Nat.le_of_succ_le hc)) fun H8 h8 k8 => k H8 h8 (((k1.trans k2).trans k3).trans k8)
def fLead : List V → LC.S → (V → LC.S → Prop) → Prop := fun as S k => ∃ p S' y, as = [.int (p : Nat)] ∧ p < S.n ∧ S.n ≤ 10000 ∧ LC.lead S p = some (S', y) ∧ S'.cnt ≤ cLim ∧ (y < S.n → k (.int (y : Nat)) S')
theorem takeIn_cnt (S : LC.S) (u x : Nat) : (LC.takeIn S u x).cnt = S.cnt + 1 ∧ (LC.takeIn S u x).n = S.n := ⟨rfl, rfl⟩
theorem ok_st_lead (T : Tx w K mg) : Ok P w K mg base 5 .st_lead (spSt K fLead) := by
  refine T.okd .st_lead sc_st_lead (fun vs H Q E h => ?_) (fun cdv A0 outer s0 H vs Q E hr h => ⟨_, (pss_cons (ps_expr (pe_meth (pv 0) (T.cls .st) (T.meth .st _ (by decide +kernel)) (ok_st_lift T) (hr.mono (by decide)) (b_st_lift T) .nil pass0 (pa_cons (pv 1) pa_nil)))
    (pss_cons (ps_expr (pe_meth (pv 0) (T.cls .st) (T.meth .st _ (by decide +kernel)) (ok_st_let_go T) (hr.mono (by decide)) (b_st_let_go T) .nil pass0 (pa_cons (pv 1) pa_nil)))
    (pss_cons (ps_set (i := 2) sc_st_lead.nd rfl (Or.inl rfl) (pv 1))
    (pss_cons (ps_while PassesOwn.never (pt_cmpR op_notN1 (pe_ix ix_list (pe_fld (pv 0) rfl) (pv 2) (fun _ _ => rfl)) pe_non (nomark _)) (pss_cons (ps_set (i := 3) sc_st_lead.nd rfl (Or.inl rfl) (pe_ix ix_list (pe_fld (pv 0) rfl) (pv 2) (fun _ _ => rfl)))
    (pss_cons (ps_expr (pe_meth (pv 0) (T.cls .st) (T.meth .st _ (by decide +kernel)) (ok_st_lift T) (hr.mono (by decide)) (b_st_lift T) .nil pass0 (pa_cons (pv 3) pa_nil)))
    (pss_cons (ps_expr (pe_meth (pv 0) (T.cls .st) (T.meth .st _ (by decide +kernel)) (ok_st_let_go T) (hr.mono (by decide)) (b_st_let_go T) .nil pass0 (pa_cons (pv 3) pa_nil)))
    (pss_cons (ps_expr (pe_meth (pv 0) (T.cls .st) (T.meth .st _ (by decide +kernel)) (ok_st_take_in T) (hr.mono (by decide)) (b_st_take_in T) .nil pass0 (pa_cons (pv 3) (pa_cons (pv 2) pa_nil))))
    (pss_one (ps_set (i := 2) sc_st_lead.nd rfl (Or.inl rfl) (pv 3))))))))
    (pss_cons (ps_expr (pe_meth (pv 0) (T.cls .st) (T.meth .st _ (by decide +kernel)) (ok_st_lift T) (hr.mono (by decide)) (b_st_lift T) .nil pass0 (pa_cons (pv 1) pa_nil)))
    (pss_one (ps_ret (pv 2)))))))), ?_⟩)
  · obtain ⟨s, A, S, as, rfl, _, x, S', y, rfl, _⟩ := h; rfl
  · obtain ⟨s, A, S, as, rfl, hS, p, S', y, rfl, hx, hn, hl, hc, k⟩ := h
    unfold LC.lead at hl
    cases h1 : LC.lift S p with
    | none => rw [h1] at hl; cases hl
    | some s1 =>
      rw [h1] at hl; dsimp only at hl
      cases h2 : LC.leadL (s1.n + 1) (LC.letGo s1 p) p with
      | none => rw [h2] at hl; cases hl
      | some pr =>
        obtain ⟨s2, last⟩ := pr
        rw [h2] at hl; dsimp only at hl
        cases h3 : LC.lift s2 p with
        | none => rw [h3] at hl; cases hl
        | some s3 =>
          rw [h3] at hl; dsimp only at hl; cases hl
          have c1 := LC.lift_cnt h1
          have c2 := LC.letGo_cnt s1 p
          have c3 := LC.leadL_cnt _ _ _ _ _ h2
          have c4 := LC.lift_cnt h3
          refine q_call hS (by decide +kernel) (vv rfl) (args1 (vv rfl) args0) ⟨s, A, S, _, rfl, hS, p, s1, rfl, hx, hn, h1, by omega, fun H1 g1 k1 => ?_⟩
          refine q_call g1 (by decide +kernel) (vv rfl) (args1 (vv rfl) args0) ⟨s, A, s1, _, rfl, g1, p, rfl, by omega, by omega, fun H2 g2 k2 => ?_⟩
          refine q_set (v := .int p) (vv rfl) ?_
          refine q_while (W := fun m σ' H' => ∃ (l : Nat) (o : Option V) (S1 : LC.S), σ' = [some (.ref s), some (.int p), some (.int l), o] ∧ l < S.n ∧ StrAt K H' s A S1 ∧ S1.n = S.n ∧ Keep A H H' ∧ LC.leadL m S1 l = some (s2, y)) (s1.n + 1) ⟨p, _, _, rfl, hx, g2, by omega, k1.trans k2, h2⟩ ?_
          rintro m _ H3 ⟨l, o, S1, rfl, hln, g3, n1, k3, hl3⟩
          have hl1 : l < S1.n := by omega
          refine ⟨!decide (oV (S1.ab l) = .non), (fun Q q => a_test (v_notN (v_rd T g3 .above (vv rfl) (vv rfl) hl1)) _ (q H3 (Ex.refl _))), fun hb H4 e4 => ?_, fun hb H4 e4 => ?_⟩
          · cases m with
            | zero => simp [LC.leadL] at hl3
            | succ m =>
              simp only [LC.leadL] at hl3
              cases hu : S1.ab l with
              | none => rw [hu] at hb; cases hb
              | some u =>
                rw [hu] at hl3; dsimp only at hl3
                have g4 := g3.ex e4
                have hun := g4.wf.ab _ _ hu
                have vu : fv S1 .above l = .int u := by show oV (S1.ab l) = _; rw [hu]; rfl
                cases hf : LC.lift S1 u with
                | none => rw [hf] at hl3; cases hl3
                | some S2 =>
                  rw [hf] at hl3; dsimp only at hl3
                  have d1 := LC.lift_cnt hf
                  have d2 := LC.letGo_cnt S2 u
                  have d3 := takeIn_cnt (LC.letGo S2 u) u l
                  have d4 := LC.leadL_cnt _ _ _ _ _ hl3
                  refine q_set (v := .int u) (by rw [← vu]; exact v_rd T g4 .above (vv rfl) (vv rfl) hl1) ?_
                  refine q_call g4 (by decide +kernel) (vv rfl) (args1 (vv rfl) args0) ⟨s, A, S1, _, rfl, g4, u, S2, rfl, hun, by omega, hf, by omega, fun H5 g5 k5 => ?_⟩
                  refine q_call g5 (by decide +kernel) (vv rfl) (args1 (vv rfl) args0) ⟨s, A, S2, _, rfl, g5, u, rfl, by omega, by omega, fun H6 g6 k6 => ?_⟩
                  refine q_call g6 (by decide +kernel) (vv rfl) (args1 (vv rfl) (args1 (vv rfl) args0)) ⟨s, A, _, _, rfl, g6, u, l, rfl, by omega, by omega, by omega, fun H7 g7 k7 => ?_⟩
                  exact s_set (v := .int u) (vv rfl) ⟨m, Nat.lt_succ_self m, u, _, _, rfl, by omega, g7, by omega, (((k3.ex e4).trans k5).trans k6).trans k7, hl3⟩
          · cases m with
            | zero => simp [LC.leadL] at hl3
            | succ m =>
              simp only [LC.leadL] at hl3
              cases hu : S1.ab l with
              | some u => rw [hu] at hb; cases hb
              | none =>
                rw [hu] at hl3; dsimp only at hl3; cases hl3
                have g4 := g3.ex e4
                refine q_call g4 (by decide +kernel) (vv rfl) (args1 (vv rfl) args0) ⟨s, A, _, _, rfl, g4, p, S', rfl, by omega, by omega, h3, by omega, fun H5 g5 k5 => ?_⟩
                exact s_ret (v := .int y) (vv rfl) (k hln H5 g5 ((k3.ex e4).trans k5))
end
end TC
namespace TC
open PySem PySem.Spec PyProof.Rows L2
section
variable {P : Program} {w : World} {K : PySem.W.Frag} {mg : Str → Option Value} {base : Heap} {H H' H0 : Hp} {s : Addr} {A : Fd → Addr} {S S' : LC.S} {σ : L2.St} {ta tb tx te tl : TE} {D : Ends} {v : V} {t1 t2 tz tu : TS} {t : TT}
def spKindBit : Sp := fun vs H Q _ => (vs = [.str "a"] ∨ vs = [.str "b"]) ∧ ∀ z : Int, Q (.int z) H
theorem ok_kind_bit (T : Tx w K mg) : Ok P w K mg base 1 .kind_bit spKindBit := by
  refine T.okd .kind_bit sc_kind_bit (fun vs H Q E h => ?_) (fun cdv A0 outer s0 H vs Q E hr h => ⟨_, (pss_one (ps_ret (pe_op op_shl pe_int (pe_bm PySem.F.plainAttrs_str PySem.F.slot_str_index PySem.F.type_str_index mt_sindex (C8.pe_gc rfl T.kS) (pa_cons (pv 0) pa_nil))))), ?_⟩)
  · rcases h.1 with rfl | rfl <;> rfl
  · obtain ⟨h | h, k⟩ := h
    · subst h
      exact s_ret (v := .int 1) (fun Q q => ⟨rfl, .str "a", rfl, "abcdefgh", "a", 0, [], rfl, rfl, by decide +kernel, 1, 0, rfl, rfl, ⟨by decide, by decide, by decide⟩, q⟩) (k _)
    · subst h
      exact s_ret (v := .int 2) (fun Q q => ⟨rfl, .str "b", rfl, "abcdefgh", "b", 1, [], rfl, rfl, by decide +kernel, 1, 1, rfl, rfl, ⟨by decide, by decide, by decide⟩, q⟩) (k _)
structure Init (K : PySem.W.Frag) (H0 H : Hp) (s dx : Addr) (as : List Addr) : Prop where
  ob : H s = some (.ins (Cad K .st) dx (((Cn.fields .st).take as.length).zip (as.map V.ref)))
  ls : ∀ a ∈ as, H a = some (.lst [])
  nd : as.Nodup
  nw : ∀ a ∈ as, H0 a = none
  kp : ∀ q o, H0 q = some o → q ≠ s → H q = some o
theorem nodup_inj {α : Type} {l : List α} (h : l.Nodup) {i j : Nat} (hi : i < l.length) (e : l[i]? = l[j]?) : i = j := (List.getElem?_inj hi h).mp e
theorem q_fld0 (T : Tx w K mg) {dx : Addr} {as : List Addr} {f : Str} (h : Init K H0 H s dx as) (hs : ∃ o, H0 s = some o) (hf : (Cn.fields .st)[as.length]? = some f) (hb : ∀ H, Val tb σ H (.ref s))
    (k : ∀ p H1, Init K H0 H1 s dx (as ++ [p]) → tz D σ H1) : tSeq (sFld K tb (tLst tNil) f) tz D σ H := by
  refine ⟨by decide, fun p hp => ?_⟩
  have hsp : s ≠ p := fun e => by have := h.ob; rw [e, hp] at this; cases this
  have hl : as.length < (Cn.fields .st).length := (List.getElem?_eq_some_iff.mp hf).1
  have h15 : (Cn.fields .st).length = 15 := rfl
  refine hb _ _ ⟨s, Cad K .st, dx, ((Cn.fields .st).take as.length).zip (as.map V.ref), rfl, by rw [upd_ne hsp]; exact h.ob, T.cls .st, T.noat .st f (List.mem_of_getElem? hf), by rw [List.length_zip, List.length_map]; omega, k p _ ⟨?_, ?_, ?_, ?_, ?_⟩⟩
  · rw [upd_same, putF_new]
    · rw [List.length_append, List.length_singleton, List.take_add_one, hf, List.map_append, List.zip_append (by rw [List.length_take, List.length_map]; omega)]; rfl
    · intro q
      rw [List.map_fst_zip (by rw [List.length_take, List.length_map]; omega)] at q
      obtain ⟨j, hj, e⟩ := List.getElem_of_mem q
      rw [List.length_take] at hj
      rw [List.getElem_take] at e
      have := (List.getElem?_eq_some_iff.mp hf).2
      have nd := st_nd
      have := nodup_inj nd (by omega) (by rw [hf, ← e]; exact List.getElem?_eq_getElem _ : (Cn.fields .st)[j]? = (Cn.fields .st)[as.length]?)
      omega
  · intro a ha
    have has : a ≠ s := fun e => by
      rcases List.mem_append.mp ha with q | q
      · have := h.ls a q; rw [e, h.ob] at this; cases this
      · exact hsp (e ▸ List.mem_singleton.mp q)
    rw [upd_ne has]
    rcases List.mem_append.mp ha with q | q
    · by_cases e : a = p
      · rw [e, upd_same]
      · rw [upd_ne e]; exact h.ls a q
    · rw [List.mem_singleton.mp q, upd_same]
  · rw [List.nodup_append]
    exact ⟨h.nd, by simp, fun a ha b hb e => by rw [List.mem_singleton.mp hb] at e; have := h.ls a ha; rw [e, hp] at this; cases this⟩
  · intro a ha
    rcases List.mem_append.mp ha with q | q
    · exact h.nw a q
    · rw [List.mem_singleton.mp q]
      cases hh : H0 p with
      | none => rfl
      | some o =>
        have := h.kp p o hh (Ne.symm hsp)
        rw [hp] at this; cases this
  · intro q o hq hn
    rw [upd_ne hn, upd_ne (fun e => by have := h.kp q o hq hn; rw [e, hp] at this; cases this)]
    exact h.kp q o hq hn
def spInit (K : PySem.W.Frag) : Sp := fun vs H Q _ => ∃ s dx, vs = [.ref s] ∧ H s = some (.ins (Cad K .st) dx []) ∧ ∀ A H', StrAt K H' s A LC.S0 → (∀ q o, H q = some o → q ≠ s → H' q = some o) → (∀ f, H (A f) = none) → Q .non H'
theorem Fd_len : Fd.all.length = 15 := rfl
theorem Fd_at : ∀ j : _root_.Fin 15, (Fd.all[j.val]'(by rw [Fd_len]; exact j.2)).ix = j.val := by decide
theorem Init.strAt {dx : Addr} {as : List Addr} (h : Init K H0 H s dx as) (hl : as.length = 15) : ∃ A, StrAt K H s A LC.S0 ∧ ∀ f, H0 (A f) = none := by
  have hx : ∀ f : Fd, f.ix < as.length := fun f => by rw [hl]; cases f <;> decide
  refine ⟨fun f => as[f.ix]'(hx f), ⟨⟨dx, ?_⟩, ?_, ?_, ⟨(fun c x y e => by cases e), (fun x y e => by cases e)⟩⟩, fun f => h.nw _ (List.getElem_mem _)⟩
  · rw [h.ob, hl]
    show some (HO.ins (Cad K .st) dx ((Cn.fields .st).zip (as.map V.ref))) = some (HO.ins (Cad K .st) dx ((Cn.fields .st).zip (Fd.all.map _)))
    congr 3
    apply List.ext_getElem?
    intro j
    by_cases hj : j < 15
    · have : ∃ f : Fd, f.ix = j ∧ Fd.all[j]? = some f := by
        exact ⟨_, Fd_at ⟨j, hj⟩, List.getElem?_eq_getElem _⟩
      obtain ⟨f, e1, e2⟩ := this
      rw [List.getElem?_map, List.getElem?_map, e2, List.getElem?_eq_getElem (by omega)]
      simp [e1]
    · rw [List.getElem?_eq_none (by rw [List.length_map]; omega), List.getElem?_eq_none (by rw [List.length_map]; show 15 ≤ j; omega)]
  · intro f g e
    have := nodup_inj (j := g.ix) h.nd (hx f) (by rw [List.getElem?_eq_getElem (hx f), List.getElem?_eq_getElem (hx g)]; exact congrArg some e)
    exact Option.some.inj ((Fd.all_ix f).symm.trans (by rw [this]; exact Fd.all_ix g))
  · intro f
    refine ⟨_, h.ls _ (List.getElem_mem _), ?_⟩
    unfold FieldOk
    by_cases ht : f.typed = true
    · rw [if_pos ht]; rfl
    · rw [if_neg ht]
      by_cases h2 : f.loose = true
      · rw [if_pos h2]; exact ⟨[], rfl, rfl⟩
      · rw [if_neg h2]
        by_cases h3 : f = .hung
        · rw [if_pos h3]; exact ⟨[], rfl, rfl, by simp⟩
        · rw [if_neg h3]; exact ⟨[], rfl, rfl⟩
theorem s_fld0 (T : Tx w K mg) {dx : Addr} {as : List Addr} {f : Str} (h : Init K H0 H s dx as) (hs : ∃ o, H0 s = some o) (hf : (Cn.fields .st)[as.length]? = some f) (hb : ∀ H, Val tb σ H (.ref s))
    (k : ∀ p H1, Init K H0 H1 s dx (as ++ [p]) → D.nx σ H1) : sFld K tb (tLst tNil) f D σ H :=
  q_fld0 (tz := tNext) (D := D) T h hs hf hb k
theorem ok_st_init (T : Tx w K mg) : Ok P w K mg base 1 .st_init (spInit K) := by
  refine T.okd .st_init sc_st_init (fun vs H Q E h => ?_) (fun cdv A0 outer s0 H vs Q E hr h => ⟨_, (pss_cons (ps_fld (pv 0) (pe_lst pa_nil) rfl)
    (pss_cons (ps_fld (pv 0) (pe_lst pa_nil) rfl)
    (pss_cons (ps_fld (pv 0) (pe_lst pa_nil) rfl)
    (pss_cons (ps_fld (pv 0) (pe_lst pa_nil) rfl)
    (pss_cons (ps_fld (pv 0) (pe_lst pa_nil) rfl)
    (pss_cons (ps_fld (pv 0) (pe_lst pa_nil) rfl)
    (pss_cons (ps_fld (pv 0) (pe_lst pa_nil) rfl)
    (pss_cons (ps_fld (pv 0) (pe_lst pa_nil) rfl)
    (pss_cons (ps_fld (pv 0) (pe_lst pa_nil) rfl)
    (pss_cons (ps_fld (pv 0) (pe_lst pa_nil) rfl)
    (pss_cons (ps_fld (pv 0) (pe_lst pa_nil) rfl)
    (pss_cons (ps_fld (pv 0) (pe_lst pa_nil) rfl)
    (pss_cons (ps_fld (pv 0) (pe_lst pa_nil) rfl)
    (pss_cons (ps_fld (pv 0) (pe_lst pa_nil) rfl)
    (pss_one (ps_fld (pv 0) (pe_lst pa_nil) rfl)))))))))))))))), ?_⟩)
  · obtain ⟨s, dx, rfl, _⟩ := h; rfl
  · obtain ⟨s, dx, rfl, h0, k⟩ := h
    have i0 : Init K H H s dx [] := ⟨h0, by simp, List.nodup_nil, by simp, fun q o h _ => h⟩
    refine q_fld0 T i0 ⟨_, h0⟩ rfl (fun _ => vv rfl) fun p1 H1 i1 => ?_
    refine q_fld0 T i1 ⟨_, h0⟩ rfl (fun _ => vv rfl) fun p2 H2 i2 => ?_
    refine q_fld0 T i2 ⟨_, h0⟩ rfl (fun _ => vv rfl) fun p3 H3 i3 => ?_
    refine q_fld0 T i3 ⟨_, h0⟩ rfl (fun _ => vv rfl) fun p4 H4 i4 => ?_
    refine q_fld0 T i4 ⟨_, h0⟩ rfl (fun _ => vv rfl) fun p5 H5 i5 => ?_
    refine q_fld0 T i5 ⟨_, h0⟩ rfl (fun _ => vv rfl) fun p6 H6 i6 => ?_
    refine q_fld0 T i6 ⟨_, h0⟩ rfl (fun _ => vv rfl) fun p7 H7 i7 => ?_
    refine q_fld0 T i7 ⟨_, h0⟩ rfl (fun _ => vv rfl) fun p8 H8 i8 => ?_
    refine q_fld0 T i8 ⟨_, h0⟩ rfl (fun _ => vv rfl) fun p9 H9 i9 => ?_
    refine q_fld0 T i9 ⟨_, h0⟩ rfl (fun _ => vv rfl) fun p10 H10 i10 => ?_
    refine q_fld0 T i10 ⟨_, h0⟩ rfl (fun _ => vv rfl) fun p11 H11 i11 => ?_
    refine q_fld0 T i11 ⟨_, h0⟩ rfl (fun _ => vv rfl) fun p12 H12 i12 => ?_
    refine q_fld0 T i12 ⟨_, h0⟩ rfl (fun _ => vv rfl) fun p13 H13 i13 => ?_
    refine q_fld0 T i13 ⟨_, h0⟩ rfl (fun _ => vv rfl) fun p14 H14 i14 => ?_
    refine s_fld0 T i14 ⟨_, h0⟩ rfl (fun _ => vv rfl) fun p15 H15 i15 => ?_
    obtain ⟨A, a, b⟩ := i15.strAt rfl
    exact k A _ a i15.kp b
def ArgsN (ta : TA) (σ : L2.St) (H : Hp) (R : Hp → List V → Prop) : Prop := ∀ Q : List V → Hp → Prop, (∀ vs H', Ex H H' → R H' vs → Q vs H') → ta σ H Q
def FN (f : Fd) (wo bit : Int) (H : Hp) (t : V) : Prop := match f with
  | .left | .right | .above => t = .non
  | .flipped => t = .bl false
  | .later => t = .int 0
  | .worth | .total | .most | .all_total => t = .int wo
  | .bits | .all_bits => t = .int bit
  | .many | .all_many => t = .int 1
  | .hung => ∃ q, t = .ref q ∧ H q = some (.tup [.int 0, .int 0])
  | .steps => False
theorem FN.ex {f : Fd} {wo bit : Int} {t : V} (h : FN f wo bit H t) (e : Ex H H') : FN f wo bit H' t := by
  cases f <;> first | exact h | (obtain ⟨q, a, b⟩ := h; exact ⟨q, a, e _ _ b⟩)
def RowsOk (A : Fd → Addr) (wo bit : Int) : List Fd → Hp → List V → Prop
  | [], _, vs => vs = []
  | f :: fs, H, vs => ∃ p t r, vs = .ref p :: r ∧ H p = some (.tup [.ref (A f), t]) ∧ FN f wo bit H t ∧ RowsOk A wo bit fs H r
theorem argN0 {wo bit : Int} : ArgsN tNil σ H (RowsOk A wo bit []) := fun Q q => q _ H (Ex.refl H) rfl
theorem argN1 {wo bit : Int} {f : Fd} {fs : List Fd} {tr : TA} (T : Tx w K mg) (hS : StrAt K H s A S) (hb : ∀ H, Val tb σ H (.ref s)) (ht : ∀ H', Ex H H' → ∀ Q : VK, (∀ t H2, Ex H' H2 → FN f wo bit H2 t → Q t H2) → te σ H' Q)
    (hr : ∀ H', Ex H H' → ArgsN tr σ H' (RowsOk A wo bit fs)) : ArgsN (tCons (tTup (tCons (tFld K tb f.nm) (tCons te tNil))) tr) σ H (RowsOk A wo bit (f :: fs)) := fun Q q =>
  v_st T hS f (hb H) _ (ht H (Ex.refl H) _ fun t H2 e2 ft => ⟨(by show 2 ≤ sizeLine; decide), fun p hp => hr _ (e2.trans (Ex.new hp)) _ fun vs H3 e3 r => q _ _ ((e2.trans (Ex.new hp)).trans e3) ⟨p, t, vs, rfl, e3 _ _ upd_same, ft.ex ((Ex.new hp).trans e3), r⟩⟩)
theorem RowsOk.at {wo bit : Int} : ∀ {fs : List Fd} {vs : List V}, RowsOk A wo bit fs H vs → vs.length = fs.length ∧ ∀ (i : Nat) (f : Fd), fs[i]? = some f → ∃ p t, vs[i]? = some (V.ref p) ∧ H p = some (.tup [.ref (A f), t]) ∧ FN f wo bit H t
  | [], vs, h => by cases h; exact ⟨rfl, fun i f q => by simp at q⟩
  | f :: fs, vs, ⟨p, t, r, e, a, b, c⟩ => by
    subst e
    obtain ⟨l, h⟩ := RowsOk.at c
    refine ⟨by rw [List.length_cons, List.length_cons, l], fun i g q => ?_⟩
    cases i with
    | zero => cases q; exact ⟨p, t, rfl, a, b⟩
    | succ i => exact h i g q
def fds : List Fd := [.left, .right, .above, .flipped, .later, .worth, .bits, .many, .total, .most, .all_bits, .hung, .all_many, .all_total]
theorem fds_ix (f : Fd) (h : f ≠ .steps) : fds[f.ix]? = some f := by cases f <;> first | rfl | exact absurd rfl h
theorem fds_inv {i : Nat} {f : Fd} (h : fds[i]? = some f) : f ≠ .steps ∧ f.ix = i := by
  have hl : i < 14 := (List.getElem?_eq_some_iff.mp h).1
  have h3 : ∀ j : Fin 14, (fds[j.val]'(j.2)) ≠ .steps ∧ (fds[j.val]'(j.2)).ix = j.val := by decide
  have := h3 ⟨i, hl⟩
  rw [List.getElem?_eq_getElem hl] at h
  cases h; exact this
def PutAt (K : PySem.W.Frag) (A : Fd → Addr) (s : Addr) (old : Fd → List V) (nw : Fd → V) (i : Nat) (H : Hp) : Prop := ∀ f, H (A f) = some (.lst (if f ≠ .steps ∧ f.ix < i then old f ++ [nw f] else old f))
def fPut : List V → LC.S → (V → LC.S → Prop) → Prop := fun as S k => ∃ (wo : Int) (c : Str), as = [.int wo, .str c] ∧ (c = "a" ∨ c = "b") ∧ S.n ≤ 10000 ∧ k (.int (S.n : Nat)) (LC.putPoint S wo)
theorem q_forU {xs : List V} {g : TG} (h : NewU tl σ H xs) (hx0 : ∀ p H1, H p = none → Ex H H1 → H1 p = some (.tup xs) → ∃ Pv : Nat → L2.St → Hp → Prop, Pv 0 σ H1 ∧ (∀ i σ' H', i ≤ xs.length → Pv i σ' H' → SqT K H' p xs) ∧
    (∀ i x σ' H', xs[i]? = some x → Pv i σ' H' → g x σ' H' fun σ2 H2 => t1 { D with nx := Pv (i + 1), ct := Pv (i + 1), bk := tz D } σ2 H2) ∧ (∀ σ' H', Pv xs.length σ' H' → tz D σ' H')) : tSeq (tFor (iTup K tl) g t1) tz D σ H :=
  h _ fun p H1 hp e1 h1 => by
    obtain ⟨Pv, a, b, c, d⟩ := hx0 p H1 hp e1 h1
    exact ⟨p, rfl, ⟨xs, SqT.of h1⟩, for_it (D := { D with nx := tz D }) walk_tup Pv a b (fun i x σ' H1 H2 hi hp hy => by
      obtain ⟨rfl, hy⟩ := hy
      exact c i x σ' H2 hy hp) d⟩
theorem q_forUN {ta : TA} {R R' : Hp → List V → Prop} {g : TG} (h : ArgsN ta σ H R) (hl : ∀ {H'} vs, R H' vs → vs.length ≤ 100000) (hx0 : ∀ p vs H1, H p = none → Ex H H1 → H1 p = some (.tup vs) → R' H1 vs → ∃ Pv : Nat → L2.St → Hp → Prop, Pv 0 σ H1 ∧ (∀ i σ' H', i ≤ vs.length → Pv i σ' H' → SqT K H' p vs) ∧
    (∀ i x σ' H', vs[i]? = some x → Pv i σ' H' → g x σ' H' fun σ2 H2 => t1 { D with nx := Pv (i + 1), ct := Pv (i + 1), bk := tz D } σ2 H2) ∧ (∀ σ' H', Pv vs.length σ' H' → tz D σ' H'))
    (hR : ∀ H1 H2 vs, Ex H1 H2 → R H1 vs → R' H2 vs) : tSeq (tFor (iTup K (tTup ta)) g t1) tz D σ H :=
  h _ fun vs H1 e1 r => ⟨sz_le (hl vs r), fun p hp => by
    obtain ⟨Pv, a, b, c, d⟩ := hx0 p vs _ (fresh_back e1 hp) (e1.trans (Ex.new hp)) upd_same (hR _ _ vs (Ex.new hp) r)
    exact ⟨p, rfl, ⟨vs, SqT.of upd_same⟩, for_it (D := { D with nx := tz D }) walk_tup Pv a b (fun i x σ' H1 H2 hi hp hy => by
      obtain ⟨rfl, hy⟩ := hy
      exact c i x σ' H2 hy hp) d⟩⟩
theorem RowsOk.ex {wo bit : Int} : ∀ {fs : List Fd} {vs : List V}, Ex H H' → RowsOk A wo bit fs H vs → RowsOk A wo bit fs H' vs
  | [], vs, _, h => h
  | f :: fs, vs, e, ⟨p, t, r, h1, a, b, c⟩ => ⟨p, t, r, h1, e _ _ a, b.ex e, RowsOk.ex e c⟩
theorem field_put {wo bit : Int} {f : Fd} {xs : List V} {t : V} (hn : f ≠ .steps) (h : FieldOk S H f (.lst xs)) (ft : FN f wo bit H t) : FieldOk (LC.putPoint S wo) H f (.lst (xs ++ [t])) := by
  unfold FieldOk at h ⊢
  by_cases q1 : f.typed = true
  · rw [if_pos q1] at h ⊢
    cases h
    rw [enc_app]
    show HO.lst (enc (S.n + 1) _) = HO.lst (enc (S.n + 1) _)
    congr 1
    refine enc_congr fun i hi => ?_
    have key : ∀ {α : Type} (φ : α → V) (g : Nat → α) (a : α), t = φ a → LC.up (fun i => φ (g i)) S.n t i = φ (LC.up g S.n a i) := fun φ g a e => by
      unfold LC.up; split
      · exact e
      · rfl
    cases f <;> first
      | exact absurd q1 (by decide)
      | exact key oV (S.ch false) none ft
      | exact key oV (S.ch true) none ft
      | exact key oV S.ab none ft
      | exact key V.bl S.fl false ft
      | exact key V.int S.lt 0 ft
      | exact key V.int S.wo wo ft
      | exact key V.int S.mn 1 ft
      | exact key V.int S.to wo ft
      | exact key V.int S.mo wo ft
  · rw [if_neg q1] at h ⊢
    by_cases q2 : f.loose = true
    · rw [if_pos q2] at h ⊢
      obtain ⟨zs, l, e⟩ := h
      cases e
      have : ∃ z, t = .int z := by
        cases f <;> first
        | exact absurd q2 (by decide)
        | exact ⟨_, ft⟩
      obtain ⟨z, rfl⟩ := this
      exact ⟨zs ++ [z], by rw [List.length_append, l]; rfl, by rw [List.map_append]; rfl⟩
    · rw [if_neg q2] at h ⊢
      by_cases q3 : f = .hung
      · rw [if_pos q3] at h ⊢
        subst q3
        obtain ⟨hs, e, l, hp⟩ := h
        cases e
        obtain ⟨q, rfl, hq⟩ := ft
        refine ⟨_, rfl, by rw [List.length_append, l]; rfl, fun x hx => ?_⟩
        rcases List.mem_append.mp hx with z | z
        · exact hp x z
        · rw [List.mem_singleton.mp z]; exact ⟨q, 0, 0, rfl, hq⟩
      · exfalso; cases f <;> first | exact q1 rfl | exact q2 rfl | exact q3 rfl | exact hn rfl
theorem Wf.put {S : LC.S} (h : Wf S) (wo : Int) : Wf (LC.putPoint S wo) := ⟨fun c x y e => by
  have e' : LC.up (S.ch c) S.n none x = some y := e
  unfold LC.up at e'
  split at e'
  · cases e'
  · exact Nat.lt_succ_of_lt (h.ch c x y e'), fun x y e => by
  have e' : LC.up S.ab S.n none x = some y := e
  unfold LC.up at e'
  split at e'
  · cases e'
  · exact Nat.lt_succ_of_lt (h.ab x y e')⟩
theorem ok_st_put_point (T : Tx w K mg) : Ok P w K mg base 2 .st_put_point (spSt K fPut) := by
  refine T.okd .st_put_point sc_st_put_point (fun vs H Q E h => ?_) (fun cdv A0 outer s0 H vs Q E hr h => ⟨_, (pss_cons (ps_set (i := 3) sc_st_put_point.nd rfl (Or.inl rfl) (pe_call (ok_kind_bit T) (hr.mono (by decide)) rfl (T.glF _ (by decide +kernel)) (T.fn .kind_bit).kp (b_kind_bit T) .nil pass0 (pa_cons (pv 2) pa_nil)))
    (pss_cons (ps_for PassesOwn.never rfl (pi_tup (pe_tup (pa_cons (pe_tup (pa_cons (pe_fld (pv 0) rfl) (pa_cons pe_non pa_nil))) (pa_cons (pe_tup (pa_cons (pe_fld (pv 0) rfl) (pa_cons pe_non pa_nil))) (pa_cons (pe_tup (pa_cons (pe_fld (pv 0) rfl) (pa_cons pe_non pa_nil))) (pa_cons (pe_tup (pa_cons (pe_fld (pv 0) rfl) (pa_cons pe_bl pa_nil))) (pa_cons (pe_tup (pa_cons (pe_fld (pv 0) rfl) (pa_cons pe_int pa_nil))) (pa_cons (pe_tup (pa_cons (pe_fld (pv 0) rfl) (pa_cons (pv 1) pa_nil))) (pa_cons (pe_tup (pa_cons (pe_fld (pv 0) rfl) (pa_cons (pv 3) pa_nil))) (pa_cons (pe_tup (pa_cons (pe_fld (pv 0) rfl) (pa_cons pe_int pa_nil))) (pa_cons (pe_tup (pa_cons (pe_fld (pv 0) rfl) (pa_cons (pv 1) pa_nil))) (pa_cons (pe_tup (pa_cons (pe_fld (pv 0) rfl) (pa_cons (pv 1) pa_nil))) (pa_cons (pe_tup (pa_cons (pe_fld (pv 0) rfl) (pa_cons (pv 3) pa_nil))) (pa_cons (pe_tup (pa_cons (pe_fld (pv 0) rfl) (pa_cons (pe_tup (pa_cons pe_int (pa_cons pe_int pa_nil))) pa_nil))) (pa_cons (pe_tup (pa_cons (pe_fld (pv 0) rfl) (pa_cons pe_int pa_nil))) (pa_cons (pe_tup (pa_cons (pe_fld (pv 0) rfl) (pa_cons (pv 1) pa_nil))) pa_nil)))))))))))))))) (pg_tup rfl (pgs_cons (pg_name (i := 4) sc_st_put_point.nd rfl (Or.inl rfl)) (pgs_cons (pg_name (i := 5) sc_st_put_point.nd rfl (Or.inl rfl)) pgs_nil))) (pss_one (ps_expr (pe_bm PySem.F.plainAttrs_list PySem.F.slot_list_append PySem.F.type_list_append mt_append (pv 4) (pa_cons (pv 5) pa_nil)))))
    (pss_one (ps_ret (pe_op op_sub (pe_callB call_len_seq (by rfl) (T.free _ (by decide +kernel)) (by decide +kernel) (by exact (pa_cons (pe_fld (pv 0) rfl) pa_nil))) pe_int))))), ?_⟩)
  · obtain ⟨s, A, S, as, rfl, _, wo, c, rfl, _⟩ := h; rfl
  · obtain ⟨s, A, S, as, rfl, hS, wo, c, rfl, hc, hn, k⟩ := h
    refine vv rfl _ ⟨by rcases hc with rfl | rfl; exact .inl rfl; exact .inr rfl, fun bit => ?_⟩
    have vN : ∀ {H' : Hp} {σ' : L2.St} {t : V} {te : TE} {f : Fd}, (∀ H, Val te σ' H t) → (∀ H, FN f wo bit H t) → ∀ Q : VK, (∀ t H2, Ex H' H2 → FN f wo bit H2 t → Q t H2) → te σ' H' Q := fun hv hf Q q => hv _ _ (q _ _ (Ex.refl _) (hf _))
    have nu : ∀ σ', (∀ H, Val (tVar 0) σ' H (.ref s)) → (∀ H, Val (tVar 1) σ' H (.int wo)) → (∀ H, Val (tVar 3) σ' H (.int bit)) → ArgsN (tCons (tTup (tCons (tFld K (tVar 0) "left") (tCons (tC .non) tNil))) (tCons (tTup (tCons (tFld K (tVar 0) "right") (tCons (tC .non) tNil))) (tCons (tTup (tCons (tFld K (tVar 0) "above") (tCons (tC .non) tNil))) (tCons (tTup (tCons (tFld K (tVar 0) "flipped") (tCons (tC (.bl false)) tNil))) (tCons (tTup (tCons (tFld K (tVar 0) "later") (tCons (tC (.int 0)) tNil))) (tCons (tTup (tCons (tFld K (tVar 0) "worth") (tCons (tVar 1) tNil))) (tCons (tTup (tCons (tFld K (tVar 0) "bits") (tCons (tVar 3) tNil))) (tCons (tTup (tCons (tFld K (tVar 0) "many") (tCons (tC (.int 1)) tNil))) (tCons (tTup (tCons (tFld K (tVar 0) "total") (tCons (tVar 1) tNil))) (tCons (tTup (tCons (tFld K (tVar 0) "most") (tCons (tVar 1) tNil))) (tCons (tTup (tCons (tFld K (tVar 0) "all_bits") (tCons (tVar 3) tNil))) (tCons (tTup (tCons (tFld K (tVar 0) "hung") (tCons (tTup (tCons (tC (.int 0)) (tCons (tC (.int 0)) tNil))) tNil))) (tCons (tTup (tCons (tFld K (tVar 0) "all_many") (tCons (tC (.int 1)) tNil))) (tCons (tTup (tCons (tFld K (tVar 0) "all_total") (tCons (tVar 1) tNil))) tNil)))))))))))))) σ' H (RowsOk A wo bit fds) := by
      intro σ' hs hw hb
      refine argN1 (f := .left) T hS hs (fun H' _ => vN (fun _ => vc) (fun _ => rfl)) fun H1 d1 => ?_
      have e1 : Ex H H1 := d1
      refine argN1 (f := .right) T (hS.ex e1) hs (fun H' _ => vN (fun _ => vc) (fun _ => rfl)) fun H2 d2 => ?_
      have e2 : Ex H H2 := e1.trans d2
      refine argN1 (f := .above) T (hS.ex e2) hs (fun H' _ => vN (fun _ => vc) (fun _ => rfl)) fun H3 d3 => ?_
      have e3 : Ex H H3 := e2.trans d3
      refine argN1 (f := .flipped) T (hS.ex e3) hs (fun H' _ => vN (fun _ => vc) (fun _ => rfl)) fun H4 d4 => ?_
      have e4 : Ex H H4 := e3.trans d4
      refine argN1 (f := .later) T (hS.ex e4) hs (fun H' _ => vN (fun _ => vc) (fun _ => rfl)) fun H5 d5 => ?_
      have e5 : Ex H H5 := e4.trans d5
      refine argN1 (f := .worth) T (hS.ex e5) hs (fun H' _ => vN hw (fun _ => rfl)) fun H6 d6 => ?_
      have e6 : Ex H H6 := e5.trans d6
      refine argN1 (f := .bits) T (hS.ex e6) hs (fun H' _ => vN hb (fun _ => rfl)) fun H7 d7 => ?_
      have e7 : Ex H H7 := e6.trans d7
      refine argN1 (f := .many) T (hS.ex e7) hs (fun H' _ => vN (fun _ => vc) (fun _ => rfl)) fun H8 d8 => ?_
      have e8 : Ex H H8 := e7.trans d8
      refine argN1 (f := .total) T (hS.ex e8) hs (fun H' _ => vN hw (fun _ => rfl)) fun H9 d9 => ?_
      have e9 : Ex H H9 := e8.trans d9
      refine argN1 (f := .most) T (hS.ex e9) hs (fun H' _ => vN hw (fun _ => rfl)) fun H10 d10 => ?_
      have e10 : Ex H H10 := e9.trans d10
      refine argN1 (f := .all_bits) T (hS.ex e10) hs (fun H' _ => vN hb (fun _ => rfl)) fun H11 d11 => ?_
      have e11 : Ex H H11 := e10.trans d11
      refine argN1 (f := .hung) T (hS.ex e11) hs (fun H' _ => fun Q q => nu_tup (args1 vc (args1 vc args0)) (by show 2 ≤ 100000; decide) _ fun p H' hp e h => q _ _ e ⟨p, rfl, h⟩) fun H12 d12 => ?_
      have e12 : Ex H H12 := e11.trans d12
      refine argN1 (f := .all_many) T (hS.ex e12) hs (fun H' _ => vN (fun _ => vc) (fun _ => rfl)) fun H13 d13 => ?_
      have e13 : Ex H H13 := e12.trans d13
      refine argN1 (f := .all_total) T (hS.ex e13) hs (fun H' _ => vN hw (fun _ => rfl)) fun H14 d14 => ?_
      have e14 : Ex H H14 := e13.trans d14
      exact argN0
    refine q_forUN (R := RowsOk A wo bit fds) (R' := RowsOk A wo bit fds) (nu _ (fun _ => vv rfl) (fun _ => vv rfl) (fun _ => vv rfl)) (fun vs h => by rw [(RowsOk.at h).1]; decide) (fun p vs H1 hp0 e1 h1 hr => ?_) (fun _ _ _ e h => RowsOk.ex e h)
    obtain ⟨lv, at_⟩ := RowsOk.at hr
    have h1S := hS.ex e1
    have pn : ∀ f, p ≠ A f := fun f q => by
      obtain ⟨xs, a, _⟩ := hS.lst f
      rw [q, a] at hp0; cases hp0
    have ho : ∀ f, ∃ xs, H1 (A f) = some (.lst xs) ∧ FieldOk S H1 f (.lst xs) := fun f => by
      obtain ⟨xs, a, b, _⟩ := h1S.lst f
      exact ⟨xs, a, b⟩
    obtain ⟨old, hold⟩ := Classical.axiomOfChoice ho
    have hw : ∀ f : Fd, ∃ t, f ≠ .steps → ∃ q, vs[f.ix]? = some (V.ref q) ∧ H1 q = some (.tup [.ref (A f), t]) ∧ FN f wo bit H1 t := fun f => by
      by_cases e : f = .steps
      · exact ⟨.non, fun q => absurd e q⟩
      · obtain ⟨q, t, a, b, c⟩ := at_ _ _ (fds_ix f e)
        exact ⟨t, fun _ => ⟨q, a, b, c⟩⟩
    obtain ⟨nw, hnw⟩ := Classical.axiomOfChoice hw
    refine ⟨fun i σ' H' => (∃ o1 o2, σ' = [some (.ref s), some (.int wo), some (.str c), some (.int bit), o1, o2]) ∧ PutAt K A s old nw i H' ∧ Keep A H1 H', ⟨⟨_, _, rfl⟩, fun f => by rw [if_neg (fun q => absurd q.2 (by omega))]; exact (hold f).1, Keep.refl _ _⟩, fun i σ' H' _ h => SqT.of (h.2.2 p _ h1 pn), ?_, ?_⟩
    · rintro i x σ' H2 hx ⟨⟨o1, o2, rfl⟩, h2, k2⟩
      have hi : i < 14 := by have := (List.getElem?_eq_some_iff.mp hx).1; rw [lv] at this; exact this
      obtain ⟨f, hf⟩ : ∃ f, fds[i]? = some f := ⟨_, List.getElem?_eq_getElem hi⟩
      obtain ⟨fn, fi⟩ := fds_inv hf
      obtain ⟨q, a, b, ft⟩ := hnw f fn
      rw [fi, hx] at a; cases a
      have qn : ∀ g, q ≠ A g := fun g e => by rw [e, (hold g).1] at b; cases b
      refine ⟨q, _, rfl, SqT.of (k2 q _ b qn), rfl, _, _, rfl, _, _, rfl, rfl, ?_⟩
      have hA := h2 f
      rw [if_neg (fun q => absurd q.2 (by omega))] at hA
      have hlen : (old f).length < sizeLine := by
        obtain ⟨_, a, _, b, _⟩ := h1S.lst f
        have := (hold f).1
        rw [a] at this; cases this
        rw [b fn]; exact sz_lt (by omega)
      refine s_append (v := nw f) (vv rfl) hA (args1 (vv rfl) args0) hlen ⟨⟨_, _, rfl⟩, fun g => ?_, fun q o hq n => by rw [upd_ne (n f)]; exact k2 q o hq n⟩
      by_cases e : g = f
      · subst e
        rw [upd_same, if_pos ⟨fn, by omega⟩]
      · rw [upd_ne (fun z => e (h1S.inj _ _ z)), h2 g]
        have hgx : g ≠ .steps → g.ix ≠ i := fun gn z => by
          have := fds_ix g gn
          rw [z, hf] at this; cases this; exact e rfl
        by_cases gs : g = .steps
        · rw [if_neg (fun z => z.1 gs), if_neg (fun z => z.1 gs)]
        · have := hgx gs
          by_cases gl : g.ix < i
          · rw [if_pos ⟨gs, gl⟩, if_pos ⟨gs, by omega⟩]
          · rw [if_neg (fun z => gl z.2), if_neg (fun z => by omega)]
    · rintro σ' H2 ⟨⟨o1, o2, rfl⟩, h2, k2⟩
      rw [lv] at h2
      have hA : ∀ f, f ≠ .steps → H2 (A f) = some (.lst (old f ++ [nw f])) := fun f fn => by
        have := h2 f
        rw [if_pos ⟨fn, by cases f <;> first | decide | exact absurd rfl fn⟩] at this; exact this
      have hst : H2 (A .steps) = some (.lst (old .steps)) := by
        have := h2 .steps
        rw [if_neg (fun z => z.1 rfl)] at this; exact this
      have tups : ∀ t zs, H1 t = some (.tup zs) → H2 t = some (.tup zs) := fun t zs q => k2 t _ q fun f e => by rw [e, (hold f).1] at q; cases q
      have hS2 : StrAt K H2 s A (LC.putPoint S wo) := by
        refine ⟨?_, h1S.inj, fun f => ?_, h1S.wf.put wo⟩
        · obtain ⟨dx, ob⟩ := h1S.ob
          exact ⟨dx, k2 s _ ob h1S.ne_s⟩
        · by_cases e : f = .steps
          · subst e
            exact ⟨_, hst, (show FieldOk (LC.putPoint S wo) H1 .steps (.lst (old .steps)) from (hold .steps).2).ex tups⟩
          · obtain ⟨q, a, b, ft⟩ := hnw f e
            exact ⟨_, hA f e, (field_put e (hold f).2 ft).ex tups⟩
      have hl : (old .left ++ [nw .left]).length = S.n + 1 := by
        rw [List.length_append, List.length_singleton]
        obtain ⟨_, a, _, b, _⟩ := h1S.lst .left
        have := (hold .left).1
        rw [a] at this; cases this
        rw [b (by decide)]
      refine s_ret (v := .int (S.n : Nat)) (fun Q q => ?_) (k H2 hS2 (fun q o hq n => k2 q o (e1 q o hq) n))
      refine v_st T hS2 .left (vv rfl) _ ⟨_, _, rfl, .inl (SqL.of (hA .left (by decide))), _, 1, rfl, rfl, ?_⟩
      rw [hl]
      have : ((S.n + 1 : Nat) : Int) - 1 = (S.n : Int) := by omega
      show Q (V.int (((S.n + 1 : Nat) : Int) - 1)) H2
      rw [this]; exact q
end
end TC
namespace TC
open PySem PySem.Spec PyProof.Rows L2
structure WyAt (K : PySem.W.Frag) (H : Hp) (y s : Addr) (A : Fd → Addr) (S : LC.S) : Prop where
  ob : ∃ dx, H y = some (.ins (Cad K .wy) dx [("strands", .ref s)])
  st : StrAt K H s A S
section
variable {P : Program} {w : World} {K : PySem.W.Frag} {mg : Str → Option Value} {base : Heap} {H H' H0 : Hp} {y s : Addr} {A : Fd → Addr} {S S' : LC.S} {σ : L2.St} {ta tb tx te tl : TE} {D : Ends} {v : V} {t1 t2 tz tu : TS} {t : TT}
theorem WyAt.ne (h : WyAt K H y s A S) (f : Fd) : y ≠ A f := by
  obtain ⟨dx, h1⟩ := h.ob
  obtain ⟨xs, a, _⟩ := h.st.lst f
  exact ne_of h1 a (by intro z; cases z)
theorem WyAt.to (h : WyAt K H y s A S) (hS : StrAt K H' s A S') (k : Keep A H H') : WyAt K H' y s A S' := by
  obtain ⟨dx, h1⟩ := h.ob
  exact ⟨⟨dx, k y _ h1 h.ne⟩, hS⟩
theorem WyAt.ex (h : WyAt K H y s A S) (e : Ex H H') : WyAt K H' y s A S := h.to (h.st.ex e) (exKeep e)
theorem v_sr (T : Tx w K mg) (h : WyAt K H y s A S) (hb : Val tb σ H (.ref y)) : Val (tFld K tb "strands") σ H (.ref s) := fun Q q => by
  obtain ⟨dx, h1⟩ := h.ob
  exact hb _ ⟨y, Cad K .wy, dx, _, .ref s, rfl, h1, T.cls .wy, T.noat .wy "strands" (by decide +kernel), rfl, q⟩
def spWy (K : PySem.W.Frag) (F : List V → LC.S → ((Hp → V → Prop) → LC.S → Prop) → Prop) : Sp := fun vs H Q _ => ∃ y s A S as, vs = .ref y :: as ∧ WyAt K H y s A S ∧ F as S (fun R S' => ∀ H' v, R H' v → WyAt K H' y s A S' → Keep A H H' → Q v H')
theorem c_wyV (h : WyAt K H y s A S) {m : Str} {sp : Sp} {E : XK} {t : TA} {vs : List V} {Q : VK} (hm : m ∉ Cn.fields .wy) (hb : Val tb σ H (.ref y)) (ht : Args t σ H vs) (k : sp (.ref y :: (vs ++ [])) H Q E) : tMeth (Cad K .wy) m sp [] E tb t σ H Q :=
  hb _ (by
    obtain ⟨dx, h1⟩ := h.ob
    exact ⟨y, dx, _, rfl, h1, lookup_zip_none (vs := [V.ref s]) hm, ht _ k⟩)
theorem q_callW (h : WyAt K H y s A S) {m : Str} {sp : Sp} {E : XK} {t : TA} {vs : List V} (hm : m ∉ Cn.fields .wy) (hb : Val tb σ H (.ref y)) (ht : Args t σ H vs) (k : sp (.ref y :: (vs ++ [])) H (fun _ H1 => tz D σ H1) E) : tSeq (tDrop (tMeth (Cad K .wy) m sp [] E tb t)) tz D σ H :=
  c_wyV h hm hb ht k
theorem s_callW (h : WyAt K H y s A S) {m : Str} {sp : Sp} {E : XK} {t : TA} {vs : List V} (hm : m ∉ Cn.fields .wy) (hb : Val tb σ H (.ref y)) (ht : Args t σ H vs) (k : sp (.ref y :: (vs ++ [])) H (fun _ H1 => D.nx σ H1) E) : tDrop (tMeth (Cad K .wy) m sp [] E tb t) D σ H :=
  c_wyV h hm hb ht k
def IsV (x : V) : Hp → V → Prop := fun _ v => v = x
def spPts (K : PySem.W.Frag) : Sp := fun vs H Q _ => ∃ y s A S, vs = [.ref y] ∧ WyAt K H y s A S ∧ Q (.int (S.n : Nat)) H
theorem ok_wy_points (T : Tx w K mg) : Ok P w K mg base 1 .wy_points (spPts K) := by
  refine T.okd .wy_points sc_wy_points (fun vs H Q E h => ?_) (fun cdv A0 outer s0 H vs Q E hr h => ⟨_, (pss_one (ps_ret (pe_callB call_len_seq (by rfl) (T.free _ (by decide +kernel)) (by decide +kernel) (by exact (pa_cons (pe_fld (pe_fld (pv 0) rfl) rfl) pa_nil))))), ?_⟩)
  · obtain ⟨y, s, A, S, rfl, _⟩ := h; rfl
  · obtain ⟨y, s, A, S, rfl, hW, k⟩ := h
    refine s_ret (v := .int (S.n : Nat)) (fun Q q => v_st T hW.st .left (v_sr T hW (vv rfl)) _ ⟨_, _, rfl, .inl (SqL.of (hW.st.typed .left rfl)), ?_⟩) k
    rw [enc_len]; exact q
def fTurnAbout : List V → LC.S → ((Hp → V → Prop) → LC.S → Prop) → Prop := fun as S k => ∃ p S', as = [.int (p : Nat)] ∧ p < S.n ∧ S.n ≤ 10000 ∧ LC.turnAbout S p = some S' ∧ S'.cnt ≤ cLim ∧ k (IsV .non) S'
theorem ok_wy_turn_about (T : Tx w K mg) : Ok P w K mg base 6 .wy_turn_about (spWy K fTurnAbout) := by
  refine T.okd .wy_turn_about sc_wy_turn_about (fun vs H Q E h => ?_) (fun cdv A0 outer s0 H vs Q E hr h => ⟨_, (pss_cons (ps_expr (pe_meth (pe_fld (pv 0) rfl) (T.cls .st) (T.meth .st _ (by decide +kernel)) (ok_st_lead T) (hr.mono (by decide)) (b_st_lead T) .nil pass0 (pa_cons (pv 1) pa_nil)))
    (pss_one (ps_expr (pe_meth (pe_fld (pv 0) rfl) (T.cls .st) (T.meth .st _ (by decide +kernel)) (ok_st_flip T) (hr.mono (by decide)) (b_st_flip T) .nil pass0 (pa_cons (pv 1) pa_nil))))), ?_⟩)
  · obtain ⟨y, s, A, S, as, rfl, _, p, S', rfl, _⟩ := h; rfl
  · obtain ⟨y, s, A, S, as, rfl, hW, p, S', rfl, hp, hn, hl, hc, k⟩ := h
    unfold LC.turnAbout at hl
    cases h1 : LC.lead S p with
    | none => rw [h1] at hl; cases hl
    | some pr =>
      obtain ⟨S1, l⟩ := pr
      rw [h1] at hl; dsimp only at hl; cases hl
      have c1 := LC.lead_cnt h1
      refine q_call hW.st (by decide +kernel) (v_sr T hW (vv rfl)) (args1 (vv rfl) args0) ⟨s, A, S, _, rfl, hW.st, p, S1, l, rfl, hp, hn, h1, hc, fun _ H1 g1 k1 => ?_⟩
      have W1 := hW.to g1 k1
      exact s_call g1 (by decide +kernel) (v_sr T W1 (vv rfl)) (args1 (vv rfl) args0) ⟨s, A, S1, _, rfl, g1, some p, rfl, fun x e => by cases e; rw [c1.2]; exact hp, fun H2 g2 k2 => k _ _ rfl (W1.to g2 k2) (k1.trans k2)⟩
def fJoined : List V → LC.S → ((Hp → V → Prop) → LC.S → Prop) → Prop := fun as S k => ∃ a b S' r, as = [.int (a : Nat), .int (b : Nat)] ∧ a < S.n ∧ b < S.n ∧ S.n ≤ 10000 ∧ LC.areJoined S a b = some (S', r) ∧ S'.cnt ≤ cLim ∧ k (IsV (.bl r)) S'
theorem v_or {a b : Bool} (h1 : Val ta σ H (.bl a)) (h2 : a = false → Val tb σ H (.bl b)) : Val (tOrV ta tb) σ H (.bl (a || b)) := fun Q q => h1 _ ⟨a, rfl, by
  cases a with
  | true => exact iteT q
  | false => exact iteF (h2 rfl Q q)⟩
theorem ok_wy_are_joined (T : Tx w K mg) : Ok P w K mg base 6 .wy_are_joined (spWy K fJoined) := by
  refine T.okd .wy_are_joined sc_wy_are_joined (fun vs H Q E h => ?_) (fun cdv A0 outer s0 H vs Q E hr h => ⟨_, (pss_cons (ps_expr (pe_meth (pe_fld (pv 0) rfl) (T.cls .st) (T.meth .st _ (by decide +kernel)) (ok_st_lead T) (hr.mono (by decide)) (b_st_lead T) .nil pass0 (pa_cons (pv 1) pa_nil)))
    (pss_cons (ps_expr (pe_meth (pe_fld (pv 0) rfl) (T.cls .st) (T.meth .st _ (by decide +kernel)) (ok_st_lead T) (hr.mono (by decide)) (b_st_lead T) .nil pass0 (pa_cons (pv 2) pa_nil)))
    (pss_one (ps_ret (pe_or (pe_cmpR op_eq (pv 1) (pv 2) (nomark _)) (pe_one (pe_cmpR op_notN1 (pe_ix ix_list (pe_fld (pe_fld (pv 0) rfl) rfl) (pv 1) (fun _ _ => rfl)) pe_non (nomark _)))))))), ?_⟩)
  · obtain ⟨y, s, A, S, as, rfl, _, a, b, S', r, rfl, _⟩ := h; rfl
  · obtain ⟨y, s, A, S, as, rfl, hW, a, b, S', r, rfl, ha, hb, hn, hl, hc, k⟩ := h
    unfold LC.areJoined at hl
    cases h1 : LC.lead S a with
    | none => rw [h1] at hl; cases hl
    | some pr =>
      obtain ⟨S1, l⟩ := pr
      rw [h1] at hl; dsimp only at hl
      cases h2 : LC.lead S1 b with
      | none => rw [h2] at hl; cases hl
      | some pr =>
        obtain ⟨S2, l2⟩ := pr
        rw [h2] at hl; dsimp only at hl; cases hl
        have c1 := LC.lead_cnt h1
        have c2 := LC.lead_cnt h2
        refine q_call hW.st (by decide +kernel) (v_sr T hW (vv rfl)) (args1 (vv rfl) args0) ⟨s, A, S, _, rfl, hW.st, a, S1, l, rfl, ha, hn, h1, by omega, fun _ H1 g1 k1 => ?_⟩
        have W1 := hW.to g1 k1
        refine q_call g1 (by decide +kernel) (v_sr T W1 (vv rfl)) (args1 (vv rfl) args0) ⟨s, A, S1, _, rfl, g1, b, _, l2, rfl, by omega, by omega, h2, hc, fun _ H2 g2 k2 => ?_⟩
        have W2 := W1.to g2 k2
        refine s_ret (v_or (a := a == b) (b := (S'.ab a).isSome) ?_ fun _ => ?_) (k _ _ rfl W2 (k1.trans k2))
        · have := v_eq (vv rfl : Val (tVar 1) [some (.ref y), some (.int a), some (.int b)] H2 (.int a)) (vv rfl : Val (tVar 2) [some (.ref y), some (.int a), some (.int b)] H2 (.int b)) rfl
          rw [show (a == b) = decide (V.int a = V.int b) by rw [Bool.eq_iff_iff]; simp; omega]
          exact this
        · have := v_notN (v_rd (tx := tVar 1) T g2 .above (v_sr T W2 (vv rfl : Val (tVar 0) [some (.ref y), some (.int a), some (.int b)] H2 (.ref y))) (vv rfl) (by omega))
          rw [show (S'.ab a).isSome = !decide (fv S' .above a = .non) by show _ = !decide (oV (S'.ab a) = .non); cases S'.ab a <;> rfl]
          exact this
def fOpenWay : List V → LC.S → ((Hp → V → Prop) → LC.S → Prop) → Prop := fun as S k => ∃ a b S', as = [.int (a : Nat), .int (b : Nat)] ∧ a < S.n ∧ b < S.n ∧ S.n ≤ 10000 ∧ LC.openWay S a b = some S' ∧ S'.cnt ≤ cLim ∧ k (IsV .non) S'
theorem turnAbout_cnt {p : Nat} (h : LC.turnAbout S p = some S') : S.cnt ≤ S'.cnt ∧ S'.n = S.n := by
  unfold LC.turnAbout at h
  cases h1 : LC.lead S p with
  | none => rw [h1] at h; cases h
  | some pr => obtain ⟨S1, l⟩ := pr; rw [h1] at h; dsimp only at h; cases h; exact ⟨(LC.lead_cnt h1).1, (LC.lead_cnt h1).2⟩
theorem areJoined_cnt {a b : Nat} {r : Bool} (h : LC.areJoined S a b = some (S', r)) : S.cnt ≤ S'.cnt ∧ S'.n = S.n := by
  unfold LC.areJoined at h
  cases h1 : LC.lead S a with
  | none => rw [h1] at h; cases h
  | some pr =>
    obtain ⟨S1, l⟩ := pr; rw [h1] at h; dsimp only at h
    cases h2 : LC.lead S1 b with
    | none => rw [h2] at h; cases h
    | some pr => obtain ⟨S2, l2⟩ := pr; rw [h2] at h; dsimp only at h; cases h; have := LC.lead_cnt h1; have := LC.lead_cnt h2; omega
theorem openWay_cnt {a b : Nat} (h : LC.openWay S a b = some S') : S.cnt ≤ S'.cnt ∧ S'.n = S.n := by
  unfold LC.openWay at h
  cases h1 : LC.areJoined S a b with
  | none => rw [h1] at h; cases h
  | some pr =>
    obtain ⟨S1, r⟩ := pr; rw [h1] at h; dsimp only at h
    split at h
    · cases h2 : LC.turnAbout S1 a with
      | none => rw [h2] at h; cases h
      | some S2 =>
        rw [h2] at h; dsimp only at h
        cases h3 : LC.lead S2 b with
        | none => rw [h3] at h; cases h
        | some pr => obtain ⟨S3, l⟩ := pr; rw [h3] at h; dsimp only at h; cases h; have := areJoined_cnt h1; have := turnAbout_cnt h2; have := LC.lead_cnt h3; omega
    · cases h
theorem ok_wy_open_way (T : Tx w K mg) : Ok P w K mg base 7 .wy_open_way (spWy K fOpenWay) := by
  refine T.okd .wy_open_way sc_wy_open_way (fun vs H Q E h => ?_) (fun cdv A0 outer s0 H vs Q E hr h => ⟨_, (pss_cons (ps_if (pt_not (pt_val (pe_meth (pv 0) (T.cls .wy) (T.meth .wy _ (by decide +kernel)) (ok_wy_are_joined T) (hr.mono (by decide)) (b_wy_are_joined T) .nil pass0 (pa_cons (pv 1) (pa_cons (pv 2) pa_nil))))) (pss_one ps_never) pss_nil)
    (pss_cons (ps_expr (pe_meth (pv 0) (T.cls .wy) (T.meth .wy _ (by decide +kernel)) (ok_wy_turn_about T) (hr.mono (by decide)) (b_wy_turn_about T) .nil pass0 (pa_cons (pv 1) pa_nil)))
    (pss_one (ps_expr (pe_meth (pe_fld (pv 0) rfl) (T.cls .st) (T.meth .st _ (by decide +kernel)) (ok_st_lead T) (hr.mono (by decide)) (b_st_lead T) .nil pass0 (pa_cons (pv 2) pa_nil)))))), ?_⟩)
  · obtain ⟨y, s, A, S, as, rfl, _, a, b, S', rfl, _⟩ := h; rfl
  · obtain ⟨y, s, A, S, as, rfl, hW, a, b, S', rfl, ha, hb, hn, hl, hc, k⟩ := h
    unfold LC.openWay at hl
    cases h1 : LC.areJoined S a b with
    | none => rw [h1] at hl; cases hl
    | some pr =>
      obtain ⟨S1, r⟩ := pr; rw [h1] at hl; dsimp only at hl
      split at hl
      · rename_i hr1
        cases h2 : LC.turnAbout S1 a with
        | none => rw [h2] at hl; cases hl
        | some S2 =>
          rw [h2] at hl; dsimp only at hl
          cases h3 : LC.lead S2 b with
          | none => rw [h3] at hl; cases hl
          | some pr =>
            obtain ⟨S3, l⟩ := pr; rw [h3] at hl; dsimp only at hl; cases hl
            have c1 := areJoined_cnt h1
            have c2 := turnAbout_cnt h2
            have c3 := LC.lead_cnt h3
            refine c_wyV hW (by decide +kernel) (vv rfl) (args1 (vv rfl) (args1 (vv rfl) args0)) ⟨y, s, A, S, _, rfl, hW, a, b, S1, r, rfl, ha, hb, hn, h1, by omega, fun H1 v e W1 k1 => ⟨r, e, ?_⟩⟩
            rw [hr1]
            refine iteF ?_
            refine q_callW W1 (by decide +kernel) (vv rfl) (args1 (vv rfl) args0) ⟨y, s, A, S1, _, rfl, W1, a, S2, rfl, by omega, by omega, h2, by omega, fun H2 v e W2 k2 => ?_⟩
            exact s_call W2.st (by decide +kernel) (v_sr T W2 (vv rfl)) (args1 (vv rfl) args0) ⟨s, A, S2, _, rfl, W2.st, b, _, l, rfl, by omega, by omega, h3, hc, fun _ H3 g3 k3 => k _ _ rfl (W2.to g3 k3) ((k1.trans k2).trans k3)⟩
      · cases hl
def fTie : List V → LC.S → ((Hp → V → Prop) → LC.S → Prop) → Prop := fun as S k => ∃ a b S', as = [.int (a : Nat), .int (b : Nat)] ∧ a < S.n ∧ b < S.n ∧ S.n ≤ 10000 ∧ LC.tie S a b = some S' ∧ S'.cnt ≤ cLim ∧ k (IsV .non) S'
theorem ok_wy_tie (T : Tx w K mg) : Ok P w K mg base 7 .wy_tie (spWy K fTie) := by
  refine T.okd .wy_tie sc_wy_tie (fun vs H Q E h => ?_) (fun cdv A0 outer s0 H vs Q E hr h => ⟨_, (pss_cons (ps_if (pt_val (pe_meth (pv 0) (T.cls .wy) (T.meth .wy _ (by decide +kernel)) (ok_wy_are_joined T) (hr.mono (by decide)) (b_wy_are_joined T) .nil pass0 (pa_cons (pv 1) (pa_cons (pv 2) pa_nil)))) (pss_one ps_never) pss_nil)
    (pss_cons (ps_expr (pe_meth (pv 0) (T.cls .wy) (T.meth .wy _ (by decide +kernel)) (ok_wy_turn_about T) (hr.mono (by decide)) (b_wy_turn_about T) .nil pass0 (pa_cons (pv 2) pa_nil)))
    (pss_cons (ps_expr (pe_meth (pe_fld (pv 0) rfl) (T.cls .st) (T.meth .st _ (by decide +kernel)) (ok_st_lead T) (hr.mono (by decide)) (b_st_lead T) .nil pass0 (pa_cons (pv 1) pa_nil)))
    (pss_cons (ps_asg (pv 1) (pg_sub (pe_fld (pe_fld (pv 0) rfl) rfl) (pv 2) set_list))
    (pss_cons (ps_expr (pe_meth (pe_fld (pv 0) rfl) (T.cls .st) (T.meth .st _ (by decide +kernel)) (ok_st_hang T) (hr.mono (by decide)) (b_st_hang T) .nil pass0 (pa_cons (pv 1) (pa_cons (pv 2) (pa_cons pe_int pa_nil)))))
    (pss_one (ps_expr (pe_meth (pe_fld (pv 0) rfl) (T.cls .st) (T.meth .st _ (by decide +kernel)) (ok_st_gather T) (hr.mono (by decide)) (b_st_gather T) .nil pass0 (pa_cons (pv 1) pa_nil))))))))), ?_⟩)
  · obtain ⟨y, s, A, S, as, rfl, _, a, b, S', rfl, _⟩ := h; rfl
  · obtain ⟨y, s, A, S, as, rfl, hW, a, b, S', rfl, ha, hb, hn, hl, hc, k⟩ := h
    unfold LC.tie at hl
    cases h1 : LC.areJoined S a b with
    | none => rw [h1] at hl; cases hl
    | some pr =>
      obtain ⟨S1, r⟩ := pr; rw [h1] at hl; dsimp only at hl
      split at hl
      · cases hl
      · rename_i hr1
        have hr2 : r = false := by simpa using hr1
        cases h2 : LC.turnAbout S1 b with
        | none => rw [h2] at hl; cases hl
        | some S2 =>
          rw [h2] at hl; dsimp only at hl
          cases h3 : LC.lead S2 a with
          | none => rw [h3] at hl; cases hl
          | some pr =>
            obtain ⟨S3, l⟩ := pr; rw [h3] at hl; dsimp only at hl; cases hl
            have c1 := areJoined_cnt h1
            have c2 := turnAbout_cnt h2
            have c3 := LC.lead_cnt h3
            have hc3 : S3.cnt ≤ cLim := hc
            refine c_wyV hW (by decide +kernel) (vv rfl) (args1 (vv rfl) (args1 (vv rfl) args0)) ⟨y, s, A, S, _, rfl, hW, a, b, S1, r, rfl, ha, hb, hn, h1, by omega, fun H1 v e W1 k1 => ⟨r, e, ?_⟩⟩
            rw [hr2]
            refine iteF ?_
            refine q_callW W1 (by decide +kernel) (vv rfl) (args1 (vv rfl) args0) ⟨y, s, A, S1, _, rfl, W1, b, S2, rfl, by omega, by omega, h2, by omega, fun H2 v e W2 k2 => ?_⟩
            refine q_call W2.st (by decide +kernel) (v_sr T W2 (vv rfl)) (args1 (vv rfl) args0) ⟨s, A, S2, _, rfl, W2.st, a, S3, l, rfl, by omega, by omega, h3, hc3, fun _ H3 g3 k3 => ?_⟩
            have W3 := W2.to g3 k3
            refine q_wr T g3 .above (LC.setAb S3 b (some a)) (v := .int a) (vv rfl) (v_sr T W3 (vv rfl)) (vv rfl) (by omega) (fun i _ => up_map oV S3.ab b (some a) i) (else_ab _ _) (g3.wf.setAb _ _ fun z e => by cases e; omega) fun H4 g4 k4 => ?_
            have W4 := W3.to g4 k4
            have n4 : (LC.setAb S3 b (some a)).n = S3.n := rfl
            refine q_call g4 (by decide +kernel) (v_sr T W4 (vv rfl)) (args1 (vv rfl) (args1 (vv rfl) (args1 vc args0))) ⟨s, A, _, _, rfl, g4, a, b, 1, rfl, by omega, by omega, small1, fun H5 g5 k5 => ?_⟩
            have W5 := W4.to g5 k5
            exact s_call g5 (by decide +kernel) (v_sr T W5 (vv rfl)) (args1 (vv rfl) args0) ⟨s, A, _, _, rfl, g5, a, rfl, by omega, fun H6 g6 k6 => k _ _ rfl (W5.to g6 k6) (((((k1.trans k2).trans k3).trans k4).trans k5).trans k6)⟩
def fOpenTie : List V → LC.S → ((Hp → V → Prop) → LC.S → Prop) → Prop := fun as S k => ∃ a b S', as = [.int (a : Nat), .int (b : Nat)] ∧ a < S.n ∧ b < S.n ∧ S.n ≤ 10000 ∧ LC.openTie S a b = some S' ∧ S'.cnt ≤ cLim ∧ k (IsV .non) S'
theorem ok_wy_open_tie (T : Tx w K mg) : Ok P w K mg base 7 .wy_open_tie (spWy K fOpenTie) := by
  refine T.okd .wy_open_tie sc_wy_open_tie (fun vs H Q E h => ?_) (fun cdv A0 outer s0 H vs Q E hr h => ⟨_, (pss_cons (ps_expr (pe_meth (pv 0) (T.cls .wy) (T.meth .wy _ (by decide +kernel)) (ok_wy_turn_about T) (hr.mono (by decide)) (b_wy_turn_about T) .nil pass0 (pa_cons (pv 1) pa_nil)))
    (pss_cons (ps_expr (pe_meth (pe_fld (pv 0) rfl) (T.cls .st) (T.meth .st _ (by decide +kernel)) (ok_st_lead T) (hr.mono (by decide)) (b_st_lead T) .nil pass0 (pa_cons (pv 2) pa_nil)))
    (pss_one (ps_if (PW.pt (pw_or (pt_cmpR op_eq (pv 1) (pv 2) (nomark _)) (pw_or (pt_cmpR op_ne (pe_ix ix_list (pe_fld (pe_fld (pv 0) rfl) rfl) (pv 2) (fun _ _ => rfl)) (pv 1) (nomark _)) (pw_or1 (pt_cmpR op_ne (pe_ix ix_list (pe_fld (pe_fld (pv 0) rfl) rfl) (pv 2) (fun _ _ => rfl)) pe_int (nomark _)))))) (pss_one ps_never) pss_nil)))), ?_⟩)
  · obtain ⟨y, s, A, S, as, rfl, _, a, b, S', rfl, _⟩ := h; rfl
  · obtain ⟨y, s, A, S, as, rfl, hW, a, b, S', rfl, ha, hb, hn, hl, hc, k⟩ := h
    unfold LC.openTie at hl
    cases h2 : LC.turnAbout S a with
    | none => rw [h2] at hl; cases hl
    | some S2 =>
      rw [h2] at hl; dsimp only at hl
      cases h3 : LC.lead S2 b with
      | none => rw [h3] at hl; cases hl
      | some pr =>
        obtain ⟨S3, l⟩ := pr; rw [h3] at hl; dsimp only at hl
        split at hl
        · cases hl
        · rename_i hne
          cases hl
          have hne1 : a ≠ b := fun e => hne (.inl e)
          have hne2 : S'.ch false b = some a := Classical.byContradiction fun e => hne (.inr (.inl e))
          have hne3 : S'.mn b = 2 := Classical.byContradiction fun e => hne (.inr (.inr e))
          have c2 := turnAbout_cnt h2
          have c3 := LC.lead_cnt h3
          refine q_callW hW (by decide +kernel) (vv rfl) (args1 (vv rfl) args0) ⟨y, s, A, S, _, rfl, hW, a, S2, rfl, ha, hn, h2, by omega, fun H2 v e W2 k2 => ?_⟩
          refine q_call W2.st (by decide +kernel) (v_sr T W2 (vv rfl)) (args1 (vv rfl) args0) ⟨s, A, S2, _, rfl, W2.st, b, _, l, rfl, by omega, by omega, h3, hc, fun _ H3 g3 k3 => ?_⟩
          have W3 := W2.to g3 k3
          have hbn : b < S'.n := by omega
          refine s_when (b := false || (false || false)) (a_or (b := false) (L2.Ans.to (a_test (v_eq (vv rfl : Val (tVar 1) [some (.ref y), some (.int a), some (.int b)] H3 (.int a)) (vv rfl : Val (tVar 2) [some (.ref y), some (.int a), some (.int b)] H3 (.int b)) rfl)) (decide_eq_false (fun e => hne1 (by injection e; omega)))) fun _ => a_or (b := false) (L2.Ans.to (a_test (v_ne (v_rd T g3 .left (v_sr T W3 (vv rfl)) (vv rfl) hbn) (vv rfl) (scal_oV _ a))) (by
            show (!decide (oV (S'.ch false b) = V.int a)) = false; rw [hne2]; simp [oV])) fun _ => L2.Ans.to (a_test (v_ne (v_rd T g3 .many (v_sr T W3 (vv rfl)) (vv rfl) hbn) (vc (v := .int 2)) rfl)) (by
            show (!decide (V.int (S'.mn b) = V.int 2)) = false; rw [hne3]; simp)) (fun q => by cases q) fun _ => k _ _ rfl W3 (k2.trans k3)
def fCut : List V → LC.S → ((Hp → V → Prop) → LC.S → Prop) → Prop := fun as S k => ∃ a b S', as = [.int (a : Nat), .int (b : Nat)] ∧ a < S.n ∧ b < S.n ∧ S.n ≤ 10000 ∧ LC.cut S a b = some S' ∧ S'.cnt ≤ cLim ∧ k (IsV .non) S'
theorem openTie_cnt {a b : Nat} (h : LC.openTie S a b = some S') : S.cnt ≤ S'.cnt ∧ S'.n = S.n := by
  unfold LC.openTie at h
  cases h2 : LC.turnAbout S a with
  | none => rw [h2] at h; cases h
  | some S2 =>
    rw [h2] at h; dsimp only at h
    cases h3 : LC.lead S2 b with
    | none => rw [h3] at h; cases h
    | some pr =>
      obtain ⟨S3, l⟩ := pr; rw [h3] at h; dsimp only at h
      split at h
      · cases h
      · cases h; have := turnAbout_cnt h2; have := LC.lead_cnt h3; omega
theorem ok_wy_cut (T : Tx w K mg) : Ok P w K mg base 8 .wy_cut (spWy K fCut) := by
  refine T.okd .wy_cut sc_wy_cut (fun vs H Q E h => ?_) (fun cdv A0 outer s0 H vs Q E hr h => ⟨_, (pss_cons (ps_expr (pe_meth (pv 0) (T.cls .wy) (T.meth .wy _ (by decide +kernel)) (ok_wy_open_tie T) (hr.mono (by decide)) (b_wy_open_tie T) .nil pass0 (pa_cons (pv 1) (pa_cons (pv 2) pa_nil))))
    (pss_cons (ps_asg pe_non (pg_sub (pe_fld (pe_fld (pv 0) rfl) rfl) (pv 2) set_list))
    (pss_cons (ps_asg pe_non (pg_sub (pe_fld (pe_fld (pv 0) rfl) rfl) (pv 1) set_list))
    (pss_one (ps_expr (pe_meth (pe_fld (pv 0) rfl) (T.cls .st) (T.meth .st _ (by decide +kernel)) (ok_st_gather T) (hr.mono (by decide)) (b_st_gather T) .nil pass0 (pa_cons (pv 2) pa_nil))))))), ?_⟩)
  · obtain ⟨y, s, A, S, as, rfl, _, a, b, S', rfl, _⟩ := h; rfl
  · obtain ⟨y, s, A, S, as, rfl, hW, a, b, S', rfl, ha, hb, hn, hl, hc, k⟩ := h
    unfold LC.cut at hl
    cases h1 : LC.openTie S a b with
    | none => rw [h1] at hl; cases hl
    | some S1 =>
      rw [h1] at hl; dsimp only at hl; cases hl
      have c1 := openTie_cnt h1
      have hc1 : S1.cnt ≤ cLim := hc
      refine q_callW hW (by decide +kernel) (vv rfl) (args1 (vv rfl) (args1 (vv rfl) args0)) ⟨y, s, A, S, _, rfl, hW, a, b, S1, rfl, ha, hb, hn, h1, hc1, fun H1 v e W1 k1 => ?_⟩
      have g1 := W1.st
      refine q_wr T g1 .left (LC.setCh S1 false b none) (v := .non) vc (v_sr T W1 (vv rfl)) (vv rfl) (by omega) (fun i _ => fv_chF S1 b none i) (else_chF S1 b _) (g1.wf.setCh _ _ _ (fun y e => by cases e)) fun H2 g2 k2 => ?_
      have W2 := W1.to g2 k2
      have n2 : (LC.setCh S1 false b none).n = S1.n := rfl
      refine q_wr T g2 .above (LC.setAb (LC.setCh S1 false b none) a none) (v := .non) vc (v_sr T W2 (vv rfl)) (vv rfl) (by omega) (fun i _ => up_map oV _ a none i) (else_ab _ _) (g2.wf.setAb _ _ fun z e => by cases e) fun H3 g3 k3 => ?_
      have W3 := W2.to g3 k3
      have n3 : (LC.setAb (LC.setCh S1 false b none) a none).n = S1.n := rfl
      exact s_call g3 (by decide +kernel) (v_sr T W3 (vv rfl)) (args1 (vv rfl) args0) ⟨s, A, _, _, rfl, g3, b, rfl, by omega, fun H6 g6 k6 => k _ _ rfl (W3.to g6 k6) (((k1.trans k2).trans k3).trans k6)⟩
def fAdd : List V → LC.S → ((Hp → V → Prop) → LC.S → Prop) → Prop := fun as S k => ∃ a b m S', as = [.int (a : Nat), .int (b : Nat), .int m] ∧ a < S.n ∧ b < S.n ∧ S.n ≤ 10000 ∧ Small m ∧ LC.addW S a b m = some S' ∧ S'.cnt ≤ cLim ∧ k (IsV .non) S'
theorem ok_wy_add (T : Tx w K mg) : Ok P w K mg base 8 .wy_add (spWy K fAdd) := by
  refine T.okd .wy_add sc_wy_add (fun vs H Q E h => ?_) (fun cdv A0 outer s0 H vs Q E hr h => ⟨_, (pss_cons (ps_expr (pe_meth (pv 0) (T.cls .wy) (T.meth .wy _ (by decide +kernel)) (ok_wy_open_way T) (hr.mono (by decide)) (b_wy_open_way T) .nil pass0 (pa_cons (pv 1) (pa_cons (pv 2) pa_nil))))
    (pss_one (ps_expr (pe_meth (pe_fld (pv 0) rfl) (T.cls .st) (T.meth .st _ (by decide +kernel)) (ok_st_more_by T) (hr.mono (by decide)) (b_st_more_by T) .nil pass0 (pa_cons (pv 2) (pa_cons (pv 3) pa_nil)))))), ?_⟩)
  · obtain ⟨y, s, A, S, as, rfl, _, a, b, m, S', rfl, _⟩ := h; rfl
  · obtain ⟨y, s, A, S, as, rfl, hW, a, b, m, S', rfl, ha, hb, hn, hm, hl, hc, k⟩ := h
    unfold LC.addW at hl
    cases h1 : LC.openWay S a b with
    | none => rw [h1] at hl; cases hl
    | some S1 =>
      rw [h1] at hl; dsimp only at hl; cases hl
      have c1 := openWay_cnt h1
      have hc1 : S1.cnt ≤ cLim := hc
      refine q_callW hW (by decide +kernel) (vv rfl) (args1 (vv rfl) (args1 (vv rfl) args0)) ⟨y, s, A, S, _, rfl, hW, a, b, S1, rfl, ha, hb, hn, h1, hc1, fun H1 v e W1 k1 => ?_⟩
      exact s_call W1.st (by decide +kernel) (v_sr T W1 (vv rfl)) (args1 (vv rfl) (args1 (vv rfl) args0)) ⟨s, A, _, _, rfl, W1.st, some b, m, rfl, fun x e => by cases e; exact ⟨by omega, .inl hm⟩, fun H6 g6 k6 => k _ _ rfl (W1.to g6 k6) (k1.trans k6)⟩
end
end TC
namespace TC
open PySem PySem.Spec PyProof.Rows L2
section
variable {P : Program} {w : World} {K : PySem.W.Frag} {mg : Str → Option Value} {base : Heap} {H H' H0 : Hp} {y s : Addr} {A : Fd → Addr} {S S' : LC.S} {σ : L2.St} {ta tb tx te tl : TE} {D : Ends} {v : V} {t1 t2 tz tu : TS} {t : TT}
def IsT (xs : List V) : Hp → V → Prop := fun H v => ∃ q, v = .ref q ∧ H q = some (.tup xs)
theorem v_lenL {p : Addr} {ys : List V} (h : Val te σ H (.ref p)) (hq : SqL K H p ys ∨ SqT K H p ys) : Val (tCB (fun xs H Q => ∃ p ys, xs = [V.ref p] ∧ (SqL K H p ys ∨ SqT K H p ys) ∧ Q (.int ys.length) H) (tCons te tNil)) σ H (.int ys.length) := fun Q q =>
  h _ ⟨p, ys, rfl, hq, q⟩
theorem StrAt.free (h : StrAt K H s A S) {p : Addr} (hp : H p = none) (f : Fd) : p ≠ A f := fun q => by
  obtain ⟨xs, a, _⟩ := h.lst f
  rw [q, a] at hp; cases hp
theorem q_setN {i : Nat} {R : Hp → V → Prop} (h : ∀ Q : VK, (∀ v H', Ex H H' → R H' v → Q v H') → te σ H Q) (k : ∀ v H', Ex H H' → R H' v → tz D (σ.set i (some v)) H') : tSeq (tAsg te (gName i)) tz D σ H := h _ k
theorem l_tup1 {xs : List V} (h : NewU te σ H xs) {Q : VK} (k : ∀ p wa H2, H2 wa = none → Ex H H2 → H2 p = some (.tup xs) → Q (.ref wa) (upd H2 wa (.lst [.ref p]))) : tLst (tCons te tNil) σ H Q :=
  h _ fun p H2 hp e2 h2 => ⟨by show 1 ≤ sizeLine; decide, fun wa hwa => k p wa H2 hwa e2 h2⟩
theorem s_retTupL {a : Addr} {xs : List V} (h : Val te σ H (.ref a)) (hx : SqL K H a xs) (k : ∀ l H1, Ex H H1 → H1 l = some (.tup xs) → D.rt (.ref l) H1) :
    tRet (tCB (fun xs H Q => ∃ p ys, xs = [V.ref p] ∧ ((SqL K H p ys ∧ ∀ l, H l = none → Q (.ref l) (upd H l (.tup ys))) ∨ (SqT K H p ys ∧ Q (.ref p) H))) (tCons te tNil)) D σ H :=
  h _ ⟨a, xs, rfl, .inl ⟨hx, fun l hl => k l _ (Ex.new hl) upd_same⟩⟩
theorem q_pop2 {a p : Addr} {xs : List V} {v1 v2 : V} {i j : Nat} (hb : Val tb σ H (.ref a)) (ha : H a = some (.lst (xs ++ [.ref p]))) (hp : H p = some (.tup [v1, v2])) (k : tz D ((σ.set i (some v1)).set j (some v2)) (upd H a (.lst xs))) :
    tSeq (tAsg (tBM0 K "list" rPop tb) (gTup K 2 (gCons (gName i) (gCons (gName j) gNil)))) tz D σ H := by
  have ppw : p ≠ a := fun e => by rw [e, ha] at hp; cases hp
  refine hb _ ⟨.inl ⟨rfl, _, SqL.of ha⟩, a, _, .ref p, rfl, rfl, ha, by simp, p, _, rfl, SqT.of (by rw [upd_ne ppw]; exact hp), rfl, v1, [v2], rfl, v2, [], rfl, rfl, ?_⟩
  rw [show (xs ++ [V.ref p]).dropLast = xs by simp]; exact k
theorem s_ext3 {a : Addr} {xs y1 y2 y3 : List V} {u1 u2 u3 : TE} (hb : Val tb σ H (.ref a)) (ha : H a = some (.lst xs)) (h1 : NewU u1 σ H y1) (h2 : ∀ H', Ex H H' → NewU u2 σ H' y2) (h3 : ∀ H', Ex H H' → NewU u3 σ H' y3) (hl : xs.length + 3 ≤ sizeLine)
    (k : ∀ p1 p2 p3 H1, Ex H H1 → H1 a = some (.lst xs) → H1 p1 = some (.tup y1) → H1 p2 = some (.tup y2) → H1 p3 = some (.tup y3) → D.nx σ (upd H1 a (.lst (xs ++ [.ref p1, .ref p2, .ref p3])))) :
    tDrop (tBM K "list" rExtend tb (tCons (tLst (tCons u1 (tCons u2 (tCons u3 tNil)))) tNil)) D σ H :=
  hb _ ⟨.inl ⟨rfl, _, SqL.of ha⟩, h1 _ fun p1 H7 hp1 e7 h7 => h2 H7 e7 _ fun p2 H8 hp2 e8 h8 => h3 H8 (e7.trans e8) _ fun p3 H9 hp3 e9 h9 => ⟨by show 3 ≤ sizeLine; decide, fun q hq => ⟨a, q, xs, [.ref p1, .ref p2, .ref p3], rfl, rfl, Ex.new hq _ _ (e9 _ _ (e8 _ _ (e7 _ _ ha))), upd_same, hl,
    k p1 p2 p3 _ (((e7.trans e8).trans e9).trans (Ex.new hq)) (Ex.new hq _ _ (e9 _ _ (e8 _ _ (e7 _ _ ha)))) ((e8.trans (e9.trans (Ex.new hq))) _ _ h7) ((e9.trans (Ex.new hq)) _ _ h8) (Ex.new hq _ _ h9)⟩⟩⟩
def PWs (H : Hp) : List V → List (Option Nat × Bool) → Prop
  | [], [] => True
  | v :: vs, o :: os => (∃ p, v = .ref p ∧ H p = some (.tup [oV o.1, .bl o.2])) ∧ PWs H vs os
  | _, _ => False
theorem PWs.keep (hS : StrAt K H s A S) (e : Keep A H H') : ∀ {vs : List V} {os : List (Option Nat × Bool)}, PWs H vs os → PWs H' vs os
  | [], [], _ => trivial
  | v :: vs, o :: os, ⟨⟨p, a, b⟩, c⟩ => ⟨⟨p, a, e p _ b fun f q => by
    obtain ⟨xs, z, _⟩ := hS.lst f
    rw [q, z] at b; cases b⟩, PWs.keep hS e c⟩
theorem PWs.len : ∀ {vs : List V} {os : List (Option Nat × Bool)}, PWs H vs os → vs.length = os.length
  | [], [], _ => rfl
  | v :: vs, o :: os, ⟨_, c⟩ => by rw [List.length_cons, List.length_cons, PWs.len c]
theorem PWs.upd {a : Addr} {xs : List V} {o : HO} (ha : H a = some (.lst xs)) : ∀ {vs : List V} {os : List (Option Nat × Bool)}, PWs H vs os → PWs (upd H a o) vs os
  | [], [], _ => trivial
  | v :: vs, o :: os, ⟨⟨p, e, b⟩, c⟩ => ⟨⟨p, e, by rw [upd_ne (ne_of b ha (by intro z; cases z))]; exact b⟩, PWs.upd ha c⟩
theorem PWs.ex (e : Ex H H') : ∀ {vs : List V} {os : List (Option Nat × Bool)}, PWs H vs os → PWs H' vs os
  | [], [], _ => trivial
  | v :: vs, o :: os, ⟨⟨p, a, b⟩, c⟩ => ⟨⟨p, a, e _ _ b⟩, PWs.ex e c⟩
def fInorder : List V → LC.S → ((Hp → V → Prop) → LC.S → Prop) → Prop := fun as S k => ∃ top S' p, as = [.int (top : Nat)] ∧ top < S.n ∧ S.n ≤ 10000 ∧ LC.inorder S top = some (S', p) ∧ k (IsT (p.map iV)) S'
theorem ok_wy_inorder (T : Tx w K mg) : Ok P w K mg base 3 .wy_inorder (spWy K fInorder) := by
  refine T.okd .wy_inorder sc_wy_inorder (fun vs H Q E h => ?_) (fun cdv A0 outer s0 H vs Q E hr h => ⟨_, (pss_cons (ps_set (i := 2) sc_wy_inorder.nd rfl (Or.inl rfl) (pe_fld (pv 0) rfl))
    (pss_cons (ps_set (i := 3) sc_wy_inorder.nd rfl (Or.inl rfl) (pe_lst pa_nil))
    (pss_cons (ps_set (i := 4) sc_wy_inorder.nd rfl (Or.inl rfl) (pe_lst (pa_cons (pe_tup (pa_cons (pv 1) (pa_cons pe_bl pa_nil))) pa_nil)))
    (pss_cons (ps_while PassesOwn.never (pt_cmpR op_gt (pe_callB call_len_seq (by rfl) (T.free _ (by decide +kernel)) (by decide +kernel) (by exact (pa_cons (pv 4) pa_nil))) pe_int (nomark _)) (pss_cons (ps_asg (pe_bm0 PySem.F.plainAttrs_list PySem.F.slot_list_pop PySem.F.type_list_pop mt_pop (pv 4)) (pg_tup rfl (pgs_cons (pg_name (i := 5) sc_wy_inorder.nd rfl (Or.inl rfl)) (pgs_cons (pg_name (i := 6) sc_wy_inorder.nd rfl (Or.inl rfl)) pgs_nil))))
    (pss_one (ps_if (pt_val (pv 6)) (pss_one (ps_expr (pe_bm PySem.F.plainAttrs_list PySem.F.slot_list_append PySem.F.type_list_append mt_append (pv 3) (pa_cons (pv 5) pa_nil)))) (pss_one (ps_if (pt_cmpR op_notN1 (pv 5) pe_non (nomark _)) (pss_cons (ps_expr (pe_meth (pv 2) (T.cls .st) (T.meth .st _ (by decide +kernel)) (ok_st_hand_down T) (hr.mono (by decide)) (b_st_hand_down T) .nil pass0 (pa_cons (pv 5) pa_nil)))
    (pss_one (ps_expr (pe_bm PySem.F.plainAttrs_list PySem.F.slot_list_extend PySem.F.type_list_extend mt_extend (pv 4) (pa_cons (pe_lst (pa_cons (pe_tup (pa_cons (pe_ix ix_list (pe_fld (pv 2) rfl) (pv 5) (fun _ _ => rfl)) (pa_cons pe_bl pa_nil))) (pa_cons (pe_tup (pa_cons (pv 5) (pa_cons pe_bl pa_nil))) (pa_cons (pe_tup (pa_cons (pe_ix ix_list (pe_fld (pv 2) rfl) (pv 5) (fun _ _ => rfl)) (pa_cons pe_bl pa_nil))) pa_nil)))) pa_nil))))) pss_nil))))))
    (pss_one (ps_ret (pe_callTy call_tuple_of (by rfl) (T.free _ (by decide +kernel)) (by decide +kernel) (by exact (pa_cons (pv 3) pa_nil))))))))), ?_⟩)
  · obtain ⟨y, s, A, S, as, rfl, _, top, S', p, rfl, _⟩ := h; rfl
  · obtain ⟨y, s, A, S, as, rfl, hW, top, S', p, rfl, ht, hn, hl, k⟩ := h
    unfold LC.inorder at hl
    split at hl
    rotate_left
    · cases hl
    rename_i hM
    refine q_set (v := .ref s) (v_sr T hW (vv rfl)) ?_
    refine q_setL (ys := []) (nl_lst args0 (by show 0 ≤ 100000; decide)) fun fa H1 hf0 e1 h1f => ?_
    have fn := hW.st.free hf0
    have hW1 := hW.ex e1
    refine q_setN (R := fun H' v => ∃ wa xs, v = V.ref wa ∧ H1 wa = none ∧ H' wa = some (.lst xs.reverse) ∧ PWs H' xs [(some top, false)]) (fun Q q => ?_) fun v H2 e2 hv => ?_
    · exact l_tup1 (nu_tup (args1 (vv rfl) (args1 vc args0)) (by show 2 ≤ 100000; decide)) fun p wa H2 hwa e2 h2 => q _ _ (e2.trans (Ex.new hwa)) ⟨wa, [.ref p], rfl, fresh_back e2 hwa, upd_same, ⟨⟨p, rfl, Ex.new hwa _ _ h2⟩, trivial⟩⟩
    obtain ⟨wa, xs, rfl, hw0, hwx, hpw⟩ := hv
    have wn := hW1.st.free hw0
    have wf : wa ≠ fa := fun e => by rw [e, h1f] at hw0; cases hw0
    refine q_while (W := fun f σ' H' => ∃ (S1 : LC.S) (ws : List (Option Nat × Bool)) (found : List Nat) (xs : List V) (o1 o2 : Option V), σ' = [some (.ref y), some (.int top), some (.ref s), some (.ref fa), some (.ref wa), o1, o2] ∧ WyAt K H' y s A S1 ∧ Keep A H H' ∧ H' fa = some (.lst (found.map iV)) ∧ H' wa = some (.lst xs.reverse) ∧ PWs H' xs ws ∧ (∀ o ∈ ws, ∀ x, o.1 = some x → x < S1.n) ∧ S1.n = S.n ∧ LC.MnOk S1 ∧ ws.length + 2 * f ≤ 8 * S.n + 9 ∧ found.length + f ≤ 4 * S.n + 4 ∧ LC.inorderL f S1 ws found = some (S', p)) (4 * S.n + 4)
      ⟨S, [(some top, false)], [], xs, none, none, rfl, hW1.ex e2, exKeep (e1.trans e2), e2 _ _ h1f, hwx, hpw, fun o ho x e => by rw [List.mem_singleton.mp ho] at e; cases e; exact ht, rfl, hM, by simp; omega, by simp, hl⟩ ?_
    rintro f _ H3 ⟨S1, ws, found, xs, o1, o2, rfl, W3, k3, hfa, hwa, hpw, hws, n1, M1, l1, l2, hf⟩
    have lx := PWs.len hpw
    cases f with
    | zero => cases hf
    | succ f =>
      refine ⟨decide ((0 : Int) < (xs.reverse.length : Nat)), (fun Q q => a_test (v_I0 (v_lenL (vv rfl) (.inl (SqL.of hwa))) vc) _ (q H3 (Ex.refl _))), fun hb H4 e4 => ?_, fun hb H4 e4 => ?_⟩
      · cases ws with
        | nil => rw [List.length_reverse, lx] at hb; simp at hb
        | cons o ws =>
          cases xs with
          | nil => cases hpw
          | cons x xs =>
            have W4 := W3.ex e4
            obtain ⟨⟨pp, rfl, hpp⟩, hpw4⟩ := PWs.ex e4 hpw
            have hwa4 := e4 _ _ hwa
            have hfa4 := e4 _ _ hfa
            have hrev : (V.ref pp :: xs).reverse = xs.reverse ++ [V.ref pp] := List.reverse_cons
            rw [hrev] at hwa4
            have ppw : pp ≠ wa := fun e => by rw [e, hwa4] at hpp; cases hpp
            have W5 : WyAt K (upd H4 wa (.lst xs.reverse)) y s A S1 := ⟨by
              obtain ⟨dx, h⟩ := W4.ob
              exact ⟨dx, by rw [upd_ne (ne_of h hwa4 (by intro z; cases z))]; exact h⟩, W4.st.updn hwa4 wn⟩
            have k5 : Keep A H (upd H4 wa (.lst xs.reverse)) := Keep.upd (.inr trivial) wn (k3.ex e4) (fresh_back e1 hw0)
            refine q_pop2 (vv rfl) hwa4 hpp ?_
            have hfa5 : upd H4 wa (.lst xs.reverse) fa = some (.lst (found.map iV)) := by rw [upd_ne (Ne.symm wf)]; exact hfa4
            have hpw5 : PWs (upd H4 wa (.lst xs.reverse)) xs ws := PWs.upd hwa4 hpw4
            have hwa5 : upd H4 wa (.lst xs.reverse) wa = some (.lst xs.reverse) := upd_same
            generalize upd H4 wa (.lst xs.reverse) = H5 at W5 k5 hfa5 hpw5 hwa5 ⊢
            obtain ⟨ox, ob⟩ := o
            refine s_if (b := ob) (a_B (vv rfl)) (fun q => ?_) (fun q => ?_)
            · subst q
              cases ox with
              | none => cases hf
              | some x =>
                rw [LC.inorderL] at hf
                refine s_append (v := iV x) (vv rfl) hfa5 (args1 (vv rfl) args0) (by rw [List.length_map]; exact sz_lt (by omega)) ⟨f, Nat.lt_succ_self f, S1, ws, found ++ [x], xs, _, _, rfl, ⟨by
                  obtain ⟨dx, h⟩ := W5.ob
                  exact ⟨dx, by rw [upd_ne (ne_of h hfa5 (by intro z; cases z))]; exact h⟩, W5.st.updn hfa5 fn⟩, Keep.upd (.inr trivial) fn k5 hf0, by rw [upd_same, List.map_append]; rfl, by rw [upd_ne wf]; exact hwa5, PWs.upd hfa5 hpw5, fun o ho => hws o (List.mem_cons_of_mem _ ho), n1, M1, by simp at l1 ⊢; omega, by simp at l2 ⊢; omega, hf⟩
            · subst q
              cases ox with
              | none =>
                rw [LC.inorderL] at hf
                exact s_when (b := false) (a_test (v_notN (x := .non) (vv rfl))) (fun q => by cases q) fun _ => ⟨f, Nat.lt_succ_self f, S1, ws, found, xs, _, _, rfl, W5, k5, hfa5, hwa5, hpw5, fun o ho => hws o (List.mem_cons_of_mem _ ho), n1, M1, by simp at l1 ⊢; omega, by omega, hf⟩
              | some x =>
                rw [LC.inorderL] at hf
                have hx : x < S1.n := hws _ List.mem_cons_self x rfl
                refine s_when (b := true) (a_test (v_notN (x := .int x) (vv rfl))) (fun _ => ?_) (fun q => by cases q)
                refine q_call W5.st (by decide +kernel) (vv rfl) (args1 (vv rfl) args0) ⟨s, A, S1, _, rfl, W5.st, x, rfl, hx, M1, fun H6 g6 k6 => ?_⟩
                have W6 := W5.to g6 k6
                have n6 := (handDown_mn S1 x).2
                have hx6 : x < (LC.handDown S1 x).n := by rw [n6]; exact hx
                have hwa6 := k6 wa _ hwa5 wn
                have hfa6 := k6 fa _ hfa5 fn
                have hpw6 := PWs.keep W5.st k6 hpw5
                refine s_ext3 (vv rfl) hwa6 (nu_tup (args1 (v_rd T g6 .right (vv rfl) (vv rfl) hx6) (args1 vc args0)) (by show 2 ≤ 100000; decide)) (fun _ _ => nu_tup (args1 (vv rfl) (args1 vc args0)) (by show 2 ≤ 100000; decide)) (fun H8 e8 => nu_tup (args1 (v_rd T (g6.ex e8) .left (vv rfl) (vv rfl) hx6) (args1 vc args0)) (by show 2 ≤ 100000; decide)) (by
                  simp at l1 ⊢; exact sz_le (by simp at lx; omega)) fun p1 p2 p3 HA eA _ h7 h8 h9 => ?_
                have hwaA := eA _ _ hwa6
                have WA := W6.ex eA
                refine ⟨f, Nat.lt_succ_self f, _, _, found, .ref p3 :: .ref p2 :: .ref p1 :: xs, _, _, rfl, ⟨by
                  obtain ⟨dx, h⟩ := WA.ob
                  exact ⟨dx, by rw [upd_ne (ne_of h hwaA (by intro z; cases z))]; exact h⟩, WA.st.updn hwaA wn⟩, Keep.upd (.inr trivial) wn ((k5.trans k6).ex eA) (fresh_back e1 hw0), by rw [upd_ne (Ne.symm wf)]; exact eA _ _ hfa6, by rw [upd_same]; simp, ?_, ?_, n6.trans n1, MnOk.handDown M1 x, by simp at l1 ⊢; omega, by omega, hf⟩
                · refine PWs.upd hwaA ⟨⟨p3, rfl, h9⟩, ⟨p2, rfl, h8⟩, ⟨p1, rfl, h7⟩, PWs.ex eA hpw6⟩
                · intro o ho z e
                  rcases List.mem_cons.mp ho with q | ho
                  · rw [q] at e; exact g6.wf.ch _ _ _ e
                  rcases List.mem_cons.mp ho with q | ho
                  · rw [q] at e; cases e; exact hx6
                  rcases List.mem_cons.mp ho with q | ho
                  · rw [q] at e; exact g6.wf.ch _ _ _ e
                  · rw [n6]; exact hws o (List.mem_cons_of_mem _ ho) z e
      · cases ws with
        | cons o ws => rw [List.length_reverse, lx] at hb; simp at hb
        | nil =>
          cases hf
          have W4 := W3.ex e4
          have hfa4 := e4 _ _ hfa
          exact s_retTupL (vv rfl) (SqL.of hfa4) fun l H5 e5 h5 => k _ _ ⟨l, rfl, h5⟩ (W4.ex e5) ((k3.ex e4).ex e5)
def spWyV (K : PySem.W.Frag) (F : List V → LC.S → (V → Prop) → Prop) : Sp := fun vs H Q _ => ∃ y s A S as, vs = .ref y :: as ∧ WyAt K H y s A S ∧ F as S (fun v => Q v H)
def fBelow : List V → LC.S → (V → Prop) → Prop := fun as S k => ∃ (o : Option Nat) (m : Int), as = [oV o, .str "reach", .int m] ∧ (∀ x, o = some x → x < S.n) ∧ k (.bl (LC.isBelow S o m))
theorem ok_wy_is_below (T : Tx w K mg) : Ok P w K mg base 1 .wy_is_below (spWyV K fBelow) := by
  refine T.okd .wy_is_below sc_wy_is_below (fun vs H Q E h => ?_) (fun cdv A0 outer s0 H vs Q E hr h => ⟨_, (pss_cons (ps_if (pt_cmpR op_isN1 (pv 1) pe_non (nomark _)) (pss_one (ps_ret pe_bl)) pss_nil)
    (pss_cons (ps_if (pt_cmpR op_eq (pv 2) pe_str (nomark _)) (pss_one (ps_ret (pe_cmpR op_gt (pe_op op_and (pe_ix ix_list (pe_fld (pe_fld (pv 0) rfl) rfl) (pv 1) (fun _ _ => rfl)) (pv 3)) pe_int (nomark _)))) pss_nil)
    (pss_one (ps_ret (pe_cmpR op_ge (pe_ix ix_list (pe_fld (pe_fld (pv 0) rfl) rfl) (pv 1) (fun _ _ => rfl)) (pv 3) (nomark _)))))), ?_⟩)
  · obtain ⟨y, s, A, S, as, rfl, _, o, m, rfl, _⟩ := h; rfl
  · obtain ⟨y, s, A, S, as, rfl, hW, o, m, rfl, ho, k⟩ := h
    refine q_when (b := decide (oV o = .non)) (a_test (v_isN (vv rfl))) (fun hb => ?_) (fun hb => ?_)
    · cases o with
      | none => exact s_ret vc k
      | some x => simp [oV] at hb
    · cases o with
      | none => simp [oV] at hb
      | some x =>
        refine q_when (b := false) (L2.Ans.to (a_test (v_eq (vv rfl) (vc (v := .str "kind")) rfl)) (by decide +kernel)) (fun q => by cases q) fun _ => ?_
        refine s_ret (v := .bl (LC.isBelow S (some x) m)) ?_ k
        exact v_I0 (v_rd T hW.st .most (v_sr T hW (vv rfl)) (vv rfl) (ho x rfl)) (vv rfl)
def fWanted : List V → LC.S → (V → Prop) → Prop := fun as S k => ∃ (x : Nat) (m : Int), as = [.int x, .str "reach", .int m] ∧ x < S.n ∧ k (.bl (decide (m ≤ S.wo x)))
theorem ok_wy_is_wanted (T : Tx w K mg) : Ok P w K mg base 1 .wy_is_wanted (spWyV K fWanted) := by
  refine T.okd .wy_is_wanted sc_wy_is_wanted (fun vs H Q E h => ?_) (fun cdv A0 outer s0 H vs Q E hr h => ⟨_, (pss_cons (ps_if (pt_cmpR op_eq (pv 2) pe_str (nomark _)) (pss_one (ps_ret (pe_cmpR op_gt (pe_op op_and (pe_ix ix_list (pe_fld (pe_fld (pv 0) rfl) rfl) (pv 1) (fun _ _ => rfl)) (pv 3)) pe_int (nomark _)))) pss_nil)
    (pss_one (ps_ret (pe_cmpR op_ge (pe_ix ix_list (pe_fld (pe_fld (pv 0) rfl) rfl) (pv 1) (fun _ _ => rfl)) (pv 3) (nomark _))))), ?_⟩)
  · obtain ⟨y, s, A, S, as, rfl, _, o, m, rfl, _⟩ := h; rfl
  · obtain ⟨y, s, A, S, as, rfl, hW, x, m, rfl, hx, k⟩ := h
    refine q_when (b := false) (L2.Ans.to (a_test (v_eq (vv rfl) (vc (v := .str "kind")) rfl)) (by decide +kernel)) (fun q => by cases q) fun _ => ?_
    exact s_ret (v := .bl (decide (m ≤ S.wo x))) (v_I0 (v_rd T hW.st .worth (v_sr T hW (vv rfl)) (vv rfl) hx) (vv rfl)) k
def fFirstBy : List V → LC.S → ((Hp → V → Prop) → LC.S → Prop) → Prop := fun as S k => ∃ top m S' x, as = [.int (top : Nat), .str "reach", .int m] ∧ top < S.n ∧ S.n ≤ 10000 ∧ LC.firstBy S top m = some (S', x) ∧ S'.cnt ≤ cLim ∧ k (IsV (.int (x : Nat))) S'
theorem a_below (hW : WyAt K H y s A S) {o : Option Nat} {m : Int} (hb : Val tb σ H (.ref y)) (ho : Val tx σ H (oV o)) (hw : Val te σ H (.str "reach")) (hm : Val tl σ H (.int m)) (hlt : ∀ x, o = some x → x < S.n) :
    L2.Ans (tB (tMeth (Cad K .wy) "is_below" (spWyV K fBelow) [] E0 tb (tCons tx (tCons te (tCons tl tNil))))) σ H (LC.isBelow S o m) := fun Q q =>
  c_wyV hW (by decide +kernel) hb (args1 ho (args1 hw (args1 hm args0))) ⟨y, s, A, S, _, rfl, hW, o, m, rfl, hlt, ⟨_, rfl, q⟩⟩
theorem a_wanted (hW : WyAt K H y s A S) {x : Nat} {m : Int} (hb : Val tb σ H (.ref y)) (ho : Val tx σ H (.int x)) (hw : Val te σ H (.str "reach")) (hm : Val tl σ H (.int m)) (hlt : x < S.n) :
    L2.Ans (tB (tMeth (Cad K .wy) "is_wanted" (spWyV K fWanted) [] E0 tb (tCons tx (tCons te (tCons tl tNil))))) σ H (decide (m ≤ S.wo x)) := fun Q q =>
  c_wyV hW (by decide +kernel) hb (args1 ho (args1 hw (args1 hm args0))) ⟨y, s, A, S, _, rfl, hW, x, m, rfl, hlt, ⟨_, rfl, q⟩⟩
theorem firstL_cnt : ∀ (k : Nat) (S S' : LC.S) (x y : Nat) (m : Int), LC.firstL k S x m = some (S', y) → S'.cnt = S.cnt ∧ S'.n = S.n
  | 0, _, _, _, _, _, h => by cases h
  | k + 1, S, S', x, y, m, h => by
    rw [LC.firstL] at h
    split at h
    · split at h
      · cases h
      · rename_i z hz
        have := firstL_cnt k _ _ _ _ _ h
        have h2 := LC.hand_cnt [z] S
        exact ⟨this.1.trans h2.1, this.2.trans h2.2⟩
    · cases h; exact ⟨rfl, rfl⟩
theorem ok_wy_first_by (T : Tx w K mg) : Ok P w K mg base 5 .wy_first_by (spWy K fFirstBy) := by
  refine T.okd .wy_first_by sc_wy_first_by (fun vs H Q E h => ?_) (fun cdv A0 outer s0 H vs Q E hr h => ⟨_, (pss_cons (ps_if (pt_not (pt_val (pe_meth (pv 0) (T.cls .wy) (T.meth .wy _ (by decide +kernel)) (ok_wy_is_below T) (hr.mono (by decide)) (b_wy_is_below T) .nil pass0 (pa_cons (pv 1) (pa_cons (pv 2) (pa_cons (pv 3) pa_nil)))))) (pss_one (ps_ret pe_non)) pss_nil)
    (pss_cons (ps_set (i := 4) sc_wy_first_by.nd rfl (Or.inl rfl) (pv 1))
    (pss_cons (ps_expr (pe_meth (pe_fld (pv 0) rfl) (T.cls .st) (T.meth .st _ (by decide +kernel)) (ok_st_hand_down T) (hr.mono (by decide)) (b_st_hand_down T) .nil pass0 (pa_cons (pv 4) pa_nil)))
    (pss_cons (ps_while PassesOwn.never (PW.pt (pw_or (pt_val (pe_meth (pv 0) (T.cls .wy) (T.meth .wy _ (by decide +kernel)) (ok_wy_is_below T) (hr.mono (by decide)) (b_wy_is_below T) .nil pass0 (pa_cons (pe_ix ix_list (pe_fld (pe_fld (pv 0) rfl) rfl) (pv 4) (fun _ _ => rfl)) (pa_cons (pv 2) (pa_cons (pv 3) pa_nil))))) (pw_or1 (pt_not (pt_val (pe_meth (pv 0) (T.cls .wy) (T.meth .wy _ (by decide +kernel)) (ok_wy_is_wanted T) (hr.mono (by decide)) (b_wy_is_wanted T) .nil pass0 (pa_cons (pv 4) (pa_cons (pv 2) (pa_cons (pv 3) pa_nil))))))))) (Evl.pss_cut (ps_if (pt_val (pe_meth (pv 0) (T.cls .wy) (T.meth .wy _ (by decide +kernel)) (ok_wy_is_below T) (hr.mono (by decide)) (b_wy_is_below T) .nil pass0 (pa_cons (pe_ix ix_list (pe_fld (pe_fld (pv 0) rfl) rfl) (pv 4) (fun _ _ => rfl)) (pa_cons (pv 2) (pa_cons (pv 3) pa_nil))))) (pss_one (ps_set (i := 4) sc_wy_first_by.nd rfl (Or.inl rfl) (pe_ix ix_list (pe_fld (pe_fld (pv 0) rfl) rfl) (pv 4) (fun _ _ => rfl)))) (pss_one (ps_set (i := 4) sc_wy_first_by.nd rfl (Or.inl rfl) (pe_ix ix_list (pe_fld (pe_fld (pv 0) rfl) rfl) (pv 4) (fun _ _ => rfl)))))
    (pss_one (ps_expr (pe_meth (pe_fld (pv 0) rfl) (T.cls .st) (T.meth .st _ (by decide +kernel)) (ok_st_hand_down T) (hr.mono (by decide)) (b_st_hand_down T) .nil pass0 (pa_cons (pv 4) pa_nil))))))
    (pss_cons (ps_expr (pe_meth (pe_fld (pv 0) rfl) (T.cls .st) (T.meth .st _ (by decide +kernel)) (ok_st_lift T) (hr.mono (by decide)) (b_st_lift T) .nil pass0 (pa_cons (pv 4) pa_nil)))
    (pss_one (ps_ret (pv 4)))))))), ?_⟩)
  · obtain ⟨y, s, A, S, as, rfl, _, top, m, S', x, rfl, _⟩ := h; rfl
  · obtain ⟨y, s, A, S, as, rfl, hW, top, m, S', x, rfl, ht, hn, hl, hc, k⟩ := h
    unfold LC.firstBy at hl
    split at hl
    rotate_left
    · cases hl
    rename_i hM
    obtain ⟨hB, hM⟩ := hM
    cases h1 : LC.firstL (S.n + 1) (LC.handDown S top) top m with
    | none => rw [h1] at hl; cases hl
    | some pr =>
      obtain ⟨S1, x1⟩ := pr
      rw [h1] at hl; dsimp only at hl
      cases h2 : LC.lift S1 x1 with
      | none => rw [h2] at hl; cases hl
      | some S2 =>
        rw [h2] at hl; dsimp only at hl; cases hl
        refine q_when (b := !LC.isBelow S (some top) m) (a_not (a_below hW (vv rfl) (vv rfl) (vv rfl) (vv rfl) fun x e => by cases e; exact ht)) (fun q => by rw [hB] at q; cases q) fun _ => ?_
        refine q_set (v := .int top) (vv rfl) ?_
        refine q_call hW.st (by decide +kernel) (v_sr T hW (vv rfl)) (args1 (vv rfl) args0) ⟨s, A, S, _, rfl, hW.st, top, rfl, ht, hM, fun H1 g1 k1 => ?_⟩
        have W1 := hW.to g1 k1
        refine q_while (W := fun f σ' H' => ∃ (x2 : Nat) (S2 : LC.S), σ' = [some (.ref y), some (.int top), some (.str "reach"), some (.int m), some (.int x2)] ∧ WyAt K H' y s A S2 ∧ Keep A H H' ∧ x2 < S2.n ∧ S2.n = S.n ∧ LC.MnOk S2 ∧ LC.firstL f S2 x2 m = some (S1, x)) (S.n + 1)
          ⟨top, _, rfl, W1, k1, by rw [(handDown_mn S top).2]; exact ht, (handDown_mn S top).2, MnOk.handDown hM top, h1⟩ ?_
        rintro f _ H3 ⟨x2, S2, rfl, W3, k3, hx2, n2, M2, hf⟩
        cases f with
        | zero => cases hf
        | succ f =>
          rw [LC.firstL] at hf
          refine ⟨LC.isBelow S2 (S2.ch false x2) m || !decide (m ≤ S2.wo x2), (fun Q q => a_or (a_below W3 (vv rfl) (v_rd T W3.st .left (v_sr T W3 (vv rfl)) (vv rfl) hx2) (vv rfl) (vv rfl) fun z e => W3.st.wf.ch _ _ _ e) (fun _ => a_not (a_wanted W3 (vv rfl) (vv rfl) (vv rfl) (vv rfl) hx2)) _ (q H3 (Ex.refl _))), fun hb H4 e4 => ?_, fun hb H4 e4 => ?_⟩
          · rw [if_pos hb] at hf
            have W4 := W3.ex e4
            split at hf
            · cases hf
            rename_i z hz
            refine q_cut (M := fun σ' H5 => σ' = [some (.ref y), some (.int top), some (.str "reach"), some (.int m), some (.int z)] ∧ WyAt K H5 y s A S2 ∧ Keep A H H5) ?_ ?_
            · refine s_if (b := LC.isBelow S2 (S2.ch false x2) m) (a_below W4 (vv rfl) (v_rd T W4.st .left (v_sr T W4 (vv rfl)) (vv rfl) hx2) (vv rfl) (vv rfl) fun z e => W4.st.wf.ch _ _ _ e) (fun q => ?_) (fun q => ?_)
              · rw [if_pos q] at hz
                exact s_set (v := .int z) (by rw [show V.int (z : Nat) = fv S2 .left x2 by show _ = oV (S2.ch false x2); rw [hz]; rfl]; exact v_rd T W4.st .left (v_sr T W4 (vv rfl)) (vv rfl) hx2) ⟨rfl, W4, k3.ex e4⟩
              · rw [if_neg (by rw [q]; decide)] at hz
                exact s_set (v := .int z) (by rw [show V.int (z : Nat) = fv S2 .right x2 by show _ = oV (S2.ch true x2); rw [hz]; rfl]; exact v_rd T W4.st .right (v_sr T W4 (vv rfl)) (vv rfl) hx2) ⟨rfl, W4, k3.ex e4⟩
            · rintro _ H5 ⟨rfl, W5, k5⟩
              have hzn : z < S2.n := by
                split at hz
                · exact W5.st.wf.ch _ _ _ hz
                · exact W5.st.wf.ch _ _ _ hz
              exact s_call W5.st (by decide +kernel) (v_sr T W5 (vv rfl)) (args1 (vv rfl) args0) ⟨s, A, S2, _, rfl, W5.st, z, rfl, hzn, M2, fun H6 g6 k6 => ⟨f, Nat.lt_succ_self f, z, _, rfl, W5.to g6 k6, k5.trans k6, by rw [(handDown_mn S2 z).2]; exact hzn, (handDown_mn S2 z).2.trans n2, MnOk.handDown M2 z, hf⟩⟩
          · rw [if_neg (by rw [hb]; decide)] at hf
            cases hf
            have W4 := W3.ex e4
            refine q_call W4.st (by decide +kernel) (v_sr T W4 (vv rfl)) (args1 (vv rfl) args0) ⟨s, A, _, _, rfl, W4.st, x, S', rfl, hx2, by omega, h2, hc, fun H5 g5 k5 => ?_⟩
            exact s_ret (v := .int x) (vv rfl) (k _ _ rfl (W4.to g5 k5) ((k3.ex e4).trans k5))
end
end TC
namespace TZ
open PySem
section
variable {prog : Program} {w : World} {A : Around} {E : Value → Shared → Prop} {s : Shared}
theorem sign_next {it : Addr} {x : Str} {t : Tok} {i c : Nat} {Q : Value → Shared → Prop} (hit : s.heap.IsStrIter it "str_ascii_iterator" x t i) (hx : x.cps[i]? = some c)
    (hQ : ∀ h', h'.IsStrIter it "str_ascii_iterator" x t (i + 1) → Heap.SameBut it s.heap h' → Q (.str ⟨#[c]⟩ s.toks) { s with heap := h', toks := s.toks + 1 }) :
    wpAny (model prog w) A (Builtin.SmallTypes.nextOf (.ref it)) Q E s := by
  obtain ⟨o, ho, hc, hd⟩ := id hit
  unfold Builtin.SmallTypes.nextOf
  refine wpAny_bind (wpAny_callSpecial?_slot (name := Str.ofString "__next__") hit.typeIs F.slot_str_ascii_iterator_next
    (wpAny_call_entry F.slot_str_ascii_iterator_next hit.typeIs F.entry_str_ascii_iterator_next ?_ (F.args_str_ascii_iterator_next_1 _)))
  show wpAny _ _ (field (.ref it) 0 >>= _) _ _ s
  refine wpAny_bind (wpAny_field ho hd (x := .str x t) rfl ?_)
  show wpAny _ _ (field (.ref it) 1 >>= _) _ _ s
  refine wpAny_bind (wpAny_field ho hd (x := .int i 0) rfl ?_)
  simp only [Int.toNat_natCast, hx]
  refine wpAny_bind (wpAny_setField ho hd (by simp) (wpAny_bind (wpAny_mkStr (wpAny_pure ⟨_, rfl, wpAny_pure (hQ _ ?_ (Heap.SameBut.update ..))⟩) (by show 1 ≤ sizeLine; decide))))
  exact ⟨_, Heap.get?_update_self _ ho (Obj.isFreed_of_fields (Obj.data_mapFields hd _)), (Obj.cls_mapFields ..).trans hc, by
    rw [Obj.data_mapFields hd]; simp [rawInt]⟩
theorem sign_end {it : Addr} {x : Str} {t : Tok} {i : Nat} {Q : Value → Shared → Prop} (hh : A.handled = none) (hit : s.heap.IsStrIter it "str_ascii_iterator" x t i) (hx : x.cps[i]? = none)
    (hE : ∀ h' e, Heap.ExtBut it s.heap h' → (∃ o, h'.get? e = some o ∧ o.cls = .type "StopIteration") → E (.ref e) { s with heap := h' }) :
    wpAny (model prog w) A (Builtin.SmallTypes.nextOf (.ref it)) Q E s := by
  obtain ⟨o, ho, hc, hd⟩ := id hit
  unfold Builtin.SmallTypes.nextOf
  refine wpAny_bind (wpAny_callSpecial?_slot (name := Str.ofString "__next__") hit.typeIs F.slot_str_ascii_iterator_next
    (wpAny_call_entry F.slot_str_ascii_iterator_next hit.typeIs F.entry_str_ascii_iterator_next ?_ (F.args_str_ascii_iterator_next_1 _)))
  show wpAny _ _ (field (.ref it) 0 >>= _) _ _ s
  refine wpAny_bind (wpAny_field ho hd (x := .str x t) rfl ?_)
  show wpAny _ _ (field (.ref it) 1 >>= _) _ _ s
  refine wpAny_bind (wpAny_field ho hd (x := .int i 0) rfl ?_)
  simp only [Int.toNat_natCast, hx]
  refine wpAny_bind (wpAny_rule (wpAny_bind (wpAny_setField ho hd (by simp) (wpAny_bind (wpAny_letGo ?_)))))
  show wpAny _ _ (newExc (.type "StopIteration") [] >>= _) _ _ _
  refine wpAny_bind ?_
  simp only [newExc, newTuple]
  refine wpAny_bind (wpAny_newObj_type ?_ (by size_fits))
  refine wpAny_bind (m := firstArgMember _ _) (wpAny_of_eq (a := Value.none) (by first | rfl | (simp only [firstArgMember]; rfl)) ?_)
  refine wpAny_newObj_type ?_ (by size_fits)
  simp only [raiseNew]
  refine wpAny_bind (wpAny_handled ?_)
  first | rw [show A.in1.handled = none from hh] | rw [hh]
  refine wpAny_bind (wpAny_pure (wpAny_throw ?_))
  exact hE _ _ (((Heap.SameBut.update ..).extBut.push _).push _) ⟨_, Heap.get?_push_size _ rfl, rfl⟩
theorem zipS_item {z TI TO i1 i2 l2 : Addr} {k1 k2 c : Nat} {txt : Str} {t : Tok} {ys : Array Value} {y a b : Value} {Q : Value → Shared → Prop} (D : ZipApart z TI TO i1 i2 l2 l2)
    (hz : IsZip s.heap z TI TO .none) (hTI : IsPair s.heap TI (.ref i1) (.ref i2)) (hTO : IsPair s.heap TO a b)
    (h1 : s.heap.IsStrIter i1 "str_ascii_iterator" txt t k1) (h2 : s.heap.IsTupleIter i2 l2 k2) (hl2 : s.heap.IsTuple l2 ys) (hx : txt.cps[k1]? = some c) (hy : ys[k2]? = some y)
    (hQ : ∀ h' tk, IsZip h' z TI TO (rawInt s.heap.objs.size) → IsPair h' TO (.str ⟨#[c]⟩ s.toks) y → h'.IsStrIter i1 "str_ascii_iterator" txt t (k1 + 1) → h'.IsTupleIter i2 l2 (k2 + 1) → IsPair h' s.heap.objs.size (.str ⟨#[c]⟩ s.toks) y → h'.objs.size = s.heap.objs.size + 1 →
      (∀ c o, c ≠ z → c ≠ TO → c ≠ i1 → c ≠ i2 → s.heap.get? c = some o → h'.get? c = some o) → Q (.ref s.heap.objs.size) { s with heap := h', toks := tk }) :
    wpAny (model prog w) A (Builtin.«zip.__next__» ⟨[.ref z], []⟩) (fun fin s' => ∃ v, fin = .done (.ret v) ∧ Q v s') E s := by
  show wpAny _ _ (field (.ref z) 2 >>= _) _ _ _
  refine wpAny_bind (wpAny_field hz rfl (x := .bool false) rfl ?_)
  show wpAny _ _ (field (.ref z) 3 >>= _) _ _ _
  refine wpAny_bind (wpAny_field hz rfl (x := .ref TI) rfl ?_)
  refine wpAny_bind (wpAny_seqItems hTI rfl ?_)
  show wpAny _ _ (Builtin.SmallTypes.ownedTupleIsFree (.ref z) >>= _) _ _ _
  refine wpAny_bind ?_
  unfold Builtin.SmallTypes.ownedTupleIsFree
  refine wpAny_bind (wpAny_field hz rfl (x := .none) rfl (wpAny_pure ?_))
  simp only [if_true]
  refine wpAny_bind (wpAny_rule ?_)
  refine wpAny_bind (wpAny_field hz rfl (x := .ref TO) rfl ?_)
  refine wpAny_bind (wpAny_setField_rec hz (by simp) fun h₁ hz₁ hs₁ => ?_)
  replace hz₁ : IsZip h₁ z TI TO .ellipsis := hz₁
  refine wpAny_bind ?_
  simp only [List.zipIdx_cons, List.zipIdx_nil, List.forIn_cons, List.forIn_nil]
  refine wpAny_bind (wpAny_bind (wpAny_onRaise ?_))
  show wpAny _ _ (Builtin.SmallTypes.nextOf (.ref i1) >>= _) _ _ _
  refine wpAny_bind (sign_next (h1.extBut hs₁.extBut D.i1z) hx fun h₂ h1₂ hs₂ => wpAny_pure ?_)
  have hTO₂ : IsPair h₂ TO a b := hs₂.extBut _ _ D.TOi1 (hs₁.extBut _ _ D.TOz hTO)
  refine wpAny_bind (wpAny_seqItems hTO₂ rfl ?_)
  refine wpAny_bind (wpAny_updateSeq_pair hTO₂ fun h₃ hTO₃ hs₃ => ?_)
  replace hTO₃ : IsPair h₃ TO (.str ⟨#[c]⟩ s.toks) b := hTO₃
  refine wpAny_bind (wpAny_letGo (wpAny_pure ?_))
  refine wpAny_bind (wpAny_bind (wpAny_onRaise ?_))
  show wpAny _ _ (Builtin.SmallTypes.nextOf (.ref i2) >>= _) _ _ _
  refine wpAny_bind (RZ.nextOf_tuple_item (((h2.extBut hs₁.extBut D.i2z).extBut hs₂.extBut D.i12.symm).extBut hs₃.extBut D.TOi2.symm)
    (((hl2.extBut hs₁.extBut D.l2z).extBut hs₂.extBut D.l2i1).extBut hs₃.extBut D.l2TO) hy fun h₄ h2₄ hs₄ => wpAny_pure ?_)
  have hTO₄ : IsPair h₄ TO (.str ⟨#[c]⟩ s.toks) b := hs₄.extBut _ _ D.TOi2 hTO₃
  refine wpAny_bind (wpAny_seqItems hTO₄ rfl ?_)
  refine wpAny_bind (wpAny_updateSeq_pair hTO₄ fun h₅ hTO₅ hs₅ => ?_)
  replace hTO₅ : IsPair h₅ TO (.str ⟨#[c]⟩ s.toks) y := hTO₅
  refine wpAny_bind (wpAny_letGo (wpAny_pure (wpAny_pure ?_)))
  refine wpAny_bind (wpAny_seqItems hTO₅ rfl ?_)
  refine wpAny_bind (wpAny_newTuple ?_)
  have hsz : h₅.objs.size = s.heap.objs.size := by rw [hs₅.1, hs₄.1, hs₃.1, hs₂.1, hs₁.1]
  have hz₅ : IsZip h₅ z TI TO .ellipsis := hs₅.extBut _ _ D.TOz.symm (hs₄.extBut _ _ D.i2z.symm (hs₃.extBut _ _ D.TOz.symm (hs₂.extBut _ _ D.i1z.symm hz₁)))
  have hk₅ : ∀ c o, c ≠ z → c ≠ TO → c ≠ i1 → c ≠ i2 → s.heap.get? c = some o → h₅.get? c = some o := fun c o c1 c2 c3 c4 e =>
    hs₅.extBut _ _ c2 (hs₄.extBut _ _ c4 (hs₃.extBut _ _ c2 (hs₂.extBut _ _ c3 (hs₁.extBut _ _ c1 e))))
  have h1₅ : h₅.IsStrIter i1 "str_ascii_iterator" txt t (k1 + 1) := ((h1₂.extBut hs₃.extBut D.TOi1.symm).extBut hs₄.extBut D.i12).extBut hs₅.extBut D.TOi1.symm
  have h2₅ : h₅.IsTupleIter i2 l2 (k2 + 1) := h2₄.extBut hs₅.extBut D.TOi2.symm
  have hzlt : z < h₅.objs.size := Heap.lt_size hz₅
  show wpAny _ _ (Builtin.SmallTypes.ownedTupleHandOut (.ref z) (.ref h₅.objs.size) >>= _) _ _ _
  refine wpAny_bind ?_
  unfold Builtin.SmallTypes.ownedTupleHandOut
  have hz₆ : IsZip (h₅.push { cls := .type "tuple", data := .seq #[.str ⟨#[c]⟩ s.toks, y] }) z TI TO .ellipsis := Heap.get?_push_of_some _ hz₅
  refine wpAny_bind (wpAny_setField_rec hz₆ (by simp) fun h₇ hz₇ hs₇ => ?_)
  replace hz₇ : IsZip h₇ z TI TO (rawInt h₅.objs.size) := hz₇
  refine wpAny_setField_rec hz₇ (by simp) fun h₈ hz₈ hs₈ => ?_
  replace hz₈ : IsZip h₈ z TI TO (rawInt h₅.objs.size) := hz₈
  have up : ∀ c o, c ≠ z → h₅.get? c = some o → h₈.get? c = some o := fun c o c1 e => hs₈.extBut _ _ c1 (hs₇.extBut _ _ c1 (Heap.get?_push_of_some _ e))
  have hT₈ : IsPair h₈ h₅.objs.size (.str ⟨#[c]⟩ s.toks) y := hs₈.extBut _ _ (Nat.ne_of_gt hzlt) (hs₇.extBut _ _ (Nat.ne_of_gt hzlt) (Heap.get?_push_size _ rfl))
  have hz8 : h₈.objs.size = h₅.objs.size + 1 := by rw [hs₈.1, hs₇.1, Heap.size_push]
  rw [hsz] at hz₈ hT₈ hz8
  refine wpAny_pure ⟨_, rfl, ?_⟩
  show Q (.ref h₅.objs.size) _
  rw [hsz]
  obtain ⟨o1, e1, c1, d1⟩ := h1₅
  exact hQ h₈ _ hz₈ (up _ _ D.TOz hTO₅) ⟨o1, up _ o1 D.i1z e1, c1, d1⟩ (h2₅.at fun o e => up _ o D.i2z e) hT₈ hz8 fun c o c1 c2 c3 c4 e => up c o c1 (hk₅ c o c1 c2 c3 c4 e)
theorem zipS_end {z TI TO i1 i2 : Addr} {k1 : Nat} {txt : Str} {t : Tok} {Q : Fin → Shared → Prop} (hh : A.handled = none) (d1 : i1 ≠ z)
    (hz : IsZip s.heap z TI TO .none) (hTI : IsPair s.heap TI (.ref i1) (.ref i2))
    (h1 : s.heap.IsStrIter i1 "str_ascii_iterator" txt t k1) (hx : txt.cps[k1]? = none)
    (hE : ∀ h' e, (∀ c o, c ≠ z → c ≠ TO → c ≠ i1 → c ≠ i2 → s.heap.get? c = some o → h'.get? c = some o) → (∃ o, h'.get? e = some o ∧ o.cls = .type "StopIteration") → E (.ref e) { s with heap := h' }) :
    wpAny (model prog w) A (Builtin.«zip.__next__» ⟨[.ref z], []⟩) Q E s := by
  show wpAny _ _ (field (.ref z) 2 >>= _) _ _ _
  refine wpAny_bind (wpAny_field hz rfl (x := .bool false) rfl ?_)
  show wpAny _ _ (field (.ref z) 3 >>= _) _ _ _
  refine wpAny_bind (wpAny_field hz rfl (x := .ref TI) rfl ?_)
  refine wpAny_bind (wpAny_seqItems hTI rfl ?_)
  show wpAny _ _ (Builtin.SmallTypes.ownedTupleIsFree (.ref z) >>= _) _ _ _
  refine wpAny_bind ?_
  unfold Builtin.SmallTypes.ownedTupleIsFree
  refine wpAny_bind (wpAny_field hz rfl (x := .none) rfl (wpAny_pure ?_))
  simp only [if_true]
  refine wpAny_bind (wpAny_rule ?_)
  refine wpAny_bind (wpAny_field hz rfl (x := .ref TO) rfl ?_)
  refine wpAny_bind (wpAny_setField_rec hz (by simp) fun h₁ hz₁ hs₁ => ?_)
  replace hz₁ : IsZip h₁ z TI TO .ellipsis := hz₁
  refine wpAny_bind ?_
  simp only [List.zipIdx_cons, List.zipIdx_nil, List.forIn_cons, List.forIn_nil]
  refine wpAny_bind (wpAny_bind (wpAny_onRaise ?_))
  show wpAny _ _ (Builtin.SmallTypes.nextOf (.ref i1) >>= _) _ _ _
  refine wpAny_bind (sign_end hh (h1.extBut hs₁.extBut d1) hx fun h₂ e hs₂ he => ?_)
  obtain ⟨oe, hoe, hce⟩ := he
  have hz₂ : IsZip h₂ z TI TO .ellipsis := hs₂ _ _ d1.symm hz₁
  have hez : e ≠ z := fun x => by subst x; rw [hz₂] at hoe; cases hoe; simp at hce
  refine wpAny_setField_rec hz₂ (by simp) fun h₃ _ hs₃ => hE h₃ e (fun c o c1 _ c3 _ x => hs₃.extBut _ _ c1 (hs₂ _ _ c3 (hs₁.extBut _ _ c1 x))) ⟨oe, hs₃.extBut _ _ hez hoe, hce⟩
theorem pyNext_item {z TI TO i1 i2 l2 : Addr} {k1 k2 c : Nat} {txt : Str} {t : Tok} {ys : Array Value} {y a b : Value} {Q : Option Value → Shared → Prop} (D : ZipApart z TI TO i1 i2 l2 l2)
    (hz : IsZip s.heap z TI TO .none) (hTI : IsPair s.heap TI (.ref i1) (.ref i2)) (hTO : IsPair s.heap TO a b)
    (h1 : s.heap.IsStrIter i1 "str_ascii_iterator" txt t k1) (h2 : s.heap.IsTupleIter i2 l2 k2) (hl2 : s.heap.IsTuple l2 ys) (hx : txt.cps[k1]? = some c) (hy : ys[k2]? = some y)
    (hQ : ∀ h' tk, IsZip h' z TI TO (rawInt s.heap.objs.size) → IsPair h' TO (.str ⟨#[c]⟩ s.toks) y → h'.IsStrIter i1 "str_ascii_iterator" txt t (k1 + 1) → h'.IsTupleIter i2 l2 (k2 + 1) → IsPair h' s.heap.objs.size (.str ⟨#[c]⟩ s.toks) y → h'.objs.size = s.heap.objs.size + 1 →
      (∀ c o, c ≠ z → c ≠ TO → c ≠ i1 → c ≠ i2 → s.heap.get? c = some o → h'.get? c = some o) → Q (some (.ref s.heap.objs.size)) { s with heap := h', toks := tk }) :
    wpAny (model prog w) A (pyNext (.ref z)) Q E s := by
  have hT : s.TypeIs (.ref z) "zip" := ⟨_, hz, rfl⟩
  unfold pyNext
  exact wpAny_bind (wpAny_attempt (wpAny_callSpecial?_slot (name := Str.ofString "__next__") hT F.slot_zip_next
    (wpAny_call_entry F.slot_zip_next hT F.entry_zip_next
      (zipS_item D hz hTI hTO h1 h2 hl2 hx hy fun h' tk a1 a2 a3 a4 a5 a6 a7 => wpAny_pure (hQ h' tk a1 a2 a3 a4 a5 a6 a7)) (F.args_zip_next_1 _))))
theorem pyNext_end {z TI TO i1 i2 : Addr} {k1 : Nat} {txt : Str} {t : Tok} {Q : Option Value → Shared → Prop} (hh : A.handled = none) (d1 : i1 ≠ z)
    (hz : IsZip s.heap z TI TO .none) (hTI : IsPair s.heap TI (.ref i1) (.ref i2))
    (h1 : s.heap.IsStrIter i1 "str_ascii_iterator" txt t k1) (hx : txt.cps[k1]? = none)
    (hQ : ∀ h', (∀ c o, c ≠ z → c ≠ TO → c ≠ i1 → c ≠ i2 → s.heap.get? c = some o → h'.get? c = some o) → Q none { s with heap := h' }) : wpAny (model prog w) A (pyNext (.ref z)) Q E s := by
  have hT : s.TypeIs (.ref z) "zip" := ⟨_, hz, rfl⟩
  unfold pyNext
  refine wpAny_bind (wpAny_attempt (wpAny_callSpecial?_slot (name := Str.ofString "__next__") hT F.slot_zip_next
    (wpAny_call_entry F.slot_zip_next hT F.entry_zip_next (zipS_end hh d1 hz hTI h1 hx fun h' e hk he => ?_) (F.args_zip_next_1 _))))
  obtain ⟨o, ho, hc⟩ := he
  refine wpAny_bind (wpAny_isInstance (T := "StopIteration") (b := true) ⟨o, ho, hc⟩ isSubtype_stop ?_)
  exact wpAny_pure (hQ _ hk)
end
abbrev zs1 (h : Heap) (txt : Str) (t : Tok) : Heap := h.push { cls := .type "str_ascii_iterator", data := .fields #[.str txt t, .int 0 0] }
abbrev zs2 (h : Heap) (txt : Str) (t : Tok) (l2 : Addr) : Heap := (zs1 h txt t).push { cls := .type "tuple_iterator", data := .fields #[.ref l2, .int 0 0] }
abbrev zs3 (h : Heap) (txt : Str) (t : Tok) (l2 : Addr) : Heap := (zs2 h txt t l2).push { cls := .type "tuple", data := .seq #[.ref h.objs.size, .ref (zs1 h txt t).objs.size] }
abbrev zs4 (h : Heap) (txt : Str) (t : Tok) (l2 : Addr) : Heap := (zs3 h txt t l2).push { cls := .type "tuple", data := .seq #[.none, .none] }
abbrev zs5 (h : Heap) (txt : Str) (t : Tok) (l2 : Addr) : Heap := (zs4 h txt t l2).push { cls := .type "zip", data := .fields #[.none, .bool false, .bool false, .ref (zs2 h txt t l2).objs.size, .ref (zs3 h txt t l2).objs.size] }
theorem meets_new (txt : Str) (t : Tok) (l2 : Addr) (ys : Array Value) (ha : txt.cps.all (· < 128) = true) :
    Meets (Builtin.«zip.__new__» ⟨[.type "zip", .str txt t, .ref l2], []⟩) (fun _ R s => s.heap.IsTuple l2 ys ∧
      R (.ok (.ret (.ref (zs4 s.heap txt t l2).objs.size))) { s with heap := zs5 s.heap txt t l2 }) :=
  .of_wp fun prog w A R s h => by
    obtain ⟨hp, g, d, tk, os⟩ := s; obtain ⟨hl2, h⟩ := h
    have hsub := sub_zip
    have hL2 : Heap.IsTuple (Shared.heap ⟨hp.push { cls := .type "str_ascii_iterator", data := .fields #[.str txt t, .int 0 0] }, g, d, tk, os⟩) l2 ys := Heap.IsTuple.push hl2 _
    wp_walk using wpAny_pyIter_ascii ha, wpAny_pyIter_tuple hL2
    exact ⟨_, rfl, h⟩
section
variable {prog : Program} {w : World} {A : Around} {E : Value → Shared → Prop} {s : Shared}
theorem call_zipS {txt : Str} {t : Tok} {l2 : Addr} {ys : Array Value} {Q : Value → Shared → Prop} (ha : txt.cps.all (· < 128) = true) (hl2 : s.heap.IsTuple l2 ys)
    (h : ∀ h', IsZip h' (s.heap.objs.size + 4) (s.heap.objs.size + 2) (s.heap.objs.size + 3) .none → IsPair h' (s.heap.objs.size + 2) (.ref s.heap.objs.size) (.ref (s.heap.objs.size + 1)) →
      IsPair h' (s.heap.objs.size + 3) .none .none → h'.IsStrIter s.heap.objs.size "str_ascii_iterator" txt t 0 → h'.IsTupleIter (s.heap.objs.size + 1) l2 0 →
      (∀ c o, s.heap.get? c = some o → h'.get? c = some o) → Q (.ref (s.heap.objs.size + 4)) { s with heap := h' }) :
    wpAny (model prog w) A (call (.type "zip") [.str txt t, .ref l2]) Q E s := by
  refine callType_new F.called_zip (by decide) (F.typeCall_zip_2 _ _) (F.newCall_zip_2 _ _) (fun obj => F.args_object_init_3 obj _ _) F.entry_zip_new
    (meets_new txt t l2 ys ha) ⟨hl2, ?_⟩
  have z1 : (zs1 s.heap txt t).objs.size = s.heap.objs.size + 1 := Heap.size_push ..
  have z2 : (zs2 s.heap txt t l2).objs.size = s.heap.objs.size + 2 := by rw [Heap.size_push, z1]
  have z3 : (zs3 s.heap txt t l2).objs.size = s.heap.objs.size + 3 := by rw [Heap.size_push, z2]
  have z4 : (zs4 s.heap txt t l2).objs.size = s.heap.objs.size + 4 := by rw [Heap.size_push, z3]
  have g5 : (zs5 s.heap txt t l2).get? (zs4 s.heap txt t l2).objs.size = some _ := Heap.get?_push_size _ rfl
  have g4 : (zs5 s.heap txt t l2).get? (zs3 s.heap txt t l2).objs.size = some _ := Heap.get?_push_of_some _ (Heap.get?_push_size _ rfl)
  have g3 : (zs5 s.heap txt t l2).get? (zs2 s.heap txt t l2).objs.size = some _ := Heap.get?_push_of_some _ (Heap.get?_push_of_some _ (Heap.get?_push_size _ rfl))
  have g2 : (zs5 s.heap txt t l2).get? (zs1 s.heap txt t).objs.size = some _ := Heap.get?_push_of_some _ (Heap.get?_push_of_some _ (Heap.get?_push_of_some _ (Heap.get?_push_size _ rfl)))
  have g1 : (zs5 s.heap txt t l2).get? s.heap.objs.size = some _ := Heap.get?_push_of_some _ (Heap.get?_push_of_some _ (Heap.get?_push_of_some _ (Heap.get?_push_of_some _ (Heap.get?_push_size _ rfl))))
  show _ ∧ _
  rw [z2, z3, z4] at g5
  rw [z1, z2] at g3
  rw [z3] at g4
  rw [z1] at g2
  rw [z4]
  exact ⟨⟨_, g5, rfl⟩, h _ g5 g3 g4 ⟨_, g1, rfl, rfl⟩ ⟨_, g2, rfl, rfl⟩ fun c o x =>
    Heap.get?_push_of_some _ (Heap.get?_push_of_some _ (Heap.get?_push_of_some _ (Heap.get?_push_of_some _ (Heap.get?_push_of_some _ x))))⟩
end
open PySem.Spec PyProof.Rows L2
def ItzS (K : PySem.W.Frag) (txt : Str) (b : Addr) : It :=
  ⟨fun i H => ∃ (ys : List V) (y : V), SqT K H b ys ∧ i < txt.cps.size ∧ ys[i]? = some y,
    fun i H v H' => ∃ T c y, v = .ref T ∧ H T = none ∧ H' = upd H T (.tup [.str ⟨#[c]⟩, y]) ∧ txt.cps[i]? = some c ∧ ∀ ys, SqT K H b ys → ys[i]? = some y,
    fun i H => txt.cps.size ≤ i⟩
theorem turn_zipS {P : Program} {w : World} {K : PySem.W.Frag} {elts : List Expr} {kk : Nat} {tpos : Pos} {txt : Str} {t : Tok} {b z TI TO i1 i2 : Addr} (D : ZipApart z TI TO i1 i2 b b) :
    Turn P w K (.Tuple elts kk tpos) (ItzS K txt b) [z, TI, TO, i1, i2] z (fun i h => IsZip h z TI TO .none ∧ IsPair h TI (.ref i1) (.ref i2) ∧ (∃ x y, IsPair h TO x y) ∧ h.IsStrIter i1 "str_ascii_iterator" txt t i ∧ h.IsTupleIter i2 b i) where
  mem := by simp
  obj := fun i h st c hc => by
    obtain ⟨hz, hTI, ⟨x, y, hTO⟩, ⟨o1, e1, _, d1⟩, ⟨o2, e2, _, d2⟩⟩ := st
    have e' : c = z ∨ c = TI ∨ c = TO ∨ c = i1 ∨ c = i2 := by simpa using hc
    rcases e' with q | q | q | q | q
    · rw [q]; exact ⟨_, hz, fun v q => nomatch q⟩
    · rw [q]; exact ⟨_, hTI, fun v q => nomatch q⟩
    · rw [q]; exact ⟨_, hTO, fun v q => nomatch q⟩
    · rw [q]; exact ⟨o1, e1, fun v q => by rw [d1] at q; cases q⟩
    · rw [q]; exact ⟨o2, e2, fun v q => by rw [d2] at q; cases q⟩
  keep := fun i h h' st k => by
    obtain ⟨hz, hTI, ⟨x, y, hTO⟩, ⟨o1, e1, c1, d1⟩, h2⟩ := st
    exact ⟨k z (by simp) _ hz, k TI (by simp) _ hTI, ⟨x, y, k TO (by simp) _ hTO⟩, ⟨o1, k i1 (by simp) _ e1, c1, d1⟩, h2.at fun o q => k i2 (by simp) o q⟩
  item := by
    intro X hP hw hK hc i pins s σ H E I hf st hg
    subst hP hw hK
    obtain ⟨hz, hTI, ⟨x0, y0, hTO⟩, h1, h2⟩ := st
    obtain ⟨ys, y, hqy, hi, hy⟩ := hg
    obtain ⟨c, hx⟩ : ∃ c, txt.cps[i]? = some c := ⟨_, Array.getElem?_eq_getElem hi⟩
    obtain ⟨its2, rv2, p2, _⟩ := I.tuple hqy
    obtain ⟨u2, hu2, ru2⟩ := rv2.get hy
    have hzl : z < s.heap.objs.size := Heap.lt_size hz
    refine pyNext_item D hz hTI hTO h1 h2 p2 (c := c) (y := u2) hx (by simpa using hu2) fun h' tk z' TO' h1' h2' hT hsz hk => ?_
    refine ⟨_, rfl, wpAny_letOwnedTupleGo_zip (s := { s with heap := h', toks := tk }) z' fun h'' z'' sb => ?_⟩
    have hT2 : h''.get? s.heap.objs.size = some { cls := .type "tuple", data := .seq #[.str ⟨#[c]⟩ s.toks, u2] } := (sb.2 _ (Nat.ne_of_gt hzl)).trans hT
    have new : ObjOk X.prog X.w (upd H s.heap.objs.size (.tup [.str ⟨#[c]⟩, y])) h'' s.heap.objs.size (.tup [.str ⟨#[c]⟩, y]) :=
      ⟨by show 2 ≤ sizeLine; decide, [.str ⟨#[c]⟩ s.toks, u2], .cons ⟨_, rfl⟩ (.cons ru2 .nil), ⟨_, hT2, rfl, _, rfl⟩⟩
    have I1 : Inv X pins σ (upd H s.heap.objs.size (.tup [.str ⟨#[c]⟩, y])) { s with heap := h'', toks := tk } :=
      I.turnedNew (t' := tk) (ch := [z, TI, TO, i1, i2]) (fun c o hb q => (sb.2 c (fun q' => hb (by simp [q']))).trans (hk c o (fun q' => hb (by simp [q'])) (fun q' => hb (by simp [q'])) (fun q' => hb (by simp [q'])) (fun q' => hb (by simp [q'])) q)) hf (Nat.le_refl _) new
    refine ⟨.ref s.heap.objs.size, _, I1, rfl, ⟨_, c, y, rfl, I.hok.fresh (Nat.le_refl _), rfl, hx, fun l hl => by rw [I.tuple_inj hl hqy]; exact hy⟩, ⟨z'', ?_, ⟨.str ⟨#[c]⟩ s.toks, u2, ?_⟩, ?_, ?_⟩, fun c hcm => ?_⟩
    · exact (sb.2 _ D.TIz).trans (hk _ _ D.TIz D.TITO D.TIi1 D.TIi2 hTI)
    · exact (sb.2 _ D.TOz).trans TO'
    · obtain ⟨o1, e1, c1, d1⟩ := h1'
      exact ⟨o1, (sb.2 _ D.i1z).trans e1, c1, d1⟩
    · exact h2'.at fun o q => (sb.2 _ D.i2z).trans q
    · have hlt : c < s.heap.objs.size := by
        have e' : c = z ∨ c = TI ∨ c = TO ∨ c = i1 ∨ c = i2 := by simpa using hcm
        rcases e' with q | q | q | q | q
        · rw [q]; exact hzl
        · rw [q]; exact Heap.lt_size hTI
        · rw [q]; exact Heap.lt_size hTO
        · rw [q]; obtain ⟨_, e1, _⟩ := h1; exact Heap.lt_size e1
        · rw [q]; obtain ⟨_, e2, _⟩ := h2; exact Heap.lt_size e2
      rw [upd_ne (Nat.ne_of_lt hlt)]
      exact (hf c hcm).1
  done := by
    intro X hP hw hK hc i pins s σ H E I hf st hg
    subst hP hw hK
    obtain ⟨hz, hTI, ⟨x0, y0, hTO⟩, h1, h2⟩ := st
    exact pyNext_end (I.ok.hd hc) D.i1z hz hTI h1 (Array.getElem?_eq_none hg) fun h' hk => ⟨rfl, I.turnedL (t' := s.toks) (ch := [z, TI, TO, i1, i2]) (fun c o hb q =>
      hk c o (fun q' => hb (by simp [q'])) (fun q' => hb (by simp [q'])) (fun q' => hb (by simp [q'])) (fun q' => hb (by simp [q'])) q) hf⟩
  self := fun A i s Q E st h => wpAny_pyIter_zip st.1 h
def iZipS (K : PySem.W.Frag) (ta : TA) : TI := fun σ H R => ta σ H fun vs H1 => ∃ (txt : Str) (b : Addr) (ys : List V), vs = [.str txt, .ref b] ∧ txt.cps.all (· < 128) = true ∧ SqT K H1 b ys ∧ R (ItzS K txt b) H1
theorem pi_zipS {X : Cx} {e e2 : Expr} {ta : TA} {p pos tpos : Pos} {elts : List Expr} {kk : Nat} (hg : Gl X "zip") (hm : X.mg "zip" = none) (ha : PA X [e, e2] ta)
    (hs : starEach [e, e2] X.env = (false, eval e X.env) :: starEach [e2] X.env := by rfl) (hpl : (backTo pos (starEach [e2] X.env)).any (·.1) = false := by rfl) :
    PI X (.Tuple elts kk tpos) (.Call (.Name "zip" p) [e, e2] [] pos) (iZipS X.K ta) := by
  refine ⟨fun pins s σ H R I h => ?_⟩
  refine Call_ (ld_blt I hg hm PyProof.Rows.boot_zip (PyProof.Rows.callWith_type1 (thn (ha.run pos pins s σ H _ I h) fun us s1 ⟨vs, H1, I1, r1, q1⟩ => ?_) hs hpl))
  obtain ⟨txt, b, ys, ex, has, hqy, q⟩ := q1
  subst ex
  cases r1 with
  | cons r rr =>
    cases rr with
    | cons r' rr =>
      cases rr
      obtain ⟨t, rfl⟩ := r
      cases r'
      have fresh5 : ∀ c, c ∈ [s1.heap.objs.size + 4, s1.heap.objs.size + 2, s1.heap.objs.size + 3, s1.heap.objs.size, s1.heap.objs.size + 1] → FpOk X pins H1 c := fun c hcm => by
        have e' : c = s1.heap.objs.size + 4 ∨ c = s1.heap.objs.size + 2 ∨ c = s1.heap.objs.size + 3 ∨ c = s1.heap.objs.size ∨ c = s1.heap.objs.size + 1 := by simpa using hcm
        have hle : s1.heap.objs.size ≤ c := by
          rcases e' with z | z | z | z | z
          · rw [z]; exact Nat.le_add_right _ _
          · rw [z]; exact Nat.le_add_right _ _
          · rw [z]; exact Nat.le_add_right _ _
          · rw [z]; exact Nat.le_refl _
          · rw [z]; exact Nat.le_add_right _ _
        exact I1.fpOk hle (I1.hok.fresh hle)
      obtain ⟨its2, rv2, p2, _⟩ := I1.tuple hqy
      obtain ⟨o2, ho2, _⟩ := id p2
      refine call_zipS has (show s1.heap.IsTuple b its2.toArray from p2) fun h' hz hTI hTO h1 h2 hk => wpAny_pyIter_zip hz ?_
      have I2 : Inv X pins σ H1 { s1 with heap := h' } := I1.kept (t' := s1.toks) hk
      exact ⟨s1.heap.objs.size + 4, [s1.heap.objs.size + 4, s1.heap.objs.size + 2, s1.heap.objs.size + 3, s1.heap.objs.size, s1.heap.objs.size + 1], _, _, H1, rfl, I2, turn_zipS (PySem.W.ktu_apart s1.heap.objs.size b b (Heap.lt_size ho2) (Heap.lt_size ho2)), ⟨hz, hTI, ⟨_, _, hTO⟩, h1, h2⟩, fresh5, q⟩
theorem walk_zipS {K : PySem.W.Frag} {txt : Str} {b : Addr} {ys : List V} (hl : ys.length = txt.cps.size) : Walk (ItzS K txt b) txt.cps.size (fun H => SqT K H b ys)
    (fun i H v H' => ∃ T c y, v = .ref T ∧ H T = none ∧ H' = upd H T (.tup [.str ⟨#[c]⟩, y]) ∧ txt.cps[i]? = some c ∧ ys[i]? = some y) :=
  ⟨fun i _ hi q => ⟨ys, ys[i], q, hi, by simp [hl, hi]⟩, fun _ _ => Nat.le_refl _, fun _ _ _ _ _ q ⟨T, c, y, e1, e2, e3, e4, e5⟩ => ⟨T, c, y, e1, e2, e3, e4, e5 ys q⟩⟩
end TZ
namespace TC
open PySem PySem.Spec PyProof.Rows L2
def rKd (K : PySem.W.Frag) (d : Addr) : R2 := fun x y H Q => ∃ (z : Str) (u0 : Value) (v0 : V), x = .ref d ∧ y = .str z ∧ PySem.W.nsIn K d z = some (some u0) ∧ RelV v0 u0 ∧ Q v0 H
theorem pe_kdget {X : Cx} {o i : Expr} {pos : Pos} {td ty : TE} {d : Addr} {es : Array DictEntry} {n : Nat} (D : KDict X.K X.w d es n) (ho : PE X o td) (hi : PE X i ty) (hs : NoSl i) : PE X (.Subscript o i pos) (tOp (rKd X.K d) td ty) := by
  refine ⟨fun pins s σ H Q I h => ?_⟩
  refine subD_of PySem.F.slot_dict_getitem.lookup hs (thn (ho.run pins s σ H _ I h) fun u s1 ⟨x, H1, I1, rx, q1⟩ => thn (hi.run pins s1 σ H1 _ I1 q1) fun iv s2 ⟨y, H2, I2, ry, q2⟩ => ?_)
  have op := op_item_kd D pins s2 σ H2 x y u iv Q I2 rx ry q2
  obtain ⟨z, u0, v0, rfl, rfl, e, r, q⟩ := q2
  cases rx
  exact ⟨kd_type D I2, op⟩
section
variable {P : Program} {w : World} {K : PySem.W.Frag} {mg : Str → Option Value} {base : Heap} {H H' H0 : Hp} {y s p : Addr} {A : Fd → Addr} {S S' : LC.S} {σ : L2.St} {tb tx te tl : TE} {ta : TA} {D : Ends} {v x : V} {t1 t2 tz tu : TS} {t tt : TT} {b : Bool}
theorem v_isi {u : Value} {n : String} (hx : Val te σ H x) (ht : TyX K H x u) (hk : PySem.W.kitOne K u (.type n) = some b) : Val (tCB (rIsi K) (tCons te (tCons (tC (.ty n)) tNil))) σ H (.bl b) := fun Q q =>
  hx _ ⟨_, _, _, _, _, rfl, .ty n, ht, hk, q⟩
theorem v_and {a b : Bool} (h1 : Val te σ H (.bl a)) (h2 : a = true → Val tb σ H (.bl b)) : Val (tAndV te tb) σ H (.bl (a && b)) := fun Q q => h1 _ ⟨a, rfl, by
  cases a with
  | true => exact iteT (h2 rfl Q q)
  | false => exact iteF q⟩
def spNum : Sp := fun vs H Q _ => (∃ i : Int, vs = [.int i]) ∧ Q (.bl true) H
theorem ok_is_number_rows (T : Tx w K mg) : Ok P w K mg base 1 .is_number_rows spNum := by
  refine T.okd .is_number_rows sc_is_number_rows (fun vs H Q E h => ?_) (fun cdv A0 outer s0 H vs Q E hr h => ⟨_, (pss_one (ps_ret (pe_and (pe_callB call_isi (by rfl) (T.free _ (by decide +kernel)) (by decide +kernel) (by exact (pa_cons (pv 0) (pa_cons (pe_bltn (v := .ty "int") rfl (T.free _ (by decide)) (by decide +kernel) rfl) pa_nil)))) (pe_one (pe_not (pe_callB call_isi (by rfl) (T.free _ (by decide +kernel)) (by decide +kernel) (by exact (pa_cons (pv 0) (pa_cons (pe_bltn (v := .ty "bool") rfl (T.free _ (by decide)) (by decide +kernel) rfl) pa_nil))))))))), ?_⟩)
  · obtain ⟨⟨i, rfl⟩, _⟩ := h; rfl
  · obtain ⟨⟨i, rfl⟩, k⟩ := h
    exact s_ret (v := .bl (true && !false)) (v_and (v_isi (vv rfl) (.base (.int i)) (kit_ty (by decide +kernel))) fun _ => v_not (v_isi (vv rfl) (.base (.int i)) (kit_ty (by decide +kernel)))) k
theorem ok_is_number_shapes (T : Tx w K mg) : Ok P w K mg base 1 .is_number_shapes spNum := by
  refine T.okd .is_number_shapes sc_is_number_shapes (fun vs H Q E h => ?_) (fun cdv A0 outer s0 H vs Q E hr h => ⟨_, (pss_one (ps_ret (pe_and (pe_callB call_isi (by rfl) (T.free _ (by decide +kernel)) (by decide +kernel) (by exact (pa_cons (pv 0) (pa_cons (pe_bltn (v := .ty "int") rfl (T.free _ (by decide)) (by decide +kernel) rfl) pa_nil)))) (pe_one (pe_not (pe_callB call_isi (by rfl) (T.free _ (by decide +kernel)) (by decide +kernel) (by exact (pa_cons (pv 0) (pa_cons (pe_bltn (v := .ty "bool") rfl (T.free _ (by decide)) (by decide +kernel) rfl) pa_nil))))))))), ?_⟩)
  · obtain ⟨⟨i, rfl⟩, _⟩ := h; rfl
  · obtain ⟨⟨i, rfl⟩, k⟩ := h
    exact s_ret (v := .bl (true && !false)) (v_and (v_isi (vv rfl) (.base (.int i)) (kit_ty (by decide +kernel))) fun _ => v_not (v_isi (vv rfl) (.base (.int i)) (kit_ty (by decide +kernel)))) k
def spKind : Sp := fun vs H Q _ => vs = [.str "b"] ∧ Q (.bl true) H
theorem v_lenS {z : Str} (h : Val te σ H (.str z)) (hl : z.length ≤ sizeLine) : Val (tCB (fun xs H Q => ∃ z, xs = [V.str z] ∧ z.length ≤ sizeLine ∧ Q (.int z.length) H) (tCons te tNil)) σ H (.int z.length) := fun Q q => h _ ⟨z, rfl, hl, q⟩
theorem ok_is_kind (T : Tx w K mg) : Ok P w K mg base 1 .is_kind spKind := by
  refine T.okd .is_kind sc_is_kind (fun vs H Q E h => ?_) (fun cdv A0 outer s0 H vs Q E hr h => ⟨_, (pss_one (ps_ret (pe_and (pe_callB call_isi (by rfl) (T.free _ (by decide +kernel)) (by decide +kernel) (by exact (pa_cons (pv 0) (pa_cons (pe_bltn (v := .ty "str") rfl (T.free _ (by decide)) (by decide +kernel) rfl) pa_nil)))) (pe_and (pe_cmpR op_eq (pe_callB call_len_str (by rfl) (T.free _ (by decide +kernel)) (by decide +kernel) (by exact (pa_cons (pv 0) pa_nil))) pe_int (nomark _)) (pe_one (pe_cmpR op_inS (pv 0) (C8.pe_gc rfl T.kF) rfl)))))), ?_⟩)
  · obtain ⟨rfl, _⟩ := h; rfl
  · obtain ⟨rfl, k⟩ := h
    refine s_ret (v := .bl (true && (true && true))) (v_and (v_isi (vv rfl) (.base (.str _)) (kit_ty (by decide +kernel))) fun _ => v_and ?_ fun _ => fun Q q => ?_) k
    · have := v_eq (v_lenS (te := tVar 0) (σ := L2.start ["thing"] [V.str "b"]) (H := H) (vv rfl) (by decide +kernel)) (vc (v := .int 1)) rfl
      exact this
    · exact ⟨_, rfl, 98, "abcdefgh", rfl, rfl, q⟩
def Fits (c : Nat) (v : V) : Prop := (c = 107 ∧ v = .str "b") ∨ ((c = 119 ∨ c = 112) ∧ ∃ i : Int, v = .int i)
def spFits : Sp := fun vs H Q _ => (∃ c v, vs = [.str ⟨#[c]⟩, v] ∧ Fits c v) ∧ Q (.bl true) H
theorem ok_fits_form (T : Tx w K mg) : Ok P w K mg base 2 .fits_form spFits := by
  refine T.okd .fits_form sc_fits_form (fun vs H Q E h => ?_) (fun cdv A0 outer s0 H vs Q E hr h => ⟨_, (pss_cons (ps_if (pt_cmpR op_eq (pv 0) pe_str (nomark _)) (pss_one (ps_ret (pe_call (ok_is_kind T) (hr.mono (by decide)) rfl (T.glF _ (by decide +kernel)) (T.fn .is_kind).kp (b_is_kind T) .nil pass0 (pa_cons (pv 1) pa_nil)))) pss_nil)
    (pss_cons (ps_if (PW.pt (pw_and (pt_cmpR op_eq (pv 0) pe_str (nomark _)) (pw_and1 (pt_cmpR op_isN1 (pv 1) pe_non (nomark _))))) (pss_one (ps_ret pe_bl)) pss_nil)
    (pss_one (ps_ret (pe_and (pe_call (ok_is_number_rows T) (hr.mono (by decide)) rfl (T.glF _ (by decide +kernel)) (T.fn .is_number_rows).kp (b_is_number_rows T) .nil pass0 (pa_cons (pv 1) pa_nil)) (pe_one (pe_or (pe_cmpR op_ne (pv 0) pe_str (nomark _)) (pe_one (pe_cmpR op_ge (pv 1) pe_int (nomark _)))))))))), ?_⟩)
  · obtain ⟨⟨c, v, rfl, _⟩, _⟩ := h; rfl
  · obtain ⟨⟨c, v, rfl, hf⟩, k⟩ := h
    rcases hf with ⟨rfl, rfl⟩ | ⟨hc, i, rfl⟩
    · refine q_when (b := true) (L2.Ans.to (a_test (v_eq (vv rfl) (vc (v := .str "k")) rfl)) (by decide +kernel)) (fun _ => ?_) (fun q => by cases q)
      exact s_ret (v := .bl true) (fun Q q => vv rfl _ ⟨rfl, q⟩) k
    · have n1 : ∀ z : Str, z.cps ≠ #[c] → decide (V.str ⟨#[c]⟩ = V.str z) = false := fun z h => decide_eq_false (fun e => by injection e with e; exact h (by rw [← e]))
      have k1 : ("k" : Str).cps ≠ #[c] := by rcases hc with rfl | rfl <;> decide +kernel
      have q1 : ("q" : Str).cps ≠ #[c] := by rcases hc with rfl | rfl <;> decide +kernel
      have m1 : ("n" : Str).cps ≠ #[c] := by rcases hc with rfl | rfl <;> decide +kernel
      refine q_when (b := false) (L2.Ans.to (a_test (v_eq (vv rfl) (vc (v := .str "k")) rfl)) (n1 _ k1)) (fun q => by cases q) fun _ => ?_
      refine q_when (b := false && false) (a_and (b := false) (L2.Ans.to (a_test (v_eq (vv rfl) (vc (v := .str "q")) rfl)) (n1 _ q1)) (fun q => by cases q)) (fun q => by cases q) fun _ => ?_
      refine s_ret (v := .bl (true && (true || false))) (v_and (fun Q q => vv rfl _ ⟨⟨i, rfl⟩, q⟩) fun _ => v_or (a := true) ?_ (fun q => by cases q)) k
      have := v_ne (vv (σ := L2.start ["sign", "thing"] [V.str ⟨#[c]⟩, V.int i]) (H := H) (i := 0) rfl) (vc (v := .str "n")) rfl
      rw [n1 _ m1] at this
      exact this
inductive RowK | new (wo : Int) | tie (a b : Nat) | cut (a b : Nat) | joined (a b : Nat) | way (a b : Nat) | total (a b : Nat) | most (a b : Nat) | add (a b : Nat) (m : Int)
def RowK.wd : RowK → Str
  | .new _ => "new" | .tie .. => "tie" | .cut .. => "cut" | .joined .. => "joined" | .way .. => "way" | .total .. => "total" | .most .. => "most" | .add .. => "add"
def RowK.rest : RowK → List V
  | .new wo => [.int wo, .str "b"]
  | .tie a b | .cut a b | .joined a b | .way a b | .total a b | .most a b => [.int (a : Nat), .int (b : Nat)]
  | .add a b m => [.int (a : Nat), .int (b : Nat), .int m]
def RowK.vals (r : RowK) : List V := .str r.wd :: r.rest
def RowK.sg : RowK → Str
  | .new _ => "wk"
  | .add .. => "ppw"
  | _ => "pp"
def RowK.pts : RowK → List Nat
  | .new _ => []
  | .tie a b | .cut a b | .joined a b | .way a b | .total a b | .most a b | .add a b _ => [a, b]
theorem fm_new : (("new" : Str), ("wk" : Str)) ∈ formsL := by decide +kernel
theorem fm_tie : (("tie" : Str), ("pp" : Str)) ∈ formsL := by decide +kernel
theorem fm_cut : (("cut" : Str), ("pp" : Str)) ∈ formsL := by decide +kernel
theorem fm_joined : (("joined" : Str), ("pp" : Str)) ∈ formsL := by decide +kernel
theorem fm_way : (("way" : Str), ("pp" : Str)) ∈ formsL := by decide +kernel
theorem fm_total : (("total" : Str), ("pp" : Str)) ∈ formsL := by decide +kernel
theorem fm_most : (("most" : Str), ("pp" : Str)) ∈ formsL := by decide +kernel
theorem fm_add : (("add" : Str), ("ppw" : Str)) ∈ formsL := by decide +kernel
theorem RowK.form (r : RowK) : (r.wd, r.sg) ∈ formsL := match r with
  | .new _ => fm_new
  | .tie .. => fm_tie
  | .cut .. => fm_cut
  | .joined .. => fm_joined
  | .way .. => fm_way
  | .total .. => fm_total
  | .most .. => fm_most
  | .add .. => fm_add
theorem RowK.len (r : RowK) : r.rest.length = r.sg.cps.size := by cases r <;> rfl
theorem as_wk : ("wk" : Str).cps.all (· < 128) = true := by decide +kernel
theorem as_pp : ("pp" : Str).cps.all (· < 128) = true := by decide +kernel
theorem as_ppw : ("ppw" : Str).cps.all (· < 128) = true := by decide +kernel
theorem RowK.asc (r : RowK) : r.sg.cps.all (· < 128) = true := match r with
  | .new _ => as_wk
  | .tie .. => as_pp
  | .cut .. => as_pp
  | .joined .. => as_pp
  | .way .. => as_pp
  | .total .. => as_pp
  | .most .. => as_pp
  | .add .. => as_ppw
theorem RowK.few (r : RowK) : r.rest.length ≤ 3 := by cases r <;> (show _ ≤ 3; simp [RowK.rest])
theorem ft_wk {x z : V} (h1 : ∃ i : Int, x = .int i) (h2 : z = .str "b") : ∀ (i c : Nat) (v : V), ("wk" : Str).cps[i]? = some c → [x, z][i]? = some v → Fits c v
  | 0, c, v, hc, hv => .inr ⟨.inl (Option.some.inj hc).symm, by cases hv; exact h1⟩
  | 1, c, v, hc, hv => .inl ⟨(Option.some.inj hc).symm, by cases hv; exact h2⟩
  | _ + 2, _, _, _, hv => by cases hv
theorem ft_pp {x z : V} (h1 : ∃ i : Int, x = .int i) (h2 : ∃ i : Int, z = .int i) : ∀ (i c : Nat) (v : V), ("pp" : Str).cps[i]? = some c → [x, z][i]? = some v → Fits c v
  | 0, c, v, hc, hv => .inr ⟨.inr (Option.some.inj hc).symm, by cases hv; exact h1⟩
  | 1, c, v, hc, hv => .inr ⟨.inr (Option.some.inj hc).symm, by cases hv; exact h2⟩
  | _ + 2, _, _, _, hv => by cases hv
theorem ft_ppw {x z u : V} (h1 : ∃ i : Int, x = .int i) (h2 : ∃ i : Int, z = .int i) (h3 : ∃ i : Int, u = .int i) : ∀ (i c : Nat) (v : V), ("ppw" : Str).cps[i]? = some c → [x, z, u][i]? = some v → Fits c v
  | 0, c, v, hc, hv => .inr ⟨.inr (Option.some.inj hc).symm, by cases hv; exact h1⟩
  | 1, c, v, hc, hv => .inr ⟨.inr (Option.some.inj hc).symm, by cases hv; exact h2⟩
  | 2, c, v, hc, hv => .inr ⟨.inl (Option.some.inj hc).symm, by cases hv; exact h3⟩
  | _ + 3, _, _, _, hv => by cases hv
theorem RowK.fit (r : RowK) : ∀ (i c : Nat) (v : V), r.sg.cps[i]? = some c → r.rest[i]? = some v → Fits c v := match r with
  | .new _ => ft_wk ⟨_, rfl⟩ rfl
  | .add .. => ft_ppw ⟨_, rfl⟩ ⟨_, rfl⟩ ⟨_, rfl⟩
  | .tie .. => ft_pp ⟨_, rfl⟩ ⟨_, rfl⟩
  | .cut .. => ft_pp ⟨_, rfl⟩ ⟨_, rfl⟩
  | .joined .. => ft_pp ⟨_, rfl⟩ ⟨_, rfl⟩
  | .way .. => ft_pp ⟨_, rfl⟩ ⟨_, rfl⟩
  | .total .. => ft_pp ⟨_, rfl⟩ ⟨_, rfl⟩
  | .most .. => ft_pp ⟨_, rfl⟩ ⟨_, rfl⟩
theorem v_ixU {xs : List V} {i : Nat} (hb : Val tb σ H (.ref p)) (hp : H p = some (.tup xs)) (hi : Val tx σ H (.int (i : Nat))) (hx : xs[i]? = some v) : Val (tOp (rIxT K) tb tx) σ H v := v_ixT hb (SqT.of hp) hi hx
end
section
variable {P : Program} {w : World} {K : PySem.W.Frag} {mg : Str → Option Value} {base : Heap} {H H' H0 : Hp} {y s p : Addr} {A : Fd → Addr} {S S' : LC.S} {σ : L2.St} {tb tx te tl : TE} {ta : TA} {D : Ends} {v x : V} {t1 t2 tz tu : TS} {t tt : TT} {b : Bool}
theorem nl_lcZ {txt : Str} {ys : List V} {pr : Nat → V → Bool} {gg : Nat → V → V} {j1 j2 : Nat} {vs : List Nat} (hta : ∀ Q, (∀ H1 b, Ex H H1 → H1 b = some (.tup ys) → Q [.str txt, .ref b] H1) → ta σ H Q) (has : txt.cps.all (· < 128) = true) (hl : ys.length = txt.cps.size) (h3 : ys.length ≤ 50000)
    (hw : ∀ x z, wipe (((wipe σ vs).set j1 (some x)).set j2 (some z)) vs = wipe σ vs)
    (ht : ∀ (i c : Nat) (y : V), txt.cps[i]? = some c → ys[i]? = some y → ∀ H', Ex H H' → L2.Ans tt (((wipe σ vs).set j1 (some (.str ⟨#[c]⟩))).set j2 (some y)) H' (pr c y))
    (he : ∀ (i c : Nat) (y : V), txt.cps[i]? = some c → ys[i]? = some y → pr c y = true → ∀ H', Ex H H' → Val te (((wipe σ vs).set j1 (some (.str ⟨#[c]⟩))).set j2 (some y)) H' (gg c y)) :
    NewL (tLc (TZ.iZipS K ta) (gTup K 2 (gCons (gName j1) (gCons (gName j2) gNil))) tt te vs) σ H (((txt.cps.toList.zip ys).filter fun q => pr q.1 q.2).map fun q => gg q.1 q.2) := fun Q q =>
  hta _ fun H1 b e1 hb => ⟨txt, b, ys, rfl, has, SqT.of hb, fun Dl hD => by
    have hks : (txt.cps.toList.zip ys).length = txt.cps.size := by rw [List.length_zip, Array.length_toList]; omega
    refine lc_it (TZ.walk_zipS hl) (LcP H1 (txt.cps.toList.zip ys) (fun q => pr q.1 q.2) (fun q => gg q.1 q.2) Dl) ⟨hD, Ex.new hD, by rw [upd_same]; rfl⟩ (fun i H' _ hp => SqT.of (hp.2.1 _ _ hb)) (fun i x H2 H3 hi hp hy => ?_) (fun H' hp => ?_)
    · obtain ⟨T, c, y, rfl, hT, rfl, hc, hyy⟩ := hy
      have hc2 : txt.cps.toList[i]? = some c := by rw [Array.getElem?_toList]; exact hc
      have hz : (txt.cps.toList.zip ys)[i]? = some (c, y) := by rw [List.getElem?_zip_eq_some]; exact ⟨hc2, hyy⟩
      have hp3 : LcP H1 (txt.cps.toList.zip ys) (fun q => pr q.1 q.2) (fun q => gg q.1 q.2) Dl i (upd H2 T (.tup [.str ⟨#[c]⟩, y])) := ⟨hp.1, hp.2.1.trans (Ex.new hT), Ex.new hT _ _ hp.2.2⟩
      refine ⟨T, _, rfl, SqT.of upd_same, rfl, _, _, rfl, _, _, rfl, rfl, hw _ _, ?_⟩
      exact lc_turn hz (by rw [hks]; omega) hp3 (fun H' e => ht i c y hc hyy H' (e1.trans e)) (fun hb H' e => he i c y hc hyy hb H' (e1.trans e))
    · have h3 := hp.2.2
      rw [← hks, List.take_length] at h3
      exact q Dl H' (fresh_back e1 hp.1) (e1.trans hp.2.1) h3⟩
theorem c_fn {sp : Sp} {E : XK} {t : TA} {vs : List V} {Q : VK} (ht : Args t σ H vs) (k : sp (vs ++ []) H Q E) : tCall sp [] E t σ H Q := ht _ k
theorem ve_all {bs : List Bool} (h : NewL te σ H (bs.map V.bl)) : ValE (tCB (rAll K) (tCons te tNil)) σ H (.bl (bs.all id)) := fun Q q => h _ fun p H1 hp e1 h1 => ⟨p, bs, rfl, SqL.of h1, q H1 e1⟩
theorem a_wd {xs : List V} {a b : Str} (hb : Val tb σ H (.ref p)) (hp : H p = some (.tup xs)) (hx : xs[0]? = some (.str a)) : L2.Ans (tTest (tOp rEq (tOp (rIxT K) tb (tC (.int 0))) (tC (.str b)))) σ H (decide (V.str a = V.str b)) :=
  a_test (v_eq (v_ixU hb hp (vc (v := .int 0)) hx) vc rfl)
def rowP (H : Hp) (p : Addr) (r : RowK) : Prop := H p = some (.tup r.vals)
def spRow : Sp := fun vs H Q _ => ∃ p r, vs = [.ref p] ∧ rowP H p r ∧ ∀ H', Ex H H' → Q (.bl true) H'
theorem formsAt (T : Tx w K mg) (r : RowK) : ∃ u, PySem.W.nsIn K (He.ga K "FORMS") r.wd = some (some u) ∧ RelV (.str r.sg) u := T.formsV _ r.form
theorem v_tail {xs : List V} {x0 : V} (hb : Val tb σ H (.ref p)) (hp : H p = some (.tup (x0 :: xs))) (hl : xs.length ≤ 100) : NewU (tSl (rSlT K) tb (tPart (tC (.int 1))) tNoPart) σ H xs := fun Q q =>
  hb _ ⟨1, rfl, p, _, rfl, SqT.of hp, fun z => by
    have := z.1
    revert this
    show min 1 (x0 :: xs).length = 0 → False
    rw [List.length_cons]; omega, fun a ha => by
    have e : cutV (x0 :: xs) (some 1) none = xs := by
      unfold cutV
      rw [show HT.sIx (x0 :: xs).length 0 (some 1) = 1 by show min 1 (x0 :: xs).length = 1; rw [List.length_cons]; omega, HT.sIx_none]
      show xs.take ((x0 :: xs).length - 1) = xs
      rw [List.length_cons, Nat.add_sub_cancel, List.take_length]
    rw [e]; exact q a _ ha (Ex.new ha) upd_same⟩
theorem ok_is_row (T : Tx w K mg) : Ok P w K mg base 3 .is_row spRow := by
  refine T.okd .is_row sc_is_row (fun vs H Q E h => ?_) (fun cdv A0 outer s0 H vs Q E hr h => ⟨_, (pss_cons (ps_if (PW.pt (pw_or (pt_not (pt_val (pe_callB call_isi (by rfl) (T.free _ (by decide +kernel)) (by decide +kernel) (by exact (pa_cons (pv 0) (pa_cons (pe_bltn (v := .ty "tuple") rfl (T.free _ (by decide)) (by decide +kernel) rfl) pa_nil)))))) (pw_or (pt_cmpR op_eq (pe_callB call_len_seq (by rfl) (T.free _ (by decide +kernel)) (by decide +kernel) (by exact (pa_cons (pv 0) pa_nil))) pe_int (nomark _)) (pw_or (pt_not (pt_val (pe_callB call_isi (by rfl) (T.free _ (by decide +kernel)) (by decide +kernel) (by exact (pa_cons (pe_ix ix_tup (pv 0) pe_int (fun _ _ => rfl)) (pa_cons (pe_bltn (v := .ty "str") rfl (T.free _ (by decide)) (by decide +kernel) rfl) pa_nil)))))) (pw_or1 (pt_cmpR (op_notIn_kd T.forms.choose_spec.choose_spec) (pe_ix ix_tup (pv 0) pe_int (fun _ _ => rfl)) (pe_glob (v := .ref (He.ga K "FORMS")) rfl T.glT.1 rfl) rfl)))))) (pss_one (ps_ret pe_bl)) pss_nil)
    (pss_cons (ps_set (i := 1) sc_is_row.nd rfl (Or.inl rfl) (pe_kdget T.forms.choose_spec.choose_spec (pe_glob (v := .ref (He.ga K "FORMS")) rfl T.glT.1 rfl) (pe_ix ix_tup (pv 0) pe_int (fun _ _ => rfl)) (fun _ _ => rfl)))
    (pss_cons (ps_if (pt_cmpR op_ne (pe_callB call_len_seq (by rfl) (T.free _ (by decide +kernel)) (by decide +kernel) (by exact (pa_cons (pv 0) pa_nil))) (pe_op op_add pe_int (pe_callB call_len_str (by rfl) (T.free _ (by decide +kernel)) (by decide +kernel) (by exact (pa_cons (pv 1) pa_nil)))) (nomark _)) (pss_one (ps_ret pe_bl)) pss_nil)
    (pss_one (ps_ret (pe_callB (cr_all rfl) (by rfl) (T.free _ (by decide +kernel)) (by decide +kernel) (by exact (pa_cons (pe_lc (own := [("sign", 2), ("one", 3)]) (g := gTup K 2 (gCons (gName 2) (gCons (gName 3) gNil))) (tt := tYes) (te := (tCall spFits [] E0 (tCons (tVar 2) (tCons (tVar 3) tNil)))) rfl sc_is_row.nd (TZ.pi_zipS (by rfl) (T.free _ (by decide +kernel)) (pa_cons (pv 1) (pa_cons (pe_slice sl_tup (pv 0) (po_some pe_int) po_none) pa_nil))) (blkOk_by (N := ["thing", "signs", "sign", "one"]) (own := [("sign", 2), ("one", 3)]) (sc := defScope (Dn.sm .is_row)) (by decide +kernel)) (fun _ _ _ _ _ => (by exact (pg_tup rfl (pgs_cons (pg_name (i := 2) sc_is_row.nd rfl (Or.inl rfl)) (pgs_cons (pg_name (i := 3) sc_is_row.nd rfl (Or.inl rfl)) pgs_nil))))) (fun _ _ _ _ _ => (by exact pts_nil)) (fun _ _ _ _ _ => (by exact (pe_call (ok_fits_form T) (hr.mono (by decide)) rfl (T.glF _ (by decide +kernel)) (T.fn .fits_form).kp (b_fits_form T) .nil pass0 (pa_cons (pv 2) (pa_cons (pv 3) pa_nil)))))) pa_nil)))))))), ?_⟩)
  · obtain ⟨p, r, rfl, _⟩ := h; rfl
  · obtain ⟨p, r, rfl, hp, k⟩ := h
    obtain ⟨u, hu, ru⟩ := formsAt T r
    have hlen : r.vals.length = 1 + r.rest.length := by show (_ :: r.rest).length = _; rw [List.length_cons]; omega
    have few := r.few
    refine q_when (b := false || (false || (false || false))) (a_or (b := false) (a_not (b := true) (a_B (v_isi (vv rfl) (.base (.tup hp)) (kit_ty (by decide +kernel))))) fun _ => a_or (b := false) (L2.Ans.to (a_test (v_eq (v_lenL (vv rfl) (.inr (SqT.of hp))) (vc (v := .int 0)) rfl)) (decide_eq_false (fun e => by rw [hlen] at e; injection e with e; omega)))
      fun _ => a_or (b := false) (a_not (b := true) (a_B (v_isi (v_ixU (vv rfl) hp (vc (v := .int 0)) rfl) (.base (.str r.wd)) (kit_ty (by decide +kernel))))) fun _ => ?_) (fun q => by cases q) fun _ => ?_
    · exact fun Q q => v_ixU (vv rfl) hp (vc (v := .int 0)) rfl _ ⟨r.wd, some u, rfl, rfl, hu, ⟨false, rfl, q⟩⟩
    refine q_set (v := .str r.sg) (fun Q q => v_ixU (vv rfl) hp (vc (v := .int 0)) rfl _ ⟨r.wd, u, .str r.sg, rfl, rfl, hu, ru, q⟩) ?_
    have hsl : r.sg.length ≤ sizeLine := sz_le (by show r.sg.cps.size ≤ 100000; rw [← r.len]; omega)
    refine q_when (b := false) (L2.Ans.to (a_test (v_ne (v_lenL (vv rfl) (.inr (SqT.of hp))) (v_I0 (vc (v := .int 1)) (v_lenS (vv rfl) hsl)) rfl)) (by
      show (!decide (V.int _ = V.int _)) = false
      rw [hlen, r.len]
      show (!decide (V.int ((1 + r.sg.cps.size : Nat) : Int) = V.int (1 + (r.sg.cps.size : Int)))) = false
      rw [decide_eq_true (by congr 1)]; rfl)) (fun q => by cases q) fun _ => ?_
    refine s_retE (ve_all (bs := (r.sg.cps.toList.zip r.rest).map fun _ => true) ?_) (fun H' e => ?_)
    · have := nl_lcZ (K := K) (H := H) (σ := [some (V.ref p), some (V.str r.sg), none, none]) (ta := tCons (tVar 1) (tCons (tSl (rSlT K) (tVar 0) (tPart (tC (.int 1))) tNoPart) tNil)) (tt := tYes) (te := tCall spFits [] E0 (tCons (tVar 2) (tCons (tVar 3) tNil))) (txt := r.sg) (ys := r.rest) (pr := fun _ _ => true) (gg := fun _ _ => .bl true) (j1 := 2) (j2 := 3) (vs := [2, 3])
        (fun Q q => (vv rfl : Val (tVar 1) _ _ (.str r.sg)) _ (v_tail (vv rfl) hp (by omega) _ fun b H1 hb e1 h1 => q H1 b e1 h1)) r.asc r.len (by omega) (fun _ _ => rfl) (fun _ _ _ _ _ _ _ => ans_yes) (fun i c v hc hv _ H' e => (fun Q q => c_fn (args1 (vv rfl) (args1 (vv rfl) args0)) ⟨⟨c, v, rfl, r.fit i c v hc hv⟩, q⟩))
      rw [List.filter_eq_self.mpr (fun _ _ => rfl)] at this
      rw [List.map_map]; exact this
    · have : ((r.sg.cps.toList.zip r.rest).map fun _ => true).all id = true := by rw [List.all_eq_true]; intro x hx; obtain ⟨_, _, rfl⟩ := List.mem_map.mp hx; rfl
      rw [this]; exact k H' e
end
section
variable {P : Program} {w : World} {K : PySem.W.Frag} {mg : Str → Option Value} {base : Heap} {H H' H0 : Hp} {y s p : Addr} {A : Fd → Addr} {S S' : LC.S} {σ : L2.St} {tb tx te tl tc : TE} {ta : TA} {D : Ends} {v x : V} {t1 t2 tz tu : TS} {t tt : TT} {b : Bool}
def RowK.isDeed : RowK → Bool
  | .new _ | .tie .. | .cut .. | .add .. => true
  | _ => false
theorem dd_new : inV (.str "new") (deedsL.map V.str) = true := by decide +kernel
theorem dd_tie : inV (.str "tie") (deedsL.map V.str) = true := by decide +kernel
theorem dd_cut : inV (.str "cut") (deedsL.map V.str) = true := by decide +kernel
theorem dd_add : inV (.str "add") (deedsL.map V.str) = true := by decide +kernel
theorem dd_joined : inV (.str "joined") (deedsL.map V.str) = false := by decide +kernel
theorem dd_way : inV (.str "way") (deedsL.map V.str) = false := by decide +kernel
theorem dd_total : inV (.str "total") (deedsL.map V.str) = false := by decide +kernel
theorem dd_most : inV (.str "most") (deedsL.map V.str) = false := by decide +kernel
theorem RowK.deed (r : RowK) : inV (.str r.wd) (deedsL.map V.str) = r.isDeed := match r with
  | .new _ => dd_new | .tie .. => dd_tie | .cut .. => dd_cut | .add .. => dd_add | .joined .. => dd_joined | .way .. => dd_way | .total .. => dd_total | .most .. => dd_most
theorem dn_new : inV (.str "new") (doneL.map V.str) = true := by decide +kernel
theorem dn_tie : inV (.str "tie") (doneL.map V.str) = true := by decide +kernel
theorem dn_cut : inV (.str "cut") (doneL.map V.str) = true := by decide +kernel
theorem dn_add : inV (.str "add") (doneL.map V.str) = true := by decide +kernel
theorem dn_joined : inV (.str "joined") (doneL.map V.str) = true := by decide +kernel
theorem dn_way : inV (.str "way") (doneL.map V.str) = true := by decide +kernel
theorem dn_total : inV (.str "total") (doneL.map V.str) = true := by decide +kernel
theorem dn_most : inV (.str "most") (doneL.map V.str) = true := by decide +kernel
theorem RowK.done (r : RowK) : inV (.str r.wd) (doneL.map V.str) = true := match r with
  | .new _ => dn_new | .tie .. => dn_tie | .cut .. => dn_cut | .add .. => dn_add | .joined .. => dn_joined | .way .. => dn_way | .total .. => dn_total | .most .. => dn_most
theorem flat_strs (l : List Str) : (l.map V.str).all flatV = true := by rw [List.all_eq_true]; intro x hx; obtain ⟨z, _, rfl⟩ := List.mem_map.mp hx; rfl
def spDeed : Sp := fun vs H Q _ => ∃ p r, vs = [.ref p] ∧ rowP H p r ∧ Q (.bl r.isDeed) H
theorem ok_is_deed (T : Tx w K mg) : Ok P w K mg base 1 .is_deed spDeed := by
  refine T.okd .is_deed sc_is_deed (fun vs H Q E h => ?_) (fun cdv A0 outer s0 H vs Q E hr h => ⟨_, (pss_one (ps_ret (pe_cmpR op_in_seq (pe_ix ix_tup (pv 0) pe_int (fun _ _ => rfl)) (pe_glob (v := .ref (He.ga K "DEEDS")) rfl T.glT.2.1 rfl) rfl))), ?_⟩)
  · obtain ⟨p, r, rfl, _⟩ := h; rfl
  · obtain ⟨p, r, rfl, hp, k⟩ := h
    refine s_ret (v := .bl r.isDeed) (fun Q q => v_ixU (vv rfl) hp (vc (v := .int 0)) rfl _ ⟨He.ga K "DEEDS", _, rfl, .inr (T.deeds H), rfl, flat_strs _, ?_⟩) k
    show Q (.bl (inV _ _)) H
    rw [r.deed]; exact q
theorem RowK.zip_pts (r : RowK) : (((r.sg.cps.toList.zip r.rest).filter fun q => (decide (q.1 ∈ ("pq" : Str).cps.toList) && !decide (q.2 = V.non))).map fun q => q.2) = r.pts.map iV := by
  have n0 : ∀ i : Int, decide (V.int i = V.non) = false := fun i => decide_eq_false (fun e => by cases e)
  have p1 : decide (112 ∈ ("pq" : Str).cps.toList) = true := by decide +kernel
  have p2 : decide (119 ∈ ("pq" : Str).cps.toList) = false := by decide +kernel
  have p3 : decide (107 ∈ ("pq" : Str).cps.toList) = false := by decide +kernel
  cases r with
  | new wo =>
    show (([(119, V.int wo), (107, V.str "b")].filter _).map _) = []
    simp only [List.filter_cons, p2, p3, Bool.false_and]; rfl
  | add a b m =>
    show (([(112, V.int a), (112, V.int b), (119, V.int m)].filter _).map _) = [iV a, iV b]
    simp only [List.filter_cons, p1, p2, n0, Bool.false_and, Bool.true_and, Bool.not_false]; rfl
  | _ a b =>
    show (([(112, V.int a), (112, V.int b)].filter _).map _) = [iV a, iV b]
    simp only [List.filter_cons, p1, p2, n0, Bool.false_and, Bool.true_and, Bool.not_false]; rfl
def spPtsOf : Sp := fun vs H Q _ => ∃ p r, vs = [.ref p] ∧ rowP H p r ∧ ∀ q H', H q = none → Ex H H' → H' q = some (.tup (r.pts.map iV)) → Q (.ref q) H'
theorem s_retTupN {ys : List V} (h : NewL te σ H ys) (k : ∀ l H1, H l = none → Ex H H1 → H1 l = some (.tup ys) → D.rt (.ref l) H1) :
    tRet (tCB (fun xs H Q => ∃ p ys, xs = [V.ref p] ∧ ((SqL K H p ys ∧ ∀ l, H l = none → Q (.ref l) (upd H l (.tup ys))) ∨ (SqT K H p ys ∧ Q (.ref p) H))) (tCons te tNil)) D σ H :=
  h _ fun p H1 hp e1 h1 => ⟨p, ys, rfl, .inl ⟨SqL.of h1, fun l hl => k l _ (fresh_back e1 hl) (e1.trans (Ex.new hl)) upd_same⟩⟩
theorem ok_points_of (T : Tx w K mg) : Ok P w K mg base 1 .points_of spPtsOf := by
  refine T.okd .points_of sc_points_of (fun vs H Q E h => ?_) (fun cdv A0 outer s0 H vs Q E hr h => ⟨_, (pss_one (ps_ret (pe_callTy call_tuple_of (by rfl) (T.free _ (by decide +kernel)) (by decide +kernel) (by exact (pa_cons (pe_lc (own := [("sign", 1), ("one", 2)]) (g := gTup K 2 (gCons (gName 1) (gCons (gName 2) gNil))) (tt := (tAnd (tTest (tOp rInS (tVar 1) (tC (.str "pq")))) (tTest (tOp rNotN (tVar 2) (tC .non))))) (te := (tVar 2)) rfl sc_points_of.nd (TZ.pi_zipS (by rfl) (T.free _ (by decide +kernel)) (pa_cons (pe_kdget T.forms.choose_spec.choose_spec (pe_glob (v := .ref (He.ga K "FORMS")) rfl T.glT.1 rfl) (pe_ix ix_tup (pv 0) pe_int (fun _ _ => rfl)) (fun _ _ => rfl)) (pa_cons (pe_slice sl_tup (pv 0) (po_some pe_int) po_none) pa_nil))) (blkOk_by (N := ["row", "sign", "one"]) (own := [("sign", 1), ("one", 2)]) (sc := defScope (Dn.sm .points_of)) (by decide +kernel)) (fun _ _ _ _ _ => (by exact (pg_tup rfl (pgs_cons (pg_name (i := 1) sc_points_of.nd rfl (Or.inl rfl)) (pgs_cons (pg_name (i := 2) sc_points_of.nd rfl (Or.inl rfl)) pgs_nil))))) (fun _ _ _ _ _ => (by exact (pts_one (PW.pt (pw_and (pt_cmpR op_inS (pv 1) pe_str rfl) (pw_and1 (pt_cmpR op_notN1 (pv 2) pe_non (nomark _)))))))) (fun _ _ _ _ _ => (by exact (pv 2)))) pa_nil))))), ?_⟩)
  · obtain ⟨p, r, rfl, _⟩ := h; rfl
  · obtain ⟨p, r, rfl, hp, k⟩ := h
    obtain ⟨u, hu, ru⟩ := formsAt T r
    have few := r.few
    refine s_retTupN (ys := r.pts.map iV) ?_ fun l H1 hl e1 h1 => k l H1 hl e1 h1
    rw [← r.zip_pts]
    refine nl_lcZ (txt := r.sg) (ys := r.rest) (pr := fun c y => decide (c ∈ ("pq" : Str).cps.toList) && !decide (y = V.non)) (gg := fun _ y => y)
        (fun Q q => v_ixU (vv rfl) hp (vc (v := .int 0)) rfl _ ⟨r.wd, u, .str r.sg, rfl, rfl, hu, ru, v_tail (vv rfl) hp (by omega) _ fun b H1 hb e1 h1 => q H1 b e1 h1⟩) r.asc r.len (by omega) (fun _ _ => rfl)
        (fun i c v hc hv H' e => a_and (a_test (fun Q q => ⟨_, rfl, c, "pq", rfl, rfl, q⟩)) fun _ => a_test (v_notN (vv rfl))) (fun i c v hc hv _ H' e => vv rfl)
theorem v_chain {i j k : Int} (h1 : Val te σ H (.int i)) (h2 : Val tb σ H (.int j)) (h3 : Val tc σ H (.int k)) : Val (tChain (rI0 fun i j => .bl (decide (i ≤ j))) (rI0 fun i j => .bl (decide (i < j))) te tb tc) σ H (.bl (decide (i ≤ j) && decide (j < k))) := fun Q q =>
  h1 _ (h2 _ ⟨i, j, rfl, rfl, decide (i ≤ j), rfl, by
    cases hb : decide (i ≤ j) with
    | true => exact iteT (h3 _ ⟨j, k, rfl, rfl, by rw [hb] at q; exact q⟩)
    | false => exact iteF (by rw [hb] at q; exact q)⟩)
theorem ae_B {b : Bool} (h : ValE te σ H (.bl b)) : AnsE (tB te) σ H b := fun Q q => h _ fun H' e => ⟨b, rfl, q H' e⟩
def spLookRow : Sp := fun vs H Q _ => ∃ p r n, vs = [.ref p, .int (n : Nat)] ∧ rowP H p r ∧ (∀ x ∈ r.pts, x < n) ∧ ∀ H', Ex H H' → Q .non H'
theorem q_whenE {b : Bool} (h : AnsE t σ H b) (h1 : b = true → ∀ H', Ex H H' → t1 { D with nx := tz D } σ H') (h2 : b = false → ∀ H', Ex H H' → tz D σ H') : tSeq (tIfS t t1 tNext) tz D σ H := s_ifE (D := { D with nx := tz D }) h h1 h2
theorem s_whenE {b : Bool} (h : AnsE t σ H b) (h1 : b = true → ∀ H', Ex H H' → t1 D σ H') (h2 : b = false → ∀ H', Ex H H' → D.nx σ H') : tIfS t t1 tNext D σ H := s_ifE h h1 h2
theorem RowK.pts_len (r : RowK) : r.pts.length ≤ 2 := by cases r <;> (show _ ≤ 2; simp [RowK.pts])
theorem ok_look_row (T : Tx w K mg) : Ok P w K mg base 4 .look_row spLookRow := by
  refine T.okd .look_row sc_look_row (fun vs H Q E h => ?_) (fun cdv A0 outer s0 H vs Q E hr h => ⟨_, (pss_cons (ps_if (pt_not (pt_val (pe_call (ok_is_row T) (hr.mono (by decide)) rfl (T.glF _ (by decide +kernel)) (T.fn .is_row).kp (b_is_row T) .nil pass0 (pa_cons (pv 0) pa_nil)))) (pss_one ps_never) pss_nil)
    (pss_one (ps_if (pt_not (pt_val (pe_callB (cr_all rfl) (by rfl) (T.free _ (by decide +kernel)) (by decide +kernel) (by exact (pa_cons (pe_lc (own := [("point", 2)]) (g := gName 2) (tt := tYes) (te := (tChain (rI0 fun i j => .bl (decide (i ≤ j))) (rI0 fun i j => .bl (decide (i < j))) (tC (.int 0)) (tVar 2) (tVar 1))) rfl sc_look_row.nd (pi_tup (pe_call (ok_points_of T) (hr.mono (by decide)) rfl (T.glF _ (by decide +kernel)) (T.fn .points_of).kp (b_points_of T) .nil pass0 (pa_cons (pv 0) pa_nil))) (blkOk_by (N := ["row", "many", "point"]) (own := [("point", 2)]) (sc := defScope (Dn.sm .look_row)) (by decide +kernel)) (fun _ _ _ _ _ => (by exact (pg_name (i := 2) sc_look_row.nd rfl (Or.inl rfl)))) (fun _ _ _ _ _ => (by exact pts_nil)) (fun _ _ _ _ _ => (by exact (pe_chain op_le op_lt pe_int (pv 2) (pv 1))))) pa_nil))))) (pss_one ps_never) pss_nil))), ?_⟩)
  · obtain ⟨p, r, n, rfl, _⟩ := h; rfl
  · obtain ⟨p, r, n, rfl, hp, hn, k⟩ := h
    have pl := r.pts_len
    refine q_whenE (b := !true) (ae_not (ae_B fun Q q => c_fn (args1 (vv rfl) args0) ⟨p, r, rfl, hp, q⟩)) (fun q => by cases q) fun _ H1 e1 => ?_
    have hp1 : rowP H1 p r := e1 _ _ hp
    refine s_whenE (b := !((r.pts.map fun _ => true).all id)) (ae_not (ae_B (ve_all ?_))) (fun q => ?_) fun _ H2 e2 => k H2 (e1.trans e2)
    · have := nl_lcU (K := K) (H := H1) (σ := [some (V.ref p), some (V.int n), none]) (tl := tCall spPtsOf [] E0 (tCons (tVar 0) tNil)) (tt := tYes) (te := tChain (rI0 fun i j => .bl (decide (i ≤ j))) (rI0 fun i j => .bl (decide (i < j))) (tC (.int 0)) (tVar 2) (tVar 1)) (ks := r.pts) (φ := iV) (p := fun _ => true) (g := fun _ => V.bl true) (j := 2) (vs := [2])
        (fun Q q => c_fn (args1 (vv rfl) args0) ⟨p, r, rfl, hp1, q⟩) (by omega) (fun _ => rfl) (fun _ _ _ _ => ans_yes) (fun x hx _ H' e => by
          have := v_chain (σ := [some (V.ref p), some (V.int n), some (V.int x)]) (H := H') (te := tC (.int 0)) (tb := tVar 2) (tc := tVar 1) vc (vv rfl) (vv rfl)
          have hx := hn x hx
          rw [show (V.bl true) = V.bl (decide ((0 : Int) ≤ (x : Int)) && decide ((x : Int) < (n : Int))) by rw [decide_eq_true (by omega), decide_eq_true (by omega)]; rfl]
          exact this)
      rw [List.filter_eq_self.mpr (fun _ _ => rfl)] at this
      rw [List.map_map]; exact this
    · have : (r.pts.map fun _ => true).all id = true := by rw [List.all_eq_true]; intro x hx; obtain ⟨_, _, rfl⟩ := List.mem_map.mp hx; rfl
      rw [this] at q; cases q
def spLookDone (K : PySem.W.Frag) : Sp := fun vs H Q _ => ∃ y s A S p r, vs = [.ref y, .ref p] ∧ WyAt K H y s A S ∧ rowP H p r ∧ (∀ x ∈ r.pts, x < S.n) ∧ ∀ H', Ex H H' → Q .non H'
theorem ae_or {b c : Bool} {u : TT} (h1 : AnsE t σ H b) (h2 : b = false → ∀ H', Ex H H' → AnsE u σ H' c) : AnsE (tOr t u) σ H (b || c) := fun Q q => h1 _ fun H' e => (by
  cases b with
  | true => exact iteT (q H' e)
  | false => exact iteF (h2 rfl H' e Q fun H2 e2 => q H2 (e.trans e2)))
theorem v_pts (hW : WyAt K H y s A S) (hb : Val tb σ H (.ref y)) : Val (tMeth (Cad K .wy) "points" (spPts K) [] E0 tb tNil) σ H (.int (S.n : Nat)) := fun Q q =>
  c_wyV hW (by decide +kernel) hb args0 ⟨y, s, A, S, rfl, hW, q⟩
theorem ok_wy_look_done (T : Tx w K mg) : Ok P w K mg base 5 .wy_look_done (spLookDone K) := by
  refine T.okd .wy_look_done sc_wy_look_done (fun vs H Q E h => ?_) (fun cdv A0 outer s0 H vs Q E hr h => ⟨_, (pss_cons (ps_if (PW.pt (pw_or (pt_not (pt_val (pe_call (ok_is_row T) (hr.mono (by decide)) rfl (T.glF _ (by decide +kernel)) (T.fn .is_row).kp (b_is_row T) .nil pass0 (pa_cons (pv 1) pa_nil)))) (pw_or1 (pt_cmpR op_notIn_seq (pe_ix ix_tup (pv 1) pe_int (fun _ _ => rfl)) (pe_glob (v := .ref (He.ga K "DONE")) rfl T.glT.2.2 rfl) rfl)))) (pss_one ps_never) pss_nil)
    (pss_one (ps_expr (pe_call (ok_look_row T) (hr.mono (by decide)) rfl (T.glF _ (by decide +kernel)) (T.fn .look_row).kp (b_look_row T) .nil pass0 (pa_cons (pv 1) (pa_cons (pe_meth0 (pv 0) (T.cls .wy) (T.meth .wy _ (by decide +kernel)) (ok_wy_points T) (hr.mono (by decide)) (b_wy_points T) .nil pass0) pa_nil)))))), ?_⟩)
  · obtain ⟨y, s, A, S, p, r, rfl, _⟩ := h; rfl
  · obtain ⟨y, s, A, S, p, r, rfl, hW, hp, hn, k⟩ := h
    refine q_whenE (b := !true || !true) (ae_or (ae_not (ae_B fun Q q => c_fn (args1 (vv rfl) args0) ⟨p, r, rfl, hp, q⟩)) fun _ H1 e1 => ?_) (fun q => by cases q) fun _ H1 e1 => ?_
    · intro Q q
      refine v_ixU (vv rfl) (e1 _ _ hp) (vc (v := .int 0)) rfl _ ⟨He.ga K "DONE", _, rfl, .inr (T.done H1), rfl, flat_strs _, ⟨false, ?_, q H1 (Ex.refl _)⟩⟩
      show V.bl (!inV _ _) = _
      rw [r.done]; rfl
    · exact c_fn (vs := [.ref p, .int (S.n : Nat)]) (args1 (vv rfl) (args1 (v_pts (hW.ex e1) (vv rfl)) args0)) ⟨p, r, S.n, rfl, e1 _ _ hp, hn, fun H2 e2 => k H2 (e1.trans e2)⟩
end
end TC
namespace TC
open PySem PySem.Spec PyProof.Rows L2
def doR (S : LC.S) (r : RowK) (k : (Hp → V → Prop) → LC.S → Prop) : Prop := match r with
  | .new wo => k (IsV (.int (S.n : Nat))) (LC.putPoint S wo)
  | .tie a b => ∃ S', LC.tie S a b = some S' ∧ S'.cnt ≤ cLim ∧ k (IsV .non) S'
  | .cut a b => ∃ S', LC.cut S a b = some S' ∧ S'.cnt ≤ cLim ∧ k (IsV .non) S'
  | .joined a b => ∃ S' j, LC.areJoined S a b = some (S', j) ∧ S'.cnt ≤ cLim ∧ k (IsV (.bl j)) S'
  | .way a b => ∃ S' S'' p, LC.openWay S a b = some S' ∧ LC.inorder S' b = some (S'', p) ∧ S'.cnt ≤ cLim ∧ k (IsT (p.map iV)) S''
  | .total a b => ∃ S', LC.openWay S a b = some S' ∧ S'.cnt ≤ cLim ∧ k (IsV (.int (S'.to b))) S'
  | .most a b => ∃ S' S'' x, LC.openWay S a b = some S' ∧ LC.firstBy S' b (S'.mo b) = some (S'', x) ∧ S''.cnt ≤ cLim ∧ k (IsT [.int (S'.mo b), iV x]) S''
  | .add a b m => Small m ∧ ∃ S', LC.addW S a b m = some S' ∧ S'.cnt ≤ cLim ∧ k (IsV .non) S'
section
variable {P : Program} {w : World} {K : PySem.W.Frag} {mg : Str → Option Value} {base : Heap} {H H' H0 : Hp} {y s p : Addr} {A : Fd → Addr} {S S' : LC.S} {σ : L2.St} {tb tx te tl tc : TE} {ta : TA} {D : Ends} {v x : V} {t1 t2 tz tu : TS} {t tt : TT} {b : Bool}
def spDo (K : PySem.W.Frag) (ok : RowK → Bool) : Sp := fun vs H Q _ => ∃ y s A S p r, vs = [.ref y, .ref p] ∧ WyAt K H y s A S ∧ rowP H p r ∧ ok r = true ∧ (∀ x ∈ r.pts, x < S.n) ∧ S.n ≤ 10000 ∧ doR S r fun R S' => ∀ H' v, R H' v → WyAt K H' y s A S' → Keep A H H' → Q v H'
def isWay : RowK → Bool
  | .way .. | .total .. | .most .. => true
  | _ => false
theorem q_unp3 {a : Addr} {v1 v2 v3 : V} {i j k : Nat} (h : Val te σ H (.ref a)) (ha : SqT K H a [v1, v2, v3]) (q : tz D (((σ.set i (some v1)).set j (some v2)).set k (some v3)) H) : tSeq (tAsg te (gTup K 3 (gCons (gName i) (gCons (gName j) (gCons (gName k) gNil))))) tz D σ H :=
  h _ ⟨a, _, rfl, ha, rfl, v1, _, rfl, v2, _, rfl, v3, [], rfl, rfl, q⟩
theorem v_sl3 {v1 v2 v3 : V} (hb : Val tb σ H (.ref p)) (hp : H p = some (.tup [v1, v2, v3])) : Val (tSl (rSlA K) tb tNoPart (tPart (tC (.int 3)))) σ H (.ref p) := fun Q q =>
  hb _ ⟨3, rfl, p, _, rfl, SqT.of hp, fun _ => q, fun h => absurd ⟨rfl, rfl⟩ h⟩
theorem a_eqS {a b : Str} (hb : Val tb σ H (.str a)) : L2.Ans (tTest (tOp rEq tb (tC (.str b)))) σ H (decide (V.str a = V.str b)) := a_test (v_eq hb vc rfl)
theorem firstBy_cnt {m : Int} {t x : Nat} (h : LC.firstBy S t m = some (S', x)) : S.cnt ≤ S'.cnt ∧ S'.n = S.n := by
  unfold LC.firstBy at h
  split at h
  rotate_left
  · cases h
  cases h1 : LC.firstL (S.n + 1) (LC.handDown S t) t m with
  | none => rw [h1] at h; cases h
  | some pr =>
    obtain ⟨S1, x1⟩ := pr
    rw [h1] at h; dsimp only at h
    cases h2 : LC.lift S1 x1 with
    | none => rw [h2] at h; cases h
    | some S2 =>
      rw [h2] at h; dsimp only at h; cases h
      have := firstL_cnt _ _ _ _ _ _ h1
      have := LC.lift_cnt h2
      have := LC.hand_cnt [t] S
      have e1 : (LC.handDown S t).cnt = S.cnt := this.1
      have e2 : (LC.handDown S t).n = S.n := this.2
      omega
theorem s_ret2 {v1 : V} {R : V → Hp → Prop} (h1 : Val te σ H v1) (h2 : ∀ Q : VK, (∀ v2 H2, R v2 H2 → Q v2 H2) → tb σ H Q) (k : ∀ v2 H2 l, R v2 H2 → H2 l = none → D.rt (.ref l) (upd H2 l (.tup [v1, v2]))) : tRet (tTup (tCons te (tCons tb tNil))) D σ H :=
  h1 _ (h2 _ fun v2 H2 r => ⟨by show 2 ≤ sizeLine; decide, fun l hl => k v2 H2 l r hl⟩)
theorem ok_wy_of_way (T : Tx w K mg) : Ok P w K mg base 8 .wy_of_way (spDo K isWay) := by
  refine T.okd .wy_of_way sc_wy_of_way (fun vs H Q E h => ?_) (fun cdv A0 outer s0 H vs Q E hr h => ⟨_, (pss_cons (ps_asg (pe_slice sl_tupA (pv 1) po_none (po_some pe_int)) (pg_tup rfl (pgs_cons (pg_name (i := 2) sc_wy_of_way.nd rfl (Or.inl rfl)) (pgs_cons (pg_name (i := 3) sc_wy_of_way.nd rfl (Or.inl rfl)) (pgs_cons (pg_name (i := 4) sc_wy_of_way.nd rfl (Or.inl rfl)) pgs_nil)))))
    (pss_cons (ps_expr (pe_meth (pv 0) (T.cls .wy) (T.meth .wy _ (by decide +kernel)) (ok_wy_open_way T) (hr.mono (by decide)) (b_wy_open_way T) .nil pass0 (pa_cons (pv 3) (pa_cons (pv 4) pa_nil))))
    (pss_cons (ps_set (i := 5) sc_wy_of_way.nd rfl (Or.inl rfl) (pe_fld (pv 0) rfl))
    (pss_cons (ps_if (pt_cmpR op_eq (pv 2) pe_str (nomark _)) (pss_one (ps_ret (pe_meth (pv 0) (T.cls .wy) (T.meth .wy _ (by decide +kernel)) (ok_wy_inorder T) (hr.mono (by decide)) (b_wy_inorder T) .nil pass0 (pa_cons (pv 4) pa_nil)))) pss_nil)
    (pss_cons (ps_if (pt_cmpR op_eq (pv 2) pe_str (nomark _)) (pss_one (ps_ret (pe_ix ix_list (pe_fld (pv 5) rfl) (pv 4) (fun _ _ => rfl)))) pss_nil)
    (pss_cons (ps_if (pt_cmpR op_eq (pv 2) pe_str (nomark _)) (pss_one ps_never) pss_nil)
    (pss_cons (ps_if (pt_cmpR op_eq (pv 2) pe_str (nomark _)) (pss_cons (ps_set (i := 6) sc_wy_of_way.nd rfl (Or.inl rfl) (pe_ix ix_list (pe_fld (pv 5) rfl) (pv 4) (fun _ _ => rfl)))
    (pss_one (ps_ret (pe_tup (pa_cons (pv 6) (pa_cons (pe_meth (pv 0) (T.cls .wy) (T.meth .wy _ (by decide +kernel)) (ok_wy_first_by T) (hr.mono (by decide)) (b_wy_first_by T) .nil pass0 (pa_cons (pv 4) (pa_cons pe_str (pa_cons (pv 6) pa_nil)))) pa_nil)))))) pss_nil)
    (pss_cons (ps_if (pt_cmpR op_eq (pv 2) pe_str (nomark _)) (pss_one ps_never) pss_nil)
    (pss_cons (ps_if (pt_cmpR op_eq (pv 2) pe_str (nomark _)) (pss_one ps_never) pss_nil)
    (pss_one ps_never)))))))))), ?_⟩)
  · obtain ⟨y, s, A, S, p, r, rfl, _⟩ := h; rfl
  · obtain ⟨y, s, A, S, p, r, rfl, hW, hp, hr, hn, h1, k⟩ := h
    cases r with
    | way a b =>
      obtain ⟨S1, S2, pp, e1, e2, hc, k⟩ := k
      have ha : a < S.n := hn a (by simp [RowK.pts])
      have hb : b < S.n := hn b (by simp [RowK.pts])
      have c1 := openWay_cnt e1
      refine q_unp3 (v_sl3 (vv rfl) hp) (SqT.of hp) ?_
      refine q_callW hW (by decide +kernel) (vv rfl) (args1 (vv rfl) (args1 (vv rfl) args0)) ⟨y, s, A, S, _, rfl, hW, a, b, S1, rfl, ha, hb, h1, e1, hc, fun H1 v _ W1 k1 => ?_⟩
      refine q_set (v := .ref s) (v_sr T W1 (vv rfl)) ?_
      refine q_when (b := true) (L2.Ans.to (a_eqS (a := "way") (vv rfl)) (by decide +kernel)) (fun _ => ?_) (fun q => by cases q)
      exact c_wyV W1 (by decide +kernel) (vv rfl) (args1 (vv rfl) args0) ⟨y, s, A, S1, _, rfl, W1, b, S2, pp, rfl, by omega, by omega, e2, fun H2 v hv W2 k2 => k H2 v hv W2 (k1.trans k2)⟩
    | total a b =>
      obtain ⟨S1, e1, hc, k⟩ := k
      have ha : a < S.n := hn a (by simp [RowK.pts])
      have hb : b < S.n := hn b (by simp [RowK.pts])
      have c1 := openWay_cnt e1
      refine q_unp3 (v_sl3 (vv rfl) hp) (SqT.of hp) ?_
      refine q_callW hW (by decide +kernel) (vv rfl) (args1 (vv rfl) (args1 (vv rfl) args0)) ⟨y, s, A, S, _, rfl, hW, a, b, S1, rfl, ha, hb, h1, e1, hc, fun H1 v _ W1 k1 => ?_⟩
      refine q_set (v := .ref s) (v_sr T W1 (vv rfl)) ?_
      refine q_when (b := false) (L2.Ans.to (a_eqS (a := "total") (vv rfl)) (by decide +kernel)) (fun q => by cases q) fun _ => ?_
      refine q_when (b := true) (L2.Ans.to (a_eqS (a := "total") (vv rfl)) (by decide +kernel)) (fun _ => ?_) (fun q => by cases q)
      exact s_ret (v := .int (S1.to b)) (v_rd T W1.st .total (vv rfl) (vv rfl) (by omega)) (k H1 _ rfl W1 k1)
    | most a b =>
      obtain ⟨S1, S2, x, e1, e2, hc, k⟩ := k
      have ha : a < S.n := hn a (by simp [RowK.pts])
      have hb : b < S.n := hn b (by simp [RowK.pts])
      have c1 := openWay_cnt e1
      have c2 := firstBy_cnt e2
      refine q_unp3 (v_sl3 (vv rfl) hp) (SqT.of hp) ?_
      refine q_callW hW (by decide +kernel) (vv rfl) (args1 (vv rfl) (args1 (vv rfl) args0)) ⟨y, s, A, S, _, rfl, hW, a, b, S1, rfl, ha, hb, h1, e1, by omega, fun H1 v _ W1 k1 => ?_⟩
      refine q_set (v := .ref s) (v_sr T W1 (vv rfl)) ?_
      refine q_when (b := false) (L2.Ans.to (a_eqS (a := "most") (vv rfl)) (by decide +kernel)) (fun q => by cases q) fun _ => ?_
      refine q_when (b := false) (L2.Ans.to (a_eqS (a := "most") (vv rfl)) (by decide +kernel)) (fun q => by cases q) fun _ => ?_
      refine q_when (b := false) (L2.Ans.to (a_eqS (a := "most") (vv rfl)) (by decide +kernel)) (fun q => by cases q) fun _ => ?_
      refine q_when (b := true) (L2.Ans.to (a_eqS (a := "most") (vv rfl)) (by decide +kernel)) (fun _ => ?_) (fun q => by cases q)
      refine q_set (v := .int (S1.mo b)) (v_rd T W1.st .most (vv rfl) (vv rfl) (by omega)) ?_
      refine s_ret2 (R := fun v2 H2 => v2 = iV x ∧ WyAt K H2 y s A S2 ∧ Keep A H1 H2) (vv rfl) (fun Q q => c_wyV W1 (by decide +kernel) (vv rfl) (args1 (vv rfl) (args1 vc (args1 (vv rfl) args0))) ⟨y, s, A, S1, _, rfl, W1, b, S1.mo b, S2, x, rfl, by omega, by omega, e2, hc, fun H2 v hv W2 k2 => q v H2 ⟨hv, W2, k2⟩⟩) ?_
      rintro v2 H2 l ⟨rfl, W2, k2⟩ hl
      exact k _ _ ⟨l, rfl, upd_same⟩ (W2.ex (Ex.new hl)) ((k1.trans k2).ex (Ex.new hl))
    | _ => cases hr
theorem ok_wy_do_deed (T : Tx w K mg) : Ok P w K mg base 9 .wy_do_deed (spDo K RowK.isDeed) := by
  refine T.okd .wy_do_deed sc_wy_do_deed (fun vs H Q E h => ?_) (fun cdv A0 outer s0 H vs Q E hr h => ⟨_, (pss_cons (ps_if (pt_cmpR op_eq (pe_ix ix_tup (pv 1) pe_int (fun _ _ => rfl)) pe_str (nomark _)) (pss_one (ps_ret (pe_meth (pe_fld (pv 0) rfl) (T.cls .st) (T.meth .st _ (by decide +kernel)) (ok_st_put_point T) (hr.mono (by decide)) (b_st_put_point T) .nil pass0 (pa_cons (pe_ix ix_tup (pv 1) pe_int (fun _ _ => rfl)) (pa_cons (pe_ix ix_tup (pv 1) pe_int (fun _ _ => rfl)) pa_nil))))) pss_nil)
    (pss_cons (ps_if (pt_cmpR op_eq (pe_ix ix_tup (pv 1) pe_int (fun _ _ => rfl)) pe_str (nomark _)) (pss_one ps_never) (pss_one (ps_if (pt_cmpR op_eq (pe_ix ix_tup (pv 1) pe_int (fun _ _ => rfl)) pe_str (nomark _)) (pss_one ps_never) (pss_one (ps_if (pt_cmpR op_eq (pe_ix ix_tup (pv 1) pe_int (fun _ _ => rfl)) pe_str (nomark _)) (pss_one (ps_expr (pe_meth (pv 0) (T.cls .wy) (T.meth .wy _ (by decide +kernel)) (ok_wy_tie T) (hr.mono (by decide)) (b_wy_tie T) .nil pass0 (pa_cons (pe_ix ix_tup (pv 1) pe_int (fun _ _ => rfl)) (pa_cons (pe_ix ix_tup (pv 1) pe_int (fun _ _ => rfl)) pa_nil))))) (pss_one (ps_if (pt_cmpR op_eq (pe_ix ix_tup (pv 1) pe_int (fun _ _ => rfl)) pe_str (nomark _)) (pss_one (ps_expr (pe_meth (pv 0) (T.cls .wy) (T.meth .wy _ (by decide +kernel)) (ok_wy_cut T) (hr.mono (by decide)) (b_wy_cut T) .nil pass0 (pa_cons (pe_ix ix_tup (pv 1) pe_int (fun _ _ => rfl)) (pa_cons (pe_ix ix_tup (pv 1) pe_int (fun _ _ => rfl)) pa_nil))))) (pss_one (ps_expr (pe_meth (pv 0) (T.cls .wy) (T.meth .wy _ (by decide +kernel)) (ok_wy_add T) (hr.mono (by decide)) (b_wy_add T) .nil pass0 (pa_cons (pe_ix ix_tup (pv 1) pe_int (fun _ _ => rfl)) (pa_cons (pe_ix ix_tup (pv 1) pe_int (fun _ _ => rfl)) (pa_cons (pe_ix ix_tup (pv 1) pe_int (fun _ _ => rfl)) pa_nil)))))))))))))
    (pss_one (ps_ret pe_non)))), ?_⟩)
  · obtain ⟨y, s, A, S, p, r, rfl, _⟩ := h; rfl
  · obtain ⟨y, s, A, S, p, r, rfl, hW, hp, hr, hn, h1, k⟩ := h
    cases r with
    | new wo =>
      refine q_when (b := true) (L2.Ans.to (a_wd (a := "new") (vv rfl) hp rfl) (by decide +kernel)) (fun _ => ?_) (fun q => by cases q)
      exact c_stV hW.st (by decide +kernel) (v_sr T hW (vv rfl)) (args1 (v_ixU (vv rfl) hp (vc (v := .int 1)) rfl) (args1 (v_ixU (vv rfl) hp (vc (v := .int 2)) rfl) args0)) ⟨s, A, S, _, rfl, hW.st, wo, "b", rfl, .inr rfl, h1, fun H1 g1 k1 => k H1 _ rfl (hW.to g1 k1) k1⟩
    | tie a b =>
      obtain ⟨S1, e1, hc, k⟩ := k
      have ha : a < S.n := hn a (by simp [RowK.pts])
      have hb : b < S.n := hn b (by simp [RowK.pts])
      refine q_when (b := false) (L2.Ans.to (a_wd (a := "tie") (vv rfl) hp rfl) (by decide +kernel)) (fun q => by cases q) fun _ => ?_
      refine q_if (b := false) (L2.Ans.to (a_wd (a := "tie") (vv rfl) hp rfl) (by decide +kernel)) (fun q => by cases q) fun _ => ?_
      refine s_if (b := false) (L2.Ans.to (a_wd (a := "tie") (vv rfl) hp rfl) (by decide +kernel)) (fun q => by cases q) fun _ => ?_
      refine s_if (b := true) (L2.Ans.to (a_wd (a := "tie") (vv rfl) hp rfl) (by decide +kernel)) (fun _ => ?_) (fun q => by cases q)
      exact s_callW hW (by decide +kernel) (vv rfl) (args1 (v_ixU (vv rfl) hp (vc (v := .int 1)) rfl) (args1 (v_ixU (vv rfl) hp (vc (v := .int 2)) rfl) args0)) ⟨y, s, A, S, _, rfl, hW, a, b, S1, rfl, ha, hb, h1, e1, hc, fun H1 v _ W1 k1 => (k H1 _ rfl W1 k1 : Q V.non H1)⟩
    | cut a b =>
      obtain ⟨S1, e1, hc, k⟩ := k
      have ha : a < S.n := hn a (by simp [RowK.pts])
      have hb : b < S.n := hn b (by simp [RowK.pts])
      refine q_when (b := false) (L2.Ans.to (a_wd (a := "cut") (vv rfl) hp rfl) (by decide +kernel)) (fun q => by cases q) fun _ => ?_
      refine q_if (b := false) (L2.Ans.to (a_wd (a := "cut") (vv rfl) hp rfl) (by decide +kernel)) (fun q => by cases q) fun _ => ?_
      refine s_if (b := false) (L2.Ans.to (a_wd (a := "cut") (vv rfl) hp rfl) (by decide +kernel)) (fun q => by cases q) fun _ => ?_
      refine s_if (b := false) (L2.Ans.to (a_wd (a := "cut") (vv rfl) hp rfl) (by decide +kernel)) (fun q => by cases q) fun _ => ?_
      refine s_if (b := true) (L2.Ans.to (a_wd (a := "cut") (vv rfl) hp rfl) (by decide +kernel)) (fun _ => ?_) (fun q => by cases q)
      exact s_callW hW (by decide +kernel) (vv rfl) (args1 (v_ixU (vv rfl) hp (vc (v := .int 1)) rfl) (args1 (v_ixU (vv rfl) hp (vc (v := .int 2)) rfl) args0)) ⟨y, s, A, S, _, rfl, hW, a, b, S1, rfl, ha, hb, h1, e1, hc, fun H1 v _ W1 k1 => (k H1 _ rfl W1 k1 : Q V.non H1)⟩
    | add a b m =>
      obtain ⟨hm, S1, e1, hc, k⟩ := k
      have ha : a < S.n := hn a (by simp [RowK.pts])
      have hb : b < S.n := hn b (by simp [RowK.pts])
      refine q_when (b := false) (L2.Ans.to (a_wd (a := "add") (vv rfl) hp rfl) (by decide +kernel)) (fun q => by cases q) fun _ => ?_
      refine q_if (b := false) (L2.Ans.to (a_wd (a := "add") (vv rfl) hp rfl) (by decide +kernel)) (fun q => by cases q) fun _ => ?_
      refine s_if (b := false) (L2.Ans.to (a_wd (a := "add") (vv rfl) hp rfl) (by decide +kernel)) (fun q => by cases q) fun _ => ?_
      refine s_if (b := false) (L2.Ans.to (a_wd (a := "add") (vv rfl) hp rfl) (by decide +kernel)) (fun q => by cases q) fun _ => ?_
      refine s_if (b := false) (L2.Ans.to (a_wd (a := "add") (vv rfl) hp rfl) (by decide +kernel)) (fun q => by cases q) fun _ => ?_
      exact s_callW hW (by decide +kernel) (vv rfl) (args1 (v_ixU (vv rfl) hp (vc (v := .int 1)) rfl) (args1 (v_ixU (vv rfl) hp (vc (v := .int 2)) rfl) (args1 (v_ixU (vv rfl) hp (vc (v := .int 3)) rfl) args0))) ⟨y, s, A, S, _, rfl, hW, a, b, m, S1, rfl, ha, hb, h1, hm, e1, hc, fun H1 v _ W1 k1 => (k H1 _ rfl W1 k1 : Q V.non H1)⟩
    | _ => cases hr
theorem a_in2 {a b1 b2 : Str} {xs : List V} {q0 : Option V} {r : List (Option V)} (hp : H p = some (.tup xs)) (hx : xs[0]? = some (.str a)) (h2 : inV (.str a) [V.str b1, V.str b2] = false) :
    AnsE (tTest (tOp (rIn K false) (tOp (rIxT K) (tVar 1) (tC (.int 0))) (tTup (tCons (tC (.str b1)) (tCons (tC (.str b2)) tNil))))) (q0 :: some (.ref p) :: r) H false := fun Q q =>
  v_ixU (vv rfl) hp (vc (v := .int 0)) hx _ ⟨by show 2 ≤ sizeLine; decide, fun l hl => ⟨l, _, rfl, .inr (SqT.of upd_same), rfl, rfl, ⟨false, by show V.bl (inV _ _) = _; rw [h2], q _ (Ex.new hl)⟩⟩⟩
theorem ok_wy_do (T : Tx w K mg) : Ok P w K mg base 10 .wy_do (spDo K fun _ => true) := by
  refine T.okd .wy_do sc_wy_do (fun vs H Q E h => ?_) (fun cdv A0 outer s0 H vs Q E hr h => ⟨_, (pss_cons (ps_expr (pe_meth (pv 0) (T.cls .wy) (T.meth .wy _ (by decide +kernel)) (ok_wy_look_done T) (hr.mono (by decide)) (b_wy_look_done T) .nil pass0 (pa_cons (pv 1) pa_nil)))
    (pss_cons (ps_if (pt_val (pe_call (ok_is_deed T) (hr.mono (by decide)) rfl (T.glF _ (by decide +kernel)) (T.fn .is_deed).kp (b_is_deed T) .nil pass0 (pa_cons (pv 1) pa_nil))) (pss_one (ps_ret (pe_meth (pv 0) (T.cls .wy) (T.meth .wy _ (by decide +kernel)) (ok_wy_do_deed T) (hr.mono (by decide)) (b_wy_do_deed T) .nil pass0 (pa_cons (pv 1) pa_nil)))) pss_nil)
    (pss_cons (ps_if (pt_cmpR op_eq (pe_ix ix_tup (pv 1) pe_int (fun _ _ => rfl)) pe_str (nomark _)) (pss_one (ps_ret (pe_meth (pv 0) (T.cls .wy) (T.meth .wy _ (by decide +kernel)) (ok_wy_are_joined T) (hr.mono (by decide)) (b_wy_are_joined T) .nil pass0 (pa_cons (pe_ix ix_tup (pv 1) pe_int (fun _ _ => rfl)) (pa_cons (pe_ix ix_tup (pv 1) pe_int (fun _ _ => rfl)) pa_nil))))) pss_nil)
    (pss_cons (ps_if (pt_cmpR op_eq (pe_ix ix_tup (pv 1) pe_int (fun _ _ => rfl)) pe_str (nomark _)) (pss_one ps_never) pss_nil)
    (pss_cons (ps_if (pt_cmpR op_in_seq (pe_ix ix_tup (pv 1) pe_int (fun _ _ => rfl)) (pe_tup (pa_cons pe_str (pa_cons pe_str pa_nil))) rfl) (pss_one ps_never) pss_nil)
    (pss_one (ps_ret (pe_meth (pv 0) (T.cls .wy) (T.meth .wy _ (by decide +kernel)) (ok_wy_of_way T) (hr.mono (by decide)) (b_wy_of_way T) .nil pass0 (pa_cons (pv 1) pa_nil))))))))), ?_⟩)
  · obtain ⟨y, s, A, S, p, r, rfl, _⟩ := h; rfl
  · obtain ⟨y, s, A, S, p, r, rfl, hW, hp, _, hn, h1, k⟩ := h
    refine q_callW hW (by decide +kernel) (vv rfl) (args1 (vv rfl) args0) ⟨y, s, A, S, p, r, rfl, hW, hp, hn, fun H1 e1 => ?_⟩
    have W1 := hW.ex e1
    have hp1 : rowP H1 p r := e1 _ _ hp
    have kk : doR S r fun R S' => ∀ H' v, R H' v → WyAt K H' y s A S' → Keep A H1 H' → Q v H' := by
      have : ∀ (R : Hp → V → Prop) (S' : LC.S), (∀ H' v, R H' v → WyAt K H' y s A S' → Keep A H H' → Q v H') → ∀ H' v, R H' v → WyAt K H' y s A S' → Keep A H1 H' → Q v H' := fun R S' h H' v a b c => h H' v a b ((exKeep e1).trans c)
      cases r with
      | new wo => exact this _ _ k
      | tie a b => obtain ⟨S1, e, c, k⟩ := k; exact ⟨S1, e, c, this _ _ k⟩
      | cut a b => obtain ⟨S1, e, c, k⟩ := k; exact ⟨S1, e, c, this _ _ k⟩
      | joined a b => obtain ⟨S1, j, e, c, k⟩ := k; exact ⟨S1, j, e, c, this _ _ k⟩
      | way a b => obtain ⟨S1, S2, pp, e, e2, c, k⟩ := k; exact ⟨S1, S2, pp, e, e2, c, this _ _ k⟩
      | total a b => obtain ⟨S1, e, c, k⟩ := k; exact ⟨S1, e, c, this _ _ k⟩
      | most a b => obtain ⟨S1, S2, x, e, e2, c, k⟩ := k; exact ⟨S1, S2, x, e, e2, c, this _ _ k⟩
      | add a b m => obtain ⟨hm, S1, e, c, k⟩ := k; exact ⟨hm, S1, e, c, this _ _ k⟩
    clear k
    refine q_when (b := r.isDeed) (a_B fun Q q => c_fn (args1 (vv rfl) args0) ⟨p, r, rfl, hp1, q⟩) (fun hd => ?_) (fun hd => ?_)
    · exact c_wyV W1 (by decide +kernel) (vv rfl) (args1 (vv rfl) args0) ⟨y, s, A, S, p, r, rfl, W1, hp1, hd, hn, h1, kk⟩
    · cases r with
      | joined a b =>
        obtain ⟨S1, j, e, hc, k⟩ := kk
        refine q_when (b := true) (L2.Ans.to (a_wd (a := "joined") (vv rfl) hp1 rfl) (by decide +kernel)) (fun _ => ?_) (fun q => by cases q)
        exact c_wyV W1 (by decide +kernel) (vv rfl) (args1 (v_ixU (vv rfl) hp1 (vc (v := .int 1)) rfl) (args1 (v_ixU (vv rfl) hp1 (vc (v := .int 2)) rfl) args0)) ⟨y, s, A, S, _, rfl, W1, a, b, S1, j, rfl, hn a (by simp [RowK.pts]), hn b (by simp [RowK.pts]), h1, e, hc, fun H2 v hv W2 k2 => k H2 v hv W2 k2⟩
      | way a b =>
        refine q_when (b := false) (L2.Ans.to (a_wd (a := "way") (vv rfl) hp1 rfl) (by decide +kernel)) (fun q => by cases q) fun _ => ?_
        refine q_when (b := false) (L2.Ans.to (a_wd (a := "way") (vv rfl) hp1 rfl) (by decide +kernel)) (fun q => by cases q) fun _ => ?_
        refine q_whenE (b := false) (a_in2 (a := "way") hp1 rfl (by decide +kernel)) (fun q => by cases q) fun _ H2 e2 => ?_
        refine c_wyV (W1.ex e2) (by decide +kernel) (vv rfl) (args1 (vv rfl) args0) ⟨y, s, A, S, p, _, rfl, W1.ex e2, e2 _ _ hp1, rfl, hn, h1, ?_⟩
        obtain ⟨S1, S2, pp, f1, f2, c, k⟩ := kk
        exact ⟨S1, S2, pp, f1, f2, c, fun H' v a b c => k H' v a b ((exKeep e2).trans c)⟩
      | total a b =>
        refine q_when (b := false) (L2.Ans.to (a_wd (a := "total") (vv rfl) hp1 rfl) (by decide +kernel)) (fun q => by cases q) fun _ => ?_
        refine q_when (b := false) (L2.Ans.to (a_wd (a := "total") (vv rfl) hp1 rfl) (by decide +kernel)) (fun q => by cases q) fun _ => ?_
        refine q_whenE (b := false) (a_in2 (a := "total") hp1 rfl (by decide +kernel)) (fun q => by cases q) fun _ H2 e2 => ?_
        refine c_wyV (W1.ex e2) (by decide +kernel) (vv rfl) (args1 (vv rfl) args0) ⟨y, s, A, S, p, _, rfl, W1.ex e2, e2 _ _ hp1, rfl, hn, h1, ?_⟩
        obtain ⟨S1, f1, c, k⟩ := kk
        exact ⟨S1, f1, c, fun H' v a b c => k H' v a b ((exKeep e2).trans c)⟩
      | most a b =>
        refine q_when (b := false) (L2.Ans.to (a_wd (a := "most") (vv rfl) hp1 rfl) (by decide +kernel)) (fun q => by cases q) fun _ => ?_
        refine q_when (b := false) (L2.Ans.to (a_wd (a := "most") (vv rfl) hp1 rfl) (by decide +kernel)) (fun q => by cases q) fun _ => ?_
        refine q_whenE (b := false) (a_in2 (a := "most") hp1 rfl (by decide +kernel)) (fun q => by cases q) fun _ H2 e2 => ?_
        refine c_wyV (W1.ex e2) (by decide +kernel) (vv rfl) (args1 (vv rfl) args0) ⟨y, s, A, S, p, _, rfl, W1.ex e2, e2 _ _ hp1, rfl, hn, h1, ?_⟩
        obtain ⟨S1, S2, x, f1, f2, c, k⟩ := kk
        exact ⟨S1, S2, x, f1, f2, c, fun H' v a b c => k H' v a b ((exKeep e2).trans c)⟩
      | _ => cases hd
end
end TC
namespace TC
open PySem PySem.Spec PyProof.Rows L2
section
variable {P : Program} {w : World} {K : PySem.W.Frag} {mg : Str → Option Value} {base : Heap} {H H' H0 : Hp} {y s p a : Addr} {A : Fd → Addr} {S S' : LC.S} {σ : L2.St} {tb tx te tl tc : TE} {ta : TA} {D : Ends} {v x : V} {t1 t2 tz tu : TS} {t tt : TT} {b : Bool}
theorem q_forUe {xs : List V} {g : TG} (h : Val tl σ H (.ref a)) (hx : SqT K H a xs) (Pv : Nat → L2.St → Hp → Prop) (h0 : Pv 0 σ H) (hl : ∀ i σ' H', i ≤ xs.length → Pv i σ' H' → SqT K H' a xs)
    (hs : ∀ i x σ' H', xs[i]? = some x → i < xs.length → Pv i σ' H' → g x σ' H' fun σ2 H2 => t1 { D with nx := Pv (i + 1), ct := Pv (i + 1), bk := tz D } σ2 H2) (hd : ∀ σ' H', Pv xs.length σ' H' → tz D σ' H') : tSeq (tFor (iTup K tl) g t1) tz D σ H :=
  h _ ⟨a, rfl, ⟨xs, hx⟩, for_it (D := { D with nx := tz D }) walk_tup Pv h0 hl (fun i x σ' H1 H2 hi hp hy => by
    obtain ⟨rfl, hy⟩ := hy
    exact hs i x σ' H2 hy hi hp) hd⟩
theorem s_forUe {xs : List V} {g : TG} (h : Val tl σ H (.ref a)) (hx : SqT K H a xs) (Pv : Nat → L2.St → Hp → Prop) (h0 : Pv 0 σ H) (hl : ∀ i σ' H', i ≤ xs.length → Pv i σ' H' → SqT K H' a xs)
    (hs : ∀ i x σ' H', xs[i]? = some x → i < xs.length → Pv i σ' H' → g x σ' H' fun σ2 H2 => t1 { D with nx := Pv (i + 1), ct := Pv (i + 1), bk := D.nx } σ2 H2) (hd : ∀ σ' H', Pv xs.length σ' H' → D.nx σ' H') : tFor (iTup K tl) g t1 D σ H :=
  q_forUe (tz := tNext) (D := D) h hx Pv h0 hl hs hd
theorem StrAt.updo (h : StrAt K H s A S) {o : HO} {C dx : Addr} {fs : List (Str × V)} (ha : H a = some (.ins C dx fs)) (hn : a ≠ s) : StrAt K (upd H a o) s A S := by
  obtain ⟨⟨dx, h1⟩, h2, h3, h4⟩ := h
  refine ⟨⟨dx, by rw [upd_ne (Ne.symm hn)]; exact h1⟩, h2, fun f => ?_, h4⟩
  obtain ⟨o', a1, b⟩ := h3 f
  have : A f ≠ a := by
    obtain ⟨xs, rfl, _⟩ := b.lst
    exact ne_of a1 ha (by intro z; cases z)
  exact ⟨o', by rw [upd_ne this]; exact a1, b.ex fun t zs q => by rw [upd_ne (ne_of q ha (by intro z; cases z))]; exact q⟩
def bareS : Nat → LC.S
  | 0 => LC.S0
  | m + 1 => LC.putPoint (bareS m) (-1)
theorem bareS_n : ∀ m, (bareS m).n = m
  | 0 => rfl
  | m + 1 => by show (bareS m).n + 1 = m + 1; rw [bareS_n m]
theorem bareS_cnt : ∀ m, (bareS m).cnt = 0
  | 0 => rfl
  | m + 1 => bareS_cnt m
def BareAt (H : Hp) (f : Addr) (m : Nat) : Prop := ∃ pp q e, H f = some (.tup [.ref pp, .ref e]) ∧ H pp = some (.tup (List.replicate m (.ref q))) ∧ H q = some (.tup [.int (-1), .str "a"]) ∧ H e = some (.tup [])
def KeepO (y : Addr) (H H' : Hp) : Prop := ∀ q o, H q = some o → q ≠ y → H' q = some o
def spWyInit (K : PySem.W.Frag) : Sp := fun vs H Q _ => ∃ y dx f m, vs = [.ref y, .ref f] ∧ H y = some (.ins (Cad K .wy) dx []) ∧ BareAt H f m ∧ m ≤ 10000 ∧ ∀ s A H', WyAt K H' y s A (bareS m) → KeepO y H H' → (∀ f, H (A f) = none) → H s = none → Q .non H'
theorem ok_wy_init (T : Tx w K mg) : Ok P w K mg base 8 .wy_init (spWyInit K) := by
  refine T.okd .wy_init sc_wy_init (fun vs H Q E h => ?_) (fun cdv A0 outer s0 H vs Q E hr h => ⟨_, (pss_cons (ps_fld (pv 0) (pe_make0 (T.mkr .st) (ok_st_init T) (hr.mono (by decide)) rfl (T.glC .st) (b_st_init T) .nil pass0) rfl)
    (pss_cons (ps_for PassesOwn.never rfl (pi_tup (pe_ix ix_tup (pv 1) pe_int (fun _ _ => rfl))) (pg_tup rfl (pgs_cons (pg_name (i := 2) sc_wy_init.nd rfl (Or.inl rfl)) (pgs_cons (pg_name (i := 3) sc_wy_init.nd rfl (Or.inl rfl)) pgs_nil))) (pss_one (ps_expr (pe_meth (pe_fld (pv 0) rfl) (T.cls .st) (T.meth .st _ (by decide +kernel)) (ok_st_put_point T) (hr.mono (by decide)) (b_st_put_point T) .nil pass0 (pa_cons (pv 2) (pa_cons (pv 3) pa_nil))))))
    (pss_one (ps_for PassesOwn.never rfl (pi_tup (pe_ix ix_tup (pv 1) pe_int (fun _ _ => rfl))) (pg_tup rfl (pgs_cons (pg_name (i := 4) sc_wy_init.nd rfl (Or.inl rfl)) (pgs_cons (pg_name (i := 5) sc_wy_init.nd rfl (Or.inl rfl)) pgs_nil))) (pss_one (ps_expr (pe_meth (pv 0) (T.cls .wy) (T.meth .wy _ (by decide +kernel)) (ok_wy_tie T) (hr.mono (by decide)) (b_wy_tie T) .nil pass0 (pa_cons (pv 4) (pa_cons (pv 5) pa_nil))))))))), ?_⟩)
  · obtain ⟨y, dx, f, m, rfl, _⟩ := h; rfl
  · obtain ⟨y, dx, f, m, rfl, hy, ⟨pp, q, e, hf, hpp, hq, he⟩, hm, k⟩ := h
    refine fun s ds hs hds hne => ⟨s, ds, rfl, upd_same, fun A H2 hS kp fr => ⟨rfl, ?_⟩⟩
    have hsy : y ≠ s := fun z => by rw [z, hs] at hy; cases hy
    have hdy : y ≠ ds := fun z => by rw [z, hds] at hy; cases hy
    have kp2 : ∀ q o, H q = some o → H2 q = some o := fun q o h => by
      have n1 : q ≠ s := fun z => by rw [z, hs] at h; cases h
      have n2 : q ≠ ds := fun z => by rw [z, hds] at h; cases h
      exact kp q o (by rw [upd_ne n1, upd_ne n2]; exact h) n1
    have fr2 : ∀ f, H (A f) = none := fun f => by
      have := fr f
      by_cases z : A f = s
      · rw [z]; exact hs
      · rw [upd_ne z] at this
        by_cases z2 : A f = ds
        · rw [z2]; exact hds
        · rw [upd_ne z2] at this; exact this
    refine (vv rfl : Val (tVar 0) _ _ (.ref y)) _ ⟨y, Cad K .wy, dx, [], rfl, kp2 _ _ hy, T.cls .wy, T.noat .wy "strands" (by decide +kernel), by decide, ?_⟩
    have W0 : WyAt K (upd H2 y (.ins (Cad K .wy) dx [("strands", .ref s)])) y s A LC.S0 := ⟨⟨dx, upd_same⟩, hS.updo (kp2 _ _ hy) hsy⟩
    have k0 : KeepO y H (upd H2 y (.ins (Cad K .wy) dx [("strands", .ref s)])) := fun q o h n => by rw [upd_ne n]; exact kp2 q o h
    show tSeq _ _ _ _ (upd H2 y (.ins (Cad K .wy) dx [("strands", .ref s)]))
    generalize upd H2 y (.ins (Cad K .wy) dx [("strands", .ref s)]) = H3 at W0 k0
    have nA : ∀ q o, H q = some o → ∀ f, q ≠ A f := fun q o h f z => by rw [z, fr2] at h; cases h
    have nt : ∀ q xs, H q = some (.tup xs) → q ≠ y := fun q xs h z => by rw [z, hy] at h; cases h
    refine q_forUe (v_ixU (vv rfl) (k0 _ _ hf (nt _ _ hf)) (vc (v := .int 0)) rfl) (SqT.of (k0 _ _ hpp (nt _ _ hpp))) (fun i σ' H' => (∃ o1 o2, σ' = [some (.ref y), some (.ref f), o1, o2, none, none]) ∧ WyAt K H' y s A (bareS i) ∧ Keep A H3 H') ⟨⟨_, _, rfl⟩, W0, Keep.refl _ _⟩ (fun i σ' H' _ h => SqT.of (h.2.2 _ _ (k0 _ _ hpp (nt _ _ hpp)) (nA _ _ hpp))) ?_ ?_
    · rintro i x σ' H4 hx hi ⟨⟨o1, o2, rfl⟩, W4, k4⟩
      rw [List.length_replicate] at hi
      rw [List.getElem?_replicate, if_pos hi] at hx
      cases hx
      refine ⟨q, _, rfl, SqT.of (k4 _ _ (k0 _ _ hq (nt _ _ hq)) (nA _ _ hq)), rfl, _, _, rfl, _, _, rfl, rfl, ?_⟩
      exact s_call W4.st (by decide +kernel) (v_sr T W4 (vv rfl)) (args1 (vv rfl) (args1 (vv rfl) args0)) ⟨s, A, _, _, rfl, W4.st, -1, "a", rfl, .inl rfl, by rw [bareS_n]; omega, fun H5 g5 k5 => ⟨⟨_, _, rfl⟩, W4.to g5 k5, k4.trans k5⟩⟩
    · rintro σ' H4 ⟨⟨o1, o2, rfl⟩, W4, k4⟩
      rw [List.length_replicate] at W4
      have kk : KeepO y H H4 := fun q o h n => k4 q o (k0 q o h n) (nA q o h)
      refine s_forUe (v_ixU (vv rfl) (kk _ _ hf (nt _ _ hf)) (vc (v := .int 1)) rfl) (SqT.of (kk _ _ he (nt _ _ he))) (fun i σ' H' => H' = H4) rfl (fun i σ' H' _ h => by rw [h]; exact SqT.of (kk _ _ he (nt _ _ he))) (fun i x σ' H' hx => by simp at hx) ?_
      rintro σ' H' rfl
      exact k s A _ W4 kk fr2 hs
end
end TC
namespace TC
open PySem PySem.Spec PyProof.Rows L2
def TupsAt (H : Hp) : List V → List (List V) → Prop
  | [], [] => True
  | v :: vs, x :: xs => (∃ p, v = .ref p ∧ H p = some (.tup x)) ∧ TupsAt H vs xs
  | _, _ => False
def TK (H H' : Hp) : Prop := ∀ p xs, H p = some (.tup xs) → H' p = some (.tup xs)
theorem TupsAt.keep {H H' : Hp} (e : TK H H') : ∀ {vs : List V} {xs : List (List V)}, TupsAt H vs xs → TupsAt H' vs xs
  | [], [], _ => trivial
  | v :: vs, x :: xs, ⟨⟨p, a, b⟩, c⟩ => ⟨⟨p, a, e _ _ b⟩, TupsAt.keep e c⟩
theorem TupsAt.len {H : Hp} : ∀ {vs : List V} {xs : List (List V)}, TupsAt H vs xs → vs.length = xs.length
  | [], [], _ => rfl
  | v :: vs, x :: xs, ⟨_, c⟩ => by rw [List.length_cons, List.length_cons, TupsAt.len c]
theorem TupsAt.get {H : Hp} : ∀ {vs : List V} {xs : List (List V)} {i : Nat} {x : List V}, TupsAt H vs xs → xs[i]? = some x → ∃ p, vs[i]? = some (V.ref p) ∧ H p = some (.tup x)
  | [], [], _, _, _, h => by simp at h
  | v :: vs, x :: xs, 0, z, ⟨⟨p, a, b⟩, _⟩, h => by
    have : x = z := by simpa using h
    subst this
    exact ⟨p, by rw [a]; rfl, b⟩
  | v :: vs, x :: xs, i + 1, z, ⟨_, c⟩, h => by
    have h' : xs[i]? = some z := by simpa using h
    obtain ⟨p, a, b⟩ := TupsAt.get c h'
    exact ⟨p, by simpa using a, b⟩
theorem TupsAt.add {H : Hp} {p : Addr} {x : List V} (hp : H p = some (.tup x)) : ∀ {vs : List V} {xs : List (List V)}, TupsAt H vs xs → TupsAt H (vs ++ [.ref p]) (xs ++ [x])
  | [], [], _ => ⟨⟨p, rfl, hp⟩, trivial⟩
  | v :: vs, x :: xs, ⟨a, c⟩ => ⟨a, TupsAt.add hp c⟩
theorem TK.ex {H H' : Hp} (e : Ex H H') : TK H H' := fun p xs h => e p _ h
theorem TK.trans {H H1 H2 : Hp} (a : TK H H1) (b : TK H1 H2) : TK H H2 := fun p xs h => b p xs (a p xs h)
def KeepF (F : Addr → Prop) (H H' : Hp) : Prop := ∀ q o, H q = some o → ¬ F q → H' q = some o
theorem KeepF.refl (F : Addr → Prop) (H : Hp) : KeepF F H H := fun _ _ h _ => h
theorem KeepF.trans {F : Addr → Prop} {H H1 H2 : Hp} (a : KeepF F H H1) (b : KeepF F H1 H2) : KeepF F H H2 := fun q o h n => b q o (a q o h n) n
theorem KeepF.ex {F : Addr → Prop} {H H' : Hp} (e : Ex H H') : KeepF F H H' := fun q o h _ => e q o h
theorem KeepF.upd {F : Addr → Prop} {H H' : Hp} {a : Addr} {o : HO} (k : KeepF F H H') (h : F a) : KeepF F H (upd H' a o) := fun q o' h' n => by
  rw [upd_ne (fun e => n (by rw [e]; exact h))]; exact k q o' h' n
theorem KeepF.of {F : Addr → Prop} {A : Fd → Addr} {H H' : Hp} (k : Keep A H H') (h : ∀ f, F (A f)) : KeepF F H H' := fun q o h' n => k q o h' fun f e => n (e ▸ h f)
abbrev Off := Nat × Nat × Int
def offV (o : Off) : List V := [.int (o.1 : Nat), .int (o.2.1 : Nat), .int o.2.2]
def esOf (offs : List Off) : List (Nat × Nat) := offs.map fun o => (o.1, o.2.1)
def prOf (offs : List Off) : List Int := offs.map fun o => o.2.2
structure LiA where
  l : Addr
  o : Addr
  d1 : Addr
  d2 : Addr
  y : Addr
  s : Addr
  A : Fd → Addr
def spK (sp : List (Nat × Nat)) : List (Key × V) := sp.map fun p => (.inl (p.1 : Int), .int (p.2 : Nat))
def nmK (sp : List (Nat × Nat)) : List (Key × V) := sp.map fun p => (.inl (p.2 : Int), .int (p.1 : Nat))
structure LiAt (K : PySem.W.Frag) (H : Hp) (a : LiA) (m : Nat) (offs : List Off) (sp : List (Nat × Nat)) (S : LC.S) : Prop where
  ob : ∃ dx, H a.l = some (.ins (Cad K .li) dx [("many_points", .int m), ("offered", .ref a.o), ("ways", .ref a.y), ("spots", .ref a.d1), ("numbers", .ref a.d2)])
  of : ∃ refs, H a.o = some (.lst refs) ∧ TupsAt H refs (offs.map offV)
  e1 : H a.d1 = some (.dK (spK sp))
  e2 : H a.d2 = some (.dK (nmK sp))
  wy : WyAt K H a.y a.s a.A S
  no : ∀ f, a.o ≠ a.A f
  nd : a.d1 ≠ a.d2
def Lf (a : LiA) (q : Addr) : Prop := q = a.o ∨ q = a.d1 ∨ q = a.d2 ∨ ∃ f, q = a.A f
section
variable {P : Program} {w : World} {K : PySem.W.Frag} {mg : Str → Option Value} {base : Heap} {H H' H0 : Hp} {y s p : Addr} {a : LiA} {A : Fd → Addr} {S S' : LC.S} {σ : L2.St} {tb tx te tl tc : TE} {ta : TA} {D : Ends} {v x : V} {t1 t2 tz tu : TS} {t tt : TT} {b : Bool} {m : Nat} {offs : List Off} {sp : List (Nat × Nat)}
theorem TK.of (h : StrAt K H s A S) (k : Keep A H H') : TK H H' := fun p xs hp => k p _ hp fun f e => by
  obtain ⟨ys, z, _⟩ := h.lst f
  rw [e, z] at hp; cases hp
theorem TK.upd {a : Addr} {o o' : HO} (ha : H a = some o) (hn : ∀ xs, o ≠ .tup xs) : TK H (upd H a o') := fun p xs hp => by
  rw [upd_ne (fun e => by rw [e, ha] at hp; exact hn xs (Option.some.inj hp))]; exact hp
theorem LiAt.k1 (h : LiAt K H a m offs sp S) (f : Fd) : a.d1 ≠ a.A f := fun e => by
  obtain ⟨ys, z, _⟩ := h.wy.st.lst f
  have := h.e1
  rw [e, z] at this; cases this
theorem LiAt.k2 (h : LiAt K H a m offs sp S) (f : Fd) : a.d2 ≠ a.A f := fun e => by
  obtain ⟨ys, z, _⟩ := h.wy.st.lst f
  have := h.e2
  rw [e, z] at this; cases this
theorem LiAt.ways (h : LiAt K H a m offs sp S) (W : WyAt K H' a.y a.s a.A S') (k : Keep a.A H H') : LiAt K H' a m offs sp S' := by
  obtain ⟨refs, r1, r2⟩ := h.of
  obtain ⟨dx, ob⟩ := h.ob
  refine ⟨⟨dx, k _ _ ob fun f e => ?_⟩, ⟨refs, k _ _ r1 h.no, r2.keep (TK.of h.wy.st k)⟩, k _ _ h.e1 h.k1, k _ _ h.e2 h.k2, W, h.no, h.nd⟩
  obtain ⟨ys, z, _⟩ := h.wy.st.lst f
  rw [e, z] at ob; cases ob
theorem LiAt.ex (h : LiAt K H a m offs sp S) (e : Ex H H') : LiAt K H' a m offs sp S := h.ways (h.wy.ex e) (exKeep e)
theorem WyAt.updo (h : WyAt K H y s A S) {q : Addr} {o o' : HO} (hq : H q = some o) (h1 : ∀ xs, o ≠ .lst xs) (h2 : ∀ xs, o ≠ .tup xs) (h3 : ∀ C dx fs, o ≠ .ins C dx fs) : WyAt K (upd H q o') y s A S := by
  obtain ⟨dx, ob⟩ := h.ob
  obtain ⟨⟨ds, os⟩, inj, fld, wf⟩ := h.st
  refine ⟨⟨dx, by rw [upd_ne (fun e => by rw [e, hq] at ob; exact h3 _ _ _ (Option.some.inj ob))]; exact ob⟩, ⟨ds, by rw [upd_ne (fun e => by rw [e, hq] at os; exact h3 _ _ _ (Option.some.inj os))]; exact os⟩, inj, fun f => ?_, wf⟩
  obtain ⟨z, z1, z2⟩ := fld f
  obtain ⟨xs, rfl, _⟩ := z2.lst
  exact ⟨_, by rw [upd_ne (fun e => by rw [e, hq] at z1; exact h1 _ (Option.some.inj z1))]; exact z1, z2.ex (TK.upd hq h2)⟩
theorem v_li (T : Tx w K mg) (h : LiAt K H a m offs sp S) (hb : Val tb σ H (.ref a.l)) {f : Str} (hf : f ∈ Cn.fields .li) (hl : ([("many_points", V.int m), ("offered", .ref a.o), ("ways", .ref a.y), ("spots", .ref a.d1), ("numbers", .ref a.d2)] : List (Str × V)).lookup f = some v) : Val (tFld K tb f) σ H v := fun Q q => by
  obtain ⟨dx, h1⟩ := h.ob
  exact hb _ ⟨a.l, Cad K .li, dx, _, v, rfl, h1, T.cls .li, T.noat .li f hf, hl, q⟩
theorem v_off (T : Tx w K mg) (h : LiAt K H a m offs sp S) (hb : Val tb σ H (.ref a.l)) : Val (tFld K tb "offered") σ H (.ref a.o) := v_li T h hb (by decide +kernel) rfl
theorem v_wys (T : Tx w K mg) (h : LiAt K H a m offs sp S) (hb : Val tb σ H (.ref a.l)) : Val (tFld K tb "ways") σ H (.ref a.y) := v_li T h hb (by decide +kernel) rfl
theorem v_spt (T : Tx w K mg) (h : LiAt K H a m offs sp S) (hb : Val tb σ H (.ref a.l)) : Val (tFld K tb "spots") σ H (.ref a.d1) := v_li T h hb (by decide +kernel) rfl
theorem v_nms (T : Tx w K mg) (h : LiAt K H a m offs sp S) (hb : Val tb σ H (.ref a.l)) : Val (tFld K tb "numbers") σ H (.ref a.d2) := v_li T h hb (by decide +kernel) rfl
theorem v_mpt (T : Tx w K mg) (h : LiAt K H a m offs sp S) (hb : Val tb σ H (.ref a.l)) : Val (tFld K tb "many_points") σ H (.int m) := v_li T h hb (by decide +kernel) rfl
theorem v_offi (T : Tx w K mg) (h : LiAt K H a m offs sp S) (hb : Val tb σ H (.ref a.l)) {i : Nat} {o : Off} (hx : Val tx σ H (.int i)) (ho : offs[i]? = some o) : ∃ p, H p = some (.tup (offV o)) ∧ Val (tOp (rIxL K) (tFld K tb "offered") tx) σ H (.ref p) := by
  obtain ⟨refs, r1, r2⟩ := h.of
  obtain ⟨p, q1, q2⟩ := r2.get (i := i) (x := offV o) (by rw [List.getElem?_map, ho]; rfl)
  exact ⟨p, q2, v_ixL (v_off T h hb) (SqL.of r1) hx q1⟩
theorem doR_mono {r : RowK} {k k' : (Hp → V → Prop) → LC.S → Prop} (h : doR S r k) (hk : ∀ R S', k R S' → k' R S') : doR S r k' := by
  cases r with
  | new wo => exact hk _ _ h
  | tie a b => obtain ⟨S1, e, c, k⟩ := h; exact ⟨S1, e, c, hk _ _ k⟩
  | cut a b => obtain ⟨S1, e, c, k⟩ := h; exact ⟨S1, e, c, hk _ _ k⟩
  | joined a b => obtain ⟨S1, j, e, c, k⟩ := h; exact ⟨S1, j, e, c, hk _ _ k⟩
  | way a b => obtain ⟨S1, S2, pp, e, e2, c, k⟩ := h; exact ⟨S1, S2, pp, e, e2, c, hk _ _ k⟩
  | total a b => obtain ⟨S1, e, c, k⟩ := h; exact ⟨S1, e, c, hk _ _ k⟩
  | most a b => obtain ⟨S1, S2, x, e, e2, c, k⟩ := h; exact ⟨S1, S2, x, e, e2, c, hk _ _ k⟩
  | add a b m => obtain ⟨hm, S1, e, c, k⟩ := h; exact ⟨hm, S1, e, c, hk _ _ k⟩
theorem c_do (hW : WyAt K H y s A S) (hb : Val tb σ H (.ref y)) {r : RowK} {xs : List V} {Q : VK} (ht : NewU te σ H xs) (hxs : xs = r.vals) (hn : ∀ x ∈ r.pts, x < S.n) (h1 : S.n ≤ 10000)
    (k : doR S r fun R S' => ∀ H' v, R H' v → WyAt K H' y s A S' → Keep A H H' → Q v H') : tMeth (Cad K .wy) "do" (spDo K fun _ => true) [] E0 tb (tCons te tNil) σ H Q :=
  hb _ (by
    obtain ⟨dx, ob⟩ := hW.ob
    refine ⟨y, dx, _, rfl, ob, lookup_zip_none (ns := Cn.fields .wy) (vs := [V.ref s]) (by decide +kernel), ?_⟩
    exact ht _ fun p H1 hp e1 g1 => ⟨y, s, A, S, p, r, rfl, hW.ex e1, by rw [hxs] at g1; exact g1, rfl, hn, h1, doR_mono k fun R S' z H' v a b c => z H' v a b ((exKeep e1).trans c)⟩)
theorem Lf.ofA (f : Fd) : Lf a (a.A f) := .inr (.inr (.inr ⟨f, rfl⟩))
theorem cnt_ok {U n : Nat} (h : 2 * n ≤ U * LC.LB) (hU : U ≤ 2800) : n ≤ cLim := by
  have : U * LC.LB ≤ 2800 * LC.LB := Nat.mul_le_mul_right _ hU
  have e : 2800 * LC.LB = 31724000 := by decide +kernel
  have e2 : cLim = 16000000 := rfl
  omega
theorem spK_none {k : Nat} (h : ¬ LC.inK sp k) : valV (spK sp) (.inl (k : Int)) = none := by
  unfold valV
  rw [Option.map_eq_none_iff, List.find?_eq_none]
  intro p hp
  unfold spK at hp
  obtain ⟨⟨j, t⟩, h1, rfl⟩ := List.mem_map.mp hp
  simp only [decide_eq_true_eq]
  intro e
  have : (j : Int) = k := Sum.inl.inj e
  exact h (LC.inK_iff.mpr ⟨t, by have : j = k := by omega
                                 rw [← this]; exact h1⟩)
theorem find_map {α β : Type} {l : List α} {f : α → β} {p : β → Bool} : (l.map f).find? p = (l.find? fun x => p (f x)).map f := by rw [List.find?_map]; rfl
theorem spK_some {k t n : Nat} {es : List (Nat × Nat)} (O : LC.SpOk m n es sp) (h : (k, t) ∈ sp) : valV (spK sp) (.inl (k : Int)) = some (.int (t : Nat)) := by
  unfold valV spK
  rw [find_map]
  cases hf : sp.find? fun x => decide ((Sum.inl (x.1 : Int) : Key) = .inl (k : Int)) with
  | none => have := List.find?_eq_none.mp hf _ h; simp at this
  | some q =>
    have h1 := List.mem_of_find?_eq_some hf
    have h2 := List.find?_some hf
    have h3 : (q.1 : Int) = k := by
      have := of_decide_eq_true h2
      exact Sum.inl.inj this
    have h4 : q.1 = k := by omega
    have : q.2 = t := LC.nodup_fst O.kn (a := k) (by rw [← h4]; exact h1) h
    show some (V.int (q.2 : Nat)) = _
    rw [this]
theorem nmK_get {n x : Nat} {es : List (Nat × Nat)} (O : LC.SpOk m n es sp) : valV (nmK sp) (.inl (x : Int)) = (LC.numOf sp x).map fun k => V.int (k : Nat) := by
  unfold valV nmK
  rw [find_map]
  cases hf : sp.find? fun p => decide ((Sum.inl (p.2 : Int) : Key) = .inl (x : Int)) with
  | none =>
    cases hn : LC.numOf sp x with
    | none => rfl
    | some k => have := List.find?_eq_none.mp hf _ ((LC.numOf_some O).mp hn); simp at this
  | some q =>
    have h1 := List.mem_of_find?_eq_some hf
    have h2 := List.find?_some hf
    have h3 : (q.2 : Int) = x := by
      have := of_decide_eq_true h2
      exact Sum.inl.inj this
    have h4 : q.2 = x := by omega
    rw [(LC.numOf_some O (k := q.1)).mpr (by rw [← h4]; exact h1)]; rfl
theorem putK_fresh {kvs : List (Key × V)} {k : Key} (h : valV kvs k = none) : putK kvs k v = kvs ++ [(k, v)] := by
  unfold putK
  rw [valV_any, h]; rfl
theorem spK_drop {k : Nat} : dropK (spK sp) (.inl (k : Int)) = spK (sp.filter fun p => !decide (p.1 = k)) := by
  unfold dropK spK
  rw [List.filter_map]
  congr 1
  refine List.filter_congr fun p hp => ?_
  simp only [Function.comp, ne_eq, decide_not]
  congr 1
  rw [decide_eq_decide]
  exact ⟨fun z => by have := Sum.inl.inj z; omega, fun z => by rw [z]⟩
theorem nmK_drop {k t n : Nat} {es : List (Nat × Nat)} (O : LC.SpOk m n es sp) (h : (k, t) ∈ sp) : dropK (nmK sp) (.inl (t : Int)) = nmK (sp.filter fun p => !decide (p.1 = k)) := by
  unfold dropK nmK
  rw [List.filter_map]
  congr 1
  refine List.filter_congr fun p hp => ?_
  simp only [Function.comp, ne_eq, decide_not]
  congr 1
  rw [decide_eq_decide]
  refine ⟨fun z => ?_, fun q => ?_⟩
  · have e : p.2 = t := by have := Sum.inl.inj z; omega
    exact LC.nodup_snd O.sn (x := t) (by rw [← e]; exact hp) h
  · have : p.2 = t := LC.nodup_fst O.kn (a := k) (by rw [← q]; exact hp) h
    rw [this]
def spBare : Sp := fun vs H Q _ => ∃ m : Nat, vs = [.int (m : Nat)] ∧ m ≤ 10000 ∧ ∀ f H', Ex H H' → BareAt H' f m → Q (.ref f) H'
theorem s_ret3 {R : V → Hp → Prop} (h1 : ∀ Q : VK, (∀ v H1, Ex H H1 → R v H1 → Q v H1) → te σ H Q) (k : ∀ v H1, Ex H H1 → R v H1 → ∀ p2 l H2, Ex H1 H2 → H2 p2 = some (.tup []) → H2 l = some (.tup [v, .ref p2]) → D.rt (.ref l) H2) : tRet (tTup (tCons te (tCons (tTup tNil) tNil))) D σ H :=
  h1 _ fun v H1 e1 r => ⟨by show 0 ≤ sizeLine; decide, fun p2 hp2 => ⟨by show 2 ≤ sizeLine; decide, fun l hl => k v H1 e1 r p2 l _ ((Ex.new hp2).trans (Ex.new hl)) (Ex.new hl _ _ upd_same) upd_same⟩⟩
theorem rep1 (x : V) : ∀ m : Nat, (List.replicate m [x]).flatten = List.replicate m x
  | 0 => rfl
  | m + 1 => by rw [List.replicate_succ, List.flatten_cons, rep1 x m]; rfl
theorem tup_of {r : R2} {ta tb : TE} {Q' : VK} {f : List V → Hp → VK → Prop} (h : ta σ H fun x H1 => tb σ H1 fun y H2 => r x y H2 fun z H3 => f [z] H3 Q') : tCB f (tCons (tOp r ta tb) tNil) σ H Q' := h
theorem ok_bare_forest (T : Tx w K mg) : Ok P w K mg base 1 .bare_forest spBare := by
  refine T.okd .bare_forest sc_bare_forest (fun vs H Q E h => ?_) (fun cdv A0 outer s0 H vs Q E hr h => ⟨_, (pss_one (ps_ret (pe_tup (pa_cons (pe_callTy call_tuple_of (by rfl) (T.free _ (by decide +kernel)) (by decide +kernel) (by exact (pa_cons (pe_op op_rep (pe_lst (pa_cons (pe_tup (pa_cons (pe_un un_neg pe_int) (pa_cons pe_str pa_nil))) pa_nil)) (pv 0)) pa_nil))) (pa_cons (pe_tup pa_nil) pa_nil))))), ?_⟩)
  · obtain ⟨m, rfl, _⟩ := h; rfl
  · obtain ⟨m, rfl, hm, k⟩ := h
    refine s_ret3 (R := fun v H1 => ∃ pp q, v = V.ref pp ∧ H1 pp = some (.tup (List.replicate m (.ref q))) ∧ H1 q = some (.tup [.int (-1), .str "a"])) (fun Q q => ?_) fun v H1 e1 ⟨pp, q, hv, h1, h2⟩ p2 l H2 e2 h3 h4 => ?_
    · refine tup_of (l_tup1 (nu_tup (args1 v_ix0 (args1 vc args0)) (by show 2 ≤ 100000; decide)) fun p la H2 hla e2 h2 => ?_)
      refine (vv rfl : Val (tVar 0) _ _ (.int m)) _ ⟨la, (m : Int), [.ref p], rfl, rfl, upd_same, by omega, by omega, by show 1 * (m : Int).toNat ≤ sizeLine; exact sz_le (by omega), fun lb hlb => ⟨lb, _, rfl, .inl ⟨SqL.of upd_same, fun lc hlc => q _ _ (((e2.trans (Ex.new hla)).trans (Ex.new hlb)).trans (Ex.new hlc)) ⟨lc, p, rfl, ?_, Ex.new hlc _ _ (Ex.new hlb _ _ (Ex.new hla _ _ h2))⟩⟩⟩⟩
      rw [upd_same, Int.toNat_natCast, rep1]
    · subst hv
      exact k l H2 (e1.trans e2) ⟨pp, q, p2, h4, e2 _ _ h1, e2 _ _ h2, h3⟩
def spLook : Sp := fun vs H Q _ => ∃ m a b : Nat, vs = [.int (m : Nat), .int (a : Nat), .int (b : Nat)] ∧ a < m ∧ b < m ∧ Q .non H
theorem a_num {Q : Bool → Hp → Prop} {i : Int} (hx : Val te σ H (.int i)) : L2.Ans (tB (tCall spNum [] E0 (tCons te tNil))) σ H true := fun Q q => c_fn (args1 hx args0) ⟨⟨i, rfl⟩, ⟨true, rfl, q⟩⟩
theorem ok_look_points (T : Tx w K mg) : Ok P w K mg base 2 .look_points spLook := by
  refine T.okd .look_points sc_look_points (fun vs H Q E h => ?_) (fun cdv A0 outer s0 H vs Q E hr h => ⟨_, (pss_cons (ps_if (PW.pt (pw_or (pt_not (pt_val (pe_call (ok_is_number_shapes T) (hr.mono (by decide)) rfl (T.glF _ (by decide +kernel)) (T.fn .is_number_shapes).kp (b_is_number_shapes T) .nil pass0 (pa_cons (pv 1) pa_nil)))) (pw_or1 (pt_not (pt_val (pe_call (ok_is_number_shapes T) (hr.mono (by decide)) rfl (T.glF _ (by decide +kernel)) (T.fn .is_number_shapes).kp (b_is_number_shapes T) .nil pass0 (pa_cons (pv 2) pa_nil))))))) (pss_one ps_never) pss_nil)
    (pss_one (ps_if (PW.pt (pw_or (pt_not (pt_chain op_le op_lt pe_int (pv 1) (pv 0))) (pw_or1 (pt_not (pt_chain op_le op_lt pe_int (pv 2) (pv 0)))))) (pss_one ps_never) pss_nil))), ?_⟩)
  · obtain ⟨m, a, b, rfl, _⟩ := h; rfl
  · obtain ⟨m, a, b, rfl, ha, hb, k⟩ := h
    refine q_when (b := !true || !true) (a_or (a_not (a_num (Q := fun _ _ => True) (vv rfl))) fun _ => a_not (a_num (Q := fun _ _ => True) (vv rfl))) (fun q => by cases q) fun _ => ?_
    have ch : ∀ {x : Nat} {i : Nat}, (L2.start ["many", "a", "b"] [V.int m, V.int a, V.int b])[i]? = some (some (V.int x)) → x < m → L2.Ans (tTest (tChain (rI0 fun i j => .bl (decide (i ≤ j))) (rI0 fun i j => .bl (decide (i < j))) (tC (.int 0)) (tVar i) (tVar 0))) (L2.start ["many", "a", "b"] [V.int m, V.int a, V.int b]) H true := fun hi hx => by
      have := v_chain (te := tC (.int 0)) (tc := tVar 0) (H := H) vc (vv hi) (vv rfl : Val (tVar 0) _ _ (.int m))
      rw [decide_eq_true (by omega), decide_eq_true (by omega)] at this
      exact a_test this
    exact s_when (b := !true || !true) (a_or (a_not (ch rfl ha)) fun _ => a_not (ch rfl hb)) (fun q => by cases q) fun _ => k
end
end TC
namespace TC
open PySem PySem.Spec PyProof.Rows L2
section
variable {P : Program} {w : World} {K : PySem.W.Frag} {mg : Str → Option Value} {base : Heap} {H H' H0 : Hp} {y s p : Addr} {a : LiA} {A : Fd → Addr} {S S' : LC.S} {σ : L2.St} {tb tx te tl tc : TE} {ta : TA} {D : Ends} {v x : V} {t1 t2 tz tu : TS} {t tt : TT} {b : Bool} {m : Nat} {offs : List Off} {sp : List (Nat × Nat)}
def ptL (v : Int) : Prop := v < 0
def wl (offs : List Off) (k : Nat) (v : Int) : Prop := (prOf offs)[k]? = some v
structure LiH (K : PySem.W.Frag) (H : Hp) (a : LiA) (m nb : Nat) (offs : List Off) (sp : List (Nat × Nat)) (S : LC.S) (U : Nat) : Prop where
  at_ : LiAt K H a m offs sp S
  lh : LC.LH m nb ptL (esOf offs) (wl offs) sp S U
theorem LiH.ex {nb U : Nat} (h : LiH K H a m nb offs sp S U) (e : Ex H H') : LiH K H' a m nb offs sp S U := ⟨h.at_.ex e, h.lh⟩
theorem LiH.n4 {nb U : Nat} (h : LiH K H a m nb offs sp S U) (hn : nb ≤ 103) : S.n ≤ 10000 := by have := h.lh.nb; omega
theorem es_at {offs : List Off} {i : Nat} {o : Off} (h : offs[i]? = some o) : (esOf offs)[i]? = some (o.1, o.2.1) := by unfold esOf; rw [List.getElem?_map, h]; rfl
theorem pr_at {offs : List Off} {i : Nat} {o : Off} (h : offs[i]? = some o) : (prOf offs)[i]? = some o.2.2 := by unfold prOf; rw [List.getElem?_map, h]; rfl
theorem q_dput {d : Addr} {kvs : List (Key × V)} {i : Int} {v : V} {tk tv : TE} (hv : Val tv σ H v) (hd : Val tb σ H (.ref d)) (hk : Val tk σ H (.int i)) (he : H d = some (.dK kvs)) (hl : kvs.length < sizeLine) (k : tz D σ (upd H d (.dK (putK kvs (.inl i) v)))) : tSeq (sDPut tb tk tv) tz D σ H :=
  hv _ (hd _ (hk _ ⟨d, _, rfl, .inl ⟨kvs, .inl i, he, rfl, hl, rfl⟩, k⟩))
theorem s_dput {d : Addr} {kvs : List (Key × V)} {i : Int} {v : V} {tk tv : TE} (hv : Val tv σ H v) (hd : Val tb σ H (.ref d)) (hk : Val tk σ H (.int i)) (he : H d = some (.dK kvs)) (hl : kvs.length < sizeLine) (k : D.nx σ (upd H d (.dK (putK kvs (.inl i) v)))) : sDPut tb tk tv D σ H :=
  q_dput (tz := tNext) (D := D) hv hd hk he hl k
theorem q_dpop {d : Addr} {kvs : List (Key × V)} {k : Nat} {v : V} {tk : TE} {i : Nat} (hd : Val tb σ H (.ref d)) (he : H d = some (.dK kvs)) (hk : Val tk σ H (.int k)) (hv : valV kvs (.inl (k : Int)) = some v) (q : tz D (σ.set i (some v)) (upd H d (.dK (dropK kvs (.inl (k : Int)))))) : tSeq (tAsg (tDPop1 tb tk) (gName i)) tz D σ H :=
  hd _ ⟨d, rfl, .inl ⟨_, .inl he⟩, hk _ ⟨kvs, .inl (k : Int), v, he, rfl, hv, q⟩⟩
theorem q_dpopX {d : Addr} {kvs : List (Key × V)} {t : Nat} {v : V} {tk : TE} (hd : Val tb σ H (.ref d)) (he : H d = some (.dK kvs)) (hk : Val tk σ H (.int t)) (hv : valV kvs (.inl (t : Int)) = some v) (q : tz D σ (upd H d (.dK (dropK kvs (.inl (t : Int)))))) : tSeq (tDrop (tDPop1 tb tk)) tz D σ H :=
  hd _ ⟨d, rfl, .inl ⟨_, .inl he⟩, hk _ ⟨kvs, .inl (t : Int), v, he, rfl, hv, q⟩⟩
theorem LiAt.dicts (h : LiAt K H a m offs sp S) (sp' : List (Nat × Nat)) : LiAt K (upd (upd H a.d1 (.dK (spK sp'))) a.d2 (.dK (nmK sp'))) a m offs sp' S ∧ KeepF (Lf a) H (upd (upd H a.d1 (.dK (spK sp'))) a.d2 (.dK (nmK sp'))) := by
  obtain ⟨⟨dx, ob⟩, ⟨refs, r1, r2⟩, e1, e2, wy, no, nd⟩ := h
  have n1 : a.l ≠ a.d1 := ne_of ob e1 (by intro z; cases z)
  have n2 : a.l ≠ a.d2 := ne_of ob e2 (by intro z; cases z)
  have n3 : a.o ≠ a.d1 := ne_of r1 e1 (by intro z; cases z)
  have n4 : a.o ≠ a.d2 := ne_of r1 e2 (by intro z; cases z)
  have e2' : upd H a.d1 (.dK (spK sp')) a.d2 = some (.dK (nmK sp)) := by rw [upd_ne (Ne.symm nd)]; exact e2
  have tk : TK H (upd (upd H a.d1 (.dK (spK sp'))) a.d2 (.dK (nmK sp'))) := (TK.upd e1 (fun _ => by intro z; cases z)).trans (TK.upd e2' (fun _ => by intro z; cases z))
  refine ⟨⟨⟨dx, by rw [upd_ne n2, upd_ne n1]; exact ob⟩, ⟨refs, by rw [upd_ne n4, upd_ne n3]; exact r1, r2.keep tk⟩, by rw [upd_ne nd, upd_same], upd_same, ?_, no, nd⟩, ((KeepF.refl _ H).upd (.inr (.inl rfl))).upd (.inr (.inr (.inl rfl)))⟩
  exact (wy.updo e1 (fun _ => by intro z; cases z) (fun _ => by intro z; cases z) (fun _ _ _ => by intro z; cases z)).updo e2' (fun _ => by intro z; cases z) (fun _ => by intro z; cases z) (fun _ _ _ => by intro z; cases z)
theorem spK_len : (spK sp).length = sp.length := by simp [spK]
theorem nmK_len : (nmK sp).length = sp.length := by simp [nmK]
theorem sp_len {n : Nat} {es : List (Nat × Nat)} (O : LC.SpOk m n es sp) : sp.length ≤ n := by
  have := LC.nodup_len n (sp.map (·.2)) O.sn (fun x hx => by
    obtain ⟨⟨k, t⟩, h, rfl⟩ := List.mem_map.mp hx
    exact (O.rng k t h).2)
  rwa [List.length_map] at this
def spKeep (K : PySem.W.Frag) : Sp := fun vs H Q _ => ∃ (a : LiA) (m nb : Nat) (offs : List Off) (sp : List (Nat × Nat)) (S : LC.S) (U N : Nat) (o : Off), vs = [.ref a.l, .int (N : Nat)] ∧ LiH K H a m nb offs sp S U ∧ nb + 1 ≤ 103 ∧ U + 8 ≤ 2800 ∧ ¬ LC.inK sp N ∧ offs[N]? = some o ∧
  ¬ LC.Conn (LC.Lk (esOf offs) (LC.inK sp)) o.1 o.2.1 ∧ ∀ H' S', LiH K H' a m (nb + 1) offs (sp ++ [(N, S.n)]) S' (U + 8) → KeepF (Lf a) H H' → Q .non H'
theorem ok_li_keep_one (T : Tx w K mg) : Ok P w K mg base 11 .li_keep_one (spKeep K) := by
  refine T.okd .li_keep_one sc_li_keep_one (fun vs H Q E h => ?_) (fun cdv A0 outer s0 H vs Q E hr h => ⟨_, (pss_cons (ps_asg (pe_ix ix_list (pe_fld (pv 0) rfl) (pv 1) (fun _ _ => rfl)) (pg_tup rfl (pgs_cons (pg_name (i := 2) sc_li_keep_one.nd rfl (Or.inl rfl)) (pgs_cons (pg_name (i := 3) sc_li_keep_one.nd rfl (Or.inl rfl)) (pgs_cons (pg_name (i := 4) sc_li_keep_one.nd rfl (Or.inl rfl)) pgs_nil)))))
    (pss_cons (ps_set (i := 5) sc_li_keep_one.nd rfl (Or.inl rfl) (pe_meth (pe_fld (pv 0) rfl) (T.cls .wy) (T.meth .wy _ (by decide +kernel)) (ok_wy_do T) (hr.mono (by decide)) (b_wy_do T) .nil pass0 (pa_cons (pe_tup (pa_cons pe_str (pa_cons (pv 4) (pa_cons pe_str pa_nil)))) pa_nil)))
    (pss_cons (ps_expr (pe_meth (pe_fld (pv 0) rfl) (T.cls .wy) (T.meth .wy _ (by decide +kernel)) (ok_wy_do T) (hr.mono (by decide)) (b_wy_do T) .nil pass0 (pa_cons (pe_tup (pa_cons pe_str (pa_cons (pv 2) (pa_cons (pv 5) pa_nil)))) pa_nil)))
    (pss_cons (ps_expr (pe_meth (pe_fld (pv 0) rfl) (T.cls .wy) (T.meth .wy _ (by decide +kernel)) (ok_wy_do T) (hr.mono (by decide)) (b_wy_do T) .nil pass0 (pa_cons (pe_tup (pa_cons pe_str (pa_cons (pv 5) (pa_cons (pv 3) pa_nil)))) pa_nil)))
    (pss_cons (ps_dput (hu_of hr) (pe_fld (pv 0) rfl) (pv 1) (pv 5) rfl)
    (pss_one (ps_dput (hu_of hr) (pe_fld (pv 0) rfl) (pv 5) (pv 1) rfl))))))), ?_⟩)
  · obtain ⟨a, m, nb, offs, sp, S, U, N, o, rfl, _⟩ := h; rfl
  · obtain ⟨a, m, nb, offs, sp, S, U, N, ⟨oa, ob, oc⟩, rfl, hL, hn, hU, hN, ho, hc, k⟩ := h
    obtain ⟨p, hp, hv⟩ := v_offi (σ := L2.start ["self", "number", "a", "b", "price", "spot"] [V.ref a.l, V.int N]) (tb := tVar 0) (tx := tVar 1) T hL.at_ (vv rfl) (vv rfl) ho
    refine q_unp3 hv (SqT.of hp) ?_
    have hl := hL.lh.O.ends N oa ob (es_at ho)
    have hmn := hL.lh.O.mn
    obtain ⟨S2, S3, f1, f2, f3, f4, f5⟩ := hL.lh.keep hn hN (es_at ho) hc (pr_at ho : wl offs N oc)
    have cS3 : S3.cnt ≤ cLim := cnt_ok f5.cnt hU
    have n4 := hL.n4 (by omega)
    have hnb := hL.lh.nb
    refine c_do hL.at_.wy (v_wys T hL.at_ (vv rfl)) (r := .new oc) (nu_tup (args1 vc (args1 (vv rfl) (args1 vc args0))) (by show 3 ≤ 100000; decide)) rfl (fun x hx => by cases hx) n4 ?_
    intro H1 v hv1 W1 k1
    cases hv1
    have L1 := hL.at_.ways W1 k1
    refine c_do W1 (v_wys T L1 (vv rfl)) (r := .tie oa S.n) (nu_tup (args1 vc (args1 (vv rfl) (args1 (vv rfl) args0))) (by show 3 ≤ 100000; decide)) rfl (fun x hx => by
      show x < S.n + 1
      rcases List.mem_cons.mp hx with z | z
      · omega
      · rw [List.mem_singleton.mp z]; omega) (by show S.n + 1 ≤ 10000; omega) ⟨S2, f1, by omega, ?_⟩
    intro H2 v hv2 W2 k2
    have L2 := L1.ways W2 k2
    refine c_do W2 (v_wys T L2 (vv rfl)) (r := .tie S.n ob) (nu_tup (args1 vc (args1 (vv rfl) (args1 (vv rfl) args0))) (by show 3 ≤ 100000; decide)) rfl (fun x hx => by
      rcases List.mem_cons.mp hx with z | z
      · omega
      · rw [List.mem_singleton.mp z]; omega) (by omega) ⟨S3, f2, cS3, ?_⟩
    intro H3 v hv3 W3 k3
    have L3 := L2.ways W3 k3
    have sl := sp_len hL.lh.O
    have fr : valV (nmK sp) (.inl ((S.n : Nat) : Int)) = none := by
      rw [nmK_get hL.lh.O]
      cases q : LC.numOf sp S.n with
      | none => rfl
      | some j => have := (hL.lh.O.rng j _ ((LC.numOf_some hL.lh.O).mp q)).2; omega
    refine q_dput (i := (N : Int)) (v := .int (S.n : Nat)) (vv rfl) (v_spt T L3 (vv rfl)) (vv rfl) L3.e1 (by rw [spK_len]; exact sz_lt (by omega)) ?_
    rw [putK_fresh (spK_none hN)]
    have L4 : ∃ dx, upd H3 a.d1 (.dK (spK sp ++ [(.inl (N : Int), .int (S.n : Nat))])) a.l = some (.ins (Cad K .li) dx [("many_points", .int m), ("offered", .ref a.o), ("ways", .ref a.y), ("spots", .ref a.d1), ("numbers", .ref a.d2)]) := by
      obtain ⟨dx, ob⟩ := L3.ob
      exact ⟨dx, by rw [upd_ne (ne_of ob L3.e1 (by intro z; cases z))]; exact ob⟩
    obtain ⟨dx, ob4⟩ := L4
    refine s_dput (i := ((S.n : Nat) : Int)) (v := .int (N : Nat)) (vv rfl) (fun Q q => vv rfl _ ⟨a.l, Cad K .li, dx, _, .ref a.d2, rfl, ob4, T.cls .li, T.noat .li "numbers" (by decide +kernel), rfl, q⟩) (vv rfl) (by rw [upd_ne (Ne.symm L3.nd)]; exact L3.e2) (by rw [nmK_len]; exact sz_lt (by omega)) ?_
    rw [putK_fresh fr]
    have := L3.dicts (sp ++ [(N, S.n)])
    rw [show spK (sp ++ [(N, S.n)]) = spK sp ++ [(.inl (N : Int), .int (S.n : Nat))] by simp [spK], show nmK (sp ++ [(N, S.n)]) = nmK sp ++ [(.inl ((S.n : Nat) : Int), .int (N : Nat))] by simp [nmK]] at this
    exact k _ _ ⟨this.1, f5⟩ ((KeepF.of ((k1.trans k2).trans k3) (fun f => Lf.ofA f)).trans this.2)
def spLiGo (K : PySem.W.Frag) : Sp := fun vs H Q _ => ∃ (a : LiA) (m nb : Nat) (offs : List Off) (sp : List (Nat × Nat)) (S : LC.S) (U N t : Nat), vs = [.ref a.l, .int (N : Nat)] ∧ LiH K H a m nb offs sp S U ∧ nb ≤ 103 ∧ U + 4 ≤ 2800 ∧ (N, t) ∈ sp ∧
  ∀ H' S', LiH K H' a m nb offs (sp.filter fun p => !decide (p.1 = N)) S' (U + 4) → KeepF (Lf a) H H' → Q .non H'
theorem ok_li_let_go (T : Tx w K mg) : Ok P w K mg base 11 .li_let_go (spLiGo K) := by
  refine T.okd .li_let_go sc_li_let_go (fun vs H Q E h => ?_) (fun cdv A0 outer s0 H vs Q E hr h => ⟨_, (pss_cons (ps_asg (pe_ix ix_list (pe_fld (pv 0) rfl) (pv 1) (fun _ _ => rfl)) (pg_tup rfl (pgs_cons (pg_name (i := 2) sc_li_let_go.nd rfl (Or.inl rfl)) (pgs_cons (pg_name (i := 3) sc_li_let_go.nd rfl (Or.inl rfl)) (pgs_cons (pg_name (i := 4) sc_li_let_go.nd rfl (Or.inl rfl)) pgs_nil)))))
    (pss_cons (ps_set (i := 5) sc_li_let_go.nd rfl (Or.inl rfl) (pe_dpop1 (pe_fld (pv 0) rfl) (pv 1) ⟨rfl, rfl, rfl, rfl⟩))
    (pss_cons (ps_expr (pe_dpop1 (pe_fld (pv 0) rfl) (pv 5) ⟨rfl, rfl, rfl, rfl⟩))
    (pss_cons (ps_expr (pe_meth (pe_fld (pv 0) rfl) (T.cls .wy) (T.meth .wy _ (by decide +kernel)) (ok_wy_do T) (hr.mono (by decide)) (b_wy_do T) .nil pass0 (pa_cons (pe_tup (pa_cons pe_str (pa_cons (pv 2) (pa_cons (pv 5) pa_nil)))) pa_nil)))
    (pss_one (ps_expr (pe_meth (pe_fld (pv 0) rfl) (T.cls .wy) (T.meth .wy _ (by decide +kernel)) (ok_wy_do T) (hr.mono (by decide)) (b_wy_do T) .nil pass0 (pa_cons (pe_tup (pa_cons pe_str (pa_cons (pv 5) (pa_cons (pv 3) pa_nil)))) pa_nil)))))))), ?_⟩)
  · obtain ⟨a, m, nb, offs, sp, S, U, N, t, rfl, _⟩ := h; rfl
  · obtain ⟨a, m, nb, offs, sp, S, U, N, t, rfl, hL, hn, hU, hN, k⟩ := h
    obtain ⟨x, y, g1, g2⟩ := hL.lh.O.at_ N t hN
    obtain ⟨⟨oa, ob, oc⟩, ho⟩ : ∃ o, offs[N]? = some o := by
      unfold esOf at g1
      rw [List.getElem?_map] at g1
      cases q : offs[N]? with
      | none => rw [q] at g1; cases g1
      | some o => exact ⟨o, rfl⟩
    have ge := es_at ho
    obtain ⟨p, hp, hv⟩ := v_offi (σ := L2.start ["self", "number", "a", "b", "price", "spot"] [V.ref a.l, V.int N]) (tb := tVar 0) (tx := tVar 1) T hL.at_ (vv rfl) (vv rfl) ho
    refine q_unp3 hv (SqT.of hp) ?_
    have hl := hL.lh.O.ends N oa ob ge
    have hmn := hL.lh.O.mn
    have hr := hL.lh.O.rng N t hN
    obtain ⟨S2, S3, f1, f2, f3, f4, f5⟩ := hL.lh.letGo hn hN ge
    have cS3 : S3.cnt ≤ cLim := cnt_ok f5.cnt hU
    have n4 := hL.n4 (by omega)
    have L0 := hL.at_
    refine q_dpop (v_spt T L0 (vv rfl)) L0.e1 (vv rfl) (spK_some hL.lh.O hN) ?_
    rw [spK_drop]
    obtain ⟨dx, ob4⟩ : ∃ dx, upd H a.d1 (.dK (spK (sp.filter fun p => !decide (p.1 = N)))) a.l = some (.ins (Cad K .li) dx [("many_points", .int m), ("offered", .ref a.o), ("ways", .ref a.y), ("spots", .ref a.d1), ("numbers", .ref a.d2)]) := by
      obtain ⟨dx, ob⟩ := L0.ob
      exact ⟨dx, by rw [upd_ne (ne_of ob L0.e1 (by intro z; cases z))]; exact ob⟩
    have e2' : upd H a.d1 (.dK (spK (sp.filter fun p => !decide (p.1 = N)))) a.d2 = some (.dK (nmK sp)) := by rw [upd_ne (Ne.symm L0.nd)]; exact L0.e2
    refine q_dpopX (t := t) (v := .int (N : Nat)) (fun Q q => vv rfl _ ⟨a.l, Cad K .li, dx, _, .ref a.d2, rfl, ob4, T.cls .li, T.noat .li "numbers" (by decide +kernel), rfl, q⟩) e2' (vv rfl) (by rw [nmK_get hL.lh.O, (LC.numOf_some hL.lh.O).mpr hN]; rfl) ?_
    rw [nmK_drop hL.lh.O hN]
    obtain ⟨L1, k1⟩ := L0.dicts (sp.filter fun p => !decide (p.1 = N))
    refine c_do L1.wy (v_wys T L1 (vv rfl)) (r := .cut oa t) (nu_tup (args1 vc (args1 (vv rfl) (args1 (vv rfl) args0))) (by show 3 ≤ 100000; decide)) rfl (fun x hx => by
      rcases List.mem_cons.mp hx with z | z
      · omega
      · rw [List.mem_singleton.mp z]; omega) n4 ⟨S2, f1, by omega, ?_⟩
    intro H2 v hv2 W2 k2
    have L2 := L1.ways W2 k2
    refine c_do W2 (v_wys T L2 (vv rfl)) (r := .cut t ob) (nu_tup (args1 vc (args1 (vv rfl) (args1 (vv rfl) args0))) (by show 3 ≤ 100000; decide)) rfl (fun x hx => by
      rcases List.mem_cons.mp hx with z | z
      · omega
      · rw [List.mem_singleton.mp z]; omega) (by omega) ⟨S3, f2, cS3, ?_⟩
    intro H3 v hv3 W3 k3
    exact k _ _ ⟨L2.ways W3 k3, f5⟩ (k1.trans (KeepF.of (k2.trans k3) (fun f => Lf.ofA f)))
end
end TC
namespace TC
open PySem PySem.Spec PyProof.Rows L2
section
variable {P : Program} {w : World} {K : PySem.W.Frag} {mg : Str → Option Value} {base : Heap} {H H' H0 : Hp} {y s p : Addr} {a : LiA} {A : Fd → Addr} {S S' : LC.S} {σ : L2.St} {tb tx te tl tc : TE} {ta : TA} {D : Ends} {v x : V} {t1 t2 tz tu : TS} {t tt : TT} {b : Bool} {m nb U : Nat} {offs : List Off} {sp : List (Nat × Nat)}
structure LiI (K : PySem.W.Frag) (H : Hp) (a : LiA) (m nb : Nat) (offs : List Off) (sp : List (Nat × Nat)) (S : LC.S) (U : Nat) : Prop extends LiH K H a m nb offs sp S U where
  ch : LC.Ch (esOf offs) (prOf offs) (LC.inK sp)
  fk : (∀ c ∈ prOf offs, c = 7) → LC.FK (esOf offs) (sp.map (·.1))
theorem LiI.ex (h : LiI K H a m nb offs sp S U) (e : Ex H H') : LiI K H' a m nb offs sp S U := ⟨h.toLiH.ex e, h.ch, h.fk⟩
theorem esOf_app (o : Off) : esOf (offs ++ [o]) = esOf offs ++ [(o.1, o.2.1)] := by simp [esOf]
theorem prOf_app (o : Off) : prOf (offs ++ [o]) = prOf offs ++ [o.2.2] := by simp [prOf]
theorem es_len : (esOf offs).length = offs.length := by simp [esOf]
theorem pr_len : (prOf offs).length = offs.length := by simp [prOf]
theorem pl_len : (prOf offs).length = (esOf offs).length := by rw [es_len, pr_len]
theorem LiAt.offer (h : LiAt K H a m offs sp S) {o : Off} {p : Addr} {refs : List V} (hr : H a.o = some (.lst refs)) (hp : H p = some (.tup (offV o))) : LiAt K (upd H a.o (.lst (refs ++ [.ref p]))) a m (offs ++ [o]) sp S ∧ KeepF (Lf a) H (upd H a.o (.lst (refs ++ [.ref p]))) := by
  obtain ⟨⟨dx, ob⟩, ⟨refs', r1, r2⟩, e1, e2, wy, no, nd⟩ := h
  have : refs' = refs := by rw [hr] at r1; cases r1; rfl
  subst this
  have n1 : a.l ≠ a.o := ne_of ob r1 (by intro z; cases z)
  have n3 : a.d1 ≠ a.o := ne_of e1 r1 (by intro z; cases z)
  have n4 : a.d2 ≠ a.o := ne_of e2 r1 (by intro z; cases z)
  have tk : TK H (upd H a.o (.lst (refs' ++ [.ref p]))) := TK.upd r1 (fun _ => by intro z; cases z)
  have hp' := tk _ _ hp
  refine ⟨⟨⟨dx, by rw [upd_ne n1]; exact ob⟩, ⟨_, upd_same, by rw [List.map_append]; exact (r2.keep tk).add hp'⟩, by rw [upd_ne n3]; exact e1, by rw [upd_ne n4]; exact e2, ⟨?_, wy.st.updn r1 no⟩, no, nd⟩, (KeepF.refl _ H).upd (.inl rfl)⟩
  obtain ⟨dy, oy⟩ := wy.ob
  exact ⟨dy, by rw [upd_ne (ne_of oy r1 (by intro z; cases z))]; exact oy⟩
theorem LiH.offer (h : LiH K H a m nb offs sp S U) {o : Off} {p : Addr} {refs : List V} (hr : H a.o = some (.lst refs)) (hp : H p = some (.tup (offV o))) (h1 : o.1 < m) (h2 : o.2.1 < m) : LiH K (upd H a.o (.lst (refs ++ [.ref p]))) a m nb (offs ++ [o]) sp S U :=
  ⟨(h.at_.offer hr hp).1, by
    rw [esOf_app]
    refine (h.lh.more h1 h2).imp fun k v hk hv => ?_
    unfold wl at hv ⊢
    rw [prOf_app, List.getElem?_append_left (LC.at_lt hv)]
    exact hv⟩
theorem v_dget {d : Addr} {kvs : List (Key × V)} {i : Int} {v : V} {tk : TE} (hd : Val tb σ H (.ref d)) (hk : Val tk σ H (.int i)) (he : H d = some (.dK kvs)) (hv : valV kvs (.inl i) = some v) : Val (tDGet tb tk) σ H v := fun Q q =>
  hd _ (hk _ ⟨d, v, rfl, by rw [← hv]; exact DGet.k (k := .inl i) he, q⟩)
theorem c_liV (h : LiAt K H a m offs sp S) {f : Str} {sp' : Sp} {E : XK} {t : TA} {vs : List V} {Q : VK} (hm : f ∉ Cn.fields .li) (hb : Val tb σ H (.ref a.l)) (ht : Args t σ H vs) (k : sp' (.ref a.l :: (vs ++ [])) H Q E) : tMeth (Cad K .li) f sp' [] E tb t σ H Q :=
  hb _ (by
    obtain ⟨dx, h1⟩ := h.ob
    exact ⟨a.l, dx, _, rfl, h1, lookup_zip_none (ns := Cn.fields .li) (vs := [V.int m, V.ref a.o, V.ref a.y, V.ref a.d1, V.ref a.d2]) hm, ht _ k⟩)
theorem q_callL (h : LiAt K H a m offs sp S) {f : Str} {sp' : Sp} {E : XK} {t : TA} {vs : List V} (hm : f ∉ Cn.fields .li) (hb : Val tb σ H (.ref a.l)) (ht : Args t σ H vs) (k : sp' (.ref a.l :: (vs ++ [])) H (fun _ H1 => tz D σ H1) E) : tSeq (tDrop (tMeth (Cad K .li) f sp' [] E tb t)) tz D σ H := c_liV h hm hb ht k
theorem s_callL (h : LiAt K H a m offs sp S) {f : Str} {sp' : Sp} {E : XK} {t : TA} {vs : List V} (hm : f ∉ Cn.fields .li) (hb : Val tb σ H (.ref a.l)) (ht : Args t σ H vs) (k : sp' (.ref a.l :: (vs ++ [])) H (fun _ H1 => D.nx σ H1) E) : tDrop (tMeth (Cad K .li) f sp' [] E tb t) D σ H := c_liV h hm hb ht k
theorem q_appendU {l : Addr} {xs ys : List V} (hb : Val tb σ H (.ref l)) (ha : H l = some (.lst xs)) (hv : NewU te σ H ys) (hl : xs.length < sizeLine) (k : ∀ p H1, H p = none → Ex H H1 → H1 p = some (.tup ys) → tz D σ (upd H1 l (.lst (xs ++ [.ref p])))) : tSeq (tDrop (tBM K "list" rAppend tb (tCons te tNil))) tz D σ H :=
  hb _ ⟨.inl ⟨rfl, _, SqL.of ha⟩, hv _ fun p H1 hp e1 h1 => ⟨l, xs, .ref p, rfl, rfl, e1 _ _ ha, hl, k p H1 hp e1 h1⟩⟩
theorem q_callF {sp : Sp} {E : XK} {t : TA} {vs : List V} (ht : Args t σ H vs) (k : sp (vs ++ []) H (fun _ H1 => tz D σ H1) E) : tSeq (tDrop (tCall sp [] E t)) tz D σ H := ht _ k
def spOffer (K : PySem.W.Frag) : Sp := fun vs H Q _ => ∃ (a : LiA) (m nb : Nat) (offs : List Off) (sp : List (Nat × Nat)) (S : LC.S) (U x y : Nat) (c : Int), vs = [.ref a.l, .int (x : Nat), .int (y : Nat), .int c] ∧ LiI K H a m nb offs sp S U ∧ nb + 1 ≤ 103 ∧ U + 20 ≤ 2800 ∧ x < m ∧ y < m ∧ 0 ≤ c ∧ offs.length ≤ 1000 ∧
  ∀ H' v sp' S', LiI K H' a m (nb + 1) (offs ++ [(x, y, c)]) sp' S' (U + 20) → KeepF (Lf a) H H' → Q v H'
theorem LiH.mono {nb' U' : Nat} (h : LiH K H a m nb offs sp S U) (h1 : nb ≤ nb') (h2 : U ≤ U') : LiH K H a m nb' offs sp S U' := ⟨h.at_, ⟨h.lh.O, h.lh.hw, (h.lh.mono h2).cnt, Nat.le_trans h.lh.nb h1⟩⟩
theorem ok_li_offer (T : Tx w K mg) : Ok P w K mg base 12 .li_offer (spOffer K) := by
  refine T.okd .li_offer sc_li_offer (fun vs H Q E h => ?_) (fun cdv A0 outer s0 H vs Q E hr h => ⟨_, (pss_cons (ps_if (PW.pt (pw_or (pt_not (pt_val (pe_call (ok_is_number_shapes T) (hr.mono (by decide)) rfl (T.glF _ (by decide +kernel)) (T.fn .is_number_shapes).kp (b_is_number_shapes T) .nil pass0 (pa_cons (pv 3) pa_nil)))) (pw_or1 (pt_cmpR op_lt (pv 3) pe_int (nomark _))))) (pss_one ps_never) pss_nil)
    (pss_cons (ps_expr (pe_call (ok_look_points T) (hr.mono (by decide)) rfl (T.glF _ (by decide +kernel)) (T.fn .look_points).kp (b_look_points T) .nil pass0 (pa_cons (pe_fld (pv 0) rfl) (pa_cons (pv 1) (pa_cons (pv 2) pa_nil)))))
    (pss_cons (ps_set (i := 4) sc_li_offer.nd rfl (Or.inl rfl) (pe_callB call_len_seq (by rfl) (T.free _ (by decide +kernel)) (by decide +kernel) (by exact (pa_cons (pe_fld (pv 0) rfl) pa_nil))))
    (pss_cons (ps_expr (pe_bm PySem.F.plainAttrs_list PySem.F.slot_list_append PySem.F.type_list_append mt_append (pe_fld (pv 0) rfl) (pa_cons (pe_tup (pa_cons (pv 1) (pa_cons (pv 2) (pa_cons (pv 3) pa_nil)))) pa_nil)))
    (pss_cons (ps_set (i := 5) sc_li_offer.nd rfl (Or.inl rfl) pe_non)
    (Evl.pss_cut (ps_if (pt_val (pe_meth (pe_fld (pv 0) rfl) (T.cls .wy) (T.meth .wy _ (by decide +kernel)) (ok_wy_do T) (hr.mono (by decide)) (b_wy_do T) .nil pass0 (pa_cons (pe_tup (pa_cons pe_str (pa_cons (pv 1) (pa_cons (pv 2) pa_nil)))) pa_nil))) (pss_cons (ps_asg (pe_meth (pe_fld (pv 0) rfl) (T.cls .wy) (T.meth .wy _ (by decide +kernel)) (ok_wy_do T) (hr.mono (by decide)) (b_wy_do T) .nil pass0 (pa_cons (pe_tup (pa_cons pe_str (pa_cons (pv 1) (pa_cons (pv 2) pa_nil)))) pa_nil)) (pg_tup rfl (pgs_cons (pg_name (i := 6) sc_li_offer.nd rfl (Or.inl rfl)) (pgs_cons (pg_name (i := 7) sc_li_offer.nd rfl (Or.inl rfl)) pgs_nil))))
    (pss_cons (ps_if (pt_cmpR op_le (pv 6) (pv 3) (nomark _)) (pss_one (ps_ret (pv 4))) pss_nil)
    (pss_cons (ps_set (i := 5) sc_li_offer.nd rfl (Or.inl rfl) (pe_dget (hu_of hr) (pe_fld (pv 0) rfl) (pv 7) (fun _ _ => rfl)))
    (pss_one (ps_expr (pe_meth (pv 0) (T.cls .li) (T.meth .li _ (by decide +kernel)) (ok_li_let_go T) (hr.mono (by decide)) (b_li_let_go T) .nil pass0 (pa_cons (pv 5) pa_nil))))))) pss_nil)
    (pss_cons (ps_expr (pe_meth (pv 0) (T.cls .li) (T.meth .li _ (by decide +kernel)) (ok_li_keep_one T) (hr.mono (by decide)) (b_li_keep_one T) .nil pass0 (pa_cons (pv 4) pa_nil)))
    (pss_one (ps_ret (pv 5)))))))))), ?_⟩)
  · obtain ⟨a, m, nb, offs, sp, S, U, x, y, c, rfl, _⟩ := h; rfl
  · obtain ⟨a, m, nb, offs, sp, S, U, x, y, c, rfl, hL, hn, hU, hx, hy, hc, hol, k⟩ := h
    refine q_when (b := !true || false) (a_or (a_not (a_num (Q := fun _ _ => True) (vv rfl))) fun _ => L2.Ans.to (a_test (v_I0 (vv rfl) (vc (v := .int 0)))) (decide_eq_false (by omega))) (fun q => by cases q) fun _ => ?_
    refine q_callF (args1 (v_mpt T hL.at_ (vv rfl)) (args1 (vv rfl) (args1 (vv rfl) args0))) ⟨m, x, y, rfl, hx, hy, ?_⟩
    obtain ⟨refs, r1, r2⟩ := hL.at_.of
    have rl := r2.len
    rw [List.length_map] at rl
    refine q_set (v := .int (offs.length : Nat)) (rl ▸ v_lenL (te := tFld K (tVar 0) "offered") (v_off T hL.at_ (vv rfl)) (.inl (SqL.of r1))) ?_
    refine q_appendU (v_off T hL.at_ (vv rfl)) r1 (nu_tup (args1 (vv rfl) (args1 (vv rfl) (args1 (vv rfl) args0))) (by show 3 ≤ 100000; decide)) (by rw [rl]; exact sz_lt (by omega)) fun p H1 hp e1 h1 => ?_
    have hL1 : LiH K (upd H1 a.o (.lst (refs ++ [.ref p]))) a m nb (offs ++ [(x, y, c)]) sp S U := (hL.toLiH.ex e1).offer (o := (x, y, c)) (e1 _ _ r1) h1 hx hy
    have k1 : KeepF (Lf a) H (upd H1 a.o (.lst (refs ++ [.ref p]))) := (KeepF.ex e1).trans (((hL.at_.ex e1).offer (o := (x, y, c)) (e1 _ _ r1) h1).2)
    show tSeq _ _ _ _ (upd H1 a.o (.lst (refs ++ [.ref p])))
    generalize upd H1 a.o (.lst (refs ++ [.ref p])) = H2 at hL1 k1 ⊢
    clear r1 r2 h1 hp e1
    have hn0 : nb ≤ 103 := by omega
    have eE : esOf (offs ++ [(x, y, c)]) = esOf offs ++ [(x, y)] := esOf_app _
    have eP : prOf (offs ++ [(x, y, c)]) = prOf offs ++ [c] := prOf_app _
    have hKl : ∀ j, LC.inK sp j → j < (esOf offs).length := fun j hj => hL.lh.lt hj
    have back : ∀ {ks : Nat → Prop} {u v : Nat}, (∀ j, ks j → LC.inK sp j) → LC.Conn (LC.Lk (esOf (offs ++ [(x, y, c)])) ks) u v → LC.Conn (LC.Lk (esOf offs) ks) u v := fun hk h => by
      rw [eE] at h
      exact h.mono fun p q z => LC.Lk.less (fun w => Nat.lt_irrefl _ (hKl _ (hk _ w))) z
    refine q_set (v := .non) vc ?_
    obtain ⟨S1, r, f1, f2, f3⟩ := hL1.lh.joined hn0 hx hy
    have cS1 : S1.cnt ≤ cLim := cnt_ok f2.cnt (by omega)
    refine q_cut (M := fun σ' H3 => ∃ (o1 o2 o3 : Option V) (sp1 : List (Nat × Nat)) (S3 : LC.S), σ' = [some (.ref a.l), some (.int x), some (.int y), some (.int c), some (.int (offs.length : Nat)), o1, o2, o3] ∧ o1.isSome ∧ LiH K H3 a m nb (offs ++ [(x, y, c)]) sp1 S3 (U + 11) ∧ KeepF (Lf a) H H3 ∧
      ¬ LC.inK sp1 offs.length ∧ ¬ LC.Conn (LC.Lk (esOf (offs ++ [(x, y, c)])) (LC.inK sp1)) x y ∧ LC.Ch (esOf (offs ++ [(x, y, c)])) (prOf (offs ++ [(x, y, c)])) (fun j => LC.inK sp1 j ∨ j = offs.length) ∧ ((∀ c' ∈ prOf (offs ++ [(x, y, c)]), c' = 7) → LC.FK (esOf (offs ++ [(x, y, c)])) (sp1.map (·.1) ++ [offs.length]))) ?_ ?_
    rotate_left
    · rintro _ H3 ⟨o1, o2, o3, sp1, S3, rfl, ho1, hL3, k3, hnk, hnc, hch, hfk⟩
      obtain ⟨v1, rfl⟩ := Option.isSome_iff_exists.mp ho1
      refine q_callL hL3.at_ (by decide +kernel) (vv rfl) (args1 (vv rfl) args0) ⟨a, m, nb, offs ++ [(x, y, c)], sp1, S3, U + 11, offs.length, (x, y, c), rfl, hL3, hn, by omega, hnk, by rw [List.getElem?_append_right (Nat.le_refl _), Nat.sub_self]; rfl, hnc, fun H4 S4 hL4 k4 => ?_⟩
      have iff : ∀ j, LC.inK (sp1 ++ [(offs.length, S3.n)]) j ↔ (LC.inK sp1 j ∨ j = offs.length) := fun j => LC.inK_new
      refine s_ret (v := v1) (vv rfl) (k H4 v1 _ S4 ⟨hL4.mono (Nat.le_refl _) (by omega), ?_, ?_⟩ (k3.trans k4))
      · have : LC.inK (sp1 ++ [(offs.length, S3.n)]) = fun j => LC.inK sp1 j ∨ j = offs.length := funext fun j => propext (iff j)
        rw [this]; exact hch
      · intro h7
        have := hfk h7
        rw [show (sp1 ++ [(offs.length, S3.n)]).map (·.1) = sp1.map (·.1) ++ [offs.length] by simp]
        exact this
    · refine c_do hL1.at_.wy (v_wys T hL1.at_ (vv rfl)) (r := .joined x y) (nu_tup (args1 vc (args1 (vv rfl) (args1 (vv rfl) args0))) (by show 3 ≤ 100000; decide)) rfl (fun z hz => by
        have := hL1.lh.O.mn
        rcases List.mem_cons.mp hz with q | q
        · omega
        · rw [List.mem_singleton.mp q]; omega) (hL1.n4 hn0) ⟨S1, r, f1, cS1, ?_⟩
      intro H3 v hv W3 k3
      have hL3 : LiH K H3 a m nb (offs ++ [(x, y, c)]) sp S1 (U + 2) := ⟨hL1.at_.ways W3 k3, f2⟩
      have kk3 : KeepF (Lf a) H H3 := k1.trans (KeepF.of k3 fun f => Lf.ofA f)
      refine ⟨r, hv, ?_⟩
      cases r with
      | false =>
        refine iteF ?_
        have nc : ¬ LC.Conn (LC.Lk (esOf (offs ++ [(x, y, c)])) (LC.inK sp)) x y := fun z => by have := f3.mpr z; cases this
        refine ⟨_, _, _, sp, S1, rfl, rfl, hL3.mono (Nat.le_refl _) (by omega), kk3, fun z => by have := hKl _ z; rw [es_len] at this; omega, nc, ?_, fun h7 => ?_⟩
        · rw [eE, eP]
          have := hL.ch.new pl_len (x, y) c
          rw [es_len] at this; exact this
        · rw [eE]
          have := LC.FK.new (esOf offs) x y (sp.map (·.1)) (hL.fk fun c' hc' => h7 c' (by rw [eP]; exact List.mem_append_left _ hc')) (fun z => nc (by rw [eE]; exact z.mono fun p q w => w.more _))
          rw [es_len] at this; exact this
      | true =>
        refine iteT ?_
        have cc := f3.mp rfl
        obtain ⟨S2, S3, xx, r, g1, g2, g3, g4, g5, g6, g7, g8⟩ := hL3.lh.most hn0 (fun v hv => hv) hx hy cc
        have cS3 : S3.cnt ≤ cLim := cnt_ok g3.cnt (by omega)
        refine c_do hL3.at_.wy (v_wys T hL3.at_ (vv rfl)) (r := .most x y) (nu_tup (args1 vc (args1 (vv rfl) (args1 (vv rfl) args0))) (by show 3 ≤ 100000; decide)) rfl (fun z hz => by
          have := hL3.lh.O.mn
          rcases List.mem_cons.mp hz with q | q
          · omega
          · rw [List.mem_singleton.mp q]; omega) (hL3.n4 hn0) ⟨S2, S3, xx, g1, g2, cS3, ?_⟩
        rintro H4 v ⟨q, rfl, hq⟩ W4 k4
        have hL4 : LiH K H4 a m nb (offs ++ [(x, y, c)]) sp S3 (U + 2 + 5) := ⟨hL3.at_.ways W4 k4, g3⟩
        have kk4 : KeepF (Lf a) H H4 := kk3.trans (KeepF.of k4 fun f => Lf.ofA f)
        refine ⟨q, _, rfl, SqT.of hq, rfl, _, _, rfl, _, _, rfl, rfl, ?_⟩
        have gl : LC.Lead (esOf offs) x y r := by
          have := g4
          rw [eE] at this
          exact this.less fun k hk => hKl k (g6 k hk)
        have hle : ∀ k ∈ r, ∃ d, (prOf offs)[k]? = some d ∧ d ≤ S2.mo y := fun k hk => by
          obtain ⟨d, d1, d2⟩ := g7 k hk
          unfold wl at d1
          rw [eP, List.getElem?_append_left (by rw [pl_len]; exact hKl k (g6 k hk))] at d1
          exact ⟨d, d1, d2⟩
        refine q_when (b := decide (S2.mo y ≤ c)) (a_test (v_I0 (g := fun i j => V.bl (decide (i ≤ j))) (vv rfl) (vv rfl))) (fun hb => ?_) (fun hb => ?_)
        · have hb' : S2.mo y ≤ c := of_decide_eq_true hb
          have cheap : LC.Conn (LC.Lk (esOf offs) (LC.Kc (prOf offs) (LC.inK sp) c)) x y := gl.conn fun k hk => by
            obtain ⟨d, d1, d2⟩ := hle k hk
            exact ⟨g6 k hk, d, d1, by omega⟩
          refine s_ret (v := .int (offs.length : Nat)) (vv rfl) (k H4 _ sp S3 ⟨hL4.mono (by omega) (by omega), ?_, fun h7 => ?_⟩ kk4)
          · rw [eE, eP]
            exact hL.ch.old pl_len hKl cheap
          · rw [eE]
            exact LC.FK.old (esOf offs) x y (sp.map (·.1)) (hL.fk fun c' hc' => h7 c' (by rw [eP]; exact List.mem_append_left _ hc')) (cheap.mono fun p q w => w.mono fun k _ z => z.1)
        · have hb' : c < S2.mo y := by have := of_decide_eq_false hb; omega
          obtain ⟨k0, h1, h2, h3⟩ := g8 (by omega)
          unfold wl at h3
          rw [eP, List.getElem?_append_left (by rw [pl_len]; exact hKl k0 (g6 k0 h1))] at h3
          refine q_set (v := .int (k0 : Nat)) (v_dget (i := (xx : Int)) (v_nms T hL4.at_ (vv rfl)) (vv rfl) hL4.at_.e2 (by rw [nmK_get hL4.lh.O, (LC.numOf_some hL4.lh.O).mpr h2]; rfl)) ?_
          refine s_callL hL4.at_ (by decide +kernel) (vv rfl) (args1 (vv rfl) args0) ⟨a, m, nb, _, sp, S3, U + 2 + 5, k0, xx, rfl, hL4, hn0, by omega, h2, fun H5 S5 hL5 k5 => ?_⟩
          have ek : LC.inK (sp.filter fun p => !decide (p.1 = k0)) = LC.No (LC.inK sp) k0 := funext fun j => propext LC.inK_drop
          refine ⟨_, _, _, _, S5, rfl, rfl, hL5, kk4.trans k5, ?_, ?_, ?_, fun h7 => ?_⟩
          · rw [ek]
            exact fun z => by have := hKl _ z.1; rw [es_len] at this; omega
          · rw [ek]
            exact g4.sep h1 g5 g6 hL4.lh.fo
          · rw [ek, eE, eP]
            have := hL.ch.swap pl_len hKl gl g6 g5 h1 h3 (Int.le_of_lt hb') hle
            rw [es_len] at this; exact this
          · exfalso
            have e1 := h7 c (by rw [eP]; simp)
            have e2 := h7 (S2.mo y) (by rw [eP]; exact List.mem_append_left _ (List.mem_of_getElem? h3))
            omega
end
end TC
namespace TC
open PySem PySem.Spec PyProof.Rows L2
section
variable {P : Program} {w : World} {K : PySem.W.Frag} {mg : Str → Option Value} {base : Heap} {H H' H0 : Hp} {y s p : Addr} {a : LiA} {A : Fd → Addr} {S S' : LC.S} {σ : L2.St} {tb tx te tl tc tv : TE} {ta : TA} {D : Ends} {v x : V} {t1 t2 tz tu : TS} {t tt : TT} {b : Bool} {m nb U : Nat} {offs : List Off} {sp : List (Nat × Nat)}
theorem q_fld (T : Tx w K mg) (c : Cn) {l dx : Addr} {f : Str} {fs : List (Str × V)} {R : V → Hp → Prop} (hf : f ∈ c.fields) (hv : ∀ Q : VK, (∀ v H1, R v H1 → Q v H1) → tv σ H Q) (hb : ∀ H, Val tb σ H (.ref l)) (ho : ∀ v H1, R v H1 → H1 l = some (.ins (Cad K c) dx fs)) (hl : fs.length < 1000)
    (k : ∀ v H1, R v H1 → tz D σ (upd H1 l (.ins (Cad K c) dx (putF f v fs)))) : tSeq (sFld K tb tv f) tz D σ H :=
  hv _ fun v H1 r => hb H1 _ ⟨l, Cad K c, dx, fs, rfl, ho v H1 r, T.cls c, T.noat c f hf, hl, k v H1 r⟩
theorem s_fld (T : Tx w K mg) (c : Cn) {l dx : Addr} {f : Str} {fs : List (Str × V)} {R : V → Hp → Prop} (hf : f ∈ c.fields) (hv : ∀ Q : VK, (∀ v H1, R v H1 → Q v H1) → tv σ H Q) (hb : ∀ H, Val tb σ H (.ref l)) (ho : ∀ v H1, R v H1 → H1 l = some (.ins (Cad K c) dx fs)) (hl : fs.length < 1000)
    (k : ∀ v H1, R v H1 → D.nx σ (upd H1 l (.ins (Cad K c) dx (putF f v fs)))) : sFld K tb tv f D σ H :=
  q_fld (tz := tNext) (D := D) T c hf hv hb ho hl k
theorem bare_holds : ∀ m, LC.Holds (bareS m) (fun _ _ => False) (fun _ => -1)
  | 0 => LC.Holds.start _
  | m + 1 => by
    have := (bare_holds m).new (-1)
    have e : LC.up (fun _ => (-1 : Int)) (bareS m).n (-1) = fun _ => -1 := funext fun i => by unfold LC.up; split <;> rfl
    rw [e] at this; exact this
theorem lh_bare (m : Nat) (pt : Int → Prop) (hp : pt (-1)) (wt : Nat → Int → Prop) : LC.LH m m pt [] wt [] (bareS m) 0 := by
  refine ⟨⟨List.nodup_nil, List.nodup_nil, fun k s h => by simp at h, fun k a b h => by simp at h, fun k s h => by simp at h, by rw [bareS_n]; exact Nat.le_refl _⟩, ⟨_, (bare_holds m).congr fun x y => ⟨fun ⟨k, s, a, b, h, _⟩ => by simp at h, fun h => h.elim⟩, fun _ _ => hp, fun k t h => by simp at h⟩, by rw [bareS_cnt]; omega, by rw [bareS_n]; exact Nat.le_refl _⟩
theorem c_ways (hx : ∀ H, Val tx σ H (.int m)) (hm : m ≤ 10000) {Q : VK} (k : ∀ y s A H1, Ex H H1 → WyAt K H1 y s A (bareS m) → (∀ f, H (A f) = none) → Q (.ref y) H1) :
    tMake (Cad K .wy) (spWyInit K) [] E0 (tCons (tCall spBare [] E0 (tCons tx tNil)) tNil) σ H Q := by
  refine c_fn (args1 (hx H) args0) ⟨m, rfl, hm, fun f H1 e1 hb y dy hy hdy hne => ?_⟩
  have ny : ∀ q o, H1 q = some o → q ≠ y := fun q o h e => by rw [e, hy] at h; cases h
  have nd : ∀ q o, H1 q = some o → q ≠ dy := fun q o h e => by rw [e, hdy] at h; cases h
  have up2 : ∀ q o, H1 q = some o → upd (upd H1 dy (.own y)) y (.ins (Cad K .wy) dy []) q = some o := fun q o h => by rw [upd_ne (ny q o h), upd_ne (nd q o h)]; exact h
  refine ⟨y, dy, f, m, rfl, upd_same, ?_, hm, fun s A H2 W k2 fr hs => ⟨rfl, ?_⟩⟩
  · obtain ⟨pp, q, e, b1, b2, b3, b4⟩ := hb
    exact ⟨pp, q, e, up2 _ _ b1, up2 _ _ b2, up2 _ _ b3, up2 _ _ b4⟩
  · refine k y s A H2 (fun q o h => k2 q o (up2 q o (e1 q o h)) (ny q o (e1 q o h))) W fun f => ?_
    have := fr f
    cases q : H (A f) with
    | none => rfl
    | some o => rw [up2 _ _ (e1 _ _ q)] at this; cases this
structure In (K : PySem.W.Frag) (H0 H : Hp) (l dx : Addr) (fs : List (Str × V)) : Prop where
  ob : H l = some (.ins (Cad K .li) dx fs)
  kp : ∀ q o, H0 q = some o → q ≠ l → H q = some o
theorem In.fresh {l dx q : Addr} {fs : List (Str × V)} (h : In K H0 H l dx fs) (hq : H q = none) (hn : q ≠ l) : H0 q = none := by
  cases z : H0 q with
  | none => rfl
  | some o => rw [h.kp q o z hn] at hq; cases hq
def spLiInit (K : PySem.W.Frag) : Sp := fun vs H Q _ => ∃ l dx m, vs = [.ref l, .int (m : Nat)] ∧ H l = some (.ins (Cad K .li) dx []) ∧ m ≤ 1000 ∧ ∀ (a : LiA) H', a.l = l → LiI K H' a m m [] [] (bareS m) 0 → KeepO l H H' → (∀ q, Lf a q → H q = none) → Q .non H'
theorem ok_li_init (T : Tx w K mg) : Ok P w K mg base 10 .li_init (spLiInit K) := by
  refine T.okd .li_init sc_li_init (fun vs H Q E h => ?_) (fun cdv A0 outer s0 H vs Q E hr h => ⟨_, (pss_cons (ps_fld (pv 0) (pv 1) rfl)
    (pss_cons (ps_fld (pv 0) (pe_lst pa_nil) rfl)
    (pss_cons (ps_fld (pv 0) (pe_make (T.mkr .wy) (ok_wy_init T) (hr.mono (by decide)) rfl (T.glC .wy) (b_wy_init T) .nil pass0 (pa_cons (pe_call (ok_bare_forest T) (hr.mono (by decide)) rfl (T.glF _ (by decide +kernel)) (T.fn .bare_forest).kp (b_bare_forest T) .nil pass0 (pa_cons (pv 1) pa_nil)) pa_nil)) rfl)
    (pss_cons (ps_fld (pv 0) pe_dnewK rfl)
    (pss_one (ps_fld (pv 0) pe_dnewK rfl)))))), ?_⟩)
  · obtain ⟨l, dx, m, rfl, _⟩ := h; rfl
  · obtain ⟨l, dx, m, rfl, hl, hm, k⟩ := h
    refine q_fld T .li (R := fun v H1 => v = .int m ∧ H1 = H) (by decide +kernel) (fun Q q => vv rfl _ (q _ _ ⟨rfl, rfl⟩)) (fun _ => vv rfl) (fun v H1 r => by rw [r.2]; exact hl) (by show 0 < 1000; decide) ?_
    rintro v H1 ⟨rfl, rfl⟩
    have i1 : In K H1 (upd H1 l (.ins (Cad K .li) dx [("many_points", .int m)])) l dx [("many_points", .int m)] := ⟨upd_same, fun q o h n => by rw [upd_ne n]; exact h⟩
    show tSeq _ _ _ _ (upd H1 l (.ins (Cad K .li) dx [("many_points", .int m)]))
    generalize upd H1 l (.ins (Cad K .li) dx [("many_points", .int m)]) = H2 at i1 ⊢
    refine q_fld T .li (R := fun v H3 => ∃ o, v = .ref o ∧ H2 o = none ∧ Ex H2 H3 ∧ H3 o = some (.lst [])) (by decide +kernel) (fun Q q => nl_lst args0 (by show 0 ≤ 100000; decide) _ fun o H3 ho e h => q _ _ ⟨o, rfl, ho, e, h⟩) (fun _ => vv rfl) (fun v H3 ⟨o, _, _, e, _⟩ => e _ _ i1.ob) (by show 1 < 1000; decide) ?_
    rintro v H3 ⟨o, rfl, ho, e3, h3⟩
    have no : o ≠ l := fun e => by rw [e, i1.ob] at ho; cases ho
    have i3 : In K H1 (upd H3 l (.ins (Cad K .li) dx [("many_points", .int m), ("offered", .ref o)])) l dx [("many_points", .int m), ("offered", .ref o)] := ⟨upd_same, fun q o h n => by rw [upd_ne n]; exact e3 _ _ (i1.kp q o h n)⟩
    have o3 : upd H3 l (.ins (Cad K .li) dx [("many_points", .int m), ("offered", .ref o)]) o = some (.lst []) := by rw [upd_ne no]; exact h3
    have fo : H1 o = none := i1.fresh ho no
    show tSeq _ _ _ _ (upd H3 l (.ins (Cad K .li) dx [("many_points", .int m), ("offered", .ref o)]))
    generalize upd H3 l (.ins (Cad K .li) dx [("many_points", .int m), ("offered", .ref o)]) = H4 at i3 o3 ⊢
    refine q_fld T .li (R := fun v H5 => ∃ y s A, v = .ref y ∧ Ex H4 H5 ∧ WyAt K H5 y s A (bareS m) ∧ ∀ f, H4 (A f) = none) (by decide +kernel) (fun Q q => c_ways (fun _ => vv rfl) (by omega) fun y s A H5 e W fr => q _ _ ⟨y, s, A, rfl, e, W, fr⟩) (fun _ => vv rfl) (fun v H5 ⟨y, s, A, _, e, _⟩ => e _ _ i3.ob) (by show 2 < 1000; decide) ?_
    rintro v H5 ⟨y, s, A, rfl, e5, W5, fr5⟩
    have nl : ∀ f, l ≠ A f := fun f e => by have := fr5 f; rw [← e, i3.ob] at this; cases this
    have nyl : y ≠ l := fun e => by
      obtain ⟨d, ob⟩ := W5.ob
      have := e5 _ _ i3.ob
      rw [← e, ob] at this; injection this with this; injection this with z1 z2 z3; cases z3
    have nsl : l ≠ s := fun e => by
      obtain ⟨d, ob⟩ := W5.st.ob
      have := e5 _ _ i3.ob
      rw [e, ob] at this; injection this with this; injection this with z1 z2 z3
      have := congrArg List.length z3
      rw [show (stF A).length = 15 by unfold stF; rw [List.length_zip, List.length_map]; rfl] at this; cases this
    have i5 : In K H1 (upd H5 l (.ins (Cad K .li) dx [("many_points", .int m), ("offered", .ref o), ("ways", .ref y)])) l dx [("many_points", .int m), ("offered", .ref o), ("ways", .ref y)] := ⟨upd_same, fun q o h n => by rw [upd_ne n]; exact e5 _ _ (i3.kp q o h n)⟩
    have o5 : upd H5 l (.ins (Cad K .li) dx [("many_points", .int m), ("offered", .ref o), ("ways", .ref y)]) o = some (.lst []) := by rw [upd_ne no]; exact e5 _ _ o3
    have noA : ∀ f, o ≠ A f := fun f e => by have := fr5 f; rw [← e, o3] at this; cases this
    have frA : ∀ f, H1 (A f) = none := fun f => i3.fresh (fr5 f) (Ne.symm (nl f))
    have W6 : WyAt K (upd H5 l (.ins (Cad K .li) dx [("many_points", .int m), ("offered", .ref o), ("ways", .ref y)])) y s A (bareS m) := by
      obtain ⟨d, ob⟩ := W5.ob
      exact ⟨⟨d, by rw [upd_ne nyl]; exact ob⟩, W5.st.updo (e5 _ _ i3.ob) nsl⟩
    show tSeq _ _ _ _ (upd H5 l (.ins (Cad K .li) dx [("many_points", .int m), ("offered", .ref o), ("ways", .ref y)]))
    generalize upd H5 l (.ins (Cad K .li) dx [("many_points", .int m), ("offered", .ref o), ("ways", .ref y)]) = H6 at i5 o5 W6 ⊢
    refine q_fld T .li (R := fun v H7 => ∃ d, v = .ref d ∧ H6 d = none ∧ Ex H6 H7 ∧ H7 d = some (.dK [])) (by decide +kernel) (fun Q q d hd => q _ _ ⟨d, rfl, hd, Ex.new hd, upd_same⟩) (fun _ => vv rfl) (fun v H3 ⟨o, _, _, e, _⟩ => e _ _ i5.ob) (by show 3 < 1000; decide) ?_
    rintro v H7 ⟨d1, rfl, f1, e7, h7⟩
    have nd1 : d1 ≠ l := fun e => by rw [e, i5.ob] at f1; cases f1
    have i7 : In K H1 (upd H7 l (.ins (Cad K .li) dx [("many_points", .int m), ("offered", .ref o), ("ways", .ref y), ("spots", .ref d1)])) l dx [("many_points", .int m), ("offered", .ref o), ("ways", .ref y), ("spots", .ref d1)] := ⟨upd_same, fun q o h n => by rw [upd_ne n]; exact e7 _ _ (i5.kp q o h n)⟩
    have o7 : upd H7 l (.ins (Cad K .li) dx [("many_points", .int m), ("offered", .ref o), ("ways", .ref y), ("spots", .ref d1)]) o = some (.lst []) := by rw [upd_ne no]; exact e7 _ _ o5
    have d7 : upd H7 l (.ins (Cad K .li) dx [("many_points", .int m), ("offered", .ref o), ("ways", .ref y), ("spots", .ref d1)]) d1 = some (.dK []) := by rw [upd_ne nd1]; exact h7
    have W7 : WyAt K (upd H7 l (.ins (Cad K .li) dx [("many_points", .int m), ("offered", .ref o), ("ways", .ref y), ("spots", .ref d1)])) y s A (bareS m) := by
      have W := W6.ex e7
      obtain ⟨d, ob⟩ := W.ob
      exact ⟨⟨d, by rw [upd_ne nyl]; exact ob⟩, W.st.updo (e7 _ _ i5.ob) nsl⟩
    have fd1 : H1 d1 = none := i5.fresh f1 nd1
    show sFld K _ _ _ _ _ (upd H7 l (.ins (Cad K .li) dx [("many_points", .int m), ("offered", .ref o), ("ways", .ref y), ("spots", .ref d1)]))
    generalize upd H7 l (.ins (Cad K .li) dx [("many_points", .int m), ("offered", .ref o), ("ways", .ref y), ("spots", .ref d1)]) = H8 at i7 o7 d7 W7 ⊢
    refine s_fld T .li (R := fun v H9 => ∃ d, v = .ref d ∧ H8 d = none ∧ Ex H8 H9 ∧ H9 d = some (.dK [])) (by decide +kernel) (fun Q q d hd => q _ _ ⟨d, rfl, hd, Ex.new hd, upd_same⟩) (fun _ => vv rfl) (fun v H3 ⟨o, _, _, e, _⟩ => e _ _ i7.ob) (by show 4 < 1000; decide) ?_
    rintro v H9 ⟨d2, rfl, f2, e9, h9⟩
    have nd2 : d2 ≠ l := fun e => by rw [e, i7.ob] at f2; cases f2
    have fd2 : H1 d2 = none := i7.fresh f2 nd2
    have W9 : WyAt K (upd H9 l (.ins (Cad K .li) dx [("many_points", .int m), ("offered", .ref o), ("ways", .ref y), ("spots", .ref d1), ("numbers", .ref d2)])) y s A (bareS m) := by
      have W := W7.ex e9
      obtain ⟨d, ob⟩ := W.ob
      exact ⟨⟨d, by rw [upd_ne nyl]; exact ob⟩, W.st.updo (e9 _ _ i7.ob) nsl⟩
    refine k ⟨l, o, d1, d2, y, s, A⟩ _ rfl ⟨⟨⟨⟨dx, upd_same⟩, ⟨[], by rw [upd_ne no]; exact e9 _ _ o7, trivial⟩, by rw [upd_ne nd1]; exact e9 _ _ d7, by rw [upd_ne nd2]; exact h9, W9, noA, fun e => by
      have e : d1 = d2 := e
      rw [← e, d7] at f2; cases f2⟩, lh_bare m ptL (by show (-1 : Int) < 0; decide) _⟩, fun g u v c h => by simp [esOf] at h, fun _ => .nil⟩ (fun q o h n => by rw [upd_ne n]; exact e9 _ _ (i7.kp q o h n)) ?_
    rintro q (rfl | rfl | rfl | ⟨f, rfl⟩)
    · exact fo
    · exact fd1
    · exact fd2
    · exact frA f
def spKept (K : PySem.W.Frag) : Sp := fun vs H Q _ => ∃ (a : LiA) (m nb : Nat) (offs : List Off) (sp : List (Nat × Nat)) (S : LC.S) (U : Nat), vs = [.ref a.l] ∧ LiI K H a m nb offs sp S U ∧ sp.length ≤ 63 ∧ ∀ (ns : List Nat) q H', Ex H H' → H' q = some (.tup (ns.map iV)) → ns.Perm (sp.map (·.1)) → ns.Pairwise (· < ·) → Q (.ref q) H'
theorem ok_li_kept (T : Tx w K mg) : Ok P w K mg base 9 .li_kept (spKept K) := by
  refine T.okd .li_kept sc_li_kept (fun vs H Q E h => ?_) (fun cdv A0 outer s0 H vs Q E hr h => ⟨_, (pss_one (ps_ret (pe_callTy call_tuple_of (by rfl) (T.free _ (by decide +kernel)) (by decide +kernel) (by exact (pa_cons (pe_callB (call_sortedDI rfl) (by rfl) (T.free _ (by decide +kernel)) (by decide +kernel) (by exact (pa_cons (pe_fld (pv 0) rfl) pa_nil))) pa_nil))))), ?_⟩)
  · obtain ⟨a, m, nb, offs, sp, S, U, rfl, _⟩ := h; rfl
  · obtain ⟨a, m, nb, offs, sp, S, U, rfl, hL, hn, k⟩ := h
    refine v_spt T hL.at_ (vv rfl) _ ⟨a.d1, spK sp, sp.map fun p => (p.1 : Int), rfl, .inl hL.at_.e1, by simp [spK, List.map_map], by rw [List.length_map]; omega, fun ys l hp hs hl => ?_⟩
    refine ⟨l, _, rfl, .inl ⟨SqL.of upd_same, fun q hq => ?_⟩⟩
    have hpos : ∀ i ∈ ys, 0 ≤ i := fun i hi => by
      have := hp.mem_iff.mp hi
      obtain ⟨p, _, e⟩ := List.mem_map.mp this
      omega
    have hys : ys = (ys.map Int.toNat).map fun n : Nat => (n : Int) := by
      rw [List.map_map]
      conv => lhs; rw [← List.map_id ys]
      exact List.map_congr_left fun i hi => by have := hpos i hi; show i = ((i.toNat : Nat) : Int); omega
    have hpm : (ys.map Int.toNat).Perm (sp.map (·.1)) := by
      have := hp.map Int.toNat
      rw [List.map_map] at this
      exact this
    refine k (ys.map Int.toNat) q _ ((Ex.new hl).trans (Ex.new hq)) ?_ hpm ?_
    · rw [upd_same]
      congr 2
      conv => lhs; rw [hys]
      rw [List.map_map]; rfl
    · have nd : (ys.map Int.toNat).Nodup := hpm.nodup_iff.mpr hL.lh.O.kn
      have le : (ys.map Int.toNat).Pairwise (· ≤ ·) := List.pairwise_map.mpr (hs.imp fun h => by omega)
      exact (le.and nd).imp fun ⟨h1, h2⟩ => by omega
end
end TC
namespace TZ
open PySem
theorem meets_enumT (l : Addr) (items : Array Value) :
    Meets (Builtin.«enumerate.__new__» ⟨[.type "enumerate", .ref l], []⟩) (fun _ R s => s.heap.IsTuple l items ∧
      R (.ok (.ret (.ref (s.heap.push { cls := .type "tuple_iterator", data := .fields #[.ref l, .int 0 0] }).objs.size)))
        { s with heap := (s.heap.push { cls := .type "tuple_iterator", data := .fields #[.ref l, .int 0 0] }).push { cls := .type "enumerate", data := .fields #[.none, .bool false, .ref s.heap.objs.size, rawInt 0, .none, .none] } }) :=
  .of_wp fun prog w A R s h => by
    obtain ⟨hp, g, d, tk, os⟩ := s; obtain ⟨hl, h⟩ := h
    have hsub := sub_enumerate
    have hL : Heap.IsTuple (Shared.heap ⟨hp, g, d, tk, os⟩) l items := hl
    obtain ⟨⟨c, dct, dt, sl⟩, hl0, hc, n, hd⟩ := hl
    replace hc : c = .type "tuple" := hc
    replace hd : dt = .seq items n := hd
    subst hc hd
    wp_walk using AutoSeq1.wpAny_loadPart' hl0
    refine wpAny_stack_any fun st => wpAny_pure ?_
    split
    · rename_i c _ _ _ _ _
      cases (c == Value.type "enumerate")
      · wp_walk using AutoSeq1.wpAny_loadPart' hl0, wpAny_pyIter_tuple hL
        exact ⟨_, rfl, h⟩
      · wp_walk using AutoSeq1.wpAny_loadPart' hl0, wpAny_pyIter_tuple hL
        exact ⟨_, rfl, h⟩
    · wp_walk using AutoSeq1.wpAny_loadPart' hl0, wpAny_pyIter_tuple hL
      exact ⟨_, rfl, h⟩
section
variable {prog : Program} {w : World} {A : Around} {E : Value → Shared → Prop} {s : Shared}
theorem call_enumT {l : Addr} {items : Array Value} {Q : Value → Shared → Prop} (hL : s.heap.IsTuple l items)
    (h : ∀ h', IsEnum h' (s.heap.objs.size + 1) s.heap.objs.size 0 .none → h'.IsTupleIter s.heap.objs.size l 0 →
      (∀ b o, s.heap.get? b = some o → h'.get? b = some o) → Q (.ref (s.heap.objs.size + 1)) { s with heap := h' }) :
    wpAny (model prog w) A (call (.type "enumerate") [.ref l]) Q E s := by
  refine callType_new F.called_enumerate (by decide) (F.typeCall_enumerate_1 _) (F.newCall_enumerate_1 _) (fun obj => F.args_object_init_2 obj _) F.entry_enumerate_new
    (meets_enumT l items) ⟨hL, ?_⟩
  have hz : (s.heap.push { cls := .type "tuple_iterator", data := .fields #[.ref l, .int 0 0] }).objs.size = s.heap.objs.size + 1 := Heap.size_push ..
  show _ ∧ _
  rw [hz]
  have he : IsEnum ((s.heap.push { cls := .type "tuple_iterator", data := .fields #[.ref l, .int 0 0] }).push
      { cls := .type "enumerate", data := .fields #[.none, .bool false, .ref s.heap.objs.size, rawInt 0, .none, .none] }) (s.heap.objs.size + 1) s.heap.objs.size 0 .none := by
    have := Heap.get?_push_size (s.heap.push { cls := .type "tuple_iterator", data := .fields #[.ref l, .int 0 0] })
      (o := { cls := .type "enumerate", data := .fields #[.none, .bool false, .ref s.heap.objs.size, rawInt 0, .none, .none] }) rfl
    rw [hz] at this; exact this
  exact ⟨⟨_, he, rfl⟩, h _ he ⟨_, Heap.get?_push_of_some _ (Heap.get?_push_size _ rfl), rfl, rfl⟩ fun b o x => Heap.get?_push_of_some _ (Heap.get?_push_of_some _ x)⟩
end
open PySem.Spec PyProof.Rows L2
def IteT (K : PySem.W.Frag) (a : Addr) : It :=
  ⟨fun i H => ∃ (xs : List V) (x : V), SqT K H a xs ∧ xs[i]? = some x, fun i H v H' => ∃ T x, v = .ref T ∧ H T = none ∧ H' = upd H T (.tup [.int (i : Nat), x]) ∧ ∀ xs, SqT K H a xs → xs[i]? = some x, fun i H => ∃ xs : List V, SqT K H a xs ∧ i = xs.length⟩
theorem turn_enumT {P : Program} {w : World} {K : PySem.W.Frag} {elts : List Expr} {kk : Nat} {tpos : Pos} (a e it : Addr) :
    Turn P w K (.Tuple elts kk tpos) (IteT K a) [e, it] e (fun i h => (∃ old, IsEnum h e it ((i : Nat) : Int) old) ∧ h.IsTupleIter it a i ∧ e ≠ it ∧ a ≠ it ∧ e ≠ a) where
  mem := by simp
  obj := fun i h st b hb => by
    obtain ⟨⟨old, he⟩, ⟨o, ho, hc, hd⟩, _⟩ := st
    have e' : b = e ∨ b = it := by simpa using hb
    rcases e' with z | z
    · rw [z]; exact ⟨_, he, fun v q => nomatch q⟩
    · rw [z]; exact ⟨o, ho, fun v q => by rw [hd] at q; cases q⟩
  keep := fun i h h' st k => let ⟨⟨old, he⟩, hi, hne⟩ := st; ⟨⟨old, k e (by simp) _ he⟩, hi.at fun o q => k it (by simp) o q, hne⟩
  item := by
    intro X hP hw hK hc i pins s σ H E I hf st hg
    subst hP hw hK
    obtain ⟨⟨old, he⟩, hit, hne, hai, hea⟩ := st
    obtain ⟨xs, x, hq, hx⟩ := hg
    obtain ⟨its, rv, p, hz⟩ := I.tuple hq
    obtain ⟨u, hu, ru⟩ := rv.get hx
    have hel : e < s.heap.objs.size := Heap.lt_size he
    have hil : it < s.heap.objs.size := by obtain ⟨_, q, _⟩ := hit; exact Heap.lt_size q
    have hlt : i < its.toArray.size := by
      have := (List.getElem?_eq_some_iff.mp hu).1
      simpa using this
    have hd : X.A.in1.handled = none := I.ok.hd hc
    refine wpAny_pyNext_enum_itemC (Draws.tuple hd it a hai its.toArray) he ⟨hit, p⟩ hlt hne (by simp; exact ⟨hne, hea⟩) fun x' h' tk hPx ho hst hT hsz hk => ?_
    have hx' : x' = u := by
      have : its.toArray[i]? = some x' := hPx
      have h2 : its.toArray[i]? = some u := by simpa using hu
      rw [this] at h2; exact Option.some.inj h2
    subst hx'
    refine ⟨_, rfl, wpAny_letOwnedTupleGo_enum (s := { s with heap := h', toks := tk + 1 }) ho fun h'' he' sb => ?_⟩
    have hT2 : h''.get? s.heap.objs.size = some { cls := .type "tuple", data := .seq #[.int i tk, x'] } := (sb.2 _ (Nat.ne_of_gt hel)).trans hT
    have new : ObjOk X.prog X.w (upd H s.heap.objs.size (.tup [.int (i : Nat), x])) h'' s.heap.objs.size (.tup [.int (i : Nat), x]) :=
      ⟨by show 2 ≤ sizeLine; decide, [.int i tk, x'], .cons ⟨_, rfl⟩ (.cons ru .nil), ⟨_, hT2, rfl, _, rfl⟩⟩
    have I1 : Inv X pins σ (upd H s.heap.objs.size (.tup [.int (i : Nat), x])) { s with heap := h'', toks := tk + 1 } :=
      I.turnedNew (t' := tk + 1) (ch := [e, it]) (fun b ob hb q => (sb.2 b (fun z => hb (by simp [z]))).trans (hk b ob (fun z => hb (by simp [z])) (fun z => hb (by simp [z])) q)) hf (Nat.le_refl _) new
    refine ⟨.ref s.heap.objs.size, _, I1, rfl, ⟨_, x, rfl, I.hok.fresh (Nat.le_refl _), rfl, fun ys hy => by rw [I.tuple_inj hy hq]; exact hx⟩, ⟨⟨x', ?_⟩, hst.1.at fun o q => (sb.2 it (Ne.symm hne)).trans q, hne, hai, hea⟩, fun b hb => ?_⟩
    · have e1 : ((i + 1 : Nat) : Int) = (i : Int) + 1 := by omega
      rw [e1]; exact he'
    · have hb' : b < s.heap.objs.size := by
        have e' : b = e ∨ b = it := by simpa using hb
        rcases e' with z | z
        · rw [z]; exact hel
        · rw [z]; exact hil
      rw [upd_ne (Nat.ne_of_lt hb')]
      exact (hf b hb).1
  done := by
    intro X hP hw hK hc i pins s σ H E I hf st hg
    subst hP hw hK
    obtain ⟨⟨old, he⟩, hit, hne, hai, hea⟩ := st
    obtain ⟨xs, hq, hx⟩ := hg
    obtain ⟨its, rv, p, hz⟩ := I.tuple hq
    obtain ⟨f0, f1, f2, f3, f4, f5⟩ := hf it (by simp)
    have hl := rv.length
    have hd : X.A.in1.handled = none := I.ok.hd hc
    have hi : i = its.toArray.size := by simp; omega
    subst hi
    exact wpAny_pyNext_enum_endD (Draws.tuple hd it a hai its.toArray) he ⟨hit, p⟩ fun h' eb => ⟨rfl, I.turned (t' := s.toks) (fun b o hb q => eb b o hb q) f0 f1 f3 f4 f5⟩
  self := fun A i s Q E st h => let ⟨⟨_, he⟩, _⟩ := st; wpAny_pyIter_enum he h
def iEnumT (K : PySem.W.Frag) (ta : TA) : TI := fun σ H R => ta σ H fun vs H1 => ∃ a xs, vs = [.ref a] ∧ SqT K H1 a xs ∧ R (IteT K a) H1
theorem pi_enumT {X : Cx} {e : Expr} {ta : TA} {p pos tpos : Pos} {elts : List Expr} {kk : Nat} (hg : Gl X "enumerate") (hm : X.mg "enumerate" = none) (ha : PA X [e] ta) (hs : starEach [e] X.env = [(false, eval e X.env)] := by rfl) :
    PI X (.Tuple elts kk tpos) (.Call (.Name "enumerate" p) [e] [] pos) (iEnumT X.K ta) := by
  refine ⟨fun pins s σ H R I h => ?_⟩
  refine Call_ (ld_blt I hg hm boot_enumerate (PyProof.Rows.callWith_type1 (thn (ha.run pos pins s σ H _ I h) fun us s1 ⟨vs, H1, I1, r1, q1⟩ => ?_) hs rfl))
  obtain ⟨a, xs, ex, hq, q⟩ := q1
  subst ex
  cases r1 with
  | cons r rr =>
    cases rr
    cases r
    obtain ⟨its, rv, p', hz⟩ := I1.tuple hq
    obtain ⟨oa, hoa, _⟩ := id p'
    have hal := Heap.lt_size hoa
    refine call_enumT (show s1.heap.IsTuple a its.toArray from p') fun h' he hit hk => wpAny_pyIter_enum he ?_
    have I2 : Inv X pins σ H1 { s1 with heap := h' } := I1.kept (t' := s1.toks) hk
    refine ⟨s1.heap.objs.size + 1, [s1.heap.objs.size + 1, s1.heap.objs.size], _, _, H1, rfl, I2, turn_enumT a (s1.heap.objs.size + 1) s1.heap.objs.size, ⟨⟨.none, he⟩, hit, Nat.succ_ne_self _, Nat.ne_of_lt hal, fun z => Nat.lt_irrefl a (Nat.lt_of_lt_of_le hal (z ▸ Nat.le_succ _))⟩, fun b hb => ?_, q⟩
    have hle : s1.heap.objs.size ≤ b := by
      have e' : b = s1.heap.objs.size + 1 ∨ b = s1.heap.objs.size := by simpa using hb
      rcases e' with z | z
      · rw [z]; exact Nat.le_succ _
      · rw [z]; exact Nat.le_refl _
    exact I1.fpOk hle (I1.hok.fresh hle)
theorem walk_enumT {K : PySem.W.Frag} {a : Addr} {xs : List V} : Walk (IteT K a) xs.length (fun H => SqT K H a xs) (YPair (fun i => some (.int (i : Nat))) (fun i => xs[i]?)) := by
  refine ⟨fun i _ hi q => ⟨xs, xs[i], q, by simp [hi]⟩, fun _ q => ⟨xs, q, rfl⟩, fun i H v H' _ q y => ?_⟩
  obtain ⟨T, x, h1, h2, h3, h4⟩ := y
  exact ⟨T, .int (i : Nat), x, h1, h2, h3, rfl, h4 xs q⟩
end TZ
namespace TY
open PySem
section
variable {prog : Program} {w : World} {A : Around} {E : Value → Shared → Prop} {s : Shared}
theorem zipS_item {z TI TO i1 i2 l2 : Addr} {k1 k2 : Nat} {l1 : Addr} {xs ys : Array Value} {x y a b : Value} {Q : Value → Shared → Prop} (D : ZipApart z TI TO i1 i2 l1 l2)
    (hz : IsZip s.heap z TI TO .none) (hTI : IsPair s.heap TI (.ref i1) (.ref i2)) (hTO : IsPair s.heap TO a b)
    (h1 : s.heap.IsListIter i1 l1 k1) (h2 : s.heap.IsTupleIter i2 l2 k2) (hl1 : s.heap.IsList l1 xs) (hl2 : s.heap.IsTuple l2 ys) (hx : xs[k1]? = some x) (hy : ys[k2]? = some y)
    (hQ : ∀ h' tk, IsZip h' z TI TO (rawInt s.heap.objs.size) → IsPair h' TO x y → h'.IsListIter i1 l1 (k1 + 1) → h'.IsTupleIter i2 l2 (k2 + 1) → IsPair h' s.heap.objs.size x y → h'.objs.size = s.heap.objs.size + 1 →
      (∀ c o, c ≠ z → c ≠ TO → c ≠ i1 → c ≠ i2 → s.heap.get? c = some o → h'.get? c = some o) → Q (.ref s.heap.objs.size) { s with heap := h', toks := tk }) :
    wpAny (model prog w) A (Builtin.«zip.__next__» ⟨[.ref z], []⟩) (fun fin s' => ∃ v, fin = .done (.ret v) ∧ Q v s') E s := by
  show wpAny _ _ (field (.ref z) 2 >>= _) _ _ _
  refine wpAny_bind (wpAny_field hz rfl (x := .bool false) rfl ?_)
  show wpAny _ _ (field (.ref z) 3 >>= _) _ _ _
  refine wpAny_bind (wpAny_field hz rfl (x := .ref TI) rfl ?_)
  refine wpAny_bind (wpAny_seqItems hTI rfl ?_)
  show wpAny _ _ (Builtin.SmallTypes.ownedTupleIsFree (.ref z) >>= _) _ _ _
  refine wpAny_bind ?_
  unfold Builtin.SmallTypes.ownedTupleIsFree
  refine wpAny_bind (wpAny_field hz rfl (x := .none) rfl (wpAny_pure ?_))
  simp only [if_true]
  refine wpAny_bind (wpAny_rule ?_)
  refine wpAny_bind (wpAny_field hz rfl (x := .ref TO) rfl ?_)
  refine wpAny_bind (wpAny_setField_rec hz (by simp) fun h₁ hz₁ hs₁ => ?_)
  replace hz₁ : IsZip h₁ z TI TO .ellipsis := hz₁
  refine wpAny_bind ?_
  simp only [List.zipIdx_cons, List.zipIdx_nil, List.forIn_cons, List.forIn_nil]
  refine wpAny_bind (wpAny_bind (wpAny_onRaise ?_))
  show wpAny _ _ (Builtin.SmallTypes.nextOf (.ref i1) >>= _) _ _ _
  refine wpAny_bind (wpAny_nextOf_list_item (h1.extBut hs₁.extBut D.i1z) (hl1.extBut hs₁.extBut D.l1z) hx fun h₂ h1₂ hs₂ => wpAny_pure ?_)
  have hTO₂ : IsPair h₂ TO a b := hs₂.extBut _ _ D.TOi1 (hs₁.extBut _ _ D.TOz hTO)
  refine wpAny_bind (wpAny_seqItems hTO₂ rfl ?_)
  refine wpAny_bind (wpAny_updateSeq_pair hTO₂ fun h₃ hTO₃ hs₃ => ?_)
  replace hTO₃ : IsPair h₃ TO x b := hTO₃
  refine wpAny_bind (wpAny_letGo (wpAny_pure ?_))
  refine wpAny_bind (wpAny_bind (wpAny_onRaise ?_))
  show wpAny _ _ (Builtin.SmallTypes.nextOf (.ref i2) >>= _) _ _ _
  refine wpAny_bind (RZ.nextOf_tuple_item (((h2.extBut hs₁.extBut D.i2z).extBut hs₂.extBut D.i12.symm).extBut hs₃.extBut D.TOi2.symm)
    (((hl2.extBut hs₁.extBut D.l2z).extBut hs₂.extBut D.l2i1).extBut hs₃.extBut D.l2TO) hy fun h₄ h2₄ hs₄ => wpAny_pure ?_)
  have hTO₄ : IsPair h₄ TO x b := hs₄.extBut _ _ D.TOi2 hTO₃
  refine wpAny_bind (wpAny_seqItems hTO₄ rfl ?_)
  refine wpAny_bind (wpAny_updateSeq_pair hTO₄ fun h₅ hTO₅ hs₅ => ?_)
  replace hTO₅ : IsPair h₅ TO x y := hTO₅
  refine wpAny_bind (wpAny_letGo (wpAny_pure (wpAny_pure ?_)))
  refine wpAny_bind (wpAny_seqItems hTO₅ rfl ?_)
  refine wpAny_bind (wpAny_newTuple ?_)
  have hsz : h₅.objs.size = s.heap.objs.size := by rw [hs₅.1, hs₄.1, hs₃.1, hs₂.1, hs₁.1]
  have hz₅ : IsZip h₅ z TI TO .ellipsis := hs₅.extBut _ _ D.TOz.symm (hs₄.extBut _ _ D.i2z.symm (hs₃.extBut _ _ D.TOz.symm (hs₂.extBut _ _ D.i1z.symm hz₁)))
  have hk₅ : ∀ c o, c ≠ z → c ≠ TO → c ≠ i1 → c ≠ i2 → s.heap.get? c = some o → h₅.get? c = some o := fun c o c1 c2 c3 c4 e =>
    hs₅.extBut _ _ c2 (hs₄.extBut _ _ c4 (hs₃.extBut _ _ c2 (hs₂.extBut _ _ c3 (hs₁.extBut _ _ c1 e))))
  have h1₅ : h₅.IsListIter i1 l1 (k1 + 1) := ((h1₂.extBut hs₃.extBut D.TOi1.symm).extBut hs₄.extBut D.i12).extBut hs₅.extBut D.TOi1.symm
  have h2₅ : h₅.IsTupleIter i2 l2 (k2 + 1) := h2₄.extBut hs₅.extBut D.TOi2.symm
  have hzlt : z < h₅.objs.size := Heap.lt_size hz₅
  show wpAny _ _ (Builtin.SmallTypes.ownedTupleHandOut (.ref z) (.ref h₅.objs.size) >>= _) _ _ _
  refine wpAny_bind ?_
  unfold Builtin.SmallTypes.ownedTupleHandOut
  have hz₆ : IsZip (h₅.push { cls := .type "tuple", data := .seq #[x, y] }) z TI TO .ellipsis := Heap.get?_push_of_some _ hz₅
  refine wpAny_bind (wpAny_setField_rec hz₆ (by simp) fun h₇ hz₇ hs₇ => ?_)
  replace hz₇ : IsZip h₇ z TI TO (rawInt h₅.objs.size) := hz₇
  refine wpAny_setField_rec hz₇ (by simp) fun h₈ hz₈ hs₈ => ?_
  replace hz₈ : IsZip h₈ z TI TO (rawInt h₅.objs.size) := hz₈
  have up : ∀ c o, c ≠ z → h₅.get? c = some o → h₈.get? c = some o := fun c o c1 e => hs₈.extBut _ _ c1 (hs₇.extBut _ _ c1 (Heap.get?_push_of_some _ e))
  have hT₈ : IsPair h₈ h₅.objs.size x y := hs₈.extBut _ _ (Nat.ne_of_gt hzlt) (hs₇.extBut _ _ (Nat.ne_of_gt hzlt) (Heap.get?_push_size _ rfl))
  have hz8 : h₈.objs.size = h₅.objs.size + 1 := by rw [hs₈.1, hs₇.1, Heap.size_push]
  rw [hsz] at hz₈ hT₈ hz8
  refine wpAny_pure ⟨_, rfl, ?_⟩
  show Q (.ref h₅.objs.size) _
  rw [hsz]
  exact hQ h₈ _ hz₈ (up _ _ D.TOz hTO₅) (h1₅.at fun o e => up _ o D.i1z e) (h2₅.at fun o e => up _ o D.i2z e) hT₈ hz8 fun c o c1 c2 c3 c4 e => up c o c1 (hk₅ c o c1 c2 c3 c4 e)
theorem zipS_end {z TI TO i1 i2 l1 : Addr} {k1 : Nat} {xs : Array Value} {Q : Fin → Shared → Prop} (hh : A.handled = none) (d1 : i1 ≠ z)
    (hz : IsZip s.heap z TI TO .none) (hTI : IsPair s.heap TI (.ref i1) (.ref i2))
    (h1 : s.heap.IsListIter i1 l1 k1) (hl1 : s.heap.IsList l1 xs) (d2 : l1 ≠ z) (hx : xs[k1]? = none)
    (hE : ∀ h' e, (∀ c o, c ≠ z → c ≠ TO → c ≠ i1 → c ≠ i2 → s.heap.get? c = some o → h'.get? c = some o) → (∃ o, h'.get? e = some o ∧ o.cls = .type "StopIteration") → E (.ref e) { s with heap := h' }) :
    wpAny (model prog w) A (Builtin.«zip.__next__» ⟨[.ref z], []⟩) Q E s := by
  show wpAny _ _ (field (.ref z) 2 >>= _) _ _ _
  refine wpAny_bind (wpAny_field hz rfl (x := .bool false) rfl ?_)
  show wpAny _ _ (field (.ref z) 3 >>= _) _ _ _
  refine wpAny_bind (wpAny_field hz rfl (x := .ref TI) rfl ?_)
  refine wpAny_bind (wpAny_seqItems hTI rfl ?_)
  show wpAny _ _ (Builtin.SmallTypes.ownedTupleIsFree (.ref z) >>= _) _ _ _
  refine wpAny_bind ?_
  unfold Builtin.SmallTypes.ownedTupleIsFree
  refine wpAny_bind (wpAny_field hz rfl (x := .none) rfl (wpAny_pure ?_))
  simp only [if_true]
  refine wpAny_bind (wpAny_rule ?_)
  refine wpAny_bind (wpAny_field hz rfl (x := .ref TO) rfl ?_)
  refine wpAny_bind (wpAny_setField_rec hz (by simp) fun h₁ hz₁ hs₁ => ?_)
  replace hz₁ : IsZip h₁ z TI TO .ellipsis := hz₁
  refine wpAny_bind ?_
  simp only [List.zipIdx_cons, List.zipIdx_nil, List.forIn_cons, List.forIn_nil]
  refine wpAny_bind (wpAny_bind (wpAny_onRaise ?_))
  show wpAny _ _ (Builtin.SmallTypes.nextOf (.ref i1) >>= _) _ _ _
  refine wpAny_bind (wpAny_nextOf_list_end hh (h1.extBut hs₁.extBut d1) (hl1.extBut hs₁.extBut d2) hx fun h₂ e hs₂ he => ?_)
  obtain ⟨oe, hoe, hce⟩ := he
  have hz₂ : IsZip h₂ z TI TO .ellipsis := hs₂ _ _ d1.symm hz₁
  have hez : e ≠ z := fun x => by subst x; rw [hz₂] at hoe; cases hoe; simp at hce
  refine wpAny_setField_rec hz₂ (by simp) fun h₃ _ hs₃ => hE h₃ e (fun c o c1 _ c3 _ x => hs₃.extBut _ _ c1 (hs₂ _ _ c3 (hs₁.extBut _ _ c1 x))) ⟨oe, hs₃.extBut _ _ hez hoe, hce⟩
theorem pyNext_item {z TI TO i1 i2 l2 : Addr} {k1 k2 : Nat} {l1 : Addr} {xs ys : Array Value} {x y a b : Value} {Q : Option Value → Shared → Prop} (D : ZipApart z TI TO i1 i2 l1 l2)
    (hz : IsZip s.heap z TI TO .none) (hTI : IsPair s.heap TI (.ref i1) (.ref i2)) (hTO : IsPair s.heap TO a b)
    (h1 : s.heap.IsListIter i1 l1 k1) (h2 : s.heap.IsTupleIter i2 l2 k2) (hl1 : s.heap.IsList l1 xs) (hl2 : s.heap.IsTuple l2 ys) (hx : xs[k1]? = some x) (hy : ys[k2]? = some y)
    (hQ : ∀ h' tk, IsZip h' z TI TO (rawInt s.heap.objs.size) → IsPair h' TO x y → h'.IsListIter i1 l1 (k1 + 1) → h'.IsTupleIter i2 l2 (k2 + 1) → IsPair h' s.heap.objs.size x y → h'.objs.size = s.heap.objs.size + 1 →
      (∀ c o, c ≠ z → c ≠ TO → c ≠ i1 → c ≠ i2 → s.heap.get? c = some o → h'.get? c = some o) → Q (some (.ref s.heap.objs.size)) { s with heap := h', toks := tk }) :
    wpAny (model prog w) A (pyNext (.ref z)) Q E s := by
  have hT : s.TypeIs (.ref z) "zip" := ⟨_, hz, rfl⟩
  unfold pyNext
  exact wpAny_bind (wpAny_attempt (wpAny_callSpecial?_slot (name := Str.ofString "__next__") hT F.slot_zip_next
    (wpAny_call_entry F.slot_zip_next hT F.entry_zip_next
      (zipS_item D hz hTI hTO h1 h2 hl1 hl2 hx hy fun h' tk a1 a2 a3 a4 a5 a6 a7 => wpAny_pure (hQ h' tk a1 a2 a3 a4 a5 a6 a7)) (F.args_zip_next_1 _))))
theorem pyNext_end {z TI TO i1 i2 l1 : Addr} {k1 : Nat} {xs : Array Value} {Q : Option Value → Shared → Prop} (hh : A.handled = none) (d1 : i1 ≠ z)
    (hz : IsZip s.heap z TI TO .none) (hTI : IsPair s.heap TI (.ref i1) (.ref i2))
    (h1 : s.heap.IsListIter i1 l1 k1) (hl1 : s.heap.IsList l1 xs) (d2 : l1 ≠ z) (hx : xs[k1]? = none)
    (hQ : ∀ h', (∀ c o, c ≠ z → c ≠ TO → c ≠ i1 → c ≠ i2 → s.heap.get? c = some o → h'.get? c = some o) → Q none { s with heap := h' }) : wpAny (model prog w) A (pyNext (.ref z)) Q E s := by
  have hT : s.TypeIs (.ref z) "zip" := ⟨_, hz, rfl⟩
  unfold pyNext
  refine wpAny_bind (wpAny_attempt (wpAny_callSpecial?_slot (name := Str.ofString "__next__") hT F.slot_zip_next
    (wpAny_call_entry F.slot_zip_next hT F.entry_zip_next (zipS_end hh d1 hz hTI h1 hl1 d2 hx fun h' e hk he => ?_) (F.args_zip_next_1 _))))
  obtain ⟨o, ho, hc⟩ := he
  refine wpAny_bind (wpAny_isInstance (T := "StopIteration") (b := true) ⟨o, ho, hc⟩ isSubtype_stop ?_)
  exact wpAny_pure (hQ _ hk)
end
abbrev zs1 (h : Heap) (l1 : Addr) : Heap := h.push { cls := .type "list_iterator", data := .fields #[.ref l1, .int 0 0] }
abbrev zs2 (h : Heap) (l1 : Addr) (l2 : Addr) : Heap := (zs1 h l1).push { cls := .type "tuple_iterator", data := .fields #[.ref l2, .int 0 0] }
abbrev zs3 (h : Heap) (l1 : Addr) (l2 : Addr) : Heap := (zs2 h l1 l2).push { cls := .type "tuple", data := .seq #[.ref h.objs.size, .ref (zs1 h l1).objs.size] }
abbrev zs4 (h : Heap) (l1 : Addr) (l2 : Addr) : Heap := (zs3 h l1 l2).push { cls := .type "tuple", data := .seq #[.none, .none] }
abbrev zs5 (h : Heap) (l1 : Addr) (l2 : Addr) : Heap := (zs4 h l1 l2).push { cls := .type "zip", data := .fields #[.none, .bool false, .bool false, .ref (zs2 h l1 l2).objs.size, .ref (zs3 h l1 l2).objs.size] }
theorem meets_new (l1 l2 : Addr) (xs ys : Array Value) :
    Meets (Builtin.«zip.__new__» ⟨[.type "zip", .ref l1, .ref l2], []⟩) (fun _ R s => (s.heap.IsList l1 xs ∧ s.heap.IsTuple l2 ys) ∧
      R (.ok (.ret (.ref (zs4 s.heap l1 l2).objs.size))) { s with heap := zs5 s.heap l1 l2 }) :=
  .of_wp fun prog w A R s h => by
    obtain ⟨hp, g, d, tk, os⟩ := s; obtain ⟨⟨hl1, hl2⟩, h⟩ := h
    have hL1 : Heap.IsList (Shared.heap ⟨hp, g, d, tk, os⟩) l1 xs := hl1
    have hsub := sub_zip
    have hL2 : Heap.IsTuple (Shared.heap ⟨hp.push { cls := .type "list_iterator", data := .fields #[.ref l1, .int 0 0] }, g, d, tk, os⟩) l2 ys := Heap.IsTuple.push hl2 _
    wp_walk using wpAny_pyIter_list hL1, wpAny_pyIter_tuple hL2
    exact ⟨_, rfl, h⟩
section
variable {prog : Program} {w : World} {A : Around} {E : Value → Shared → Prop} {s : Shared}
theorem call_zipS {l1 l2 : Addr} {xs ys : Array Value} {Q : Value → Shared → Prop} (hl1 : s.heap.IsList l1 xs) (hl2 : s.heap.IsTuple l2 ys)
    (h : ∀ h', IsZip h' (s.heap.objs.size + 4) (s.heap.objs.size + 2) (s.heap.objs.size + 3) .none → IsPair h' (s.heap.objs.size + 2) (.ref s.heap.objs.size) (.ref (s.heap.objs.size + 1)) →
      IsPair h' (s.heap.objs.size + 3) .none .none → h'.IsListIter s.heap.objs.size l1 0 → h'.IsTupleIter (s.heap.objs.size + 1) l2 0 →
      (∀ c o, s.heap.get? c = some o → h'.get? c = some o) → Q (.ref (s.heap.objs.size + 4)) { s with heap := h' }) :
    wpAny (model prog w) A (call (.type "zip") [.ref l1, .ref l2]) Q E s := by
  refine callType_new F.called_zip (by decide) (F.typeCall_zip_2 _ _) (F.newCall_zip_2 _ _) (fun obj => F.args_object_init_3 obj _ _) F.entry_zip_new
    (meets_new l1 l2 xs ys) ⟨⟨hl1, hl2⟩, ?_⟩
  have z1 : (zs1 s.heap l1).objs.size = s.heap.objs.size + 1 := Heap.size_push ..
  have z2 : (zs2 s.heap l1 l2).objs.size = s.heap.objs.size + 2 := by rw [Heap.size_push, z1]
  have z3 : (zs3 s.heap l1 l2).objs.size = s.heap.objs.size + 3 := by rw [Heap.size_push, z2]
  have z4 : (zs4 s.heap l1 l2).objs.size = s.heap.objs.size + 4 := by rw [Heap.size_push, z3]
  have g5 : (zs5 s.heap l1 l2).get? (zs4 s.heap l1 l2).objs.size = some _ := Heap.get?_push_size _ rfl
  have g4 : (zs5 s.heap l1 l2).get? (zs3 s.heap l1 l2).objs.size = some _ := Heap.get?_push_of_some _ (Heap.get?_push_size _ rfl)
  have g3 : (zs5 s.heap l1 l2).get? (zs2 s.heap l1 l2).objs.size = some _ := Heap.get?_push_of_some _ (Heap.get?_push_of_some _ (Heap.get?_push_size _ rfl))
  have g2 : (zs5 s.heap l1 l2).get? (zs1 s.heap l1).objs.size = some _ := Heap.get?_push_of_some _ (Heap.get?_push_of_some _ (Heap.get?_push_of_some _ (Heap.get?_push_size _ rfl)))
  have g1 : (zs5 s.heap l1 l2).get? s.heap.objs.size = some _ := Heap.get?_push_of_some _ (Heap.get?_push_of_some _ (Heap.get?_push_of_some _ (Heap.get?_push_of_some _ (Heap.get?_push_size _ rfl))))
  show _ ∧ _
  rw [z2, z3, z4] at g5
  rw [z1, z2] at g3
  rw [z3] at g4
  rw [z1] at g2
  rw [z4]
  exact ⟨⟨_, g5, rfl⟩, h _ g5 g3 g4 ⟨_, g1, rfl, rfl⟩ ⟨_, g2, rfl, rfl⟩ fun c o x =>
    Heap.get?_push_of_some _ (Heap.get?_push_of_some _ (Heap.get?_push_of_some _ (Heap.get?_push_of_some _ (Heap.get?_push_of_some _ x))))⟩
end
open PySem.Spec PyProof.Rows L2
def ItzL (K : PySem.W.Frag) (a b : Addr) : It :=
  ⟨fun i H => ∃ (xs ys : List V) (x y : V), SqL K H a xs ∧ SqT K H b ys ∧ xs[i]? = some x ∧ ys[i]? = some y,
    fun i H v H' => ∃ T x y, v = .ref T ∧ H T = none ∧ H' = upd H T (.tup [x, y]) ∧ (∀ xs, SqL K H a xs → xs[i]? = some x) ∧ ∀ ys, SqT K H b ys → ys[i]? = some y,
    fun i H => ∃ xs : List V, SqL K H a xs ∧ xs.length ≤ i⟩
theorem turn_zipL {P : Program} {w : World} {K : PySem.W.Frag} {elts : List Expr} {kk : Nat} {tpos : Pos} {a b z TI TO i1 i2 : Addr} (D : ZipApart z TI TO i1 i2 a b) :
    Turn P w K (.Tuple elts kk tpos) (ItzL K a b) [z, TI, TO, i1, i2] z (fun i h => IsZip h z TI TO .none ∧ IsPair h TI (.ref i1) (.ref i2) ∧ (∃ x y, IsPair h TO x y) ∧ h.IsListIter i1 a i ∧ h.IsTupleIter i2 b i) where
  mem := by simp
  obj := fun i h st c hc => by
    obtain ⟨hz, hTI, ⟨x, y, hTO⟩, ⟨o1, e1, _, d1⟩, ⟨o2, e2, _, d2⟩⟩ := st
    have e' : c = z ∨ c = TI ∨ c = TO ∨ c = i1 ∨ c = i2 := by simpa using hc
    rcases e' with q | q | q | q | q
    · rw [q]; exact ⟨_, hz, fun v q => nomatch q⟩
    · rw [q]; exact ⟨_, hTI, fun v q => nomatch q⟩
    · rw [q]; exact ⟨_, hTO, fun v q => nomatch q⟩
    · rw [q]; exact ⟨o1, e1, fun v q => by rw [d1] at q; cases q⟩
    · rw [q]; exact ⟨o2, e2, fun v q => by rw [d2] at q; cases q⟩
  keep := fun i h h' st k => by
    obtain ⟨hz, hTI, ⟨x, y, hTO⟩, h1, h2⟩ := st
    exact ⟨k z (by simp) _ hz, k TI (by simp) _ hTI, ⟨x, y, k TO (by simp) _ hTO⟩, h1.at fun o q => k i1 (by simp) o q, h2.at fun o q => k i2 (by simp) o q⟩
  item := by
    intro X hP hw hK hc i pins s σ H E I hf st hg
    subst hP hw hK
    obtain ⟨hz, hTI, ⟨x0, y0, hTO⟩, h1, h2⟩ := st
    obtain ⟨xs, ys, x, y, hqx, hqy, hx, hy⟩ := hg
    obtain ⟨its, rv, p, _⟩ := I.list hqx
    obtain ⟨its2, rv2, p2, _⟩ := I.tuple hqy
    obtain ⟨u, hu, ru⟩ := rv.get hx
    obtain ⟨u2, hu2, ru2⟩ := rv2.get hy
    have hzl : z < s.heap.objs.size := Heap.lt_size hz
    refine pyNext_item D hz hTI hTO h1 h2 p.isList p2 (x := u) (y := u2) (by simpa using hu) (by simpa using hu2) fun h' tk z' TO' h1' h2' hT hsz hk => ?_
    refine ⟨_, rfl, wpAny_letOwnedTupleGo_zip (s := { s with heap := h', toks := tk }) z' fun h'' z'' sb => ?_⟩
    have hT2 : h''.get? s.heap.objs.size = some { cls := .type "tuple", data := .seq #[u, u2] } := (sb.2 _ (Nat.ne_of_gt hzl)).trans hT
    have new : ObjOk X.prog X.w (upd H s.heap.objs.size (.tup [x, y])) h'' s.heap.objs.size (.tup [x, y]) :=
      ⟨by show 2 ≤ sizeLine; decide, [u, u2], .cons ru (.cons ru2 .nil), ⟨_, hT2, rfl, _, rfl⟩⟩
    have I1 : Inv X pins σ (upd H s.heap.objs.size (.tup [x, y])) { s with heap := h'', toks := tk } :=
      I.turnedNew (t' := tk) (ch := [z, TI, TO, i1, i2]) (fun c o hb q => (sb.2 c (fun q' => hb (by simp [q']))).trans (hk c o (fun q' => hb (by simp [q'])) (fun q' => hb (by simp [q'])) (fun q' => hb (by simp [q'])) (fun q' => hb (by simp [q'])) q)) hf (Nat.le_refl _) new
    refine ⟨.ref s.heap.objs.size, _, I1, rfl, ⟨_, x, y, rfl, I.hok.fresh (Nat.le_refl _), rfl, fun l hl => by rw [I.list_inj hl hqx]; exact hx, fun l hl => by rw [I.tuple_inj hl hqy]; exact hy⟩, ⟨z'', ?_, ⟨u, u2, ?_⟩, ?_, ?_⟩, fun c hcm => ?_⟩
    · exact (sb.2 _ D.TIz).trans (hk _ _ D.TIz D.TITO D.TIi1 D.TIi2 hTI)
    · exact (sb.2 _ D.TOz).trans TO'
    · exact h1'.at fun o q => (sb.2 _ D.i1z).trans q
    · exact h2'.at fun o q => (sb.2 _ D.i2z).trans q
    · have hlt : c < s.heap.objs.size := by
        have e' : c = z ∨ c = TI ∨ c = TO ∨ c = i1 ∨ c = i2 := by simpa using hcm
        rcases e' with q | q | q | q | q
        · rw [q]; exact hzl
        · rw [q]; exact Heap.lt_size hTI
        · rw [q]; exact Heap.lt_size hTO
        · rw [q]; obtain ⟨_, e1, _⟩ := h1; exact Heap.lt_size e1
        · rw [q]; obtain ⟨_, e2, _⟩ := h2; exact Heap.lt_size e2
      rw [upd_ne (Nat.ne_of_lt hlt)]
      exact (hf c hcm).1
  done := by
    intro X hP hw hK hc i pins s σ H E I hf st hg
    subst hP hw hK
    obtain ⟨hz, hTI, ⟨x0, y0, hTO⟩, h1, h2⟩ := st
    obtain ⟨xs, hqx, hend⟩ := hg
    obtain ⟨its, rv, p, _⟩ := I.list hqx
    have l1 := rv.length
    exact pyNext_end (I.ok.hd hc) D.i1z hz hTI h1 p.isList D.l1z (by simp; omega) fun h' hk => ⟨rfl, I.turnedL (t' := s.toks) (ch := [z, TI, TO, i1, i2]) (fun c o hb q =>
      hk c o (fun q' => hb (by simp [q'])) (fun q' => hb (by simp [q'])) (fun q' => hb (by simp [q'])) (fun q' => hb (by simp [q'])) q) hf⟩
  self := fun A i s Q E st h => wpAny_pyIter_zip st.1 h
def iZipL (K : PySem.W.Frag) (ta : TA) : TI := fun σ H R => ta σ H fun vs H1 => ∃ (a b : Addr) (xs ys : List V), vs = [.ref a, .ref b] ∧ SqL K H1 a xs ∧ SqT K H1 b ys ∧ R (ItzL K a b) H1
theorem pi_zipL {X : Cx} {e e2 : Expr} {ta : TA} {p pos tpos : Pos} {elts : List Expr} {kk : Nat} (hg : Gl X "zip") (hm : X.mg "zip" = none) (ha : PA X [e, e2] ta)
    (hs : starEach [e, e2] X.env = (false, eval e X.env) :: starEach [e2] X.env := by rfl) (hpl : (backTo pos (starEach [e2] X.env)).any (·.1) = false := by rfl) :
    PI X (.Tuple elts kk tpos) (.Call (.Name "zip" p) [e, e2] [] pos) (iZipL X.K ta) := by
  refine ⟨fun pins s σ H R I h => ?_⟩
  refine Call_ (ld_blt I hg hm PyProof.Rows.boot_zip (PyProof.Rows.callWith_type1 (thn (ha.run pos pins s σ H _ I h) fun us s1 ⟨vs, H1, I1, r1, q1⟩ => ?_) hs hpl))
  obtain ⟨a, b, xs, ys, ex, hqx, hqy, q⟩ := q1
  subst ex
  cases r1 with
  | cons r rr =>
    cases rr with
    | cons r' rr =>
      cases rr
      cases r
      cases r'
      have fresh5 : ∀ c, c ∈ [s1.heap.objs.size + 4, s1.heap.objs.size + 2, s1.heap.objs.size + 3, s1.heap.objs.size, s1.heap.objs.size + 1] → FpOk X pins H1 c := fun c hcm => by
        have e' : c = s1.heap.objs.size + 4 ∨ c = s1.heap.objs.size + 2 ∨ c = s1.heap.objs.size + 3 ∨ c = s1.heap.objs.size ∨ c = s1.heap.objs.size + 1 := by simpa using hcm
        have hle : s1.heap.objs.size ≤ c := by
          rcases e' with z | z | z | z | z
          · rw [z]; exact Nat.le_add_right _ _
          · rw [z]; exact Nat.le_add_right _ _
          · rw [z]; exact Nat.le_add_right _ _
          · rw [z]; exact Nat.le_refl _
          · rw [z]; exact Nat.le_add_right _ _
        exact I1.fpOk hle (I1.hok.fresh hle)
      obtain ⟨its, rv, p1, _⟩ := I1.list hqx
      obtain ⟨its2, rv2, p2, _⟩ := I1.tuple hqy
      obtain ⟨o2, ho2, _⟩ := id p2
      refine call_zipS p1.isList (show s1.heap.IsTuple b its2.toArray from p2) fun h' hz hTI hTO h1 h2 hk => wpAny_pyIter_zip hz ?_
      have I2 : Inv X pins σ H1 { s1 with heap := h' } := I1.kept (t' := s1.toks) hk
      exact ⟨s1.heap.objs.size + 4, [s1.heap.objs.size + 4, s1.heap.objs.size + 2, s1.heap.objs.size + 3, s1.heap.objs.size, s1.heap.objs.size + 1], _, _, H1, rfl, I2, turn_zipL (PySem.W.ktu_apart s1.heap.objs.size a b p1.lt (Heap.lt_size ho2)), ⟨hz, hTI, ⟨_, _, hTO⟩, h1, h2⟩, fresh5, q⟩
theorem walk_zipL {K : PySem.W.Frag} {a b : Addr} {xs ys : List V} (hl : xs.length = ys.length) : Walk (ItzL K a b) xs.length (fun H => SqL K H a xs ∧ SqT K H b ys) (YPair (fun i => xs[i]?) (fun i => ys[i]?)) :=
  ⟨fun i _ hi q => ⟨xs, ys, xs[i], ys[i], q.1, q.2, by simp [hi], by simp [← hl, hi]⟩, fun _ q => ⟨xs, q.1, Nat.le_refl _⟩, fun _ _ _ _ _ q ⟨T, x, y, e1, e2, e3, e4, e5⟩ => ⟨T, x, y, e1, e2, e3, e4 xs q.1, e5 ys q.2⟩⟩
end TY
namespace TZ
open PySem PySem.Spec PyProof.Rows L2
theorem same_len {l l' : List Int} (h : l.Nodup) (h' : l'.Nodup) (hm : ∀ k, k ∈ l ↔ k ∈ l') : l.length = l'.length :=
  ((List.perm_ext_iff_of_nodup h h').mpr hm).length_eq
def tLenSetT (K : PySem.W.Frag) (ta : TE) : TE := fun σ H Q => ta σ H fun x H1 => ∃ (l : Addr) (ns : List Int), x = .ref l ∧ SqT K H1 l (ns.map V.int) ∧ ns.Nodup ∧ ns.length ≤ 4000 ∧ Q (.int (ns.length : Nat)) H1
theorem pe_lenSetT {X : Cx} {a : Expr} {ta : TE} {p p2 q pos : Pos} (hg : Gl X "len") (hm : X.mg "len" = none) (hg2 : Gl X "set") (hm2 : X.mg "set" = none) (ha : PE X a ta) (hc : X.calm = true := by rfl)
    (na : starEach [a] X.env = (false, eval a X.env) :: starEach [] X.env := by rfl) : PE X (.Call (.Name "len" p) [.Call (.Name "set" p2) [a] [] q] [] pos) (tLenSetT X.K ta) := by
  refine ⟨fun pins s σ H Q I h => ?_⟩
  refine Call_ (ld_blt I hg hm boot_len ?_)
  refine PyProof.Rows.callWith_builtin1 (PyProof.Rows.args_cons ?_ rfl) rfl rfl
  refine Call_ (ld_blt I hg2 hm2 boot_set ?_)
  refine PyProof.Rows.callWith_type1 (PyProof.Rows.args_cons (thn (ha.run pins s σ H _ I h) fun v s1 ⟨x, H1, I1, r1, q1⟩ => PyProof.Rows.args_nil ?_) na) na rfl
  obtain ⟨l, ns, rfl, hq, hnd, hl, q1⟩ := q1
  cases r1
  obtain ⟨its, r, pl, hz⟩ := I1.tuple hq
  refine call_set_tupI (w := X.w) ns (I1.ok.hd hc) (show s1.heap.IsTuple l its.toArray from pl) (by simpa using RZ.intsAre_vals r) (by unfold scanBound; omega) fun h' tk c hS hcl hk => ?_
  refine PyProof.Rows.args_nil ?_
  obtain ⟨o, es, ep, t, ho, hex, hd, hgood, hkn, hmem, hb, hf, hn, _⟩ := hS
  have I2 : Inv X pins σ H1 { s1 with heap := h', toks := tk } := I1.kept fun b o e => hk b o e
  have hsz : es.size = ns.length := by
    have := same_len hkn hnd fun k => by rw [← hmem k]; simp
    rw [List.length_map, Array.length_toList] at this
    exact this
  exact call_len_set ho hex hd hf (by omega) ⟨.int ns.length, H1, I2.tok _, ⟨_, by rw [hsz]⟩, q1⟩
end TZ
namespace TC
open PySem PySem.Spec PyProof.Rows L2
section
variable {P : Program} {w : World} {K : PySem.W.Frag} {mg : Str → Option Value} {base : Heap} {H H' H0 : Hp} {y s p : Addr} {a : LiA} {A : Fd → Addr} {S S' : LC.S} {σ : L2.St} {tb tx te tl tc tv : TE} {ta : TA} {D : Ends} {v x : V} {t1 t2 tz tu : TS} {t tt : TT} {b : Bool} {m nb U : Nat} {offs : List Off} {sp : List (Nat × Nat)}
theorem nl_lcR {α : Type} {ks : List α} {φ : α → V} {pr : α → Bool} {g : α → V} {j : Nat} {vs : List Nat} {R : Addr → Hp → Prop} (h : ∀ Q : VK, (∀ a H1, R a H1 → Q (.ref a) H1) → tl σ H Q) (hR : ∀ a H1, R a H1 → H1 a = some (.tup (ks.map φ))) (hl : ks.length ≤ 50000)
    (hw : ∀ x, wipe ((wipe σ vs).set j (some x)) vs = wipe σ vs)
    (ht : ∀ a H1, R a H1 → ∀ k ∈ ks, ∀ H', Ex H1 H' → L2.Ans tt ((wipe σ vs).set j (some (φ k))) H' (pr k)) (he : ∀ a H1, R a H1 → ∀ k ∈ ks, pr k = true → ∀ H', Ex H1 H' → Val te ((wipe σ vs).set j (some (φ k))) H' (g k)) {Q : VK}
    (q : ∀ a H1 p H', R a H1 → H1 p = none → Ex H1 H' → H' p = some (.lst ((ks.filter pr).map g)) → Q (.ref p) H') : tLc (iTup K tl) (gName j) tt te vs σ H Q := h _ fun a H1 r => ⟨a, rfl, ⟨_, SqT.of (hR a H1 r)⟩, fun Dl hD =>
  lc_tup (xs := ks.map φ) (LcP H1 ks pr g Dl) ⟨hD, Ex.new hD, by rw [upd_same]; rfl⟩ (fun i H' _ hp => ex_t hp.2.1 (SqT.of (hR a H1 r))) (fun i x H' hi hp => by
    rw [List.getElem?_map] at hi
    cases hk : ks[i]? with
    | none => rw [hk] at hi; cases hi
    | some k =>
      rw [hk] at hi
      cases hi
      have hm := List.mem_of_getElem? hk
      exact ⟨hw _, lc_turn hk hl hp (ht a H1 r k hm) (he a H1 r k hm)⟩) (fun H' hp => by
    rw [List.length_map] at hp
    have h3 := hp.2.2
    rw [List.take_length] at h3
    exact q a H1 Dl H' r hp.1 hp.2.1 h3)⟩
def spWayN (K : PySem.W.Frag) : Sp := fun vs H Q _ => ∃ (a : LiA) (m nb : Nat) (offs : List Off) (sp : List (Nat × Nat)) (S : LC.S) (U N : Nat) (o : Off), vs = [.ref a.l, .int (N : Nat)] ∧ LiH K H a m nb offs sp S U ∧ nb ≤ 103 ∧ U + 4 ≤ 2800 ∧ offs[N]? = some o ∧
  LC.Conn (LC.Lk (esOf offs) (LC.inK sp)) o.1 o.2.1 ∧ ∀ H' S' q r, LiH K H' a m nb offs sp S' (U + 4) → KeepF (Lf a) H H' → H' q = some (.tup (r.map iV)) → LC.Lead (esOf offs) o.1 o.2.1 r → r.Nodup → (∀ k ∈ r, LC.inK sp k) → Q (.ref q) H'
theorem nums_fm (sp : List (Nat × Nat)) (p : List Nat) : (p.filter fun x => (LC.numOf sp x).isSome).map (fun x => oV (LC.numOf sp x)) = (LC.nums sp p).map iV := by
  unfold LC.nums
  induction p with
  | nil => rfl
  | cons x p ih =>
    rw [List.filter_cons, List.filterMap_cons]
    cases h : LC.numOf sp x with
    | none => simpa [h] using ih
    | some k => simpa [h, oV, iV] using ih
theorem a_din {d : Addr} {kvs : List (Key × V)} {i : Int} {tk : TE} (hk : Val tk σ H (.int i)) (hd : Val tb σ H (.ref d)) (he : H d = some (.dK kvs)) : L2.Ans (tB (tDIn tk tb)) σ H (valV kvs (.inl i)).isSome := fun Q q =>
  hk _ (hd _ ⟨d, _, rfl, DGet.k (k := .inl i) he, ⟨_, rfl, q⟩⟩)
theorem a_dni {d : Addr} {kvs : List (Key × V)} {i : Int} {tk : TE} (hk : Val tk σ H (.int i)) (hd : Val tb σ H (.ref d)) (he : H d = some (.dK kvs)) : L2.Ans (tB (tDNotIn tk tb)) σ H (!(valV kvs (.inl i)).isSome) := fun Q q =>
  hk _ (hd _ ⟨d, _, rfl, DGet.k (k := .inl i) he, ⟨_, rfl, q⟩⟩)
theorem ret_cb {f : List V → Hp → VK → Prop} (h : te σ H fun v H1 => f [v] H1 D.rt) : tRet (tCB f (tCons te tNil)) D σ H := h
theorem nl_lcN {n : Nat} {pr : Nat → Bool} {g : Nat → V} {j : Nat} {vs : List Nat} (hta : Args ta σ H [.int (n : Nat)]) (hl : n ≤ 50000) (hw : ∀ x, wipe ((wipe σ vs).set j (some x)) vs = wipe σ vs)
    (ht : ∀ k, k < n → ∀ H', Ex H H' → L2.Ans tt ((wipe σ vs).set j (some (iV k))) H' (pr k)) (he : ∀ k, k < n → pr k = true → ∀ H', Ex H H' → Val te ((wipe σ vs).set j (some (iV k))) H' (g k)) :
    NewL (tLc (iRng1 ta) (gName j) tt te vs) σ H (((List.range n).filter pr).map g) := fun Q q => hta _ ⟨n, rfl, by omega, by omega, fun Dl hD =>
  lc_range (LcP H (List.range n) pr g Dl) ⟨hD, Ex.new hD, by rw [upd_same]; rfl⟩ (fun i H' hi hp => by
    rw [Int.toNat_natCast] at hi
    have hr : (List.range n)[i]? = some i := List.getElem?_range hi
    have e : (0 : Int) + (i : Int) = i := by omega
    rw [e]
    exact ⟨hw _, lc_turn hr (by rw [List.length_range]; exact hl) hp (ht i hi) (he i hi)⟩) (fun H' hp => by
    rw [Int.toNat_natCast] at hp
    have h3 := hp.2.2
    rw [List.take_of_length_le (by rw [List.length_range]; exact Nat.le_refl _)] at h3
    exact q Dl H' hp.1 hp.2.1 h3)⟩
theorem t_tup2 {v1 : V} {Q : VK} (h1 : Val te σ H v1) (h2 : tb σ H fun v2 H2 => 2 ≤ sizeLine ∧ ∀ p, H2 p = none → Q (.ref p) (upd H2 p (.tup [v1, v2]))) : tTup (tCons te (tCons tb tNil)) σ H Q := h1 _ h2
theorem lc_X {l : Addr} {xs : List V} {j : Nat} {vs : List Nat} {Q : VK} (h : Val tl σ H (.ref l)) (hx : SqL K H l xs) (hw : ∀ x, wipe ((wipe σ vs).set j (some x)) vs = wipe σ vs) (Pv : Addr → Nat → Hp → Prop) (h0 : ∀ D, H D = none → Pv D 0 (upd H D (.lst []))) (hl : ∀ D i H', H D = none → i ≤ xs.length → Pv D i H' → SqL K H' l xs)
    (hs : ∀ D i x H', H D = none → xs[i]? = some x → Pv D i H' → te ((wipe σ vs).set j (some x)) H' fun y H4 => ∃ acc, H4 D = some (.lst acc) ∧ acc.length < sizeLine ∧ Pv D (i + 1) (upd H4 D (.lst (acc ++ [y])))) (hd : ∀ D H', H D = none → Pv D xs.length H' → Q (.ref D) H') :
    tLc (iList K tl) (gName j) tYes te vs σ H Q := h _ ⟨l, rfl, ⟨_, hx⟩, fun Dl hD =>
  lc_list (xs := xs) (Pv Dl) (h0 Dl hD) (fun i H' hi hp => hl Dl i H' hD hi hp) (fun i x H' hi hp => ⟨hw _, ans_yes _ (by rw [if_pos rfl]; exact hs Dl i x H' hD hi hp)⟩) (fun H' hp => hd Dl H' hD hp)⟩
theorem LiAt.updl (h : LiAt K H a m offs sp S) {d : Addr} {xs ys : List V} (hd : H d = some (.lst xs)) (h1 : d ≠ a.o) (h2 : ∀ f, d ≠ a.A f) : LiAt K (upd H d (.lst ys)) a m offs sp S := by
  obtain ⟨⟨dx, ob⟩, ⟨refs, r1, r2⟩, e1, e2, wy, no, nd⟩ := h
  obtain ⟨dy, oy⟩ := wy.ob
  refine ⟨⟨dx, by rw [upd_ne (ne_of ob hd (by intro z; cases z))]; exact ob⟩, ⟨refs, by rw [upd_ne (Ne.symm h1)]; exact r1, r2.keep (TK.upd hd (fun _ => by intro z; cases z))⟩, by rw [upd_ne (ne_of e1 hd (by intro z; cases z))]; exact e1, by rw [upd_ne (ne_of e2 hd (by intro z; cases z))]; exact e2, ⟨⟨dy, by rw [upd_ne (ne_of oy hd (by intro z; cases z))]; exact oy⟩, wy.st.updn hd h2⟩, no, nd⟩
theorem ok_li_way_numbers (T : Tx w K mg) : Ok P w K mg base 11 .li_way_numbers (spWayN K) := by
  refine T.okd .li_way_numbers sc_li_way_numbers (fun vs H Q E h => ?_) (fun cdv A0 outer s0 H vs Q E hr h => ⟨_, (pss_cons (ps_asg (pe_ix ix_list (pe_fld (pv 0) rfl) (pv 1) (fun _ _ => rfl)) (pg_tup rfl (pgs_cons (pg_name (i := 2) sc_li_way_numbers.nd rfl (Or.inl rfl)) (pgs_cons (pg_name (i := 3) sc_li_way_numbers.nd rfl (Or.inl rfl)) (pgs_cons (pg_name (i := 4) sc_li_way_numbers.nd rfl (Or.inl rfl)) pgs_nil)))))
    (pss_one (ps_ret (pe_callTy call_tuple_of (by rfl) (T.free _ (by decide +kernel)) (by decide +kernel) (by exact (pa_cons (pe_lc (own := [("point", 5)]) (g := gName 5) (tt := (tB (tDIn (tVar 5) (tFld K (tVar 0) "numbers")))) (te := (tDGet (tFld K (tVar 0) "numbers") (tVar 5))) rfl sc_li_way_numbers.nd (pi_tup (pe_meth (pe_fld (pv 0) rfl) (T.cls .wy) (T.meth .wy _ (by decide +kernel)) (ok_wy_do T) (hr.mono (by decide)) (b_wy_do T) .nil pass0 (pa_cons (pe_tup (pa_cons pe_str (pa_cons (pv 2) (pa_cons (pv 3) pa_nil)))) pa_nil))) (blkOk_by (N := ["self", "number", "a", "b", "price", "point"]) (own := [("point", 5)]) (sc := defScope (Dn.sm .li_way_numbers)) (by decide +kernel)) (fun _ _ _ _ _ => (by exact (pg_name (i := 5) sc_li_way_numbers.nd rfl (Or.inl rfl)))) (fun _ _ _ _ _ => (by exact (pts_one (pt_cmp (pc_din (hu_of hr) (pv 5) (pe_fld (pv 0) rfl)))))) (fun _ _ _ _ _ => (by exact (pe_dget (hu_of hr) (pe_fld (pv 0) rfl) (pv 5) (fun _ _ => rfl))))) pa_nil)))))), ?_⟩)
  · obtain ⟨a, m, nb, offs, sp, S, U, N, o, rfl, _⟩ := h; rfl
  · obtain ⟨a, m, nb, offs, sp, S, U, N, ⟨oa, ob, oc⟩, rfl, hL, hn, hU, ho, hc, k⟩ := h
    obtain ⟨p, hp, hv⟩ := v_offi (σ := L2.start ["self", "number", "a", "b", "price", "point"] [V.ref a.l, V.int N]) (tb := tVar 0) (tx := tVar 1) T hL.at_ (vv rfl) (vv rfl) ho
    refine q_unp3 hv (SqT.of hp) ?_
    have hl := hL.lh.O.ends N oa ob (es_at ho)
    have hmn := hL.lh.O.mn
    obtain ⟨S2, S3, pt, f1, f2, f3, f4, f5, f6, f7, f8, f9⟩ := hL.lh.way hn hl.1 hl.2 hc
    have cS3 : S3.cnt ≤ cLim := cnt_ok f4.cnt hU
    have O3 := f4.O
    have ptl : pt.length ≤ 50000 := by
      have := LC.nodup_len _ _ f9 f8
      have := hL.lh.nb
      omega
    refine ret_cb (nl_lcR (ks := pt) (φ := iV) (pr := fun x => (LC.numOf sp x).isSome) (g := fun x => oV (LC.numOf sp x)) (R := fun q H1 => H1 q = some (.tup (pt.map iV)) ∧ LiH K H1 a m nb offs sp S3 (U + 4) ∧ KeepF (Lf a) H H1) (fun Q q => ?_) (fun _ _ r => r.1) ptl (fun _ => rfl) (fun q H1 r x hx H2 e2 => ?_) (fun q H1 r x hx hpx H2 e2 => ?_) (fun q H1 d H2 r hd e2 hd2 => ?_))
    · refine c_do hL.at_.wy (v_wys T hL.at_ (vv rfl)) (r := .way oa ob) (nu_tup (args1 vc (args1 (vv rfl) (args1 (vv rfl) args0))) (by show 3 ≤ 100000; decide)) rfl (fun z hz => by
        rcases List.mem_cons.mp hz with q | q
        · omega
        · rw [List.mem_singleton.mp q]; omega) (hL.n4 hn) ⟨S2, S3, pt, f1, f2, by omega, ?_⟩
      rintro H1 v ⟨q1, rfl, hq1⟩ W1 k1
      exact q _ _ ⟨hq1, ⟨hL.at_.ways W1 k1, f4⟩, KeepF.of k1 fun f => Lf.ofA f⟩
    · have L2 := (r.2.1.ex e2).at_
      have := a_din (i := (x : Int)) (tk := tVar 5) (vv rfl) (v_nms T L2 (vv rfl : Val (tVar 0) [some (.ref a.l), some (.int N), some (.int oa), some (.int ob), some (.int oc), some (iV x)] H2 (.ref a.l))) L2.e2
      rw [nmK_get O3, Option.isSome_map] at this
      exact this
    · have L2 := (r.2.1.ex e2).at_
      refine v_dget (i := (x : Int)) (v_nms T L2 (vv rfl)) (vv rfl) L2.e2 ?_
      rw [nmK_get O3]
      cases hk : LC.numOf sp x with
      | none => rw [hk] at hpx; cases hpx
      | some j => rfl
    · rw [nums_fm] at hd2
      refine ⟨d, _, rfl, .inl ⟨SqL.of hd2, fun l hl => k _ S3 l _ (((r.2.1.ex e2).ex (Ex.new hl))) ((r.2.2.trans (KeepF.ex e2)).trans (KeepF.ex (Ex.new hl))) upd_same f5 f6 f7⟩⟩
def PapAt (H : Hp) : List V → List (Nat × List Nat) → Prop
  | [], [] => True
  | v :: vs, x :: xs => (∃ p q, v = .ref p ∧ H p = some (.tup [iV x.1, .ref q]) ∧ H q = some (.tup (x.2.map iV))) ∧ PapAt H vs xs
  | _, _ => False
theorem PapAt.keep (e : TK H H') : ∀ {vs : List V} {xs : List (Nat × List Nat)}, PapAt H vs xs → PapAt H' vs xs
  | [], [], _ => trivial
  | v :: vs, x :: xs, ⟨⟨p, q, a, b, c⟩, d⟩ => ⟨⟨p, q, a, e _ _ b, e _ _ c⟩, PapAt.keep e d⟩
theorem PapAt.len : ∀ {vs : List V} {xs : List (Nat × List Nat)}, PapAt H vs xs → vs.length = xs.length
  | [], [], _ => rfl
  | v :: vs, x :: xs, ⟨_, c⟩ => by rw [List.length_cons, List.length_cons, PapAt.len c]
theorem PapAt.get : ∀ {vs : List V} {xs : List (Nat × List Nat)} {i : Nat} {x : Nat × List Nat}, PapAt H vs xs → xs[i]? = some x → ∃ p q, vs[i]? = some (V.ref p) ∧ H p = some (.tup [iV x.1, .ref q]) ∧ H q = some (.tup (x.2.map iV))
  | [], [], _, _, _, h => by simp at h
  | v :: vs, x :: xs, 0, z, ⟨⟨p, q, a, b, c⟩, _⟩, h => by
    have : x = z := by simpa using h
    subst this
    exact ⟨p, q, by rw [a]; rfl, b, c⟩
  | v :: vs, x :: xs, i + 1, z, ⟨_, c⟩, h => by
    have h' : xs[i]? = some z := by simpa using h
    obtain ⟨p, q, a, b, d⟩ := PapAt.get c h'
    exact ⟨p, q, by simpa using a, b, d⟩
theorem PapAt.add {p q : Addr} {x : Nat × List Nat} (hp : H p = some (.tup [iV x.1, .ref q])) (hq : H q = some (.tup (x.2.map iV))) : ∀ {vs : List V} {xs : List (Nat × List Nat)}, PapAt H vs xs → PapAt H (vs ++ [.ref p]) (xs ++ [x])
  | [], [], _ => ⟨⟨p, q, rfl, hp, hq⟩, trivial⟩
  | v :: vs, x :: xs, ⟨a, c⟩ => ⟨a, PapAt.add hp hq c⟩
def PapOk (es : List (Nat × Nat)) (K : Nat → Prop) (ps : List (Nat × List Nat)) : Prop := ∀ n r, (n, r) ∈ ps → ∃ u v, es[n]? = some (u, v) ∧ LC.Lead es u v r ∧ r.Nodup ∧ ∀ k ∈ r, K k
def outs (sp : List (Nat × Nat)) (n : Nat) : List Nat := (List.range n).filter fun k => !(valV (spK sp) (.inl (k : Int))).isSome
theorem Lf.tup (h : LiAt K H a m offs sp S) {q : Addr} {xs : List V} (hq : H q = some (.tup xs)) : ¬ Lf a q := by
  rintro (rfl | rfl | rfl | ⟨f, rfl⟩)
  · obtain ⟨refs, r1, _⟩ := h.of; rw [r1] at hq; cases hq
  · rw [h.e1] at hq; cases hq
  · rw [h.e2] at hq; cases hq
  · obtain ⟨xs, z, _⟩ := h.wy.st.lst f; rw [z] at hq; cases hq
theorem Lf.new (h : LiAt K H a m offs sp S) {q : Addr} (hq : H q = none) : ¬ Lf a q := by
  rintro (rfl | rfl | rfl | ⟨f, rfl⟩)
  · obtain ⟨refs, r1, _⟩ := h.of; rw [r1] at hq; cases hq
  · rw [h.e1] at hq; cases hq
  · rw [h.e2] at hq; cases hq
  · obtain ⟨xs, z, _⟩ := h.wy.st.lst f; rw [z] at hq; cases hq
theorem KeepF.tk (h : LiAt K H a m offs sp S) (k : KeepF (Lf a) H H') : TK H H' := fun p xs hp => k p _ hp (Lf.tup h hp)
def spPaper (K : PySem.W.Frag) : Sp := fun vs H Q _ => ∃ (a : LiA) (m nb : Nat) (offs : List Off) (sp : List (Nat × Nat)) (S : LC.S) (U : Nat), vs = [.ref a.l] ∧ LiI K H a m nb offs sp S U ∧ nb ≤ 103 ∧ offs.length ≤ 70 ∧ U + 4 * offs.length ≤ 2800 ∧
  ∀ H' S' q vs ps, LiI K H' a m nb offs sp S' (U + 4 * offs.length) → KeepF (Lf a) H H' → H q = none → H' q = some (.tup vs) → PapAt H' vs ps → ps.map (·.1) = outs sp offs.length → PapOk (esOf offs) (LC.inK sp) ps → Q (.ref q) H'
theorem ok_li_paper (T : Tx w K mg) : Ok P w K mg base 12 .li_paper (spPaper K) := by
  refine T.okd .li_paper sc_li_paper (fun vs H Q E h => ?_) (fun cdv A0 outer s0 H vs Q E hr h => ⟨_, (pss_cons (ps_setLc (i := 1) (own := [("number", 2)]) (g := gName 2) (tt := (tB (tDNotIn (tVar 2) (tFld K (tVar 0) "spots")))) (te := (tVar 2)) rfl sc_li_paper.nd rfl rfl (sw_true rfl rfl rfl (by decide +kernel)) (pi_range1 (by rfl) (T.free _ (by decide +kernel)) (pa_cons (pe_callB call_len_seq (by rfl) (T.free _ (by decide +kernel)) (by decide +kernel) (by exact (pa_cons (pe_fld (pv 0) rfl) pa_nil))) pa_nil)) (blkOk_by (N := ["self", "numbers", "number"]) (own := [("number", 2)]) (sc := defScope (Dn.sm .li_paper)) (by decide +kernel)) (fun _ _ _ _ _ => (by exact (pg_name (i := 2) sc_li_paper.nd rfl (Or.inl rfl)))) (fun _ _ _ _ _ => (by exact (pts_one (pt_cmp (pc_dnotin (hu_of hr) (pv 2) (pe_fld (pv 0) rfl)))))) (fun _ _ _ _ _ => (by exact (pv 2))))
    (pss_one (ps_ret (pe_callTy call_tuple_of (by rfl) (T.free _ (by decide +kernel)) (by decide +kernel) (by exact (pa_cons (pe_lc (own := [("number", 2)]) (g := gName 2) (tt := tYes) (te := (tTup (tCons (tVar 2) (tCons (tMeth (Cad K .li) "way_numbers" (spWayN K) [] E0 (tVar 0) (tCons (tVar 2) tNil)) tNil)))) rfl sc_li_paper.nd (pi_list (pv 1)) (blkOk_by (N := ["self", "numbers", "number"]) (own := [("number", 2)]) (sc := defScope (Dn.sm .li_paper)) (by decide +kernel)) (fun _ _ _ _ _ => (by exact (pg_name (i := 2) sc_li_paper.nd rfl (Or.inl rfl)))) (fun _ _ _ _ _ => (by exact pts_nil)) (fun _ _ _ _ _ => (by exact (pe_tup (pa_cons (pv 2) (pa_cons (pe_meth (pv 0) (T.cls .li) (T.meth .li _ (by decide +kernel)) (ok_li_way_numbers T) (hr.mono (by decide)) (b_li_way_numbers T) .nil pass0 (pa_cons (pv 2) pa_nil)) pa_nil)))))) pa_nil)))))), ?_⟩)
  · obtain ⟨a, m, nb, offs, sp, S, U, rfl, _⟩ := h; rfl
  · obtain ⟨a, m, nb, offs, sp, S, U, rfl, hL, hn, hol, hU, k⟩ := h
    obtain ⟨refs, r1, r2⟩ := hL.at_.of
    have rl := r2.len
    rw [List.length_map] at rl
    refine q_setL (ys := (outs sp offs.length).map iV) (nl_lcN (n := offs.length) (args1 (rl ▸ v_lenL (te := tFld K (tVar 0) "offered") (v_off T hL.at_ (vv rfl)) (.inl (SqL.of r1))) args0) (by omega) (fun _ => rfl) (fun n hn H' e => ?_) (fun n hn _ H' e => vv rfl)) fun nu H1 hnu e1 h1 => ?_
    · have L1 := hL.at_.ex e
      exact a_dni (i := (n : Int)) (vv rfl) (v_spt T L1 (vv rfl)) L1.e1
    have L1 := hL.ex e1
    have nuo : nu ≠ a.o := fun e => by rw [e, r1] at hnu; cases hnu
    have nuA : ∀ f, nu ≠ a.A f := fun f => hL.at_.wy.st.free hnu f
    have ol : (outs sp offs.length).length ≤ offs.length := by
      have := List.length_filter_le (fun k => !(valV (spK sp) (.inl ((k : Nat) : Int))).isSome) (List.range offs.length)
      rw [List.length_range] at this
      exact this
    refine ret_cb (lc_X (xs := (outs sp offs.length).map iV) (vv rfl) (SqL.of h1) (fun _ => rfl) (fun d i H' => ∃ (S' : LC.S) (acc : List V) (ps : List (Nat × List Nat)), LiI K H' a m nb offs sp S' (U + 4 * i) ∧ KeepF (fun q => Lf a q ∨ q = d) H1 H' ∧ H' d = some (.lst acc) ∧ PapAt H' acc ps ∧ ps.map (·.1) = (outs sp offs.length).take i ∧ PapOk (esOf offs) (LC.inK sp) ps) (fun d hd => ⟨S, [], [], L1.ex (Ex.new hd), KeepF.ex (Ex.new hd), upd_same, trivial, by rfl, fun _ _ z => by simp at z⟩) (fun d i H' hd _ ⟨S', acc, ps, _, k1, _⟩ => SqL.of (k1 _ _ h1 (fun z => by rcases z with z | z; exact Lf.new hL.at_ hnu z; rw [z, hd] at h1; cases h1))) (fun d i x H' hd hx hP => ?_) (fun d H' hd hP => ?_))
    · obtain ⟨S', acc, ps, L2, k2, hda, hpa, hps, hok⟩ := hP
      rw [List.getElem?_map] at hx
      cases hq : (outs sp offs.length)[i]? with
      | none => rw [hq] at hx; cases hx
      | some N =>
        rw [hq] at hx; cases hx
        have hi := (List.getElem?_eq_some_iff.mp hq).1
        have hN := List.mem_of_getElem? hq
        unfold outs at hN
        rw [List.mem_filter, List.mem_range] at hN
        obtain ⟨o, ho⟩ : ∃ o, offs[N]? = some o := ⟨_, List.getElem?_eq_getElem hN.1⟩
        have nK : ¬ LC.inK sp N := fun z => by
          obtain ⟨t, ht⟩ := LC.inK_iff.mp z
          rw [spK_some L2.lh.O ht] at hN; simp at hN
        have sp1 := L2.ch.span pl_len N o.1 o.2.1 (es_at ho)
        have nda : ¬ Lf a d := Lf.new L1.at_ hd
        have al : acc.length = i := by
          rw [PapAt.len hpa, ← List.length_map (f := (·.1)), hps, List.length_take]; omega
        refine t_tup2 (v1 := iV N) (vv rfl) (c_liV L2.at_ (by decide +kernel) (vv rfl) (args1 (v := iV N) (vv rfl) args0) ⟨a, m, nb, offs, sp, S', U + 4 * i, N, o, rfl, L2.toLiH, hn, by omega, ho, sp1, fun H3 S3 q r L3 k3 hq3 hr1 hr2 hr3 => ⟨by show 2 ≤ sizeLine; decide, fun t ht => ?_⟩⟩)
        have hda3 := k3 _ _ hda nda
        have ntd : t ≠ d := fun e => by rw [e, hda3] at ht; cases ht
        refine ⟨acc, Ex.new ht _ _ hda3, by rw [al]; exact sz_lt (by omega), S3, _, ps ++ [(N, r)], ?_, ?_, upd_same, ?_, ?_, ?_⟩
        · have L4 := L3.ex (Ex.new (o := .tup [iV N, .ref q]) ht)
          have := L4.at_.updl (ys := acc ++ [.ref t]) (Ex.new ht _ _ hda3) (fun e => nda (.inl e)) (fun f e => nda (.inr (.inr (.inr ⟨f, e⟩))))
          exact ⟨⟨this, (L4.mono (Nat.le_refl _) (by omega : U + 4 * i + 4 ≤ U + 4 * (i + 1))).lh⟩, L2.ch, L2.fk⟩
        · refine KeepF.upd ((k2.trans fun q' o' z1 z2 => k3 q' o' z1 (fun z => z2 (.inl z))).trans (KeepF.ex (Ex.new ht))) (.inr rfl)
        · have tk : TK H' (upd (upd H3 t (.tup [iV N, .ref q])) d (.lst (acc ++ [.ref t]))) := ((KeepF.tk L2.at_ k3).trans (TK.ex (Ex.new ht))).trans (TK.upd (Ex.new ht _ _ hda3) (fun _ => by intro z; cases z))
          refine (hpa.keep tk).add (x := (N, r)) (p := t) (q := q) ?_ ?_
          · rw [upd_ne ntd]; exact upd_same
          · have nqd : q ≠ d := fun e => by rw [e, hda3] at hq3; cases hq3
            rw [upd_ne nqd]; exact Ex.new ht _ _ hq3
        · rw [List.map_append, hps, List.take_add_one, hq]; rfl
        · intro n' r' hm
          rcases List.mem_append.mp hm with z | z
          · exact hok n' r' z
          · have := List.mem_singleton.mp z; cases this
            exact ⟨_, _, es_at ho, hr1, hr2, hr3⟩
    · obtain ⟨S', acc, ps, L2, k2, hda, hpa, hps, hok⟩ := hP
      rw [List.length_map] at L2 hps
      rw [List.take_length] at hps
      refine ⟨d, _, rfl, .inl ⟨SqL.of hda, fun q hq => ?_⟩⟩
      have L3 := L2.ex (Ex.new (o := .tup acc) hq)
      have nd : H d = none := fresh_back e1 hd
      have kk : KeepF (Lf a) H (upd H' q (.tup acc)) := fun q' o' z1 z2 => Ex.new hq _ _ (k2 q' o' (e1 _ _ z1) (fun z => by
        rcases z with z | z
        · exact z2 z
        · rw [z, nd] at z1; cases z1))
      refine k _ S' q acc ps ⟨L3.toLiH.mono (Nat.le_refl _) (by omega), L3.ch, L3.fk⟩ kk ?_ upd_same (hpa.keep (TK.ex (Ex.new hq))) hps hok
      cases z : H q with
      | none => rfl
      | some o =>
        by_cases w1 : Lf a q
        · exfalso
          have : ∃ o, H' q = some o := by
            rcases w1 with rfl | rfl | rfl | ⟨f, rfl⟩
            · obtain ⟨_, z, _⟩ := L2.at_.of; exact ⟨_, z⟩
            · exact ⟨_, L2.at_.e1⟩
            · exact ⟨_, L2.at_.e2⟩
            · obtain ⟨_, z, _⟩ := L2.at_.wy.st.lst f; exact ⟨_, z⟩
          obtain ⟨o, z⟩ := this
          rw [hq] at z; cases z
        · have := kk q o z w1
          have h2 := k2 q o (e1 _ _ z) (fun w2 => by
            rcases w2 with w2 | w2
            · exact w1 w2
            · rw [w2, nd] at z; cases z)
          rw [hq] at h2; cases h2
end
end TC
namespace TC
open PySem PySem.Spec PyProof.Rows L2
section
variable {P : Program} {w : World} {K : PySem.W.Frag} {mg : Str → Option Value} {base : Heap} {H H' H0 : Hp} {y s p : Addr} {a : LiA} {A : Fd → Addr} {S S' : LC.S} {σ : L2.St} {tb tx te tl tc tv : TE} {ta : TA} {D : Ends} {v x : V} {t1 t2 tz tu : TS} {t tt : TT} {b : Bool} {m nb U : Nat} {offs : List Off} {sp : List (Nat × Nat)}
def oI : Option Int → V
  | none => .non
  | some i => .int i
def spSlacks (K : PySem.W.Frag) : Sp := fun vs H Q _ => ∃ (a : LiA) (m nb : Nat) (offs : List Off) (sp : List (Nat × Nat)) (S : LC.S) (U : Nat), vs = [.ref a.l] ∧ LiI K H a m nb offs sp S U ∧ nb ≤ 103 ∧ offs.length ≤ 70 ∧ U + 4 * offs.length ≤ 2800 ∧
  ∀ H' S' q (fs : List (Option Int)) (ps : List (Nat × List Nat)), LiI K H' a m nb offs sp S' (U + 4 * offs.length) → KeepF (Lf a) H H' → H' q = some (.tup (fs.map oI)) → fs.length = offs.length → ps.map (·.1) = outs sp offs.length → PapOk (esOf offs) (LC.inK sp) ps →
    (∀ k, LC.inK sp k → (fs[k]? = some none ↔ ∀ p ∈ ps, k ∉ p.2)) → Q (.ref q) H'
theorem rep_map (n : Nat) : (List.replicate n [V.non]).flatten = (List.replicate n (none : Option Int)).map oI := by
  induction n with
  | zero => rfl
  | succ n ih => rw [List.replicate_succ, List.flatten_cons, ih]; rfl
theorem ex_max : ∀ (l : List Int), l ≠ [] → ∃ m ∈ l, ∀ y ∈ l, y ≤ m
  | [x], _ => ⟨x, List.mem_cons_self, fun y hy => by rw [List.mem_singleton.mp hy]; exact Int.le_refl _⟩
  | x :: z :: l, _ => by
    obtain ⟨m, h1, h2⟩ := ex_max (z :: l) (by simp)
    by_cases q : x ≤ m
    · exact ⟨m, List.mem_cons_of_mem _ h1, fun y hy => by
        rcases List.mem_cons.mp hy with e | e
        · rw [e]; exact q
        · exact h2 y e⟩
    · exact ⟨x, List.mem_cons_self, fun y hy => by
        rcases List.mem_cons.mp hy with e | e
        · rw [e]; exact Int.le_refl _
        · have := h2 y e; omega⟩
theorem q_lset {l : Addr} {xs : List V} {i : Nat} (hv : Val te σ H v) (hl : Val tb σ H (.ref l)) (hx : Val tx σ H (.int i)) (h : H l = some (.lst xs)) (hi : i < xs.length) (k : tz D σ (upd H l (.lst (xs.set i v)))) : tSeq (tAsg te (gSub tb tx rSetL)) tz D σ H :=
  hv _ (hl _ (hx _ ⟨l, xs, i, i, rfl, rfl, h, ixN_nat hi, k⟩))
theorem s_lset {l : Addr} {xs : List V} {i : Nat} (hv : Val te σ H v) (hl : Val tb σ H (.ref l)) (hx : Val tx σ H (.int i)) (h : H l = some (.lst xs)) (hi : i < xs.length) (k : D.nx σ (upd H l (.lst (xs.set i v)))) : tAsg te (gSub tb tx rSetL) D σ H :=
  q_lset (tz := tNext) (D := D) hv hl hx h hi k
theorem s_lsetE {l : Addr} {xs : List V} {i : Nat} (hv : ValE te σ H v) (hl : ∀ H, Val tb σ H (.ref l)) (hx : ∀ H, Val tx σ H (.int i)) (h : H l = some (.lst xs)) (hi : i < xs.length) (k : ∀ H1, Ex H H1 → D.nx σ (upd H1 l (.lst (xs.set i v)))) : tAsg te (gSub tb tx rSetL) D σ H :=
  hv _ fun H1 e1 => hl H1 _ (hx H1 _ ⟨l, xs, i, i, rfl, rfl, e1 _ _ h, ixN_nat hi, k H1 e1⟩)
theorem q_forC {g : TG} {R : Addr → Hp → Prop} (h : ∀ Q : VK, (∀ a H1, R a H1 → Q (.ref a) H1) → tl σ H Q) (k : ∀ l H1, R l H1 → ∃ (xs : List V) (Pv : Nat → L2.St → Hp → Prop), SqT K H1 l xs ∧ Pv 0 σ H1 ∧ (∀ i σ' H', i ≤ xs.length → Pv i σ' H' → SqT K H' l xs) ∧
    (∀ i x σ' H', xs[i]? = some x → i < xs.length → Pv i σ' H' → g x σ' H' fun σ2 H2 => t1 { D with nx := Pv (i + 1), ct := Pv (i + 1), bk := tz D } σ2 H2) ∧ (∀ σ' H', Pv xs.length σ' H' → tz D σ' H')) : tSeq (tFor (iTup K tl) g t1) tz D σ H :=
  h _ fun l H1 r => by
    obtain ⟨xs, Pv, a, b, c, d, e⟩ := k l H1 r
    exact ⟨l, rfl, ⟨xs, a⟩, for_it (D := { D with nx := tz D }) walk_tup Pv b c (fun i x σ' H1 H2 hi hp hy => by
      obtain ⟨rfl, hy⟩ := hy
      exact d i x σ' H2 hy hi hp) e⟩
theorem oI_set (fs : List (Option Int)) (i : Nat) (v : Option Int) : (fs.map oI).set i (oI v) = (fs.set i v).map oI := by rw [List.map_set]
theorem none_set {fs : List (Option Int)} {i k : Nat} {c : Int} (hi : i < fs.length) : (fs.set i (some c))[k]? = some none ↔ (fs[k]? = some none ∧ k ≠ i) := by
  rw [List.getElem?_set]
  by_cases e : i = k
  · subst e; rw [if_pos rfl, if_pos hi]; simp
  · rw [if_neg e]
    exact ⟨fun h => ⟨h, fun z => e z.symm⟩, fun h => h.1⟩
theorem ok_li_slacks (T : Tx w K mg) : Ok P w K mg base 13 .li_slacks (spSlacks K) := by
  refine T.okd .li_slacks sc_li_slacks (fun vs H Q E h => ?_) (fun cdv A0 outer s0 H vs Q E hr h => ⟨_, (pss_cons (ps_set (i := 1) sc_li_slacks.nd rfl (Or.inl rfl) (pe_op op_rep (pe_lst (pa_cons pe_non pa_nil)) (pe_callB call_len_seq (by rfl) (T.free _ (by decide +kernel)) (by decide +kernel) (by exact (pa_cons (pe_fld (pv 0) rfl) pa_nil)))))
    (pss_cons (ps_for PassesOwn.never rfl (pi_tup (pe_meth0 (pv 0) (T.cls .li) (T.meth .li _ (by decide +kernel)) (ok_li_paper T) (hr.mono (by decide)) (b_li_paper T) .nil pass0)) (pg_tup rfl (pgs_cons (pg_name (i := 2) sc_li_slacks.nd rfl (Or.inl rfl)) (pgs_cons (pg_name (i := 3) sc_li_slacks.nd rfl (Or.inl rfl)) pgs_nil))) (pss_cons (ps_set (i := 4) sc_li_slacks.nd rfl (Or.inl rfl) (pe_ix ix_tup (pe_ix ix_list (pe_fld (pv 0) rfl) (pv 2) (fun _ _ => rfl)) pe_int (fun _ _ => rfl)))
    (pss_cons (ps_for PassesOwn.never rfl (pi_tup (pv 3)) (pg_name (i := 5) sc_li_slacks.nd rfl (Or.inl rfl)) (pss_one (ps_if (PW.pt (pw_or (pt_cmpR op_isN1 (pe_ix ix_list (pv 1) (pv 5) (fun _ _ => rfl)) pe_non (nomark _)) (pw_or1 (pt_cmpR op_lt (pv 4) (pe_ix ix_list (pv 1) (pv 5) (fun _ _ => rfl)) (nomark _))))) (pss_one (ps_asg (pv 4) (pg_sub (pv 1) (pv 5) set_list))) pss_nil)))
    (pss_one (ps_if (pt_cmpR op_gt (pe_callB call_len_seq (by rfl) (T.free _ (by decide +kernel)) (by decide +kernel) (by exact (pa_cons (pv 3) pa_nil))) pe_int (nomark _)) (pss_one (ps_asg (pe_callB (cr_max rfl) (by rfl) (T.free _ (by decide +kernel)) (by decide +kernel) (by exact (pa_cons (pe_lc (own := [("other", 5)]) (g := gName 5) (tt := tYes) (te := (tOp (rIxT K) (tOp (rIxL K) (tFld K (tVar 0) "offered") (tVar 5)) (tC (.int 2)))) rfl sc_li_slacks.nd (pi_tup (pv 3)) (blkOk_by (N := ["self", "found", "number", "way", "price", "other"]) (own := [("other", 5)]) (sc := defScope (Dn.sm .li_slacks)) (by decide +kernel)) (fun _ _ _ _ _ => (by exact (pg_name (i := 5) sc_li_slacks.nd rfl (Or.inl rfl)))) (fun _ _ _ _ _ => (by exact pts_nil)) (fun _ _ _ _ _ => (by exact (pe_ix ix_tup (pe_ix ix_list (pe_fld (pv 0) rfl) (pv 5) (fun _ _ => rfl)) pe_int (fun _ _ => rfl))))) pa_nil))) (pg_sub (pv 1) (pv 2) set_list))) pss_nil)))))
    (pss_one (ps_ret (pe_callTy call_tuple_of (by rfl) (T.free _ (by decide +kernel)) (by decide +kernel) (by exact (pa_cons (pv 1) pa_nil))))))), ?_⟩)
  · obtain ⟨a, m, nb, offs, sp, S, U, rfl, _⟩ := h; rfl
  · obtain ⟨a, m, nb, offs, sp, S, U, rfl, hL, hn, hol, hU, k⟩ := h
    obtain ⟨refs, r1, r2⟩ := hL.at_.of
    have rl := r2.len
    rw [List.length_map] at rl
    refine q_setN (R := fun H' v => ∃ q, v = V.ref q ∧ H q = none ∧ H' q = some (.lst ((List.replicate offs.length (none : Option Int)).map oI))) (fun Q q => ?_) fun v H1 e1 ⟨fd, hv, hfd, h1⟩ => ?_
    · refine nl_lst (args1 (vc (v := .non)) args0) (by show 1 ≤ 100000; decide) _ fun l H1 hl e1 h1 => ?_
      have L1 := hL.at_.ex e1
      refine (rl ▸ v_lenL (te := tFld K (tVar 0) "offered") (v_off T L1 (vv rfl)) (.inl (SqL.of (e1 _ _ r1))) : Val _ _ _ (.int (offs.length : Nat))) _ ⟨l, (offs.length : Int), [.non], rfl, rfl, h1, by omega, by omega, by show 1 * (offs.length : Int).toNat ≤ sizeLine; exact sz_le (by omega), fun q' hq => q _ _ (e1.trans (Ex.new hq)) ⟨q', rfl, fresh_back e1 hq, ?_⟩⟩
      rw [upd_same, Int.toNat_natCast, rep_map]
    subst hv
    have L1 := hL.ex e1
    have fdn : ¬ Lf a fd := Lf.new hL.at_ hfd
    refine q_forC (R := fun q H2 => ∃ S' vs ps, LiI K H2 a m nb offs sp S' (U + 4 * offs.length) ∧ KeepF (Lf a) H1 H2 ∧ H1 q = none ∧ H2 q = some (.tup vs) ∧ PapAt H2 vs ps ∧ ps.map (·.1) = outs sp offs.length ∧ PapOk (esOf offs) (LC.inK sp) ps) (fun Q q => c_liV L1.at_ (by decide +kernel) (vv rfl) args0 ⟨a, m, nb, offs, sp, S, U, rfl, L1, hn, hol, hU, fun H' S' q' vs ps l1 l2 l3 l4 l5 l6 l7 => q q' H' ⟨S', vs, ps, l1, l2, l3, l4, l5, l6, l7⟩⟩) fun q H2 ⟨S2, vs, ps, L2, k2, hq0, hq, hpa, hps, hok⟩ => ?_
    have hfd2 := k2 _ _ h1 fdn
    have qfd : q ≠ fd := fun e => by rw [e, h1] at hq0; cases hq0
    have pl := PapAt.len hpa
    have kq : ∀ {H'}, KeepF (· = fd) H2 H' → ∀ p xs, H2 p = some (.tup xs) → H' p = some (.tup xs) := fun k p xs h => k p _ h (fun e => by rw [e, hfd2] at h; cases h)
    have kL : ∀ {H'} {ys : List V}, KeepF (· = fd) H2 H' → LiAt K H' a m offs sp S2 := fun {H' ys} kk => by
      obtain ⟨⟨dx, ob⟩, ⟨refs, r1, r2⟩, e1, e2, wy, no, nd⟩ := L2.at_
      have nn : ∀ q o, H2 q = some o → (∀ xs, o ≠ .lst xs) → H' q = some o := fun q o h n => kk q o h (fun e => by rw [e, hfd2] at h; cases h; exact n _ rfl)
      have fdA : ∀ f, fd ≠ a.A f := fun f e => fdn (.inr (.inr (.inr ⟨f, e⟩)))
      obtain ⟨⟨dy, oy⟩, ⟨⟨ds, os⟩, inj, fld, wf⟩⟩ := wy
      refine ⟨⟨dx, nn _ _ ob (fun _ => by intro z; cases z)⟩, ⟨refs, kk _ _ r1 (fun e => fdn (.inl e.symm)), r2.keep (kq kk)⟩, nn _ _ e1 (fun _ => by intro z; cases z), nn _ _ e2 (fun _ => by intro z; cases z), ⟨⟨dy, nn _ _ oy (fun _ => by intro z; cases z)⟩, ⟨⟨ds, nn _ _ os (fun _ => by intro z; cases z)⟩, inj, fun f => ?_, wf⟩⟩, no, nd⟩
      obtain ⟨z, z1, z2⟩ := fld f
      exact ⟨z, kk _ _ z1 (fun e => fdA f e.symm), z2.ex (kq kk)⟩
    refine ⟨vs, fun i σ' H' => ∃ (fs : List (Option Int)) (o2 o3 o4 o5 : Option V), σ' = [some (.ref a.l), some (.ref fd), o2, o3, o4, o5] ∧ H' fd = some (.lst (fs.map oI)) ∧ fs.length = offs.length ∧ KeepF (· = fd) H2 H' ∧ ∀ k, LC.inK sp k → (fs[k]? = some none ↔ ∀ p ∈ ps.take i, k ∉ p.2), SqT.of hq, ⟨List.replicate offs.length none, _, _, _, _, rfl, hfd2, List.length_replicate, KeepF.refl _ _, fun k hk => ?_⟩, fun i σ' H' _ ⟨fs, _, _, _, _, _, _, _, kk, _⟩ => SqT.of (kq kk _ _ hq), fun i x σ' H' hx hi hP => ?_, fun σ' H' hP => ?_⟩
    · have := hL.lh.lt hk
      rw [es_len] at this
      rw [List.getElem?_replicate, if_pos this]
      simp
    · obtain ⟨fs, o2, o3, o4, o5, rfl, hf, fl, kk, inv⟩ := hP
      have hip : i < ps.length := by omega
      obtain ⟨⟨N, r⟩, hpi⟩ : ∃ z, ps[i]? = some z := ⟨_, List.getElem?_eq_getElem hip⟩
      obtain ⟨t, wq, t1, t2, t3⟩ := hpa.get hpi
      rw [hx] at t1; cases t1
      obtain ⟨u, v, g1, g2, g3, g4⟩ := hok N r (List.mem_of_getElem? hpi)
      have hNl : N < offs.length := by have := LC.at_lt g1; rw [es_len] at this; exact this
      obtain ⟨⟨oa, ob, oc⟩, ho⟩ : ∃ o, offs[N]? = some o := ⟨_, List.getElem?_eq_getElem hNl⟩
      have hrl : ∀ k ∈ r, k < offs.length := fun k hk => by have := hL.lh.lt (g4 k hk); rw [es_len] at this; exact this
      have nK : ¬ LC.inK sp N := fun z => by
        have hN : N ∈ outs sp offs.length := by rw [← hps]; exact List.mem_map.mpr ⟨_, List.mem_of_getElem? hpi, rfl⟩
        unfold outs at hN
        rw [List.mem_filter] at hN
        obtain ⟨tt, ht⟩ := LC.inK_iff.mp z
        rw [spK_some hL.lh.O ht] at hN; simp at hN
      refine ⟨t, _, rfl, SqT.of (kq kk _ _ t2), rfl, _, _, rfl, _, _, rfl, rfl, ?_⟩
      obtain ⟨pp, hpp, hvp⟩ := v_offi (σ := [some (.ref a.l), some (.ref fd), some (iV N), some (.ref wq), o4, o5]) (tb := tVar 0) (tx := tVar 2) T (kL (ys := []) kk) (vv rfl) (vv rfl) ho
      refine q_set (v := .int oc) (v_ixU hvp hpp (vc (v := .int 2)) rfl) ?_
      have hw := kq kk _ _ t3
      refine q_forUe (xs := r.map iV) (vv rfl) (SqT.of hw) (fun j σ' H3 => ∃ (fs : List (Option Int)) (o5 : Option V), σ' = [some (.ref a.l), some (.ref fd), some (iV N), some (.ref wq), some (.int oc), o5] ∧ H3 fd = some (.lst (fs.map oI)) ∧ fs.length = offs.length ∧ KeepF (· = fd) H2 H3 ∧ ∀ k, LC.inK sp k → (fs[k]? = some none ↔ ((∀ p ∈ ps.take i, k ∉ p.2) ∧ k ∉ r.take j))) ⟨fs, _, rfl, hf, fl, kk, fun k hk => by rw [inv k hk]; simp⟩ (fun j σ' H3 _ ⟨_, _, _, _, _, kk3, _⟩ => SqT.of (kq kk3 _ _ t3)) ?_ ?_
      · rintro j x σ' H3 hxj hj ⟨fs3, o5', rfl, hf3, fl3, kk3, inv3⟩
        rw [List.getElem?_map] at hxj
        cases hrj : r[j]? with
        | none => rw [hrj] at hxj; cases hxj
        | some kk0 =>
          rw [hrj] at hxj; cases hxj
          have hk0 := hrl kk0 (List.mem_of_getElem? hrj)
          have hk0f : kk0 < fs3.length := by omega
          obtain ⟨fo, hfo⟩ : ∃ z, fs3[kk0]? = some z := ⟨_, List.getElem?_eq_getElem hk0f⟩
          have rd : Val (tOp (rIxL K) (tVar 1) (tVar 5)) [some (.ref a.l), some (.ref fd), some (iV N), some (.ref wq), some (.int oc), some (iV kk0)] H3 (oI fo) := v_ixL (vv rfl) (SqL.of hf3) (vv rfl) (by rw [List.getElem?_map, hfo]; rfl)
          have tk : r.take (j + 1) = r.take j ++ [kk0] := by rw [List.take_add_one, hrj]; rfl
          have done : ∀ (fs4 : List (Option Int)) (H4 : Hp), H4 fd = some (.lst (fs4.map oI)) → fs4.length = offs.length → KeepF (· = fd) H2 H4 → (∀ k, fs4[k]? = some none ↔ (fs3[k]? = some none ∧ k ≠ kk0)) → ∃ (fs : List (Option Int)) (o5 : Option V), [some (V.ref a.l), some (.ref fd), some (iV N), some (.ref wq), some (.int oc), some (iV kk0)] = [some (.ref a.l), some (.ref fd), some (iV N), some (.ref wq), some (.int oc), o5] ∧ H4 fd = some (.lst (fs.map oI)) ∧ fs.length = offs.length ∧ KeepF (· = fd) H2 H4 ∧ ∀ k, LC.inK sp k → (fs[k]? = some none ↔ ((∀ p ∈ ps.take i, k ∉ p.2) ∧ k ∉ r.take (j + 1))) := fun fs4 H4 z1 z2 z3 z4 => ⟨fs4, _, rfl, z1, z2, z3, fun k hk => by
            rw [z4, inv3 k hk, tk, List.mem_append, List.mem_singleton]
            constructor
            · rintro ⟨⟨y1, y2⟩, y3⟩; exact ⟨y1, fun z => z.elim y2 y3⟩
            · rintro ⟨y1, y2⟩; exact ⟨⟨y1, fun z => y2 (.inl z)⟩, fun z => y2 (.inr z)⟩⟩
          cases fo with
          | none =>
            refine s_when (b := true || false) (a_or (b := true) (a_test (v_isN (x := .non) rd)) (fun q => by cases q)) (fun _ => ?_) (fun q => by cases q)
            refine s_lset (v := .int oc) (vv rfl) (vv rfl) (vv rfl) hf3 (by rw [List.length_map]; exact hk0f) ?_
            exact done (fs3.set kk0 (some oc)) _ (by rw [upd_same, ← oI_set]; rfl) (by rw [List.length_set]; exact fl3) (kk3.upd rfl) (fun k => none_set hk0f)
          | some d0 =>
            refine s_when (b := false || decide (oc < d0)) (a_or (b := false) (a_test (v_isN (x := .int d0) rd)) fun _ => a_test (v_I0 (g := fun i j => V.bl (decide (i < j))) (vv rfl) rd)) (fun _ => ?_) (fun _ => ?_)
            · refine s_lset (v := .int oc) (vv rfl) (vv rfl) (vv rfl) hf3 (by rw [List.length_map]; exact hk0f) ?_
              exact done (fs3.set kk0 (some oc)) _ (by rw [upd_same, ← oI_set]; rfl) (by rw [List.length_set]; exact fl3) (kk3.upd rfl) (fun k => none_set hk0f)
            · refine done fs3 H3 hf3 fl3 kk3 fun k => ⟨fun z => ⟨z, fun e => ?_⟩, fun z => z.1⟩
              rw [e, hfo] at z; cases z
      · rintro σ' H3 ⟨fs3, o5', rfl, hf3, fl3, kk3, inv3⟩
        rw [List.length_map, List.take_length] at inv3
        have hpt : ps.take (i + 1) = ps.take i ++ [(N, r)] := by rw [List.take_add_one, hpi]; rfl
        have inv4 : ∀ k, LC.inK sp k → (fs3[k]? = some none ↔ ∀ p ∈ ps.take (i + 1), k ∉ p.2) := fun k hk => by
          rw [inv3 k hk, hpt]
          constructor
          · rintro ⟨y1, y2⟩ p hp
            rcases List.mem_append.mp hp with z | z
            · exact y1 p z
            · rw [List.mem_singleton.mp z]; exact y2
          · intro y
            exact ⟨fun p hp => y p (List.mem_append_left _ hp), y (N, r) (by simp)⟩
        have hw3 := kq kk3 _ _ t3
        refine s_when (b := decide ((0 : Int) < ((r.map iV).length : Nat))) (a_test (v_I0 (g := fun i j => V.bl (decide (j < i))) (v_lenL (vv rfl) (.inr (SqT.of hw3))) (vc (v := .int 0)))) (fun hb => ?_) (fun _ => ⟨fs3, _, _, _, _, rfl, hf3, fl3, kk3, inv4⟩)
        have hrne : r ≠ [] := fun z => by rw [z] at hb; simp at hb
        have prk : ∀ k ∈ r, ∃ c, (prOf offs)[k]? = some c := fun k hk => ⟨_, List.getElem?_eq_getElem (by rw [pr_len]; exact hrl k hk)⟩
        obtain ⟨mx, hm1, hm2⟩ := ex_max (r.map fun k => (prOf offs).getD k 0) (by simpa using hrne)
        refine s_lsetE (v := .int mx) (ve_max (ns := r.map fun k => (prOf offs).getD k 0) (fun Q q => ?_) hm1 hm2) (fun _ => vv rfl) (fun _ => vv rfl) hf3 (by rw [List.length_map, fl3]; exact hNl) fun H4 e4 => ?_
        · rw [List.map_map] at q
          refine nl_lcR (ks := r) (φ := iV) (pr := fun _ => true) (g := fun k => V.int ((prOf offs).getD k 0)) (R := fun l H5 => l = wq ∧ H5 = H3) (fun Q q => vv rfl _ (q _ _ ⟨rfl, rfl⟩)) (fun l H5 z => by rw [z.1, z.2]; exact hw3) (by
            have := LC.nodup_len offs.length r g3 hrl; omega) (fun _ => rfl) (fun _ _ _ _ _ _ _ => ans_yes) (fun l H5 z k hk _ H6 e6 => ?_) (fun l H5 d H6 z hd e6 hd6 => ?_)
          · obtain ⟨rfl, rfl⟩ := z
            obtain ⟨o, ho2⟩ : ∃ o, offs[k]? = some o := ⟨_, List.getElem?_eq_getElem (hrl k hk)⟩
            obtain ⟨pp, hpp, hvp⟩ := v_offi (σ := [some (.ref a.l), some (.ref fd), some (iV N), some (.ref l), some (.int oc), some (iV k)]) (tb := tVar 0) (tx := tVar 5) T ((kL (ys := []) kk3).ex e6) (vv rfl) (vv rfl) ho2
            have : (prOf offs).getD k 0 = o.2.2 := by rw [List.getD_eq_getElem?_getD, pr_at ho2]; rfl
            rw [this]
            exact v_ixU hvp hpp (vc (v := .int 2)) rfl
          · obtain ⟨rfl, rfl⟩ := z
            rw [List.filter_eq_self.mpr (fun _ _ => rfl)] at hd6
            exact q d H6 hd e6 hd6
        · refine ⟨fs3.set N (some mx), _, _, _, _, rfl, by rw [upd_same, ← oI_set]; rfl, by rw [List.length_set]; exact fl3, (kk3.trans (KeepF.ex e4)).upd rfl, fun k hk => ?_⟩
          rw [none_set (by rw [fl3]; exact hNl), inv4 k hk]
          exact ⟨fun z => z.1, fun z => ⟨z, fun e => nK (e ▸ hk)⟩⟩
    · obtain ⟨fs, o2, o3, o4, o5, rfl, hf, fl, kk, inv⟩ := hP
      rw [pl, List.take_length] at inv
      have L3 := kL (ys := []) kk
      refine s_retTupL (vv rfl) (SqL.of hf) fun l H3 e3 h3 => k H3 S2 l fs ps ⟨⟨L3.ex e3, L2.lh⟩, L2.ch, L2.fk⟩ (fun q' o' z1 z2 => e3 _ _ (kk q' o' (k2 q' o' (e1 _ _ z1) z2) (fun e => by rw [e, hfd] at z1; cases z1))) h3 fl hps hok inv
end
end TC
namespace TC
open PySem PySem.Spec PyProof.Rows L2
abbrev Prs := List (Nat × Nat)
def prV (o : Nat × Nat) : List V := [.int (o.1 : Nat), .int (o.2 : Nat)]
structure HoA where
  l : Addr
  o : Addr
  d : Addr
  y : Addr
  s : Addr
  A : Fd → Addr
structure HoAt (K : PySem.W.Frag) (H : Hp) (a : HoA) (m : Nat) (es : Prs) (sp : Prs) (S : LC.S) : Prop where
  ob : ∃ dx, H a.l = some (.ins (Cad K .ho) dx [("many_points", V.int m), ("offered", .ref a.o), ("ways", .ref a.y), ("spots", .ref a.d)])
  of : ∃ refs, H a.o = some (.lst refs) ∧ TupsAt H refs (es.map prV)
  e1 : H a.d = some (.dK (spK sp))
  wy : WyAt K H a.y a.s a.A S
  no : ∀ f, a.o ≠ a.A f
def Hf (a : HoA) (q : Addr) : Prop := q = a.o ∨ q = a.d ∨ ∃ f, q = a.A f
def ptH (v : Int) : Prop := True
structure HoI (K : PySem.W.Frag) (H : Hp) (a : HoA) (m nb : Nat) (es : Prs) (sp : Prs) (S : LC.S) (U : Nat) : Prop where
  at_ : HoAt K H a m es sp S
  lh : LC.LH m nb ptH es (LC.HW es (LC.inK sp)) sp S U
  sp_ : LC.Sp es (LC.inK sp)
structure InC (K : PySem.W.Frag) (c : Cn) (H0 H : Hp) (l dx : Addr) (fs : List (Str × V)) : Prop where
  ob : H l = some (.ins (Cad K c) dx fs)
  kp : ∀ q o, H0 q = some o → q ≠ l → H q = some o
theorem InC.fresh {K : PySem.W.Frag} {c : Cn} {H0 H : Hp} {l dx q : Addr} {fs : List (Str × V)} (h : InC K c H0 H l dx fs) (hq : H q = none) (hn : q ≠ l) : H0 q = none := by
  cases z : H0 q with
  | none => rfl
  | some o => rw [h.kp q o z hn] at hq; cases hq
section
variable {P : Program} {w : World} {K : PySem.W.Frag} {mg : Str → Option Value} {base : Heap} {H H' H0 : Hp} {y s p : Addr} {a : HoA} {A : Fd → Addr} {S S' : LC.S} {σ : L2.St} {tb tx te tl tc tv : TE} {ta : TA} {D : Ends} {v x : V} {t1 t2 tz tu : TS} {t tt : TT} {b : Bool} {m nb U : Nat} {es sp : Prs}
def spHoInit (K : PySem.W.Frag) : Sp := fun vs H Q _ => ∃ l dx m, vs = [.ref l, .int (m : Nat)] ∧ H l = some (.ins (Cad K .ho) dx []) ∧ m ≤ 1000 ∧ ∀ (a : HoA) H', a.l = l → HoI K H' a m m [] [] (bareS m) 0 → KeepO l H H' → (∀ q, Hf a q → H q = none) → Q .non H'
theorem ok_ho_init (T : Tx w K mg) : Ok P w K mg base 10 .ho_init (spHoInit K) := by
  refine T.okd .ho_init sc_ho_init (fun vs H Q E h => ?_) (fun cdv A0 outer s0 H vs Q E hr h => ⟨_, (pss_cons (ps_fld (pv 0) (pv 1) rfl)
    (pss_cons (ps_fld (pv 0) (pe_lst pa_nil) rfl)
    (pss_cons (ps_fld (pv 0) (pe_make (T.mkr .wy) (ok_wy_init T) (hr.mono (by decide)) rfl (T.glC .wy) (b_wy_init T) .nil pass0 (pa_cons (pe_call (ok_bare_forest T) (hr.mono (by decide)) rfl (T.glF _ (by decide +kernel)) (T.fn .bare_forest).kp (b_bare_forest T) .nil pass0 (pa_cons (pv 1) pa_nil)) pa_nil)) rfl)
    (pss_one (ps_fld (pv 0) pe_dnewK rfl))))), ?_⟩)
  · obtain ⟨l, dx, m, rfl, _⟩ := h; rfl
  · obtain ⟨l, dx, m, rfl, hl, hm, k⟩ := h
    refine q_fld T .ho (R := fun v H1 => v = .int m ∧ H1 = H) (by decide +kernel) (fun Q q => vv rfl _ (q _ _ ⟨rfl, rfl⟩)) (fun _ => vv rfl) (fun v H1 r => by rw [r.2]; exact hl) (by show 0 < 1000; decide) ?_
    rintro v H1 ⟨rfl, rfl⟩
    have i1 : InC K .ho H1 (upd H1 l (.ins (Cad K .ho) dx [("many_points", .int m)])) l dx [("many_points", .int m)] := ⟨upd_same, fun q o h n => by rw [upd_ne n]; exact h⟩
    show tSeq _ _ _ _ (upd H1 l (.ins (Cad K .ho) dx [("many_points", .int m)]))
    generalize upd H1 l (.ins (Cad K .ho) dx [("many_points", .int m)]) = H2 at i1 ⊢
    refine q_fld T .ho (R := fun v H3 => ∃ o, v = .ref o ∧ H2 o = none ∧ Ex H2 H3 ∧ H3 o = some (.lst [])) (by decide +kernel) (fun Q q => nl_lst args0 (by show 0 ≤ 100000; decide) _ fun o H3 ho e h => q _ _ ⟨o, rfl, ho, e, h⟩) (fun _ => vv rfl) (fun v H3 ⟨o, _, _, e, _⟩ => e _ _ i1.ob) (by show 1 < 1000; decide) ?_
    rintro v H3 ⟨o, rfl, ho, e3, h3⟩
    have no : o ≠ l := fun e => by rw [e, i1.ob] at ho; cases ho
    have i3 : InC K .ho H1 (upd H3 l (.ins (Cad K .ho) dx [("many_points", .int m), ("offered", .ref o)])) l dx [("many_points", .int m), ("offered", .ref o)] := ⟨upd_same, fun q o h n => by rw [upd_ne n]; exact e3 _ _ (i1.kp q o h n)⟩
    have o3 : upd H3 l (.ins (Cad K .ho) dx [("many_points", .int m), ("offered", .ref o)]) o = some (.lst []) := by rw [upd_ne no]; exact h3
    have fo : H1 o = none := i1.fresh ho no
    show tSeq _ _ _ _ (upd H3 l (.ins (Cad K .ho) dx [("many_points", .int m), ("offered", .ref o)]))
    generalize upd H3 l (.ins (Cad K .ho) dx [("many_points", .int m), ("offered", .ref o)]) = H4 at i3 o3 ⊢
    refine q_fld T .ho (R := fun v H5 => ∃ y s A, v = .ref y ∧ Ex H4 H5 ∧ WyAt K H5 y s A (bareS m) ∧ ∀ f, H4 (A f) = none) (by decide +kernel) (fun Q q => c_ways (fun _ => vv rfl) (by omega) fun y s A H5 e W fr => q _ _ ⟨y, s, A, rfl, e, W, fr⟩) (fun _ => vv rfl) (fun v H5 ⟨y, s, A, _, e, _⟩ => e _ _ i3.ob) (by show 2 < 1000; decide) ?_
    rintro v H5 ⟨y, s, A, rfl, e5, W5, fr5⟩
    have nl : ∀ f, l ≠ A f := fun f e => by have := fr5 f; rw [← e, i3.ob] at this; cases this
    have nyl : y ≠ l := fun e => by
      obtain ⟨d, ob⟩ := W5.ob
      have := e5 _ _ i3.ob
      rw [← e, ob] at this; injection this with this; injection this with z1 z2 z3; cases z3
    have nsl : l ≠ s := fun e => by
      obtain ⟨d, ob⟩ := W5.st.ob
      have := e5 _ _ i3.ob
      rw [e, ob] at this; injection this with this; injection this with z1 z2 z3
      have := congrArg List.length z3
      rw [show (stF A).length = 15 by unfold stF; rw [List.length_zip, List.length_map]; rfl] at this; cases this
    have i5 : InC K .ho H1 (upd H5 l (.ins (Cad K .ho) dx [("many_points", .int m), ("offered", .ref o), ("ways", .ref y)])) l dx [("many_points", .int m), ("offered", .ref o), ("ways", .ref y)] := ⟨upd_same, fun q o h n => by rw [upd_ne n]; exact e5 _ _ (i3.kp q o h n)⟩
    have o5 : upd H5 l (.ins (Cad K .ho) dx [("many_points", .int m), ("offered", .ref o), ("ways", .ref y)]) o = some (.lst []) := by rw [upd_ne no]; exact e5 _ _ o3
    have noA : ∀ f, o ≠ A f := fun f e => by have := fr5 f; rw [← e, o3] at this; cases this
    have frA : ∀ f, H1 (A f) = none := fun f => i3.fresh (fr5 f) (Ne.symm (nl f))
    have W6 : WyAt K (upd H5 l (.ins (Cad K .ho) dx [("many_points", .int m), ("offered", .ref o), ("ways", .ref y)])) y s A (bareS m) := by
      obtain ⟨d, ob⟩ := W5.ob
      exact ⟨⟨d, by rw [upd_ne nyl]; exact ob⟩, W5.st.updo (e5 _ _ i3.ob) nsl⟩
    show sFld K _ _ _ _ _ (upd H5 l (.ins (Cad K .ho) dx [("many_points", .int m), ("offered", .ref o), ("ways", .ref y)]))
    generalize upd H5 l (.ins (Cad K .ho) dx [("many_points", .int m), ("offered", .ref o), ("ways", .ref y)]) = H6 at i5 o5 W6 ⊢
    refine s_fld T .ho (R := fun v H7 => ∃ d, v = .ref d ∧ H6 d = none ∧ Ex H6 H7 ∧ H7 d = some (.dK [])) (by decide +kernel) (fun Q q d hd => q _ _ ⟨d, rfl, hd, Ex.new hd, upd_same⟩) (fun _ => vv rfl) (fun v H3 ⟨o, _, _, e, _⟩ => e _ _ i5.ob) (by show 3 < 1000; decide) ?_
    rintro v H7 ⟨d1, rfl, f1, e7, h7⟩
    have nd1 : d1 ≠ l := fun e => by rw [e, i5.ob] at f1; cases f1
    have fd1 : H1 d1 = none := i5.fresh f1 nd1
    have W7 : WyAt K (upd H7 l (.ins (Cad K .ho) dx [("many_points", .int m), ("offered", .ref o), ("ways", .ref y), ("spots", .ref d1)])) y s A (bareS m) := by
      have W := W6.ex e7
      obtain ⟨d, ob⟩ := W.ob
      exact ⟨⟨d, by rw [upd_ne nyl]; exact ob⟩, W.st.updo (e7 _ _ i5.ob) nsl⟩
    refine k ⟨l, o, d1, y, s, A⟩ _ rfl ⟨⟨⟨dx, upd_same⟩, ⟨[], by rw [upd_ne no]; exact e7 _ _ o5, trivial⟩, by rw [upd_ne nd1]; exact h7, W7, noA⟩, lh_bare m ptH trivial _, fun g u v h => by simp at h⟩ (fun q o h n => by rw [upd_ne n]; exact e7 _ _ (i5.kp q o h n)) ?_
    rintro q (rfl | rfl | ⟨f, rfl⟩)
    · exact fo
    · exact fd1
    · exact frA f
theorem HoAt.k1 (h : HoAt K H a m es sp S) (f : Fd) : a.d ≠ a.A f := fun e => by
  obtain ⟨ys, z, _⟩ := h.wy.st.lst f
  have := h.e1
  rw [e, z] at this; cases this
theorem HoAt.ways (h : HoAt K H a m es sp S) (W : WyAt K H' a.y a.s a.A S') (k : Keep a.A H H') : HoAt K H' a m es sp S' := by
  obtain ⟨refs, r1, r2⟩ := h.of
  obtain ⟨dx, ob⟩ := h.ob
  refine ⟨⟨dx, k _ _ ob fun f e => ?_⟩, ⟨refs, k _ _ r1 h.no, r2.keep (TK.of h.wy.st k)⟩, k _ _ h.e1 h.k1, W, h.no⟩
  obtain ⟨ys, z, _⟩ := h.wy.st.lst f
  rw [e, z] at ob; cases ob
theorem HoAt.ex (h : HoAt K H a m es sp S) (e : Ex H H') : HoAt K H' a m es sp S := h.ways (h.wy.ex e) (exKeep e)
theorem HoI.ex (h : HoI K H a m nb es sp S U) (e : Ex H H') : HoI K H' a m nb es sp S U := ⟨h.at_.ex e, h.lh, h.sp_⟩
theorem v_ho (T : Tx w K mg) (h : HoAt K H a m es sp S) (hb : Val tb σ H (.ref a.l)) {f : Str} (hf : f ∈ Cn.fields .ho) (hl : ([("many_points", V.int m), ("offered", .ref a.o), ("ways", .ref a.y), ("spots", .ref a.d)] : List (Str × V)).lookup f = some v) : Val (tFld K tb f) σ H v := fun Q q => by
  obtain ⟨dx, h1⟩ := h.ob
  exact hb _ ⟨a.l, Cad K .ho, dx, _, v, rfl, h1, T.cls .ho, T.noat .ho f hf, hl, q⟩
theorem h_off (T : Tx w K mg) (h : HoAt K H a m es sp S) (hb : Val tb σ H (.ref a.l)) : Val (tFld K tb "offered") σ H (.ref a.o) := v_ho T h hb (by decide +kernel) rfl
theorem h_wys (T : Tx w K mg) (h : HoAt K H a m es sp S) (hb : Val tb σ H (.ref a.l)) : Val (tFld K tb "ways") σ H (.ref a.y) := v_ho T h hb (by decide +kernel) rfl
theorem h_spt (T : Tx w K mg) (h : HoAt K H a m es sp S) (hb : Val tb σ H (.ref a.l)) : Val (tFld K tb "spots") σ H (.ref a.d) := v_ho T h hb (by decide +kernel) rfl
theorem h_mpt (T : Tx w K mg) (h : HoAt K H a m es sp S) (hb : Val tb σ H (.ref a.l)) : Val (tFld K tb "many_points") σ H (.int m) := v_ho T h hb (by decide +kernel) rfl
theorem h_offi (T : Tx w K mg) (h : HoAt K H a m es sp S) (hb : Val tb σ H (.ref a.l)) {i : Nat} {o : Nat × Nat} (hx : Val tx σ H (.int i)) (ho : es[i]? = some o) : ∃ p, H p = some (.tup (prV o)) ∧ Val (tOp (rIxL K) (tFld K tb "offered") tx) σ H (.ref p) := by
  obtain ⟨refs, r1, r2⟩ := h.of
  obtain ⟨p, q1, q2⟩ := r2.get (i := i) (x := prV o) (by rw [List.getElem?_map, ho]; rfl)
  exact ⟨p, q2, v_ixL (h_off T h hb) (SqL.of r1) hx q1⟩
theorem Hf.ofA (f : Fd) : Hf a (a.A f) := .inr (.inr ⟨f, rfl⟩)
theorem HoAt.offer (h : HoAt K H a m es sp S) {o : Nat × Nat} {p : Addr} {refs : List V} (hr : H a.o = some (.lst refs)) (hp : H p = some (.tup (prV o))) : HoAt K (upd H a.o (.lst (refs ++ [.ref p]))) a m (es ++ [o]) sp S ∧ KeepF (Hf a) H (upd H a.o (.lst (refs ++ [.ref p]))) := by
  obtain ⟨⟨dx, ob⟩, ⟨refs', r1, r2⟩, e1, wy, no⟩ := h
  have : refs' = refs := by rw [hr] at r1; cases r1; rfl
  subst this
  have n1 : a.l ≠ a.o := ne_of ob r1 (by intro z; cases z)
  have n3 : a.d ≠ a.o := ne_of e1 r1 (by intro z; cases z)
  have tk : TK H (upd H a.o (.lst (refs' ++ [.ref p]))) := TK.upd r1 (fun _ => by intro z; cases z)
  have hp' := tk _ _ hp
  refine ⟨⟨⟨dx, by rw [upd_ne n1]; exact ob⟩, ⟨_, upd_same, by rw [List.map_append]; exact (r2.keep tk).add hp'⟩, by rw [upd_ne n3]; exact e1, ⟨?_, wy.st.updn r1 no⟩, no⟩, (KeepF.refl _ H).upd (.inl rfl)⟩
  obtain ⟨dy, oy⟩ := wy.ob
  exact ⟨dy, by rw [upd_ne (ne_of oy r1 (by intro z; cases z))]; exact oy⟩
theorem HoAt.dict (h : HoAt K H a m es sp S) (sp' : Prs) : HoAt K (upd H a.d (.dK (spK sp'))) a m es sp' S ∧ KeepF (Hf a) H (upd H a.d (.dK (spK sp'))) := by
  obtain ⟨⟨dx, ob⟩, ⟨refs, r1, r2⟩, e1, wy, no⟩ := h
  have n1 : a.l ≠ a.d := ne_of ob e1 (by intro z; cases z)
  have n3 : a.o ≠ a.d := ne_of r1 e1 (by intro z; cases z)
  refine ⟨⟨⟨dx, by rw [upd_ne n1]; exact ob⟩, ⟨refs, by rw [upd_ne n3]; exact r1, r2.keep (TK.upd e1 (fun _ => by intro z; cases z))⟩, upd_same, ?_, no⟩, (KeepF.refl _ H).upd (.inr (.inl rfl))⟩
  exact wy.updo e1 (fun _ => by intro z; cases z) (fun _ => by intro z; cases z) (fun _ _ _ => by intro z; cases z)
theorem c_hoV (h : HoAt K H a m es sp S) {f : Str} {sp' : Sp} {E : XK} {t : TA} {vs : List V} {Q : VK} (hm : f ∉ Cn.fields .ho) (hb : Val tb σ H (.ref a.l)) (ht : Args t σ H vs) (k : sp' (.ref a.l :: (vs ++ [])) H Q E) : tMeth (Cad K .ho) f sp' [] E tb t σ H Q :=
  hb _ (by
    obtain ⟨dx, h1⟩ := h.ob
    exact ⟨a.l, dx, _, rfl, h1, lookup_zip_none (ns := Cn.fields .ho) (vs := [V.int m, V.ref a.o, V.ref a.y, V.ref a.d]) hm, ht _ k⟩)
def spHoOffer (K : PySem.W.Frag) : Sp := fun vs H Q _ => ∃ (a : HoA) (m nb : Nat) (es sp : Prs) (S : LC.S) (U x y : Nat), vs = [.ref a.l, .int (x : Nat), .int (y : Nat)] ∧ HoI K H a m nb es sp S U ∧ nb + 1 ≤ 103 ∧ U + 20 ≤ 2800 ∧ x < m ∧ y < m ∧ es.length ≤ 1000 ∧
  ∀ H' v sp' S', HoI K H' a m (nb + 1) (es ++ [(x, y)]) sp' S' (U + 20) → KeepF (Hf a) H H' → Q v H'
theorem ok_ho_offer (T : Tx w K mg) : Ok P w K mg base 12 .ho_offer (spHoOffer K) := by
  refine T.okd .ho_offer sc_ho_offer (fun vs H Q E h => ?_) (fun cdv A0 outer s0 H vs Q E hr h => ⟨_, (pss_cons (ps_expr (pe_call (ok_look_points T) (hr.mono (by decide)) rfl (T.glF _ (by decide +kernel)) (T.fn .look_points).kp (b_look_points T) .nil pass0 (pa_cons (pe_fld (pv 0) rfl) (pa_cons (pv 1) (pa_cons (pv 2) pa_nil)))))
    (pss_cons (ps_expr (pe_bm PySem.F.plainAttrs_list PySem.F.slot_list_append PySem.F.type_list_append mt_append (pe_fld (pv 0) rfl) (pa_cons (pe_tup (pa_cons (pv 1) (pa_cons (pv 2) pa_nil))) pa_nil)))
    (pss_cons (ps_if (pt_val (pe_meth (pe_fld (pv 0) rfl) (T.cls .wy) (T.meth .wy _ (by decide +kernel)) (ok_wy_do T) (hr.mono (by decide)) (b_wy_do T) .nil pass0 (pa_cons (pe_tup (pa_cons pe_str (pa_cons (pv 1) (pa_cons (pv 2) pa_nil)))) pa_nil))) (pss_cons (ps_expr (pe_meth (pe_fld (pv 0) rfl) (T.cls .wy) (T.meth .wy _ (by decide +kernel)) (ok_wy_do T) (hr.mono (by decide)) (b_wy_do T) .nil pass0 (pa_cons (pe_tup (pa_cons pe_str (pa_cons (pv 1) (pa_cons (pv 2) (pa_cons pe_int pa_nil))))) pa_nil)))
    (pss_one (ps_retN))) pss_nil)
    (pss_cons (ps_set (i := 3) sc_ho_offer.nd rfl (Or.inl rfl) (pe_meth (pe_fld (pv 0) rfl) (T.cls .wy) (T.meth .wy _ (by decide +kernel)) (ok_wy_do T) (hr.mono (by decide)) (b_wy_do T) .nil pass0 (pa_cons (pe_tup (pa_cons pe_str (pa_cons pe_int (pa_cons pe_str pa_nil)))) pa_nil)))
    (pss_cons (ps_expr (pe_meth (pe_fld (pv 0) rfl) (T.cls .wy) (T.meth .wy _ (by decide +kernel)) (ok_wy_do T) (hr.mono (by decide)) (b_wy_do T) .nil pass0 (pa_cons (pe_tup (pa_cons pe_str (pa_cons (pv 1) (pa_cons (pv 3) pa_nil)))) pa_nil)))
    (pss_cons (ps_expr (pe_meth (pe_fld (pv 0) rfl) (T.cls .wy) (T.meth .wy _ (by decide +kernel)) (ok_wy_do T) (hr.mono (by decide)) (b_wy_do T) .nil pass0 (pa_cons (pe_tup (pa_cons pe_str (pa_cons (pv 3) (pa_cons (pv 2) pa_nil)))) pa_nil)))
    (pss_one (ps_dput (hu_of hr) (pe_fld (pv 0) rfl) (pe_op op_sub (pe_callB call_len_seq (by rfl) (T.free _ (by decide +kernel)) (by decide +kernel) (by exact (pa_cons (pe_fld (pv 0) rfl) pa_nil))) pe_int) (pv 3) rfl)))))))), ?_⟩)
  · obtain ⟨a, m, nb, es, sp, S, U, x, y, rfl, _⟩ := h; rfl
  · obtain ⟨a, m, nb, es, sp, S, U, x, y, rfl, hL, hn, hU, hx, hy, hol, k⟩ := h
    refine q_callF (args1 (h_mpt T hL.at_ (vv rfl)) (args1 (vv rfl) (args1 (vv rfl) args0))) ⟨m, x, y, rfl, hx, hy, ?_⟩
    obtain ⟨refs, r1, r2⟩ := hL.at_.of
    have rl := r2.len
    rw [List.length_map] at rl
    refine q_appendU (h_off T hL.at_ (vv rfl)) r1 (nu_tup (args1 (vv rfl) (args1 (vv rfl) args0)) (by show 2 ≤ 100000; decide)) (by rw [rl]; exact sz_lt (by omega)) fun p H1 hp e1 h1 => ?_
    obtain ⟨hA, k1⟩ := (hL.at_.ex e1).offer (o := (x, y)) (e1 _ _ r1) h1
    have k1 := (KeepF.ex e1).trans k1
    have rN : (refs ++ [V.ref p]).length = es.length + 1 := by rw [List.length_append, rl]; rfl
    have rS : upd H1 a.o (.lst (refs ++ [.ref p])) a.o = some (.lst (refs ++ [.ref p])) := upd_same
    generalize upd H1 a.o (.lst (refs ++ [.ref p])) = H2 at hA k1 rS ⊢
    clear r1 r2 h1 hp e1
    have hn0 : nb ≤ 103 := by omega
    have hL1 : LC.LH m nb ptH (es ++ [(x, y)]) (LC.HW es (LC.inK sp)) sp S U := hL.lh.more hx hy
    have hKl : ∀ j, LC.inK sp j → j < es.length := fun j hj => hL.lh.lt hj
    have n4 : S.n ≤ 10000 := by have := hL.lh.nb; omega
    obtain ⟨S1, r, f1, f2, f3⟩ := hL1.joined hn0 hx hy
    have cS1 : S1.cnt ≤ cLim := cnt_ok f2.cnt (by omega)
    have hmn := hL.lh.O.mn
    refine c_do hA.wy (h_wys T hA (vv rfl)) (r := .joined x y) (nu_tup (args1 vc (args1 (vv rfl) (args1 (vv rfl) args0))) (by show 3 ≤ 100000; decide)) rfl (fun z hz => by
        rcases List.mem_cons.mp hz with q | q
        · omega
        · rw [List.mem_singleton.mp q]; omega) n4 ⟨S1, r, f1, cS1, ?_⟩
    intro H3 v hv W3 k3
    have hA3 := hA.ways W3 k3
    have kk3 : KeepF (Hf a) H H3 := k1.trans (KeepF.of k3 fun f => Hf.ofA f)
    have hmn3 := f2.O.mn
    have hnb3 := f2.nb
    refine ⟨r, hv, ?_⟩
    cases r with
    | true =>
      refine iteT ?_
      have cc := f3.mp rfl
      obtain ⟨S2, rr, g1, g2, g3, g4, g5⟩ := f2.addW hn0 (fun _ => trivial) hx hy cc
      have cS2 : S2.cnt ≤ cLim := cnt_ok g5.cnt (by omega)
      refine c_do W3 (h_wys T hA3 (vv rfl)) (r := .add x y 1) (nu_tup (args1 vc (args1 (vv rfl) (args1 (vv rfl) (args1 vc args0)))) (by show 4 ≤ 100000; decide)) rfl (fun z hz => by
        rcases List.mem_cons.mp hz with q | q
        · omega
        · rw [List.mem_singleton.mp q]; omega) (by omega) ⟨small1, S2, g1, cS2, ?_⟩
      intro H4 v' hv' W4 k4
      have gl : LC.Lead es x y rr := g2.less fun j hj => hKl j (g4 j hj)
      have ccb : LC.Conn (LC.Lk es (LC.inK sp)) x y := gl.conn g4
      refine k H4 _ sp S2 ⟨hA3.ways W4 k4, ?_, hL.sp_.old ccb⟩ (kk3.trans (KeepF.of k4 fun f => Hf.ofA f))
      have : LC.LH m nb ptH (es ++ [(x, y)]) (LC.HW (es ++ [(x, y)]) (LC.inK sp)) sp S2 (U + 2 + 4) := g5.impK fun j v hj ⟨v0, h1, h2⟩ => by
        rw [h2]
        exact h1.add hj hL.lh.fo gl g3 g4 hKl
      exact ⟨this.O, this.hw, (this.mono (by omega : U + 2 + 4 ≤ U + 20)).cnt, by have := this.nb; omega⟩
    | false =>
      refine iteF ?_
      have nc : ¬ LC.Conn (LC.Lk (es ++ [(x, y)]) (LC.inK sp)) x y := fun z => by have := f3.mpr z; cases this
      have nK : ¬ LC.inK sp es.length := fun z => Nat.lt_irrefl _ (hKl _ z)
      have eK : ∀ t, LC.inK (sp ++ [(es.length, t)]) = fun j => LC.inK sp j ∨ j = es.length := fun t => funext fun j => propext LC.inK_new
      obtain ⟨S2, S3, g1, g2, g3, g4, g5⟩ := (f2.impK (wt' := fun j v => (j = es.length ∧ v = 0) ∨ (LC.inK sp j ∧ LC.HW es (LC.inK sp) j v)) fun j v hj h => .inr ⟨hj, h⟩).keep (k := es.length) (a := x) (b := y) (c := 0) hn nK (by rw [List.getElem?_append_right (Nat.le_refl _), Nat.sub_self]; rfl) nc (.inl ⟨rfl, rfl⟩)
      have cS3 : S3.cnt ≤ cLim := cnt_ok g5.cnt (by omega)
      refine c_do W3 (h_wys T hA3 (vv rfl)) (r := .new 0) (nu_tup (args1 vc (args1 vc (args1 vc args0))) (by show 3 ≤ 100000; decide)) rfl (fun x hx => by cases hx) (by omega) ?_
      intro H4 v hv4 W4 k4
      cases hv4
      have hA4 := hA3.ways W4 k4
      refine c_do W4 (h_wys T hA4 (vv rfl)) (r := .tie x S1.n) (nu_tup (args1 vc (args1 (vv rfl) (args1 (vv rfl) args0))) (by show 3 ≤ 100000; decide)) rfl (fun z hz => by
        show z < S1.n + 1
        rcases List.mem_cons.mp hz with q | q
        · omega
        · rw [List.mem_singleton.mp q]; omega) (by show S1.n + 1 ≤ 10000; omega) ⟨S2, g1, by omega, ?_⟩
      intro H5 v hv5 W5 k5
      have hA5 := hA4.ways W5 k5
      refine c_do W5 (h_wys T hA5 (vv rfl)) (r := .tie S1.n y) (nu_tup (args1 vc (args1 (vv rfl) (args1 (vv rfl) args0))) (by show 3 ≤ 100000; decide)) rfl (fun z hz => by
        rcases List.mem_cons.mp hz with q | q
        · omega
        · rw [List.mem_singleton.mp q]; omega) (by omega) ⟨S3, g2, cS3, ?_⟩
      intro H6 v hv6 W6 k6
      have hA6 := hA5.ways W6 k6
      have rS6 : H6 a.o = some (.lst (refs ++ [.ref p])) := k6 _ _ (k5 _ _ (k4 _ _ (k3 _ _ rS hA.no) hA3.no) hA4.no) hA5.no
      have sl := sp_len f2.O
      refine s_dput (i := ((es.length : Nat) : Int)) (v := .int (S1.n : Nat)) (vv rfl) (h_spt T hA6 (vv rfl)) ?_ hA6.e1 (by rw [spK_len]; exact sz_lt (by omega)) ?_
      · have := v_I0 (g := fun i j => V.int (i - j)) (v_lenL (K := K) (te := tFld K (tVar 0) "offered") (h_off T hA6 (vv rfl : Val (tVar 0) [some (.ref a.l), some (.int x), some (.int y), some (.int (S1.n : Nat))] H6 (.ref a.l))) (.inl (SqL.of rS6))) (vc (v := .int 1))
        rw [rN] at this
        rw [show (((es.length + 1 : Nat) : Int) - 1) = ((es.length : Nat) : Int) by omega] at this
        exact this
      · rw [putK_fresh (spK_none nK)]
        obtain ⟨hA7, k7⟩ := hA6.dict (sp ++ [(es.length, S1.n)])
        rw [show spK (sp ++ [(es.length, S1.n)]) = spK sp ++ [(.inl ((es.length : Nat) : Int), .int (S1.n : Nat))] by simp [spK]] at hA7 k7
        have F' := g5.fo
        rw [eK] at F'
        have lh : LC.LH m (nb + 1) ptH (es ++ [(x, y)]) (LC.HW (es ++ [(x, y)]) (LC.inK (sp ++ [(es.length, S1.n)]))) (sp ++ [(es.length, S1.n)]) S3 (U + 2 + 8) := g5.impK fun j v hj h => by
          rw [eK]
          rcases h with ⟨rfl, rfl⟩ | ⟨h1, h2⟩
          · exact LC.HW.new hL.sp_ hKl
          · exact h2.old h1 F' hL.sp_ hKl
        refine k _ _ _ S3 ⟨hA7, lh.mono (by omega), ?_⟩ ((kk3.trans (KeepF.of ((k4.trans k5).trans k6) fun f => Hf.ofA f)).trans k7)
        rw [eK]
        exact hL.sp_.new (x, y)
end
end TC
namespace TC
open PySem PySem.Spec PyProof.Rows L2
section
variable {P : Program} {w : World} {K : PySem.W.Frag} {mg : Str → Option Value} {base : Heap} {H H' H0 : Hp} {y s p : Addr} {a : HoA} {A : Fd → Addr} {S S' : LC.S} {σ : L2.St} {tb tx te tl tc tv : TE} {ta : TA} {D : Ends} {v x : V} {t1 t2 tz tu : TS} {t tt : TT} {b : Bool} {m nb U : Nat} {es sp : Prs}
theorem HoI.mono {nb' U' : Nat} (h : HoI K H a m nb es sp S U) (h1 : nb ≤ nb') (h2 : U ≤ U') : HoI K H a m nb' es sp S U' := ⟨h.at_, ⟨h.lh.O, h.lh.hw, (h.lh.mono h2).cnt, Nat.le_trans h.lh.nb h1⟩, h.sp_⟩
theorem spK_get {n k : Nat} {es : Prs} (O : LC.SpOk m n es sp) : valV (spK sp) (.inl (k : Int)) = none ∨ ∃ t, (k, t) ∈ sp ∧ valV (spK sp) (.inl (k : Int)) = some (.int (t : Nat)) := by
  by_cases q : LC.inK sp k
  · obtain ⟨t, ht⟩ := LC.inK_iff.mp q
    exact .inr ⟨t, ht, spK_some O ht⟩
  · exact .inl (spK_none q)
def spHolds (K : PySem.W.Frag) : Sp := fun vs H Q _ => ∃ (a : HoA) (m nb : Nat) (es sp : Prs) (S : LC.S) (U N : Nat), vs = [.ref a.l, .int (N : Nat)] ∧ HoI K H a m nb es sp S U ∧ nb ≤ 103 ∧ U + 4 ≤ 2800 ∧ N < es.length ∧ es.length ≤ 1000 ∧
  ∀ H' S' b, HoI K H' a m nb es sp S' (U + 4) → KeepF (Hf a) H H' → (b = true ↔ LC.Br es N) → Q (.bl b) H'
theorem s_retD {c : V} (h : te σ H fun v H1 => scal v c = true ∧ D.rt (.bl (decide (v = c))) H1) : tRet (tOp rEq te (tC c)) D σ H := h
theorem ok_ho_holds (T : Tx w K mg) : Ok P w K mg base 12 .ho_holds (spHolds K) := by
  refine T.okd .ho_holds sc_ho_holds (fun vs H Q E h => ?_) (fun cdv A0 outer s0 H vs Q E hr h => ⟨_, (pss_cons (ps_if (PW.pt (pw_or (pt_not (pt_val (pe_call (ok_is_number_shapes T) (hr.mono (by decide)) rfl (T.glF _ (by decide +kernel)) (T.fn .is_number_shapes).kp (b_is_number_shapes T) .nil pass0 (pa_cons (pv 1) pa_nil)))) (pw_or1 (pt_not (pt_chain op_le op_lt pe_int (pv 1) (pe_callB call_len_seq (by rfl) (T.free _ (by decide +kernel)) (by decide +kernel) (by exact (pa_cons (pe_fld (pv 0) rfl) pa_nil)))))))) (pss_one ps_never) pss_nil)
    (pss_cons (ps_if (pt_cmp (pc_dnotin (hu_of hr) (pv 1) (pe_fld (pv 0) rfl))) (pss_one (ps_ret pe_bl)) pss_nil)
    (pss_cons (ps_set (i := 2) sc_ho_holds.nd rfl (Or.inl rfl) (pe_dget (hu_of hr) (pe_fld (pv 0) rfl) (pv 1) (fun _ _ => rfl)))
    (pss_one (ps_ret (pe_cmpR op_eq (pe_meth (pe_fld (pv 0) rfl) (T.cls .wy) (T.meth .wy _ (by decide +kernel)) (ok_wy_do T) (hr.mono (by decide)) (b_wy_do T) .nil pass0 (pa_cons (pe_tup (pa_cons pe_str (pa_cons (pv 2) (pa_cons (pv 2) pa_nil)))) pa_nil)) pe_int (nomark _))))))), ?_⟩)
  · obtain ⟨a, m, nb, es, sp, S, U, N, rfl, _⟩ := h; rfl
  · obtain ⟨a, m, nb, es, sp, S, U, N, rfl, hL, hn, hU, hN, hol, k⟩ := h
    obtain ⟨refs, r1, r2⟩ := hL.at_.of
    have rl := r2.len
    rw [List.length_map] at rl
    refine q_when (b := !true || !true) (a_or (a_not (a_num (Q := fun _ _ => True) (vv rfl))) fun _ => a_not ?_) (fun q => by cases q) fun _ => ?_
    · have := v_chain (te := tC (.int 0)) (tb := tVar 1) (H := H) (σ := L2.start ["self", "number", "spot"] [V.ref a.l, V.int N]) vc (vv rfl) (v_lenL (K := K) (te := tFld K (tVar 0) "offered") (h_off T hL.at_ (vv rfl)) (.inl (SqL.of r1)))
      rw [decide_eq_true (by omega), decide_eq_true (by omega)] at this
      exact a_test this
    rcases spK_get (k := N) hL.lh.O with q0 | ⟨t, ht, q0⟩
    · have nK : ¬ LC.inK sp N := fun z => by
        obtain ⟨t, ht⟩ := LC.inK_iff.mp z
        rw [spK_some hL.lh.O ht] at q0; cases q0
      refine q_when (b := true) (L2.Ans.to (a_dni (i := (N : Int)) (vv rfl) (h_spt T hL.at_ (vv rfl)) hL.at_.e1) (by rw [q0]; rfl)) (fun _ => ?_) (fun q => by cases q)
      exact s_ret (v := .bl false) vc (k H S false (hL.mono (Nat.le_refl _) (by omega)) (KeepF.refl _ _) ⟨fun z => (by cases z), fun z => absurd (z.kept hL.sp_ hN) nK⟩)
    · refine q_when (b := false) (L2.Ans.to (a_dni (i := (N : Int)) (vv rfl) (h_spt T hL.at_ (vv rfl)) hL.at_.e1) (by rw [q0]; rfl)) (fun q => by cases q) fun _ => ?_
      refine q_set (v := .int (t : Nat)) (v_dget (i := (N : Int)) (h_spt T hL.at_ (vv rfl)) (vv rfl) hL.at_.e1 q0) ?_
      obtain ⟨S1, e1, e2, e3, e4⟩ := hL.lh.total hn ht
      have n4 : S.n ≤ 10000 := by have := hL.lh.nb; omega
      refine s_retD (te := tMeth (Cad K .wy) "do" (spDo K fun _ => true) [] E0 (tFld K (tVar 0) "ways") (tCons (tTup (tCons (tC (.str "total")) (tCons (tVar 2) (tCons (tVar 2) tNil)))) tNil)) (c_do hL.at_.wy (h_wys T hL.at_ (vv rfl)) (r := .total t t) (nu_tup (args1 vc (args1 (vv rfl) (args1 (vv rfl) args0))) (by show 3 ≤ 100000; decide)) rfl (fun z hz => by
        rcases List.mem_cons.mp hz with q | q
        · omega
        · rw [List.mem_singleton.mp q]; exact e4) n4 ⟨S1, e1, cnt_ok e3.cnt hU, ?_⟩)
      intro H1 v hv W1 k1
      cases hv
      refine ⟨rfl, k H1 S1 _ ⟨hL.at_.ways W1 k1, e3, hL.sp_⟩ (KeepF.of k1 fun f => Hf.ofA f) ?_⟩
      rw [← LC.bridge hL.lh.fo hL.sp_ hN]
      have : (V.int (S1.to t) = V.int 0) ↔ S1.to t = 0 := ⟨fun z => by injection z, fun z => by rw [z]⟩
      rw [decide_eq_true_iff, this]
      exact ⟨fun z => ⟨LC.inK_iff.mpr ⟨t, ht⟩, e2.2.mp z⟩, fun z => e2.2.mpr z.2⟩
theorem lc_Y {n : Nat} {j : Nat} {vs : List Nat} {Q : VK} (hta : Args ta σ H [.int (n : Nat)]) (hn : n ≤ 1000000) (hw : ∀ x, wipe ((wipe σ vs).set j (some x)) vs = wipe σ vs) (Pv : Addr → Nat → Hp → Prop) (h0 : ∀ D, H D = none → Pv D 0 (upd H D (.lst [])))
    (hs : ∀ D i H', H D = none → i < n → Pv D i H' → tt ((wipe σ vs).set j (some (iV i))) H' fun b H3 => if b = true then te ((wipe σ vs).set j (some (iV i))) H3 fun y H4 => ∃ acc, H4 D = some (.lst acc) ∧ acc.length < sizeLine ∧ Pv D (i + 1) (upd H4 D (.lst (acc ++ [y]))) else Pv D (i + 1) H3) (hd : ∀ D H', H D = none → Pv D n H' → Q (.ref D) H') :
    tLc (iRng1 ta) (gName j) tt te vs σ H Q := hta _ ⟨n, rfl, by omega, by omega, fun Dl hD =>
  lc_range (Pv Dl) (h0 Dl hD) (fun i H' hi hp => by
    rw [Int.toNat_natCast] at hi
    have e : (0 : Int) + (i : Int) = i := by omega
    rw [e]
    exact ⟨hw _, hs Dl i H' hD hi hp⟩) (fun H' hp => by
    rw [Int.toNat_natCast] at hp
    exact hd Dl H' hD hp)⟩
theorem HoAt.updl (h : HoAt K H a m es sp S) {d : Addr} {xs ys : List V} (hd : H d = some (.lst xs)) (h1 : d ≠ a.o) (h2 : ∀ f, d ≠ a.A f) : HoAt K (upd H d (.lst ys)) a m es sp S := by
  obtain ⟨⟨dx, ob⟩, ⟨refs, r1, r2⟩, e1, wy, no⟩ := h
  obtain ⟨dy, oy⟩ := wy.ob
  refine ⟨⟨dx, by rw [upd_ne (ne_of ob hd (by intro z; cases z))]; exact ob⟩, ⟨refs, by rw [upd_ne (Ne.symm h1)]; exact r1, r2.keep (TK.upd hd (fun _ => by intro z; cases z))⟩, by rw [upd_ne (ne_of e1 hd (by intro z; cases z))]; exact e1, ⟨⟨dy, by rw [upd_ne (ne_of oy hd (by intro z; cases z))]; exact oy⟩, wy.st.updn hd h2⟩, no⟩
theorem HoI.updl (h : HoI K H a m nb es sp S U) {d : Addr} {xs ys : List V} (hd : H d = some (.lst xs)) (h1 : ¬ Hf a d) : HoI K (upd H d (.lst ys)) a m nb es sp S U :=
  ⟨h.at_.updl hd (fun e => h1 (.inl e)) (fun f e => h1 (.inr (.inr ⟨f, e⟩))), h.lh, h.sp_⟩
theorem Hf.tup (h : HoAt K H a m es sp S) {q : Addr} {xs : List V} (hq : H q = some (.tup xs)) : ¬ Hf a q := by
  rintro (rfl | rfl | ⟨f, rfl⟩)
  · obtain ⟨refs, r1, _⟩ := h.of; rw [r1] at hq; cases hq
  · rw [h.e1] at hq; cases hq
  · obtain ⟨xs, z, _⟩ := h.wy.st.lst f; rw [z] at hq; cases hq
theorem Hf.new (h : HoAt K H a m es sp S) {q : Addr} (hq : H q = none) : ¬ Hf a q := by
  rintro (rfl | rfl | ⟨f, rfl⟩)
  · obtain ⟨refs, r1, _⟩ := h.of; rw [r1] at hq; cases hq
  · rw [h.e1] at hq; cases hq
  · obtain ⟨xs, z, _⟩ := h.wy.st.lst f; rw [z] at hq; cases hq
def spHolding (K : PySem.W.Frag) : Sp := fun vs H Q _ => ∃ (a : HoA) (m nb : Nat) (es sp : Prs) (S : LC.S) (U : Nat), vs = [.ref a.l] ∧ HoI K H a m nb es sp S U ∧ nb ≤ 103 ∧ es.length ≤ 70 ∧ U + 4 * es.length ≤ 2800 ∧
  ∀ H' S' q (ns : List Nat), HoI K H' a m nb es sp S' (U + 4 * es.length) → KeepF (Hf a) H H' → H' q = some (.tup (ns.map iV)) → ns.Pairwise (· < ·) → (∀ k, k ∈ ns ↔ (k < es.length ∧ LC.Br es k)) → Q (.ref q) H'
theorem ok_ho_holding (T : Tx w K mg) : Ok P w K mg base 13 .ho_holding (spHolding K) := by
  refine T.okd .ho_holding sc_ho_holding (fun vs H Q E h => ?_) (fun cdv A0 outer s0 H vs Q E hr h => ⟨_, (pss_one (ps_ret (pe_callTy call_tuple_of (by rfl) (T.free _ (by decide +kernel)) (by decide +kernel) (by exact (pa_cons (pe_lc (own := [("number", 1)]) (g := gName 1) (tt := (tB (tMeth (Cad K .ho) "holds" (spHolds K) [] E0 (tVar 0) (tCons (tVar 1) tNil)))) (te := (tVar 1)) rfl sc_ho_holding.nd (pi_range1 (by rfl) (T.free _ (by decide +kernel)) (pa_cons (pe_callB call_len_seq (by rfl) (T.free _ (by decide +kernel)) (by decide +kernel) (by exact (pa_cons (pe_fld (pv 0) rfl) pa_nil))) pa_nil)) (blkOk_by (N := ["self", "number"]) (own := [("number", 1)]) (sc := defScope (Dn.sm .ho_holding)) (by decide +kernel)) (fun _ _ _ _ _ => (by exact (pg_name (i := 1) sc_ho_holding.nd rfl (Or.inl rfl)))) (fun _ _ _ _ _ => (by exact (pts_one (pt_val (pe_meth (pv 0) (T.cls .ho) (T.meth .ho _ (by decide +kernel)) (ok_ho_holds T) (hr.mono (by decide)) (b_ho_holds T) .nil pass0 (pa_cons (pv 1) pa_nil)))))) (fun _ _ _ _ _ => (by exact (pv 1)))) pa_nil))))), ?_⟩)
  · obtain ⟨a, m, nb, es, sp, S, U, rfl, _⟩ := h; rfl
  · obtain ⟨a, m, nb, es, sp, S, U, rfl, hL, hn, hol, hU, k⟩ := h
    obtain ⟨refs, r1, r2⟩ := hL.at_.of
    have rl := r2.len
    rw [List.length_map] at rl
    refine ret_cb (lc_Y (n := es.length) (args1 (rl ▸ v_lenL (K := K) (te := tFld K (tVar 0) "offered") (h_off T hL.at_ (vv rfl)) (.inl (SqL.of r1))) args0) (by omega) (fun _ => rfl) (fun d i H' => ∃ (S' : LC.S) (ns : List Nat), HoI K H' a m nb es sp S' (U + 4 * i) ∧ KeepF (fun q => Hf a q ∨ q = d) H H' ∧ H' d = some (.lst (ns.map iV)) ∧ ns.Pairwise (· < ·) ∧ (∀ k, k ∈ ns ↔ (k < i ∧ LC.Br es k)) ∧ ns.length ≤ i) (fun d hd => ⟨S, [], hL.ex (Ex.new hd), KeepF.ex (Ex.new hd), upd_same, List.Pairwise.nil, fun k => ⟨fun z => by simp at z, fun z => by omega⟩, by simp⟩) (fun d i H' hd hi hP => ?_) (fun d H' hd hP => ?_))
    · obtain ⟨S', ns, L2, k2, hda, hso, hme, hle⟩ := hP
      have nda : ¬ Hf a d := Hf.new hL.at_ hd
      refine c_hoV L2.at_ (by decide +kernel) (vv rfl) (args1 (v := iV i) (vv rfl) args0) ⟨a, m, nb, es, sp, S', U + 4 * i, i, rfl, L2, hn, by omega, hi, by omega, fun H3 S3 b L3 k3 hb => ⟨b, rfl, ?_⟩⟩
      have hda3 := k3 _ _ hda nda
      have kk : KeepF (fun q => Hf a q ∨ q = d) H H3 := k2.trans fun q' o' z1 z2 => k3 q' o' z1 (fun z => z2 (.inl z))
      cases b with
      | true =>
        have hbr := hb.mp rfl
        refine iteT ((vv rfl : Val (tVar 1) [some (.ref a.l), some (iV i)] H3 (iV i)) _ ⟨_, hda3, by rw [List.length_map]; exact sz_lt (by omega), S3, ns ++ [i], (L3.updl hda3 nda).mono (Nat.le_refl _) (by omega), kk.upd (.inr rfl), by rw [upd_same, List.map_append]; rfl, ?_, fun q => ?_, by rw [List.length_append, List.length_singleton]; omega⟩)
        · rw [List.pairwise_append]
          exact ⟨hso, by simp, fun x hx y hy => by rw [List.mem_singleton.mp hy]; exact ((hme x).mp hx).1⟩
        · rw [List.mem_append, List.mem_singleton, hme]
          constructor
          · rintro (⟨h1, h2⟩ | rfl)
            · exact ⟨by omega, h2⟩
            · exact ⟨Nat.lt_succ_self _, hbr⟩
          · rintro ⟨h1, h2⟩
            by_cases z : q = i
            · exact .inr z
            · exact .inl ⟨by omega, h2⟩
      | false =>
        have hbr : ¬ LC.Br es i := fun z => by have := hb.mpr z; cases this
        refine iteF ⟨S3, ns, L3.mono (Nat.le_refl _) (by omega), kk, hda3, hso, fun q => ?_, by omega⟩
        rw [hme]
        constructor
        · rintro ⟨h1, h2⟩; exact ⟨by omega, h2⟩
        · rintro ⟨h1, h2⟩
          refine ⟨?_, h2⟩
          by_cases z : q = i
          · rw [z] at h2; exact absurd h2 hbr
          · omega
    · obtain ⟨S', ns, L2, k2, hda, hso, hme, hle⟩ := hP
      refine ⟨d, _, rfl, .inl ⟨SqL.of hda, fun q hq => ?_⟩⟩
      refine k _ S' q ns (L2.ex (Ex.new hq)) (fun q' o' z1 z2 => Ex.new hq _ _ (k2 q' o' z1 (fun z => ?_))) upd_same hso hme
      rcases z with z | z
      · exact z2 z
      · rw [z, hd] at z1; cases z1
end
end TC
namespace TC
open PySem PySem.Spec PyProof.Rows L2
def oF (H : Hp) (o : Option (Nat × Nat)) (v : V) : Prop := match o with
  | none => v = .non
  | some (k, h) => ∃ q, v = .ref q ∧ H q = some (.tup [iV k, iV h])
def FAt (H : Hp) : List (Key × V) → LC.Fnd → Prop
  | [], [] => True
  | kv :: kvs, e :: fd => kv.1 = .inl (e.1 : Int) ∧ oF H e.2 kv.2 ∧ FAt H kvs fd
  | _, _ => False
section
variable {P : Program} {w : World} {K : PySem.W.Frag} {mg : Str → Option Value} {base : Heap} {H H' H0 : Hp} {y s p : Addr} {a : HoA} {A : Fd → Addr} {S S' : LC.S} {σ : L2.St} {tb tx te tl tc tv : TE} {ta : TA} {D : Ends} {v x : V} {t1 t2 tz tu : TS} {t tt : TT} {b : Bool} {m nb U : Nat} {es sp : Prs}
theorem oF.keep (e : TK H H') {o : Option (Nat × Nat)} {v : V} (h : oF H o v) : oF H' o v := by
  cases o with
  | none => exact h
  | some kh => obtain ⟨q, a, b⟩ := h; exact ⟨q, a, e _ _ b⟩
theorem FAt.keep (e : TK H H') : ∀ {kvs : List (Key × V)} {fd : LC.Fnd}, FAt H kvs fd → FAt H' kvs fd
  | [], [], _ => trivial
  | kv :: kvs, x :: fd, ⟨a, b, c⟩ => ⟨a, b.keep e, FAt.keep e c⟩
theorem FAt.len : ∀ {kvs : List (Key × V)} {fd : LC.Fnd}, FAt H kvs fd → kvs.length = fd.length
  | [], [], _ => rfl
  | kv :: kvs, x :: fd, ⟨a, b, c⟩ => by rw [List.length_cons, List.length_cons, FAt.len c]
theorem FAt.add {k : Key} {v : V} {e : Nat × Option (Nat × Nat)} (h1 : k = .inl (e.1 : Int)) (h2 : oF H e.2 v) : ∀ {kvs : List (Key × V)} {fd : LC.Fnd}, FAt H kvs fd → FAt H (kvs ++ [(k, v)]) (fd ++ [e])
  | [], [], _ => ⟨h1, h2, trivial⟩
  | kv :: kvs, x :: fd, ⟨a, b, c⟩ => ⟨a, b, FAt.add h1 h2 c⟩
theorem FAt.keys : ∀ {kvs : List (Key × V)} {fd : LC.Fnd}, FAt H kvs fd → kvs.map (·.1) = (fd.map fun e => (e.1 : Int)).map Sum.inl
  | [], [], _ => rfl
  | kv :: kvs, x :: fd, ⟨a, b, c⟩ => by rw [List.map_cons, List.map_cons, List.map_cons, FAt.keys c, a]
theorem FAt.none : ∀ {kvs : List (Key × V)} {fd : LC.Fnd} {x : Nat}, FAt H kvs fd → ¬ LC.Keys fd x → valV kvs (.inl (x : Int)) = none
  | [], [], _, _, _ => rfl
  | kv :: kvs, e :: fd, x, ⟨a, b, c⟩, h => by
    have h1 : ¬ kv.1 = .inl (x : Int) := fun z => h (by
      rw [a] at z
      have := Sum.inl.inj z
      have : e.1 = x := by omega
      show x ∈ List.map _ _
      rw [← this]; exact List.mem_cons_self)
    rw [valV_neg h1]
    exact FAt.none c fun z => h (List.mem_cons_of_mem _ z)
theorem FAt.some : ∀ {kvs : List (Key × V)} {fd : LC.Fnd} {i x : Nat} {o : Option (Nat × Nat)}, FAt H kvs fd → (fd.map (·.1)).Nodup → fd[i]? = Option.some (x, o) → ∃ v, valV kvs (.inl (x : Int)) = Option.some v ∧ oF H o v
  | [], [], _, _, _, _, _, h => by simp at h
  | kv :: kvs, e :: fd, 0, x, o, ⟨a, b, c⟩, _, h => by
    have : e = (x, o) := by simpa using h
    subst this
    exact ⟨kv.2, valV_pos a, b⟩
  | kv :: kvs, e :: fd, i + 1, x, o, ⟨a, b, c⟩, hn, h => by
    have h' : fd[i]? = Option.some (x, o) := by simpa using h
    rw [List.map_cons, List.nodup_cons] at hn
    have h1 : ¬ kv.1 = .inl (x : Int) := fun z => hn.1 (by
      rw [a] at z
      have := Sum.inl.inj z
      have : e.1 = x := by omega
      rw [this]
      exact List.mem_map.mpr ⟨_, List.mem_of_getElem? h', rfl⟩)
    rw [valV_neg h1]
    exact FAt.some c hn.2 h'
structure Come (H0 H : Hp) (es : Prs) (N f m : Nat) (d wl : Addr) (fd : LC.Fnd) : Prop where
  ex : Ex H0 H
  ok : LC.FOk es N f m fd
  at_ : ∃ kvs, H d = some (.dK kvs) ∧ FAt H kvs fd
  wt : H wl = some (.lst (fd.map fun e => iV e.1))
theorem Come.to {f N : Nat} {d wl : Addr} {fd : LC.Fnd} (h : Come H0 H es N f m d wl fd) (e : Ex H H') : Come H0 H' es N f m d wl fd := by
  obtain ⟨kvs, a, b⟩ := h.at_
  exact ⟨h.ex.trans e, h.ok, ⟨kvs, e _ _ a, b.keep (TK.ex e)⟩, e _ _ h.wt⟩
def spCome (K : PySem.W.Frag) : Sp := fun vs H Q _ => ∃ (a : HoA) (m nb : Nat) (es sp : Prs) (S : LC.S) (U N : Nat) (o : Nat × Nat), vs = [.ref a.l, .int (N : Nat)] ∧ HoI K H a m nb es sp S U ∧ m ≤ 1000 ∧ es.length ≤ 1000 ∧ es[N]? = some o ∧
  ∀ H' d kvs fd, Ex H H' → H' d = some (.dK kvs) → FAt H' kvs fd → LC.FOk es N o.1 m fd → (∀ x, LC.Keys fd x → LC.Gone es N fd x es.length) → Q (.ref d) H'
theorem q_augV {i : Nat} {x j : Int} (hx : σ[i]? = some (some (.int x))) (he : Val te σ H (.int j)) (k : tz D (σ.set i (some (.int (x + j)))) H) : tSeq (tAug i te (ipI fun i j => i + j)) tz D σ H :=
  ⟨_, hx, he _ ⟨x, j, rfl, rfl, k⟩⟩
theorem s_forE {l : Addr} {xs : List V} {g : TG} (h : Args ta σ H [.ref l]) (hx : SqL K H l xs) (Pv : Nat → L2.St → Hp → Prop) (h0 : Pv 0 σ H) (hl : ∀ i σ' H', i ≤ xs.length → Pv i σ' H' → SqL K H' l xs)
    (hs : ∀ i x p σ' H', xs[i]? = some x → i < xs.length → Pv i σ' H' → H' p = none → g (.ref p) σ' (upd H' p (.tup [iV i, x])) fun σ2 H2 => t1 { D with nx := Pv (i + 1), ct := Pv (i + 1), bk := D.nx } σ2 H2) (hd : ∀ σ' H', Pv xs.length σ' H' → D.nx σ' H') : tFor (iEnum K ta) g t1 D σ H :=
  h _ ⟨l, xs, rfl, hx, for_it walk_enum Pv h0 hl (fun i x σ' H1 H2 hi hp hy => by
    obtain ⟨p, u, v, rfl, hp0, rfl, hu, hv⟩ := hy
    cases hu
    exact hs i v p σ' H1 hv hi hp hp0) hd⟩
theorem upd_upd {H : Hp} {p : Addr} {o o' : HO} : upd (upd H p o) p o' = upd H p o' := by
  funext q
  by_cases e : q = p
  · subst e; rw [upd_same, upd_same]
  · rw [upd_ne e, upd_ne e, upd_ne e]
theorem q_dputN {d : Addr} {kvs : List (Key × V)} {i : Int} {ys : List V} {tk tv : TE} (hv : NewU tv σ H ys) (hd : ∀ H, Val tb σ H (.ref d)) (hk : ∀ H, Val tk σ H (.int i)) (he : H d = some (.dK kvs)) (hl : kvs.length < sizeLine) (k : ∀ q H1, H q = none → Ex H H1 → H1 q = some (.tup ys) → tz D σ (upd H1 d (.dK (putK kvs (.inl i) (.ref q))))) : tSeq (sDPut tb tk tv) tz D σ H :=
  hv _ fun q H1 hq e1 h1 => hd H1 _ (hk H1 _ ⟨d, _, rfl, .inl ⟨kvs, .inl i, e1 _ _ he, rfl, hl, rfl⟩, k q H1 hq e1 h1⟩)
theorem a_inT {q : Addr} {xs : List V} (h1 : Val te σ H x) (h2 : Val tb σ H (.ref q)) (hx : SqL K H q xs ∨ SqT K H q xs) (f1 : flatV x = true) (f2 : xs.all flatV = true) : L2.Ans (tTest (tOp (rIn K false) te tb)) σ H (inV x xs) := fun Q k =>
  h1 _ (h2 _ ⟨q, xs, rfl, hx, f1, f2, ⟨_, rfl, k⟩⟩)
theorem ok_ho_come_to (T : Tx w K mg) : Ok P w K mg base 3 .ho_come_to (spCome K) := by
  refine T.okd .ho_come_to sc_ho_come_to (fun vs H Q E h => ?_) (fun cdv A0 outer s0 H vs Q E hr h => ⟨_, (pss_cons (ps_set (i := 2) sc_ho_come_to.nd rfl (Or.inl rfl) (pe_ix ix_tup (pe_ix ix_list (pe_fld (pv 0) rfl) (pv 1) (fun _ _ => rfl)) pe_int (fun _ _ => rfl)))
    (pss_cons (ps_set (i := 3) sc_ho_come_to.nd rfl (Or.inl rfl) (pe_disp (by exact (pps_cons (pv 2) pe_non pps_nil)) rfl rfl (by simp) (by simp)))
    (pss_cons (ps_set (i := 4) sc_ho_come_to.nd rfl (Or.inl rfl) (pe_lst (pa_cons (pv 2) pa_nil)))
    (pss_cons (ps_set (i := 5) sc_ho_come_to.nd rfl (Or.inl rfl) pe_int)
    (pss_cons (ps_while PassesOwn.never (pt_cmpR op_lt (pv 5) (pe_callB call_len_seq (by rfl) (T.free _ (by decide +kernel)) (by decide +kernel) (by exact (pa_cons (pv 4) pa_nil))) (nomark _)) (pss_cons (ps_set (i := 6) sc_ho_come_to.nd rfl (Or.inl rfl) (pe_ix ix_list (pv 4) (pv 5) (fun _ _ => rfl)))
    (pss_cons (ps_aug (i := 5) sc_ho_come_to.nd rfl (Or.inl rfl) pe_int ip_add)
    (pss_one (ps_for PassesOwn.never rfl (pi_enum (by rfl) (T.free _ (by decide +kernel)) (pa_cons (pe_fld (pv 0) rfl) pa_nil)) (pg_tup rfl (pgs_cons (pg_name (i := 7) sc_ho_come_to.nd rfl (Or.inl rfl)) (pgs_cons (pg_name (i := 8) sc_ho_come_to.nd rfl (Or.inl rfl)) pgs_nil))) (pss_one (ps_if (PW.pt (pw_and (pt_cmpR op_ne (pv 7) (pv 1) (nomark _)) (pw_and1 (pt_cmpR op_in_seq (pv 6) (pv 8) rfl)))) (pss_cons (ps_set (i := 9) sc_ho_come_to.nd rfl (Or.inl rfl) (pe_op op_sub (pe_op op_add (pe_ix ix_tup (pv 8) pe_int (fun _ _ => rfl)) (pe_ix ix_tup (pv 8) pe_int (fun _ _ => rfl))) (pv 6)))
    (pss_one (ps_if (pt_cmp (pc_dnotin (hu_of hr) (pv 9) (pv 3))) (pss_cons (ps_dput (hu_of hr) (pv 3) (pv 9) (pe_tup (pa_cons (pv 7) (pa_cons (pv 6) pa_nil))) rfl)
    (pss_one (ps_expr (pe_bm PySem.F.plainAttrs_list PySem.F.slot_list_append PySem.F.type_list_append mt_append (pv 4) (pa_cons (pv 9) pa_nil))))) pss_nil))) pss_nil)))))))
    (pss_one (ps_ret (pv 3)))))))), ?_⟩)
  · obtain ⟨a, m, nb, es, sp, S, U, N, o, rfl, _⟩ := h; rfl
  · obtain ⟨a, m, nb, es, sp, S, U, N, ⟨oa, ob⟩, rfl, hL, hm, hol, ho, k⟩ := h
    have hl := hL.lh.O.ends N oa ob ho
    obtain ⟨p, hp, hv⟩ := h_offi (σ := L2.start ["self", "number", "first", "found", "waiting", "at", "here", "other", "pair", "there"] [V.ref a.l, V.int N]) (tb := tVar 0) (tx := tVar 1) T hL.at_ (vv rfl) (vv rfl) ho
    refine q_set (v := .int oa) (v_ixU hv hp (vc (v := .int 0)) rfl) ?_
    refine q_setN (R := fun H' v => ∃ d, v = V.ref d ∧ H d = none ∧ H' d = some (.dK [(.inl (oa : Int), .non)])) (fun Q q => ?_) fun v H1 e1 ⟨d, hv', hd, h1⟩ => ?_
    · exact fun d hd => (vv rfl : Val (tVar 2) _ _ (.int oa)) _ ⟨upd_same, [(.inl (oa : Int), .non)], rfl, by show 1 ≤ 15; decide, q _ _ (by rw [upd_upd]; exact Ex.new hd) ⟨d, rfl, hd, upd_same⟩⟩
    subst hv'
    refine q_setL (ys := [iV oa]) (nl_lst (args1 (vv rfl) args0) (by show 1 ≤ 100000; decide)) fun wl H2 hwl e2 h2 => ?_
    refine q_set (v := .int 0) vc ?_
    have nwl : H wl = none := fresh_back e1 hwl
    have ndw : d ≠ wl := fun e => by rw [← e, h1] at hwl; cases hwl
    have c0 : Come H H2 es N oa m d wl [(oa, none)] := ⟨e1.trans e2, LC.FOk.start hl.1, ⟨_, e2 _ _ h1, ⟨rfl, rfl, trivial⟩⟩, h2⟩
    obtain ⟨refs, r1, r2⟩ := hL.at_.of
    have rl := r2.len
    rw [List.length_map] at rl
    refine q_while (W := fun n σ' H' => ∃ (at' : Nat) (fd : LC.Fnd) (o6 o7 o8 o9 : Option V), σ' = [some (.ref a.l), some (.int N), some (.int oa), some (.ref d), some (.ref wl), some (.int at'), o6, o7, o8, o9] ∧ Come H H' es N oa m d wl fd ∧ n + at' = m + 1 ∧ at' ≤ fd.length ∧ ∀ i x o, i < at' → fd[i]? = some (x, o) → LC.Gone es N fd x es.length) (m + 1) ⟨0, _, _, _, _, _, rfl, c0, rfl, by simp, fun i x o h => by omega⟩ ?_
    rintro n _ H3 ⟨at', fd, o6, o7, o8, o9, rfl, c3, hn, hat, hg⟩
    refine ⟨decide ((at' : Int) < (fd.length : Nat)), (fun Q q => a_test (v_I0 (g := fun i j => V.bl (decide (i < j))) (vv rfl) ?_) _ (q H3 (Ex.refl _))), fun hb H4 e4 => ?_, fun hb H4 e4 => ?_⟩
    · have := v_lenL (K := K) (te := tVar 4) (σ := [some (.ref a.l), some (.int N), some (.int oa), some (.ref d), some (.ref wl), some (.int at'), o6, o7, o8, o9]) (vv rfl) (.inl (SqL.of c3.wt))
      rw [List.length_map] at this
      exact this
    · have hlt : at' < fd.length := by have := of_decide_eq_true hb; omega
      have c4 := c3.to e4
      obtain ⟨⟨hx, ho'⟩, hfx⟩ : ∃ e, fd[at']? = some e := ⟨_, List.getElem?_eq_getElem hlt⟩
      refine q_set (v := .int (hx : Nat)) (v_ixL (vv rfl) (SqL.of c4.wt) (vv rfl) (by rw [List.getElem?_map, hfx]; rfl)) ?_
      refine q_augV (i := 5) (x := (at' : Int)) (j := 1) rfl vc ?_
      have hxm := c4.ok.lt hx ho' (List.mem_of_getElem? hfx)
      refine s_forE (xs := refs) (args1 (h_off T (hL.at_.ex c4.ex) (vv rfl)) args0) (SqL.of (c4.ex _ _ r1)) (fun i σ' H' => ∃ (fd' : LC.Fnd) (o7 o8 o9 : Option V), σ' = [some (.ref a.l), some (.int N), some (.int oa), some (.ref d), some (.ref wl), some (.int ((at' : Int) + 1)), some (.int hx), o7, o8, o9] ∧ Come H H' es N oa m d wl fd' ∧ fd <+: fd' ∧ LC.Gone es N fd' hx i) ⟨fd, _, _, _, rfl, c4, List.prefix_rfl, fun k y z => by omega⟩ (fun i σ' H' _ ⟨_, _, _, _, _, c, _⟩ => SqL.of (c.ex _ _ r1)) ?_ ?_
      · rintro i x T' σ' H5 hxi hi ⟨fd', o7', o8', o9', rfl, c5, pre, gone⟩ hT
        have hie : i < es.length := by omega
        obtain ⟨⟨p1, p2⟩, hei⟩ : ∃ e, es[i]? = some e := ⟨_, List.getElem?_eq_getElem hie⟩
        obtain ⟨pq, q1, q2⟩ := r2.get (i := i) (x := prV (p1, p2)) (by rw [List.getElem?_map, hei]; rfl)
        rw [hxi] at q1; cases q1
        have c6 := c5.to (H' := upd H5 T' (.tup [iV i, .ref pq])) (Ex.new hT)
        have hpq := c6.ex _ _ q2
        have hm12 := hL.lh.O.ends i p1 p2 hei
        refine ⟨T', _, rfl, SqT.of upd_same, rfl, _, _, rfl, _, _, rfl, rfl, ?_⟩
        generalize upd H5 T' (.tup [iV i, .ref pq]) = H6 at c6 hpq ⊢
        have fin : ∀ (fd2 : LC.Fnd) (o9 : Option V) (H7 : Hp), Come H H7 es N oa m d wl fd2 → fd <+: fd2 → (∀ z, LC.Keys fd' z → LC.Keys fd2 z) → (i ≠ N → ∀ y, (es[i]? = some (hx, y) ∨ es[i]? = some (y, hx)) → LC.Keys fd2 y) → ∃ (fd' : LC.Fnd) (o7 o8 o9' : Option V), [some (V.ref a.l), some (.int N), some (.int oa), some (.ref d), some (.ref wl), some (.int ((at' : Int) + 1)), some (.int hx), some (iV i), some (.ref pq), o9] = [some (.ref a.l), some (.int N), some (.int oa), some (.ref d), some (.ref wl), some (.int ((at' : Int) + 1)), some (.int hx), o7, o8, o9'] ∧ Come H H7 es N oa m d wl fd' ∧ fd <+: fd' ∧ LC.Gone es N fd' hx (i + 1) := fun fd2 o9 H7 c7 pre2 h1 h2 => ⟨fd2, _, _, _, rfl, c7, pre2, fun k y k1 k2 k3 => by
          by_cases z : k = i
          · subst z; exact h2 k2 y k3
          · exact h1 y (gone k y (by omega) k2 k3)⟩
        have din : inV (.int hx) (prV (p1, p2)) = true ↔ (p1 = hx ∨ p2 = hx) := by
          show (((p1 : Int) == (hx : Int)) || (((p2 : Int) == (hx : Int)) || false)) = true ↔ _
          simp; omega
        by_cases hiN : i = N
        · refine s_when (b := false && false) (a_and (b := false) (L2.Ans.to (a_test (v_ne (vv rfl) (vv rfl) rfl)) (by rw [hiN]; simp [iV])) (fun q => by cases q)) (fun q => by cases q) fun _ => fin fd' _ H6 c6 pre (fun _ z => z) (fun z => absurd hiN z)
        · have hne : (!decide (iV i = V.int (N : Nat))) = true := by simp [iV]; omega
          have tin : L2.Ans (tTest (tOp (rIn K false) (tVar 6) (tVar 8))) [some (V.ref a.l), some (.int N), some (.int oa), some (.ref d), some (.ref wl), some (.int ((at' : Int) + 1)), some (.int hx), some (iV i), some (.ref pq), o9'] H6 (inV (.int hx) (prV (p1, p2))) := a_inT (vv rfl) (vv rfl) (.inr (SqT.of hpq)) rfl rfl
          refine s_when (b := true && inV (.int hx) (prV (p1, p2))) (a_and (b := true) (L2.Ans.to (a_test (v_ne (vv rfl) (vv rfl) rfl)) hne) fun _ => tin) (fun hb2 => ?_) (fun hb2 => ?_)
          · have hin := din.mp (by simpa using hb2)
            obtain ⟨th, hth, heth⟩ : ∃ th, p1 + p2 = hx + th ∧ (es[i]? = some (hx, th) ∨ es[i]? = some (th, hx)) := by
              rcases hin with rfl | rfl
              · exact ⟨p2, rfl, .inl hei⟩
              · exact ⟨p1, by omega, .inr hei⟩
            have hthm : th < m := by omega
            have only : ∀ y, (es[i]? = some (hx, y) ∨ es[i]? = some (y, hx)) → y = th := by
              intro y hy
              rw [hei] at hy
              rcases hy with hy | hy <;> (cases hy; omega)
            refine q_set (v := .int (th : Nat)) ?_ ?_
            · have := v_I0 (g := fun i j => V.int (i - j)) (v_I0 (g := fun i j => V.int (i + j)) (v_ixU (K := K) (tb := tVar 8) (tx := tC (.int 0)) (σ := [some (V.ref a.l), some (.int N), some (.int oa), some (.ref d), some (.ref wl), some (.int ((at' : Int) + 1)), some (.int hx), some (iV i), some (.ref pq), o9']) (vv rfl) hpq (vc (v := .int 0)) rfl) (v_ixU (K := K) (tb := tVar 8) (tx := tC (.int 1)) (vv rfl) hpq (vc (v := .int 1)) rfl)) (vv rfl : Val (tVar 6) _ H6 (.int hx))
              rw [show ((p1 : Int) + (p2 : Int) - (hx : Int)) = (th : Int) by omega] at this
              exact this
            · obtain ⟨kvs, g1, g2⟩ := c6.at_
              by_cases hk : LC.Keys fd' th
              · obtain ⟨ii, oo, hii⟩ := LC.keys_iff.mp hk
                obtain ⟨vv0, hv0, _⟩ := g2.some c6.ok.nd hii
                refine s_when (b := false) (L2.Ans.to (a_dni (i := (th : Int)) (vv rfl) (vv rfl) g1) (by rw [hv0]; rfl)) (fun q => by cases q) fun _ => fin fd' _ H6 c6 pre (fun _ z => z) (fun _ y hy => by rw [only y hy]; exact hk)
              · refine s_when (b := true) (L2.Ans.to (a_dni (i := (th : Int)) (vv rfl) (vv rfl) g1) (by rw [g2.none hk]; rfl)) (fun _ => ?_) (fun q => by cases q)
                obtain ⟨rr, hrr⟩ := id pre
                have hj : fd'[at']? = some (hx, ho') := by rw [← hrr, List.getElem?_append_left hlt]; exact hfx
                have ok7 := c6.ok.add hk hthm hiN heth hj
                have kl := g2.len
                have fl := c6.ok.len
                refine q_dputN (i := (th : Int)) (nu_tup (args1 (v := iV i) (vv rfl) (args1 (v := iV hx) (vv rfl) args0)) (by show 2 ≤ 100000; decide)) (fun _ => vv rfl) (fun _ => vv rfl) g1 (by exact sz_lt (by omega)) fun qq H7 hq7 e7 h7 => ?_
                rw [putK_fresh (g2.none hk)]
                have c7 := c6.to e7
                obtain ⟨kvs', z1, z2⟩ := c7.at_
                have : kvs' = kvs := by have := e7 _ _ g1; rw [z1] at this; cases this; rfl
                subst this
                have wtn : upd H7 d (.dK (kvs' ++ [(.inl (th : Int), .ref qq)])) wl = some (.lst (fd'.map fun e => iV e.1)) := by rw [upd_ne (Ne.symm ndw)]; exact c7.wt
                refine s_append (v := iV th) (vv rfl) wtn (args1 (vv rfl) args0) (by rw [List.length_map]; exact sz_lt (by omega)) ?_
                refine fin (fd' ++ [(th, some (i, hx))]) _ _ ⟨?_, ok7, ⟨kvs' ++ [(.inl (th : Int), .ref qq)], by rw [upd_ne ndw, upd_same], ?_⟩, by rw [upd_same, List.map_append]; rfl⟩ (pre.trans (List.prefix_append _ _)) (fun z hz => by unfold LC.Keys at hz ⊢; rw [List.map_append]; exact List.mem_append_left _ hz) (fun _ y hy => by rw [only y hy]; unfold LC.Keys; simp)
                · exact Ex.mut (Ex.mut c7.ex hd) nwl
                · have tk : TK H7 (upd (upd H7 d (.dK (kvs' ++ [(.inl (th : Int), .ref qq)]))) wl (.lst (fd'.map (fun e => iV e.1) ++ [iV th]))) := (TK.upd z1 (fun _ => by intro z; cases z)).trans (TK.upd wtn (fun _ => by intro z; cases z))
                  exact FAt.add (e := (th, some (i, hx))) rfl (show oF _ (some (i, hx)) _ from ⟨qq, rfl, tk _ _ h7⟩) (z2.keep tk)
          · have hin : ¬ (p1 = hx ∨ p2 = hx) := fun z => by have := din.mpr z; rw [this] at hb2; cases hb2
            refine fin fd' _ H6 c6 pre (fun _ z => z) (fun _ y hy => ?_)
            rw [hei] at hy
            exfalso
            rcases hy with hy | hy
            · cases hy; exact hin (.inl rfl)
            · cases hy; exact hin (.inr rfl)
      · rintro σ' H5 ⟨fd', o7', o8', o9', rfl, c5, pre, gone⟩
        rw [rl] at gone
        obtain ⟨rr, rfl⟩ := pre
        have pl : (fd ++ rr).length = fd.length + rr.length := List.length_append
        have fl := c3.ok.len
        refine ⟨n - 1, by omega, at' + 1, fd ++ rr, _, _, _, _, rfl, c5, by omega, by omega, fun i x o hi hfi => ?_⟩
        by_cases z : i = at'
        · subst z
          rw [List.getElem?_append_left hlt, hfx] at hfi; cases hfi
          exact gone
        · rw [List.getElem?_append_left (by omega)] at hfi
          have g := hg i x o (by omega) hfi
          intro k y h1 h2 h3
          have gk := g k y h1 h2 h3
          unfold LC.Keys at gk ⊢
          rw [List.map_append]; exact List.mem_append_left _ gk
    · have hge : fd.length ≤ at' := by have := of_decide_eq_false hb; omega
      obtain ⟨kvs, g1, g2⟩ := (c3.to e4).at_
      exact s_ret (v := .ref d) (vv rfl) (k H4 d kvs fd (c3.to e4).ex g1 g2 c3.ok fun x hx => by
        obtain ⟨i, o, hi⟩ := LC.keys_iff.mp hx
        exact hg i x o (by have := LC.at_lt hi; omega) hi)
end
end TC
namespace TC
open PySem PySem.Spec PyProof.Rows L2
def Reason (H : Hp) (es : Prs) (m N : Nat) (o : Nat × Nat) (q : Addr) : Prop :=
  (∃ (t : Addr) (ns : List Nat), H q = some (.tup [.str "holds", .ref t]) ∧ H t = some (.tup (ns.map iV)) ∧ ns.Pairwise (· < ·) ∧ (∀ x ∈ ns, x < m) ∧ o.1 ∈ ns ∧ o.2 ∉ ns ∧ ∀ (k x y : Nat), k ≠ N → es[k]? = some (x, y) → (x ∈ ns ↔ y ∈ ns)) ∨
  ∃ (t : Addr) (r : List Nat), H q = some (.tup [.str "round", .ref t]) ∧ H t = some (.tup (r.map iV)) ∧ (∀ k ∈ r, k < es.length ∧ k ≠ N) ∧ r.Nodup ∧ LC.Lead es o.1 o.2 r
theorem Reason.keep {H H' : Hp} (e : TK H H') {es : Prs} {m N : Nat} {o : Nat × Nat} {q : Addr} (h : Reason H es m N o q) : Reason H' es m N o q := by
  rcases h with ⟨t, ns, h1, h2, h3⟩ | ⟨t, r, h1, h2, h3⟩
  · exact .inl ⟨t, ns, e _ _ h1, e _ _ h2, h3⟩
  · exact .inr ⟨t, r, e _ _ h1, e _ _ h2, h3⟩
section
variable {P : Program} {w : World} {K : PySem.W.Frag} {mg : Str → Option Value} {base : Heap} {H H' H0 : Hp} {y s p : Addr} {a : HoA} {A : Fd → Addr} {S S' : LC.S} {σ : L2.St} {tb tx te tl tc tv : TE} {ta : TA} {D : Ends} {v x : V} {t1 t2 tz tu : TS} {t tt : TT} {b : Bool} {m nb U : Nat} {es sp : Prs}
theorem s_ret4 {z : V} {ys : List V} (h : NewU te σ H ys) (k : ∀ t l H1, Ex H H1 → H1 t = some (.tup ys) → H1 l = some (.tup [z, .ref t]) → D.rt (.ref l) H1) : tRet (tTup (tCons (tC z) (tCons te tNil))) D σ H :=
  h _ fun t H1 ht e1 h1 => ⟨by show 2 ≤ sizeLine; decide, fun l hl => k t l _ (e1.trans (Ex.new hl)) (Ex.new hl _ _ h1) upd_same⟩
theorem s_ret5 {z : V} {R : V → Hp → Prop} (h : ∀ Q : VK, (∀ v H1, R v H1 → Q v H1) → te σ H Q) (k : ∀ v H1 l, R v H1 → H1 l = none → D.rt (.ref l) (upd H1 l (.tup [z, v]))) : tRet (tTup (tCons (tC z) (tCons te tNil))) D σ H :=
  h _ fun v H1 r => ⟨by show 2 ≤ sizeLine; decide, fun l hl => k v H1 l r hl⟩
theorem nu_rev {l : Addr} {xs : List V} (h : Val te σ H (.ref l)) (hx : SqL K H l xs) : NewU (RT.tTupRev K te) σ H xs.reverse := fun Q q => h _ ⟨l, xs, rfl, hx, fun p hp => q p _ hp (Ex.new hp) upd_same⟩
theorem nu_sortD {d : Addr} {kvs : List (Key × V)} {fd : LC.Fnd} {Q : VK} (h : Val te σ H (.ref d)) (hd : H d = some (.dK kvs)) (hf : FAt H kvs fd) (hn : (fd.map (·.1)).Nodup) (hl : fd.length < 64) (k : ∀ (ns : List Nat) q H1, Ex H H1 → H1 q = some (.tup (ns.map iV)) → ns.Perm (fd.map (·.1)) → ns.Pairwise (· < ·) → Q (.ref q) H1) :
    tCB (fun xs H Q => ∃ p ys, xs = [V.ref p] ∧ ((SqL K H p ys ∧ ∀ l, H l = none → Q (.ref l) (upd H l (.tup ys))) ∨ (SqT K H p ys ∧ Q (.ref p) H))) (tCons (tCB (fun xs H Q => ∃ (a : Addr) (kvs : List (Key × V)) (ks : List Int), xs = [.ref a] ∧ Rd H a (.dK kvs) ∧ kvs.map (·.1) = ks.map Sum.inl ∧ ks.length < 64 ∧
    ∀ (ys : List Int) (p : Addr), ys.Perm ks → ys.Pairwise (· ≤ ·) → H p = none → Q (.ref p) (upd H p (.lst (ys.map V.int)))) (tCons te tNil)) tNil) σ H Q := by
  refine h _ ⟨d, kvs, fd.map fun e => (e.1 : Int), rfl, .inl hd, hf.keys, by rw [List.length_map]; exact hl, fun ys l hp hs hl => ?_⟩
  refine ⟨l, _, rfl, .inl ⟨SqL.of upd_same, fun q hq => ?_⟩⟩
  have hpos : ∀ i ∈ ys, 0 ≤ i := fun i hi => by
    have := hp.mem_iff.mp hi
    obtain ⟨p, _, e⟩ := List.mem_map.mp this
    omega
  have hys : ys = (ys.map Int.toNat).map fun n : Nat => (n : Int) := by
    rw [List.map_map]
    conv => lhs; rw [← List.map_id ys]
    exact List.map_congr_left fun i hi => by have := hpos i hi; show i = ((i.toNat : Nat) : Int); omega
  have hpm : (ys.map Int.toNat).Perm (fd.map (·.1)) := by
    have := hp.map Int.toNat
    rw [List.map_map] at this
    exact this
  refine k (ys.map Int.toNat) q _ ((Ex.new hl).trans (Ex.new hq)) ?_ hpm ?_
  · rw [upd_same]
    congr 2
    conv => lhs; rw [hys]
    rw [List.map_map]; rfl
  · have nd : (ys.map Int.toNat).Nodup := hpm.nodup_iff.mpr hn
    have le : (ys.map Int.toNat).Pairwise (· ≤ ·) := List.pairwise_map.mpr (hs.imp fun h => by omega)
    exact (le.and nd).imp fun ⟨h1, h2⟩ => by omega
def spReason (K : PySem.W.Frag) : Sp := fun vs H Q _ => ∃ (a : HoA) (m nb : Nat) (es sp : Prs) (S : LC.S) (U N : Nat) (o : Nat × Nat), vs = [.ref a.l, .int (N : Nat)] ∧ HoI K H a m nb es sp S U ∧ m ≤ 60 ∧ es.length ≤ 1000 ∧ es[N]? = some o ∧
  ∀ H' q, Ex H H' → Reason H' es m N o q → Q (.ref q) H'
theorem ok_ho_reason (T : Tx w K mg) : Ok P w K mg base 4 .ho_reason (spReason K) := by
  refine T.okd .ho_reason sc_ho_reason (fun vs H Q E h => ?_) (fun cdv A0 outer s0 H vs Q E hr h => ⟨_, (pss_cons (ps_set (i := 2) sc_ho_reason.nd rfl (Or.inl rfl) (pe_meth (pv 0) (T.cls .ho) (T.meth .ho _ (by decide +kernel)) (ok_ho_come_to T) (hr.mono (by decide)) (b_ho_come_to T) .nil pass0 (pa_cons (pv 1) pa_nil)))
    (pss_cons (ps_set (i := 3) sc_ho_reason.nd rfl (Or.inl rfl) (pe_ix ix_tup (pe_ix ix_list (pe_fld (pv 0) rfl) (pv 1) (fun _ _ => rfl)) pe_int (fun _ _ => rfl)))
    (pss_cons (ps_if (pt_cmp (pc_dnotin (hu_of hr) (pv 3) (pv 2))) (pss_one (ps_ret (pe_tup (pa_cons pe_str (pa_cons (pe_callTy call_tuple_of (by rfl) (T.free _ (by decide +kernel)) (by decide +kernel) (by exact (pa_cons (pe_callB (call_sortedDI rfl) (by rfl) (T.free _ (by decide +kernel)) (by decide +kernel) (by exact (pa_cons (pv 2) pa_nil))) pa_nil))) pa_nil))))) pss_nil)
    (pss_cons (ps_set (i := 4) sc_ho_reason.nd rfl (Or.inl rfl) (pe_lst pa_nil))
    (pss_cons (ps_while PassesOwn.never (pt_cmpR op_notN1 (pe_dget (hu_of hr) (pv 2) (pv 3) (fun _ _ => rfl)) pe_non (nomark _)) (pss_cons (ps_asg (pe_dget (hu_of hr) (pv 2) (pv 3) (fun _ _ => rfl)) (pg_tup rfl (pgs_cons (pg_name (i := 5) sc_ho_reason.nd rfl (Or.inl rfl)) (pgs_cons (pg_name (i := 3) sc_ho_reason.nd rfl (Or.inl rfl)) pgs_nil))))
    (pss_one (ps_expr (pe_bm PySem.F.plainAttrs_list PySem.F.slot_list_append PySem.F.type_list_append mt_append (pv 4) (pa_cons (pv 5) pa_nil))))))
    (pss_one (ps_ret (pe_tup (pa_cons pe_str (pa_cons (RT.pe_tupRev rfl (by rfl) (T.free _ (by decide +kernel)) (by rfl) (T.free _ (by decide +kernel)) (pv 4)) pa_nil)))))))))), ?_⟩)
  · obtain ⟨a, m, nb, es, sp, S, U, N, o, rfl, _⟩ := h; rfl
  · obtain ⟨a, m, nb, es, sp, S, U, N, ⟨oa, ob⟩, rfl, hL, hm, hol, ho, k⟩ := h
    refine q_setN (R := fun H' v => ∃ d kvs fd, v = V.ref d ∧ H' d = some (.dK kvs) ∧ FAt H' kvs fd ∧ LC.FOk es N oa m fd ∧ (∀ x, LC.Keys fd x → LC.Gone es N fd x es.length)) (fun Q q => c_hoV hL.at_ (by decide +kernel) (vv rfl) (args1 (vv rfl) args0) ⟨a, m, nb, es, sp, S, U, N, (oa, ob), rfl, hL, by omega, hol, ho, fun H' d kvs fd e h1 h2 h3 h4 => q _ _ e ⟨d, kvs, fd, rfl, h1, h2, h3, h4⟩⟩) fun v H1 e1 ⟨d, kvs, fd, hv, hd, hf, hok, hg⟩ => ?_
    subst hv
    have hL1 := hL.ex e1
    obtain ⟨p, hp, hv⟩ := h_offi (σ := [some (.ref a.l), some (.int N), some (.ref d), none, none, none]) (tb := tVar 0) (tx := tVar 1) T hL1.at_ (vv rfl) (vv rfl) ho
    refine q_set (v := .int ob) (v_ixU hv hp (vc (v := .int 1)) rfl) ?_
    have fl := hok.len
    by_cases hk : LC.Keys fd ob
    · obtain ⟨i0, o0, hi0⟩ := LC.keys_iff.mp hk
      obtain ⟨v0, hv0, _⟩ := hf.some hok.nd hi0
      refine q_when (b := false) (L2.Ans.to (a_dni (i := (ob : Int)) (vv rfl) (vv rfl) hd) (by rw [hv0]; rfl)) (fun q => by cases q) fun _ => ?_
      refine q_setL (ys := []) (nl_lst args0 (by show 0 ≤ 100000; decide)) fun rl H2 hrl e2 h2 => ?_
      refine q_while (W := fun j σ' H' => ∃ (here : Nat) (oh : Option (Nat × Nat)) (L : List Nat) (o5 : Option V), σ' = [some (.ref a.l), some (.int N), some (.ref d), some (.int here), some (.ref rl), o5] ∧ fd[j]? = some (here, oh) ∧ Ex H1 H' ∧ H' rl = some (.lst (L.map iV)) ∧ LC.Lead es here ob L.reverse ∧ (∀ k ∈ L, k < es.length ∧ k ≠ N) ∧ L.Nodup ∧ (∀ k ∈ L, ∃ (i p h : Nat), j < i ∧ fd[i]? = some (p, some (k, h))) ∧ L.length + j ≤ i0) i0 ⟨ob, o0, [], _, rfl, hi0, e2, h2, .nil _, by simp, List.nodup_nil, by simp, by simp⟩ ?_
      rintro j _ H3 ⟨here, oh, L, o5, rfl, hj, e3, h3, lead, hL3, hnd, hidx, hlen⟩
      have hd3 := e3 _ _ hd
      have hf3 := hf.keep (TK.ex e3)
      obtain ⟨v1, hv1, hv2⟩ := hf3.some hok.nd hj
      refine ⟨!decide (v1 = .non), (fun Q q => a_test (v_notN (v_dget (i := (here : Int)) (vv rfl) (vv rfl) hd3 hv1)) _ (q H3 (Ex.refl _))), fun hb H4 e4 => ?_, fun hb H4 e4 => ?_⟩
      · rcases hok.st j here oh hj with ⟨rfl, rfl⟩ | ⟨k1, h1, j1, oh1, rfl, g1, g2, g3, g4⟩
        · have : v1 = .non := hv2
          rw [this] at hb; cases hb
        · obtain ⟨q1, rfl, hq1⟩ := hv2
          have hq4 := e4 _ _ hq1
          have hd4 := e4 _ _ hd3
          refine v_dget (i := (here : Int)) (vv rfl) (vv rfl) hd4 hv1 _ ⟨q1, _, rfl, SqT.of hq4, rfl, _, _, rfl, _, _, rfl, rfl, ?_⟩
          have il := LC.at_lt hi0
          refine s_append (v := iV k1) (vv rfl) (e4 _ _ h3) (args1 (vv rfl) args0) (by rw [List.length_map]; exact sz_lt (by omega)) ⟨j1, g3, h1, oh1, L ++ [k1], _, rfl, g4, Ex.mut (e3.trans e4) hrl, by rw [upd_same, List.map_append]; rfl, ?_, ?_, ?_, ?_, by rw [List.length_append, List.length_singleton]; omega⟩
          · rw [List.reverse_append]
            exact .cons _ here _ _ _ g2 lead
          · intro z hz
            rcases List.mem_append.mp hz with z1 | z1
            · exact hL3 z z1
            · rw [List.mem_singleton.mp z1]
              exact ⟨by rcases g2 with z | z <;> exact LC.at_lt z, g1⟩
          · rw [List.nodup_append]
            refine ⟨hnd, by simp, fun z hz z' hz' e => ?_⟩
            have : z = k1 := by rw [e]; simpa using hz'
            rw [this] at hz
            obtain ⟨i, p', h', i1, i2⟩ := hidx k1 hz
            have ne : p' ≠ here := fun w => by rw [w] at i2; have := LC.fd_inj hok.nd i2 hj; omega
            rcases hok.st i p' _ i2 with ⟨_, w⟩ | ⟨k2, h2', j2, oh2, w1, w2, w3, w4, w5⟩
            · cases w
            · cases w1
              have e2 : p' = h1 := by
                rcases g2 with g2 | g2 <;> rcases w3 with w3 | w3 <;> (rw [g2] at w3; cases w3) <;> first | rfl | exact absurd rfl ne
              rw [e2] at i2
              have := LC.fd_inj hok.nd i2 g4
              omega
          · intro z hz
            rcases List.mem_append.mp hz with z1 | z1
            · obtain ⟨i, p', h', i1, i2⟩ := hidx z z1
              exact ⟨i, p', h', by omega, i2⟩
            · rw [List.mem_singleton.mp z1]
              exact ⟨j, here, h1, g3, hj⟩
      · rcases hok.st j here oh hj with ⟨rfl, rfl⟩ | ⟨k1, h1, j1, oh1, rfl, g1, g2, g3, g4⟩
        · have := hok.hd
          rw [hj] at this; cases this
          refine s_ret4 (z := .str "round") (ys := (L.map iV).reverse) (nu_rev (vv rfl) (SqL.of (e4 _ _ h3))) fun t l H5 e5 h5 h6 => k H5 l ((e1.trans (e3.trans e4)).trans e5) (.inr ⟨t, L.reverse, h6, by rw [h5, List.map_reverse], fun k hk => hL3 k (List.mem_reverse.mp hk), by
            unfold List.Nodup
            rw [List.pairwise_reverse]
            exact hnd.imp fun h => Ne.symm h, lead⟩)
        · obtain ⟨q1, rfl, hq1⟩ := hv2
          cases hb
    · refine q_when (b := true) (L2.Ans.to (a_dni (i := (ob : Int)) (vv rfl) (vv rfl) hd) (by rw [hf.none hk]; rfl)) (fun _ => ?_) (fun q => by cases q)
      refine s_ret5 (z := .str "holds") (R := fun v H2 => ∃ t ns, v = V.ref t ∧ Ex H1 H2 ∧ H2 t = some (.tup (ns.map iV)) ∧ ns.Perm (fd.map (·.1)) ∧ ns.Pairwise (· < ·)) (fun Q q => nu_sortD (vv rfl) hd hf hok.nd (by omega) fun ns t H2 e2 h2 h3 h4 => q _ _ ⟨t, ns, rfl, e2, h2, h3, h4⟩) ?_
      rintro v H2 l ⟨t, ns, rfl, e2, h2, hpm, hso⟩ hl
      have mem : ∀ x, x ∈ ns ↔ LC.Keys fd x := fun x => hpm.mem_iff
      refine k _ l ((e1.trans e2).trans (Ex.new hl)) (.inl ⟨t, ns, upd_same, Ex.new hl _ _ h2, hso, fun x hx => ?_, ?_, fun z => hk ((mem _).mp z), fun kk x y hne he => ?_⟩)
      · obtain ⟨i, o, hi⟩ := LC.keys_iff.mp ((mem x).mp hx)
        exact hok.lt x o (List.mem_of_getElem? hi)
      · exact (mem oa).mpr (LC.keys_iff.mpr ⟨0, none, hok.hd⟩)
      · rw [mem, mem]
        exact ⟨fun z => hg x z kk y (LC.at_lt he) hne (.inl he), fun z => hg y z kk x (LC.at_lt he) hne (.inr he)⟩
end
end TC
namespace TC
open PySem PySem.Spec PyProof.Rows L2
section
variable {P : Program} {w : World} {K : PySem.W.Frag} {mg : Str → Option Value} {base : Heap} {H H' H0 : Hp} {y s p : Addr} {a : HoA} {A : Fd → Addr} {S S' : LC.S} {σ : L2.St} {tb tx te tl tc tv : TE} {ta : TA} {D : Ends} {v x : V} {t1 t2 tz tu : TS} {t tt : TT} {b : Bool} {m nb U : Nat} {es sp : Prs}
def ReaAt (H : Hp) (es : Prs) (m : Nat) (vs : List V) (n : Nat) : Prop := vs.length = n ∧ ∀ (i : Nat) (o : Nat × Nat), i < n → es[i]? = some o → ∃ p, vs[i]? = some (V.ref p) ∧ Reason H es m i o p
def spHoPaper (K : PySem.W.Frag) : Sp := fun vs H Q _ => ∃ (a : HoA) (m nb : Nat) (es sp : Prs) (S : LC.S) (U : Nat), vs = [.ref a.l] ∧ HoI K H a m nb es sp S U ∧ m ≤ 60 ∧ es.length ≤ 1000 ∧
  ∀ H' q vs, Ex H H' → H' q = some (.tup vs) → ReaAt H' es m vs es.length → Q (.ref q) H'
theorem ok_ho_paper (T : Tx w K mg) : Ok P w K mg base 5 .ho_paper (spHoPaper K) := by
  refine T.okd .ho_paper sc_ho_paper (fun vs H Q E h => ?_) (fun cdv A0 outer s0 H vs Q E hr h => ⟨_, (pss_one (ps_ret (pe_callTy call_tuple_of (by rfl) (T.free _ (by decide +kernel)) (by decide +kernel) (by exact (pa_cons (pe_lc (own := [("number", 1)]) (g := gName 1) (tt := tYes) (te := (tMeth (Cad K .ho) "reason" (spReason K) [] E0 (tVar 0) (tCons (tVar 1) tNil))) rfl sc_ho_paper.nd (pi_range1 (by rfl) (T.free _ (by decide +kernel)) (pa_cons (pe_callB call_len_seq (by rfl) (T.free _ (by decide +kernel)) (by decide +kernel) (by exact (pa_cons (pe_fld (pv 0) rfl) pa_nil))) pa_nil)) (blkOk_by (N := ["self", "number"]) (own := [("number", 1)]) (sc := defScope (Dn.sm .ho_paper)) (by decide +kernel)) (fun _ _ _ _ _ => (by exact (pg_name (i := 1) sc_ho_paper.nd rfl (Or.inl rfl)))) (fun _ _ _ _ _ => (by exact pts_nil)) (fun _ _ _ _ _ => (by exact (pe_meth (pv 0) (T.cls .ho) (T.meth .ho _ (by decide +kernel)) (ok_ho_reason T) (hr.mono (by decide)) (b_ho_reason T) .nil pass0 (pa_cons (pv 1) pa_nil))))) pa_nil))))), ?_⟩)
  · obtain ⟨a, m, nb, es, sp, S, U, rfl, _⟩ := h; rfl
  · obtain ⟨a, m, nb, es, sp, S, U, rfl, hL, hm, hol, k⟩ := h
    obtain ⟨refs, r1, r2⟩ := hL.at_.of
    have rl := r2.len
    rw [List.length_map] at rl
    refine ret_cb (lc_Y (n := es.length) (args1 (rl ▸ v_lenL (K := K) (te := tFld K (tVar 0) "offered") (h_off T hL.at_ (vv rfl)) (.inl (SqL.of r1))) args0) (by omega) (fun _ => rfl) (fun d i H' => ∃ vs, Ex H H' ∧ H' d = some (.lst vs) ∧ ReaAt H' es m vs i) (fun d hd => ⟨[], Ex.new hd, upd_same, rfl, fun i o h => by omega⟩) (fun d i H' hd hi hP => ?_) (fun d H' hd hP => ?_))
    · obtain ⟨vs, e1, hda, hlen, hat⟩ := hP
      obtain ⟨o, ho⟩ : ∃ o, es[i]? = some o := ⟨_, List.getElem?_eq_getElem hi⟩
      refine ans_yes _ ?_
      rw [if_pos rfl]
      refine c_hoV (hL.ex e1).at_ (by decide +kernel) (vv rfl) (args1 (v := iV i) (vv rfl) args0) ⟨a, m, nb, es, sp, S, U, i, o, rfl, hL.ex e1, hm, hol, ho, fun H3 q e3 hr => ⟨vs, e3 _ _ hda, by rw [hlen]; exact sz_lt (by omega), vs ++ [.ref q], Ex.mut (e1.trans e3) hd, upd_same, by rw [List.length_append, List.length_singleton, hlen], fun j o' hj ho' => ?_⟩⟩
      have tk : TK H3 (upd H3 d (.lst (vs ++ [.ref q]))) := TK.upd (e3 _ _ hda) (fun _ => by intro z; cases z)
      by_cases z : j = i
      · subst z
        rw [ho] at ho'; cases ho'
        exact ⟨q, by rw [List.getElem?_append_right (by omega), hlen, Nat.sub_self]; rfl, hr.keep tk⟩
      · obtain ⟨p, p1, p2⟩ := hat j o' (by omega) ho'
        exact ⟨p, by rw [List.getElem?_append_left (by omega)]; exact p1, (p2.keep (TK.ex e3)).keep tk⟩
    · obtain ⟨vs, e1, hda, hlen, hat⟩ := hP
      refine ⟨d, _, rfl, .inl ⟨SqL.of hda, fun q hq => k _ q vs (e1.trans (Ex.new hq)) upd_same ⟨hlen, fun i o hi ho => ?_⟩⟩⟩
      obtain ⟨p, p1, p2⟩ := hat i o hi ho
      exact ⟨p, p1, p2.keep (TK.ex (Ex.new hq))⟩
end
end TC
namespace TC
open PySem PySem.Spec PyProof.Rows L2
def TupE (H : Hp) (q : Addr) (es : Prs) (rest : Nat → List V) : Prop := ∃ refs, H q = some (.tup refs) ∧ refs.length = es.length ∧ ∀ (i x y : Nat), es[i]? = some (x, y) → ∃ p, refs[i]? = some (V.ref p) ∧ H p = some (.tup (iV x :: iV y :: rest i))
theorem TupE.ex {H H' : Hp} {q : Addr} {es : Prs} {rest : Nat → List V} (h : TupE H q es rest) (e : Ex H H') : TupE H' q es rest := by
  obtain ⟨refs, a, b, c⟩ := h
  refine ⟨refs, e _ _ a, b, fun i x y z => ?_⟩
  obtain ⟨p, p1, p2⟩ := c i x y z
  exact ⟨p, p1, e _ _ p2⟩
section
variable {P : Program} {w : World} {K : PySem.W.Frag} {mg : Str → Option Value} {base : Heap} {H H' H0 : Hp} {q nq : Addr} {σ : L2.St} {tb tx te tl tc tv : TE} {ta : TA} {D : Ends} {v x : V} {t1 t2 tz tu : TS} {t tt : TT} {b : Bool} {es : Prs} {rest : Nat → List V}
theorem cb_of {f : List V → Hp → VK → Prop} {Q : VK} (h : te σ H fun v H1 => f [v] H1 Q) : tCB f (tCons te tNil) σ H Q := h
theorem ve_allU {α : Type} {ks : List α} {φ : α → V} {j : Nat} {vs : List Nat} {q : Addr} (h : Val tl σ H (.ref q)) (hq : H q = some (.tup (ks.map φ))) (hl : ks.length ≤ 50000) (hw : ∀ x, wipe ((wipe σ vs).set j (some x)) vs = wipe σ vs)
    (he : ∀ k ∈ ks, ∀ H', Ex H H' → Val te ((wipe σ vs).set j (some (φ k))) H' (.bl true)) : ValE (tCB (rAll K) (tCons (tLc (iTup K tl) (gName j) tYes te vs) tNil)) σ H (.bl true) := fun Q k => by
  refine cb_of (nl_lcR (K := K) (ks := ks) (φ := φ) (pr := fun _ => true) (g := fun _ => V.bl true) (R := fun l H1 => l = q ∧ H1 = H) (fun Q k => h _ (k _ _ ⟨rfl, rfl⟩)) (fun l H1 z => by rw [z.1, z.2]; exact hq) hl hw (fun _ _ _ _ _ _ _ => ans_yes) (fun l H1 z k hk _ H2 e2 => he k hk H2 (by rw [← z.2]; exact e2)) (fun l H1 p H2 z hp e2 hp2 => ?_))
  rw [List.filter_eq_self.mpr (fun _ _ => rfl)] at hp2
  obtain ⟨rfl, rfl⟩ := z
  refine ⟨p, ks.map fun _ => true, rfl, SqL.of (by rw [List.map_map]; exact hp2), ?_⟩
  have : (ks.map fun _ => true).all id = true := by rw [List.all_eq_true]; intro x hx; obtain ⟨_, _, rfl⟩ := List.mem_map.mp hx; rfl
  rw [this]; exact k H2 e2
def spNumbers : Sp := fun vs H Q _ => ∃ q n, ∃ r : List Nat, vs = [.ref q, .int (n : Nat)] ∧ H q = some (.tup (r.map iV)) ∧ (∀ k ∈ r, k < n) ∧ r.length ≤ 4000 ∧ ∀ H', Ex H H' → Q (.bl true) H'
theorem ok_are_numbers (T : Tx w K mg) : Ok P w K mg base 2 .are_numbers spNumbers := by
  refine T.okd .are_numbers sc_are_numbers (fun vs H Q E h => ?_) (fun cdv A0 outer s0 H vs Q E hr h => ⟨_, (pss_one (ps_ret (pe_and (pe_callB call_isi (by rfl) (T.free _ (by decide +kernel)) (by decide +kernel) (by exact (pa_cons (pv 0) (pa_cons (pe_bltn (v := .ty "tuple") rfl (T.free _ (by decide)) (by decide +kernel) rfl) pa_nil)))) (pe_one (pe_callB (cr_all rfl) (by rfl) (T.free _ (by decide +kernel)) (by decide +kernel) (by exact (pa_cons (pe_lc (own := [("one", 2)]) (g := gName 2) (tt := tYes) (te := (tAndV (tCall spNum [] E0 (tCons (tVar 2) tNil)) (tChain (rI0 fun i j => .bl (decide (i ≤ j))) (rI0 fun i j => .bl (decide (i < j))) (tC (.int 0)) (tVar 2) (tVar 1)))) rfl sc_are_numbers.nd (pi_tup (pv 0)) (blkOk_by (N := ["thing", "many", "one"]) (own := [("one", 2)]) (sc := defScope (Dn.sm .are_numbers)) (by decide +kernel)) (fun _ _ _ _ _ => (by exact (pg_name (i := 2) sc_are_numbers.nd rfl (Or.inl rfl)))) (fun _ _ _ _ _ => (by exact pts_nil)) (fun _ _ _ _ _ => (by exact (pe_and (pe_call (ok_is_number_shapes T) (hr.mono (by decide)) rfl (T.glF _ (by decide +kernel)) (T.fn .is_number_shapes).kp (b_is_number_shapes T) .nil pass0 (pa_cons (pv 2) pa_nil)) (pe_one (pe_chain op_le op_lt pe_int (pv 2) (pv 1))))))) pa_nil))))))), ?_⟩)
  · obtain ⟨q, n, r, rfl, _⟩ := h; rfl
  · obtain ⟨q, n, r, rfl, hq, hn, hl, k⟩ := h
    refine s_retE (v := .bl (true && true)) (ve_and (v_isi (vv rfl) (.base (.tup hq)) (kit_ty (by decide +kernel))) fun _ => ve_allU (ks := r) (φ := iV) (vv rfl) hq (by omega) (fun _ => rfl) fun k hk H' e => ?_) k
    have hx := hn k hk
    refine v_and (a := true) (b := true) (fun Q z => c_fn (args1 (v := iV k) (vv rfl) args0) ⟨⟨_, rfl⟩, z⟩) fun _ => ?_
    have := v_chain (te := tC (.int 0)) (tb := tVar 2) (tc := tVar 1) (H := H') (σ := [some (.ref q), some (.int n), some (iV k)]) vc (vv rfl) (vv rfl)
    rw [decide_eq_true (by omega), decide_eq_true (by omega)] at this
    exact this
theorem walk_zipT {a b : Addr} {xs ys : List V} {n : Nat} (hn : n = min xs.length ys.length) : Walk (RZ.ItzT K a b) n (fun H => SqT K H a xs ∧ SqT K H b ys) (YPair (fun i => xs[i]?) (fun i => ys[i]?)) := by
  subst hn
  refine ⟨fun i _ hi q => ⟨xs, ys, xs[i]'(by omega), ys[i]'(by omega), q.1, q.2, List.getElem?_eq_getElem _, List.getElem?_eq_getElem _⟩, fun _ q => ⟨xs, ys, q.1, q.2, by omega⟩, fun i H v H' _ q y => ?_⟩
  obtain ⟨T, x, y, e1, e2, e3, e4, e5⟩ := y
  exact ⟨T, x, y, e1, e2, e3, e4 xs q.1, e5 ys q.2⟩
theorem v_tailA {xs : List V} (hb : Val tb σ H (.ref q)) (hq : H q = some (.tup xs)) {Q : VK} (k : ∀ p H', Ex H H' → H' p = some (.tup xs.tail) → Q (.ref p) H') : tSl (rSlA K) tb (tPart (tC (.int 1))) tNoPart σ H Q :=
  hb _ ⟨1, rfl, q, xs, rfl, SqT.of hq, fun z => by
    have e : xs = [] := by
      have h1 : min 1 xs.length = 0 := z.1
      have : xs.length = 0 := by omega
      exact List.length_eq_zero_iff.mp this
    subst e
    exact k q H (Ex.refl H) hq, fun z p hp => by
    have h1 : ¬ xs.length = 0 := fun e => z ⟨by show min 1 xs.length = 0; omega, by rw [HT.sIx_none]⟩
    have e : cutV xs (some 1) none = xs.tail := by
      unfold cutV
      rw [show HT.sIx xs.length 0 (some 1) = 1 by show min 1 xs.length = 1; omega, HT.sIx_none, List.drop_one]
      exact List.take_of_length_le (by rw [List.length_tail]; exact Nat.le_refl _)
    rw [e]; exact k p _ (Ex.new hp) upd_same⟩
theorem args_tail {xs : List V} {r : List (Option V)} (hq : H q = some (.tup xs)) {Q : List V → Hp → Prop} (k : ∀ H1 p, Ex H H1 → H1 p = some (.tup xs.tail) → Q [.ref q, .ref p] H1) : tCons (tVar 0) (tCons (tSl (rSlA K) (tVar 0) (tPart (tC (.int 1))) tNoPart) tNil) (some (.ref q) :: r) H Q :=
  ⟨.ref q, rfl, v_tailA (K := K) (tb := tVar 0) (vv rfl) hq fun p H' e h => k H' p e h⟩
theorem ve_allZT {xs ys : List V} {j1 j2 : Nat} {vs : List Nat} (hta : ∀ Q, (∀ H1 p, Ex H H1 → H1 p = some (.tup ys) → Q [.ref q, .ref p] H1) → ta σ H Q) (hq : H q = some (.tup xs)) (hl : xs.length ≤ 50000)
    (hw : ∀ x z, wipe (((wipe σ vs).set j1 (some x)).set j2 (some z)) vs = wipe σ vs)
    (he : ∀ (i : Nat) (x y : V), xs[i]? = some x → ys[i]? = some y → ∀ H', Ex H H' → Val te (((wipe σ vs).set j1 (some x)).set j2 (some y)) H' (.bl true)) :
    ValE (tCB (rAll K) (tCons (tLc (RZ.iZipA K ta) (gTup K 2 (gCons (gName j1) (gCons (gName j2) gNil))) tYes te vs) tNil)) σ H (.bl true) := fun Q k => cb_of (hta _ fun H1 p e1 hp => ⟨q, p, xs, ys, rfl, .inr ⟨SqT.of (e1 _ _ hq), SqT.of hp, fun d hd => by
    refine lc_it (walk_zipT rfl) (fun i H' => Ex H1 H' ∧ H' d = some (.lst (List.replicate i (V.bl true)))) ⟨Ex.new hd, upd_same⟩ (fun i H' _ hP => ⟨SqT.of (hP.1 _ _ (e1 _ _ hq)), SqT.of (hP.1 _ _ hp)⟩) (fun i v H2 H3 hi hP hy => ?_) (fun H' hP => ?_)
    · obtain ⟨T, x, y, rfl, hT, rfl, hx, hy⟩ := hy
      refine ⟨T, _, rfl, SqT.of upd_same, rfl, _, _, rfl, _, _, rfl, rfl, hw _ _, ans_yes _ ?_⟩
      rw [if_pos rfl]
      refine he i x y hx hy _ ((e1.trans hP.1).trans (Ex.new hT)) _ ⟨_, Ex.new hT _ _ hP.2, by rw [List.length_replicate]; exact sz_lt (by omega), Ex.mut (hP.1.trans (Ex.new hT)) hd, ?_⟩
      rw [upd_same, List.replicate_succ']
    · refine ⟨d, List.replicate (min xs.length ys.length) true, rfl, SqL.of (by rw [List.map_replicate]; exact hP.2), ?_⟩
      have : (List.replicate (min xs.length ys.length) true).all id = true := by rw [List.all_eq_true]; intro x hx; rw [List.eq_of_mem_replicate hx]; rfl
      rw [this]; exact k H' (e1.trans hP.1)⟩⟩)
def spRising : Sp := fun vs H Q _ => ∃ q, ∃ r : List Nat, vs = [.ref q] ∧ H q = some (.tup (r.map iV)) ∧ r.Pairwise (· < ·) ∧ r.length ≤ 4000 ∧ ∀ H', Ex H H' → Q (.bl true) H'
theorem rise_at {r : List Nat} (h : r.Pairwise (· < ·)) {i x y : Nat} (h1 : r[i]? = some x) (h2 : r.tail[i]? = some y) : x < y := by
  rw [List.getElem?_tail] at h2
  obtain ⟨a, rfl⟩ := List.getElem?_eq_some_iff.mp h1
  obtain ⟨b, rfl⟩ := List.getElem?_eq_some_iff.mp h2
  exact List.pairwise_iff_getElem.mp h i (i + 1) a b (Nat.lt_succ_self i)
theorem ok_are_rising (T : Tx w K mg) : Ok P w K mg base 1 .are_rising spRising := by
  refine T.okd .are_rising sc_are_rising (fun vs H Q E h => ?_) (fun cdv A0 outer s0 H vs Q E hr h => ⟨_, (pss_one (ps_ret (pe_callB (cr_all rfl) (by rfl) (T.free _ (by decide +kernel)) (by decide +kernel) (by exact (pa_cons (pe_lc (own := [("one", 1), ("other", 2)]) (g := gTup K 2 (gCons (gName 1) (gCons (gName 2) gNil))) (tt := tYes) (te := (tOp (rI0 fun i j => .bl (decide (i < j))) (tVar 1) (tVar 2))) rfl sc_are_rising.nd (RZ.pi_zipA (by rfl) (T.free _ (by decide +kernel)) (pa_cons (pv 0) (pa_cons (pe_slice sl_tupA (pv 0) (po_some pe_int) po_none) pa_nil))) (blkOk_by (N := ["some", "one", "other"]) (own := [("one", 1), ("other", 2)]) (sc := defScope (Dn.sm .are_rising)) (by decide +kernel)) (fun _ _ _ _ _ => (by exact (pg_tup rfl (pgs_cons (pg_name (i := 1) sc_are_rising.nd rfl (Or.inl rfl)) (pgs_cons (pg_name (i := 2) sc_are_rising.nd rfl (Or.inl rfl)) pgs_nil))))) (fun _ _ _ _ _ => (by exact pts_nil)) (fun _ _ _ _ _ => (by exact (pe_cmpR op_lt (pv 1) (pv 2) (nomark _))))) pa_nil))))), ?_⟩)
  · obtain ⟨q, r, rfl, _⟩ := h; rfl
  · obtain ⟨q, r, rfl, hq, hs, hl, k⟩ := h
    refine s_retE (v := .bl true) (ve_allZT (xs := r.map iV) (ys := (r.map iV).tail) (fun Q kk => args_tail hq kk) hq (by rw [List.length_map]; omega) (fun _ _ => rfl) (fun i x y h1 h2 H' e => ?_)) k
    rw [List.getElem?_map] at h1
    rw [← List.map_tail, List.getElem?_map] at h2
    cases hx : r[i]? with
    | none => rw [hx] at h1; cases h1
    | some x' =>
      cases hy : r.tail[i]? with
      | none => rw [hy] at h2; cases h2
      | some y' =>
        rw [hx] at h1; rw [hy] at h2
        cases h1; cases h2
        have := rise_at hs hx hy
        have v := v_I0 (g := fun i j => V.bl (decide (i < j))) (vv rfl : Val (tVar 1) [some (V.ref q), some (iV x'), some (iV y')] H' (iV x')) (vv rfl : Val (tVar 2) _ _ (iV y'))
        rw [decide_eq_true (by omega)] at v
        exact v
end
end TC
namespace TC
open PySem PySem.Spec PyProof.Rows L2
section
variable {P : Program} {w : World} {K : PySem.W.Frag} {mg : Str → Option Value} {base : Heap} {H H' H0 : Hp} {q nq : Addr} {σ : L2.St} {tb tx te tl tc tv : TE} {ta : TA} {D : Ends} {v x : V} {t1 t2 tz tu : TS} {t tt : TT} {b : Bool} {es : Prs} {rest : Nat → List V}
theorem v_two {p : Addr} {v1 v2 : V} {r : List V} {Q : VK} (hb : Val tb σ H (.ref p)) (hp : H p = some (.tup (v1 :: v2 :: r))) (k : ∀ l H', Ex H H' → H' l = some (.tup [v1, v2]) → Q (.ref l) H') : tSl (rSlA K) tb tNoPart (tPart (tC (.int 2))) σ H Q :=
  hb _ ⟨2, rfl, p, _, rfl, SqT.of hp, fun z => by
    have : r = [] := by
      have h1 : min 2 (v1 :: v2 :: r).length = (v1 :: v2 :: r).length := z.2
      simp only [List.length_cons] at h1
      exact List.length_eq_zero_iff.mp (by omega)
    subst this
    exact k p H (Ex.refl H) hp, fun z l hl => by
    have e : cutV (v1 :: v2 :: r) none (some 2) = [v1, v2] := by
      unfold cutV
      rw [HT.sIx_none, show HT.sIx (v1 :: v2 :: r).length (v1 :: v2 :: r).length (some 2) = 2 by show min 2 (v1 :: v2 :: r).length = 2; simp]
      rfl
    rw [e]; exact k l _ (Ex.new hl) upd_same⟩
def spLeads : Sp := fun vs H Q _ => ∃ (q nq : Addr) (es : Prs) (rest : Nat → List V) (u v : Nat) (r : List Nat), vs = [.ref q, .int (u : Nat), .int (v : Nat), .ref nq] ∧ TupE H q es rest ∧ H nq = some (.tup (r.map iV)) ∧ LC.Lead es u v r ∧ r.Nodup ∧ r.length ≤ 4000 ∧ ∀ H', Ex H H' → Q (.bl true) H'
theorem iV_nodup {r : List Nat} (h : r.Nodup) : (r.map fun n : Nat => (n : Int)).Nodup := by
  unfold List.Nodup
  rw [List.pairwise_map]
  exact h.imp fun h z => h (by omega)
theorem ok_leads (T : Tx w K mg) : Ok P w K mg base 1 .leads spLeads := by
  refine T.okd .leads sc_leads (fun vs H Q E h => ?_) (fun cdv A0 outer s0 H vs Q E hr h => ⟨_, (pss_cons (ps_set (i := 4) sc_leads.nd rfl (Or.inl rfl) (pv 1))
    (pss_cons (ps_for PassesOwn.never rfl (pi_tup (pv 3)) (pg_name (i := 5) sc_leads.nd rfl (Or.inl rfl)) (pss_cons (ps_asg (pe_slice sl_tupA (pe_ix ix_tup (pv 0) (pv 5) (fun _ _ => rfl)) po_none (po_some pe_int)) (pg_tup rfl (pgs_cons (pg_name (i := 6) sc_leads.nd rfl (Or.inl rfl)) (pgs_cons (pg_name (i := 7) sc_leads.nd rfl (Or.inl rfl)) pgs_nil))))
    (pss_cons (ps_if (pt_cmpR op_notIn_seq (pv 4) (pe_tup (pa_cons (pv 6) (pa_cons (pv 7) pa_nil))) rfl) (pss_one (ps_ret pe_bl)) pss_nil)
    (pss_one (ps_set (i := 4) sc_leads.nd rfl (Or.inl rfl) (pe_op op_sub (pe_op op_add (pv 6) (pv 7)) (pv 4)))))))
    (pss_one (ps_ret (pe_and (pe_cmpR op_eq (pv 4) (pv 2) (nomark _)) (pe_one (pe_cmpR op_eq (TZ.pe_lenSetT (by rfl) (T.free _ (by decide +kernel)) (by rfl) (T.free _ (by decide +kernel)) (pv 3)) (pe_callB call_len_seq (by rfl) (T.free _ (by decide +kernel)) (by decide +kernel) (by exact (pa_cons (pv 3) pa_nil))) (nomark _)))))))), ?_⟩)
  · obtain ⟨q, nq, es, rest, u, v, r, rfl, _⟩ := h; rfl
  · obtain ⟨q, nq, es, rest, u, v, r, rfl, hE, hn, hlead, hnd, hl, k⟩ := h
    refine q_set (v := .int (u : Nat)) (vv rfl) ?_
    refine q_forUe (xs := r.map iV) (vv rfl) (SqT.of hn) (fun i σ' H' => ∃ (x : Nat) (o5 o6 o7 : Option V), σ' = [some (.ref q), some (.int u), some (.int v), some (.ref nq), some (.int x), o5, o6, o7] ∧ Ex H H' ∧ LC.Lead es x v (r.drop i)) ⟨u, _, _, _, rfl, Ex.refl _, hlead⟩ (fun i σ' H' _ ⟨_, _, _, _, _, e, _⟩ => SqT.of (e _ _ hn)) ?_ ?_
    · rintro i y σ' H1 hy hi ⟨x, o5, o6, o7, rfl, e1, hld⟩
      rw [List.length_map] at hi
      rw [List.getElem?_map, List.getElem?_eq_getElem hi] at hy
      cases hy
      rw [List.drop_eq_getElem_cons hi] at hld
      obtain ⟨kk, hkk⟩ : ∃ kk, kk = r[i] := ⟨_, rfl⟩
      rw [← hkk] at hld ⊢
      cases hld with
      | cons _ z _ _ _ he hld =>
        obtain ⟨refs, r1, r2, r3⟩ := hE.ex e1
        obtain ⟨c1, c2, hc, hxz⟩ : ∃ c1 c2, es[kk]? = some (c1, c2) ∧ ((c1 = x ∧ c2 = z) ∨ (c1 = z ∧ c2 = x)) := by
          rcases he with he | he
          · exact ⟨x, z, he, .inl ⟨rfl, rfl⟩⟩
          · exact ⟨z, x, he, .inr ⟨rfl, rfl⟩⟩
        obtain ⟨p, p1, p2⟩ := r3 kk c1 c2 hc
        refine v_two (K := K) (v_ixU (vv rfl) r1 (vv rfl) p1) p2 fun l H2 e2 hl2 => ⟨l, _, rfl, SqT.of hl2, rfl, _, _, rfl, _, _, rfl, rfl, ?_⟩
        have nin : (!inV (.int x) [iV c1, iV c2]) = false := by
          show (!(((c1 : Int) == (x : Int)) || (((c2 : Int) == (x : Int)) || false))) = false
          rcases hxz with ⟨rfl, rfl⟩ | ⟨rfl, rfl⟩ <;> simp
        have t0 : AnsE (tTest (tOp (rIn K true) (tVar 4) (tTup (tCons (tVar 6) (tCons (tVar 7) tNil))))) [some (.ref q), some (.int u), some (.int v), some (.ref nq), some (.int x), some (iV kk), some (iV c1), some (iV c2)] H2 (!inV (.int x) [iV c1, iV c2]) := fun Q k => (ve_ni (K := K) (vv rfl) (args1 (v := iV c1) (vv rfl) (args1 (v := iV c2) (vv rfl) args0)) rfl rfl (by show 2 ≤ sizeLine; decide)) _ fun H' e => ⟨_, rfl, k H' e⟩
        rw [nin] at t0
        refine q_whenE (b := false) t0 (fun q => by cases q) fun _ H3 e3 => ?_
        refine s_set (v := .int (z : Nat)) ?_ ⟨z, _, _, _, rfl, (e1.trans e2).trans e3, hld⟩
        have := v_I0 (g := fun i j => V.int (i - j)) (v_I0 (g := fun i j => V.int (i + j)) (vv rfl : Val (tVar 6) [some (.ref q), some (.int u), some (.int v), some (.ref nq), some (.int x), some (iV kk), some (iV c1), some (iV c2)] H3 (iV c1)) (vv rfl : Val (tVar 7) _ _ (iV c2))) (vv rfl : Val (tVar 4) _ _ (.int x))
        rw [show ((c1 : Int) + (c2 : Int) - (x : Int)) = (z : Int) by rcases hxz with ⟨rfl, rfl⟩ | ⟨rfl, rfl⟩ <;> omega] at this
        exact this
    · rintro σ' H1 ⟨x, o5, o6, o7, rfl, e1, hld⟩
      rw [List.length_map, List.drop_length] at hld
      cases hld
      have hn1 := e1 _ _ hn
      refine s_ret (v := .bl (true && true)) (v_and ?_ fun _ => ?_) (k H1 e1)
      · have := v_eq (vv rfl : Val (tVar 4) [some (.ref q), some (.int u), some (.int v), some (.ref nq), some (.int v), o5, o6, o7] H1 (.int v)) (vv rfl : Val (tVar 2) _ _ (.int v)) rfl
        rw [decide_eq_true rfl] at this
        exact this
      · have h1 : Val (TZ.tLenSetT K (tVar 3)) [some (.ref q), some (.int u), some (.int v), some (.ref nq), some (.int v), o5, o6, o7] H1 (.int (r.length : Nat)) := fun Q k => (vv rfl : Val (tVar 3) _ _ (.ref nq)) _ ⟨nq, r.map fun n : Nat => (n : Int), rfl, SqT.of (by rw [List.map_map]; exact hn1), iV_nodup hnd, by rw [List.length_map]; exact hl, by rw [List.length_map]; exact k⟩
        have h2 := v_lenL (K := K) (te := tVar 3) (σ := [some (.ref q), some (.int u), some (.int v), some (.ref nq), some (.int v), o5, o6, o7]) (H := H1) (vv rfl) (.inr (SqT.of hn1))
        rw [List.length_map] at h2
        have := v_eq h1 h2 rfl
        rw [decide_eq_true rfl] at this
        exact this
end
end TC
namespace TC
open PySem PySem.Spec PyProof.Rows L2
section
variable {P : Program} {w : World} {K : PySem.W.Frag} {mg : Str → Option Value} {base : Heap} {H H' H0 : Hp} {q nq : Addr} {σ : L2.St} {tb tx te tl tc tv : TE} {ta : TA} {D : Ends} {v x : V} {t1 t2 tz tu : TS} {t tt : TT} {b : Bool} {es : Prs} {rest : Nat → List V}
theorem rgV_enc (m : Nat) : rgV 0 (m : Int) = enc m iV := by
  unfold rgV enc
  rw [show ((m : Int) - 0).toNat = m by omega]
  exact List.map_congr_left fun i _ => by show V.int (0 + (i : Int)) = V.int (i : Nat); rw [Int.zero_add]
theorem nl_lstRg {m : Nat} (hm : m ≤ 100000) (h : Val te σ H (.int (m : Nat))) : NewL (tLstRg (tRg1 te)) σ H (enc m iV) := fun Q k =>
  h _ ⟨m, rfl, RgOk.of_le (by omega) (by omega) (by omega) (by omega), fun q hq => k q _ hq (Ex.new hq) (by rw [upd_same, rgV_enc])⟩
def spRing : Sp := fun vs H Q _ => ∃ (m : Nat) (q nq : Addr) (es : Prs) (rest : Nat → List V) (ns : List Nat), vs = [.int (m : Nat), .ref q, .ref nq] ∧ TupE H q es rest ∧ H nq = some (.tup (ns.map iV)) ∧ ns.Nodup ∧ (∀ k ∈ ns, k < es.length) ∧ LC.Fo es (· ∈ ns) ∧ (∀ (k a b : Nat), es[k]? = some (a, b) → a < m ∧ b < m) ∧ m ≤ 1000 ∧ ∀ H', Ex H H' → Q (.bl false) H'
theorem ok_have_ring (T : Tx w K mg) : Ok P w K mg base 1 .have_ring spRing := by
  refine T.okd .have_ring sc_have_ring (fun vs H Q E h => ?_) (fun cdv A0 outer s0 H vs Q E hr h => ⟨_, (pss_cons (ps_set (i := 3) sc_have_ring.nd rfl (Or.inl rfl) (pe_listRg rfl (by rfl) (T.free _ (by decide +kernel)) (prg_1 (by rfl) (T.free _ (by decide +kernel)) (pv 0))))
    (pss_cons (ps_for PassesOwn.never rfl (pi_tup (pv 2)) (pg_name (i := 4) sc_have_ring.nd rfl (Or.inl rfl)) (pss_cons (ps_set (i := 5) sc_have_ring.nd rfl (Or.inl rfl) (pe_lst pa_nil))
    (pss_cons (ps_for PassesOwn.never rfl (pi_tup (pe_slice sl_tupA (pe_ix ix_tup (pv 1) (pv 4) (fun _ _ => rfl)) po_none (po_some pe_int))) (pg_name (i := 6) sc_have_ring.nd rfl (Or.inl rfl)) (pss_cons (ps_while PassesOwn.never (pt_cmpR op_ne (pe_ix ix_list (pv 3) (pv 6) (fun _ _ => rfl)) (pv 6) (nomark _)) (pss_one (ps_set (i := 6) sc_have_ring.nd rfl (Or.inl rfl) (pe_ix ix_list (pv 3) (pv 6) (fun _ _ => rfl)))))
    (pss_one (ps_expr (pe_bm PySem.F.plainAttrs_list PySem.F.slot_list_append PySem.F.type_list_append mt_append (pv 5) (pa_cons (pv 6) pa_nil))))))
    (pss_cons (ps_if (pt_cmpR op_eq (pe_ix ix_list (pv 5) pe_int (fun _ _ => rfl)) (pe_ix ix_list (pv 5) pe_int (fun _ _ => rfl)) (nomark _)) (pss_one (ps_ret pe_bl)) pss_nil)
    (pss_one (ps_asg (pe_ix ix_list (pv 5) pe_int (fun _ _ => rfl)) (pg_sub (pv 3) (pe_ix ix_list (pv 5) pe_int (fun _ _ => rfl)) set_list)))))))
    (pss_one (ps_ret pe_bl)))), ?_⟩)
  · obtain ⟨m, q, nq, es, rest, ns, rfl, _⟩ := h; rfl
  · obtain ⟨m, q, nq, es, rest, ns, rfl, hE, hn, hnd, hlt, hF, hend, hm, k⟩ := h
    refine q_setL (ys := enc m iV) (nl_lstRg (by omega) (vv rfl)) fun al H1 hal e1 h1 => ?_
    refine q_forUe (xs := ns.map iV) (vv rfl) (SqT.of (e1 _ _ hn)) (fun i σ' H' => ∃ (ab : Nat → Nat) (o4 o5 o6 : Option V), σ' = [some (.int m), some (.ref q), some (.ref nq), some (.ref al), o4, o5, o6] ∧ Ex H H' ∧ H' al = some (.lst (enc m fun x => iV (ab x))) ∧ LC.UF es m ab (ns.take i)) ⟨id, _, _, _, rfl, e1, h1, LC.UF.start⟩ (fun i σ' H' _ ⟨_, _, _, _, _, e, _⟩ => SqT.of (e _ _ hn)) ?_ ?_
    · rintro i y σ' H2 hy hi ⟨ab, o4, o5, o6, rfl, e2, h2, U⟩
      rw [List.length_map] at hi
      rw [List.getElem?_map, List.getElem?_eq_getElem hi] at hy
      cases hy
      obtain ⟨kk, hkk⟩ : ∃ kk, ns[i]? = some kk := ⟨_, List.getElem?_eq_getElem hi⟩
      have hkv : ns[i] = kk := by have := List.getElem?_eq_getElem hi; rw [hkk] at this; exact (Option.some.inj this).symm
      rw [hkv]
      have hkm := List.mem_of_getElem? hkk
      obtain ⟨⟨a, b⟩, hab⟩ : ∃ e, es[kk]? = some e := ⟨_, List.getElem?_eq_getElem (hlt kk hkm)⟩
      have hl := hend kk a b hab
      have tk : ns.take (i + 1) = ns.take i ++ [kk] := by rw [List.take_add_one, hkk]; rfl
      have hnot : kk ∉ ns.take i := fun z => by
        obtain ⟨j, hj⟩ := List.mem_iff_getElem?.mp z
        rw [List.getElem?_take] at hj
        split at hj
        · have := (List.getElem?_inj (LC.at_lt hj) hnd).mp (hj.trans hkk.symm); omega
        · cases hj
      obtain ⟨ra, na, hra, ga⟩ := U.rt a hl.1
      obtain ⟨rb, nb, hrb, gb⟩ := U.rt b hl.2
      have hne : ra ≠ rb := fun z => by
        have c := (U.eq a b ra na rb nb hl.1 hl.2 ga gb).mp z
        refine hF kk a b hkm hab (c.mono fun p q w => w.mono fun j _ hj => ⟨List.mem_of_mem_take hj, fun e => hnot (e ▸ hj)⟩)
      refine q_setL (ys := []) (nl_lst args0 (by show 0 ≤ 100000; decide)) fun el H3 hel e3 h3 => ?_
      have nel : al ≠ el := fun e => by rw [← e, h2] at hel; cases hel
      have hel0 : H el = none := fresh_back e2 hel
      obtain ⟨refs, r1, r2, r3⟩ := hE.ex (e2.trans e3)
      obtain ⟨p, p1, p2⟩ := r3 kk a b hab
      refine q_forC (R := fun l H4 => Ex H3 H4 ∧ H4 l = some (.tup [iV a, iV b])) (fun Q k => v_two (K := K) (v_ixU (vv rfl) r1 (vv rfl) p1) p2 fun l H' e h => k l H' ⟨e, h⟩) fun l H4 ⟨e4, h4⟩ => ⟨[iV a, iV b], fun j σ' H' => ∃ (o6 : Option V), σ' = [some (.int m), some (.ref q), some (.ref nq), some (.ref al), some (iV kk), some (.ref el), o6] ∧ Ex H H' ∧ H' al = some (.lst (enc m fun x => iV (ab x))) ∧ H' el = some (.lst ([iV ra, iV rb].take j)) ∧ H' l = some (.tup [iV a, iV b]), SqT.of h4, ⟨_, rfl, (e2.trans e3).trans e4, e4 _ _ (e3 _ _ h2), e4 _ _ h3, h4⟩, fun j σ' H' _ ⟨_, _, _, _, _, h⟩ => SqT.of h, ?_, ?_⟩
      · rintro j z σ' H5 hz hj ⟨o6, rfl, e5, h5, g5, l5⟩
        obtain ⟨c, rc, nc, rfl, hc, hrc, gc, hrr⟩ : ∃ c rc nc, z = iV c ∧ c < m ∧ rc < m ∧ LC.Rt ab c rc nc ∧ [iV ra, iV rb].take (j + 1) = [iV ra, iV rb].take j ++ [iV rc] := by
          match j, hz with
          | 0, hz => cases hz; exact ⟨a, ra, na, rfl, hl.1, hra, ga, rfl⟩
          | 1, hz => cases hz; exact ⟨b, rb, nb, rfl, hl.2, hrb, gb, rfl⟩
        refine q_while (W := fun n σ' H' => ∃ (x : Nat), σ' = [some (.int m), some (.ref q), some (.ref nq), some (.ref al), some (iV kk), some (.ref el), some (.int x)] ∧ Ex H5 H' ∧ x < m ∧ LC.Rt ab x rc n) nc ⟨c, rfl, Ex.refl _, hc, gc⟩ ?_
        rintro n _ H6 ⟨x, rfl, e6, hx, gx⟩
        have rd : ∀ {H'}, Ex H6 H' → Val (tOp (rIxL K) (tVar 3) (tVar 6)) [some (.int m), some (.ref q), some (.ref nq), some (.ref al), some (iV kk), some (.ref el), some (.int x)] H' (iV (ab x)) := fun e => v_ixL (vv rfl) (SqL.of (e _ _ (e6 _ _ h5))) (vv rfl) (enc_at hx)
        refine ⟨!decide (iV (ab x) = V.int (x : Nat)), (fun Q k => a_test (v_ne (rd (Ex.refl _)) (vv rfl) rfl) _ (k H6 (Ex.refl _))), fun hb H7 e7 => ?_, fun hb H7 e7 => ?_⟩
        · have hne' : ab x ≠ x := fun z => by rw [z] at hb; simp [iV] at hb
          cases gx with
          | top _ h => exact absurd h hne'
          | up _ _ n _ gx => exact s_set (v := .int (ab x : Nat)) (rd e7) ⟨n, Nat.lt_succ_self n, ab x, rfl, e6.trans e7, U.lt x hx, gx⟩
        · have he' : ab x = x := by
            have := of_decide_eq_true (by simpa using hb : decide (iV (ab x) = V.int (x : Nat)) = true)
            unfold iV at this
            injection this with this; omega
          have : rc = x := by
            cases gx with
            | top _ _ => rfl
            | up _ _ _ h _ => exact absurd he' h
          subst this
          have g7 := e7 _ _ (e6 _ _ g5)
          refine s_append (v := iV rc) (vv rfl) g7 (args1 (vv rfl) args0) (by rw [List.length_take]; exact sz_lt (by have : [iV ra, iV rb].length = 2 := rfl; omega)) ⟨_, rfl, Ex.mut (e5.trans (e6.trans e7)) hel0, by rw [upd_ne nel]; exact e7 _ _ (e6 _ _ h5), by rw [upd_same, hrr], ?_⟩
          have l7 := e7 _ _ (e6 _ _ l5)
          rw [upd_ne (ne_of l7 g7 (by intro z; cases z))]; exact l7
      · rintro σ' H5 ⟨o6, rfl, e5, h5, g5, l5⟩
        have el0 : ∀ {H'} , Ex H5 H' → Val (tOp (rIxL K) (tVar 5) (tC (.int 0))) [some (.int m), some (.ref q), some (.ref nq), some (.ref al), some (iV kk), some (.ref el), o6] H' (iV ra) := fun e => v_ixL (vv rfl) (SqL.of (e _ _ g5)) (i := 0) vc rfl
        have el1 : ∀ {H'} , Ex H5 H' → Val (tOp (rIxL K) (tVar 5) (tC (.int 1))) [some (.int m), some (.ref q), some (.ref nq), some (.ref al), some (iV kk), some (.ref el), o6] H' (iV rb) := fun e => v_ixL (vv rfl) (SqL.of (e _ _ g5)) (i := 1) vc rfl
        refine q_when (b := false) (L2.Ans.to (a_test (v_eq (el0 (Ex.refl _)) (el1 (Ex.refl _)) rfl)) (decide_eq_false (fun z => by unfold iV at z; injection z with z; omega))) (fun q => by cases q) fun _ => ?_
        refine s_lset (v := iV rb) (i := ra) (el1 (Ex.refl _)) (vv rfl) (el0 (Ex.refl _)) h5 (by rw [enc_len]; exact hra) ⟨LC.up ab ra rb, _, _, _, rfl, Ex.mut e5 (fresh_back (Ex.refl H) (by exact hal)), ?_, ?_⟩
        · rw [upd_same, enc_set]
          congr 2
          exact enc_congr fun i _ => (up_map iV ab ra rb i).symm
        · rw [tk]; exact U.join hab hnot hl.1 hl.2 ga gb hne hra hrb
    · rintro σ' H2 ⟨ab, o4, o5, o6, rfl, e2, h2, U⟩
      exact s_ret vc (k H2 e2)
end
end TC
namespace TV
open PySem PySem.Spec PyProof.Rows L2 HT
section
variable {prog : Program} {w : World} {A : Around} {E : Value → Shared → Prop} {s : Shared}
theorem applied_rev {sl : Addr} {vk : Value} {Q : Int × Int × Nat → Shared → Prop} (hs : s.heap.IsSliceOf sl .none .none vk) (pk : IsPart vk (some (-1)))
    (h : Q (1, -1, 2) s) : wpAny (model prog w) A (Builtin.Slice.sliceApplied (.ref sl) (pure ((2 : Nat) : Int))) Q E s := by
  obtain ⟨os, hos, hcs, hds⟩ := id hs
  unfold Builtin.Slice.sliceApplied Builtin.Slice.sliceFields
  refine wpAny_bind (wpAny_bind (wpAny_field hos hds (x := .none) rfl (wpAny_bind (wpAny_field hos hds (x := .none) rfl (wpAny_bind (wpAny_field hos hds (x := vk) rfl (wpAny_pure ?_)))))))
  refine wpAny_bind (slicePart_ pk ?_)
  show wpAny _ _ (if ((-1 : Int) == 0) = true then _ else _) _ _ s
  rw [if_neg (by decide)]
  refine wpAny_bind (slicePart_none (wpAny_bind (slicePart_none (wpAny_bind (wpAny_pure ?_)))))
  exact wpAny_pure h
theorem getItem_rev {t sl : Addr} {y z vk : Value} {Q : Value → Shared → Prop} (ht : IsTup s.heap t #[y, z]) (hs : s.heap.IsSliceOf sl .none .none vk) (pk : IsPart vk (some (-1)))
    (h : Q (.ref s.heap.objs.size) { s with heap := s.heap.push { cls := .type "tuple", data := .seq #[z, y] } }) : wpAny (model prog w) A (getItem (.ref t) (.ref sl)) Q E s := by
  have htake : sizeOk (.seq #[z, y]) := by show 2 ≤ sizeLine; decide
  obtain ⟨os, hos, hcs, hds⟩ := id hs
  have hTs : s.TypeIs (.ref sl) "slice" := ⟨os, hos, hcs⟩
  unfold getItem
  try with_reducible refine wpAny_holding ?_
  first | refine wpAny_bind (wpAny_pure ?_) | skip
  refine wpAny_bind (wpAny_sequenceKey ht.typeIs (by decide) ?_)
  refine wpAny_bind (wpAny_callSpecial?_slot (name := Str.ofString "__getitem__") ht.typeIs PyProof.Rows.slot_tuple_getitem
    (wpAny_call_entry PyProof.Rows.slot_tuple_getitem ht.typeIs entry_tuple_getitem ?_ (args_tuple_getitem _ _)))
  show wpAny _ _ (Builtin.Tuple.tupleItemsOf (.ref t) >>= _) _ _ s
  refine wpAny_bind (tupleItemsOf_ ht ?_)
  refine wpAny_bind (wpAny_typeOf hTs ?_)
  rw [if_pos (by decide)]
  refine wpAny_bind (applied_rev hs pk ?_)
  show wpAny _ _ (if ((1 : Int) == 0 && (-1 : Int) == 1 && (2 : Nat) == 2) = true then _ else _) _ _ s
  rw [if_neg (by decide)]
  first
    | exact wpAny_bind (m := Builtin.Tuple.tupleExact _) (wpAny_newObj_type (wpAny_pure ⟨_, rfl, wpAny_pure h⟩) htake)
    | exact wpAny_bind (m := Builtin.Tuple.tupleExact _) (wpAny_newObj_type (wpAny_bind (wpAny_pure (wpAny_pure ⟨_, rfl, wpAny_pure h⟩))) htake)
    | exact wpAny_bind (wpAny_bind (m := Builtin.Tuple.tupleExact _) (wpAny_newObj_type (wpAny_pure (wpAny_pure ⟨_, rfl, wpAny_pure h⟩)) htake))
    | exact wpAny_bind (wpAny_bind (m := Builtin.Tuple.tupleExact _) (wpAny_newObj_type (wpAny_pure ⟨_, rfl, wpAny_pure h⟩) htake))
end
section
variable {X : Cx} {e st : Expr} {te : TE} {th : TO} {pos p2 : Pos}
def tRev2 (K : PySem.W.Frag) (te : TE) (th : TO) : TE := fun σ H Q => te σ H fun x H1 => th σ H1 fun o H2 => ∃ a y z, x = .ref a ∧ o = some (-1) ∧ SqT K H2 a [y, z] ∧ ∀ p, H2 p = none → Q (.ref p) (upd H2 p (.tup [z, y]))
theorem pe_rev2 (he : PE X e te) (hk : PO X (some st) th) : PE X (.Subscript e (.Slice none none (some st) p2) pos) (tRev2 X.K te th) := by
  refine ⟨fun pins s σ H Q I h => ?_⟩
  refine Subscript_ (thn (he.run pins s σ H _ I h) fun v s1 ⟨x, H1, I1, r1, q1⟩ => ?_)
  refine wpAny_Slice ?_
  rw [evalPart_none]
  refine wpAny_pure (wpAny_pure ?_)
  refine thn (hk.run pins s1 σ H1 _ I1 q1) fun vk s3 ⟨o, H3, I3, pk, q3⟩ => ?_
  obtain ⟨a, y, z, rfl, rfl, hx, q⟩ := q3
  cases r1
  have I4 : Inv X pins σ H3 { s3 with heap := s3.heap.push { cls := .type "slice", data := .fields #[.none, .none, vk] } } := I3.kept (t' := s3.toks) fun b ob q => Heap.get?_push_of_some _ q
  obtain ⟨its, r, ht, hz⟩ := I4.tuple hx
  cases r with
  | cons r1 r2 =>
    cases r2 with
    | cons r2 r3 =>
      cases r3
      show wpAny (model X.prog X.w) X.A (subscriptTail e (.Slice none none (some st) p2) (.ref a) (.ref s3.heap.objs.size)) (EP X pins σ Q) X.xe { s3 with heap := s3.heap.push { cls := .type "slice", data := .fields #[.none, .none, vk] } }
      refine tail_any (ops := [.ref a, .ref s3.heap.objs.size]) ht.typeIs PyProof.Rows.slot_tuple_getitem.lookup (getItem_rev ht (Heap.IsSliceOf.new ..) pk ?_) (by with_unfolding_all rfl)
      refine ⟨.ref _, _, I4.laid (o := .tup [z, y]) (fun b ob q => Heap.get?_push_of_some _ q) (Nat.le_refl _) ?_, rfl, q _ (I4.hok.fresh (Nat.le_refl _))⟩
      exact ⟨by show 2 ≤ sizeLine; decide, _, .cons r2 (.cons r1 .nil), IsTup.new _ _⟩
end
end TV
namespace TC
open PySem PySem.Spec PyProof.Rows L2
def TupO (H : Hp) (q : Addr) (offs : List Off) : Prop := ∃ refs, H q = some (.tup refs) ∧ TupsAt H refs (offs.map offV)
theorem TupO.ex {H H' : Hp} {q : Addr} {offs : List Off} (h : TupO H q offs) (e : Ex H H') : TupO H' q offs := by
  obtain ⟨refs, a, b⟩ := h
  exact ⟨refs, e _ _ a, b.keep (TK.ex e)⟩
theorem TupO.len {H : Hp} {q : Addr} {offs : List Off} {refs : List V} (h : TupsAt H refs (offs.map offV)) : refs.length = offs.length := by
  rw [h.len, List.length_map]
theorem TupO.e {H : Hp} {q : Addr} {offs : List Off} (h : TupO H q offs) : TupE H q (esOf offs) (fun i => [.int ((prOf offs).getD i 0)]) := by
  obtain ⟨refs, a, b⟩ := h
  refine ⟨refs, a, by rw [TupO.len (q := q) b, es_len], fun i x y hi => ?_⟩
  obtain ⟨o, ho⟩ : ∃ o, offs[i]? = some o := ⟨_, List.getElem?_eq_getElem (by rw [← es_len]; exact LC.at_lt hi)⟩
  have := es_at ho
  rw [hi] at this; cases this
  obtain ⟨p, p1, p2⟩ := b.get (i := i) (x := offV o) (by rw [List.getElem?_map, ho]; rfl)
  refine ⟨p, p1, ?_⟩
  rw [p2]
  show some (HO.tup (offV o)) = some (HO.tup [iV o.1, iV o.2.1, V.int ((prOf offs).getD i 0)])
  rw [List.getD_eq_getElem?_getD, pr_at ho]; rfl
section
variable {P : Program} {w : World} {K : PySem.W.Frag} {mg : Str → Option Value} {base : Heap} {H H' H0 : Hp} {q nq : Addr} {σ : L2.St} {tb tx te tl tc tv : TE} {ta : TA} {D : Ends} {v x : V} {t1 t2 tz tu : TS} {t tt : TT} {b : Bool} {es : Prs} {rest : Nat → List V}
theorem in_iV (k : Nat) (ns : List Nat) : inV (iV k) (ns.map iV) = decide (k ∈ ns) := by
  induction ns with
  | nil => simp [inV]
  | cons n ns ih =>
    have e : inV (iV k) ((n :: ns).map iV) = (((n : Int) == (k : Int)) || inV (iV k) (ns.map iV)) := rfl
    rw [e, ih]
    by_cases z : n = k
    · subst z; simp
    · have z1 : ((n : Int) == (k : Int)) = false := by simp; omega
      have z2 : ¬ k = n := fun y => z y.symm
      rw [z1]; simp [z2]
theorem flat_iV (ns : List Nat) : (ns.map iV).all flatV = true := by rw [List.all_eq_true]; intro x hx; obtain ⟨_, _, rfl⟩ := List.mem_map.mp hx; rfl
theorem v_inT {q : Addr} {k : Nat} {ns : List Nat} (h1 : Val te σ H (iV k)) (h2 : Val tb σ H (.ref q)) (hx : H q = some (.tup (ns.map iV))) : Val (tOp (rIn K false) te tb) σ H (.bl (decide (k ∈ ns))) := fun Q z => by
  rw [← in_iV] at z
  exact h1 _ (h2 _ ⟨q, _, rfl, .inr (SqT.of hx), rfl, flat_iV ns, z⟩)
theorem v_niT {q : Addr} {k : Nat} {ns : List Nat} (h1 : Val te σ H (iV k)) (h2 : Val tb σ H (.ref q)) (hx : H q = some (.tup (ns.map iV))) : Val (tOp (rIn K true) te tb) σ H (.bl (!decide (k ∈ ns))) := fun Q z => by
  rw [← in_iV] at z
  exact h1 _ (h2 _ ⟨q, _, rfl, .inr (SqT.of hx), rfl, flat_iV ns, z⟩)
theorem ae_call {sp : Sp} {E : XK} {vs : List V} (ht : Args ta σ H vs) (k : ∀ Q : VK, (∀ H', Ex H H' → Q (.bl b) H') → sp (vs ++ []) H Q E) : AnsE (tB (tCall sp [] E ta)) σ H b := fun Q z =>
  c_fn ht (k _ fun H' e => ⟨b, rfl, z H' e⟩)
theorem vee_and {a b : Bool} (h1 : ValE te σ H (.bl a)) (h2 : a = true → ∀ H', Ex H H' → ValE tb σ H' (.bl b)) : ValE (tAndV te tb) σ H (.bl (a && b)) := fun Q z => h1 _ fun H1 e1 => ⟨a, rfl, by
  cases a with
  | true => exact iteT (h2 rfl H1 e1 _ fun H2 e2 => z H2 (e1.trans e2))
  | false => exact iteF (z H1 e1)⟩
theorem ve_allZL {a b : Addr} {xs ys : List V} {j1 j2 : Nat} {vs : List Nat} (hta : Args ta σ H [.ref a, .ref b]) (ha : H a = some (.lst xs)) (hb : H b = some (.tup ys)) (hxy : xs.length = ys.length) (hl : xs.length ≤ 50000)
    (hw : ∀ x z, wipe (((wipe σ vs).set j1 (some x)).set j2 (some z)) vs = wipe σ vs)
    (he : ∀ (i : Nat) (x y : V), xs[i]? = some x → ys[i]? = some y → ∀ H', Ex H H' → ValE te (((wipe σ vs).set j1 (some x)).set j2 (some y)) H' (.bl true)) :
    ValE (tCB (rAll K) (tCons (tLc (TY.iZipL K ta) (gTup K 2 (gCons (gName j1) (gCons (gName j2) gNil))) tYes te vs) tNil)) σ H (.bl true) := fun Q k => cb_of (hta _ ⟨a, b, xs, ys, rfl, SqL.of ha, SqT.of hb, fun d hd => by
    refine lc_it (TY.walk_zipL hxy) (fun i H' => Ex H H' ∧ H' d = some (.lst (List.replicate i (V.bl true)))) ⟨Ex.new hd, upd_same⟩ (fun i H' _ hP => ⟨SqL.of (hP.1 _ _ ha), SqT.of (hP.1 _ _ hb)⟩) (fun i v H2 H3 hi hP hy => ?_) (fun H' hP => ?_)
    · obtain ⟨T, x, y, rfl, hT, rfl, hx, hy⟩ := hy
      refine ⟨T, _, rfl, SqT.of upd_same, rfl, _, _, rfl, _, _, rfl, rfl, hw _ _, ans_yes _ ?_⟩
      rw [if_pos rfl]
      refine he i x y hx hy _ (hP.1.trans (Ex.new hT)) _ fun H4 e4 => ⟨_, e4 _ _ (Ex.new hT _ _ hP.2), by rw [List.length_replicate]; exact sz_lt (by omega), Ex.mut ((hP.1.trans (Ex.new hT)).trans e4) hd, ?_⟩
      rw [upd_same, List.replicate_succ']
    · refine ⟨d, List.replicate xs.length true, rfl, SqL.of (by rw [List.map_replicate]; exact hP.2), ?_⟩
      have : (List.replicate xs.length true).all id = true := by rw [List.all_eq_true]; intro x hx; rw [List.eq_of_mem_replicate hx]; rfl
      rw [this]; exact k H' hP.1⟩)
def ReasonL (offs : List Off) (ns : List Nat) (N : Nat) (r : List Nat) : Prop := ∃ o, offs[N]? = some o ∧ LC.Lead (esOf offs) o.1 o.2.1 r ∧ r.Nodup ∧ (∀ k ∈ r, k ∈ ns) ∧ ∀ k ∈ r, ∃ o', offs[k]? = some o' ∧ o'.2.2 ≤ o.2.2
def spIsReason : Sp := fun vs H Q _ => ∃ (q kq : Addr) (offs : List Off) (ns : List Nat) (N : Nat) (p u : Addr) (r : List Nat), vs = [.ref q, .ref kq, .int (N : Nat), .ref p] ∧ TupO H q offs ∧ H kq = some (.tup (ns.map iV)) ∧ H p = some (.tup [iV N, .ref u]) ∧ H u = some (.tup (r.map iV)) ∧ ReasonL offs ns N r ∧ offs.length ≤ 1000 ∧ ∀ H', Ex H H' → Q (.bl true) H'
theorem ReasonL.lt {offs : List Off} {ns : List Nat} {N : Nat} {r : List Nat} (h : ReasonL offs ns N r) : ∀ k ∈ r, k < offs.length := fun k hk => by
  obtain ⟨o, _, _, _, _, h⟩ := h
  obtain ⟨o', h', _⟩ := h k hk
  exact LC.at_lt h'
theorem ok_is_reason (T : Tx w K mg) : Ok P w K mg base 3 .is_reason spIsReason := by
  refine T.okd .is_reason sc_is_reason (fun vs H Q E h => ?_) (fun cdv A0 outer s0 H vs Q E hr h => ⟨_, (pss_cons (ps_if (PW.pt (pw_or (pt_not (pt_val (pe_callB call_isi (by rfl) (T.free _ (by decide +kernel)) (by decide +kernel) (by exact (pa_cons (pv 3) (pa_cons (pe_bltn (v := .ty "tuple") rfl (T.free _ (by decide)) (by decide +kernel) rfl) pa_nil)))))) (pw_or (pt_cmpR op_ne (pe_callB call_len_seq (by rfl) (T.free _ (by decide +kernel)) (by decide +kernel) (by exact (pa_cons (pv 3) pa_nil))) pe_int (nomark _)) (pw_or (pt_not (pt_val (pe_call (ok_is_number_shapes T) (hr.mono (by decide)) rfl (T.glF _ (by decide +kernel)) (T.fn .is_number_shapes).kp (b_is_number_shapes T) .nil pass0 (pa_cons (pe_ix ix_tup (pv 3) pe_int (fun _ _ => rfl)) pa_nil)))) (pw_or1 (pt_cmpR op_ne (pe_ix ix_tup (pv 3) pe_int (fun _ _ => rfl)) (pv 2) (nomark _))))))) (pss_one (ps_ret pe_bl)) pss_nil)
    (pss_cons (ps_if (PW.pt (pw_or (pt_not (pt_val (pe_call (ok_are_numbers T) (hr.mono (by decide)) rfl (T.glF _ (by decide +kernel)) (T.fn .are_numbers).kp (b_are_numbers T) .nil pass0 (pa_cons (pe_ix ix_tup (pv 3) pe_int (fun _ _ => rfl)) (pa_cons (pe_callB call_len_seq (by rfl) (T.free _ (by decide +kernel)) (by decide +kernel) (by exact (pa_cons (pv 0) pa_nil))) pa_nil))))) (pw_or1 (pt_not (pt_val (pe_callB (cr_all rfl) (by rfl) (T.free _ (by decide +kernel)) (by decide +kernel) (by exact (pa_cons (pe_lc (own := [("one", 4)]) (g := gName 4) (tt := tYes) (te := (tOp (rIn K false) (tVar 4) (tVar 1))) rfl sc_is_reason.nd (pi_tup (pe_ix ix_tup (pv 3) pe_int (fun _ _ => rfl))) (blkOk_by (N := ["offers", "kept", "number", "row", "one", "a", "b", "price"]) (own := [("one", 4)]) (sc := defScope (Dn.sm .is_reason)) (by decide +kernel)) (fun _ _ _ _ _ => (by exact (pg_name (i := 4) sc_is_reason.nd rfl (Or.inl rfl)))) (fun _ _ _ _ _ => (by exact pts_nil)) (fun _ _ _ _ _ => (by exact (pe_cmpR op_in_seq (pv 4) (pv 1) rfl)))) pa_nil)))))))) (pss_one (ps_ret pe_bl)) pss_nil)
    (pss_cons (ps_asg (pe_ix ix_tup (pv 0) (pv 2) (fun _ _ => rfl)) (pg_tup rfl (pgs_cons (pg_name (i := 5) sc_is_reason.nd rfl (Or.inl rfl)) (pgs_cons (pg_name (i := 6) sc_is_reason.nd rfl (Or.inl rfl)) (pgs_cons (pg_name (i := 7) sc_is_reason.nd rfl (Or.inr rfl)) pgs_nil)))))
    (pss_one (ps_ret (pe_and (pe_call (ok_leads T) (hr.mono (by decide)) rfl (T.glF _ (by decide +kernel)) (T.fn .leads).kp (b_leads T) .nil pass0 (pa_cons (pv 0) (pa_cons (pv 5) (pa_cons (pv 6) (pa_cons (pe_ix ix_tup (pv 3) pe_int (fun _ _ => rfl)) pa_nil))))) (pe_one (pe_callB (cr_all rfl) (by rfl) (T.free _ (by decide +kernel)) (by decide +kernel) (by exact (pa_cons (pe_lc (own := [("one", 4)]) (g := gName 4) (tt := tYes) (te := (tOp (rI0 fun i j => .bl (decide (i ≤ j))) (tOp (rIxT K) (tOp (rIxT K) (tVar 0) (tVar 4)) (tC (.int 2))) (tVar 7))) rfl sc_is_reason.nd (pi_tup (pe_ix ix_tup (pv 3) pe_int (fun _ _ => rfl))) (blkOk_by (N := ["offers", "kept", "number", "row", "one", "a", "b", "price"]) (own := [("one", 4)]) (sc := defScope (Dn.sm .is_reason)) (by decide +kernel)) (fun _ _ _ _ _ => (by exact (pg_name (i := 4) sc_is_reason.nd rfl (Or.inl rfl)))) (fun _ _ _ _ _ => (by exact pts_nil)) (fun _ _ _ _ _ => (by exact (pe_cmpR op_le (pe_ix ix_tup (pe_ix ix_tup (pv 0) (pv 4) (fun _ _ => rfl)) pe_int (fun _ _ => rfl)) (pv 7) (nomark _))))) pa_nil)))))))))), ?_⟩)
  · obtain ⟨q, kq, offs, ns, N, p, u, r, rfl, _⟩ := h; rfl
  · obtain ⟨q, kq, offs, ns, N, p, u, r, rfl, hO, hk, hp, hu, hR, hol, k⟩ := h
    have hlt := hR.lt
    obtain ⟨⟨oa, ob, oc⟩, ho, hld, hnd, hin, hpr⟩ := hR
    have rl : r.length ≤ 1000 := by have := LC.nodup_len offs.length r hnd hlt; omega
    refine q_when (b := false || (false || (false || false))) (a_or (b := false) (a_not (b := true) (a_B (v_isi (vv rfl) (.base (.tup hp)) (kit_ty (by decide +kernel))))) fun _ => a_or (b := false) (L2.Ans.to (a_test (v_ne (v_lenL (vv rfl) (.inr (SqT.of hp))) (vc (v := .int 2)) rfl)) (by simp)) fun _ => a_or (b := false) (a_not (b := true) (a_num (Q := fun _ _ => True) (i := (N : Int)) (v_ixU (vv rfl) hp (vc (v := .int 0)) rfl))) fun _ => L2.Ans.to (a_test (v_ne (v_ixU (vv rfl) hp (vc (v := .int 0)) rfl) (vv rfl) rfl)) (by simp [iV])) (fun q => by cases q) fun _ => ?_
    obtain ⟨refs, r1, r2⟩ := id hO
    have rN : refs.length = offs.length := TupO.len (q := q) r2
    refine q_whenE (b := false || false) (ae_or (b := false) (ae_not (b := true) (ae_call (args1 (v_ixU (vv rfl) hp (vc (v := .int 1)) rfl) (args1 (v := .int (offs.length : Nat)) (rN ▸ v_lenL (vv rfl) (.inr (SqT.of r1))) args0)) fun Q z => ⟨u, offs.length, r, rfl, hu, hlt, by omega, z⟩)) fun _ H1 e1 => ae_not (b := true) (ae_B (ve_allU (ks := r) (φ := iV) (v_ixU (vv rfl) (e1 _ _ hp) (vc (v := .int 1)) rfl) (e1 _ _ hu) (by omega) (fun _ => rfl) fun k hk' H2 e2 => ?_))) (fun q => by cases q) fun _ H1 e1 => ?_
    · have := v_inT (K := K) (te := tVar 4) (tb := tVar 1) (σ := [some (.ref q), some (.ref kq), some (.int (N : Nat)), some (.ref p), some (iV k), none, none, none]) (k := k) (ns := ns) (H := H2) (vv rfl) (vv rfl) (e2 _ _ (e1 _ _ hk))
      rw [decide_eq_true (hin k hk')] at this
      exact this
    obtain ⟨po, po1, po2⟩ := r2.get (i := N) (x := offV (oa, ob, oc)) (by rw [List.getElem?_map, ho]; rfl)
    refine q_unp3 (v_ixU (vv rfl) (e1 _ _ r1) (vv rfl) po1) (SqT.of (e1 _ _ po2)) ?_
    refine s_retE (v := .bl (true && true)) (vee_and (fun Q z => c_fn (args1 (v := .ref q) (vv rfl) (args1 (v := .int (oa : Nat)) (vv rfl) (args1 (v := .int (ob : Nat)) (vv rfl) (args1 (v := .ref u) (v_ixU (vv rfl) (e1 _ _ hp) (vc (v := .int 1)) rfl) args0)))) ⟨q, u, esOf offs, _, oa, ob, r, rfl, (hO.ex e1).e, e1 _ _ hu, hld, hnd, by omega, z⟩) fun _ H2 e2 => ve_allU (ks := r) (φ := iV) (v_ixU (vv rfl) (e2 _ _ (e1 _ _ hp)) (vc (v := .int 1)) rfl) (e2 _ _ (e1 _ _ hu)) (by omega) (fun _ => rfl) fun k hk' H3 e3 => ?_) (fun H' e => k H' (e1.trans e))
    obtain ⟨o', h1, h2⟩ := hpr k hk'
    obtain ⟨pk, pk1, pk2⟩ := r2.get (i := k) (x := offV o') (by rw [List.getElem?_map, h1]; rfl)
    have e13 := (e1.trans e2).trans e3
    have := v_I0 (g := fun i j => V.bl (decide (i ≤ j))) (v_ixU (K := K) (v_ixU (K := K) (vv rfl : Val (tVar 0) [some (.ref q), some (.ref kq), some (.int (N : Nat)), some (.ref p), some (iV k), some (.int oa), some (.int ob), some (.int oc)] H3 (.ref q)) (e13 _ _ r1) (vv rfl : Val (tVar 4) _ _ (iV k)) pk1) (e13 _ _ pk2) (vc (v := .int 2)) rfl) (vv rfl : Val (tVar 7) _ _ (.int oc))
    rw [decide_eq_true h2] at this
    exact this
def spShowsL : Sp := fun vs H Q _ => ∃ (m : Nat) (q t : Addr) (offs : List Off) (ns : List Nat) (kq pq : Addr) (ws : List V) (ps : List (Nat × List Nat)), vs = [.int (m : Nat), .ref q, .ref t] ∧ TupO H q offs ∧ H t = some (.tup [.ref kq, .ref pq]) ∧ H kq = some (.tup (ns.map iV)) ∧ H pq = some (.tup ws) ∧ PapAt H ws ps ∧
  ns.Pairwise (· < ·) ∧ (∀ k ∈ ns, k < offs.length) ∧ LC.Fo (esOf offs) (· ∈ ns) ∧ (∀ (k a b : Nat), (esOf offs)[k]? = some (a, b) → a < m ∧ b < m) ∧ m ≤ 1000 ∧ offs.length ≤ 1000 ∧ ps.map (·.1) = (List.range offs.length).filter (fun k => !decide (k ∈ ns)) ∧ (∀ x ∈ ps, ReasonL offs ns x.1 x.2) ∧ ∀ H', Ex H H' → Q (.bl true) H'
theorem ok_shows_lightest (T : Tx w K mg) : Ok P w K mg base 4 .shows_lightest spShowsL := by
  refine T.okd .shows_lightest sc_shows_lightest (fun vs H Q E h => ?_) (fun cdv A0 outer s0 H vs Q E hr h => ⟨_, (pss_cons (ps_if (PW.pt (pw_or (pt_not (pt_val (pe_callB call_isi (by rfl) (T.free _ (by decide +kernel)) (by decide +kernel) (by exact (pa_cons (pv 2) (pa_cons (pe_bltn (v := .ty "tuple") rfl (T.free _ (by decide)) (by decide +kernel) rfl) pa_nil)))))) (pw_or1 (pt_cmpR op_ne (pe_callB call_len_seq (by rfl) (T.free _ (by decide +kernel)) (by decide +kernel) (by exact (pa_cons (pv 2) pa_nil))) pe_int (nomark _))))) (pss_one (ps_ret pe_bl)) pss_nil)
    (pss_cons (ps_asg (pv 2) (pg_tup rfl (pgs_cons (pg_name (i := 3) sc_shows_lightest.nd rfl (Or.inr rfl)) (pgs_cons (pg_name (i := 4) sc_shows_lightest.nd rfl (Or.inl rfl)) pgs_nil))))
    (pss_cons (ps_if (PW.pt (pw_or (pt_not (pt_val (pe_call (ok_are_numbers T) (hr.mono (by decide)) rfl (T.glF _ (by decide +kernel)) (T.fn .are_numbers).kp (b_are_numbers T) .nil pass0 (pa_cons (pv 3) (pa_cons (pe_callB call_len_seq (by rfl) (T.free _ (by decide +kernel)) (by decide +kernel) (by exact (pa_cons (pv 1) pa_nil))) pa_nil))))) (pw_or (pt_not (pt_val (pe_call (ok_are_rising T) (hr.mono (by decide)) rfl (T.glF _ (by decide +kernel)) (T.fn .are_rising).kp (b_are_rising T) .nil pass0 (pa_cons (pv 3) pa_nil)))) (pw_or1 (pt_val (pe_call (ok_have_ring T) (hr.mono (by decide)) rfl (T.glF _ (by decide +kernel)) (T.fn .have_ring).kp (b_have_ring T) .nil pass0 (pa_cons (pv 0) (pa_cons (pv 1) (pa_cons (pv 3) pa_nil))))))))) (pss_one (ps_ret pe_bl)) pss_nil)
    (pss_cons (ps_setLc (i := 5) (own := [("number", 6)]) (g := gName 6) (tt := (tTest (tOp (rIn K true) (tVar 6) (tVar 3)))) (te := (tVar 6)) rfl sc_shows_lightest.nd rfl rfl (sw_true rfl rfl rfl (by decide +kernel)) (pi_range1 (by rfl) (T.free _ (by decide +kernel)) (pa_cons (pe_callB call_len_seq (by rfl) (T.free _ (by decide +kernel)) (by decide +kernel) (by exact (pa_cons (pv 1) pa_nil))) pa_nil)) (blkOk_by (N := ["many", "offers", "thing", "kept", "paper", "others", "number", "row"]) (own := [("number", 6)]) (sc := defScope (Dn.sm .shows_lightest)) (by decide +kernel)) (fun _ _ _ _ _ => (by exact (pg_name (i := 6) sc_shows_lightest.nd rfl (Or.inl rfl)))) (fun _ _ _ _ _ => (by exact (pts_one (pt_cmpR op_notIn_seq (pv 6) (pv 3) rfl)))) (fun _ _ _ _ _ => (by exact (pv 6))))
    (pss_cons (ps_if (PW.pt (pw_or (pt_not (pt_val (pe_callB call_isi (by rfl) (T.free _ (by decide +kernel)) (by decide +kernel) (by exact (pa_cons (pv 4) (pa_cons (pe_bltn (v := .ty "tuple") rfl (T.free _ (by decide)) (by decide +kernel) rfl) pa_nil)))))) (pw_or1 (pt_cmpR op_ne (pe_callB call_len_seq (by rfl) (T.free _ (by decide +kernel)) (by decide +kernel) (by exact (pa_cons (pv 4) pa_nil))) (pe_callB call_len_seq (by rfl) (T.free _ (by decide +kernel)) (by decide +kernel) (by exact (pa_cons (pv 5) pa_nil))) (nomark _))))) (pss_one (ps_ret pe_bl)) pss_nil)
    (pss_one (ps_ret (pe_callB (cr_all rfl) (by rfl) (T.free _ (by decide +kernel)) (by decide +kernel) (by exact (pa_cons (pe_lc (own := [("number", 6), ("row", 7)]) (g := gTup K 2 (gCons (gName 6) (gCons (gName 7) gNil))) (tt := tYes) (te := (tCall spIsReason [] E0 (tCons (tVar 1) (tCons (tVar 3) (tCons (tVar 6) (tCons (tVar 7) tNil)))))) rfl sc_shows_lightest.nd (TY.pi_zipL (by rfl) (T.free _ (by decide +kernel)) (pa_cons (pv 5) (pa_cons (pv 4) pa_nil))) (blkOk_by (N := ["many", "offers", "thing", "kept", "paper", "others", "number", "row"]) (own := [("number", 6), ("row", 7)]) (sc := defScope (Dn.sm .shows_lightest)) (by decide +kernel)) (fun _ _ _ _ _ => (by exact (pg_tup rfl (pgs_cons (pg_name (i := 6) sc_shows_lightest.nd rfl (Or.inl rfl)) (pgs_cons (pg_name (i := 7) sc_shows_lightest.nd rfl (Or.inl rfl)) pgs_nil))))) (fun _ _ _ _ _ => (by exact pts_nil)) (fun _ _ _ _ _ => (by exact (pe_call (ok_is_reason T) (hr.mono (by decide)) rfl (T.glF _ (by decide +kernel)) (T.fn .is_reason).kp (b_is_reason T) .nil pass0 (pa_cons (pv 1) (pa_cons (pv 3) (pa_cons (pv 6) (pa_cons (pv 7) pa_nil)))))))) pa_nil)))))))))), ?_⟩)
  · obtain ⟨m, q, t, offs, ns, kq, pq, ws, ps, rfl, _⟩ := h; rfl
  · obtain ⟨m, q, t, offs, ns, kq, pq, ws, ps, rfl, hO, ht, hk, hpq, hpa, hs, hlt, hF, hend, hm, hol, hps, hR, k⟩ := h
    have hnd : ns.Nodup := hs.imp fun h z => by omega
    have nl : ns.length ≤ 1000 := by have := LC.nodup_len offs.length ns hnd hlt; omega
    obtain ⟨refs, r1, r2⟩ := id hO
    have rN : refs.length = offs.length := TupO.len (q := q) r2
    refine q_when (b := false || false) (a_or (b := false) (a_not (b := true) (a_B (v_isi (vv rfl) (.base (.tup ht)) (kit_ty (by decide +kernel))))) fun _ => L2.Ans.to (a_test (v_ne (v_lenL (vv rfl) (.inr (SqT.of ht))) (vc (v := .int 2)) rfl)) (by simp)) (fun q => by cases q) fun _ => ?_
    refine q_unp2 (vv rfl) (SqT.of ht) ?_
    refine q_whenE (b := false || (false || false)) (ae_or (b := false) (ae_not (b := true) (ae_call (args1 (vv rfl) (args1 (v := .int (offs.length : Nat)) (rN ▸ v_lenL (vv rfl) (.inr (SqT.of r1))) args0)) fun Q z => ⟨kq, offs.length, ns, rfl, hk, hlt, by omega, z⟩)) fun _ H1 e1 => ae_or (b := false) (ae_not (b := true) (ae_call (args1 (vv rfl) args0) fun Q z => ⟨kq, ns, rfl, e1 _ _ hk, hs, by omega, z⟩)) fun _ H2 e2 => ae_call (args1 (vv rfl) (args1 (vv rfl) (args1 (vv rfl) args0))) fun Q z => ⟨m, q, kq, esOf offs, _, ns, rfl, (hO.ex (e1.trans e2)).e, (e1.trans e2) _ _ hk, hnd, fun k hk => by rw [es_len]; exact hlt k hk, hF, hend, hm, z⟩) (fun q => by cases q) fun _ H1 e1 => ?_
    have pl : ps.length = ((List.range offs.length).filter (fun k => !decide (k ∈ ns))).length := by rw [← hps, List.length_map]
    have pl2 : ((List.range offs.length).filter (fun k => !decide (k ∈ ns))).length ≤ offs.length := by
      have := List.length_filter_le (fun k => !decide (k ∈ ns)) (List.range offs.length)
      rw [List.length_range] at this
      exact this
    have wl := hpa.len
    refine q_setL (ys := ((List.range offs.length).filter (fun k => !decide (k ∈ ns))).map iV) (nl_lcN (n := offs.length) (args1 (rN ▸ v_lenL (vv rfl) (.inr (SqT.of (e1 _ _ r1)))) args0) (by omega) (fun _ => rfl) (fun n hn H' e => a_test (v_niT (vv rfl) (vv rfl) (e _ _ (e1 _ _ hk)))) (fun n hn _ H' e => vv rfl)) fun ol H2 hol2 e2 h2 => ?_
    have e12 := e1.trans e2
    refine q_when (b := false || false) (a_or (b := false) (a_not (b := true) (a_B (v_isi (vv rfl) (.base (.tup (e12 _ _ hpq))) (kit_ty (by decide +kernel))))) fun _ => L2.Ans.to (a_test (v_ne (v_lenL (vv rfl) (.inr (SqT.of (e12 _ _ hpq)))) (v_lenL (vv rfl) (.inl (SqL.of h2))) rfl)) (by rw [List.length_map, wl, pl]; simp)) (fun q => by cases q) fun _ => ?_
    refine s_retE (v := .bl true) (ve_allZL (args1 (v := .ref ol) (vv rfl) (args1 (v := .ref pq) (vv rfl) args0)) h2 (e12 _ _ hpq) (by rw [List.length_map, wl, pl]) (by rw [List.length_map]; omega) (fun _ _ => rfl) (fun i x y hx hy H' e => ?_)) (fun H' e => k H' (e12.trans e))
    rw [← hps, List.map_map, List.getElem?_map] at hx
    cases hpi : ps[i]? with
    | none => rw [hpi] at hx; cases hx
    | some z =>
      rw [hpi] at hx; cases hx
      obtain ⟨pp, u, g1, g2, g3⟩ := hpa.get hpi
      rw [hy] at g1; cases g1
      have e' := e12.trans e
      exact fun Q kk => c_fn (args1 (v := .ref q) (vv rfl) (args1 (v := .ref kq) (vv rfl) (args1 (v := iV z.1) (vv rfl) (args1 (v := .ref pp) (vv rfl) args0)))) ⟨q, kq, offs, ns, z.1, pp, u, z.2, rfl, hO.ex e', e' _ _ hk, e' _ _ g2, e' _ _ g3, hR z (List.mem_of_getElem? hpi), hol, kk⟩
end
end TC
namespace TC
open PySem PySem.Spec PyProof.Rows L2
section
variable {P : Program} {w : World} {K : PySem.W.Frag} {mg : Str → Option Value} {base : Heap} {H H' H0 : Hp} {q nq : Addr} {σ : L2.St} {tb tx te tl tc tv : TE} {ta : TA} {D : Ends} {v x : V} {t1 t2 tz tu : TS} {t tt : TT} {b : Bool} {es : Prs}
abbrev noRest : Nat → List V := fun _ => []
theorem nl_lcE {a : Addr} {xs : List V} {pr : Nat → Bool} {gg : Nat → V} {j1 j2 : Nat} {vs : List Nat} (hta : Args ta σ H [.ref a]) (ha : H a = some (.tup xs)) (hl : xs.length ≤ 50000)
    (hw : ∀ x z, wipe (((wipe σ vs).set j1 (some x)).set j2 (some z)) vs = wipe σ vs)
    (ht : ∀ (i : Nat) (y : V), xs[i]? = some y → ∀ H', Ex H H' → L2.Ans tt (((wipe σ vs).set j1 (some (iV i))).set j2 (some y)) H' (pr i))
    (he : ∀ (i : Nat) (y : V), xs[i]? = some y → pr i = true → ∀ H', Ex H H' → Val te (((wipe σ vs).set j1 (some (iV i))).set j2 (some y)) H' (gg i)) :
    NewL (tLc (TZ.iEnumT K ta) (gTup K 2 (gCons (gName j1) (gCons (gName j2) gNil))) tt te vs) σ H (((List.range xs.length).filter pr).map gg) := fun Q q =>
  hta _ ⟨a, xs, rfl, SqT.of ha, fun Dl hD => by
    refine lc_it TZ.walk_enumT (LcP H (List.range xs.length) pr gg Dl) ⟨hD, Ex.new hD, by rw [upd_same]; rfl⟩ (fun i H' _ hp => SqT.of (hp.2.1 _ _ ha)) (fun i x H2 H3 hi hp hy => ?_) (fun H' hp => ?_)
    · obtain ⟨T, c, y, rfl, hT, rfl, hc, hyy⟩ := hy
      cases hc
      have hr : (List.range xs.length)[i]? = some i := List.getElem?_range hi
      have hp3 : LcP H (List.range xs.length) pr gg Dl i (upd H2 T (.tup [iV i, y])) := ⟨hp.1, hp.2.1.trans (Ex.new hT), Ex.new hT _ _ hp.2.2⟩
      refine ⟨T, _, rfl, SqT.of upd_same, rfl, _, _, rfl, _, _, rfl, rfl, hw _ _, ?_⟩
      exact lc_turn hr (by rw [List.length_range]; exact hl) hp3 (ht i y hyy) (he i y hyy)
    · have h3 := hp.2.2
      rw [List.take_of_length_le (by rw [List.length_range]; exact Nat.le_refl _)] at h3
      exact q Dl H' hp.1 hp.2.1 h3⟩
theorem ve_allE {a : Addr} {xs : List V} {j1 j2 : Nat} {vs : List Nat} (hta : Args ta σ H [.ref a]) (ha : H a = some (.tup xs)) (hl : xs.length ≤ 50000)
    (hw : ∀ x z, wipe (((wipe σ vs).set j1 (some x)).set j2 (some z)) vs = wipe σ vs)
    (he : ∀ (i : Nat) (y : V), xs[i]? = some y → ∀ H', Ex H H' → ValE te (((wipe σ vs).set j1 (some (iV i))).set j2 (some y)) H' (.bl true)) :
    ValE (tCB (rAll K) (tCons (tLc (TZ.iEnumT K ta) (gTup K 2 (gCons (gName j1) (gCons (gName j2) gNil))) tYes te vs) tNil)) σ H (.bl true) := fun Q k => cb_of (hta _ ⟨a, xs, rfl, SqT.of ha, fun d hd => by
    refine lc_it TZ.walk_enumT (fun i H' => Ex H H' ∧ H' d = some (.lst (List.replicate i (V.bl true)))) ⟨Ex.new hd, upd_same⟩ (fun i H' _ hP => SqT.of (hP.1 _ _ ha)) (fun i v H2 H3 hi hP hy => ?_) (fun H' hP => ?_)
    · obtain ⟨T, c, y, rfl, hT, rfl, hc, hy⟩ := hy
      cases hc
      refine ⟨T, _, rfl, SqT.of upd_same, rfl, _, _, rfl, _, _, rfl, rfl, hw _ _, ans_yes _ ?_⟩
      rw [if_pos rfl]
      refine he i y hy _ (hP.1.trans (Ex.new hT)) _ fun H4 e4 => ⟨_, e4 _ _ (Ex.new hT _ _ hP.2), by rw [List.length_replicate]; exact sz_lt (by omega), Ex.mut ((hP.1.trans (Ex.new hT)).trans e4) hd, ?_⟩
      rw [upd_same, List.replicate_succ']
    · refine ⟨d, List.replicate xs.length true, rfl, SqL.of (by rw [List.map_replicate]; exact hP.2), ?_⟩
      have : (List.replicate xs.length true).all id = true := by rw [List.all_eq_true]; intro x hx; rw [List.eq_of_mem_replicate hx]; rfl
      rw [this]; exact k H' hP.1⟩)
theorem ve_allP {l : Addr} {xs : List V} {j1 j2 : Nat} {vs : List Nat} (h : Val tl σ H (.ref l)) (hx : H l = some (.lst xs)) (hl : xs.length ≤ 50000)
    (hw : ∀ x z, wipe (((wipe σ vs).set j1 (some x)).set j2 (some z)) vs = wipe σ vs)
    (he : ∀ (i : Nat) (y : V), xs[i]? = some y → ∃ p u1 u2, y = V.ref p ∧ H p = some (.tup [u1, u2]) ∧ ∀ H', Ex H H' → ValE te (((wipe σ vs).set j1 (some u1)).set j2 (some u2)) H' (.bl true)) :
    ValE (tCB (rAll K) (tCons (tLc (iList K tl) (gTup K 2 (gCons (gName j1) (gCons (gName j2) gNil))) tYes te vs) tNil)) σ H (.bl true) := fun Q k => cb_of (h _ ⟨l, rfl, ⟨_, SqL.of hx⟩, fun d hd =>
  lc_list (xs := xs) (fun i H' => Ex H H' ∧ H' d = some (.lst (List.replicate i (V.bl true)))) ⟨Ex.new hd, upd_same⟩ (fun i H' hi hp => SqL.of (hp.1 _ _ hx)) (fun i y H' hi hP => by
    obtain ⟨p, u1, u2, rfl, h1, h2⟩ := he i y hi
    have il := LC.at_lt hi
    refine ⟨p, _, rfl, SqT.of (hP.1 _ _ h1), rfl, _, _, rfl, _, _, rfl, rfl, hw _ _, ans_yes _ ?_⟩
    rw [if_pos rfl]
    refine h2 _ hP.1 _ fun H4 e4 => ⟨_, e4 _ _ hP.2, by rw [List.length_replicate]; exact sz_lt (by omega), Ex.mut (hP.1.trans e4) hd, ?_⟩
    rw [upd_same, List.replicate_succ']) (fun H' hP => by
    refine ⟨d, List.replicate xs.length true, rfl, SqL.of (by rw [List.map_replicate]; exact hP.2), ?_⟩
    have : (List.replicate xs.length true).all id = true := by rw [List.all_eq_true]; intro x hx; rw [List.eq_of_mem_replicate hx]; rfl
    rw [this]; exact k H' hP.1)⟩)
def spBank : Sp := fun vs H Q _ => ∃ (m : Nat) (q : Addr) (es : Prs) (N : Nat) (pt : Addr) (ns : List Nat) (o : Nat × Nat), vs = [.int (m : Nat), .ref q, .int (N : Nat), .ref pt] ∧ TupE H q es noRest ∧ H pt = some (.tup (ns.map iV)) ∧ ns.Pairwise (· < ·) ∧ (∀ x ∈ ns, x < m) ∧ es[N]? = some o ∧ o.1 ∈ ns ∧ o.2 ∉ ns ∧
  (∀ (k x y : Nat), k ≠ N → es[k]? = some (x, y) → (x ∈ ns ↔ y ∈ ns)) ∧ es.length ≤ 1000 ∧ m ≤ 1000 ∧ ∀ H', Ex H H' → Q (.bl true) H'
theorem ok_is_bank (T : Tx w K mg) : Ok P w K mg base 3 .is_bank spBank := by
  refine T.okd .is_bank sc_is_bank (fun vs H Q E h => ?_) (fun cdv A0 outer s0 H vs Q E hr h => ⟨_, (pss_cons (ps_if (PW.pt (pw_or (pt_not (pt_val (pe_call (ok_are_numbers T) (hr.mono (by decide)) rfl (T.glF _ (by decide +kernel)) (T.fn .are_numbers).kp (b_are_numbers T) .nil pass0 (pa_cons (pv 3) (pa_cons (pv 0) pa_nil))))) (pw_or1 (pt_not (pt_val (pe_call (ok_are_rising T) (hr.mono (by decide)) rfl (T.glF _ (by decide +kernel)) (T.fn .are_rising).kp (b_are_rising T) .nil pass0 (pa_cons (pv 3) pa_nil))))))) (pss_one (ps_ret pe_bl)) pss_nil)
    (pss_cons (ps_asg (pe_ix ix_tup (pv 1) (pv 2) (fun _ _ => rfl)) (pg_tup rfl (pgs_cons (pg_name (i := 4) sc_is_bank.nd rfl (Or.inl rfl)) (pgs_cons (pg_name (i := 5) sc_is_bank.nd rfl (Or.inl rfl)) pgs_nil))))
    (pss_cons (ps_if (PW.pt (pw_or (pt_cmpR op_notIn_seq (pv 4) (pv 3) rfl) (pw_or1 (pt_cmpR op_in_seq (pv 5) (pv 3) rfl)))) (pss_one (ps_ret pe_bl)) pss_nil)
    (pss_cons (ps_setLc (i := 6) (own := [("other", 7), ("pair", 8)]) (g := gTup K 2 (gCons (gName 7) (gCons (gName 8) gNil))) (tt := (tTest (tOp rNe (tVar 7) (tVar 2)))) (te := (tVar 8)) rfl sc_is_bank.nd rfl rfl (sw_true rfl rfl rfl (by decide +kernel)) (TZ.pi_enumT (by rfl) (T.free _ (by decide +kernel)) (pa_cons (pv 1) pa_nil)) (blkOk_by (N := ["many", "offers", "number", "points", "a", "b", "others", "other", "pair", "one"]) (own := [("other", 7), ("pair", 8)]) (sc := defScope (Dn.sm .is_bank)) (by decide +kernel)) (fun _ _ _ _ _ => (by exact (pg_tup rfl (pgs_cons (pg_name (i := 7) sc_is_bank.nd rfl (Or.inl rfl)) (pgs_cons (pg_name (i := 8) sc_is_bank.nd rfl (Or.inl rfl)) pgs_nil))))) (fun _ _ _ _ _ => (by exact (pts_one (pt_cmpR op_ne (pv 7) (pv 2) (nomark _))))) (fun _ _ _ _ _ => (by exact (pv 8))))
    (pss_one (ps_ret (pe_callB (cr_all rfl) (by rfl) (T.free _ (by decide +kernel)) (by decide +kernel) (by exact (pa_cons (pe_lc (own := [("one", 9), ("other", 7)]) (g := gTup K 2 (gCons (gName 9) (gCons (gName 7) gNil))) (tt := tYes) (te := (tOp rEq (tOp (rIn K false) (tVar 9) (tVar 3)) (tOp (rIn K false) (tVar 7) (tVar 3)))) rfl sc_is_bank.nd (pi_list (pv 6)) (blkOk_by (N := ["many", "offers", "number", "points", "a", "b", "others", "other", "pair", "one"]) (own := [("one", 9), ("other", 7)]) (sc := defScope (Dn.sm .is_bank)) (by decide +kernel)) (fun _ _ _ _ _ => (by exact (pg_tup rfl (pgs_cons (pg_name (i := 9) sc_is_bank.nd rfl (Or.inl rfl)) (pgs_cons (pg_name (i := 7) sc_is_bank.nd rfl (Or.inl rfl)) pgs_nil))))) (fun _ _ _ _ _ => (by exact pts_nil)) (fun _ _ _ _ _ => (by exact (pe_cmpR op_eq (pe_cmpR op_in_seq (pv 9) (pv 3) rfl) (pe_cmpR op_in_seq (pv 7) (pv 3) rfl) (nomark _))))) pa_nil))))))))), ?_⟩)
  · obtain ⟨m, q, es, N, pt, ns, o, rfl, _⟩ := h; rfl
  · obtain ⟨m, q, es, N, pt, ns, ⟨oa, ob⟩, rfl, hE, hp, hs, hlt, ho, hoa, hob, hx, hel, hm, k⟩ := h
    have hnd : ns.Nodup := hs.imp fun h z => by omega
    have nl : ns.length ≤ 1000 := by have := LC.nodup_len m ns hnd hlt; omega
    refine q_whenE (b := false || false) (ae_or (b := false) (ae_not (b := true) (ae_call (args1 (vv rfl) (args1 (vv rfl) args0)) fun Q z => ⟨pt, m, ns, rfl, hp, hlt, by omega, z⟩)) fun _ H1 e1 => ae_not (b := true) (ae_call (args1 (vv rfl) args0) fun Q z => ⟨pt, ns, rfl, e1 _ _ hp, hs, by omega, z⟩)) (fun q => by cases q) fun _ H1 e1 => ?_
    obtain ⟨refs, r1, r2, r3⟩ := hE.ex e1
    obtain ⟨po, po1, po2⟩ := r3 N oa ob ho
    refine v_ixU (K := K) (tb := tVar 1) (tx := tVar 2) (vv rfl) r1 (vv rfl) po1 _ ⟨po, _, rfl, SqT.of po2, rfl, _, _, rfl, _, _, rfl, rfl, ?_⟩
    refine q_when (b := false || false) (a_or (b := false) (L2.Ans.to (a_test (v_niT (k := oa) (vv rfl) (vv rfl) (e1 _ _ hp))) (by rw [decide_eq_true hoa]; rfl)) fun _ => L2.Ans.to (a_test (v_inT (k := ob) (vv rfl) (vv rfl) (e1 _ _ hp))) (decide_eq_false hob)) (fun q => by cases q) fun _ => ?_
    refine q_setL (ys := ((List.range refs.length).filter (fun i => !decide (i = N))).map (fun i => refs.getD i .non)) (nl_lcE (args1 (v := .ref q) (vv rfl) args0) r1 (by omega) (fun _ _ => rfl) (fun i y hy H' e => ?_) (fun i y hy hpi H' e => ?_)) fun ol H2 hol e2 h2 => ?_
    · refine L2.Ans.to (a_test (v_ne (vv rfl) (vv rfl) rfl)) ?_
      by_cases z : i = N
      · subst z; simp [iV]
      · have : ¬ V.int (i : Nat) = V.int (N : Nat) := fun w => by injection w with w; omega
        show (!decide (V.int (i : Nat) = V.int (N : Nat))) = _
        rw [decide_eq_false this, decide_eq_false z]
    · rw [List.getD_eq_getElem?_getD, hy]; exact vv rfl
    refine s_retE (v := .bl true) (ve_allP (vv rfl) h2 (by
      rw [List.length_map]
      have := List.length_filter_le (fun i => !decide (i = N)) (List.range refs.length)
      rw [List.length_range] at this
      omega) (fun _ _ => rfl) (fun i y hy => ?_)) (fun H' e => k H' ((e1.trans e2).trans e))
    have hym := List.mem_of_getElem? hy
    obtain ⟨j, hj, rfl⟩ := List.mem_map.mp hym
    rw [List.mem_filter, List.mem_range] at hj
    have hjN : j ≠ N := by simpa using hj.2
    obtain ⟨⟨x, z⟩, hxz⟩ : ∃ e, es[j]? = some e := ⟨_, List.getElem?_eq_getElem (by omega)⟩
    obtain ⟨pp, p1, p2⟩ := r3 j x z hxz
    refine ⟨pp, iV x, iV z, by rw [List.getD_eq_getElem?_getD, p1]; rfl, e2 _ _ p2, fun H3 e3 => Val.e ?_⟩
    have h3 := e3 _ _ (e2 _ _ (e1 _ _ hp))
    have := v_eq (v_inT (K := K) (te := tVar 9) (tb := tVar 3) (σ := [some (.int m), some (.ref q), some (.int (N : Nat)), some (.ref pt), some (iV oa), some (iV ob), some (.ref ol), some (iV z), none, some (iV x)]) (k := x) (vv rfl) (vv rfl) h3) (v_inT (K := K) (te := tVar 7) (tb := tVar 3) (k := z) (vv rfl) (vv rfl) h3) rfl
    rw [decide_eq_true (by rw [show decide (x ∈ ns) = decide (z ∈ ns) from decide_eq_decide.mpr (hx j x z hjN hxz)])] at this
    exact this
def spIsReasonFor : Sp := fun vs H Q _ => ∃ (m : Nat) (q : Addr) (es : Prs) (N : Nat) (p : Addr) (o : Nat × Nat), vs = [.int (m : Nat), .ref q, .int (N : Nat), .ref p] ∧ TupE H q es noRest ∧ es[N]? = some o ∧ Reason H es m N o p ∧ es.length ≤ 1000 ∧ m ≤ 1000 ∧ ∀ H', Ex H H' → Q (.bl true) H'
theorem rh_ne : decide (V.str "round" = V.str "holds") = false := by decide +kernel
theorem ok_is_reason_for (T : Tx w K mg) : Ok P w K mg base 4 .is_reason_for spIsReasonFor := by
  refine T.okd .is_reason_for sc_is_reason_for (fun vs H Q E h => ?_) (fun cdv A0 outer s0 H vs Q E hr h => ⟨_, (pss_cons (ps_if (PW.pt (pw_or (pt_not (pt_val (pe_callB call_isi (by rfl) (T.free _ (by decide +kernel)) (by decide +kernel) (by exact (pa_cons (pv 3) (pa_cons (pe_bltn (v := .ty "tuple") rfl (T.free _ (by decide)) (by decide +kernel) rfl) pa_nil)))))) (pw_or (pt_cmpR op_ne (pe_callB call_len_seq (by rfl) (T.free _ (by decide +kernel)) (by decide +kernel) (by exact (pa_cons (pv 3) pa_nil))) pe_int (nomark _)) (pw_or1 (pt_not (pt_val (pe_callB call_isi (by rfl) (T.free _ (by decide +kernel)) (by decide +kernel) (by exact (pa_cons (pe_ix ix_tup (pv 3) pe_int (fun _ _ => rfl)) (pa_cons (pe_bltn (v := .ty "str") rfl (T.free _ (by decide)) (by decide +kernel) rfl) pa_nil)))))))))) (pss_one (ps_ret pe_bl)) pss_nil)
    (pss_cons (ps_if (pt_cmpR op_eq (pe_ix ix_tup (pv 3) pe_int (fun _ _ => rfl)) pe_str (nomark _)) (pss_one (ps_ret (pe_call (ok_is_bank T) (hr.mono (by decide)) rfl (T.glF _ (by decide +kernel)) (T.fn .is_bank).kp (b_is_bank T) .nil pass0 (pa_cons (pv 0) (pa_cons (pv 1) (pa_cons (pv 2) (pa_cons (pe_ix ix_tup (pv 3) pe_int (fun _ _ => rfl)) pa_nil))))))) pss_nil)
    (pss_cons (ps_if (PW.pt (pw_or (pt_cmpR op_ne (pe_ix ix_tup (pv 3) pe_int (fun _ _ => rfl)) pe_str (nomark _)) (pw_or (pt_not (pt_val (pe_call (ok_are_numbers T) (hr.mono (by decide)) rfl (T.glF _ (by decide +kernel)) (T.fn .are_numbers).kp (b_are_numbers T) .nil pass0 (pa_cons (pe_ix ix_tup (pv 3) pe_int (fun _ _ => rfl)) (pa_cons (pe_callB call_len_seq (by rfl) (T.free _ (by decide +kernel)) (by decide +kernel) (by exact (pa_cons (pv 1) pa_nil))) pa_nil))))) (pw_or1 (pt_cmpR op_in_seq (pv 2) (pe_ix ix_tup (pv 3) pe_int (fun _ _ => rfl)) rfl))))) (pss_one (ps_ret pe_bl)) pss_nil)
    (pss_cons (ps_asg (pe_ix ix_tup (pv 1) (pv 2) (fun _ _ => rfl)) (pg_tup rfl (pgs_cons (pg_name (i := 4) sc_is_reason_for.nd rfl (Or.inl rfl)) (pgs_cons (pg_name (i := 5) sc_is_reason_for.nd rfl (Or.inl rfl)) pgs_nil))))
    (pss_one (ps_ret (pe_call (ok_leads T) (hr.mono (by decide)) rfl (T.glF _ (by decide +kernel)) (T.fn .leads).kp (b_leads T) .nil pass0 (pa_cons (pv 1) (pa_cons (pv 4) (pa_cons (pv 5) (pa_cons (pe_ix ix_tup (pv 3) pe_int (fun _ _ => rfl)) pa_nil))))))))))), ?_⟩)
  · obtain ⟨m, q, es, N, p, o, rfl, _⟩ := h; rfl
  · obtain ⟨m, q, es, N, p, ⟨oa, ob⟩, rfl, hE, ho, hR, hel, hm, k⟩ := h
    rcases hR with ⟨t, ns, hp, ht, hs, hlt, hoa, hob, hx⟩ | ⟨t, r, hp, ht, hlt, hnd, hld⟩
    · refine q_when (b := false || (false || false)) (a_or (b := false) (a_not (b := true) (a_B (v_isi (vv rfl) (.base (.tup hp)) (kit_ty (by decide +kernel))))) fun _ => a_or (b := false) (L2.Ans.to (a_test (v_ne (v_lenL (vv rfl) (.inr (SqT.of hp))) (vc (v := .int 2)) rfl)) (by simp)) fun _ => a_not (b := true) (a_B (v_isi (v_ixU (vv rfl) hp (vc (v := .int 0)) rfl) (.base (.str "holds")) (kit_ty (by decide +kernel))))) (fun q => by cases q) fun _ => ?_
      refine q_when (b := true) (L2.Ans.to (a_wd (vv rfl) hp rfl) (decide_eq_true rfl)) (fun _ => ?_) (fun q => by cases q)
      exact s_retE (v := .bl true) (fun Q z => c_fn (args1 (v := .int (m : Nat)) (vv rfl) (args1 (v := .ref q) (vv rfl) (args1 (v := .int (N : Nat)) (vv rfl) (args1 (v := .ref t) (v_ixU (vv rfl) hp (vc (v := .int 1)) rfl) args0)))) ⟨m, q, es, N, t, ns, (oa, ob), rfl, hE, ht, hs, hlt, ho, hoa, hob, hx, hel, hm, z⟩) k
    · have rl : r.length ≤ 1000 := by have := LC.nodup_len es.length r hnd fun k hk => (hlt k hk).1; omega
      obtain ⟨refs, r1, r2, r3⟩ := id hE
      refine q_when (b := false || (false || false)) (a_or (b := false) (a_not (b := true) (a_B (v_isi (vv rfl) (.base (.tup hp)) (kit_ty (by decide +kernel))))) fun _ => a_or (b := false) (L2.Ans.to (a_test (v_ne (v_lenL (vv rfl) (.inr (SqT.of hp))) (vc (v := .int 2)) rfl)) (by simp)) fun _ => a_not (b := true) (a_B (v_isi (v_ixU (vv rfl) hp (vc (v := .int 0)) rfl) (.base (.str "round")) (kit_ty (by decide +kernel))))) (fun q => by cases q) fun _ => ?_
      refine q_when (b := false) (L2.Ans.to (a_wd (vv rfl) hp rfl) rh_ne) (fun q => by cases q) fun _ => ?_
      refine q_whenE (b := false || (false || false)) (ae_or (b := false) (Ans.e (L2.Ans.to (a_test (v_ne (v_ixU (vv rfl) hp (vc (v := .int 0)) rfl) (vc (v := .str "round")) rfl)) (by simp))) fun _ H1 e1 => ae_or (b := false) (ae_not (b := true) (ae_call (args1 (v_ixU (vv rfl) (e1 _ _ hp) (vc (v := .int 1)) rfl) (args1 (v := .int (es.length : Nat)) (r2 ▸ v_lenL (vv rfl) (.inr (SqT.of (e1 _ _ r1)))) args0)) fun Q z => ⟨t, es.length, r, rfl, e1 _ _ ht, fun k hk => (hlt k hk).1, by omega, z⟩)) fun _ H2 e2 => Ans.e (L2.Ans.to (a_test (v_inT (k := N) (vv rfl) (v_ixU (vv rfl) ((e1.trans e2) _ _ hp) (vc (v := .int 1)) rfl) ((e1.trans e2) _ _ ht))) (decide_eq_false fun z => (hlt N z).2 rfl))) (fun q => by cases q) fun _ H1 e1 => ?_
      obtain ⟨po, po1, po2⟩ := r3 N oa ob ho
      refine v_ixU (K := K) (tb := tVar 1) (tx := tVar 2) (vv rfl) (e1 _ _ r1) (vv rfl) po1 _ ⟨po, _, rfl, SqT.of (e1 _ _ po2), rfl, _, _, rfl, _, _, rfl, rfl, ?_⟩
      exact s_retE (v := .bl true) (fun Q z => c_fn (args1 (v := .ref q) (vv rfl) (args1 (v := iV oa) (vv rfl) (args1 (v := iV ob) (vv rfl) (args1 (v := .ref t) (v_ixU (vv rfl) (e1 _ _ hp) (vc (v := .int 1)) rfl) args0)))) ⟨q, t, es, noRest, oa, ob, r, rfl, hE.ex e1, e1 _ _ ht, hld, hnd, by omega, z⟩) (fun H' e => k H' (e1.trans e))
def spShowsH : Sp := fun vs H Q _ => ∃ (m : Nat) (q t : Addr) (es : Prs) (ws : List V), vs = [.int (m : Nat), .ref q, .ref t] ∧ TupE H q es noRest ∧ H t = some (.tup ws) ∧ ReaAt H es m ws es.length ∧ es.length ≤ 1000 ∧ m ≤ 1000 ∧ ∀ H', Ex H H' → Q (.bl true) H'
theorem ok_shows_holding (T : Tx w K mg) : Ok P w K mg base 5 .shows_holding spShowsH := by
  refine T.okd .shows_holding sc_shows_holding (fun vs H Q E h => ?_) (fun cdv A0 outer s0 H vs Q E hr h => ⟨_, (pss_cons (ps_if (PW.pt (pw_or (pt_not (pt_val (pe_callB call_isi (by rfl) (T.free _ (by decide +kernel)) (by decide +kernel) (by exact (pa_cons (pv 2) (pa_cons (pe_bltn (v := .ty "tuple") rfl (T.free _ (by decide)) (by decide +kernel) rfl) pa_nil)))))) (pw_or1 (pt_cmpR op_ne (pe_callB call_len_seq (by rfl) (T.free _ (by decide +kernel)) (by decide +kernel) (by exact (pa_cons (pv 2) pa_nil))) (pe_callB call_len_seq (by rfl) (T.free _ (by decide +kernel)) (by decide +kernel) (by exact (pa_cons (pv 1) pa_nil))) (nomark _))))) (pss_one (ps_ret pe_bl)) pss_nil)
    (pss_one (ps_ret (pe_callB (cr_all rfl) (by rfl) (T.free _ (by decide +kernel)) (by decide +kernel) (by exact (pa_cons (pe_lc (own := [("number", 3), ("row", 4)]) (g := gTup K 2 (gCons (gName 3) (gCons (gName 4) gNil))) (tt := tYes) (te := (tCall spIsReasonFor [] E0 (tCons (tVar 0) (tCons (tVar 1) (tCons (tVar 3) (tCons (tVar 4) tNil)))))) rfl sc_shows_holding.nd (TZ.pi_enumT (by rfl) (T.free _ (by decide +kernel)) (pa_cons (pv 2) pa_nil)) (blkOk_by (N := ["many", "offers", "thing", "number", "row"]) (own := [("number", 3), ("row", 4)]) (sc := defScope (Dn.sm .shows_holding)) (by decide +kernel)) (fun _ _ _ _ _ => (by exact (pg_tup rfl (pgs_cons (pg_name (i := 3) sc_shows_holding.nd rfl (Or.inl rfl)) (pgs_cons (pg_name (i := 4) sc_shows_holding.nd rfl (Or.inl rfl)) pgs_nil))))) (fun _ _ _ _ _ => (by exact pts_nil)) (fun _ _ _ _ _ => (by exact (pe_call (ok_is_reason_for T) (hr.mono (by decide)) rfl (T.glF _ (by decide +kernel)) (T.fn .is_reason_for).kp (b_is_reason_for T) .nil pass0 (pa_cons (pv 0) (pa_cons (pv 1) (pa_cons (pv 3) (pa_cons (pv 4) pa_nil)))))))) pa_nil)))))), ?_⟩)
  · obtain ⟨m, q, t, es, ws, rfl, _⟩ := h; rfl
  · obtain ⟨m, q, t, es, ws, rfl, hE, ht, hR, hel, hm, k⟩ := h
    obtain ⟨refs, r1, r2, r3⟩ := id hE
    obtain ⟨wl, hat⟩ := hR
    refine q_when (b := false || false) (a_or (b := false) (a_not (b := true) (a_B (v_isi (vv rfl) (.base (.tup ht)) (kit_ty (by decide +kernel))))) fun _ => L2.Ans.to (a_test (v_ne (v_lenL (vv rfl) (.inr (SqT.of ht))) (v_lenL (vv rfl) (.inr (SqT.of r1))) rfl)) (by rw [wl, r2]; simp)) (fun q => by cases q) fun _ => ?_
    refine s_retE (v := .bl true) (ve_allE (args1 (v := .ref t) (vv rfl) args0) ht (by omega) (fun _ _ => rfl) (fun i y hy H' e => ?_)) k
    have hi : i < es.length := by rw [← wl]; exact LC.at_lt hy
    obtain ⟨o, ho⟩ : ∃ o, es[i]? = some o := ⟨_, List.getElem?_eq_getElem hi⟩
    obtain ⟨p, p1, p2⟩ := hat i o hi ho
    rw [hy] at p1; cases p1
    exact fun Q kk => c_fn (args1 (v := .int (m : Nat)) (vv rfl) (args1 (v := .ref q) (vv rfl) (args1 (v := iV i) (vv rfl) (args1 (v := .ref p) (vv rfl) args0)))) ⟨m, q, es, i, p, o, rfl, hE.ex e, ho, p2.keep (TK.ex e), hel, hm, kk⟩
end
end TC
namespace TC
open PySem PySem.Spec PyProof.Rows L2
@[reducible] def rAbs : List V → Hp → VK → Prop := fun xs H Q => ∃ i, xs = [.int i] ∧ Q (.int (if i < 0 then -i else i)) H
section
variable {P : Program} {w : World} {K : PySem.W.Frag} {mg : Str → Option Value} {base : Heap} {H H' H0 : Hp} {q nq : Addr} {σ : L2.St} {tb tx te tl tc tv : TE} {ta : TA} {D : Ends} {v x : V} {t1 t2 tz tu : TS} {t tt : TT} {b : Bool}
def VI (te : TE) (σ : L2.St) (H : Hp) (R : Int → Prop) : Prop := ∀ Q : VK, (∀ i, R i → Q (.int i) H) → te σ H Q
theorem vi_of {i : Int} {R : Int → Prop} (h : Val te σ H (.int i)) (r : R i) : VI te σ H R := fun Q k => h Q (k i r)
theorem vi_c {i : Int} : VI (tC (.int i)) σ H (· = i) := vi_of vc rfl
theorem vi_op0 {g : Int → Int → Int} {R1 R2 R : Int → Prop} (h1 : VI te σ H R1) (h2 : VI tb σ H R2) (h : ∀ i j, R1 i → R2 j → R (g i j)) : VI (tOp (rI0 fun i j => .int (g i j)) te tb) σ H R := fun Q k =>
  h1 _ fun i r1 => h2 _ fun j r2 => ⟨i, j, rfl, rfl, k _ (h i j r1 r2)⟩
theorem vi_op {C : Int → Int → Prop} {g : Int → Int → Int} {R1 R2 R : Int → Prop} (h1 : VI te σ H R1) (h2 : VI tb σ H R2) (h : ∀ i j, R1 i → R2 j → C i j ∧ R (g i j)) : VI (tOp (rI C fun i j => .int (g i j)) te tb) σ H R := fun Q k =>
  h1 _ fun i r1 => h2 _ fun j r2 => ⟨i, j, rfl, rfl, (h i j r1 r2).1, k _ (h i j r1 r2).2⟩
theorem q_setI {i : Nat} {R : Int → Prop} (h : VI te σ H R) (k : ∀ z, R z → tz D (σ.set i (some (.int z))) H) : tSeq (tAsg te (gName i)) tz D σ H := h _ k
theorem s_setI {i : Nat} {R : Int → Prop} (h : VI te σ H R) (k : ∀ z, R z → D.nx (σ.set i (some (.int z))) H) : tAsg te (gName i) D σ H := h _ k
theorem s_retI {R : Int → Prop} (h : VI te σ H R) (k : ∀ z, R z → D.rt (.int z) H) : tRet te D σ H := h _ k
abbrev anyI : Int → Prop := fun _ => True
abbrev s31 : Int → Prop := fun i => 0 ≤ i ∧ i < 2147483648
theorem emod_b (i : Int) {j : Int} (hj : 0 < j) : 0 ≤ i % j ∧ i % j < j := ⟨Int.emod_nonneg _ (by omega), Int.emod_lt_of_pos _ hj⟩
theorem vi_add {R1 R2 : Int → Prop} (h1 : VI te σ H R1) (h2 : VI tb σ H R2) : VI (tOp (rI0 fun i j => .int (i + j)) te tb) σ H anyI := vi_op0 (g := fun i j => i + j) h1 h2 fun _ _ _ _ => trivial
theorem vi_mulL {R2 : Int → Prop} (h1 : VI te σ H s31) (h2 : VI tb σ H R2) : VI (tOp (rI CMul fun i j => .int (i * j)) te tb) σ H anyI := vi_op (g := fun i j => i * j) h1 h2 fun i j r _ => ⟨.inl ⟨by have := r.1; omega, by have := r.2; omega⟩, trivial⟩
theorem vi_mulR {R1 : Int → Prop} (h1 : VI te σ H R1) (h2 : VI tb σ H fun j => 0 ≤ j ∧ j < 2 ^ 61) : VI (tOp (rI CMul fun i j => .int (i * j)) te tb) σ H anyI := vi_op (g := fun i j => i * j) h1 h2 fun i j _ r => ⟨.inr ⟨by have := r.1; omega, by have := r.2; omega⟩, trivial⟩
theorem vi_mod {R1 : Int → Prop} {c : Int} (h1 : VI te σ H R1) (hc : 0 < c) (hc2 : c ≤ 2147483648) : VI (tOp (rI (fun _ j => 0 < j) fun i j => .int (i % j)) te (tC (.int c))) σ H s31 := vi_op (g := fun i j => i % j) h1 vi_c fun i j _ r => by
  subst r
  have := emod_b i hc
  exact ⟨hc, this.1, by omega⟩
theorem vi_mono {R R' : Int → Prop} (h : VI te σ H R) (hr : ∀ i, R i → R' i) : VI te σ H R' := fun Q k => h Q fun i r => k i (hr i r)
def spMixed : Sp := fun vs H Q _ => ∃ (c : Int) (k : Nat), vs = [.int c, .int (k : Nat)] ∧ k < 2 ^ 60 ∧ ∀ z, Q (.int z) H
theorem ok_law_mixed (T : Tx w K mg) : Ok P w K mg base 1 .law_mixed spMixed := by
  refine T.okd .law_mixed sc_law_mixed (fun vs H Q E h => ?_) (fun cdv A0 outer s0 H vs Q E hr h => ⟨_, (pss_cons (ps_set (i := 2) sc_law_mixed.nd rfl (Or.inl rfl) (pe_op op_mod (pe_op op_add (pe_op op_add (pe_op op_mul (pe_op op_mod (pv 0) pe_int) (pe_op op_add pe_int (pe_op op_mul (pe_op op_mul pe_int (pv 1)) (pv 1)))) (pe_op op_mul pe_int (pv 1))) pe_int) pe_int))
    (pss_cons (ps_set (i := 2) sc_law_mixed.nd rfl (Or.inl rfl) (pe_op op_fdiv (pe_op op_mod (pe_op op_mul (pv 2) (pv 2)) pe_int) pe_int))
    (pss_cons (ps_set (i := 3) sc_law_mixed.nd rfl (Or.inl rfl) (pe_op op_mod (pe_op op_add (pe_op op_add (pe_op op_mul (pv 2) pe_int) (pe_op op_mul pe_int (pv 1))) pe_int) pe_int))
    (pss_one (ps_ret (pe_op op_fdiv (pe_op op_mod (pe_op op_mul (pv 3) (pe_op op_add (pe_op op_mod (pv 2) pe_int) pe_int)) pe_int) pe_int)))))), ?_⟩)
  · obtain ⟨c, k, rfl, _⟩ := h; rfl
  · obtain ⟨c, k, rfl, hk, kk⟩ := h
    have c31 : ∀ {σ' : L2.St} {c : Int}, 0 ≤ c → c < 2147483648 → VI (tC (.int c)) σ' H s31 := fun h1 h2 => vi_of vc ⟨h1, h2⟩
    have k60 : ∀ {σ' : L2.St}, σ'[1]? = some (some (.int (k : Nat))) → VI (tVar 1) σ' H (fun j => 0 ≤ j ∧ j < 2 ^ 61) := fun h => vi_of (vv h) ⟨by omega, by omega⟩
    refine q_setI (vi_mod (vi_add (vi_add (vi_mulL (vi_mod (vi_of (R := anyI) (vv rfl) trivial) (by decide) (by decide)) (vi_add vi_c (vi_mulR (vi_mulL (c31 (by decide) (by decide)) (k60 rfl)) (k60 rfl)))) (vi_mulL (c31 (by decide) (by decide)) (k60 rfl))) vi_c) (by decide) (by decide)) fun n1 h1 => ?_
    refine q_setI (R := s31) (vi_op (g := fun i j => i / j) (vi_mod (vi_mulL (vi_of (vv rfl) h1) (vi_of (R := anyI) (vv rfl) trivial)) (by decide) (by decide)) vi_c fun i j r e => by
      subst e
      exact ⟨⟨by decide, by decide⟩, Int.ediv_nonneg r.1 (by decide), by have := r.2; omega⟩) fun n2 h2 => ?_
    refine q_setI (vi_mod (vi_add (vi_add (vi_mulL (vi_of (vv rfl) h2) vi_c) (vi_mulL (c31 (by decide) (by decide)) (k60 rfl))) vi_c) (by decide) (by decide)) fun n3 h3 => ?_
    refine s_retI (R := anyI) (vi_op (g := fun i j => i / j) (vi_mod (vi_mulL (vi_of (vv rfl) h3) (vi_add (vi_mod (vi_of (R := anyI) (vv rfl) trivial) (by decide) (by decide)) vi_c)) (by decide) (by decide)) vi_c fun i j r e => by
      subst e
      exact ⟨⟨by decide, by decide⟩, trivial⟩) fun z _ => kk z
def PotAt (H : Hp) (p l : Addr) (C : Nat) : Prop := ∃ (zs : List Int) (tot : Int) (c : Nat), H p = some (.lst [.ref l, .int tot, .int (c : Nat)]) ∧ H l = some (.lst (zs.map V.int)) ∧ zs.length ≤ 63 ∧ c ≤ C
def Pf (p l : Addr) (q : Addr) : Prop := q = p ∨ q = l
theorem PotAt.ne {p l : Addr} {C : Nat} (h : PotAt H p l C) : p ≠ l := fun e => by
  obtain ⟨zs, tot, c, h1, h2, _⟩ := h
  rw [e, h2] at h1
  cases zs with
  | nil => cases h1
  | cons z zs => injection h1 with h1; injection h1 with h1; injection h1 with h1 _; cases h1
theorem PotAt.ex {p l : Addr} {C : Nat} (h : PotAt H p l C) (e : Ex H H') : PotAt H' p l C := by
  obtain ⟨zs, tot, c, h1, h2, h3⟩ := h
  exact ⟨zs, tot, c, e _ _ h1, e _ _ h2, h3⟩
theorem PotAt.mono {p l : Addr} {C C' : Nat} (h : PotAt H p l C) (hc : C ≤ C') : PotAt H p l C' := by
  obtain ⟨zs, tot, c, h1, h2, h3, h4⟩ := h
  exact ⟨zs, tot, c, h1, h2, h3, by omega⟩
theorem PotAt.keep {p l : Addr} {C : Nat} {F : Addr → Prop} (h : PotAt H p l C) (k : KeepF F H H') (hp : ¬ F p) (hl : ¬ F l) : PotAt H' p l C := by
  obtain ⟨zs, tot, c, h1, h2, h3⟩ := h
  exact ⟨zs, tot, c, k _ _ h1 hp, k _ _ h2 hl, h3⟩
theorem Pf.tup {p l : Addr} {C : Nat} (h : PotAt H p l C) {q : Addr} {xs : List V} (hq : H q = some (.tup xs)) : ¬ Pf p l q := by
  obtain ⟨zs, tot, c, h1, h2, h3⟩ := h
  rintro (rfl | rfl)
  · rw [h1] at hq; cases hq
  · rw [h2] at hq; cases hq
theorem Pf.new {p l : Addr} {C : Nat} (h : PotAt H p l C) {q : Addr} (hq : H q = none) : ¬ Pf p l q := by
  obtain ⟨zs, tot, c, h1, h2, h3⟩ := h
  rintro (rfl | rfl)
  · rw [h1] at hq; cases hq
  · rw [h2] at hq; cases hq
theorem Pf.tk {p l : Addr} {C : Nat} (h : PotAt H p l C) (k : KeepF (Pf p l) H H') : TK H H' := fun q xs hq => k q _ hq (Pf.tup h hq)
theorem nl_slice63 {a : Addr} {ns : List Int} (hb : Val tb σ H (.ref a)) (hs : SqL K H a (ns.map V.int)) (hl : ns.length ≤ 63) : NewL (tSl (rSlL K) tb tNoPart (tPart (tC (.int 63)))) σ H (ns.map V.int) := fun Q k =>
  hb _ ⟨63, rfl, a, _, rfl, hs, fun p hp => by
    have e : cutV (ns.map V.int) none (some 63) = ns.map V.int := by
      unfold cutV
      rw [HT.sIx_none, List.drop_zero, Nat.sub_zero, show HT.sIx (ns.map V.int).length (ns.map V.int).length (some 63) = (ns.map V.int).length by show min 63 (ns.map V.int).length = (ns.map V.int).length; rw [List.length_map]; omega, List.take_length]
    rw [e]; exact k p _ hp (Ex.new hp) upd_same⟩
theorem args_new {ys : List V} {Q : List V → Hp → Prop} (h : NewL te σ H ys) (k : ∀ l H1, H l = none → Ex H H1 → H1 l = some (.lst ys) → Q [.ref l] H1) : tCons te tNil σ H Q := h _ fun p H1 hp e1 h1 => k p H1 hp e1 h1
theorem q_forEN {xs : List V} {g : TG} (h : ∀ Q : List V → Hp → Prop, (∀ l H1, H l = none → Ex H H1 → H1 l = some (.lst xs) → Q [.ref l] H1) → ta σ H Q) (k : ∀ l H1, H l = none → Ex H H1 → H1 l = some (.lst xs) → ∃ Pv : Nat → L2.St → Hp → Prop, Pv 0 σ H1 ∧ (∀ i σ' H', Pv i σ' H' → H' l = some (.lst xs)) ∧
    (∀ i x p σ' H', xs[i]? = some x → Pv i σ' H' → H' p = none → g (.ref p) σ' (upd H' p (.tup [iV i, x])) fun σ2 H2 => t1 { D with nx := Pv (i + 1), ct := Pv (i + 1), bk := tz D } σ2 H2) ∧ (∀ σ' H', Pv xs.length σ' H' → tz D σ' H')) : tSeq (tFor (iEnum K ta) g t1) tz D σ H :=
  h _ fun l H1 hl e1 h1 => by
    obtain ⟨Pv, a, b, c, d⟩ := k l H1 hl e1 h1
    exact ⟨l, xs, rfl, SqL.of h1, for_it (D := { D with nx := tz D }) walk_enum Pv a (fun i σ' H' _ hP => SqL.of (b i σ' H' hP)) (fun i x σ' H1 H2 hi hp hy => by
      obtain ⟨p, u, v, rfl, hp0, rfl, hu, hv⟩ := hy
      cases hu
      exact c i v p σ' H1 hv hp hp0) d⟩
theorem nl_lcRL {α : Type} {ks : List α} {φ : α → V} {pr : α → Bool} {g : α → V} {j : Nat} {vs : List Nat} {R : Addr → Hp → Prop} (h : ∀ Q : VK, (∀ a H1, R a H1 → Q (.ref a) H1) → tl σ H Q) (hR : ∀ a H1, R a H1 → H1 a = some (.lst (ks.map φ))) (hl : ks.length ≤ 50000)
    (hw : ∀ x, wipe ((wipe σ vs).set j (some x)) vs = wipe σ vs)
    (ht : ∀ a H1, R a H1 → ∀ k ∈ ks, ∀ H', Ex H1 H' → L2.Ans tt ((wipe σ vs).set j (some (φ k))) H' (pr k)) (he : ∀ a H1, R a H1 → ∀ k ∈ ks, pr k = true → ∀ H', Ex H1 H' → Val te ((wipe σ vs).set j (some (φ k))) H' (g k)) {Q : VK}
    (q : ∀ a H1 p H', R a H1 → H1 p = none → Ex H1 H' → H' p = some (.lst ((ks.filter pr).map g)) → Q (.ref p) H') : tLc (iList K tl) (gName j) tt te vs σ H Q := h _ fun a H1 r => ⟨a, rfl, ⟨_, SqL.of (hR a H1 r)⟩, fun Dl hD =>
  lc_list (xs := ks.map φ) (LcP H1 ks pr g Dl) ⟨hD, Ex.new hD, by rw [upd_same]; rfl⟩ (fun i H' _ hp => SqL.of (hp.2.1 _ _ (hR a H1 r))) (fun i x H' hi hp => by
    rw [List.getElem?_map] at hi
    cases hk : ks[i]? with
    | none => rw [hk] at hi; cases hi
    | some k =>
      rw [hk] at hi
      cases hi
      have hm := List.mem_of_getElem? hk
      exact ⟨hw _, lc_turn hk hl hp (ht a H1 r k hm) (he a H1 r k hm)⟩) (fun H' hp => by
    rw [List.length_map] at hp
    have h3 := hp.2.2
    rw [List.take_length] at h3
    exact q a H1 Dl H' r hp.1 hp.2.1 h3)⟩
theorem v_abs {i : Int} (h : Val te σ H (.int i)) : Val (tCB rAbs (tCons te tNil)) σ H (.int (if i < 0 then -i else i)) := fun Q z => h _ ⟨i, rfl, z⟩
theorem ret_l3 (h : te σ H fun v H1 => tb σ H1 fun v2 H2 => tc σ H2 fun v3 H3 => 3 ≤ sizeLine ∧ ∀ p, H3 p = none → D.rt (.ref p) (upd H3 p (.lst [v, v2, v3]))) : tRet (tLst (tCons te (tCons tb (tCons tc tNil)))) D σ H := h
def spPot (K : PySem.W.Frag) : Sp := fun vs H Q _ => ∃ (a : Addr) (ns : List Int), vs = [.ref a] ∧ SqL K H a (ns.map V.int) ∧ ns.length ≤ 63 ∧ ∀ H' p l, Ex H H' → PotAt H' p l 0 → Q (.ref p) H'
abbrev absI (i : Int) : Int := if i < 0 then -i else i
theorem ok_law_pot (T : Tx w K mg) : Ok P w K mg base 1 .law_pot (spPot K) := by
  refine T.okd .law_pot sc_law_pot (fun vs H Q E h => ?_) (fun cdv A0 outer s0 H vs Q E hr h => ⟨_, (pss_cons (ps_set (i := 1) sc_law_pot.nd rfl (Or.inl rfl) pe_int)
    (pss_cons (ps_for PassesOwn.never rfl (pi_enum (by rfl) (T.free _ (by decide +kernel)) (pa_cons (pe_slice sl_list (pv 0) po_none (po_some pe_int)) pa_nil)) (pg_tup rfl (pgs_cons (pg_name (i := 2) sc_law_pot.nd rfl (Or.inl rfl)) (pgs_cons (pg_name (i := 3) sc_law_pot.nd rfl (Or.inl rfl)) pgs_nil))) (pss_one (ps_set (i := 1) sc_law_pot.nd rfl (Or.inl rfl) (pe_op op_mod (pe_op op_add (pe_op op_add (pe_op op_add (pe_op op_mul (pv 1) pe_int) (pv 3)) (pe_op op_mul pe_int (pv 2))) pe_int) (pe_op op_add (pe_op op_pow pe_int pe_int) pe_int)))))
    (pss_one (ps_ret (pe_lst (pa_cons (pe_lc (own := [("_law_cell", 3)]) (g := gName 3) (tt := (tTest (tOp (rI0 fun i j => .bl (decide (j ≤ i))) (tCB rAbs (tCons (tVar 3) tNil)) (tOp (rI CPow fun i j => .int (i ^ j.toNat)) (tC (.int 10)) (tC (.int 18)))))) (te := (tCB rAbs (tCons (tVar 3) tNil))) rfl sc_law_pot.nd (pi_list (pe_slice sl_list (pv 0) po_none (po_some pe_int))) (blkOk_by (N := ["_law_script", "_law_total", "_law_k", "_law_cell"]) (own := [("_law_cell", 3)]) (sc := defScope (Dn.sm .law_pot)) (by decide +kernel)) (fun _ _ _ _ _ => (by exact (pg_name (i := 3) sc_law_pot.nd rfl (Or.inl rfl)))) (fun _ _ _ _ _ => (by exact (pts_one (pt_cmpR op_ge (pe_callB call_abs (by rfl) (T.free _ (by decide +kernel)) (by decide +kernel) (by exact (pa_cons (pv 3) pa_nil))) (pe_op op_pow pe_int pe_int) (nomark _))))) (fun _ _ _ _ _ => (by exact (pe_callB call_abs (by rfl) (T.free _ (by decide +kernel)) (by decide +kernel) (by exact (pa_cons (pv 3) pa_nil)))))) (pa_cons (pv 1) (pa_cons pe_int pa_nil)))))))), ?_⟩)
  · obtain ⟨a, ns, rfl, _⟩ := h; rfl
  · obtain ⟨a, ns, rfl, hs, hl, k⟩ := h
    refine q_set (v := .int 0) vc ?_
    refine q_forEN (xs := ns.map V.int) (fun Q z => args_new (nl_slice63 (vv rfl) hs hl) z) fun l H1 hl1 e1 h1 => ⟨fun i σ' H' => ∃ (tot : Int) (o2 o3 : Option V), σ' = [some (.ref a), some (.int tot), o2, o3] ∧ Ex H1 H', ⟨0, _, _, rfl, Ex.refl _⟩, fun i σ' H' ⟨_, _, _, _, e⟩ => e _ _ h1, ?_, ?_⟩
    · rintro i x p σ' H2 hx ⟨tot, o2, o3, rfl, e2⟩ hp
      rw [List.getElem?_map] at hx
      cases hn : ns[i]? with
      | none => rw [hn] at hx; cases hx
      | some z =>
        rw [hn] at hx; cases hx
        have hi := LC.at_lt hn
        refine ⟨p, _, rfl, SqT.of upd_same, rfl, _, _, rfl, _, _, rfl, rfl, ?_⟩
        refine s_setI (R := anyI) (vi_op (g := fun i j => i % j) (vi_add (vi_add (vi_add (vi_mulR (vi_of (R := anyI) (vv rfl) trivial) (vi_of vc ⟨by decide, by decide⟩)) (vi_of (R := anyI) (vv rfl) trivial)) (vi_mulL (vi_of vc ⟨by decide, by decide⟩) (vi_of (R := anyI) (vv rfl) trivial))) vi_c) (vi_op0 (g := fun i j => i + j) (vi_op (R := fun i => 0 ≤ i) (g := fun i j => i ^ j.toNat) (vi_c (i := 10)) (vi_c (i := 18)) fun i j r1 r2 => by
          subst r1; subst r2
          exact ⟨⟨by decide, by decide, by decide⟩, by decide⟩) (vi_c (i := 9)) (R := fun j => 0 < j) fun i j r1 r2 => by omega) fun i j _ r => ⟨r, trivial⟩) fun z' _ => ⟨z', _, _, rfl, e2.trans (Ex.new hp)⟩
    · rintro σ' H2 ⟨tot, o2, o3, rfl, e2⟩
      have e12 := e1.trans e2
      refine ret_l3 (nl_lcRL (ks := ns) (φ := V.int) (pr := fun i => decide ((10 : Int) ^ (18 : Int).toNat ≤ absI i)) (g := fun i => V.int (absI i)) (R := fun l' H3 => Ex H2 H3 ∧ H3 l' = some (.lst (ns.map V.int))) (fun Q z => nl_slice63 (vv rfl) (ex_l e12 hs) hl _ fun l' H3 _ e3 h3 => z l' H3 ⟨e3, h3⟩) (fun _ _ r => r.2) (by omega) (fun _ => rfl) (fun l' H3 r i hi H4 e4 => ?_) (fun l' H3 r i hi _ H4 e4 => ?_) (fun l' H3 d H4 r hd e4 h4 => ?_))
      · exact a_test (v_I0 (g := fun i j => V.bl (decide (j ≤ i))) (v_abs (vv rfl)) (v_I (g := fun i j => V.int (i ^ j.toNat)) vc vc ⟨by decide, by decide, by decide⟩))
      · exact v_abs (vv rfl)
      · refine ⟨_, rfl, ⟨by show 3 ≤ sizeLine; decide, fun p hp => k _ p d ((e12.trans (r.1.trans e4)).trans (Ex.new hp)) ⟨(ns.filter fun i => decide ((10 : Int) ^ (18 : Int).toNat ≤ absI i)).map absI, tot, 0, upd_same, ?_, ?_, Nat.le_refl _⟩⟩⟩
        · rw [List.map_map]; exact Ex.new hp _ _ h4
        · rw [List.length_map]
          have := List.length_filter_le (fun i => decide ((10 : Int) ^ (18 : Int).toNat ≤ absI i)) ns
          omega
end
end TC
namespace TC
open PySem PySem.Spec PyProof.Rows L2
section
variable {P : Program} {w : World} {K : PySem.W.Frag} {mg : Str → Option Value} {base : Heap} {H H' H0 : Hp} {q nq : Addr} {σ : L2.St} {tb tx te tl tc tv : TE} {ta : TA} {D : Ends} {v x : V} {t1 t2 tz tu : TS} {t tt u : TT} {b : Bool}
theorem dp_ints : ∀ (zs : List Int), DpAll K H (zs.map V.int) (zs.map PyData.int)
  | [] => .nil
  | z :: zs => .cons (.int z) (dp_ints zs)
theorem lay_ints : ∀ (zs : List Int), PyData.canLayAll0 (zs.map PyData.int) = true ∧ PyData.depthAll (zs.map PyData.int) = 0
  | [] => ⟨rfl, rfl⟩
  | z :: zs => by
    obtain ⟨h1, h2⟩ := lay_ints zs
    refine ⟨?_, ?_⟩
    · show (PyData.canLay0 (.int z) && PyData.canLayAll0 (zs.map PyData.int)) = true
      rw [h1]; rfl
    · show max (PyData.depth (.int z)) (PyData.depthAll (zs.map PyData.int)) = 0
      rw [h2]; rfl
theorem shaped_l {ds : List PyData} (h1 : PyData.canLayAll0 ds = true) (h2 : PyData.depthAll ds ≤ 10) : SeqAt.shaped (.list ds) = true := by
  unfold SeqAt.shaped
  rw [show PyData.canLay0 (.list ds) = PyData.canLayAll0 ds by simp [PyData.canLay0], h1]
  have : PyData.depth (.list ds) ≤ 64 := by rw [show PyData.depth (.list ds) = PyData.depthAll ds + 1 by simp [PyData.depth]]; omega
  simp [this]
theorem shaped_t {ds : List PyData} (h1 : PyData.canLayAll0 ds = true) (h2 : PyData.depthAll ds ≤ 10) : SeqAt.shaped (.tuple ds) = true := by
  unfold SeqAt.shaped
  rw [show PyData.canLay0 (.tuple ds) = PyData.canLayAll0 ds by simp [PyData.canLay0], h1]
  have : PyData.depth (.tuple ds) ≤ 64 := by rw [show PyData.depth (.tuple ds) = PyData.depthAll ds + 1 by simp [PyData.depth]]; omega
  simp [this]
theorem eqv_nil (ds : List PyData) : PyData.eqv (.list ds) (.list []) = ds.isEmpty := by
  cases ds <;> simp [PyData.eqv, PyData.eqvAll]
theorem ve_neE {l : Addr} {xs : List V} {ds : List PyData} (h : Val te σ H (.ref l)) (hx : H l = some (.lst xs)) (hd : ∀ H', Ex H H' → DpAll K H' xs ds) (h1 : PyData.canLayAll0 ds = true) (h2 : PyData.depthAll ds ≤ 10) : ValE (tOp (rNeD K) te (tLst tNil)) σ H (.bl (!ds.isEmpty)) := fun Q k =>
  h _ ⟨by show 0 ≤ sizeLine; decide, fun p hp => ⟨.list ds, .list [], Dp.lst (SqL.of (Ex.new hp _ _ hx)) (hd _ (Ex.new hp)), Dp.lst (SqL.of upd_same) .nil, shaped_l h1 h2, shaped_l rfl (by show 0 ≤ 10; decide), by rw [eqv_nil]; exact k _ (Ex.new hp)⟩⟩
theorem ae_test {b : Bool} (h : ValE te σ H (.bl b)) : AnsE (tTest te) σ H b := fun Q z => h _ fun H' e => ⟨b, rfl, z H' e⟩
theorem ae_and {b c : Bool} (h1 : AnsE t σ H b) (h2 : b = true → ∀ H', Ex H H' → AnsE u σ H' c) : AnsE (tAnd t u) σ H (b && c) := fun Q z => h1 _ fun H' e => by
  cases b with
  | true => exact iteT (h2 rfl H' e Q fun H2 e2 => z H2 (e.trans e2))
  | false => exact iteF (z H' e)
theorem ae_to {b c : Bool} (h : AnsE t σ H b) (e : b = c) : AnsE t σ H c := e ▸ h
theorem ret_op {r : R2} (h : te σ H fun x H1 => tb σ H1 fun y H2 => r x y H2 D.rt) : tRet (tOp r te tb) D σ H := h
theorem s_pop0 {l : Addr} {y : V} {xs : List V} (h : Val te σ H (.ref l)) (hl : H l = some (.lst (y :: xs))) (k : D.nx σ (upd H l (.lst xs))) : tDrop (tBM K "list" rPopAt te (tCons (tC (.int 0)) tNil)) D σ H :=
  h _ ⟨.inl ⟨rfl, _, SqL.of hl⟩, ⟨l, _, 0, 0, y, rfl, rfl, hl, by decide, by decide, (by unfold seqIndex?; simp), rfl, k⟩⟩
theorem q_augL {l : Addr} {xs : List V} {i : Nat} {z j : Int} (hb : Val tb σ H (.ref l)) (hx : Val tx σ H (.int (i : Nat))) (hl : H l = some (.lst xs)) (hi : xs[i]? = some (.int z)) (hv : Val te σ H (.int j)) (k : tz D σ (upd H l (.lst (xs.set i (.int (z + j)))))) : tSeq (tAugS tb tx te (rIxL K) (ipI fun i j => i + j) rSetL) tz D σ H :=
  hb _ (hx _ ⟨l, xs, i, _, rfl, rfl, SqL.of hl, atI_nat hi, hv _ ⟨z, j, rfl, rfl, ⟨l, xs, i, i, rfl, rfl, hl, ixN_nat (LC.at_lt hi), k⟩⟩⟩)
def spTake : Sp := fun vs H Q _ => ∃ (p l : Addr) (C n : Nat), vs = [.ref p, .int (n : Nat)] ∧ PotAt H p l C ∧ 0 < n ∧ n ≤ 1000000000000000000 ∧ C ≤ 1000000 ∧ ∀ H' (d : Nat), d < n → PotAt H' p l (C + 1) → KeepF (Pf p l) H H' → Q (.int (d : Nat)) H'
theorem ok_law_take (T : Tx w K mg) : Ok P w K mg base 2 .law_take spTake := by
  refine T.okd .law_take sc_law_take (fun vs H Q E h => ?_) (fun cdv A0 outer s0 H vs Q E hr h => ⟨_, (pss_cons (ps_while PassesOwn.never (PW.pt (pw_and (pt_cmpR (op_neD hr.units) (pe_ix ix_list (pv 0) pe_int (fun _ _ => rfl)) (pe_lst pa_nil) (nomark _)) (pw_and1 (pt_cmpR op_eq (pe_ix ix_list (pe_ix ix_list (pv 0) pe_int (fun _ _ => rfl)) pe_int (fun _ _ => rfl)) pe_int (nomark _))))) (pss_one (ps_expr (pe_bm PySem.F.plainAttrs_list PySem.F.slot_list_pop PySem.F.type_list_pop mt_popAt (pe_ix ix_list (pv 0) pe_int (fun _ _ => rfl)) (pa_cons pe_int pa_nil)))))
    (pss_cons (ps_if (pt_cmpR (op_neD hr.units) (pe_ix ix_list (pv 0) pe_int (fun _ _ => rfl)) (pe_lst pa_nil) (nomark _)) (pss_cons (ps_set (i := 2) sc_law_take.nd rfl (Or.inl rfl) (pe_op op_mod (pe_ix ix_list (pe_ix ix_list (pv 0) pe_int (fun _ _ => rfl)) pe_int (fun _ _ => rfl)) (pv 1)))
    (pss_cons (ps_asg (pe_op op_fdivW (pe_ix ix_list (pe_ix ix_list (pv 0) pe_int (fun _ _ => rfl)) pe_int (fun _ _ => rfl)) (pv 1)) (pg_sub (pe_ix ix_list (pv 0) pe_int (fun _ _ => rfl)) pe_int set_list))
    (pss_one (ps_ret (pv 2))))) pss_nil)
    (pss_cons (ps_augS (pv 0) pe_int pget_list pe_int ip_add set_list)
    (pss_one (ps_ret (pe_op op_mod (pe_call (ok_law_mixed T) (hr.mono (by decide)) rfl (T.glF _ (by decide +kernel)) (T.fn .law_mixed).kp (b_law_mixed T) .nil pass0 (pa_cons (pe_op op_add (pe_ix ix_list (pv 0) pe_int (fun _ _ => rfl)) (pe_op op_mul pe_int (pe_ix ix_list (pv 0) pe_int (fun _ _ => rfl)))) (pa_cons (pe_ix ix_list (pv 0) pe_int (fun _ _ => rfl)) pa_nil))) (pv 1))))))), ?_⟩)
  · obtain ⟨p, l, C, n, rfl, _⟩ := h; rfl
  · obtain ⟨p, l, C, n, rfl, hP, hn, hn2, hC, k⟩ := h
    have npl := hP.ne
    obtain ⟨zs, tot, c, hp, hl, hz, hc⟩ := hP
    have nlp : l ≠ p := Ne.symm npl
    refine q_while (W := fun j σ' H' => ∃ (zs : List Int) (o2 : Option V), σ' = [some (.ref p), some (.int (n : Nat)), o2] ∧ H' p = some (.lst [.ref l, .int tot, .int (c : Nat)]) ∧ H' l = some (.lst (zs.map V.int)) ∧ zs.length = j ∧ j ≤ 63 ∧ KeepF (Pf p l) H H') zs.length ⟨zs, _, rfl, hp, hl, rfl, hz, KeepF.refl _ _⟩ ?_
    rintro j _ H1 ⟨zs, o2, rfl, hp, hl, hj, hj2, hk⟩
    have p0 : ∀ {H'}, Ex H1 H' → Val (tOp (rIxL K) (tVar 0) (tC (.int 0))) [some (.ref p), some (.int (n : Nat)), o2] H' (.ref l) := fun e => v_ixL (vv rfl) (SqL.of (e _ _ hp)) (i := 0) vc rfl
    have ne : ∀ {H'}, Ex H1 H' → ValE (tOp (rNeD K) (tOp (rIxL K) (tVar 0) (tC (.int 0))) (tLst tNil)) [some (.ref p), some (.int (n : Nat)), o2] H' (.bl (!(zs.map PyData.int).isEmpty)) := fun e => ve_neE (p0 e) (e _ _ hl) (fun _ _ => dp_ints zs) (lay_ints zs).1 (by rw [(lay_ints zs).2]; decide)
    cases zs with
    | nil =>
      refine ⟨false && false, ae_and (b := false) (ae_test (ne (Ex.refl _))) (fun q => by cases q), (fun q => by cases q), fun _ H2 e2 => ?_⟩
      refine q_whenE (b := false) (ae_test (ne e2)) (fun q => by cases q) fun _ H3 e3 => ?_
      have e13 := e2.trans e3
      refine q_augL (i := 2) (z := (c : Int)) (vv rfl) (vc (v := .int 2)) (e13 _ _ hp) rfl vc ?_
      have hp4 : upd H3 p (.lst [.ref l, .int tot, .int ((c : Int) + 1)]) p = some (.lst [.ref l, .int tot, .int ((c : Int) + 1)]) := upd_same
      have hl4 : upd H3 p (.lst [.ref l, .int tot, .int ((c : Int) + 1)]) l = some (.lst []) := by rw [upd_ne nlp]; exact e13 _ _ hl
      have k4 : KeepF (Pf p l) H (upd H3 p (.lst [.ref l, .int tot, .int ((c : Int) + 1)])) := (hk.trans (KeepF.ex e13)).upd (.inl rfl)
      show tRet _ _ _ (upd H3 p (.lst [.ref l, .int tot, .int ((c : Int) + 1)]))
      generalize upd H3 p (.lst [.ref l, .int tot, .int ((c : Int) + 1)]) = H4 at hp4 hl4 k4 ⊢
      have ix1 : Val (tOp (rIxL K) (tVar 0) (tC (.int 1))) [some (.ref p), some (.int (n : Nat)), o2] H4 (.int tot) := v_ixL (vv rfl) (SqL.of hp4) (i := 1) vc rfl
      have ix2 : Val (tOp (rIxL K) (tVar 0) (tC (.int 2))) [some (.ref p), some (.int (n : Nat)), o2] H4 (.int ((c + 1 : Nat) : Int)) := v_ixL (vv rfl) (SqL.of hp4) (i := 2) vc rfl
      refine ret_op (c_fn (args1 (v_I0 (g := fun i j => V.int (i + j)) ix1 (v_I (g := fun i j => V.int (i * j)) (vc (v := .int 104729)) ix2 (.inl ⟨by decide, by decide⟩))) (args1 ix2 args0)) ⟨_, c + 1, rfl, by omega, fun z => (vv rfl : Val (tVar 1) _ _ (.int (n : Nat))) _ ⟨z, n, rfl, rfl, by omega, ?_⟩⟩)
      have hb := emod_b z (j := (n : Int)) (by omega)
      have e : z % (n : Int) = (((z % (n : Int)).toNat : Nat) : Int) := by omega
      show Q (.int (z % (n : Int))) H4
      rw [e]
      exact k H4 _ (by omega) ⟨[], tot, c + 1, hp4, hl4, by simp, by omega⟩ k4
    | cons z zs =>
      have ix : ∀ {H'}, Ex H1 H' → Val (tOp (rIxL K) (tOp (rIxL K) (tVar 0) (tC (.int 0))) (tC (.int 0))) [some (.ref p), some (.int (n : Nat)), o2] H' (.int z) := fun e => v_ixL (p0 e) (SqL.of (e _ _ hl)) (i := 0) vc rfl
      refine ⟨true && decide (V.int z = V.int 0), ae_and (b := true) (ae_test (ne (Ex.refl _))) (fun _ H2 e2 => Ans.e (a_test (v_eq (ix e2) (vc (v := .int 0)) rfl))), fun _ H2 e2 => ?_, fun _ H2 e2 => ?_⟩
      · refine s_pop0 (p0 e2) (e2 _ _ hl) ⟨zs.length, by rw [← hj]; simp, zs, _, rfl, by rw [upd_ne npl]; exact e2 _ _ hp, upd_same, rfl, by simp at hj; omega, (hk.trans (KeepF.ex e2)).upd (.inr rfl)⟩
      · refine q_whenE (b := true) (ae_test (ne e2)) (fun _ H3 e3 => ?_) (fun q => by cases q)
        have e13 := e2.trans e3
        have hb := emod_b z (j := (n : Int)) (by omega)
        refine q_set (v := .int (z % (n : Int))) (v_I (g := fun i j => V.int (i % j)) (ix e13) (vv rfl) (by show (0 : Int) < (n : Int); omega)) ?_
        have p0' : Val (tOp (rIxL K) (tVar 0) (tC (.int 0))) [some (.ref p), some (.int (n : Nat)), some (.int (z % (n : Int)))] H3 (.ref l) := v_ixL (vv rfl) (SqL.of (e13 _ _ hp)) (i := 0) vc rfl
        refine q_lset (i := 0) (v := .int (z / (n : Int))) (v_I (g := fun i j => V.int (i / j)) (v_ixL p0' (SqL.of (e13 _ _ hl)) (i := 0) vc rfl) (vv rfl) (wide_div (b := 64) (by omega) (by rw [Int.natAbs_natCast]; exact Nat.lt_of_le_of_lt hn2 (by decide)) (by decide) (by decide))) p0' (vc (v := .int 0)) (e13 _ _ hl) (by simp) ?_
        refine s_ret (v := .int (z % (n : Int))) (vv rfl) ?_
        have e : z % (n : Int) = (((z % (n : Int)).toNat : Nat) : Int) := by omega
        show Q (.int (z % (n : Int))) _
        rw [e]
        exact k _ _ (by omega) ⟨z / (n : Int) :: zs, tot, c, by rw [upd_ne npl]; exact e13 _ _ hp, upd_same, by simp at hj ⊢; omega, by omega⟩ ((hk.trans (KeepF.ex e13)).upd (.inr rfl))
end
end TC
namespace TC
open PySem PySem.Spec PyProof.Rows L2
def OffOk (m : Nat) (offs : List Off) : Prop := ∀ x ∈ offs, x.1 < m ∧ x.2.1 < m ∧ 0 ≤ x.2.2
section
variable {P : Program} {w : World} {K : PySem.W.Frag} {mg : Str → Option Value} {base : Heap} {H H' H0 : Hp} {q nq : Addr} {σ : L2.St} {tb tx te tl tc tv : TE} {ta : TA} {D : Ends} {v x : V} {t1 t2 tz tu : TS} {t tt u : TT} {b : Bool} {p l : Addr} {C : Nat} {Q : VK}
theorem k_op {r : R2} (h : te σ H fun x H1 => tb σ H1 fun y H2 => r x y H2 Q) : tOp r te tb σ H Q := h
theorem k_lst2 (h : te σ H fun v1 H1 => tb σ H1 fun v2 H2 => 2 ≤ sizeLine ∧ ∀ p, H2 p = none → Q (.ref p) (upd H2 p (.lst [v1, v2]))) : tLst (tCons te (tCons tb tNil)) σ H Q := h
theorem q_setK {i : Nat} (h : te σ H fun v H1 => tz D (σ.set i (some v)) H1) : tSeq (tAsg te (gName i)) tz D σ H := h
theorem q_par {i j : Nat} (h : ta σ H fun vs H1 => ∃ v w, vs = [v, w] ∧ tz D ((σ.set i (some v)).set j (some w)) H1) : tSeq (tPar i j ta) tz D σ H := h
theorem k_cons2 {Q : List V → Hp → Prop} (h : te σ H fun v1 H1 => tb σ H1 fun v2 H2 => Q [v1, v2] H2) : tCons te (tCons tb tNil) σ H Q := h
def Draw (te : TE) (σ : L2.St) (p l : Addr) (R : Nat → Prop) : Prop := ∀ (H : Hp) (C : Nat) (Q : VK), PotAt H p l C → C ≤ 1000000 → (∀ H' (d : Nat), R d → PotAt H' p l (C + 1) → KeepF (Pf p l) H H' → Q (.int (d : Nat)) H') → te σ H Q
abbrev tTake (te : TE) : TE := tCall spTake [] E0 (tCons (tVar 0) (tCons te tNil))
theorem draw_v {n : Nat} (h0 : σ[0]? = some (some (.ref p))) (hn : 0 < n) (hn2 : n ≤ 1000000000000000000) (h1 : ∀ H, Val te σ H (.int (n : Nat))) : Draw (tTake te) σ p l (· < n) := fun H C Q hP hC k =>
  c_fn (args1 (vv h0) (args1 (h1 H) args0)) ⟨p, l, C, n, rfl, hP, hn, hn2, hC, k⟩
theorem draw_c {n : Nat} (h0 : σ[0]? = some (some (.ref p))) (hn : 0 < n) (hn2 : n ≤ 1000000000000000000) : Draw (tTake (tC (.int (n : Nat)))) σ p l (· < n) := draw_v h0 hn hn2 fun _ => vc
theorem draw_1 {n : Nat} (h : Draw te σ p l (· < n)) : Draw (tOp (rI0 fun i j => .int (i + j)) (tC (.int 1)) te) σ p l (fun d => 0 < d ∧ d ≤ n) := fun H C Q hP hC k =>
  h H C _ hP hC fun H' d hd hP' hk => ⟨1, d, rfl, rfl, by
    show Q (.int (1 + (d : Int))) H'
    rw [show (1 : Int) + (d : Int) = ((d + 1 : Nat) : Int) by omega]
    exact k H' (d + 1) ⟨by omega, by omega⟩ hP' hk⟩
theorem pick2 {R1 R2 : Nat → Prop} (d1 : Draw te σ p l R1) (d2 : Draw tb σ p l R2) (h0 : σ[0]? = some (some (.ref p))) (hP : PotAt H p l C) (hC : C + 3 ≤ 1000000) (k : ∀ H' (d : Nat), R1 d ∨ R2 d → PotAt H' p l (C + 3) → KeepF (Pf p l) H H' → Q (.int (d : Nat)) H') :
    tOp (rIxL K) (tLst (tCons te (tCons tb tNil))) (tOp (rI CDiv fun i j => .int (i / j)) (tTake (tC (.int 4))) (tC (.int 3))) σ H Q :=
  k_op (k_lst2 (d1 H C _ hP (by omega) fun H1 n1 r1 P1 k1 => d2 H1 (C + 1) _ P1 (by omega) fun H2 n2 r2 P2 k2 => ⟨by show 2 ≤ sizeLine; decide, fun q hq =>
    k_op (draw_c (n := 4) h0 (by decide) (by decide) _ (C + 2) _ (P2.ex (Ex.new hq)) (by omega) fun H3 d hd P3 k3 => by
      have hq3 := k3 q _ upd_same (Pf.new P2 hq)
      refine ⟨(d : Int), 3, rfl, rfl, ⟨by decide, by decide⟩, ?_⟩
      have kk : KeepF (Pf p l) H H3 := (k1.trans k2).trans ((KeepF.ex (Ex.new hq)).trans k3)
      by_cases z : d < 3
      · exact ⟨q, _, ((0 : Nat) : Int), _, rfl, by show V.int ((d : Int) / 3) = _; congr 1; omega, SqL.of hq3, atI_nat rfl, k H3 n1 (.inl r1) P3 kk⟩
      · exact ⟨q, _, ((1 : Nat) : Int), _, rfl, by show V.int ((d : Int) / 3) = _; congr 1; omega, SqL.of hq3, atI_nat rfl, k H3 n2 (.inr r2) P3 kk⟩)⟩))
theorem q_forR {n : Nat} {g : TG} (hta : Args ta σ H [.int (n : Nat)]) (hn : n ≤ 1000) (Pv : Nat → L2.St → Hp → Prop) (h0 : Pv 0 σ H)
    (hs : ∀ i σ' H', i < n → Pv i σ' H' → g (iV i) σ' H' fun σ2 H2 => t1 { D with nx := Pv (i + 1), ct := Pv (i + 1), bk := tz D } σ2 H2) (hd : ∀ σ' H', Pv n σ' H' → tz D σ' H') : tSeq (tFor (iRng1 ta) g t1) tz D σ H :=
  hta _ ⟨n, rfl, by omega, by omega, for_range (D := { D with nx := tz D }) Pv h0 (fun i σ' H' hi hp => by
    have e : (0 : Int) + (i : Int) = i := by omega
    rw [e]
    exact hs i σ' H' (by omega) hp) (fun σ' H' hp => hd σ' H' (by rw [Int.toNat_natCast] at hp; exact hp))⟩
theorem s_ifand {c : Bool} (h : ValE te σ H (.bl c)) (h0 : c = false → ∀ H', Ex H H' → D.nx σ H') (h1 : c = true → ∀ H', Ex H H' → u σ H' fun b H2 => if b = true then t1 D σ H2 else D.nx σ H2) : tIfS (tAnd (tTest te) u) t1 tNext D σ H := h _ fun H' e => ⟨c, rfl, by
  cases c with
  | true => exact iteT (h1 rfl H' e)
  | false => exact iteF (iteF (h0 rfl H' e))⟩
theorem s_appT3 {o : Addr} {refs : List V} {v1 v2 : V} (hb : Val tb σ H (.ref o)) (ho : H o = some (.lst refs)) (h1 : Val tx σ H v1) (h2 : Val tl σ H v2) (h : te σ H fun v3 H1 => 3 ≤ sizeLine ∧ ∀ q, H1 q = none → rAppend (.ref o) [.ref q] (upd H1 q (.tup [v1, v2, v3])) fun _ H2 => D.nx σ H2) :
    tDrop (tBM K "list" rAppend tb (tCons (tTup (tCons tx (tCons tl (tCons te tNil)))) tNil)) D σ H :=
  hb _ ⟨.inl ⟨rfl, _, SqL.of ho⟩, h1 _ (h2 _ h)⟩
theorem k_two {po : Addr} {v1 v2 : V} {r : List V} (hp : H po = some (.tup (v1 :: v2 :: r))) (k : ∀ l H', Ex H H' → H' l = some (.tup [v1, v2]) → Q (.ref l) H') : tNoPart σ H fun l H2 => tPart (tC (.int 2)) σ H2 fun u H3 => rSlA K (.ref po) l u H3 Q := v_two (K := K) (tb := tC (.ref po)) (σ := σ) vc hp k
theorem s_rev4 {o : Addr} {th : TO} {g : TG} (h0 : Val te σ H (.ref o)) (h : tb σ H fun y H2 => rIxL K (.ref o) y H2 fun z H3 => tNoPart σ H3 fun l H4 => tPart (tC (.int 2)) σ H4 fun u H5 => rSlA K z l u H5 fun x H6 => th σ H6 fun o H7 => ∃ a y z, x = .ref a ∧ o = some (-1) ∧ SqT K H7 a [y, z] ∧ ∀ p, H7 p = none → g (.ref p) σ (upd H7 p (.tup [z, y])) D.nx) :
    tAsg (TV.tRev2 K (tSl (rSlA K) (tOp (rIxL K) te tb) tNoPart (tPart (tC (.int 2)))) th) g D σ H := h0 _ h
theorem dp_offs : ∀ {refs : List V} {offs : List Off}, TupsAt H refs (offs.map offV) → DpAll K H refs (offs.map fun o => PyData.tuple [.int (o.1 : Nat), .int (o.2.1 : Nat), .int o.2.2])
  | [], [], _ => .nil
  | v :: vs, o :: os, ⟨⟨p, e, h⟩, c⟩ => by rw [e]; exact .cons (.tup (SqT.of h) (.cons (.int _) (.cons (.int _) (.cons (.int _) .nil)))) (dp_offs c)
theorem lay_offs : ∀ (offs : List Off), PyData.canLayAll0 (offs.map fun o => PyData.tuple [.int (o.1 : Nat), .int (o.2.1 : Nat), .int o.2.2]) = true ∧ PyData.depthAll (offs.map fun o => PyData.tuple [.int (o.1 : Nat), .int (o.2.1 : Nat), .int o.2.2]) ≤ 1
  | [] => ⟨rfl, by show 0 ≤ 1; decide⟩
  | o :: offs => by
    obtain ⟨h1, h2⟩ := lay_offs offs
    refine ⟨?_, ?_⟩
    · show (PyData.canLay0 (.tuple [.int (o.1 : Nat), .int (o.2.1 : Nat), .int o.2.2]) && PyData.canLayAll0 _) = true
      rw [h1]; simp [PyData.canLay0, PyData.canLayAll0]
    · show max (PyData.depth (.tuple [.int (o.1 : Nat), .int (o.2.1 : Nat), .int o.2.2])) (PyData.depthAll _) ≤ 1
      have : PyData.depth (.tuple [.int (o.1 : Nat), .int (o.2.1 : Nat), .int o.2.2]) = 1 := by simp [PyData.depth, PyData.depthAll]
      rw [this]; omega
def spOffers : Sp := fun vs H Q _ => ∃ (p l : Addr) (C : Nat), vs = [.ref p] ∧ PotAt H p l C ∧ C ≤ 500000 ∧ ∀ H' t (m : Nat) o refs offs, H' t = some (.tup [.int (m : Nat), .ref o]) → H o = none → H' o = some (.lst refs) → TupsAt H' refs (offs.map offV) → OffOk m offs → m ≤ 40 → offs.length ≤ 63 → PotAt H' p l (C + 400) → KeepF (Pf p l) H H' → Q (.ref t) H'
theorem ok_law_offers (T : Tx w K mg) : Ok P w K mg base 3 .law_offers spOffers := by
  refine T.okd .law_offers sc_law_offers (fun vs H Q E h => ?_) (fun cdv A0 outer s0 H vs Q E hr h => ⟨_, (pss_cons (ps_set (i := 1) sc_law_offers.nd rfl (Or.inl rfl) (pe_ix ix_list (pe_lst (pa_cons (pe_op op_add pe_int (pe_call (ok_law_take T) (hr.mono (by decide)) rfl (T.glF _ (by decide +kernel)) (T.fn .law_take).kp (b_law_take T) .nil pass0 (pa_cons (pv 0) (pa_cons pe_int pa_nil)))) (pa_cons (pe_op op_add pe_int (pe_call (ok_law_take T) (hr.mono (by decide)) rfl (T.glF _ (by decide +kernel)) (T.fn .law_take).kp (b_law_take T) .nil pass0 (pa_cons (pv 0) (pa_cons pe_int pa_nil)))) pa_nil))) (pe_op op_fdiv (pe_call (ok_law_take T) (hr.mono (by decide)) rfl (T.glF _ (by decide +kernel)) (T.fn .law_take).kp (b_law_take T) .nil pass0 (pa_cons (pv 0) (pa_cons pe_int pa_nil))) pe_int) (fun _ _ => rfl)))
    (pss_cons (ps_set (i := 2) sc_law_offers.nd rfl (Or.inl rfl) (pe_ix ix_list (pe_lst (pa_cons (pe_call (ok_law_take T) (hr.mono (by decide)) rfl (T.glF _ (by decide +kernel)) (T.fn .law_take).kp (b_law_take T) .nil pass0 (pa_cons (pv 0) (pa_cons pe_int pa_nil))) (pa_cons (pe_call (ok_law_take T) (hr.mono (by decide)) rfl (T.glF _ (by decide +kernel)) (T.fn .law_take).kp (b_law_take T) .nil pass0 (pa_cons (pv 0) (pa_cons pe_int pa_nil))) pa_nil))) (pe_op op_fdiv (pe_call (ok_law_take T) (hr.mono (by decide)) rfl (T.glF _ (by decide +kernel)) (T.fn .law_take).kp (b_law_take T) .nil pass0 (pa_cons (pv 0) (pa_cons pe_int pa_nil))) pe_int) (fun _ _ => rfl)))
    (pss_cons (ps_set (i := 3) sc_law_offers.nd rfl (Or.inl rfl) (pe_ix ix_list (pe_lst (pa_cons pe_int (pa_cons pe_int (pa_cons pe_int (pa_cons (pe_op op_pow pe_int pe_int) pa_nil))))) (pe_call (ok_law_take T) (hr.mono (by decide)) rfl (T.glF _ (by decide +kernel)) (T.fn .law_take).kp (b_law_take T) .nil pass0 (pa_cons (pv 0) (pa_cons pe_int pa_nil))) (fun _ _ => rfl)))
    (pss_cons (ps_set (i := 4) sc_law_offers.nd rfl (Or.inl rfl) (pe_lst pa_nil))
    (pss_cons (ps_for PassesOwn.never rfl (pi_range1 (by rfl) (T.free _ (by decide +kernel)) (pa_cons (pv 2) pa_nil)) (pg_name (i := 5) sc_law_offers.nd rfl (Or.inl rfl)) (pss_cons (ps_par rfl sc_law_offers.nd (i := 6) (j := 7) rfl rfl (by decide) rfl rfl (pa_cons (pe_call (ok_law_take T) (hr.mono (by decide)) rfl (T.glF _ (by decide +kernel)) (T.fn .law_take).kp (b_law_take T) .nil pass0 (pa_cons (pv 0) (pa_cons (pv 1) pa_nil))) (pa_cons (pe_call (ok_law_take T) (hr.mono (by decide)) rfl (T.glF _ (by decide +kernel)) (T.fn .law_take).kp (b_law_take T) .nil pass0 (pa_cons (pv 0) (pa_cons (pv 1) pa_nil))) pa_nil)) rfl)
    (Evl.pss_cut (ps_if (PW.pt (pw_and (pt_cmpR (op_neD hr.units) (pv 4) (pe_lst pa_nil) (nomark _)) (pw_and1 (pt_cmpR op_eq (pe_call (ok_law_take T) (hr.mono (by decide)) rfl (T.glF _ (by decide +kernel)) (T.fn .law_take).kp (b_law_take T) .nil pass0 (pa_cons (pv 0) (pa_cons pe_int pa_nil))) pe_int (nomark _))))) (pss_one (ps_asg (TV.pe_rev2 (pe_slice sl_tupA (pe_ix ix_list (pv 4) (pe_call (ok_law_take T) (hr.mono (by decide)) rfl (T.glF _ (by decide +kernel)) (T.fn .law_take).kp (b_law_take T) .nil pass0 (pa_cons (pv 0) (pa_cons (pe_callB call_len_seq (by rfl) (T.free _ (by decide +kernel)) (by decide +kernel) (by exact (pa_cons (pv 4) pa_nil))) pa_nil))) (fun _ _ => rfl)) po_none (po_some pe_int)) (po_some (pe_un un_neg pe_int))) (pg_tup rfl (pgs_cons (pg_name (i := 6) sc_law_offers.nd rfl (Or.inl rfl)) (pgs_cons (pg_name (i := 7) sc_law_offers.nd rfl (Or.inl rfl)) pgs_nil))))) pss_nil)
    (pss_one (ps_expr (pe_bm PySem.F.plainAttrs_list PySem.F.slot_list_append PySem.F.type_list_append mt_append (pv 4) (pa_cons (pe_tup (pa_cons (pv 6) (pa_cons (pv 7) (pa_cons (pe_call (ok_law_take T) (hr.mono (by decide)) rfl (T.glF _ (by decide +kernel)) (T.fn .law_take).kp (b_law_take T) .nil pass0 (pa_cons (pv 0) (pa_cons (pv 3) pa_nil))) pa_nil)))) pa_nil)))))))
    (pss_one (ps_ret (pe_tup (pa_cons (pv 1) (pa_cons (pv 4) pa_nil)))))))))), ?_⟩)
  · obtain ⟨p, l, C, rfl, _⟩ := h; rfl
  · obtain ⟨p, l, C, rfl, hP, hC, k⟩ := h
    refine q_setK (pick2 (draw_1 (draw_c (n := 9) rfl (by decide) (by decide))) (draw_1 (draw_c (n := 40) rfl (by decide) (by decide))) rfl hP (by omega) fun H1 m hm P1 k1 => ?_)
    have hm1 : 0 < m ∧ m ≤ 40 := by omega
    refine q_setK (pick2 (draw_c (n := 16) rfl (by decide) (by decide)) (draw_c (n := 64) rfl (by decide) (by decide)) rfl P1 (by omega) fun H2 sz hsz P2 k2 => ?_)
    have hsz1 : sz ≤ 63 := by omega
    refine q_setK (k_op (nl_lst (args1 (v := .int 3) vc (args1 (v := .int 7) vc (args1 (v := .int 100) vc (args1 (v := .int ((10 : Int) ^ (18 : Int).toNat)) (v_I (g := fun i j => V.int (i ^ j.toNat)) (vc (v := .int 10)) (vc (v := .int 18)) ⟨by decide, by decide, by decide⟩) args0)))) (by show 4 ≤ 100000; decide) _ fun q H3 hq e3 h3 => draw_c (n := 4) rfl (by decide) (by decide) _ _ _ (P2.ex e3) (by omega) fun H4 d hd P4 k4 => ?_))
    have hq4 := k4 q _ h3 (Pf.new P2 hq)
    obtain ⟨far, hf1, hf2, hf3⟩ : ∃ far : Nat, ([V.int 3, .int 7, .int 100, .int ((10 : Int) ^ (18 : Int).toNat)] : List V)[d]? = some (.int (far : Nat)) ∧ 0 < far ∧ far ≤ 1000000000000000000 := by
      match d, hd with
      | 0, _ => exact ⟨3, rfl, by decide, by decide⟩
      | 1, _ => exact ⟨7, rfl, by decide, by decide⟩
      | 2, _ => exact ⟨100, rfl, by decide, by decide⟩
      | 3, _ => exact ⟨1000000000000000000, by decide +kernel, by decide, by decide⟩
    refine ⟨q, _, (d : Int), _, rfl, rfl, SqL.of hq4, atI_nat hf1, ?_⟩
    have k04 : KeepF (Pf p l) H H4 := (k1.trans k2).trans ((KeepF.ex e3).trans k4)
    refine q_setL (ys := []) (nl_lst args0 (by show 0 ≤ 100000; decide)) fun o H5 ho4 e5 h5 => ?_
    have P5 : PotAt H5 p l (C + 3 + 3 + 1) := P4.ex e5
    have k05 : KeepF (Pf p l) H H5 := k04.trans (KeepF.ex e5)
    have noP : ¬ Pf p l o := Pf.new P4 ho4
    have ho0 : H o = none := by
      cases z : H o with
      | none => rfl
      | some x => have := k04 o x z noP; rw [ho4] at this; cases this
    refine q_forR (n := sz) (args1 (vv rfl) args0) (by omega) (fun i σ' H' => ∃ (o5 o6 o7 : Option V) (refs : List V) (offs : List Off), σ' = [some (.ref p), some (.int (m : Nat)), some (.int (sz : Nat)), some (.int (far : Nat)), some (.ref o), o5, o6, o7] ∧ H' o = some (.lst refs) ∧ TupsAt H' refs (offs.map offV) ∧ offs.length = i ∧ OffOk m offs ∧ PotAt H' p l (C + 7 + 5 * i) ∧ KeepF (Pf p l) H H') ⟨_, _, _, [], [], rfl, h5, trivial, rfl, fun x hx => by simp at hx, P5, k05⟩ ?_ ?_
    · rintro i _ H6 hi ⟨o5, o6, o7, refs, offs, rfl, ho, ht, hol, hok, P6, k6⟩
      refine q_par (k_cons2 (draw_v (n := m) rfl hm1.1 (by omega) (fun _ => vv rfl) _ _ _ P6 (by omega) fun H7 a ha P7 k7 => draw_v (n := m) rfl hm1.1 (by omega) (fun _ => vv rfl) _ _ _ P7 (by omega) fun H8 b hb P8 k8 => ⟨_, _, rfl, ?_⟩))
      have k68 := k7.trans k8
      have ho8 := k68 _ _ ho noP
      have ht8 := ht.keep (Pf.tk P6 k68)
      have k08 := k6.trans k68
      clear k7 k8 k68 ho ht
      refine q_cut (M := fun σ' H' => ∃ (a b : Nat), a < m ∧ b < m ∧ σ' = [some (.ref p), some (.int (m : Nat)), some (.int (sz : Nat)), some (.int (far : Nat)), some (.ref o), some (iV i), some (.int (a : Nat)), some (.int (b : Nat))] ∧ H' o = some (.lst refs) ∧ TupsAt H' refs (offs.map offV) ∧ PotAt H' p l (C + 7 + 5 * i + 4) ∧ KeepF (Pf p l) H H') ?_ ?_
      · refine s_ifand (ve_neE (vv rfl) ho8 (fun H' e => dp_offs (ht8.keep (TK.ex e))) (lay_offs offs).1 (Nat.le_trans (lay_offs offs).2 (by decide))) (fun _ H9 e9 => ⟨a, b, ha, hb, rfl, e9 _ _ ho8, ht8.keep (TK.ex e9), (P8.ex e9).mono (by omega), k08.trans (KeepF.ex e9)⟩) (fun hne H9 e9 => ?_)
        have hlen : 0 < offs.length := by
          cases offs with
          | nil => simp at hne
          | cons _ _ => simp
        refine draw_c (n := 6) rfl (by decide) (by decide) _ _ _ (P8.ex e9) (by omega) fun H10 d6 hd6 P10 k10 => ⟨rfl, decide (V.int (d6 : Nat) = V.int 0), rfl, ?_⟩
        have k8a := (KeepF.ex e9).trans k10
        have hoA := k8a _ _ ho8 noP
        have htA := ht8.keep (Pf.tk P8 k8a)
        have k0A := k08.trans k8a
        generalize decide (V.int (d6 : Nat) = V.int 0) = bb
        cases bb with
        | true =>
          refine iteT ?_
          have rN : refs.length = offs.length := by rw [htA.len, List.length_map]
          have lenV : ∀ {H'}, H' o = some (.lst refs) → Val (tCB (fun xs H Q => ∃ p ys, xs = [V.ref p] ∧ (SqL K H p ys ∨ SqT K H p ys) ∧ Q (.int ys.length) H) (tCons (tVar 4) tNil)) [some (.ref p), some (.int (m : Nat)), some (.int (sz : Nat)), some (.int (far : Nat)), some (.ref o), some (iV i), some (.int (a : Nat)), some (.int (b : Nat))] H' (.int (offs.length : Nat)) := fun h => rN ▸ v_lenL (vv rfl) (.inl (SqL.of h))
          refine s_rev4 (vv rfl) (c_fn (args1 (vv rfl) (args1 (lenV hoA) args0)) ⟨p, l, _, offs.length, rfl, P10, hlen, by omega, by omega, fun H11 dd hdd P11 k11 => ?_⟩)
          obtain ⟨⟨xa, xb, xc⟩, hx⟩ : ∃ e, offs[dd]? = some e := ⟨_, List.getElem?_eq_getElem hdd⟩
          have hoB := k11 _ _ hoA noP
          have htB := htA.keep (Pf.tk P10 k11)
          obtain ⟨po, po1, po2⟩ := htB.get (i := dd) (x := offV (xa, xb, xc)) (by rw [List.getElem?_map, hx]; rfl)
          have hxo := hok _ (List.mem_of_getElem? hx)
          refine ⟨o, refs, (dd : Int), .ref po, rfl, rfl, SqL.of hoB, atI_nat po1, ?_⟩
          refine k_two po2 fun l2 H12 e12 h12 => ?_
          refine ⟨1, rfl, ⟨-1, rfl, l2, _, _, rfl, rfl, SqT.of h12, fun l3 hl3 => ?_⟩⟩
          have e123 := e12.trans (Ex.new (o := .tup [.int (xb : Nat), .int (xa : Nat)]) hl3)
          refine ⟨l3, _, rfl, SqT.of upd_same, rfl, _, _, rfl, _, _, rfl, rfl, ?_⟩
          exact ⟨xb, xa, hxo.2.1, hxo.1, rfl, e123 _ _ hoB, htB.keep (TK.ex e123), (P11.ex e123).mono (by omega), (k0A.trans k11).trans (KeepF.ex e123)⟩
        | false =>
          refine iteF ?_
          exact ⟨a, b, ha, hb, rfl, hoA, htA, P10.mono (by omega), k0A⟩
      · rintro _ H9 ⟨a, b, ha, hb, rfl, ho9, ht9, P9, k9⟩
        refine s_appT3 (vv rfl) ho9 (vv rfl) (vv rfl) (draw_v (n := far) rfl hf2 hf3 (fun _ => vv rfl) _ _ _ P9 (by omega) fun H10 c hc P10 k10 => ⟨by show 3 ≤ sizeLine; decide, fun q hq => ?_⟩)
        have hoA := Ex.new (o := .tup [.int (a : Nat), .int (b : Nat), .int (c : Nat)]) hq _ _ (k10 _ _ ho9 noP)
        have rN : refs.length = offs.length := by rw [ht9.len, List.length_map]
        have tk1 : TK H9 (upd H10 q (.tup [.int (a : Nat), .int (b : Nat), .int (c : Nat)])) := (Pf.tk P9 k10).trans (TK.ex (Ex.new hq))
        have tk2 : TK (upd H10 q (.tup [.int (a : Nat), .int (b : Nat), .int (c : Nat)])) (upd (upd H10 q (.tup [.int (a : Nat), .int (b : Nat), .int (c : Nat)])) o (.lst (refs ++ [.ref q]))) := TK.upd hoA (fun _ => by intro z; cases z)
        refine ⟨o, refs, .ref q, rfl, rfl, hoA, sz_lt (by omega), _, _, _, refs ++ [.ref q], offs ++ [(a, b, (c : Int))], rfl, upd_same, ?_, by rw [List.length_append, hol]; rfl, fun x hx => ?_, ?_, ?_⟩
        · rw [List.map_append]
          exact ((ht9.keep tk1).keep tk2).add (x := offV (a, b, (c : Int))) (tk2 _ _ upd_same)
        · rcases List.mem_append.mp hx with z | z
          · exact hok x z
          · rw [List.mem_singleton.mp z]; exact ⟨ha, hb, by show (0 : Int) ≤ (c : Int); omega⟩
        · exact ((P10.ex (Ex.new hq)).keep (F := (· = o)) ((KeepF.refl _ _).upd rfl) (fun e => noP (.inl e.symm)) (fun e => noP (.inr e.symm))).mono (by omega)
        · exact fun z' o' h1 h2 => by
            have := Ex.new (o := .tup [.int (a : Nat), .int (b : Nat), .int (c : Nat)]) hq _ _ (k10 _ _ (k9 z' o' h1 h2) h2)
            rw [upd_ne (fun e => by rw [e, ho0] at h1; cases h1)]; exact this
    · rintro σ' H6 ⟨o5, o6, o7, refs, offs, rfl, ho, ht, hol, hok, P6, k6⟩
      refine nu_tup (args1 (v := .int (m : Nat)) (vv rfl) (args1 (v := .ref o) (vv rfl) args0)) (by show 2 ≤ 100000; decide) _ fun t H7 ht7 e7 h7 => k H7 t m o refs offs h7 ho0 (e7 _ _ ho) (ht.keep (TK.ex e7)) hok hm1.2 (by omega) ((P6.ex e7).mono (by omega)) (k6.trans (KeepF.ex e7))
end
end TC
namespace TC
open PySem PySem.Spec PyProof.Rows L2
theorem Ex.keepF {F : Addr → Prop} {H H1 H2 : Hp} (e : Ex H H1) (k : KeepF F H1 H2) (h : ∀ q, F q → H q = none) : Ex H H2 := fun q o z => k q o (e q o z) fun f => by rw [h q f] at z; cases z
section
variable {P : Program} {w : World} {K : PySem.W.Frag} {mg : Str → Option Value} {base : Heap} {H H' H0 : Hp} {q nq : Addr} {σ : L2.St} {tb tx te tl tc tv : TE} {ta : TA} {D : Ends} {v x : V} {t1 t2 tz tu : TS} {t tt u : TT} {b : Bool} {m : Nat} {Q : VK}
theorem q_forLG {a : Addr} {xs : List V} {g : TG} (h : Val tl σ H (.ref a)) (hx : SqL K H a xs) (Pv : Nat → L2.St → Hp → Prop) (h0 : Pv 0 σ H) (hl : ∀ i σ' H', i ≤ xs.length → Pv i σ' H' → SqL K H' a xs)
    (hs : ∀ i x σ' H', xs[i]? = some x → Pv i σ' H' → g x σ' H' fun σ2 H2 => t1 { D with nx := Pv (i + 1), ct := Pv (i + 1), bk := tz D } σ2 H2) (hd : ∀ σ' H', Pv xs.length σ' H' → tz D σ' H') : tSeq (tFor (iList K tl) g t1) tz D σ H :=
  h _ ⟨a, rfl, ⟨xs, hx⟩, for_list (D := { D with nx := tz D }) Pv h0 hl (fun i x σ' H' hi hp => hs i x σ' H' hi hp) hd⟩
theorem c_li (hx : Val tx σ H (.int m)) (hm : m ≤ 1000) (k : ∀ (a : LiA) H1, Ex H H1 → LiI K H1 a m m [] [] (bareS m) 0 → (∀ q, Lf a q → H q = none) → Q (.ref a.l) H1) : tMake (Cad K .li) (spLiInit K) [] E0 (tCons tx tNil) σ H Q :=
  hx _ fun y dy hy hdy hne => by
    have ny : ∀ q o, H q = some o → q ≠ y := fun q o h e => by rw [e, hy] at h; cases h
    have nd : ∀ q o, H q = some o → q ≠ dy := fun q o h e => by rw [e, hdy] at h; cases h
    have up2 : ∀ q o, H q = some o → upd (upd H dy (.own y)) y (.ins (Cad K .li) dy []) q = some o := fun q o h => by rw [upd_ne (ny q o h), upd_ne (nd q o h)]; exact h
    refine ⟨y, dy, m, rfl, upd_same, hm, fun a H2 hal hL hk hf => ⟨rfl, ?_⟩⟩
    subst hal
    refine k a H2 (fun q o h => hk q o (up2 q o h) (ny q o h)) hL fun q hq => ?_
    have := hf q hq
    cases z : H q with
    | none => rfl
    | some o => rw [up2 _ _ z] at this; cases this
theorem c_ho (hx : Val tx σ H (.int m)) (hm : m ≤ 1000) (k : ∀ (a : HoA) H1, Ex H H1 → HoI K H1 a m m [] [] (bareS m) 0 → (∀ q, Hf a q → H q = none) → Q (.ref a.l) H1) : tMake (Cad K .ho) (spHoInit K) [] E0 (tCons tx tNil) σ H Q :=
  hx _ fun y dy hy hdy hne => by
    have ny : ∀ q o, H q = some o → q ≠ y := fun q o h e => by rw [e, hy] at h; cases h
    have nd : ∀ q o, H q = some o → q ≠ dy := fun q o h e => by rw [e, hdy] at h; cases h
    have up2 : ∀ q o, H q = some o → upd (upd H dy (.own y)) y (.ins (Cad K .ho) dy []) q = some o := fun q o h => by rw [upd_ne (ny q o h), upd_ne (nd q o h)]; exact h
    refine ⟨y, dy, m, rfl, upd_same, hm, fun a H2 hal hL hk hf => ⟨rfl, ?_⟩⟩
    subst hal
    refine k a H2 (fun q o h => hk q o (up2 q o h) (ny q o h)) hL fun q hq => ?_
    have := hf q hq
    cases z : H q with
    | none => rfl
    | some o => rw [up2 _ _ z] at this; cases this
def spLight (K : PySem.W.Frag) : Sp := fun vs H Q _ => ∃ (m : Nat) (o : Addr) (refs : List V) (offs : List Off), vs = [.int (m : Nat), .ref o] ∧ H o = some (.lst refs) ∧ TupsAt H refs (offs.map offV) ∧ OffOk m offs ∧ m ≤ 40 ∧ offs.length ≤ 63 ∧
  ∀ H' (a : LiA) sp S, LiI K H' a m (m + offs.length) offs sp S (20 * offs.length) → Ex H H' → (∀ q, Lf a q → H q = none) → Q (.ref a.l) H'
theorem ok_law_light (T : Tx w K mg) : Ok P w K mg base 13 .law_light (spLight K) := by
  refine T.okd .law_light sc_law_light (fun vs H Q E h => ?_) (fun cdv A0 outer s0 H vs Q E hr h => ⟨_, (pss_cons (ps_set (i := 2) sc_law_light.nd rfl (Or.inl rfl) (pe_make (T.mkr .li) (ok_li_init T) (hr.mono (by decide)) rfl (T.glC .li) (b_li_init T) .nil pass0 (pa_cons (pv 0) pa_nil)))
    (pss_cons (ps_for PassesOwn.never rfl (pi_list (pv 1)) (pg_tup rfl (pgs_cons (pg_name (i := 3) sc_law_light.nd rfl (Or.inl rfl)) (pgs_cons (pg_name (i := 4) sc_law_light.nd rfl (Or.inl rfl)) (pgs_cons (pg_name (i := 5) sc_law_light.nd rfl (Or.inl rfl)) pgs_nil)))) (pss_one (ps_expr (pe_meth (pv 2) (T.cls .li) (T.meth .li _ (by decide +kernel)) (ok_li_offer T) (hr.mono (by decide)) (b_li_offer T) .nil pass0 (pa_cons (pv 3) (pa_cons (pv 4) (pa_cons (pv 5) pa_nil)))))))
    (pss_one (ps_ret (pv 2))))), ?_⟩)
  · obtain ⟨m, o, refs, offs, rfl, _⟩ := h; rfl
  · obtain ⟨m, o, refs, offs, rfl, ho, ht, hok, hm, hol, k⟩ := h
    refine q_setK (c_li (vv rfl) (by omega) fun a H1 e1 hL1 hf => ?_)
    have rN : refs.length = offs.length := by rw [ht.len, List.length_map]
    refine q_forLG (xs := refs) (vv rfl) (SqL.of (e1 _ _ ho)) (fun i σ' H' => ∃ (sp : List (Nat × Nat)) (S : LC.S) (o3 o4 o5 : Option V), σ' = [some (.int (m : Nat)), some (.ref o), some (.ref a.l), o3, o4, o5] ∧ LiI K H' a m (m + i) (offs.take i) sp S (20 * i) ∧ Ex H H') ⟨_, _, _, _, _, rfl, hL1, e1⟩ (fun i σ' H' _ ⟨_, _, _, _, _, _, _, e⟩ => SqL.of (e _ _ ho)) ?_ ?_
    · rintro i x σ' H2 hx ⟨sp, S, o3, o4, o5, rfl, hL, e2⟩
      have hi : i < offs.length := by rw [← rN]; exact LC.at_lt hx
      obtain ⟨⟨xa, xb, xc⟩, hxi⟩ : ∃ e, offs[i]? = some e := ⟨_, List.getElem?_eq_getElem hi⟩
      obtain ⟨p, p1, p2⟩ := ht.get (i := i) (x := offV (xa, xb, xc)) (by rw [List.getElem?_map, hxi]; rfl)
      rw [hx] at p1; cases p1
      have hxo := hok _ (List.mem_of_getElem? hxi)
      refine ⟨p, _, rfl, SqT.of (e2 _ _ p2), rfl, _, _, rfl, _, _, rfl, _, _, rfl, rfl, ?_⟩
      refine s_callL hL.at_ (by decide +kernel) (vv rfl) (args1 (v := .int (xa : Nat)) (vv rfl) (args1 (v := .int (xb : Nat)) (vv rfl) (args1 (v := .int xc) (vv rfl) args0))) ⟨a, m, m + i, offs.take i, sp, S, 20 * i, xa, xb, xc, rfl, hL, by omega, by omega, hxo.1, hxo.2.1, hxo.2.2, by rw [List.length_take]; omega, fun H3 v sp' S' hL3 k3 => ⟨sp', S', _, _, _, rfl, ?_, e2.keepF k3 hf⟩⟩
      rw [List.take_add_one, hxi]
      exact hL3
    · rintro σ' H2 ⟨sp, S, o3, o4, o5, rfl, hL, e2⟩
      rw [rN, List.take_length] at hL
      exact s_ret (v := .ref a.l) (vv rfl) (k H2 a sp S hL e2 hf)
theorem es_take (offs : List Off) (i : Nat) : esOf (offs.take i) = (esOf offs).take i := by unfold esOf; rw [List.map_take]
theorem s_callH {a : HoA} {es sp : Prs} {S : LC.S} (h : HoAt K H a m es sp S) {f : Str} {sp' : Sp} {E : XK} {t : TA} {vs : List V} (hm : f ∉ Cn.fields .ho) (hb : Val tb σ H (.ref a.l)) (ht : Args t σ H vs) (k : sp' (.ref a.l :: (vs ++ [])) H (fun _ H1 => D.nx σ H1) E) : tDrop (tMeth (Cad K .ho) f sp' [] E tb t) D σ H := c_hoV h hm hb ht k
def spHeld (K : PySem.W.Frag) : Sp := fun vs H Q _ => ∃ (m : Nat) (o : Addr) (refs : List V) (offs : List Off), vs = [.int (m : Nat), .ref o] ∧ H o = some (.lst refs) ∧ TupsAt H refs (offs.map offV) ∧ OffOk m offs ∧ m ≤ 40 ∧ offs.length ≤ 63 ∧
  ∀ H' (a : HoA) sp S, HoI K H' a m (m + offs.length) (esOf offs) sp S (20 * offs.length) → Ex H H' → (∀ q, Hf a q → H q = none) → Q (.ref a.l) H'
theorem ok_law_held (T : Tx w K mg) : Ok P w K mg base 13 .law_held (spHeld K) := by
  refine T.okd .law_held sc_law_held (fun vs H Q E h => ?_) (fun cdv A0 outer s0 H vs Q E hr h => ⟨_, (pss_cons (ps_set (i := 2) sc_law_held.nd rfl (Or.inl rfl) (pe_make (T.mkr .ho) (ok_ho_init T) (hr.mono (by decide)) rfl (T.glC .ho) (b_ho_init T) .nil pass0 (pa_cons (pv 0) pa_nil)))
    (pss_cons (ps_for PassesOwn.never rfl (pi_list (pv 1)) (pg_tup rfl (pgs_cons (pg_name (i := 3) sc_law_held.nd rfl (Or.inl rfl)) (pgs_cons (pg_name (i := 4) sc_law_held.nd rfl (Or.inl rfl)) (pgs_cons (pg_name (i := 5) sc_law_held.nd rfl (Or.inl rfl)) pgs_nil)))) (pss_one (ps_expr (pe_meth (pv 2) (T.cls .ho) (T.meth .ho _ (by decide +kernel)) (ok_ho_offer T) (hr.mono (by decide)) (b_ho_offer T) .nil pass0 (pa_cons (pv 3) (pa_cons (pv 4) pa_nil))))))
    (pss_one (ps_ret (pv 2))))), ?_⟩)
  · obtain ⟨m, o, refs, offs, rfl, _⟩ := h; rfl
  · obtain ⟨m, o, refs, offs, rfl, ho, ht, hok, hm, hol, k⟩ := h
    refine q_setK (c_ho (vv rfl) (by omega) fun a H1 e1 hL1 hf => ?_)
    have rN : refs.length = offs.length := by rw [ht.len, List.length_map]
    refine q_forLG (xs := refs) (vv rfl) (SqL.of (e1 _ _ ho)) (fun i σ' H' => ∃ (sp : List (Nat × Nat)) (S : LC.S) (o3 o4 o5 : Option V), σ' = [some (.int (m : Nat)), some (.ref o), some (.ref a.l), o3, o4, o5] ∧ HoI K H' a m (m + i) (esOf (offs.take i)) sp S (20 * i) ∧ Ex H H') ⟨_, _, _, _, _, rfl, hL1, e1⟩ (fun i σ' H' _ ⟨_, _, _, _, _, _, _, e⟩ => SqL.of (e _ _ ho)) ?_ ?_
    · rintro i x σ' H2 hx ⟨sp, S, o3, o4, o5, rfl, hL, e2⟩
      have hi : i < offs.length := by rw [← rN]; exact LC.at_lt hx
      obtain ⟨⟨xa, xb, xc⟩, hxi⟩ : ∃ e, offs[i]? = some e := ⟨_, List.getElem?_eq_getElem hi⟩
      obtain ⟨p, p1, p2⟩ := ht.get (i := i) (x := offV (xa, xb, xc)) (by rw [List.getElem?_map, hxi]; rfl)
      rw [hx] at p1; cases p1
      have hxo := hok _ (List.mem_of_getElem? hxi)
      refine ⟨p, _, rfl, SqT.of (e2 _ _ p2), rfl, _, _, rfl, _, _, rfl, _, _, rfl, rfl, ?_⟩
      refine s_callH hL.at_ (by decide +kernel) (vv rfl) (args1 (v := .int (xa : Nat)) (vv rfl) (args1 (v := .int (xb : Nat)) (vv rfl) args0)) ⟨a, m, m + i, esOf (offs.take i), sp, S, 20 * i, xa, xb, rfl, hL, by omega, by omega, hxo.1, hxo.2.1, by rw [es_len, List.length_take]; omega, fun H3 v sp' S' hL3 k3 => ⟨sp', S', _, _, _, rfl, ?_, e2.keepF k3 hf⟩⟩
      rw [List.take_add_one, hxi]
      show HoI K H3 a m (m + (i + 1)) (esOf (offs.take i ++ [(xa, xb, xc)])) sp' S' (20 * (i + 1))
      rw [esOf_app]
      exact hL3
    · rintro σ' H2 ⟨sp, S, o3, o4, o5, rfl, hL, e2⟩
      rw [rN, List.take_length] at hL
      exact s_ret (v := .ref a.l) (vv rfl) (k H2 a sp S hL e2 hf)
end
end TC
namespace TC
open PySem PySem.Spec PyProof.Rows L2
section
variable {P : Program} {w : World} {K : PySem.W.Frag} {mg : Str → Option Value} {base : Heap} {H H' H0 : Hp} {q nq : Addr} {σ : L2.St} {tb tx te tl tc tv : TE} {ta : TA} {D : Ends} {v x : V} {t1 t2 tz tu : TS} {t tt u : TT} {b : Bool} {m : Nat} {Q : VK}
theorem TupsAt.ins {p : Addr} {x : List V} (hp : H p = some (.tup x)) : ∀ (i : Nat) {vs : List V} {xs : List (List V)}, TupsAt H vs xs → TupsAt H (vs.take i ++ [.ref p] ++ vs.drop i) (xs.take i ++ [x] ++ xs.drop i)
  | 0, vs, xs, h => ⟨⟨p, rfl, hp⟩, h⟩
  | i + 1, [], [], _ => ⟨⟨p, rfl, hp⟩, trivial⟩
  | i + 1, v :: vs, y :: xs, ⟨a, c⟩ => ⟨a, TupsAt.ins hp i c⟩
theorem TupsAt.at_ {vs : List V} {offs : List Off} (h : TupsAt H vs (offs.map offV)) {i : Nat} {x : V} (hx : vs[i]? = some x) : ∃ o p, offs[i]? = some o ∧ x = .ref p ∧ H p = some (.tup (offV o)) := by
  have hi : i < offs.length := by have := h.len; rw [List.length_map] at this; rw [← this]; exact LC.at_lt hx
  obtain ⟨o, ho⟩ : ∃ o, offs[i]? = some o := ⟨_, List.getElem?_eq_getElem hi⟩
  obtain ⟨p, p1, p2⟩ := h.get (i := i) (x := offV o) (by rw [List.getElem?_map, ho]; rfl)
  rw [hx] at p1
  exact ⟨o, p, ho, Option.some.inj p1, p2⟩
abbrev rIns : V → List V → Hp → VK → Prop := fun x vs H Q => ∃ (l : Addr) (xs : List V) (i : Int) (y : V), x = .ref l ∧ vs = [.int i, y] ∧ H l = some (.lst xs) ∧ xs.length < sizeLine ∧ 0 ≤ i ∧ i < 2 ^ 63 ∧ Q .non (upd H l (.lst (xs.take i.toNat ++ [y] ++ xs.drop i.toNat)))
theorem s_ins {l : Addr} {xs : List V} {y : V} (hb : Val tb σ H (.ref l)) (hl : H l = some (.lst xs)) (h : te σ H fun x H1 => tx σ H1 fun y H2 => rIns (.ref l) [x, y] H2 fun _ H3 => D.nx σ H3) : tDrop (tBM K "list" rIns tb (tCons te (tCons tx tNil))) D σ H :=
  hb _ ⟨.inl ⟨rfl, _, SqL.of hl⟩, h⟩
def spShuf (K : PySem.W.Frag) : Sp := fun vs H Q _ => ∃ (p l : Addr) (C m : Nat) (o : Addr) (refs : List V) (offs : List Off), vs = [.ref p, .ref o] ∧ PotAt H p l C ∧ C ≤ 900000 ∧ H o = some (.lst refs) ∧ ¬ Pf p l o ∧ TupsAt H refs (offs.map offV) ∧ OffOk m offs ∧ offs.length ≤ 63 ∧
  ∀ H' f refs' offs', H f = none → H' f = some (.lst refs') → TupsAt H' refs' (offs'.map offV) → OffOk m offs' → offs'.length = offs.length → PotAt H' p l (C + 63) → KeepF (Pf p l) H H' → Q (.ref f) H'
theorem ok_law_shuffled (T : Tx w K mg) : Ok P w K mg base 3 .law_shuffled (spShuf K) := by
  refine T.okd .law_shuffled sc_law_shuffled (fun vs H Q E h => ?_) (fun cdv A0 outer s0 H vs Q E hr h => ⟨_, (pss_cons (ps_set (i := 2) sc_law_shuffled.nd rfl (Or.inl rfl) (pe_lst pa_nil))
    (pss_cons (ps_for PassesOwn.never rfl (pi_list (pv 1)) (pg_name (i := 3) sc_law_shuffled.nd rfl (Or.inl rfl)) (pss_one (ps_expr (pe_bm PySem.F.plainAttrs_list PySem.F.slot_list_insert PySem.F.type_list_insert mt_insert (pv 2) (pa_cons (pe_call (ok_law_take T) (hr.mono (by decide)) rfl (T.glF _ (by decide +kernel)) (T.fn .law_take).kp (b_law_take T) .nil pass0 (pa_cons (pv 0) (pa_cons (pe_op op_add (pe_callB call_len_seq (by rfl) (T.free _ (by decide +kernel)) (by decide +kernel) (by exact (pa_cons (pv 2) pa_nil))) pe_int) pa_nil))) (pa_cons (pv 3) pa_nil))))))
    (pss_one (ps_ret (pv 2))))), ?_⟩)
  · obtain ⟨p, l, C, m, o, refs, offs, rfl, _⟩ := h; rfl
  · obtain ⟨p, l, C, m, o, refs, offs, rfl, hP, hC, ho, hno, ht, hok, hol, k⟩ := h
    have rN : refs.length = offs.length := by rw [ht.len, List.length_map]
    refine q_setL (ys := []) (nl_lst args0 (by show 0 ≤ 100000; decide)) fun f H1 hf e1 h1 => ?_
    have nfo : o ≠ f := fun e => by rw [← e, ho] at hf; cases hf
    have nfP : ¬ Pf p l f := Pf.new hP hf
    refine q_forL (xs := refs) (vv rfl) (SqL.of (e1 _ _ ho)) (fun i σ' H' => ∃ (refs' : List V) (offs' : List Off) (o3 : Option V), σ' = [some (.ref p), some (.ref o), some (.ref f), o3] ∧ H' f = some (.lst refs') ∧ TupsAt H' refs' (offs'.map offV) ∧ OffOk m offs' ∧ offs'.length = i ∧ PotAt H' p l (C + i) ∧ KeepF (Pf p l) H H') ⟨[], [], _, rfl, h1, trivial, fun x hx => by simp at hx, rfl, hP.ex e1, KeepF.ex e1⟩ (fun i σ' H' _ ⟨_, _, _, _, _, _, _, _, _, kk⟩ => SqL.of (kk _ _ ho hno)) ?_ ?_
    · rintro i x σ' H2 hx ⟨refs', offs', o3, rfl, h2, t2, ok2, l2, P2, k2⟩
      obtain ⟨of, po, hof, rfl, hpo⟩ := ht.at_ hx
      have hi : i < offs.length := LC.at_lt hof
      have rN' : refs'.length = i := by rw [t2.len, List.length_map, l2]
      have lenV : Val (tCB (fun xs H Q => ∃ p ys, xs = [V.ref p] ∧ (SqL K H p ys ∨ SqT K H p ys) ∧ Q (.int ys.length) H) (tCons (tVar 2) tNil)) [some (.ref p), some (.ref o), some (.ref f), some (.ref po)] H2 (.int (i : Nat)) := rN' ▸ v_lenL (vv rfl) (.inl (SqL.of h2))
      have lenV1 := v_I0 (g := fun i j => V.int (i + j)) lenV (vc (v := .int 1))
      rw [show V.int ((i : Int) + 1) = V.int ((i + 1 : Nat) : Int) from rfl] at lenV1
      refine s_ins (y := .ref po) (vv rfl) h2 (c_fn (args1 (vv rfl) (args1 lenV1 args0)) ⟨p, l, C + i, i + 1, rfl, P2, by omega, by omega, by omega, fun H3 d hd P3 k3 => (vv rfl : Val (tVar 3) _ _ (.ref po)) _ ⟨f, refs', (d : Int), .ref po, rfl, rfl, k3 _ _ h2 nfP, sz_lt (by omega), by omega, by omega, ?_⟩⟩)
      have h3 := k3 _ _ h2 nfP
      rw [Int.toNat_natCast]
      have tk3 := Pf.tk P2 k3
      have tkF : TK H3 (upd H3 f (.lst (refs'.take d ++ [.ref po] ++ refs'.drop d))) := TK.upd h3 (fun _ => by intro z; cases z)
      have hpo3 : H3 po = some (.tup (offV of)) := k3 _ _ (k2 _ _ hpo (Pf.tup hP hpo)) (Pf.tup hP hpo)
      refine ⟨_, offs'.take d ++ [of] ++ offs'.drop d, _, rfl, upd_same, ?_, fun x hx => ?_, ?_, ?_, ?_⟩
      · have := ((t2.keep tk3).keep tkF).ins (tkF _ _ hpo3) d
        rw [List.map_append, List.map_append, List.map_take, List.map_drop]
        exact this
      · rw [List.mem_append, List.mem_append] at hx
        rcases hx with (z | z) | z
        · exact ok2 x (List.mem_of_mem_take z)
        · rw [List.mem_singleton.mp z]; exact hok _ (List.mem_of_getElem? hof)
        · exact ok2 x (List.mem_of_mem_drop z)
      · rw [List.length_append, List.length_append, List.length_take, List.length_drop, List.length_singleton]; omega
      · exact P3.keep (F := (· = f)) ((KeepF.refl _ _).upd rfl) (fun e => nfP (.inl e.symm)) (fun e => nfP (.inr e.symm))
      · exact fun z o' h1' h2' => by
          rw [upd_ne (fun e => by rw [e, hf] at h1'; cases h1')]
          exact k3 _ _ (k2 z o' h1' h2') h2'
    · rintro σ' H2 ⟨refs', offs', o3, rfl, h2, t2, ok2, l2, P2, k2⟩
      rw [rN] at l2 P2
      exact s_ret (v := .ref f) (vv rfl) (k H2 f refs' offs' hf h2 t2 ok2 l2 (P2.mono (by omega)) k2)
theorem q_forEL {l : Addr} {xs : List V} {g : TG} (h : Args ta σ H [.ref l]) (hx : H l = some (.lst xs)) (Pv : Nat → L2.St → Hp → Prop) (h0 : Pv 0 σ H) (hl : ∀ i σ' H', Pv i σ' H' → H' l = some (.lst xs))
    (hs : ∀ i x p σ' H', xs[i]? = some x → Pv i σ' H' → H' p = none → g (.ref p) σ' (upd H' p (.tup [iV i, x])) fun σ2 H2 => t1 { D with nx := Pv (i + 1), ct := Pv (i + 1), bk := tz D } σ2 H2) (hd : ∀ σ' H', Pv xs.length σ' H' → tz D σ' H') : tSeq (tFor (iEnum K ta) g t1) tz D σ H :=
  h _ ⟨l, xs, rfl, SqL.of hx, for_it (D := { D with nx := tz D }) walk_enum Pv h0 (fun i σ' H' _ hP => SqL.of (hl i σ' H' hP)) (fun i x σ' H1 H2 hi hp hy => by
    obtain ⟨p, u, v, rfl, hp0, rfl, hu, hv⟩ := hy
    cases hu
    exact hs i v p σ' H1 hv hp hp0) hd⟩
theorem q_asgT2 {i j : Nat} {v1 v2 : V} (h1 : Val te σ H v1) (h2 : Val tb σ H v2) (k : ∀ H', Ex H H' → tz D ((σ.set i (some v1)).set j (some v2)) H') : tSeq (tAsg (tTup (tCons te (tCons tb tNil))) (gTup K 2 (gCons (gName i) (gCons (gName j) gNil)))) tz D σ H :=
  h1 _ (h2 _ ⟨by show 2 ≤ sizeLine; decide, fun p hp => ⟨p, _, rfl, SqT.of upd_same, rfl, _, _, rfl, _, _, rfl, rfl, k _ (Ex.new hp)⟩⟩)
def spFirsts (K : PySem.W.Frag) : Sp := fun vs H Q _ => ∃ (m : Nat) (o : Addr) (refs : List V) (offs : List Off), vs = [.int (m : Nat), .ref o] ∧ H o = some (.lst refs) ∧ TupsAt H refs (offs.map offV) ∧ OffOk m offs ∧ m ≤ 40 ∧ offs.length ≤ 63 ∧ ∀ H' q L, Ex H H' → H' q = some (.tup (L.map iV)) → LC.FK (esOf offs) L → Q (.ref q) H'
theorem ok_law_firsts (T : Tx w K mg) : Ok P w K mg base 1 .law_firsts (spFirsts K) := by
  refine T.okd .law_firsts sc_law_firsts (fun vs H Q E h => ?_) (fun cdv A0 outer s0 H vs Q E hr h => ⟨_, (pss_cons (ps_set (i := 2) sc_law_firsts.nd rfl (Or.inl rfl) (pe_listRg rfl (by rfl) (T.free _ (by decide +kernel)) (prg_1 (by rfl) (T.free _ (by decide +kernel)) (pv 0))))
    (pss_cons (ps_set (i := 3) sc_law_firsts.nd rfl (Or.inl rfl) (pe_lst pa_nil))
    (pss_cons (ps_for PassesOwn.never rfl (pi_enum (by rfl) (T.free _ (by decide +kernel)) (pa_cons (pv 1) pa_nil)) (pg_tup rfl (pgs_cons (pg_name (i := 4) sc_law_firsts.nd rfl (Or.inl rfl)) (pgs_cons (pg_tup rfl (pgs_cons (pg_name (i := 5) sc_law_firsts.nd rfl (Or.inl rfl)) (pgs_cons (pg_name (i := 6) sc_law_firsts.nd rfl (Or.inl rfl)) (pgs_cons (pg_name (i := 7) sc_law_firsts.nd rfl (Or.inl rfl)) pgs_nil)))) pgs_nil))) (pss_cons (ps_asg (pe_tup (pa_cons (pe_ix ix_list (pv 2) (pv 5) (fun _ _ => rfl)) (pa_cons (pe_ix ix_list (pv 2) (pv 6) (fun _ _ => rfl)) pa_nil))) (pg_tup rfl (pgs_cons (pg_name (i := 8) sc_law_firsts.nd rfl (Or.inr rfl)) (pgs_cons (pg_name (i := 9) sc_law_firsts.nd rfl (Or.inr rfl)) pgs_nil))))
    (pss_one (ps_if (pt_cmpR op_ne (pv 8) (pv 9) (nomark _)) (pss_cons (ps_expr (pe_bm PySem.F.plainAttrs_list PySem.F.slot_list_append PySem.F.type_list_append mt_append (pv 3) (pa_cons (pv 4) pa_nil)))
    (pss_one (ps_setLc (i := 2) (own := [("_law_part", 10)]) (g := gName 10) (tt := tYes) (te := (tIf (tTest (tOp rEq (tVar 10) (tVar 9))) (tVar 8) (tVar 10))) rfl sc_law_firsts.nd rfl rfl (sw_true rfl rfl rfl (by decide +kernel)) (pi_list (pv 2)) (blkOk_by (N := ["_law_many", "_law_offers_here", "_law_parts", "_law_found", "_law_number", "_law_a", "_law_b", "_law_price", "_law_one", "_law_other", "_law_part"]) (own := [("_law_part", 10)]) (sc := defScope (Dn.sm .law_firsts)) (by decide +kernel)) (fun _ _ _ _ _ => (by exact (pg_name (i := 10) sc_law_firsts.nd rfl (Or.inl rfl)))) (fun _ _ _ _ _ => (by exact pts_nil)) (fun _ _ _ _ _ => (by exact (pe_ifExp (pt_cmpR op_eq (pv 10) (pv 9) (nomark _)) (pv 8) (pv 10))))))) pss_nil))))
    (pss_one (ps_ret (pe_callTy call_tuple_of (by rfl) (T.free _ (by decide +kernel)) (by decide +kernel) (by exact (pa_cons (pv 3) pa_nil)))))))), ?_⟩)
  · obtain ⟨m, o, refs, offs, rfl, _⟩ := h; rfl
  · obtain ⟨m, o, refs, offs, rfl, ho, ht, hok, hm, hol, k⟩ := h
    have rN : refs.length = offs.length := by rw [ht.len, List.length_map]
    refine q_setL (ys := enc m iV) (nl_lstRg (by omega) (vv rfl)) fun pl0 H1 hpl0 e1 h1 => ?_
    refine q_setL (ys := []) (nl_lst args0 (by show 0 ≤ 100000; decide)) fun fl H2 hfl e2 h2 => ?_
    have nfl : H fl = none := fresh_back e1 hfl
    refine q_forEL (xs := refs) (args1 (vv rfl) args0) (e2 _ _ (e1 _ _ ho)) (fun i σ' H' => ∃ (pl : Addr) (lb : Nat → Nat) (L : List Nat) (o4 o5 o6 o7 o8 o9 o10 : Option V), σ' = [some (.int (m : Nat)), some (.ref o), some (.ref pl), some (.ref fl), o4, o5, o6, o7, o8, o9, o10] ∧ pl ≠ fl ∧ H' pl = some (.lst (enc m fun x => iV (lb x))) ∧ H' fl = some (.lst (L.map iV)) ∧ LC.FK ((esOf offs).take i) L ∧ LC.Lab (esOf offs) m lb L ∧ Ex H H' ∧ L.length ≤ i) ⟨pl0, id, [], _, _, _, _, _, _, _, rfl, (fun e => by rw [← e, h1] at hfl; cases hfl), e2 _ _ h1, h2, .nil, LC.Lab.start _ _, e1.trans e2, Nat.le_refl _⟩ (fun i σ' H' ⟨_, _, _, _, _, _, _, _, _, _, _, _, _, _, _, _, e, _⟩ => e _ _ ho) ?_ ?_
    · rintro i x p σ' H3 hx ⟨pl, lb, L, o4, o5, o6, o7, o8, o9, o10, rfl, npf, h3, g3, fk, lab, e3, hlL⟩ hp
      obtain ⟨⟨xa, xb, xc⟩, po, hof, rfl, hpo⟩ := ht.at_ hx
      have hi : i < offs.length := LC.at_lt hof
      have hxo := hok _ (List.mem_of_getElem? hof)
      have he : (esOf offs)[i]? = some (xa, xb) := es_at hof
      have tk : (esOf offs).take (i + 1) = (esOf offs).take i ++ [(xa, xb)] := by rw [List.take_add_one, he]; rfl
      have til : ((esOf offs).take i).length = i := by rw [List.length_take, es_len]; omega
      have eN := Ex.new (o := .tup [iV i, .ref po]) hp
      have hso := fk.sorted
      rw [til] at hso
      refine ⟨p, _, rfl, SqT.of upd_same, rfl, _, _, rfl, _, _, rfl, ⟨po, _, rfl, SqT.of (eN _ _ (e3 _ _ hpo)), rfl, _, _, rfl, _, _, rfl, _, _, rfl, rfl, rfl, ?_⟩⟩
      have h4 := eN _ _ h3
      have g4 := eN _ _ g3
      have e4 := e3.trans eN
      show tSeq _ _ _ _ (upd H3 p (.tup [iV i, .ref po]))
      generalize upd H3 p (.tup [iV i, .ref po]) = H4 at h4 g4 e4 ⊢
      refine q_asgT2 (v1 := iV (lb xa)) (v2 := iV (lb xb)) (v_ixL (vv rfl) (SqL.of h4) (vv rfl) (enc_at hxo.1)) (v_ixL (vv rfl) (SqL.of h4) (vv rfl) (enc_at hxo.2.1)) fun H4' e4' => ?_
      replace h4 := e4' _ _ h4
      replace g4 := e4' _ _ g4
      replace e4 := e4.trans e4'
      refine s_when (b := !decide (iV (lb xa) = iV (lb xb))) (a_test (v_ne (vv rfl) (vv rfl) rfl)) (fun hb => ?_) (fun hb => ?_)
      · have hne : lb xa ≠ lb xb := fun z => by rw [z] at hb; simp at hb
        have nc : ¬ LC.Conn (LC.Lk (esOf offs) (· ∈ L)) xa xb := fun c => hne ((lab xa xb hxo.1 hxo.2.1).mpr c)
        have niL : i ∉ L := fun z => by have := hso.2 i z; omega
        refine q_append (v := iV i) (vv rfl) g4 (args1 (vv rfl) args0) (by rw [List.length_map]; exact sz_lt (by omega)) ?_
        have h5 : upd H4' fl (.lst (L.map iV ++ [iV i])) pl = some (.lst (enc m fun x => iV (lb x))) := by rw [upd_ne npf]; exact h4
        have g5 : upd H4' fl (.lst (L.map iV ++ [iV i])) fl = some (.lst (L.map iV ++ [iV i])) := upd_same
        have e5 : Ex H (upd H4' fl (.lst (L.map iV ++ [iV i]))) := Ex.mut e4 nfl
        show tAsg _ _ _ _ (upd H4' fl (.lst (L.map iV ++ [iV i])))
        generalize upd H4' fl (.lst (L.map iV ++ [iV i])) = H5 at h5 g5 e5 ⊢
        refine s_setL (ys := ((List.range m).filter fun _ => true).map fun x => iV (if lb x = lb xb then lb xa else lb x)) (nl_lcL (ks := List.range m) (φ := fun x => iV (lb x)) (vv rfl) (SqL.of h5) (by rw [List.length_range]; omega) (fun _ => rfl) (fun _ _ _ _ => ans_yes) (fun x hx _ H6 e6 => ?_)) fun pl' H6 hpl' e6 h6 => ?_
        · refine v_if (b := decide (iV (lb x) = iV (lb xb))) (a_test (v_eq (vv rfl) (vv rfl) rfl)) (fun hb => ?_) (fun hb => ?_)
          · have z := of_decide_eq_true hb
            have z : lb x = lb xb := by unfold iV at z; injection z with z; omega
            rw [if_pos z]; exact vv rfl
          · have z : lb x ≠ lb xb := fun y => by rw [y] at hb; simp at hb
            rw [if_neg z]; exact vv rfl
        · rw [List.filter_eq_self.mpr (fun _ _ => rfl)] at h6
          refine ⟨pl', _, L ++ [i], _, _, _, _, _, _, _, rfl, (fun e => by rw [← e, hpl'] at g5; cases g5), h6, ?_, ?_, lab.join he niL hxo.1 hxo.2.1 hne, e5.trans e6, by rw [List.length_append, List.length_singleton]; omega⟩
          · rw [List.map_append]; exact e6 _ _ g5
          · rw [tk]
            have := LC.FK.new ((esOf offs).take i) xa xb L fk (fun c => nc ((LC.lk_take hso.2).mp c))
            rw [til] at this
            exact this
      · have heq : lb xa = lb xb := by
          have := of_decide_eq_true (by simpa using hb : decide (iV (lb xa) = iV (lb xb)) = true)
          unfold iV at this
          injection this with this; omega
        refine ⟨pl, lb, L, _, _, _, _, _, _, _, rfl, npf, h4, g4, ?_, lab, e4, by omega⟩
        rw [tk]
        exact LC.FK.old _ xa xb L fk ((LC.lk_take hso.2).mpr ((lab xa xb hxo.1 hxo.2.1).mp heq))
    · rintro σ' H3 ⟨pl, lb, L, o4, o5, o6, o7, o8, o9, o10, rfl, npf, h3, g3, fk, lab, e3, hlL⟩
      rw [rN, ← es_len, List.take_length] at fk
      refine s_retTupL (vv rfl) (SqL.of g3) fun l H4 e4 h4 => k H4 l L (e3.trans e4) h4 fk
end
end TC
namespace TC
open PySem PySem.Spec PyProof.Rows L2
def LD (H : Hp) (F : Addr → Prop) : Prop := ∀ q o, H q = some o → F q → (∃ xs, o = .lst xs) ∨ ∃ kvs, o = .dK kvs
section
variable {P : Program} {w : World} {K : PySem.W.Frag} {mg : Str → Option Value} {base : Heap} {H H' H0 : Hp} {q nq : Addr} {σ : L2.St} {tb tx te tl tc tv : TE} {ta : TA} {g : TG} {D : Ends} {v x : V} {t1 t2 tz tu : TS} {t tt u : TT} {b : Bool} {m nb U : Nat} {Q : VK} {a : LiA} {c : HoA} {offs : List Off} {es sp : Prs} {S : LC.S}
theorem Lf.ld (h : LiAt K H a m offs sp S) : LD H (Lf a) := by
  rintro q o ho (rfl | rfl | rfl | ⟨f, rfl⟩)
  · obtain ⟨refs, r1, _⟩ := h.of; rw [r1] at ho; cases ho; exact .inl ⟨_, rfl⟩
  · rw [h.e1] at ho; cases ho; exact .inr ⟨_, rfl⟩
  · rw [h.e2] at ho; cases ho; exact .inr ⟨_, rfl⟩
  · obtain ⟨xs, z, _⟩ := h.wy.st.lst f; rw [z] at ho; cases ho; exact .inl ⟨_, rfl⟩
theorem Lf.some_ (h : LiAt K H a m offs sp S) {q : Addr} (hq : Lf a q) : H q ≠ none := fun z => Lf.new h z hq
theorem HoI.keepX {F : Addr → Prop} (h : HoI K H c m nb es sp S U) (k : KeepF F H H') (ld : LD H F) (dis : ∀ q, Hf c q → ¬ F q) : HoI K H' c m nb es sp S U := by
  obtain ⟨⟨⟨dx, ob⟩, ⟨refs, r1, r2⟩, e1, ⟨⟨dy, oy⟩, ⟨⟨ds, os⟩, inj, fld, wf⟩⟩, no⟩, lh, sp'⟩ := h
  have nn : ∀ q o, H q = some o → (∀ xs, o ≠ .lst xs) → (∀ kvs, o ≠ .dK kvs) → H' q = some o := fun q o h n1 n2 => k q o h fun f => by
    rcases ld q o h f with ⟨xs, z⟩ | ⟨kvs, z⟩
    · exact n1 xs z
    · exact n2 kvs z
  have tk : TK H H' := fun p xs h => nn p _ h (fun _ => by intro z; cases z) (fun _ => by intro z; cases z)
  refine ⟨⟨⟨dx, nn _ _ ob (fun _ => by intro z; cases z) (fun _ => by intro z; cases z)⟩, ⟨refs, k _ _ r1 (dis _ (.inl rfl)), r2.keep tk⟩, k _ _ e1 (dis _ (.inr (.inl rfl))), ⟨⟨dy, nn _ _ oy (fun _ => by intro z; cases z) (fun _ => by intro z; cases z)⟩, ⟨⟨ds, nn _ _ os (fun _ => by intro z; cases z) (fun _ => by intro z; cases z)⟩, inj, fun f => ?_, wf⟩⟩, no⟩, lh, sp'⟩
  obtain ⟨o, z1, z2⟩ := fld f
  exact ⟨o, k _ _ z1 (dis _ (Hf.ofA f)), z2.ex tk⟩
theorem Hf.tk (h : HoAt K H c m es sp S) (k : KeepF (Hf c) H H') : TK H H' := fun p xs hp => k p _ hp (Hf.tup h hp)
theorem k_lcT (h : tl σ H fun x H1 => tLc (iTup K (tC x)) g tt te vs σ H1 Q) : tLc (iTup K tl) g tt te vs σ H Q := h
theorem k_meth {C : Addr} {f : Str} {sp' : Sp} {dvs : List V} {E : XK} (h : tb σ H fun x H1 => ∃ a dx fs, x = .ref a ∧ H1 a = some (.ins C dx fs) ∧ fs.lookup f = none ∧ ta σ H1 fun vs H2 => sp' (x :: (vs ++ dvs)) H2 Q E) : tMeth C f sp' dvs E tb ta σ H Q := h
theorem li_rcv {f : Str} {R : Prop} (h : LiAt K H a m offs sp S) (hm : f ∉ Cn.fields .li) (k : R) : ∃ a' dx fs, V.ref a.l = .ref a' ∧ H a' = some (.ins (Cad K .li) dx fs) ∧ fs.lookup f = none ∧ R := by
  obtain ⟨dx, h1⟩ := h.ob
  exact ⟨a.l, dx, _, rfl, h1, lookup_zip_none (ns := Cn.fields .li) (vs := [V.int m, V.ref a.o, V.ref a.y, V.ref a.d1, V.ref a.d2]) hm, k⟩
theorem ho_rcv {f : Str} {R : Prop} (h : HoAt K H c m es sp S) (hm : f ∉ Cn.fields .ho) (k : R) : ∃ a' dx fs, V.ref c.l = .ref a' ∧ H a' = some (.ins (Cad K .ho) dx fs) ∧ fs.lookup f = none ∧ R := by
  obtain ⟨dx, h1⟩ := h.ob
  exact ⟨c.l, dx, _, rfl, h1, lookup_zip_none (ns := Cn.fields .ho) (vs := [V.int m, V.ref c.o, V.ref c.y, V.ref c.d]) hm, k⟩
theorem q_whenK (h : t σ H fun b H1 => if b = true then t1 { D with nx := tz D } σ H1 else tz D σ H1) : tSeq (tIfS t t1 tNext) tz D σ H := h
theorem k_or {Q : Bool → Hp → Prop} (h : t σ H fun c H1 => if c = true then Q true H1 else u σ H1 Q) : tOr t u σ H Q := h
theorem k_test {Q : Bool → Hp → Prop} (h : te σ H fun x H' => ∃ k, x = .bl k ∧ Q k H') : tTest te σ H Q := h
theorem k_tup2 (h : te σ H fun v1 H1 => tb σ H1 fun v2 H2 => 2 ≤ sizeLine ∧ ∀ p, H2 p = none → Q (.ref p) (upd H2 p (.tup [v1, v2]))) : tTup (tCons te (tCons tb tNil)) σ H Q := h
theorem k_fn {sp : Sp} {E : XK} (h : ta σ H fun vs H1 => sp (vs ++ []) H1 Q E) : tCall sp [] E ta σ H Q := h
theorem k_cons1 {Q : List V → Hp → Prop} (h : te σ H fun v H1 => ta σ H1 fun vs H2 => Q (v :: vs) H2) : tCons te ta σ H Q := h
theorem eqv_tup (ns : List Nat) : PyData.eqv (.tuple ((ns.map fun n : Nat => (n : Int)).map PyData.int)) (.tuple ((ns.map fun n : Nat => (n : Int)).map PyData.int)) = true :=
  PySem.SeqAt.eqv_refl _ (by rw [show PyData.canLay0 (.tuple ((ns.map fun n : Nat => (n : Int)).map PyData.int)) = PyData.canLayAll0 ((ns.map fun n : Nat => (n : Int)).map PyData.int) by simp [PyData.canLay0]]; exact (lay_ints _).1)
theorem dp_tup {q : Addr} {ns : List Nat} (h : H q = some (.tup (ns.map iV))) : Dp K H (.ref q) (.tuple ((ns.map fun n : Nat => (n : Int)).map PyData.int)) := by
  refine Dp.tup (SqT.of h) ?_
  have := dp_ints (K := K) (H := H) (ns.map fun n : Nat => (n : Int))
  rw [List.map_map] at this
  exact this
theorem r_neT {q r : Addr} {ns : List Nat} (h1 : H q = some (.tup (ns.map iV))) (h2 : H r = some (.tup (ns.map iV))) (k : Q (.bl false) H) : rNeD K (.ref q) (.ref r) H Q :=
  ⟨_, _, dp_tup h1, dp_tup h2, shaped_t (lay_ints _).1 (by rw [(lay_ints _).2]; decide), shaped_t (lay_ints _).1 (by rw [(lay_ints _).2]; decide), by rw [eqv_tup]; exact k⟩
theorem r_eqT {q r : Addr} {ns : List Nat} (h1 : H q = some (.tup (ns.map iV))) (h2 : H r = some (.tup (ns.map iV))) (k : Q (.bl true) H) : rEqD K (.ref q) (.ref r) H Q :=
  ⟨_, _, dp_tup h1, dp_tup h2, shaped_t (lay_ints _).1 (by rw [(lay_ints _).2]; decide), shaped_t (lay_ints _).1 (by rw [(lay_ints _).2]; decide), by rw [eqv_tup]; exact k⟩
theorem nl_pairs {o : Addr} {refs : List V} {j : Nat} {vs : List Nat} (h : Val tl σ H (.ref o)) (ho : H o = some (.lst refs)) (ht : TupsAt H refs (offs.map offV)) (hol : offs.length ≤ 1000) (hw : ∀ x, wipe ((wipe σ vs).set j (some x)) vs = wipe σ vs) (hj : ∀ x, ((wipe σ vs).set j (some x))[j]? = some (some x))
    (k : ∀ d H' refs', Ex H H' → H' d = some (.lst refs') → TupsAt H' refs' ((esOf offs).map prV) → Q (.ref d) H') : tLc (iList K tl) (gName j) tYes (tSl (rSlA K) (tVar j) tNoPart (tPart (tC (.int 2)))) vs σ H Q := by
  have rN : refs.length = offs.length := by rw [ht.len, List.length_map]
  refine lc_X (xs := refs) h (SqL.of ho) hw (fun d i H' => ∃ refs', Ex H H' ∧ H' d = some (.lst refs') ∧ TupsAt H' refs' (((esOf offs).take i).map prV)) (fun d hd => ⟨[], Ex.new hd, upd_same, trivial⟩) (fun d i H' hd _ ⟨_, e, _⟩ => SqL.of (e _ _ ho)) (fun d i x H' hd hx ⟨refs', e1, h1, t1⟩ => ?_) (fun d H' hd ⟨refs', e1, h1, t1⟩ => ?_)
  · obtain ⟨of, po, hof, rfl, hpo⟩ := ht.at_ hx
    have hi := LC.at_lt hof
    refine v_two (vv (hj _)) (e1 _ _ hpo) fun l H2 e2 h2 => ⟨refs', e2 _ _ h1, by rw [t1.len, List.length_map, List.length_take, es_len]; exact sz_lt (by omega), refs' ++ [.ref l], Ex.mut (e1.trans e2) hd, upd_same, ?_⟩
    have tk : TK H2 (upd H2 d (.lst (refs' ++ [.ref l]))) := TK.upd (e2 _ _ h1) (fun _ => by intro z; cases z)
    rw [List.take_add_one, show (esOf offs)[i]? = some (of.1, of.2.1) from es_at hof]
    show TupsAt _ _ (((esOf offs).take i ++ [(of.1, of.2.1)]).map prV)
    rw [List.map_append]
    exact ((t1.keep (TK.ex e2)).keep tk).add (x := prV (of.1, of.2.1)) (tk _ _ h2)
  · rw [rN, ← es_len, List.take_length] at t1
    exact k d H' refs' e1 h1 t1
def alike (o : Off) : Off := (o.1, o.2.1, 7)
theorem nl_alike {o : Addr} {refs : List V} {j1 j2 j3 : Nat} {vs : List Nat} (h : Val tl σ H (.ref o)) (ho : H o = some (.lst refs)) (ht : TupsAt H refs (offs.map offV)) (hol : offs.length ≤ 1000) (hw : ∀ x y z, wipe ((((wipe σ vs).set j1 (some x)).set j2 (some y)).set j3 (some z)) vs = wipe σ vs)
    (hj : ∀ x y z, ((((wipe σ vs).set j1 (some x)).set j2 (some y)).set j3 (some z))[j1]? = some (some x) ∧ ((((wipe σ vs).set j1 (some x)).set j2 (some y)).set j3 (some z))[j2]? = some (some y))
    (k : ∀ d H' refs', H d = none → Ex H H' → H' d = some (.lst refs') → TupsAt H' refs' ((offs.map alike).map offV) → Q (.ref d) H') : tLc (iList K tl) (gTup K 3 (gCons (gName j1) (gCons (gName j2) (gCons (gName j3) gNil)))) tYes (tTup (tCons (tVar j1) (tCons (tVar j2) (tCons (tC (.int 7)) tNil)))) vs σ H Q := by
  have rN : refs.length = offs.length := by rw [ht.len, List.length_map]
  refine h _ ⟨o, rfl, ⟨_, SqL.of ho⟩, fun d hd => lc_list (xs := refs) (fun i H' => ∃ refs', Ex H H' ∧ H' d = some (.lst refs') ∧ TupsAt H' refs' (((offs.take i).map alike).map offV)) ⟨[], Ex.new hd, upd_same, trivial⟩ (fun i H' _ ⟨_, e, _⟩ => SqL.of (e _ _ ho)) (fun i x H' hx ⟨refs', e1, h1, t1⟩ => ?_) (fun H' ⟨refs', e1, h1, t1⟩ => ?_)⟩
  · obtain ⟨of, po, hof, rfl, hpo⟩ := ht.at_ hx
    have hi := LC.at_lt hof
    refine ⟨po, _, rfl, SqT.of (e1 _ _ hpo), rfl, _, _, rfl, _, _, rfl, _, _, rfl, rfl, hw _ _ _, ans_yes _ ?_⟩
    rw [if_pos rfl]
    refine nu_tup (args1 (vv (hj _ _ _).1) (args1 (vv (hj _ _ _).2) (args1 vc args0))) (by show 3 ≤ 100000; decide) _ fun l H2 hl e2 h2 => ⟨refs', e2 _ _ h1, by rw [t1.len, List.length_map, List.length_map, List.length_take]; exact sz_lt (by omega), refs' ++ [.ref l], Ex.mut (e1.trans e2) hd, upd_same, ?_⟩
    have tk : TK H2 (upd H2 d (.lst (refs' ++ [.ref l]))) := TK.upd (e2 _ _ h1) (fun _ => by intro z; cases z)
    rw [List.take_add_one, hof]
    show TupsAt _ _ (((offs.take i ++ [of]).map alike).map offV)
    rw [List.map_append, List.map_append]
    exact ((t1.keep (TK.ex e2)).keep tk).add (x := offV (alike of)) (tk _ _ h2)
  · rw [rN, List.take_length] at t1
    exact k d H' refs' hd e1 h1 t1
theorem alike_es (offs : List Off) : esOf (offs.map alike) = esOf offs := by unfold esOf; rw [List.map_map]; rfl
theorem alike_ok (h : OffOk m offs) : OffOk m (offs.map alike) := fun x hx => by
  obtain ⟨o, ho, rfl⟩ := List.mem_map.mp hx
  have := h o ho
  exact ⟨this.1, this.2.1, by show (0 : Int) ≤ 7; decide⟩
theorem alike_pr (offs : List Off) : ∀ c ∈ prOf (offs.map alike), c = 7 := fun c hc => by
  unfold prOf at hc
  rw [List.map_map] at hc
  obtain ⟨o, _, rfl⟩ := List.mem_map.mp hc
  rfl
theorem TupsAt.e2 {refs : List V} {q : Addr} {es : Prs} (hq : H q = some (.tup refs)) (h : TupsAt H refs (es.map prV)) : TupE H q es noRest := by
  refine ⟨refs, hq, by rw [h.len, List.length_map], fun i x y hi => ?_⟩
  exact h.get (i := i) (x := prV (x, y)) (by rw [List.getElem?_map, hi]; rfl)
theorem LiI.few (h : LiI K H a m nb offs sp S U) : sp.length ≤ offs.length := by
  have := LC.nodup_len (esOf offs).length (sp.map fun p : Nat × Nat => p.1) h.lh.O.kn fun k hk => h.lh.lt (show LC.inK sp k from hk)
  rw [List.length_map, es_len] at this
  exact this
end
end TC
namespace TC
open PySem PySem.Spec PyProof.Rows L2
section
variable {K : PySem.W.Frag} {H H' : Hp} {m nb U : Nat} {a : LiA} {offs : List Off} {sp : Prs} {S : LC.S}
theorem outs_mem (O : LC.SpOk m S.n (esOf offs) sp) {N k : Nat} : k ∈ outs sp N ↔ (k < N ∧ ¬ LC.inK sp k) := by
  unfold outs
  rw [List.mem_filter, List.mem_range]
  constructor
  · rintro ⟨h1, h2⟩
    refine ⟨h1, fun z => ?_⟩
    obtain ⟨t, ht⟩ := LC.inK_iff.mp z
    rw [spK_some O ht] at h2; simp at h2
  · rintro ⟨h1, h2⟩
    exact ⟨h1, by rw [spK_none h2]; rfl⟩
theorem mem_in {ns : List Nat} (hpm : ns.Perm (sp.map fun p : Nat × Nat => p.1)) (k : Nat) : k ∈ ns ↔ LC.inK sp k := hpm.mem_iff
theorem law_due (h : LiI K H a m nb offs sp S U) {ns nh : List Nat} {fs : List (Option Int)} {ps : List (Nat × List Nat)} (hpm : ns.Perm (sp.map fun p : Nat × Nat => p.1)) (hso : ns.Pairwise (· < ·)) (hps : ps.map (·.1) = outs sp offs.length) (hpok : PapOk (esOf offs) (LC.inK sp) ps)
    (hfm : ∀ k, LC.inK sp k → (fs[k]? = some none ↔ ∀ p ∈ ps, k ∉ p.2)) (hnh : nh.Pairwise (· < ·)) (hmem : ∀ k, k ∈ nh ↔ (k < (esOf offs).length ∧ LC.Br (esOf offs) k)) : nh = ns.filter fun k => decide (fs[k]? = some none) := by
  have F := h.lh.fo
  have Sp' := h.ch.span pl_len
  have D := fun {k : Nat} (hk : k < (esOf offs).length) => LC.due F Sp' (ps := ps) (fun n r hnr => by
    obtain ⟨u, v, g1, g2, g3, g4⟩ := hpok n r hnr
    refine ⟨u, v, g1, g2, g3, g4, ?_⟩
    have : n ∈ outs sp offs.length := by rw [← hps]; exact List.mem_map.mpr ⟨_, hnr, rfl⟩
    exact ((outs_mem h.lh.O).mp this).2) (fun n hn hnK => by
    have : n ∈ outs sp offs.length := (outs_mem h.lh.O).mpr ⟨by rw [es_len] at hn; exact hn, hnK⟩
    rw [← hps] at this
    obtain ⟨⟨n', r⟩, hr, rfl⟩ := List.mem_map.mp this
    exact ⟨r, hr⟩) hk
  refine LC.sorted_ext hnh (hso.filter _) fun k => ?_
  rw [hmem, List.mem_filter, mem_in hpm, decide_eq_true_iff]
  constructor
  · rintro ⟨h1, h2⟩
    obtain ⟨g1, g2⟩ := (D h1).mpr h2
    exact ⟨g1, (hfm k g1).mpr g2⟩
  · rintro ⟨h1, h2⟩
    have hl := h.lh.lt h1
    exact ⟨hl, (D hl).mp ⟨h1, (hfm k h1).mp h2⟩⟩
theorem law_reason (h : LiI K H a m nb offs sp S U) {ns : List Nat} {ps : List (Nat × List Nat)} (hpm : ns.Perm (sp.map fun p : Nat × Nat => p.1)) (hps : ps.map (·.1) = outs sp offs.length) (hpok : PapOk (esOf offs) (LC.inK sp) ps) : ∀ x ∈ ps, ReasonL offs ns x.1 x.2 := by
  rintro ⟨n, r⟩ hnr
  obtain ⟨u, v, g1, g2, g3, g4⟩ := hpok n r hnr
  have hn : n ∈ outs sp offs.length := by rw [← hps]; exact List.mem_map.mpr ⟨_, hnr, rfl⟩
  obtain ⟨n1, n2⟩ := (outs_mem h.lh.O).mp hn
  obtain ⟨o, ho⟩ : ∃ o, offs[n]? = some o := ⟨_, List.getElem?_eq_getElem n1⟩
  have e := es_at ho
  rw [g1] at e; cases e
  refine ⟨o, ho, g2, g3, fun k hk => (mem_in hpm k).mpr (g4 k hk), fun k hk => ?_⟩
  obtain ⟨d, d1, d2⟩ := h.ch.le h.lh.fo pl_len (fun k hk => h.lh.lt hk) g1 (pr_at ho) n2 g2 g3 g4 k hk
  have hkl : k < offs.length := by have := h.lh.lt (g4 k hk); rw [es_len] at this; exact this
  obtain ⟨o', ho'⟩ : ∃ o', offs[k]? = some o' := ⟨_, List.getElem?_eq_getElem hkl⟩
  have := pr_at ho'
  rw [d1] at this; cases this
  exact ⟨o', ho', d2⟩
theorem law_outs (h : LiI K H a m nb offs sp S U) {ns : List Nat} (hpm : ns.Perm (sp.map fun p : Nat × Nat => p.1)) : outs sp offs.length = (List.range offs.length).filter (fun k => !decide (k ∈ ns)) := by
  unfold outs
  refine List.filter_congr fun k hk => ?_
  congr 1
  by_cases q : LC.inK sp k
  · obtain ⟨t, ht⟩ := LC.inK_iff.mp q
    rw [spK_some h.lh.O ht, decide_eq_true ((mem_in hpm k).mpr q)]; rfl
  · rw [spK_none q, decide_eq_false (fun z => q ((mem_in hpm k).mp z))]; rfl
theorem law_fo (h : LiI K H a m nb offs sp S U) {ns : List Nat} (hpm : ns.Perm (sp.map fun p : Nat × Nat => p.1)) : LC.Fo (esOf offs) (· ∈ ns) := by
  have : (fun k => k ∈ ns) = LC.inK sp := funext fun k => propext (mem_in hpm k)
  show LC.Fo (esOf offs) (fun k => k ∈ ns)
  rw [this]; exact h.lh.fo
theorem law_first (h : LiI K H a m nb offs sp S U) (h7 : ∀ c ∈ prOf offs, c = 7) {ns L : List Nat} (hpm : ns.Perm (sp.map fun p : Nat × Nat => p.1)) (hso : ns.Pairwise (· < ·)) (hL : LC.FK (esOf offs) L) : L = ns := by
  have := LC.FK.det hL (h.fk h7)
  rw [this] at hL ⊢
  exact LC.sorted_ext hL.sorted.1 hso fun k => hpm.mem_iff.symm
end
end TC
namespace TC
open PySem PySem.Spec PyProof.Rows L2
section
variable {P : Program} {w : World} {K : PySem.W.Frag} {mg : Str → Option Value} {base : Heap} {H H' H0 : Hp} {q nq : Addr} {σ : L2.St} {tb tx te tl tc tv : TE} {ta : TA} {g : TG} {D : Ends} {v x : V} {t1 t2 tz tu : TS} {t tt u : TT} {b : Bool} {Q : VK} {f : List V → Hp → VK → Prop} {vs : List Nat}
theorem k_consV {Q : List V → Hp → Prop} (h : Val te σ H v) (k : ta σ H fun vs H2 => Q (v :: vs) H2) : tCons te ta σ H Q := h _ k
theorem cb_ofV (h : Val te σ H v) (k : f [v] H Q) : tCB f (tCons te tNil) σ H Q := h _ k
theorem k_cbT (h : tl σ H fun x H1 => tCB f (tCons (tLc (iTup K (tC x)) g tt te vs) tNil) σ H1 Q) : tCB f (tCons (tLc (iTup K tl) g tt te vs) tNil) σ H Q := h
theorem k_notB {Q : Bool → Hp → Prop} (h : te σ H fun x H1 => ∃ c, x = .bl c ∧ Q (!c) H1) : tNot (tB te) σ H Q := h
def spRight (K : PySem.W.Frag) : Sp := fun vs H Q _ => ∃ (p l : Addr) (C m : Nat) (o : Addr) (refs : List V) (offs : List Off), vs = [.ref p, .int (m : Nat), .ref o] ∧ PotAt H p l C ∧ C ≤ 900000 ∧ H o = some (.lst refs) ∧ ¬ Pf p l o ∧ TupsAt H refs (offs.map offV) ∧ OffOk m offs ∧ m ≤ 40 ∧ offs.length ≤ 63 ∧
  ∀ H', PotAt H' p l (C + 63) → Q (.bl true) H'
theorem ok_law_right (T : Tx w K mg) : Ok P w K mg base 14 .law_right (spRight K) := by
  refine T.okd .law_right sc_law_right (fun vs H Q E h => ?_) (fun cdv A0 outer s0 H vs Q E hr h => ⟨_, (pss_cons (ps_par rfl sc_law_right.nd (i := 3) (j := 4) rfl rfl (by decide) rfl rfl (pa_cons (pe_call (ok_law_light T) (hr.mono (by decide)) rfl (T.glF _ (by decide +kernel)) (T.fn .law_light).kp (b_law_light T) .nil pass0 (pa_cons (pv 1) (pa_cons (pv 2) pa_nil))) (pa_cons (pe_call (ok_law_held T) (hr.mono (by decide)) rfl (T.glF _ (by decide +kernel)) (T.fn .law_held).kp (b_law_held T) .nil pass0 (pa_cons (pv 1) (pa_cons (pv 2) pa_nil))) pa_nil)) rfl)
    (pss_cons (ps_set (i := 5) sc_law_right.nd rfl (Or.inr rfl) (pe_meth0 (pv 3) (T.cls .li) (T.meth .li _ (by decide +kernel)) (ok_li_slacks T) (hr.mono (by decide)) (b_li_slacks T) .nil pass0))
    (pss_cons (ps_set (i := 6) sc_law_right.nd rfl (Or.inl rfl) (pe_callTy call_tuple_of (by rfl) (T.free _ (by decide +kernel)) (by decide +kernel) (by exact (pa_cons (pe_lc (own := [("_law_number", 7)]) (g := gName 7) (tt := (tTest (tOp rIsN (tOp (rIxT K) (tVar 5) (tVar 7)) (tC .non)))) (te := (tVar 7)) rfl sc_law_right.nd (pi_tup (pe_meth0 (pv 3) (T.cls .li) (T.meth .li _ (by decide +kernel)) (ok_li_kept T) (hr.mono (by decide)) (b_li_kept T) .nil pass0)) (blkOk_by (N := ["_law_pot_here", "_law_many", "_law_offers_here", "_law_light_here", "_law_held_here", "_law_slacks", "_law_due", "_law_number", "_law_pair", "_law_offer", "_law_other", "_law_kept", "_law_alike", "_law_a", "_law_b", "_law_price"]) (own := [("_law_number", 7)]) (sc := defScope (Dn.sm .law_right)) (by decide +kernel)) (fun _ _ _ _ _ => (by exact (pg_name (i := 7) sc_law_right.nd rfl (Or.inl rfl)))) (fun _ _ _ _ _ => (by exact (pts_one (pt_cmpR op_isN1 (pe_ix ix_tup (pv 5) (pv 7) (fun _ _ => rfl)) pe_non (nomark _))))) (fun _ _ _ _ _ => (by exact (pv 7)))) pa_nil))))
    (pss_cons (ps_set (i := 8) sc_law_right.nd rfl (Or.inl rfl) (pe_tup (pa_cons (pe_meth0 (pv 3) (T.cls .li) (T.meth .li _ (by decide +kernel)) (ok_li_kept T) (hr.mono (by decide)) (b_li_kept T) .nil pass0) (pa_cons (pe_meth0 (pv 3) (T.cls .li) (T.meth .li _ (by decide +kernel)) (ok_li_paper T) (hr.mono (by decide)) (b_li_paper T) .nil pass0) pa_nil))))
    (pss_cons (ps_if (PW.pt (pw_or (pt_cmpR (op_neD hr.units) (pe_meth0 (pv 4) (T.cls .ho) (T.meth .ho _ (by decide +kernel)) (ok_ho_holding T) (hr.mono (by decide)) (b_ho_holding T) .nil pass0) (pv 6) (nomark _)) (pw_or1 (pt_cmpR op_notBl (pe_call (ok_shows_lightest T) (hr.mono (by decide)) rfl (T.glF _ (by decide +kernel)) (T.fn .shows_lightest).kp (b_shows_lightest T) .nil pass0 (pa_cons (pv 1) (pa_cons (pe_callTy call_tuple_of (by rfl) (T.free _ (by decide +kernel)) (by decide +kernel) (by exact (pa_cons (pv 2) pa_nil))) (pa_cons (pv 8) pa_nil)))) pe_bl (nomark _))))) (pss_one (ps_ret pe_bl)) pss_nil)
    (pss_cons (ps_if (pt_cmpR op_notBl (pe_call (ok_shows_holding T) (hr.mono (by decide)) rfl (T.glF _ (by decide +kernel)) (T.fn .shows_holding).kp (b_shows_holding T) .nil pass0 (pa_cons (pv 1) (pa_cons (pe_callTy call_tuple_of (by rfl) (T.free _ (by decide +kernel)) (by decide +kernel) (by exact (pa_cons (pe_lc (own := [("_law_offer", 9)]) (g := gName 9) (tt := tYes) (te := (tSl (rSlA K) (tVar 9) tNoPart (tPart (tC (.int 2))))) rfl sc_law_right.nd (pi_list (pv 2)) (blkOk_by (N := ["_law_pot_here", "_law_many", "_law_offers_here", "_law_light_here", "_law_held_here", "_law_slacks", "_law_due", "_law_number", "_law_pair", "_law_offer", "_law_other", "_law_kept", "_law_alike", "_law_a", "_law_b", "_law_price"]) (own := [("_law_offer", 9)]) (sc := defScope (Dn.sm .law_right)) (by decide +kernel)) (fun _ _ _ _ _ => (by exact (pg_name (i := 9) sc_law_right.nd rfl (Or.inl rfl)))) (fun _ _ _ _ _ => (by exact pts_nil)) (fun _ _ _ _ _ => (by exact (pe_slice sl_tupA (pv 9) po_none (po_some pe_int))))) pa_nil))) (pa_cons (pe_meth0 (pv 4) (T.cls .ho) (T.meth .ho _ (by decide +kernel)) (ok_ho_paper T) (hr.mono (by decide)) (b_ho_paper T) .nil pass0) pa_nil)))) pe_bl (nomark _)) (pss_one (ps_ret pe_bl)) pss_nil)
    (pss_cons (ps_set (i := 10) sc_law_right.nd rfl (Or.inl rfl) (pe_call (ok_law_shuffled T) (hr.mono (by decide)) rfl (T.glF _ (by decide +kernel)) (T.fn .law_shuffled).kp (b_law_shuffled T) .nil pass0 (pa_cons (pv 0) (pa_cons (pv 2) pa_nil))))
    (pss_cons (ps_set (i := 11) sc_law_right.nd rfl (Or.inr rfl) (pe_meth0 (pe_call (ok_law_light T) (hr.mono (by decide)) rfl (T.glF _ (by decide +kernel)) (T.fn .law_light).kp (b_law_light T) .nil pass0 (pa_cons (pv 1) (pa_cons (pv 10) pa_nil))) (T.cls .li) (T.meth .li _ (by decide +kernel)) (ok_li_kept T) (hr.mono (by decide)) (b_li_kept T) .nil pass0))
    (pss_cons (ps_if (pt_not (pt_val (pe_callB (cr_all rfl) (by rfl) (T.free _ (by decide +kernel)) (by decide +kernel) (by exact (pa_cons (pe_lc (own := [("_law_number", 7)]) (g := gName 7) (tt := tYes) (te := (tOp (rIn K false) (tVar 7) (tVar 11))) rfl sc_law_right.nd (pi_tup (pe_meth0 (pe_call (ok_law_held T) (hr.mono (by decide)) rfl (T.glF _ (by decide +kernel)) (T.fn .law_held).kp (b_law_held T) .nil pass0 (pa_cons (pv 1) (pa_cons (pv 10) pa_nil))) (T.cls .ho) (T.meth .ho _ (by decide +kernel)) (ok_ho_holding T) (hr.mono (by decide)) (b_ho_holding T) .nil pass0)) (blkOk_by (N := ["_law_pot_here", "_law_many", "_law_offers_here", "_law_light_here", "_law_held_here", "_law_slacks", "_law_due", "_law_number", "_law_pair", "_law_offer", "_law_other", "_law_kept", "_law_alike", "_law_a", "_law_b", "_law_price"]) (own := [("_law_number", 7)]) (sc := defScope (Dn.sm .law_right)) (by decide +kernel)) (fun _ _ _ _ _ => (by exact (pg_name (i := 7) sc_law_right.nd rfl (Or.inl rfl)))) (fun _ _ _ _ _ => (by exact pts_nil)) (fun _ _ _ _ _ => (by exact (pe_cmpR op_in_seq (pv 7) (pv 11) rfl)))) pa_nil))))) (pss_one (ps_ret pe_bl)) pss_nil)
    (pss_cons (ps_setLc (i := 12) (own := [("_law_a", 13), ("_law_b", 14), ("_law_price", 15)]) (g := gTup K 3 (gCons (gName 13) (gCons (gName 14) (gCons (gName 15) gNil)))) (tt := tYes) (te := (tTup (tCons (tVar 13) (tCons (tVar 14) (tCons (tC (.int 7)) tNil))))) rfl sc_law_right.nd rfl rfl (sw_true rfl rfl rfl (by decide +kernel)) (pi_list (pv 2)) (blkOk_by (N := ["_law_pot_here", "_law_many", "_law_offers_here", "_law_light_here", "_law_held_here", "_law_slacks", "_law_due", "_law_number", "_law_pair", "_law_offer", "_law_other", "_law_kept", "_law_alike", "_law_a", "_law_b", "_law_price"]) (own := [("_law_a", 13), ("_law_b", 14), ("_law_price", 15)]) (sc := defScope (Dn.sm .law_right)) (by decide +kernel)) (fun _ _ _ _ _ => (by exact (pg_tup rfl (pgs_cons (pg_name (i := 13) sc_law_right.nd rfl (Or.inl rfl)) (pgs_cons (pg_name (i := 14) sc_law_right.nd rfl (Or.inl rfl)) (pgs_cons (pg_name (i := 15) sc_law_right.nd rfl (Or.inl rfl)) pgs_nil)))))) (fun _ _ _ _ _ => (by exact pts_nil)) (fun _ _ _ _ _ => (by exact (pe_tup (pa_cons (pv 13) (pa_cons (pv 14) (pa_cons pe_int pa_nil)))))))
    (pss_one (ps_ret (pe_cmpR (op_eqD hr.units) (pe_meth0 (pe_call (ok_law_light T) (hr.mono (by decide)) rfl (T.glF _ (by decide +kernel)) (T.fn .law_light).kp (b_law_light T) .nil pass0 (pa_cons (pv 1) (pa_cons (pv 12) pa_nil))) (T.cls .li) (T.meth .li _ (by decide +kernel)) (ok_li_kept T) (hr.mono (by decide)) (b_li_kept T) .nil pass0) (pe_call (ok_law_firsts T) (hr.mono (by decide)) rfl (T.glF _ (by decide +kernel)) (T.fn .law_firsts).kp (b_law_firsts T) .nil pass0 (pa_cons (pv 1) (pa_cons (pv 12) pa_nil))) (nomark _)))))))))))))), ?_⟩)
  · obtain ⟨p, l, C, m, o, refs, offs, rfl, _⟩ := h; rfl
  · obtain ⟨p, l, C, m, o, refs, offs, rfl, hP, hC, ho, hno, ht, hok, hm, hol, k⟩ := h
    refine q_par (k_cons2 (c_fn (args1 (vv rfl) (args1 (vv rfl) args0)) ⟨m, o, refs, offs, rfl, ho, ht, hok, hm, hol, fun H1 a sp S hL1 e1 hfa => ?_⟩))
    refine c_fn (args1 (vv rfl) (args1 (vv rfl) args0)) ⟨m, o, refs, offs, rfl, e1 _ _ ho, ht.keep (TK.ex e1), hok, hm, hol, fun H2 b spb Sb hB2 e2 hfb => ⟨_, _, rfl, ?_⟩⟩
    have e02 := e1.trans e2
    have hL2 := hL1.ex e2
    have dis : ∀ q, Hf b q → ¬ Lf a q := fun q h1 h2 => Lf.some_ hL1.at_ h2 (hfb q h1)
    have hfb0 : ∀ q, Hf b q → H q = none := fun q hq => by
      cases z : H q with
      | none => rfl
      | some x => have := e1 _ _ z; rw [hfb q hq] at this; cases this
    have few := hL2.few
    refine q_setK (c_liV hL2.at_ (by decide +kernel) (vv rfl) args0 ⟨a, m, m + offs.length, offs, sp, S, 20 * offs.length, rfl, hL2, by omega, by omega, by omega, fun H3 S3 qs fs ps hL3 k3 hqs hfs hps hpok hfm => ?_⟩)
    have e03 : Ex H H3 := e02.keepF k3 hfa
    have hB3 := hB2.keepX k3 (Lf.ld hL2.at_) dis
    refine q_setK (cb_of (k_lcT (c_liV hL3.at_ (by decide +kernel) (vv rfl) args0 ⟨a, m, m + offs.length, offs, sp, S3, _, rfl, hL3, by omega, fun ns qn H4 e4 hqn hpm hso => ?_⟩)))
    have hnl : ∀ k ∈ ns, k < offs.length := fun k hk => by have := hL3.lh.lt ((mem_in hpm k).mp hk); rw [es_len] at this; exact this
    have nsl : ns.length ≤ 63 := by have := hpm.length_eq; rw [List.length_map] at this; omega
    refine nl_lcR (tl := tC (.ref qn)) (ks := ns) (φ := iV) (pr := fun k => decide (fs[k]? = some none)) (g := iV) (R := fun l' H5 => l' = qn ∧ H5 = H4) (fun Q z => vc _ (z _ _ ⟨rfl, rfl⟩)) (fun l' H5 z => by rw [z.1, z.2]; exact hqn) (by omega) (fun _ => rfl) (fun l' H5 z k hk H6 e6 => ?_) (fun l' H5 z k hk _ H6 e6 => vv rfl) (fun l' H5 d H6 z hd e6 hd6 => ?_)
    · obtain ⟨rfl, rfl⟩ := z
      obtain ⟨fo, hfo⟩ : ∃ fo, fs[k]? = some fo := ⟨_, List.getElem?_eq_getElem (by have := hnl k hk; omega)⟩
      refine L2.Ans.to (a_test (v_isN (v_ixU (v := oI fo) (vv rfl) (e6 _ _ (e4 _ _ hqs)) (vv rfl) (by rw [List.getElem?_map, hfo]; rfl)))) ?_
      rw [hfo]
      cases fo with
      | none => simp [oI]
      | some i => simp [oI]
    obtain ⟨rfl, rfl⟩ := z
    refine ⟨d, _, rfl, .inl ⟨SqL.of hd6, fun qd hqd => ?_⟩⟩
    have hdue : upd H6 qd (.tup ((ns.filter fun k => decide (fs[k]? = some none)).map iV)) qd = some (.tup ((ns.filter fun k => decide (fs[k]? = some none)).map iV)) := upd_same
    have e37 : Ex H3 (upd H6 qd (.tup ((ns.filter fun k => decide (fs[k]? = some none)).map iV))) := (e4.trans e6).trans (Ex.new hqd)
    show tSeq _ _ _ _ (upd H6 qd (.tup ((ns.filter fun k => decide (fs[k]? = some none)).map iV)))
    generalize upd H6 qd (.tup ((ns.filter fun k => decide (fs[k]? = some none)).map iV)) = H7 at hdue e37 ⊢
    have hL7 := hL3.ex e37
    have hB7 := hB3.ex e37
    have e07 := e03.trans e37
    refine q_setK (k_tup2 (c_liV hL7.at_ (by decide +kernel) (vv rfl) args0 ⟨a, m, m + offs.length, offs, sp, S3, _, rfl, hL7, by omega, fun ns2 qk H8 e8 hqk hpm2 hso2 => ?_⟩))
    refine c_liV (hL7.ex e8).at_ (by decide +kernel) (vv rfl) args0 ⟨a, m, m + offs.length, offs, sp, S3, _, rfl, hL7.ex e8, by omega, by omega, by omega, fun H9 S9 qp ws ps2 hL9 k9 hqp0 hqp hpa hps2 hpok2 => ⟨by show 2 ≤ sizeLine; decide, fun qt hqt => ?_⟩⟩
    have e08 := e07.trans e8
    have e09 : Ex H H9 := e08.keepF k9 hfa
    have tk89 : TK H8 H9 := KeepF.tk (hL7.ex e8).at_ k9
    have hB9 := (hB7.ex e8).keepX k9 (Lf.ld (hL7.ex e8).at_) dis
    have eN := Ex.new (o := .tup [.ref qk, .ref qp]) hqt
    have e0A := e09.trans eN
    have hBA := hB9.ex eN
    have hqtA : upd H9 qt (.tup [.ref qk, .ref qp]) qt = some (.tup [.ref qk, .ref qp]) := upd_same
    have hqkA := eN _ _ (tk89 _ _ hqk)
    have hqpA := eN _ _ hqp
    have hpaA := hpa.keep (TK.ex eN)
    have hdueA := eN _ _ (tk89 _ _ (e8 _ _ hdue))
    show tSeq _ _ _ _ (upd H9 qt (.tup [.ref qk, .ref qp]))
    generalize upd H9 qt (.tup [.ref qk, .ref qp]) = HA at e0A hBA hqtA hqkA hqpA hpaA hdueA ⊢
    refine q_whenK (k_or (k_test (k_op (c_hoV hBA.at_ (by decide +kernel) (vv rfl) args0 ⟨b, m, m + offs.length, esOf offs, spb, Sb, _, rfl, hBA, by omega, by rw [es_len]; omega, by rw [es_len]; omega, fun HB SB qh nh hBB kB hqh hnh hmem => ⟨_, rfl, ?_⟩⟩))))
    have hdn : nh = ns.filter fun k => decide (fs[k]? = some none) := law_due hL3 hpm hso hps hpok hfm hnh hmem
    have tkB : TK HA HB := Hf.tk hBA.at_ kB
    have e0B : Ex H HB := e0A.keepF kB hfb0
    refine r_neT hqh (hdn ▸ tkB _ _ hdueA) ⟨false, rfl, iteF ?_⟩
    refine k_test (k_op (k_fn (k_consV (vv rfl) (k_cons1 (cb_ofV (vv rfl) ⟨o, refs, rfl, .inl ⟨SqL.of (e0B _ _ ho), fun qo hqo => k_consV (vv rfl) ?_⟩⟩)))))
    have eC := Ex.new (o := .tup refs) hqo
    have tkC := tkB.trans (TK.ex eC)
    have htC := (ht.keep (TK.ex e0B)).keep (TK.ex eC)
    refine ⟨m, qo, qt, offs, ns2, qk, qp, ws, ps2, rfl, ⟨refs, upd_same, htC⟩, tkC _ _ hqtA, tkC _ _ hqkA, tkC _ _ hqpA, hpaA.keep tkC, hso2, fun k hk => by have := hL3.lh.lt ((mem_in hpm2 k).mp hk); rw [es_len] at this; exact this, law_fo hL3 hpm2, hL3.lh.O.ends, by omega, by omega, hps2.trans (law_outs hL3 hpm2), law_reason hL3 hpm2 hps2 hpok2, fun HD eD => ⟨true, true, rfl, rfl, false, rfl, iteF ?_⟩⟩
    have e0D := (e0B.trans eC).trans eD
    have hBD := (hBB.ex eC).ex eD
    refine q_whenK (k_test (k_op (k_fn (k_consV (vv rfl) (k_cons1 (cb_of (nl_pairs (vv rfl) (e0D _ _ ho) (ht.keep (TK.ex e0D)) (by omega) (fun _ => rfl) (fun _ => rfl) fun d' HE refs' eE hdE htE => ⟨d', refs', rfl, .inl ⟨SqL.of hdE, fun q2 hq2 => ?_⟩⟩)))))))
    have eE2 := eE.trans (Ex.new (o := .tup refs') hq2)
    refine k_cons1 (c_hoV (hBD.ex eE2).at_ (by decide +kernel) (vv rfl) args0 ⟨b, m, m + offs.length, esOf offs, spb, SB, _, rfl, hBD.ex eE2, by omega, by rw [es_len]; omega, fun HF qp2 ws2 eF hqp2 hrea => ?_⟩)
    refine ⟨m, q2, qp2, esOf offs, ws2, rfl, (TupsAt.e2 (q := q2) upd_same (htE.keep (TK.ex (Ex.new hq2)))).ex eF, hqp2, hrea, by rw [es_len]; omega, by omega, fun HG eG => ⟨true, true, rfl, rfl, false, rfl, iteF ?_⟩⟩
    have e0G := ((e0D.trans eE2).trans eF).trans eG
    clear hBD hBB hBA hB9 hB7 hB3 hB2 hpaA hdueA hqpA hqkA hqtA hL9 hL7 hL2 hL1 hqp hpa
    refine q_setK (c_fn (args1 (vv rfl) (args1 (vv rfl) args0)) ⟨p, l, C, m, o, refs, offs, rfl, hP.ex e0G, hC, e0G _ _ ho, hno, ht.keep (TK.ex e0G), hok, hol, fun HI f refs2 offs2 hf0 hfI htI hok2 hlen2 hPI kI => ?_⟩)
    have hoI := kI _ _ (e0G _ _ ho) hno
    have htO := (ht.keep (TK.ex e0G)).keep (Pf.tk (hP.ex e0G) kI)
    refine q_setK (k_meth (c_fn (args1 (vv rfl) (args1 (vv rfl) args0)) ⟨m, f, refs2, offs2, rfl, hfI, htI, hok2, hm, by omega, fun HJ a2 sp2 S2 hLJ eJ hfa2 => li_rcv hLJ.at_ (by decide +kernel) ⟨a2, m, m + offs2.length, offs2, sp2, S2, _, rfl, hLJ, by have := hLJ.few; omega, fun nk qk2 HK eK hqk2 hpm3 hso3 => ?_⟩⟩))
    have eIK := eJ.trans eK
    refine q_whenK (k_notB (k_cbT (k_meth (c_fn (args1 (vv rfl) (args1 (vv rfl) args0)) ⟨m, f, refs2, offs2, rfl, eIK _ _ hfI, htI.keep (TK.ex eIK), hok2, hm, by omega, fun HL b2 spb2 Sb2 hBL eL hfb2 => ho_rcv hBL.at_ (by decide +kernel) ⟨b2, m, m + offs2.length, esOf offs2, spb2, Sb2, _, rfl, hBL, by omega, by rw [es_len]; omega, by rw [es_len]; omega, fun HM SM qm nh2 hBM kM hqm hnh2 hmem2 => ?_⟩⟩))))
    have eIM : Ex HK HM := eL.keepF kM hfb2
    have nkl : nk.length ≤ 63 := by have h1 := hpm3.length_eq; have h2 := hLJ.few; rw [List.length_map] at h1; omega
    have nhl : nh2.length ≤ 63 := by
      have := LC.nodup_len (esOf offs2).length nh2 (hnh2.imp fun h z => by omega) fun k hk => ((hmem2 k).mp hk).1
      rw [es_len] at this; omega
    refine ve_allU (tl := tC (.ref qm)) (ks := nh2) (φ := iV) vc hqm (by omega) (fun _ => rfl) (fun k hk HN eN => ?_) _ fun HN eN => ⟨true, rfl, iteF ?_⟩
    · have hkk : k ∈ nk := (mem_in hpm3 k).mpr (LC.Br.kept (hLJ.ch.span pl_len) ((hmem2 k).mp hk).1 ((hmem2 k).mp hk).2)
      rw [← decide_eq_true hkk]
      exact v_inT (vv rfl) (vv rfl) (eN _ _ (eIM _ _ hqk2))
    have eIN := (eIK.trans eIM).trans eN
    show tSeq _ _ _ [some (.ref p), some (.int (m : Nat)), some (.ref o), some (.ref a.l), some (.ref b.l), some (.ref qs), some (.ref qd), none, some (.ref qt), none, some (.ref f), some (.ref qk2), none, none, none, none] _
    refine q_setK (nl_alike (vv rfl) (eIN _ _ hoI) (htO.keep (TK.ex eIN)) (by omega) (fun _ _ _ => rfl) (fun _ _ _ => ⟨rfl, rfl⟩) fun d3 HR refs3 hd3 eR hdR htR => ?_)
    have hlA : (offs.map alike).length = offs.length := List.length_map _
    refine ret_op (k_meth (c_fn (args1 (vv rfl) (args1 (vv rfl) args0)) ⟨m, d3, refs3, offs.map alike, rfl, hdR, htR, alike_ok hok, hm, by omega, fun HS a3 sp3 S3' hLS eS hfa3 => li_rcv hLS.at_ (by decide +kernel) ⟨a3, m, m + (offs.map alike).length, offs.map alike, sp3, S3', _, rfl, hLS, by have := hLS.few; omega, fun n3 q3 HT eT hq3 hpm4 hso4 => ?_⟩⟩))
    have eRT := eS.trans eT
    refine c_fn (args1 (vv rfl) (args1 (vv rfl) args0)) ⟨m, d3, refs3, offs.map alike, rfl, eRT _ _ hdR, htR.keep (TK.ex eRT), alike_ok hok, hm, by omega, fun HU q4 L4 eU hq4 hfk => ?_⟩
    have := law_first hLS (alike_pr offs) hpm4 hso4 hfk
    subst this
    exact r_eqT (eU _ _ hq3) hq4 (k HU (hPI.ex (((eIN.trans eR).trans eRT).trans eU)))
end
end TC
namespace TC
open PySem PySem.Spec PyProof.Rows L2
section
variable {P : Program} {w : World} {K : PySem.W.Frag} {mg : Str → Option Value} {base : Heap} {H H' H0 : Hp} {σ : L2.St} {te : TE} {g : TG} {D : Ends} {t1 tz : TS} {t : TT}
theorem q_asgK (h : te σ H fun v H1 => g v σ H1 fun σ2 H2 => tz D σ2 H2) : tSeq (tAsg te g) tz D σ H := h
theorem s_whenK (h : t σ H fun b H1 => if b = true then t1 D σ H1 else D.nx σ H1) : tIfS t t1 tNext D σ H := h
def spLaw (K : PySem.W.Frag) : Sp := fun vs H Q _ => ∃ (a : Addr) (ns : List Int), vs = [.ref a] ∧ SqL K H a (ns.map V.int) ∧ ns.length ≤ 63 ∧ ∀ H', Q (.bl true) H'
theorem ok_law (T : Tx w K mg) : Ok P w K mg base 15 .law (spLaw K) := by
  refine T.okd .law sc_law (fun vs H Q E h => ?_) (fun cdv A0 outer s0 H vs Q E hr h => ⟨_, (pss_cons (ps_set (i := 1) sc_law.nd rfl (Or.inl rfl) (pe_call (ok_law_pot T) (hr.mono (by decide)) rfl (T.glF _ (by decide +kernel)) (T.fn .law_pot).kp (b_law_pot T) .nil pass0 (pa_cons (pv 0) pa_nil)))
    (pss_cons (ps_for PassesOwn.never rfl (pi_range1 (by rfl) (T.free _ (by decide +kernel)) (pa_cons pe_int pa_nil)) (pg_name (i := 2) sc_law.nd rfl (Or.inl rfl)) (pss_cons (ps_asg (pe_call (ok_law_offers T) (hr.mono (by decide)) rfl (T.glF _ (by decide +kernel)) (T.fn .law_offers).kp (b_law_offers T) .nil pass0 (pa_cons (pv 1) pa_nil)) (pg_tup rfl (pgs_cons (pg_name (i := 3) sc_law.nd rfl (Or.inl rfl)) (pgs_cons (pg_name (i := 4) sc_law.nd rfl (Or.inl rfl)) pgs_nil))))
    (pss_one (ps_if (pt_not (pt_val (pe_call (ok_law_right T) (hr.mono (by decide)) rfl (T.glF _ (by decide +kernel)) (T.fn .law_right).kp (b_law_right T) .nil pass0 (pa_cons (pv 1) (pa_cons (pv 3) (pa_cons (pv 4) pa_nil)))))) (pss_one (ps_ret pe_bl)) pss_nil))))
    (pss_one (ps_ret pe_bl)))), ?_⟩)
  · obtain ⟨a, ns, rfl, _⟩ := h; rfl
  · obtain ⟨a, ns, rfl, hS, hl, k⟩ := h
    refine q_setK (c_fn (args1 (vv rfl) args0) ⟨a, ns, rfl, hS, hl, fun H1 p l e1 hP1 => ?_⟩)
    refine q_forR (n := 2) (args1 (vc (v := .int ((2 : Nat) : Int))) args0) (by decide) (fun i σ' H' => ∃ (o2 o3 o4 : Option V), σ' = [some (.ref a), some (.ref p), o2, o3, o4] ∧ PotAt H' p l (i * 500)) ⟨_, _, _, rfl, hP1.mono (Nat.zero_le _)⟩ ?_ (fun σ' H' _ => s_ret (v := .bl true) vc (k H'))
    rintro i _ H2 hi ⟨o2, o3, o4, rfl, hP2⟩
    refine q_asgK (c_fn (args1 (vv rfl) args0) ⟨p, l, i * 500, rfl, hP2, by omega, fun H3 t m o refs offs ht ho0 ho htt hok hm hol hP3 kk => ⟨t, _, rfl, SqT.of ht, rfl, _, _, rfl, _, _, rfl, rfl, ?_⟩⟩)
    refine s_whenK (k_notB (c_fn (args1 (vv rfl) (args1 (vv rfl) (args1 (vv rfl) args0))) ⟨p, l, i * 500 + 400, m, o, refs, offs, rfl, hP3, by omega, ho, Pf.new hP2 ho0, htt, hok, hm, hol, fun H4 hP4 => ⟨true, rfl, iteF ⟨_, _, _, rfl, hP4.mono (by omega)⟩⟩⟩))
end
end TC
namespace TC
open PySem PySem.Spec PyProof.Rows L2
theorem lawA (K : PySem.W.Frag) : Fad K .law = He.fAd K ("law", none) := rfl
theorem facts {P : Program} {w : World} {K : PySem.W.Frag} {h h0 : Heap} {mg : Str → Option Value} {f : Addr} (X : K.In h) (G : h.Ns mainGlobals mg) (hfa : mg ("law" : Str) = some (.ref f)) (c : He.SaysX fa fn ts [] ex w h0 K) :
    ∃ fd : FuncData, (∀ (s : Shared) (v : Value), BindsTo s fd ⟨[v], []⟩ [("_law_script", v)]) ∧ ∀ base : Heap, K.In base → base.Ns mainGlobals mg → FnOk P w K mg base CX0 15 f fd ["_law_script"] (spLaw K) := by
  have T := tx_of X G c
  have e := hfa.symm.trans (T.glF "law" (by decide +kernel))
  cases e
  have b := FunD.bindsA (ps := ["_law_script"]) (T.fn .law) fun _ _ _ _ _ _ us hl => match us, hl with | [_], _ => rfl
  exact ⟨fdOf K .law, fun s v => b s [v] rfl, fun base _ _ => ok_law T⟩
end TC
open PySem PySem.W PySem.Calls PyProof.Rows
theorem PySem.Challenge.cw_tiedcut_k78_whole_light_and_holding_holds : PySem.Challenge.rw_tiedcut_k78_whole_light_and_holding.Holds := by
  w_on; o_law
  refine HandSHeadRun.head_any (r := OpenLaw.row PySem.Challenge.rw_tiedcut_k78_whole_light_and_holding) (q := view (OpenLaw.row PySem.Challenge.rw_tiedcut_k78_whole_light_and_holding).prog [59]) (H := TC.hk) (ob := TC.ob) (M := 7000) (loose := TC.loose) (d := HandSHeadRun.topDef (OpenLaw.row PySem.Challenge.rw_tiedcut_k78_whole_light_and_holding).prog 59) (kwd := []) TC.ob_eq
    (by kernel_rfl) (fun s => by kernel_rfl) TC.run (by kernel_rfl) (by kernel_rfl) (by kernel_rfl) (by rfl) (by first | assumption | decide +kernel) (by decide +kernel) ⟨rfl, rfl, rfl, rfl, rfl, by decide +kernel⟩ ?hw ?hc
  case hw => w_witness2
  case hc =>
    refine L2.walk_ofE (l := PySem.Challenge.rw_tiedcut_k78_whole_light_and_holding) (n := 63) (k := 15) (x := "_law_script") (CX := L2.CX0) rfl (by decide) (by kernel_rfl) ⟨rfl, by decide, by decide⟩ ?F (fun _ _ _ _ z => z)
    intro w mg fa h Y G hmg0
    obtain ⟨K, KX, c⟩ := Y
    have hmg : mg ("law" : PySem.Str) = some (.ref fa) := by
      have e : (HandSHeadRun.topDef (OpenLaw.row PySem.Challenge.rw_tiedcut_k78_whole_light_and_holding).prog 59).name = ("law" : PySem.Str) := by kernel_rfl
      rw [← e]
      exact hmg0
    obtain ⟨fd, hb, hF⟩ := TC.facts (P := (PySem.Challenge.rw_tiedcut_k78_whole_light_and_holding).prog) (w := w) KX G hmg c
    exact ⟨K, fd, TC.spLaw K, KX, hb, fun H a ns hl _ hS => ⟨a, ns, rfl, hS, hl, fun _ => rfl⟩, hF⟩
