import PyProof.Rows.All
import Wide.All
import OpenK.AllK
import Wide.FinOn
import KE.KStateDown
import Lean
import HandS.ForMost
import HandS.More
import HandS.WordsExc
import HandS.Defaults
import HandS.Head0
import HandS.Head1
import HandS.Head2
import HandS.HeadEnd
import HandS.HeadHook1
import HandS.HeadHook2
import HandS.HeadHook3
import PySem.Challenge.RW_tiedcut_k73_whole_least_price
import HandS.Steps
import HandS.Evl
import HandS.Walk
import HandS.Replace
import HandS.Zip
import HandS.IsInst
import KE.GoesMore
import HandS.Conv
import HandS.TupAny
import HandS.TryOnly
import HandS.SetFor
import HandS.Wide
import HandS.TupSets
import HandS.TupLe
set_option Elab.async false
set_option linter.all false
set_option maxRecDepth 100000
section
set_option maxHeartbeats 0
namespace K73
open PySem PySem.Spec PyProof.Rows L2
def top (i : Nat) : Stmt := PySem.Challenge.pw_tiedcut_k73_whole_least_price.main.body.getD i (.Pass ⟨0, 0, 0, 0⟩)
abbrev s_is_number_shapes : Stmt := top 10
abbrev s_is_kind : Stmt := top 14
abbrev s_is_number_rows : Stmt := top 18
abbrev s_fits_form : Stmt := top 20
abbrev s_is_row : Stmt := top 21
abbrev s_is_deed : Stmt := top 22
abbrev s_points_of : Stmt := top 23
abbrev s_look_row : Stmt := top 24
abbrev s_kind_bit : Stmt := top 27
abbrev s_Strands___init__ : Stmt := inClass (top 28) 0
abbrev s_Strands_put_point : Stmt := inClass (top 28) 1
abbrev s_Strands_is_top : Stmt := inClass (top 28) 3
abbrev s_Strands_flip : Stmt := inClass (top 28) 4
abbrev s_Strands_hand_down : Stmt := inClass (top 28) 6
abbrev s_Strands_gather : Stmt := inClass (top 28) 7
abbrev s_Strands_put_below : Stmt := inClass (top 28) 8
abbrev s_Strands_turn : Stmt := inClass (top 28) 9
abbrev s_Strands_unfold : Stmt := inClass (top 28) 10
abbrev s_Strands_lift : Stmt := inClass (top 28) 11
abbrev s_Strands_hang : Stmt := inClass (top 28) 12
abbrev s_Strands_let_go : Stmt := inClass (top 28) 13
abbrev s_Strands_take_in : Stmt := inClass (top 28) 14
abbrev s_Strands_lead : Stmt := inClass (top 28) 15
abbrev s_Ways___init__ : Stmt := inClass (top 31) 0
abbrev s_Ways_points : Stmt := inClass (top 31) 1
abbrev s_Ways_turn_about : Stmt := inClass (top 31) 6
abbrev s_Ways_are_joined : Stmt := inClass (top 31) 7
abbrev s_Ways_open_way : Stmt := inClass (top 31) 8
abbrev s_Ways_tie : Stmt := inClass (top 31) 9
abbrev s_Ways_open_tie : Stmt := inClass (top 31) 10
abbrev s_Ways_cut : Stmt := inClass (top 31) 11
abbrev s_Ways_inorder : Stmt := inClass (top 31) 15
abbrev s_Ways_is_below : Stmt := inClass (top 31) 16
abbrev s_Ways_is_wanted : Stmt := inClass (top 31) 17
abbrev s_Ways_first_by : Stmt := inClass (top 31) 18
abbrev s_Ways_of_way : Stmt := inClass (top 31) 22
abbrev s_Ways_do_deed : Stmt := inClass (top 31) 23
abbrev s_Ways_look_done : Stmt := inClass (top 31) 24
abbrev s_Ways_do : Stmt := inClass (top 31) 25
abbrev s_look_points : Stmt := top 33
abbrev s_bare_forest : Stmt := top 34
abbrev s_Lightest___init__ : Stmt := inClass (top 35) 0
abbrev s_Lightest_keep_one : Stmt := inClass (top 35) 1
abbrev s_Lightest_let_go : Stmt := inClass (top 35) 2
abbrev s_Lightest_offer : Stmt := inClass (top 35) 3
abbrev s_Lightest_kept : Stmt := inClass (top 35) 4
abbrev s_Lightest_price : Stmt := inClass (top 35) 5
abbrev s_Lightest_way_numbers : Stmt := inClass (top 35) 6
abbrev s_Lightest_paper : Stmt := inClass (top 35) 7
abbrev s_Lightest_slacks : Stmt := inClass (top 35) 8
abbrev s_are_numbers : Stmt := top 37
abbrev s_are_rising : Stmt := top 38
abbrev s_leads : Stmt := top 39
abbrev s_have_ring : Stmt := top 40
abbrev s_is_reason : Stmt := top 41
abbrev s_shows_lightest : Stmt := top 42
abbrev s__law_mixed : Stmt := top 44
abbrev s__law_pot : Stmt := top 45
abbrev s__law_take : Stmt := top 46
abbrev s__law_offers : Stmt := top 47
abbrev s__law_light : Stmt := top 48
abbrev s__law_cheapest : Stmt := top 49
abbrev s__law_shuffled : Stmt := top 50
abbrev s__law_dearer : Stmt := top 51
abbrev s__law_right : Stmt := top 52
abbrev s_law : Stmt := top 53
def d_is_number_shapes : He.DefD := ⟨("is_number_shapes", none), "is_number", "is_number", defArgs s_is_number_shapes, defBody s_is_number_shapes, defScope s_is_number_shapes, [], []⟩
def d_is_kind : He.DefD := ⟨("is_kind", none), "is_kind", "is_kind", defArgs s_is_kind, defBody s_is_kind, defScope s_is_kind, [], []⟩
def d_is_number_rows : He.DefD := ⟨("is_number_rows", none), "is_number", "is_number", defArgs s_is_number_rows, defBody s_is_number_rows, defScope s_is_number_rows, [], []⟩
def d_fits_form : He.DefD := ⟨("fits_form", none), "fits_form", "fits_form", defArgs s_fits_form, defBody s_fits_form, defScope s_fits_form, [], []⟩
def d_is_row : He.DefD := ⟨("is_row", none), "is_row", "is_row", defArgs s_is_row, defBody s_is_row, defScope s_is_row, [], []⟩
def d_is_deed : He.DefD := ⟨("is_deed", none), "is_deed", "is_deed", defArgs s_is_deed, defBody s_is_deed, defScope s_is_deed, [], []⟩
def d_points_of : He.DefD := ⟨("points_of", none), "points_of", "points_of", defArgs s_points_of, defBody s_points_of, defScope s_points_of, [], []⟩
def d_look_row : He.DefD := ⟨("look_row", none), "look_row", "look_row", defArgs s_look_row, defBody s_look_row, defScope s_look_row, [], []⟩
def d_kind_bit : He.DefD := ⟨("kind_bit", none), "kind_bit", "kind_bit", defArgs s_kind_bit, defBody s_kind_bit, defScope s_kind_bit, [], []⟩
def d_Strands___init__ : He.DefD := ⟨("Strands", some "__init__"), "__init__", "Strands.__init__", defArgs s_Strands___init__, defBody s_Strands___init__, defScope s_Strands___init__, [], []⟩
def d_Strands_put_point : He.DefD := ⟨("Strands", some "put_point"), "put_point", "Strands.put_point", defArgs s_Strands_put_point, defBody s_Strands_put_point, defScope s_Strands_put_point, [], []⟩
def d_Strands_is_top : He.DefD := ⟨("Strands", some "is_top"), "is_top", "Strands.is_top", defArgs s_Strands_is_top, defBody s_Strands_is_top, defScope s_Strands_is_top, [], []⟩
def d_Strands_flip : He.DefD := ⟨("Strands", some "flip"), "flip", "Strands.flip", defArgs s_Strands_flip, defBody s_Strands_flip, defScope s_Strands_flip, [], []⟩
def d_Strands_hand_down : He.DefD := ⟨("Strands", some "hand_down"), "hand_down", "Strands.hand_down", defArgs s_Strands_hand_down, defBody s_Strands_hand_down, defScope s_Strands_hand_down, [], []⟩
def d_Strands_gather : He.DefD := ⟨("Strands", some "gather"), "gather", "Strands.gather", defArgs s_Strands_gather, defBody s_Strands_gather, defScope s_Strands_gather, [], []⟩
def d_Strands_put_below : He.DefD := ⟨("Strands", some "put_below"), "put_below", "Strands.put_below", defArgs s_Strands_put_below, defBody s_Strands_put_below, defScope s_Strands_put_below, [], []⟩
def d_Strands_turn : He.DefD := ⟨("Strands", some "turn"), "turn", "Strands.turn", defArgs s_Strands_turn, defBody s_Strands_turn, defScope s_Strands_turn, [], []⟩
def d_Strands_unfold : He.DefD := ⟨("Strands", some "unfold"), "unfold", "Strands.unfold", defArgs s_Strands_unfold, defBody s_Strands_unfold, defScope s_Strands_unfold, [], []⟩
def d_Strands_lift : He.DefD := ⟨("Strands", some "lift"), "lift", "Strands.lift", defArgs s_Strands_lift, defBody s_Strands_lift, defScope s_Strands_lift, [], []⟩
def d_Strands_hang : He.DefD := ⟨("Strands", some "hang"), "hang", "Strands.hang", defArgs s_Strands_hang, defBody s_Strands_hang, defScope s_Strands_hang, [], []⟩
def d_Strands_let_go : He.DefD := ⟨("Strands", some "let_go"), "let_go", "Strands.let_go", defArgs s_Strands_let_go, defBody s_Strands_let_go, defScope s_Strands_let_go, [], []⟩
def d_Strands_take_in : He.DefD := ⟨("Strands", some "take_in"), "take_in", "Strands.take_in", defArgs s_Strands_take_in, defBody s_Strands_take_in, defScope s_Strands_take_in, [], []⟩
def d_Strands_lead : He.DefD := ⟨("Strands", some "lead"), "lead", "Strands.lead", defArgs s_Strands_lead, defBody s_Strands_lead, defScope s_Strands_lead, [], []⟩
def d_Ways___init__ : He.DefD := ⟨("Ways", some "__init__"), "__init__", "Ways.__init__", defArgs s_Ways___init__, defBody s_Ways___init__, defScope s_Ways___init__, [], []⟩
def d_Ways_points : He.DefD := ⟨("Ways", some "points"), "points", "Ways.points", defArgs s_Ways_points, defBody s_Ways_points, defScope s_Ways_points, [], []⟩
def d_Ways_turn_about : He.DefD := ⟨("Ways", some "turn_about"), "turn_about", "Ways.turn_about", defArgs s_Ways_turn_about, defBody s_Ways_turn_about, defScope s_Ways_turn_about, [], []⟩
def d_Ways_are_joined : He.DefD := ⟨("Ways", some "are_joined"), "are_joined", "Ways.are_joined", defArgs s_Ways_are_joined, defBody s_Ways_are_joined, defScope s_Ways_are_joined, [], []⟩
def d_Ways_open_way : He.DefD := ⟨("Ways", some "open_way"), "open_way", "Ways.open_way", defArgs s_Ways_open_way, defBody s_Ways_open_way, defScope s_Ways_open_way, [], []⟩
def d_Ways_tie : He.DefD := ⟨("Ways", some "tie"), "tie", "Ways.tie", defArgs s_Ways_tie, defBody s_Ways_tie, defScope s_Ways_tie, [], []⟩
def d_Ways_open_tie : He.DefD := ⟨("Ways", some "open_tie"), "open_tie", "Ways.open_tie", defArgs s_Ways_open_tie, defBody s_Ways_open_tie, defScope s_Ways_open_tie, [], []⟩
def d_Ways_cut : He.DefD := ⟨("Ways", some "cut"), "cut", "Ways.cut", defArgs s_Ways_cut, defBody s_Ways_cut, defScope s_Ways_cut, [], []⟩
def d_Ways_inorder : He.DefD := ⟨("Ways", some "inorder"), "inorder", "Ways.inorder", defArgs s_Ways_inorder, defBody s_Ways_inorder, defScope s_Ways_inorder, [], []⟩
def d_Ways_is_below : He.DefD := ⟨("Ways", some "is_below"), "is_below", "Ways.is_below", defArgs s_Ways_is_below, defBody s_Ways_is_below, defScope s_Ways_is_below, [], []⟩
def d_Ways_is_wanted : He.DefD := ⟨("Ways", some "is_wanted"), "is_wanted", "Ways.is_wanted", defArgs s_Ways_is_wanted, defBody s_Ways_is_wanted, defScope s_Ways_is_wanted, [], []⟩
def d_Ways_first_by : He.DefD := ⟨("Ways", some "first_by"), "first_by", "Ways.first_by", defArgs s_Ways_first_by, defBody s_Ways_first_by, defScope s_Ways_first_by, [], []⟩
def d_Ways_of_way : He.DefD := ⟨("Ways", some "of_way"), "of_way", "Ways.of_way", defArgs s_Ways_of_way, defBody s_Ways_of_way, defScope s_Ways_of_way, [], []⟩
def d_Ways_do_deed : He.DefD := ⟨("Ways", some "do_deed"), "do_deed", "Ways.do_deed", defArgs s_Ways_do_deed, defBody s_Ways_do_deed, defScope s_Ways_do_deed, [], []⟩
def d_Ways_look_done : He.DefD := ⟨("Ways", some "look_done"), "look_done", "Ways.look_done", defArgs s_Ways_look_done, defBody s_Ways_look_done, defScope s_Ways_look_done, [], []⟩
def d_Ways_do : He.DefD := ⟨("Ways", some "do"), "do", "Ways.do", defArgs s_Ways_do, defBody s_Ways_do, defScope s_Ways_do, [], []⟩
def d_look_points : He.DefD := ⟨("look_points", none), "look_points", "look_points", defArgs s_look_points, defBody s_look_points, defScope s_look_points, [], []⟩
def d_bare_forest : He.DefD := ⟨("bare_forest", none), "bare_forest", "bare_forest", defArgs s_bare_forest, defBody s_bare_forest, defScope s_bare_forest, [], []⟩
def d_Lightest___init__ : He.DefD := ⟨("Lightest", some "__init__"), "__init__", "Lightest.__init__", defArgs s_Lightest___init__, defBody s_Lightest___init__, defScope s_Lightest___init__, [], []⟩
def d_Lightest_keep_one : He.DefD := ⟨("Lightest", some "keep_one"), "keep_one", "Lightest.keep_one", defArgs s_Lightest_keep_one, defBody s_Lightest_keep_one, defScope s_Lightest_keep_one, [], []⟩
def d_Lightest_let_go : He.DefD := ⟨("Lightest", some "let_go"), "let_go", "Lightest.let_go", defArgs s_Lightest_let_go, defBody s_Lightest_let_go, defScope s_Lightest_let_go, [], []⟩
def d_Lightest_offer : He.DefD := ⟨("Lightest", some "offer"), "offer", "Lightest.offer", defArgs s_Lightest_offer, defBody s_Lightest_offer, defScope s_Lightest_offer, [], []⟩
def d_Lightest_kept : He.DefD := ⟨("Lightest", some "kept"), "kept", "Lightest.kept", defArgs s_Lightest_kept, defBody s_Lightest_kept, defScope s_Lightest_kept, [], []⟩
def d_Lightest_price : He.DefD := ⟨("Lightest", some "price"), "price", "Lightest.price", defArgs s_Lightest_price, defBody s_Lightest_price, defScope s_Lightest_price, [], []⟩
def d_Lightest_way_numbers : He.DefD := ⟨("Lightest", some "way_numbers"), "way_numbers", "Lightest.way_numbers", defArgs s_Lightest_way_numbers, defBody s_Lightest_way_numbers, defScope s_Lightest_way_numbers, [], []⟩
def d_Lightest_paper : He.DefD := ⟨("Lightest", some "paper"), "paper", "Lightest.paper", defArgs s_Lightest_paper, defBody s_Lightest_paper, defScope s_Lightest_paper, [], []⟩
def d_Lightest_slacks : He.DefD := ⟨("Lightest", some "slacks"), "slacks", "Lightest.slacks", defArgs s_Lightest_slacks, defBody s_Lightest_slacks, defScope s_Lightest_slacks, [], []⟩
def d_are_numbers : He.DefD := ⟨("are_numbers", none), "are_numbers", "are_numbers", defArgs s_are_numbers, defBody s_are_numbers, defScope s_are_numbers, [], []⟩
def d_are_rising : He.DefD := ⟨("are_rising", none), "are_rising", "are_rising", defArgs s_are_rising, defBody s_are_rising, defScope s_are_rising, [], []⟩
def d_leads : He.DefD := ⟨("leads", none), "leads", "leads", defArgs s_leads, defBody s_leads, defScope s_leads, [], []⟩
def d_have_ring : He.DefD := ⟨("have_ring", none), "have_ring", "have_ring", defArgs s_have_ring, defBody s_have_ring, defScope s_have_ring, [], []⟩
def d_is_reason : He.DefD := ⟨("is_reason", none), "is_reason", "is_reason", defArgs s_is_reason, defBody s_is_reason, defScope s_is_reason, [], []⟩
def d_shows_lightest : He.DefD := ⟨("shows_lightest", none), "shows_lightest", "shows_lightest", defArgs s_shows_lightest, defBody s_shows_lightest, defScope s_shows_lightest, [], []⟩
def d__law_mixed : He.DefD := ⟨("_law_mixed", none), "_law_mixed", "_law_mixed", defArgs s__law_mixed, defBody s__law_mixed, defScope s__law_mixed, [], []⟩
def d__law_pot : He.DefD := ⟨("_law_pot", none), "_law_pot", "_law_pot", defArgs s__law_pot, defBody s__law_pot, defScope s__law_pot, [], []⟩
def d__law_take : He.DefD := ⟨("_law_take", none), "_law_take", "_law_take", defArgs s__law_take, defBody s__law_take, defScope s__law_take, [], []⟩
def d__law_offers : He.DefD := ⟨("_law_offers", none), "_law_offers", "_law_offers", defArgs s__law_offers, defBody s__law_offers, defScope s__law_offers, [], []⟩
def d__law_light : He.DefD := ⟨("_law_light", none), "_law_light", "_law_light", defArgs s__law_light, defBody s__law_light, defScope s__law_light, [], []⟩
def d__law_cheapest : He.DefD := ⟨("_law_cheapest", none), "_law_cheapest", "_law_cheapest", defArgs s__law_cheapest, defBody s__law_cheapest, defScope s__law_cheapest, [], []⟩
def d__law_shuffled : He.DefD := ⟨("_law_shuffled", none), "_law_shuffled", "_law_shuffled", defArgs s__law_shuffled, defBody s__law_shuffled, defScope s__law_shuffled, [], []⟩
def d__law_dearer : He.DefD := ⟨("_law_dearer", none), "_law_dearer", "_law_dearer", defArgs s__law_dearer, defBody s__law_dearer, defScope s__law_dearer, [], []⟩
def d__law_right : He.DefD := ⟨("_law_right", none), "_law_right", "_law_right", defArgs s__law_right, defBody s__law_right, defScope s__law_right, [], []⟩
def d_law : He.DefD := ⟨("law", none), "law", "law", defArgs s_law, defBody s_law, defScope s_law, [], []⟩
def fn : List He.DefD := [d_is_number_shapes, d_is_kind, d_is_number_rows, d_fits_form, d_is_row, d_is_deed, d_points_of, d_look_row, d_kind_bit, d_Strands___init__, d_Strands_put_point, d_Strands_is_top, d_Strands_flip, d_Strands_hand_down, d_Strands_gather, d_Strands_put_below, d_Strands_turn, d_Strands_unfold, d_Strands_lift, d_Strands_hang, d_Strands_let_go, d_Strands_take_in, d_Strands_lead, d_Ways___init__, d_Ways_points, d_Ways_turn_about, d_Ways_are_joined, d_Ways_open_way, d_Ways_tie, d_Ways_open_tie, d_Ways_cut, d_Ways_inorder, d_Ways_is_below, d_Ways_is_wanted, d_Ways_first_by, d_Ways_of_way, d_Ways_do_deed, d_Ways_look_done, d_Ways_do, d_look_points, d_bare_forest, d_Lightest___init__, d_Lightest_keep_one, d_Lightest_let_go, d_Lightest_offer, d_Lightest_kept, d_Lightest_price, d_Lightest_way_numbers, d_Lightest_paper, d_Lightest_slacks, d_are_numbers, d_are_rising, d_leads, d_have_ring, d_is_reason, d_shows_lightest, d__law_mixed, d__law_pot, d__law_take, d__law_offers, d__law_light, d__law_cheapest, d__law_shuffled, d__law_dearer, d__law_right, d_law]
def fa : List He.Fa := [.glo "is_number_shapes",
  .glo "is_kind",
  .glo "is_number_rows",
  .glo "fits_form",
  .glo "is_row",
  .glo "is_deed",
  .glo "points_of",
  .glo "look_row",
  .glo "kind_bit",
  .glo "look_points",
  .glo "bare_forest",
  .glo "are_numbers",
  .glo "are_rising",
  .glo "leads",
  .glo "have_ring",
  .glo "is_reason",
  .glo "shows_lightest",
  .glo "_law_mixed",
  .glo "_law_pot",
  .glo "_law_take",
  .glo "_law_offers",
  .glo "_law_light",
  .glo "_law_cheapest",
  .glo "_law_shuffled",
  .glo "_law_dearer",
  .glo "_law_right",
  .glo "law",
  .glo "Strands",
  .glo "Ways",
  .glo "Lightest",
  .glo "FORMS",
  .glo "DEEDS",
  .glo "DONE",
  .str "KINDS_forests" "abcdefgh",
  .str "KINDS_strands" "abcdefgh",
  .free "isinstance",
  .free "int",
  .free "bool",
  .free "str",
  .free "tuple",
  .free "len",
  .free "all",
  .free "zip",
  .free "sum",
  .free "max",
  .free "reversed",
  .free "range",
  .free "list",
  .free "set",
  .free "sorted",
  .free "enumerate",
  .free "abs",
  .cls "Strands",
  .mkr "Strands",
  .noat "Strands" "left",
  .noat "Strands" "right",
  .noat "Strands" "above",
  .noat "Strands" "flipped",
  .noat "Strands" "later",
  .noat "Strands" "worth",
  .noat "Strands" "bits",
  .noat "Strands" "many",
  .noat "Strands" "total",
  .noat "Strands" "most",
  .noat "Strands" "all_bits",
  .noat "Strands" "hung",
  .noat "Strands" "all_many",
  .noat "Strands" "all_total",
  .noat "Strands" "steps",
  .cls "Ways",
  .mkr "Ways",
  .noat "Ways" "strands",
  .cls "Lightest",
  .mkr "Lightest",
  .noat "Lightest" "many_points",
  .noat "Lightest" "offered",
  .noat "Lightest" "ways",
  .noat "Lightest" "spots",
  .noat "Lightest" "numbers",
  .meth "Strands" "put_point",
  .meth "Strands" "is_top",
  .meth "Strands" "flip",
  .meth "Strands" "hand_down",
  .meth "Strands" "gather",
  .meth "Strands" "put_below",
  .meth "Strands" "turn",
  .meth "Strands" "unfold",
  .meth "Strands" "lift",
  .meth "Strands" "hang",
  .meth "Strands" "let_go",
  .meth "Strands" "take_in",
  .meth "Strands" "lead",
  .meth "Ways" "points",
  .meth "Ways" "turn_about",
  .meth "Ways" "are_joined",
  .meth "Ways" "open_way",
  .meth "Ways" "tie",
  .meth "Ways" "open_tie",
  .meth "Ways" "cut",
  .meth "Ways" "inorder",
  .meth "Ways" "is_below",
  .meth "Ways" "is_wanted",
  .meth "Ways" "first_by",
  .meth "Ways" "of_way",
  .meth "Ways" "do_deed",
  .meth "Ways" "look_done",
  .meth "Ways" "do",
  .meth "Lightest" "keep_one",
  .meth "Lightest" "let_go",
  .meth "Lightest" "offer",
  .meth "Lightest" "kept",
  .meth "Lightest" "price",
  .meth "Lightest" "way_numbers",
  .meth "Lightest" "paper",
  .meth "Lightest" "slacks"]
def deedsD : List He.Dv := [.str "new", .str "put", .str "paint", .str "tie", .str "cut", .str "add", .str "spread"]
def doneD : List He.Dv := [.str "new", .str "put", .str "paint", .str "tie", .str "cut", .str "add", .str "joined", .str "way", .str "total", .str "many", .str "most", .str "first", .str "reach", .str "kth", .str "meet", .str "sum", .str "size"]
def formsD : List (Str × He.Dv) := [("new", .str "wk"), ("put", .str "pw"), ("paint", .str "pk"), ("tie", .str "pp"), ("cut", .str "pp"), ("add", .str "ppw"), ("spread", .str "pqw"), ("joined", .str "pp"), ("way", .str "pp"), ("total", .str "pp"), ("many", .str "pp"), ("most", .str "pp"), ("first", .str "ppk"), ("reach", .str "ppw"), ("kth", .str "ppn"), ("meet", .str "ppp"), ("sum", .str "pq"), ("size", .str "pq"), ("top", .str "pq"), ("least", .str "pqk")]
def formsK : List Str := ["new", "put", "paint", "tie", "cut", "add", "spread", "joined", "way", "total", "many", "most", "first", "reach", "kth", "meet", "sum", "size", "top", "least"]
def ts : List He.Tab := [(fun K => He.ga K "FORMS", formsK)]
def ex (K : PySem.W.Frag) : Bool := He.tupB K "DEEDS" deedsD && (He.tupB K "DONE" doneD && He.valsB K (He.ga K "FORMS") formsD)
/-! ### the Hook: facts, defs, tables, one more Bool -/
abbrev AlY : Type := He.AlT × Bool
def obsY (n : Nat) (g : Addr → Option Obj) : AlY := (He.obsTG n fa fn ts g, ex (He.frG g (He.asD g n)))
structure SaysY (w : World) (K : PySem.W.Frag) : Prop where
  t : He.SaysT fa fn ts w K
  x : ex K = true
theorem saysY_of {n : Nat} {w : World} {h : Heap} (e : obsY n h.get? = (He.valT fn ts w, true)) : SaysY w (He.frG h.get? (He.asD h.get? n)) :=
  ⟨congrArg (fun z : AlY => z.1) e, congrArg (fun z : AlY => z.2) e⟩
def hk : PySem.W.Hook where
  α := AlY
  obs := fun s => obsY 4 s.heap.get?
  val := fun w => (He.valT fn ts w, true)
  says := fun w h => ∃ K : PySem.W.Frag, K.In h ∧ SaysY w K
  of := fun _ _ e => ⟨_, He.frG_in, saysY_of e⟩
  keeps := fun _ _ _ ⟨K, hK, c⟩ k => ⟨K, PySem.W.Frag.In.keeps hK k, c⟩
def ob (s : PySem.W.SharedT) : AlY := obsY 4 (HandSHeadRun.getT s)
theorem ob_eq (s : PySem.W.SharedT) : ob s = hk.obs s.abs := by
  have e : HandSHeadRun.getT s = s.abs.heap.get? := funext (HandSHeadRun.getT_eq s)
  show obsY 4 (HandSHeadRun.getT s) = obsY 4 s.abs.heap.get?
  rw [e]
abbrev R : PySem.W.OpenRow := PySem.W.OpenLaw.row PySem.Challenge.rw_tiedcut_k73_whole_least_price

def loose0 : List Str := ["_wall", "TreeError", "NoRow", "NoPoint", "Ring", "NoTie", "Apart", "NoPlace", "is_number", "is_number_shapes", "KINDS_forests", "is_kind", "FORMS", "DEEDS", "is_number_rows", "fits_form", "is_row", "is_deed", "points_of", "look_row", "KINDS_strands", "kind_bit", "Strands", "DONE", "Ways", "look_points", "bare_forest", "Lightest", "are_numbers", "are_rising"]
def loose1 : List Str := ["leads", "have_ring", "is_reason", "shows_lightest", "_law_mixed", "_law_pot", "_law_take", "_law_offers", "_law_light", "_law_cheapest", "_law_shuffled", "_law_dearer", "_law_right"]
def loose : List Str := loose0 ++ loose1
abbrev aS (K : PySem.W.Frag) : Addr := He.ga K "Strands"
abbrev aW (K : PySem.W.Frag) : Addr := He.ga K "Ways"
abbrev aL (K : PySem.W.Frag) : Addr := He.ga K "Lightest"
/-- what the walks ask of the top -/
structure Txt (w : World) (K : PySem.W.Frag) (mg : Str → Option Value) : Prop where
  g_is_number_shapes : mg "is_number_shapes" = some (.ref (He.ga K "is_number_shapes"))
  g_is_kind : mg "is_kind" = some (.ref (He.ga K "is_kind"))
  g_is_number_rows : mg "is_number_rows" = some (.ref (He.ga K "is_number_rows"))
  g_fits_form : mg "fits_form" = some (.ref (He.ga K "fits_form"))
  g_is_row : mg "is_row" = some (.ref (He.ga K "is_row"))
  g_is_deed : mg "is_deed" = some (.ref (He.ga K "is_deed"))
  g_points_of : mg "points_of" = some (.ref (He.ga K "points_of"))
  g_look_row : mg "look_row" = some (.ref (He.ga K "look_row"))
  g_kind_bit : mg "kind_bit" = some (.ref (He.ga K "kind_bit"))
  g_look_points : mg "look_points" = some (.ref (He.ga K "look_points"))
  g_bare_forest : mg "bare_forest" = some (.ref (He.ga K "bare_forest"))
  g_are_numbers : mg "are_numbers" = some (.ref (He.ga K "are_numbers"))
  g_are_rising : mg "are_rising" = some (.ref (He.ga K "are_rising"))
  g_leads : mg "leads" = some (.ref (He.ga K "leads"))
  g_have_ring : mg "have_ring" = some (.ref (He.ga K "have_ring"))
  g_is_reason : mg "is_reason" = some (.ref (He.ga K "is_reason"))
  g_shows_lightest : mg "shows_lightest" = some (.ref (He.ga K "shows_lightest"))
  g__law_mixed : mg "_law_mixed" = some (.ref (He.ga K "_law_mixed"))
  g__law_pot : mg "_law_pot" = some (.ref (He.ga K "_law_pot"))
  g__law_take : mg "_law_take" = some (.ref (He.ga K "_law_take"))
  g__law_offers : mg "_law_offers" = some (.ref (He.ga K "_law_offers"))
  g__law_light : mg "_law_light" = some (.ref (He.ga K "_law_light"))
  g__law_cheapest : mg "_law_cheapest" = some (.ref (He.ga K "_law_cheapest"))
  g__law_shuffled : mg "_law_shuffled" = some (.ref (He.ga K "_law_shuffled"))
  g__law_dearer : mg "_law_dearer" = some (.ref (He.ga K "_law_dearer"))
  g__law_right : mg "_law_right" = some (.ref (He.ga K "_law_right"))
  g_law : mg "law" = some (.ref (He.ga K "law"))
  g_Strands : mg "Strands" = some (.ref (He.ga K "Strands"))
  g_Ways : mg "Ways" = some (.ref (He.ga K "Ways"))
  g_Lightest : mg "Lightest" = some (.ref (He.ga K "Lightest"))
  g_FORMS : mg "FORMS" = some (.ref (He.ga K "FORMS"))
  g_DEEDS : mg "DEEDS" = some (.ref (He.ga K "DEEDS"))
  g_DONE : mg "DONE" = some (.ref (He.ga K "DONE"))
  k_KINDS_forests : ∃ t, mg "KINDS_forests" = some (.str "abcdefgh" t)
  k_KINDS_strands : ∃ t, mg "KINDS_strands" = some (.str "abcdefgh" t)
  z_isinstance : mg "isinstance" = none
  z_int : mg "int" = none
  z_bool : mg "bool" = none
  z_str : mg "str" = none
  z_tuple : mg "tuple" = none
  z_len : mg "len" = none
  z_all : mg "all" = none
  z_zip : mg "zip" = none
  z_sum : mg "sum" = none
  z_max : mg "max" = none
  z_reversed : mg "reversed" = none
  z_range : mg "range" = none
  z_list : mg "list" = none
  z_set : mg "set" = none
  z_sorted : mg "sorted" = none
  z_enumerate : mg "enumerate" = none
  z_abs : mg "abs" = none
  clS : Cls K (aS K)
  mkS : Mk K (aS K) (He.ma K (aS K) "__init__")
  nS_left : NoAttr K (aS K) "left"
  nS_right : NoAttr K (aS K) "right"
  nS_above : NoAttr K (aS K) "above"
  nS_flipped : NoAttr K (aS K) "flipped"
  nS_later : NoAttr K (aS K) "later"
  nS_worth : NoAttr K (aS K) "worth"
  nS_bits : NoAttr K (aS K) "bits"
  nS_many : NoAttr K (aS K) "many"
  nS_total : NoAttr K (aS K) "total"
  nS_most : NoAttr K (aS K) "most"
  nS_all_bits : NoAttr K (aS K) "all_bits"
  nS_hung : NoAttr K (aS K) "hung"
  nS_all_many : NoAttr K (aS K) "all_many"
  nS_all_total : NoAttr K (aS K) "all_total"
  nS_steps : NoAttr K (aS K) "steps"
  clW : Cls K (aW K)
  mkW : Mk K (aW K) (He.ma K (aW K) "__init__")
  nW_strands : NoAttr K (aW K) "strands"
  clL : Cls K (aL K)
  mkL : Mk K (aL K) (He.ma K (aL K) "__init__")
  nL_many_points : NoAttr K (aL K) "many_points"
  nL_offered : NoAttr K (aL K) "offered"
  nL_ways : NoAttr K (aL K) "ways"
  nL_spots : NoAttr K (aL K) "spots"
  nL_numbers : NoAttr K (aL K) "numbers"
  mS_put_point : Meth K (aS K) "put_point" (He.ma K (aS K) "put_point")
  mS_is_top : Meth K (aS K) "is_top" (He.ma K (aS K) "is_top")
  mS_flip : Meth K (aS K) "flip" (He.ma K (aS K) "flip")
  mS_hand_down : Meth K (aS K) "hand_down" (He.ma K (aS K) "hand_down")
  mS_gather : Meth K (aS K) "gather" (He.ma K (aS K) "gather")
  mS_put_below : Meth K (aS K) "put_below" (He.ma K (aS K) "put_below")
  mS_turn : Meth K (aS K) "turn" (He.ma K (aS K) "turn")
  mS_unfold : Meth K (aS K) "unfold" (He.ma K (aS K) "unfold")
  mS_lift : Meth K (aS K) "lift" (He.ma K (aS K) "lift")
  mS_hang : Meth K (aS K) "hang" (He.ma K (aS K) "hang")
  mS_let_go : Meth K (aS K) "let_go" (He.ma K (aS K) "let_go")
  mS_take_in : Meth K (aS K) "take_in" (He.ma K (aS K) "take_in")
  mS_lead : Meth K (aS K) "lead" (He.ma K (aS K) "lead")
  mW_points : Meth K (aW K) "points" (He.ma K (aW K) "points")
  mW_turn_about : Meth K (aW K) "turn_about" (He.ma K (aW K) "turn_about")
  mW_are_joined : Meth K (aW K) "are_joined" (He.ma K (aW K) "are_joined")
  mW_open_way : Meth K (aW K) "open_way" (He.ma K (aW K) "open_way")
  mW_tie : Meth K (aW K) "tie" (He.ma K (aW K) "tie")
  mW_open_tie : Meth K (aW K) "open_tie" (He.ma K (aW K) "open_tie")
  mW_cut : Meth K (aW K) "cut" (He.ma K (aW K) "cut")
  mW_inorder : Meth K (aW K) "inorder" (He.ma K (aW K) "inorder")
  mW_is_below : Meth K (aW K) "is_below" (He.ma K (aW K) "is_below")
  mW_is_wanted : Meth K (aW K) "is_wanted" (He.ma K (aW K) "is_wanted")
  mW_first_by : Meth K (aW K) "first_by" (He.ma K (aW K) "first_by")
  mW_of_way : Meth K (aW K) "of_way" (He.ma K (aW K) "of_way")
  mW_do_deed : Meth K (aW K) "do_deed" (He.ma K (aW K) "do_deed")
  mW_look_done : Meth K (aW K) "look_done" (He.ma K (aW K) "look_done")
  mW_do : Meth K (aW K) "do" (He.ma K (aW K) "do")
  mL_keep_one : Meth K (aL K) "keep_one" (He.ma K (aL K) "keep_one")
  mL_let_go : Meth K (aL K) "let_go" (He.ma K (aL K) "let_go")
  mL_offer : Meth K (aL K) "offer" (He.ma K (aL K) "offer")
  mL_kept : Meth K (aL K) "kept" (He.ma K (aL K) "kept")
  mL_price : Meth K (aL K) "price" (He.ma K (aL K) "price")
  mL_way_numbers : Meth K (aL K) "way_numbers" (He.ma K (aL K) "way_numbers")
  mL_paper : Meth K (aL K) "paper" (He.ma K (aL K) "paper")
  mL_slacks : Meth K (aL K) "slacks" (He.ma K (aL K) "slacks")
  D_is_number_shapes : ∃ fd, FunD K "is_number" "is_number" (defArgs s_is_number_shapes) (defBody s_is_number_shapes) (defScope s_is_number_shapes) [] [] (He.ga K "is_number_shapes") fd
  D_is_kind : ∃ fd, FunD K "is_kind" "is_kind" (defArgs s_is_kind) (defBody s_is_kind) (defScope s_is_kind) [] [] (He.ga K "is_kind") fd
  D_is_number_rows : ∃ fd, FunD K "is_number" "is_number" (defArgs s_is_number_rows) (defBody s_is_number_rows) (defScope s_is_number_rows) [] [] (He.ga K "is_number_rows") fd
  D_fits_form : ∃ fd, FunD K "fits_form" "fits_form" (defArgs s_fits_form) (defBody s_fits_form) (defScope s_fits_form) [] [] (He.ga K "fits_form") fd
  D_is_row : ∃ fd, FunD K "is_row" "is_row" (defArgs s_is_row) (defBody s_is_row) (defScope s_is_row) [] [] (He.ga K "is_row") fd
  D_is_deed : ∃ fd, FunD K "is_deed" "is_deed" (defArgs s_is_deed) (defBody s_is_deed) (defScope s_is_deed) [] [] (He.ga K "is_deed") fd
  D_points_of : ∃ fd, FunD K "points_of" "points_of" (defArgs s_points_of) (defBody s_points_of) (defScope s_points_of) [] [] (He.ga K "points_of") fd
  D_look_row : ∃ fd, FunD K "look_row" "look_row" (defArgs s_look_row) (defBody s_look_row) (defScope s_look_row) [] [] (He.ga K "look_row") fd
  D_kind_bit : ∃ fd, FunD K "kind_bit" "kind_bit" (defArgs s_kind_bit) (defBody s_kind_bit) (defScope s_kind_bit) [] [] (He.ga K "kind_bit") fd
  D_Strands___init__ : ∃ fd, FunD K "__init__" "Strands.__init__" (defArgs s_Strands___init__) (defBody s_Strands___init__) (defScope s_Strands___init__) [] [] (He.ma K (aS K) "__init__") fd
  D_Strands_put_point : ∃ fd, FunD K "put_point" "Strands.put_point" (defArgs s_Strands_put_point) (defBody s_Strands_put_point) (defScope s_Strands_put_point) [] [] (He.ma K (aS K) "put_point") fd
  D_Strands_is_top : ∃ fd, FunD K "is_top" "Strands.is_top" (defArgs s_Strands_is_top) (defBody s_Strands_is_top) (defScope s_Strands_is_top) [] [] (He.ma K (aS K) "is_top") fd
  D_Strands_flip : ∃ fd, FunD K "flip" "Strands.flip" (defArgs s_Strands_flip) (defBody s_Strands_flip) (defScope s_Strands_flip) [] [] (He.ma K (aS K) "flip") fd
  D_Strands_hand_down : ∃ fd, FunD K "hand_down" "Strands.hand_down" (defArgs s_Strands_hand_down) (defBody s_Strands_hand_down) (defScope s_Strands_hand_down) [] [] (He.ma K (aS K) "hand_down") fd
  D_Strands_gather : ∃ fd, FunD K "gather" "Strands.gather" (defArgs s_Strands_gather) (defBody s_Strands_gather) (defScope s_Strands_gather) [] [] (He.ma K (aS K) "gather") fd
  D_Strands_put_below : ∃ fd, FunD K "put_below" "Strands.put_below" (defArgs s_Strands_put_below) (defBody s_Strands_put_below) (defScope s_Strands_put_below) [] [] (He.ma K (aS K) "put_below") fd
  D_Strands_turn : ∃ fd, FunD K "turn" "Strands.turn" (defArgs s_Strands_turn) (defBody s_Strands_turn) (defScope s_Strands_turn) [] [] (He.ma K (aS K) "turn") fd
  D_Strands_unfold : ∃ fd, FunD K "unfold" "Strands.unfold" (defArgs s_Strands_unfold) (defBody s_Strands_unfold) (defScope s_Strands_unfold) [] [] (He.ma K (aS K) "unfold") fd
  D_Strands_lift : ∃ fd, FunD K "lift" "Strands.lift" (defArgs s_Strands_lift) (defBody s_Strands_lift) (defScope s_Strands_lift) [] [] (He.ma K (aS K) "lift") fd
  D_Strands_hang : ∃ fd, FunD K "hang" "Strands.hang" (defArgs s_Strands_hang) (defBody s_Strands_hang) (defScope s_Strands_hang) [] [] (He.ma K (aS K) "hang") fd
  D_Strands_let_go : ∃ fd, FunD K "let_go" "Strands.let_go" (defArgs s_Strands_let_go) (defBody s_Strands_let_go) (defScope s_Strands_let_go) [] [] (He.ma K (aS K) "let_go") fd
  D_Strands_take_in : ∃ fd, FunD K "take_in" "Strands.take_in" (defArgs s_Strands_take_in) (defBody s_Strands_take_in) (defScope s_Strands_take_in) [] [] (He.ma K (aS K) "take_in") fd
  D_Strands_lead : ∃ fd, FunD K "lead" "Strands.lead" (defArgs s_Strands_lead) (defBody s_Strands_lead) (defScope s_Strands_lead) [] [] (He.ma K (aS K) "lead") fd
  D_Ways___init__ : ∃ fd, FunD K "__init__" "Ways.__init__" (defArgs s_Ways___init__) (defBody s_Ways___init__) (defScope s_Ways___init__) [] [] (He.ma K (aW K) "__init__") fd
  D_Ways_points : ∃ fd, FunD K "points" "Ways.points" (defArgs s_Ways_points) (defBody s_Ways_points) (defScope s_Ways_points) [] [] (He.ma K (aW K) "points") fd
  D_Ways_turn_about : ∃ fd, FunD K "turn_about" "Ways.turn_about" (defArgs s_Ways_turn_about) (defBody s_Ways_turn_about) (defScope s_Ways_turn_about) [] [] (He.ma K (aW K) "turn_about") fd
  D_Ways_are_joined : ∃ fd, FunD K "are_joined" "Ways.are_joined" (defArgs s_Ways_are_joined) (defBody s_Ways_are_joined) (defScope s_Ways_are_joined) [] [] (He.ma K (aW K) "are_joined") fd
  D_Ways_open_way : ∃ fd, FunD K "open_way" "Ways.open_way" (defArgs s_Ways_open_way) (defBody s_Ways_open_way) (defScope s_Ways_open_way) [] [] (He.ma K (aW K) "open_way") fd
  D_Ways_tie : ∃ fd, FunD K "tie" "Ways.tie" (defArgs s_Ways_tie) (defBody s_Ways_tie) (defScope s_Ways_tie) [] [] (He.ma K (aW K) "tie") fd
  D_Ways_open_tie : ∃ fd, FunD K "open_tie" "Ways.open_tie" (defArgs s_Ways_open_tie) (defBody s_Ways_open_tie) (defScope s_Ways_open_tie) [] [] (He.ma K (aW K) "open_tie") fd
  D_Ways_cut : ∃ fd, FunD K "cut" "Ways.cut" (defArgs s_Ways_cut) (defBody s_Ways_cut) (defScope s_Ways_cut) [] [] (He.ma K (aW K) "cut") fd
  D_Ways_inorder : ∃ fd, FunD K "inorder" "Ways.inorder" (defArgs s_Ways_inorder) (defBody s_Ways_inorder) (defScope s_Ways_inorder) [] [] (He.ma K (aW K) "inorder") fd
  D_Ways_is_below : ∃ fd, FunD K "is_below" "Ways.is_below" (defArgs s_Ways_is_below) (defBody s_Ways_is_below) (defScope s_Ways_is_below) [] [] (He.ma K (aW K) "is_below") fd
  D_Ways_is_wanted : ∃ fd, FunD K "is_wanted" "Ways.is_wanted" (defArgs s_Ways_is_wanted) (defBody s_Ways_is_wanted) (defScope s_Ways_is_wanted) [] [] (He.ma K (aW K) "is_wanted") fd
  D_Ways_first_by : ∃ fd, FunD K "first_by" "Ways.first_by" (defArgs s_Ways_first_by) (defBody s_Ways_first_by) (defScope s_Ways_first_by) [] [] (He.ma K (aW K) "first_by") fd
  D_Ways_of_way : ∃ fd, FunD K "of_way" "Ways.of_way" (defArgs s_Ways_of_way) (defBody s_Ways_of_way) (defScope s_Ways_of_way) [] [] (He.ma K (aW K) "of_way") fd
  D_Ways_do_deed : ∃ fd, FunD K "do_deed" "Ways.do_deed" (defArgs s_Ways_do_deed) (defBody s_Ways_do_deed) (defScope s_Ways_do_deed) [] [] (He.ma K (aW K) "do_deed") fd
  D_Ways_look_done : ∃ fd, FunD K "look_done" "Ways.look_done" (defArgs s_Ways_look_done) (defBody s_Ways_look_done) (defScope s_Ways_look_done) [] [] (He.ma K (aW K) "look_done") fd
  D_Ways_do : ∃ fd, FunD K "do" "Ways.do" (defArgs s_Ways_do) (defBody s_Ways_do) (defScope s_Ways_do) [] [] (He.ma K (aW K) "do") fd
  D_look_points : ∃ fd, FunD K "look_points" "look_points" (defArgs s_look_points) (defBody s_look_points) (defScope s_look_points) [] [] (He.ga K "look_points") fd
  D_bare_forest : ∃ fd, FunD K "bare_forest" "bare_forest" (defArgs s_bare_forest) (defBody s_bare_forest) (defScope s_bare_forest) [] [] (He.ga K "bare_forest") fd
  D_Lightest___init__ : ∃ fd, FunD K "__init__" "Lightest.__init__" (defArgs s_Lightest___init__) (defBody s_Lightest___init__) (defScope s_Lightest___init__) [] [] (He.ma K (aL K) "__init__") fd
  D_Lightest_keep_one : ∃ fd, FunD K "keep_one" "Lightest.keep_one" (defArgs s_Lightest_keep_one) (defBody s_Lightest_keep_one) (defScope s_Lightest_keep_one) [] [] (He.ma K (aL K) "keep_one") fd
  D_Lightest_let_go : ∃ fd, FunD K "let_go" "Lightest.let_go" (defArgs s_Lightest_let_go) (defBody s_Lightest_let_go) (defScope s_Lightest_let_go) [] [] (He.ma K (aL K) "let_go") fd
  D_Lightest_offer : ∃ fd, FunD K "offer" "Lightest.offer" (defArgs s_Lightest_offer) (defBody s_Lightest_offer) (defScope s_Lightest_offer) [] [] (He.ma K (aL K) "offer") fd
  D_Lightest_kept : ∃ fd, FunD K "kept" "Lightest.kept" (defArgs s_Lightest_kept) (defBody s_Lightest_kept) (defScope s_Lightest_kept) [] [] (He.ma K (aL K) "kept") fd
  D_Lightest_price : ∃ fd, FunD K "price" "Lightest.price" (defArgs s_Lightest_price) (defBody s_Lightest_price) (defScope s_Lightest_price) [] [] (He.ma K (aL K) "price") fd
  D_Lightest_way_numbers : ∃ fd, FunD K "way_numbers" "Lightest.way_numbers" (defArgs s_Lightest_way_numbers) (defBody s_Lightest_way_numbers) (defScope s_Lightest_way_numbers) [] [] (He.ma K (aL K) "way_numbers") fd
  D_Lightest_paper : ∃ fd, FunD K "paper" "Lightest.paper" (defArgs s_Lightest_paper) (defBody s_Lightest_paper) (defScope s_Lightest_paper) [] [] (He.ma K (aL K) "paper") fd
  D_Lightest_slacks : ∃ fd, FunD K "slacks" "Lightest.slacks" (defArgs s_Lightest_slacks) (defBody s_Lightest_slacks) (defScope s_Lightest_slacks) [] [] (He.ma K (aL K) "slacks") fd
  D_are_numbers : ∃ fd, FunD K "are_numbers" "are_numbers" (defArgs s_are_numbers) (defBody s_are_numbers) (defScope s_are_numbers) [] [] (He.ga K "are_numbers") fd
  D_are_rising : ∃ fd, FunD K "are_rising" "are_rising" (defArgs s_are_rising) (defBody s_are_rising) (defScope s_are_rising) [] [] (He.ga K "are_rising") fd
  D_leads : ∃ fd, FunD K "leads" "leads" (defArgs s_leads) (defBody s_leads) (defScope s_leads) [] [] (He.ga K "leads") fd
  D_have_ring : ∃ fd, FunD K "have_ring" "have_ring" (defArgs s_have_ring) (defBody s_have_ring) (defScope s_have_ring) [] [] (He.ga K "have_ring") fd
  D_is_reason : ∃ fd, FunD K "is_reason" "is_reason" (defArgs s_is_reason) (defBody s_is_reason) (defScope s_is_reason) [] [] (He.ga K "is_reason") fd
  D_shows_lightest : ∃ fd, FunD K "shows_lightest" "shows_lightest" (defArgs s_shows_lightest) (defBody s_shows_lightest) (defScope s_shows_lightest) [] [] (He.ga K "shows_lightest") fd
  D__law_mixed : ∃ fd, FunD K "_law_mixed" "_law_mixed" (defArgs s__law_mixed) (defBody s__law_mixed) (defScope s__law_mixed) [] [] (He.ga K "_law_mixed") fd
  D__law_pot : ∃ fd, FunD K "_law_pot" "_law_pot" (defArgs s__law_pot) (defBody s__law_pot) (defScope s__law_pot) [] [] (He.ga K "_law_pot") fd
  D__law_take : ∃ fd, FunD K "_law_take" "_law_take" (defArgs s__law_take) (defBody s__law_take) (defScope s__law_take) [] [] (He.ga K "_law_take") fd
  D__law_offers : ∃ fd, FunD K "_law_offers" "_law_offers" (defArgs s__law_offers) (defBody s__law_offers) (defScope s__law_offers) [] [] (He.ga K "_law_offers") fd
  D__law_light : ∃ fd, FunD K "_law_light" "_law_light" (defArgs s__law_light) (defBody s__law_light) (defScope s__law_light) [] [] (He.ga K "_law_light") fd
  D__law_cheapest : ∃ fd, FunD K "_law_cheapest" "_law_cheapest" (defArgs s__law_cheapest) (defBody s__law_cheapest) (defScope s__law_cheapest) [] [] (He.ga K "_law_cheapest") fd
  D__law_shuffled : ∃ fd, FunD K "_law_shuffled" "_law_shuffled" (defArgs s__law_shuffled) (defBody s__law_shuffled) (defScope s__law_shuffled) [] [] (He.ga K "_law_shuffled") fd
  D__law_dearer : ∃ fd, FunD K "_law_dearer" "_law_dearer" (defArgs s__law_dearer) (defBody s__law_dearer) (defScope s__law_dearer) [] [] (He.ga K "_law_dearer") fd
  D__law_right : ∃ fd, FunD K "_law_right" "_law_right" (defArgs s__law_right) (defBody s__law_right) (defScope s__law_right) [] [] (He.ga K "_law_right") fd
  D_law : ∃ fd, FunD K "law" "law" (defArgs s_law) (defBody s_law) (defScope s_law) [] [] (He.ga K "law") fd
  deeds : ∀ H : Hp, SqT K H (He.ga K "DEEDS") [V.str "new", V.str "put", V.str "paint", V.str "tie", V.str "cut", V.str "add", V.str "spread"]
  done : ∀ H : Hp, SqT K H (He.ga K "DONE") [V.str "new", V.str "put", V.str "paint", V.str "tie", V.str "cut", V.str "add", V.str "joined", V.str "way", V.str "total", V.str "many", V.str "most", V.str "first", V.str "reach", V.str "kth", V.str "meet", V.str "sum", V.str "size"]
  forms : ∃ es n, KDict K w (He.ga K "FORMS") es n
  form_new : ∃ u, PySem.W.nsIn K (He.ga K "FORMS") "new" = some (some u) ∧ RelV (V.str "wk") u
  form_put : ∃ u, PySem.W.nsIn K (He.ga K "FORMS") "put" = some (some u) ∧ RelV (V.str "pw") u
  form_paint : ∃ u, PySem.W.nsIn K (He.ga K "FORMS") "paint" = some (some u) ∧ RelV (V.str "pk") u
  form_tie : ∃ u, PySem.W.nsIn K (He.ga K "FORMS") "tie" = some (some u) ∧ RelV (V.str "pp") u
  form_cut : ∃ u, PySem.W.nsIn K (He.ga K "FORMS") "cut" = some (some u) ∧ RelV (V.str "pp") u
  form_add : ∃ u, PySem.W.nsIn K (He.ga K "FORMS") "add" = some (some u) ∧ RelV (V.str "ppw") u
  form_spread : ∃ u, PySem.W.nsIn K (He.ga K "FORMS") "spread" = some (some u) ∧ RelV (V.str "pqw") u
  form_joined : ∃ u, PySem.W.nsIn K (He.ga K "FORMS") "joined" = some (some u) ∧ RelV (V.str "pp") u
  form_way : ∃ u, PySem.W.nsIn K (He.ga K "FORMS") "way" = some (some u) ∧ RelV (V.str "pp") u
  form_total : ∃ u, PySem.W.nsIn K (He.ga K "FORMS") "total" = some (some u) ∧ RelV (V.str "pp") u
  form_many : ∃ u, PySem.W.nsIn K (He.ga K "FORMS") "many" = some (some u) ∧ RelV (V.str "pp") u
  form_most : ∃ u, PySem.W.nsIn K (He.ga K "FORMS") "most" = some (some u) ∧ RelV (V.str "pp") u
  form_first : ∃ u, PySem.W.nsIn K (He.ga K "FORMS") "first" = some (some u) ∧ RelV (V.str "ppk") u
  form_reach : ∃ u, PySem.W.nsIn K (He.ga K "FORMS") "reach" = some (some u) ∧ RelV (V.str "ppw") u
  form_kth : ∃ u, PySem.W.nsIn K (He.ga K "FORMS") "kth" = some (some u) ∧ RelV (V.str "ppn") u
  form_meet : ∃ u, PySem.W.nsIn K (He.ga K "FORMS") "meet" = some (some u) ∧ RelV (V.str "ppp") u
  form_sum : ∃ u, PySem.W.nsIn K (He.ga K "FORMS") "sum" = some (some u) ∧ RelV (V.str "pq") u
  form_size : ∃ u, PySem.W.nsIn K (He.ga K "FORMS") "size" = some (some u) ∧ RelV (V.str "pq") u
  form_top : ∃ u, PySem.W.nsIn K (He.ga K "FORMS") "top" = some (some u) ∧ RelV (V.str "pq") u
  form_least : ∃ u, PySem.W.nsIn K (He.ga K "FORMS") "least" = some (some u) ∧ RelV (V.str "pqk") u
theorem txt_of {w : World} {K : PySem.W.Frag} {h : Heap} {mg : Str → Option Value} (X : K.In h) (G : h.Ns mainGlobals mg) (c : SaysY w K) : Txt w K mg where
  g_is_number_shapes := He.glo_ok X G (c.t.d.fact 0 rfl)
  g_is_kind := He.glo_ok X G (c.t.d.fact 1 rfl)
  g_is_number_rows := He.glo_ok X G (c.t.d.fact 2 rfl)
  g_fits_form := He.glo_ok X G (c.t.d.fact 3 rfl)
  g_is_row := He.glo_ok X G (c.t.d.fact 4 rfl)
  g_is_deed := He.glo_ok X G (c.t.d.fact 5 rfl)
  g_points_of := He.glo_ok X G (c.t.d.fact 6 rfl)
  g_look_row := He.glo_ok X G (c.t.d.fact 7 rfl)
  g_kind_bit := He.glo_ok X G (c.t.d.fact 8 rfl)
  g_look_points := He.glo_ok X G (c.t.d.fact 9 rfl)
  g_bare_forest := He.glo_ok X G (c.t.d.fact 10 rfl)
  g_are_numbers := He.glo_ok X G (c.t.d.fact 11 rfl)
  g_are_rising := He.glo_ok X G (c.t.d.fact 12 rfl)
  g_leads := He.glo_ok X G (c.t.d.fact 13 rfl)
  g_have_ring := He.glo_ok X G (c.t.d.fact 14 rfl)
  g_is_reason := He.glo_ok X G (c.t.d.fact 15 rfl)
  g_shows_lightest := He.glo_ok X G (c.t.d.fact 16 rfl)
  g__law_mixed := He.glo_ok X G (c.t.d.fact 17 rfl)
  g__law_pot := He.glo_ok X G (c.t.d.fact 18 rfl)
  g__law_take := He.glo_ok X G (c.t.d.fact 19 rfl)
  g__law_offers := He.glo_ok X G (c.t.d.fact 20 rfl)
  g__law_light := He.glo_ok X G (c.t.d.fact 21 rfl)
  g__law_cheapest := He.glo_ok X G (c.t.d.fact 22 rfl)
  g__law_shuffled := He.glo_ok X G (c.t.d.fact 23 rfl)
  g__law_dearer := He.glo_ok X G (c.t.d.fact 24 rfl)
  g__law_right := He.glo_ok X G (c.t.d.fact 25 rfl)
  g_law := He.glo_ok X G (c.t.d.fact 26 rfl)
  g_Strands := He.glo_ok X G (c.t.d.fact 27 rfl)
  g_Ways := He.glo_ok X G (c.t.d.fact 28 rfl)
  g_Lightest := He.glo_ok X G (c.t.d.fact 29 rfl)
  g_FORMS := He.glo_ok X G (c.t.d.fact 30 rfl)
  g_DEEDS := He.glo_ok X G (c.t.d.fact 31 rfl)
  g_DONE := He.glo_ok X G (c.t.d.fact 32 rfl)
  k_KINDS_forests := He.str_ok X G (c.t.d.fact 33 rfl)
  k_KINDS_strands := He.str_ok X G (c.t.d.fact 34 rfl)
  z_isinstance := He.free_ok X G (c.t.d.fact 35 rfl)
  z_int := He.free_ok X G (c.t.d.fact 36 rfl)
  z_bool := He.free_ok X G (c.t.d.fact 37 rfl)
  z_str := He.free_ok X G (c.t.d.fact 38 rfl)
  z_tuple := He.free_ok X G (c.t.d.fact 39 rfl)
  z_len := He.free_ok X G (c.t.d.fact 40 rfl)
  z_all := He.free_ok X G (c.t.d.fact 41 rfl)
  z_zip := He.free_ok X G (c.t.d.fact 42 rfl)
  z_sum := He.free_ok X G (c.t.d.fact 43 rfl)
  z_max := He.free_ok X G (c.t.d.fact 44 rfl)
  z_reversed := He.free_ok X G (c.t.d.fact 45 rfl)
  z_range := He.free_ok X G (c.t.d.fact 46 rfl)
  z_list := He.free_ok X G (c.t.d.fact 47 rfl)
  z_set := He.free_ok X G (c.t.d.fact 48 rfl)
  z_sorted := He.free_ok X G (c.t.d.fact 49 rfl)
  z_enumerate := He.free_ok X G (c.t.d.fact 50 rfl)
  z_abs := He.free_ok X G (c.t.d.fact 51 rfl)
  clS := He.cls_ok (c.t.d.fact 52 rfl)
  mkS := He.mkr_ok (c.t.d.fact 53 rfl)
  nS_left := He.noat_ok (c.t.d.fact 54 rfl)
  nS_right := He.noat_ok (c.t.d.fact 55 rfl)
  nS_above := He.noat_ok (c.t.d.fact 56 rfl)
  nS_flipped := He.noat_ok (c.t.d.fact 57 rfl)
  nS_later := He.noat_ok (c.t.d.fact 58 rfl)
  nS_worth := He.noat_ok (c.t.d.fact 59 rfl)
  nS_bits := He.noat_ok (c.t.d.fact 60 rfl)
  nS_many := He.noat_ok (c.t.d.fact 61 rfl)
  nS_total := He.noat_ok (c.t.d.fact 62 rfl)
  nS_most := He.noat_ok (c.t.d.fact 63 rfl)
  nS_all_bits := He.noat_ok (c.t.d.fact 64 rfl)
  nS_hung := He.noat_ok (c.t.d.fact 65 rfl)
  nS_all_many := He.noat_ok (c.t.d.fact 66 rfl)
  nS_all_total := He.noat_ok (c.t.d.fact 67 rfl)
  nS_steps := He.noat_ok (c.t.d.fact 68 rfl)
  clW := He.cls_ok (c.t.d.fact 69 rfl)
  mkW := He.mkr_ok (c.t.d.fact 70 rfl)
  nW_strands := He.noat_ok (c.t.d.fact 71 rfl)
  clL := He.cls_ok (c.t.d.fact 72 rfl)
  mkL := He.mkr_ok (c.t.d.fact 73 rfl)
  nL_many_points := He.noat_ok (c.t.d.fact 74 rfl)
  nL_offered := He.noat_ok (c.t.d.fact 75 rfl)
  nL_ways := He.noat_ok (c.t.d.fact 76 rfl)
  nL_spots := He.noat_ok (c.t.d.fact 77 rfl)
  nL_numbers := He.noat_ok (c.t.d.fact 78 rfl)
  mS_put_point := He.meth_ok (c.t.d.fact 79 rfl)
  mS_is_top := He.meth_ok (c.t.d.fact 80 rfl)
  mS_flip := He.meth_ok (c.t.d.fact 81 rfl)
  mS_hand_down := He.meth_ok (c.t.d.fact 82 rfl)
  mS_gather := He.meth_ok (c.t.d.fact 83 rfl)
  mS_put_below := He.meth_ok (c.t.d.fact 84 rfl)
  mS_turn := He.meth_ok (c.t.d.fact 85 rfl)
  mS_unfold := He.meth_ok (c.t.d.fact 86 rfl)
  mS_lift := He.meth_ok (c.t.d.fact 87 rfl)
  mS_hang := He.meth_ok (c.t.d.fact 88 rfl)
  mS_let_go := He.meth_ok (c.t.d.fact 89 rfl)
  mS_take_in := He.meth_ok (c.t.d.fact 90 rfl)
  mS_lead := He.meth_ok (c.t.d.fact 91 rfl)
  mW_points := He.meth_ok (c.t.d.fact 92 rfl)
  mW_turn_about := He.meth_ok (c.t.d.fact 93 rfl)
  mW_are_joined := He.meth_ok (c.t.d.fact 94 rfl)
  mW_open_way := He.meth_ok (c.t.d.fact 95 rfl)
  mW_tie := He.meth_ok (c.t.d.fact 96 rfl)
  mW_open_tie := He.meth_ok (c.t.d.fact 97 rfl)
  mW_cut := He.meth_ok (c.t.d.fact 98 rfl)
  mW_inorder := He.meth_ok (c.t.d.fact 99 rfl)
  mW_is_below := He.meth_ok (c.t.d.fact 100 rfl)
  mW_is_wanted := He.meth_ok (c.t.d.fact 101 rfl)
  mW_first_by := He.meth_ok (c.t.d.fact 102 rfl)
  mW_of_way := He.meth_ok (c.t.d.fact 103 rfl)
  mW_do_deed := He.meth_ok (c.t.d.fact 104 rfl)
  mW_look_done := He.meth_ok (c.t.d.fact 105 rfl)
  mW_do := He.meth_ok (c.t.d.fact 106 rfl)
  mL_keep_one := He.meth_ok (c.t.d.fact 107 rfl)
  mL_let_go := He.meth_ok (c.t.d.fact 108 rfl)
  mL_offer := He.meth_ok (c.t.d.fact 109 rfl)
  mL_kept := He.meth_ok (c.t.d.fact 110 rfl)
  mL_price := He.meth_ok (c.t.d.fact 111 rfl)
  mL_way_numbers := He.meth_ok (c.t.d.fact 112 rfl)
  mL_paper := He.meth_ok (c.t.d.fact 113 rfl)
  mL_slacks := He.meth_ok (c.t.d.fact 114 rfl)
  D_is_number_shapes := c.t.d.def_ 0 (d := d_is_number_shapes) rfl
  D_is_kind := c.t.d.def_ 1 (d := d_is_kind) rfl
  D_is_number_rows := c.t.d.def_ 2 (d := d_is_number_rows) rfl
  D_fits_form := c.t.d.def_ 3 (d := d_fits_form) rfl
  D_is_row := c.t.d.def_ 4 (d := d_is_row) rfl
  D_is_deed := c.t.d.def_ 5 (d := d_is_deed) rfl
  D_points_of := c.t.d.def_ 6 (d := d_points_of) rfl
  D_look_row := c.t.d.def_ 7 (d := d_look_row) rfl
  D_kind_bit := c.t.d.def_ 8 (d := d_kind_bit) rfl
  D_Strands___init__ := c.t.d.def_ 9 (d := d_Strands___init__) rfl
  D_Strands_put_point := c.t.d.def_ 10 (d := d_Strands_put_point) rfl
  D_Strands_is_top := c.t.d.def_ 11 (d := d_Strands_is_top) rfl
  D_Strands_flip := c.t.d.def_ 12 (d := d_Strands_flip) rfl
  D_Strands_hand_down := c.t.d.def_ 13 (d := d_Strands_hand_down) rfl
  D_Strands_gather := c.t.d.def_ 14 (d := d_Strands_gather) rfl
  D_Strands_put_below := c.t.d.def_ 15 (d := d_Strands_put_below) rfl
  D_Strands_turn := c.t.d.def_ 16 (d := d_Strands_turn) rfl
  D_Strands_unfold := c.t.d.def_ 17 (d := d_Strands_unfold) rfl
  D_Strands_lift := c.t.d.def_ 18 (d := d_Strands_lift) rfl
  D_Strands_hang := c.t.d.def_ 19 (d := d_Strands_hang) rfl
  D_Strands_let_go := c.t.d.def_ 20 (d := d_Strands_let_go) rfl
  D_Strands_take_in := c.t.d.def_ 21 (d := d_Strands_take_in) rfl
  D_Strands_lead := c.t.d.def_ 22 (d := d_Strands_lead) rfl
  D_Ways___init__ := c.t.d.def_ 23 (d := d_Ways___init__) rfl
  D_Ways_points := c.t.d.def_ 24 (d := d_Ways_points) rfl
  D_Ways_turn_about := c.t.d.def_ 25 (d := d_Ways_turn_about) rfl
  D_Ways_are_joined := c.t.d.def_ 26 (d := d_Ways_are_joined) rfl
  D_Ways_open_way := c.t.d.def_ 27 (d := d_Ways_open_way) rfl
  D_Ways_tie := c.t.d.def_ 28 (d := d_Ways_tie) rfl
  D_Ways_open_tie := c.t.d.def_ 29 (d := d_Ways_open_tie) rfl
  D_Ways_cut := c.t.d.def_ 30 (d := d_Ways_cut) rfl
  D_Ways_inorder := c.t.d.def_ 31 (d := d_Ways_inorder) rfl
  D_Ways_is_below := c.t.d.def_ 32 (d := d_Ways_is_below) rfl
  D_Ways_is_wanted := c.t.d.def_ 33 (d := d_Ways_is_wanted) rfl
  D_Ways_first_by := c.t.d.def_ 34 (d := d_Ways_first_by) rfl
  D_Ways_of_way := c.t.d.def_ 35 (d := d_Ways_of_way) rfl
  D_Ways_do_deed := c.t.d.def_ 36 (d := d_Ways_do_deed) rfl
  D_Ways_look_done := c.t.d.def_ 37 (d := d_Ways_look_done) rfl
  D_Ways_do := c.t.d.def_ 38 (d := d_Ways_do) rfl
  D_look_points := c.t.d.def_ 39 (d := d_look_points) rfl
  D_bare_forest := c.t.d.def_ 40 (d := d_bare_forest) rfl
  D_Lightest___init__ := c.t.d.def_ 41 (d := d_Lightest___init__) rfl
  D_Lightest_keep_one := c.t.d.def_ 42 (d := d_Lightest_keep_one) rfl
  D_Lightest_let_go := c.t.d.def_ 43 (d := d_Lightest_let_go) rfl
  D_Lightest_offer := c.t.d.def_ 44 (d := d_Lightest_offer) rfl
  D_Lightest_kept := c.t.d.def_ 45 (d := d_Lightest_kept) rfl
  D_Lightest_price := c.t.d.def_ 46 (d := d_Lightest_price) rfl
  D_Lightest_way_numbers := c.t.d.def_ 47 (d := d_Lightest_way_numbers) rfl
  D_Lightest_paper := c.t.d.def_ 48 (d := d_Lightest_paper) rfl
  D_Lightest_slacks := c.t.d.def_ 49 (d := d_Lightest_slacks) rfl
  D_are_numbers := c.t.d.def_ 50 (d := d_are_numbers) rfl
  D_are_rising := c.t.d.def_ 51 (d := d_are_rising) rfl
  D_leads := c.t.d.def_ 52 (d := d_leads) rfl
  D_have_ring := c.t.d.def_ 53 (d := d_have_ring) rfl
  D_is_reason := c.t.d.def_ 54 (d := d_is_reason) rfl
  D_shows_lightest := c.t.d.def_ 55 (d := d_shows_lightest) rfl
  D__law_mixed := c.t.d.def_ 56 (d := d__law_mixed) rfl
  D__law_pot := c.t.d.def_ 57 (d := d__law_pot) rfl
  D__law_take := c.t.d.def_ 58 (d := d__law_take) rfl
  D__law_offers := c.t.d.def_ 59 (d := d__law_offers) rfl
  D__law_light := c.t.d.def_ 60 (d := d__law_light) rfl
  D__law_cheapest := c.t.d.def_ 61 (d := d__law_cheapest) rfl
  D__law_shuffled := c.t.d.def_ 62 (d := d__law_shuffled) rfl
  D__law_dearer := c.t.d.def_ 63 (d := d__law_dearer) rfl
  D__law_right := c.t.d.def_ 64 (d := d__law_right) rfl
  D_law := c.t.d.def_ 65 (d := d_law) rfl
  deeds := fun H => He.tupB_ok (He.ba c.x).1 H
  done := fun H => He.tupB_ok (He.ba (He.ba c.x).2).1 H
  forms := c.t.tab 0 (t := (fun K => He.ga K "FORMS", formsK)) rfl
  form_new := He.valsB_ok (kvs := formsD) (He.ba (He.ba c.x).2).2 (q := ("new", .str "wk")) (by unfold formsD; repeat first | exact List.mem_cons_self | apply List.mem_cons_of_mem)
  form_put := He.valsB_ok (kvs := formsD) (He.ba (He.ba c.x).2).2 (q := ("put", .str "pw")) (by unfold formsD; repeat first | exact List.mem_cons_self | apply List.mem_cons_of_mem)
  form_paint := He.valsB_ok (kvs := formsD) (He.ba (He.ba c.x).2).2 (q := ("paint", .str "pk")) (by unfold formsD; repeat first | exact List.mem_cons_self | apply List.mem_cons_of_mem)
  form_tie := He.valsB_ok (kvs := formsD) (He.ba (He.ba c.x).2).2 (q := ("tie", .str "pp")) (by unfold formsD; repeat first | exact List.mem_cons_self | apply List.mem_cons_of_mem)
  form_cut := He.valsB_ok (kvs := formsD) (He.ba (He.ba c.x).2).2 (q := ("cut", .str "pp")) (by unfold formsD; repeat first | exact List.mem_cons_self | apply List.mem_cons_of_mem)
  form_add := He.valsB_ok (kvs := formsD) (He.ba (He.ba c.x).2).2 (q := ("add", .str "ppw")) (by unfold formsD; repeat first | exact List.mem_cons_self | apply List.mem_cons_of_mem)
  form_spread := He.valsB_ok (kvs := formsD) (He.ba (He.ba c.x).2).2 (q := ("spread", .str "pqw")) (by unfold formsD; repeat first | exact List.mem_cons_self | apply List.mem_cons_of_mem)
  form_joined := He.valsB_ok (kvs := formsD) (He.ba (He.ba c.x).2).2 (q := ("joined", .str "pp")) (by unfold formsD; repeat first | exact List.mem_cons_self | apply List.mem_cons_of_mem)
  form_way := He.valsB_ok (kvs := formsD) (He.ba (He.ba c.x).2).2 (q := ("way", .str "pp")) (by unfold formsD; repeat first | exact List.mem_cons_self | apply List.mem_cons_of_mem)
  form_total := He.valsB_ok (kvs := formsD) (He.ba (He.ba c.x).2).2 (q := ("total", .str "pp")) (by unfold formsD; repeat first | exact List.mem_cons_self | apply List.mem_cons_of_mem)
  form_many := He.valsB_ok (kvs := formsD) (He.ba (He.ba c.x).2).2 (q := ("many", .str "pp")) (by unfold formsD; repeat first | exact List.mem_cons_self | apply List.mem_cons_of_mem)
  form_most := He.valsB_ok (kvs := formsD) (He.ba (He.ba c.x).2).2 (q := ("most", .str "pp")) (by unfold formsD; repeat first | exact List.mem_cons_self | apply List.mem_cons_of_mem)
  form_first := He.valsB_ok (kvs := formsD) (He.ba (He.ba c.x).2).2 (q := ("first", .str "ppk")) (by unfold formsD; repeat first | exact List.mem_cons_self | apply List.mem_cons_of_mem)
  form_reach := He.valsB_ok (kvs := formsD) (He.ba (He.ba c.x).2).2 (q := ("reach", .str "ppw")) (by unfold formsD; repeat first | exact List.mem_cons_self | apply List.mem_cons_of_mem)
  form_kth := He.valsB_ok (kvs := formsD) (He.ba (He.ba c.x).2).2 (q := ("kth", .str "ppn")) (by unfold formsD; repeat first | exact List.mem_cons_self | apply List.mem_cons_of_mem)
  form_meet := He.valsB_ok (kvs := formsD) (He.ba (He.ba c.x).2).2 (q := ("meet", .str "ppp")) (by unfold formsD; repeat first | exact List.mem_cons_self | apply List.mem_cons_of_mem)
  form_sum := He.valsB_ok (kvs := formsD) (He.ba (He.ba c.x).2).2 (q := ("sum", .str "pq")) (by unfold formsD; repeat first | exact List.mem_cons_self | apply List.mem_cons_of_mem)
  form_size := He.valsB_ok (kvs := formsD) (He.ba (He.ba c.x).2).2 (q := ("size", .str "pq")) (by unfold formsD; repeat first | exact List.mem_cons_self | apply List.mem_cons_of_mem)
  form_top := He.valsB_ok (kvs := formsD) (He.ba (He.ba c.x).2).2 (q := ("top", .str "pq")) (by unfold formsD; repeat first | exact List.mem_cons_self | apply List.mem_cons_of_mem)
  form_least := He.valsB_ok (kvs := formsD) (He.ba (He.ba c.x).2).2 (q := ("least", .str "pqk")) (by unfold formsD; repeat first | exact List.mem_cons_self | apply List.mem_cons_of_mem)
end K73
end
section
set_option maxHeartbeats 0
namespace K73
open PySem PySem.Spec PyProof.Rows L2
theorem run_false (w : World) : HandSHeadRun.RunEq R (PySem.W.view R.prog [53]) hk ob 6400 loose (w.withFollow "special-get-raises" false) := by
  intro os
  kernel_rfl
theorem run_true (w : World) : HandSHeadRun.RunEq R (PySem.W.view R.prog [53]) hk ob 6400 loose (w.withFollow "special-get-raises" true) := by
  intro os
  kernel_rfl
theorem run (w : World) : HandSHeadRun.RunEq R (PySem.W.view R.prog [53]) hk ob 6400 loose w :=
  PySem.W.byRow2 "special-get-raises" (P := fun w => HandSHeadRun.RunEq R (PySem.W.view R.prog [53]) hk ob 6400 loose w) run_false run_true w
end K73
end
section
set_option maxHeartbeats 4000000
namespace K73
open PySem PySem.Spec PyProof.Rows L2

/-! ### a def's promise, ready for its callers -/
def Good (P : Program) (w : World) (K : PySem.W.Frag) (mg : Str → Option Value) (base : Heap) (k : Nat) (f : Addr) (ps : List Str) (sp : Sp) : Prop :=
  ∃ fd, FnOk P w K mg base CX0 k f fd ps sp ∧ Binds K fd ps [] ∧ PySem.W.keepIn K (.ref f) = true
section
variable {P : Program} {w : World} {K : PySem.W.Frag} {mg : Str → Option Value} {base : Heap} {k : Nat} {f : Addr} {ps : List Str} {sp : Sp}
theorem Good.mono {j : Nat} (G : Good P w K mg base j f ps sp) (h : j ≤ k) : Good P w K mg base k f ps sp := by
  obtain ⟨fd, F, b, kp⟩ := G
  exact ⟨fd, F.mono h, b, kp⟩
theorem Good.imp {sp' : Sp} (G : Good P w K mg base k f ps sp) (h : ∀ vs H Q E, sp' vs H Q E → sp vs H Q E) : Good P w K mg base k f ps sp' := by
  obtain ⟨fd, F, b, kp⟩ := G
  exact ⟨fd, F.imp h, b, kp⟩
/-- THE RULE for a def of this text -/
theorem good_mk {x qual : Str} {params : Arguments} {body : List Stmt} {scope : Scope} {N : List Str} (D : ∃ fd, FunD K x qual params body scope [] [] f fd) (S : FnScope N ps scope)
    (bind : ∀ (kV doc pm : Value) (an : Option Addr) (cdv ct : Value) (us : List Value), us.length = ps.length → bindArgs (PySem.W.fnOf x qual params body scope .none kV doc pm an cdv ct) ⟨us, []⟩ = pure (ps.zip us))
    (len : ∀ vs H Q E, sp vs H Q E → vs.length = ps.length)
    (hbody : ∀ (cdv : Value) (A : Around) (outer : List Env) (s : Shared) (H : Hp) (vs : List V) (Q : VK) (E : XK), Room k (A.deeper (envOfC qual scope s.heap.objs.size f cdv)) → sp vs H Q E →
      ∃ t, PSs (cxOf CX0 P w K mg base N qual scope f cdv A outer s H E).nox body t ∧ t { nx := fun _ H' => Q .non H', rt := Q } (start N vs) H) : Good P w K mg base (k + 1) f ps sp := by
  obtain ⟨fd, F⟩ := D
  refine ⟨fd, F.ok S len fun cdv A outer s H vs Q E hr h => ?_, F.bindsN bind, F.kp⟩
  obtain ⟨t, h1, h2⟩ := hbody cdv A outer s H vs Q E hr h
  exact ⟨t, h1.nox, h2⟩
end
section
variable {X : Cx} {k : Nat} {f C : Addr} {ps : List Str} {sp : Sp} {x m : Str} {p pos apos : Pos} {e o : Expr} {es : List Expr} {ta : TE} {t : TA}
theorem pe_f (G : Good X.prog X.w X.K X.mg X.base k f ps sp) (hr : Room k X.A) (hm : X.mg x = some (.ref f)) (ha : PA X (e :: es) t) (hg : Gl X x := by rfl)
    (hdb : (x == ("__debug__" : Str)) = false := by decide) (he : starEach (e :: es) X.env = (false, eval e X.env) :: starEach es X.env := by rfl) (hpl : (backTo pos (starEach es X.env)).any (·.1) = false := by rfl) :
    PE X (.Call (.Name x p) (e :: es) [] pos) (tCall sp [] E0 t) := by
  obtain ⟨fd, F, b, kp⟩ := G
  exact pe_call F hr hg hm kp b .nil pass0 ha hdb he hpl
theorem pe_m {pl : Sem Bool} (he : PE X o ta) (c : Cls X.K C) (hm : Meth X.K C m f) (G : Good X.prog X.w X.K X.mg X.base k f ps sp) (hr : Room k X.A) (ha : PA X (e :: es) t)
    (hst : starEach (e :: es) X.env = (false, eval e X.env) :: starEach es X.env := by rfl) (hpl : (backTo pos (starEach es X.env)).any (·.1) = false := by rfl)
    (ht : eval (.Call (.Attribute o m apos) (e :: es) [] pos) X.env = (do
      let ov ← eval o X.env
      standAt apos.atName
      let (f, first) ← holding [ov] (getMethod ov m pl)
      callWith pos f first (backTo pos (starEach (e :: es) X.env)) (backToKw pos (keywordEach [] X.env))) := by rfl) :
    PE X (.Call (.Attribute o m apos) (e :: es) [] pos) (tMeth C m sp [] E0 ta t) := by
  obtain ⟨fd, F, b, kp⟩ := G
  exact pe_meth he c hm F hr b .nil pass0 ha hst hpl ht
theorem pe_m0 {pl : Sem Bool} (he : PE X o ta) (c : Cls X.K C) (hm : Meth X.K C m f) (G : Good X.prog X.w X.K X.mg X.base k f ps sp) (hr : Room k X.A)
    (ht : eval (.Call (.Attribute o m apos) [] [] pos) X.env = (do
      let ov ← eval o X.env
      standAt apos.atName
      let (f, first) ← holding [ov] (getMethod ov m pl)
      callWith pos f first (backTo pos (starEach [] X.env)) (backToKw pos (keywordEach [] X.env))) := by rfl) :
    PE X (.Call (.Attribute o m apos) [] [] pos) (tMeth C m sp [] E0 ta tNil) := by
  obtain ⟨fd, F, b, kp⟩ := G
  exact pe_meth0 he c hm F hr b .nil pass0 ht
end

/-! ### values where the heap stays -/
section
variable {σ : L2.St} {H : Hp} {i : Nat} {v x y z : V} {ta tb te tv : TE} {b : Bool} {K : PySem.W.Frag} {a C dx l : Addr} {fs : List (Str × V)} {f m : Str} {t u c : TT} {D : Ends} {xs : List V}
theorem at_n {α : Type} {xs : List α} {j : Nat} {v : α} (h : xs[j]? = some v) : atI xs (j : Int) = some v := by
  unfold atI ixN
  have hj := (List.getElem?_eq_some_iff.mp h).1
  rw [if_pos (by omega), if_pos (by omega)]
  simpa using h
theorem val_ixl {j : Nat} (ha : Val ta σ H (.ref l)) (hl : H l = some (.lst xs)) (hb : Val tb σ H (.int (j : Int))) (hx : xs[j]? = some v) : Val (tOp (rIxL K) ta tb) σ H v :=
  val_op ha hb fun _ q => ⟨l, xs, _, v, rfl, rfl, SqL.of hl, at_n hx, q⟩
theorem val_ixt {j : Nat} (ha : Val ta σ H (.ref l)) (hl : SqT K H l xs) (hb : Val tb σ H (.int (j : Int))) (hx : xs[j]? = some v) : Val (tOp (rIxT K) ta tb) σ H v :=
  val_op ha hb fun _ q => ⟨l, xs, _, v, rfl, rfl, hl, at_n hx, q⟩
/-- an argument list -/
def ValA (t : TA) (σ : L2.St) (H : Hp) (vs : List V) : Prop := ∀ Q : List V → Hp → Prop, Q vs H → t σ H Q
theorem vala_nil : ValA tNil σ H [] := fun _ q => q
theorem vala_cons {tr : TA} {vs : List V} (h : Val te σ H v) (hr : ValA tr σ H vs) : ValA (tCons te tr) σ H (v :: vs) := fun _ q => h _ (hr _ q)
/-- a call of a method; of a def -/
theorem call_m {sp : Sp} {t : TA} {vs : List V} {Q : VK} (ha : Val ta σ H (.ref a)) (ho : H a = some (.ins C dx fs)) (hm : fs.lookup m = none) (hv : ValA t σ H vs) (q : sp (.ref a :: vs) H Q E0) : tMeth C m sp [] E0 ta t σ H Q :=
  ha _ ⟨a, dx, fs, rfl, ho, hm, hv _ (by rw [List.append_nil]; exact q)⟩
theorem call_f {sp : Sp} {t : TA} {vs : List V} {Q : VK} (hv : ValA t σ H vs) (q : sp vs H Q E0) : tCall sp [] E0 t σ H Q := hv _ (by rw [List.append_nil]; exact q)
end
theorem same_new {H : Hp} {p : Addr} {o : HO} (h : H p = none) : Same H (upd H p o) := fun a u e => by
  rw [upd_ne (ne_of_none e h)]
  exact e
end K73
end
section
set_option maxHeartbeats 4000000
namespace K73
open PySem PySem.Spec PyProof.Rows L2

/-! ### the plain state of the strands -/
def up {α : Type} (f : Nat → α) (x : Nat) (v : α) : Nat → α := fun y => if y = x then v else f y
theorem up_same {α : Type} {f : Nat → α} {x : Nat} {v : α} : up f x v x = v := if_pos rfl
theorem up_ne {α : Type} {f : Nat → α} {x y : Nat} {v : α} (h : y ≠ x) : up f x v y = f y := if_neg h
structure C where
  n : Nat
  left : Nat → Option Nat
  right : Nat → Option Nat
  above : Nat → Option Nat
  flip : Nat → Bool
  worth : Nat → Int
  most : Nat → Int
  many : Nat → Int
  steps : Nat
/-- what is reckoned besides -/
structure J where
  bits : Nat → Int
  total : Nat → Int
  allBits : Nat → Int
  hung : Nat → Addr
  allMany : Nat → Int
  allTotal : Nat → Int
inductive Fd | left | right | above | flipped | later | worth | bits | many | total | most | allBits | hung | allMany | allTotal
  deriving DecidableEq
def ov : Option Nat → V
  | none => .non
  | some x => .int (x : Int)
def mOf (c : C) (j : J) : Fd → Nat → V
  | .left => fun x => ov (c.left x)
  | .right => fun x => ov (c.right x)
  | .above => fun x => ov (c.above x)
  | .flipped => fun x => .bl (c.flip x)
  | .later => fun _ => .int 0
  | .worth => fun x => .int (c.worth x)
  | .bits => fun x => .int (j.bits x)
  | .many => fun x => .int (c.many x)
  | .total => fun x => .int (j.total x)
  | .most => fun x => .int (c.most x)
  | .allBits => fun x => .int (j.allBits x)
  | .hung => fun x => .ref (j.hung x)
  | .allMany => fun x => .int (j.allMany x)
  | .allTotal => fun x => .int (j.allTotal x)
/-- where the strands' object, its dict, its lists stand -/
structure SA where
  p : Addr
  dx : Addr
  l : Fd → Addr
  st : Addr
def sf (A : SA) : List (Str × V) :=
  [("left", .ref (A.l .left)), ("right", .ref (A.l .right)), ("above", .ref (A.l .above)), ("flipped", .ref (A.l .flipped)), ("later", .ref (A.l .later)), ("worth", .ref (A.l .worth)), ("bits", .ref (A.l .bits)),
   ("many", .ref (A.l .many)), ("total", .ref (A.l .total)), ("most", .ref (A.l .most)), ("all_bits", .ref (A.l .allBits)), ("hung", .ref (A.l .hung)), ("all_many", .ref (A.l .allMany)), ("all_total", .ref (A.l .allTotal)), ("steps", .ref A.st)]
def fname : Fd → Str
  | .left => "left" | .right => "right" | .above => "above" | .flipped => "flipped" | .later => "later" | .worth => "worth" | .bits => "bits" | .many => "many" | .total => "total" | .most => "most"
  | .allBits => "all_bits" | .hung => "hung" | .allMany => "all_many" | .allTotal => "all_total"
theorem sf_at (A : SA) (f : Fd) : (sf A).lookup (fname f) = some (.ref (A.l f)) := by
  cases f <;> rfl
theorem sf_st (A : SA) : (sf A).lookup ("steps" : Str) = some (.ref A.st) := by rfl
def sNames : List Str := ["left", "right", "above", "flipped", "later", "worth", "bits", "many", "total", "most", "all_bits", "hung", "all_many", "all_total", "steps"]
theorem lookup_no {fs : List (Str × V)} {m : Str} (h : (fs.map (·.1)).contains m = false) : fs.lookup m = none := by
  induction fs with
  | nil => rfl
  | cons a r ih =>
    obtain ⟨k, v⟩ := a
    simp only [List.map_cons, List.contains_cons, Bool.or_eq_false_iff] at h
    rw [List.lookup_cons, h.1]
    exact ih h.2
theorem sf_no (A : SA) {m : Str} (h : sNames.contains m = false) : (sf A).lookup m = none := lookup_no h
def Mut (A : SA) (a : Addr) : Prop := (∃ f, a = A.l f) ∨ a = A.st
/-- all but the lists stand as they stood -/
def Fr (A : SA) (H H' : Hp) : Prop := ∀ a o, H a = some o → ¬ Mut A a → H' a = some o
theorem Fr.refl (A : SA) (H : Hp) : Fr A H H := fun _ _ h _ => h
theorem Fr.trans {A : SA} {H H1 H2 : Hp} (a : Fr A H H1) (b : Fr A H1 H2) : Fr A H H2 := fun x o h n => b x o (a x o h n) n
theorem Fr.ex {A : SA} {H H' : Hp} (e : Same H H') : Fr A H H' := fun a o h _ => e a o h
/-- the strands at A hold c and j -/
structure Arr (S : Addr) (A : SA) (c : C) (j : J) (H : Hp) : Prop where
  ob : H A.p = some (.ins S A.dx (sf A))
  ls : ∀ f, H (A.l f) = some (.lst ((List.range c.n).map (mOf c j f)))
  sts : ∃ xs, H A.st = some (.lst xs) ∧ xs.length = c.steps
  inj : ∀ f g, A.l f = A.l g → f = g
  nst : ∀ f, A.l f ≠ A.st
  hung : ∀ x, x < c.n → ∃ a b, H (j.hung x) = some (.tup [.int a, .int b])
theorem mut_ne {S : Addr} {A : SA} {c : C} {j : J} {H : Hp} (R : Arr S A c j H) {a : Addr} {o : HO} (h : H a = some o) (hl : ∀ xs, o ≠ .lst xs) : ¬ Mut A a := by
  rintro (⟨f, rfl⟩ | rfl)
  · rw [R.ls f] at h
    exact hl _ (Option.some.inj h).symm
  · obtain ⟨xs, h1, _⟩ := R.sts
    rw [h1] at h
    exact hl _ (Option.some.inj h).symm
theorem mut_none {S : Addr} {A : SA} {c : C} {j : J} {H : Hp} (R : Arr S A c j H) {a : Addr} (h : H a = none) : ¬ Mut A a := by
  rintro (⟨f, rfl⟩ | rfl)
  · rw [R.ls f] at h; cases h
  · obtain ⟨xs, h1, _⟩ := R.sts
    rw [h1] at h; cases h
theorem Arr.ex {S : Addr} {A : SA} {c : C} {j : J} {H H' : Hp} (R : Arr S A c j H) (e : Same H H') : Arr S A c j H' where
  ob := e _ _ R.ob
  ls f := e _ _ (R.ls f)
  sts := let ⟨xs, h1, h2⟩ := R.sts; ⟨xs, e _ _ h1, h2⟩
  inj := R.inj
  nst := R.nst
  hung x hx := let ⟨a, b, h⟩ := R.hung x hx; ⟨a, b, e _ _ h⟩
theorem map_set {α : Type} (g g' : Nat → α) (n x : Nat) (v : α) (hg : ∀ y, y < n → g' y = if y = x then v else g y) : ((List.range n).map g).set x v = (List.range n).map g' := by
  apply List.ext_getElem
  · simp
  · intro i h1 h2
    simp at h1 h2
    rw [List.getElem_set]
    simp only [List.getElem_map, List.getElem_range]
    rw [hg i h2]
    by_cases e : x = i
    · subst e; simp
    · rw [if_neg e, if_neg (fun q => e q.symm)]
/-- a store into a list -/
theorem Arr.put {S : Addr} {A : SA} {c c' : C} {j j' : J} {H : Hp} (R : Arr S A c j H) (f : Fd) (x : Nat) (v : V) (hn : c'.n = c.n) (hs : c'.steps = c.steps)
    (hm : ∀ g y, y < c.n → mOf c' j' g y = if g = f ∧ y = x then v else mOf c j g y) (hh : ∀ y, y < c.n → ∃ a b, H (j'.hung y) = some (.tup [.int a, .int b])) :
    Arr S A c' j' (upd H (A.l f) (.lst (((List.range c.n).map (mOf c j f)).set x v))) where
  ob := by
    rw [upd_ne]
    · exact R.ob
    · exact ne_of R.ob (R.ls f) (by intro q; cases q)
  ls g := by
    rw [hn]
    by_cases e : g = f
    · subst e
      rw [upd_same]
      congr 2
      refine map_set _ _ _ _ _ fun y hy => ?_
      rw [hm g y hy]
      by_cases e2 : y = x <;> simp [e2]
    · rw [upd_ne (fun q => e (R.inj _ _ q)), R.ls g]
      congr 2
      apply List.map_congr_left
      intro y hy
      rw [hm g y (List.mem_range.mp hy), if_neg (fun q => e q.1)]
  sts := by
    obtain ⟨xs, h1, h2⟩ := R.sts
    exact ⟨xs, by rw [upd_ne (fun q => R.nst f q.symm)]; exact h1, by rw [hs]; exact h2⟩
  inj := R.inj
  nst := R.nst
  hung y hy := by
    rw [hn] at hy
    obtain ⟨a, b, h⟩ := hh y hy
    exact ⟨a, b, by rw [upd_ne (ne_of h (R.ls f) (by intro q; cases q))]; exact h⟩
theorem fr_put {A : SA} {H : Hp} (f : Fd) (o : HO) : Fr A H (upd H (A.l f) o) := fun a u h n => by
  rw [upd_ne (fun q => n (Or.inl ⟨f, q⟩))]
  exact h
theorem fr_st {A : SA} {H : Hp} (o : HO) : Fr A H (upd H A.st o) := fun a u h n => by
  rw [upd_ne (fun q => n (Or.inr q))]
  exact h
theorem Arr.step {S : Addr} {A : SA} {c : C} {j : J} {H : Hp} {xs : List V} {v : V} (R : Arr S A c j H) (hx : H A.st = some (.lst xs)) :
    Arr S A { c with steps := c.steps + 1 } j (upd H A.st (.lst (xs ++ [v]))) where
  ob := by
    rw [upd_ne]
    · exact R.ob
    · exact ne_of R.ob hx (by intro q; cases q)
  ls f := by
    rw [upd_ne (R.nst f)]
    exact R.ls f
  sts := ⟨_, upd_same, by
    obtain ⟨ys, h1, h2⟩ := R.sts
    rw [hx] at h1
    cases h1
    rw [List.length_append, h2]; rfl⟩
  inj := R.inj
  nst := R.nst
  hung y hy := by
    obtain ⟨a, b, h⟩ := R.hung y hy
    exact ⟨a, b, by rw [upd_ne (ne_of h hx (by intro q; cases q))]; exact h⟩
section
variable {S : Addr} {A : SA} {c : C} {j : J} {H : Hp} {σ : L2.St} {K : PySem.W.Frag} {ta tb : TE}
theorem Arr.at_ (R : Arr S A c j H) (f : Fd) {x : Nat} (hx : x < c.n) : ((List.range c.n).map (mOf c j f))[x]? = some (mOf c j f x) := by
  rw [List.getElem?_map, List.getElem?_range hx]; rfl
theorem no_of (T : ∀ f, NoAttr K S (fname f)) (f : Fd) : NoAttr K S (fname f) := T f
/-- self.f[e] -/
theorem val_rd (cl : Cls K S) (no : ∀ f, NoAttr K S (fname f)) (R : Arr S A c j H) (f : Fd) {x : Nat} (hx : x < c.n) (hs : Val ta σ H (.ref A.p)) (hb : Val tb σ H (.int (x : Int))) : Val (tOp (rIxL K) (tFld K ta (fname f)) tb) σ H (mOf c j f x) :=
  val_ixl (val_fld hs R.ob cl (no f) (sf_at A f)) (R.ls f) hb (R.at_ f hx)
/-- self.f[e] = v, the store's reading -/
theorem val_fldS (cl : Cls K S) (no : ∀ f, NoAttr K S (fname f)) (R : Arr S A c j H) (f : Fd) (hs : Val ta σ H (.ref A.p)) : Val (tFld K ta (fname f)) σ H (.ref (A.l f)) :=
  val_fld hs R.ob cl (no f) (sf_at A f)
end
def isTop (c : C) (x : Nat) : Bool := match c.above x with
  | none => true
  | some u => !(c.left u == some x || c.right u == some x)
/-- all that the lists name is there -/
def WF (c : C) : Prop := ∀ x, x < c.n → ∀ y, (c.left x = some y ∨ c.right x = some y ∨ c.above x = some y) → y < c.n
theorem noS {w : World} {K : PySem.W.Frag} {mg : Str → Option Value} (T : Txt w K mg) : ∀ f, NoAttr K (aS K) (fname f) := by
  intro f
  cases f
  · exact T.nS_left
  · exact T.nS_right
  · exact T.nS_above
  · exact T.nS_flipped
  · exact T.nS_later
  · exact T.nS_worth
  · exact T.nS_bits
  · exact T.nS_many
  · exact T.nS_total
  · exact T.nS_most
  · exact T.nS_all_bits
  · exact T.nS_hung
  · exact T.nS_all_many
  · exact T.nS_all_total
/-! ### stores, field by field -/
section
variable {S : Addr} {A : SA} {c : C} {j : J} {H : Hp}
theorem Arr.w_left (R : Arr S A c j H) (x : Nat) (o : Option Nat) : Arr S A { c with left := up c.left x o } j (upd H (A.l .left) (.lst (((List.range c.n).map (mOf c j .left)).set x (ov o)))) :=
  R.put .left x _ rfl rfl (fun g y _ => by
    cases g <;> simp [mOf, up] <;> (by_cases e : y = x <;> simp [e])) R.hung
theorem Arr.w_right (R : Arr S A c j H) (x : Nat) (o : Option Nat) : Arr S A { c with right := up c.right x o } j (upd H (A.l .right) (.lst (((List.range c.n).map (mOf c j .right)).set x (ov o)))) :=
  R.put .right x _ rfl rfl (fun g y _ => by
    cases g <;> simp [mOf, up] <;> (by_cases e : y = x <;> simp [e])) R.hung
theorem Arr.w_above (R : Arr S A c j H) (x : Nat) (o : Option Nat) : Arr S A { c with above := up c.above x o } j (upd H (A.l .above) (.lst (((List.range c.n).map (mOf c j .above)).set x (ov o)))) :=
  R.put .above x _ rfl rfl (fun g y _ => by
    cases g <;> simp [mOf, up] <;> (by_cases e : y = x <;> simp [e])) R.hung
theorem Arr.w_flipped (R : Arr S A c j H) (x : Nat) (b : Bool) : Arr S A { c with flip := up c.flip x b } j (upd H (A.l .flipped) (.lst (((List.range c.n).map (mOf c j .flipped)).set x (.bl b)))) :=
  R.put .flipped x _ rfl rfl (fun g y _ => by
    cases g <;> simp [mOf, up] <;> (by_cases e : y = x <;> simp [e])) R.hung
theorem Arr.w_worth (R : Arr S A c j H) (x : Nat) (i : Int) : Arr S A { c with worth := up c.worth x i } j (upd H (A.l .worth) (.lst (((List.range c.n).map (mOf c j .worth)).set x (.int i)))) :=
  R.put .worth x _ rfl rfl (fun g y _ => by
    cases g <;> simp [mOf, up] <;> (by_cases e : y = x <;> simp [e])) R.hung
theorem Arr.w_many (R : Arr S A c j H) (x : Nat) (i : Int) : Arr S A { c with many := up c.many x i } j (upd H (A.l .many) (.lst (((List.range c.n).map (mOf c j .many)).set x (.int i)))) :=
  R.put .many x _ rfl rfl (fun g y _ => by
    cases g <;> simp [mOf, up] <;> (by_cases e : y = x <;> simp [e])) R.hung
theorem Arr.w_most (R : Arr S A c j H) (x : Nat) (i : Int) : Arr S A { c with most := up c.most x i } j (upd H (A.l .most) (.lst (((List.range c.n).map (mOf c j .most)).set x (.int i)))) :=
  R.put .most x _ rfl rfl (fun g y _ => by
    cases g <;> simp [mOf, up] <;> (by_cases e : y = x <;> simp [e])) R.hung
theorem Arr.w_bits (R : Arr S A c j H) (x : Nat) (i : Int) : Arr S A c { j with bits := up j.bits x i } (upd H (A.l .bits) (.lst (((List.range c.n).map (mOf c j .bits)).set x (.int i)))) :=
  R.put .bits x _ rfl rfl (fun g y _ => by
    cases g <;> simp [mOf, up] <;> (by_cases e : y = x <;> simp [e])) R.hung
theorem Arr.w_total (R : Arr S A c j H) (x : Nat) (i : Int) : Arr S A c { j with total := up j.total x i } (upd H (A.l .total) (.lst (((List.range c.n).map (mOf c j .total)).set x (.int i)))) :=
  R.put .total x _ rfl rfl (fun g y _ => by
    cases g <;> simp [mOf, up] <;> (by_cases e : y = x <;> simp [e])) R.hung
theorem Arr.w_allBits (R : Arr S A c j H) (x : Nat) (i : Int) : Arr S A c { j with allBits := up j.allBits x i } (upd H (A.l .allBits) (.lst (((List.range c.n).map (mOf c j .allBits)).set x (.int i)))) :=
  R.put .allBits x _ rfl rfl (fun g y _ => by
    cases g <;> simp [mOf, up] <;> (by_cases e : y = x <;> simp [e])) R.hung
theorem Arr.w_allMany (R : Arr S A c j H) (x : Nat) (i : Int) : Arr S A c { j with allMany := up j.allMany x i } (upd H (A.l .allMany) (.lst (((List.range c.n).map (mOf c j .allMany)).set x (.int i)))) :=
  R.put .allMany x _ rfl rfl (fun g y _ => by
    cases g <;> simp [mOf, up] <;> (by_cases e : y = x <;> simp [e])) R.hung
theorem Arr.w_allTotal (R : Arr S A c j H) (x : Nat) (i : Int) : Arr S A c { j with allTotal := up j.allTotal x i } (upd H (A.l .allTotal) (.lst (((List.range c.n).map (mOf c j .allTotal)).set x (.int i)))) :=
  R.put .allTotal x _ rfl rfl (fun g y _ => by
    cases g <;> simp [mOf, up] <;> (by_cases e : y = x <;> simp [e])) R.hung
theorem Arr.w_hung (R : Arr S A c j H) (x : Nat) {t : Addr} {a b : Int} (ht : H t = some (.tup [.int a, .int b])) : Arr S A c { j with hung := up j.hung x t } (upd H (A.l .hung) (.lst (((List.range c.n).map (mOf c j .hung)).set x (.ref t)))) :=
  R.put .hung x _ rfl rfl (fun g y _ => by
    cases g <;> simp [mOf, up] <;> (by_cases e : y = x <;> simp [e])) (fun y hy => by
    by_cases e : y = x
    · exact ⟨a, b, by show H (up j.hung x t y) = _; rw [e, up_same]; exact ht⟩
    · obtain ⟨a', b', h⟩ := R.hung y hy
      exact ⟨a', b', by show H (up j.hung x t y) = _; rw [up_ne e]; exact h⟩)
end
section
variable {S : Addr} {A : SA} {c c' : C} {j j' : J} {H : Hp} {σ : L2.St} {K : PySem.W.Frag} {ta tb te : TE} {v : V} {Q : L2.St → Hp → Prop}
/-- self.f[x] = v -/
theorem st_w (cl : Cls K S) (no : ∀ f, NoAttr K S (fname f)) (R : Arr S A c j H) (f : Fd) {x : Nat} (hx : x < c.n) (hs : Val ta σ H (.ref A.p)) (hb : Val tb σ H (.int (x : Int)))
    (R' : Arr S A c' j' (upd H (A.l f) (.lst (((List.range c.n).map (mOf c j f)).set x v)))) (q : ∀ H', Arr S A c' j' H' → Fr A H H' → Q σ H') : gSub (tFld K ta (fname f)) tb rSetL v σ H Q := by
  refine val_fld hs R.ob cl (no f) (sf_at A f) _ ?_
  refine hb _ ?_
  refine ⟨A.l f, _, _, x, rfl, rfl, R.ls f, ?_, q _ R' (fr_put f _)⟩
  unfold ixN
  rw [if_pos (by omega), if_pos (by simp; omega)]
  simp
theorem val_not {b : Bool} (h : Val te σ H (.bl b)) : Val (tNotV te) σ H (.bl (!b)) := fun Q q => h _ ⟨b, rfl, q⟩
end
end K73
end
section
set_option maxHeartbeats 4000000
namespace K73
open PySem PySem.Spec PyProof.Rows L2
section
variable {P : Program} {w : World} {K : PySem.W.Frag} {mg : Str → Option Value} {base : Heap}

def sp_Strands_is_top (K : PySem.W.Frag) : Sp := fun vs H Q _ => ∃ (A : SA) (c : C) (j : J) (x : Nat), vs = [.ref A.p, .int (x : Int)] ∧ Arr (aS K) A c j H ∧ WF c ∧ x < c.n ∧ ∀ H', Same H H' → Q (.bl (isTop c x)) H'
theorem sc_Strands_is_top : FnScope ["self", "x", "u"] ["self", "x"] (defScope s_Strands_is_top) := ⟨rfl, rfl, rfl, by decide +kernel, rfl, by decide +kernel, by decide +kernel⟩
theorem inV2 {x : Nat} {a b : Option Nat} : inV (.int (x : Int)) [ov a, ov b] = (a == some x || b == some x) := by
  have e : ∀ o : Option Nat, eqV (ov o) (.int (x : Int)) = (o == some x) := by
    intro o
    cases o with
    | none => rfl
    | some y =>
      show ((y : Int) == (x : Int)) = (some y == some x)
      rw [Bool.eq_iff_iff]
      simp [Int.natCast_inj]
  unfold inV
  simp [e]
theorem flat_ov (o : Option Nat) : flatV (ov o) = true := by cases o <;> rfl
theorem ok_Strands_is_top (T : Txt w K mg) : Good P w K mg base 1 (He.ma K (aS K) "is_top") ["self", "x"] (sp_Strands_is_top K) := by
  refine good_mk T.D_Strands_is_top sc_Strands_is_top (fun _ _ _ _ _ _ us hl => match us, hl with | [_, _], _ => rfl) (fun vs H Q E h => ?_) (fun cdv A outer s H vs Q E hr h => ?_)
  · obtain ⟨A, c, j, x, rfl, _⟩ := h
    rfl
  · obtain ⟨A, c, j, x, rfl, R, wf, hx, k⟩ := h
    refine ⟨_, pss_cons (ps_set (i := 2) sc_Strands_is_top.nd rfl (Or.inl rfl) (pe_ix ix_list (pe_fld (pv 0) rfl) (pv 1) (fun _ _ => rfl)))
      (pss_one (ps_ret (pe_or (pe_cmpR op_isN (pv 2) pe_non (nomark _)) (pe_one (pe_cmpR op_notIn_seq (pv 1) (pe_tup (pa_cons (pe_ix ix_list (pe_fld (pv 0) rfl) (pv 2) (fun _ _ => rfl)) (pa_cons (pe_ix ix_list (pe_fld (pv 0) rfl) (pv 2) (fun _ _ => rfl)) pa_nil))) rfl))))), ?_⟩
    refine val_rd T.clS (noS T) R .above hx (val_var rfl) (val_var rfl) _ ?_
    refine ⟨_, rfl, rfl, ?_⟩
    unfold isTop at k
    cases ha : c.above x with
    | none =>
      rw [ha] at k
      have e : mOf c j .above x = .non := by show ov (c.above x) = _; rw [ha]; rfl
      rw [e]
      exact ⟨true, rfl, iteT (k _ (Same.refl _))⟩
    | some u =>
      rw [ha] at k
      have hu : u < c.n := wf x hx u (Or.inr (Or.inr ha))
      have e : mOf c j .above x = .int (u : Int) := by show ov (c.above x) = _; rw [ha]; rfl
      rw [e]
      refine ⟨false, rfl, iteF ?_⟩
      refine ⟨_, rfl, ?_⟩
      refine val_rd T.clS (noS T) R .left hu (val_var rfl) (val_var rfl) _ ?_
      refine val_rd T.clS (noS T) R .right hu (val_var rfl) (val_var rfl) _ ?_
      refine ⟨by show 2 ≤ sizeLine; decide, fun p hp => ?_⟩
      refine ⟨p, _, rfl, Or.inr (SqT.of upd_same), rfl, ?_, ?_⟩
      · simp [mOf, flat_ov]
      · have e2 : inV (.int (x : Int)) [mOf c j .left u, mOf c j .right u] = (c.left u == some x || c.right u == some x) := inV2
        rw [e2]
        exact k _ (same_new hp)

/-! ### flip -/
def flipAt (c : C) : Option Nat → C
  | none => c
  | some x => { c with flip := up c.flip x (!c.flip x) }
def sp_Strands_flip (K : PySem.W.Frag) : Sp := fun vs H Q _ => ∃ (A : SA) (c : C) (j : J) (o : Option Nat), vs = [.ref A.p, ov o] ∧ Arr (aS K) A c j H ∧ (∀ x, o = some x → x < c.n) ∧ ∀ H', Arr (aS K) A (flipAt c o) j H' → Fr A H H' → Q .non H'
abbrev n_Strands_flip : List Str := ["self", "x"]
theorem sc_Strands_flip : FnScope n_Strands_flip ["self", "x"] (defScope s_Strands_flip) := ⟨rfl, rfl, rfl, by decide +kernel, rfl, by decide +kernel, by decide +kernel⟩
theorem ok_Strands_flip (T : Txt w K mg) : Good P w K mg base 1 (He.ma K (aS K) "flip") ["self", "x"] (sp_Strands_flip K) := by
  refine good_mk T.D_Strands_flip sc_Strands_flip (fun _ _ _ _ _ _ us hl => match us, hl with | [_, _], _ => rfl) (fun vs H Q E h => ?_) (fun cdv A outer s H vs Q E hr h => ?_)
  · obtain ⟨A, c, j, o, rfl, _⟩ := h
    rfl
  · obtain ⟨A, c, j, o, rfl, R, hx, k⟩ := h
    refine ⟨_, (pss_one (ps_if (pt_cmpR op_notN (pv 1) pe_non (nomark _)) (pss_one (ps_asg (pe_not (pe_ix ix_list (pe_fld (pv 0) rfl) (pv 1) (fun _ _ => rfl))) (pg_sub (pe_fld (pv 0) rfl) (pv 1) set_list))) pss_nil)), ?_⟩
    refine ⟨_, rfl, rfl, _, rfl, ?_⟩
    cases o with
    | none => exact iteF (k _ R (Fr.refl _ _))
    | some x =>
      have hx := hx x rfl
      refine iteT ?_
      refine val_not (val_rd T.clS (noS T) R .flipped hx (val_var rfl) (val_var rfl)) _ ?_
      exact st_w T.clS (noS T) R .flipped hx (val_var rfl) (val_var rfl) (R.w_flipped x _) fun H1 R1 F1 => k _ R1 F1
end
end K73
end
section
set_option maxHeartbeats 4000000
namespace K73
open PySem PySem.Spec PyProof.Rows L2
section
variable {P : Program} {w : World} {K : PySem.W.Frag} {mg : Str → Option Value} {base : Heap}
/-! ### hand_down -/
def handDown (c : C) (x : Nat) : C :=
  if c.flip x = true then
    let c1 : C := { c with left := up c.left x (c.right x), right := up c.right x (c.left x) }
    let c2 := flipAt c1 (c1.left x)
    let c3 := flipAt c2 (c2.right x)
    { c3 with flip := up c3.flip x false }
  else c
theorem flipAt_n (c : C) (o : Option Nat) : (flipAt c o).n = c.n := by cases o <;> rfl
def sp_Strands_hand_down (K : PySem.W.Frag) : Sp := fun vs H Q _ => ∃ (A : SA) (c : C) (j : J) (x : Nat), vs = [.ref A.p, .int (x : Int)] ∧ Arr (aS K) A c j H ∧ WF c ∧ x < c.n ∧ ∀ H', Arr (aS K) A (handDown c x) j H' → Fr A H H' → Q .non H'
abbrev n_Strands_hand_down : List Str := ["self", "x"]
theorem sc_Strands_hand_down : FnScope n_Strands_hand_down ["self", "x"] (defScope s_Strands_hand_down) := ⟨rfl, rfl, rfl, by decide +kernel, rfl, by decide +kernel, by decide +kernel⟩
theorem ok_Strands_hand_down (T : Txt w K mg) : Good P w K mg base 2 (He.ma K (aS K) "hand_down") ["self", "x"] (sp_Strands_hand_down K) := by
  refine good_mk T.D_Strands_hand_down sc_Strands_hand_down (fun _ _ _ _ _ _ us hl => match us, hl with | [_, _], _ => rfl) (fun vs H Q E h => ?_) (fun cdv A outer s H vs Q E hr h => ?_)
  · obtain ⟨A, c, j, x, rfl, _⟩ := h
    rfl
  · obtain ⟨A, c, j, x, rfl, R, wf, hx, k⟩ := h
    refine ⟨_, (pss_cons (ps_if (pt_val (pe_ix ix_list (pe_fld (pv 0) rfl) (pv 1) (fun _ _ => rfl))) (pss_cons (ps_asg (pe_tup (pa_cons (pe_ix ix_list (pe_fld (pv 0) rfl) (pv 1) (fun _ _ => rfl)) (pa_cons (pe_ix ix_list (pe_fld (pv 0) rfl) (pv 1) (fun _ _ => rfl)) pa_nil))) (pg_tup rfl (pgs_cons (pg_sub (pe_fld (pv 0) rfl) (pv 1) set_list) (pgs_cons (pg_sub (pe_fld (pv 0) rfl) (pv 1) set_list) pgs_nil))))
        (pss_cons (ps_expr (pe_m (pv 0) T.clS T.mS_flip (ok_Strands_flip T) (hr.mono (by decide)) (pa_cons (pe_ix ix_list (pe_fld (pv 0) rfl) (pv 1) (fun _ _ => rfl)) pa_nil)))
        (pss_cons (ps_expr (pe_m (pv 0) T.clS T.mS_flip (ok_Strands_flip T) (hr.mono (by decide)) (pa_cons (pe_ix ix_list (pe_fld (pv 0) rfl) (pv 1) (fun _ _ => rfl)) pa_nil)))
        (pss_one (ps_asg pe_bl (pg_sub (pe_fld (pv 0) rfl) (pv 1) set_list)))))) pss_nil)
      (pss_one (ps_if (pt_cmpR op_ne (pe_ix ix_list (pe_fld (pv 0) rfl) (pv 1) (fun _ _ => rfl)) pe_int (nomark _)) pss_never pss_nil))), ?_⟩
    have tail : ∀ (c' : C) (H' : Hp), Arr (aS K) A c' j H' → c'.n = c.n → c' = handDown c x → Fr A H H' →
        tIfS (tTest (tOp rNe (tOp (rIxL K) (tFld K (tVar 0) "later") (tVar 1)) (tC (.int 0)))) tNever tNext { nx := fun _ H' => Q .non H', rt := Q } (start n_Strands_hand_down [.ref A.p, .int (x : Int)]) H' := by
      intro c' H' R' hn hc F'
      refine val_rd T.clS (noS T) R' .later (by rw [hn]; exact hx) (val_var rfl) (val_var rfl) _ ?_
      refine ⟨rfl, false, rfl, iteF ?_⟩
      exact k _ (by rw [← hc]; exact R') F'
    refine val_rd T.clS (noS T) R .flipped hx (val_var rfl) (val_var rfl) _ ?_
    refine ⟨_, rfl, ?_⟩
    cases hf : c.flip x with
    | false => exact iteF (tail c H R rfl (by unfold handDown; rw [hf]; rfl) (Fr.refl _ _))
    | true =>
      refine iteT ?_
      refine val_rd T.clS (noS T) R .right hx (val_var rfl) (val_var rfl) _ ?_
      refine val_rd T.clS (noS T) R .left hx (val_var rfl) (val_var rfl) _ ?_
      refine ⟨by show 2 ≤ sizeLine; decide, fun p hp => ?_⟩
      have R0 := R.ex (same_new (o := .tup [mOf c j .right x, mOf c j .left x]) hp)
      refine ⟨p, _, rfl, SqT.of upd_same, rfl, _, _, rfl, ?_⟩
      refine st_w T.clS (noS T) R0 .left hx (val_var rfl) (val_var rfl) (R0.w_left x (c.right x)) (fun H1 R1 F1 => ?_)
      refine ⟨_, _, rfl, ?_⟩
      refine st_w T.clS (noS T) R1 .right hx (val_var rfl) (val_var rfl) (R1.w_right x (c.left x)) (fun H2 R2 F2 => ?_)
      refine ⟨rfl, ?_⟩
      refine call_m (val_var rfl) R2.ob (sf_no A (by decide +kernel)) (vala_cons (val_rd T.clS (noS T) R2 .left hx (val_var rfl) (val_var rfl)) vala_nil) ?_
      refine ⟨A, _, j, up c.left x (c.right x) x, rfl, R2, ?_, fun H3 R3 F3 => ?_⟩
      · intro y hy
        rw [up_same] at hy
        exact wf x hx y (Or.inr (Or.inl hy))
      refine call_m (val_var rfl) R3.ob (sf_no A (by decide +kernel)) (vala_cons (val_rd T.clS (noS T) R3 .right (by rw [flipAt_n]; exact hx) (val_var rfl) (val_var rfl)) vala_nil) ?_
      refine ⟨A, _, j, _, rfl, R3, ?_, fun H4 R4 F4 => ?_⟩
      · intro y hy
        have e : up c.right x (c.left x) x = some y := by
          rw [← hy]
          cases up c.left x (c.right x) x <;> rfl
        rw [up_same] at e
        rw [flipAt_n]
        exact wf x hx y (Or.inl e)
      refine st_w T.clS (noS T) R4 .flipped (by rw [flipAt_n, flipAt_n]; exact hx) (val_var rfl) (val_var rfl) (R4.w_flipped x false) (fun H5 R5 F5 => ?_)
      refine tail _ H5 R5 ?_ ?_ ?_
      · show (flipAt (flipAt _ _) _).n = c.n
        rw [flipAt_n, flipAt_n]
      · unfold handDown
        rw [hf]
        rfl
      · exact (((((Fr.ex (same_new hp)).trans F1).trans F2).trans F3).trans F4).trans F5
end
end K73
end
section
set_option maxHeartbeats 4000000
namespace K73
open PySem PySem.Spec PyProof.Rows L2 Evl

theorem given_map {α : Type} {ys : List α} (p : α → Bool) (h : α → V) : ∀ k, k ≤ ys.length → given k (fun i => (ys[i]?).elim false p) (fun i => (ys[i]?).elim .non h) = ((ys.take k).filter p).map h
  | 0, _ => rfl
  | k + 1, hk => by
    have ih := given_map (ys := ys) p h k (by omega)
    have hy : ys[k]? = some ys[k] := List.getElem?_eq_getElem hk
    rw [List.take_succ, hy, List.filter_append, List.map_append]
    cases hp : p ys[k] with
    | true =>
      rw [given_yes (by rw [hy]; exact hp), ih, hy]
      simp [hp]
    | false =>
      rw [given_no (by rw [hy]; exact hp), ih]
      simp [hp]
section
variable {σ : L2.St} {H : Hp} {K : PySem.W.Frag} {ta tb te tl : TE} {t : TT} {v x y : V} {a : Addr} {j : Nat} {vs : List Nat}
theorem el_mapL {α : Type} {ys : List α} {g : α → V} (p : α → Bool) (h : α → V) (hl : Ev tl σ H (.ref a)) (hx : SqL K H a (ys.map g)) (hz : ys.length ≤ 40000) (hw : ∀ x, wipe ((wipe σ vs).set j (some x)) vs = wipe σ vs)
    (ht : ∀ y ∈ ys, ∀ H1, Same H H1 → EvT t ((wipe σ vs).set j (some (g y))) H1 (p y)) (he : ∀ y ∈ ys, p y = true → ∀ H1, Same H H1 → Ev te ((wipe σ vs).set j (some (g y))) H1 (h y)) : EvL (tLc (iList K tl) (gName j) t te vs) σ H ((ys.filter p).map h) := by
  have e := el_lcL (t := t) (te := te) (j := j) (vs := vs) (fun i => (ys[i]?).elim false p) (fun i => (ys[i]?).elim .non h) hl hx (by rw [List.length_map]; exact hz) hw (fun i x H1 e hi => by
      rw [List.getElem?_map] at hi
      cases q : ys[i]? with
      | none => rw [q] at hi; cases hi
      | some y =>
        rw [q] at hi
        cases hi
        exact ht y (List.mem_of_getElem? q) H1 e) (fun i x H1 e hi hf => by
      rw [List.getElem?_map] at hi
      cases q : ys[i]? with
      | none => rw [q] at hi; cases hi
      | some y =>
        rw [q] at hi hf
        cases hi
        exact he y (List.mem_of_getElem? q) hf H1 e)
  rw [List.length_map, given_map p h ys.length (Nat.le_refl _), List.take_length] at e
  exact e
/-- over a tuple -/
theorem el_lcT {xs : List V} (f : Nat → Bool) (v : Nat → V) (h : ∀ H1, Same H H1 → ∀ Q : VK, (∀ H2 a, Same H1 H2 → SqT K H2 a xs → (∀ H3, Same H2 H3 → SqT K H3 a xs) → Q (.ref a) H2) → tl σ H1 Q) (hz : xs.length ≤ 40000) (hw : ∀ x, wipe ((wipe σ vs).set j (some x)) vs = wipe σ vs)
    (ht : ∀ (i : Nat) (x : V) H1, Same H H1 → xs[i]? = some x → EvT t ((wipe σ vs).set j (some x)) H1 (f i)) (he : ∀ (i : Nat) (x : V) H1, Same H H1 → xs[i]? = some x → f i = true → Ev te ((wipe σ vs).set j (some x)) H1 (v i)) :
    EvL (tLc (iTup K tl) (gName j) t te vs) σ H (given xs.length f v) := fun H0 e Q q => h H0 e _ fun H1 a e1 hx hk => ⟨a, rfl, ⟨xs, hx⟩, fun Dl hD =>
  lc_tup (xs := xs) (Cw H1 f v Dl) ⟨hD, Ex.new hD, upd_same⟩ (fun i H' _ p => hk H' p.2.1) (fun i x H' hi p => ⟨hw x, cw_turn p (by have := (List.getElem?_eq_some_iff.mp hi).1; omega) (ht i x H1 (Same.trans e e1) hi) (fun hf => he i x H1 (Same.trans e e1) hi hf)⟩)
    (fun H' p => q Dl H' (fresh_back e1 p.1) (Ex.trans e1 p.2.1) p.2.2)⟩
theorem el_mapTl {α : Type} {ys : List α} {g : α → V} (p : α → Bool) (h : α → V) (hl : ∀ H1, Same H H1 → ∀ Q : VK, (∀ H2 a, Same H1 H2 → SqT K H2 a (ys.map g) → (∀ H3, Same H2 H3 → SqT K H3 a (ys.map g)) → Q (.ref a) H2) → tl σ H1 Q) (hz : ys.length ≤ 40000) (hw : ∀ x, wipe ((wipe σ vs).set j (some x)) vs = wipe σ vs)
    (ht : ∀ y ∈ ys, ∀ H1, Same H H1 → EvT t ((wipe σ vs).set j (some (g y))) H1 (p y)) (he : ∀ y ∈ ys, p y = true → ∀ H1, Same H H1 → Ev te ((wipe σ vs).set j (some (g y))) H1 (h y)) : EvL (tLc (iTup K tl) (gName j) t te vs) σ H ((ys.filter p).map h) := by
  have e := el_lcT (t := t) (te := te) (j := j) (vs := vs) (fun i => (ys[i]?).elim false p) (fun i => (ys[i]?).elim .non h) hl (by rw [List.length_map]; exact hz) hw (fun i x H1 e hi => by
      rw [List.getElem?_map] at hi
      cases q : ys[i]? with
      | none => rw [q] at hi; cases hi
      | some y =>
        rw [q] at hi
        cases hi
        exact ht y (List.mem_of_getElem? q) H1 e) (fun i x H1 e hi hf => by
      rw [List.getElem?_map] at hi
      cases q : ys[i]? with
      | none => rw [q] at hi; cases hi
      | some y =>
        rw [q] at hi hf
        cases hi
        exact he y (List.mem_of_getElem? q) hf H1 e)
  rw [List.length_map, given_map p h ys.length (Nat.le_refl _), List.take_length] at e
  exact e
/-- over a tuple that stands -/
theorem el_mapT {α : Type} {ys : List α} {g : α → V} (p : α → Bool) (h : α → V) (hl : Ev tl σ H (.ref a)) (hx : SqT K H a (ys.map g)) (hz : ys.length ≤ 40000) (hw : ∀ x, wipe ((wipe σ vs).set j (some x)) vs = wipe σ vs)
    (ht : ∀ y ∈ ys, ∀ H1, Same H H1 → EvT t ((wipe σ vs).set j (some (g y))) H1 (p y)) (he : ∀ y ∈ ys, p y = true → ∀ H1, Same H H1 → Ev te ((wipe σ vs).set j (some (g y))) H1 (h y)) : EvL (tLc (iTup K tl) (gName j) t te vs) σ H ((ys.filter p).map h) :=
  el_mapTl p h (fun H1 e Q q => hl H1 e _ fun H2 e2 => q H2 a e2 (ex_t (Same.trans e e2) hx) fun H3 e3 => ex_t (Same.trans (Same.trans e e2) e3) hx) hz hw ht he
/-- over a new tuple -/
theorem el_mapNT {α : Type} {ys : List α} {g : α → V} (p : α → Bool) (h : α → V) (hl : EvU tl σ H (ys.map g)) (hz : ys.length ≤ 40000) (hw : ∀ x, wipe ((wipe σ vs).set j (some x)) vs = wipe σ vs)
    (ht : ∀ y ∈ ys, ∀ H1, Same H H1 → EvT t ((wipe σ vs).set j (some (g y))) H1 (p y)) (he : ∀ y ∈ ys, p y = true → ∀ H1, Same H H1 → Ev te ((wipe σ vs).set j (some (g y))) H1 (h y)) : EvL (tLc (iTup K tl) (gName j) t te vs) σ H ((ys.filter p).map h) :=
  el_mapTl p h (fun H1 e Q q => hl H1 e _ fun a H2 _ e2 h2 => q H2 a e2 (st_of h2) fun H3 e3 => st_of (e3 _ _ h2)) hz hw ht he
theorem et_yes : EvT tYes σ H true := fun H1 _ _ q => q H1 (Ex.refl H1)
/-- no test -/
theorem el_allL {α : Type} {ys : List α} {g : α → V} (h : α → V) (hl : Ev tl σ H (.ref a)) (hx : SqL K H a (ys.map g)) (hz : ys.length ≤ 40000) (hw : ∀ x, wipe ((wipe σ vs).set j (some x)) vs = wipe σ vs)
    (he : ∀ y ∈ ys, ∀ H1, Same H H1 → Ev te ((wipe σ vs).set j (some (g y))) H1 (h y)) : EvL (tLc (iList K tl) (gName j) tYes te vs) σ H (ys.map h) := by
  have e := el_mapL (t := tYes) (fun _ => true) h hl hx hz hw (fun _ _ _ _ => et_yes) (fun y hy _ H1 e => he y hy H1 e)
  rw [List.filter_eq_self.mpr (fun _ _ => rfl)] at e
  exact e
theorem el_allT {α : Type} {ys : List α} {g : α → V} (h : α → V) (hl : Ev tl σ H (.ref a)) (hx : SqT K H a (ys.map g)) (hz : ys.length ≤ 40000) (hw : ∀ x, wipe ((wipe σ vs).set j (some x)) vs = wipe σ vs)
    (he : ∀ y ∈ ys, ∀ H1, Same H H1 → Ev te ((wipe σ vs).set j (some (g y))) H1 (h y)) : EvL (tLc (iTup K tl) (gName j) tYes te vs) σ H (ys.map h) := by
  have e := el_mapT (t := tYes) (fun _ => true) h hl hx hz hw (fun _ _ _ _ => et_yes) (fun y hy _ H1 e => he y hy H1 e)
  rw [List.filter_eq_self.mpr (fun _ _ => rfl)] at e
  exact e
/-- a built-in over a new list -/
theorem ev_cbL {r : List V → Hp → VK → Prop} {ys : List V} (h : EvL te σ H ys) (hr : ∀ p H1, Same H H1 → H1 p = some (.lst ys) → RC r [.ref p] H1 v) : Ev (tCB r (tCons te tNil)) σ H v := fun H1 e Q q =>
  h H1 e _ fun p H2 _ e2 h2 => hr p H2 (Same.trans e e2) h2 H2 (Ex.refl _) _ fun H3 e3 => q H3 (Ex.trans e2 e3)
theorem rc_sum {p : Addr} {ns : List Int} (h : H p = some (.lst (ns.map V.int))) : RC (rSum K) [.ref p] H (.int ns.sum) := fun H1 e _ q => ⟨p, ns, rfl, SqL.of (e _ _ h), q H1 (Ex.refl _)⟩
def maxL (a : Int) (ns : List Int) : Int := ns.foldl max a
theorem maxL_mem (ns : List Int) : ∀ a, maxL a ns ∈ a :: ns := by
  induction ns with
  | nil => intro a; exact List.mem_cons_self
  | cons b r ih =>
    intro a
    show maxL (max a b) r ∈ _
    have h := ih (max a b)
    rcases List.mem_cons.mp h with h | h
    · rw [h]
      rcases Int.le_total a b with q | q
      · rw [Int.max_eq_right q]; simp
      · rw [Int.max_eq_left q]; simp
    · exact List.mem_cons_of_mem _ (List.mem_cons_of_mem _ h)
theorem maxL_ge (ns : List Int) : ∀ a, ∀ x ∈ a :: ns, x ≤ maxL a ns := by
  induction ns with
  | nil => intro a x hx; simp at hx; subst hx; exact Int.le_refl _
  | cons b r ih =>
    intro a x hx
    show x ≤ maxL (max a b) r
    rcases List.mem_cons.mp hx with h | h
    · subst h; exact Int.le_trans (Int.le_max_left _ _) (ih (max x b) _ List.mem_cons_self)
    · rcases List.mem_cons.mp h with h | h
      · subst h; exact Int.le_trans (Int.le_max_right _ _) (ih (max a x) _ List.mem_cons_self)
      · exact ih (max a b) x (List.mem_cons_of_mem _ h)
theorem rc_max {p : Addr} {a : Int} {ns : List Int} (h : H p = some (.lst ((a :: ns).map V.int))) : RC (rMax K) [.ref p] H (.int (maxL a ns)) := fun H1 e _ q => ⟨p, a :: ns, rfl, SqL.of (e _ _ h), by simp, fun m hm hle => by
  have e1 : m = maxL a ns := Int.le_antisymm (maxL_ge ns a m hm) (hle _ (maxL_mem ns a))
  rw [e1]
  exact q H1 (Ex.refl _)⟩
/-- xs ++ ys, both new -/
theorem el_catNN {xs ys : List V} (h1 : EvL ta σ H xs) (h2 : EvL tb σ H ys) (hz : xs.length + ys.length ≤ 40000) : EvL (tOp rCat ta tb) σ H (xs ++ ys) := fun H1 e Q q =>
  h1 H1 e _ fun p H2 hp e2 g2 => h2 H2 (Same.trans e e2) _ fun r H3 hr e3 g3 => ⟨p, r, xs, ys, rfl, rfl, (e3 _ _ g2), g3, Nat.le_trans hz (by decide), fun z hz => q z _ (fresh_back (Ex.trans e2 e3) hz) (Ex.trans (Ex.trans e2 e3) (Ex.new hz)) upd_same⟩
end
section
variable {S : Addr} {A : SA} {c : C} {j : J} {H : Hp} {σ : L2.St} {K : PySem.W.Frag} {ta tb te : TE} {a : Addr} {f : Str} {D C' dx : Addr} {fs : List (Str × V)} {v : V}
theorem ev_fld (h : Ev ta σ H (.ref a)) (ho : H a = some (.ins D dx fs)) (hc : Cls K D) (hn : NoAttr K D f) (hl : fs.lookup f = some v) : Ev (tFld K ta f) σ H v := fun H1 e Q q =>
  h H1 e _ fun H2 e2 => ⟨a, D, dx, fs, v, rfl, e2 _ _ (e _ _ ho), hc, hn, hl, q H2 e2⟩
theorem ev_ixl {l : Addr} {xs : List V} {n : Nat} (ha : Ev ta σ H (.ref l)) (hl : H l = some (.lst xs)) (hb : Ev tb σ H (.int (n : Int))) (hx : xs[n]? = some v) : Ev (tOp (rIxL K) ta tb) σ H v :=
  ev_op ha hb (rv_ixL (sq_of hl) (at_n hx))
theorem ev_ixt {l : Addr} {xs : List V} {n : Nat} (ha : Ev ta σ H (.ref l)) (hl : SqT K H l xs) (hb : Ev tb σ H (.int (n : Int))) (hx : xs[n]? = some v) : Ev (tOp (rIxT K) ta tb) σ H v :=
  ev_op ha hb (rv_ixT hl (at_n hx))
theorem ev_rd (cl : Cls K S) (no : ∀ f, NoAttr K S (fname f)) (R : Arr S A c j H) (f : Fd) {x : Nat} (hx : x < c.n) (hs : Ev ta σ H (.ref A.p)) (hb : Ev tb σ H (.int (x : Int))) : Ev (tOp (rIxL K) (tFld K ta (fname f)) tb) σ H (mOf c j f x) :=
  ev_ixl (ev_fld hs R.ob cl (no f) (sf_at A f)) (R.ls f) hb (R.at_ f hx)
theorem ev_here {Q : VK} (h : Ev te σ H v) (q : ∀ H2, Same H H2 → Q v H2) : te σ H Q := h H (Ex.refl _) _ q
end
section
variable {S : Addr} {A : SA} {c c' : C} {j j' : J} {H : Hp} {σ : L2.St} {K : PySem.W.Frag} {te : TE} {v : V} {tz : TS} {D : Ends} {ia ib : Nat}
/-- self.f[x] = e, the names in slots -/
theorem s_put (cl : Cls K S) (no : ∀ f, NoAttr K S (fname f)) (R : Arr S A c j H) (f : Fd) {x : Nat} (hx : x < c.n) (ha : σ[ia]? = some (some (.ref A.p))) (hb : σ[ib]? = some (some (.int (x : Int)))) (he : Ev te σ H v)
    (w : ∀ H1, Arr S A c j H1 → Arr S A c' j' (upd H1 (A.l f) (.lst (((List.range c.n).map (mOf c j f)).set x v)))) (k : ∀ H', Arr S A c' j' H' → Fr A H H' → D.nx σ H') :
    tAsg te (gSub (tFld K (tVar ia) (fname f)) (tVar ib) rSetL) D σ H :=
  ev_here he fun H1 e1 => st_w cl no (R.ex e1) f hx (val_var ha) (val_var hb) (w H1 (R.ex e1)) fun H2 R2 F2 => k H2 R2 ((Fr.ex e1).trans F2)
theorem q_put (cl : Cls K S) (no : ∀ f, NoAttr K S (fname f)) (R : Arr S A c j H) (f : Fd) {x : Nat} (hx : x < c.n) (ha : σ[ia]? = some (some (.ref A.p))) (hb : σ[ib]? = some (some (.int (x : Int)))) (he : Ev te σ H v)
    (w : ∀ H1, Arr S A c j H1 → Arr S A c' j' (upd H1 (A.l f) (.lst (((List.range c.n).map (mOf c j f)).set x v)))) (k : ∀ H', Arr S A c' j' H' → Fr A H H' → tz D σ H') :
    tSeq (tAsg te (gSub (tFld K (tVar ia) (fname f)) (tVar ib) rSetL)) tz D σ H :=
  s_put (D := { D with nx := tz D }) cl no R f hx ha hb he w k
end
section
variable {σ : L2.St} {H : Hp} {ta : TE} {t : TA} {v : V} {a C' dx : Addr} {fs : List (Str × V)} {m : Str} {sp : Sp} {vs : List V}
theorem ev_m (ha : Ev ta σ H (.ref a)) (ho : H a = some (.ins C' dx fs)) (hm : fs.lookup m = none) (hv : EvA t σ H vs) (hs : ∀ H1, Same H H1 → ∀ Q : VK, (∀ H2, Same H1 H2 → Q v H2) → sp (.ref a :: vs) H1 Q E0) : Ev (tMeth C' m sp [] E0 ta t) σ H v := fun H1 e Q q =>
  ha H1 e _ fun H2 e2 => ⟨a, dx, fs, rfl, e2 _ _ (e _ _ ho), hm, hv H2 (Ex.trans e e2) _ fun H3 e3 => by
    rw [List.append_nil]
    exact hs H3 (Same.trans (Ex.trans e e2) e3) Q fun H4 e4 => q H4 (Ex.trans (Ex.trans e2 e3) e4)⟩
theorem ev_f {sp : Sp} (hv : EvA t σ H vs) (hs : ∀ H1, Same H H1 → ∀ Q : VK, (∀ H2, Same H1 H2 → Q v H2) → sp vs H1 Q E0) : Ev (tCall sp [] E0 t) σ H v := fun H1 e Q q =>
  hv H1 e _ fun H2 e2 => by
    rw [List.append_nil]
    exact hs H2 (Same.trans e e2) Q fun H3 e3 => q H3 (Ex.trans e2 e3)
end
end K73
end
section
set_option maxHeartbeats 4000000
namespace K73
open PySem PySem.Spec PyProof.Rows L2 Evl
section
variable {P : Program} {w : World} {K : PySem.W.Frag} {mg : Str → Option Value} {base : Heap}
/-! ### gather -/
def belowL (c : C) (x : Nat) : List Nat := ([c.left x, c.right x].filter Option.isSome).map fun o => o.getD 0
theorem below_ov (c : C) (x : Nat) : ([c.left x, c.right x].filter Option.isSome).map ov = (belowL c x).map fun y : Nat => V.int (y : Int) := by
  unfold belowL
  rw [List.map_map]
  apply List.map_congr_left
  intro o ho
  cases o with
  | none => simp at ho
  | some y => rfl
theorem below_lt {c : C} (wf : WF c) {x y : Nat} (hx : x < c.n) (hy : y ∈ belowL c x) : y < c.n := by
  unfold belowL at hy
  obtain ⟨o, ho, e⟩ := List.mem_map.mp hy
  obtain ⟨h1, h2⟩ := List.mem_filter.mp ho
  cases o with
  | none => cases h2
  | some z =>
    have e : z = y := e
    subst e
    rcases List.mem_cons.mp h1 with h | h
    · exact wf x hx z (Or.inl h.symm)
    · have h := List.mem_singleton.mp h
      exact wf x hx z (Or.inr (Or.inl h.symm))
theorem below_len (c : C) (x : Nat) : (belowL c x).length ≤ 2 := by
  unfold belowL
  rw [List.length_map]
  exact List.length_filter_le _ _
def gather (c : C) (x : Nat) : C := { c with many := up c.many x (1 + ((belowL c x).map c.many).sum), most := up c.most x (maxL (c.worth x) ((belowL c x).map c.most)) }
def sp_Strands_gather (K : PySem.W.Frag) : Sp := fun vs H Q _ => ∃ (A : SA) (c : C) (j : J) (x : Nat), vs = [.ref A.p, .int (x : Int)] ∧ Arr (aS K) A c j H ∧ WF c ∧ x < c.n ∧ ∀ j' H', Arr (aS K) A (gather c x) j' H' → Fr A H H' → Q .non H'
abbrev n_Strands_gather : List Str := ["self", "x", "below", "one", "many", "total"]
theorem sc_Strands_gather : FnScope n_Strands_gather ["self", "x"] (defScope s_Strands_gather) := ⟨rfl, rfl, rfl, by decide +kernel, rfl, by decide +kernel, by decide +kernel⟩
theorem ok_Strands_gather (T : Txt w K mg) : Good P w K mg base 2 (He.ma K (aS K) "gather") ["self", "x"] (sp_Strands_gather K) := by
  refine good_mk T.D_Strands_gather sc_Strands_gather (fun _ _ _ _ _ _ us hl => match us, hl with | [_, _], _ => rfl) (fun vs H Q E h => ?_) (fun cdv A outer s H vs Q E hr h => ?_)
  · obtain ⟨A, c, j, x, rfl, _⟩ := h
    rfl
  · obtain ⟨A, c, j, x, rfl, R, wf, hx, k⟩ := h
    refine ⟨_, (pss_cons (ps_setLc (i := 2) (own := [("one", 3)]) (g := gName 3) (by rfl) sc_Strands_gather.nd rfl rfl (sw_true rfl rfl rfl (by decide +kernel)) (pi_tup (pe_tup (pa_cons (pe_ix ix_list (pe_fld (pv 0) rfl) (pv 1) (fun _ _ => rfl)) (pa_cons (pe_ix ix_list (pe_fld (pv 0) rfl) (pv 1) (fun _ _ => rfl)) pa_nil)))) (blkOk_by (own := [("one", 3)]) (N := n_Strands_gather) (sc := defScope s_Strands_gather) (by decide +kernel)) (fun _ _ _ _ _ => (pg_name (i := 3) sc_Strands_gather.nd rfl (Or.inl rfl))) (fun _ _ _ _ _ => (pts_one (pt_cmpR op_notN (pv 3) pe_non (nomark _)))) (fun _ _ _ _ _ => (pv 3)))
      (pss_cons (ps_asg (pe_op op_add pe_int (pe_callB (cr_sum rfl) (by rfl) T.z_sum (by decide +kernel) (pa_cons (pe_lc (own := [("one", 3)]) (g := gName 3) (tt := tYes) (te := tOp (rIxL K) (tFld K (tVar 0) "many") (tVar 3)) (by rfl) sc_Strands_gather.nd (pi_list (pv 2)) (blkOk_by (own := [("one", 3)]) (N := n_Strands_gather) (sc := defScope s_Strands_gather) (by decide +kernel)) (fun _ _ _ _ _ => (pg_name (i := 3) sc_Strands_gather.nd rfl (Or.inl rfl))) (fun _ _ _ _ _ => pts_nil) (fun _ _ _ _ _ => (pe_ix ix_list (pe_fld (pv 0) rfl) (pv 3) (fun _ _ => rfl)))) pa_nil))) (pg_sub (pe_fld (pv 0) rfl) (pv 1) set_list))
      (pss_cons (ps_asg (pe_op op_add (pe_ix ix_list (pe_fld (pv 0) rfl) (pv 1) (fun _ _ => rfl)) (pe_callB (cr_sum rfl) (by rfl) T.z_sum (by decide +kernel) (pa_cons (pe_lc (own := [("one", 3)]) (g := gName 3) (tt := tYes) (te := tOp (rIxL K) (tFld K (tVar 0) "total") (tVar 3)) (by rfl) sc_Strands_gather.nd (pi_list (pv 2)) (blkOk_by (own := [("one", 3)]) (N := n_Strands_gather) (sc := defScope s_Strands_gather) (by decide +kernel)) (fun _ _ _ _ _ => (pg_name (i := 3) sc_Strands_gather.nd rfl (Or.inl rfl))) (fun _ _ _ _ _ => pts_nil) (fun _ _ _ _ _ => (pe_ix ix_list (pe_fld (pv 0) rfl) (pv 3) (fun _ _ => rfl)))) pa_nil))) (pg_sub (pe_fld (pv 0) rfl) (pv 1) set_list))
      (pss_cons (ps_asg (pe_callB (cr_max rfl) (by rfl) T.z_max (by decide +kernel) (pa_cons (pe_op op_cat (pe_lst (pa_cons (pe_ix ix_list (pe_fld (pv 0) rfl) (pv 1) (fun _ _ => rfl)) pa_nil)) (pe_lc (own := [("one", 3)]) (g := gName 3) (tt := tYes) (te := tOp (rIxL K) (tFld K (tVar 0) "most") (tVar 3)) (by rfl) sc_Strands_gather.nd (pi_list (pv 2)) (blkOk_by (own := [("one", 3)]) (N := n_Strands_gather) (sc := defScope s_Strands_gather) (by decide +kernel)) (fun _ _ _ _ _ => (pg_name (i := 3) sc_Strands_gather.nd rfl (Or.inl rfl))) (fun _ _ _ _ _ => pts_nil) (fun _ _ _ _ _ => (pe_ix ix_list (pe_fld (pv 0) rfl) (pv 3) (fun _ _ => rfl))))) pa_nil)) (pg_sub (pe_fld (pv 0) rfl) (pv 1) set_list))
      (pss_cons (ps_asg (pe_ix ix_list (pe_fld (pv 0) rfl) (pv 1) (fun _ _ => rfl)) (pg_sub (pe_fld (pv 0) rfl) (pv 1) set_list))
      (pss_cons (ps_for PassesOwn.never rfl (pi_list (pv 2)) (pg_name (i := 3) sc_Strands_gather.nd rfl (Or.inl rfl)) (pss_one (ps_asg (pe_op op_or (pe_ix ix_list (pe_fld (pv 0) rfl) (pv 1) (fun _ _ => rfl)) (pe_ix ix_list (pe_fld (pv 0) rfl) (pv 3) (fun _ _ => rfl))) (pg_sub (pe_fld (pv 0) rfl) (pv 1) set_list))))
      (pss_cons (ps_asg (pe_ix ix_list (pe_fld (pv 0) rfl) (pv 1) (fun _ _ => rfl)) (pg_tup rfl (pgs_cons (pg_name (i := 4) sc_Strands_gather.nd rfl (Or.inl rfl)) (pgs_cons (pg_name (i := 5) sc_Strands_gather.nd rfl (Or.inl rfl)) pgs_nil))))
      (pss_cons (ps_asg (pe_op op_add (pe_op op_add pe_int (pv 4)) (pe_callB (cr_sum rfl) (by rfl) T.z_sum (by decide +kernel) (pa_cons (pe_lc (own := [("one", 3)]) (g := gName 3) (tt := tYes) (te := tOp (rIxL K) (tFld K (tVar 0) "all_many") (tVar 3)) (by rfl) sc_Strands_gather.nd (pi_list (pv 2)) (blkOk_by (own := [("one", 3)]) (N := n_Strands_gather) (sc := defScope s_Strands_gather) (by decide +kernel)) (fun _ _ _ _ _ => (pg_name (i := 3) sc_Strands_gather.nd rfl (Or.inl rfl))) (fun _ _ _ _ _ => pts_nil) (fun _ _ _ _ _ => (pe_ix ix_list (pe_fld (pv 0) rfl) (pv 3) (fun _ _ => rfl)))) pa_nil))) (pg_sub (pe_fld (pv 0) rfl) (pv 1) set_list))
      (pss_one (ps_asg (pe_op op_add (pe_op op_add (pe_ix ix_list (pe_fld (pv 0) rfl) (pv 1) (fun _ _ => rfl)) (pv 5)) (pe_callB (cr_sum rfl) (by rfl) T.z_sum (by decide +kernel) (pa_cons (pe_lc (own := [("one", 3)]) (g := gName 3) (tt := tYes) (te := tOp (rIxL K) (tFld K (tVar 0) "all_total") (tVar 3)) (by rfl) sc_Strands_gather.nd (pi_list (pv 2)) (blkOk_by (own := [("one", 3)]) (N := n_Strands_gather) (sc := defScope s_Strands_gather) (by decide +kernel)) (fun _ _ _ _ _ => (pg_name (i := 3) sc_Strands_gather.nd rfl (Or.inl rfl))) (fun _ _ _ _ _ => pts_nil) (fun _ _ _ _ _ => (pe_ix ix_list (pe_fld (pv 0) rfl) (pv 3) (fun _ _ => rfl)))) pa_nil))) (pg_sub (pe_fld (pv 0) rfl) (pv 1) set_list))))))))))), ?_⟩
    have cl := T.clS
    have no := noS T
    -- below = [one for one in (self.left[x], self.right[x]) if one is not None]
    refine q_asgL (xs := (belowL c x).map fun y : Nat => V.int (y : Int)) ?_ (fun D H0 hD e0 h0 => ?_)
    · have e := el_mapNT (K := K) (σ := start n_Strands_gather [.ref A.p, .int (x : Int)]) (H := H) (t := tTest (tOp (fun x y H Q => y = V.non ∧ Q (.bl (!decide (x = .non))) H) (tVar 3) (tC .non))) (te := tVar 3) (j := 3) (vs := [3]) (ys := [c.left x, c.right x]) (g := ov) Option.isSome ov
        (tl := tTup (tCons (tOp (rIxL K) (tFld K (tVar 0) "left") (tVar 1)) (tCons (tOp (rIxL K) (tFld K (tVar 0) "right") (tVar 1)) tNil)))
        (eu_tup (ea_cons (ev_rd cl no R .left hx (ev_var rfl) (ev_var rfl)) (ea_cons (ev_rd cl no R .right hx (ev_var rfl) (ev_var rfl)) ea_nil)) (by show 2 ≤ 100000; decide)) (by show 2 ≤ 40000; decide) (fun _ => rfl)
        (fun y _ H1 _ => et_is (et_test (ev_op (ev_var rfl) ev_c (rv_val fun H2 _ Q q => ⟨rfl, q⟩))) (by cases y <;> rfl)) (fun y _ _ H1 _ => ev_var rfl)
      rw [below_ov] at e
      exact e
    have nD : ¬ Mut A D := mut_none R hD
    have R0 := R.ex e0
    -- the sums
    have sums : ∀ (f : Fd) (g : Nat → Int) (c' : C) (j' : J) (H' : Hp) (σ : L2.St), Arr (aS K) A c' j' H' → c'.n = c.n → H' D = some (.lst ((belowL c x).map fun y : Nat => V.int (y : Int))) → (∀ y, mOf c' j' f y = .int (g y)) →
        (wipe σ [3])[0]? = some (some (.ref A.p)) → σ[2]? = some (some (.ref D)) → (∀ z, wipe ((wipe σ [3]).set 3 z) [3] = wipe σ [3]) → (∀ z, ((wipe σ [3]).set 3 (some z))[0]? = some (some (.ref A.p)) ∧ ((wipe σ [3]).set 3 (some z))[3]? = some (some z)) →
        EvL (tLc (iList K (tVar 2)) (gName 3) tYes (tOp (rIxL K) (tFld K (tVar 0) (fname f)) (tVar 3)) [3]) σ H' (((belowL c x).map g).map V.int) := by
      intro f g c' j' H' σ R' hn hD' hg h0' h2' hw hs
      have e := el_allL (K := K) (σ := σ) (H := H') (tl := tVar 2) (te := tOp (rIxL K) (tFld K (tVar 0) (fname f)) (tVar 3)) (j := 3) (vs := [3]) (ys := belowL c x) (g := fun y : Nat => V.int (y : Int)) (fun y => V.int (g y)) (ev_var h2') (sq_of hD')
        (Nat.le_trans (below_len c x) (by decide)) (fun z => hw _) (fun y hy H1 e1 => by
          have q := ev_rd (σ := (wipe σ [3]).set 3 (some (.int (y : Int)))) (ta := tVar 0) (tb := tVar 3) cl no (R'.ex e1) f (by rw [hn]; exact below_lt wf hx hy) (ev_var (hs _).1) (ev_var (hs _).2)
          rw [hg] at q
          exact q)
      rw [List.map_map]
      exact e
    -- self.many[x] = 1 + sum([self.many[one] for one in below])
    refine q_put cl no R0 .many hx rfl rfl (ev_op ev_c (ev_cbL (sums .many c.many c j H0 _ R0 rfl h0 (fun _ => rfl) rfl rfl (fun _ => rfl) (fun _ => ⟨rfl, rfl⟩)) (fun p H1 _ h => rc_sum h)) rv_I0) (fun _ R => R.w_many x _) (fun H1 R1 F1 => ?_)
    have h1 := F1 D _ h0 nD
    -- self.total[x]
    refine q_put cl no R1 .total hx rfl rfl (ev_op (ev_rd cl no R1 .worth hx (ev_var rfl) (ev_var rfl)) (ev_cbL (sums .total j.total _ j H1 _ R1 rfl h1 (fun _ => rfl) rfl rfl (fun _ => rfl) (fun _ => ⟨rfl, rfl⟩)) (fun p H1 _ h => rc_sum h)) rv_I0) (fun _ R => R.w_total x _) (fun H2 R2 F2 => ?_)
    have h2 := F2 D _ h1 nD
    -- self.most[x]
    refine q_put (v := .int (maxL (c.worth x) ((belowL c x).map c.most))) cl no R2 .most hx rfl rfl (ev_cbL (el_catNN (el_lst (ea_cons (ev_rd cl no R2 .worth hx (ev_var rfl) (ev_var rfl)) ea_nil) (by show 1 ≤ 100000; decide)) (sums .most c.most _ _ H2 _ R2 rfl h2 (fun _ => rfl) rfl rfl (fun _ => rfl) (fun _ => ⟨rfl, rfl⟩)) (by
        have := below_len c x
        simp
        omega)) (fun p H1 _ h => rc_max h)) (fun _ R => R.w_most x _) (fun H3 R3 F3 => ?_)
    have h3 := F3 D _ h2 nD
    -- self.all_bits[x] = self.bits[x]
    refine q_put cl no R3 .allBits hx rfl rfl (ev_rd cl no R3 .bits hx (ev_var rfl) (ev_var rfl)) (fun _ R => R.w_allBits x _) (fun H4 R4 F4 => ?_)
    have h4 := F4 D _ h3 nD
    have eg : gather c x = { c with many := up c.many x (1 + ((belowL c x).map c.many).sum), most := up c.most x (maxL (c.worth x) ((belowL c x).map c.most)) } := rfl
    -- for one in below: self.all_bits[x] = self.all_bits[x] | self.all_bits[one]
    refine ⟨_, rfl, D, rfl, ⟨_, sq_of h4⟩, for_list (K := K) (a := D) (xs := (belowL c x).map fun y : Nat => V.int (y : Int)) (fun i σ H' => ∃ (j' : J) (v : Option V), σ = [some (.ref A.p), some (.int (x : Int)), some (.ref D), v, none, none] ∧ Arr (aS K) A (gather c x) j' H' ∧ Fr A H4 H')
      ⟨_, _, rfl, R4, Fr.refl _ _⟩ (fun i σ H' _ ⟨_, _, _, _, F⟩ => sq_of (F D _ h4 nD)) ?_ ?_⟩
    · rintro i y σ H' hi ⟨j', v, rfl, R', F'⟩
      rw [List.getElem?_map] at hi
      cases q : (belowL c x)[i]? with
      | none => rw [q] at hi; cases hi
      | some z =>
        rw [q] at hi
        cases hi
        have hz := below_lt wf hx (List.mem_of_getElem? q)
        refine s_put cl no R' .allBits hx rfl rfl (ev_op (ev_rd cl no R' .allBits hx (ev_var rfl) (ev_var rfl)) (ev_rd cl no R' .allBits hz (ev_var rfl) (ev_var rfl)) rv_I0) (fun _ R => R.w_allBits x _) (fun H5 R5 F5 => ?_)
        exact ⟨_, _, rfl, R5, F'.trans F5⟩
    · rintro σ H5 ⟨j5, v, rfl, R5, F5⟩
      have h5 := F5 D _ h4 nD
      -- many, total = self.hung[x]
      obtain ⟨a, b, hab⟩ := R5.hung x hx
      refine ev_here (ev_rd cl no R5 .hung hx (ev_var rfl) (ev_var rfl)) (fun H6 e6 => ?_)
      refine ⟨_, _, rfl, SqT.of (e6 _ _ hab), rfl, _, _, rfl, _, _, rfl, rfl, ?_⟩
      have R6 := R5.ex e6
      have h6 := e6 _ _ h5
      -- self.all_many[x] = 1 + many + sum(..)
      refine q_put cl no R6 .allMany hx rfl rfl (ev_op (ev_op ev_c (ev_var rfl) rv_I0) (ev_cbL (sums .allMany j5.allMany _ j5 H6 _ R6 rfl h6 (fun _ => rfl) rfl rfl (fun _ => rfl) (fun _ => ⟨rfl, rfl⟩)) (fun p H1 _ h => rc_sum h)) rv_I0) (fun _ R => R.w_allMany x _) (fun H7 R7 F7 => ?_)
      have h7 := F7 D _ h6 nD
      refine s_put cl no R7 .allTotal hx rfl rfl (ev_op (ev_op (ev_rd cl no R7 .worth hx (ev_var rfl) (ev_var rfl)) (ev_var rfl) rv_I0) (ev_cbL (sums .allTotal _ _ _ H7 _ R7 rfl h7 (fun _ => rfl) rfl rfl (fun _ => rfl) (fun _ => ⟨rfl, rfl⟩)) (fun p H1 _ h => rc_sum h)) rv_I0) (fun _ R => R.w_allTotal x _) (fun H8 R8 F8 => ?_)
      refine k _ _ R8 ?_
      exact (((((((((Fr.ex e0).trans F1).trans F2).trans F3).trans F4).trans F5).trans (Fr.ex e6)).trans F7).trans F8)
end
end K73
end
section
set_option maxHeartbeats 4000000
namespace K73
open PySem PySem.Spec PyProof.Rows L2 Evl
section
variable {c : C} {x y : Nat} {o : Option Nat}
theorem wf_left (wf : WF c) (h : ∀ y, o = some y → y < c.n) : WF { c with left := up c.left x o } := by
  intro z hz y hy
  rcases hy with hy | hy | hy
  · by_cases e : z = x
    · subst e
      exact h y (by rw [← hy]; exact up_same.symm)
    · exact wf z hz y (Or.inl (by rw [← hy]; exact (up_ne e).symm))
  · exact wf z hz y (Or.inr (Or.inl hy))
  · exact wf z hz y (Or.inr (Or.inr hy))
theorem wf_right (wf : WF c) (h : ∀ y, o = some y → y < c.n) : WF { c with right := up c.right x o } := by
  intro z hz y hy
  rcases hy with hy | hy | hy
  · exact wf z hz y (Or.inl hy)
  · by_cases e : z = x
    · subst e
      exact h y (by rw [← hy]; exact up_same.symm)
    · exact wf z hz y (Or.inr (Or.inl (by rw [← hy]; exact (up_ne e).symm)))
  · exact wf z hz y (Or.inr (Or.inr hy))
theorem wf_above (wf : WF c) (h : ∀ y, o = some y → y < c.n) : WF { c with above := up c.above x o } := by
  intro z hz y hy
  rcases hy with hy | hy | hy
  · exact wf z hz y (Or.inl hy)
  · exact wf z hz y (Or.inr (Or.inl hy))
  · by_cases e : z = x
    · subst e
      exact h y (by rw [← hy]; exact up_same.symm)
    · exact wf z hz y (Or.inr (Or.inr (by rw [← hy]; exact (up_ne e).symm)))
theorem wf_gather (wf : WF c) : WF (gather c x) := wf
end
def putBelow (c : C) (u : Option Nat) (old new : Nat) : C := match u with
  | none => c
  | some u => if c.left u = some old then { c with left := up c.left u (some new) } else if c.right u = some old then { c with right := up c.right u (some new) } else c
theorem putBelow_n (c : C) (u : Option Nat) (old new : Nat) : (putBelow c u old new).n = c.n := by
  unfold putBelow
  cases u with
  | none => rfl
  | some u =>
    show (if c.left u = some old then _ else _ : C).n = c.n
    split
    · rfl
    · split <;> rfl
theorem putBelow_steps (c : C) (u : Option Nat) (old new : Nat) : (putBelow c u old new).steps = c.steps := by
  unfold putBelow
  cases u with
  | none => rfl
  | some u =>
    show (if c.left u = some old then _ else _ : C).steps = c.steps
    split
    · rfl
    · split <;> rfl
theorem wf_putBelow {c : C} {u : Option Nat} {old new : Nat} (wf : WF c) (hn : new < c.n) : WF (putBelow c u old new) := by
  unfold putBelow
  cases u with
  | none => exact wf
  | some u =>
    show WF (if c.left u = some old then _ else _ : C)
    split
    · exact wf_left wf (fun y e => by cases e; exact hn)
    · split
      · exact wf_right wf (fun y e => by cases e; exact hn)
      · exact wf
section
variable {P : Program} {w : World} {K : PySem.W.Frag} {mg : Str → Option Value} {base : Heap}
theorem ov_eq {o : Option Nat} {x : Nat} : decide (ov o = V.int (x : Int)) = decide (o = some x) := by
  cases o with
  | none => rfl
  | some y =>
    rw [Bool.eq_iff_iff, decide_eq_true_iff, decide_eq_true_iff]
    show V.int (y : Int) = V.int (x : Int) ↔ some y = some x
    constructor
    · intro h; injection h with h; congr 1; exact Int.ofNat.inj h
    · intro h; cases h; rfl
theorem scal_ov (o : Option Nat) (i : Int) : scal (ov o) (.int i) = true := by cases o <;> rfl
theorem ov_non {o : Option Nat} : decide (ov o = V.non) = o.isNone := by cases o <;> rfl
def sp_Strands_put_below (K : PySem.W.Frag) : Sp := fun vs H Q _ => ∃ (A : SA) (c : C) (j : J) (u : Option Nat) (old new : Nat), vs = [.ref A.p, ov u, .int (old : Int), .int (new : Int)] ∧ Arr (aS K) A c j H ∧ (∀ y, u = some y → y < c.n) ∧ ∀ H', Arr (aS K) A (putBelow c u old new) j H' → Fr A H H' → Q .non H'
abbrev n_Strands_put_below : List Str := ["self", "u", "old", "new"]
theorem sc_Strands_put_below : FnScope n_Strands_put_below ["self", "u", "old", "new"] (defScope s_Strands_put_below) := ⟨rfl, rfl, rfl, by decide +kernel, rfl, by decide +kernel, by decide +kernel⟩
theorem ok_Strands_put_below (T : Txt w K mg) : Good P w K mg base 1 (He.ma K (aS K) "put_below") ["self", "u", "old", "new"] (sp_Strands_put_below K) := by
  refine good_mk T.D_Strands_put_below sc_Strands_put_below (fun _ _ _ _ _ _ us hl => match us, hl with | [_, _, _, _], _ => rfl) (fun vs H Q E h => ?_) (fun cdv A outer s H vs Q E hr h => ?_)
  · obtain ⟨A, c, j, u, old, new, rfl, _⟩ := h
    rfl
  · obtain ⟨A, c, j, u, old, new, rfl, R, hu, k⟩ := h
    refine ⟨_, (pss_one (ps_if (PW.pt (pw_and (pt_cmpR op_notN (pv 1) pe_non (nomark _)) (pw_and1 (pt_cmpR op_eq (pe_ix ix_list (pe_fld (pv 0) rfl) (pv 1) (fun _ _ => rfl)) (pv 2) (nomark _))))) (pss_one (ps_asg (pv 3) (pg_sub (pe_fld (pv 0) rfl) (pv 1) set_list))) (pss_one (ps_if (PW.pt (pw_and (pt_cmpR op_notN (pv 1) pe_non (nomark _)) (pw_and1 (pt_cmpR op_eq (pe_ix ix_list (pe_fld (pv 0) rfl) (pv 1) (fun _ _ => rfl)) (pv 2) (nomark _))))) (pss_one (ps_asg (pv 3) (pg_sub (pe_fld (pv 0) rfl) (pv 1) set_list))) pss_nil)))), ?_⟩
    have cl := T.clS
    have no := noS T
    refine ⟨_, rfl, rfl, _, rfl, ?_⟩
    cases u with
    | none =>
      refine iteF (iteF ?_)
      refine ⟨_, rfl, rfl, _, rfl, iteF (iteF ?_)⟩
      exact k _ R (Fr.refl _ _)
    | some u =>
      have hu := hu u rfl
      refine iteT ?_
      refine ev_here (ev_op (ev_rd cl no R .left hu (ev_var rfl) (ev_var rfl)) (ev_var rfl) (rv_eq (scal_ov _ _))) fun H1 e1 => ?_
      refine ⟨_, rfl, ?_⟩
      have R1 := R.ex e1
      have d1 : decide (mOf c j .left u = V.int (old : Int)) = decide (c.left u = some old) := ov_eq
      rw [d1]
      by_cases h1 : c.left u = some old
      · rw [decide_eq_true h1]
        refine iteT ?_
        refine s_put cl no R1 .left hu rfl rfl (ev_var rfl) (fun _ R => R.w_left u (some new)) (fun H2 R2 F2 => ?_)
        refine k _ ?_ ((Fr.ex e1).trans F2)
        have e : putBelow c (some u) old new = { c with left := up c.left u (some new) } := if_pos h1
        rw [e]; exact R2
      · rw [decide_eq_false h1]
        refine iteF ?_
        refine ⟨_, rfl, rfl, _, rfl, iteT ?_⟩
        refine ev_here (ev_op (ev_rd cl no R1 .right hu (ev_var rfl) (ev_var rfl)) (ev_var rfl) (rv_eq (scal_ov _ _))) fun H2 e2 => ?_
        refine ⟨_, rfl, ?_⟩
        have R2 := R1.ex e2
        have d2 : decide (mOf c j .right u = V.int (old : Int)) = decide (c.right u = some old) := ov_eq
        rw [d2]
        by_cases h2 : c.right u = some old
        · rw [decide_eq_true h2]
          refine iteT ?_
          refine s_put cl no R2 .right hu rfl rfl (ev_var rfl) (fun _ R => R.w_right u (some new)) (fun H3 R3 F3 => ?_)
          refine k _ ?_ (((Fr.ex e1).trans (Fr.ex e2)).trans F3)
          have e : putBelow c (some u) old new = { c with right := up c.right u (some new) } := (if_neg h1).trans (if_pos h2)
          rw [e]; exact R3
        · rw [decide_eq_false h2]
          refine iteF ?_
          refine k _ ?_ ((Fr.ex e1).trans (Fr.ex e2))
          have e : putBelow c (some u) old new = c := (if_neg h1).trans (if_neg h2)
          rw [e]; exact R2
end
end K73
end
section
set_option maxHeartbeats 4000000
namespace K73
open PySem PySem.Spec PyProof.Rows L2 Evl
/-! ### turn -/
def t1 (c : C) (x u : Nat) : C := if isTop c u = true then c else putBelow c (c.above u) u x
def inner (c : C) (x u : Nat) : Option Nat := if c.left u = some x then c.right x else c.left x
def rot (c : C) (x u : Nat) : C := if c.left u = some x then { c with left := up c.left u (c.right x), right := up c.right x (some u) } else { c with right := up c.right u (c.left x), left := up c.left x (some u) }
def setAbove (c : C) (o : Option Nat) (u : Nat) : C := match o with
  | none => c
  | some i => { c with above := up c.above i (some u) }
def turnA (c : C) (x u : Nat) : C := { t1 c x u with above := up (t1 c x u).above x (c.above u) }
def turnB (c : C) (x u : Nat) : C := { rot (turnA c x u) x u with above := up (rot (turnA c x u) x u).above u (some x) }
def turnC (c : C) (x u : Nat) : C := setAbove (turnB c x u) (inner (turnA c x u) x u) u
def turnAt (c : C) (x u : Nat) : C := { gather (gather (turnC c x u) u) x with steps := c.steps + 1 }
def turn (c : C) (x : Nat) : C := match c.above x with
  | none => c
  | some u => turnAt c x u
theorem t1_n (c : C) (x u : Nat) : (t1 c x u).n = c.n := by
  unfold t1
  split
  · rfl
  · exact putBelow_n _ _ _ _
theorem t1_steps (c : C) (x u : Nat) : (t1 c x u).steps = c.steps := by
  unfold t1
  split
  · rfl
  · exact putBelow_steps _ _ _ _
theorem rot_n (c : C) (x u : Nat) : (rot c x u).n = c.n := by
  unfold rot
  split <;> rfl
theorem rot_steps (c : C) (x u : Nat) : (rot c x u).steps = c.steps := by
  unfold rot
  split <;> rfl
theorem setAbove_n (c : C) (o : Option Nat) (u : Nat) : (setAbove c o u).n = c.n := by cases o <;> rfl
theorem setAbove_steps (c : C) (o : Option Nat) (u : Nat) : (setAbove c o u).steps = c.steps := by cases o <;> rfl
theorem turnA_n (c : C) (x u : Nat) : (turnA c x u).n = c.n := t1_n c x u
theorem turnB_n (c : C) (x u : Nat) : (turnB c x u).n = c.n := (rot_n _ x u).trans (turnA_n c x u)
theorem turnC_n (c : C) (x u : Nat) : (turnC c x u).n = c.n := (setAbove_n _ _ u).trans (turnB_n c x u)
theorem turnC_steps (c : C) (x u : Nat) : (turnC c x u).steps = c.steps := (setAbove_steps _ _ u).trans ((rot_steps _ x u).trans (t1_steps c x u))
theorem turnAt_n (c : C) (x u : Nat) : (turnAt c x u).n = c.n := turnC_n c x u
theorem turn_n (c : C) (x : Nat) : (turn c x).n = c.n := by
  unfold turn
  cases c.above x with
  | none => rfl
  | some u => exact turnAt_n c x u
section
variable {c : C} {x u : Nat}
theorem wf_turnA (wf : WF c) (hx : x < c.n) (hu : u < c.n) : WF (turnA c x u) := by
  have h1 : WF (t1 c x u) := by
    unfold t1
    split
    · exact wf
    · exact wf_putBelow wf hx
  exact wf_above h1 (fun y e => by rw [t1_n]; exact wf u hu y (Or.inr (Or.inr e)))
theorem wf_turnB (wf : WF c) (hx : x < c.n) (hu : u < c.n) : WF (turnB c x u) := by
  have h2 := wf_turnA wf hx hu
  have n2 := turnA_n c x u
  have h3 : WF (rot (turnA c x u) x u) := by
    unfold rot
    split
    · exact wf_right (c := { turnA c x u with left := up (turnA c x u).left u ((turnA c x u).right x) }) (wf_left h2 fun y e => h2 x (by rw [n2]; exact hx) y (Or.inr (Or.inl e))) (fun y e => by cases e; show u < (turnA c x u).n; rw [n2]; exact hu)
    · exact wf_left (c := { turnA c x u with right := up (turnA c x u).right u ((turnA c x u).left x) }) (wf_right h2 fun y e => h2 x (by rw [n2]; exact hx) y (Or.inl e)) (fun y e => by cases e; show u < (turnA c x u).n; rw [n2]; exact hu)
  exact wf_above h3 (fun y e => by cases e; rw [rot_n, n2]; exact hx)
theorem inner_lt (wf : WF c) (hx : x < c.n) : ∀ y, inner c x u = some y → y < c.n := by
  intro y h
  unfold inner at h
  split at h
  · exact wf x hx y (Or.inr (Or.inl h))
  · exact wf x hx y (Or.inl h)
theorem wf_turnC (wf : WF c) (hx : x < c.n) (hu : u < c.n) : WF (turnC c x u) := by
  have h4 := wf_turnB wf hx hu
  unfold turnC setAbove
  cases inner (turnA c x u) x u with
  | none => exact h4
  | some i => exact wf_above h4 (fun y e => by cases e; rw [turnB_n]; exact hu)
theorem wf_turnAt (wf : WF c) (hx : x < c.n) (hu : u < c.n) : WF (turnAt c x u) := wf_turnC wf hx hu
end
section
variable {S : Addr} {A : SA} {c : C} {j : J} {H : Hp} {σ : L2.St} {K : PySem.W.Frag} {ta tb te : TE} {v : V}
theorem s_appNew {D : Ends} {l : Addr} {xs ys : List V} (hl : H l = some (.lst xs)) (ha : Ev ta σ H (.ref l)) (h : EvU te σ H ys) (hz : xs.length < sizeLine) (k : ∀ p H1, Same H H1 → D.nx σ (upd H1 l (.lst (xs ++ [.ref p])))) :
    tDrop (tBM K "list" rAppend ta (tCons te tNil)) D σ H :=
  ha H (Ex.refl H) _ fun H1 e => ⟨Or.inl ⟨rfl, _, sq_of (e l _ hl)⟩, h H1 e _ fun p H2 _ e2 _ => ⟨l, xs, _, rfl, rfl, e2 l _ (e l _ hl), hz, k p H2 (Ex.trans e e2)⟩⟩
theorem ev_rdv (cl : Cls K S) (no : ∀ f, NoAttr K S (fname f)) (R : Arr S A c j H) (f : Fd) {x : Nat} (hx : x < c.n) (hs : Ev ta σ H (.ref A.p)) (hb : Ev tb σ H (.int (x : Int))) (hv : mOf c j f x = v) : Ev (tOp (rIxL K) (tFld K ta (fname f)) tb) σ H v := by
  rw [← hv]
  exact ev_rd cl no R f hx hs hb
end
section
variable {P : Program} {w : World} {K : PySem.W.Frag} {mg : Str → Option Value} {base : Heap}
def sp_Strands_turn (K : PySem.W.Frag) : Sp := fun vs H Q _ => ∃ (A : SA) (c : C) (j : J) (x u : Nat), vs = [.ref A.p, .int (x : Int)] ∧ Arr (aS K) A c j H ∧ WF c ∧ x < c.n ∧ c.above x = some u ∧ c.steps < 16000000 ∧ ∀ j' H', Arr (aS K) A (turn c x) j' H' → Fr A H H' → Q .non H'
-- 0 self, 1 x, 2 u, 3 g, 4 inner
abbrev n_Strands_turn : List Str := ["self", "x", "u", "g", "inner"]
theorem sc_Strands_turn : FnScope n_Strands_turn ["self", "x"] (defScope s_Strands_turn) := ⟨rfl, rfl, rfl, by decide +kernel, rfl, by decide +kernel, by decide +kernel⟩
theorem ok_Strands_turn (T : Txt w K mg) : Good P w K mg base 3 (He.ma K (aS K) "turn") ["self", "x"] (sp_Strands_turn K) := by
  refine good_mk T.D_Strands_turn sc_Strands_turn (fun _ _ _ _ _ _ us hl => match us, hl with | [_, _], _ => rfl) (fun vs H Q E h => ?_) (fun cdv A0 outer s H vs Q E hr h => ?_)
  · obtain ⟨A, c, j, x, u, rfl, _⟩ := h
    rfl
  · obtain ⟨A, c, j, x, u, rfl, R, wf, hx, hu, hst, k⟩ := h
    refine ⟨_, (pss_cons (ps_set (i := 2) sc_Strands_turn.nd rfl (Or.inl rfl) (pe_ix ix_list (pe_fld (pv 0) rfl) (pv 1) (fun _ _ => rfl)))
      (pss_cons (ps_set (i := 3) sc_Strands_turn.nd rfl (Or.inl rfl) (pe_ix ix_list (pe_fld (pv 0) rfl) (pv 2) (fun _ _ => rfl)))
      (pss_cut (ps_if (pt_not (pt_val (pe_m (pv 0) T.clS T.mS_is_top (ok_Strands_is_top T) (hr.mono (by decide)) (pa_cons (pv 2) pa_nil)))) (pss_one (ps_expr (pe_m (pv 0) T.clS T.mS_put_below (ok_Strands_put_below T) (hr.mono (by decide)) (pa_cons (pv 3) (pa_cons (pv 2) (pa_cons (pv 1) pa_nil)))))) pss_nil)
      (pss_cons (ps_asg (pv 3) (pg_sub (pe_fld (pv 0) rfl) (pv 1) set_list))
      (pss_cut (ps_if (pt_cmpR op_eq (pe_ix ix_list (pe_fld (pv 0) rfl) (pv 2) (fun _ _ => rfl)) (pv 1) (nomark _)) (pss_cons (ps_set (i := 4) sc_Strands_turn.nd rfl (Or.inl rfl) (pe_ix ix_list (pe_fld (pv 0) rfl) (pv 1) (fun _ _ => rfl)))
        (pss_one (ps_asg (pe_tup (pa_cons (pv 4) (pa_cons (pv 2) pa_nil))) (pg_tup rfl (pgs_cons (pg_sub (pe_fld (pv 0) rfl) (pv 2) set_list) (pgs_cons (pg_sub (pe_fld (pv 0) rfl) (pv 1) set_list) pgs_nil)))))) (pss_cons (ps_set (i := 4) sc_Strands_turn.nd rfl (Or.inl rfl) (pe_ix ix_list (pe_fld (pv 0) rfl) (pv 1) (fun _ _ => rfl)))
        (pss_one (ps_asg (pe_tup (pa_cons (pv 4) (pa_cons (pv 2) pa_nil))) (pg_tup rfl (pgs_cons (pg_sub (pe_fld (pv 0) rfl) (pv 2) set_list) (pgs_cons (pg_sub (pe_fld (pv 0) rfl) (pv 1) set_list) pgs_nil)))))))
      (pss_cons (ps_asg (pv 1) (pg_sub (pe_fld (pv 0) rfl) (pv 2) set_list))
      (pss_cut (ps_if (pt_cmpR op_notN (pv 4) pe_non (nomark _)) (pss_one (ps_asg (pv 2) (pg_sub (pe_fld (pv 0) rfl) (pv 4) set_list))) pss_nil)
      (pss_cons (ps_expr (pe_m (pv 0) T.clS T.mS_gather (ok_Strands_gather T) (hr.mono (by decide)) (pa_cons (pv 2) pa_nil)))
      (pss_cons (ps_expr (pe_m (pv 0) T.clS T.mS_gather (ok_Strands_gather T) (hr.mono (by decide)) (pa_cons (pv 1) pa_nil)))
      (pss_one (ps_expr (pe_bm PySem.F.plainAttrs_list PySem.F.slot_list_append PySem.F.type_list_append mt_append (pe_fld (pv 0) rfl) (pa_cons (pe_tup (pa_cons pe_str (pa_cons (pv 1) pa_nil))) pa_nil))))))))))))), ?_⟩
    have cl := T.clS
    have no := noS T
    have hun : u < c.n := wf x hx u (Or.inr (Or.inr hu))
    -- u = self.above[x]; g = self.above[u]
    refine q_asg (ev_rdv cl no R .above hx (ev_var rfl) (ev_var rfl) (by show ov (c.above x) = .int (u : Int); rw [hu]; rfl)) (fun H0 e0 => ?_)
    have R0 := R.ex e0
    refine q_asg (ev_rd cl no R0 .above hun (ev_var rfl) (ev_var rfl)) (fun H1 e1 => ?_)
    have R1 := R0.ex e1
    -- if not self.is_top(u): self.put_below(g, u, x)
    refine ⟨fun σ' H' => σ' = [some (.ref A.p), some (.int (x : Int)), some (.int (u : Int)), some (ov (c.above u)), none] ∧ Arr (aS K) A (t1 c x u) j H' ∧ Fr A H H', ?_, ?_⟩
    · refine call_m (val_var rfl) R1.ob (sf_no A (by decide +kernel)) (vala_cons (val_var rfl) vala_nil) ?_
      refine ⟨A, c, j, u, rfl, R1, wf, hun, fun H2 e2 => ⟨_, rfl, ?_⟩⟩
      have R2 := R1.ex e2
      cases ht : isTop c u with
      | true =>
        refine iteF ⟨rfl, ?_, ((Fr.ex e0).trans (Fr.ex e1)).trans (Fr.ex e2)⟩
        unfold t1
        rw [ht]
        exact R2
      | false =>
        refine iteT ?_
        refine call_m (val_var rfl) R2.ob (sf_no A (by decide +kernel)) (vala_cons (val_var rfl) (vala_cons (val_var rfl) (vala_cons (val_var rfl) vala_nil))) ?_
        refine ⟨A, c, j, c.above u, u, x, rfl, R2, fun y e => wf u hun y (Or.inr (Or.inr e)), fun H3 R3 F3 => ⟨rfl, ?_, (((Fr.ex e0).trans (Fr.ex e1)).trans (Fr.ex e2)).trans F3⟩⟩
        unfold t1
        rw [ht]
        exact R3
    · rintro _ H3 ⟨rfl, R3, F3⟩
      have n1 := t1_n c x u
      -- self.above[x] = g
      refine q_put (j' := j) (c' := turnA c x u) cl no R3 .above (by rw [n1]; exact hx) rfl rfl (ev_var rfl) (fun _ R => R.w_above x (c.above u)) (fun H4 R4 F4 => ?_)
      have n2 := turnA_n c x u
      have wf2 := wf_turnA wf hx hun
      -- inner
      refine ⟨fun σ' H' => σ' = [some (.ref A.p), some (.int (x : Int)), some (.int (u : Int)), some (ov (c.above u)), some (ov (inner (turnA c x u) x u))] ∧ Arr (aS K) A (rot (turnA c x u) x u) j H' ∧ Fr A H H', ?_, ?_⟩
      · refine ev_here (ev_op (ev_rd cl no R4 .left (by rw [n2]; exact hun) (ev_var rfl) (ev_var rfl)) (ev_var rfl) (rv_eq (scal_ov _ _))) fun H5 e5 => ?_
        refine ⟨_, rfl, ?_⟩
        have R5 := R4.ex e5
        have d : decide (mOf (turnA c x u) j .left u = V.int (x : Int)) = decide ((turnA c x u).left u = some x) := ov_eq
        rw [d]
        by_cases hl : (turnA c x u).left u = some x
        · rw [decide_eq_true hl]
          refine iteT ?_
          have ei : inner (turnA c x u) x u = (turnA c x u).right x := if_pos hl
          refine q_asg (ev_rd cl no R5 .right (by rw [n2]; exact hx) (ev_var rfl) (ev_var rfl)) (fun H6 e6 => ?_)
          have R6 := R5.ex e6
          refine ⟨_, rfl, _, rfl, by show 2 ≤ sizeLine; decide, fun p hp => ?_⟩
          have R7 := R6.ex (same_new (o := .tup [ov ((turnA c x u).right x), .int (u : Int)]) hp)
          refine ⟨p, _, rfl, SqT.of upd_same, rfl, _, _, rfl, ?_⟩
          refine st_w cl no R7 .left (by rw [n2]; exact hun) (val_var rfl) (val_var rfl) (R7.w_left u ((turnA c x u).right x)) (fun H8 R8 F8 => ?_)
          refine ⟨_, _, rfl, ?_⟩
          refine st_w cl no R8 .right (by show x < (turnA c x u).n; rw [n2]; exact hx) (val_var rfl) (val_var rfl) (R8.w_right x (some u)) (fun H9 R9 F9 => ?_)
          refine ⟨rfl, ?_, ?_, ((((F3.trans F4).trans (Fr.ex e5)).trans (Fr.ex e6)).trans (Fr.ex (same_new hp))).trans (F8.trans F9)⟩
          · rw [ei]
            rfl
          · have er : rot (turnA c x u) x u = { turnA c x u with left := up (turnA c x u).left u ((turnA c x u).right x), right := up (turnA c x u).right x (some u) } := if_pos hl
            rw [er]
            exact R9
        · rw [decide_eq_false hl]
          refine iteF ?_
          have ei : inner (turnA c x u) x u = (turnA c x u).left x := if_neg hl
          refine q_asg (ev_rd cl no R5 .left (by rw [n2]; exact hx) (ev_var rfl) (ev_var rfl)) (fun H6 e6 => ?_)
          have R6 := R5.ex e6
          refine ⟨_, rfl, _, rfl, by show 2 ≤ sizeLine; decide, fun p hp => ?_⟩
          have R7 := R6.ex (same_new (o := .tup [ov ((turnA c x u).left x), .int (u : Int)]) hp)
          refine ⟨p, _, rfl, SqT.of upd_same, rfl, _, _, rfl, ?_⟩
          refine st_w cl no R7 .right (by rw [n2]; exact hun) (val_var rfl) (val_var rfl) (R7.w_right u ((turnA c x u).left x)) (fun H8 R8 F8 => ?_)
          refine ⟨_, _, rfl, ?_⟩
          refine st_w cl no R8 .left (by show x < (turnA c x u).n; rw [n2]; exact hx) (val_var rfl) (val_var rfl) (R8.w_left x (some u)) (fun H9 R9 F9 => ?_)
          refine ⟨rfl, ?_, ?_, ((((F3.trans F4).trans (Fr.ex e5)).trans (Fr.ex e6)).trans (Fr.ex (same_new hp))).trans (F8.trans F9)⟩
          · rw [ei]
            rfl
          · have er : rot (turnA c x u) x u = { turnA c x u with right := up (turnA c x u).right u ((turnA c x u).left x), left := up (turnA c x u).left x (some u) } := if_neg hl
            rw [er]
            exact R9
      · rintro _ H5 ⟨rfl, R5, F5⟩
        -- self.above[u] = x
        refine q_put (j' := j) (c' := turnB c x u) cl no R5 .above (by rw [rot_n, n2]; exact hun) rfl rfl (ev_var rfl) (fun _ R => R.w_above u (some x)) (fun H6 R6 F6 => ?_)
        have n4 := turnB_n c x u
        -- if inner is not None: self.above[inner] = u
        refine ⟨fun σ' H' => σ' = [some (.ref A.p), some (.int (x : Int)), some (.int (u : Int)), some (ov (c.above u)), some (ov (inner (turnA c x u) x u))] ∧ Arr (aS K) A (turnC c x u) j H' ∧ Fr A H H', ?_, ?_⟩
        · refine ⟨_, rfl, rfl, _, rfl, ?_⟩
          have hin := inner_lt (u := u) wf2 (by rw [n2]; exact hx)
          unfold turnC
          cases hi : inner (turnA c x u) x u with
          | none => exact iteF ⟨rfl, R6, F5.trans F6⟩
          | some i =>
            refine iteT ?_
            refine s_put (j' := j) (c' := setAbove (turnB c x u) (some i) u) cl no R6 .above (x := i) (by rw [n4, ← n2]; exact hin i hi) rfl rfl (ev_var rfl) (fun _ R => R.w_above i (some u)) (fun H7 R7 F7 => ?_)
            exact ⟨rfl, R7, (F5.trans F6).trans F7⟩
        · rintro _ H7 ⟨rfl, R7, F7⟩
          have n5 := turnC_n c x u
          have wf5 := wf_turnC wf hx hun
          -- self.gather(u); self.gather(x)
          refine call_m (val_var rfl) R7.ob (sf_no A (by decide +kernel)) (vala_cons (val_var rfl) vala_nil) ?_
          refine ⟨A, _, j, u, rfl, R7, wf5, by rw [n5]; exact hun, fun j8 H8 R8 F8 => ?_⟩
          refine call_m (val_var rfl) R8.ob (sf_no A (by decide +kernel)) (vala_cons (val_var rfl) vala_nil) ?_
          refine ⟨A, _, j8, x, rfl, R8, wf_gather wf5, by show x < (turnC c x u).n; rw [n5]; exact hx, fun j9 H9 R9 F9 => ?_⟩
          -- self.steps.append(("turn", x))
          obtain ⟨xs, hs1, hs2⟩ := R9.sts
          have hs3 : xs.length = c.steps := hs2.trans (turnC_steps c x u)
          refine s_appNew hs1 (ev_fld (ev_var rfl) R9.ob cl T.nS_steps (sf_st A)) (eu_tup (ea_cons ev_c (ea_cons (ev_var rfl) ea_nil)) (by show 2 ≤ 100000; decide)) (by rw [hs3]; exact Nat.lt_trans hst (by decide)) (fun p H10 e10 => ?_)
          have R10 := R9.ex e10
          refine k j9 _ ?_ ((((F7.trans F8).trans F9).trans (Fr.ex e10)).trans (fr_st _))
          have e : turn c x = { gather (gather (turnC c x u) u) x with steps := (gather (gather (turnC c x u) u) x).steps + 1 } := by
            unfold turn turnAt
            rw [hu]
            show ({ gather (gather (turnC c x u) u) x with steps := c.steps + 1 } : C) = { gather (gather (turnC c x u) u) x with steps := (turnC c x u).steps + 1 }
            rw [turnC_steps]
          rw [e]
          exact R10.step (e10 _ _ hs1)
end
end K73
end
section
set_option maxHeartbeats 4000000
namespace K73
open PySem PySem.Spec PyProof.Rows L2 Evl
/-! ### unfold -/
inductive Chain (c : C) : Nat → List Nat → Prop
  | top {x : Nat} : isTop c x = true → Chain c x []
  | up {x u : Nat} {ys : List Nat} : isTop c x = false → c.above x = some u → Chain c u ys → Chain c x (u :: ys)
theorem handDown_n (c : C) (x : Nat) : (handDown c x).n = c.n := by
  unfold handDown
  split
  · show (flipAt (flipAt _ _) _).n = c.n
    rw [flipAt_n, flipAt_n]
  · rfl
theorem flipAt_left (c : C) (o : Option Nat) : (flipAt c o).left = c.left := by cases o <;> rfl
theorem flipAt_right (c : C) (o : Option Nat) : (flipAt c o).right = c.right := by cases o <;> rfl
theorem flipAt_above (c : C) (o : Option Nat) : (flipAt c o).above = c.above := by cases o <;> rfl
theorem flipAt_steps (c : C) (o : Option Nat) : (flipAt c o).steps = c.steps := by cases o <;> rfl
theorem handDown_steps (c : C) (x : Nat) : (handDown c x).steps = c.steps := by
  unfold handDown
  split
  · show (flipAt (flipAt _ _) _).steps = c.steps
    rw [flipAt_steps, flipAt_steps]
  · rfl
theorem wf_handDown {c : C} {x : Nat} (wf : WF c) (hx : x < c.n) : WF (handDown c x) := by
  unfold handDown
  split
  · rename_i hf
    intro z hz y hy
    have hz2 : z < c.n := by
      have e : (flipAt (flipAt { c with left := up c.left x (c.right x), right := up c.right x (c.left x) } (up c.left x (c.right x) x)) ((flipAt { c with left := up c.left x (c.right x), right := up c.right x (c.left x) } (up c.left x (c.right x) x)).right x)).n = c.n := by rw [flipAt_n, flipAt_n]
      exact e ▸ hz
    show y < (flipAt (flipAt _ _) _).n
    rw [flipAt_n, flipAt_n]
    show y < c.n
    have hy : (flipAt (flipAt { c with left := up c.left x (c.right x), right := up c.right x (c.left x) } (up c.left x (c.right x) x)) ((flipAt { c with left := up c.left x (c.right x), right := up c.right x (c.left x) } (up c.left x (c.right x) x)).right x)).left z = some y ∨
      (flipAt (flipAt { c with left := up c.left x (c.right x), right := up c.right x (c.left x) } (up c.left x (c.right x) x)) ((flipAt { c with left := up c.left x (c.right x), right := up c.right x (c.left x) } (up c.left x (c.right x) x)).right x)).right z = some y ∨
      (flipAt (flipAt { c with left := up c.left x (c.right x), right := up c.right x (c.left x) } (up c.left x (c.right x) x)) ((flipAt { c with left := up c.left x (c.right x), right := up c.right x (c.left x) } (up c.left x (c.right x) x)).right x)).above z = some y := hy
    rw [flipAt_left, flipAt_left, flipAt_right, flipAt_right, flipAt_above, flipAt_above] at hy
    rcases hy with hy | hy | hy
    · by_cases e : z = x
      · subst e
        have hy : up c.left z (c.right z) z = some y := hy
        rw [up_same] at hy
        exact wf z hz2 y (Or.inr (Or.inl hy))
      · have hy : up c.left x (c.right x) z = some y := hy
        rw [up_ne e] at hy
        exact wf z hz2 y (Or.inl hy)
    · by_cases e : z = x
      · subst e
        have hy : up c.right z (c.left z) z = some y := hy
        rw [up_same] at hy
        exact wf z hz2 y (Or.inl hy)
      · have hy : up c.right x (c.left x) z = some y := hy
        rw [up_ne e] at hy
        exact wf z hz2 y (Or.inr (Or.inl hy))
    · exact wf z hz2 y (Or.inr (Or.inr hy))
  · exact wf
def unfoldL (c : C) (row : List Nat) : C := row.foldr (fun y c => handDown c y) c
theorem unfoldL_n (c : C) : ∀ row : List Nat, (unfoldL c row).n = c.n
  | [] => rfl
  | y :: r => (handDown_n _ _).trans (unfoldL_n c r)
theorem unfoldL_steps (c : C) : ∀ row : List Nat, (unfoldL c row).steps = c.steps
  | [] => rfl
  | y :: r => (handDown_steps _ _).trans (unfoldL_steps c r)
theorem wf_unfoldL {c : C} (wf : WF c) : ∀ row : List Nat, (∀ y ∈ row, y < c.n) → WF (unfoldL c row)
  | [], _ => wf
  | y :: r, h => wf_handDown (wf_unfoldL wf r fun z hz => h z (List.mem_cons_of_mem _ hz)) (by show y < (unfoldL c r).n; rw [unfoldL_n]; exact h y List.mem_cons_self)
theorem Chain.lt {c : C} (wf : WF c) {x : Nat} {ys : List Nat} (h : Chain c x ys) : x < c.n → ∀ y ∈ x :: ys, y < c.n := by
  induction h with
  | top _ => intro hx y hy; simp at hy; subst hy; exact hx
  | up h1 h2 _ ih =>
    intro hx y hy
    rcases List.mem_cons.mp hy with e | hy
    · subst e; exact hx
    · exact ih (wf _ hx _ (Or.inr (Or.inr h2))) y hy
section
variable {P : Program} {w : World} {K : PySem.W.Frag} {mg : Str → Option Value} {base : Heap}
theorem ev_top {S : Addr} {A : SA} {c : C} {j : J} {H : Hp} {σ : L2.St} {ta tb : TE} {x : Nat} (R : Arr (aS K) A c j H) (wf : WF c) (hx : x < c.n) (ha : Ev ta σ H (.ref A.p)) (hb : Ev tb σ H (.int (x : Int))) :
    Ev (tMeth (aS K) "is_top" (sp_Strands_is_top K) [] E0 ta (tCons tb tNil)) σ H (.bl (isTop c x)) :=
  ev_m ha R.ob (sf_no A (by decide +kernel)) (ea_cons hb ea_nil) fun H1 e1 Q q => ⟨A, c, j, x, rfl, R.ex e1, wf, hx, q⟩
abbrev vN (ys : List Nat) : List V := ys.map fun y : Nat => V.int (y : Int)
def sp_Strands_unfold (K : PySem.W.Frag) : Sp := fun vs H Q _ => ∃ (A : SA) (c : C) (j : J) (x : Nat) (ys : List Nat), vs = [.ref A.p, .int (x : Int)] ∧ Arr (aS K) A c j H ∧ WF c ∧ x < c.n ∧ Chain c x ys ∧ ys.length < 10000 ∧ ∀ H', Arr (aS K) A (unfoldL c (x :: ys)) j H' → Fr A H H' → Q .non H'
-- 0 self, 1 x, 2 row, 3 one
abbrev n_Strands_unfold : List Str := ["self", "x", "row", "one"]
theorem sc_Strands_unfold : FnScope n_Strands_unfold ["self", "x"] (defScope s_Strands_unfold) := ⟨rfl, rfl, rfl, by decide +kernel, rfl, by decide +kernel, by decide +kernel⟩
theorem ok_Strands_unfold (T : Txt w K mg) : Good P w K mg base 3 (He.ma K (aS K) "unfold") ["self", "x"] (sp_Strands_unfold K) := by
  refine good_mk T.D_Strands_unfold sc_Strands_unfold (fun _ _ _ _ _ _ us hl => match us, hl with | [_, _], _ => rfl) (fun vs H Q E h => ?_) (fun cdv A0 outer s H vs Q E hr h => ?_)
  · obtain ⟨A, c, j, x, ys, rfl, _⟩ := h
    rfl
  · obtain ⟨A, c, j, x, zs, rfl, R, wf, hx, ch, hz, k⟩ := h
    refine ⟨_, (pss_cons (ps_set (i := 2) sc_Strands_unfold.nd rfl (Or.inl rfl) (pe_lst (pa_cons (pv 1) pa_nil)))
      (pss_cons (ps_while PassesOwn.never (pt_not (pt_val (pe_m (pv 0) T.clS T.mS_is_top (ok_Strands_is_top T) (hr.mono (by decide)) (pa_cons (pe_ix ix_list (pv 2) (pe_un un_neg pe_int) (fun _ _ => rfl)) pa_nil)))) (pss_one (ps_expr (pe_bm PySem.F.plainAttrs_list PySem.F.slot_list_append PySem.F.type_list_append mt_append (pv 2) (pa_cons (pe_ix ix_list (pe_fld (pv 0) rfl) (pe_ix ix_list (pv 2) (pe_un un_neg pe_int) (fun _ _ => rfl)) (fun _ _ => rfl)) pa_nil)))))
      (pss_one (ps_for PassesOwn.never rfl (pi_reversed (by rfl) T.z_reversed (pa_cons (pv 2) pa_nil)) (pg_name (i := 3) sc_Strands_unfold.nd rfl (Or.inl rfl)) (pss_one (ps_expr (pe_m (pv 0) T.clS T.mS_hand_down (ok_Strands_hand_down T) (hr.mono (by decide)) (pa_cons (pv 3) pa_nil)))))))), ?_⟩
    have cl := T.clS
    have no := noS T
    have hall := ch.lt wf hx
    -- row = [x]
    refine q_asgL (el_lst (ea_cons (ev_var rfl) ea_nil) (by show 1 ≤ 100000; decide)) (fun rw_ H0 hD e0 h0 => ?_)
    have nD : ¬ Mut A rw_ := mut_none R hD
    have npr : A.p ≠ rw_ := ne_of_none R.ob hD
    refine q_while (fun m σ H' => ∃ (pre : List Nat) (y : Nat) (ys : List Nat), x :: zs = pre ++ y :: ys ∧ Chain c y ys ∧ m = ys.length ∧ σ = [some (.ref A.p), some (.int (x : Int)), some (.ref rw_), none] ∧ H' rw_ = some (.lst (vN (pre ++ [y]))) ∧ Arr (aS K) A c j H' ∧ Fr A H H') zs.length
      ⟨[], x, zs, rfl, ch, rfl, rfl, h0, R.ex e0, Fr.ex e0⟩ ?_
    rintro m _ H1 ⟨pre, y, ys, et, chy, rfl, rfl, h1, R1, F1⟩
    have hy : y < c.n := hall y (by rw [et]; simp)
    have hlast : ∀ H2, Same H1 H2 → Ev (tOp (rIxL K) (tVar 2) (tUn (rU fun i => .int (-i)) (tC (.int 1)))) [some (.ref A.p), some (.int (x : Int)), some (.ref rw_), none] H2 (.int (y : Int)) := fun H2 e2 =>
      ev_op (ev_var rfl) (ev_un ev_c ru_neg) (rv_ixL (sq_of (e2 _ _ h1)) (by
        show atI (vN (pre ++ [y])) (-1) = _
        rw [show vN (pre ++ [y]) = vN pre ++ [V.int (y : Int)] by simp [vN]]
        exact atI_last _ _))
    refine ⟨!isTop c y, et_not (et_B (ev_top (S := aS K) R1 wf hy (ev_var rfl) (hlast H1 (Same.refl _)))), fun hb H2 e2 => ?_, fun hb H2 e2 => ?_⟩
    · cases chy with
      | top h => rw [h] at hb; cases hb
      | up h1' h2' h3' =>
        rename_i u us
        have R2 := R1.ex e2
        have hv : mOf c j .above y = .int (u : Int) := by show ov (c.above y) = _; rw [h2']; rfl
        refine ⟨fun σ H' => ∃ m', m' < (u :: us).length ∧ (∃ (pre : List Nat) (y : Nat) (ys : List Nat), x :: zs = pre ++ y :: ys ∧ Chain c y ys ∧ m' = ys.length ∧ σ = [some (.ref A.p), some (.int (x : Int)), some (.ref rw_), none] ∧ H' rw_ = some (.lst (vN (pre ++ [y]))) ∧ Arr (aS K) A c j H' ∧ Fr A H H'), fun _ _ h => h, ?_⟩
        refine s_app (e2 _ _ h1) (ev_var rfl) (ev_rdv cl no R2 .above hy (ev_var rfl) (hlast H2 e2) hv) (by
          have e := congrArg List.length et
          simp [vN] at e ⊢
          omega) (fun H3 e3 => ?_)
        have h3 : H3 rw_ = some (.lst (vN (pre ++ [y]))) := e3 _ _ (e2 _ _ h1)
        refine ⟨us.length, Nat.lt_succ_self _, pre ++ [y], u, us, by rw [et]; simp, h3', rfl, rfl, by rw [upd_same]; simp [vN], ?_, ?_⟩
        · -- the row is none of the lists
          have R3 := R2.ex e3
          refine ⟨by rw [upd_ne npr]; exact R3.ob, fun f => by rw [upd_ne (fun q => nD (Or.inl ⟨f, q.symm⟩))]; exact R3.ls f, ?_, R3.inj, R3.nst, fun z hz => ?_⟩
          · obtain ⟨xs, q1, q2⟩ := R3.sts
            exact ⟨xs, by rw [upd_ne (fun q => nD (Or.inr q.symm))]; exact q1, q2⟩
          · obtain ⟨a, b, q⟩ := R3.hung z hz
            exact ⟨a, b, by rw [upd_ne (ne_of q h3 (by intro z; cases z))]; exact q⟩
        · intro a o ha hm
          rw [upd_ne (ne_of_none ha hD)]
          exact e3 _ _ (e2 _ _ (F1 a o ha hm))
    · have ey : ys = [] := by
        cases chy with
        | top _ => rfl
        | up h _ _ => rw [h] at hb; cases hb
      subst ey
      have h2 := e2 _ _ h1
      have R2 := R1.ex e2
      rw [← et] at h2
      -- for one in reversed(row): self.hand_down(one)
      refine ⟨_, rfl, rw_, _, rfl, SqL.of h2, for_it (walk_rev (K := K) (a := rw_) (xs := vN (x :: zs))) (fun i σ H' => ∃ v : Option V, σ = [some (.ref A.p), some (.int (x : Int)), some (.ref rw_), v] ∧ Arr (aS K) A (unfoldL c ((x :: zs).drop ((x :: zs).length - i))) j H' ∧ Fr A H2 H')
        ⟨none, rfl, by rw [Nat.sub_zero, List.drop_length]; exact R2, Fr.refl _ _⟩ (fun i σ H' _ ⟨_, _, _, F⟩ => SqL.of (F _ _ h2 nD)) ?_ ?_⟩
      · rintro i v σ H3 H3' hi ⟨v0, rfl, R3, F3⟩ ⟨rfl, hv⟩
        have hi : i < (x :: zs).length := by simpa [vN] using hi
        have hk : (x :: zs).length - 1 - i < (x :: zs).length := by omega
        rw [show (vN (x :: zs)).length = (x :: zs).length by simp [vN]] at hv
        rw [show vN (x :: zs) = (x :: zs).map (fun y : Nat => V.int (y : Int)) from rfl, List.getElem?_map, List.getElem?_eq_getElem hk] at hv
        cases hv
        have hd : (x :: zs).drop ((x :: zs).length - (i + 1)) = (x :: zs)[(x :: zs).length - 1 - i] :: (x :: zs).drop ((x :: zs).length - i) := by
          have e1 : (x :: zs).length - (i + 1) = (x :: zs).length - 1 - i := by omega
          have e2 : (x :: zs).length - i = ((x :: zs).length - 1 - i) + 1 := by omega
          rw [e1, e2]
          exact List.drop_eq_getElem_cons hk
        refine call_m (val_var rfl) R3.ob (sf_no A (by decide +kernel)) (vala_cons (val_var rfl) vala_nil) ?_
        refine ⟨A, _, j, (x :: zs)[(x :: zs).length - 1 - i], rfl, R3, wf_unfoldL wf _ (fun z hz => hall z (List.mem_of_mem_drop hz)), by rw [unfoldL_n]; exact hall _ (List.getElem_mem _), fun H4 R4 F4 => ⟨_, rfl, ?_, F3.trans F4⟩⟩
        rw [hd]
        exact R4
      · rintro σ H3 ⟨v0, rfl, R3, F3⟩
        rw [show (vN (x :: zs)).length = (x :: zs).length by simp [vN], Nat.sub_self, List.drop_zero] at R3
        exact k _ R3 ((F1.trans (Fr.ex e2)).trans F3)
end
end K73
end
section
set_option maxHeartbeats 4000000
namespace K73
open PySem PySem.Spec PyProof.Rows L2 Evl
/-! ### lift -/
def alike (c : C) (x u : Nat) : Bool := decide (c.left u = some x) == decide (c.left ((c.above u).getD 0) = some u)
def preT (c : C) (x u : Nat) : C := if isTop c u = true then c else turn c (if alike c x u = true then u else x)
inductive LiftR (x : Nat) : Nat → C → C → Prop
  | top {c : C} : isTop c x = true → LiftR x 0 c c
  | step {c c' : C} {u u' k : Nat} : isTop c x = false → c.above x = some u → WF c → x < c.n → c.steps + 2 < 16000000 → (preT c x u).above x = some u' → LiftR x k (turn (preT c x u) x) c' → LiftR x (k + 1) c c'
theorem top_some {c : C} {x : Nat} (h : isTop c x = false) : ∃ u, c.above x = some u := by
  unfold isTop at h
  cases e : c.above x with
  | none => rw [e] at h; cases h
  | some u => exact ⟨u, rfl⟩
theorem wf_turn {c : C} {x : Nat} (wf : WF c) (hx : x < c.n) : WF (turn c x) := by
  unfold turn
  cases e : c.above x with
  | none => exact wf
  | some u => exact wf_turnAt wf hx (wf x hx u (Or.inr (Or.inr e)))
theorem turn_steps_le (c : C) (x : Nat) : (turn c x).steps ≤ c.steps + 1 := by
  unfold turn
  cases c.above x with
  | none => exact Nat.le_succ _
  | some u => exact Nat.le_refl _
theorem preT_n (c : C) (x u : Nat) : (preT c x u).n = c.n := by
  unfold preT
  split
  · rfl
  · exact turn_n _ _
theorem preT_steps (c : C) (x u : Nat) : (preT c x u).steps ≤ c.steps + 1 := by
  unfold preT
  split
  · exact Nat.le_succ _
  · exact turn_steps_le _ _
theorem wf_preT {c : C} {x u : Nat} (wf : WF c) (hx : x < c.n) (hu : u < c.n) : WF (preT c x u) := by
  unfold preT
  split
  · exact wf
  · split
    · exact wf_turn wf hu
    · exact wf_turn wf hx
section
variable {P : Program} {w : World} {K : PySem.W.Frag} {mg : Str → Option Value} {base : Heap}
def sp_Strands_lift (K : PySem.W.Frag) : Sp := fun vs H Q _ => ∃ (A : SA) (c : C) (j : J) (x : Nat) (ys : List Nat) (k : Nat) (c' : C), vs = [.ref A.p, .int (x : Int)] ∧ Arr (aS K) A c j H ∧ WF c ∧ x < c.n ∧ Chain c x ys ∧ ys.length < 10000 ∧
  LiftR x k (unfoldL c (x :: ys)) c' ∧ ∀ j' H', Arr (aS K) A c' j' H' → Fr A H H' → Q .non H'
-- 0 self, 1 x, 2 u, 3 g, 4 alike
abbrev n_Strands_lift : List Str := ["self", "x", "u", "g", "alike"]
theorem sc_Strands_lift : FnScope n_Strands_lift ["self", "x"] (defScope s_Strands_lift) := ⟨rfl, rfl, rfl, by decide +kernel, rfl, by decide +kernel, by decide +kernel⟩
theorem ok_Strands_lift (T : Txt w K mg) : Good P w K mg base 4 (He.ma K (aS K) "lift") ["self", "x"] (sp_Strands_lift K) := by
  refine good_mk T.D_Strands_lift sc_Strands_lift (fun _ _ _ _ _ _ us hl => match us, hl with | [_, _], _ => rfl) (fun vs H Q E h => ?_) (fun cdv A0 outer s H vs Q E hr h => ?_)
  · obtain ⟨A, c, j, x, ys, k, c', rfl, _⟩ := h
    rfl
  · obtain ⟨A, c, j, x, zs, kk, c', rfl, R, wf, hx, ch, hz, hl, k⟩ := h
    refine ⟨_, (pss_cons (ps_expr (pe_m (pv 0) T.clS T.mS_unfold (ok_Strands_unfold T) (hr.mono (by decide)) (pa_cons (pv 1) pa_nil)))
      (pss_one (ps_while PassesOwn.never (pt_not (pt_val (pe_m (pv 0) T.clS T.mS_is_top (ok_Strands_is_top T) (hr.mono (by decide)) (pa_cons (pv 1) pa_nil)))) (pss_cons (ps_set (i := 2) sc_Strands_lift.nd rfl (Or.inl rfl) (pe_ix ix_list (pe_fld (pv 0) rfl) (pv 1) (fun _ _ => rfl)))
        (pss_cut (ps_if (pt_not (pt_val (pe_m (pv 0) T.clS T.mS_is_top (ok_Strands_is_top T) (hr.mono (by decide)) (pa_cons (pv 2) pa_nil)))) (pss_cons (ps_set (i := 3) sc_Strands_lift.nd rfl (Or.inl rfl) (pe_ix ix_list (pe_fld (pv 0) rfl) (pv 2) (fun _ _ => rfl)))
          (pss_cons (ps_set (i := 4) sc_Strands_lift.nd rfl (Or.inl rfl) (pe_cmpR op_eq (pe_cmpR op_eq (pe_ix ix_list (pe_fld (pv 0) rfl) (pv 2) (fun _ _ => rfl)) (pv 1) (nomark _)) (pe_cmpR op_eq (pe_ix ix_list (pe_fld (pv 0) rfl) (pv 3) (fun _ _ => rfl)) (pv 2) (nomark _)) (nomark _)))
          (pss_one (ps_expr (pe_m (pv 0) T.clS T.mS_turn (ok_Strands_turn T) (hr.mono (by decide)) (pa_cons (pe_ifExp (pt_val (pv 4)) (pv 2) (pv 1)) pa_nil)))))) pss_nil)
        (pss_one (ps_expr (pe_m (pv 0) T.clS T.mS_turn (ok_Strands_turn T) (hr.mono (by decide)) (pa_cons (pv 1) pa_nil))))))))), ?_⟩
    have cl := T.clS
    have no := noS T
    refine call_m (val_var rfl) R.ob (sf_no A (by decide +kernel)) (vala_cons (val_var rfl) vala_nil) ?_
    refine ⟨A, c, j, x, zs, rfl, R, wf, hx, ch, hz, fun H0 R0 F0 => ?_⟩
    refine s_while (fun m σ H' => ∃ (c1 : C) (j1 : J) (v2 v3 v4 : Option V), σ = [some (.ref A.p), some (.int (x : Int)), v2, v3, v4] ∧ Arr (aS K) A c1 j1 H' ∧ WF c1 ∧ x < c1.n ∧ LiftR x m c1 c' ∧ Fr A H H') kk
      ⟨_, j, _, _, _, rfl, R0, wf_unfoldL wf _ (ch.lt wf hx), by rw [unfoldL_n]; exact hx, hl, F0⟩ ?_
    rintro m _ H1 ⟨c1, j1, v2, v3, v4, rfl, R1, wf1, hx1, hl1, F1⟩
    refine ⟨!isTop c1 x, et_not (et_B (ev_top (S := aS K) R1 wf1 hx1 (ev_var rfl) (ev_var rfl))), fun hb H2 e2 => ?_, fun hb H2 e2 => ?_⟩
    · cases hl1 with
      | top h => rw [h] at hb; cases hb
      | @step _ _ u u' k' ht hu _ _ hst hu' hl2 =>
        have hun : u < c1.n := wf1 x hx1 u (Or.inr (Or.inr hu))
        have R2 := R1.ex e2
        refine ⟨fun σ H' => ∃ m', m' < k' + 1 ∧ (∃ (c1 : C) (j1 : J) (v2 v3 v4 : Option V), σ = [some (.ref A.p), some (.int (x : Int)), v2, v3, v4] ∧ Arr (aS K) A c1 j1 H' ∧ WF c1 ∧ x < c1.n ∧ LiftR x m' c1 c' ∧ Fr A H H'), fun _ _ h => h, ?_⟩
        refine q_asg (ev_rdv cl no R2 .above hx1 (ev_var rfl) (ev_var rfl) (by show ov (c1.above x) = .int (u : Int); rw [hu]; rfl)) (fun H3 e3 => ?_)
        have R3 := R2.ex e3
        refine ⟨fun σ' H' => ∃ (j4 : J) (v3 v4 : Option V), σ' = [some (.ref A.p), some (.int (x : Int)), some (.int (u : Int)), v3, v4] ∧ Arr (aS K) A (preT c1 x u) j4 H' ∧ Fr A H H', ?_, ?_⟩
        · have F3 := (F1.trans (Fr.ex e2)).trans (Fr.ex e3)
          refine s_if (et_not (et_B (ev_top (S := aS K) R3 wf1 hun (ev_var rfl) (ev_var rfl)))) (fun hb H4 e4 => ?_) (fun hb H4 e4 => ?_)
          · have htu : isTop c1 u = false := by simpa using hb
            obtain ⟨g, hg⟩ := top_some htu
            have hgn : g < c1.n := wf1 u hun g (Or.inr (Or.inr hg))
            have R4 := R3.ex e4
            refine q_asg (ev_rdv cl no R4 .above hun (ev_var rfl) (ev_var rfl) (by show ov (c1.above u) = .int (g : Int); rw [hg]; rfl)) (fun H5 e5 => ?_)
            have R5 := R4.ex e5
            refine q_asg (v := .bl (alike c1 x u)) (ev_is (ev_op (ev_op (ev_rd cl no R5 .left hun (ev_var rfl) (ev_var rfl)) (ev_var rfl) (rv_eq (scal_ov _ _))) (ev_op (ev_rd cl no R5 .left hgn (ev_var rfl) (ev_var rfl)) (ev_var rfl) (rv_eq (scal_ov _ _))) (rv_eq rfl)) ?_) (fun H6 e6 => ?_)
            · have d1 : decide (mOf c1 j1 .left u = V.int (x : Int)) = decide (c1.left u = some x) := ov_eq
              have d2 : decide (mOf c1 j1 .left g = V.int (u : Int)) = decide (c1.left g = some u) := ov_eq
              rw [d1, d2]
              unfold alike
              rw [hg]
              show V.bl (decide (V.bl (decide (c1.left u = some x)) = V.bl (decide (c1.left g = some u)))) = V.bl (decide (c1.left u = some x) == decide (c1.left g = some u))
              cases decide (c1.left u = some x) <;> cases decide (c1.left g = some u) <;> rfl
            have R6 := R5.ex e6
            refine call_m (vs := [.int ((if alike c1 x u = true then u else x : Nat) : Int)]) (val_var rfl) R6.ob (sf_no A (by decide +kernel)) (vala_cons (fun Q q => ?_) vala_nil) ?_
            · refine ⟨_, rfl, _, rfl, ?_⟩
              cases ha : alike c1 x u with
              | true => refine iteT ⟨_, rfl, ?_⟩; rw [ha] at q; exact q
              | false => refine iteF ⟨_, rfl, ?_⟩; rw [ha] at q; exact q
            · have ep : preT c1 x u = turn c1 (if alike c1 x u = true then u else x) := by unfold preT; rw [htu]; rfl
              have hab : c1.above (if alike c1 x u = true then u else x) = some (if alike c1 x u = true then g else u) := by
                cases alike c1 x u with
                | true => exact hg
                | false => exact hu
              refine ⟨A, c1, j1, (if alike c1 x u = true then u else x), (if alike c1 x u = true then g else u), rfl, R6, wf1, ?_, hab, by omega, fun j7 H7 R7 F7 => ?_⟩
              · cases alike c1 x u with
                | true => exact hun
                | false => exact hx1
              · exact ⟨j7, _, _, rfl, by rw [ep]; exact R7, (((F3.trans (Fr.ex e4)).trans (Fr.ex e5)).trans (Fr.ex e6)).trans F7⟩
          · have htu : isTop c1 u = true := by simpa using hb
            refine ⟨j1, _, _, rfl, ?_, F3.trans (Fr.ex e4)⟩
            have ep : preT c1 x u = c1 := by unfold preT; rw [htu]; rfl
            rw [ep]
            exact R3.ex e4
        · rintro _ H4 ⟨j4, v3, v4, rfl, R4, F4⟩
          refine call_m (val_var rfl) R4.ob (sf_no A (by decide +kernel)) (vala_cons (val_var rfl) vala_nil) ?_
          have hs := preT_steps c1 x u
          refine ⟨A, _, j4, x, u', rfl, R4, wf_preT wf1 hx1 hun, by rw [preT_n]; exact hx1, hu', by omega, fun j5 H5 R5 F5 => ?_⟩
          exact ⟨k', Nat.lt_succ_self _, _, j5, _, _, _, rfl, R5, wf_turn (wf_preT wf1 hx1 hun) (by rw [preT_n]; exact hx1), by rw [turn_n, preT_n]; exact hx1, hl2, F4.trans F5⟩
    · cases hl1 with
      | top h => exact k j1 H2 (R1.ex e2) (F1.trans (Fr.ex e2))
      | step h => rw [h] at hb; cases hb
end
end K73
end
section
set_option maxHeartbeats 4000000
namespace K73
open PySem PySem.Spec PyProof.Rows L2 Evl
/-! ### hang, let_go, take_in, lead -/
def letGo (c : C) (x : Nat) : C := match c.right x with
  | none => { c with steps := c.steps + 1 }
  | some _ => { gather { c with right := up c.right x none } x with steps := c.steps + 1 }
def takeIn (c : C) (u x : Nat) : C := { gather { c with right := up c.right u (some x) } u with steps := c.steps + 1 }
theorem letGo_n (c : C) (x : Nat) : (letGo c x).n = c.n := by
  unfold letGo
  cases c.right x <;> rfl
theorem letGo_steps (c : C) (x : Nat) : (letGo c x).steps = c.steps + 1 := by
  unfold letGo
  cases c.right x <;> rfl
theorem wf_letGo {c : C} {x : Nat} (wf : WF c) : WF (letGo c x) := by
  unfold letGo
  cases c.right x with
  | none => exact wf
  | some y => exact wf_right wf (fun y e => nomatch e)
theorem wf_takeIn {c : C} {u x : Nat} (wf : WF c) (hx : x < c.n) : WF (takeIn c u x) := wf_right wf (fun y e => by cases e; exact hx)
theorem LiftR.keeps {x k : Nat} {c c' : C} (h : LiftR x k c c') : WF c → WF c' ∧ c'.n = c.n := by
  induction h with
  | top _ => intro wf; exact ⟨wf, rfl⟩
  | @step c c' u u' k h1 h2 h3 h4 h5 h6 h7 ih =>
    intro wf
    have hu := wf x h4 u (Or.inr (Or.inr h2))
    obtain ⟨a, b⟩ := ih (wf_turn (wf_preT wf h4 hu) (by rw [preT_n]; exact h4))
    exact ⟨a, b.trans ((turn_n _ _).trans (preT_n _ _ _))⟩
def Lifts (c : C) (x : Nat) (c' : C) : Prop := ∃ (ys : List Nat) (k : Nat), WF c ∧ x < c.n ∧ Chain c x ys ∧ ys.length < 10000 ∧ LiftR x k (unfoldL c (x :: ys)) c'
theorem Lifts.keeps {c c' : C} {x : Nat} (h : Lifts c x c') : WF c' ∧ c'.n = c.n ∧ x < c.n := by
  obtain ⟨ys, k, wf, hx, ch, _, l⟩ := h
  obtain ⟨a, b⟩ := l.keeps (wf_unfoldL wf _ (ch.lt wf hx))
  exact ⟨a, b.trans (unfoldL_n _ _), hx⟩
inductive LeadR : Nat → Nat → C → Nat → C → Prop
  | done {c : C} {last : Nat} : c.above last = none → LeadR 0 last c last c
  | step {c c1 c' : C} {last u l' k : Nat} : c.above last = some u → Lifts c u c1 → c1.steps + 2 < 16000000 → LeadR k u (takeIn (letGo c1 u) u last) l' c' → LeadR (k + 1) last c l' c'
def Leads (c : C) (p : Nat) (c' : C) (last : Nat) : Prop := ∃ (c1 c2 : C) (k : Nat), Lifts c p c1 ∧ c1.steps + 2 < 16000000 ∧ LeadR k p (letGo c1 p) last c2 ∧ Lifts c2 p c'
theorem s_asgG {te : TE} {g : TG} {D : Ends} {σ : L2.St} {H : Hp} {ys : List V} (he : EvU te σ H ys) (k : ∀ p H1, Same H H1 → H1 p = some (.tup ys) → g (.ref p) σ H1 D.nx) : tAsg te g D σ H := he H (Ex.refl H) _ fun p H1 _ e h => k p H1 e h
section
variable {P : Program} {w : World} {K : PySem.W.Frag} {mg : Str → Option Value} {base : Heap}
def sp_Strands_hang (K : PySem.W.Frag) : Sp := fun vs H Q _ => ∃ (A : SA) (c : C) (j : J) (u x : Nat) (i : Int), vs = [.ref A.p, .int (u : Int), .int (x : Int), .int i] ∧ Arr (aS K) A c j H ∧ u < c.n ∧ x < c.n ∧ (i = 1 ∨ i = -1) ∧ ∀ j' H', Arr (aS K) A c j' H' → Fr A H H' → Q .non H'
-- 0 self, 1 u, 2 x, 3 sign, 4 many, 5 total
abbrev n_Strands_hang : List Str := ["self", "u", "x", "sign", "many", "total"]
theorem sc_Strands_hang : FnScope n_Strands_hang ["self", "u", "x", "sign"] (defScope s_Strands_hang) := ⟨rfl, rfl, rfl, by decide +kernel, rfl, by decide +kernel, by decide +kernel⟩
theorem ok_Strands_hang (T : Txt w K mg) : Good P w K mg base 1 (He.ma K (aS K) "hang") ["self", "u", "x", "sign"] (sp_Strands_hang K) := by
  refine good_mk T.D_Strands_hang sc_Strands_hang (fun _ _ _ _ _ _ us hl => match us, hl with | [_, _, _, _], _ => rfl) (fun vs H Q E h => ?_) (fun cdv A0 outer s H vs Q E hr h => ?_)
  · obtain ⟨A, c, j, u, x, i, rfl, _⟩ := h
    rfl
  · obtain ⟨A, c, j, u, x, i, rfl, R, hu, hx, hi, k⟩ := h
    refine ⟨_, (pss_cons (ps_asg (pe_ix ix_list (pe_fld (pv 0) rfl) (pv 1) (fun _ _ => rfl)) (pg_tup rfl (pgs_cons (pg_name (i := 4) sc_Strands_hang.nd rfl (Or.inl rfl)) (pgs_cons (pg_name (i := 5) sc_Strands_hang.nd rfl (Or.inl rfl)) pgs_nil))))
      (pss_one (ps_asg (pe_tup (pa_cons (pe_op op_add (pv 4) (pe_op op_mul (pv 3) (pe_ix ix_list (pe_fld (pv 0) rfl) (pv 2) (fun _ _ => rfl)))) (pa_cons (pe_op op_add (pv 5) (pe_op op_mul (pv 3) (pe_ix ix_list (pe_fld (pv 0) rfl) (pv 2) (fun _ _ => rfl)))) pa_nil))) (pg_sub (pe_fld (pv 0) rfl) (pv 1) set_list)))), ?_⟩
    have cl := T.clS
    have no := noS T
    obtain ⟨a, b, hab⟩ := R.hung u hu
    have hi2 : -(2 ^ 64) < i ∧ i < 2 ^ 64 := by rcases hi with e | e <;> subst e <;> decide
    refine ev_here (ev_rd cl no R .hung hu (ev_var rfl) (ev_var rfl)) (fun H1 e1 => ?_)
    refine ⟨_, _, rfl, SqT.of (e1 _ _ hab), rfl, _, _, rfl, _, _, rfl, rfl, ?_⟩
    have R1 := R.ex e1
    have hm : ∀ (f : Fd) (g : Nat → Int), mOf c j f x = .int (g x) → ∀ (r : Int) (n : Nat), ([some (V.ref A.p), some (V.int (u : Int)), some (V.int (x : Int)), some (V.int i), some (V.int a), some (V.int b)] : L2.St)[n]? = some (some (V.int r)) →
        Ev (tOp (rI0 fun i j => .int (i + j)) (tVar n) (tOp (rI CMul fun i j => .int (i * j)) (tVar 3) (tOp (rIxL K) (tFld K (tVar 0) (fname f)) (tVar 2)))) [some (V.ref A.p), some (V.int (u : Int)), some (V.int (x : Int)), some (V.int i), some (V.int a), some (V.int b)] H1 (.int (r + i * g x)) :=
      fun f g hg r n hn => ev_op (ev_var hn) (ev_op (ev_var rfl) (ev_rdv cl no R1 f hx (ev_var rfl) (ev_var rfl) hg) (rv_I (Or.inl hi2))) rv_I0
    refine s_asgG (eu_tup (vs := [.int (a + i * j.allMany x), .int (b + i * j.allTotal x)]) (ea_cons (hm .allMany j.allMany rfl a 4 rfl) (ea_cons (hm .allTotal j.allTotal rfl b 5 rfl) ea_nil)) (by show 2 ≤ 100000; decide)) (fun p H2 e2 h2 => ?_)
    refine st_w cl no (R1.ex e2) .hung hu (val_var rfl) (val_var rfl) ((R1.ex e2).w_hung u h2) (fun H3 R3 F3 => ?_)
    exact k _ H3 R3 (((Fr.ex e1).trans (Fr.ex e2)).trans F3)
def sp_Strands_let_go (K : PySem.W.Frag) : Sp := fun vs H Q _ => ∃ (A : SA) (c : C) (j : J) (x : Nat), vs = [.ref A.p, .int (x : Int)] ∧ Arr (aS K) A c j H ∧ WF c ∧ x < c.n ∧ c.steps < 16000000 ∧ ∀ j' H', Arr (aS K) A (letGo c x) j' H' → Fr A H H' → Q .non H'
-- 0 self, 1 x
abbrev n_Strands_let_go : List Str := ["self", "x"]
theorem sc_Strands_let_go : FnScope n_Strands_let_go ["self", "x"] (defScope s_Strands_let_go) := ⟨rfl, rfl, rfl, by decide +kernel, rfl, by decide +kernel, by decide +kernel⟩
theorem ok_Strands_let_go (T : Txt w K mg) : Good P w K mg base 3 (He.ma K (aS K) "let_go") ["self", "x"] (sp_Strands_let_go K) := by
  refine good_mk T.D_Strands_let_go sc_Strands_let_go (fun _ _ _ _ _ _ us hl => match us, hl with | [_, _], _ => rfl) (fun vs H Q E h => ?_) (fun cdv A0 outer s H vs Q E hr h => ?_)
  · obtain ⟨A, c, j, x, rfl, _⟩ := h
    rfl
  · obtain ⟨A, c, j, x, rfl, R, wf, hx, hst, k⟩ := h
    refine ⟨_, (pss_cut (ps_if (pt_cmpR op_notN (pe_ix ix_list (pe_fld (pv 0) rfl) (pv 1) (fun _ _ => rfl)) pe_non (nomark _)) (pss_cons (ps_expr (pe_m (pv 0) T.clS T.mS_hang (ok_Strands_hang T) (hr.mono (by decide)) (pa_cons (pv 1) (pa_cons (pe_ix ix_list (pe_fld (pv 0) rfl) (pv 1) (fun _ _ => rfl)) (pa_cons pe_int pa_nil)))))
        (pss_cons (ps_asg pe_non (pg_sub (pe_fld (pv 0) rfl) (pv 1) set_list))
        (pss_one (ps_expr (pe_m (pv 0) T.clS T.mS_gather (ok_Strands_gather T) (hr.mono (by decide)) (pa_cons (pv 1) pa_nil)))))) pss_nil)
      (pss_one (ps_expr (pe_bm PySem.F.plainAttrs_list PySem.F.slot_list_append PySem.F.type_list_append mt_append (pe_fld (pv 0) rfl) (pa_cons (pe_tup (pa_cons pe_str (pa_cons (pv 1) pa_nil))) pa_nil))))), ?_⟩
    have cl := T.clS
    have no := noS T
    refine ⟨fun σ' H' => ∃ (c1 : C) (j1 : J), σ' = [some (.ref A.p), some (.int (x : Int))] ∧ Arr (aS K) A c1 j1 H' ∧ c1.steps = c.steps ∧ letGo c x = { c1 with steps := c1.steps + 1 } ∧ Fr A H H', ?_, ?_⟩
    · refine ev_here (ev_op (ev_rd cl no R .right hx (ev_var rfl) (ev_var rfl)) ev_c (z := .bl (!decide (mOf c j .right x = .non))) (rv_val fun H1 _ Q q => ⟨rfl, q⟩)) (fun H1 e1 => ⟨_, rfl, ?_⟩)
      have R1 := R.ex e1
      have d : decide (mOf c j .right x = V.non) = (c.right x).isNone := ov_non
      rw [d]
      unfold letGo
      cases hr : c.right x with
      | none => exact iteF ⟨c, j, rfl, R1, rfl, rfl, Fr.ex e1⟩
      | some y =>
        refine iteT ?_
        have hy : y < c.n := wf x hx y (Or.inr (Or.inl hr))
        have hv : mOf c j .right x = .int (y : Int) := by show ov (c.right x) = _; rw [hr]; rfl
        refine call_m (vs := [.int (x : Int), .int (y : Int), .int 1]) (val_var rfl) R1.ob (sf_no A (by decide +kernel)) (vala_cons (val_var rfl) (vala_cons (by rw [← hv]; exact val_rd cl no R1 .right hx (val_var rfl) (val_var rfl)) (vala_cons val_c vala_nil))) ?_
        refine ⟨A, c, j, x, y, 1, rfl, R1, hx, hy, Or.inl rfl, fun j2 H2 R2 F2 => ?_⟩
        refine q_put (c' := { c with right := up c.right x none }) (j' := j2) cl no R2 .right hx rfl rfl ev_c (fun _ R => R.w_right x none) (fun H3 R3 F3 => ?_)
        refine call_m (val_var rfl) R3.ob (sf_no A (by decide +kernel)) (vala_cons (val_var rfl) vala_nil) ?_
        refine ⟨A, _, j2, x, rfl, R3, wf_right wf (fun y e => nomatch e), hx, fun j4 H4 R4 F4 => ?_⟩
        exact ⟨_, j4, rfl, R4, rfl, rfl, (((Fr.ex e1).trans F2).trans F3).trans F4⟩
    · rintro _ H1 ⟨c1, j1, rfl, R1, h1, h2, F1⟩
      obtain ⟨xs, hs1, hs2⟩ := R1.sts
      refine s_appNew hs1 (ev_fld (ev_var rfl) R1.ob cl T.nS_steps (sf_st A)) (eu_tup (ea_cons ev_c (ea_cons (ev_var rfl) ea_nil)) (by show 2 ≤ 100000; decide)) (by rw [hs2, h1]; exact Nat.lt_trans hst (by decide)) (fun p H2 e2 => ?_)
      refine k j1 _ ?_ ((F1.trans (Fr.ex e2)).trans (fr_st _))
      rw [h2]
      exact (R1.ex e2).step (e2 _ _ hs1)
def sp_Strands_take_in (K : PySem.W.Frag) : Sp := fun vs H Q _ => ∃ (A : SA) (c : C) (j : J) (u x : Nat), vs = [.ref A.p, .int (u : Int), .int (x : Int)] ∧ Arr (aS K) A c j H ∧ WF c ∧ u < c.n ∧ x < c.n ∧ c.steps < 16000000 ∧ ∀ j' H', Arr (aS K) A (takeIn c u x) j' H' → Fr A H H' → Q .non H'
-- 0 self, 1 u, 2 x
abbrev n_Strands_take_in : List Str := ["self", "u", "x"]
theorem sc_Strands_take_in : FnScope n_Strands_take_in ["self", "u", "x"] (defScope s_Strands_take_in) := ⟨rfl, rfl, rfl, by decide +kernel, rfl, by decide +kernel, by decide +kernel⟩
theorem ok_Strands_take_in (T : Txt w K mg) : Good P w K mg base 3 (He.ma K (aS K) "take_in") ["self", "u", "x"] (sp_Strands_take_in K) := by
  refine good_mk T.D_Strands_take_in sc_Strands_take_in (fun _ _ _ _ _ _ us hl => match us, hl with | [_, _, _], _ => rfl) (fun vs H Q E h => ?_) (fun cdv A0 outer s H vs Q E hr h => ?_)
  · obtain ⟨A, c, j, u, x, rfl, _⟩ := h
    rfl
  · obtain ⟨A, c, j, u, x, rfl, R, wf, hu, hx, hst, k⟩ := h
    refine ⟨_, (pss_cons (ps_expr (pe_m (pv 0) T.clS T.mS_hang (ok_Strands_hang T) (hr.mono (by decide)) (pa_cons (pv 1) (pa_cons (pv 2) (pa_cons (pe_un un_neg pe_int) pa_nil)))))
      (pss_cons (ps_asg (pv 2) (pg_sub (pe_fld (pv 0) rfl) (pv 1) set_list))
      (pss_cons (ps_expr (pe_m (pv 0) T.clS T.mS_gather (ok_Strands_gather T) (hr.mono (by decide)) (pa_cons (pv 1) pa_nil)))
      (pss_one (ps_expr (pe_bm PySem.F.plainAttrs_list PySem.F.slot_list_append PySem.F.type_list_append mt_append (pe_fld (pv 0) rfl) (pa_cons (pe_tup (pa_cons pe_str (pa_cons (pv 2) pa_nil))) pa_nil))))))), ?_⟩
    have cl := T.clS
    have no := noS T
    refine call_m (vs := [.int (u : Int), .int (x : Int), .int (-1)]) (val_var rfl) R.ob (sf_no A (by decide +kernel)) (vala_cons (val_var rfl) (vala_cons (val_var rfl) (vala_cons (fun Q q => ⟨_, rfl, q⟩) vala_nil))) ?_
    refine ⟨A, c, j, u, x, -1, rfl, R, hu, hx, Or.inr rfl, fun j1 H1 R1 F1 => ?_⟩
    refine q_put (c' := { c with right := up c.right u (some x) }) (j' := j1) cl no R1 .right hu rfl rfl (ev_var rfl) (fun _ R => R.w_right u (some x)) (fun H2 R2 F2 => ?_)
    refine call_m (val_var rfl) R2.ob (sf_no A (by decide +kernel)) (vala_cons (val_var rfl) vala_nil) ?_
    refine ⟨A, _, j1, u, rfl, R2, wf_right wf (fun y e => by cases e; exact hx), hu, fun j3 H3 R3 F3 => ?_⟩
    obtain ⟨xs, hs1, hs2⟩ := R3.sts
    refine s_appNew hs1 (ev_fld (ev_var rfl) R3.ob cl T.nS_steps (sf_st A)) (eu_tup (ea_cons ev_c (ea_cons (ev_var rfl) ea_nil)) (by show 2 ≤ 100000; decide)) (by rw [hs2]; exact Nat.lt_trans hst (by decide)) (fun p H4 e4 => ?_)
    refine k j3 _ ?_ ((((F1.trans F2).trans F3).trans (Fr.ex e4)).trans (fr_st _))
    exact (R3.ex e4).step (e4 _ _ hs1)
/-- a lift as a call, from the plain side -/
theorem call_lift {A : SA} {c c' : C} {j : J} {H : Hp} {x : Nat} {Q : VK} (R : Arr (aS K) A c j H) (h : Lifts c x c') (k : ∀ j' H', Arr (aS K) A c' j' H' → Fr A H H' → Q .non H') : sp_Strands_lift K [.ref A.p, .int (x : Int)] H Q E0 := by
  obtain ⟨ys, n, wf, hx, ch, hy, l⟩ := h
  exact ⟨A, c, j, x, ys, n, c', rfl, R, wf, hx, ch, hy, l, k⟩
def sp_Strands_lead (K : PySem.W.Frag) : Sp := fun vs H Q _ => ∃ (A : SA) (c c' : C) (j : J) (p last : Nat), vs = [.ref A.p, .int (p : Int)] ∧ Arr (aS K) A c j H ∧ Leads c p c' last ∧ ∀ j' H', Arr (aS K) A c' j' H' → Fr A H H' → Q (.int (last : Int)) H'
-- 0 self, 1 p, 2 last, 3 u
abbrev n_Strands_lead : List Str := ["self", "p", "last", "u"]
theorem sc_Strands_lead : FnScope n_Strands_lead ["self", "p"] (defScope s_Strands_lead) := ⟨rfl, rfl, rfl, by decide +kernel, rfl, by decide +kernel, by decide +kernel⟩
theorem ok_Strands_lead (T : Txt w K mg) : Good P w K mg base 5 (He.ma K (aS K) "lead") ["self", "p"] (sp_Strands_lead K) := by
  refine good_mk T.D_Strands_lead sc_Strands_lead (fun _ _ _ _ _ _ us hl => match us, hl with | [_, _], _ => rfl) (fun vs H Q E h => ?_) (fun cdv A0 outer s H vs Q E hr h => ?_)
  · obtain ⟨A, c, c', j, p, last, rfl, _⟩ := h
    rfl
  · obtain ⟨A, c, c', j, p, last, rfl, R, ⟨c1, c2, n, l1, hs1, lr, l2⟩, k⟩ := h
    refine ⟨_, (pss_cons (ps_expr (pe_m (pv 0) T.clS T.mS_lift (ok_Strands_lift T) (hr.mono (by decide)) (pa_cons (pv 1) pa_nil)))
      (pss_cons (ps_expr (pe_m (pv 0) T.clS T.mS_let_go (ok_Strands_let_go T) (hr.mono (by decide)) (pa_cons (pv 1) pa_nil)))
      (pss_cons (ps_set (i := 2) sc_Strands_lead.nd rfl (Or.inl rfl) (pv 1))
      (pss_cons (ps_while PassesOwn.never (pt_cmpR op_notN (pe_ix ix_list (pe_fld (pv 0) rfl) (pv 2) (fun _ _ => rfl)) pe_non (nomark _)) (pss_cons (ps_set (i := 3) sc_Strands_lead.nd rfl (Or.inl rfl) (pe_ix ix_list (pe_fld (pv 0) rfl) (pv 2) (fun _ _ => rfl)))
        (pss_cons (ps_expr (pe_m (pv 0) T.clS T.mS_lift (ok_Strands_lift T) (hr.mono (by decide)) (pa_cons (pv 3) pa_nil)))
        (pss_cons (ps_expr (pe_m (pv 0) T.clS T.mS_let_go (ok_Strands_let_go T) (hr.mono (by decide)) (pa_cons (pv 3) pa_nil)))
        (pss_cons (ps_expr (pe_m (pv 0) T.clS T.mS_take_in (ok_Strands_take_in T) (hr.mono (by decide)) (pa_cons (pv 3) (pa_cons (pv 2) pa_nil))))
        (pss_one (ps_set (i := 2) sc_Strands_lead.nd rfl (Or.inl rfl) (pv 3))))))))
      (pss_cons (ps_expr (pe_m (pv 0) T.clS T.mS_lift (ok_Strands_lift T) (hr.mono (by decide)) (pa_cons (pv 1) pa_nil)))
      (pss_one (ps_ret (pv 2)))))))), ?_⟩
    have cl := T.clS
    have no := noS T
    obtain ⟨wf1, n1, hp⟩ := l1.keeps
    refine call_m (val_var rfl) R.ob (sf_no A (by decide +kernel)) (vala_cons (val_var rfl) vala_nil) ?_
    refine call_lift R l1 fun j1 H1 R1 F1 => ?_
    refine call_m (val_var rfl) R1.ob (sf_no A (by decide +kernel)) (vala_cons (val_var rfl) vala_nil) ?_
    refine ⟨A, c1, j1, p, rfl, R1, wf1, by rw [n1]; exact hp, by omega, fun j2 H2 R2 F2 => ?_⟩
    refine q_asg (ev_var rfl) (fun H3 e3 => ?_)
    refine q_while (fun m σ H' => ∃ (ci : C) (ji : J) (li : Nat) (v3 : Option V), σ = [some (.ref A.p), some (.int (p : Int)), some (.int (li : Int)), v3] ∧ Arr (aS K) A ci ji H' ∧ WF ci ∧ li < ci.n ∧ LeadR m li ci last c2 ∧ Fr A H H') n
      ⟨_, j2, p, _, rfl, R2.ex e3, wf_letGo wf1, by rw [letGo_n, n1]; exact hp, lr, (F1.trans F2).trans (Fr.ex e3)⟩ ?_
    rintro m _ H4 ⟨ci, ji, li, v3, rfl, R4, wf4, hli, lr4, F4⟩
    refine ⟨!(ci.above li).isNone, ?_, fun hb H5 e5 => ?_, fun hb H5 e5 => ?_⟩
    · refine et_is (et_test (ev_op (ev_rd cl no R4 .above hli (ev_var rfl) (ev_var rfl)) ev_c (z := .bl (!decide (mOf ci ji .above li = .non))) (rv_val fun H1 _ Q q => ⟨rfl, q⟩))) ?_
      rw [show decide (mOf ci ji .above li = V.non) = (ci.above li).isNone from ov_non]
    · cases lr4 with
      | done h => rw [h] at hb; cases hb
      | @step _ cb _ _ u _ k' ha hl hst lr5 =>
        have R5 := R4.ex e5
        have hu : u < ci.n := wf4 li hli u (Or.inr (Or.inr ha))
        refine ⟨fun σ H' => ∃ m', m' < k' + 1 ∧ (∃ (ci : C) (ji : J) (li : Nat) (v3 : Option V), σ = [some (.ref A.p), some (.int (p : Int)), some (.int (li : Int)), v3] ∧ Arr (aS K) A ci ji H' ∧ WF ci ∧ li < ci.n ∧ LeadR m' li ci last c2 ∧ Fr A H H'), fun _ _ h => h, ?_⟩
        refine q_asg (ev_rdv cl no R5 .above hli (ev_var rfl) (ev_var rfl) (by show ov (ci.above li) = .int (u : Int); rw [ha]; rfl)) (fun H6 e6 => ?_)
        have R6 := R5.ex e6
        obtain ⟨wfb, nb, _⟩ := hl.keeps
        refine call_m (val_var rfl) R6.ob (sf_no A (by decide +kernel)) (vala_cons (val_var rfl) vala_nil) ?_
        refine call_lift R6 hl fun j7 H7 R7 F7 => ?_
        refine call_m (val_var rfl) R7.ob (sf_no A (by decide +kernel)) (vala_cons (val_var rfl) vala_nil) ?_
        refine ⟨A, cb, j7, u, rfl, R7, wfb, by rw [nb]; exact hu, by omega, fun j8 H8 R8 F8 => ?_⟩
        refine call_m (val_var rfl) R8.ob (sf_no A (by decide +kernel)) (vala_cons (val_var rfl) (vala_cons (val_var rfl) vala_nil)) ?_
        refine ⟨A, _, j8, u, li, rfl, R8, wf_letGo wfb, by rw [letGo_n, nb]; exact hu, by rw [letGo_n, nb]; exact hli, by rw [letGo_steps]; omega, fun j9 H9 R9 F9 => ?_⟩
        refine s_asg (ev_var rfl) (fun H10 e10 => ?_)
        exact ⟨k', Nat.lt_succ_self _, _, j9, u, _, rfl, R9.ex e10, wf_takeIn (wf_letGo wfb) (by rw [letGo_n, nb]; exact hli), by show u < (letGo cb u).n; rw [letGo_n, nb]; exact hu, lr5, (((((F4.trans (Fr.ex e5)).trans (Fr.ex e6)).trans F7).trans F8).trans F9).trans (Fr.ex e10)⟩
    · cases lr4 with
      | step h => rw [h] at hb; cases hb
      | done h =>
        have R5 := R4.ex e5
        refine call_m (val_var rfl) R5.ob (sf_no A (by decide +kernel)) (vala_cons (val_var rfl) vala_nil) ?_
        refine call_lift R5 l2 fun j6 H6 R6 F6 => ?_
        exact s_ret (ev_var rfl) fun H7 e7 => k j6 H7 (R6.ex e7) (((F4.trans (Fr.ex e5)).trans F6).trans (Fr.ex e7))
end
end K73
end
section
set_option maxHeartbeats 4000000
namespace K73
open PySem PySem.Spec PyProof.Rows L2 Evl
/-! ### kind_bit, put_point -/
/-- arguments that are new tuples, each told by a word that stands -/
def EvAQ (t : TA) (σ : L2.St) (H : Hp) (Ps : List (List V → Hp → Prop)) : Prop := ∀ H1, Same H H1 → ∀ Q : List V → Hp → Prop,
  (∀ (as : List Addr) H2, Same H1 H2 → as.length = Ps.length → (∀ (i : Nat) a P, as[i]? = some a → Ps[i]? = some P → ∃ items, H2 a = some (.tup items) ∧ P items H2) → Q (as.map V.ref) H2) → t σ H1 Q
/-- one such -/
def EvQ (te : TE) (σ : L2.St) (H : Hp) (P : List V → Hp → Prop) : Prop := ∀ H1, Same H H1 → ∀ Q : VK, (∀ a H2 items, Same H1 H2 → H2 a = some (.tup items) → P items H2 → Q (.ref a) H2) → te σ H1 Q
section
variable {σ : L2.St} {H : Hp} {ta tb te : TE} {tr : TA} {v x y : V}
theorem eaq_nil : EvAQ tNil σ H [] := fun H1 _ Q q => q [] H1 (Same.refl _) rfl (fun i a P h => by simp at h)
theorem eaq_cons {P : List V → Hp → Prop} {Ps : List (List V → Hp → Prop)} (h : EvQ te σ H P) (hP : ∀ H H' items, Same H H' → P items H → P items H') (hr : EvAQ tr σ H Ps) : EvAQ (tCons te tr) σ H (P :: Ps) := fun H1 e Q q =>
  h H1 e _ fun a H2 items e2 ha hp => hr H2 (Same.trans e e2) _ fun as H3 e3 hl hs => by
    refine q (a :: as) H3 (Same.trans e2 e3) (by simp [hl]) fun i b P' hb hP' => ?_
    cases i with
    | zero =>
      simp at hb hP'
      subst hb hP'
      exact ⟨items, e3 _ _ ha, hP _ _ _ e3 hp⟩
    | succ i => exact hs i b P' (by simpa using hb) (by simpa using hP')
theorem eq_pair (h1 : Ev ta σ H x) (h2 : Ev tb σ H y) : EvQ (tTup (tCons ta (tCons tb tNil))) σ H (fun items _ => items = [x, y]) := fun H1 e Q q =>
  eu_tup (ea_cons h1 (ea_cons h2 ea_nil)) (by show 2 ≤ 100000; decide) H1 e _ fun p H2 _ e2 h => q p H2 _ e2 h rfl
theorem eq_pair2 {t1 t2 : TE} {z1 z2 : V} (h1 : Ev ta σ H x) (h2 : Ev t1 σ H z1) (h3 : Ev t2 σ H z2) : EvQ (tTup (tCons ta (tCons (tTup (tCons t1 (tCons t2 tNil))) tNil))) σ H (fun items H' => ∃ t, items = [x, .ref t] ∧ H' t = some (.tup [z1, z2])) := fun H1 e Q q =>
  h1 H1 e _ fun H2 e2 => eu_tup (ea_cons h2 (ea_cons h3 ea_nil)) (by show 2 ≤ 100000; decide) H2 (Ex.trans e e2) _ fun p H3 _ e3 h => by
    refine ⟨by show 2 ≤ sizeLine; decide, fun r hr => ?_⟩
    exact q r _ _ (Same.trans (Ex.trans e2 e3) (same_new hr)) upd_same ⟨p, rfl, same_new hr _ _ h⟩
end
theorem q_forTup {K : PySem.W.Frag} {g : TG} {tb tz : TS} {D : Ends} {t : TA} {σ : L2.St} {H : Hp} {Ps : List (List V → Hp → Prop)} (h : EvAQ t σ H Ps) (hz : Ps.length ≤ 1000)
    (k : ∀ (as : List Addr) H2, Same H H2 → as.length = Ps.length → (∀ (i : Nat) a P, as[i]? = some a → Ps[i]? = some P → ∃ items, H2 a = some (.tup items) ∧ P items H2) → ∀ p, H2 p = none →
      tFor (fun σ H R => R (Itt K p) H) g tb { D with nx := tz D } σ (upd H2 p (.tup (as.map V.ref)))) : tSeq (tFor (iTup K (tTup t)) g tb) tz D σ H :=
  h H (Same.refl _) _ fun as H2 e2 hl hs => ⟨by rw [List.length_map, hl]; exact Nat.le_trans hz (by decide), fun p hp => ⟨p, rfl, ⟨_, SqT.of upd_same⟩, k as H2 e2 hl hs p hp⟩⟩
def upF (vals : Fd → V) (f : Fd) (v : V) : Fd → V := fun g => if g = f then v else vals g
theorem upF_same {vals : Fd → V} {f : Fd} {v : V} : upF vals f v f = v := if_pos rfl
theorem upF_ne {vals : Fd → V} {f g : Fd} {v : V} (h : g ≠ f) : upF vals f v g = vals g := if_neg h
def putPoint (c : C) (z : Int) : C where
  n := c.n + 1
  left := up c.left c.n none
  right := up c.right c.n none
  above := up c.above c.n none
  flip := up c.flip c.n false
  worth := up c.worth c.n z
  most := up c.most c.n z
  many := up c.many c.n 1
  steps := c.steps
def ordL : List Fd := [.left, .right, .above, .flipped, .later, .worth, .bits, .many, .total, .most, .allBits, .hung, .allMany, .allTotal]
def pos : Fd → Nat
  | .left => 0 | .right => 1 | .above => 2 | .flipped => 3 | .later => 4 | .worth => 5 | .bits => 6 | .many => 7 | .total => 8 | .most => 9 | .allBits => 10 | .hung => 11 | .allMany => 12 | .allTotal => 13
theorem ord_pos (f : Fd) : ordL[pos f]? = some f := by cases f <;> rfl
theorem pos_ord {i : Nat} {f : Fd} (h : ordL[i]? = some f) : pos f = i := by
  have hi : i < 14 := (List.getElem?_eq_some_iff.mp h).1
  match i, h, hi with
  | 0, h, _ | 1, h, _ | 2, h, _ | 3, h, _ | 4, h, _ | 5, h, _ | 6, h, _ | 7, h, _ | 8, h, _ | 9, h, _ | 10, h, _ | 11, h, _ | 12, h, _ | 13, h, _ => cases h; rfl
def nv (z b : Int) : Fd → V
  | .left => .non | .right => .non | .above => .non | .flipped => .bl false | .later => .int 0 | .worth => .int z | .bits => .int b | .many => .int 1 | .total => .int z | .most => .int z
  | .allBits => .int b | .hung => .non | .allMany => .int 1 | .allTotal => .int z
def NV (z b : Int) (f : Fd) (v : V) (H : Hp) : Prop := (f = .hung ∧ ∃ t, v = .ref t ∧ H t = some (.tup [.int 0, .int 0])) ∨ (f ≠ .hung ∧ v = nv z b f)
theorem NV.fr {A : SA} {z b : Int} {f : Fd} {v : V} {H H' : Hp} (h : NV z b f v H) (hm : ∀ t o, H t = some o → (∃ xs, o = .tup xs) → H' t = some o) : NV z b f v H' := by
  rcases h with ⟨e, t, e2, h⟩ | h
  · exact Or.inl ⟨e, t, e2, hm _ _ h ⟨_, rfl⟩⟩
  · exact Or.inr h
section
variable {P : Program} {w : World} {K : PySem.W.Frag} {mg : Str → Option Value} {base : Heap}
def sp_kind_bit (K : PySem.W.Frag) : Sp := fun vs H Q _ => ∃ z : Str, vs = [.str z] ∧ (z = "a" ∨ z = "b") ∧ ∀ i, Q (.int i) H
abbrev n_kind_bit : List Str := ["kind"]
theorem sc_kind_bit : FnScope n_kind_bit ["kind"] (defScope s_kind_bit) := ⟨rfl, rfl, rfl, by decide +kernel, rfl, by decide +kernel, by decide +kernel⟩
theorem ok_kind_bit (T : Txt w K mg) : Good P w K mg base 1 (He.ga K "kind_bit") ["kind"] (sp_kind_bit K) := by
  refine good_mk T.D_kind_bit sc_kind_bit (fun _ _ _ _ _ _ us hl => match us, hl with | [_], _ => rfl) (fun vs H Q E h => ?_) (fun cdv A0 outer s H vs Q E hr h => ?_)
  · obtain ⟨z, rfl, _⟩ := h
    rfl
  · obtain ⟨z, rfl, hz, k⟩ := h
    obtain ⟨t, ht⟩ := T.k_KINDS_strands
    refine ⟨_, (pss_one (ps_ret (pe_op op_shl pe_int (pe_bm PySem.F.plainAttrs_str PySem.F.slot_str_index PySem.F.type_str_index mt_sindex (pe_glob (v := .str "abcdefgh") rfl ht ⟨_, rfl⟩) (pa_cons (pv 0) pa_nil))))), ?_⟩
    refine ⟨rfl, _, rfl, ?_⟩
    rcases hz with e | e
    · subst e
      exact ⟨"abcdefgh", "a", 0, [], rfl, rfl, by decide +kernel, _, _, rfl, rfl, ⟨by decide, by decide, by decide⟩, k _⟩
    · subst e
      exact ⟨"abcdefgh", "b", 1, [], rfl, rfl, by decide +kernel, _, _, rfl, rfl, ⟨by decide, by decide, by decide⟩, k _⟩
def sp_Strands_put_point (K : PySem.W.Frag) : Sp := fun vs H Q _ => ∃ (A : SA) (c : C) (j : J) (z : Int) (kd : Str), vs = [.ref A.p, .int z, .str kd] ∧ Arr (aS K) A c j H ∧ c.n < 1000 ∧ (kd = "a" ∨ kd = "b") ∧ ∀ j' H', Arr (aS K) A (putPoint c z) j' H' → Fr A H H' → Q (.int (c.n : Int)) H'
-- 0 self, 1 worth, 2 kind, 3 bit, 4 row, 5 thing
abbrev n_Strands_put_point : List Str := ["self", "worth", "kind", "bit", "row", "thing"]
theorem sc_Strands_put_point : FnScope n_Strands_put_point ["self", "worth", "kind"] (defScope s_Strands_put_point) := ⟨rfl, rfl, rfl, by decide +kernel, rfl, by decide +kernel, by decide +kernel⟩
theorem ok_Strands_put_point (T : Txt w K mg) : Good P w K mg base 2 (He.ma K (aS K) "put_point") ["self", "worth", "kind"] (sp_Strands_put_point K) := by
  refine good_mk T.D_Strands_put_point sc_Strands_put_point (fun _ _ _ _ _ _ us hl => match us, hl with | [_, _, _], _ => rfl) (fun vs H Q E h => ?_) (fun cdv A0 outer s H vs Q E hr h => ?_)
  · obtain ⟨A, c, j, z, kd, rfl, _⟩ := h
    rfl
  · obtain ⟨A, c, j, z, kd, rfl, R, hn, hk, k⟩ := h
    refine ⟨_, (pss_cons (ps_set (i := 3) sc_Strands_put_point.nd rfl (Or.inl rfl) (pe_f (ok_kind_bit T) (hr.mono (by decide)) T.g_kind_bit (pa_cons (pv 2) pa_nil)))
      (pss_cons (ps_for PassesOwn.never rfl (pi_tup (pe_tup (pa_cons (pe_tup (pa_cons (pe_fld (pv 0) rfl) (pa_cons pe_non pa_nil))) (pa_cons (pe_tup (pa_cons (pe_fld (pv 0) rfl) (pa_cons pe_non pa_nil))) (pa_cons (pe_tup (pa_cons (pe_fld (pv 0) rfl) (pa_cons pe_non pa_nil))) (pa_cons (pe_tup (pa_cons (pe_fld (pv 0) rfl) (pa_cons pe_bl pa_nil))) (pa_cons (pe_tup (pa_cons (pe_fld (pv 0) rfl) (pa_cons pe_int pa_nil))) (pa_cons (pe_tup (pa_cons (pe_fld (pv 0) rfl) (pa_cons (pv 1) pa_nil))) (pa_cons (pe_tup (pa_cons (pe_fld (pv 0) rfl) (pa_cons (pv 3) pa_nil))) (pa_cons (pe_tup (pa_cons (pe_fld (pv 0) rfl) (pa_cons pe_int pa_nil))) (pa_cons (pe_tup (pa_cons (pe_fld (pv 0) rfl) (pa_cons (pv 1) pa_nil))) (pa_cons (pe_tup (pa_cons (pe_fld (pv 0) rfl) (pa_cons (pv 1) pa_nil))) (pa_cons (pe_tup (pa_cons (pe_fld (pv 0) rfl) (pa_cons (pv 3) pa_nil))) (pa_cons (pe_tup (pa_cons (pe_fld (pv 0) rfl) (pa_cons (pe_tup (pa_cons pe_int (pa_cons pe_int pa_nil))) pa_nil))) (pa_cons (pe_tup (pa_cons (pe_fld (pv 0) rfl) (pa_cons pe_int pa_nil))) (pa_cons (pe_tup (pa_cons (pe_fld (pv 0) rfl) (pa_cons (pv 1) pa_nil))) pa_nil)))))))))))))))) (pg_tup rfl (pgs_cons (pg_name (i := 4) sc_Strands_put_point.nd rfl (Or.inl rfl)) (pgs_cons (pg_name (i := 5) sc_Strands_put_point.nd rfl (Or.inl rfl)) pgs_nil))) (pss_one (ps_expr (pe_bm PySem.F.plainAttrs_list PySem.F.slot_list_append PySem.F.type_list_append mt_append (pv 4) (pa_cons (pv 5) pa_nil)))))
      (pss_one (ps_ret (pe_op op_sub (pe_callB call_len_seq (by rfl) T.z_len PySem.boot_len (pa_cons (pe_fld (pv 0) rfl) pa_nil)) pe_int))))), ?_⟩
    have cl := T.clS
    have no := noS T
    refine call_f (vala_cons (val_var rfl) vala_nil) ⟨kd, rfl, hk, fun b => ?_⟩
    have fld : ∀ (f : Fd), Ev (tFld K (tVar 0) (fname f)) [some (.ref A.p), some (.int z), some (.str kd), some (.int b), none, none] H (.ref (A.l f)) := fun f => ev_fld (ev_var rfl) R.ob cl (no f) (sf_at A f)
    have pr : ∀ (f : Fd) {te : TE}, f ≠ .hung → Ev te [some (.ref A.p), some (.int z), some (.str kd), some (.int b), none, none] H (nv z b f) → EvQ (tTup (tCons (tFld K (tVar 0) (fname f)) (tCons te tNil))) [some (.ref A.p), some (.int z), some (.str kd), some (.int b), none, none] H (fun items H' => ∃ v, items = [.ref (A.l f), v] ∧ NV z b f v H') :=
      fun f te hf he H1 e Q q => eq_pair (fld f) he H1 e Q fun a H2 items e2 ha hi => q a H2 items e2 ha ⟨_, hi, Or.inr ⟨hf, rfl⟩⟩
    have stb : ∀ (f : Fd) (H H' : Hp) (items : List V), Same H H' → (∃ v, items = [.ref (A.l f), v] ∧ NV z b f v H) → (∃ v, items = [.ref (A.l f), v] ∧ NV z b f v H') := fun f H H' items e ⟨v, h1, h2⟩ => ⟨v, h1, h2.fr (A := A) fun t o h _ => e t o h⟩
    have ph : EvQ (tTup (tCons (tFld K (tVar 0) (fname .hung)) (tCons (tTup (tCons (tC (.int 0)) (tCons (tC (.int 0)) tNil))) tNil))) [some (.ref A.p), some (.int z), some (.str kd), some (.int b), none, none] H (fun items H' => ∃ v, items = [.ref (A.l .hung), v] ∧ NV z b .hung v H') :=
      fun H1 e Q q => eq_pair2 (fld .hung) ev_c ev_c H1 e Q fun a H2 items e2 ha ⟨t, hi, ht⟩ => q a H2 items e2 ha ⟨_, hi, Or.inl ⟨rfl, t, rfl, ht⟩⟩
    refine q_forTup (eaq_cons (pr .left (by decide) ev_c) (stb _) (eaq_cons (pr .right (by decide) ev_c) (stb _) (eaq_cons (pr .above (by decide) ev_c) (stb _) (eaq_cons (pr .flipped (by decide) ev_c) (stb _) (eaq_cons (pr .later (by decide) ev_c) (stb _)
      (eaq_cons (pr .worth (by decide) (ev_var rfl)) (stb _) (eaq_cons (pr .bits (by decide) (ev_var rfl)) (stb _) (eaq_cons (pr .many (by decide) ev_c) (stb _) (eaq_cons (pr .total (by decide) (ev_var rfl)) (stb _) (eaq_cons (pr .most (by decide) (ev_var rfl)) (stb _)
      (eaq_cons (pr .allBits (by decide) (ev_var rfl)) (stb _) (eaq_cons ph (stb _) (eaq_cons (pr .allMany (by decide) ev_c) (stb _) (eaq_cons (pr .allTotal (by decide) (ev_var rfl)) (stb _) eaq_nil)))))))))))))) (by show 14 ≤ 1000; decide) (fun as H2 e2 hl hs p hp => ?_)
    have R2 := R.ex e2
    have R3 := R2.ex (same_new (o := .tup (as.map V.ref)) hp)
    generalize hH3 : upd H2 p (.tup (as.map V.ref)) = H3 at R3 ⊢
    have e3 : Same H2 H3 := by rw [← hH3]; exact same_new hp
    have hp3 : H3 p = some (.tup (as.map V.ref)) := by rw [← hH3]; exact upd_same
    have hs' : ∀ (i : Nat) (a : Addr) (f : Fd), as[i]? = some a → ordL[i]? = some f → ∃ v, H3 a = some (.tup [.ref (A.l f), v]) ∧ NV z b f v H3 := by
      intro i a f h1 h2
      obtain ⟨items, g1, v, g2, g3⟩ := hs i a (fun items H' => ∃ v, items = [.ref (A.l f), v] ∧ NV z b f v H') h1 (by
        have e : (ordL.map fun f => fun (items : List V) (H' : Hp) => ∃ v, items = [.ref (A.l f), v] ∧ NV z b f v H')[i]? = some (fun items H' => ∃ v, items = [.ref (A.l f), v] ∧ NV z b f v H') := by
          rw [List.getElem?_map, h2]; rfl
        exact e)
      subst g2
      exact ⟨v, e3 _ _ g1, g3.fr (A := A) fun t o h _ => e3 t o h⟩
    obtain ⟨sx, hst1, hst2⟩ := R3.sts
    have tupK : ∀ {H' : Hp}, Fr A H3 H' → ∀ t o, H3 t = some o → (∃ xs, o = HO.tup xs) → H' t = some o := fun F t o h ⟨xs, e⟩ => F t o h (mut_ne R3 h (by intro ys q; rw [e] at q; cases q))
    refine for_tup (K := K) (a := p) (xs := as.map V.ref) (fun i σ' H' => ∃ (v4 v5 : Option V) (vals : Fd → V), σ' = [some (.ref A.p), some (.int z), some (.str kd), some (.int b), v4, v5] ∧
        (∀ f, pos f < i → NV z b f (vals f) H' ∧ H' (A.l f) = some (.lst ((List.range c.n).map (mOf c j f) ++ [vals f]))) ∧ (∀ f, i ≤ pos f → H' (A.l f) = some (.lst ((List.range c.n).map (mOf c j f)))) ∧ H' A.st = some (.lst sx) ∧ Fr A H3 H')
      ⟨_, _, fun _ => .non, rfl, fun f h => by omega, fun f _ => R3.ls f, hst1, Fr.refl _ _⟩ (fun i σ' H' _ ⟨_, _, _, _, _, _, _, F⟩ => SqT.of (tupK F p _ hp3 ⟨_, rfl⟩)) ?_ ?_
    · rintro i x σ' H' hi ⟨v4, v5, vals, rfl, g1, g2, g3, F⟩
      rw [List.getElem?_map] at hi
      cases ha : as[i]? with
      | none => rw [ha] at hi; cases hi
      | some a =>
        rw [ha] at hi
        cases hi
        have hi14 : i < ordL.length := by
          have := (List.getElem?_eq_some_iff.mp ha).1
          rw [hl] at this
          exact this
        obtain ⟨f, hf⟩ : ∃ f, ordL[i]? = some f := ⟨_, List.getElem?_eq_getElem hi14⟩
        have pf := pos_ord hf
        obtain ⟨v, h1, h2⟩ := hs' i a f ha hf
        refine ⟨a, _, rfl, SqT.of (tupK F a _ h1 ⟨_, rfl⟩), rfl, _, _, rfl, _, _, rfl, rfl, ?_⟩
        refine s_app (g2 f (by omega)) (ev_var rfl) (ev_var rfl) (by simp; omega) (fun H4 e4 => ?_)
        have hL : H4 (A.l f) = some (.lst ((List.range c.n).map (mOf c j f))) := e4 _ _ (g2 f (by omega))
        have tupK4 : ∀ t o, H' t = some o → (∃ xs, o = HO.tup xs) → upd H4 (A.l f) (.lst ((List.range c.n).map (mOf c j f) ++ [v])) t = some o := fun t o h ⟨xs, e⟩ => by
          rw [upd_ne (ne_of (e4 _ _ h) hL (by rw [e]; intro q; cases q))]
          exact e4 _ _ h
        refine ⟨_, _, upF vals f v, rfl, fun g hg => ?_, fun g hg => ?_, by rw [upd_ne (fun q => R.nst f q.symm)]; exact e4 _ _ g3, ?_⟩
        · by_cases e : g = f
          · subst e
            rw [upF_same]
            exact ⟨(h2.fr (A := A) (tupK F)).fr (A := A) tupK4, upd_same⟩
          · rw [upF_ne e]
            have hg' : pos g < i := by
              have : pos g ≠ i := fun q => e (by
                have q1 := ord_pos g
                rw [q, hf] at q1
                exact (Option.some.inj q1).symm)
              omega
            obtain ⟨q1, q2⟩ := g1 g hg'
            exact ⟨q1.fr (A := A) tupK4, by rw [upd_ne (fun q => e (R.inj _ _ q))]; exact e4 _ _ q2⟩
        · have e : g ≠ f := fun q => by rw [q] at hg; omega
          rw [upd_ne (fun q => e (R.inj _ _ q))]
          exact e4 _ _ (g2 g (by omega))
        · exact (F.trans (Fr.ex e4)).trans (fr_put f _)
    · rintro σ' H' ⟨v4, v5, vals, rfl, g1, g2, g3, F⟩
      have hl14 : (as.map V.ref).length = 14 := by rw [List.length_map, hl]; rfl
      rw [hl14] at g1
      have all : ∀ f, NV z b f (vals f) H' ∧ H' (A.l f) = some (.lst ((List.range c.n).map (mOf c j f) ++ [vals f])) := fun f => g1 f (by cases f <;> decide)
      obtain ⟨t, ht1, ht2⟩ : ∃ t, vals .hung = .ref t ∧ H' t = some (.tup [.int 0, .int 0]) := by
        rcases (all .hung).1 with ⟨_, t, q1, q2⟩ | ⟨q, _⟩
        · exact ⟨t, q1, q2⟩
        · exact absurd rfl q
      have oth : ∀ f, f ≠ .hung → vals f = nv z b f := fun f hf => by
        rcases (all f).1 with ⟨q, _⟩ | ⟨_, q⟩
        · exact absurd q hf
        · exact q
      let j' : J := ⟨up j.bits c.n b, up j.total c.n z, up j.allBits c.n b, up j.hung c.n t, up j.allMany c.n 1, up j.allTotal c.n z⟩
      have hm : ∀ f, (List.range c.n).map (mOf c j f) ++ [vals f] = (List.range (c.n + 1)).map (mOf (putPoint c z) j' f) := by
        intro f
        rw [List.range_succ, List.map_append]
        congr 1
        · apply List.map_congr_left
          intro y hy
          have hy := List.mem_range.mp hy
          have ne : y ≠ c.n := by omega
          cases f <;> simp [mOf, putPoint, j', up, ne]
        · by_cases hf : f = .hung
          · subst hf
            rw [ht1]
            simp [mOf, j', up]
          · rw [oth f hf]
            cases f <;> simp [mOf, putPoint, j', up, nv, ov] <;> exact hf rfl
      have R' : Arr (aS K) A (putPoint c z) j' H' := by
        refine ⟨F _ _ R3.ob (mut_ne R3 R3.ob (by intro xs q; cases q)), fun f => by rw [(all f).2, hm f]; rfl, ?_, R.inj, R.nst, fun y hy => ?_⟩
        · exact ⟨sx, g3, hst2⟩
        · by_cases e : y = c.n
          · subst e
            exact ⟨0, 0, by show H' (up j.hung c.n t c.n) = _; rw [up_same]; exact ht2⟩
          · have hy : y < c.n + 1 := hy
            obtain ⟨a', b', q⟩ := R3.hung y (by omega)
            exact ⟨a', b', by show H' (up j.hung c.n t y) = _; rw [up_ne e]; exact tupK F _ _ q ⟨_, rfl⟩⟩
      refine s_ret (ev_op (ev_len (ev_fld (ev_var rfl) R'.ob cl (no .left) (sf_at A .left)) (sq_of (R'.ls .left))) ev_c rv_I0) (fun H4 e4 => ?_)
      have e5 : ((((List.range (putPoint c z).n).map (mOf (putPoint c z) j' .left)).length : Nat) : Int) - 1 = (c.n : Int) := by
        rw [List.length_map, List.length_range]
        show ((c.n + 1 : Nat) : Int) - 1 = _
        omega
      rw [e5]
      exact k j' H4 (R'.ex e4) ((((Fr.ex e2).trans (Fr.ex e3)).trans F).trans (Fr.ex e4))
end
end K73
end
section
set_option maxHeartbeats 4000000
namespace K73
open PySem PySem.Spec PyProof.Rows L2 Evl
/-! ### Strands.__init__ -/
def c0 : C := ⟨0, fun _ => none, fun _ => none, fun _ => none, fun _ => false, fun _ => 0, fun _ => 0, fun _ => 0, 0⟩
def j0 : J := ⟨fun _ => 0, fun _ => 0, fun _ => 0, fun _ => 0, fun _ => 0, fun _ => 0⟩
/-- the object at p gets its lists, one by one -/
structure Making (S : Addr) (H0 : Hp) (p dx : Addr) (ls : List Addr) (fs : List (Str × V)) (H : Hp) : Prop where
  ob : H p = some (.ins S dx fs)
  nd : ls.Nodup
  new : ∀ a ∈ ls, H0 a = none ∧ a ≠ p ∧ H a = some (.lst [])
  kp : ∀ b o, H0 b = some o → b ≠ p → H b = some o
theorem making_step {S : Addr} {K : PySem.W.Frag} {H0 H : Hp} {p dx : Addr} {ls : List Addr} {fs : List (Str × V)} {f : Str} {σ : L2.St} {D : Ends} (M : Making S H0 p dx ls fs H) (h0 : σ[0]? = some (some (.ref p))) (cl : Cls K S) (no : NoAttr K S f) (hl : fs.length < 1000)
    (hp : ∃ o, H0 p = some o) (k : ∀ l H', Making S H0 p dx (ls ++ [l]) (putF f (.ref l) fs) H' → D.nx σ H') : sFld K (tVar 0) (tLst tNil) f D σ H := by
  refine ⟨Nat.zero_le _, fun l hl' => ?_⟩
  have npl : p ≠ l := ne_of_none M.ob hl'
  refine ⟨_, h0, p, S, dx, fs, rfl, by rw [upd_ne npl]; exact M.ob, cl, no, hl, k l _ ⟨upd_same, ?_, ?_, ?_⟩⟩
  · refine List.nodup_append.mpr ⟨M.nd, by simp, fun a ha b hb e => ?_⟩
    have hb := List.mem_singleton.mp hb
    subst hb
    subst e
    rw [(M.new a ha).2.2] at hl'
    cases hl'
  · intro a ha
    rcases List.mem_append.mp ha with ha | ha
    · obtain ⟨g1, g2, g3⟩ := M.new a ha
      exact ⟨g1, g2, by rw [upd_ne g2, upd_ne (ne_of_none g3 hl')]; exact g3⟩
    · have ha := List.mem_singleton.mp ha
      subst ha
      refine ⟨?_, npl.symm, by rw [upd_ne npl.symm, upd_same]⟩
      cases q : H0 a with
      | none => rfl
      | some o =>
        rw [M.kp a o q npl.symm] at hl'
        cases hl'
  · intro b o hb hn
    rw [upd_ne hn, upd_ne (ne_of_none (M.kp b o hb hn) hl')]
    exact M.kp b o hb hn
theorem making_seq {S : Addr} {K : PySem.W.Frag} {H0 H : Hp} {p dx : Addr} {ls : List Addr} {fs : List (Str × V)} {f : Str} {σ : L2.St} {D : Ends} {tz : TS} (M : Making S H0 p dx ls fs H) (h0 : σ[0]? = some (some (.ref p))) (cl : Cls K S) (no : NoAttr K S f) (hl : fs.length < 1000)
    (hp : ∃ o, H0 p = some o) (k : ∀ l H', Making S H0 p dx (ls ++ [l]) (putF f (.ref l) fs) H' → tz D σ H') : tSeq (sFld K (tVar 0) (tLst tNil) f) tz D σ H :=
  making_step (D := { D with nx := tz D }) M h0 cl no hl hp k
theorem nodup_getD {ls : List Addr} (h : ls.Nodup) {i j : Nat} (hi : i < ls.length) (hj : j < ls.length) (e : ls.getD i 0 = ls.getD j 0) : i = j := by
  have h1 : ls[i]? = some (ls.getD i 0) := by rw [List.getD_eq_getElem?_getD, List.getElem?_eq_getElem hi]; rfl
  have h2 : ls[j]? = some (ls.getD i 0) := by rw [e, List.getD_eq_getElem?_getD, List.getElem?_eq_getElem hj]; rfl
  exact nd_ix h h1 h2
def mkA (p dx : Addr) (ls : List Addr) : SA := ⟨p, dx, fun f => ls.getD (pos f) 0, ls.getD 14 0⟩
theorem pos_lt (f : Fd) : pos f < 14 := by cases f <;> decide
theorem pos_inj {f g : Fd} (h : pos f = pos g) : f = g := by
  have q := ord_pos f
  rw [h, ord_pos g] at q
  exact (Option.some.inj q).symm
theorem making_done {S : Addr} {H0 H : Hp} {p dx : Addr} {ls : List Addr} (hl : ls.length = 15) (M : Making S H0 p dx ls (sf (mkA p dx ls)) H) : Arr S (mkA p dx ls) c0 j0 H where
  ob := M.ob
  ls f := by
    have hi : pos f < ls.length := by have := pos_lt f; omega
    have e : ls.getD (pos f) 0 = ls[pos f] := by rw [List.getD_eq_getElem?_getD, List.getElem?_eq_getElem hi]; rfl
    show H (ls.getD (pos f) 0) = _
    rw [e]
    exact (M.new _ (List.getElem_mem hi)).2.2
  sts := by
    have e : ls.getD 14 0 = ls[14] := by rw [List.getD_eq_getElem?_getD, List.getElem?_eq_getElem (by omega)]; rfl
    refine ⟨[], ?_, rfl⟩
    show H (ls.getD 14 0) = _
    rw [e]
    exact (M.new _ (List.getElem_mem _)).2.2
  inj f g e := pos_inj (nodup_getD M.nd (by have := pos_lt f; omega) (by have := pos_lt g; omega) e)
  nst f e := by
    have h := pos_lt f
    have q := nodup_getD M.nd (i := pos f) (j := 14) (by omega) (by omega) e
    omega
  hung x hx := absurd hx (Nat.not_lt_zero _)
section
variable {P : Program} {w : World} {K : PySem.W.Frag} {mg : Str → Option Value} {base : Heap}
def sp_Strands___init__ (K : PySem.W.Frag) : Sp := fun vs H Q _ => ∃ (p dx : Addr), vs = [.ref p] ∧ H p = some (.ins (aS K) dx []) ∧
  ∀ A j H', A.p = p → Arr (aS K) A c0 j H' → (∀ b o, H b = some o → b ≠ p → H' b = some o) → (∀ a, Mut A a → H a = none) → Q .non H'
-- 0 self
abbrev n_Strands___init__ : List Str := ["self"]
theorem sc_Strands___init__ : FnScope n_Strands___init__ ["self"] (defScope s_Strands___init__) := ⟨rfl, rfl, rfl, by decide +kernel, rfl, by decide +kernel, by decide +kernel⟩
theorem ok_Strands___init__ (T : Txt w K mg) : Good P w K mg base 1 (He.ma K (aS K) "__init__") ["self"] (sp_Strands___init__ K) := by
  refine good_mk T.D_Strands___init__ sc_Strands___init__ (fun _ _ _ _ _ _ us hl => match us, hl with | [_], _ => rfl) (fun vs H Q E h => ?_) (fun cdv A0 outer s H vs Q E hr h => ?_)
  · obtain ⟨p, dx, rfl, _⟩ := h
    rfl
  · obtain ⟨p, dx, rfl, hp, k⟩ := h
    refine ⟨_, (pss_cons (ps_fld (pv 0) (pe_lst pa_nil) rfl)
      (pss_cons (ps_fld (pv 0) (pe_lst pa_nil) rfl)
      (pss_cons (ps_fld (pv 0) (pe_lst pa_nil) rfl)
      (pss_cons (ps_fld (pv 0) (pe_lst pa_nil) rfl)
      (pss_cons (ps_fld (pv 0) (pe_lst pa_nil) rfl)
      (pss_cons (ps_fld (pv 0) (pe_lst pa_nil) rfl)
      (pss_cons (ps_fld (pv 0) (pe_lst pa_nil) rfl)
      (pss_cons (ps_fld (pv 0) (pe_lst pa_nil) rfl)
      (pss_cons (ps_fld (pv 0) (pe_lst pa_nil) rfl)
      (pss_cons (ps_fld (pv 0) (pe_lst pa_nil) rfl)
      (pss_cons (ps_fld (pv 0) (pe_lst pa_nil) rfl)
      (pss_cons (ps_fld (pv 0) (pe_lst pa_nil) rfl)
      (pss_cons (ps_fld (pv 0) (pe_lst pa_nil) rfl)
      (pss_cons (ps_fld (pv 0) (pe_lst pa_nil) rfl)
      (pss_one (ps_fld (pv 0) (pe_lst pa_nil) rfl)))))))))))))))), ?_⟩
    have cl := T.clS
    have hp' : ∃ o, H p = some o := ⟨_, hp⟩
    have M0 : Making (aS K) H p dx [] [] H := ⟨hp, List.nodup_nil, fun a h => by simp at h, fun b o h _ => h⟩
    refine making_seq M0 rfl cl T.nS_left (by show 0 < 1000; decide) hp' (fun l0 H1 M1 => ?_)
    refine making_seq M1 rfl cl T.nS_right (by show 1 < 1000; decide) hp' (fun l1 H2 M2 => ?_)
    refine making_seq M2 rfl cl T.nS_above (by show 2 < 1000; decide) hp' (fun l2 H3 M3 => ?_)
    refine making_seq M3 rfl cl T.nS_flipped (by show 3 < 1000; decide) hp' (fun l3 H4 M4 => ?_)
    refine making_seq M4 rfl cl T.nS_later (by show 4 < 1000; decide) hp' (fun l4 H5 M5 => ?_)
    refine making_seq M5 rfl cl T.nS_worth (by show 5 < 1000; decide) hp' (fun l5 H6 M6 => ?_)
    refine making_seq M6 rfl cl T.nS_bits (by show 6 < 1000; decide) hp' (fun l6 H7 M7 => ?_)
    refine making_seq M7 rfl cl T.nS_many (by show 7 < 1000; decide) hp' (fun l7 H8 M8 => ?_)
    refine making_seq M8 rfl cl T.nS_total (by show 8 < 1000; decide) hp' (fun l8 H9 M9 => ?_)
    refine making_seq M9 rfl cl T.nS_most (by show 9 < 1000; decide) hp' (fun l9 H10 M10 => ?_)
    refine making_seq M10 rfl cl T.nS_all_bits (by show 10 < 1000; decide) hp' (fun l10 H11 M11 => ?_)
    refine making_seq M11 rfl cl T.nS_hung (by show 11 < 1000; decide) hp' (fun l11 H12 M12 => ?_)
    refine making_seq M12 rfl cl T.nS_all_many (by show 12 < 1000; decide) hp' (fun l12 H13 M13 => ?_)
    refine making_seq M13 rfl cl T.nS_all_total (by show 13 < 1000; decide) hp' (fun l13 H14 M14 => ?_)
    refine making_step M14 rfl cl T.nS_steps (by show 14 < 1000; decide) hp' (fun l14 H15 M15 => ?_)
    have M : Making (aS K) H p dx [l0, l1, l2, l3, l4, l5, l6, l7, l8, l9, l10, l11, l12, l13, l14] (sf (mkA p dx [l0, l1, l2, l3, l4, l5, l6, l7, l8, l9, l10, l11, l12, l13, l14])) H15 := M15
    refine k _ j0 H15 rfl (making_done rfl M) M.kp ?_
    rintro a (⟨f, h⟩ | h)
    · rw [h]
      have hi := pos_lt f
      have e : ([l0, l1, l2, l3, l4, l5, l6, l7, l8, l9, l10, l11, l12, l13, l14] : List Addr).getD (pos f) 0 ∈ ([l0, l1, l2, l3, l4, l5, l6, l7, l8, l9, l10, l11, l12, l13, l14] : List Addr) := by
        rw [List.getD_eq_getElem?_getD, List.getElem?_eq_getElem (by show pos f < 15; omega)]
        exact List.getElem_mem _
      exact (M.new _ e).1
    · rw [h]
      exact (M.new l14 (by simp)).1
end
end K73
end
section
set_option maxHeartbeats 4000000
namespace K73
open PySem PySem.Spec PyProof.Rows L2
/-! ### zip of two of: a list, a tuple, a text -/
inductive ZS where
  | l (a : Addr) (xs : List V)
  | t (a : Addr) (xs : List V)
  | s (z : Str)
def ZS.val : ZS → V
  | .l a _ => .ref a | .t a _ => .ref a | .s z => .str z
def ZS.G (K : PySem.W.Frag) (H : Hp) : ZS → Prop
  | .l a xs => SqL K H a xs | .t a xs => SqT K H a xs | .s _ => True
def ZS.n : ZS → Nat
  | .l _ xs => xs.length | .t _ xs => xs.length | .s z => z.cps.size
def ZS.at_ (i : Nat) : ZS → Option V
  | .l _ xs => xs[i]? | .t _ xs => xs[i]? | .s z => z.cps[i]?.map fun c => .str ⟨#[c]⟩
def ZS.ist (tk : Tok) (it i : Nat) (h : Heap) : ZS → Prop
  | .l a _ => h.IsListIter it a i | .t a _ => h.IsTupleIter it a i | .s z => h.IsStrIter it (strIterType z) z tk i
def ZS.fp (it : Addr) : ZS → List Addr
  | .l a _ => [it, a] | .t a _ => [it, a] | .s _ => [it]
theorem ZS.mem (it : Addr) (z : ZS) : it ∈ z.fp it := by cases z <;> simp [ZS.fp]
theorem ZS.obj {tk : Tok} {it i : Nat} {h : Heap} {z : ZS} (st : z.ist tk it i h) : ∃ o, h.get? it = some o ∧ ∀ v, o.data ≠ .cell v := by
  cases z with
  | l a xs => obtain ⟨o, e, _, d⟩ := st; exact ⟨o, e, fun v q => by rw [d] at q; cases q⟩
  | t a xs => obtain ⟨o, e, _, d⟩ := st; exact ⟨o, e, fun v q => by rw [d] at q; cases q⟩
  | s z => obtain ⟨o, e, _, d⟩ := st; exact ⟨o, e, fun v q => by rw [d] at q; cases q⟩
theorem ZS.keep {tk : Tok} {it i : Nat} {h h' : Heap} {z : ZS} (st : z.ist tk it i h) (k : ∀ o, h.get? it = some o → h'.get? it = some o) : z.ist tk it i h' := by
  cases z with
  | l a xs => exact Heap.IsListIter.at (show h.IsListIter it a i from st) k
  | t a xs => exact Heap.IsTupleIter.at (show h.IsTupleIter it a i from st) k
  | s z => obtain ⟨o, e, q⟩ := (show h.IsStrIter it (strIterType z) z tk i from st); exact ⟨o, k o e, q⟩
theorem _root_.L2.Vals.back : ∀ {xs : List V} {us : List Value} {i : Nat} {u : Value}, Vals xs us → us[i]? = some u → ∃ x, xs[i]? = some x ∧ RelV x u
  | _, _, _, _, .nil, e => by simp at e
  | _, _, 0, _, .cons r _, e => by simp at e; subst e; exact ⟨_, rfl, r⟩
  | _, _, i + 1, u, .cons _ t, e => by
    obtain ⟨x, h1, h2⟩ := L2.Vals.back (i := i) (u := u) t (by simpa using e)
    exact ⟨x, by simpa using h1, h2⟩
/-- what it draws at a turn -/
theorem ZS.draws {X : Cx} {pins : List (Addr × Obj)} {σ : L2.St} {H : Hp} {s : Shared} (I : Inv X pins σ H s) (hc : X.calm = true) {tk : Tok} {it i : Nat} {z : ZS} (g : z.G X.K H) (st : z.ist tk it i s.heap) (hd : ∀ a xs, (z = .l a xs ∨ z = .t a xs) → a ≠ it) :
    ∃ (Pp : Nat → Value → Prop) (St : Nat → Heap → Prop), Draws X.prog X.w X.A.in1 it (z.fp it) z.n Pp St ∧ St i s.heap ∧ (∀ u, Pp i u → ∃ x, z.at_ i = some x ∧ RelV x u) ∧ ∀ i h, St i h → z.ist tk it i h := by
  have hh : X.A.in1.handled = none := I.ok.hd hc
  cases z with
  | l a xs =>
    obtain ⟨its, rv, p, _⟩ := I.list g
    have D := Draws.list (prog := X.prog) (w := X.w) hh it a (hd a xs (Or.inl rfl)) its.toArray
    rw [show its.toArray.size = xs.length by simp [rv.length]] at D
    refine ⟨_, _, D, ⟨st, p.isList⟩, fun u hu => ?_, fun i h q => q.1⟩
    exact rv.back (by simpa using hu)
  | t a xs =>
    obtain ⟨its, rv, p, _⟩ := I.tuple g
    have D := Draws.tuple (prog := X.prog) (w := X.w) hh it a (hd a xs (Or.inr rfl)) its.toArray
    rw [show its.toArray.size = xs.length by simp [rv.length]] at D
    refine ⟨_, _, D, ⟨st, p⟩, fun u hu => ?_, fun i h q => q.1⟩
    exact rv.back (by simpa using hu)
  | s z =>
    refine ⟨_, _, Draws.text hh it z tk, st, fun u hu => ?_, fun i h q => q⟩
    obtain ⟨c, t, h1, h2⟩ := hu
    exact ⟨.str ⟨#[c]⟩, by show (z.cps[i]?).map _ = _; rw [h1]; rfl, t, h2⟩

/-- the two as they stand at each turn, their items in new pairs -/
def ItzG (K : PySem.W.Frag) (z1 z2 : ZS) : It :=
  ⟨fun i H => z1.G K H ∧ z2.G K H ∧ i < z1.n ∧ i < z2.n,
    fun i H v H' => ∃ T x y, v = .ref T ∧ H T = none ∧ H' = upd H T (.tup [x, y]) ∧ z1.at_ i = some x ∧ z2.at_ i = some y,
    fun i H => z1.G K H ∧ z2.G K H ∧ i ≤ z1.n ∧ i ≤ z2.n ∧ (i = z1.n ∨ i = z2.n)⟩
theorem turn_zipG {P : Program} {w : World} {K : PySem.W.Frag} {elts : List Expr} {kk : Nat} {tpos : Pos} {z1 z2 : ZS} {tk1 tk2 : Tok} {z TI TO i1 i2 : Addr} (S : ZipSep2 z TI TO i1 i2 (z1.fp i1) (z2.fp i2))
    (d1 : ∀ a xs, (z1 = .l a xs ∨ z1 = .t a xs) → a ≠ i1) (d2 : ∀ a xs, (z2 = .l a xs ∨ z2 = .t a xs) → a ≠ i2) :
    Turn P w K (.Tuple elts kk tpos) (ItzG K z1 z2) [z, TI, TO, i1, i2] z (fun i h => IsZip h z TI TO .none ∧ IsTupOf2 h TI (.ref i1) (.ref i2) ∧ (∃ x y, IsTupOf2 h TO x y) ∧ z1.ist tk1 i1 i h ∧ z2.ist tk2 i2 i h) where
  mem := by simp
  obj := fun i h st c hc => by
    obtain ⟨hz, hTI, ⟨x, y, hTO⟩, g1, g2⟩ := st
    have e' : c = z ∨ c = TI ∨ c = TO ∨ c = i1 ∨ c = i2 := by simpa using hc
    rcases e' with q | q | q | q | q
    · rw [q]; exact ⟨_, hz, fun v q => nomatch q⟩
    · rw [q]; exact ⟨_, hTI, fun v q => nomatch q⟩
    · rw [q]; exact ⟨_, hTO, fun v q => nomatch q⟩
    · rw [q]; exact ZS.obj g1
    · rw [q]; exact ZS.obj g2
  keep := fun i h h' st k => by
    obtain ⟨hz, hTI, ⟨x, y, hTO⟩, g1, g2⟩ := st
    exact ⟨k z (by simp) _ hz, k TI (by simp) _ hTI, ⟨x, y, k TO (by simp) _ hTO⟩, ZS.keep g1 fun o q => k i1 (by simp) o q, ZS.keep g2 fun o q => k i2 (by simp) o q⟩
  item := by
    intro X hP hw hK hc i pins s σ H E I hf st hg
    subst hP hw hK
    obtain ⟨hz, hTI, ⟨x0, y0, hTO⟩, g1, g2⟩ := st
    obtain ⟨G1, G2, l1, l2⟩ := hg
    obtain ⟨P1, St1, D1, st1, r1, b1⟩ := ZS.draws I hc G1 g1 d1
    obtain ⟨P2, St2, D2, st2, r2, b2⟩ := ZS.draws I hc G2 g2 d2
    have hzl : z < s.heap.objs.size := Heap.lt_size hz
    have lt1 : i1 < s.heap.objs.size := by obtain ⟨o, e, _⟩ := ZS.obj g1; exact Heap.lt_size e
    have lt2 : i2 < s.heap.objs.size := by obtain ⟨o, e, _⟩ := ZS.obj g2; exact Heap.lt_size e
    refine wpAny_pyNext_zipD2_item S D1 D2 hz hTI hTO st1 st2 l1 l2 fun u1 u2 h' tk q1 q2 z' TO' h1' h2' hT hsz hk => ?_
    refine ⟨_, rfl, wpAny_letOwnedTupleGo_zip (s := { s with heap := h', toks := tk }) z' fun h'' z'' sb => ?_⟩
    obtain ⟨x, ax, rx⟩ := r1 u1 q1
    obtain ⟨y, ay, ry⟩ := r2 u2 q2
    have hT2 : h''.get? s.heap.objs.size = some { cls := .type "tuple", data := .seq #[u1, u2] } := (sb.2 _ (Nat.ne_of_gt hzl)).trans hT
    have new : ObjOk X.prog X.w (upd H s.heap.objs.size (.tup [x, y])) h'' s.heap.objs.size (.tup [x, y]) :=
      ⟨by show 2 ≤ sizeLine; decide, [u1, u2], .cons rx (.cons ry .nil), ⟨_, hT2, rfl, _, rfl⟩⟩
    have I1 : Inv X pins σ (upd H s.heap.objs.size (.tup [x, y])) { s with heap := h'', toks := tk } :=
      I.turnedNew (t' := tk) (ch := [z, TI, TO, i1, i2]) (fun c o hb q => (sb.2 c (fun q' => hb (by simp [q']))).trans (hk c o (fun q' => hb (by simp [q'])) (fun q' => hb (by simp [q'])) (fun q' => hb (by simp [q'])) (fun q' => hb (by simp [q'])) q)) hf (Nat.le_refl _) new
    refine ⟨.ref s.heap.objs.size, _, I1, rfl, ⟨_, x, y, rfl, I.hok.fresh (Nat.le_refl _), rfl, ax, ay⟩, ⟨z'', ?_, ⟨u1, u2, ?_⟩, ?_, ?_⟩, fun c hcm => ?_⟩
    · exact (sb.2 _ S.TIz).trans (hk _ _ S.TIz S.TITO S.TIi1 S.TIi2 hTI)
    · exact (sb.2 _ S.TOz).trans TO'
    · exact ZS.keep (b1 _ _ h1') fun o q => (sb.2 _ S.zi1.symm).trans q
    · exact ZS.keep (b2 _ _ h2') fun o q => (sb.2 _ S.zi2.symm).trans q
    · have hlt : c < s.heap.objs.size := by
        have e' : c = z ∨ c = TI ∨ c = TO ∨ c = i1 ∨ c = i2 := by simpa using hcm
        rcases e' with q | q | q | q | q
        · rw [q]; exact hzl
        · rw [q]; exact Heap.lt_size hTI
        · rw [q]; exact Heap.lt_size hTO
        · rw [q]; exact lt1
        · rw [q]; exact lt2
      rw [upd_ne (Nat.ne_of_lt hlt)]
      exact (hf c hcm).1
  done := by
    intro X hP hw hK hc i pins s σ H E I hf st hg
    subst hP hw hK
    obtain ⟨hz, hTI, ⟨x0, y0, hTO⟩, g1, g2⟩ := st
    obtain ⟨G1, G2, l1, l2, le⟩ := hg
    obtain ⟨P1, St1, D1, st1, r1, b1⟩ := ZS.draws I hc G1 g1 d1
    obtain ⟨P2, St2, D2, st2, r2, b2⟩ := ZS.draws I hc G2 g2 d2
    exact wpAny_pyNext_zipD2_end S D1 D2 hz hTI hTO st1 st2 l1 l2 le fun h' tk hk => ⟨rfl, I.turnedL (t' := tk) (ch := [z, TI, TO, i1, i2]) (fun c o hb q =>
      hk c o (fun q' => hb (by simp [q'])) (fun q' => hb (by simp [q'])) (fun q' => hb (by simp [q'])) (fun q' => hb (by simp [q'])) q) hf⟩
  self := fun A i s Q E st h => wpAny_pyIter_zip st.1 h
/-- how such a source begins -/
theorem ZS.begins {X : Cx} {pins : List (Addr × Obj)} {σ : L2.St} {H : Hp} {s : Shared} (I : Inv X pins σ H s) {z : ZS} (g : z.G X.K H) {u : Value} (r : RelV z.val u) :
    ∃ (tk : Tok) (o : Obj) (Hh : Heap → Prop), Begins u o Hh ∧ Hh s.heap ∧ (∀ h it, h.get? it = some o → z.ist tk it 0 h) ∧ ∀ a xs, (z = .l a xs ∨ z = .t a xs) → a < s.heap.objs.size := by
  cases z with
  | l a xs =>
    cases r
    obtain ⟨its, rv, p, _⟩ := I.list g
    exact ⟨0, _, _, begins_list a its.toArray, p.isList, fun h it e => ⟨_, e, rfl, rfl⟩, fun a' xs' q => by
      rcases q with q | q
      · cases q; exact p.lt
      · cases q⟩
  | t a xs =>
    cases r
    obtain ⟨its, rv, p, _⟩ := I.tuple g
    obtain ⟨o1, ho1, _⟩ := id p
    exact ⟨0, _, _, begins_tuple a its.toArray, p, fun h it e => ⟨_, e, rfl, rfl⟩, fun a' xs' q => by
      rcases q with q | q
      · cases q
      · cases q; exact Heap.lt_size ho1⟩
  | s z =>
    obtain ⟨tk, rfl⟩ := r
    exact ⟨tk, _, _, begins_text z tk, trivial, fun h it e => ⟨_, e, rfl, rfl⟩, fun a' xs' q => by
      rcases q with q | q <;> cases q⟩
def iZipG (K : PySem.W.Frag) (ta : TA) : TI := fun σ H R => ta σ H fun vs H1 => ∃ z1 z2 : ZS, vs = [z1.val, z2.val] ∧ z1.G K H1 ∧ z2.G K H1 ∧ R (ItzG K z1 z2) H1
theorem pi_zipG {X : Cx} {e e2 : Expr} {ta : TA} {p pos tpos : Pos} {elts : List Expr} {kk : Nat} (hg : Gl X "zip") (hm : X.mg "zip" = none) (ha : PA X [e, e2] ta)
    (hs : starEach [e, e2] X.env = (false, eval e X.env) :: starEach [e2] X.env := by rfl) (hpl : (backTo pos (starEach [e2] X.env)).any (·.1) = false := by rfl) :
    PI X (.Tuple elts kk tpos) (.Call (.Name "zip" p) [e, e2] [] pos) (iZipG X.K ta) := by
  refine ⟨fun pins s σ H R I h => ?_⟩
  refine Call_ (ld_blt I hg hm PyProof.Rows.boot_zip (PyProof.Rows.callWith_type1 (thn (ha.run pos pins s σ H _ I h) fun us s1 ⟨vs, H1, I1, r1, q1⟩ => ?_) hs hpl))
  obtain ⟨z1, z2, ex, G1, G2, q⟩ := q1
  subst ex
  cases r1 with
  | cons r rr =>
    cases rr with
    | cons r' rr =>
      cases rr
      obtain ⟨tk1, o1, Hh1, B1, hb1, s1', lt1⟩ := ZS.begins I1 G1 r
      obtain ⟨tk2, o2, Hh2, B2, hb2, s2', lt2⟩ := ZS.begins I1 G2 r'
      have fresh5 : ∀ c, c ∈ [s1.heap.objs.size + 4, s1.heap.objs.size + 2, s1.heap.objs.size + 3, s1.heap.objs.size, s1.heap.objs.size + 1] → FpOk X pins H1 c := fun c hcm => by
        have e' : c = s1.heap.objs.size + 4 ∨ c = s1.heap.objs.size + 2 ∨ c = s1.heap.objs.size + 3 ∨ c = s1.heap.objs.size ∨ c = s1.heap.objs.size + 1 := by simpa using hcm
        have hle : s1.heap.objs.size ≤ c := by
          rcases e' with z | z | z | z | z
          · rw [z]; exact Nat.le_add_right _ _
          · rw [z]; exact Nat.le_add_right _ _
          · rw [z]; exact Nat.le_add_right _ _
          · rw [z]; exact Nat.le_refl _
          · rw [z]; exact Nat.le_add_right _ _
        exact I1.fpOk hle (I1.hok.fresh hle)
      refine zip_begins2 B1 B2 hb1 hb2 fun h' hz hTI hTO h1 h2 hsz hk => wpAny_pyIter_zip hz ?_
      have I2 : Inv X pins σ H1 { s1 with heap := h' } := I1.kept (t' := s1.toks) hk
      have m1 : ∀ c, c ∈ z1.fp s1.heap.objs.size → c = s1.heap.objs.size ∨ c < s1.heap.objs.size := fun c hc => by
        cases z1 with
        | l a xs => simp [ZS.fp] at hc; rcases hc with e | e; exact Or.inl e; exact Or.inr (by rw [e]; exact lt1 a xs (Or.inl rfl))
        | t a xs => simp [ZS.fp] at hc; rcases hc with e | e; exact Or.inl e; exact Or.inr (by rw [e]; exact lt1 a xs (Or.inr rfl))
        | s z => simp [ZS.fp] at hc; exact Or.inl hc
      have m2 : ∀ c, c ∈ z2.fp (s1.heap.objs.size + 1) → c = s1.heap.objs.size + 1 ∨ c < s1.heap.objs.size := fun c hc => by
        cases z2 with
        | l a xs => simp [ZS.fp] at hc; rcases hc with e | e; exact Or.inl e; exact Or.inr (by rw [e]; exact lt2 a xs (Or.inl rfl))
        | t a xs => simp [ZS.fp] at hc; rcases hc with e | e; exact Or.inl e; exact Or.inr (by rw [e]; exact lt2 a xs (Or.inr rfl))
        | s z => simp [ZS.fp] at hc; exact Or.inl hc
      have ne : ∀ {a b : Nat}, (a : Nat) ≠ b → (show Addr from a) ≠ (show Addr from b) := fun h => h
      have S : ZipSep2 (s1.heap.objs.size + 4) (s1.heap.objs.size + 2) (s1.heap.objs.size + 3) s1.heap.objs.size (s1.heap.objs.size + 1) (z1.fp s1.heap.objs.size) (z2.fp (s1.heap.objs.size + 1)) := by
        have nn : ∀ {a b : Nat}, a ≠ b → (a : Addr) ≠ (b : Addr) := fun h => h
        exact ⟨nn (by omega), nn (by omega), nn (by omega), nn (by omega), ZS.mem _ _, fun h => (m1 _ h).elim (nn (by omega)) (fun q => absurd q (by show ¬ (s1.heap.objs.size + 4 < s1.heap.objs.size); omega)),
          fun h => (m1 _ h).elim (nn (by omega)) (fun q => absurd q (by show ¬ (s1.heap.objs.size + 3 < s1.heap.objs.size); omega)), nn (by omega), ZS.mem _ _,
          fun h => (m2 _ h).elim (nn (by omega)) (fun q => absurd q (by show ¬ (s1.heap.objs.size + 4 < s1.heap.objs.size); omega)), fun h => (m2 _ h).elim (nn (by omega)) (fun q => absurd q (by show ¬ (s1.heap.objs.size + 3 < s1.heap.objs.size); omega)),
          fun h => (m2 _ h).elim (nn (by omega)) (fun q => absurd q (by show ¬ (s1.heap.objs.size < s1.heap.objs.size); omega)), fun h => (m1 _ h).elim (nn (by omega)) (fun q => absurd q (by show ¬ (s1.heap.objs.size + 1 < s1.heap.objs.size); omega))⟩
      have D1 : ∀ a xs, (z1 = .l a xs ∨ z1 = .t a xs) → a ≠ s1.heap.objs.size := fun a xs e => Nat.ne_of_lt (lt1 a xs e)
      have D2 : ∀ a xs, (z2 = .l a xs ∨ z2 = .t a xs) → a ≠ s1.heap.objs.size + 1 := fun a xs e => Nat.ne_of_lt (Nat.lt_succ_of_lt (lt2 a xs e))
      exact ⟨s1.heap.objs.size + 4, [s1.heap.objs.size + 4, s1.heap.objs.size + 2, s1.heap.objs.size + 3, s1.heap.objs.size, s1.heap.objs.size + 1], _, _, H1, rfl, I2, turn_zipG (tk1 := tk1) (tk2 := tk2) S D1 D2, ⟨hz, hTI, ⟨_, _, hTO⟩, s1' _ _ h1, s2' _ _ h2⟩, fresh5, q⟩
/-- as a walk -/
theorem walk_zipG {K : PySem.W.Frag} {z1 z2 : ZS} : Walk (ItzG K z1 z2) (min z1.n z2.n) (fun H => z1.G K H ∧ z2.G K H) (YPair (fun i => z1.at_ i) (fun i => z2.at_ i)) := by
  refine ⟨fun i _ hi q => ⟨q.1, q.2, by omega, by omega⟩, fun _ q => ⟨q.1, q.2, by omega, by omega, by omega⟩, fun i H v H' _ q y => ?_⟩
  obtain ⟨T, x, y', h1, h2, h3, h4, h5⟩ := y
  exact ⟨T, x, y', h1, h2, h3, h4, h5⟩
end K73
end
section
set_option maxHeartbeats 4000000
namespace K73
open PySem PySem.Spec PyProof.Rows L2 Evl
theorem ZS.G_ex {K : PySem.W.Frag} {H H' : Hp} {z : ZS} (g : z.G K H) (e : Same H H') : z.G K H' := by
  cases z with
  | l a xs => exact ex_l e g
  | t a xs => exact ex_t e g
  | s z => trivial
/-- what two such sources give together -/
structure ZPairs (z1 z2 : ZS) (ps : List (V × V)) : Prop where
  n : min z1.n z2.n = ps.length
  at1 : ∀ (i : Nat) q, ps[i]? = some q → z1.at_ i = some q.1
  at2 : ∀ (i : Nat) q, ps[i]? = some q → z2.at_ i = some q.2
section
variable {σ : L2.St} {H : Hp} {K : PySem.W.Frag} {te : TE} {t : TT} {targ : TA} {i j : Nat} {vs : List Nat}
/-- [e for x, y in zip(..) if t] -/
theorem el_zip {ps : List (V × V)} (p : V × V → Bool) (h : V × V → V)
    (harg : ∀ H1, Same H H1 → ∀ Q : List V → Hp → Prop, (∀ z1 z2 H2, Same H1 H2 → z1.G K H2 → z2.G K H2 → ZPairs z1 z2 ps → Q [z1.val, z2.val] H2) → targ σ H1 Q) (hz : ps.length ≤ 40000)
    (hw : ∀ x y, wipe (((wipe σ vs).set i (some x)).set j (some y)) vs = wipe σ vs)
    (ht : ∀ q ∈ ps, ∀ H1, Same H H1 → EvT t (((wipe σ vs).set i (some q.1)).set j (some q.2)) H1 (p q)) (he : ∀ q ∈ ps, p q = true → ∀ H1, Same H H1 → Ev te (((wipe σ vs).set i (some q.1)).set j (some q.2)) H1 (h q)) :
    EvL (tLc (iZipG K targ) (gTup K 2 (gCons (gName i) (gCons (gName j) gNil))) t te vs) σ H ((ps.filter p).map h) := by
  intro H0 e Q q
  refine harg H0 e _ fun z1 z2 H1 e1 G1 G2 Z => ⟨z1, z2, rfl, G1, G2, fun D hD => ?_⟩
  refine lc_it walk_zipG (fun k H' => H1 D = none ∧ Same H1 H' ∧ H' D = some (.lst (((ps.take k).filter p).map h))) ⟨hD, same_new hD, upd_same⟩ (fun k H' _ w => ⟨ZS.G_ex G1 w.2.1, ZS.G_ex G2 w.2.1⟩) ?_ ?_
  · rintro k v H' H'' hk ⟨w1, w2, w3⟩ ⟨T, x, y, rfl, hT, rfl, hx, hy⟩
    rw [Z.n] at hk
    have hq : ps[k]? = some ps[k] := List.getElem?_eq_getElem hk
    have a1 := Z.at1 k _ hq
    have a2 := Z.at2 k _ hq
    have ex : x = ps[k].1 := Option.some.inj (Eq.trans (Eq.symm hx) a1)
    have ey : y = ps[k].2 := Option.some.inj (Eq.trans (Eq.symm hy) a2)
    subst ex ey
    have e2 : Same H' (upd H' T (.tup [ps[k].1, ps[k].2])) := same_new hT
    have e3 : Same H (upd H' T (.tup [ps[k].1, ps[k].2])) := Same.trans (Same.trans (Same.trans e e1) w2) e2
    refine ⟨T, _, rfl, SqT.of upd_same, rfl, _, _, rfl, _, _, rfl, rfl, hw _ _, ?_⟩
    have hm : ps[k] ∈ ps := List.getElem_mem hk
    refine ht _ hm _ e3 _ (Ex.refl _) _ fun H3 e4 => ?_
    have hT1 : ps.take (k + 1) = ps.take k ++ [ps[k]] := by rw [List.take_succ, hq]; rfl
    cases hp : p ps[k] with
    | true =>
      refine iteT ?_
      refine he _ hm hp _ (Same.trans e3 e4) _ (Ex.refl _) _ fun H4 e5 => ?_
      have hD4 := e5 _ _ (e4 _ _ (e2 _ _ w3))
      refine ⟨_, hD4, ?_, w1, ?_, ?_⟩
      · have h1 := List.length_filter_le p (ps.take k)
        simp at h1 ⊢
        exact Nat.lt_of_le_of_lt (Nat.le_trans (Nat.le_trans h1 (Nat.min_le_right _ _)) hz) (by decide)
      · exact Ex.mut (Ex.trans (Ex.trans (Ex.trans w2 e2) e4) e5) w1
      · rw [upd_same, hT1, List.filter_append, List.map_append, List.filter_cons, if_pos hp]
        rfl
    | false =>
      refine iteF ⟨w1, Ex.trans (Ex.trans w2 e2) e4, ?_⟩
      rw [e4 _ _ (e2 _ _ w3), hT1, List.filter_append, List.map_append, List.filter_cons, if_neg (by rw [hp]; decide)]
      show _ = some (HO.lst (_ ++ []))
      rw [List.append_nil]
  · rintro H' ⟨w1, w2, w3⟩
    rw [Z.n, List.take_length] at w3
    exact q D H' (fresh_back e1 w1) (Ex.trans e1 w2) w3
theorem el_zipAll {ps : List (V × V)} (h : V × V → V)
    (harg : ∀ H1, Same H H1 → ∀ Q : List V → Hp → Prop, (∀ z1 z2 H2, Same H1 H2 → z1.G K H2 → z2.G K H2 → ZPairs z1 z2 ps → Q [z1.val, z2.val] H2) → targ σ H1 Q) (hz : ps.length ≤ 40000)
    (hw : ∀ x y, wipe (((wipe σ vs).set i (some x)).set j (some y)) vs = wipe σ vs)
    (he : ∀ q ∈ ps, ∀ H1, Same H H1 → Ev te (((wipe σ vs).set i (some q.1)).set j (some q.2)) H1 (h q)) :
    EvL (tLc (iZipG K targ) (gTup K 2 (gCons (gName i) (gCons (gName j) gNil))) tYes te vs) σ H (ps.map h) := by
  have e := el_zip (te := te) (t := tYes) (fun _ => true) h harg hz hw (fun _ _ _ _ => et_yes) (fun q hq _ H1 e => he q hq H1 e)
  rw [List.filter_eq_self.mpr (fun _ _ => rfl)] at e
  exact e
/-- isinstance -/
theorem ev_isi {ta : TE} {x : V} {a n : String} {b : Bool} (h : Ev ta σ H x) (ty : ∀ H1, Same H H1 → TyX K H1 x (.type a)) (k : PySem.W.kitOne K (.type a) (.type n) = some b) : Ev (tCB (rIsi K) (tCons ta (tCons (tC (.ty n)) tNil))) σ H (.bl b) :=
  ev_cb (ea_cons h (ea_cons ev_c ea_nil)) fun H1 e Q q => ⟨x, .ty n, .type a, .type n, b, rfl, .ty n, ty H1 e, k, q H1 (Ex.refl _)⟩
end
end K73
end
section
set_option maxHeartbeats 4000000
namespace K73
open PySem PySem.Spec PyProof.Rows L2 Evl
section
variable {σ : L2.St} {H : Hp} {K : PySem.W.Frag} {ta tb te : TE} {tl th : TO}
theorem eu_sl {a : Addr} {xs : List V} {lo hi : Option Int} (h : Ev te σ H (.ref a)) (h1 : EvO tl σ H lo) (h2 : EvO th σ H hi) (hs : SqT K H a xs) (hw : ¬ (HT.sIx xs.length 0 lo = 0 ∧ HT.sIx xs.length xs.length hi = xs.length)) : EvU (tSl (rSlT K) te tl th) σ H (cutV xs lo hi) := fun H1 e Q q =>
  h H1 e _ fun H2 e2 => h1 H2 (Ex.trans e e2) _ fun H3 e3 => h2 H3 (Ex.trans (Ex.trans e e2) e3) _ fun H4 e4 => ⟨a, xs, rfl, ex_t (Ex.trans (Ex.trans (Ex.trans e e2) e3) e4) hs, hw, fun p hp =>
    q p _ (fresh_back (Ex.trans (Ex.trans e2 e3) e4) hp) (Ex.trans (Ex.trans (Ex.trans e2 e3) e4) (Ex.new hp)) upd_same⟩
theorem harg_st {z : Str} {ys : List V} {ps : List (V × V)} (h1 : Ev ta σ H (.str z)) (h2 : EvU tb σ H ys) (hp : ∀ p, ZPairs (.s z) (.t p ys) ps) :
    ∀ H1, Same H H1 → ∀ Q : List V → Hp → Prop, (∀ z1 z2 H2, Same H1 H2 → z1.G K H2 → z2.G K H2 → ZPairs z1 z2 ps → Q [z1.val, z2.val] H2) → tCons ta (tCons tb tNil) σ H1 Q := fun H1 e Q q =>
  h1 H1 e _ fun H2 e2 => h2 H2 (Ex.trans e e2) _ fun p H3 _ e3 h3 => q (.s z) (.t p ys) H3 (Ex.trans e2 e3) trivial (st_of h3) (hp p)
theorem rc_len {a : Addr} {xs : List V} (h : SqT K H a xs) : RC (fun xs H Q => ∃ x n, xs = [x] ∧ LenV K x H n ∧ Q (.int n) H) [.ref a] H (.int (xs.length : Int)) := fun H1 e _ q => ⟨_, _, rfl, Or.inr ⟨xs, ex_t e h, rfl⟩, q H1 (Ex.refl _)⟩
theorem rc_lenS {z : Str} (h : z.length ≤ sizeLine) : RC (fun xs H Q => ∃ x n, xs = [x] ∧ LenV K x H n ∧ Q (.int n) H) [.str z] H (.int (z.length : Int)) := fun H1 e _ q => ⟨_, _, rfl, ⟨h, rfl⟩, q H1 (Ex.refl _)⟩
theorem rc_all {a : Addr} {bs : List Bool} (h : H a = some (.lst (bs.map V.bl))) : RC (rAll K) [.ref a] H (.bl (bs.all id)) := fun H1 e _ q => ⟨a, bs, rfl, SqL.of (e _ _ h), q H1 (Ex.refl _)⟩
theorem kdct {w : World} {d : Addr} {es : Array DictEntry} {n : Nat} {x : Str} {v : V} (D : KDict K w d es n) (h : ∃ u, PySem.W.nsIn K d x = some (some u) ∧ RelV v u) : KDct K w d x v := by
  obtain ⟨u, h1, h2⟩ := h
  exact ⟨es, n, u, D.at_, D.lit, h1, h2⟩
theorem ev_kd {w : World} {d : Addr} {x : Str} {v : V} (ha : Ev ta σ H (.ref d)) (hb : Ev tb σ H (.str x)) (h : KDct K w d x v) : Ev (tOp (rIxD K w) ta tb) σ H v := ev_op ha hb fun H1 _ Q q => ⟨d, x, v, rfl, rfl, h, q H1 (Ex.refl _)⟩
end
section
variable {σ : L2.St} {H : Hp} {ta tb tc : TE}
theorem ev_chain {i j k : Int} (ha : Ev ta σ H (.int i)) (hb : Ev tb σ H (.int j)) (hc : Ev tc σ H (.int k)) : Ev (tChain (rI0 fun i j => .bl (decide (i ≤ j))) (rI0 fun i j => .bl (decide (i < j))) ta tb tc) σ H (.bl (decide (i ≤ j) && decide (j < k))) := fun H1 e Q q =>
  ha H1 e _ fun H2 e2 => hb H2 (Ex.trans e e2) _ fun H3 e3 => ⟨i, j, rfl, rfl, _, rfl, by
    cases h : decide (i ≤ j) with
    | true => exact iteT (hc H3 (Ex.trans (Ex.trans e e2) e3) _ fun H4 e4 => ⟨j, k, rfl, rfl, by rw [h] at q; exact q H4 (Ex.trans (Ex.trans e2 e3) e4)⟩)
    | false => exact iteF (by rw [h] at q; exact q H3 (Ex.trans e2 e3))⟩
end
theorem el_all_pts {H : Hp} {K : PySem.W.Frag} {tl : TE} {n : Nat} {g : List Nat} {rw_ : V} (hp : ∀ x ∈ g, x < n) (hl : EvU tl [some rw_, some (.int (n : Int)), none] H (g.map fun x : Nat => V.int (x : Int))) (hz : g.length ≤ 40000) :
    EvL (tLc (iTup K tl) (gName 2) tYes (tChain (rI0 fun i j => .bl (decide (i ≤ j))) (rI0 fun i j => .bl (decide (i < j))) (tC (.int 0)) (tVar 2) (tVar 1)) [2]) [some rw_, some (.int (n : Int)), none] H (g.map fun _ => .bl true) := by
  have e := el_mapNT (K := K) (t := tYes) (te := tChain (rI0 fun i j => .bl (decide (i ≤ j))) (rI0 fun i j => .bl (decide (i < j))) (tC (.int 0)) (tVar 2) (tVar 1)) (j := 2) (vs := [2]) (ys := g) (g := fun x : Nat => V.int (x : Int)) (fun _ => true) (fun _ => .bl true) hl hz (fun _ => rfl) (fun _ _ _ _ => et_yes) (fun y hy _ H1 e1 => by
    have q := ev_chain (σ := [some rw_, some (.int (n : Int)), some (.int (y : Int))]) (H := H1) (ta := tC (.int 0)) (tb := tVar 2) (tc := tVar 1) (i := 0) (j := (y : Int)) (k := (n : Int)) ev_c (ev_var rfl) (ev_var rfl)
    rw [decide_eq_true (by omega), decide_eq_true (by have := hp y hy; omega)] at q
    exact q)
  rw [List.filter_eq_self.mpr (fun _ _ => rfl)] at e
  exact e
/-! ### rows -/
inductive RowV where
  | new (z : Int)
  | two (wd : Str) (a b : Nat)
def RowV.items : RowV → List V
  | .new z => [.str "new", .int z, .str "b"]
  | .two wd a b => [.str wd, .int (a : Int), .int (b : Int)]
def RowV.ok : RowV → Prop
  | .new _ => True
  | .two wd _ _ => wd = "tie" ∨ wd = "cut" ∨ wd = "joined" ∨ wd = "most" ∨ wd = "way"
def RowV.word : RowV → Str
  | .new _ => "new"
  | .two wd _ _ => wd
def RowV.form : RowV → Str
  | .new _ => "wk"
  | .two _ _ _ => "pp"
def RowV.a1 : RowV → V
  | .new z => .int z
  | .two _ a _ => .int (a : Int)
def RowV.a2 : RowV → V
  | .new _ => .str "b"
  | .two _ _ b => .int (b : Int)
theorem RowV.eq (r : RowV) : r.items = [.str r.word, r.a1, r.a2] := by cases r <;> rfl
def RowV.pairs : RowV → List (V × V)
  | .new z => [(.str "w", .int z), (.str "k", .str "b")]
  | .two _ a b => [(.str "p", .int (a : Int)), (.str "p", .int (b : Int))]
theorem RowV.zp (r : RowV) (p : Addr) : ZPairs (.s r.form) (.t p [r.a1, r.a2]) r.pairs := by
  cases r with
  | new z =>
    refine ⟨rfl, fun i q h => ?_, fun i q h => ?_⟩
    · match i, h with
      | 0, h => cases h; rfl
      | 1, h => cases h; rfl
      | i + 2, h => simp [RowV.pairs] at h
    · match i, h with
      | 0, h => cases h; rfl
      | 1, h => cases h; rfl
      | i + 2, h => simp [RowV.pairs] at h
  | two wd a b =>
    refine ⟨rfl, fun i q h => ?_, fun i q h => ?_⟩
    · match i, h with
      | 0, h => cases h; rfl
      | 1, h => cases h; rfl
      | i + 2, h => simp [RowV.pairs] at h
    · match i, h with
      | 0, h => cases h; rfl
      | 1, h => cases h; rfl
      | i + 2, h => simp [RowV.pairs] at h
theorem RowV.form_len (r : RowV) : r.form.length = 2 := by cases r <;> rfl
section
variable {P : Program} {w : World} {K : PySem.W.Frag} {mg : Str → Option Value} {base : Heap}
theorem row_form (T : Txt w K mg) (r : RowV) (ok : r.ok) : ∃ u, PySem.W.nsIn K (He.ga K "FORMS") r.word = some (some u) ∧ RelV (V.str r.form) u := by
  cases r with
  | new z => exact T.form_new
  | two wd a b =>
    rcases ok with e | e | e | e | e
    · subst e; exact T.form_tie
    · subst e; exact T.form_cut
    · subst e; exact T.form_joined
    · subst e; exact T.form_most
    · subst e; exact T.form_way
theorem row_kd (T : Txt w K mg) (r : RowV) (ok : r.ok) : KDct K w (He.ga K "FORMS") r.word (.str r.form) := by
  obtain ⟨es, n, D⟩ := T.forms
  exact kdct D (row_form T r ok)
def sp_num : Sp := fun vs H Q _ => ∃ i : Int, vs = [.int i] ∧ ∀ H', Same H H' → Q (.bl true) H'
abbrev sp_is_number_rows (K : PySem.W.Frag) : Sp := sp_num
abbrev sp_is_number_shapes (K : PySem.W.Frag) : Sp := sp_num
-- 0 thing
abbrev n_is_number_rows : List Str := ["thing"]
theorem sc_is_number_rows : FnScope n_is_number_rows ["thing"] (defScope s_is_number_rows) := ⟨rfl, rfl, rfl, by decide +kernel, rfl, by decide +kernel, by decide +kernel⟩
theorem ok_is_number_rows (T : Txt w K mg) : Good P w K mg base 1 (He.ga K "is_number_rows") ["thing"] (sp_is_number_rows K) := by
  refine good_mk T.D_is_number_rows sc_is_number_rows (fun _ _ _ _ _ _ us hl => match us, hl with | [_], _ => rfl) (fun vs H Q E h => ?_) (fun cdv A0 outer s H vs Q E hr h => ?_)
  · obtain ⟨i, rfl, _⟩ := h
    rfl
  · obtain ⟨i, rfl, k⟩ := h
    refine ⟨_, (pss_one (ps_ret (pe_and (pe_callB call_isi (by rfl) T.z_isinstance (by decide +kernel) (pa_cons (pv 0) (pa_cons (pe_bltn (v := .ty "int") (by rfl) T.z_int (by decide +kernel) rfl) pa_nil))) (pe_one (pe_not (pe_callB call_isi (by rfl) T.z_isinstance (by decide +kernel) (pa_cons (pv 0) (pa_cons (pe_bltn (v := .ty "bool") (by rfl) T.z_bool (by decide +kernel) rfl) pa_nil)))))))), ?_⟩
    exact s_ret (ev_andV (a := true) (b := true) (ev_isi (a := "int") (ev_var rfl) (fun H1 _ => .base (.int i)) (kit_ty (by decide +kernel))) fun _ => ev_notV (a := false) (ev_isi (a := "int") (ev_var rfl) (fun H1 _ => .base (.int i)) (kit_ty (by decide +kernel)))) fun H1 e1 => k H1 e1
-- 0 thing
abbrev n_is_number_shapes : List Str := ["thing"]
theorem sc_is_number_shapes : FnScope n_is_number_shapes ["thing"] (defScope s_is_number_shapes) := ⟨rfl, rfl, rfl, by decide +kernel, rfl, by decide +kernel, by decide +kernel⟩
theorem ok_is_number_shapes (T : Txt w K mg) : Good P w K mg base 1 (He.ga K "is_number_shapes") ["thing"] (sp_is_number_shapes K) := by
  refine good_mk T.D_is_number_shapes sc_is_number_shapes (fun _ _ _ _ _ _ us hl => match us, hl with | [_], _ => rfl) (fun vs H Q E h => ?_) (fun cdv A0 outer s H vs Q E hr h => ?_)
  · obtain ⟨i, rfl, _⟩ := h
    rfl
  · obtain ⟨i, rfl, k⟩ := h
    refine ⟨_, (pss_one (ps_ret (pe_and (pe_callB call_isi (by rfl) T.z_isinstance (by decide +kernel) (pa_cons (pv 0) (pa_cons (pe_bltn (v := .ty "int") (by rfl) T.z_int (by decide +kernel) rfl) pa_nil))) (pe_one (pe_not (pe_callB call_isi (by rfl) T.z_isinstance (by decide +kernel) (pa_cons (pv 0) (pa_cons (pe_bltn (v := .ty "bool") (by rfl) T.z_bool (by decide +kernel) rfl) pa_nil)))))))), ?_⟩
    exact s_ret (ev_andV (a := true) (b := true) (ev_isi (a := "int") (ev_var rfl) (fun H1 _ => .base (.int i)) (kit_ty (by decide +kernel))) fun _ => ev_notV (a := false) (ev_isi (a := "int") (ev_var rfl) (fun H1 _ => .base (.int i)) (kit_ty (by decide +kernel)))) fun H1 e1 => k H1 e1
def sp_is_kind (K : PySem.W.Frag) : Sp := fun vs H Q _ => vs = [.str "b"] ∧ ∀ H', Same H H' → Q (.bl true) H'
-- 0 thing
abbrev n_is_kind : List Str := ["thing"]
theorem sc_is_kind : FnScope n_is_kind ["thing"] (defScope s_is_kind) := ⟨rfl, rfl, rfl, by decide +kernel, rfl, by decide +kernel, by decide +kernel⟩
theorem ok_is_kind (T : Txt w K mg) : Good P w K mg base 1 (He.ga K "is_kind") ["thing"] (sp_is_kind K) := by
  refine good_mk T.D_is_kind sc_is_kind (fun _ _ _ _ _ _ us hl => match us, hl with | [_], _ => rfl) (fun vs H Q E h => ?_) (fun cdv A0 outer s H vs Q E hr h => ?_)
  · obtain ⟨rfl, _⟩ := h
    rfl
  · obtain ⟨rfl, k⟩ := h
    obtain ⟨t, ht⟩ := T.k_KINDS_forests
    refine ⟨_, (pss_one (ps_ret (pe_and (pe_callB call_isi (by rfl) T.z_isinstance (by decide +kernel) (pa_cons (pv 0) (pa_cons (pe_bltn (v := .ty "str") (by rfl) T.z_str (by decide +kernel) rfl) pa_nil))) (pe_and (pe_cmpR op_eq (pe_callB call_len (by rfl) T.z_len PySem.boot_len (pa_cons (pv 0) pa_nil)) pe_int (nomark _)) (pe_one (pe_cmpR op_in_sign (pv 0) (pe_glob (v := .str "abcdefgh") rfl ht ⟨_, rfl⟩) rfl)))))), ?_⟩
    refine s_ret (ev_andV (a := true) (b := true) (ev_isi (a := "str") (ev_var rfl) (fun H1 _ => .base (.str _)) (kit_ty (by decide +kernel))) fun _ =>
      ev_andV (a := true) (b := true) (ev_is (ev_op (ev_cb (ea_cons (ev_var rfl) ea_nil) (rc_lenS (by decide +kernel))) ev_c (rv_eq rfl)) (by rfl)) fun _ => ?_) fun H1 e1 => k H1 e1
    exact ev_op (ev_var rfl) ev_c fun H1 _ Q q => ⟨98, "abcdefgh", rfl, rfl, by
      rw [show decide (98 ∈ ("abcdefgh" : Str).cps.toList) = true by decide +kernel]
      exact q H1 (Ex.refl _)⟩
def sp_fits_form (K : PySem.W.Frag) : Sp := fun vs H Q _ => ∃ (sg : Str) (x : V), vs = [.str sg, x] ∧ ((sg = "k" ∧ x = .str "b") ∨ ((sg = "p" ∨ sg = "w") ∧ ∃ i, x = .int i)) ∧ ∀ H', Same H H' → Q (.bl true) H'
-- 0 sign, 1 thing
abbrev n_fits_form : List Str := ["sign", "thing"]
theorem sc_fits_form : FnScope n_fits_form ["sign", "thing"] (defScope s_fits_form) := ⟨rfl, rfl, rfl, by decide +kernel, rfl, by decide +kernel, by decide +kernel⟩
theorem ok_fits_form (T : Txt w K mg) : Good P w K mg base 2 (He.ga K "fits_form") ["sign", "thing"] (sp_fits_form K) := by
  refine good_mk T.D_fits_form sc_fits_form (fun _ _ _ _ _ _ us hl => match us, hl with | [_, _], _ => rfl) (fun vs H Q E h => ?_) (fun cdv A0 outer s H vs Q E hr h => ?_)
  · obtain ⟨sg, x, rfl, _⟩ := h
    rfl
  · obtain ⟨sg, x, rfl, hx, k⟩ := h
    refine ⟨_, (pss_cut (ps_if (pt_cmpR op_eq (pv 0) pe_str (nomark _)) (pss_one (ps_ret (pe_f (ok_is_kind T) (hr.mono (by decide)) T.g_is_kind (pa_cons (pv 1) pa_nil)))) pss_nil)
      (pss_cut (ps_if (PW.pt (pw_and (pt_cmpR op_eq (pv 0) pe_str (nomark _)) (pw_and1 (pt_cmpR op_isN (pv 1) pe_non (nomark _))))) (pss_one (ps_ret pe_bl)) pss_nil)
      (pss_one (ps_ret (pe_and (pe_f (ok_is_number_rows T) (hr.mono (by decide)) T.g_is_number_rows (pa_cons (pv 1) pa_nil)) (pe_one (pe_or (pe_cmpR op_ne (pv 0) pe_str (nomark _)) (pe_one (pe_cmpR op_ge (pv 1) pe_int (nomark _)))))))))), ?_⟩
    rcases hx with ⟨e, ex⟩ | ⟨e, i, ex⟩
    · subst e ex
      refine ⟨fun _ _ => False, s_if (b := true) (et_is (et_test (ev_op (ev_var rfl) ev_c (rv_eq rfl))) (by rfl)) (fun _ H1 e1 => ?_) (fun h => nomatch h), fun _ _ h => h.elim⟩
      exact s_ret (ev_f (ea_cons (ev_var rfl) ea_nil) fun H2 e2 Q q => ⟨rfl, q⟩) fun H2 e2 => k H2 (Same.trans e1 e2)
    · subst ex
      have nk : ∀ z : Str, (z = "k" ∨ z = "q" ∨ z = "n") → decide (V.str sg = V.str z) = false := fun z hz => by
        refine decide_eq_false fun h => ?_
        injection h with h
        subst h
        rcases e with e | e <;> rcases hz with q | q | q <;> (rw [e] at q; exact absurd q (by decide +kernel))
      refine ⟨fun σ' H' => σ' = [some (.str sg), some (.int i)] ∧ Same H H', s_if (b := false) (et_is (et_test (ev_op (ev_var rfl) ev_c (rv_eq rfl))) (nk "k" (Or.inl rfl))) (fun h => nomatch h) (fun _ H1 e1 => ⟨rfl, e1⟩), ?_⟩
      rintro _ H1 ⟨rfl, e1⟩
      refine ⟨fun σ' H' => σ' = [some (.str sg), some (.int i)] ∧ Same H H', s_if (b := false) (et_and (a := false) (b := false) (et_is (et_test (ev_op (ev_var rfl) ev_c (rv_eq rfl))) (nk "q" (Or.inr (Or.inl rfl)))) (fun h => nomatch h)) (fun h => nomatch h) (fun _ H2 e2 => ⟨rfl, Same.trans e1 e2⟩), ?_⟩
      rintro _ H2 ⟨rfl, e2⟩
      refine s_ret (ev_andV (a := true) (b := true) (ev_f (ea_cons (ev_var rfl) ea_nil) fun H2 e2 Q q => ⟨i, rfl, q⟩) fun _ => ev_orV (a := true) (b := true) (ev_is (ev_op (ev_var rfl) ev_c (rv_ne rfl)) (by rw [nk "n" (Or.inr (Or.inr rfl))]; rfl)) (fun h => nomatch h)) fun H3 e3 => k H3 (Same.trans e2 e3)
def sp_is_row (K : PySem.W.Frag) : Sp := fun vs H Q _ => ∃ (rw_ : Addr) (r : RowV), vs = [.ref rw_] ∧ H rw_ = some (.tup r.items) ∧ r.ok ∧ ∀ H', Same H H' → Q (.bl true) H'
-- 0 thing, 1 signs, 2 sign, 3 one
abbrev n_is_row : List Str := ["thing", "signs", "sign", "one"]
theorem sc_is_row : FnScope n_is_row ["thing"] (defScope s_is_row) := ⟨rfl, rfl, rfl, by decide +kernel, rfl, by decide +kernel, by decide +kernel⟩
theorem ok_is_row (T : Txt w K mg) : Good P w K mg base 3 (He.ga K "is_row") ["thing"] (sp_is_row K) := by
  refine good_mk T.D_is_row sc_is_row (fun _ _ _ _ _ _ us hl => match us, hl with | [_], _ => rfl) (fun vs H Q E h => ?_) (fun cdv A0 outer s H vs Q E hr h => ?_)
  · obtain ⟨rw_, r, rfl, _⟩ := h
    rfl
  · obtain ⟨rw_, r, rfl, hr0, ok, k⟩ := h
    obtain ⟨es, n, DF⟩ := T.forms
    refine ⟨_, (pss_cut (ps_if (PW.pt (pw_or (pt_not (pt_val (pe_callB call_isi (by rfl) T.z_isinstance (by decide +kernel) (pa_cons (pv 0) (pa_cons (pe_bltn (v := .ty "tuple") (by rfl) T.z_tuple (by decide +kernel) rfl) pa_nil))))) (pw_or (pt_cmpR op_eq (pe_callB call_len (by rfl) T.z_len PySem.boot_len (pa_cons (pv 0) pa_nil)) pe_int (nomark _)) (pw_or (pt_not (pt_val (pe_callB call_isi (by rfl) T.z_isinstance (by decide +kernel) (pa_cons (pe_ix ix_tup (pv 0) pe_int (fun _ _ => rfl)) (pa_cons (pe_bltn (v := .ty "str") (by rfl) T.z_str (by decide +kernel) rfl) pa_nil))))) (pw_or1 (pt_cmpR (op_notIn_kd DF) (pe_ix ix_tup (pv 0) pe_int (fun _ _ => rfl)) (pe_glob (v := .ref (He.ga K "FORMS")) rfl T.g_FORMS rfl) rfl)))))) (pss_one (ps_ret pe_bl)) pss_nil)
      (pss_cons (ps_set (i := 1) sc_is_row.nd rfl (Or.inl rfl) (pe_ix ix_kdict (pe_glob (v := .ref (He.ga K "FORMS")) rfl T.g_FORMS rfl) (pe_ix ix_tup (pv 0) pe_int (fun _ _ => rfl)) (fun _ _ => rfl)))
      (pss_cut (ps_if (pt_cmpR op_ne (pe_callB call_len (by rfl) T.z_len PySem.boot_len (pa_cons (pv 0) pa_nil)) (pe_op op_add pe_int (pe_callB call_len (by rfl) T.z_len PySem.boot_len (pa_cons (pv 1) pa_nil))) (nomark _)) (pss_one (ps_ret pe_bl)) pss_nil)
      (pss_one (ps_ret (pe_callB (cr_all rfl) (by rfl) T.z_all (by decide +kernel) (pa_cons (pe_lc (own := [("sign", 2), ("one", 3)]) (g := gTup K 2 (gCons (gName 2) (gCons (gName 3) gNil))) (tt := tYes) (te := (tCall (sp_fits_form K) [] E0 (tCons (tVar 2) (tCons (tVar 3) tNil)))) (by rfl) sc_is_row.nd (pi_zipG rfl T.z_zip (pa_cons (pv 1) (pa_cons (pe_slice sl_tup (pv 0) (po_some pe_int) po_none) pa_nil))) (blkOk_by (own := [("sign", 2), ("one", 3)]) (N := n_is_row) (sc := defScope s_is_row) (by decide +kernel)) (fun _ _ _ _ _ => (pg_tup rfl (pgs_cons (pg_name (i := 2) sc_is_row.nd rfl (Or.inl rfl)) (pgs_cons (pg_name (i := 3) sc_is_row.nd rfl (Or.inl rfl)) pgs_nil)))) (fun _ _ _ _ _ => pts_nil) (fun _ _ _ _ _ => (pe_f (ok_fits_form T) (hr.mono (by decide)) T.g_fits_form (pa_cons (pv 2) (pa_cons (pv 3) pa_nil))))) pa_nil))))))), ?_⟩
    rw [r.eq] at hr0
    have h0 : ∀ {σ : L2.St} {H1 : Hp}, Same H H1 → σ[0]? = some (some (.ref rw_)) → Ev (tOp (rIxT K) (tVar 0) (tC (.int 0))) σ H1 (.str r.word) := fun e h => ev_ixt (n := 0) (ev_var h) (st_of (e _ _ hr0)) ev_c rfl
    obtain ⟨u, hu, hru⟩ := row_form T r ok
    have ct : ∀ {H1 : Hp}, Same H H1 → TyX K H1 (.ref rw_) (.type "tuple") := fun e => .base (.tup (e _ _ hr0))
    refine ⟨fun σ' H' => σ' = [some (.ref rw_), none, none, none] ∧ Same H H', s_if (b := false) ?_ (fun h => nomatch h) (fun _ H1 e1 => ⟨rfl, e1⟩), ?_⟩
    · refine et_or (a := false) (b := false) (et_not (a := true) (et_B (ev_isi (a := "tuple") (ev_var rfl) (fun H1 e => ct e) (kit_ty (by decide +kernel))))) fun _ => ?_
      refine et_or (a := false) (b := false) (et_is (et_test (ev_op (ev_cb (ea_cons (ev_var rfl) ea_nil) (rc_len (st_of hr0))) ev_c (rv_eq rfl))) (by rfl)) fun _ => ?_
      refine et_or (a := false) (b := false) (et_not (a := true) (et_B (ev_isi (a := "str") (h0 (Same.refl _) rfl) (fun H1 e => .base (.str _)) (kit_ty (by decide +kernel))))) fun _ => ?_
      exact et_test (ev_op (h0 (Same.refl _) rfl) ev_c fun H1 e Q q => ⟨_, _, rfl, rfl, hu, q H1 (Ex.refl _)⟩)
    rintro _ H1 ⟨rfl, e1⟩
    refine q_asg (ev_kd ev_c (h0 e1 rfl) (row_kd T r ok)) fun H2 e2 => ?_
    have e2 := Same.trans e1 e2
    refine ⟨fun σ' H' => σ' = [some (.ref rw_), some (.str r.form), none, none] ∧ Same H H', s_if (b := false) ?_ (fun h => nomatch h) (fun _ H3 e3 => ⟨rfl, Same.trans e2 e3⟩), ?_⟩
    · refine et_is (et_test (ev_op (ev_cb (ea_cons (ev_var rfl) ea_nil) (rc_len (st_of (e2 _ _ hr0)))) (ev_op ev_c (ev_cb (ea_cons (ev_var rfl) ea_nil) (rc_lenS (by rw [r.form_len]; decide))) rv_I0) (rv_ne rfl))) ?_
      rw [r.form_len]
      rfl
    rintro _ H3 ⟨rfl, e3⟩
    refine s_ret (ev_cbL (el_zipAll (ps := r.pairs) (fun _ => .bl true) (harg_st (ev_var rfl) (ys := [r.a1, r.a2]) (eu_sl (xs := [.str r.word, r.a1, r.a2]) (ev_var rfl) (eo_some ev_c) eo_none (st_of (e3 _ _ hr0)) (by show ¬ (1 = 0 ∧ _); simp)) r.zp) (by cases r <;> (show 2 ≤ 40000; decide)) (fun _ _ => rfl) (fun q hq H4 e4 => ?_)) (v := .bl true) (fun p H4 e4 h4 => ?_)) fun H4 e4 => k H4 (Same.trans e3 e4)
    · refine ev_f (ea_cons (ev_var rfl) (ea_cons (ev_var rfl) ea_nil)) fun H5 e5 Q qq => ?_
      cases r with
      | new z =>
        simp [RowV.pairs] at hq
        rcases hq with h | h
        · subst h; exact ⟨"w", _, rfl, Or.inr ⟨Or.inr rfl, z, rfl⟩, qq⟩
        · subst h; exact ⟨"k", _, rfl, Or.inl ⟨rfl, rfl⟩, qq⟩
      | two wd a b =>
        simp [RowV.pairs] at hq
        rcases hq with h | h
        · subst h; exact ⟨"p", _, rfl, Or.inr ⟨Or.inl rfl, _, rfl⟩, qq⟩
        · subst h; exact ⟨"p", _, rfl, Or.inr ⟨Or.inl rfl, _, rfl⟩, qq⟩
    · have e := rc_all (K := K) (H := H4) (a := p) (bs := r.pairs.map fun _ => true) (by rw [List.map_map]; exact h4)
      have e2 : (r.pairs.map fun _ => true).all id = true := by cases r <;> rfl
      rw [e2] at e
      exact e
def RowV.deed : RowV → Bool
  | .new _ => true
  | .two wd _ _ => decide (wd = "tie") || decide (wd = "cut")
def sp_is_deed (K : PySem.W.Frag) : Sp := fun vs H Q _ => ∃ (rw_ : Addr) (r : RowV), vs = [.ref rw_] ∧ H rw_ = some (.tup r.items) ∧ r.ok ∧ ∀ H', Same H H' → Q (.bl r.deed) H'
-- 0 row
abbrev n_is_deed : List Str := ["row"]
theorem sc_is_deed : FnScope n_is_deed ["row"] (defScope s_is_deed) := ⟨rfl, rfl, rfl, by decide +kernel, rfl, by decide +kernel, by decide +kernel⟩
theorem ok_is_deed (T : Txt w K mg) : Good P w K mg base 1 (He.ga K "is_deed") ["row"] (sp_is_deed K) := by
  refine good_mk T.D_is_deed sc_is_deed (fun _ _ _ _ _ _ us hl => match us, hl with | [_], _ => rfl) (fun vs H Q E h => ?_) (fun cdv A0 outer s H vs Q E hr h => ?_)
  · obtain ⟨rw_, r, rfl, _⟩ := h
    rfl
  · obtain ⟨rw_, r, rfl, hr0, ok, k⟩ := h
    refine ⟨_, (pss_one (ps_ret (pe_cmpR op_in_seq (pe_ix ix_tup (pv 0) pe_int (fun _ _ => rfl)) (pe_glob (v := .ref (He.ga K "DEEDS")) rfl T.g_DEEDS rfl) rfl))), ?_⟩
    rw [r.eq] at hr0
    refine s_ret (ev_op (ev_ixt (n := 0) (ev_var rfl) (st_of hr0) ev_c rfl) ev_c fun H1 e Q q => ⟨_, _, rfl, Or.inr (T.deeds H1), rfl, by decide +kernel, ?_⟩) fun H1 e1 => k H1 e1
    have e : inV (.str r.word) [V.str "new", V.str "put", V.str "paint", V.str "tie", V.str "cut", V.str "add", V.str "spread"] = r.deed := by
      cases r with
      | new z => exact (by decide +kernel : inV (.str "new") [V.str "new", V.str "put", V.str "paint", V.str "tie", V.str "cut", V.str "add", V.str "spread"] = true)
      | two wd a b =>
        show inV (.str wd) _ = (decide (wd = "tie") || decide (wd = "cut"))
        rcases ok with e | e | e | e | e <;> subst e <;> decide +kernel
    show Q (.bl (inV (.str r.word) [V.str "new", V.str "put", V.str "paint", V.str "tie", V.str "cut", V.str "add", V.str "spread"])) H1
    rw [e]
    exact q H1 (Ex.refl _)
section
variable {σ : L2.St} {H : Hp} {ta tb tc te : TE} {t : TA}
theorem eu_tupOf {xs : List V} (h : EvL te σ H xs) : EvU (tThen te (kTup K)) σ H xs := fun H1 e Q q =>
  h H1 e _ fun p H2 hp e2 h2 => Or.inl ⟨p, xs, rfl, sq_of h2, fun r hr => q r _ (fresh_back e2 hr) (Ex.trans e2 (Ex.new hr)) upd_same⟩
theorem eu_f {sp : Sp} {vs xs : List V} (hv : EvA t σ H vs) (hs : ∀ H1, Same H H1 → ∀ Q : VK, (∀ p H2, H1 p = none → Same H1 H2 → H2 p = some (.tup xs) → Q (.ref p) H2) → sp vs H1 Q E0) : EvU (tCall sp [] E0 t) σ H xs := fun H1 e Q q =>
  hv H1 e _ fun H2 e2 => by
    rw [List.append_nil]
    exact hs H2 (Same.trans e e2) Q fun p H3 hp e3 h3 => q p H3 (fresh_back e2 hp) (Ex.trans e2 e3) h3
end
def RowV.pts : RowV → List Nat
  | .new _ => []
  | .two _ a b => [a, b]
def sp_points_of (K : PySem.W.Frag) : Sp := fun vs H Q _ => ∃ (rw_ : Addr) (r : RowV), vs = [.ref rw_] ∧ H rw_ = some (.tup r.items) ∧ r.ok ∧ ∀ p H', H p = none → Same H H' → H' p = some (.tup (r.pts.map fun x : Nat => V.int (x : Int))) → Q (.ref p) H'
-- 0 row, 1 sign, 2 one
abbrev n_points_of : List Str := ["row", "sign", "one"]
theorem sc_points_of : FnScope n_points_of ["row"] (defScope s_points_of) := ⟨rfl, rfl, rfl, by decide +kernel, rfl, by decide +kernel, by decide +kernel⟩
theorem ok_points_of (T : Txt w K mg) : Good P w K mg base 1 (He.ga K "points_of") ["row"] (sp_points_of K) := by
  refine good_mk T.D_points_of sc_points_of (fun _ _ _ _ _ _ us hl => match us, hl with | [_], _ => rfl) (fun vs H Q E h => ?_) (fun cdv A0 outer s H vs Q E hr h => ?_)
  · obtain ⟨rw_, r, rfl, _⟩ := h
    rfl
  · obtain ⟨rw_, r, rfl, hr0, ok, k⟩ := h
    refine ⟨_, (pss_one (ps_ret (pe_tupleOf rfl T.z_tuple (pe_lc (own := [("sign", 1), ("one", 2)]) (g := gTup K 2 (gCons (gName 1) (gCons (gName 2) gNil))) (tt := _) (te := (tVar 2)) (by rfl) sc_points_of.nd (pi_zipG rfl T.z_zip (pa_cons (pe_ix ix_kdict (pe_glob (v := .ref (He.ga K "FORMS")) rfl T.g_FORMS rfl) (pe_ix ix_tup (pv 0) pe_int (fun _ _ => rfl)) (fun _ _ => rfl)) (pa_cons (pe_slice sl_tup (pv 0) (po_some pe_int) po_none) pa_nil))) (blkOk_by (own := [("sign", 1), ("one", 2)]) (N := n_points_of) (sc := defScope s_points_of) (by decide +kernel)) (fun _ _ _ _ _ => (pg_tup rfl (pgs_cons (pg_name (i := 1) sc_points_of.nd rfl (Or.inl rfl)) (pgs_cons (pg_name (i := 2) sc_points_of.nd rfl (Or.inl rfl)) pgs_nil)))) (fun _ _ _ _ _ => (pts_one (PW.pt (pw_and (pt_cmpR op_in_sign (pv 1) pe_str rfl) (pw_and1 (pt_cmpR op_notN (pv 2) pe_non (nomark _))))))) (fun _ _ _ _ _ => (pv 2)))))), ?_⟩
    rw [r.eq] at hr0
    have e := eu_tupOf (K := K) (el_zip (K := K) (σ := start n_points_of [.ref rw_]) (H := H) (te := tVar 2) (t := tAnd (tTest (tOp (fun x y H Q => ∃ (c : Nat) (z : Str), x = .str ⟨#[c]⟩ ∧ y = .str z ∧ Q (.bl (decide (c ∈ z.cps.toList))) H) (tVar 1) (tC (.str "pq")))) (tTest (tOp (fun x y H Q => y = V.non ∧ Q (.bl (!decide (x = .non))) H) (tVar 2) (tC .non))))
      (i := 1) (j := 2) (vs := [1, 2]) (ps := r.pairs) (fun q => decide (q.1 = .str "p")) (fun q => q.2)
      (targ := tCons (tOp (rIxD K w) (tC (.ref (He.ga K "FORMS"))) (tOp (rIxT K) (tVar 0) (tC (.int 0)))) (tCons (tSl (rSlT K) (tVar 0) (tPart (tC (.int 1))) tNoPart) tNil))
      (harg_st (ev_kd ev_c (ev_ixt (n := 0) (ev_var rfl) (st_of hr0) ev_c rfl) (row_kd T r ok)) (ys := [r.a1, r.a2]) (eu_sl (xs := [.str r.word, r.a1, r.a2]) (ev_var rfl) (eo_some ev_c) eo_none (st_of hr0) (by show ¬ (1 = 0 ∧ _); simp)) r.zp)
      (by cases r <;> (show 2 ≤ 40000; decide)) (fun _ _ => rfl) (fun q hq H1 e1 => ?_) (fun q hq hp H1 e1 => ev_var rfl))
    · have eq : (r.pairs.filter fun q => decide (q.1 = .str "p")).map (fun q => q.2) = r.pts.map fun x : Nat => V.int (x : Int) := by
        cases r with
        | new z => rfl
        | two wd a b => rfl
      rw [eq] at e
      exact s_retU e fun p H1 hp e1 h1 => k p H1 hp e1 h1
    · have hq' : (q.1 = .str "w" ∨ q.1 = .str "k" ∨ q.1 = .str "p") ∧ q.2 ≠ .non := by
        cases r with
        | new z =>
          simp [RowV.pairs] at hq
          rcases hq with h | h <;> subst h
          · exact ⟨Or.inl rfl, by simp⟩
          · exact ⟨Or.inr (Or.inl rfl), by simp⟩
        | two wd a b =>
          simp [RowV.pairs] at hq
          rcases hq with h | h <;> subst h <;> exact ⟨Or.inr (Or.inr rfl), by simp⟩
      obtain ⟨h1, h2⟩ := hq'
      have hs : ∃ c : Nat, q.1 = .str ⟨#[c]⟩ ∧ decide (c ∈ ("pq" : Str).cps.toList) = decide (q.1 = .str "p") := by
        rcases h1 with h | h | h
        · exact ⟨119, by rw [h]; rfl, by rw [h]; decide +kernel⟩
        · exact ⟨107, by rw [h]; rfl, by rw [h]; decide +kernel⟩
        · exact ⟨112, by rw [h]; rfl, by rw [h]; decide +kernel⟩
      obtain ⟨c, hc1, hc2⟩ := hs
      refine et_is (et_and (a := decide (q.1 = .str "p")) (b := true) (et_test (ev_op (ev_var rfl) ev_c fun H2 _ Q k => ⟨c, "pq", hc1, rfl, by rw [hc2]; exact k H2 (Ex.refl _)⟩)) fun _ => et_is (et_test (ev_op (ev_var rfl) ev_c fun H2 _ Q k => ⟨rfl, k H2 (Ex.refl _)⟩)) (by rw [decide_eq_false h2]; rfl)) (Bool.and_true _)
def sp_look_row (K : PySem.W.Frag) : Sp := fun vs H Q _ => ∃ (rw_ : Addr) (r : RowV) (n : Nat), vs = [.ref rw_, .int (n : Int)] ∧ H rw_ = some (.tup r.items) ∧ r.ok ∧ (∀ x ∈ r.pts, x < n) ∧ ∀ H', Same H H' → Q .non H'
-- 0 row, 1 many, 2 point
abbrev n_look_row : List Str := ["row", "many", "point"]
theorem sc_look_row : FnScope n_look_row ["row", "many"] (defScope s_look_row) := ⟨rfl, rfl, rfl, by decide +kernel, rfl, by decide +kernel, by decide +kernel⟩
theorem ok_look_row (T : Txt w K mg) : Good P w K mg base 4 (He.ga K "look_row") ["row", "many"] (sp_look_row K) := by
  refine good_mk T.D_look_row sc_look_row (fun _ _ _ _ _ _ us hl => match us, hl with | [_, _], _ => rfl) (fun vs H Q E h => ?_) (fun cdv A0 outer s H vs Q E hr h => ?_)
  · obtain ⟨rw_, r, n, rfl, _⟩ := h
    rfl
  · obtain ⟨rw_, r, n, rfl, hr0, ok, hp, k⟩ := h
    refine ⟨_, (pss_cut (ps_if (pt_not (pt_val (pe_f (ok_is_row T) (hr.mono (by decide)) T.g_is_row (pa_cons (pv 0) pa_nil)))) (pss_one ps_never) pss_nil)
      (pss_one (ps_if (pt_not (pt_val (pe_callB (cr_all rfl) (by rfl) T.z_all (by decide +kernel) (pa_cons (pe_lc (own := [("point", 2)]) (g := gName 2) (tt := tYes) (te := (tChain (rI0 fun i j => .bl (decide (i ≤ j))) (rI0 fun i j => .bl (decide (i < j))) (tC (.int 0)) (tVar 2) (tVar 1))) (by rfl) sc_look_row.nd (pi_tup (pe_f (ok_points_of T) (hr.mono (by decide)) T.g_points_of (pa_cons (pv 0) pa_nil))) (blkOk_by (own := [("point", 2)]) (N := n_look_row) (sc := defScope s_look_row) (by decide +kernel)) (fun _ _ _ _ _ => (pg_name (i := 2) sc_look_row.nd rfl (Or.inl rfl))) (fun _ _ _ _ _ => pts_nil) (fun _ _ _ _ _ => (pe_chain op_le op_lt pe_int (pv 2) (pv 1)))) pa_nil)))) (pss_one ps_never) pss_nil))), ?_⟩
    refine ⟨fun σ' H' => σ' = [some (.ref rw_), some (.int (n : Int)), none] ∧ Same H H', s_if (b := false) (et_not (a := true) (et_B (ev_f (ea_cons (ev_var rfl) ea_nil) fun H1 e1 Q q => ⟨rw_, r, rfl, e1 _ _ hr0, ok, q⟩))) (fun h => nomatch h) (fun _ H1 e1 => ⟨rfl, e1⟩), ?_⟩
    rintro _ H1 ⟨rfl, e1⟩
    refine s_if (b := false) (et_not (a := true) (et_B (ev_cbL (el_all_pts (n := n) (K := K) (g := r.pts) hp (eu_f (ea_cons (ev_var rfl) ea_nil) fun H2 e2 Q q => ⟨rw_, r, rfl, e2 _ _ (e1 _ _ hr0), ok, q⟩) (by cases r <;> simp [RowV.pts])) (v := .bl true) fun p H4 e4 h4 => ?_))) (fun h => nomatch h) (fun _ H2 e2 => k H2 (Same.trans e1 e2))
    have e := rc_all (K := K) (H := H4) (a := p) (bs := r.pts.map fun _ => true) (by rw [List.map_map]; exact h4)
    have e2 : (r.pts.map fun _ => true).all id = true := by cases r <;> rfl
    rw [e2] at e
    exact e
end
end K73
end
section
set_option maxHeartbeats 4000000
namespace K73
open PySem PySem.Spec PyProof.Rows L2 Evl
/-! ### Ways: lead by lead -/
def wf_ (A : SA) : List (Str × V) := [("strands", .ref A.p)]
structure Wy (K : PySem.W.Frag) (q : Addr) (A : SA) (c : C) (j : J) (H : Hp) : Prop where
  ob : ∃ dx, H q = some (.ins (aW K) dx (wf_ A))
  arr : Arr (aS K) A c j H
theorem Wy.fr {K : PySem.W.Frag} {q : Addr} {A : SA} {c c' : C} {j j' : J} {H H' : Hp} (Y : Wy K q A c j H) (F : Fr A H H') (R : Arr (aS K) A c' j' H') : Wy K q A c' j' H' := by
  obtain ⟨dx, h⟩ := Y.ob
  exact ⟨⟨dx, F _ _ h (mut_ne Y.arr h (by intro xs e; cases e))⟩, R⟩
theorem Wy.ex {K : PySem.W.Frag} {q : Addr} {A : SA} {c : C} {j : J} {H H' : Hp} (Y : Wy K q A c j H) (e : Same H H') : Wy K q A c j H' := Y.fr (Fr.ex e) (Y.arr.ex e)
theorem wf_no (A : SA) {m : Str} (h : (["strands"] : List Str).contains m = false) : (wf_ A).lookup m = none := lookup_no h
theorem wf_at (A : SA) : (wf_ A).lookup ("strands" : Str) = some (.ref A.p) := rfl
def Joined (c : C) (a b : Nat) (c' : C) : Prop := ∃ (c1 : C) (l1 l2 : Nat), Leads c a c1 l1 ∧ Leads c1 b c' l2
def joinedB (c' : C) (a b : Nat) : Bool := decide (a = b) || (c'.above a).isSome
def Opened (c : C) (a b : Nat) (c' : C) : Prop := ∃ (c1 : C) (l1 l2 : Nat), Leads c a c1 l1 ∧ Leads (flipAt c1 (some a)) b c' l2
def OpenWay (c : C) (a b : Nat) (c' : C) : Prop := ∃ c1, Joined c a b c1 ∧ joinedB c1 a b = true ∧ Opened c1 a b c'
def Tied (c : C) (a b : Nat) (c' : C) : Prop := ∃ c1 c2, Joined c a b c1 ∧ joinedB c1 a b = false ∧ Opened c1 b a c2 ∧ c' = gather { c2 with above := up c2.above b (some a) } a
def Cutted (c : C) (a b : Nat) (c' : C) : Prop := ∃ c1, Opened c a b c1 ∧ a ≠ b ∧ c1.left b = some a ∧ c1.many b = 2 ∧ c' = gather { c1 with left := up c1.left b none, above := up c1.above a none } b
theorem LeadR.keeps {k last l' : Nat} {c c' : C} (h : LeadR k last c l' c') : WF c → last < c.n → WF c' ∧ c'.n = c.n ∧ l' < c'.n := by
  induction h with
  | done _ => intro wf hl; exact ⟨wf, rfl, hl⟩
  | @step c c1 c' last u l' k h1 h2 h3 h4 ih =>
    intro wf hl
    obtain ⟨wf1, n1, hu⟩ := h2.keeps
    obtain ⟨a, b, d⟩ := ih (wf_takeIn (wf_letGo wf1) (by rw [letGo_n, n1]; exact hl)) (by show u < (letGo c1 u).n; rw [letGo_n, n1]; exact hu)
    exact ⟨a, b.trans ((letGo_n c1 u).trans n1), d⟩
theorem Leads.keeps {c c' : C} {p last : Nat} (h : Leads c p c' last) : WF c' ∧ c'.n = c.n ∧ p < c.n := by
  obtain ⟨c1, c2, k, l1, _, lr, l2⟩ := h
  obtain ⟨wf1, n1, hp⟩ := l1.keeps
  obtain ⟨wf2, n2, _⟩ := lr.keeps (wf_letGo wf1) (by rw [letGo_n, n1]; exact hp)
  obtain ⟨wf3, n3, _⟩ := l2.keeps
  exact ⟨wf3, n3.trans (n2.trans ((letGo_n _ _).trans n1)), hp⟩
theorem Joined.keeps {c c' : C} {a b : Nat} (h : Joined c a b c') : WF c' ∧ c'.n = c.n ∧ a < c.n ∧ b < c.n := by
  obtain ⟨c1, l1, l2, h1, h2⟩ := h
  obtain ⟨_, n1, ha⟩ := h1.keeps
  obtain ⟨wf2, n2, hb⟩ := h2.keeps
  exact ⟨wf2, n2.trans n1, ha, by rw [← n1]; exact hb⟩
theorem Opened.keeps {c c' : C} {a b : Nat} (h : Opened c a b c') : WF c' ∧ c'.n = c.n ∧ a < c.n ∧ b < c.n := by
  obtain ⟨c1, l1, l2, h1, h2⟩ := h
  obtain ⟨_, n1, ha⟩ := h1.keeps
  obtain ⟨wf2, n2, hb⟩ := h2.keeps
  rw [flipAt_n, n1] at n2
  exact ⟨wf2, n2, ha, by rw [flipAt_n, n1] at hb; exact hb⟩
theorem q_asgE {te : TE} {g : TG} {tz : TS} {D : Ends} {σ : L2.St} {H : Hp} {v : V} (he : Ev te σ H v) (k : ∀ H1, Same H H1 → g v σ H1 (tz D)) : tSeq (tAsg te g) tz D σ H := he H (Ex.refl _) _ k
section
variable {P : Program} {w : World} {K : PySem.W.Frag} {mg : Str → Option Value} {base : Heap}
theorem ev_str (T : Txt w K mg) {q : Addr} {A : SA} {c : C} {j : J} {H : Hp} {σ : L2.St} (Y : Wy K q A c j H) (h : σ[0]? = some (some (.ref q))) : Ev (tFld K (tVar 0) "strands") σ H (.ref A.p) := by
  obtain ⟨dx, ho⟩ := Y.ob
  exact ev_fld (ev_var h) ho T.clW T.nW_strands (wf_at A)
theorem val_str (T : Txt w K mg) {q : Addr} {A : SA} {c : C} {j : J} {H : Hp} {σ : L2.St} (Y : Wy K q A c j H) (h : σ[0]? = some (some (.ref q))) : Val (tFld K (tVar 0) "strands") σ H (.ref A.p) := by
  obtain ⟨dx, ho⟩ := Y.ob
  exact val_fld (val_var h) ho T.clW T.nW_strands (wf_at A)
theorem call_lead {q : Addr} {A : SA} {c c' : C} {j : J} {H : Hp} {p last : Nat} {Q : VK} (Y : Wy K q A c j H) (h : Leads c p c' last) (k : ∀ j' H', Wy K q A c' j' H' → Fr A H H' → Q (.int (last : Int)) H') : sp_Strands_lead K [.ref A.p, .int (p : Int)] H Q E0 :=
  ⟨A, c, c', j, p, last, rfl, Y.arr, h, fun j' H' R F => k j' H' (Y.fr F R) F⟩
def sp_Ways_points (K : PySem.W.Frag) : Sp := fun vs H Q _ => ∃ (q : Addr) (A : SA) (c : C) (j : J), vs = [.ref q] ∧ Wy K q A c j H ∧ ∀ H', Same H H' → Q (.int (c.n : Int)) H'
-- 0 self
abbrev n_Ways_points : List Str := ["self"]
theorem sc_Ways_points : FnScope n_Ways_points ["self"] (defScope s_Ways_points) := ⟨rfl, rfl, rfl, by decide +kernel, rfl, by decide +kernel, by decide +kernel⟩
theorem ok_Ways_points (T : Txt w K mg) : Good P w K mg base 1 (He.ma K (aW K) "points") ["self"] (sp_Ways_points K) := by
  refine good_mk T.D_Ways_points sc_Ways_points (fun _ _ _ _ _ _ us hl => match us, hl with | [_], _ => rfl) (fun vs H Q E h => ?_) (fun cdv A0 outer s H vs Q E hr h => ?_)
  · obtain ⟨q, A, c, j, rfl, _⟩ := h
    rfl
  · obtain ⟨q, A, c, j, rfl, Y, k⟩ := h
    refine ⟨_, (pss_one (ps_ret (pe_callB call_len_seq (by rfl) T.z_len PySem.boot_len (pa_cons (pe_fld (pe_fld (pv 0) rfl) rfl) pa_nil)))), ?_⟩
    refine s_ret (ev_is (ev_len (ev_fld (ev_str T Y rfl) Y.arr.ob T.clS T.nS_left (sf_at A .left)) (sq_of (Y.arr.ls .left))) ?_) (fun H1 e1 => k H1 e1)
    rw [List.length_map, List.length_range]
def sp_Ways_turn_about (K : PySem.W.Frag) : Sp := fun vs H Q _ => ∃ (q : Addr) (A : SA) (c c' : C) (j : J) (p l : Nat), vs = [.ref q, .int (p : Int)] ∧ Wy K q A c j H ∧ Leads c p c' l ∧ ∀ j' H', Wy K q A (flipAt c' (some p)) j' H' → Fr A H H' → Q .non H'
-- 0 self, 1 p
abbrev n_Ways_turn_about : List Str := ["self", "p"]
theorem sc_Ways_turn_about : FnScope n_Ways_turn_about ["self", "p"] (defScope s_Ways_turn_about) := ⟨rfl, rfl, rfl, by decide +kernel, rfl, by decide +kernel, by decide +kernel⟩
theorem ok_Ways_turn_about (T : Txt w K mg) : Good P w K mg base 6 (He.ma K (aW K) "turn_about") ["self", "p"] (sp_Ways_turn_about K) := by
  refine good_mk T.D_Ways_turn_about sc_Ways_turn_about (fun _ _ _ _ _ _ us hl => match us, hl with | [_, _], _ => rfl) (fun vs H Q E h => ?_) (fun cdv A0 outer s H vs Q E hr h => ?_)
  · obtain ⟨q, A, c, c', j, p, l, rfl, _⟩ := h
    rfl
  · obtain ⟨q, A, c, c', j, p, l, rfl, Y, hl, k⟩ := h
    refine ⟨_, (pss_cons (ps_expr (pe_m (pe_fld (pv 0) rfl) T.clS T.mS_lead (ok_Strands_lead T) (hr.mono (by decide)) (pa_cons (pv 1) pa_nil)))
      (pss_one (ps_expr (pe_m (pe_fld (pv 0) rfl) T.clS T.mS_flip (ok_Strands_flip T) (hr.mono (by decide)) (pa_cons (pv 1) pa_nil))))), ?_⟩
    obtain ⟨wf', n', hp⟩ := hl.keeps
    refine call_m (val_str T Y rfl) Y.arr.ob (sf_no A (by decide +kernel)) (vala_cons (val_var rfl) vala_nil) ?_
    refine call_lead Y hl fun j1 H1 Y1 F1 => ?_
    refine call_m (val_str T Y1 rfl) Y1.arr.ob (sf_no A (by decide +kernel)) (vala_cons (val_var rfl) vala_nil) ?_
    exact ⟨A, c', j1, some p, rfl, Y1.arr, fun x e => by cases e; rw [n']; exact hp, fun H2 R2 F2 => k j1 H2 (Y1.fr F2 R2) (F1.trans F2)⟩
def sp_Ways_are_joined (K : PySem.W.Frag) : Sp := fun vs H Q _ => ∃ (q : Addr) (A : SA) (c c' : C) (j : J) (a b : Nat), vs = [.ref q, .int (a : Int), .int (b : Int)] ∧ Wy K q A c j H ∧ Joined c a b c' ∧ ∀ j' H', Wy K q A c' j' H' → Fr A H H' → Q (.bl (joinedB c' a b)) H'
-- 0 self, 1 a, 2 b
abbrev n_Ways_are_joined : List Str := ["self", "a", "b"]
theorem sc_Ways_are_joined : FnScope n_Ways_are_joined ["self", "a", "b"] (defScope s_Ways_are_joined) := ⟨rfl, rfl, rfl, by decide +kernel, rfl, by decide +kernel, by decide +kernel⟩
theorem ok_Ways_are_joined (T : Txt w K mg) : Good P w K mg base 6 (He.ma K (aW K) "are_joined") ["self", "a", "b"] (sp_Ways_are_joined K) := by
  refine good_mk T.D_Ways_are_joined sc_Ways_are_joined (fun _ _ _ _ _ _ us hl => match us, hl with | [_, _, _], _ => rfl) (fun vs H Q E h => ?_) (fun cdv A0 outer s H vs Q E hr h => ?_)
  · obtain ⟨q, A, c, c', j, a, b, rfl, _⟩ := h
    rfl
  · obtain ⟨q, A, c, c', j, a, b, rfl, Y, hj, k⟩ := h
    refine ⟨_, (pss_cons (ps_expr (pe_m (pe_fld (pv 0) rfl) T.clS T.mS_lead (ok_Strands_lead T) (hr.mono (by decide)) (pa_cons (pv 1) pa_nil)))
      (pss_cons (ps_expr (pe_m (pe_fld (pv 0) rfl) T.clS T.mS_lead (ok_Strands_lead T) (hr.mono (by decide)) (pa_cons (pv 2) pa_nil)))
      (pss_one (ps_ret (pe_or (pe_cmpR op_eq (pv 1) (pv 2) (nomark _)) (pe_one (pe_cmpR op_notN (pe_ix ix_list (pe_fld (pe_fld (pv 0) rfl) rfl) (pv 1) (fun _ _ => rfl)) pe_non (nomark _)))))))), ?_⟩
    obtain ⟨_, n', ha, hb⟩ := hj.keeps
    obtain ⟨c1, l1, l2, h1, h2⟩ := hj
    refine call_m (val_str T Y rfl) Y.arr.ob (sf_no A (by decide +kernel)) (vala_cons (val_var rfl) vala_nil) ?_
    refine call_lead Y h1 fun j1 H1 Y1 F1 => ?_
    refine call_m (val_str T Y1 rfl) Y1.arr.ob (sf_no A (by decide +kernel)) (vala_cons (val_var rfl) vala_nil) ?_
    refine call_lead Y1 h2 fun j2 H2 Y2 F2 => ?_
    have hd : decide (V.int (a : Int) = V.int (b : Int)) = decide (a = b) := by
      rw [Bool.eq_iff_iff, decide_eq_true_iff, decide_eq_true_iff]
      constructor
      · intro h; injection h with h; exact Int.ofNat.inj h
      · intro h; rw [h]
    refine s_ret (ev_orV (a := decide (a = b)) (b := (c'.above a).isSome) (ev_is (ev_op (ev_var rfl) (ev_var rfl) (rv_eq rfl)) (by rw [hd])) fun _ => ev_is (ev_op (ev_rd T.clS (noS T) Y2.arr .above (by rw [n']; exact ha) (ev_str T Y2 rfl) (ev_var rfl)) ev_c (z := .bl (!decide (mOf c' j2 .above a = .non))) (rv_val fun H1 _ Q q => ⟨rfl, q⟩)) ?_) fun H3 e3 => k j2 H3 (Y2.ex e3) ((F1.trans F2).trans (Fr.ex e3))
    rw [show decide (mOf c' j2 .above a = V.non) = (c'.above a).isNone from ov_non]
    cases c'.above a <;> rfl
/-- turn_about, then lead -/
theorem call_opened (T : Txt w K mg) {q : Addr} {A : SA} {c c' : C} {j : J} {H : Hp} {a b : Nat} {σ : L2.St} {D : Ends} {tz : TS} {ia ib : Nat} (Y : Wy K q A c j H) (h : Opened c a b c') (h0 : σ[0]? = some (some (.ref q))) (ha : σ[ia]? = some (some (.int (a : Int)))) (hb : σ[ib]? = some (some (.int (b : Int))))
    (k : ∀ j' H', Wy K q A c' j' H' → Fr A H H' → tz D σ H') : tSeq (tDrop (tMeth (aW K) "turn_about" (sp_Ways_turn_about K) [] E0 (tVar 0) (tCons (tVar ia) tNil))) (tSeq (tDrop (tMeth (aS K) "lead" (sp_Strands_lead K) [] E0 (tFld K (tVar 0) "strands") (tCons (tVar ib) tNil))) tz) D σ H := by
  obtain ⟨c1, l1, l2, h1, h2⟩ := h
  obtain ⟨dx, ho⟩ := Y.ob
  refine call_m (val_var h0) ho (wf_no A (by decide +kernel)) (vala_cons (val_var ha) vala_nil) ?_
  refine ⟨q, A, c, c1, j, a, l1, rfl, Y, h1, fun j1 H1 Y1 F1 => ?_⟩
  refine call_m (val_str T Y1 h0) Y1.arr.ob (sf_no A (by decide +kernel)) (vala_cons (val_var hb) vala_nil) ?_
  exact call_lead Y1 h2 fun j2 H2 Y2 F2 => k j2 H2 Y2 (F1.trans F2)
def sp_Ways_open_way (K : PySem.W.Frag) : Sp := fun vs H Q _ => ∃ (q : Addr) (A : SA) (c c' : C) (j : J) (a b : Nat), vs = [.ref q, .int (a : Int), .int (b : Int)] ∧ Wy K q A c j H ∧ OpenWay c a b c' ∧ ∀ j' H', Wy K q A c' j' H' → Fr A H H' → Q .non H'
-- 0 self, 1 a, 2 b
abbrev n_Ways_open_way : List Str := ["self", "a", "b"]
theorem sc_Ways_open_way : FnScope n_Ways_open_way ["self", "a", "b"] (defScope s_Ways_open_way) := ⟨rfl, rfl, rfl, by decide +kernel, rfl, by decide +kernel, by decide +kernel⟩
theorem ok_Ways_open_way (T : Txt w K mg) : Good P w K mg base 7 (He.ma K (aW K) "open_way") ["self", "a", "b"] (sp_Ways_open_way K) := by
  refine good_mk T.D_Ways_open_way sc_Ways_open_way (fun _ _ _ _ _ _ us hl => match us, hl with | [_, _, _], _ => rfl) (fun vs H Q E h => ?_) (fun cdv A0 outer s H vs Q E hr h => ?_)
  · obtain ⟨q, A, c, c', j, a, b, rfl, _⟩ := h
    rfl
  · obtain ⟨q, A, c, c', j, a, b, rfl, Y, ⟨c1, hj, hb, ho⟩, k⟩ := h
    refine ⟨_, (pss_cut (ps_if (pt_not (pt_val (pe_m (pv 0) T.clW T.mW_are_joined (ok_Ways_are_joined T) (hr.mono (by decide)) (pa_cons (pv 1) (pa_cons (pv 2) pa_nil))))) (pss_one ps_never) pss_nil)
      (pss_cons (ps_expr (pe_m (pv 0) T.clW T.mW_turn_about (ok_Ways_turn_about T) (hr.mono (by decide)) (pa_cons (pv 1) pa_nil)))
      (pss_one (ps_expr (pe_m (pe_fld (pv 0) rfl) T.clS T.mS_lead (ok_Strands_lead T) (hr.mono (by decide)) (pa_cons (pv 2) pa_nil)))))), ?_⟩
    obtain ⟨dx, hob⟩ := Y.ob
    refine ⟨fun σ' H' => σ' = [some (.ref q), some (.int (a : Int)), some (.int (b : Int))] ∧ ∃ j1, Wy K q A c1 j1 H' ∧ Fr A H H', ?_, ?_⟩
    · refine call_m (val_var rfl) hob (wf_no A (by decide +kernel)) (vala_cons (val_var rfl) (vala_cons (val_var rfl) vala_nil)) ?_
      refine ⟨q, A, c, c1, j, a, b, rfl, Y, hj, fun j1 H1 Y1 F1 => ⟨_, rfl, ?_⟩⟩
      rw [hb]
      exact iteF ⟨rfl, j1, Y1, F1⟩
    · rintro _ H1 ⟨rfl, j1, Y1, F1⟩
      obtain ⟨c2, l1, l2, h1, h2⟩ := ho
      obtain ⟨dx1, hob1⟩ := Y1.ob
      refine call_m (val_var rfl) hob1 (wf_no A (by decide +kernel)) (vala_cons (val_var rfl) vala_nil) ?_
      refine ⟨q, A, c1, c2, j1, a, l1, rfl, Y1, h1, fun j2 H2 Y2 F2 => ?_⟩
      refine call_m (val_str T Y2 rfl) Y2.arr.ob (sf_no A (by decide +kernel)) (vala_cons (val_var rfl) vala_nil) ?_
      exact call_lead Y2 h2 fun j3 H3 Y3 F3 => k j3 H3 Y3 ((F1.trans F2).trans F3)
def sp_Ways_tie (K : PySem.W.Frag) : Sp := fun vs H Q _ => ∃ (q : Addr) (A : SA) (c c' : C) (j : J) (a b : Nat), vs = [.ref q, .int (a : Int), .int (b : Int)] ∧ Wy K q A c j H ∧ Tied c a b c' ∧ ∀ j' H', Wy K q A c' j' H' → Fr A H H' → Q .non H'
-- 0 self, 1 a, 2 b
abbrev n_Ways_tie : List Str := ["self", "a", "b"]
theorem sc_Ways_tie : FnScope n_Ways_tie ["self", "a", "b"] (defScope s_Ways_tie) := ⟨rfl, rfl, rfl, by decide +kernel, rfl, by decide +kernel, by decide +kernel⟩
theorem ok_Ways_tie (T : Txt w K mg) : Good P w K mg base 7 (He.ma K (aW K) "tie") ["self", "a", "b"] (sp_Ways_tie K) := by
  refine good_mk T.D_Ways_tie sc_Ways_tie (fun _ _ _ _ _ _ us hl => match us, hl with | [_, _, _], _ => rfl) (fun vs H Q E h => ?_) (fun cdv A0 outer s H vs Q E hr h => ?_)
  · obtain ⟨q, A, c, c', j, a, b, rfl, _⟩ := h
    rfl
  · obtain ⟨q, A, c, c', j, a, b, rfl, Y, ⟨c1, c2, hj, hb, ho, rfl⟩, k⟩ := h
    refine ⟨_, (pss_cut (ps_if (pt_val (pe_m (pv 0) T.clW T.mW_are_joined (ok_Ways_are_joined T) (hr.mono (by decide)) (pa_cons (pv 1) (pa_cons (pv 2) pa_nil)))) (pss_one ps_never) pss_nil)
      (pss_cons (ps_expr (pe_m (pv 0) T.clW T.mW_turn_about (ok_Ways_turn_about T) (hr.mono (by decide)) (pa_cons (pv 2) pa_nil)))
      (pss_cons (ps_expr (pe_m (pe_fld (pv 0) rfl) T.clS T.mS_lead (ok_Strands_lead T) (hr.mono (by decide)) (pa_cons (pv 1) pa_nil)))
      (pss_cons (ps_asg (pv 1) (pg_sub (pe_fld (pe_fld (pv 0) rfl) rfl) (pv 2) set_list))
      (pss_cons (ps_expr (pe_m (pe_fld (pv 0) rfl) T.clS T.mS_hang (ok_Strands_hang T) (hr.mono (by decide)) (pa_cons (pv 1) (pa_cons (pv 2) (pa_cons pe_int pa_nil)))))
      (pss_one (ps_expr (pe_m (pe_fld (pv 0) rfl) T.clS T.mS_gather (ok_Strands_gather T) (hr.mono (by decide)) (pa_cons (pv 1) pa_nil))))))))), ?_⟩
    obtain ⟨dx, hob⟩ := Y.ob
    obtain ⟨_, n1, ha, hbn⟩ := hj.keeps
    obtain ⟨wf2, n2, _, _⟩ := ho.keeps
    refine ⟨fun σ' H' => σ' = [some (.ref q), some (.int (a : Int)), some (.int (b : Int))] ∧ ∃ j1, Wy K q A c1 j1 H' ∧ Fr A H H', ?_, ?_⟩
    · refine call_m (val_var rfl) hob (wf_no A (by decide +kernel)) (vala_cons (val_var rfl) (vala_cons (val_var rfl) vala_nil)) ?_
      refine ⟨q, A, c, c1, j, a, b, rfl, Y, hj, fun j1 H1 Y1 F1 => ⟨_, rfl, ?_⟩⟩
      rw [hb]
      exact iteF ⟨rfl, j1, Y1, F1⟩
    · rintro _ H1 ⟨rfl, j1, Y1, F1⟩
      refine call_opened T Y1 ho rfl rfl rfl (fun j2 H2 Y2 F2 => ?_)
      -- self.strands.above[b] = a
      have ha2 : a < c2.n := by rw [n2, n1]; exact ha
      have hb2 : b < c2.n := by rw [n2, n1]; exact hbn
      refine q_asgE (ev_var rfl) (fun H3 e3 => ?_)
      have Y3 := Y2.ex e3
      refine st_w T.clS (noS T) Y3.arr .above hb2 (val_str T Y3 rfl) (val_var rfl) (Y3.arr.w_above b (some a)) (fun H4 R4 F4 => ?_)
      have Y4 := Y3.fr F4 R4
      refine call_m (vs := [.int (a : Int), .int (b : Int), .int 1]) (val_str T Y4 rfl) Y4.arr.ob (sf_no A (by decide +kernel)) (vala_cons (val_var rfl) (vala_cons (val_var rfl) (vala_cons val_c vala_nil))) ?_
      refine ⟨A, _, j2, a, b, 1, rfl, Y4.arr, ha2, hb2, Or.inl rfl, fun j5 H5 R5 F5 => ?_⟩
      have Y5 := Y4.fr F5 R5
      refine call_m (val_str T Y5 rfl) Y5.arr.ob (sf_no A (by decide +kernel)) (vala_cons (val_var rfl) vala_nil) ?_
      refine ⟨A, _, j5, a, rfl, Y5.arr, wf_above wf2 (fun y e => by cases e; exact ha2), ha2, fun j6 H6 R6 F6 => ?_⟩
      exact k j6 H6 (Y5.fr F6 R6) (((((F1.trans F2).trans (Fr.ex e3)).trans F4).trans F5).trans F6)
def sp_Ways_open_tie (K : PySem.W.Frag) : Sp := fun vs H Q _ => ∃ (q : Addr) (A : SA) (c c' : C) (j : J) (a b : Nat), vs = [.ref q, .int (a : Int), .int (b : Int)] ∧ Wy K q A c j H ∧ Opened c a b c' ∧ a ≠ b ∧ c'.left b = some a ∧ c'.many b = 2 ∧ ∀ j' H', Wy K q A c' j' H' → Fr A H H' → Q .non H'
-- 0 self, 1 a, 2 b
abbrev n_Ways_open_tie : List Str := ["self", "a", "b"]
theorem sc_Ways_open_tie : FnScope n_Ways_open_tie ["self", "a", "b"] (defScope s_Ways_open_tie) := ⟨rfl, rfl, rfl, by decide +kernel, rfl, by decide +kernel, by decide +kernel⟩
theorem ok_Ways_open_tie (T : Txt w K mg) : Good P w K mg base 7 (He.ma K (aW K) "open_tie") ["self", "a", "b"] (sp_Ways_open_tie K) := by
  refine good_mk T.D_Ways_open_tie sc_Ways_open_tie (fun _ _ _ _ _ _ us hl => match us, hl with | [_, _, _], _ => rfl) (fun vs H Q E h => ?_) (fun cdv A0 outer s H vs Q E hr h => ?_)
  · obtain ⟨q, A, c, c', j, a, b, rfl, _⟩ := h
    rfl
  · obtain ⟨q, A, c, c', j, a, b, rfl, Y, ho, hab, hl, hm, k⟩ := h
    refine ⟨_, (pss_cons (ps_expr (pe_m (pv 0) T.clW T.mW_turn_about (ok_Ways_turn_about T) (hr.mono (by decide)) (pa_cons (pv 1) pa_nil)))
      (pss_cons (ps_expr (pe_m (pe_fld (pv 0) rfl) T.clS T.mS_lead (ok_Strands_lead T) (hr.mono (by decide)) (pa_cons (pv 2) pa_nil)))
      (pss_one (ps_if (PW.pt (pw_or (pt_cmpR op_eq (pv 1) (pv 2) (nomark _)) (pw_or (pt_cmpR op_ne (pe_ix ix_list (pe_fld (pe_fld (pv 0) rfl) rfl) (pv 2) (fun _ _ => rfl)) (pv 1) (nomark _)) (pw_or1 (pt_cmpR op_ne (pe_ix ix_list (pe_fld (pe_fld (pv 0) rfl) rfl) (pv 2) (fun _ _ => rfl)) pe_int (nomark _)))))) (pss_one ps_never) pss_nil)))), ?_⟩
    obtain ⟨wf2, n2, ha, hb⟩ := ho.keeps
    refine call_opened T Y ho rfl rfl rfl (fun j2 H2 Y2 F2 => ?_)
    have hb2 : b < c'.n := by rw [n2]; exact hb
    refine s_if (b := false) ?_ (fun h => nomatch h) (fun _ H3 e3 => k j2 H3 (Y2.ex e3) (F2.trans (Fr.ex e3)))
    refine et_or (a := false) (b := false) (et_is (et_test (ev_op (ev_var rfl) (ev_var rfl) (rv_eq rfl))) ?_) fun _ => et_or (a := false) (b := false) (et_is (et_test (ev_op (ev_rd T.clS (noS T) Y2.arr .left hb2 (ev_str T Y2 rfl) (ev_var rfl)) (ev_var rfl) (rv_ne (scal_ov _ _)))) ?_) fun _ => et_is (et_test (ev_op (ev_rd T.clS (noS T) Y2.arr .many hb2 (ev_str T Y2 rfl) (ev_var rfl)) ev_c (rv_ne rfl))) ?_
    · refine decide_eq_false fun h => hab ?_
      injection h with h
      exact Int.ofNat.inj h
    · rw [show decide (mOf c' j2 .left b = V.int (a : Int)) = decide (c'.left b = some a) from ov_eq, decide_eq_true hl]; rfl
    · show (!decide (V.int (c'.many b) = V.int 2)) = false
      rw [hm]; rfl
def sp_Ways_cut (K : PySem.W.Frag) : Sp := fun vs H Q _ => ∃ (q : Addr) (A : SA) (c c' : C) (j : J) (a b : Nat), vs = [.ref q, .int (a : Int), .int (b : Int)] ∧ Wy K q A c j H ∧ Cutted c a b c' ∧ ∀ j' H', Wy K q A c' j' H' → Fr A H H' → Q .non H'
-- 0 self, 1 a, 2 b
abbrev n_Ways_cut : List Str := ["self", "a", "b"]
theorem sc_Ways_cut : FnScope n_Ways_cut ["self", "a", "b"] (defScope s_Ways_cut) := ⟨rfl, rfl, rfl, by decide +kernel, rfl, by decide +kernel, by decide +kernel⟩
theorem ok_Ways_cut (T : Txt w K mg) : Good P w K mg base 8 (He.ma K (aW K) "cut") ["self", "a", "b"] (sp_Ways_cut K) := by
  refine good_mk T.D_Ways_cut sc_Ways_cut (fun _ _ _ _ _ _ us hl => match us, hl with | [_, _, _], _ => rfl) (fun vs H Q E h => ?_) (fun cdv A0 outer s H vs Q E hr h => ?_)
  · obtain ⟨q, A, c, c', j, a, b, rfl, _⟩ := h
    rfl
  · obtain ⟨q, A, c, c', j, a, b, rfl, Y, ⟨c1, ho, hab, hl, hm, rfl⟩, k⟩ := h
    refine ⟨_, (pss_cons (ps_expr (pe_m (pv 0) T.clW T.mW_open_tie (ok_Ways_open_tie T) (hr.mono (by decide)) (pa_cons (pv 1) (pa_cons (pv 2) pa_nil))))
      (pss_cons (ps_asg pe_non (pg_sub (pe_fld (pe_fld (pv 0) rfl) rfl) (pv 2) set_list))
      (pss_cons (ps_asg pe_non (pg_sub (pe_fld (pe_fld (pv 0) rfl) rfl) (pv 1) set_list))
      (pss_one (ps_expr (pe_m (pe_fld (pv 0) rfl) T.clS T.mS_gather (ok_Strands_gather T) (hr.mono (by decide)) (pa_cons (pv 2) pa_nil))))))), ?_⟩
    obtain ⟨dx, hob⟩ := Y.ob
    obtain ⟨wf1, n1, ha, hb⟩ := ho.keeps
    refine call_m (val_var rfl) hob (wf_no A (by decide +kernel)) (vala_cons (val_var rfl) (vala_cons (val_var rfl) vala_nil)) ?_
    refine ⟨q, A, c, c1, j, a, b, rfl, Y, ho, hab, hl, hm, fun j1 H1 Y1 F1 => ?_⟩
    dsimp only
    refine q_asgE ev_c (fun H2 e2 => ?_)
    have Y2 := Y1.ex e2
    refine st_w T.clS (noS T) Y2.arr .left (by rw [n1]; exact hb) (val_str T Y2 rfl) (val_var rfl) (Y2.arr.w_left b none) (fun H3 R3 F3 => ?_)
    have Y3 := Y2.fr F3 R3
    refine q_asgE ev_c (fun H4 e4 => ?_)
    have Y4 := Y3.ex e4
    refine st_w T.clS (noS T) Y4.arr .above (by show a < c1.n; rw [n1]; exact ha) (val_str T Y4 rfl) (val_var rfl) (Y4.arr.w_above a none) (fun H5 R5 F5 => ?_)
    have Y5 := Y4.fr F5 R5
    refine call_m (val_str T Y5 rfl) Y5.arr.ob (sf_no A (by decide +kernel)) (vala_cons (val_var rfl) vala_nil) ?_
    refine ⟨A, _, j1, b, rfl, Y5.arr, wf_above (wf_left wf1 (fun y e => nomatch e)) (fun y e => nomatch e), by show b < c1.n; rw [n1]; exact hb, fun j6 H6 R6 F6 => ?_⟩
    exact k j6 H6 (Y5.fr F6 R6) (((((F1.trans (Fr.ex e2)).trans F3).trans (Fr.ex e4)).trans F5).trans F6)
end
end K73
end
section
set_option maxHeartbeats 4000000
namespace K73
open PySem PySem.Spec PyProof.Rows L2 Evl
/-! ### Ways: first_by, inorder -/
def belowB (c : C) (o : Option Nat) (z : Int) : Bool := match o with
  | none => false
  | some x => decide (z ≤ c.most x)
inductive FirstR (z : Int) : Nat → C → Nat → C → Nat → Prop
  | done {c : C} {x : Nat} : belowB c (c.left x) z = false → decide (z ≤ c.worth x) = true → FirstR z 0 c x c x
  | left {c c' : C} {x y x' k : Nat} : belowB c (c.left x) z = true → c.left x = some y → FirstR z k (handDown c y) y c' x' → FirstR z (k + 1) c x c' x'
  | right {c c' : C} {x y x' k : Nat} : belowB c (c.left x) z = false → decide (z ≤ c.worth x) = false → c.right x = some y → FirstR z k (handDown c y) y c' x' → FirstR z (k + 1) c x c' x'
theorem FirstR.keeps {z : Int} {k x x' : Nat} {c c' : C} (h : FirstR z k c x c' x') : WF c → x < c.n → WF c' ∧ c'.n = c.n ∧ x' < c'.n := by
  induction h with
  | done _ _ => intro wf hx; exact ⟨wf, rfl, hx⟩
  | @left c c' x y x' k h1 h2 h3 ih =>
    intro wf hx
    have hy := wf x hx y (Or.inl h2)
    obtain ⟨a, b, d⟩ := ih (wf_handDown wf hy) (by rw [handDown_n]; exact hy)
    exact ⟨a, b.trans (handDown_n _ _), d⟩
  | @right c c' x y x' k h1 h2 h3 h4 ih =>
    intro wf hx
    have hy := wf x hx y (Or.inr (Or.inl h3))
    obtain ⟨a, b, d⟩ := ih (wf_handDown wf hy) (by rw [handDown_n]; exact hy)
    exact ⟨a, b.trans (handDown_n _ _), d⟩
def FirstBy (z : Int) (c : C) (top : Nat) (c' : C) (x : Nat) : Prop := ∃ (k : Nat) (c2 : C), WF c ∧ top < c.n ∧ belowB c (some top) z = true ∧ FirstR z k (handDown c top) top c2 x ∧ Lifts c2 x c'
section
variable {P : Program} {w : World} {K : PySem.W.Frag} {mg : Str → Option Value} {base : Heap}
def sp_Ways_is_below (K : PySem.W.Frag) : Sp := fun vs H Q _ => ∃ (q : Addr) (A : SA) (c : C) (j : J) (o : Option Nat) (z : Int), vs = [.ref q, ov o, .str "reach", .int z] ∧ Wy K q A c j H ∧ (∀ x, o = some x → x < c.n) ∧ ∀ H', Same H H' → Q (.bl (belowB c o z)) H'
-- 0 self, 1 x, 2 word, 3 number
abbrev n_Ways_is_below : List Str := ["self", "x", "word", "number"]
theorem sc_Ways_is_below : FnScope n_Ways_is_below ["self", "x", "word", "number"] (defScope s_Ways_is_below) := ⟨rfl, rfl, rfl, by decide +kernel, rfl, by decide +kernel, by decide +kernel⟩
theorem ok_Ways_is_below (T : Txt w K mg) : Good P w K mg base 1 (He.ma K (aW K) "is_below") ["self", "x", "word", "number"] (sp_Ways_is_below K) := by
  refine good_mk T.D_Ways_is_below sc_Ways_is_below (fun _ _ _ _ _ _ us hl => match us, hl with | [_, _, _, _], _ => rfl) (fun vs H Q E h => ?_) (fun cdv A0 outer s H vs Q E hr h => ?_)
  · obtain ⟨q, A, c, j, o, z, rfl, _⟩ := h
    rfl
  · obtain ⟨q, A, c, j, o, z, rfl, Y, ho, k⟩ := h
    refine ⟨_, (pss_cut (ps_if (pt_cmpR op_isN (pv 1) pe_non (nomark _)) (pss_one (ps_ret pe_bl)) pss_nil)
      (pss_cut (ps_if (pt_cmpR op_eq (pv 2) pe_str (nomark _)) pss_never pss_nil)
      (pss_one (ps_ret (pe_cmpR op_ge (pe_ix ix_list (pe_fld (pe_fld (pv 0) rfl) rfl) (pv 1) (fun _ _ => rfl)) (pv 3) (nomark _)))))), ?_⟩
    have hn : Ev (tOp (fun x y H Q => y = V.non ∧ Q (.bl (decide (x = .non))) H) (tVar 1) (tC .non)) (start n_Ways_is_below [.ref q, ov o, .str "reach", .int z]) H (.bl o.isNone) := ev_is (ev_op (ev_var rfl) ev_c (rv_val fun H1 _ Q q => ⟨rfl, q⟩)) (by rw [ov_non])
    cases o with
    | none =>
      refine ⟨fun _ _ => False, s_if (b := true) (et_test hn) (fun _ H1 e1 => ?_) (fun h => nomatch h), fun _ _ h => h.elim⟩
      exact s_ret ev_c fun H2 e2 => k H2 (Same.trans e1 e2)
    | some x =>
      have hx := ho x rfl
      refine ⟨fun σ' H' => σ' = [some (.ref q), some (.int (x : Int)), some (.str "reach"), some (.int z)] ∧ Same H H', s_if (b := false) (et_test hn) (fun h => nomatch h) (fun _ H1 e1 => ⟨rfl, e1⟩), ?_⟩
      rintro _ H1 ⟨rfl, e1⟩
      refine ⟨fun σ' H' => σ' = [some (.ref q), some (.int (x : Int)), some (.str "reach"), some (.int z)] ∧ Same H H', s_if (b := false) (et_is (et_test (ev_op (ev_var rfl) ev_c (rv_eq rfl))) (by decide +kernel)) (fun h => nomatch h) (fun _ H2 e2 => ⟨rfl, Same.trans e1 e2⟩), ?_⟩
      rintro _ H2 ⟨rfl, e2⟩
      have Y2 := Y.ex e2
      exact s_ret (ev_op (ev_rd T.clS (noS T) Y2.arr .most hx (ev_str T Y2 rfl) (ev_var rfl)) (ev_var rfl) rv_I0) fun H3 e3 => k H3 (Same.trans e2 e3)
def sp_Ways_is_wanted (K : PySem.W.Frag) : Sp := fun vs H Q _ => ∃ (q : Addr) (A : SA) (c : C) (j : J) (x : Nat) (z : Int), vs = [.ref q, .int (x : Int), .str "reach", .int z] ∧ Wy K q A c j H ∧ x < c.n ∧ ∀ H', Same H H' → Q (.bl (decide (z ≤ c.worth x))) H'
-- 0 self, 1 x, 2 word, 3 number
abbrev n_Ways_is_wanted : List Str := ["self", "x", "word", "number"]
theorem sc_Ways_is_wanted : FnScope n_Ways_is_wanted ["self", "x", "word", "number"] (defScope s_Ways_is_wanted) := ⟨rfl, rfl, rfl, by decide +kernel, rfl, by decide +kernel, by decide +kernel⟩
theorem ok_Ways_is_wanted (T : Txt w K mg) : Good P w K mg base 1 (He.ma K (aW K) "is_wanted") ["self", "x", "word", "number"] (sp_Ways_is_wanted K) := by
  refine good_mk T.D_Ways_is_wanted sc_Ways_is_wanted (fun _ _ _ _ _ _ us hl => match us, hl with | [_, _, _, _], _ => rfl) (fun vs H Q E h => ?_) (fun cdv A0 outer s H vs Q E hr h => ?_)
  · obtain ⟨q, A, c, j, o, z, rfl, _⟩ := h
    rfl
  · obtain ⟨q, A, c, j, x, z, rfl, Y, hx, k⟩ := h
    refine ⟨_, (pss_cut (ps_if (pt_cmpR op_eq (pv 2) pe_str (nomark _)) pss_never pss_nil)
      (pss_one (ps_ret (pe_cmpR op_ge (pe_ix ix_list (pe_fld (pe_fld (pv 0) rfl) rfl) (pv 1) (fun _ _ => rfl)) (pv 3) (nomark _))))), ?_⟩
    refine ⟨fun σ' H' => σ' = [some (.ref q), some (.int (x : Int)), some (.str "reach"), some (.int z)] ∧ Same H H', s_if (b := false) (et_is (et_test (ev_op (ev_var rfl) ev_c (rv_eq rfl))) (by decide +kernel)) (fun h => nomatch h) (fun _ H2 e2 => ⟨rfl, e2⟩), ?_⟩
    rintro _ H2 ⟨rfl, e2⟩
    have Y2 := Y.ex e2
    exact s_ret (ev_op (ev_rd T.clS (noS T) Y2.arr .worth hx (ev_str T Y2 rfl) (ev_var rfl)) (ev_var rfl) rv_I0) fun H3 e3 => k H3 (Same.trans e2 e3)
theorem ev_below (T : Txt w K mg) {q : Addr} {A : SA} {c : C} {j : J} {H : Hp} {σ : L2.St} {tb tw tz : TE} {o : Option Nat} {z : Int} (Y : Wy K q A c j H) (h0 : σ[0]? = some (some (.ref q))) (hb : Ev tb σ H (ov o)) (hw : Ev tw σ H (.str "reach")) (hz : Ev tz σ H (.int z)) (ho : ∀ x, o = some x → x < c.n) :
    Ev (tMeth (aW K) "is_below" (sp_Ways_is_below K) [] E0 (tVar 0) (tCons tb (tCons tw (tCons tz tNil)))) σ H (.bl (belowB c o z)) := by
  obtain ⟨dx, hob⟩ := Y.ob
  exact ev_m (ev_var h0) hob (wf_no A (by decide +kernel)) (ea_cons hb (ea_cons hw (ea_cons hz ea_nil))) fun H1 e1 Q k => ⟨q, A, c, j, o, z, rfl, Y.ex e1, ho, k⟩
theorem ev_wanted (T : Txt w K mg) {q : Addr} {A : SA} {c : C} {j : J} {H : Hp} {σ : L2.St} {tb tw tz : TE} {x : Nat} {z : Int} (Y : Wy K q A c j H) (h0 : σ[0]? = some (some (.ref q))) (hb : Ev tb σ H (.int (x : Int))) (hw : Ev tw σ H (.str "reach")) (hz : Ev tz σ H (.int z)) (hx : x < c.n) :
    Ev (tMeth (aW K) "is_wanted" (sp_Ways_is_wanted K) [] E0 (tVar 0) (tCons tb (tCons tw (tCons tz tNil)))) σ H (.bl (decide (z ≤ c.worth x))) := by
  obtain ⟨dx, hob⟩ := Y.ob
  exact ev_m (ev_var h0) hob (wf_no A (by decide +kernel)) (ea_cons hb (ea_cons hw (ea_cons hz ea_nil))) fun H1 e1 Q k => ⟨q, A, c, j, x, z, rfl, Y.ex e1, hx, k⟩
def sp_Ways_first_by (K : PySem.W.Frag) : Sp := fun vs H Q _ => ∃ (q : Addr) (A : SA) (c c' : C) (j : J) (top x : Nat) (z : Int), vs = [.ref q, .int (top : Int), .str "reach", .int z] ∧ Wy K q A c j H ∧ FirstBy z c top c' x ∧ ∀ j' H', Wy K q A c' j' H' → Fr A H H' → Q (.int (x : Int)) H'
-- 0 self, 1 top, 2 word, 3 number, 4 x
abbrev n_Ways_first_by : List Str := ["self", "top", "word", "number", "x"]
theorem sc_Ways_first_by : FnScope n_Ways_first_by ["self", "top", "word", "number"] (defScope s_Ways_first_by) := ⟨rfl, rfl, rfl, by decide +kernel, rfl, by decide +kernel, by decide +kernel⟩
theorem ok_Ways_first_by (T : Txt w K mg) : Good P w K mg base 5 (He.ma K (aW K) "first_by") ["self", "top", "word", "number"] (sp_Ways_first_by K) := by
  refine good_mk T.D_Ways_first_by sc_Ways_first_by (fun _ _ _ _ _ _ us hl => match us, hl with | [_, _, _, _], _ => rfl) (fun vs H Q E h => ?_) (fun cdv A0 outer s H vs Q E hr h => ?_)
  · obtain ⟨q, A, c, c', j, top, x, z, rfl, _⟩ := h
    rfl
  · obtain ⟨q, A, c, c', j, top, x, z, rfl, Y, ⟨kk, c2, wf, htop, hbel, hf, hl⟩, k⟩ := h
    refine ⟨_, (pss_cut (ps_if (pt_not (pt_val (pe_m (pv 0) T.clW T.mW_is_below (ok_Ways_is_below T) (hr.mono (by decide)) (pa_cons (pv 1) (pa_cons (pv 2) (pa_cons (pv 3) pa_nil)))))) (pss_one (ps_ret pe_non)) pss_nil)
      (pss_cons (ps_set (i := 4) sc_Ways_first_by.nd rfl (Or.inl rfl) (pv 1))
      (pss_cons (ps_expr (pe_m (pe_fld (pv 0) rfl) T.clS T.mS_hand_down (ok_Strands_hand_down T) (hr.mono (by decide)) (pa_cons (pv 4) pa_nil)))
      (pss_cons (ps_while PassesOwn.never (PW.pt (pw_or (pt_val (pe_m (pv 0) T.clW T.mW_is_below (ok_Ways_is_below T) (hr.mono (by decide)) (pa_cons (pe_ix ix_list (pe_fld (pe_fld (pv 0) rfl) rfl) (pv 4) (fun _ _ => rfl)) (pa_cons (pv 2) (pa_cons (pv 3) pa_nil))))) (pw_or1 (pt_not (pt_val (pe_m (pv 0) T.clW T.mW_is_wanted (ok_Ways_is_wanted T) (hr.mono (by decide)) (pa_cons (pv 4) (pa_cons (pv 2) (pa_cons (pv 3) pa_nil))))))))) (pss_cut (ps_if (pt_val (pe_m (pv 0) T.clW T.mW_is_below (ok_Ways_is_below T) (hr.mono (by decide)) (pa_cons (pe_ix ix_list (pe_fld (pe_fld (pv 0) rfl) rfl) (pv 4) (fun _ _ => rfl)) (pa_cons (pv 2) (pa_cons (pv 3) pa_nil))))) (pss_one (ps_set (i := 4) sc_Ways_first_by.nd rfl (Or.inl rfl) (pe_ix ix_list (pe_fld (pe_fld (pv 0) rfl) rfl) (pv 4) (fun _ _ => rfl)))) (pss_one (ps_set (i := 4) sc_Ways_first_by.nd rfl (Or.inl rfl) (pe_ix ix_list (pe_fld (pe_fld (pv 0) rfl) rfl) (pv 4) (fun _ _ => rfl)))))
        (pss_one (ps_expr (pe_m (pe_fld (pv 0) rfl) T.clS T.mS_hand_down (ok_Strands_hand_down T) (hr.mono (by decide)) (pa_cons (pv 4) pa_nil))))))
      (pss_cons (ps_expr (pe_m (pe_fld (pv 0) rfl) T.clS T.mS_lift (ok_Strands_lift T) (hr.mono (by decide)) (pa_cons (pv 4) pa_nil)))
      (pss_one (ps_ret (pv 4)))))))), ?_⟩
    refine ⟨fun σ' H' => σ' = [some (.ref q), some (.int (top : Int)), some (.str "reach"), some (.int z), none] ∧ Same H H', s_if (b := false) (et_not (a := true) (et_B (ev_is (ev_below T Y rfl (o := some top) (ev_var rfl) (ev_var rfl) (ev_var rfl) (fun x e => by cases e; exact htop)) (by rw [hbel])))) (fun h => nomatch h) (fun _ H1 e1 => ⟨rfl, e1⟩), ?_⟩
    rintro _ H1 ⟨rfl, e1⟩
    refine q_asg (ev_var rfl) (fun H2 e2 => ?_)
    have Y2 := (Y.ex e1).ex e2
    refine call_m (val_str T Y2 rfl) Y2.arr.ob (sf_no A (by decide +kernel)) (vala_cons (val_var rfl) vala_nil) ?_
    refine ⟨A, c, j, top, rfl, Y2.arr, wf, htop, fun H3 R3 F3 => ?_⟩
    have Y3 := Y2.fr F3 R3
    dsimp only
    refine q_while (fun m σ H' => ∃ (ci : C) (xi : Nat), σ = [some (.ref q), some (.int (top : Int)), some (.str "reach"), some (.int z), some (.int (xi : Int))] ∧ Wy K q A ci j H' ∧ WF ci ∧ xi < ci.n ∧ FirstR z m ci xi c2 x ∧ Fr A H H') kk
      ⟨_, top, rfl, Y3, wf_handDown wf htop, by rw [handDown_n]; exact htop, hf, ((Fr.ex e1).trans (Fr.ex e2)).trans F3⟩ ?_
    rintro m _ H4 ⟨ci, xi, rfl, Y4, wf4, hxi, hf4, F4⟩
    have hlw : ∀ y, ci.left xi = some y → y < ci.n := fun y e => wf4 xi hxi y (Or.inl e)
    have ebl : ∀ H5, Same H4 H5 → Ev (tMeth (aW K) "is_below" (sp_Ways_is_below K) [] E0 (tVar 0) (tCons (tOp (rIxL K) (tFld K (tFld K (tVar 0) "strands") "left") (tVar 4)) (tCons (tVar 2) (tCons (tVar 3) tNil)))) [some (.ref q), some (.int (top : Int)), some (.str "reach"), some (.int z), some (.int (xi : Int))] H5 (.bl (belowB ci (ci.left xi) z)) :=
      fun H5 e5 => ev_below T (Y4.ex e5) rfl (ev_rd T.clS (noS T) (Y4.ex e5).arr .left hxi (ev_str T (Y4.ex e5) rfl) (ev_var rfl)) (ev_var rfl) (ev_var rfl) hlw
    refine ⟨belowB ci (ci.left xi) z || !decide (z ≤ ci.worth xi), et_or (et_B (ebl H4 (Same.refl _))) (fun _ => et_not (et_B (ev_wanted T Y4 rfl (ev_var rfl) (ev_var rfl) (ev_var rfl) hxi))), fun hb H5 e5 => ?_, fun hb H5 e5 => ?_⟩
    · refine ⟨fun σ H' => ∃ m', m' < m ∧ (∃ (ci : C) (xi : Nat), σ = [some (.ref q), some (.int (top : Int)), some (.str "reach"), some (.int z), some (.int (xi : Int))] ∧ Wy K q A ci j H' ∧ WF ci ∧ xi < ci.n ∧ FirstR z m' ci xi c2 x ∧ Fr A H H'), fun _ _ h => h, ?_⟩
      have Y5 := Y4.ex e5
      refine ⟨fun σ' H' => ∃ (y k' : Nat), σ' = [some (.ref q), some (.int (top : Int)), some (.str "reach"), some (.int z), some (.int (y : Int))] ∧ y < ci.n ∧ k' < m ∧ FirstR z k' (handDown ci y) y c2 x ∧ Same H4 H', ?_, ?_⟩
      · cases hf4 with
        | done h1 h2 => rw [h1, h2] at hb; cases hb
        | @left _ _ _ y _ k' h1 h2 h3 =>
          refine s_if (et_B (ebl H5 e5)) (fun _ H6 e6 => ?_) (fun h => by rw [h1] at h; cases h)
          have Y6 := Y5.ex e6
          refine s_asg (ev_rdv T.clS (noS T) Y6.arr .left hxi (ev_str T Y6 rfl) (ev_var rfl) (v := .int (y : Int)) (by show ov (ci.left xi) = _; rw [h2]; rfl)) (fun H7 e7 => ⟨y, k', rfl, hlw y h2, Nat.lt_succ_self _, h3, Same.trans (Same.trans e5 e6) e7⟩)
        | @right _ _ _ y _ k' h1 h2 h3 h4 =>
          refine s_if (et_B (ebl H5 e5)) (fun h => by rw [h1] at h; cases h) (fun _ H6 e6 => ?_)
          have Y6 := Y5.ex e6
          refine s_asg (ev_rdv T.clS (noS T) Y6.arr .right hxi (ev_str T Y6 rfl) (ev_var rfl) (v := .int (y : Int)) (by show ov (ci.right xi) = _; rw [h3]; rfl)) (fun H7 e7 => ⟨y, k', rfl, wf4 xi hxi y (Or.inr (Or.inl h3)), Nat.lt_succ_self _, h4, Same.trans (Same.trans e5 e6) e7⟩)
      · rintro _ H6 ⟨y, k', rfl, hy, hk', hf6, e6⟩
        have Y6 := Y4.ex e6
        refine call_m (val_str T Y6 rfl) Y6.arr.ob (sf_no A (by decide +kernel)) (vala_cons (val_var rfl) vala_nil) ?_
        exact ⟨A, ci, j, y, rfl, Y6.arr, wf4, hy, fun H7 R7 F7 => ⟨k', hk', _, y, rfl, Y6.fr F7 R7, wf_handDown wf4 hy, by rw [handDown_n]; exact hy, hf6, (F4.trans (Fr.ex e6)).trans F7⟩⟩
    · cases hf4 with
      | left h1 => rw [h1] at hb; cases hb
      | right h1 h2 => rw [h1, h2] at hb; cases hb
      | done h1 h2 =>
        have Y5 := Y4.ex e5
        refine call_m (val_str T Y5 rfl) Y5.arr.ob (sf_no A (by decide +kernel)) (vala_cons (val_var rfl) vala_nil) ?_
        refine call_lift Y5.arr hl fun j6 H6 R6 F6 => ?_
        have Y6 := Y5.fr F6 R6
        exact s_ret (ev_var rfl) fun H7 e7 => k j6 H7 (Y6.ex e7) (((F4.trans (Fr.ex e5)).trans F6).trans (Fr.ex e7))
end
end K73
end
section
set_option maxHeartbeats 4000000
namespace K73
open PySem PySem.Spec PyProof.Rows L2 Evl
/-! ### Ways: inorder, of_way, do -/
theorem Arr.out {S : Addr} {A : SA} {c : C} {j : J} {H : Hp} {a : Addr} {xs : List V} {o : HO} (R : Arr S A c j H) (nm : ¬ Mut A a) (h : H a = some (.lst xs)) : Arr S A c j (upd H a o) where
  ob := by rw [upd_ne (ne_of R.ob h (by intro q; cases q))]; exact R.ob
  ls f := by rw [upd_ne (fun q => nm (Or.inl ⟨f, q.symm⟩))]; exact R.ls f
  sts := by
    obtain ⟨ys, q1, q2⟩ := R.sts
    exact ⟨ys, by rw [upd_ne (fun q => nm (Or.inr q.symm))]; exact q1, q2⟩
  inj := R.inj
  nst := R.nst
  hung y hy := by
    obtain ⟨a', b', q⟩ := R.hung y hy
    exact ⟨a', b', by rw [upd_ne (ne_of q h (by intro z; cases z))]; exact q⟩
theorem Wy.out {K : PySem.W.Frag} {q : Addr} {A : SA} {c : C} {j : J} {H : Hp} {a : Addr} {xs : List V} {o : HO} (Y : Wy K q A c j H) (nm : ¬ Mut A a) (h : H a = some (.lst xs)) : Wy K q A c j (upd H a o) := by
  obtain ⟨dx, ho⟩ := Y.ob
  exact ⟨⟨dx, by rw [upd_ne (ne_of ho h (by intro z; cases z))]; exact ho⟩, Y.arr.out nm h⟩
inductive InR : Nat → List (Option Nat × Bool) → List Nat → C → List Nat → C → Prop
  | nil {f : List Nat} {c : C} : InR 0 [] f c f c
  | told {k : Nat} {st : List (Option Nat × Bool)} {f f' : List Nat} {c c' : C} {x : Nat} : f.length < 10000 → InR k st (f ++ [x]) c f' c' → InR (k + 1) ((some x, true) :: st) f c f' c'
  | none {k : Nat} {st : List (Option Nat × Bool)} {f f' : List Nat} {c c' : C} : InR k st f c f' c' → InR (k + 1) ((none, false) :: st) f c f' c'
  | visit {k : Nat} {st : List (Option Nat × Bool)} {f f' : List Nat} {c c' : C} {x : Nat} : x < c.n → st.length < 10000 → InR k (((handDown c x).left x, false) :: (some x, true) :: ((handDown c x).right x, false) :: st) f (handDown c x) f' c' → InR (k + 1) ((some x, false) :: st) f c f' c'
def InOrder (c : C) (top : Nat) (ns : List Nat) (c' : C) : Prop := WF c ∧ ∃ k, InR k [(some top, false)] [] c ns c'
/-- the pile: the list at l, its last item the pile's first -/
def Pile (H : Hp) (l : Addr) (st : List (Option Nat × Bool)) : Prop := ∃ as : List Addr, H l = some (.lst (as.reverse.map V.ref)) ∧ as.length = st.length ∧ ∀ (i : Nat) a e, as[i]? = some a → st[i]? = some e → H a = some (.tup [ov e.1, .bl e.2])
section
variable {σ : L2.St} {H : Hp} {ta tb te : TE} {tr : TA} {v x y : V}
theorem eu_tupList {K : PySem.W.Frag} {a : Addr} {xs : List V} (h : Ev te σ H (.ref a)) (hx : SqL K H a xs) : EvU (tThen te (kTup K)) σ H xs := fun H1 e Q q =>
  h H1 e _ fun H2 e2 => Or.inl ⟨a, xs, rfl, ex_l (Same.trans e e2) hx, fun r hr => q r _ (fresh_back e2 hr) (Ex.trans e2 (Ex.new hr)) upd_same⟩
theorem el_lstQ {Ps : List (List V → Hp → Prop)} (h : EvAQ tr σ H Ps) (hz : Ps.length ≤ 1000) (H1 : Hp) (e : Same H H1) (Q : VK)
    (q : ∀ (p : Addr) (as : List Addr) H2, H1 p = none → Same H1 H2 → H2 p = some (.lst (as.map V.ref)) → as.length = Ps.length → (∀ (i : Nat) a P, as[i]? = some a → Ps[i]? = some P → ∃ items, H2 a = some (.tup items) ∧ P items H2) → Q (.ref p) H2)
    (st : ∀ P ∈ Ps, ∀ H H' items, Same H H' → P items H → P items H') : tLst tr σ H1 Q :=
  h H1 e _ fun as H2 e2 hl hs => ⟨by rw [List.length_map, hl]; exact Nat.le_trans hz (by decide), fun p hp => q p as _ (fresh_back e2 hp) (Same.trans e2 (same_new hp)) upd_same hl fun i a P h1 h2 => by
    obtain ⟨items, g1, g2⟩ := hs i a P h1 h2
    exact ⟨items, same_new hp _ _ g1, st P (List.mem_of_getElem? h2) _ _ _ (same_new hp) g2⟩⟩
end
section
variable {P : Program} {w : World} {K : PySem.W.Frag} {mg : Str → Option Value} {base : Heap}
theorem q_asgLQ {σ : L2.St} {H : Hp} {tr : TA} {tz : TS} {D : Ends} {i : Nat} {Ps : List (List V → Hp → Prop)} (h : EvAQ tr σ H Ps) (hz : Ps.length ≤ 1000) (st : ∀ P ∈ Ps, ∀ H H' items, Same H H' → P items H → P items H')
    (k : ∀ (p : Addr) (as : List Addr) H2, H p = none → Same H H2 → H2 p = some (.lst (as.map V.ref)) → as.length = Ps.length → (∀ (i : Nat) a P, as[i]? = some a → Ps[i]? = some P → ∃ items, H2 a = some (.tup items) ∧ P items H2) → tz D (σ.set i (some (.ref p))) H2) :
    tSeq (tAsg (tLst tr) (gName i)) tz D σ H := el_lstQ h hz H (Same.refl _) (fun v H2 => tz D (σ.set i (some v)) H2) k st
theorem s_extQ {σ : L2.St} {H : Hp} {ta : TE} {tr : TA} {D : Ends} {l : Addr} {xs : List V} {Ps : List (List V → Hp → Prop)} (ha : Ev ta σ H (.ref l)) (hl : H l = some (.lst xs)) (h : EvAQ tr σ H Ps) (hz : Ps.length ≤ 1000) (hn : xs.length + Ps.length ≤ sizeLine) (st : ∀ P ∈ Ps, ∀ H H' items, Same H H' → P items H → P items H')
    (k : ∀ (as : List Addr) H2, Same H H2 → H2 l = some (.lst xs) → as.length = Ps.length → (∀ (i : Nat) a P, as[i]? = some a → Ps[i]? = some P → ∃ items, H2 a = some (.tup items) ∧ P items H2) → D.nx σ (upd H2 l (.lst (xs ++ as.map V.ref)))) :
    tDrop (tBM K "list" rExtend ta (tCons (tLst tr) tNil)) D σ H :=
  ha H (Ex.refl _) _ fun H1 e1 => ⟨.inl ⟨rfl, _, SqL.of (e1 _ _ hl)⟩, el_lstQ h hz H1 e1 _ (fun p as H2 hp e2 h2 hlen hs => ⟨l, p, xs, as.map V.ref, rfl, rfl, e2 _ _ (e1 _ _ hl), h2, by rw [List.length_map, hlen]; exact hn, k as H2 (Same.trans e1 e2) (e2 _ _ (e1 _ _ hl)) hlen hs⟩) st⟩
def sp_Ways_inorder (K : PySem.W.Frag) : Sp := fun vs H Q _ => ∃ (q : Addr) (A : SA) (c c' : C) (j : J) (top : Nat) (ns : List Nat), vs = [.ref q, .int (top : Int)] ∧ Wy K q A c j H ∧ InOrder c top ns c' ∧ ∀ j' p H', Wy K q A c' j' H' → Fr A H H' → H' p = some (.tup (vN ns)) → Q (.ref p) H'
-- 0 self, 1 top, 2 strands, 3 found, 4 waiting, 5 x, 6 told
abbrev n_Ways_inorder : List Str := ["self", "top", "strands", "found", "waiting", "x", "told"]
theorem sc_Ways_inorder : FnScope n_Ways_inorder ["self", "top"] (defScope s_Ways_inorder) := ⟨rfl, rfl, rfl, by decide +kernel, rfl, by decide +kernel, by decide +kernel⟩
theorem ok_Ways_inorder (T : Txt w K mg) : Good P w K mg base 3 (He.ma K (aW K) "inorder") ["self", "top"] (sp_Ways_inorder K) := by
  refine good_mk T.D_Ways_inorder sc_Ways_inorder (fun _ _ _ _ _ _ us hl => match us, hl with | [_, _], _ => rfl) (fun vs H Q E h => ?_) (fun cdv A0 outer s H vs Q E hr h => ?_)
  · obtain ⟨q, A, c, c', j, top, ns, rfl, _⟩ := h
    rfl
  · obtain ⟨q, A, c, c', j, top, ns, rfl, Y, ⟨wf, kk, hin⟩, k⟩ := h
    refine ⟨_, (pss_cons (ps_set (i := 2) sc_Ways_inorder.nd rfl (Or.inl rfl) (pe_fld (pv 0) rfl))
      (pss_cons (ps_set (i := 3) sc_Ways_inorder.nd rfl (Or.inl rfl) (pe_lst pa_nil))
      (pss_cons (ps_set (i := 4) sc_Ways_inorder.nd rfl (Or.inl rfl) (pe_lst (pa_cons (pe_tup (pa_cons (pv 1) (pa_cons pe_bl pa_nil))) pa_nil)))
      (pss_cons (ps_while PassesOwn.never (pt_cmpR op_gt (pe_callB call_len_seq (by rfl) T.z_len PySem.boot_len (pa_cons (pv 4) pa_nil)) pe_int (nomark _)) (pss_cons (ps_asg (pe_bm0 PySem.F.plainAttrs_list PySem.F.slot_list_pop PySem.F.type_list_pop mt_pop (pv 4)) (pg_tup rfl (pgs_cons (pg_name (i := 5) sc_Ways_inorder.nd rfl (Or.inl rfl)) (pgs_cons (pg_name (i := 6) sc_Ways_inorder.nd rfl (Or.inl rfl)) pgs_nil))))
        (pss_one (ps_if (pt_val (pv 6)) (pss_one (ps_expr (pe_bm PySem.F.plainAttrs_list PySem.F.slot_list_append PySem.F.type_list_append mt_append (pv 3) (pa_cons (pv 5) pa_nil)))) (pss_one (ps_if (pt_cmpR op_notN (pv 5) pe_non (nomark _)) (pss_cons (ps_expr (pe_m (pv 2) T.clS T.mS_hand_down (ok_Strands_hand_down T) (hr.mono (by decide)) (pa_cons (pv 5) pa_nil)))
            (pss_one (ps_expr (pe_bm PySem.F.plainAttrs_list PySem.F.slot_list_extend PySem.F.type_list_extend mt_extend (pv 4) (pa_cons (pe_lst (pa_cons (pe_tup (pa_cons (pe_ix ix_list (pe_fld (pv 2) rfl) (pv 5) (fun _ _ => rfl)) (pa_cons pe_bl pa_nil))) (pa_cons (pe_tup (pa_cons (pv 5) (pa_cons pe_bl pa_nil))) (pa_cons (pe_tup (pa_cons (pe_ix ix_list (pe_fld (pv 2) rfl) (pv 5) (fun _ _ => rfl)) (pa_cons pe_bl pa_nil))) pa_nil)))) pa_nil))))) pss_nil))))))
      (pss_one (ps_ret (pe_tupleOf rfl T.z_tuple (pv 3)))))))), ?_⟩
    refine q_asg (ev_str T Y rfl) (fun H1 e1 => ?_)
    have Y1 := Y.ex e1
    refine q_asgL (el_lst ea_nil (by show 0 ≤ 100000; decide)) (fun fd H2 hfd e2 h2 => ?_)
    have Y2 := Y1.ex e2
    have nfd : ¬ Mut A fd := mut_none Y1.arr hfd
    refine q_asgLQ (eaq_cons (eq_pair (ev_var rfl) ev_c) (fun _ _ _ _ h => h) eaq_nil) (by show 1 ≤ 1000; decide) (fun P hP => by
      have hP := List.mem_singleton.mp hP
      subst hP
      exact fun _ _ _ _ h => h) (fun wt as H3 hwt e3 h3 hl hs => ?_)
    have Y3 := Y2.ex e3
    have nwt : ¬ Mut A wt := mut_none Y2.arr hwt
    have nfw : fd ≠ wt := ne_of_none h2 hwt
    refine q_while (fun m σ H' => ∃ (st : List (Option Nat × Bool)) (f : List Nat) (ci : C) (v5 v6 : Option V), σ = [some (.ref q), some (.int (top : Int)), some (.ref A.p), some (.ref fd), some (.ref wt), v5, v6] ∧ Wy K q A ci j H' ∧ WF ci ∧ InR m st f ci ns c' ∧ Pile H' wt st ∧ H' fd = some (.lst (vN f)) ∧ Fr A H H') kk
      ⟨_, [], c, _, _, rfl, Y3, wf, hin, ⟨as.reverse, by rw [List.reverse_reverse]; exact h3, by rw [List.length_reverse, hl]; rfl, fun i a e h1 h4 => ?_⟩, e3 _ _ h2, ((Fr.ex e1).trans (Fr.ex e2)).trans (Fr.ex e3)⟩ ?_
    · have hl1 : as.length = 1 := hl
      match i, h4 with
      | 0, h4 =>
        cases h4
        have h5 : as[0]? = some a := by
          match as, hl1, h1 with
          | [a0], _, h1 => exact h1
        obtain ⟨items, g1, g2⟩ := hs 0 a _ h5 rfl
        rw [g1, g2]; rfl
      | i + 1, h4 => simp at h4
    rintro m _ H4 ⟨st, f, ci, v5, v6, rfl, Y4, wf4, hin4, ⟨as4, ha4, hal4, has4⟩, hf4, F4⟩
    have hlen : (as4.reverse.map V.ref).length = st.length := by simp [hal4]
    refine ⟨decide (0 < st.length), et_is (et_test (ev_op (ev_len (ev_var rfl) (sq_of ha4)) ev_c rv_I0)) ?_, fun hb H5 e5 => ?_, fun hb H5 e5 => ?_⟩
    · show decide ((0 : Int) < (((as4.reverse.map V.ref).length : Nat) : Int)) = _
      rw [hlen, Bool.eq_iff_iff, decide_eq_true_iff, decide_eq_true_iff]
      omega
    · have Y5 := Y4.ex e5
      match st, as4, hal4, hin4 with
      | e :: st, a :: as4, hal4, hin4 =>
        have hal : as4.length = st.length := Nat.succ.inj hal4
        have hwt5 := e5 _ _ ha4
        have hfd5 := e5 _ _ hf4
        have ha5 : H5 a = some (.tup [ov e.1, .bl e.2]) := e5 _ _ (has4 0 a e rfl rfl)
        have hrest : ∀ (i : Nat) a e, as4[i]? = some a → st[i]? = some e → H5 a = some (.tup [ov e.1, .bl e.2]) := fun i a' e' h1 h2 => e5 _ _ (has4 (i + 1) a' e' h1 h2)
        refine ⟨fun σ H' => ∃ m', m' < m ∧ (∃ (st : List (Option Nat × Bool)) (f : List Nat) (ci : C) (v5 v6 : Option V), σ = [some (.ref q), some (.int (top : Int)), some (.ref A.p), some (.ref fd), some (.ref wt), v5, v6] ∧ Wy K q A ci j H' ∧ WF ci ∧ InR m' st f ci ns c' ∧ Pile H' wt st ∧ H' fd = some (.lst (vN f)) ∧ Fr A H H'), fun _ _ h => h, ?_⟩
        -- x, told = waiting.pop()
        have hxs : (a :: as4).reverse.map V.ref = as4.reverse.map V.ref ++ [V.ref a] := by simp
        rw [hxs] at hwt5
        refine ⟨_, rfl, .inl ⟨rfl, _, SqL.of hwt5⟩, wt, _, V.ref a, rfl, rfl, hwt5, by simp, ?_⟩
        have hdl : (as4.reverse.map V.ref ++ [V.ref a]).dropLast = as4.reverse.map V.ref := by simp
        rw [hdl]
        have naw : a ≠ wt := ne_of ha5 hwt5 (by intro z; cases z)
        refine ⟨a, _, rfl, SqT.of (by rw [upd_ne naw]; exact ha5), rfl, _, _, rfl, _, _, rfl, rfl, ?_⟩
        generalize hH6 : upd H5 wt (.lst (as4.reverse.map V.ref)) = H6
        have Y6 : Wy K q A ci j H6 := by rw [← hH6]; exact Y5.out nwt hwt5
        have hwt6 : H6 wt = some (.lst (as4.reverse.map V.ref)) := by rw [← hH6]; exact upd_same
        have hfd6 : H6 fd = some (.lst (vN f)) := by rw [← hH6, upd_ne nfw]; exact hfd5
        have hr6 : ∀ (i : Nat) a e, as4[i]? = some a → st[i]? = some e → H6 a = some (.tup [ov e.1, .bl e.2]) := fun i a' e' h1 h2 => by
          have q := hrest i a' e' h1 h2
          rw [← hH6, upd_ne (ne_of q hwt5 (by intro z; cases z))]; exact q
        have F6 : Fr A H H6 := fun b o hb hm => by
          have q1 := e5 _ _ (F4 b o hb hm)
          rw [← hH6, upd_ne (fun z => by
            subst z
            have q2 := e2 _ _ (e1 _ _ hb)
            rw [hwt] at q2; cases q2)]
          exact q1
        cases hin4 with
        | told hfl hin5 =>
          rename_i k' x
          refine s_if (b := true) (et_B (ev_var rfl)) (fun _ H7 e7 => ?_) (fun h => nomatch h)
          have hfd7 := e7 _ _ hfd6
          refine s_app (v := .int (x : Int)) hfd7 (ev_var rfl) (ev_var rfl) (by simp [vN]; omega) (fun H8 e8 => ?_)
          have hfd8 := e8 _ _ hfd7
          have hwt8 := e8 _ _ (e7 _ _ hwt6)
          refine ⟨k', Nat.lt_succ_self _, st, f ++ [x], ci, _, _, rfl, ((Y6.ex e7).ex e8).out nfd hfd8, wf4, hin5, ⟨as4, by rw [upd_ne nfw.symm]; exact hwt8, hal, fun i a' e' h1 h2 => ?_⟩, by rw [upd_same]; simp [vN], ?_⟩
          · have q := e8 _ _ (e7 _ _ (hr6 i a' e' h1 h2))
            rw [upd_ne (ne_of q hfd8 (by intro z; cases z))]; exact q
          · intro b o hb hm
            rw [upd_ne (fun z => by
              subst z
              have q2 := e1 _ _ hb
              rw [hfd] at q2; cases q2)]
            exact e8 _ _ (e7 _ _ (F6 b o hb hm))
        | none hin5 =>
          rename_i k'
          refine s_if (b := false) (et_B (ev_var rfl)) (fun h => nomatch h) (fun _ H7 e7 => ?_)
          refine s_if (b := false) (et_is (et_test (ev_op (ev_var rfl) ev_c (rv_val fun H1 _ Q q => ⟨rfl, q⟩))) (by rfl)) (fun h => nomatch h) (fun _ H8 e8 => ?_)
          exact ⟨k', Nat.lt_succ_self _, st, f, ci, _, _, rfl, (Y6.ex e7).ex e8, wf4, hin5, ⟨as4, e8 _ _ (e7 _ _ hwt6), hal, fun i a' e' h1 h2 => e8 _ _ (e7 _ _ (hr6 i a' e' h1 h2))⟩, e8 _ _ (e7 _ _ hfd6), (F6.trans (Fr.ex e7)).trans (Fr.ex e8)⟩
        | visit hx hst hin5 =>
          rename_i k' x
          refine s_if (b := false) (et_B (ev_var rfl)) (fun h => nomatch h) (fun _ H7 e7 => ?_)
          refine s_if (b := true) (et_is (et_test (ev_op (ev_var rfl) ev_c (rv_val fun H1 _ Q q => ⟨rfl, q⟩))) (by rfl)) (fun _ H8 e8 => ?_) (fun h => nomatch h)
          have Y8 := (Y6.ex e7).ex e8
          have hwt8 := e8 _ _ (e7 _ _ hwt6)
          have hfd8 := e8 _ _ (e7 _ _ hfd6)
          refine call_m (val_var rfl) Y8.arr.ob (sf_no A (by decide +kernel)) (vala_cons (val_var rfl) vala_nil) ?_
          refine ⟨A, ci, j, x, rfl, Y8.arr, wf4, hx, fun H9 R9 F9 => ?_⟩
          have Y9 := Y8.fr F9 R9
          have hwt9 := F9 _ _ hwt8 nwt
          have hfd9 := F9 _ _ hfd8 nfd
          dsimp only
          have hx9 : x < (handDown ci x).n := by rw [handDown_n]; exact hx
          have hz := hal
          refine s_extQ (ev_var rfl) hwt9 (eaq_cons (eq_pair (ev_rd T.clS (noS T) Y9.arr .right hx9 (ev_var rfl) (ev_var rfl)) ev_c) (fun _ _ _ _ h => h) (eaq_cons (eq_pair (ev_var rfl) ev_c) (fun _ _ _ _ h => h) (eaq_cons (eq_pair (ev_rd T.clS (noS T) Y9.arr .left hx9 (ev_var rfl) (ev_var rfl)) ev_c) (fun _ _ _ _ h => h) eaq_nil))) (by show 3 ≤ 1000; decide) (by
            simp
            exact Nat.le_trans (show _ ≤ 20000 by omega) (by decide)) (fun P hP => by
            simp only [List.mem_cons, List.not_mem_nil, or_false] at hP
            rcases hP with hP | hP | hP <;> (subst hP; exact fun _ _ _ _ h => h)) (fun bs H10 e10 hwt10 hbl hbs => ?_)
          have hbl3 : bs.length = 3 := hbl
          match bs, hbl3, hbs with
          | [b1, b2, b3], _, hbs =>
            obtain ⟨i1, g1, g1'⟩ := hbs 0 b1 _ rfl rfl
            obtain ⟨i2, g2, g2'⟩ := hbs 1 b2 _ rfl rfl
            obtain ⟨i3, g3, g3'⟩ := hbs 2 b3 _ rfl rfl
            subst g1' g2' g3'
            have Y10 := Y9.ex e10
            have keep : ∀ t items, H10 t = some (.tup items) → upd H10 wt (.lst (as4.reverse.map V.ref ++ [b1, b2, b3].map V.ref)) t = some (.tup items) := fun t items q => by
              rw [upd_ne (ne_of q hwt10 (by intro z; cases z))]; exact q
            refine ⟨k', Nat.lt_succ_self _, _, f, _, _, _, rfl, Y10.out nwt hwt10, wf_handDown wf4 hx, hin5, ⟨b3 :: b2 :: b1 :: as4, by rw [upd_same]; simp, by simp [hal], fun i a' e' h1 h2 => ?_⟩, by rw [upd_ne nfw]; exact e10 _ _ hfd9, ?_⟩
            · match i, h1, h2 with
              | 0, h1, h2 => cases h1; cases h2; exact keep _ _ g3
              | 1, h1, h2 => cases h1; cases h2; exact keep _ _ g2
              | 2, h1, h2 => cases h1; cases h2; exact keep _ _ g1
              | i + 3, h1, h2 =>
                have q := e8 _ _ (e7 _ _ (hr6 i a' e' h1 h2))
                exact keep _ _ (e10 _ _ (F9 _ _ q (mut_ne Y8.arr q (by intro xs z; cases z))))
            · intro b o hb hm
              rw [upd_ne (fun z => by
                subst z
                have q2 := e2 _ _ (e1 _ _ hb)
                rw [hwt] at q2; cases q2)]
              exact e10 _ _ (F9 _ _ (e8 _ _ (e7 _ _ (F6 b o hb hm))) hm)
    · cases hin4 with
      | nil =>
        refine s_retU (eu_tupList (ev_var rfl) (sq_of (e5 _ _ hf4))) fun p H6 hp e6 h6 => k j p H6 ((Y4.ex e5).ex e6) ((F4.trans (Fr.ex e5)).trans (Fr.ex e6)) h6
      | told _ _ => simp at hb
      | none _ => simp at hb
      | visit _ _ _ => simp at hb
end
end K73
end
section
set_option maxHeartbeats 4000000
namespace K73
open PySem PySem.Spec PyProof.Rows L2 Evl
/-! ### Ways: of_way, do_deed, look_done, do -/
inductive Ans where
  | val (v : V)
  | tup (xs : List V)
def Ans.at_ (H : Hp) (v : V) : Ans → Prop
  | .val x => v = x
  | .tup xs => ∃ p, v = .ref p ∧ H p = some (.tup xs)
def OfWay (c : C) (wd : Str) (a b : Nat) (c' : C) (an : Ans) : Prop := ∃ c1, OpenWay c a b c1 ∧ ((wd = "way" ∧ ∃ ns, InOrder c1 b ns c' ∧ an = .tup (vN ns)) ∨ (wd = "most" ∧ ∃ x, FirstBy (c1.most b) c1 b c' x ∧ an = .tup [.int (c1.most b), .int (x : Int)]))
def Does (c : C) (r : RowV) (c' : C) (an : Ans) : Prop := match r with
  | .new z => c.n < 1000 ∧ c' = putPoint c z ∧ an = .val (.int (c.n : Int))
  | .two wd a b => (wd = "tie" ∧ Tied c a b c' ∧ an = .val .non) ∨ (wd = "cut" ∧ Cutted c a b c' ∧ an = .val .non) ∨ (wd = "joined" ∧ Joined c a b c' ∧ an = .val (.bl (joinedB c' a b))) ∨ OfWay c wd a b c' an
theorem OpenWay.keeps {c c' : C} {a b : Nat} (h : OpenWay c a b c') : WF c' ∧ c'.n = c.n ∧ a < c.n ∧ b < c.n := by
  obtain ⟨c1, hj, _, ho⟩ := h
  obtain ⟨_, n1, ha, hb⟩ := hj.keeps
  obtain ⟨wf2, n2, _⟩ := ho.keeps
  exact ⟨wf2, n2.trans n1, ha, hb⟩
theorem Does.ok {c c' : C} {r : RowV} {an : Ans} (h : Does c r c' an) : r.ok := by
  cases r with
  | new z => trivial
  | two wd a b =>
    rcases h with h | h | h | ⟨c1, _, h | h⟩
    · exact Or.inl h.1
    · exact Or.inr (Or.inl h.1)
    · exact Or.inr (Or.inr (Or.inl h.1))
    · exact Or.inr (Or.inr (Or.inr (Or.inr h.1)))
    · exact Or.inr (Or.inr (Or.inr (Or.inl h.1)))
theorem Does.pts {c c' : C} {r : RowV} {an : Ans} (h : Does c r c' an) : ∀ x ∈ r.pts, x < c.n := by
  cases r with
  | new z => intro x hx; simp [RowV.pts] at hx
  | two wd a b =>
    have q : a < c.n ∧ b < c.n := by
      rcases h with ⟨_, ⟨c1, c2, h, _⟩, _⟩ | ⟨_, ⟨c1, h, _⟩, _⟩ | ⟨_, h, _⟩ | ⟨c1, h, _⟩
      · exact h.keeps.2.2
      · exact h.keeps.2.2
      · exact h.keeps.2.2
      · exact h.keeps.2.2
    intro x hx
    simp [RowV.pts] at hx
    rcases hx with h | h <;> subst h
    · exact q.1
    · exact q.2
section
variable {P : Program} {w : World} {K : PySem.W.Frag} {mg : Str → Option Value} {base : Heap}
theorem sv (wd z : Str) (h : wd ≠ z) : decide (V.str wd = V.str z) = false := decide_eq_false fun q => h (by injection q)
def sp_Ways_of_way (K : PySem.W.Frag) : Sp := fun vs H Q _ => ∃ (q : Addr) (A : SA) (c c' : C) (j : J) (rw_ : Addr) (wd : Str) (a b : Nat) (an : Ans), vs = [.ref q, .ref rw_] ∧ Wy K q A c j H ∧ H rw_ = some (.tup (RowV.two wd a b).items) ∧ OfWay c wd a b c' an ∧
  ∀ j' H' v, Wy K q A c' j' H' → Fr A H H' → an.at_ H' v → Q v H'
-- 0 self, 1 row, 2 word, 3 a, 4 b, 5 strands, 6 worth
abbrev n_Ways_of_way : List Str := ["self", "row", "word", "a", "b", "strands", "worth"]
theorem sc_Ways_of_way : FnScope n_Ways_of_way ["self", "row"] (defScope s_Ways_of_way) := ⟨rfl, rfl, rfl, by decide +kernel, rfl, by decide +kernel, by decide +kernel⟩
theorem ok_Ways_of_way (T : Txt w K mg) : Good P w K mg base 8 (He.ma K (aW K) "of_way") ["self", "row"] (sp_Ways_of_way K) := by
  refine good_mk T.D_Ways_of_way sc_Ways_of_way (fun _ _ _ _ _ _ us hl => match us, hl with | [_, _], _ => rfl) (fun vs H Q E h => ?_) (fun cdv A0 outer s H vs Q E hr h => ?_)
  · obtain ⟨q, A, c, c', j, rw_, wd, a, b, an, rfl, _⟩ := h
    rfl
  · obtain ⟨q, A, c, c', j, rw_, wd, a, b, an, rfl, Y, hrw, ⟨c1, how, hres⟩, k⟩ := h
    refine ⟨_, (pss_cons (ps_asg (pe_slice sl_tupA (pv 1) po_none (po_some pe_int)) (pg_tup rfl (pgs_cons (pg_name (i := 2) sc_Ways_of_way.nd rfl (Or.inl rfl)) (pgs_cons (pg_name (i := 3) sc_Ways_of_way.nd rfl (Or.inl rfl)) (pgs_cons (pg_name (i := 4) sc_Ways_of_way.nd rfl (Or.inl rfl)) pgs_nil)))))
      (pss_cons (ps_expr (pe_m (pv 0) T.clW T.mW_open_way (ok_Ways_open_way T) (hr.mono (by decide)) (pa_cons (pv 3) (pa_cons (pv 4) pa_nil))))
      (pss_cons (ps_set (i := 5) sc_Ways_of_way.nd rfl (Or.inl rfl) (pe_fld (pv 0) rfl))
      (pss_cut (ps_if (pt_cmpR op_eq (pv 2) pe_str (nomark _)) (pss_one (ps_ret (pe_m (pv 0) T.clW T.mW_inorder (ok_Ways_inorder T) (hr.mono (by decide)) (pa_cons (pv 4) pa_nil)))) pss_nil)
      (pss_cut (ps_if (pt_cmpR op_eq (pv 2) pe_str (nomark _)) pss_never pss_nil)
      (pss_cut (ps_if (pt_cmpR op_eq (pv 2) pe_str (nomark _)) pss_never pss_nil)
      (pss_cut (ps_if (pt_cmpR op_eq (pv 2) pe_str (nomark _)) (pss_cons (ps_set (i := 6) sc_Ways_of_way.nd rfl (Or.inl rfl) (pe_ix ix_list (pe_fld (pv 5) rfl) (pv 4) (fun _ _ => rfl)))
        (pss_one (ps_ret (pe_tup (pa_cons (pv 6) (pa_cons (pe_m (pv 0) T.clW T.mW_first_by (ok_Ways_first_by T) (hr.mono (by decide)) (pa_cons (pv 4) (pa_cons pe_str (pa_cons (pv 6) pa_nil)))) pa_nil)))))) pss_nil)
      (pss_cut (ps_if (pt_cmpR op_eq (pv 2) pe_str (nomark _)) pss_never pss_nil)
      (pss_cut (ps_if (pt_cmpR op_eq (pv 2) pe_str (nomark _)) pss_never pss_nil)
      (pss_one ps_never)))))))))), ?_⟩
    refine ⟨_, rfl, ?_⟩
    refine ⟨3, rfl, ?_⟩
    refine ⟨rw_, _, rfl, st_of hrw, fun _ => ?_, fun h => (h ⟨rfl, rfl⟩).elim⟩
    refine ⟨rw_, _, rfl, st_of hrw, rfl, _, _, rfl, _, _, rfl, _, _, rfl, rfl, ?_⟩
    obtain ⟨dx, hob⟩ := Y.ob
    refine call_m (val_var rfl) hob (wf_no A (by decide +kernel)) (vala_cons (val_var rfl) (vala_cons (val_var rfl) vala_nil)) ?_
    refine ⟨q, A, c, c1, j, a, b, rfl, Y, how, fun j1 H1 Y1 F1 => ?_⟩
    dsimp only
    refine q_asgE (ev_str T Y1 rfl) (fun H2 e2 => ?_)
    have Y2 := Y1.ex e2
    obtain ⟨wf1, n1, ha, hb⟩ := how.keeps
    rcases hres with ⟨ew, ns, hin, ean⟩ | ⟨ew, x, hf, ean⟩
    · subst ew ean
      refine ⟨fun _ _ => False, s_if (b := true) (et_is (et_test (ev_op (ev_var rfl) ev_c (rv_eq rfl))) (by rfl)) (fun _ H3 e3 => ?_) (fun h => nomatch h), fun _ _ h => h.elim⟩
      have Y3 := Y2.ex e3
      obtain ⟨dx3, hob3⟩ := Y3.ob
      refine call_m (val_var rfl) hob3 (wf_no A (by decide +kernel)) (vala_cons (val_var rfl) vala_nil) ?_
      exact ⟨q, A, c1, c', j1, b, ns, rfl, Y3, hin, fun j4 p H4 Y4 F4 h4 => k j4 H4 _ Y4 (((F1.trans (Fr.ex e2)).trans (Fr.ex e3)).trans F4) ⟨p, rfl, h4⟩⟩
    · subst ew ean
      have no : ∀ {σ : L2.St} {H : Hp} {tt tn tz : TS} {D : Ends} {z : Str}, Same H2 H → σ[2]? = some (some (.str "most")) → ("most" : Str) ≠ z → (∀ H', Same H2 H' → tz D σ H') → tCut (tIfS (tTest (tOp (rEq) (tVar 2) (tC (.str z)))) tt tNext) tz D σ H := fun {σ H tt tn tz D z} e h hz k =>
        ⟨fun σ' H' => σ' = σ ∧ Same H2 H', s_if (b := false) (et_is (et_test (ev_op (ev_var h) ev_c (rv_eq rfl))) (sv _ _ hz)) (fun h => nomatch h) (fun _ H' e' => ⟨rfl, Same.trans e e'⟩), fun σ' H' ⟨e1, e2⟩ => by subst e1; exact k H' e2⟩
      refine no (tn := tNext) (Same.refl _) rfl (by decide +kernel) (fun H3 e3 => ?_)
      refine no (tn := tNext) e3 rfl (by decide +kernel) (fun H4 e4 => ?_)
      refine no (tn := tNext) e4 rfl (by decide +kernel) (fun H5 e5 => ?_)
      have Y5 := Y2.ex e5
      refine ⟨fun _ _ => False, s_if (b := true) (et_is (et_test (ev_op (ev_var rfl) ev_c (rv_eq rfl))) (by rfl)) (fun _ H6 e6 => ?_) (fun h => nomatch h), fun _ _ h => h.elim⟩
      have Y6 := Y5.ex e6
      refine q_asgE (ev_rdv T.clS (noS T) Y6.arr .most (by rw [n1]; exact hb) (ev_var rfl) (ev_var rfl) (v := .int (c1.most b)) rfl) (fun H7 e7 => ?_)
      have Y7 := Y6.ex e7
      obtain ⟨dx7, hob7⟩ := Y7.ob
      refine ⟨_, rfl, ?_⟩
      refine call_m (vs := [.int (b : Int), .str "reach", .int (c1.most b)]) (val_var rfl) hob7 (wf_no A (by decide +kernel)) (vala_cons (val_var rfl) (vala_cons val_c (vala_cons (val_var rfl) vala_nil))) ?_
      refine ⟨q, A, c1, c', j1, b, x, c1.most b, rfl, Y7, hf, fun j8 H8 Y8 F8 => ?_⟩
      refine ⟨by show 2 ≤ sizeLine; decide, fun p hp => ?_⟩
      exact k j8 _ _ (Y8.ex (same_new hp)) (((((F1.trans (Fr.ex e2)).trans (Fr.ex e5)).trans (Fr.ex e6)).trans (Fr.ex e7)).trans (F8.trans (Fr.ex (same_new hp)))) ⟨p, rfl, upd_same⟩
def sp_Ways_do_deed (K : PySem.W.Frag) : Sp := fun vs H Q _ => ∃ (q : Addr) (A : SA) (c c' : C) (j : J) (rw_ : Addr) (r : RowV) (an : Ans), vs = [.ref q, .ref rw_] ∧ Wy K q A c j H ∧ H rw_ = some (.tup r.items) ∧ Does c r c' an ∧ r.deed = true ∧
  ∀ j' H' v, Wy K q A c' j' H' → Fr A H H' → an.at_ H' v → Q v H'
-- 0 self, 1 row
abbrev n_Ways_do_deed : List Str := ["self", "row"]
theorem sc_Ways_do_deed : FnScope n_Ways_do_deed ["self", "row"] (defScope s_Ways_do_deed) := ⟨rfl, rfl, rfl, by decide +kernel, rfl, by decide +kernel, by decide +kernel⟩
theorem ok_Ways_do_deed (T : Txt w K mg) : Good P w K mg base 9 (He.ma K (aW K) "do_deed") ["self", "row"] (sp_Ways_do_deed K) := by
  refine good_mk T.D_Ways_do_deed sc_Ways_do_deed (fun _ _ _ _ _ _ us hl => match us, hl with | [_, _], _ => rfl) (fun vs H Q E h => ?_) (fun cdv A0 outer s H vs Q E hr h => ?_)
  · obtain ⟨q, A, c, c', j, rw_, r, an, rfl, _⟩ := h
    rfl
  · obtain ⟨q, A, c, c', j, rw_, r, an, rfl, Y, hrw, hd, hdeed, k⟩ := h
    refine ⟨_, (pss_cut (ps_if (pt_cmpR op_eq (pe_ix ix_tup (pv 1) pe_int (fun _ _ => rfl)) pe_str (nomark _)) (pss_one (ps_ret (pe_m (pe_fld (pv 0) rfl) T.clS T.mS_put_point (ok_Strands_put_point T) (hr.mono (by decide)) (pa_cons (pe_ix ix_tup (pv 1) pe_int (fun _ _ => rfl)) (pa_cons (pe_ix ix_tup (pv 1) pe_int (fun _ _ => rfl)) pa_nil))))) pss_nil)
      (pss_cut (ps_if (pt_cmpR op_eq (pe_ix ix_tup (pv 1) pe_int (fun _ _ => rfl)) pe_str (nomark _)) pss_never (pss_one (ps_if (pt_cmpR op_eq (pe_ix ix_tup (pv 1) pe_int (fun _ _ => rfl)) pe_str (nomark _)) pss_never (pss_one (ps_if (pt_cmpR op_eq (pe_ix ix_tup (pv 1) pe_int (fun _ _ => rfl)) pe_str (nomark _)) (pss_one (ps_expr (pe_m (pv 0) T.clW T.mW_tie (ok_Ways_tie T) (hr.mono (by decide)) (pa_cons (pe_ix ix_tup (pv 1) pe_int (fun _ _ => rfl)) (pa_cons (pe_ix ix_tup (pv 1) pe_int (fun _ _ => rfl)) pa_nil))))) (pss_one (ps_if (pt_cmpR op_eq (pe_ix ix_tup (pv 1) pe_int (fun _ _ => rfl)) pe_str (nomark _)) (pss_one (ps_expr (pe_m (pv 0) T.clW T.mW_cut (ok_Ways_cut T) (hr.mono (by decide)) (pa_cons (pe_ix ix_tup (pv 1) pe_int (fun _ _ => rfl)) (pa_cons (pe_ix ix_tup (pv 1) pe_int (fun _ _ => rfl)) pa_nil))))) (pss_one ps_never))))))))
      (pss_one (ps_ret pe_non)))), ?_⟩
    obtain ⟨dx, hob⟩ := Y.ob
    have h0 : ∀ {H1 : Hp}, Same H H1 → Ev (tOp (rIxT K) (tVar 1) (tC (.int 0))) [some (.ref q), some (.ref rw_)] H1 (.str r.word) := fun e => ev_ixt (n := 0) (xs := r.items) (ev_var rfl) (st_of (e _ _ hrw)) ev_c (by rw [r.eq]; rfl)
    cases r with
    | new z =>
      obtain ⟨hn, rfl, rfl⟩ := hd
      refine ⟨fun _ _ => False, s_if (b := true) (et_is (et_test (ev_op (h0 (Same.refl _)) ev_c (rv_eq rfl))) (by rfl)) (fun _ H1 e1 => ?_) (fun h => nomatch h), fun _ _ h => h.elim⟩
      have Y1 := Y.ex e1
      have hr1 := e1 _ _ hrw
      refine call_m (val_str T Y1 rfl) Y1.arr.ob (sf_no A (by decide +kernel)) (vala_cons (val_ixt (j := 1) (val_var rfl) (st_of hr1) val_c rfl) (vala_cons (val_ixt (j := 2) (val_var rfl) (st_of hr1) val_c rfl) vala_nil)) ?_
      exact ⟨A, c, j, z, "b", rfl, Y1.arr, hn, Or.inr rfl, fun j2 H2 R2 F2 => k j2 H2 _ (Y1.fr F2 R2) ((Fr.ex e1).trans F2) rfl⟩
    | two wd a b =>
      have hw : wd = "tie" ∨ wd = "cut" := by
        have q : (decide (wd = "tie") || decide (wd = "cut")) = true := hdeed
        simpa using q
      have hne : ∀ z : Str, (z = "new" ∨ z = "put" ∨ z = "paint") → wd ≠ z := fun z hz e => by
        subst e
        rcases hw with e | e <;> rcases hz with q | q | q <;> (rw [e] at q; exact absurd q (by decide +kernel))
      refine ⟨fun σ' H' => σ' = [some (.ref q), some (.ref rw_)] ∧ Same H H', s_if (b := false) (et_is (et_test (ev_op (h0 (Same.refl _)) ev_c (rv_eq rfl))) (sv _ _ (hne "new" (Or.inl rfl)))) (fun h => nomatch h) (fun _ H1 e1 => ⟨rfl, e1⟩), ?_⟩
      rintro _ H1 ⟨rfl, e1⟩
      refine ⟨fun σ' H' => ∃ j', σ' = [some (.ref q), some (.ref rw_)] ∧ an = .val .non ∧ Wy K q A c' j' H' ∧ Fr A H H', ?_, ?_⟩
      · refine s_if (b := false) (et_is (et_test (ev_op (h0 e1) ev_c (rv_eq rfl))) (sv _ _ (hne "put" (Or.inr (Or.inl rfl))))) (fun h => nomatch h) (fun _ H2 e2 => ?_)
        have e2 := Same.trans e1 e2
        refine s_if (b := false) (et_is (et_test (ev_op (h0 e2) ev_c (rv_eq rfl))) (sv _ _ (hne "paint" (Or.inr (Or.inr rfl))))) (fun h => nomatch h) (fun _ H3 e3 => ?_)
        have e3 := Same.trans e2 e3
        rcases hw with ew | ew
        · subst ew
          refine s_if (b := true) (et_is (et_test (ev_op (h0 e3) ev_c (rv_eq rfl))) (by rfl)) (fun _ H4 e4 => ?_) (fun h => nomatch h)
          have e4 := Same.trans e3 e4
          have hr4 := e4 _ _ hrw
          refine call_m (val_var rfl) (e4 _ _ hob) (wf_no A (by decide +kernel)) (vala_cons (val_ixt (j := 1) (val_var rfl) (st_of hr4) val_c rfl) (vala_cons (val_ixt (j := 2) (val_var rfl) (st_of hr4) val_c rfl) vala_nil)) ?_
          have hd' : Tied c a b c' ∧ an = .val .non := by
            rcases hd with h | h | h | ⟨c1, _, h | h⟩
            · exact h.2
            · exact absurd h.1 (by decide +kernel)
            · exact absurd h.1 (by decide +kernel)
            · exact absurd h.1 (by decide +kernel)
            · exact absurd h.1 (by decide +kernel)
          exact ⟨q, A, c, c', j, a, b, rfl, Y.ex e4, hd'.1, fun j5 H5 Y5 F5 => ⟨j5, rfl, hd'.2, Y5, (Fr.ex e4).trans F5⟩⟩
        · subst ew
          refine s_if (b := false) (et_is (et_test (ev_op (h0 e3) ev_c (rv_eq rfl))) (sv _ _ (show ("cut" : Str) ≠ "tie" by decide +kernel))) (fun h => nomatch h) (fun _ H4 e4 => ?_)
          have e4 := Same.trans e3 e4
          refine s_if (b := true) (et_is (et_test (ev_op (h0 e4) ev_c (rv_eq rfl))) (by rfl)) (fun _ H5 e5 => ?_) (fun h => nomatch h)
          have e5 := Same.trans e4 e5
          have hr5 := e5 _ _ hrw
          refine call_m (val_var rfl) (e5 _ _ hob) (wf_no A (by decide +kernel)) (vala_cons (val_ixt (j := 1) (val_var rfl) (st_of hr5) val_c rfl) (vala_cons (val_ixt (j := 2) (val_var rfl) (st_of hr5) val_c rfl) vala_nil)) ?_
          have hd' : Cutted c a b c' ∧ an = .val .non := by
            rcases hd with h | h | h | ⟨c1, _, h | h⟩
            · exact absurd h.1 (by decide +kernel)
            · exact h.2
            · exact absurd h.1 (by decide +kernel)
            · exact absurd h.1 (by decide +kernel)
            · exact absurd h.1 (by decide +kernel)
          exact ⟨q, A, c, c', j, a, b, rfl, Y.ex e5, hd'.1, fun j5 H6 Y6 F6 => ⟨j5, rfl, hd'.2, Y6, (Fr.ex e5).trans F6⟩⟩
      · rintro _ H2 ⟨j2, rfl, ean, Y2, F2⟩
        subst ean
        exact s_ret ev_c fun H3 e3 => k j2 H3 _ (Y2.ex e3) (F2.trans (Fr.ex e3)) rfl
def sp_Ways_look_done (K : PySem.W.Frag) : Sp := fun vs H Q _ => ∃ (q : Addr) (A : SA) (c : C) (j : J) (rw_ : Addr) (r : RowV), vs = [.ref q, .ref rw_] ∧ Wy K q A c j H ∧ H rw_ = some (.tup r.items) ∧ r.ok ∧ (∀ x ∈ r.pts, x < c.n) ∧ ∀ H', Same H H' → Q .non H'
-- 0 self, 1 row
abbrev n_Ways_look_done : List Str := ["self", "row"]
theorem sc_Ways_look_done : FnScope n_Ways_look_done ["self", "row"] (defScope s_Ways_look_done) := ⟨rfl, rfl, rfl, by decide +kernel, rfl, by decide +kernel, by decide +kernel⟩
theorem ok_Ways_look_done (T : Txt w K mg) : Good P w K mg base 5 (He.ma K (aW K) "look_done") ["self", "row"] (sp_Ways_look_done K) := by
  refine good_mk T.D_Ways_look_done sc_Ways_look_done (fun _ _ _ _ _ _ us hl => match us, hl with | [_, _], _ => rfl) (fun vs H Q E h => ?_) (fun cdv A0 outer s H vs Q E hr h => ?_)
  · obtain ⟨q, A, c, j, rw_, r, rfl, _⟩ := h
    rfl
  · obtain ⟨q, A, c, j, rw_, r, rfl, Y, hrw, ok, hp, k⟩ := h
    refine ⟨_, (pss_cut (ps_if (PW.pt (pw_or (pt_not (pt_val (pe_f (ok_is_row T) (hr.mono (by decide)) T.g_is_row (pa_cons (pv 1) pa_nil)))) (pw_or1 (pt_cmpR op_notIn_seq (pe_ix ix_tup (pv 1) pe_int (fun _ _ => rfl)) (pe_glob (v := .ref (He.ga K "DONE")) rfl T.g_DONE rfl) rfl)))) (pss_one ps_never) pss_nil)
      (pss_one (ps_expr (pe_f (ok_look_row T) (hr.mono (by decide)) T.g_look_row (pa_cons (pv 1) (pa_cons (pe_m0 (pv 0) T.clW T.mW_points (ok_Ways_points T) (hr.mono (by decide))) pa_nil)))))), ?_⟩
    obtain ⟨dx, hob⟩ := Y.ob
    have h0 : ∀ {H1 : Hp}, Same H H1 → Ev (tOp (rIxT K) (tVar 1) (tC (.int 0))) [some (.ref q), some (.ref rw_)] H1 (.str r.word) := fun e => ev_ixt (n := 0) (xs := r.items) (ev_var rfl) (st_of (e _ _ hrw)) ev_c (by rw [r.eq]; rfl)
    refine ⟨fun σ' H' => σ' = [some (.ref q), some (.ref rw_)] ∧ Same H H', s_if (b := false) (et_or (a := false) (b := false) (et_not (a := true) (et_B (ev_f (ea_cons (ev_var rfl) ea_nil) fun H1 e1 Q q => ⟨rw_, r, rfl, e1 _ _ hrw, ok, q⟩))) fun _ => ?_) (fun h => nomatch h) (fun _ H1 e1 => ⟨rfl, e1⟩), ?_⟩
    · refine et_test (ev_op (h0 (Same.refl _)) ev_c fun H1 e Q k => ⟨_, _, rfl, Or.inr (T.done H1), rfl, by decide +kernel, ?_⟩)
      have e : inV (.str r.word) [V.str "new", V.str "put", V.str "paint", V.str "tie", V.str "cut", V.str "add", V.str "joined", V.str "way", V.str "total", V.str "many", V.str "most", V.str "first", V.str "reach", V.str "kth", V.str "meet", V.str "sum", V.str "size"] = true := by
        cases r with
        | new z => exact (by decide +kernel : inV (.str "new") [V.str "new", V.str "put", V.str "paint", V.str "tie", V.str "cut", V.str "add", V.str "joined", V.str "way", V.str "total", V.str "many", V.str "most", V.str "first", V.str "reach", V.str "kth", V.str "meet", V.str "sum", V.str "size"] = true)
        | two wd a b =>
          show inV (.str wd) _ = true
          rcases ok with e | e | e | e | e <;> subst e <;> decide +kernel
      have q' := k H1 (Ex.refl _)
      rw [e]
      exact q'
    · rintro _ H1 ⟨rfl, e1⟩
      have Y1 := Y.ex e1
      refine s_drop (v := .non) (ev_f (ea_cons (ev_var rfl) (ea_cons (x := .int (c.n : Int)) (ev_m (ev_var rfl) (e1 _ _ hob) (wf_no A (by decide +kernel)) ea_nil fun H2 e2 Q k => ⟨q, A, c, j, rfl, Y1.ex e2, k⟩) ea_nil)) fun H2 e2 Q k => ⟨rw_, r, c.n, rfl, e2 _ _ (e1 _ _ hrw), ok, hp, k⟩) (fun H2 e2 => k H2 (Same.trans e1 e2))
def sp_Ways_do (K : PySem.W.Frag) : Sp := fun vs H Q _ => ∃ (q : Addr) (A : SA) (c c' : C) (j : J) (rw_ : Addr) (r : RowV) (an : Ans), vs = [.ref q, .ref rw_] ∧ Wy K q A c j H ∧ H rw_ = some (.tup r.items) ∧ Does c r c' an ∧
  ∀ j' H' v, Wy K q A c' j' H' → Fr A H H' → an.at_ H' v → Q v H'
-- 0 self, 1 row
abbrev n_Ways_do : List Str := ["self", "row"]
theorem sc_Ways_do : FnScope n_Ways_do ["self", "row"] (defScope s_Ways_do) := ⟨rfl, rfl, rfl, by decide +kernel, rfl, by decide +kernel, by decide +kernel⟩
theorem ok_Ways_do (T : Txt w K mg) : Good P w K mg base 10 (He.ma K (aW K) "do") ["self", "row"] (sp_Ways_do K) := by
  refine good_mk T.D_Ways_do sc_Ways_do (fun _ _ _ _ _ _ us hl => match us, hl with | [_, _], _ => rfl) (fun vs H Q E h => ?_) (fun cdv A0 outer s H vs Q E hr h => ?_)
  · obtain ⟨q, A, c, c', j, rw_, r, an, rfl, _⟩ := h
    rfl
  · obtain ⟨q, A, c, c', j, rw_, r, an, rfl, Y, hrw, hd, k⟩ := h
    refine ⟨_, (pss_cons (ps_expr (pe_m (pv 0) T.clW T.mW_look_done (ok_Ways_look_done T) (hr.mono (by decide)) (pa_cons (pv 1) pa_nil)))
      (pss_cut (ps_if (pt_val (pe_f (ok_is_deed T) (hr.mono (by decide)) T.g_is_deed (pa_cons (pv 1) pa_nil))) (pss_one (ps_ret (pe_m (pv 0) T.clW T.mW_do_deed (ok_Ways_do_deed T) (hr.mono (by decide)) (pa_cons (pv 1) pa_nil)))) pss_nil)
      (pss_cut (ps_if (pt_cmpR op_eq (pe_ix ix_tup (pv 1) pe_int (fun _ _ => rfl)) pe_str (nomark _)) (pss_one (ps_ret (pe_m (pv 0) T.clW T.mW_are_joined (ok_Ways_are_joined T) (hr.mono (by decide)) (pa_cons (pe_ix ix_tup (pv 1) pe_int (fun _ _ => rfl)) (pa_cons (pe_ix ix_tup (pv 1) pe_int (fun _ _ => rfl)) pa_nil))))) pss_nil)
      (pss_cut (ps_if (pt_cmpR op_eq (pe_ix ix_tup (pv 1) pe_int (fun _ _ => rfl)) pe_str (nomark _)) pss_never pss_nil)
      (pss_cut (ps_if (pt_cmpR op_in_seq (pe_ix ix_tup (pv 1) pe_int (fun _ _ => rfl)) (pe_tup (pa_cons pe_str (pa_cons pe_str pa_nil))) rfl) pss_never pss_nil)
      (pss_one (ps_ret (pe_m (pv 0) T.clW T.mW_of_way (ok_Ways_of_way T) (hr.mono (by decide)) (pa_cons (pv 1) pa_nil))))))))), ?_⟩
    obtain ⟨dx, hob⟩ := Y.ob
    have h0 : ∀ {H1 : Hp}, Same H H1 → Ev (tOp (rIxT K) (tVar 1) (tC (.int 0))) [some (.ref q), some (.ref rw_)] H1 (.str r.word) := fun e => ev_ixt (n := 0) (xs := r.items) (ev_var rfl) (st_of (e _ _ hrw)) ev_c (by rw [r.eq]; rfl)
    refine q_drop (v := .non) (ev_m (ev_var rfl) hob (wf_no A (by decide +kernel)) (ea_cons (ev_var rfl) ea_nil) fun H1 e1 Q k => ⟨q, A, c, j, rw_, r, rfl, Y.ex e1, e1 _ _ hrw, hd.ok, hd.pts, k⟩) (fun H1 e1 => ?_)
    have dd : ∀ {H1 : Hp}, Same H H1 → Ev (tCall (sp_is_deed K) [] E0 (tCons (tVar 1) tNil)) [some (.ref q), some (.ref rw_)] H1 (.bl r.deed) := fun e => ev_f (ea_cons (ev_var rfl) ea_nil) fun H2 e2 Q k => ⟨rw_, r, rfl, e2 _ _ (e _ _ hrw), hd.ok, k⟩
    cases hdd : r.deed with
    | true =>
      refine ⟨fun _ _ => False, s_if (b := true) (et_B (ev_is (dd e1) (by rw [hdd]))) (fun _ H2 e2 => ?_) (fun h => nomatch h), fun _ _ h => h.elim⟩
      have e2 := Same.trans e1 e2
      refine call_m (val_var rfl) (e2 _ _ hob) (wf_no A (by decide +kernel)) (vala_cons (val_var rfl) vala_nil) ?_
      exact ⟨q, A, c, c', j, rw_, r, an, rfl, Y.ex e2, e2 _ _ hrw, hd, hdd, fun j3 H3 v Y3 F3 ha => k j3 H3 v Y3 ((Fr.ex e2).trans F3) ha⟩
    | false =>
      refine ⟨fun σ' H' => σ' = [some (.ref q), some (.ref rw_)] ∧ Same H H', s_if (b := false) (et_B (ev_is (dd e1) (by rw [hdd]))) (fun h => nomatch h) (fun _ H2 e2 => ⟨rfl, Same.trans e1 e2⟩), ?_⟩
      rintro _ H2 ⟨rfl, e2⟩
      cases r with
      | new z => cases hdd
      | two wd a b =>
        have hs : (wd = "joined" ∧ Joined c a b c' ∧ an = .val (.bl (joinedB c' a b))) ∨ ((wd = "way" ∨ wd = "most") ∧ OfWay c wd a b c' an) := by
          rcases hd with h | h | h | h
          · have q : (decide (wd = "tie") || decide (wd = "cut")) = false := hdd
            rw [h.1] at q; simp at q
          · have q : (decide (wd = "tie") || decide (wd = "cut")) = false := hdd
            rw [h.1] at q; simp at q
          · exact Or.inl h
          · refine Or.inr ⟨?_, h⟩
            obtain ⟨c1, _, h | h⟩ := h
            · exact Or.inl h.1
            · exact Or.inr h.1
        rcases hs with ⟨ew, hj, ean⟩ | ⟨ew, how⟩
        · subst ew ean
          refine ⟨fun _ _ => False, s_if (b := true) (et_is (et_test (ev_op (h0 e2) ev_c (rv_eq rfl))) (by rfl)) (fun _ H3 e3 => ?_) (fun h => nomatch h), fun _ _ h => h.elim⟩
          have e3 := Same.trans e2 e3
          have hr3 := e3 _ _ hrw
          refine call_m (val_var rfl) (e3 _ _ hob) (wf_no A (by decide +kernel)) (vala_cons (val_ixt (j := 1) (val_var rfl) (st_of hr3) val_c rfl) (vala_cons (val_ixt (j := 2) (val_var rfl) (st_of hr3) val_c rfl) vala_nil)) ?_
          exact ⟨q, A, c, c', j, a, b, rfl, Y.ex e3, hj, fun j4 H4 Y4 F4 => k j4 H4 _ Y4 ((Fr.ex e3).trans F4) rfl⟩
        · have hne : ∀ z : Str, (z = "joined" ∨ z = "meet" ∨ z = "sum" ∨ z = "size") → wd ≠ z := fun z hz e => by
            subst e
            rcases ew with e | e <;> rcases hz with q | q | q | q <;> (rw [e] at q; exact absurd q (by decide +kernel))
          refine ⟨fun σ' H' => σ' = [some (.ref q), some (.ref rw_)] ∧ Same H H', s_if (b := false) (et_is (et_test (ev_op (h0 e2) ev_c (rv_eq rfl))) (sv _ _ (hne "joined" (Or.inl rfl)))) (fun h => nomatch h) (fun _ H3 e3 => ⟨rfl, Same.trans e2 e3⟩), ?_⟩
          rintro _ H3 ⟨rfl, e3⟩
          refine ⟨fun σ' H' => σ' = [some (.ref q), some (.ref rw_)] ∧ Same H H', s_if (b := false) (et_is (et_test (ev_op (h0 e3) ev_c (rv_eq rfl))) (sv _ _ (hne "meet" (Or.inr (Or.inl rfl))))) (fun h => nomatch h) (fun _ H4 e4 => ⟨rfl, Same.trans e3 e4⟩), ?_⟩
          rintro _ H4 ⟨rfl, e4⟩
          refine ⟨fun σ' H' => σ' = [some (.ref q), some (.ref rw_)] ∧ Same H H', s_if (b := false) ?_ (fun h => nomatch h) (fun _ H5 e5 => ⟨rfl, Same.trans e4 e5⟩), ?_⟩
          · refine et_test fun H5 e5 Q k => h0 (Same.trans e4 e5) H5 (Same.refl _) _ fun H6 e6 => eu_tup (vs := [.str "sum", .str "size"]) (ea_cons ev_c (ea_cons ev_c ea_nil)) (by show 2 ≤ 100000; decide) H6 (Same.refl _) _ fun p H7 _ e7 h7 => ⟨_, _, rfl, Or.inr (st_of h7), rfl, by decide +kernel, ?_⟩
            have e : inV (.str wd) [V.str "sum", V.str "size"] = false := by
              rcases ew with e | e <;> subst e <;> decide +kernel
            have q' := k H7 (Same.trans e6 e7)
            show Q (.bl (inV (.str wd) [V.str "sum", V.str "size"])) H7
            rw [e]
            exact q'
          rintro _ H5 ⟨rfl, e5⟩
          refine call_m (val_var rfl) (e5 _ _ hob) (wf_no A (by decide +kernel)) (vala_cons (val_var rfl) vala_nil) ?_
          exact ⟨q, A, c, c', j, rw_, wd, a, b, an, rfl, Y.ex e5, e5 _ _ hrw, how, fun j6 H6 v Y6 F6 ha => k j6 H6 v Y6 ((Fr.ex e5).trans F6) ha⟩
end
end K73
end
section
set_option maxHeartbeats 4000000
namespace K73
open PySem PySem.Spec PyProof.Rows L2 Evl
/-! ### making; Ways.__init__, bare_forest, look_points -/
section
variable {X : Cx} {k : Nat} {f C : Addr} {ps : List Str} {sp : Sp} {x : Str} {p pos : Pos} {e : Expr} {es : List Expr} {t : TA}
theorem pe_mk (M : Mk X.K C f) (G : Good X.prog X.w X.K X.mg X.base k f ps sp) (hr : Room (k + 1) X.A) (hm : X.mg x = some (.ref C)) (ha : PA X (e :: es) t) (hg : Gl X x := by rfl)
    (hdb : (x == ("__debug__" : Str)) = false := by decide) (he : starEach (e :: es) X.env = (false, eval e X.env) :: starEach es X.env := by rfl) (hpl : (backTo pos (starEach es X.env)).any (·.1) = false := by rfl) :
    PE X (.Call (.Name x p) (e :: es) [] pos) (tMake C sp [] E0 t) := by
  obtain ⟨fd, F, b, kp⟩ := G
  exact pe_make M F hr hg hm b .nil pass0 ha hdb he hpl
theorem pe_mk0 (M : Mk X.K C f) (G : Good X.prog X.w X.K X.mg X.base k f ps sp) (hr : Room (k + 1) X.A) (hm : X.mg x = some (.ref C)) (hg : Gl X x := by rfl)
    (hdb : (x == ("__debug__" : Str)) = false := by decide) : PE X (.Call (.Name x p) [] [] pos) (tMake C sp [] E0 tNil) := by
  obtain ⟨fd, F, b, kp⟩ := G
  exact pe_make0 M F hr hg hm b .nil pass0 hdb
end
theorem Arr.keep {S : Addr} {A : SA} {c : C} {j : J} {H H' : Hp} (R : Arr S A c j H) (h : ∀ b o, H b = some o → (b = A.p ∨ Mut A b ∨ ∃ xs, o = .tup xs) → H' b = some o) : Arr S A c j H' where
  ob := h _ _ R.ob (Or.inl rfl)
  ls f := h _ _ (R.ls f) (Or.inr (Or.inl (Or.inl ⟨f, rfl⟩)))
  sts := by
    obtain ⟨ys, q1, q2⟩ := R.sts
    exact ⟨ys, h _ _ q1 (Or.inr (Or.inl (Or.inr rfl))), q2⟩
  inj := R.inj
  nst := R.nst
  hung y hy := by
    obtain ⟨a', b', q⟩ := R.hung y hy
    exact ⟨a', b', h _ _ q (Or.inr (Or.inr ⟨_, rfl⟩))⟩
def bare : Nat → C
  | 0 => c0
  | n + 1 => putPoint (bare n) (-1)
theorem bare_n (n : Nat) : (bare n).n = n := by
  induction n with
  | zero => rfl
  | succ n ih => show (bare n).n + 1 = n + 1; rw [ih]
theorem flat_rep {α : Type} (n : Nat) (a : α) : (List.replicate n [a]).flatten = List.replicate n a := by
  induction n with
  | zero => rfl
  | succ n ih => rw [List.replicate_succ, List.flatten_cons, ih, List.replicate_succ]; rfl
section
variable {P : Program} {w : World} {K : PySem.W.Frag} {mg : Str → Option Value} {base : Heap}
def Bare (H : Hp) (f : Addr) (n : Nat) : Prop := ∃ t0 t1 tt, H f = some (.tup [.ref t0, .ref t1]) ∧ H t0 = some (.tup (List.replicate n (.ref tt))) ∧ H t1 = some (.tup []) ∧ H tt = some (.tup [.int (-1), .str "a"])
def sp_Ways___init__ (K : PySem.W.Frag) : Sp := fun vs H Q _ => ∃ (q dx f : Addr) (n : Nat), vs = [.ref q, .ref f] ∧ H q = some (.ins (aW K) dx []) ∧ Bare H f n ∧ n < 1000 ∧
  ∀ A j H', Wy K q A (bare n) j H' → (∀ b o, H b = some o → b ≠ q → H' b = some o) → (∀ a, Mut A a ∨ a = A.p → H a = none) → Q .non H'
-- 0 self, 1 forest, 2 worth, 3 kind, 4 a, 5 b
abbrev n_Ways___init__ : List Str := ["self", "forest", "worth", "kind", "a", "b"]
theorem sc_Ways___init__ : FnScope n_Ways___init__ ["self", "forest"] (defScope s_Ways___init__) := ⟨rfl, rfl, rfl, by decide +kernel, rfl, by decide +kernel, by decide +kernel⟩
theorem ok_Ways___init__ (T : Txt w K mg) : Good P w K mg base 8 (He.ma K (aW K) "__init__") ["self", "forest"] (sp_Ways___init__ K) := by
  refine good_mk T.D_Ways___init__ sc_Ways___init__ (fun _ _ _ _ _ _ us hl => match us, hl with | [_, _], _ => rfl) (fun vs H Q E h => ?_) (fun cdv A0 outer s H vs Q E hr h => ?_)
  · obtain ⟨q, dx, f, n, rfl, _⟩ := h
    rfl
  · obtain ⟨q, dx, f, n, rfl, hq, ⟨t0, t1, tt, hf, h0, h1, ht⟩, hn, k⟩ := h
    refine ⟨_, (pss_cons (ps_fld (pv 0) (pe_mk0 T.mkS (ok_Strands___init__ T) (hr.mono (by decide)) T.g_Strands) rfl)
      (pss_cons (ps_for PassesOwn.never rfl (pi_tup (pe_ix ix_tup (pv 1) pe_int (fun _ _ => rfl))) (pg_tup rfl (pgs_cons (pg_name (i := 2) sc_Ways___init__.nd rfl (Or.inl rfl)) (pgs_cons (pg_name (i := 3) sc_Ways___init__.nd rfl (Or.inl rfl)) pgs_nil))) (pss_one (ps_expr (pe_m (pe_fld (pv 0) rfl) T.clS T.mS_put_point (ok_Strands_put_point T) (hr.mono (by decide)) (pa_cons (pv 2) (pa_cons (pv 3) pa_nil))))))
      (pss_one (ps_for PassesOwn.never rfl (pi_tup (pe_ix ix_tup (pv 1) pe_int (fun _ _ => rfl))) (pg_tup rfl (pgs_cons (pg_name (i := 4) sc_Ways___init__.nd rfl (Or.inl rfl)) (pgs_cons (pg_name (i := 5) sc_Ways___init__.nd rfl (Or.inl rfl)) pgs_nil))) (pss_one (ps_expr (pe_m (pv 0) T.clW T.mW_tie (ok_Ways_tie T) (hr.mono (by decide)) (pa_cons (pv 4) (pa_cons (pv 5) pa_nil))))))))), ?_⟩
    intro x dx2 nx ndx nd
    refine ⟨x, dx2, rfl, upd_same, fun A j H1 eA R1 kp1 fr1 => ⟨rfl, ?_⟩⟩
    subst eA
    have old : ∀ b o, H b = some o → H1 b = some o := fun b o hb => kp1 b o (by
      rw [upd_ne (ne_of_none hb nx), upd_ne (ne_of_none hb ndx)]; exact hb) (ne_of_none hb nx)
    have frH : ∀ a, Mut A a ∨ a = A.p → H a = none := fun a ha => by
      rcases ha with ha | ha
      · have q1 := fr1 a ha
        by_cases e1 : a = A.p
        · rw [e1]; exact nx
        · rw [upd_ne e1] at q1
          by_cases e2 : a = dx2
          · rw [e2]; exact ndx
          · rw [upd_ne e2] at q1; exact q1
      · rw [ha]; exact nx
    have nm : ∀ b o, H b = some o → ¬ Mut A b := fun b o hb hm => by rw [frH b (Or.inl hm)] at hb; cases hb
    refine ⟨_, rfl, q, aW K, dx, [], rfl, old _ _ hq, T.clW, T.nW_strands, by show 0 < 1000; decide, ?_⟩
    have nqp : q ≠ A.p := ne_of_none hq nx
    generalize hH2 : upd H1 q (.ins (aW K) dx (putF "strands" (.ref A.p) [])) = H2
    have kp2 : ∀ b o, H b = some o → b ≠ q → H2 b = some o := fun b o hb hn => by rw [← hH2, upd_ne hn]; exact old b o hb
    have Y2 : Wy K q A (bare 0) j H2 := ⟨⟨dx, by rw [← hH2, upd_same]; rfl⟩, R1.keep fun b o hb hc => by
      rw [← hH2, upd_ne]; exact hb
      intro e
      subst e
      rcases hc with hc | hc | ⟨xs, hc⟩
      · exact nqp hc
      · exact nm _ _ hq hc
      · subst hc; rw [old _ _ hq] at hb; cases hb⟩
    have nf : ∀ {b : Addr} {xs : List V}, H b = some (.tup xs) → H2 b = some (.tup xs) := fun hb => kp2 _ _ hb (ne_of hb hq (by intro z; cases z))
    refine q_forT (ev_ixt (n := 0) (ev_var rfl) (st_of (nf hf)) ev_c rfl) (st_of (nf h0)) (fun i σ' H' => ∃ (v2 v3 : Option V) (ji : J), σ' = [some (.ref q), some (.ref f), v2, v3, none, none] ∧ Wy K q A (bare i) ji H' ∧ Fr A H2 H') (fun H3 e3 => ⟨_, _, j, rfl, Y2.ex e3, Fr.ex e3⟩) (fun i σ' H' _ ⟨_, _, _, _, _, F⟩ => st_of (F _ _ (nf h0) (nm _ _ h0))) (fun i x' σ' H' hi ⟨v2, v3, ji, es, Y, F⟩ => ?_) (fun σ' H' ⟨v2, v3, ji, es, Y, F⟩ => ?_)
    · subst es
      have hi' : i < n ∧ x' = .ref tt := by
        have hl := (List.getElem?_eq_some_iff.mp hi).1
        rw [List.length_replicate] at hl
        rw [List.getElem?_replicate, if_pos hl] at hi
        exact ⟨hl, (Option.some.inj hi).symm⟩
      obtain ⟨hi', rfl⟩ := hi'
      refine ⟨tt, _, rfl, st_of (F _ _ (nf ht) (nm _ _ ht)), rfl, _, _, rfl, _, _, rfl, rfl, ?_⟩
      refine call_m (val_str T Y rfl) Y.arr.ob (sf_no A (by decide +kernel)) (vala_cons (val_var rfl) (vala_cons (val_var rfl) vala_nil)) ?_
      exact ⟨A, bare i, ji, -1, "a", rfl, Y.arr, by rw [bare_n]; omega, Or.inl rfl, fun j3 H3 R3 F3 => ⟨_, _, j3, rfl, Y.fr F3 R3, F.trans F3⟩⟩
    · subst es
      rw [List.length_replicate] at Y
      refine s_forT (ev_ixt (n := 1) (ev_var rfl) (st_of (F _ _ (nf hf) (nm _ _ hf))) ev_c rfl) (st_of (F _ _ (nf h1) (nm _ _ h1))) (fun i σ'' H'' => Same H' H'') (fun H3 e3 => e3) (fun i σ'' H'' _ e => st_of (e _ _ (F _ _ (nf h1) (nm _ _ h1)))) (fun i x' σ' H' hi _ => by simp at hi) (fun σ'' H'' e => ?_)
      exact k A ji H'' (Y.ex e) (fun b o hb hn => e _ _ (F _ _ (kp2 b o hb hn) (nm _ _ hb))) frH
def sp_bare_forest (K : PySem.W.Frag) : Sp := fun vs H Q _ => ∃ n : Nat, vs = [.int (n : Int)] ∧ n < 1000 ∧ ∀ f H', Same H H' → Bare H' f n → Q (.ref f) H'
-- 0 many
abbrev n_bare_forest : List Str := ["many"]
theorem sc_bare_forest : FnScope n_bare_forest ["many"] (defScope s_bare_forest) := ⟨rfl, rfl, rfl, by decide +kernel, rfl, by decide +kernel, by decide +kernel⟩
theorem ok_bare_forest (T : Txt w K mg) : Good P w K mg base 1 (He.ga K "bare_forest") ["many"] (sp_bare_forest K) := by
  refine good_mk T.D_bare_forest sc_bare_forest (fun _ _ _ _ _ _ us hl => match us, hl with | [_], _ => rfl) (fun vs H Q E h => ?_) (fun cdv A0 outer s H vs Q E hr h => ?_)
  · obtain ⟨n, rfl, _⟩ := h
    rfl
  · obtain ⟨n, rfl, hn, k⟩ := h
    refine ⟨_, (pss_one (ps_ret (pe_tup (pa_cons (pe_tupleOf rfl T.z_tuple (pe_op op_rep (pe_lst (pa_cons (pe_tup (pa_cons (pe_un un_neg pe_int) (pa_cons pe_str pa_nil))) pa_nil)) (pv 0))) (pa_cons (pe_tup pa_nil) pa_nil))))), ?_⟩
    refine ⟨1, rfl, by show 2 ≤ sizeLine; decide, fun tt htt => ⟨by show 1 ≤ sizeLine; decide, fun l hl => ?_⟩⟩
    refine ⟨_, rfl, l, (n : Int), _, rfl, rfl, upd_same, by omega, by omega, ?_, fun p hp => ?_⟩
    · show 1 * (n : Int).toNat ≤ sizeLine
      have : (1000 : Nat) ≤ sizeLine := by decide
      omega
    have e0 : (List.replicate (n : Int).toNat [V.ref tt]).flatten = List.replicate n (V.ref tt) := by
      rw [Int.toNat_natCast]
      exact flat_rep n _
    rw [e0]
    refine Or.inl ⟨p, _, rfl, SqL.of upd_same, fun t0 ht0 => ?_⟩
    refine ⟨by show 0 ≤ sizeLine; decide, fun t1 ht1 => ⟨by show 2 ≤ sizeLine; decide, fun f hf => ?_⟩⟩
    refine k f _ ((((((same_new htt).trans (same_new hl)).trans (same_new hp)).trans (same_new ht0)).trans (same_new ht1)).trans (same_new hf)) ⟨t0, t1, tt, upd_same, same_new hf _ _ (same_new ht1 _ _ upd_same), same_new hf _ _ upd_same, ?_⟩
    exact same_new hf _ _ (same_new ht1 _ _ (same_new ht0 _ _ (same_new hp _ _ (same_new hl _ _ upd_same))))
def sp_look_points (K : PySem.W.Frag) : Sp := fun vs H Q _ => ∃ n a b : Nat, vs = [.int (n : Int), .int (a : Int), .int (b : Int)] ∧ a < n ∧ b < n ∧ ∀ H', Same H H' → Q .non H'
-- 0 many, 1 a, 2 b
abbrev n_look_points : List Str := ["many", "a", "b"]
theorem sc_look_points : FnScope n_look_points ["many", "a", "b"] (defScope s_look_points) := ⟨rfl, rfl, rfl, by decide +kernel, rfl, by decide +kernel, by decide +kernel⟩
theorem ok_look_points (T : Txt w K mg) : Good P w K mg base 2 (He.ga K "look_points") ["many", "a", "b"] (sp_look_points K) := by
  refine good_mk T.D_look_points sc_look_points (fun _ _ _ _ _ _ us hl => match us, hl with | [_, _, _], _ => rfl) (fun vs H Q E h => ?_) (fun cdv A0 outer s H vs Q E hr h => ?_)
  · obtain ⟨n, a, b, rfl, _⟩ := h
    rfl
  · obtain ⟨n, a, b, rfl, ha, hb, k⟩ := h
    refine ⟨_, (pss_cut (ps_if (PW.pt (pw_or (pt_not (pt_val (pe_f (ok_is_number_shapes T) (hr.mono (by decide)) T.g_is_number_shapes (pa_cons (pv 1) pa_nil)))) (pw_or1 (pt_not (pt_val (pe_f (ok_is_number_shapes T) (hr.mono (by decide)) T.g_is_number_shapes (pa_cons (pv 2) pa_nil))))))) (pss_one ps_never) pss_nil)
      (pss_one (ps_if (PW.pt (pw_or (pt_not (pt_chain op_le op_lt pe_int (pv 1) (pv 0))) (pw_or1 (pt_not (pt_chain op_le op_lt pe_int (pv 2) (pv 0)))))) (pss_one ps_never) pss_nil))), ?_⟩
    have nm : ∀ {H1 : Hp} {σ : L2.St} {i : Nat} {z : Int}, σ[i]? = some (some (.int z)) → EvT (tNot (tB (tCall (sp_is_number_shapes K) [] E0 (tCons (tVar i) tNil)))) σ H1 false := fun {H1 σ i z} h => et_not (a := true) (et_B (ev_f (ea_cons (ev_var h) ea_nil) fun H2 e2 Q q => ⟨z, rfl, q⟩))
    have ch : ∀ {H1 : Hp} {σ : L2.St} {i j : Nat} {z n : Nat}, σ[i]? = some (some (.int (z : Int))) → σ[j]? = some (some (.int (n : Int))) → z < n → Ev (tChain (rI0 fun i j => .bl (decide (i ≤ j))) (rI0 fun i j => .bl (decide (i < j))) (tC (.int 0)) (tVar i) (tVar j)) σ H1 (.bl true) := fun {H1 σ i j z n} h1 h2 hz => ev_is (ev_chain ev_c (ev_var h1) (ev_var h2)) (by rw [decide_eq_true (by omega), decide_eq_true (by omega)]; rfl)
    refine ⟨fun σ' H' => σ' = [some (.int (n : Int)), some (.int (a : Int)), some (.int (b : Int))] ∧ Same H H', s_if (b := false) (et_or (a := false) (b := false) (nm rfl) fun _ => nm rfl) (fun h => nomatch h) (fun _ H1 e1 => ⟨rfl, e1⟩), ?_⟩
    rintro _ H1 ⟨rfl, e1⟩
    refine s_if (b := false) (et_or (a := false) (b := false) (et_not (a := true) ?_) fun _ => et_not (a := true) ?_) (fun h => nomatch h) (fun _ H2 e2 => k H2 (Same.trans e1 e2))
    · exact et_B (ch rfl rfl ha)
    · exact et_B (ch rfl rfl hb)
end
end K73
end
section
set_option maxHeartbeats 4000000
namespace K73
open PySem PySem.Spec PyProof.Rows L2 Evl
/-! ### Lightest: the state; __init__, keep_one, let_go, offer -/
structure LA where
  q : Addr
  dx : Addr
  lo : Addr
  w : Addr
  ds : Addr
  dn : Addr
structure LP where
  n : Nat
  offs : List (Nat × Nat × Int)
  spots : List (Nat × Nat)
  c : C
def lf (L : LA) (n : Nat) : List (Str × V) := [("many_points", .int (n : Int)), ("offered", .ref L.lo), ("ways", .ref L.w), ("spots", .ref L.ds), ("numbers", .ref L.dn)]
def offV (o : Nat × Nat × Int) : List V := [.int (o.1 : Int), .int (o.2.1 : Int), .int o.2.2]
def Offs (H : Hp) (as : List Addr) (os : List (Nat × Nat × Int)) : Prop := as.length = os.length ∧ ∀ (i : Nat) a o, as[i]? = some a → os[i]? = some o → H a = some (.tup (offV o))
def sk (s : List (Nat × Nat)) : List (Key × V) := s.map fun e => (Sum.inl (e.1 : Int), .int (e.2 : Int))
def nk (s : List (Nat × Nat)) : List (Key × V) := s.map fun e => (Sum.inl (e.2 : Int), .int (e.1 : Int))
structure Lt (K : PySem.W.Frag) (L : LA) (A : SA) (p : LP) (j : J) (H : Hp) : Prop where
  ob : H L.q = some (.ins (aL K) L.dx (lf L p.n))
  ways : Wy K L.w A p.c j H
  off : ∃ as, H L.lo = some (.lst (as.map V.ref)) ∧ Offs H as p.offs
  ds : H L.ds = some (.dK (sk p.spots))
  dn : H L.dn = some (.dK (nk p.spots))
  nlo : ¬ Mut A L.lo
  ne : L.ds ≠ L.dn
def MutL (A : SA) (L : LA) (a : Addr) : Prop := Mut A a ∨ a = L.lo ∨ a = L.ds ∨ a = L.dn
def FrL (A : SA) (L : LA) (H H' : Hp) : Prop := ∀ a o, H a = some o → ¬ MutL A L a → H' a = some o
theorem FrL.refl (A : SA) (L : LA) (H : Hp) : FrL A L H H := fun _ _ h _ => h
theorem FrL.trans {A : SA} {L : LA} {H H1 H2 : Hp} (a : FrL A L H H1) (b : FrL A L H1 H2) : FrL A L H H2 := fun x o h n => b x o (a x o h n) n
theorem FrL.of {A : SA} {L : LA} {H H1 : Hp} (a : Fr A H H1) : FrL A L H H1 := fun x o h n => a x o h fun m => n (Or.inl m)
theorem FrL.ex {A : SA} {L : LA} {H H1 : Hp} (a : Same H H1) : FrL A L H H1 := fun x o h n => a x o h
section
variable {K : PySem.W.Frag} {L : LA} {A : SA} {p : LP} {j : J} {H H' : Hp}
theorem Lt.mds (Y : Lt K L A p j H) : ¬ Mut A L.ds := mut_ne Y.ways.arr Y.ds (by intro xs e; cases e)
theorem Lt.mdn (Y : Lt K L A p j H) : ¬ Mut A L.dn := mut_ne Y.ways.arr Y.dn (by intro xs e; cases e)
theorem Lt.mq (Y : Lt K L A p j H) : ¬ Mut A L.q := mut_ne Y.ways.arr Y.ob (by intro xs e; cases e)
theorem Offs.mono {as : List Addr} {os : List (Nat × Nat × Int)} (O : Offs H as os) (h : ∀ a xs, H a = some (.tup xs) → H' a = some (.tup xs)) : Offs H' as os := ⟨O.1, fun i a o h1 h2 => h _ _ (O.2 i a o h1 h2)⟩
theorem Lt.fr {c' : C} {j' : J} (Y : Lt K L A p j H) (F : Fr A H H') (W : Wy K L.w A c' j' H') : Lt K L A { p with c := c' } j' H' where
  ob := F _ _ Y.ob Y.mq
  ways := W
  off := by
    obtain ⟨as, h1, h2⟩ := Y.off
    exact ⟨as, F _ _ h1 Y.nlo, h2.mono fun a xs h => F _ _ h (mut_ne Y.ways.arr h (by intro xs e; cases e))⟩
  ds := F _ _ Y.ds Y.mds
  dn := F _ _ Y.dn Y.mdn
  nlo := Y.nlo
  ne := Y.ne
theorem Lt.ex (Y : Lt K L A p j H) (e : Same H H') : Lt K L A p j H' := Y.fr (Fr.ex e) (Y.ways.ex e)
theorem Lt.offat {n : Nat} {o : Nat × Nat × Int} (Y : Lt K L A p j H) (h : p.offs[n]? = some o) : ∃ (as : List Addr) (a : Addr), H L.lo = some (.lst (as.map V.ref)) ∧ (as.map V.ref)[n]? = some (V.ref a) ∧ H a = some (.tup (offV o)) := by
  obtain ⟨as, h1, h2, h3⟩ := Y.off
  have hl : n < as.length := by
    rw [h2]
    exact (List.getElem?_eq_some_iff.mp h).1
  have ha : as[n]? = some as[n] := List.getElem?_eq_getElem hl
  exact ⟨as, as[n], h1, by rw [List.getElem?_map, ha]; rfl, h3 n _ o ha h⟩
theorem find_sk {s : List (Nat × Nat)} {k : Nat} : valV (sk s) (Sum.inl (k : Int)) = (s.find? fun e => decide (e.1 = k)).map fun e => V.int (e.2 : Int) := by
  induction s with
  | nil => rfl
  | cons e r ih =>
    by_cases q : e.1 = k
    · rw [List.find?_cons, decide_eq_true q]
      exact valV_pos (p := (Sum.inl (e.1 : Int), V.int (e.2 : Int))) (by rw [q])
    · rw [List.find?_cons, decide_eq_false q, ← ih]
      exact valV_neg (p := (Sum.inl (e.1 : Int), V.int (e.2 : Int))) (fun z => q (by injection z with z; exact Int.ofNat.inj z))
def sw (s : List (Nat × Nat)) : List (Nat × Nat) := s.map fun e => (e.2, e.1)
theorem nk_sw (s : List (Nat × Nat)) : nk s = sk (sw s) := by
  unfold nk sk sw
  rw [List.map_map]; rfl
theorem val_sk {s : List (Nat × Nat)} {k v : Nat} (nd : (s.map (·.1)).Nodup) (h : (k, v) ∈ s) : valV (sk s) (Sum.inl (k : Int)) = some (.int (v : Int)) := by
  rw [find_sk]
  induction s with
  | nil => cases h
  | cons e r ih =>
    rw [List.map_cons, List.nodup_cons] at nd
    rcases List.mem_cons.mp h with q | q
    · subst q
      rw [List.find?_cons, decide_eq_true (show (k, v).1 = k from rfl)]; rfl
    · have hne : e.1 ≠ k := fun z => nd.1 (by rw [z]; exact List.mem_map.mpr ⟨_, q, rfl⟩)
      rw [List.find?_cons, decide_eq_false hne]
      exact ih nd.2 q
theorem val_none {s : List (Nat × Nat)} {k : Nat} (h : k ∉ s.map (·.1)) : valV (sk s) (Sum.inl (k : Int)) = none := by
  rw [find_sk]
  have e : (s.find? fun e => decide (e.1 = k)) = none := by
    rw [List.find?_eq_none]
    intro e he q
    exact h (List.mem_map.mpr ⟨e, he, of_decide_eq_true q⟩)
  rw [e]; rfl
theorem drop_sk {s : List (Nat × Nat)} {k : Nat} : dropK (sk s) (Sum.inl (k : Int)) = sk (s.filter fun e => decide (e.1 ≠ k)) := by
  unfold dropK sk
  rw [List.filter_map]
  congr 1
  apply List.filter_congr
  intro e _
  show decide (Sum.inl (e.1 : Int) ≠ (Sum.inl (k : Int) : Key)) = decide (e.1 ≠ k)
  rw [Bool.eq_iff_iff, decide_eq_true_iff, decide_eq_true_iff]
  constructor
  · intro h q; exact h (by rw [q])
  · intro h q; exact h (by injection q with q; exact Int.ofNat.inj q)
theorem put_sk {s : List (Nat × Nat)} {k v : Nat} (h : k ∉ s.map (·.1)) : putK (sk s) (Sum.inl (k : Int)) (.int (v : Int)) = sk (s ++ [(k, v)]) := by
  rw [putK_new _ (val_none h)]
  unfold sk
  rw [List.map_append]; rfl
theorem sw_fst (s : List (Nat × Nat)) : (sw s).map (·.1) = s.map (·.2) := by unfold sw; rw [List.map_map]; rfl
theorem nodup_key {s : List (Nat × Nat)} {a b : Nat × Nat} (nd : (s.map (·.1)).Nodup) (ha : a ∈ s) (hb : b ∈ s) (e : a.1 = b.1) : a = b := by
  induction s with
  | nil => cases ha
  | cons x r ih =>
    rw [List.map_cons, List.nodup_cons] at nd
    rcases List.mem_cons.mp ha with q | q <;> rcases List.mem_cons.mp hb with q2 | q2
    · rw [q, q2]
    · exact absurd (List.mem_map.mpr ⟨b, q2, by rw [← e, q]⟩) nd.1
    · exact absurd (List.mem_map.mpr ⟨a, q, by rw [e, q2]⟩) nd.1
    · exact ih nd.2 q q2
theorem filter_two {s : List (Nat × Nat)} {k v : Nat} (n1 : (s.map (·.1)).Nodup) (n2 : (s.map (·.2)).Nodup) (h : (k, v) ∈ s) : (s.filter fun e => decide (e.2 ≠ v)) = s.filter fun e => decide (e.1 ≠ k) := by
  apply List.filter_congr
  intro e he
  rw [Bool.eq_iff_iff, decide_eq_true_iff, decide_eq_true_iff]
  constructor
  · intro h1 h2
    exact h1 (by rw [nodup_key n1 he h h2])
  · intro h1 h2
    have hh : (e.2, e.1) = (v, k) := nodup_key (s := sw s) (by rw [sw_fst]; exact n2) (List.mem_map.mpr ⟨e, he, rfl⟩) (List.mem_map.mpr ⟨(k, v), h, rfl⟩) h2
    injection hh with _ h3
    exact h1 h3
theorem Lt.setS {s : List (Nat × Nat)} (Y : Lt K L A p j H) {o1 o2 : HO} (h1 : o1 = .dK (sk s)) (h2 : o2 = .dK (nk s)) : Lt K L A { p with spots := s } j (upd (upd H L.ds o1) L.dn o2) := by
  have kp : ∀ b o, H b = some o → (∀ kv, o ≠ .dK kv) → upd (upd H L.ds o1) L.dn o2 b = some o := fun b o hb hk => by
    rw [upd_ne (fun e => hk (nk p.spots) (by subst e; rw [Y.dn] at hb; exact (Option.some.inj hb).symm)), upd_ne (fun e => hk (sk p.spots) (by subst e; rw [Y.ds] at hb; exact (Option.some.inj hb).symm))]
    exact hb
  refine ⟨kp _ _ Y.ob (by intro kv e; cases e), ?_, ?_, ?_, ?_, Y.nlo, Y.ne⟩
  · obtain ⟨dx, ho⟩ := Y.ways.ob
    refine ⟨⟨dx, kp _ _ ho (by intro kv e; cases e)⟩, Y.ways.arr.keep fun b o hb hc => kp b o hb ?_⟩
    intro kv e
    subst e
    rcases hc with hc | hc | ⟨xs, hc⟩
    · subst hc; rw [Y.ways.arr.ob] at hb; cases hb
    · exact mut_ne Y.ways.arr hb (by intro xs e; cases e) hc
    · cases hc
  · obtain ⟨as, g1, g2⟩ := Y.off
    exact ⟨as, kp _ _ g1 (by intro kv e; cases e), g2.mono fun a xs h => kp _ _ h (by intro kv e; cases e)⟩
  · rw [upd_ne Y.ne, upd_same, h1]
  · rw [upd_same, h2]
theorem frl_d {o1 o2 : HO} : FrL A L H (upd (upd H L.ds o1) L.dn o2) := fun b o hb hn => by
  rw [upd_ne (fun e => hn (Or.inr (Or.inr (Or.inr e)))), upd_ne (fun e => hn (Or.inr (Or.inr (Or.inl e))))]
  exact hb
end
section
variable {P : Program} {w : World} {K : PySem.W.Frag} {mg : Str → Option Value} {base : Heap}
variable {L : LA} {A : SA} {p : LP} {j : J} {H : Hp} {σ : L2.St}
theorem lf_no {m : Str} {n : Nat} (h : (["many_points", "offered", "ways", "spots", "numbers"] : List Str).contains m = false) : (lf L n).lookup m = none := lookup_no h
theorem ev_lo (T : Txt w K mg) (Y : Lt K L A p j H) (h : σ[0]? = some (some (.ref L.q))) : Ev (tFld K (tVar 0) "offered") σ H (.ref L.lo) := ev_fld (ev_var h) Y.ob T.clL T.nL_offered (by rfl)
theorem ev_lw (T : Txt w K mg) (Y : Lt K L A p j H) (h : σ[0]? = some (some (.ref L.q))) : Ev (tFld K (tVar 0) "ways") σ H (.ref L.w) := ev_fld (ev_var h) Y.ob T.clL T.nL_ways (by rfl)
theorem ev_ls (T : Txt w K mg) (Y : Lt K L A p j H) (h : σ[0]? = some (some (.ref L.q))) : Ev (tFld K (tVar 0) "spots") σ H (.ref L.ds) := ev_fld (ev_var h) Y.ob T.clL T.nL_spots (by rfl)
theorem ev_ln (T : Txt w K mg) (Y : Lt K L A p j H) (h : σ[0]? = some (some (.ref L.q))) : Ev (tFld K (tVar 0) "numbers") σ H (.ref L.dn) := ev_fld (ev_var h) Y.ob T.clL T.nL_numbers (by rfl)
theorem call_do (T : Txt w K mg) (Y : Lt K L A p j H) (h : σ[0]? = some (some (.ref L.q))) {r : RowV} {c' : C} {an : Ans} {t3 : TA} {Q : VK} (hv : EvA t3 σ H r.items) (hd : Does p.c r c' an)
    (k : ∀ j' H' v, Lt K L A { p with c := c' } j' H' → FrL A L H H' → an.at_ H' v → Q v H') : tMeth (aW K) "do" (sp_Ways_do K) [] E0 (tFld K (tVar 0) "ways") (tCons (tTup t3) tNil) σ H Q :=
  ev_lw T Y h H (Same.refl _) _ fun H1 e1 => by
    obtain ⟨dx, ho⟩ := Y.ways.ob
    refine ⟨L.w, dx, _, rfl, e1 _ _ ho, wf_no A (by decide +kernel), ?_⟩
    refine eu_tup hv (by cases r <;> (show 3 ≤ 100000; decide)) H1 e1 _ fun t H2 _ e2 h2 => ?_
    have Y2 := (Y.ex e1).ex e2
    exact ⟨L.w, A, p.c, c', j, t, r, an, rfl, Y2.ways, h2, hd, fun j3 H3 v W3 F3 ha => k j3 H3 v (Y2.fr F3 W3) ((FrL.ex (Same.trans e1 e2)).trans (FrL.of F3)) ha⟩
def lp0 (n : Nat) : LP := ⟨n, [], [], bare n⟩
def sp_Lightest___init__ (K : PySem.W.Frag) : Sp := fun vs H Q _ => ∃ (q dx : Addr) (n : Nat), vs = [.ref q, .int (n : Int)] ∧ H q = some (.ins (aL K) dx []) ∧ n < 1000 ∧
  ∀ L A j H', L.q = q → Lt K L A (lp0 n) j H' → (∀ b o, H b = some o → b ≠ q → H' b = some o) → (∀ a, MutL A L a → H a = none) → Q .non H'
-- 0 self, 1 many
abbrev n_Lightest___init__ : List Str := ["self", "many"]
theorem sc_Lightest___init__ : FnScope n_Lightest___init__ ["self", "many"] (defScope s_Lightest___init__) := ⟨rfl, rfl, rfl, by decide +kernel, rfl, by decide +kernel, by decide +kernel⟩
theorem ok_Lightest___init__ (T : Txt w K mg) : Good P w K mg base 10 (He.ma K (aL K) "__init__") ["self", "many"] (sp_Lightest___init__ K) := by
  refine good_mk T.D_Lightest___init__ sc_Lightest___init__ (fun _ _ _ _ _ _ us hl => match us, hl with | [_, _], _ => rfl) (fun vs H Q E h => ?_) (fun cdv A0 outer s H vs Q E hr h => ?_)
  · obtain ⟨q, dx, n, rfl, _⟩ := h
    rfl
  · obtain ⟨q, dx, n, rfl, hq, hn, k⟩ := h
    refine ⟨_, (pss_cons (ps_fld (pv 0) (pv 1) rfl)
      (pss_cons (ps_fld (pv 0) (pe_lst pa_nil) rfl)
      (pss_cons (ps_fld (pv 0) (pe_mk T.mkW (ok_Ways___init__ T) (hr.mono (by decide)) T.g_Ways (pa_cons (pe_f (ok_bare_forest T) (hr.mono (by decide)) T.g_bare_forest (pa_cons (pv 1) pa_nil)) pa_nil)) rfl)
      (pss_cons (ps_fld (pv 0) pe_dnewK rfl)
      (pss_one (ps_fld (pv 0) pe_dnewK rfl)))))), ?_⟩
    have cl := T.clL
    -- many_points
    refine ⟨_, rfl, _, rfl, q, aL K, dx, [], rfl, hq, cl, T.nL_many_points, by show 0 < 1000; decide, ?_⟩
    have kp1 : ∀ b o, H b = some o → b ≠ q → upd H q (.ins (aL K) dx (putF "many_points" (.int (n : Int)) [])) b = some o := fun b o hb hn => by rw [upd_ne hn]; exact hb
    generalize hH1 : upd H q (.ins (aL K) dx (putF "many_points" (.int (n : Int)) [])) = H1 at kp1
    have ob1 : H1 q = some (.ins (aL K) dx [("many_points", .int (n : Int))]) := by rw [← hH1, upd_same]; rfl
    have fr1 : ∀ a, H1 a = none → H a = none := fun a ha => by
      cases h : H a with
      | none => rfl
      | some o =>
        by_cases e : a = q
        · subst e; rw [ob1] at ha; cases ha
        · rw [kp1 a o h e] at ha; cases ha
    -- offered
    refine ⟨by show 0 ≤ sizeLine; decide, fun lo hlo => ?_⟩
    have nql : q ≠ lo := ne_of_none ob1 hlo
    refine ⟨_, rfl, q, aL K, dx, _, rfl, by rw [upd_ne nql]; exact ob1, cl, T.nL_offered, by show 1 < 1000; decide, ?_⟩
    have kp2 : ∀ b o, H1 b = some o → b ≠ q → upd (upd H1 lo (.lst [])) q (.ins (aL K) dx (putF "offered" (.ref lo) [("many_points", .int (n : Int))])) b = some o := fun b o hb hn => by
      rw [upd_ne hn, upd_ne (ne_of_none hb hlo)]; exact hb
    generalize hH2 : upd (upd H1 lo (.lst [])) q (.ins (aL K) dx (putF "offered" (.ref lo) [("many_points", .int (n : Int))])) = H2 at kp2
    have ob2 : H2 q = some (.ins (aL K) dx [("many_points", .int (n : Int)), ("offered", .ref lo)]) := by rw [← hH2, upd_same]; rfl
    have hlo2 : H2 lo = some (.lst []) := by rw [← hH2, upd_ne nql.symm, upd_same]
    have fr2 : ∀ a, H2 a = none → H1 a = none := fun a ha => by
      cases h : H1 a with
      | none => rfl
      | some o =>
        by_cases e : a = q
        · subst e; rw [ob2] at ha; cases ha
        · rw [kp2 a o h e] at ha; cases ha
    -- ways
    refine ⟨_, rfl, n, rfl, hn, fun f H3 e3 hf => ?_⟩
    have ob3 := e3 _ _ ob2
    intro x dx2 nx ndx nd
    obtain ⟨t0, t1, tt, g1, g2, g3, g4⟩ := hf
    have old : ∀ {b o}, H3 b = some o → upd (upd H3 dx2 (.own x)) x (.ins (aW K) dx2 []) b = some o := fun hb => by
      rw [upd_ne (ne_of_none hb nx), upd_ne (ne_of_none hb ndx)]; exact hb
    refine ⟨x, dx2, f, n, rfl, upd_same, ⟨t0, t1, tt, old g1, old g2, old g3, old g4⟩, hn, fun A j H4 Y4 kp4 fr4 => ⟨rfl, ?_⟩⟩
    have kp4' : ∀ b o, H3 b = some o → H4 b = some o := fun b o hb => kp4 b o (old hb) (ne_of_none hb nx)
    have ob4 := kp4' _ _ ob3
    have hlo4 := kp4' _ _ (e3 _ _ hlo2)
    have nmA : ∀ a, Mut A a ∨ a = A.p → H3 a = none := fun a ha => by
      have q1 := fr4 a ha
      by_cases e1 : a = x
      · rw [e1]; exact nx
      · rw [upd_ne e1] at q1
        by_cases e2 : a = dx2
        · rw [e2]; exact ndx
        · rw [upd_ne e2] at q1; exact q1
    have nm3 : ∀ {b o}, H3 b = some o → ¬ Mut A b := fun hb hm => by rw [nmA _ (Or.inl hm)] at hb; cases hb
    have np3 : ∀ {b o}, H3 b = some o → b ≠ A.p := fun hb hm => by rw [nmA _ (Or.inr hm)] at hb; cases hb
    have nxq : x ≠ q := fun e => by subst e; rw [ob3] at nx; cases nx
    refine ⟨_, rfl, q, aL K, dx, _, rfl, ob4, cl, T.nL_ways, by show 2 < 1000; decide, ?_⟩
    generalize hH5 : upd H4 q (.ins (aL K) dx (putF "ways" (.ref x) [("many_points", .int (n : Int)), ("offered", .ref lo)])) = H5
    have ob5 : H5 q = some (.ins (aL K) dx [("many_points", .int (n : Int)), ("offered", .ref lo), ("ways", .ref x)]) := by rw [← hH5, upd_same]; rfl
    have kp5 : ∀ b o, H4 b = some o → b ≠ q → H5 b = some o := fun b o hb hn => by rw [← hH5, upd_ne hn]; exact hb
    -- spots
    intro ds hds
    have nqd : q ≠ ds := ne_of_none ob5 hds
    refine ⟨_, rfl, q, aL K, dx, _, rfl, by rw [upd_ne nqd]; exact ob5, cl, T.nL_spots, by show 3 < 1000; decide, ?_⟩
    generalize hH6 : upd (upd H5 ds (.dK [])) q (.ins (aL K) dx (putF "spots" (.ref ds) [("many_points", .int (n : Int)), ("offered", .ref lo), ("ways", .ref x)])) = H6
    have ob6 : H6 q = some (.ins (aL K) dx [("many_points", .int (n : Int)), ("offered", .ref lo), ("ways", .ref x), ("spots", .ref ds)]) := by rw [← hH6, upd_same]; rfl
    have kp6 : ∀ b o, H5 b = some o → b ≠ q → H6 b = some o := fun b o hb hn => by rw [← hH6, upd_ne hn, upd_ne (ne_of_none hb hds)]; exact hb
    have hds6 : H6 ds = some (.dK []) := by rw [← hH6, upd_ne nqd.symm, upd_same]
    -- numbers
    intro dn hdn
    have nqn : q ≠ dn := ne_of_none ob6 hdn
    refine ⟨_, rfl, q, aL K, dx, _, rfl, by rw [upd_ne nqn]; exact ob6, cl, T.nL_numbers, by show 4 < 1000; decide, ?_⟩
    generalize hH7 : upd (upd H6 dn (.dK [])) q (.ins (aL K) dx (putF "numbers" (.ref dn) [("many_points", .int (n : Int)), ("offered", .ref lo), ("ways", .ref x), ("spots", .ref ds)])) = H7
    have ob7 : H7 q = some (.ins (aL K) dx (lf ⟨q, dx, lo, x, ds, dn⟩ n)) := by rw [← hH7, upd_same]; rfl
    have kp7 : ∀ b o, H6 b = some o → b ≠ q → H7 b = some o := fun b o hb hn => by rw [← hH7, upd_ne hn, upd_ne (ne_of_none hb hdn)]; exact hb
    have hdn7 : H7 dn = some (.dK []) := by rw [← hH7, upd_ne nqn.symm, upd_same]
    have k47 : ∀ b o, H4 b = some o → b ≠ q → H7 b = some o := fun b o hb hn => kp7 b o (kp6 b o (kp5 b o hb hn) hn) hn
    have none4 : ∀ a, H4 a = none → H a = none := fun a ha => by
      cases h : H a with
      | none => rfl
      | some o =>
        by_cases e : a = q
        · subst e; rw [ob4] at ha; cases ha
        · rw [kp4' a o (e3 _ _ (kp2 a o (kp1 a o h e) e))] at ha; cases ha
    have none5 : ∀ a, H5 a = none → H4 a = none := fun a ha => by
      cases h : H4 a with
      | none => rfl
      | some o =>
        by_cases e : a = q
        · subst e; rw [ob5] at ha; cases ha
        · rw [kp5 a o h e] at ha; cases ha
    have none6 : ∀ a, H6 a = none → H5 a = none := fun a ha => by
      cases h : H5 a with
      | none => rfl
      | some o =>
        by_cases e : a = q
        · subst e; rw [ob6] at ha; cases ha
        · rw [kp6 a o h e] at ha; cases ha
    refine k ⟨q, dx, lo, x, ds, dn⟩ A j H7 rfl ⟨ob7, ?_, ⟨[], k47 _ _ hlo4 nql.symm, rfl, fun i a o h => by simp at h⟩, kp7 _ _ hds6 nqd.symm, hdn7, nm3 (e3 _ _ hlo2), ne_of_none hds6 hdn⟩ (fun b o hb hn => k47 b o (kp4' b o (e3 _ _ (kp2 b o (kp1 b o hb hn) hn))) hn) ?_
    · obtain ⟨dxw, how⟩ := Y4.ob
      refine ⟨⟨dxw, k47 _ _ how nxq⟩, Y4.arr.keep fun b o hb hc => k47 b o hb ?_⟩
      intro e
      subst e
      rcases hc with hc | hc | ⟨xs, hc⟩
      · exact np3 ob3 hc
      · exact nm3 ob3 hc
      · subst hc; rw [ob4] at hb; cases hb
    · rintro a (ha | ha | ha | ha)
      · exact fr1 a (fr2 a (by
          cases h : H2 a with
          | none => rfl
          | some o =>
            have := nmA a (Or.inl ha)
            rw [e3 _ _ h] at this; cases this))
      · subst ha; exact fr1 _ hlo
      · subst ha; exact none4 _ (none5 _ hds)
      · subst ha; exact none4 _ (none5 _ (none6 _ hdn))
end
end K73
end
section
set_option maxHeartbeats 4000000
namespace K73
open PySem PySem.Spec PyProof.Rows L2 Evl
/-! ### Lightest: keep_one, let_go, offer -/
def KeepOne (p : LP) (number : Nat) (p' : LP) : Prop := ∃ (a b : Nat) (z : Int) (c2 c3 : C), p.offs[number]? = some (a, b, z) ∧ p.c.n < 1000 ∧ Tied (putPoint p.c z) a p.c.n c2 ∧ Tied c2 p.c.n b c3 ∧ number ∉ p.spots.map (·.1) ∧ p.c.n ∉ p.spots.map (·.2) ∧ p.spots.length < 1000 ∧ p' = { p with c := c3, spots := p.spots ++ [(number, p.c.n)] }
def LetGo (p : LP) (number : Nat) (p' : LP) : Prop := ∃ (a b : Nat) (z : Int) (spot : Nat) (c2 c3 : C), p.offs[number]? = some (a, b, z) ∧ (number, spot) ∈ p.spots ∧ (p.spots.map (·.1)).Nodup ∧ (p.spots.map (·.2)).Nodup ∧ Cutted p.c a spot c2 ∧ Cutted c2 spot b c3 ∧ p' = { p with c := c3, spots := p.spots.filter fun e => decide (e.1 ≠ number) }
def Offered (p : LP) (a b : Nat) (z : Int) (p' : LP) : Prop := a < p.n ∧ b < p.n ∧ 0 ≤ z ∧ p.offs.length < 1000 ∧ ∃ c1 : C, Joined p.c a b c1 ∧
  ((joinedB c1 a b = false ∧ KeepOne { p with offs := p.offs ++ [(a, b, z)], c := c1 } p.offs.length p') ∨
   (joinedB c1 a b = true ∧ ∃ (c2 c3 : C) (x : Nat), OpenWay c1 a b c2 ∧ FirstBy (c2.most b) c2 b c3 x ∧
     ((c2.most b ≤ z ∧ p' = { p with offs := p.offs ++ [(a, b, z)], c := c3 }) ∨
      (z < c2.most b ∧ ∃ (g : Nat) (p2 : LP), (g, x) ∈ p.spots ∧ (p.spots.map (·.2)).Nodup ∧ LetGo { p with offs := p.offs ++ [(a, b, z)], c := c3 } g p2 ∧ KeepOne p2 p.offs.length p'))))
theorem t_dpop {σ : L2.St} {H : Hp} {td ty : TE} {d : Addr} {k : Key} {kvs : List (Key × V)} {v : V} {Q : VK} (hd : Ev td σ H (.ref d)) (hk : Ev ty σ H (kV k)) (h : H d = some (.dK kvs)) (hv : valV kvs k = some v) (q : ∀ H1, Same H H1 → Q v (upd H1 d (.dK (dropK kvs k)))) : tDPop1 td ty σ H Q :=
  hd H (Same.refl _) _ fun H1 e1 => ⟨d, rfl, Or.inl ⟨_, Rd.of (e1 _ _ h)⟩, hk H1 e1 _ fun H2 e2 => ⟨kvs, k, v, e2 _ _ (e1 _ _ h), rfl, hv, q H2 (Same.trans e1 e2)⟩⟩
theorem q_dpop {σ : L2.St} {H : Hp} {td ty : TE} {d : Addr} {k : Key} {kvs : List (Key × V)} {v : V} {g : TG} {tz : TS} {D : Ends} (hd : Ev td σ H (.ref d)) (hk : Ev ty σ H (kV k)) (h : H d = some (.dK kvs)) (hv : valV kvs k = some v) (q : ∀ H1, Same H H1 → g v σ (upd H1 d (.dK (dropK kvs k))) (tz D)) : tSeq (tAsg (tDPop1 td ty) g) tz D σ H := t_dpop (Q := fun v H => g v σ H (tz D)) hd hk h hv q
section
variable {P : Program} {w : World} {K : PySem.W.Frag} {mg : Str → Option Value} {base : Heap}
def sp_Lightest_keep_one (K : PySem.W.Frag) : Sp := fun vs H Q _ => ∃ (L : LA) (A : SA) (p p' : LP) (j : J) (number : Nat), vs = [.ref L.q, .int (number : Int)] ∧ Lt K L A p j H ∧ KeepOne p number p' ∧ ∀ j' H', Lt K L A p' j' H' → FrL A L H H' → Q .non H'
-- 0 self, 1 number, 2 a, 3 b, 4 price, 5 spot
abbrev n_Lightest_keep_one : List Str := ["self", "number", "a", "b", "price", "spot"]
theorem sc_Lightest_keep_one : FnScope n_Lightest_keep_one ["self", "number"] (defScope s_Lightest_keep_one) := ⟨rfl, rfl, rfl, by decide +kernel, rfl, by decide +kernel, by decide +kernel⟩
theorem ok_Lightest_keep_one (T : Txt w K mg) : Good P w K mg base 11 (He.ma K (aL K) "keep_one") ["self", "number"] (sp_Lightest_keep_one K) := by
  refine good_mk T.D_Lightest_keep_one sc_Lightest_keep_one (fun _ _ _ _ _ _ us hl => match us, hl with | [_, _], _ => rfl) (fun vs H Q E h => ?_) (fun cdv A0 outer s H vs Q E hr h => ?_)
  · obtain ⟨L, A, p, p', j, number, rfl, _⟩ := h
    rfl
  · obtain ⟨L, A, p, p', j, number, rfl, Y, ⟨a, b, z, c2, c3, ho, hn, t1, t2, nd1, nd2, hsl, rfl⟩, k⟩ := h
    refine ⟨_, (pss_cons (ps_asg (pe_ix ix_list (pe_fld (pv 0) rfl) (pv 1) (fun _ _ => rfl)) (pg_tup rfl (pgs_cons (pg_name (i := 2) sc_Lightest_keep_one.nd rfl (Or.inl rfl)) (pgs_cons (pg_name (i := 3) sc_Lightest_keep_one.nd rfl (Or.inl rfl)) (pgs_cons (pg_name (i := 4) sc_Lightest_keep_one.nd rfl (Or.inl rfl)) pgs_nil)))))
      (pss_cons (ps_set (i := 5) sc_Lightest_keep_one.nd rfl (Or.inl rfl) (pe_m (pe_fld (pv 0) rfl) T.clW T.mW_do (ok_Ways_do T) (hr.mono (by decide)) (pa_cons (pe_tup (pa_cons pe_str (pa_cons (pv 4) (pa_cons pe_str pa_nil)))) pa_nil)))
      (pss_cons (ps_expr (pe_m (pe_fld (pv 0) rfl) T.clW T.mW_do (ok_Ways_do T) (hr.mono (by decide)) (pa_cons (pe_tup (pa_cons pe_str (pa_cons (pv 2) (pa_cons (pv 5) pa_nil)))) pa_nil)))
      (pss_cons (ps_expr (pe_m (pe_fld (pv 0) rfl) T.clW T.mW_do (ok_Ways_do T) (hr.mono (by decide)) (pa_cons (pe_tup (pa_cons pe_str (pa_cons (pv 5) (pa_cons (pv 3) pa_nil)))) pa_nil)))
      (pss_cons (ps_dput (hu_of hr) (pe_fld (pv 0) rfl) (pv 1) (pv 5) rfl)
      (pss_one (ps_dput (hu_of hr) (pe_fld (pv 0) rfl) (pv 5) (pv 1) rfl))))))), ?_⟩
    obtain ⟨as, ad, h1, h2, h3⟩ := Y.offat ho
    refine ev_here (ev_ixl (ev_lo T Y rfl) h1 (ev_var rfl) h2) (fun H1 e1 => ?_)
    refine ⟨_, _, rfl, SqT.of (e1 _ _ h3), rfl, _, _, rfl, _, _, rfl, _, _, rfl, rfl, ?_⟩
    have Y1 := Y.ex e1
    refine call_do (r := .new z) (c' := putPoint p.c z) (an := .val (.int (p.c.n : Int))) T Y1 rfl (ea_cons ev_c (ea_cons (ev_var rfl) (ea_cons ev_c ea_nil))) ⟨hn, rfl, rfl⟩ (fun j2 H2 v2 Y2 F2 hv => ?_)
    have hv' : v2 = .int (p.c.n : Int) := hv
    subst hv'
    dsimp only
    refine call_do (r := .two "tie" a p.c.n) (c' := c2) (an := .val .non) T Y2 rfl (ea_cons ev_c (ea_cons (ev_var rfl) (ea_cons (ev_var rfl) ea_nil))) (Or.inl ⟨rfl, t1, rfl⟩) (fun j3 H3 v3 Y3 F3 _ => ?_)
    refine call_do (r := .two "tie" p.c.n b) (c' := c3) (an := .val .non) T Y3 rfl (ea_cons ev_c (ea_cons (ev_var rfl) (ea_cons (ev_var rfl) ea_nil))) (Or.inl ⟨rfl, t2, rfl⟩) (fun j4 H4 v4 Y4 F4 _ => ?_)
    refine ⟨_, rfl, ?_⟩
    refine ev_ls T Y4 rfl H4 (Same.refl _) _ fun H5 e5 => ?_
    have Y5 := Y4.ex e5
    have ls : (sk p.spots).length < sizeLine := by
      unfold sk
      rw [List.length_map]
      exact Nat.lt_trans hsl (by decide)
    have ln : (nk p.spots).length < sizeLine := by
      unfold nk
      rw [List.length_map]
      exact Nat.lt_trans hsl (by decide)
    refine ⟨_, rfl, _, _, rfl, DPut.k (k := Sum.inl (number : Int)) Y5.ds ls, ?_⟩
    refine ⟨_, rfl, ?_⟩
    have e6 : ∀ {b o}, H5 b = some o → b ≠ L.ds → upd H5 L.ds (.dK (putK (sk p.spots) (Sum.inl (number : Int)) (.int (p.c.n : Int)))) b = some o := fun hb hn => by rw [upd_ne hn]; exact hb
    have nq : L.q ≠ L.ds := ne_of Y5.ob Y5.ds (by intro z; cases z)
    refine ⟨_, rfl, L.q, _, _, _, _, rfl, e6 Y5.ob nq, T.clL, T.nL_numbers, (by rfl), ?_⟩
    refine ⟨_, rfl, _, _, rfl, DPut.k (k := Sum.inl (p.c.n : Int)) (e6 Y5.dn Y5.ne.symm) ln, ?_⟩
    refine k j4 _ (Y5.setS ?_ ?_) ((((FrL.ex e1).trans F2).trans F3).trans (F4.trans ((FrL.ex e5).trans frl_d)))
    · rw [put_sk nd1]
    · rw [nk_sw p.spots, put_sk (by rw [sw_fst]; exact nd2), nk_sw]
      unfold sw
      rw [List.map_append]; rfl
def sp_Lightest_let_go (K : PySem.W.Frag) : Sp := fun vs H Q _ => ∃ (L : LA) (A : SA) (p p' : LP) (j : J) (number : Nat), vs = [.ref L.q, .int (number : Int)] ∧ Lt K L A p j H ∧ LetGo p number p' ∧ ∀ j' H', Lt K L A p' j' H' → FrL A L H H' → Q .non H'
-- 0 self, 1 number, 2 a, 3 b, 4 price, 5 spot
abbrev n_Lightest_let_go : List Str := ["self", "number", "a", "b", "price", "spot"]
theorem sc_Lightest_let_go : FnScope n_Lightest_let_go ["self", "number"] (defScope s_Lightest_let_go) := ⟨rfl, rfl, rfl, by decide +kernel, rfl, by decide +kernel, by decide +kernel⟩
theorem ok_Lightest_let_go (T : Txt w K mg) : Good P w K mg base 11 (He.ma K (aL K) "let_go") ["self", "number"] (sp_Lightest_let_go K) := by
  refine good_mk T.D_Lightest_let_go sc_Lightest_let_go (fun _ _ _ _ _ _ us hl => match us, hl with | [_, _], _ => rfl) (fun vs H Q E h => ?_) (fun cdv A0 outer s H vs Q E hr h => ?_)
  · obtain ⟨L, A, p, p', j, number, rfl, _⟩ := h
    rfl
  · obtain ⟨L, A, p, p', j, number, rfl, Y, ⟨a, b, z, spot, c2, c3, ho, hm, nd1, nd2, t1, t2, rfl⟩, k⟩ := h
    refine ⟨_, (pss_cons (ps_asg (pe_ix ix_list (pe_fld (pv 0) rfl) (pv 1) (fun _ _ => rfl)) (pg_tup rfl (pgs_cons (pg_name (i := 2) sc_Lightest_let_go.nd rfl (Or.inl rfl)) (pgs_cons (pg_name (i := 3) sc_Lightest_let_go.nd rfl (Or.inl rfl)) (pgs_cons (pg_name (i := 4) sc_Lightest_let_go.nd rfl (Or.inl rfl)) pgs_nil)))))
      (pss_cons (ps_set (i := 5) sc_Lightest_let_go.nd rfl (Or.inl rfl) (pe_dpop1 (pe_fld (pv 0) rfl) (pv 1) ⟨by rfl, by rfl, by rfl, by rfl⟩))
      (pss_cons (ps_expr (pe_dpop1 (pe_fld (pv 0) rfl) (pv 5) ⟨by rfl, by rfl, by rfl, by rfl⟩))
      (pss_cons (ps_expr (pe_m (pe_fld (pv 0) rfl) T.clW T.mW_do (ok_Ways_do T) (hr.mono (by decide)) (pa_cons (pe_tup (pa_cons pe_str (pa_cons (pv 2) (pa_cons (pv 5) pa_nil)))) pa_nil)))
      (pss_one (ps_expr (pe_m (pe_fld (pv 0) rfl) T.clW T.mW_do (ok_Ways_do T) (hr.mono (by decide)) (pa_cons (pe_tup (pa_cons pe_str (pa_cons (pv 5) (pa_cons (pv 3) pa_nil)))) pa_nil)))))))), ?_⟩
    obtain ⟨as, ad, h1, h2, h3⟩ := Y.offat ho
    refine ev_here (ev_ixl (ev_lo T Y rfl) h1 (ev_var rfl) h2) (fun H1 e1 => ?_)
    refine ⟨_, _, rfl, SqT.of (e1 _ _ h3), rfl, _, _, rfl, _, _, rfl, _, _, rfl, rfl, ?_⟩
    have Y1 := Y.ex e1
    dsimp only
    refine q_dpop (k := Sum.inl (number : Int)) (ev_ls T Y1 rfl) (ev_var rfl) Y1.ds (val_sk nd1 hm) fun H2 e2 => ?_
    have Y2 := Y1.ex e2
    have e3 : ∀ {b o}, H2 b = some o → b ≠ L.ds → upd H2 L.ds (.dK (dropK (sk p.spots) (Sum.inl (number : Int)))) b = some o := fun hb hn => by rw [upd_ne hn]; exact hb
    have nq : L.q ≠ L.ds := ne_of Y2.ob Y2.ds (by intro z; cases z)
    refine ⟨_, rfl, L.q, _, _, _, _, rfl, e3 Y2.ob nq, T.clL, T.nL_numbers, (by rfl), ?_⟩
    have dn3 := e3 Y2.dn Y2.ne.symm
    refine ⟨_, rfl, Or.inl ⟨_, Rd.of dn3⟩, _, rfl, _, Sum.inl (spot : Int), .int (number : Int), dn3, rfl, ?_, ?_⟩
    · rw [nk_sw]
      exact val_sk (by rw [sw_fst]; exact nd2) (List.mem_map.mpr ⟨(number, spot), hm, rfl⟩)
    have Y3 : Lt K L A { p with spots := p.spots.filter fun e => decide (e.1 ≠ number) } j _ := Y2.setS (o1 := .dK (dropK (sk p.spots) (Sum.inl (number : Int)))) (o2 := .dK (dropK (nk p.spots) (Sum.inl (spot : Int)))) (by rw [drop_sk]) (by
      rw [nk_sw, drop_sk, nk_sw, ← filter_two nd1 nd2 hm]
      unfold sw
      rw [List.filter_map]; rfl)
    refine call_do (r := .two "cut" a spot) (c' := c2) (an := .val .non) T Y3 rfl (ea_cons ev_c (ea_cons (ev_var rfl) (ea_cons (ev_var rfl) ea_nil))) (Or.inr (Or.inl ⟨rfl, t1, rfl⟩)) (fun j4 H4 v4 Y4 F4 _ => ?_)
    refine call_do (r := .two "cut" spot b) (c' := c3) (an := .val .non) T Y4 rfl (ea_cons ev_c (ea_cons (ev_var rfl) (ea_cons (ev_var rfl) ea_nil))) (Or.inr (Or.inl ⟨rfl, t2, rfl⟩)) (fun j5 H5 v5 Y5 F5 _ => ?_)
    exact k j5 H5 Y5 (((((FrL.ex e1).trans (FrL.ex e2)).trans frl_d).trans F4).trans F5)
theorem Lt.snoc {L : LA} {A : SA} {p : LP} {j : J} {H : Hp} {xs : List V} {t : Addr} {o : Nat × Nat × Int} (Y : Lt K L A p j H) (h : H L.lo = some (.lst xs)) (ht : H t = some (.tup (offV o))) : Lt K L A { p with offs := p.offs ++ [o] } j (upd H L.lo (.lst (xs ++ [.ref t]))) := by
  have kp : ∀ b u, H b = some u → (∀ ys, u ≠ .lst ys) → upd H L.lo (.lst (xs ++ [.ref t])) b = some u := fun b u hb hn => by
    rw [upd_ne (fun e => hn xs (by subst e; rw [h] at hb; exact (Option.some.inj hb).symm))]
    exact hb
  refine ⟨kp _ _ Y.ob (by intro ys e; cases e), ?_, ?_, kp _ _ Y.ds (by intro ys e; cases e), kp _ _ Y.dn (by intro ys e; cases e), Y.nlo, Y.ne⟩
  · obtain ⟨dx, how⟩ := Y.ways.ob
    exact ⟨⟨dx, kp _ _ how (by intro ys e; cases e)⟩, Y.ways.arr.out Y.nlo h⟩
  · obtain ⟨as, g1, g2, g3⟩ := Y.off
    rw [h] at g1
    cases g1
    refine ⟨as ++ [t], by rw [upd_same, List.map_append]; rfl, by rw [List.length_append, List.length_append, g2]; rfl, fun i a o' h1 h2 => ?_⟩
    by_cases hi : i < as.length
    · rw [List.getElem?_append_left hi] at h1
      rw [List.getElem?_append_left (by rw [← g2]; exact hi)] at h2
      exact kp _ _ (g3 i a o' h1 h2) (by intro ys e; cases e)
    · have hi : as.length ≤ i := by omega
      rw [List.getElem?_append_right hi] at h1
      rw [List.getElem?_append_right (by rw [← g2]; exact hi), ← g2] at h2
      cases q : i - as.length with
      | zero =>
        rw [q] at h1 h2
        cases h1; cases h2
        exact kp _ _ ht (by intro ys e; cases e)
      | succ m => rw [q] at h1; simp at h1
def sp_Lightest_offer (K : PySem.W.Frag) : Sp := fun vs H Q _ => ∃ (L : LA) (A : SA) (p p' : LP) (j : J) (a b : Nat) (z : Int), vs = [.ref L.q, .int (a : Int), .int (b : Int), .int z] ∧ Lt K L A p j H ∧ Offered p a b z p' ∧ ∀ j' H' v, Lt K L A p' j' H' → FrL A L H H' → Q v H'
-- 0 self, 1 a, 2 b, 3 price, 4 number, 5 gone, 6 worth, 7 spot
abbrev n_Lightest_offer : List Str := ["self", "a", "b", "price", "number", "gone", "worth", "spot"]
theorem sc_Lightest_offer : FnScope n_Lightest_offer ["self", "a", "b", "price"] (defScope s_Lightest_offer) := ⟨rfl, rfl, rfl, by decide +kernel, rfl, by decide +kernel, by decide +kernel⟩
theorem ok_Lightest_offer (T : Txt w K mg) : Good P w K mg base 12 (He.ma K (aL K) "offer") ["self", "a", "b", "price"] (sp_Lightest_offer K) := by
  refine good_mk T.D_Lightest_offer sc_Lightest_offer (fun _ _ _ _ _ _ us hl => match us, hl with | [_, _, _, _], _ => rfl) (fun vs H Q E h => ?_) (fun cdv A0 outer s H vs Q E hr h => ?_)
  · obtain ⟨L, A, p, p', j, a, b, z, rfl, _⟩ := h
    rfl
  · obtain ⟨L, A, p, p', j, a, b, z, rfl, Y, ⟨ha, hb, hz, hlen, c1, hj, hcase⟩, k⟩ := h
    refine ⟨_, (pss_cut (ps_if (PW.pt (pw_or (pt_not (pt_val (pe_f (ok_is_number_shapes T) (hr.mono (by decide)) T.g_is_number_shapes (pa_cons (pv 3) pa_nil)))) (pw_or1 (pt_cmpR op_lt (pv 3) pe_int (nomark _))))) (pss_one ps_never) pss_nil)
      (pss_cons (ps_expr (pe_f (ok_look_points T) (hr.mono (by decide)) T.g_look_points (pa_cons (pe_fld (pv 0) rfl) (pa_cons (pv 1) (pa_cons (pv 2) pa_nil)))))
      (pss_cons (ps_set (i := 4) sc_Lightest_offer.nd rfl (Or.inl rfl) (pe_callB call_len_seq (by rfl) T.z_len PySem.boot_len (pa_cons (pe_fld (pv 0) rfl) pa_nil)))
      (pss_cons (ps_expr (pe_bm PySem.F.plainAttrs_list PySem.F.slot_list_append PySem.F.type_list_append mt_append (pe_fld (pv 0) rfl) (pa_cons (pe_tup (pa_cons (pv 1) (pa_cons (pv 2) (pa_cons (pv 3) pa_nil)))) pa_nil)))
      (pss_cons (ps_set (i := 5) sc_Lightest_offer.nd rfl (Or.inl rfl) pe_non)
      (pss_cut (ps_if (pt_val (pe_m (pe_fld (pv 0) rfl) T.clW T.mW_do (ok_Ways_do T) (hr.mono (by decide)) (pa_cons (pe_tup (pa_cons pe_str (pa_cons (pv 1) (pa_cons (pv 2) pa_nil)))) pa_nil))) (pss_cons (ps_asg (pe_m (pe_fld (pv 0) rfl) T.clW T.mW_do (ok_Ways_do T) (hr.mono (by decide)) (pa_cons (pe_tup (pa_cons pe_str (pa_cons (pv 1) (pa_cons (pv 2) pa_nil)))) pa_nil)) (pg_tup rfl (pgs_cons (pg_name (i := 6) sc_Lightest_offer.nd rfl (Or.inl rfl)) (pgs_cons (pg_name (i := 7) sc_Lightest_offer.nd rfl (Or.inl rfl)) pgs_nil))))
        (pss_cut (ps_if (pt_cmpR op_le (pv 6) (pv 3) (nomark _)) (pss_one (ps_ret (pv 4))) pss_nil)
        (pss_cons (ps_set (i := 5) sc_Lightest_offer.nd rfl (Or.inl rfl) (pe_dget (hu_of hr) (pe_fld (pv 0) rfl) (pv 7) (fun _ _ => rfl)))
        (pss_one (ps_expr (pe_m (pv 0) T.clL T.mL_let_go (ok_Lightest_let_go T) (hr.mono (by decide)) (pa_cons (pv 5) pa_nil))))))) pss_nil)
      (pss_cons (ps_expr (pe_m (pv 0) T.clL T.mL_keep_one (ok_Lightest_keep_one T) (hr.mono (by decide)) (pa_cons (pv 4) pa_nil)))
      (pss_one (ps_ret (pv 5)))))))))), ?_⟩
    refine ⟨fun σ' H' => σ' = [some (.ref L.q), some (.int (a : Int)), some (.int (b : Int)), some (.int z), none, none, none, none] ∧ Same H H', s_if (b := false) (et_or (a := false) (b := false) (et_not (a := true) (et_B (ev_f (ea_cons (ev_var rfl) ea_nil) fun H2 e2 Q q => ⟨z, rfl, q⟩))) fun _ => et_is (et_test (ev_op (ev_var rfl) ev_c rv_I0)) (decide_eq_false (by omega))) (fun h => nomatch h) (fun _ H1 e1 => ⟨rfl, e1⟩), ?_⟩
    rintro _ H1 ⟨rfl, e1⟩
    have Y1 := Y.ex e1
    refine q_drop (v := .non) (ev_f (ea_cons (x := .int (p.n : Int)) (ev_fld (ev_var rfl) Y1.ob T.clL T.nL_many_points (by rfl)) (ea_cons (ev_var rfl) (ea_cons (ev_var rfl) ea_nil))) fun H2 e2 Q q => ⟨p.n, a, b, rfl, ha, hb, q⟩) (fun H2 e2 => ?_)
    have Y2 := Y1.ex e2
    obtain ⟨as, hl1, hl2, hl3⟩ := Y2.off
    refine q_asg (v := .int (p.offs.length : Int)) (ev_is (ev_len (ev_lo T Y2 rfl) (sq_of hl1)) (by rw [List.length_map, hl2])) (fun H3 e3 => ?_)
    have Y3 := Y2.ex e3
    refine q_appU (e3 _ _ hl1) (ev_lo T Y3 rfl) (eu_tup (vs := offV (a, b, z)) (ea_cons (ev_var rfl) (ea_cons (ev_var rfl) (ea_cons (ev_var rfl) ea_nil))) (by show 3 ≤ 100000; decide)) (by rw [List.length_map, hl2]; omega) (fun t H4 _ e4 h4 => ?_)
    have Y4 := (Y3.ex e4).snoc (e4 _ _ (e3 _ _ hl1)) h4
    have F4 : FrL A L H (upd H4 L.lo (.lst (as.map V.ref ++ [V.ref t]))) := fun b' o' hb' hn' => by
      rw [upd_ne (fun e => hn' (Or.inr (Or.inl e)))]
      exact e4 _ _ (e3 _ _ (e2 _ _ (e1 _ _ hb')))
    refine q_asg ev_c (fun H5 e5 => ?_)
    have Y5 := Y4.ex e5
    have F5 := F4.trans (FrL.ex e5)
    refine ⟨fun σ' H' => ∃ (p2 : LP) (j2 : J) (v5 v6 v7 : Option V), σ' = [some (.ref L.q), some (.int (a : Int)), some (.int (b : Int)), some (.int z), some (.int (p.offs.length : Int)), some (v5.getD .non), v6, v7] ∧ Lt K L A p2 j2 H' ∧ FrL A L H H' ∧ KeepOne p2 p.offs.length p', ?_, ?_⟩
    · refine call_do (r := .two "joined" a b) (c' := c1) (an := .val (.bl (joinedB c1 a b))) T Y5 rfl (ea_cons ev_c (ea_cons (ev_var rfl) (ea_cons (ev_var rfl) ea_nil))) (Or.inr (Or.inr (Or.inl ⟨rfl, hj, rfl⟩))) (fun j6 H6 v6 Y6 F6 hv => ⟨_, hv, ?_⟩)
      rcases hcase with ⟨hf, hk⟩ | ⟨ht, c2, c3, x, how, hfb, hc⟩
      · rw [hf]
        exact iteF ⟨_, j6, some .non, none, none, rfl, Y6, F5.trans F6, hk⟩
      · rw [ht]
        refine iteT ?_
        refine call_do (r := .two "most" a b) (c' := c3) (an := .tup [.int (c2.most b), .int (x : Int)]) T Y6 rfl (ea_cons ev_c (ea_cons (ev_var rfl) (ea_cons (ev_var rfl) ea_nil))) (Or.inr (Or.inr (Or.inr ⟨c2, how, Or.inr ⟨rfl, x, hfb, rfl⟩⟩))) (fun j7 H7 v7 Y7 F7 hv7 => ?_)
        obtain ⟨pr, rfl, hpr⟩ := hv7
        refine ⟨pr, _, rfl, st_of hpr, rfl, _, _, rfl, _, _, rfl, rfl, ?_⟩
        rcases hc with ⟨hle, rfl⟩ | ⟨hgt, g, p2, hg, ndg, hlg, hk⟩
        · refine ⟨fun _ _ => False, s_if (b := true) (et_is (et_test (ev_op (ev_var rfl) (ev_var rfl) rv_I0)) (decide_eq_true hle)) (fun _ H8 e8 => ?_) (fun h => nomatch h), fun _ _ h => h.elim⟩
          exact s_ret (ev_var rfl) fun H9 e9 => k j7 H9 _ (Y7.ex (Same.trans e8 e9)) ((((F5.trans F6).trans F7).trans (FrL.ex e8)).trans (FrL.ex e9))
        · refine ⟨fun σ' H' => σ' = [some (.ref L.q), some (.int (a : Int)), some (.int (b : Int)), some (.int z), some (.int (p.offs.length : Int)), some .non, some (.int (c2.most b)), some (.int (x : Int))] ∧ Same H7 H', s_if (b := false) (et_is (et_test (ev_op (ev_var rfl) (ev_var rfl) rv_I0)) (decide_eq_false (by omega))) (fun h => nomatch h) (fun _ H8 e8 => ⟨rfl, e8⟩), ?_⟩
          rintro _ H8 ⟨rfl, e8⟩
          have Y8 := Y7.ex e8
          have gv : valV (nk p.spots) (Sum.inl (x : Int)) = some (.int (g : Int)) := by
            rw [nk_sw]
            exact val_sk (by rw [sw_fst]; exact ndg) (List.mem_map.mpr ⟨(g, x), hg, rfl⟩)
          refine q_asg (v := .int (g : Int)) (fun H9 e9 Q q => ev_ln T (Y8.ex e9) rfl H9 (Same.refl _) _ fun H10 e10 => ⟨_, rfl, L.dn, _, rfl, by rw [← gv]; exact DGet.k (k := Sum.inl (x : Int)) ((Y8.ex e9).ex e10).dn, q H10 e10⟩) (fun H9 e9 => ?_)
          have Y9 := Y8.ex e9
          refine call_m (val_var rfl) Y9.ob (lf_no (by decide +kernel)) (vala_cons (val_var rfl) vala_nil) ?_
          exact ⟨L, A, _, p2, j7, g, rfl, Y9, hlg, fun j10 H10 Y10 F10 => ⟨p2, j10, some (.int (g : Int)), _, _, rfl, Y10, ((((F5.trans F6).trans F7).trans (FrL.ex e8)).trans (FrL.ex e9)).trans F10, hk⟩⟩
    · rintro _ H6 ⟨p2, j6, v5, v6, v7, rfl, Y6, F6, hk⟩
      refine call_m (val_var rfl) Y6.ob (lf_no (by decide +kernel)) (vala_cons (val_var rfl) vala_nil) ?_
      refine ⟨L, A, p2, p', j6, p.offs.length, rfl, Y6, hk, fun j7 H7 Y7 F7 => ?_⟩
      dsimp only
      exact s_ret (ev_var rfl) fun H8 e8 => k j7 H8 _ (Y7.ex e8) ((F6.trans F7).trans (FrL.ex e8))
def sp_Lightest_kept (K : PySem.W.Frag) : Sp := fun vs H Q _ => ∃ (L : LA) (A : SA) (p : LP) (j : J), vs = [.ref L.q] ∧ Lt K L A p j H ∧ p.spots.length < 64 ∧ ∀ (ys : List Nat) t H', ys.Perm (p.spots.map (·.1)) → ys.Pairwise (· ≤ ·) → Same H H' → H t = none → H' t = some (.tup (vN ys)) → Q (.ref t) H'
-- 0 self
abbrev n_Lightest_kept : List Str := ["self"]
theorem sc_Lightest_kept : FnScope n_Lightest_kept ["self"] (defScope s_Lightest_kept) := ⟨rfl, rfl, rfl, by decide +kernel, rfl, by decide +kernel, by decide +kernel⟩
theorem ok_Lightest_kept (T : Txt w K mg) : Good P w K mg base 1 (He.ma K (aL K) "kept") ["self"] (sp_Lightest_kept K) := by
  refine good_mk T.D_Lightest_kept sc_Lightest_kept (fun _ _ _ _ _ _ us hl => match us, hl with | [_], _ => rfl) (fun vs H Q E h => ?_) (fun cdv A0 outer s H vs Q E hr h => ?_)
  · obtain ⟨L, A, p, j, rfl, _⟩ := h
    rfl
  · obtain ⟨L, A, p, j, rfl, Y, hlen, k⟩ := h
    refine ⟨_, (pss_one (ps_ret (pe_tupleOf rfl T.z_tuple (pe_callB (call_sortedDI (by rfl)) (by rfl) T.z_sorted (by decide +kernel) (pa_cons (pe_fld (pv 0) rfl) pa_nil))))), ?_⟩
    refine ev_ls (σ := start n_Lightest_kept [.ref L.q]) T Y rfl H (Same.refl _) _ fun H1 e1 => ?_
    have Y1 := Y.ex e1
    refine ⟨L.ds, sk p.spots, p.spots.map fun e => (e.1 : Int), rfl, Rd.of Y1.ds, by unfold sk; rw [List.map_map, List.map_map]; rfl, by rw [List.length_map]; exact hlen, fun ys l hp hs hl => ?_⟩
    refine Or.inl ⟨l, _, rfl, SqL.of upd_same, fun t ht => ?_⟩
    have hy : ys = (ys.map Int.toNat).map fun x : Nat => (x : Int) := by
      rw [List.map_map]
      conv => lhs; rw [← List.map_id ys]
      apply List.map_congr_left
      intro y hy
      have := hp.mem_iff.mp hy
      rw [List.mem_map] at this
      obtain ⟨e, _, rfl⟩ := this
      rfl
    have hv : ys.map V.int = vN (ys.map Int.toNat) := by
      conv => lhs; rw [hy]
      unfold vN
      rw [List.map_map, List.map_map, List.map_map]; rfl
    refine k (ys.map Int.toNat) t _ ?_ ?_ ((e1.trans (same_new hl)).trans (same_new ht)) (by
      cases q : H t with
      | none => rfl
      | some o => rw [same_new hl _ _ (e1 _ _ q)] at ht; cases ht) (by rw [upd_same, hv])
    · have := hp.map Int.toNat
      rw [List.map_map] at this
      exact this
    · rw [List.pairwise_map]
      exact hs.imp fun {a b} h => Int.toNat_le_toNat h
end
end K73
end
section
set_option maxHeartbeats 4000000
namespace K73
open PySem PySem.Spec PyProof.Rows L2 Evl
/-! ### Lightest: price, way_numbers, paper -/
theorem el_keys {σ : L2.St} {H : Hp} {td te : TE} {d : Addr} {kvs : List (Key × V)} {ks : List Nat} {jn : Nat} {vs : List Nat} (f : Nat → V) (hd : H d = some (.dK kvs)) (hk : kvs.map (·.1) = ks.map fun k : Nat => (Sum.inl (k : Int) : Key)) (hz : ks.length ≤ 40000)
    (ht : ∀ H1, (∀ a o, H a = some o → a ≠ d → H1 a = some o) → Ev td σ H1 (.ref d)) (hw : ∀ x, wipe ((wipe σ vs).set jn (some x)) vs = wipe σ vs)
    (he : ∀ k ∈ ks, ∀ H1, (∀ a o, H a = some o → a ≠ d → H1 a = some o) → Ev te ((wipe σ vs).set jn (some (.int (k : Int)))) H1 (f k)) :
    EvL (tLockE (tLc (iKeys td) (gName jn) tYes te vs)) σ H (ks.map f) := fun H0 e Q q => by
  have hd0 := e _ _ hd
  refine ⟨d, .dK kvs, hd0, trivial, fun od => ?_⟩
  have lift : ∀ H1, Same (upd H0 d (.frz od (.dK kvs))) H1 → ∀ a o, H a = some o → a ≠ d → H1 a = some o := fun H1 e1 a o ha hn => e1 _ _ (by rw [upd_ne hn]; exact e _ _ ha)
  refine ht _ (lift _ (Same.refl _)) _ (Same.refl _) _ fun H1 e1 => ?_
  have hf1 := e1 _ _ (upd_same (H := H0) (a := d) (o := .frz od (.dK kvs)))
  refine ⟨d, od, rfl, Or.inl ⟨kvs, hf1, fun D hD => ?_⟩⟩
  have ndD : d ≠ D := ne_of_none hf1 hD
  have hlen : kvs.length = ks.length := by
    have := congrArg List.length hk
    simpa using this
  refine lc_it (walk_keys (o := od) (d := d) (kvs := kvs)) (fun i H' => Same H1 H' ∧ H' D = some (.lst ((ks.take i).map f))) ⟨same_new hD, by rw [upd_same]; rfl⟩ (fun i H' _ p => p.1 _ _ hf1) (fun i x H' H'' hi p y => ?_) (fun H' p => ?_)
  · obtain ⟨rfl, k, v, h1, rfl⟩ := y
    have hik : i < ks.length := by rw [← hlen]; exact hi
    have hkk : k = Sum.inl ((ks[i] : Nat) : Int) := by
      have h2 : (kvs.map (·.1))[i]? = some k := by rw [List.getElem?_map, h1]; rfl
      rw [hk, List.getElem?_map, List.getElem?_eq_getElem hik] at h2
      exact (Option.some.inj h2).symm
    subst hkk
    obtain ⟨p1, p2⟩ := p
    refine ⟨hw _, ?_⟩
    refine iteT (B := Same H1 H'' ∧ H'' D = some (.lst ((ks.take (i + 1)).map f))) ?_
    refine he ks[i] (List.getElem_mem hik) _ (lift _ (Same.trans e1 p1)) _ (Same.refl _) _ fun H3 e3 => ⟨_, e3 _ _ p2, ?_, ?_, ?_⟩
    · rw [List.length_map, List.length_take]
      have : (40000 : Nat) < sizeLine := by decide
      omega
    · intro a o ha
      have hne : a ≠ D := ne_of_none ha hD
      rw [upd_ne hne]
      exact e3 _ _ (p1 _ _ ha)
    · rw [upd_same, List.take_succ, List.getElem?_eq_getElem hik, List.map_append]; rfl
  · obtain ⟨p1, p2⟩ := p
    refine ⟨p1 _ _ hf1, q D _ ?_ ?_ ?_⟩
    · cases h : H0 D with
      | none => rfl
      | some o =>
        have : upd H0 d (.frz od (.dK kvs)) D = some o := by rw [upd_ne ndD.symm]; exact h
        rw [e1 _ _ this] at hD; cases hD
    · intro a o ha
      by_cases hn : a = d
      · subst hn; rw [upd_same]; rw [hd0] at ha; exact ha
      · rw [upd_ne hn]
        exact p1 _ _ (e1 _ _ (by rw [upd_ne hn]; exact ha))
    · rw [upd_ne ndD.symm, p2, hlen, List.take_length]
def zAt (os : List (Nat × Nat × Int)) (i : Nat) : Int := ((os[i]?.map fun o => o.2.2)).getD 0
def priceOf (p : LP) : Int := (p.spots.map fun e => zAt p.offs e.1).sum
def numO (s : List (Nat × Nat)) (x : Nat) : Option Nat := ((sw s).find? fun e => decide (e.1 = x)).map (·.2)
def wayNums (s : List (Nat × Nat)) (ns : List Nat) : List Nat := (ns.filter fun x => (numO s x).isSome).map fun x => (numO s x).getD 0
theorem val_nk (s : List (Nat × Nat)) (x : Nat) : valV (nk s) (Sum.inl (x : Int)) = (numO s x).map fun n : Nat => V.int (n : Int) := by
  rw [nk_sw, find_sk]
  unfold numO
  rw [Option.map_map]; rfl
def WayNums (p : LP) (number : Nat) (ws : List Nat) (c' : C) : Prop := ∃ (a b : Nat) (z : Int) (ns : List Nat), p.offs[number]? = some (a, b, z) ∧ OfWay p.c "way" a b c' (.tup (vN ns)) ∧ ns.length ≤ 40000 ∧ ws = wayNums p.spots ns
section
variable {P : Program} {w : World} {K : PySem.W.Frag} {mg : Str → Option Value} {base : Heap}
theorem Lt.mtup {L : LA} {A : SA} {p : LP} {j : J} {H : Hp} (Y : Lt K L A p j H) {a : Addr} {xs : List V} (h : H a = some (.tup xs)) : ¬ MutL A L a := by
  rintro (m | m | m | m)
  · exact mut_ne Y.ways.arr h (by intro ys e; cases e) m
  · obtain ⟨as, g, _⟩ := Y.off
    subst m; rw [g] at h; cases h
  · subst m; rw [Y.ds] at h; cases h
  · subst m; rw [Y.dn] at h; cases h
theorem Lt.mnone {L : LA} {A : SA} {p : LP} {j : J} {H : Hp} (Y : Lt K L A p j H) {a : Addr} (h : H a = none) : ¬ MutL A L a := by
  rintro (m | m | m | m)
  · exact mut_none Y.ways.arr h m
  · obtain ⟨as, g, _⟩ := Y.off
    subst m; rw [g] at h; cases h
  · subst m; rw [Y.ds] at h; cases h
  · subst m; rw [Y.dn] at h; cases h
theorem Lt.out {L : LA} {A : SA} {p : LP} {j : J} {H : Hp} {a : Addr} {xs : List V} {o : HO} (Y : Lt K L A p j H) (nm : ¬ MutL A L a) (h : H a = some (.lst xs)) : Lt K L A p j (upd H a o) := by
  have kp : ∀ b u, H b = some u → (∀ ys, u ≠ .lst ys) → upd H a o b = some u := fun b u hb hn => by
    rw [upd_ne (fun e => hn xs (by subst e; rw [h] at hb; exact (Option.some.inj hb).symm))]
    exact hb
  refine ⟨kp _ _ Y.ob (by intro ys e; cases e), Y.ways.out (fun m => nm (Or.inl m)) h, ?_, kp _ _ Y.ds (by intro ys e; cases e), kp _ _ Y.dn (by intro ys e; cases e), Y.nlo, Y.ne⟩
  obtain ⟨as, g1, g2⟩ := Y.off
  exact ⟨as, by rw [upd_ne (fun e => nm (Or.inr (Or.inl e.symm)))]; exact g1, g2.mono fun b ys hb => kp _ _ hb (by intro zs e; cases e)⟩
theorem ev_z (T : Txt w K mg) {L : LA} {A : SA} {p : LP} {j : J} {H : Hp} {σ : L2.St} {te : TE} {n : Nat} (Y : Lt K L A p j H) (h : σ[0]? = some (some (.ref L.q))) (he : Ev te σ H (.int (n : Int))) (hn : n < p.offs.length) :
    Ev (tOp (rIxT K) (tOp (rIxL K) (tFld K (tVar 0) "offered") te) (tC (.int 2))) σ H (.int (zAt p.offs n)) := by
  have ho : p.offs[n]? = some p.offs[n] := List.getElem?_eq_getElem hn
  obtain ⟨as, a, h1, h2, h3⟩ := Y.offat ho
  refine ev_ixt (n := 2) (ev_ixl (ev_lo T Y h) h1 he h2) (st_of h3) ev_c ?_
  unfold zAt
  rw [ho]; rfl
def sp_Lightest_price (K : PySem.W.Frag) : Sp := fun vs H Q _ => ∃ (L : LA) (A : SA) (p : LP) (j : J), vs = [.ref L.q] ∧ Lt K L A p j H ∧ p.spots.length < 64 ∧ (∀ e ∈ p.spots, e.1 < p.offs.length) ∧ ∀ H', Same H H' → Q (.int (priceOf p)) H'
-- 0 self, 1 number
abbrev n_Lightest_price : List Str := ["self", "number"]
theorem sc_Lightest_price : FnScope n_Lightest_price ["self"] (defScope s_Lightest_price) := ⟨rfl, rfl, rfl, by decide +kernel, rfl, by decide +kernel, by decide +kernel⟩
theorem ok_Lightest_price (T : Txt w K mg) : Good P w K mg base 1 (He.ma K (aL K) "price") ["self"] (sp_Lightest_price K) := by
  refine good_mk T.D_Lightest_price sc_Lightest_price (fun _ _ _ _ _ _ us hl => match us, hl with | [_], _ => rfl) (fun vs H Q E h => ?_) (fun cdv A0 outer s H vs Q E hr h => ?_)
  · obtain ⟨L, A, p, j, rfl, _⟩ := h
    rfl
  · obtain ⟨L, A, p, j, rfl, Y, hlen, hin, k⟩ := h
    refine ⟨_, (pss_one (ps_ret (pe_callB (cr_sum rfl) (by rfl) T.z_sum (by decide +kernel) (pa_cons (pe_lock (pe_lc (own := [("number", 1)]) (g := gName 1) (tt := tYes) (te := (tOp (rIxT K) (tOp (rIxL K) (tFld K (tVar 0) "offered") (tVar 1)) (tC (.int 2)))) (by rfl) sc_Lightest_price.nd (pi_keys (pe_fld (pv 0) rfl)) (blkOk_by (own := [("number", 1)]) (N := n_Lightest_price) (sc := defScope s_Lightest_price) (by decide +kernel)) (fun _ _ _ _ _ => (pg_name (i := 1) sc_Lightest_price.nd rfl (Or.inl rfl))) (fun _ _ _ _ _ => pts_nil) (fun _ _ _ _ _ => (pe_ix ix_tup (pe_ix ix_list (pe_fld (pv 0) rfl) (pv 1) (fun _ _ => rfl)) pe_int (fun _ _ => rfl))))) pa_nil)))), ?_⟩
    obtain ⟨as, h1, h2, h3⟩ := Y.off
    refine s_ret (ev_cbL (el_keys (ks := p.spots.map (·.1)) (fun n => .int (zAt p.offs n)) Y.ds (by unfold sk; rw [List.map_map, List.map_map]; rfl) (by rw [List.length_map]; omega) (fun H1 hH => ev_fld (ev_var rfl) (hH _ _ Y.ob (ne_of Y.ob Y.ds (by intro z; cases z))) T.clL T.nL_spots (by rfl)) (fun _ => rfl) (fun n hn H1 hH => ?_)) (v := .int (priceOf p)) (fun pp H1 e1 hp => ?_)) (fun H1 e1 => k H1 e1)
    · have hn' : n < p.offs.length := by
        obtain ⟨e, he, rfl⟩ := List.mem_map.mp hn
        exact hin e he
      have hl : n < as.length := by rw [h2]; exact hn'
      have ha : as[n]? = some as[n] := List.getElem?_eq_getElem hl
      have ho : p.offs[n]? = some p.offs[n] := List.getElem?_eq_getElem hn'
      have h4 := h3 n _ _ ha ho
      refine ev_ixt (n := 2) (ev_ixl (v := .ref as[n]) (ev_fld (ev_var rfl) (hH _ _ Y.ob (ne_of Y.ob Y.ds (by intro z; cases z))) T.clL T.nL_offered (by rfl)) (hH _ _ h1 (ne_of h1 Y.ds (by intro z; cases z))) (ev_var rfl) (by rw [List.getElem?_map, ha]; rfl)) (st_of (hH _ _ h4 (ne_of h4 Y.ds (by intro z; cases z)))) ev_c ?_
      unfold zAt
      rw [ho]; rfl
    · have e := rc_sum (K := K) (H := H1) (p := pp) (ns := p.spots.map fun e => zAt p.offs e.1) (by rw [List.map_map]; rw [List.map_map] at hp; exact hp)
      exact e
def sp_Lightest_way_numbers (K : PySem.W.Frag) : Sp := fun vs H Q _ => ∃ (L : LA) (A : SA) (p : LP) (j : J) (number : Nat) (ws : List Nat) (c' : C), vs = [.ref L.q, .int (number : Int)] ∧ Lt K L A p j H ∧ WayNums p number ws c' ∧
  ∀ j' H' t, Lt K L A { p with c := c' } j' H' → FrL A L H H' → H' t = some (.tup (vN ws)) → Q (.ref t) H'
-- 0 self, 1 number, 2 a, 3 b, 4 price, 5 point
abbrev n_Lightest_way_numbers : List Str := ["self", "number", "a", "b", "price", "point"]
theorem sc_Lightest_way_numbers : FnScope n_Lightest_way_numbers ["self", "number"] (defScope s_Lightest_way_numbers) := ⟨rfl, rfl, rfl, by decide +kernel, rfl, by decide +kernel, by decide +kernel⟩
theorem ok_Lightest_way_numbers (T : Txt w K mg) : Good P w K mg base 11 (He.ma K (aL K) "way_numbers") ["self", "number"] (sp_Lightest_way_numbers K) := by
  refine good_mk T.D_Lightest_way_numbers sc_Lightest_way_numbers (fun _ _ _ _ _ _ us hl => match us, hl with | [_, _], _ => rfl) (fun vs H Q E h => ?_) (fun cdv A0 outer s H vs Q E hr h => ?_)
  · obtain ⟨L, A, p, j, number, ws, c', rfl, _⟩ := h
    rfl
  · obtain ⟨L, A, p, j, number, ws, c', rfl, Y, ⟨a, b, z, ns, ho, how, hns, rfl⟩, k⟩ := h
    refine ⟨_, (pss_cons (ps_asg (pe_ix ix_list (pe_fld (pv 0) rfl) (pv 1) (fun _ _ => rfl)) (pg_tup rfl (pgs_cons (pg_name (i := 2) sc_Lightest_way_numbers.nd rfl (Or.inl rfl)) (pgs_cons (pg_name (i := 3) sc_Lightest_way_numbers.nd rfl (Or.inl rfl)) (pgs_cons (pg_name (i := 4) sc_Lightest_way_numbers.nd rfl (Or.inl rfl)) pgs_nil)))))
      (pss_one (ps_ret (pe_tupleOf rfl T.z_tuple (pe_lc (own := [("point", 5)]) (g := gName 5) (tt := (tB (tDIn (tVar 5) (tFld K (tVar 0) "numbers")))) (te := (tDGet (tFld K (tVar 0) "numbers") (tVar 5))) (by rfl) sc_Lightest_way_numbers.nd (pi_tup (pe_m (pe_fld (pv 0) rfl) T.clW T.mW_do (ok_Ways_do T) (hr.mono (by decide)) (pa_cons (pe_tup (pa_cons pe_str (pa_cons (pv 2) (pa_cons (pv 3) pa_nil)))) pa_nil))) (blkOk_by (own := [("point", 5)]) (N := n_Lightest_way_numbers) (sc := defScope s_Lightest_way_numbers) (by decide +kernel)) (fun _ _ _ _ _ => (pg_name (i := 5) sc_Lightest_way_numbers.nd rfl (Or.inl rfl))) (fun _ _ _ _ _ => (pts_one (pt_cmp (pc_din (hu_of hr) (pv 5) (pe_fld (pv 0) rfl))))) (fun _ _ _ _ _ => (pe_dget (hu_of hr) (pe_fld (pv 0) rfl) (pv 5) (fun _ _ => rfl)))))))), ?_⟩
    obtain ⟨as, ad, h1, h2, h3⟩ := Y.offat ho
    refine ev_here (ev_ixl (ev_lo T Y rfl) h1 (ev_var rfl) h2) (fun H1 e1 => ?_)
    refine ⟨_, _, rfl, SqT.of (e1 _ _ h3), rfl, _, _, rfl, _, _, rfl, _, _, rfl, rfl, ?_⟩
    have Y1 := Y.ex e1
    refine call_do (r := .two "way" a b) (c' := c') (an := .tup (vN ns)) T Y1 rfl (ea_cons ev_c (ea_cons (ev_var rfl) (ea_cons (ev_var rfl) ea_nil))) (Or.inr (Or.inr (Or.inr how))) (fun j2 H2 v2 Y2 F2 hv => ?_)
    obtain ⟨pt, rfl, hpt⟩ := hv
    have din : ∀ {H3 : Hp} {σ : L2.St} {x : Nat}, Same H2 H3 → σ[0]? = some (some (.ref L.q)) → σ[5]? = some (some (.int (x : Int))) → EvT (tB (tDIn (tVar 5) (tFld K (tVar 0) "numbers"))) σ H3 (numO p.spots x).isSome := fun {H3 σ x} e3 g0 g5 => et_B fun H4 e4 Q q =>
      ⟨_, g5, ev_ln T ((Y2.ex e3).ex e4) g0 H4 (Same.refl _) _ fun H5 e5 => ⟨L.dn, _, rfl, DGet.k (k := Sum.inl (x : Int)) (((Y2.ex e3).ex e4).ex e5).dn, by
        have hv := val_nk p.spots x
        rw [hv, Option.isSome_map]
        exact q H5 e5⟩⟩
    have e := el_mapT (K := K) (tl := tC (.ref pt)) (H := H2) (σ := [some (.ref L.q), some (.int (number : Int)), some (.int (a : Int)), some (.int (b : Int)), some (.int z), none]) (a := pt) (ys := ns) (g := fun x : Nat => V.int (x : Int)) (j := 5) (vs := [5]) (t := tB (tDIn (tVar 5) (tFld K (tVar 0) "numbers"))) (te := tDGet (tFld K (tVar 0) "numbers") (tVar 5))
      (fun x => (numO p.spots x).isSome) (fun x => .int (((numO p.spots x).getD 0 : Nat) : Int)) ev_c (st_of hpt) hns (fun _ => rfl) (fun x _ H3 e3 => din e3 rfl rfl) (fun x _ hx H3 e3 => ?_)
    · refine e H2 (Same.refl _) (fun x H1 => kTup K x H1 Q) fun l H3 hl e3 h3 => ?_
      refine Or.inl ⟨l, _, rfl, SqL.of h3, fun t ht => ?_⟩
      refine k j2 _ t ((Y2.ex e3).ex (same_new ht)) ((((FrL.ex e1).trans F2).trans (FrL.ex e3)).trans (FrL.ex (same_new ht))) ?_
      rw [upd_same]
      congr 2
      unfold wayNums vN
      rw [List.map_map]; rfl
    · intro H4 e4 Q q
      have Y4 := (Y2.ex e3).ex e4
      refine ev_ln T Y4 rfl H4 (Same.refl _) _ fun H5 e5 => ⟨_, rfl, L.dn, .int (((numO p.spots x).getD 0 : Nat) : Int), rfl, ?_, q H5 e5⟩
      have hv := val_nk p.spots x
      have hg := DGet.k (k := Sum.inl (x : Int)) (Y4.ex e5).dn
      have hv' : valV (nk p.spots) (Sum.inl (x : Int)) = some (.int (((numO p.spots x).getD 0 : Nat) : Int)) := by
        rw [hv]
        cases hq : numO p.spots x with
        | none => rw [hq] at hx; cases hx
        | some n => rfl
      rw [← hv']
      exact hg
end
end K73
end
section
set_option maxHeartbeats 4000000
namespace K73
open PySem PySem.Spec PyProof.Rows L2 Evl
/-! ### Lightest: paper, slacks -/
inductive PaperR (p : LP) : C → List Nat → List (Nat × List Nat) → C → Prop
  | nil {c : C} : PaperR p c [] [] c
  | cons {c c1 c' : C} {n : Nat} {ns ws : List Nat} {rows : List (Nat × List Nat)} : WayNums { p with c := c } n ws c1 → PaperR p c1 ns rows c' → PaperR p c (n :: ns) ((n, ws) :: rows) c'
def freeOf (p : LP) : List Nat := (List.range p.offs.length).filter fun i => !decide (i ∈ p.spots.map (·.1))
def RowsAt (H : Hp) (ts : List Addr) (rows : List (Nat × List Nat)) : Prop := ts.length = rows.length ∧ ∀ (i : Nat) a r, ts[i]? = some a → rows[i]? = some r → ∃ u, H a = some (.tup [.int (r.1 : Int), .ref u]) ∧ H u = some (.tup (vN r.2))
theorem RowsAt.mono {H H' : Hp} {ts : List Addr} {rows : List (Nat × List Nat)} (R : RowsAt H ts rows) (h : ∀ a xs, H a = some (.tup xs) → H' a = some (.tup xs)) : RowsAt H' ts rows := ⟨R.1, fun i a r h1 h2 => by
  obtain ⟨u, g1, g2⟩ := R.2 i a r h1 h2
  exact ⟨u, h _ _ g1, h _ _ g2⟩⟩
theorem RowsAt.snoc {H : Hp} {ts : List Addr} {rows : List (Nat × List Nat)} {a u : Addr} {r : Nat × List Nat} (R : RowsAt H ts rows) (h1 : H a = some (.tup [.int (r.1 : Int), .ref u])) (h2 : H u = some (.tup (vN r.2))) : RowsAt H (ts ++ [a]) (rows ++ [r]) := by
  refine ⟨by rw [List.length_append, List.length_append, R.1]; rfl, fun i b r' g1 g2 => ?_⟩
  by_cases hi : i < ts.length
  · rw [List.getElem?_append_left hi] at g1
    rw [List.getElem?_append_left (by rw [← R.1]; exact hi)] at g2
    exact R.2 i b r' g1 g2
  · have hi : ts.length ≤ i := by omega
    rw [List.getElem?_append_right hi] at g1
    rw [List.getElem?_append_right (by rw [← R.1]; exact hi), ← R.1] at g2
    cases q : i - ts.length with
    | zero =>
      rw [q] at g1 g2
      cases g1; cases g2
      exact ⟨u, h1, h2⟩
    | succ m => rw [q] at g1; simp at g1
theorem val_mem (s : List (Nat × Nat)) (i : Nat) : (valV (sk s) (Sum.inl (i : Int))).isSome = decide (i ∈ s.map (·.1)) := by
  by_cases h : i ∈ s.map (·.1)
  · rw [decide_eq_true h, find_sk, Option.isSome_map, List.find?_isSome]
    obtain ⟨e, he, q⟩ := List.mem_map.mp h
    exact ⟨e, he, decide_eq_true q⟩
  · rw [decide_eq_false h, val_none h]; rfl
section
variable {P : Program} {w : World} {K : PySem.W.Frag} {mg : Str → Option Value} {base : Heap}
def PaperAt (H : Hp) (t : Addr) (rows : List (Nat × List Nat)) : Prop := ∃ ts : List Addr, H t = some (.tup (ts.map V.ref)) ∧ RowsAt H ts rows
def sp_Lightest_paper (K : PySem.W.Frag) : Sp := fun vs H Q _ => ∃ (L : LA) (A : SA) (p : LP) (j : J) (rows : List (Nat × List Nat)) (c' : C), vs = [.ref L.q] ∧ Lt K L A p j H ∧ p.offs.length < 1000 ∧ PaperR p p.c (freeOf p) rows c' ∧
  ∀ j' H' t, Lt K L A { p with c := c' } j' H' → FrL A L H H' → PaperAt H' t rows → Q (.ref t) H'
-- 0 self, 1 numbers, 2 number
abbrev n_Lightest_paper : List Str := ["self", "numbers", "number"]
theorem sc_Lightest_paper : FnScope n_Lightest_paper ["self"] (defScope s_Lightest_paper) := ⟨rfl, rfl, rfl, by decide +kernel, rfl, by decide +kernel, by decide +kernel⟩
theorem ok_Lightest_paper (T : Txt w K mg) : Good P w K mg base 12 (He.ma K (aL K) "paper") ["self"] (sp_Lightest_paper K) := by
  refine good_mk T.D_Lightest_paper sc_Lightest_paper (fun _ _ _ _ _ _ us hl => match us, hl with | [_], _ => rfl) (fun vs H Q E h => ?_) (fun cdv A0 outer s H vs Q E hr h => ?_)
  · obtain ⟨L, A, p, j, rows, c', rfl, _⟩ := h
    rfl
  · obtain ⟨L, A, p, j, rows, c', rfl, Y, hlen, hp, k⟩ := h
    refine ⟨_, (pss_cons (ps_setLc (i := 1) (own := [("number", 2)]) (g := gName 2) (tt := (tB (tDNotIn (tVar 2) (tFld K (tVar 0) "spots")))) (te := (tVar 2)) (by rfl) sc_Lightest_paper.nd rfl rfl (sw_true rfl rfl rfl (by decide +kernel)) (pi_range1 rfl T.z_range (pa_cons (pe_callB call_len_seq (by rfl) T.z_len PySem.boot_len (pa_cons (pe_fld (pv 0) rfl) pa_nil)) pa_nil)) (blkOk_by (own := [("number", 2)]) (N := n_Lightest_paper) (sc := defScope s_Lightest_paper) (by decide +kernel)) (fun _ _ _ _ _ => (pg_name (i := 2) sc_Lightest_paper.nd rfl (Or.inl rfl))) (fun _ _ _ _ _ => (pts_one (pt_cmp (pc_dnotin (hu_of hr) (pv 2) (pe_fld (pv 0) rfl))))) (fun _ _ _ _ _ => (pv 2)))
      (pss_one (ps_ret (pe_tupleOf rfl T.z_tuple (pe_lc (own := [("number", 2)]) (g := gName 2) (tt := tYes) (te := (tTup (tCons (tVar 2) (tCons (tMeth (aL K) "way_numbers" (sp_Lightest_way_numbers K) [] E0 (tVar 0) (tCons (tVar 2) tNil)) tNil)))) (by rfl) sc_Lightest_paper.nd (pi_list (pv 1)) (blkOk_by (own := [("number", 2)]) (N := n_Lightest_paper) (sc := defScope s_Lightest_paper) (by decide +kernel)) (fun _ _ _ _ _ => (pg_name (i := 2) sc_Lightest_paper.nd rfl (Or.inl rfl))) (fun _ _ _ _ _ => pts_nil) (fun _ _ _ _ _ => (pe_tup (pa_cons (pv 2) (pa_cons (pe_m (pv 0) T.clL T.mL_way_numbers (ok_Lightest_way_numbers T) (hr.mono (by decide)) (pa_cons (pv 2) pa_nil)) pa_nil))))))))), ?_⟩
    obtain ⟨as, h1, h2, h3⟩ := Y.off
    have e1 := el_lcR1 (ta := tCons (tCB (fun xs H Q => ∃ p xs_1, xs = [V.ref p] ∧ (SqL K H p xs_1 ∨ SqT K H p xs_1) ∧ Q (.int ((xs_1.length : Nat) : Int)) H) (tCons (tFld K (tVar 0) "offered") tNil)) tNil) (σ := start n_Lightest_paper [.ref L.q]) (H := H) (t := tB (tDNotIn (tVar 2) (tFld K (tVar 0) "spots"))) (te := tVar 2) (j := 2) (vs := [2]) (n := (p.offs.length : Int)) (fun i => !decide (i ∈ p.spots.map (·.1))) (fun i => .int (i : Int))
      (ea_cons (ev_is (ev_len (ev_lo T Y rfl) (sq_of h1)) (by rw [List.length_map, h2])) ea_nil) ⟨by omega, by omega⟩ (fun _ => rfl) (fun i H1 e1 hi => et_B fun H4 e4 Q q => ⟨_, rfl, ev_ls T ((Y.ex e1).ex e4) rfl H4 (Same.refl _) _ fun H5 e5 => ⟨L.ds, _, rfl, DGet.k (k := Sum.inl (i : Int)) (((Y.ex e1).ex e4).ex e5).ds, by
        rw [val_mem]
        exact q H5 e5⟩⟩) (fun i H1 e1 hi _ => ev_var rfl)
    have e2 : given (p.offs.length : Int).toNat (fun i => !decide (i ∈ p.spots.map (·.1))) (fun i => V.int (i : Int)) = vN (freeOf p) := rfl
    rw [e2] at e1
    refine q_asgL e1 (fun pn H1 hpn e1 hl1 => ?_)
    have Y1 := Y.ex e1
    have npn : ¬ MutL A L pn := Y.mnone hpn
    refine ⟨_, rfl, pn, rfl, ⟨_, SqL.of hl1⟩, fun D hD => ?_⟩
    have nD : ¬ MutL A L D := Y1.mnone hD
    have npD : pn ≠ D := ne_of_none hl1 hD
    refine lc_list (xs := vN (freeOf p)) (fun i H' => ∃ (ci : C) (ji : J) (ts : List Addr) (dn rest : List (Nat × List Nat)), Lt K L A { p with c := ci } ji H' ∧ FrL A L H1 H' ∧ H' D = some (.lst (ts.map V.ref)) ∧ PaperR p ci ((freeOf p).drop i) rest c' ∧ rows = dn ++ rest ∧ ts.length = i ∧ RowsAt H' ts dn)
      ⟨p.c, j, [], [], rows, Y1.ex (same_new hD), FrL.ex (same_new hD), upd_same, hp, rfl, rfl, rfl, fun i a r h => by simp at h⟩ (fun i H' _ ⟨_, _, _, _, _, _, F, _⟩ => SqL.of (F _ _ hl1 npn)) (fun i x H' hi hP => ?_) (fun H' hP => ?_)
    · obtain ⟨ci, ji, ts, dn, rest, Yi, Fi, hDi, hPi, hr, hts, hra⟩ := hP
      have hif : i < (freeOf p).length := by
        have := (List.getElem?_eq_some_iff.mp hi).1
        simpa [vN] using this
      have hx : x = .int (((freeOf p)[i] : Nat) : Int) := by
        unfold vN at hi
        rw [List.getElem?_map, List.getElem?_eq_getElem hif] at hi
        exact (Option.some.inj hi).symm
      subst hx
      rw [List.drop_eq_getElem_cons hif] at hPi
      cases hPi with
      | @cons _ c1 _ _ _ ws rows' hw hp' =>
        refine ⟨rfl, ?_⟩
        refine iteT (B := True) ?_
        refine ⟨_, rfl, ?_⟩
        refine call_m (val_var rfl) Yi.ob (lf_no (by decide +kernel)) (vala_cons (val_var rfl) vala_nil) ?_
        refine ⟨L, A, _, ji, (freeOf p)[i], ws, c1, rfl, Yi, hw, fun j2 H2 t Y2 F2 ht => ?_⟩
        refine ⟨by show 2 ≤ sizeLine; decide, fun tp htp => ?_⟩
        have hD2 : H2 D = some (.lst (ts.map V.ref)) := F2 _ _ hDi nD
        have ntD : tp ≠ D := fun e => by subst e; rw [hD2] at htp; cases htp
        refine ⟨_, same_new htp _ _ hD2, ?_, ?_⟩
        · have hle : (freeOf p).length ≤ p.offs.length := by
            unfold freeOf
            refine Nat.le_trans (List.length_filter_le _ _) (by rw [List.length_range]; exact Nat.le_refl _)
          have : (1000 : Nat) < sizeLine := by decide
          rw [List.length_map, hts]; omega
        · have Y3 := Y2.ex (same_new htp (o := .tup [V.int (((freeOf p)[i] : Nat) : Int), V.ref t]))
          have kt : ∀ a xs, H' a = some (.tup xs) → upd (upd H2 tp (.tup [V.int (((freeOf p)[i] : Nat) : Int), V.ref t])) D (.lst (ts.map V.ref ++ [V.ref tp])) a = some (.tup xs) := fun a xs ha => by
            rw [upd_ne (ne_of ha hDi (by intro z; cases z))]
            exact same_new htp _ _ (F2 _ _ ha (Yi.mtup ha))
          refine ⟨c1, j2, ts ++ [tp], dn ++ [((freeOf p)[i], ws)], rows', Y3.out nD (same_new htp _ _ hD2), ?_, by rw [upd_same, List.map_append]; rfl, hp', by rw [hr, List.append_assoc]; rfl, by rw [List.length_append, hts]; rfl, (hra.mono kt).snoc (u := t) ?_ ?_⟩
          · intro a o ha hn
            rw [upd_ne (ne_of_none ha hD)]
            exact same_new htp _ _ (F2 _ _ (Fi _ _ ha hn) hn)
          · rw [upd_ne ntD, upd_same]
          · have : t ≠ D := ne_of ht hD2 (by intro z; cases z)
            rw [upd_ne this]
            exact same_new htp _ _ ht
    · obtain ⟨ci, ji, ts, dn, rest, Yi, Fi, hDi, hPi, hr, hts, hra⟩ := hP
      have hdrop : (freeOf p).drop (vN (freeOf p)).length = [] := by
        unfold vN
        rw [List.length_map, List.drop_length]
      rw [hdrop] at hPi
      cases hPi
      rw [List.append_nil] at hr
      subst hr
      refine Or.inl ⟨D, _, rfl, SqL.of hDi, fun t ht => ?_⟩
      refine k ji _ t (Yi.ex (same_new ht)) (((FrL.ex e1).trans Fi).trans (FrL.ex (same_new ht))) ⟨ts, upd_same, hra.mono fun a xs ha => same_new ht _ _ ha⟩
end
end K73
end
section
set_option maxHeartbeats 4000000
namespace K73
open PySem PySem.Spec PyProof.Rows L2 Evl
/-! ### Lightest: slacks -/
def optV : Option Int → V
  | none => .non
  | some z => .int z
def lowB (z : Int) : Option Int → Bool
  | none => true
  | some y => decide (z < y)
def sl1 (z : Int) (f : List (Option Int)) (o : Nat) : List (Option Int) := if lowB z (f.getD o none) = true then f.set o (some z) else f
def sl2 (os : List (Nat × Nat × Int)) (f : List (Option Int)) (r : Nat × List Nat) : List (Option Int) := match r.2 with
  | [] => f
  | x :: xs => ((x :: xs).foldl (sl1 (zAt os r.1)) f).set r.1 (some (maxL (zAt os x) (xs.map (zAt os))))
theorem sl1_len (z : Int) (f : List (Option Int)) (o : Nat) : (sl1 z f o).length = f.length := by
  unfold sl1
  split
  · rw [List.length_set]
  · rfl
theorem sl1s_len (z : Int) (xs : List Nat) : ∀ f : List (Option Int), (xs.foldl (sl1 z) f).length = f.length := by
  induction xs with
  | nil => intro f; rfl
  | cons x xs ih => intro f; rw [List.foldl_cons, ih, sl1_len]
theorem sl2_len (os : List (Nat × Nat × Int)) (f : List (Option Int)) (r : Nat × List Nat) : (sl2 os f r).length = f.length := by
  unfold sl2
  split
  · rfl
  · rw [List.length_set, sl1s_len]
theorem sl2s_len (os : List (Nat × Nat × Int)) (rs : List (Nat × List Nat)) : ∀ f : List (Option Int), (rs.foldl (sl2 os) f).length = f.length := by
  induction rs with
  | nil => intro f; rfl
  | cons x xs ih => intro f; rw [List.foldl_cons, ih, sl2_len]
theorem foldl_take {α β : Type} (g : β → α → β) (b : β) (xs : List α) {i : Nat} {x : α} (h : xs[i]? = some x) : (xs.take (i + 1)).foldl g b = g ((xs.take i).foldl g b) x := by
  rw [List.take_succ, h, List.foldl_append]; rfl
section
variable {P : Program} {w : World} {K : PySem.W.Frag} {mg : Str → Option Value} {base : Heap}
theorem el_rep {σ : L2.St} {H : Hp} {ta tb : TE} {xs : List V} {n : Nat} (h1 : EvL ta σ H xs) (h2 : Ev tb σ H (.int (n : Int))) (hn : n ≤ 100000) (hz : xs.length * n ≤ 100000) : EvL (tOp rRep ta tb) σ H (List.replicate n xs).flatten := fun H1 e Q q =>
  h1 H1 e _ fun l H2 hl e2 g2 => h2 H2 (Same.trans e e2) _ fun H3 e3 => by
    refine ⟨l, (n : Int), xs, rfl, rfl, e3 _ _ g2, by omega, ?_, ?_, fun p hp => ?_⟩
    · omega
    · rw [Int.toNat_natCast]
      exact Nat.le_trans hz (by decide)
    · rw [Int.toNat_natCast]
      exact q p _ (fresh_back (Ex.trans e2 e3) hp) (Same.trans (Same.trans e2 e3) (same_new hp)) upd_same
theorem rc_lenT {H : Hp} {a : Addr} {xs : List V} (h : SqT K H a xs) : RC (rLenS K) [.ref a] H (.int (xs.length : Int)) := fun H1 e _ q => ⟨_, xs, rfl, Or.inr (ex_t e h), q H1 (Ex.refl _)⟩
def sp_Lightest_slacks (K : PySem.W.Frag) : Sp := fun vs H Q _ => ∃ (L : LA) (A : SA) (p : LP) (j : J) (rows : List (Nat × List Nat)) (c' : C), vs = [.ref L.q] ∧ Lt K L A p j H ∧ p.offs.length < 1000 ∧ PaperR p p.c (freeOf p) rows c' ∧
  (∀ r ∈ rows, r.1 < p.offs.length ∧ r.2.length ≤ 1000 ∧ ∀ x ∈ r.2, x < p.offs.length) ∧
  ∀ j' H' t, Lt K L A { p with c := c' } j' H' → FrL A L H H' → H' t = some (.tup ((rows.foldl (sl2 p.offs) (List.replicate p.offs.length none)).map optV)) → Q (.ref t) H'
-- 0 self, 1 found, 2 number, 3 way, 4 price, 5 other
abbrev n_Lightest_slacks : List Str := ["self", "found", "number", "way", "price", "other"]
theorem sc_Lightest_slacks : FnScope n_Lightest_slacks ["self"] (defScope s_Lightest_slacks) := ⟨rfl, rfl, rfl, by decide +kernel, rfl, by decide +kernel, by decide +kernel⟩
theorem ok_Lightest_slacks (T : Txt w K mg) : Good P w K mg base 13 (He.ma K (aL K) "slacks") ["self"] (sp_Lightest_slacks K) := by
  refine good_mk T.D_Lightest_slacks sc_Lightest_slacks (fun _ _ _ _ _ _ us hl => match us, hl with | [_], _ => rfl) (fun vs H Q E h => ?_) (fun cdv A0 outer s H vs Q E hr h => ?_)
  · obtain ⟨L, A, p, j, rows, c', rfl, _⟩ := h
    rfl
  · obtain ⟨L, A, p, j, rows, c', rfl, Y, hlen, hp, hrows, k⟩ := h
    refine ⟨_, (pss_cons (ps_set (i := 1) sc_Lightest_slacks.nd rfl (Or.inl rfl) (pe_op op_rep (pe_lst (pa_cons pe_non pa_nil)) (pe_callB call_len_seq (by rfl) T.z_len PySem.boot_len (pa_cons (pe_fld (pv 0) rfl) pa_nil))))
      (pss_cons (ps_for PassesOwn.never rfl (pi_tup (pe_m0 (pv 0) T.clL T.mL_paper (ok_Lightest_paper T) (hr.mono (by decide)))) (pg_tup rfl (pgs_cons (pg_name (i := 2) sc_Lightest_slacks.nd rfl (Or.inl rfl)) (pgs_cons (pg_name (i := 3) sc_Lightest_slacks.nd rfl (Or.inl rfl)) pgs_nil))) (pss_cons (ps_set (i := 4) sc_Lightest_slacks.nd rfl (Or.inl rfl) (pe_ix ix_tup (pe_ix ix_list (pe_fld (pv 0) rfl) (pv 2) (fun _ _ => rfl)) pe_int (fun _ _ => rfl)))
        (pss_cons (ps_for PassesOwn.never rfl (pi_tup (pv 3)) (pg_name (i := 5) sc_Lightest_slacks.nd rfl (Or.inl rfl)) (pss_one (ps_if (PW.pt (pw_or (pt_cmpR op_isN (pe_ix ix_list (pv 1) (pv 5) (fun _ _ => rfl)) pe_non (nomark _)) (pw_or1 (pt_cmpR op_lt (pv 4) (pe_ix ix_list (pv 1) (pv 5) (fun _ _ => rfl)) (nomark _))))) (pss_one (ps_asg (pv 4) (pg_sub (pv 1) (pv 5) set_list))) pss_nil)))
        (pss_one (ps_if (pt_cmpR op_gt (pe_callB call_len_seq (by rfl) T.z_len PySem.boot_len (pa_cons (pv 3) pa_nil)) pe_int (nomark _)) (pss_one (ps_asg (pe_callB (cr_max rfl) (by rfl) T.z_max (by decide +kernel) (pa_cons (pe_lc (own := [("other", 5)]) (g := gName 5) (tt := tYes) (te := (tOp (rIxT K) (tOp (rIxL K) (tFld K (tVar 0) "offered") (tVar 5)) (tC (.int 2)))) (by rfl) sc_Lightest_slacks.nd (pi_tup (pv 3)) (blkOk_by (own := [("other", 5)]) (N := n_Lightest_slacks) (sc := defScope s_Lightest_slacks) (by decide +kernel)) (fun _ _ _ _ _ => (pg_name (i := 5) sc_Lightest_slacks.nd rfl (Or.inl rfl))) (fun _ _ _ _ _ => pts_nil) (fun _ _ _ _ _ => (pe_ix ix_tup (pe_ix ix_list (pe_fld (pv 0) rfl) (pv 5) (fun _ _ => rfl)) pe_int (fun _ _ => rfl)))) pa_nil)) (pg_sub (pv 1) (pv 2) set_list))) pss_nil)))))
      (pss_one (ps_ret (pe_tupleOf rfl T.z_tuple (pv 1)))))), ?_⟩
    obtain ⟨as, h1, h2, h3⟩ := Y.off
    refine q_asgL (el_rep (n := p.offs.length) (el_lst (vs := [.non]) (ea_cons ev_c ea_nil) (by show 1 ≤ 100000; decide)) (ev_is (ev_len (ev_lo T Y rfl) (sq_of h1)) (by rw [List.length_map, h2])) (by omega) (by show 1 * _ ≤ _; omega)) (fun fl H1 hfl e1 hf1 => ?_)
    have Y1 := Y.ex e1
    have nfl : ¬ MutL A L fl := Y.mnone hfl
    have hf1' : H1 fl = some (.lst ((List.replicate p.offs.length (none : Option Int)).map optV)) := by
      rw [hf1, flat_rep, List.map_replicate]; rfl
    refine call_m (val_var rfl) Y1.ob (lf_no (by decide +kernel)) vala_nil ?_
    refine ⟨L, A, p, j, rows, c', rfl, Y1, hlen, hp, fun j2 H2 t Y2 F2 hpa => ?_⟩
    obtain ⟨ts, ht, hts, hra⟩ := hpa
    have hf2 := F2 _ _ hf1' nfl
    have klist : ∀ {H' : Hp}, (∀ a o, H2 a = some o → a ≠ fl → H' a = some o) → (∃ xs, H' fl = some (.lst xs)) → Lt K L A { p with c := c' } j2 H' := fun {H'} hk ⟨xs, hx⟩ => by
      have e : ∀ a o, upd H2 fl (.lst xs) a = some o → H' a = some o := fun a o ha => by
        by_cases q : a = fl
        · subst q; rw [upd_same] at ha; rw [← ha]; exact hx
        · rw [upd_ne q] at ha; exact hk a o ha q
      exact (Y2.out nfl hf2 (o := .lst xs)).ex e
    refine ⟨t, rfl, ⟨_, SqT.of ht⟩, for_tup (xs := ts.map V.ref) (fun i σ' H' => ∃ v2 v3 v4 v5 : Option V, σ' = [some (.ref L.q), some (.ref fl), v2, v3, v4, v5] ∧ (∀ a o, H2 a = some o → a ≠ fl → H' a = some o) ∧ H' fl = some (.lst (((rows.take i).foldl (sl2 p.offs) (List.replicate p.offs.length none)).map optV)))
      ⟨_, _, _, _, rfl, fun a o h _ => h, hf2⟩ (fun i σ' H' _ ⟨_, _, _, _, _, hk, _⟩ => SqT.of (hk _ _ ht (ne_of ht hf2 (by intro z; cases z)))) (fun i x σ' H' hi ⟨v2, v3, v4, v5, es, hk, hf⟩ => ?_) (fun σ' H' ⟨v2, v3, v4, v5, es, hk, hf⟩ => ?_)⟩
    · subst es
      have hit : i < ts.length := by
        have := (List.getElem?_eq_some_iff.mp hi).1
        simpa using this
      have hir : i < rows.length := by rw [← hts]; exact hit
      have hx : x = .ref ts[i] := by
        rw [List.getElem?_map, List.getElem?_eq_getElem hit] at hi
        exact (Option.some.inj hi).symm
      subst hx
      obtain ⟨u, g1, g2⟩ := hra i ts[i] rows[i] (List.getElem?_eq_getElem hit) (List.getElem?_eq_getElem hir)
      have hrow : rows[i]? = some rows[i] := List.getElem?_eq_getElem hir
      obtain ⟨hr1, hr3, hr2⟩ := hrows rows[i] (List.getElem_mem hir)
      have hstep := foldl_take (sl2 p.offs) (List.replicate p.offs.length (none : Option Int)) rows hrow
      rw [hstep]
      have hflen : (((rows.take i).foldl (sl2 p.offs) (List.replicate p.offs.length none))).length = p.offs.length := by rw [sl2s_len, List.length_replicate]
      generalize ((rows.take i).foldl (sl2 p.offs) (List.replicate p.offs.length none)) = f at hf hflen
      generalize rows[i] = r at g1 g2 hr1 hr2 hr3
      refine ⟨ts[i], _, rfl, SqT.of (hk _ _ g1 (ne_of g1 hf2 (by intro z; cases z))), rfl, _, _, rfl, _, _, rfl, rfl, ?_⟩
      have Yh := klist hk ⟨_, hf⟩
      refine q_asg (ev_z T Yh rfl (ev_var rfl) hr1) (fun H3 e3 => ?_)
      have hk3 : ∀ a o, H2 a = some o → a ≠ fl → H3 a = some o := fun a o ha hn => e3 _ _ (hk a o ha hn)
      have g2' : ∀ {H'}, (∀ a o, H2 a = some o → a ≠ fl → H' a = some o) → SqT K H' u (vN r.2) := fun h => SqT.of (h _ _ g2 (ne_of g2 hf2 (by intro z; cases z)))
      refine q_forT (xs := vN r.2) (ev_var rfl) (g2' hk3) (fun i' σ' H' => ∃ v5 : Option V, σ' = [some (.ref L.q), some (.ref fl), some (.int (r.1 : Int)), some (.ref u), some (.int (zAt p.offs r.1)), v5] ∧ (∀ a o, H2 a = some o → a ≠ fl → H' a = some o) ∧ H' fl = some (.lst (((r.2.take i').foldl (sl1 (zAt p.offs r.1)) f).map optV)))
        (fun H4 e4 => ⟨_, rfl, fun a o ha hn => e4 _ _ (hk3 a o ha hn), e4 _ _ (e3 _ _ hf)⟩) (fun i' σ' H' _ ⟨_, _, h, _⟩ => g2' h) (fun i' x' σ' H' hi' ⟨v5, es', hk', hf'⟩ => ?_) (fun σ' H' ⟨v5, es', hk', hf'⟩ => ?_)
      · subst es'
        have hil : i' < r.2.length := by
          have := (List.getElem?_eq_some_iff.mp hi').1
          simpa [vN] using this
        have hx' : x' = .int ((r.2[i'] : Nat) : Int) := by
          unfold vN at hi'
          rw [List.getElem?_map, List.getElem?_eq_getElem hil] at hi'
          exact (Option.some.inj hi').symm
        subst hx'
        have ho := hr2 _ (List.getElem_mem hil)
        have hst := foldl_take (sl1 (zAt p.offs r.1)) f r.2 (List.getElem?_eq_getElem hil)
        rw [hst]
        have hfl2 : ((r.2.take i').foldl (sl1 (zAt p.offs r.1)) f).length = p.offs.length := by rw [sl1s_len, hflen]
        generalize (r.2.take i').foldl (sl1 (zAt p.offs r.1)) f = f2 at hf' hfl2
        generalize r.2[i'] = o at ho
        have hoo : (f2.map optV)[o]? = some (optV (f2.getD o none)) := by
          rw [List.getElem?_map, List.getD_eq_getElem?_getD, List.getElem?_eq_getElem (by rw [hfl2]; exact ho)]; rfl
        have rdo : ∀ {H3 : Hp}, Same H' H3 → Ev (tOp (rIxL K) (tVar 1) (tVar 5)) [some (.ref L.q), some (.ref fl), some (.int (r.1 : Int)), some (.ref u), some (.int (zAt p.offs r.1)), some (.int (o : Int))] H3 (optV (f2.getD o none)) := fun e => ev_ixl (ev_var rfl) (e _ _ hf') (ev_var rfl) hoo
        have ht : EvT (tOr (tTest (tOp (fun x y H Q => y = V.non ∧ Q (.bl (decide (x = .non))) H) (tOp (rIxL K) (tVar 1) (tVar 5)) (tC .non))) (tTest (tOp (rI0 fun i j => .bl (decide (i < j))) (tVar 4) (tOp (rIxL K) (tVar 1) (tVar 5))))) [some (.ref L.q), some (.ref fl), some (.int (r.1 : Int)), some (.ref u), some (.int (zAt p.offs r.1)), some (.int (o : Int))] H' (lowB (zAt p.offs r.1) (f2.getD o none)) := by
          cases hq : f2.getD o none with
          | none =>
            have hrd := rdo (Same.refl H')
            rw [hq] at hrd
            exact et_or (a := true) (b := true) (et_is (et_test (ev_op hrd ev_c (rv_val fun H1 _ Q q => ⟨rfl, q⟩))) (by rfl)) fun h => nomatch h
          | some y =>
            have hrd := rdo (Same.refl H')
            rw [hq] at hrd
            exact et_or (a := false) (b := decide (zAt p.offs r.1 < y)) (et_is (et_test (ev_op hrd ev_c (rv_val fun H1 _ Q q => ⟨rfl, q⟩))) (by rfl)) fun _ => et_test (ev_op (ev_var rfl) hrd rv_I0)
        refine s_if ht (fun hb H4 e4 => ?_) (fun hb H4 e4 => ?_)
        · refine s_setL (e4 _ _ hf') (ev_var rfl) (ev_var rfl) (ev_var rfl) (by rw [List.length_map, hfl2]; exact ho) (fun H5 e5 => ⟨_, rfl, fun a o' ha hn => by rw [upd_ne hn]; exact e5 _ _ (e4 _ _ (hk' a o' ha hn)), ?_⟩)
          rw [upd_same]
          unfold sl1
          rw [if_pos hb, List.map_set]; rfl
        · refine ⟨_, rfl, fun a o' ha hn => e4 _ _ (hk' a o' ha hn), ?_⟩
          rw [e4 _ _ hf']
          unfold sl1
          rw [hb]; rfl
      · subst es'
        rw [show (vN r.2).length = r.2.length by unfold vN; rw [List.length_map], List.take_length] at hf'
        have Yk := klist hk' ⟨_, hf'⟩
        cases hw : r.2 with
        | nil =>
          rw [hw] at hf' g2'
          refine s_if (b := false) (et_is (et_test (ev_op (ev_cb (ea_cons (ev_var rfl) ea_nil) (rc_lenT (g2' hk'))) ev_c rv_I0)) (by rfl)) (fun h => nomatch h) (fun _ H5 e5 => ?_)
          refine ⟨_, _, _, _, rfl, fun a o' ha hn => e5 _ _ (hk' a o' ha hn), ?_⟩
          rw [e5 _ _ hf']
          unfold sl2
          rw [hw]; rfl
        | cons y ys =>
          rw [hw] at hf' g2' hr2 hr3
          refine s_if (b := true) (et_is (et_test (ev_op (ev_cb (ea_cons (ev_var rfl) ea_nil) (rc_lenT (g2' hk'))) ev_c rv_I0)) (decide_eq_true (by unfold vN; rw [List.length_map, List.length_cons]; omega))) (fun _ H5 e5 => ?_) (fun h => nomatch h)
          have Y5 := Yk.ex e5
          have hk5 : ∀ a o, H2 a = some o → a ≠ fl → H5 a = some o := fun a o ha hn => e5 _ _ (hk' a o ha hn)
          refine s_setL (v := .int (maxL (zAt p.offs y) (ys.map (zAt p.offs)))) (e5 _ _ hf') (ev_cbL (el_allT (ys := y :: ys) (g := fun x : Nat => V.int (x : Int)) (fun x => .int (zAt p.offs x)) (ev_var rfl) (g2' hk5) (by omega) (fun _ => rfl) (fun x hx H6 e6 => ev_z (p := { p with c := c' }) T (Y5.ex e6) rfl (ev_var rfl) (hr2 x hx))) (fun pp H6 e6 hp6 => ?_)) (ev_var rfl) (ev_var rfl) (by rw [List.length_map, sl1s_len, hflen]; exact hr1) (fun H6 e6 => ⟨_, _, _, _, rfl, fun a o' ha hn => by rw [upd_ne hn]; exact e6 _ _ (hk5 a o' ha hn), ?_⟩)
          · exact rc_max (by rw [hp6, List.map_cons, List.map_cons, List.map_map]; rfl)
          · rw [upd_same]
            unfold sl2
            rw [hw]
            show _ = some (HO.lst (List.map optV _))
            rw [List.map_set]; rfl
    · subst es
      have hfull : rows.take (ts.map V.ref).length = rows := by rw [List.length_map, hts, List.take_length]
      rw [hfull] at hf
      refine s_retU (eu_tupList (ev_var rfl) (sq_of hf)) (fun tt H3 _ e3 h3 => k j2 H3 tt ((klist hk ⟨_, hf⟩).ex e3) (fun a o ha hn => ?_) h3)
      exact e3 _ _ (hk _ _ (F2 _ _ (e1 _ _ ha) hn) (ne_of_none ha hfl))
end
end K73
end
section
set_option maxHeartbeats 4000000
namespace K73
open PySem PySem.Spec PyProof.Rows L2 Evl
/-! ### lightpapers: are_numbers, are_rising, leads -/
def tLenSetT (K : PySem.W.Frag) (ta : TE) : TE := fun σ H Q => ta σ H fun x H1 => ∃ (l : Addr) (ns : List Int), x = .ref l ∧ SqT K H1 l (ns.map V.int) ∧ ns.Nodup ∧ ns.length ≤ 1000 ∧ Q (.int (ns.length : Nat)) H1
theorem pe_lenSetT {X : Cx} {a : Expr} {ta : TE} {p p2 q pos : Pos} (hg : Gl X "len") (hm : X.mg "len" = none) (hg2 : Gl X "set") (hm2 : X.mg "set" = none) (ha : PE X a ta) (hc : X.calm = true := by rfl)
    (na : starEach [a] X.env = (false, eval a X.env) :: starEach [] X.env := by rfl) : PE X (.Call (.Name "len" p) [.Call (.Name "set" p2) [a] [] q] [] pos) (tLenSetT X.K ta) := by
  refine ⟨fun pins s σ H Q I h => ?_⟩
  refine Call_ (ld_blt I hg hm boot_len ?_)
  refine PyProof.Rows.callWith_builtin1 (PyProof.Rows.args_cons ?_ rfl) rfl rfl
  refine Call_ (ld_blt I hg2 hm2 boot_set ?_)
  refine PyProof.Rows.callWith_type1 (PyProof.Rows.args_cons (thn (ha.run pins s σ H _ I h) fun v s1 ⟨x, H1, I1, r1, q1⟩ => PyProof.Rows.args_nil ?_) na) na rfl
  obtain ⟨l, ns, rfl, hq, hnd, hl, q1⟩ := q1
  cases r1
  obtain ⟨its, r, pl, hz⟩ := I1.tuple hq
  refine call_set_tupI ns (I1.ok.hd hc) pl (by simpa using r.ints) (by unfold scanBound; omega) fun h' tk c R hc' hk => ?_
  refine PyProof.Rows.args_nil ?_
  obtain ⟨o, es, ep, t, ho, hex, hd, g, nd, hm', _, hf, hn, _⟩ := R
  have hlen : es.size = ns.length := by
    have hp : (es.toList.map keyOf).Perm ns := (List.perm_ext_iff_of_nodup nd hnd).mpr fun k => by rw [← hm' k, decide_eq_true_iff]
    have := hp.length_eq
    rw [List.length_map, Array.length_toList] at this
    exact this
  have I2 : Inv X pins σ H1 { s1 with heap := h', toks := tk } := I1.kept fun b o e => hk b o e
  exact call_len_set ho hex hd hf (by rw [hlen] <;> omega) ⟨.int ns.length, H1, I2.tok _, ⟨_, by rw [hlen]⟩, q1⟩
theorem inV_N (i : Nat) (xs : List Nat) : inV (.int (i : Int)) (vN xs) = decide (i ∈ xs) := by
  induction xs with
  | nil => rfl
  | cons x r ih =>
    have e : inV (.int (i : Int)) (vN (x :: r)) = (eqV (.int (x : Int)) (.int (i : Int)) || inV (.int (i : Int)) (vN r)) := rfl
    rw [e, ih, Bool.eq_iff_iff, Bool.or_eq_true, decide_eq_true_iff, decide_eq_true_iff, List.mem_cons]
    have e2 : eqV (.int (x : Int)) (.int (i : Int)) = true ↔ i = x := by
      show decide ((x : Int) = (i : Int)) = true ↔ _
      rw [decide_eq_true_iff]
      omega
    rw [e2]
theorem flat_N (xs : List Nat) : (vN xs).all flatV = true := by
  induction xs with
  | nil => rfl
  | cons x r ih => exact ih
section
variable {σ : L2.St} {H : Hp} {K : PySem.W.Frag} {ta tb te : TE} {x : V} {xs : List V}
theorem ev_inU {neg : Bool} (ha : Ev ta σ H x) (hb : EvU tb σ H xs) (fx : flatV x = true) (fs : xs.all flatV = true) : Ev (tOp (rIn K neg) ta tb) σ H (.bl (if neg then !inV x xs else inV x xs)) := fun H1 e Q q =>
  ha H1 e _ fun H2 e2 => hb H2 (Same.trans e e2) _ fun p H3 _ e3 h3 => ⟨p, xs, rfl, Or.inr (st_of h3), fx, fs, q H3 (Same.trans e2 e3)⟩
theorem ev_inT {neg : Bool} {t : Addr} (ha : Ev ta σ H x) (hb : Ev tb σ H (.ref t)) (ht : SqT K H t xs) (fx : flatV x = true) (fs : xs.all flatV = true) : Ev (tOp (rIn K neg) ta tb) σ H (.bl (if neg then !inV x xs else inV x xs)) := fun H1 e Q q =>
  ha H1 e _ fun H2 e2 => hb H2 (Same.trans e e2) _ fun H3 e3 => ⟨t, xs, rfl, Or.inr (ex_t (Same.trans (Same.trans e e2) e3) ht), fx, fs, q H3 (Same.trans e2 e3)⟩
theorem ev_lenSetT {t : Addr} {ns : List Nat} (ha : Ev te σ H (.ref t)) (ht : SqT K H t (vN ns)) (nd : ns.Nodup) (hl : ns.length ≤ 1000) : Ev (tLenSetT K te) σ H (.int (ns.length : Int)) := fun H1 e Q q =>
  ha H1 e _ fun H2 e2 => by
    have e3 : vN ns = (ns.map fun x : Nat => (x : Int)).map V.int := by unfold vN; rw [List.map_map]; rfl
    have ht' := ex_t (Same.trans e e2) ht
    rw [e3] at ht'
    refine ⟨t, ns.map fun x : Nat => (x : Int), rfl, ht', ?_, by rw [List.length_map]; exact hl, ?_⟩
    · exact List.Pairwise.map _ (fun a b h q => h (Int.ofNat.inj q)) nd
    · rw [List.length_map]
      exact q H2 e2
theorem rc_allb {p : Addr} {α : Type} {ys : List α} {f : α → Bool} (h : H p = some (.lst (ys.map fun y => V.bl (f y)))) : RC (rAll K) [.ref p] H (.bl (ys.all f)) := by
  have e := rc_all (K := K) (H := H) (a := p) (bs := ys.map f) (by rw [List.map_map]; exact h)
  rw [List.all_map] at e
  exact e
end
def OffT (H : Hp) (t : Addr) (os : List (Nat × Nat × Int)) : Prop := ∃ as : List Addr, H t = some (.tup (as.map V.ref)) ∧ Offs H as os
theorem OffT.mono {H H' : Hp} {t : Addr} {os : List (Nat × Nat × Int)} (O : OffT H t os) (h : ∀ a xs, H a = some (.tup xs) → H' a = some (.tup xs)) : OffT H' t os := by
  obtain ⟨as, h1, h2⟩ := O
  exact ⟨as, h _ _ h1, h2.mono h⟩
theorem OffT.at_ {H : Hp} {t : Addr} {os : List (Nat × Nat × Int)} (O : OffT H t os) {n : Nat} {o : Nat × Nat × Int} (h : os[n]? = some o) : ∃ (as : List Addr) (a : Addr), H t = some (.tup (as.map V.ref)) ∧ (as.map V.ref)[n]? = some (V.ref a) ∧ H a = some (.tup (offV o)) := by
  obtain ⟨as, h1, h2, h3⟩ := O
  have hl : n < as.length := by
    rw [h2]
    exact (List.getElem?_eq_some_iff.mp h).1
  have ha : as[n]? = some as[n] := List.getElem?_eq_getElem hl
  exact ⟨as, as[n], h1, by rw [List.getElem?_map, ha]; rfl, h3 n _ o ha h⟩
inductive Steps (os : List (Nat × Nat × Int)) : Nat → List Nat → Nat → Prop
  | nil {a : Nat} : Steps os a [] a
  | cons {a a' b n x y : Nat} {z : Int} {ns : List Nat} : os[n]? = some (x, y, z) → ((a = x ∧ a' = y) ∨ (a = y ∧ a' = x)) → Steps os a' ns b → Steps os a (n :: ns) b
section
variable {P : Program} {w : World} {K : PySem.W.Frag} {mg : Str → Option Value} {base : Heap}
theorem ev_zt {H : Hp} {σ : L2.St} {ta te : TE} {t : Addr} {n : Nat} {os : List (Nat × Nat × Int)} (O : OffT H t os) (ha : Ev ta σ H (.ref t)) (he : Ev te σ H (.int (n : Int))) (hn : n < os.length) :
    Ev (tOp (rIxT K) (tOp (rIxT K) ta te) (tC (.int 2))) σ H (.int (zAt os n)) := by
  have ho : os[n]? = some os[n] := List.getElem?_eq_getElem hn
  obtain ⟨as, a, h1, h2, h3⟩ := O.at_ ho
  refine ev_ixt (n := 2) (ev_ixt ha (st_of h1) he h2) (st_of h3) ev_c ?_
  unfold zAt
  rw [ho]; rfl
def sp_are_numbers (K : PySem.W.Frag) : Sp := fun vs H Q _ => ∃ (t : Addr) (n : Nat) (xs : List Nat), vs = [.ref t, .int (n : Int)] ∧ H t = some (.tup (vN xs)) ∧ xs.length ≤ 1000 ∧ (∀ x ∈ xs, x < n) ∧ ∀ H', Same H H' → Q (.bl true) H'
-- 0 thing, 1 many, 2 one
abbrev n_are_numbers : List Str := ["thing", "many", "one"]
theorem sc_are_numbers : FnScope n_are_numbers ["thing", "many"] (defScope s_are_numbers) := ⟨rfl, rfl, rfl, by decide +kernel, rfl, by decide +kernel, by decide +kernel⟩
theorem ok_are_numbers (T : Txt w K mg) : Good P w K mg base 2 (He.ga K "are_numbers") ["thing", "many"] (sp_are_numbers K) := by
  refine good_mk T.D_are_numbers sc_are_numbers (fun _ _ _ _ _ _ us hl => match us, hl with | [_, _], _ => rfl) (fun vs H Q E h => ?_) (fun cdv A0 outer s H vs Q E hr h => ?_)
  · obtain ⟨t, n, xs, rfl, _⟩ := h
    rfl
  · obtain ⟨t, n, xs, rfl, ht, hl, hx, k⟩ := h
    refine ⟨_, (pss_one (ps_ret (pe_and (pe_callB call_isi (by rfl) T.z_isinstance (by decide +kernel) (pa_cons (pv 0) (pa_cons (pe_bltn (v := .ty "tuple") (by rfl) T.z_tuple (by decide +kernel) rfl) pa_nil))) (pe_one (pe_callB (cr_all rfl) (by rfl) T.z_all (by decide +kernel) (pa_cons (pe_lc (own := [("one", 2)]) (g := gName 2) (tt := tYes) (te := (tAndV (tCall (sp_is_number_shapes K) [] E0 (tCons (tVar 2) tNil)) (tChain (rI0 fun i j => .bl (decide (i ≤ j))) (rI0 fun i j => .bl (decide (i < j))) (tC (.int 0)) (tVar 2) (tVar 1)))) (by rfl) sc_are_numbers.nd (pi_tup (pv 0)) (blkOk_by (own := [("one", 2)]) (N := n_are_numbers) (sc := defScope s_are_numbers) (by decide +kernel)) (fun _ _ _ _ _ => (pg_name (i := 2) sc_are_numbers.nd rfl (Or.inl rfl))) (fun _ _ _ _ _ => pts_nil) (fun _ _ _ _ _ => (pe_and (pe_f (ok_is_number_shapes T) (hr.mono (by decide)) T.g_is_number_shapes (pa_cons (pv 2) pa_nil)) (pe_one (pe_chain op_le op_lt pe_int (pv 2) (pv 1)))))) pa_nil)))))), ?_⟩
    refine s_ret (ev_andV (a := true) (b := true) (ev_isi (a := "tuple") (ev_var rfl) (fun H1 e => .base (.tup (e _ _ ht))) (kit_ty (by decide +kernel))) fun _ => ev_cbL (el_allT (ys := xs) (g := fun x : Nat => V.int (x : Int)) (fun _ => .bl true) (ev_var rfl) (st_of ht) (by omega) (fun _ => rfl) (fun x hx' H1 e1 => ?_)) (v := .bl true) (fun pp H1 e1 hp => ?_)) (fun H1 e1 => k H1 e1)
    · refine ev_andV (a := true) (b := true) (ev_f (ea_cons (ev_var rfl) ea_nil) fun H2 e2 Q q => ⟨_, rfl, q⟩) fun _ => ev_is (ev_chain ev_c (ev_var rfl) (ev_var rfl)) ?_
      have := hx x hx'
      rw [decide_eq_true (by omega), decide_eq_true (by omega)]; rfl
    · have e := rc_allb (K := K) (H := H1) (p := pp) (ys := xs) (f := fun _ => true) hp
      rw [show (xs.all fun _ => true) = true by simp] at e
      exact e
def sp_are_rising (K : PySem.W.Frag) : Sp := fun vs H Q _ => ∃ (t : Addr) (xs : List Nat), vs = [.ref t] ∧ H t = some (.tup (vN xs)) ∧ xs.length ≤ 1000 ∧ xs.Pairwise (· < ·) ∧ ∀ H', Same H H' → Q (.bl true) H'
-- 0 some, 1 one, 2 other
abbrev n_are_rising : List Str := ["some", "one", "other"]
theorem sc_are_rising : FnScope n_are_rising ["some"] (defScope s_are_rising) := ⟨rfl, rfl, rfl, by decide +kernel, rfl, by decide +kernel, by decide +kernel⟩
theorem ok_are_rising (T : Txt w K mg) : Good P w K mg base 1 (He.ga K "are_rising") ["some"] (sp_are_rising K) := by
  refine good_mk T.D_are_rising sc_are_rising (fun _ _ _ _ _ _ us hl => match us, hl with | [_], _ => rfl) (fun vs H Q E h => ?_) (fun cdv A0 outer s H vs Q E hr h => ?_)
  · obtain ⟨t, xs, rfl, _⟩ := h
    rfl
  · obtain ⟨t, xs, rfl, ht, hl, hp, k⟩ := h
    refine ⟨_, (pss_one (ps_ret (pe_callB (cr_all rfl) (by rfl) T.z_all (by decide +kernel) (pa_cons (pe_lc (own := [("one", 1), ("other", 2)]) (g := gTup K 2 (gCons (gName 1) (gCons (gName 2) gNil))) (tt := tYes) (te := (tOp (rI0 fun i j => .bl (decide (i < j))) (tVar 1) (tVar 2))) (by rfl) sc_are_rising.nd (pi_zipG rfl T.z_zip (pa_cons (pv 0) (pa_cons (pe_slice sl_tupA (pv 0) (po_some pe_int) po_none) pa_nil))) (blkOk_by (own := [("one", 1), ("other", 2)]) (N := n_are_rising) (sc := defScope s_are_rising) (by decide +kernel)) (fun _ _ _ _ _ => (pg_tup rfl (pgs_cons (pg_name (i := 1) sc_are_rising.nd rfl (Or.inl rfl)) (pgs_cons (pg_name (i := 2) sc_are_rising.nd rfl (Or.inl rfl)) pgs_nil)))) (fun _ _ _ _ _ => pts_nil) (fun _ _ _ _ _ => (pe_cmpR op_lt (pv 1) (pv 2) (nomark _)))) pa_nil)))), ?_⟩
    have hps : ((xs.zip (xs.drop 1)).map fun q => ((V.int (q.1 : Int), V.int (q.2 : Int)) : V × V)).length = min xs.length (xs.length - 1) := by
      rw [List.length_map, List.length_zip, List.length_drop]
    have zp : ∀ p q, ZPairs (.t p (vN xs)) (.t q (vN (xs.drop 1))) ((xs.zip (xs.drop 1)).map fun q => ((V.int (q.1 : Int), V.int (q.2 : Int)) : V × V)) := fun p q => by
      refine ⟨?_, fun i r hr => ?_, fun i r hr => ?_⟩
      · rw [hps]
        show min (vN xs).length (vN (xs.drop 1)).length = _
        unfold vN
        rw [List.length_map, List.length_map, List.length_drop]
      · rw [List.getElem?_map, Option.map_eq_some_iff] at hr
        obtain ⟨q, hq, rfl⟩ := hr
        obtain ⟨h1, _⟩ := List.getElem?_zip_eq_some.mp hq
        show (vN xs)[i]? = _
        unfold vN
        rw [List.getElem?_map, h1]; rfl
      · rw [List.getElem?_map, Option.map_eq_some_iff] at hr
        obtain ⟨q, hq, rfl⟩ := hr
        obtain ⟨_, h1⟩ := List.getElem?_zip_eq_some.mp hq
        show (vN (xs.drop 1))[i]? = _
        unfold vN
        rw [List.getElem?_map, h1]; rfl
    refine s_ret (ev_cbL (el_zipAll (ps := (xs.zip (xs.drop 1)).map fun q => ((V.int (q.1 : Int), V.int (q.2 : Int)) : V × V)) (fun _ => .bl true) (fun H1 e1 Q q => ?_) (by rw [hps]; omega) (fun _ _ => rfl) (fun q hq H1 e1 => ?_)) (v := .bl true) (fun pp H1 e1 hp => ?_)) (fun H1 e1 => k H1 e1)
    · refine ⟨_, rfl, ?_⟩
      refine ⟨_, rfl, ?_⟩
      refine ⟨1, rfl, ?_⟩
      have hlen : (vN xs).length = xs.length := by unfold vN; rw [List.length_map]
      have h1 : HT.sIx (vN xs).length 0 (some 1) = min 1 xs.length := by rw [← hlen]; exact HT.sIx_nat _ _ 1
      refine ⟨t, vN xs, rfl, st_of (e1 _ _ ht), fun hw => ?_, fun hw p hp => ?_⟩
      · rw [h1] at hw
        have h0 : xs = [] := List.length_eq_zero_iff.mp (by have := hw.1; omega)
        refine q (.t t (vN xs)) (.t t (vN xs)) H1 (Same.refl _) (st_of (e1 _ _ ht)) (st_of (e1 _ _ ht)) ?_
        have z := zp t t
        rw [show xs.drop 1 = xs by rw [h0]; rfl] at z ⊢
        exact z
      · have hc : cutV (vN xs) (some 1) none = vN (xs.drop 1) := by
          unfold cutV
          rw [h1, HT.sIx_none, hlen]
          unfold vN
          rw [← List.map_drop, ← List.map_take]
          congr 1
          cases xs with
          | nil => rfl
          | cons x r =>
            rw [show min 1 (x :: r).length = 1 by rw [List.length_cons]; omega]
            show (r.take _) = r
            rw [List.length_cons]
            exact List.take_of_length_le (by omega)
        rw [hc]
        exact q (.t t (vN xs)) (.t p (vN (xs.drop 1))) _ (same_new hp) (st_of (same_new hp _ _ (e1 _ _ ht))) (st_of upd_same) (zp t p)
    · obtain ⟨q', hq', rfl⟩ := List.mem_map.mp hq
      refine ev_is (ev_op (ev_var rfl) (ev_var rfl) rv_I0) (congrArg V.bl (decide_eq_true ?_))
      have hlt : q'.1 < q'.2 := by
        obtain ⟨i, hi, e⟩ := List.getElem_of_mem hq'
        have h3 : (xs.zip (xs.drop 1))[i]? = some q' := by rw [List.getElem?_eq_getElem hi, e]
        obtain ⟨a1, a2⟩ := List.getElem?_zip_eq_some.mp h3
        rw [List.getElem?_drop] at a2
        obtain ⟨b1, c1⟩ := List.getElem?_eq_some_iff.mp a1
        obtain ⟨b2, c2⟩ := List.getElem?_eq_some_iff.mp a2
        rw [← c1, ← c2]
        exact List.pairwise_iff_getElem.mp hp _ _ b1 b2 (by omega)
      exact_mod_cast hlt
    · have e := rc_allb (K := K) (H := H1) (p := pp) (ys := (xs.zip (xs.drop 1)).map fun q => ((V.int (q.1 : Int), V.int (q.2 : Int)) : V × V)) (f := fun _ => true) hp
      rw [show (∀ ys : List (V × V), (ys.all fun _ => true) = true) from fun ys => by simp] at e
      exact e
theorem Steps.ends {os : List (Nat × Nat × Int)} {a b : Nat} {ns : List Nat} (h : Steps os a ns b) : ∀ n ∈ ns, n < os.length := by
  induction h with
  | nil => intro n hn; cases hn
  | cons h1 h2 h3 ih =>
    intro n hn
    rcases List.mem_cons.mp hn with e | e
    · subst e; exact (List.getElem?_eq_some_iff.mp h1).1
    · exact ih n e
def sp_leads (K : PySem.W.Frag) : Sp := fun vs H Q _ => ∃ (ot nt : Addr) (a b : Nat) (os : List (Nat × Nat × Int)) (ns : List Nat), vs = [.ref ot, .int (a : Int), .int (b : Int), .ref nt] ∧ OffT H ot os ∧ H nt = some (.tup (vN ns)) ∧ Steps os a ns b ∧ ns.Nodup ∧ ns.length ≤ 1000 ∧ ∀ H', Same H H' → Q (.bl true) H'
-- 0 offers, 1 a, 2 b, 3 numbers, 4 here, 5 number, 6 one, 7 other
abbrev n_leads : List Str := ["offers", "a", "b", "numbers", "here", "number", "one", "other"]
theorem sc_leads : FnScope n_leads ["offers", "a", "b", "numbers"] (defScope s_leads) := ⟨rfl, rfl, rfl, by decide +kernel, rfl, by decide +kernel, by decide +kernel⟩
theorem ok_leads (T : Txt w K mg) : Good P w K mg base 1 (He.ga K "leads") ["offers", "a", "b", "numbers"] (sp_leads K) := by
  refine good_mk T.D_leads sc_leads (fun _ _ _ _ _ _ us hl => match us, hl with | [_, _, _, _], _ => rfl) (fun vs H Q E h => ?_) (fun cdv A0 outer s H vs Q E hr h => ?_)
  · obtain ⟨ot, nt, a, b, os, ns, rfl, _⟩ := h
    rfl
  · obtain ⟨ot, nt, a, b, os, ns, rfl, O, hnt, hst, hnd, hl, k⟩ := h
    refine ⟨_, (pss_cons (ps_set (i := 4) sc_leads.nd rfl (Or.inl rfl) (pv 1))
      (pss_cons (ps_for PassesOwn.never rfl (pi_tup (pv 3)) (pg_name (i := 5) sc_leads.nd rfl (Or.inl rfl)) (pss_cons (ps_asg (pe_slice sl_tup (pe_ix ix_tup (pv 0) (pv 5) (fun _ _ => rfl)) po_none (po_some pe_int)) (pg_tup rfl (pgs_cons (pg_name (i := 6) sc_leads.nd rfl (Or.inl rfl)) (pgs_cons (pg_name (i := 7) sc_leads.nd rfl (Or.inl rfl)) pgs_nil))))
        (pss_cut (ps_if (pt_cmpR op_notIn_seq (pv 4) (pe_tup (pa_cons (pv 6) (pa_cons (pv 7) pa_nil))) rfl) pss_never pss_nil)
        (pss_one (ps_set (i := 4) sc_leads.nd rfl (Or.inl rfl) (pe_op op_sub (pe_op op_add (pv 6) (pv 7)) (pv 4)))))))
      (pss_one (ps_ret (pe_and (pe_cmpR op_eq (pv 4) (pv 2) (nomark _)) (pe_one (pe_cmpR op_eq (pe_lenSetT rfl T.z_len rfl T.z_set (pv 3)) (pe_callB call_len_seq (by rfl) T.z_len PySem.boot_len (pa_cons (pv 3) pa_nil)) (nomark _)))))))), ?_⟩
    refine q_asg (ev_var rfl) (fun H1 e1 => ?_)
    refine q_forT (xs := vN ns) (ev_var rfl) (st_of (e1 _ _ hnt)) (fun i σ' H' => ∃ (h : Nat) (v5 v6 v7 : Option V), σ' = [some (.ref ot), some (.int (a : Int)), some (.int (b : Int)), some (.ref nt), some (.int (h : Int)), v5, v6, v7] ∧ Steps os h (ns.drop i) b ∧ Same H H') (fun H2 e2 => ⟨a, _, _, _, rfl, hst, Same.trans e1 e2⟩) (fun i σ' H' _ ⟨_, _, _, _, _, _, e⟩ => st_of (e _ _ hnt)) (fun i x σ' H' hi ⟨h, v5, v6, v7, es, hs, e⟩ => ?_) (fun σ' H' ⟨h, v5, v6, v7, es, hs, e⟩ => ?_)
    · subst es
      have hif : i < ns.length := by
        have := (List.getElem?_eq_some_iff.mp hi).1
        simpa [vN] using this
      have hx : x = .int ((ns[i] : Nat) : Int) := by
        unfold vN at hi
        rw [List.getElem?_map, List.getElem?_eq_getElem hif] at hi
        exact (Option.some.inj hi).symm
      subst hx
      rw [List.drop_eq_getElem_cons hif] at hs
      cases hs with
      | @cons _ h' _ _ x y z _ ho hxy hs' =>
        obtain ⟨as, ad, g1, g2, g3⟩ := (O.mono fun t xs q => e _ _ q).at_ ho
        refine eu_sl (K := K) (σ := [some (.ref ot), some (.int (a : Int)), some (.int (b : Int)), some (.ref nt), some (.int (h : Int)), some (.int ((ns[i] : Nat) : Int)), v6, v7]) (te := tOp (rIxT K) (tVar 0) (tVar 5)) (xs := offV (x, y, z)) (lo := none) (hi := some 2) (ev_ixt (ev_var rfl) (st_of g1) (ev_var rfl) g2) eo_none (eo_some ev_c) (st_of g3) (by show ¬ (0 = 0 ∧ (2 : Nat) = 3); omega) H' (Same.refl _) _ fun p H2 hp e2 h2 => ?_
        refine ⟨p, _, rfl, st_of h2, rfl, _, _, rfl, _, _, rfl, rfl, ?_⟩
        refine ⟨fun σ'' H'' => σ'' = [some (.ref ot), some (.int (a : Int)), some (.int (b : Int)), some (.ref nt), some (.int (h : Int)), some (.int ((ns[i] : Nat) : Int)), some (.int (x : Int)), some (.int (y : Int))] ∧ Same H2 H'', s_if (b := false) (et_test (ev_is (ev_inU (xs := vN [x, y]) (ev_var rfl) (eu_tup (ea_cons (ev_var rfl) (ea_cons (ev_var rfl) ea_nil)) (by show 2 ≤ 100000; decide)) rfl rfl) ?_)) (fun h => nomatch h) (fun _ H3 e3 => ⟨rfl, e3⟩), ?_⟩
        · rw [inV_N]
          have : h ∈ [x, y] := by
            rcases hxy with q | q
            · rw [q.1]; simp
            · rw [q.1]; simp
          rw [decide_eq_true this]; rfl
        · rintro _ H3 ⟨rfl, e3⟩
          refine s_asg (v := .int (h' : Int)) (ev_is (ev_op (ev_op (ev_var rfl) (ev_var rfl) rv_I0) (ev_var rfl) rv_I0) ?_) (fun H4 e4 => ⟨h', _, _, _, rfl, hs', Same.trans (Same.trans (Same.trans e e2) e3) e4⟩)
          rcases hxy with q | q
          · rw [q.1, q.2]; congr 1; omega
          · rw [q.1, q.2]; congr 1; omega
    · subst es
      have hd : ns.drop (vN ns).length = [] := by unfold vN; rw [List.length_map, List.drop_length]
      rw [hd] at hs
      cases hs
      refine s_ret (ev_andV (a := true) (b := true) (ev_is (ev_op (ev_var rfl) (ev_var rfl) (rv_eq rfl)) (by rw [decide_eq_true rfl])) fun _ => ev_is (ev_op (ev_lenSetT (ev_var rfl) (st_of (e _ _ hnt)) hnd hl) (ev_cb (ea_cons (ev_var rfl) ea_nil) (rc_lenT (st_of (e _ _ hnt)))) (rv_eq rfl)) ?_) (fun H2 e2 => k H2 (Same.trans e e2))
      rw [show (vN ns).length = ns.length by unfold vN; rw [List.length_map], decide_eq_true rfl]
end
end K73
end
section
set_option maxHeartbeats 4000000
namespace K73
open PySem PySem.Spec PyProof.Rows L2 Evl
/-! ### lightpapers: have_ring -/
inductive RootR (up : List Nat) : Nat → Nat → Nat → Prop
  | top {x : Nat} : up[x]? = some x → RootR up 0 x x
  | go {k x y r : Nat} : up[x]? = some y → y ≠ x → RootR up k y r → RootR up (k + 1) x r
inductive NoRing (os : List (Nat × Nat × Int)) : List Nat → List Nat → Prop
  | nil {up : List Nat} : NoRing os up []
  | cons {up ns : List Nat} {n a b r1 r2 k1 k2 : Nat} {z : Int} : os[n]? = some (a, b, z) → RootR up k1 a r1 → RootR up k2 b r2 → r1 ≠ r2 → NoRing os (up.set r1 r2) ns → NoRing os up (n :: ns)
theorem RootR.top_ {up : List Nat} {k x r : Nat} (h : RootR up k x r) : r < up.length := by
  induction h with
  | top h => exact (List.getElem?_eq_some_iff.mp h).1
  | go _ _ _ ih => exact ih
theorem at_N {xs : List Nat} {i y : Nat} (h : xs[i]? = some y) : (vN xs)[i]? = some (V.int (y : Int)) := by
  unfold vN
  rw [List.getElem?_map, h]; rfl
section
variable {P : Program} {w : World} {K : PySem.W.Frag} {mg : Str → Option Value} {base : Heap}
def sp_have_ring (K : PySem.W.Frag) : Sp := fun vs H Q _ => ∃ (n : Nat) (ot nt : Addr) (os : List (Nat × Nat × Int)) (ns : List Nat), vs = [.int (n : Int), .ref ot, .ref nt] ∧ n ≤ 1000 ∧ OffT H ot os ∧ H nt = some (.tup (vN ns)) ∧ NoRing os (List.range n) ns ∧ ∀ H', Same H H' → Q (.bl false) H'
-- 0 many, 1 offers, 2 numbers, 3 above, 4 number, 5 ends, 6 here
abbrev n_have_ring : List Str := ["many", "offers", "numbers", "above", "number", "ends", "here"]
theorem sc_have_ring : FnScope n_have_ring ["many", "offers", "numbers"] (defScope s_have_ring) := ⟨rfl, rfl, rfl, by decide +kernel, rfl, by decide +kernel, by decide +kernel⟩
theorem ok_have_ring (T : Txt w K mg) : Good P w K mg base 1 (He.ga K "have_ring") ["many", "offers", "numbers"] (sp_have_ring K) := by
  refine good_mk T.D_have_ring sc_have_ring (fun _ _ _ _ _ _ us hl => match us, hl with | [_, _, _], _ => rfl) (fun vs H Q E h => ?_) (fun cdv A0 outer s H vs Q E hr h => ?_)
  · obtain ⟨n, ot, nt, os, ns, rfl, _⟩ := h
    rfl
  · obtain ⟨n, ot, nt, os, ns, rfl, hn, O, hnt, hr0, k⟩ := h
    refine ⟨_, (pss_cons (ps_set (i := 3) sc_have_ring.nd rfl (Or.inl rfl) (pe_listRg (by rfl) rfl T.z_list (prg_1 rfl T.z_range (pv 0))))
      (pss_cons (ps_for PassesOwn.never rfl (pi_tup (pv 2)) (pg_name (i := 4) sc_have_ring.nd rfl (Or.inl rfl)) (pss_cons (ps_set (i := 5) sc_have_ring.nd rfl (Or.inl rfl) (pe_lst pa_nil))
        (pss_cons (ps_for PassesOwn.never rfl (pi_tup (pe_slice sl_tup (pe_ix ix_tup (pv 1) (pv 4) (fun _ _ => rfl)) po_none (po_some pe_int))) (pg_name (i := 6) sc_have_ring.nd rfl (Or.inl rfl)) (pss_cons (ps_while PassesOwn.never (pt_cmpR op_ne (pe_ix ix_list (pv 3) (pv 6) (fun _ _ => rfl)) (pv 6) (nomark _)) (pss_one (ps_set (i := 6) sc_have_ring.nd rfl (Or.inl rfl) (pe_ix ix_list (pv 3) (pv 6) (fun _ _ => rfl)))))
          (pss_one (ps_expr (pe_bm PySem.F.plainAttrs_list PySem.F.slot_list_append PySem.F.type_list_append mt_append (pv 5) (pa_cons (pv 6) pa_nil))))))
        (pss_cut (ps_if (pt_cmpR op_eq (pe_ix ix_list (pv 5) pe_int (fun _ _ => rfl)) (pe_ix ix_list (pv 5) pe_int (fun _ _ => rfl)) (nomark _)) pss_never pss_nil)
        (pss_one (ps_asg (pe_ix ix_list (pv 5) pe_int (fun _ _ => rfl)) (pg_sub (pv 3) (pe_ix ix_list (pv 5) pe_int (fun _ _ => rfl)) set_list)))))))
      (pss_one (ps_ret pe_bl)))), ?_⟩
    refine ⟨_, rfl, (n : Int), rfl, RgOk.of_le (by omega) (by omega) (by omega) (by omega), fun ab hab => ?_⟩
    have hrg : rgV 0 (n : Int) = vN (List.range n) := by
      unfold rgV vN
      rw [show ((n : Int) - 0).toNat = n by omega]
      apply List.map_congr_left
      intro i _
      rw [Int.zero_add]
    rw [hrg]
    have e0 : Same H (upd H ab (.lst (vN (List.range n)))) := same_new hab
    refine q_forT (xs := vN ns) (ev_var rfl) (st_of (e0 _ _ hnt)) (fun i σ' H' => ∃ (up : List Nat) (v4 v5 v6 : Option V), σ' = [some (.int (n : Int)), some (.ref ot), some (.ref nt), some (.ref ab), v4, v5, v6] ∧ H' ab = some (.lst (vN up)) ∧ NoRing os up (ns.drop i) ∧ Same H H') (fun H2 e2 => ⟨_, _, _, _, rfl, e2 _ _ upd_same, hr0, Same.trans e0 e2⟩) (fun i σ' H' _ ⟨_, _, _, _, _, _, _, e⟩ => st_of (e _ _ hnt)) (fun i x σ' H' hi ⟨up, v4, v5, v6, es, hup, hs, e⟩ => ?_) (fun σ' H' ⟨up, v4, v5, v6, es, hup, hs, e⟩ => ?_)
    · subst es
      have hif : i < ns.length := by
        have := (List.getElem?_eq_some_iff.mp hi).1
        simpa [vN] using this
      have hx : x = .int ((ns[i] : Nat) : Int) := by
        unfold vN at hi
        rw [List.getElem?_map, List.getElem?_eq_getElem hif] at hi
        exact (Option.some.inj hi).symm
      subst hx
      rw [List.drop_eq_getElem_cons hif] at hs
      cases hs with
      | @cons _ _ _ a b r1 r2 k1 k2 z ho hr1 hr2 hne hs' =>
        obtain ⟨as, ad, g1, g2, g3⟩ := (O.mono fun t xs q => e _ _ q).at_ ho
        refine q_asgL (el_lst ea_nil (by show 0 ≤ 100000; decide)) (fun el H1 hel e1 hl1 => ?_)
        have nae : ab ≠ el := ne_of_none hup hel
        refine eu_sl (K := K) (σ := [some (.int (n : Int)), some (.ref ot), some (.ref nt), some (.ref ab), some (.int ((ns[i] : Nat) : Int)), some (.ref el), v6]) (te := tOp (rIxT K) (tVar 1) (tVar 4)) (xs := offV (a, b, z)) (lo := none) (hi := some 2) (ev_ixt (ev_var rfl) (st_of (e1 _ _ g1)) (ev_var rfl) g2) eo_none (eo_some ev_c) (st_of (e1 _ _ g3)) (by show ¬ (0 = 0 ∧ (2 : Nat) = 3); omega) H1 (Same.refl _) _ fun p H2 hp e2 h2 => ?_
        have hl2 := e2 _ _ hl1
        have hup2 := e2 _ _ (e1 _ _ hup)
        have hpe : p ≠ el := ne_of h2 hl2 (by intro z; cases z)
        refine ⟨p, rfl, ⟨_, SqT.of h2⟩, for_tup (xs := vN [a, b]) (fun i' σ'' H'' => ∃ v6 : Option V, σ'' = [some (.int (n : Int)), some (.ref ot), some (.ref nt), some (.ref ab), some (.int ((ns[i] : Nat) : Int)), some (.ref el), v6] ∧ (∀ b' o, H2 b' = some o → b' ≠ el → H'' b' = some o) ∧ H'' el = some (.lst (vN ([r1, r2].take i')))) ⟨_, rfl, fun _ _ h _ => h, hl2⟩ (fun i' σ'' H'' _ ⟨_, _, hk, _⟩ => SqT.of (hk _ _ h2 hpe)) (fun i' x' σ'' H'' hi' ⟨v6', es', hk, hel'⟩ => ?_) (fun σ'' H'' ⟨v6', es', hk, hel'⟩ => ?_)⟩
        · subst es'
          have hpick : ∃ (c r kk : Nat), x' = .int (c : Int) ∧ RootR up kk c r ∧ [r1, r2].take (i' + 1) = [r1, r2].take i' ++ [r] ∧ ([r1, r2].take i').length ≤ 2 := by
            match i', hi' with
            | 0, hi' => exact ⟨a, r1, k1, (Option.some.inj hi').symm, hr1, rfl, by show 0 ≤ 2; decide⟩
            | 1, hi' => exact ⟨b, r2, k2, (Option.some.inj hi').symm, hr2, rfl, by show 1 ≤ 2; decide⟩
            | i' + 2, hi' => simp [vN] at hi'
          obtain ⟨c, r, kk, rfl, hr, htk, htl⟩ := hpick
          rw [htk]
          generalize [r1, r2].take i' = done at hel' htl
          refine q_while (fun m σ3 H3 => ∃ y : Nat, σ3 = [some (.int (n : Int)), some (.ref ot), some (.ref nt), some (.ref ab), some (.int ((ns[i] : Nat) : Int)), some (.ref el), some (.int (y : Int))] ∧ RootR up m y r ∧ (∀ b' o, H2 b' = some o → b' ≠ el → H3 b' = some o) ∧ H3 el = some (.lst (vN done))) kk ⟨c, rfl, hr, hk, hel'⟩ ?_
          rintro m _ H3 ⟨y, rfl, hry, hk3, hel3⟩
          have hup3 := hk3 _ _ hup2 nae
          have rd : ∀ {yy : Nat} {H4 : Hp}, Same H3 H4 → up[y]? = some yy → Ev (tOp (rIxL K) (tVar 3) (tVar 6)) [some (.int (n : Int)), some (.ref ot), some (.ref nt), some (.ref ab), some (.int ((ns[i] : Nat) : Int)), some (.ref el), some (.int (y : Int))] H4 (.int (yy : Int)) := fun e4 hyy => ev_ixl (ev_var rfl) (e4 _ _ hup3) (ev_var rfl) (at_N hyy)
          cases hry with
          | top htop =>
            refine ⟨false, et_is (et_test (ev_op (rd (Same.refl _) htop) (ev_var rfl) (rv_ne rfl))) (by rw [decide_eq_true rfl]; rfl), (fun hb => nomatch hb), fun _ H4 e4 => ?_⟩
            refine s_app (v := .int (r : Int)) (e4 _ _ hel3) (ev_var rfl) (ev_var rfl) (by unfold vN; rw [List.length_map]; omega) (fun H5 e5 => ⟨_, rfl, fun b' o hb' hn => by rw [upd_ne hn]; exact e5 _ _ (e4 _ _ (hk3 b' o hb' hn)), ?_⟩)
            rw [upd_same]
            unfold vN
            rw [List.map_append]; rfl
          | @go k' _ yy _ hyy hne' hry' =>
            refine ⟨true, et_is (et_test (ev_op (rd (Same.refl _) hyy) (ev_var rfl) (rv_ne rfl))) ?_, fun _ H4 e4 => ?_, fun hb => nomatch hb⟩
            · rw [decide_eq_false (fun q => hne' (by injection q with q; exact Int.ofNat.inj q))]; rfl
            · refine ⟨fun σ4 H4 => ∃ m', m' < k' + 1 ∧ (∃ y : Nat, σ4 = [some (.int (n : Int)), some (.ref ot), some (.ref nt), some (.ref ab), some (.int ((ns[i] : Nat) : Int)), some (.ref el), some (.int (y : Int))] ∧ RootR up m' y r ∧ (∀ b' o, H2 b' = some o → b' ≠ el → H4 b' = some o) ∧ H4 el = some (.lst (vN done))), fun _ _ h => h, ?_⟩
              refine s_asg (rd e4 hyy) (fun H5 e5 => ⟨k', Nat.lt_succ_self _, yy, rfl, hry', fun b' o hb' hn => e5 _ _ (e4 _ _ (hk3 b' o hb' hn)), e5 _ _ (e4 _ _ hel3)⟩)
        · subst es'
          have hel2 : H'' el = some (.lst (vN [r1, r2])) := hel'
          have rdE : ∀ {H4 : Hp} {σ : L2.St} {ii : Nat} {rr : Nat}, Same H'' H4 → σ[5]? = some (some (.ref el)) → [r1, r2][ii]? = some rr → Ev (tOp (rIxL K) (tVar 5) (tC (.int (ii : Int)))) σ H4 (.int (rr : Int)) := fun e4 h5 hh => ev_ixl (ev_var h5) (e4 _ _ hel2) ev_c (at_N hh)
          refine ⟨fun σ3 H3 => σ3 = [some (.int (n : Int)), some (.ref ot), some (.ref nt), some (.ref ab), some (.int ((ns[i] : Nat) : Int)), some (.ref el), v6'] ∧ Same H'' H3, s_if (b := false) (et_is (et_test (ev_op (rdE (ii := 0) (Same.refl _) rfl rfl) (rdE (ii := 1) (Same.refl _) rfl rfl) (rv_eq rfl))) (decide_eq_false (fun q => hne (by injection q with q; exact Int.ofNat.inj q)))) (fun h => nomatch h) (fun _ H3 e3 => ⟨rfl, e3⟩), ?_⟩
          rintro _ H3 ⟨rfl, e3⟩
          have hup3 := e3 _ _ (hk _ _ hup2 nae)
          refine s_setL (xs := vN up) (j := r1) hup3 (rdE (ii := 1) e3 rfl rfl) (ev_var rfl) (rdE (ii := 0) e3 rfl rfl) (by unfold vN; rw [List.length_map]; exact hr1.top_) (fun H4 e4 => ⟨up.set r1 r2, _, _, _, rfl, ?_, hs', ?_⟩)
          · rw [upd_same]
            unfold vN
            rw [List.map_set]
          · intro b' o hb'
            have hne3 : b' ≠ ab := ne_of_none hb' hab
            rw [upd_ne hne3]
            refine e4 _ _ (e3 _ _ (hk _ _ (e2 _ _ (e1 _ _ (e _ _ hb'))) ?_))
            exact ne_of_none (e _ _ hb') hel
    · subst es
      exact s_ret ev_c fun H2 e2 => k H2 (Same.trans e e2)
end
end K73
end
section
set_option maxHeartbeats 4000000
namespace K73
open PySem PySem.Spec PyProof.Rows L2 Evl
/-! ### lightpapers: is_reason, shows_lightest -/
def ReasonOk (os : List (Nat × Nat × Int)) (ks : List Nat) (r : Nat × List Nat) : Prop := (∀ x ∈ r.2, x ∈ ks) ∧ r.2.Nodup ∧ r.2.length ≤ 1000 ∧ ∃ (a b : Nat) (z : Int), os[r.1]? = some (a, b, z) ∧ Steps os a r.2 b
def dear (os : List (Nat × Nat × Int)) (r : Nat × List Nat) : Bool := r.2.all fun x => decide (zAt os x ≤ zAt os r.1)
open Classical in
noncomputable def pickH {α β : Type} (zs : List α) (f : α → β) (h : α → V) (q : β) : V := if hq : ∃ e, e ∈ zs ∧ f e = q then h hq.choose else .non
theorem pickH_at {α β : Type} {zs : List α} {f : α → β} {h : α → V} {q : α} (hq : q ∈ zs) (inj : ∀ e ∈ zs, f e = f q → h e = h q) : pickH zs f h (f q) = h q := by
  unfold pickH
  have hx : ∃ e, e ∈ zs ∧ f e = f q := ⟨q, hq, rfl⟩
  rw [dif_pos hx]
  exact inj _ hx.choose_spec.1 hx.choose_spec.2
theorem len_N (xs : List Nat) : (vN xs).length = xs.length := by unfold vN; rw [List.length_map]
section
variable {P : Program} {w : World} {K : PySem.W.Frag} {mg : Str → Option Value} {base : Heap}
def sp_is_reason (K : PySem.W.Frag) : Sp := fun vs H Q _ => ∃ (ot kt rt u : Addr) (os : List (Nat × Nat × Int)) (ks : List Nat) (r : Nat × List Nat), vs = [.ref ot, .ref kt, .int (r.1 : Int), .ref rt] ∧ OffT H ot os ∧ H kt = some (.tup (vN ks)) ∧ H rt = some (.tup [.int (r.1 : Int), .ref u]) ∧ H u = some (.tup (vN r.2)) ∧ ReasonOk os ks r ∧ ∀ H', Same H H' → Q (.bl (dear os r)) H'
-- 0 offers, 1 kept, 2 number, 3 row, 4 one, 5 a, 6 b, 7 price
abbrev n_is_reason : List Str := ["offers", "kept", "number", "row", "one", "a", "b", "price"]
theorem sc_is_reason : FnScope n_is_reason ["offers", "kept", "number", "row"] (defScope s_is_reason) := ⟨rfl, rfl, rfl, by decide +kernel, rfl, by decide +kernel, by decide +kernel⟩
theorem ok_is_reason (T : Txt w K mg) : Good P w K mg base 3 (He.ga K "is_reason") ["offers", "kept", "number", "row"] (sp_is_reason K) := by
  refine good_mk T.D_is_reason sc_is_reason (fun _ _ _ _ _ _ us hl => match us, hl with | [_, _, _, _], _ => rfl) (fun vs H Q E h => ?_) (fun cdv A0 outer s H vs Q E hr h => ?_)
  · obtain ⟨ot, kt, rt, u, os, ks, r, rfl, _⟩ := h
    rfl
  · obtain ⟨ot, kt, rt, u, os, ks, r, rfl, O, hkt, hrt, hu, ⟨hin, hnd, hl, a, b, z, ho, hst⟩, k⟩ := h
    refine ⟨_, (pss_cut (ps_if (PW.pt (pw_or (pt_not (pt_val (pe_callB call_isi (by rfl) T.z_isinstance (by decide +kernel) (pa_cons (pv 3) (pa_cons (pe_bltn (v := .ty "tuple") (by rfl) T.z_tuple (by decide +kernel) rfl) pa_nil))))) (pw_or (pt_cmpR op_ne (pe_callB call_len_seq (by rfl) T.z_len PySem.boot_len (pa_cons (pv 3) pa_nil)) pe_int (nomark _)) (pw_or (pt_not (pt_val (pe_f (ok_is_number_shapes T) (hr.mono (by decide)) T.g_is_number_shapes (pa_cons (pe_ix ix_tup (pv 3) pe_int (fun _ _ => rfl)) pa_nil)))) (pw_or1 (pt_cmpR op_ne (pe_ix ix_tup (pv 3) pe_int (fun _ _ => rfl)) (pv 2) (nomark _))))))) (pss_one (ps_ret pe_bl)) pss_nil)
      (pss_cut (ps_if (PW.pt (pw_or (pt_not (pt_val (pe_f (ok_are_numbers T) (hr.mono (by decide)) T.g_are_numbers (pa_cons (pe_ix ix_tup (pv 3) pe_int (fun _ _ => rfl)) (pa_cons (pe_callB call_len_seq (by rfl) T.z_len PySem.boot_len (pa_cons (pv 0) pa_nil)) pa_nil))))) (pw_or1 (pt_not (pt_val (pe_callB (cr_all rfl) (by rfl) T.z_all (by decide +kernel) (pa_cons (pe_lc (own := [("one", 4)]) (g := gName 4) (tt := tYes) (te := (tOp (rIn K false) (tVar 4) (tVar 1))) (by rfl) sc_is_reason.nd (pi_tup (pe_ix ix_tup (pv 3) pe_int (fun _ _ => rfl))) (blkOk_by (own := [("one", 4)]) (N := n_is_reason) (sc := defScope s_is_reason) (by decide +kernel)) (fun _ _ _ _ _ => (pg_name (i := 4) sc_is_reason.nd rfl (Or.inl rfl))) (fun _ _ _ _ _ => pts_nil) (fun _ _ _ _ _ => (pe_cmpR op_in_seq (pv 4) (pv 1) rfl))) pa_nil))))))) (pss_one (ps_ret pe_bl)) pss_nil)
      (pss_cons (ps_asg (pe_ix ix_tup (pv 0) (pv 2) (fun _ _ => rfl)) (pg_tup rfl (pgs_cons (pg_name (i := 5) sc_is_reason.nd rfl (Or.inl rfl)) (pgs_cons (pg_name (i := 6) sc_is_reason.nd rfl (Or.inl rfl)) (pgs_cons (pg_name (i := 7) sc_is_reason.nd rfl (Or.inr rfl)) pgs_nil)))))
      (pss_one (ps_ret (pe_and (pe_f (ok_leads T) (hr.mono (by decide)) T.g_leads (pa_cons (pv 0) (pa_cons (pv 5) (pa_cons (pv 6) (pa_cons (pe_ix ix_tup (pv 3) pe_int (fun _ _ => rfl)) pa_nil))))) (pe_one (pe_callB (cr_all rfl) (by rfl) T.z_all (by decide +kernel) (pa_cons (pe_lc (own := [("one", 4)]) (g := gName 4) (tt := tYes) (te := (tOp (rI0 fun i j => .bl (decide (i ≤ j))) (tOp (rIxT K) (tOp (rIxT K) (tVar 0) (tVar 4)) (tC (.int 2))) (tVar 7))) (by rfl) sc_is_reason.nd (pi_tup (pe_ix ix_tup (pv 3) pe_int (fun _ _ => rfl))) (blkOk_by (own := [("one", 4)]) (N := n_is_reason) (sc := defScope s_is_reason) (by decide +kernel)) (fun _ _ _ _ _ => (pg_name (i := 4) sc_is_reason.nd rfl (Or.inl rfl))) (fun _ _ _ _ _ => pts_nil) (fun _ _ _ _ _ => (pe_cmpR op_le (pe_ix ix_tup (pe_ix ix_tup (pv 0) (pv 4) (fun _ _ => rfl)) pe_int (fun _ _ => rfl)) (pv 7) (nomark _)))) pa_nil))))))))), ?_⟩
    obtain ⟨as0, q1, q2, q3⟩ := O
    have O : OffT H ot os := ⟨as0, q1, q2, q3⟩
    have st : ∀ {H1 : Hp}, Same H H1 → OffT H1 ot os := fun e => O.mono fun a xs h => e _ _ h
    have r0 : ∀ {H1 : Hp} {σ : L2.St}, Same H H1 → σ[3]? = some (some (.ref rt)) → Ev (tOp (rIxT K) (tVar 3) (tC (.int 0))) σ H1 (.int (r.1 : Int)) := fun e h => ev_ixt (n := 0) (ev_var h) (st_of (e _ _ hrt)) ev_c rfl
    have r1 : ∀ {H1 : Hp} {σ : L2.St}, Same H H1 → σ[3]? = some (some (.ref rt)) → Ev (tOp (rIxT K) (tVar 3) (tC (.int 1))) σ H1 (.ref u) := fun e h => ev_ixt (n := 1) (ev_var h) (st_of (e _ _ hrt)) ev_c rfl
    refine ⟨fun σ' H' => σ' = [some (.ref ot), some (.ref kt), some (.int (r.1 : Int)), some (.ref rt), none, none, none, none] ∧ Same H H', s_if (b := false) ?_ (fun h => nomatch h) (fun _ H1 e1 => ⟨rfl, e1⟩), ?_⟩
    · refine et_or (a := false) (b := false) (et_not (a := true) (et_B (ev_isi (a := "tuple") (ev_var rfl) (fun H1 e => .base (.tup (e _ _ hrt))) (kit_ty (by decide +kernel))))) fun _ => ?_
      refine et_or (a := false) (b := false) (et_is (et_test (ev_op (ev_cb (ea_cons (ev_var rfl) ea_nil) (rc_lenT (st_of hrt))) ev_c (rv_ne rfl))) (by rfl)) fun _ => ?_
      refine et_or (a := false) (b := false) (et_not (a := true) (et_B (ev_f (ea_cons (r0 (Same.refl _) rfl) ea_nil) fun H2 e2 Q q => ⟨_, rfl, q⟩))) fun _ => ?_
      exact et_is (et_test (ev_op (r0 (Same.refl _) rfl) (ev_var rfl) (rv_ne rfl))) (by rw [decide_eq_true rfl]; rfl)
    rintro _ H1 ⟨rfl, e1⟩
    refine ⟨fun σ' H' => σ' = [some (.ref ot), some (.ref kt), some (.int (r.1 : Int)), some (.ref rt), none, none, none, none] ∧ Same H H', s_if (b := false) ?_ (fun h => nomatch h) (fun _ H2 e2 => ⟨rfl, Same.trans e1 e2⟩), ?_⟩
    · refine et_or (a := false) (b := false) (et_not (a := true) (et_B (ev_f (ea_cons (r1 e1 rfl) (ea_cons (x := .int (os.length : Int)) (ev_is (ev_cb (ea_cons (ev_var rfl) ea_nil) (rc_lenT (st_of (e1 _ _ q1)))) (by rw [List.length_map, q2])) ea_nil)) fun H2 e2 Q q => ⟨u, os.length, r.2, rfl, e2 _ _ (e1 _ _ hu), hl, hst.ends, q⟩))) fun _ => ?_
      refine et_not (a := true) (et_B (ev_cbL (el_allT (ys := r.2) (g := fun x : Nat => V.int (x : Int)) (fun _ => .bl true) (r1 e1 rfl) (st_of (e1 _ _ hu)) (by omega) (fun _ => rfl) (fun x hx H2 e2 => ?_)) (v := .bl true) fun pp H2 e2 hp => ?_))
      · refine ev_is (ev_inT (neg := false) (xs := vN ks) (ev_var rfl) (ev_var rfl) (st_of (e2 _ _ (e1 _ _ hkt))) rfl (flat_N _)) ?_
        rw [inV_N, decide_eq_true (hin x hx)]; rfl
      · have e := rc_allb (K := K) (H := H2) (p := pp) (ys := r.2) (f := fun _ => true) hp
        rw [show (r.2.all fun _ => true) = true by simp] at e
        exact e
    rintro _ H2 ⟨rfl, e2⟩
    obtain ⟨as, ad, g1, g2, g3⟩ := (st e2).at_ ho
    refine ev_here (ev_ixt (ev_var rfl) (st_of g1) (ev_var rfl) g2) fun H3 e3 => ?_
    refine ⟨ad, _, rfl, st_of (e3 _ _ g3), rfl, _, _, rfl, _, _, rfl, _, _, rfl, rfl, ?_⟩
    have e3 := Same.trans e2 e3
    refine s_ret (ev_is (ev_andV (a := true) (b := dear os r) (ev_f (ea_cons (ev_var rfl) (ea_cons (ev_var rfl) (ea_cons (ev_var rfl) (ea_cons (r1 e3 rfl) ea_nil)))) fun H4 e4 Q q => ⟨ot, u, a, b, os, r.2, rfl, st (Same.trans e3 e4), e4 _ _ (e3 _ _ hu), hst, hnd, hl, q⟩) fun _ => ev_cbL (el_allT (ys := r.2) (g := fun x : Nat => V.int (x : Int)) (fun x => .bl (decide (zAt os x ≤ zAt os r.1))) (r1 e3 rfl) (st_of (e3 _ _ hu)) (by omega) (fun _ => rfl) (fun x hx H4 e4 => ?_)) fun pp H4 e4 hp => rc_allb (f := fun x => decide (zAt os x ≤ zAt os r.1)) hp) (by rfl)) (fun H4 e4 => k H4 (Same.trans e3 e4))
    have hz : zAt os r.1 = z := by unfold zAt; rw [ho]; rfl
    exact ev_is (ev_op (ev_zt (st (Same.trans e3 e4)) (ev_var rfl) (ev_var rfl) (hst.ends x hx)) (ev_var rfl) rv_I0) (by rw [hz])
def restOf (os : List (Nat × Nat × Int)) (ks : List Nat) : List Nat := (List.range os.length).filter fun i => !decide (i ∈ ks)
def shown (os : List (Nat × Nat × Int)) (rows : List (Nat × List Nat)) : Bool := rows.all (dear os)
def ShowOk (n : Nat) (os : List (Nat × Nat × Int)) (ks : List Nat) (rows : List (Nat × List Nat)) : Prop := n ≤ 1000 ∧ os.length ≤ 1000 ∧ ks.length ≤ 1000 ∧ (∀ x ∈ ks, x < os.length) ∧ ks.Pairwise (· < ·) ∧ NoRing os (List.range n) ks ∧ rows.map (·.1) = restOf os ks ∧ ∀ r ∈ rows, ReasonOk os ks r
def sp_shows_lightest (K : PySem.W.Frag) : Sp := fun vs H Q _ => ∃ (n : Nat) (ot th kt pt : Addr) (os : List (Nat × Nat × Int)) (ks : List Nat) (rows : List (Nat × List Nat)), vs = [.int (n : Int), .ref ot, .ref th] ∧ OffT H ot os ∧ H th = some (.tup [.ref kt, .ref pt]) ∧ H kt = some (.tup (vN ks)) ∧ PaperAt H pt rows ∧ ShowOk n os ks rows ∧ ∀ H', Same H H' → Q (.bl (shown os rows)) H'
-- 0 many, 1 offers, 2 thing, 3 kept, 4 paper, 5 others, 6 number, 7 row
abbrev n_shows_lightest : List Str := ["many", "offers", "thing", "kept", "paper", "others", "number", "row"]
theorem sc_shows_lightest : FnScope n_shows_lightest ["many", "offers", "thing"] (defScope s_shows_lightest) := ⟨rfl, rfl, rfl, by decide +kernel, rfl, by decide +kernel, by decide +kernel⟩
theorem ok_shows_lightest (T : Txt w K mg) : Good P w K mg base 4 (He.ga K "shows_lightest") ["many", "offers", "thing"] (sp_shows_lightest K) := by
  refine good_mk T.D_shows_lightest sc_shows_lightest (fun _ _ _ _ _ _ us hl => match us, hl with | [_, _, _], _ => rfl) (fun vs H Q E h => ?_) (fun cdv A0 outer s H vs Q E hr h => ?_)
  · obtain ⟨n, ot, th, kt, pt, os, ks, rows, rfl, _⟩ := h
    rfl
  · obtain ⟨n, ot, th, kt, pt, os, ks, rows, rfl, O, hth, hkt, ⟨ts, hpt, hra⟩, ⟨hn, hol, hkl, hkin, hris, hnr, hrest, hrs⟩, k⟩ := h
    refine ⟨_, (pss_cut (ps_if (PW.pt (pw_or (pt_not (pt_val (pe_callB call_isi (by rfl) T.z_isinstance (by decide +kernel) (pa_cons (pv 2) (pa_cons (pe_bltn (v := .ty "tuple") (by rfl) T.z_tuple (by decide +kernel) rfl) pa_nil))))) (pw_or1 (pt_cmpR op_ne (pe_callB call_len_seq (by rfl) T.z_len PySem.boot_len (pa_cons (pv 2) pa_nil)) pe_int (nomark _))))) (pss_one (ps_ret pe_bl)) pss_nil)
      (pss_cons (ps_asg (pv 2) (pg_tup rfl (pgs_cons (pg_name (i := 3) sc_shows_lightest.nd rfl (Or.inr rfl)) (pgs_cons (pg_name (i := 4) sc_shows_lightest.nd rfl (Or.inl rfl)) pgs_nil))))
      (pss_cut (ps_if (PW.pt (pw_or (pt_not (pt_val (pe_f (ok_are_numbers T) (hr.mono (by decide)) T.g_are_numbers (pa_cons (pv 3) (pa_cons (pe_callB call_len_seq (by rfl) T.z_len PySem.boot_len (pa_cons (pv 1) pa_nil)) pa_nil))))) (pw_or (pt_not (pt_val (pe_f (ok_are_rising T) (hr.mono (by decide)) T.g_are_rising (pa_cons (pv 3) pa_nil)))) (pw_or1 (pt_val (pe_f (ok_have_ring T) (hr.mono (by decide)) T.g_have_ring (pa_cons (pv 0) (pa_cons (pv 1) (pa_cons (pv 3) pa_nil))))))))) (pss_one (ps_ret pe_bl)) pss_nil)
      (pss_cons (ps_setLc (i := 5) (own := [("number", 6)]) (g := gName 6) (tt := (tTest (tOp (rIn K true) (tVar 6) (tVar 3)))) (te := (tVar 6)) (by rfl) sc_shows_lightest.nd rfl rfl (sw_true rfl rfl rfl (by decide +kernel)) (pi_range1 rfl T.z_range (pa_cons (pe_callB call_len_seq (by rfl) T.z_len PySem.boot_len (pa_cons (pv 1) pa_nil)) pa_nil)) (blkOk_by (own := [("number", 6)]) (N := n_shows_lightest) (sc := defScope s_shows_lightest) (by decide +kernel)) (fun _ _ _ _ _ => (pg_name (i := 6) sc_shows_lightest.nd rfl (Or.inl rfl))) (fun _ _ _ _ _ => (pts_one (pt_cmpR op_notIn_seq (pv 6) (pv 3) rfl))) (fun _ _ _ _ _ => (pv 6)))
      (pss_cut (ps_if (PW.pt (pw_or (pt_not (pt_val (pe_callB call_isi (by rfl) T.z_isinstance (by decide +kernel) (pa_cons (pv 4) (pa_cons (pe_bltn (v := .ty "tuple") (by rfl) T.z_tuple (by decide +kernel) rfl) pa_nil))))) (pw_or1 (pt_cmpR op_ne (pe_callB call_len_seq (by rfl) T.z_len PySem.boot_len (pa_cons (pv 4) pa_nil)) (pe_callB call_len_seq (by rfl) T.z_len PySem.boot_len (pa_cons (pv 5) pa_nil)) (nomark _))))) (pss_one (ps_ret pe_bl)) pss_nil)
      (pss_one (ps_ret (pe_callB (cr_all rfl) (by rfl) T.z_all (by decide +kernel) (pa_cons (pe_lc (own := [("number", 6), ("row", 7)]) (g := gTup K 2 (gCons (gName 6) (gCons (gName 7) gNil))) (tt := tYes) (te := (tCall (sp_is_reason K) [] E0 (tCons (tVar 1) (tCons (tVar 3) (tCons (tVar 6) (tCons (tVar 7) tNil)))))) (by rfl) sc_shows_lightest.nd (pi_zipG rfl T.z_zip (pa_cons (pv 5) (pa_cons (pv 4) pa_nil))) (blkOk_by (own := [("number", 6), ("row", 7)]) (N := n_shows_lightest) (sc := defScope s_shows_lightest) (by decide +kernel)) (fun _ _ _ _ _ => (pg_tup rfl (pgs_cons (pg_name (i := 6) sc_shows_lightest.nd rfl (Or.inl rfl)) (pgs_cons (pg_name (i := 7) sc_shows_lightest.nd rfl (Or.inl rfl)) pgs_nil)))) (fun _ _ _ _ _ => pts_nil) (fun _ _ _ _ _ => (pe_f (ok_is_reason T) (hr.mono (by decide)) T.g_is_reason (pa_cons (pv 1) (pa_cons (pv 3) (pa_cons (pv 6) (pa_cons (pv 7) pa_nil))))))) pa_nil))))))))), ?_⟩
    obtain ⟨as0, q1, q2, q3⟩ := O
    have O : OffT H ot os := ⟨as0, q1, q2, q3⟩
    have st : ∀ {H1 : Hp}, Same H H1 → OffT H1 ot os := fun e => O.mono fun a xs h => e _ _ h
    refine ⟨fun σ' H' => σ' = [some (.int (n : Int)), some (.ref ot), some (.ref th), none, none, none, none, none] ∧ Same H H', s_if (b := false) ?_ (fun h => nomatch h) (fun _ H1 e1 => ⟨rfl, e1⟩), ?_⟩
    · refine et_or (a := false) (b := false) (et_not (a := true) (et_B (ev_isi (a := "tuple") (ev_var rfl) (fun H1 e => .base (.tup (e _ _ hth))) (kit_ty (by decide +kernel))))) fun _ => ?_
      exact et_is (et_test (ev_op (ev_cb (ea_cons (ev_var rfl) ea_nil) (rc_lenT (st_of hth))) ev_c (rv_ne rfl))) (by rfl)
    rintro _ H1 ⟨rfl, e1⟩
    refine ev_here (ev_var rfl) fun H2 e2 => ?_
    have e2 := Same.trans e1 e2
    refine ⟨th, _, rfl, st_of (e2 _ _ hth), rfl, _, _, rfl, _, _, rfl, rfl, ?_⟩
    have ln : ∀ {H3 : Hp} {σ : L2.St}, Same H H3 → σ[1]? = some (some (.ref ot)) → Ev (tCB (rLenS K) (tCons (tVar 1) tNil)) σ H3 (.int (os.length : Int)) := fun e h => ev_is (ev_cb (ea_cons (ev_var h) ea_nil) (rc_lenT (st_of (e _ _ q1)))) (by rw [List.length_map, q2])
    refine ⟨fun σ' H' => σ' = [some (.int (n : Int)), some (.ref ot), some (.ref th), some (.ref kt), some (.ref pt), none, none, none] ∧ Same H H', s_if (b := false) ?_ (fun h => nomatch h) (fun _ H3 e3 => ⟨rfl, Same.trans e2 e3⟩), ?_⟩
    · refine et_or (a := false) (b := false) (et_not (a := true) (et_B (ev_f (ea_cons (ev_var rfl) (ea_cons (ln e2 rfl) ea_nil)) fun H3 e3 Q q => ⟨kt, os.length, ks, rfl, e3 _ _ (e2 _ _ hkt), hkl, hkin, q⟩))) fun _ => ?_
      refine et_or (a := false) (b := false) (et_not (a := true) (et_B (ev_f (ea_cons (ev_var rfl) ea_nil) fun H3 e3 Q q => ⟨kt, ks, rfl, e3 _ _ (e2 _ _ hkt), hkl, hris, q⟩))) fun _ => ?_
      exact et_B (ev_f (ea_cons (ev_var rfl) (ea_cons (ev_var rfl) (ea_cons (ev_var rfl) ea_nil))) fun H3 e3 Q q => ⟨n, ot, kt, os, ks, rfl, hn, st (Same.trans e2 e3), e3 _ _ (e2 _ _ hkt), hnr, q⟩)
    rintro _ H3 ⟨rfl, e3⟩
    have eo := el_lcR1 (ta := tCons (tCB (rLenS K) (tCons (tVar 1) tNil)) tNil) (σ := [some (.int (n : Int)), some (.ref ot), some (.ref th), some (.ref kt), some (.ref pt), none, none, none]) (H := H3) (t := tTest (tOp (rIn K true) (tVar 6) (tVar 3))) (te := tVar 6) (j := 6) (vs := [6]) (n := (os.length : Int)) (fun i => !decide (i ∈ ks)) (fun i => .int (i : Int))
      (ea_cons (ln e3 rfl) ea_nil) ⟨by omega, by omega⟩ (fun _ => rfl) (fun i H4 e4 hi => et_test (ev_is (ev_inT (neg := true) (xs := vN ks) (ev_var rfl) (ev_var rfl) (st_of (e4 _ _ (e3 _ _ hkt))) rfl (flat_N _)) (by rw [inV_N]; rfl))) (fun i H4 e4 hi _ => ev_var rfl)
    have eo2 : given (os.length : Int).toNat (fun i => !decide (i ∈ ks)) (fun i => V.int (i : Int)) = vN (restOf os ks) := rfl
    rw [eo2, ← hrest] at eo
    refine q_asgL eo (fun ol H4 hol' e4 hl4 => ?_)
    have e4 := Same.trans e3 e4
    have hrl : rows.length ≤ 1000 := by
      have := congrArg List.length hrest
      rw [List.length_map] at this
      rw [this]
      unfold restOf
      exact Nat.le_trans (List.length_filter_le _ _) (by rw [List.length_range]; exact hol)
    refine ⟨fun σ' H' => σ' = [some (.int (n : Int)), some (.ref ot), some (.ref th), some (.ref kt), some (.ref pt), some (.ref ol), none, none] ∧ Same H4 H', s_if (b := false) ?_ (fun h => nomatch h) (fun _ H5 e5 => ⟨rfl, e5⟩), ?_⟩
    · refine et_or (a := false) (b := false) (et_not (a := true) (et_B (ev_isi (a := "tuple") (ev_var rfl) (fun H1 e => .base (.tup (e _ _ (e4 _ _ hpt)))) (kit_ty (by decide +kernel))))) fun _ => ?_
      refine et_is (et_test (ev_op (ev_cb (ea_cons (ev_var rfl) ea_nil) (rc_lenT (st_of (e4 _ _ hpt)))) (ev_len (ev_var rfl) (sq_of hl4)) (rv_ne rfl))) ?_
      rw [List.length_map, hra.1, len_N, List.length_map, decide_eq_true rfl]; rfl
    rintro _ H5 ⟨rfl, e5⟩
    have e45 := e5
    have e5 := Same.trans e4 e5
    -- the pairs, with the index
    have hz : (ts.zip rows).length = rows.length := by rw [List.length_zip, hra.1, Nat.min_self]
    have zp : ZPairs (.l ol (vN (rows.map (·.1)))) (.t pt (ts.map V.ref)) ((ts.zip rows).map fun q => ((V.int (q.2.1 : Int), V.ref q.1) : V × V)) := by
      refine ⟨?_, fun i r hr' => ?_, fun i r hr' => ?_⟩
      · rw [List.length_map, hz]
        show min (vN _).length (ts.map V.ref).length = _
        rw [len_N, List.length_map, List.length_map, hra.1, Nat.min_self]
      · rw [List.getElem?_map, Option.map_eq_some_iff] at hr'
        obtain ⟨q, hq, rfl⟩ := hr'
        obtain ⟨_, h1⟩ := List.getElem?_zip_eq_some.mp hq
        show (vN (rows.map (·.1)))[i]? = _
        unfold vN
        rw [List.getElem?_map, List.getElem?_map, h1]; rfl
      · rw [List.getElem?_map, Option.map_eq_some_iff] at hr'
        obtain ⟨q, hq, rfl⟩ := hr'
        obtain ⟨h1, _⟩ := List.getElem?_zip_eq_some.mp hq
        show (ts.map V.ref)[i]? = _
        rw [List.getElem?_map, h1]; rfl
    -- each pair's answer, read off its second
    have hinj : ∀ q ∈ ts.zip rows, ∃ u, H q.1 = some (.tup [.int (q.2.1 : Int), .ref u]) ∧ H u = some (.tup (vN q.2.2)) ∧ q.2 ∈ rows := fun q hq => by
      obtain ⟨i, hi, e⟩ := List.getElem_of_mem hq
      have h3 : (ts.zip rows)[i]? = some q := by rw [List.getElem?_eq_getElem hi, e]
      obtain ⟨a1, a2⟩ := List.getElem?_zip_eq_some.mp h3
      obtain ⟨u, g1, g2⟩ := hra.2 i _ _ a1 a2
      exact ⟨u, g1, g2, List.mem_of_getElem? a2⟩
    have hpick : ∀ q ∈ ts.zip rows, pickH (ts.zip rows) (fun q => ((V.int (q.2.1 : Int), V.ref q.1) : V × V)) (fun q => V.bl (dear os q.2)) (V.int (q.2.1 : Int), V.ref q.1) = V.bl (dear os q.2) := fun q hq => by
      refine pickH_at (f := fun q : Addr × (Nat × List Nat) => ((V.int (q.2.1 : Int), V.ref q.1) : V × V)) hq fun e he ef => ?_
      obtain ⟨u, g1, g2, _⟩ := hinj q hq
      obtain ⟨u', g1', g2', _⟩ := hinj e he
      injection ef with e1 e2
      injection e1 with e1
      injection e2 with e2
      rw [e2, g1] at g1'
      injection g1' with g1'
      injection g1' with g1'
      injection g1' with _ g1'
      injection g1' with g1' _
      injection g1' with g1'
      rw [← g1', g2] at g2'
      injection g2' with g2'
      injection g2' with g2'
      have h2 : q.2.2 = e.2.2 := (List.map_inj_right (fun x y h => by injection h with h; exact Int.ofNat.inj h)).mp g2'
      have h1 : e.2.1 = q.2.1 := Int.ofNat.inj e1
      show V.bl (dear os e.2) = V.bl (dear os q.2)
      unfold dear
      rw [h1, h2]
    refine s_ret (ev_cbL (el_zipAll (ps := (ts.zip rows).map fun q => ((V.int (q.2.1 : Int), V.ref q.1) : V × V)) (pickH (ts.zip rows) (fun q => ((V.int (q.2.1 : Int), V.ref q.1) : V × V)) (fun q => V.bl (dear os q.2))) (fun H6 e6 Q q => ⟨_, rfl, _, rfl, q (.l ol (vN (rows.map (·.1)))) (.t pt (ts.map V.ref)) H6 (Same.refl _) (sq_of (e6 _ _ (e45 _ _ hl4))) (st_of (e6 _ _ (e5 _ _ hpt))) zp⟩) (by rw [List.length_map, hz]; omega) (fun _ _ => rfl) (fun q hq H6 e6 => ?_)) (v := .bl (shown os rows)) (fun pp H6 e6 hp => ?_)) (fun H6 e6 => k H6 (Same.trans e5 e6))
    · obtain ⟨q', hq', rfl⟩ := List.mem_map.mp hq
      rw [hpick q' hq']
      obtain ⟨u, g1, g2, hm⟩ := hinj q' hq'
      exact ev_f (ea_cons (ev_var rfl) (ea_cons (ev_var rfl) (ea_cons (ev_var rfl) (ea_cons (ev_var rfl) ea_nil)))) fun H7 e7 Q qq => ⟨ot, kt, q'.1, u, os, ks, q'.2, rfl, st (Same.trans (Same.trans e5 e6) e7), e7 _ _ (e6 _ _ (e5 _ _ hkt)), e7 _ _ (e6 _ _ (e5 _ _ g1)), e7 _ _ (e6 _ _ (e5 _ _ g2)), hrs _ hm, qq⟩
    · rw [List.map_map] at hp
      have hp2 : H6 pp = some (.lst ((ts.zip rows).map fun q => V.bl (dear os q.2))) := by
        rw [hp]
        congr 2
        exact List.map_congr_left fun q hq => hpick q hq
      have e := rc_allb (K := K) hp2
      have e2 : ((ts.zip rows).all fun q => dear os q.2) = shown os rows := by
        unfold shown
        have h3 : (ts.zip rows).map (·.2) = rows := List.map_snd_zip (by rw [hra.1]; exact Nat.le_refl _)
        conv => rhs; rw [← h3, List.all_map]
        rfl
      rw [e2] at e
      exact e
end
end K73
end
section
set_option maxHeartbeats 4000000
namespace K73
open PySem PySem.Spec PyProof.Rows L2 Evl
/-! ### the law's own: mixed, take -/
def rIxLN (K : PySem.W.Frag) : R2 := fun x y H Q => ∃ (p : Addr) (xs : List V) (i : Nat) (v : V), x = .ref p ∧ y = .int (i : Int) ∧ SqL K H p xs ∧ xs[i]? = some v ∧ Q v H
theorem get_list {X : Cx} : PGet X (rIxLN X.K) := by
  intro pins s σ H o i ov iv Q I ro ri h
  obtain ⟨p, xs, k, z, rfl, rfl, hq, he, q⟩ := h
  cases ro
  obtain ⟨t, rfl⟩ := ri
  obtain ⟨its, r, pl, hz⟩ := I.list hq
  obtain ⟨w, ew, rw'⟩ := r.get he
  have hl := r.length
  have hn := line63
  have hk := (List.getElem?_eq_some_iff.mp he).1
  exact wpAny_getItem_list pl.isList (by omega) (by omega) (by rw [Int.toNat_natCast]; simpa using ew) ⟨z, H, I, rw', q⟩
theorem dp_ints {K : PySem.W.Frag} {H : Hp} (ns : List Int) : DpAll K H (ns.map V.int) (ns.map PyData.int) := by
  induction ns with
  | nil => exact .nil
  | cons n r ih => exact .cons (.int n) ih
theorem lay_ints (ns : List Int) : PyData.canLayAll0 (ns.map PyData.int) = true := by
  induction ns with
  | nil => rfl
  | cons n r ih => show (true && PyData.canLayAll0 (r.map PyData.int)) = true; rw [ih]; rfl
theorem dep_ints (ns : List Int) : PyData.depthAll (ns.map PyData.int) = 0 := by
  induction ns with
  | nil => rfl
  | cons n r ih => show max 0 (PyData.depthAll (r.map PyData.int)) = 0; rw [ih]; rfl
theorem shp_ints (ns : List Int) : SeqAt.shaped (.list (ns.map PyData.int)) = true := by
  unfold SeqAt.shaped
  rw [Bool.and_eq_true]
  exact ⟨lay_ints ns, by show decide (PyData.depthAll (ns.map PyData.int) + 1 ≤ 64) = true; rw [dep_ints]; rfl⟩
theorem ev_neNil {σ : L2.St} {H : Hp} {K : PySem.W.Frag} {ta : TE} {a : Addr} {ns : List Int} (h : Ev ta σ H (.ref a)) (hl : H a = some (.lst (ns.map V.int))) : Ev (tOp (rNeD K) ta (tLst tNil)) σ H (.bl (!ns.isEmpty)) := fun H1 e Q q =>
  h H1 e _ fun H2 e2 => el_lst ea_nil (by show 0 ≤ 100000; decide) H2 (Same.trans e e2) _ fun p H3 _ e3 h3 => by
    refine ⟨.list (ns.map PyData.int), .list [], .lst (SqL.of (e3 _ _ (e2 _ _ (e _ _ hl)))) (dp_ints ns), .lst (SqL.of h3) .nil, shp_ints ns, by decide, ?_⟩
    have e4 : PyData.eqv (.list (ns.map PyData.int)) (.list []) = ns.isEmpty := by cases ns <;> rfl
    rw [e4]
    exact q H3 (Same.trans e2 e3)
theorem cm_l {i j : Int} (h1 : 0 ≤ i) (h2 : i < 4294967296) : CMul i j := Or.inl ⟨by omega, by omega⟩
theorem md0 (i : Int) {j : Int} (h : 0 < j) : 0 ≤ i % j := Int.emod_nonneg _ (by omega)
theorem md1 (i : Int) {j : Int} (h : 0 < j) : i % j < j := Int.emod_lt_of_pos _ h
theorem cdw {i j : Int} (h : 0 < j) (h2 : j.natAbs < 2 ^ 64) : CDivW i j := wide_div h h2 (by decide) (by decide)
section
variable {P : Program} {w : World} {K : PySem.W.Frag} {mg : Str → Option Value} {base : Heap}
def sp__law_mixed (K : PySem.W.Frag) : Sp := fun vs H Q _ => ∃ c k : Int, vs = [.int c, .int k] ∧ 0 ≤ k ∧ k < 1000000 ∧ ∀ r H', Same H H' → Q (.int r) H'
-- 0 _law_cell, 1 _law_k, 2 _law_number, 3 _law_other
abbrev n__law_mixed : List Str := ["_law_cell", "_law_k", "_law_number", "_law_other"]
theorem sc__law_mixed : FnScope n__law_mixed ["_law_cell", "_law_k"] (defScope s__law_mixed) := ⟨rfl, rfl, rfl, by decide +kernel, rfl, by decide +kernel, by decide +kernel⟩
theorem ok__law_mixed (T : Txt w K mg) : Good P w K mg base 1 (He.ga K "_law_mixed") ["_law_cell", "_law_k"] (sp__law_mixed K) := by
  refine good_mk T.D__law_mixed sc__law_mixed (fun _ _ _ _ _ _ us hl => match us, hl with | [_, _], _ => rfl) (fun vs H Q E h => ?_) (fun cdv A0 outer s H vs Q E hr h => ?_)
  · obtain ⟨c, k, rfl, _⟩ := h
    rfl
  · obtain ⟨c, k, rfl, h0, h1, q⟩ := h
    refine ⟨_, (pss_cons (ps_set (i := 2) sc__law_mixed.nd rfl (Or.inl rfl) (pe_op op_mod (pe_op op_add (pe_op op_add (pe_op op_mul (pe_op op_mod (pv 0) pe_int) (pe_op op_add pe_int (pe_op op_mul (pe_op op_mul pe_int (pv 1)) (pv 1)))) (pe_op op_mul pe_int (pv 1))) pe_int) pe_int))
      (pss_cons (ps_set (i := 2) sc__law_mixed.nd rfl (Or.inl rfl) (pe_op op_fdivW (pe_op op_mod (pe_op op_mul (pv 2) (pv 2)) pe_int) pe_int))
      (pss_cons (ps_set (i := 3) sc__law_mixed.nd rfl (Or.inl rfl) (pe_op op_mod (pe_op op_add (pe_op op_add (pe_op op_mul (pv 2) pe_int) (pe_op op_mul pe_int (pv 1))) pe_int) pe_int))
      (pss_one (ps_ret (pe_op op_fdivW (pe_op op_mod (pe_op op_mul (pv 3) (pe_op op_add (pe_op op_mod (pv 2) pe_int) pe_int)) pe_int) pe_int)))))), ?_⟩
    refine q_asg (ev_op (ev_op (ev_op (ev_op (ev_op (ev_var rfl) ev_c (rv_I (i := c) (j := 2147483647) (by decide))) (ev_op ev_c (ev_op (ev_op ev_c (ev_var rfl) (rv_I (i := 2) (j := k) (cm_l (by decide) (by decide)))) (ev_var rfl) (rv_I (i := 2 * k) (j := k) (Or.inl ⟨by omega, by omega⟩))) rv_I0) (rv_I (cm_l (md0 _ (by decide)) (Int.lt_trans (md1 _ (by decide)) (by decide))))) (ev_op ev_c (ev_var rfl) (rv_I (cm_l (by decide) (by decide)))) rv_I0) ev_c rv_I0) ev_c (rv_I (show (0 : Int) < 2147483629 by decide))) (fun H1 e1 => ?_)
    generalize hm : ((c % 2147483647 * (48271 + 2 * k * k) + 7919 * k + 12345) : Int) = m1
    have m0 := md0 m1 (show (0 : Int) < 2147483629 by decide)
    have m2 := md1 m1 (show (0 : Int) < 2147483629 by decide)
    generalize m1 % 2147483629 = m at m0 m2
    refine q_asg (ev_op (ev_op (ev_op (ev_var rfl) (ev_var rfl) (rv_I (i := m) (j := m) (cm_l m0 (by omega)))) ev_c (rv_I (i := m * m) (j := 2147483587) (by decide))) ev_c (rv_I (j := 3) (cdw (by decide) (by decide)))) (fun H2 e2 => ?_)
    have n0 := md0 (m * m) (show (0 : Int) < 2147483587 by decide)
    have n1 := md1 (m * m) (show (0 : Int) < 2147483587 by decide)
    generalize m * m % 2147483587 = n' at n0 n1
    have n2 : 0 ≤ n' / 3 ∧ n' / 3 < 4294967296 := ⟨by omega, by omega⟩
    generalize n' / 3 = n at n2
    refine q_asg (ev_op (ev_op (ev_op (ev_op (ev_var rfl) ev_c (rv_I (i := n) (j := 69621) (cm_l n2.1 n2.2))) (ev_op ev_c (ev_var rfl) (rv_I (i := 16807) (j := k) (cm_l (by decide) (by decide)))) rv_I0) ev_c rv_I0) ev_c (rv_I (show (0 : Int) < 2147483579 by decide))) (fun H3 e3 => ?_)
    generalize n * 69621 + 16807 * k + 1 = o1
    have o0 := md0 o1 (show (0 : Int) < 2147483579 by decide)
    have o2 := md1 o1 (show (0 : Int) < 2147483579 by decide)
    generalize o1 % 2147483579 = o at o0 o2
    exact s_ret (ev_op (ev_op (ev_op (ev_var rfl) (ev_op (ev_op (ev_var rfl) ev_c (rv_I (i := n) (j := 65521) (by decide))) ev_c rv_I0) (rv_I (i := o) (cm_l o0 (by omega)))) ev_c (rv_I (j := 2147483563) (by decide))) ev_c (rv_I (j := 5) (cdw (by decide) (by decide)))) (fun H4 e4 => q _ H4 (Same.trans (Same.trans (Same.trans e1 e2) e3) e4))
theorem call_fA {σ : L2.St} {H : Hp} {t : TA} {sp : Sp} {vs : List V} {Q : VK} (hv : EvA t σ H vs) (q : ∀ H1, Same H H1 → sp vs H1 Q E0) : tCall sp [] E0 t σ H Q := hv H (Same.refl _) _ fun H1 e1 => by rw [List.append_nil]; exact q H1 e1
structure PotAt (H : Hp) (pa ca : Addr) (cells : List Int) (tot cnt : Int) : Prop where
  pot : H pa = some (.lst [.ref ca, .int tot, .int cnt])
  cel : H ca = some (.lst (cells.map V.int))
  ne : pa ≠ ca
def PotOk (H : Hp) (pa ca : Addr) (B : Nat) : Prop := ∃ (cells : List Int) (tot cnt : Int), PotAt H pa ca cells tot cnt ∧ 0 ≤ cnt ∧ cnt ≤ (B : Int)
def FrP (pa ca : Addr) (H H' : Hp) : Prop := ∀ a o, H a = some o → a ≠ pa → a ≠ ca → H' a = some o
theorem FrP.trans {pa ca : Addr} {H H1 H2 : Hp} (a : FrP pa ca H H1) (b : FrP pa ca H1 H2) : FrP pa ca H H2 := fun x o h n m => b x o (a x o h n m) n m
theorem FrP.ex {pa ca : Addr} {H H1 : Hp} (a : Same H H1) : FrP pa ca H H1 := fun x o h _ _ => a x o h
theorem PotAt.ex {H H' : Hp} {pa ca : Addr} {cells : List Int} {tot cnt : Int} (p : PotAt H pa ca cells tot cnt) (e : Same H H') : PotAt H' pa ca cells tot cnt := ⟨e _ _ p.pot, e _ _ p.cel, p.ne⟩
theorem PotOk.ex {H H' : Hp} {pa ca : Addr} {B : Nat} (p : PotOk H pa ca B) (e : Same H H') : PotOk H' pa ca B := by
  obtain ⟨c, t, n, h, q⟩ := p
  exact ⟨c, t, n, h.ex e, q⟩
def sp__law_take (K : PySem.W.Frag) : Sp := fun vs H Q _ => ∃ (pa ca : Addr) (m : Int) (B : Nat), vs = [.ref pa, .int m] ∧ 0 < m ∧ m ≤ 1000000000000000000 ∧ PotOk H pa ca B ∧ B < 900000 ∧ ∀ (d : Nat) H', (d : Int) < m → PotOk H' pa ca (B + 1) → FrP pa ca H H' → Q (.int (d : Int)) H'
-- 0 _law_pot_here, 1 _law_many, 2 _law_digit
abbrev n__law_take : List Str := ["_law_pot_here", "_law_many", "_law_digit"]
theorem sc__law_take : FnScope n__law_take ["_law_pot_here", "_law_many"] (defScope s__law_take) := ⟨rfl, rfl, rfl, by decide +kernel, rfl, by decide +kernel, by decide +kernel⟩
theorem ok__law_take (T : Txt w K mg) : Good P w K mg base 2 (He.ga K "_law_take") ["_law_pot_here", "_law_many"] (sp__law_take K) := by
  refine good_mk T.D__law_take sc__law_take (fun _ _ _ _ _ _ us hl => match us, hl with | [_, _], _ => rfl) (fun vs H Q E h => ?_) (fun cdv A0 outer s H vs Q E hr h => ?_)
  · obtain ⟨pa, ca, m, B, rfl, _⟩ := h
    rfl
  · obtain ⟨pa, ca, m, B, rfl, h0, h1, ⟨cells, tot, cnt, hp, hc0, hc1⟩, hB, k⟩ := h
    refine ⟨_, (pss_cons (ps_while PassesOwn.never (PW.pt (pw_and (pt_cmpR (op_neD hr.units) (pe_ix ix_list (pv 0) pe_int (fun _ _ => rfl)) (pe_lst pa_nil) (nomark _)) (pw_and1 (pt_cmpR op_eq (pe_ix ix_list (pe_ix ix_list (pv 0) pe_int (fun _ _ => rfl)) pe_int (fun _ _ => rfl)) pe_int (nomark _))))) (pss_one (ps_expr (pe_bm PySem.F.plainAttrs_list PySem.F.slot_list_pop PySem.F.type_list_pop mt_popAt (pe_ix ix_list (pv 0) pe_int (fun _ _ => rfl)) (pa_cons pe_int pa_nil)))))
      (pss_cut (ps_if (pt_cmpR (op_neD hr.units) (pe_ix ix_list (pv 0) pe_int (fun _ _ => rfl)) (pe_lst pa_nil) (nomark _)) (pss_cons (ps_set (i := 2) sc__law_take.nd rfl (Or.inl rfl) (pe_op op_mod (pe_ix ix_list (pe_ix ix_list (pv 0) pe_int (fun _ _ => rfl)) pe_int (fun _ _ => rfl)) (pv 1)))
        (pss_cons (ps_asg (pe_op op_fdivW (pe_ix ix_list (pe_ix ix_list (pv 0) pe_int (fun _ _ => rfl)) pe_int (fun _ _ => rfl)) (pv 1)) (pg_sub (pe_ix ix_list (pv 0) pe_int (fun _ _ => rfl)) pe_int set_list))
        (pss_one (ps_ret (pv 2))))) pss_nil)
      (pss_cons (ps_augS (pv 0) pe_int get_list pe_int ip_add set_list)
      (pss_one (ps_ret (pe_op op_mod (pe_f (ok__law_mixed T) (hr.mono (by decide)) T.g__law_mixed (pa_cons (pe_op op_add (pe_ix ix_list (pv 0) pe_int (fun _ _ => rfl)) (pe_op op_mul pe_int (pe_ix ix_list (pv 0) pe_int (fun _ _ => rfl)))) (pa_cons (pe_ix ix_list (pv 0) pe_int (fun _ _ => rfl)) pa_nil))) (pv 1))))))), ?_⟩
    have rd0 : ∀ {H' : Hp} {σ : L2.St} {cells : List Int} {tot cnt : Int}, PotAt H' pa ca cells tot cnt → σ[0]? = some (some (.ref pa)) → Ev (tOp (rIxL K) (tVar 0) (tC (.int 0))) σ H' (.ref ca) := fun p h => ev_ixl (n := 0) (ev_var h) p.pot ev_c rfl
    have rd00 : ∀ {H' : Hp} {σ : L2.St} {z : Int} {cells : List Int} {tot cnt : Int}, PotAt H' pa ca (z :: cells) tot cnt → σ[0]? = some (some (.ref pa)) → Ev (tOp (rIxL K) (tOp (rIxL K) (tVar 0) (tC (.int 0))) (tC (.int 0))) σ H' (.int z) := fun p h => ev_ixl (n := 0) (rd0 p h) p.cel ev_c rfl
    refine q_while (fun mm σ' H' => ∃ cells : List Int, σ' = [some (.ref pa), some (.int m), none] ∧ PotAt H' pa ca cells tot cnt ∧ cells.length = mm ∧ FrP pa ca H H') cells.length ⟨cells, rfl, hp, rfl, fun _ _ h _ _ => h⟩ ?_
    rintro mm _ H1 ⟨cs, rfl, p1, hl1, F1⟩
    refine ⟨!cs.isEmpty && (match cs with | [] => false | z :: _ => decide (z = 0)), ?_, fun hb H2 e2 => ?_, fun hb H2 e2 => ?_⟩
    · refine et_and (et_test (ev_neNil (rd0 p1 rfl) p1.cel)) fun h => ?_
      cases cs with
      | nil => cases h
      | cons z r =>
        refine et_is (et_test (ev_op (rd00 p1 rfl) ev_c (rv_eq rfl))) ?_
        rw [Bool.eq_iff_iff, decide_eq_true_iff, decide_eq_true_iff]
        exact ⟨fun q => by injection q, fun q => by rw [q]⟩
    · cases cs with
      | nil => cases hb
      | cons z r =>
        have p2 := p1.ex e2
        refine ⟨fun σ' H' => ∃ m', m' < mm ∧ ∃ cells : List Int, σ' = [some (.ref pa), some (.int m), none] ∧ PotAt H' pa ca cells tot cnt ∧ cells.length = m' ∧ FrP pa ca H H', fun _ _ h => h, ?_⟩
        refine (rd0 (σ := [some (.ref pa), some (.int m), none]) p2 rfl) H2 (Same.refl _) _ fun H3 e3 => ?_
        have p3 := p2.ex e3
        refine ⟨.inl ⟨rfl, _, SqL.of p3.cel⟩, ca, _, 0, 0, .int z, rfl, rfl, p3.cel, by decide, by decide, seqIndex_of (by decide) (by rw [List.length_map, List.length_cons]; omega), rfl, ?_⟩
        refine ⟨r.length, by rw [← hl1]; exact Nat.lt_succ_self _, r, rfl, ⟨by rw [upd_ne p3.ne]; exact p3.pot, by rw [upd_same]; rfl, p3.ne⟩, rfl, fun a o ha n1 n2 => ?_⟩
        rw [upd_ne n2]
        exact e3 _ _ (e2 _ _ (F1 a o ha n1 n2))
    · have p2 := p1.ex e2
      have F2 : FrP pa ca H H2 := F1.trans (FrP.ex e2)
      refine ⟨fun σ' H' => σ' = [some (.ref pa), some (.int m), none] ∧ Same H2 H', s_if (b := !cs.isEmpty) (et_test (ev_neNil (rd0 p2 rfl) p2.cel)) (fun h H3 e3 => ?_) (fun _ H3 e3 => ⟨rfl, e3⟩), ?_⟩
      · cases cs with
        | nil => cases h
        | cons z r =>
          have p3 := p2.ex e3
          have n0 := md0 z h0
          have n1 := md1 z h0
          refine q_asg (ev_op (rd00 p3 rfl) (ev_var rfl) (rv_I h0)) (fun H4 e4 => ?_)
          have p4 := p3.ex e4
          have n2 : ((z % m).toNat : Int) = z % m := Int.toNat_of_nonneg n0
          generalize z % m = d at n0 n1 n2
          refine q_setL (l := ca) (xs := (z :: r).map V.int) (j := 0) p4.cel (ev_op (rd00 p4 rfl) (ev_var rfl) (rv_I (cdw h0 (by omega)))) (rd0 p4 rfl) ev_c (by rw [List.length_map, List.length_cons]; omega) (fun H5 e5 => ?_)
          have p5 := p4.ex e5
          have F5 : FrP pa ca H H5 := ((F2.trans (FrP.ex e3)).trans (FrP.ex e4)).trans (FrP.ex e5)
          refine s_ret (ev_var rfl) (fun H6 e6 => ?_)
          rw [← n2]
          refine k d.toNat H6 (by omega) (PotOk.ex (H := upd H5 ca (.lst (((z :: r).map V.int).set 0 (.int (z / m))))) ⟨(z / m) :: r, tot, cnt, ⟨by rw [upd_ne p5.ne]; exact p5.pot, by rw [upd_same]; rfl, p5.ne⟩, hc0, by omega⟩ e6) (fun a o ha g1 g2 => e6 _ _ (by rw [upd_ne g2]; exact F5 a o ha g1 g2))
      · rintro _ H3 ⟨rfl, e3⟩
        have p3 := p2.ex e3
        have F3 : FrP pa ca H H3 := F2.trans (FrP.ex e3)
        refine ⟨_, rfl, ⟨pa, _, 2, .int cnt, rfl, rfl, SqL.of p3.pot, rfl, cnt, 1, rfl, rfl, pa, _, 2, 2, rfl, rfl, p3.pot, rfl, ?_⟩⟩
        have p4 : PotAt (upd H3 pa (.lst [.ref ca, .int tot, .int (cnt + 1)])) pa ca cs tot (cnt + 1) := ⟨upd_same, by rw [upd_ne p3.ne.symm]; exact p3.cel, p3.ne⟩
        have F4 : FrP pa ca H (upd H3 pa (.lst [.ref ca, .int tot, .int (cnt + 1)])) := fun a o ha g1 g2 => by rw [upd_ne g1]; exact F3 a o ha g1 g2
        have hset : upd H3 pa (HO.lst ([V.ref ca, V.int tot, V.int cnt].set 2 (V.int ((fun i j => i + j) cnt 1)))) = upd H3 pa (.lst [.ref ca, .int tot, .int (cnt + 1)]) := rfl
        rw [hset]
        dsimp only
        generalize upd H3 pa (.lst [.ref ca, .int tot, .int (cnt + 1)]) = H4 at p4 F4
        have rd1 : ∀ {H5 : Hp}, Same H4 H5 → Ev (tOp (rIxL K) (tVar 0) (tC (.int 1))) [some (.ref pa), some (.int m), none] H5 (.int tot) := fun e => ev_ixl (n := 1) (ev_var rfl) (p4.ex e).pot ev_c rfl
        have rd2 : ∀ {H5 : Hp}, Same H4 H5 → Ev (tOp (rIxL K) (tVar 0) (tC (.int 2))) [some (.ref pa), some (.int m), none] H5 (.int (cnt + 1)) := fun e => ev_ixl (n := 2) (ev_var rfl) (p4.ex e).pot ev_c rfl
        have hv : EvA (tCons (tOp (rI0 fun i j => .int (i + j)) (tOp (rIxL K) (tVar 0) (tC (.int 1))) (tOp (rI CMul fun i j => .int (i * j)) (tC (.int 104729)) (tOp (rIxL K) (tVar 0) (tC (.int 2))))) (tCons (tOp (rIxL K) (tVar 0) (tC (.int 2))) tNil)) [some (.ref pa), some (.int m), none] H4 [.int (tot + 104729 * (cnt + 1)), .int (cnt + 1)] :=
          ea_cons (ev_op (rd1 (Same.refl _)) (ev_op ev_c (rd2 (Same.refl _)) (rv_I (i := 104729) (cm_l (by decide) (by decide)))) rv_I0) (ea_cons (rd2 (Same.refl _)) ea_nil)
        refine call_fA hv fun H5 e5 => ?_
        refine ⟨_, cnt + 1, rfl, by omega, by omega, fun r H6 e6 => ?_⟩
        refine ⟨_, rfl, r, m, rfl, rfl, h0, ?_⟩
        have n0 := md0 r h0
        have n1 := md1 r h0
        have n2 : ((r % m).toNat : Int) = r % m := Int.toNat_of_nonneg n0
        show Q (.int (r % m)) H6
        rw [← n2]
        exact k (r % m).toNat H6 (by omega) ⟨cs, tot, cnt + 1, (p4.ex e5).ex e6, by omega, by omega⟩ ((F4.trans (FrP.ex e5)).trans (FrP.ex e6))
end
end K73
end
section
set_option maxHeartbeats 4000000
namespace K73
open PySem PySem.Spec PyProof.Rows L2 Evl
/-! ### the law's own: pot -/
abbrev rAbs : List V → Hp → VK → Prop := fun xs H Q => ∃ i, xs = [.int i] ∧ Q (.int (if i < 0 then -i else i)) H
theorem el_mapNL {α : Type} {σ : L2.St} {H : Hp} {K : PySem.W.Frag} {tl te : TE} {t : TT} {j : Nat} {vs : List Nat} {ys : List α} {g : α → V} (p : α → Bool) (h : α → V) (hl : EvL tl σ H (ys.map g)) (hz : ys.length ≤ 40000) (hw : ∀ x, wipe ((wipe σ vs).set j (some x)) vs = wipe σ vs)
    (ht : ∀ y ∈ ys, ∀ H1, Same H H1 → EvT t ((wipe σ vs).set j (some (g y))) H1 (p y)) (he : ∀ y ∈ ys, p y = true → ∀ H1, Same H H1 → Ev te ((wipe σ vs).set j (some (g y))) H1 (h y)) : EvL (tLc (iList K tl) (gName j) t te vs) σ H ((ys.filter p).map h) := by
  have e := el_lcNL (K := K) (t := t) (te := te) (j := j) (vs := vs) (fun i => (ys[i]?).elim false p) (fun i => (ys[i]?).elim .non h) hl (by rw [List.length_map]; exact hz) hw (fun i x H1 e hi => by
      rw [List.getElem?_map] at hi
      cases q : ys[i]? with
      | none => rw [q] at hi; cases hi
      | some y =>
        rw [q] at hi
        cases hi
        exact ht y (List.mem_of_getElem? q) H1 e) (fun i x H1 e hi hf => by
      rw [List.getElem?_map] at hi
      cases q : ys[i]? with
      | none => rw [q] at hi; cases hi
      | some y =>
        rw [q] at hi hf
        cases hi
        exact he y (List.mem_of_getElem? q) hf H1 e)
  rw [List.length_map, given_map p h ys.length (Nat.le_refl _), List.take_length] at e
  exact e
theorem s_retLst3 {σ : L2.St} {H : Hp} {tl tb tc : TE} {D : Ends} {xs : List V} {x y : V} (h : EvL tl σ H xs) (h1 : Ev tb σ H x) (h2 : Ev tc σ H y) (k : ∀ ca pa H1, H ca = none → H pa = none → pa ≠ ca → Same H H1 → H1 ca = some (.lst xs) → H1 pa = some (.lst [.ref ca, x, y]) → D.rt (.ref pa) H1) : tRet (tLst (tCons tl (tCons tb (tCons tc tNil)))) D σ H :=
  h H (Same.refl _) _ fun ca H1 hca e1 g1 => h1 H1 e1 _ fun H2 e2 => h2 H2 (Same.trans e1 e2) _ fun H3 e3 => ⟨by show 3 ≤ sizeLine; decide, fun pa hpa => by
    have e : Same H H3 := Same.trans (Same.trans e1 e2) e3
    have g3 := e3 _ _ (e2 _ _ g1)
    have hne : pa ≠ ca := fun q => by subst q; rw [g3] at hpa; cases hpa
    exact k ca pa _ hca (by
      cases q : H pa with
      | none => rfl
      | some o => rw [e _ _ q] at hpa; cases hpa) hne (Same.trans e (same_new hpa)) (same_new hpa _ _ g3) upd_same⟩
def absI (i : Int) : Int := if i < 0 then -i else i
theorem ev_abs {σ : L2.St} {H : Hp} {te : TE} {i : Int} (h : Ev te σ H (.int i)) : Ev (tCB rAbs (tCons te tNil)) σ H (.int (absI i)) := ev_cb (ea_cons h ea_nil) fun H1 _ Q q => ⟨i, rfl, q H1 (Ex.refl _)⟩
section
variable {P : Program} {w : World} {K : PySem.W.Frag} {mg : Str → Option Value} {base : Heap}
def sp__law_pot (K : PySem.W.Frag) : Sp := fun vs H Q _ => ∃ (a : Addr) (ns : List Int), vs = [.ref a] ∧ SqL K H a (ns.map V.int) ∧ ns.length ≤ 1000 ∧ ∀ pa ca H', PotOk H' pa ca 0 → Same H H' → H pa = none → H ca = none → Q (.ref pa) H'
-- 0 _law_script, 1 _law_total, 2 _law_k, 3 _law_cell
abbrev n__law_pot : List Str := ["_law_script", "_law_total", "_law_k", "_law_cell"]
theorem sc__law_pot : FnScope n__law_pot ["_law_script"] (defScope s__law_pot) := ⟨rfl, rfl, rfl, by decide +kernel, rfl, by decide +kernel, by decide +kernel⟩
theorem ok__law_pot (T : Txt w K mg) : Good P w K mg base 1 (He.ga K "_law_pot") ["_law_script"] (sp__law_pot K) := by
  refine good_mk T.D__law_pot sc__law_pot (fun _ _ _ _ _ _ us hl => match us, hl with | [_], _ => rfl) (fun vs H Q E h => ?_) (fun cdv A0 outer s H vs Q E hr h => ?_)
  · obtain ⟨a, ns, rfl, _⟩ := h
    rfl
  · obtain ⟨a, ns, rfl, ha, hl, k⟩ := h
    refine ⟨_, (pss_cons (ps_set (i := 1) sc__law_pot.nd rfl (Or.inl rfl) pe_int)
      (pss_cons (ps_for PassesOwn.never rfl (pi_enum rfl T.z_enumerate (pa_cons (pe_slice sl_list (pv 0) po_none (po_some pe_int)) pa_nil)) (pg_tup rfl (pgs_cons (pg_name (i := 2) sc__law_pot.nd rfl (Or.inl rfl)) (pgs_cons (pg_name (i := 3) sc__law_pot.nd rfl (Or.inl rfl)) pgs_nil))) (pss_one (ps_set (i := 1) sc__law_pot.nd rfl (Or.inl rfl) (pe_op op_mod (pe_op op_add (pe_op op_add (pe_op op_add (pe_op op_mul (pv 1) pe_int) (pv 3)) (pe_op op_mul pe_int (pv 2))) pe_int) (pe_op op_add (pe_op op_pow pe_int pe_int) pe_int)))))
      (pss_one (ps_ret (pe_lst (pa_cons (pe_lc (own := [("_law_cell", 3)]) (g := gName 3) (tt := _) (te := (tCB rAbs (tCons (tVar 3) tNil))) (by rfl) sc__law_pot.nd (pi_list (pe_slice sl_list (pv 0) po_none (po_some pe_int))) (blkOk_by (own := [("_law_cell", 3)]) (N := n__law_pot) (sc := defScope s__law_pot) (by decide +kernel)) (fun _ _ _ _ _ => (pg_name (i := 3) sc__law_pot.nd rfl (Or.inl rfl))) (fun _ _ _ _ _ => (pts_one (pt_cmpR op_ge (pe_callB call_abs (by rfl) T.z_abs (by decide +kernel) (pa_cons (pv 3) pa_nil)) (pe_op op_pow pe_int pe_int) (nomark _)))) (fun _ _ _ _ _ => (pe_callB call_abs (by rfl) T.z_abs (by decide +kernel) (pa_cons (pv 3) pa_nil)))) (pa_cons (pv 1) (pa_cons pe_int pa_nil)))))))), ?_⟩
    have hcut : cutV (ns.map V.int) none (some 63) = (ns.take 63).map V.int := by
      unfold cutV
      rw [HT.sIx_none, List.drop_zero, Nat.sub_zero, show HT.sIx (ns.map V.int).length (ns.map V.int).length (some 63) = min 63 (ns.map V.int).length from HT.sIx_nat _ _ 63, List.length_map, ← List.map_take]
      by_cases q : 63 ≤ ns.length
      · rw [Nat.min_eq_left q]
      · rw [Nat.min_eq_right (by omega), List.take_of_length_le (Nat.le_refl _), List.take_of_length_le (by omega)]
    have hsl : ∀ {H1 : Hp} {σ : L2.St}, Same H H1 → σ[0]? = some (some (.ref a)) → EvL (tSl (rSlL K) (tVar 0) tNoPart (tPart (tC (.int 63)))) σ H1 ((ns.take 63).map V.int) := fun e h => by
      rw [← hcut]
      exact el_sl (ev_var h) eo_none (eo_some ev_c) (ex_l e ha)
    have hl63 : (ns.take 63).length ≤ 63 := by rw [List.length_take]; omega
    refine q_asg ev_c (fun H1 e1 => ?_)
    refine hsl (σ := [some (.ref a), some (.int 0), none, none]) e1 rfl H1 (Same.refl _) _ fun sl H2 hsl0 e2 h2 => ?_
    have e2 := Same.trans e1 e2
    refine ⟨sl, _, rfl, SqL.of h2, for_it walk_enum (fun i σ' H' => ∃ (t : Int) (v2 v3 : Option V), σ' = [some (.ref a), some (.int t), v2, v3] ∧ 0 ≤ t ∧ t < 1000000000000000009 ∧ Same H2 H') ⟨0, _, _, rfl, by decide, by decide, Same.refl _⟩ (fun i σ' H' _ ⟨_, _, _, _, _, _, e⟩ => SqL.of (e _ _ h2)) (fun i x σ' H' H'' hi ⟨t, v2, v3, es, t0, t1, e⟩ hy => ?_) (fun σ' H' ⟨t, v2, v3, es, t0, t1, e⟩ => ?_)⟩
    · subst es
      obtain ⟨tp, x1, x2, rfl, htp, rfl, hx1, hx2⟩ := hy
      have hx1' : x1 = .int (i : Int) := (Option.some.inj hx1).symm
      subst hx1'
      dsimp only at hx2
      rw [List.getElem?_map, Option.map_eq_some_iff] at hx2
      obtain ⟨z, hz, rfl⟩ := hx2
      refine ⟨tp, _, rfl, SqT.of upd_same, rfl, _, _, rfl, _, _, rfl, rfl, ?_⟩
      have e3 : Same H' (upd H' tp (.tup [V.int (i : Int), V.int z])) := same_new htp
      refine s_asg (ev_op (ev_op (ev_op (ev_op (ev_op (ev_var rfl) ev_c (rv_I (i := t) (j := 1000003) (Or.inl ⟨by omega, by omega⟩))) (ev_var rfl) rv_I0) (ev_op ev_c (ev_var rfl) (rv_I (i := 31) (cm_l (by decide) (by decide)))) rv_I0) ev_c rv_I0) (z := .int ((t * 1000003 + z + 31 * (i : Int) + 7) % 1000000000000000009)) (y := .int 1000000000000000009) (ev_is (ev_op (ev_op ev_c ev_c (rv_I (i := 10) (j := 18) ⟨by decide, by decide, by decide⟩)) ev_c rv_I0) (by decide)) (rv_I (by decide))) (fun H4 e4 => ?_)
      exact ⟨_, _, _, rfl, md0 _ (by decide), md1 _ (by decide), Same.trans (Same.trans e e3) e4⟩
    · subst es
      have e3 := Same.trans e2 e
      have el := el_mapNL (K := K) (σ := [some (.ref a), some (.int t), v2, v3]) (te := tCB rAbs (tCons (tVar 3) tNil)) (t := tTest (tOp (rI0 fun i j => .bl (decide (j ≤ i))) (tCB rAbs (tCons (tVar 3) tNil)) (tOp (rI CPow fun i j => .int (i ^ j.toNat)) (tC (.int 10)) (tC (.int 18))))) (j := 3) (vs := [3]) (ys := ns.take 63) (g := V.int) (fun z => decide ((10 : Int) ^ (18 : Int).toNat ≤ absI z)) (fun z => .int (absI z))
        (hsl e3 rfl) (by omega) (fun _ => rfl) (fun z _ H4 e4 => et_test (ev_op (ev_abs (ev_var rfl)) (ev_op ev_c ev_c (rv_I ⟨by decide, by decide, by decide⟩)) rv_I0)) (fun z _ _ H4 e4 => ev_abs (ev_var rfl))
      have n0 : ∀ {x : Addr}, H' x = none → H x = none := fun {x} hx => by
        cases q : H x with
        | none => rfl
        | some o => rw [e3 _ _ q] at hx; cases hx
      exact s_retLst3 el (ev_var rfl) ev_c fun ca pa H4 hca hpa hne e4 h4 h5 => k pa ca _ ⟨((ns.take 63).filter fun z => decide ((10 : Int) ^ (18 : Int).toNat ≤ absI z)).map absI, t, 0, ⟨h5, by rw [h4, List.map_map]; rfl, hne⟩, by decide, by decide⟩ (Same.trans e3 e4) (n0 hpa) (n0 hca)
end
end K73
end
section
set_option maxHeartbeats 4000000
namespace HT
open PySem PySem.Spec PyProof.Rows
section
variable {prog : Program} {w : World} {A : Around} {E : Value → Shared → Prop} {s : Shared}
theorem sliceApplied_rev2 {sl : Addr} {t : Tok} {Q : Int × Int × Nat → Shared → Prop} (hs : s.heap.IsSliceOf sl .none .none (.int (-1) t)) (h : Q (1, -1, 2) s) : wpAny (model prog w) A (Builtin.Slice.sliceApplied (.ref sl) (pure (2 : Int))) Q E s := by
  obtain ⟨os, hos, hcs, hds⟩ := id hs
  unfold Builtin.Slice.sliceApplied Builtin.Slice.sliceFields
  refine wpAny_bind (wpAny_bind (wpAny_field hos hds (x := .none) rfl (wpAny_bind (wpAny_field hos hds (x := .none) rfl (wpAny_bind (wpAny_field hos hds (x := .int (-1) t) rfl (wpAny_pure ?_)))))))
  refine wpAny_bind (slicePart_int ?_)
  show wpAny _ _ (if ((-1 : Int) == 0) = true then _ else _) _ _ s
  rw [if_neg (by decide)]
  refine wpAny_bind (slicePart_none (wpAny_bind (slicePart_none (wpAny_bind (wpAny_pure ?_)))))
  exact wpAny_pure h
theorem getItem_tuple_rev2 {t sl : Addr} {x y : Value} {tk : Tok} {Q : Value → Shared → Prop} (ht : IsTup s.heap t #[x, y]) (hs : s.heap.IsSliceOf sl .none .none (.int (-1) tk))
    (h : Q (.ref s.heap.objs.size) { s with heap := s.heap.push { cls := .type "tuple", data := .seq #[y, x] } }) : wpAny (model prog w) A (getItem (.ref t) (.ref sl)) Q E s := by
  have htake : sizeOk (.seq #[y, x]) := by show 2 ≤ sizeLine; decide
  obtain ⟨os, hos, hcs, hds⟩ := id hs
  have hTs : s.TypeIs (.ref sl) "slice" := ⟨os, hos, hcs⟩
  unfold getItem
  try with_reducible refine wpAny_holding ?_
  first | refine wpAny_bind (wpAny_pure ?_) | skip
  refine wpAny_bind (wpAny_sequenceKey ht.typeIs (by decide) ?_)
  refine wpAny_bind (wpAny_callSpecial?_slot (name := Str.ofString "__getitem__") ht.typeIs PyProof.Rows.slot_tuple_getitem
    (wpAny_call_entry PyProof.Rows.slot_tuple_getitem ht.typeIs entry_tuple_getitem ?_ (args_tuple_getitem _ _)))
  show wpAny _ _ (Builtin.Tuple.tupleItemsOf (.ref t) >>= _) _ _ s
  refine wpAny_bind (tupleItemsOf_ ht ?_)
  refine wpAny_bind (wpAny_typeOf hTs ?_)
  rw [if_pos (by decide)]
  refine wpAny_bind (sliceApplied_rev2 hs ?_)
  show wpAny _ _ (if (((1 : Int)) == 0 && (-1 : Int) == 1 && (2 : Nat) == 2) = true then _ else _) _ _ s
  rw [if_neg (by decide)]
  first
    | exact wpAny_bind (m := Builtin.Tuple.tupleExact _) (wpAny_newObj_type (wpAny_pure ⟨_, rfl, wpAny_pure h⟩) htake)
    | exact wpAny_bind (m := Builtin.Tuple.tupleExact _) (wpAny_newObj_type (wpAny_bind (wpAny_pure (wpAny_pure ⟨_, rfl, wpAny_pure h⟩))) htake)
    | exact wpAny_bind (wpAny_bind (m := Builtin.Tuple.tupleExact _) (wpAny_newObj_type (wpAny_pure (wpAny_pure ⟨_, rfl, wpAny_pure h⟩)) htake))
    | exact wpAny_bind (wpAny_bind (m := Builtin.Tuple.tupleExact _) (wpAny_newObj_type (wpAny_pure ⟨_, rfl, wpAny_pure h⟩) htake))
end
end HT
namespace K73
open PySem PySem.Spec PyProof.Rows L2 Evl
/-! ### the law's own: offers -/
def tRev2 (K : PySem.W.Frag) (te : TE) : TE := fun σ H Q => te σ H fun x H1 => ∃ a y z, x = .ref a ∧ SqT K H1 a [y, z] ∧ ∀ p, H1 p = none → Q (.ref p) (upd H1 p (.tup [z, y]))
theorem pe_rev2 {X : Cx} {e : Expr} {te : TE} {k : Nat} {p1 p2 p3 pos : Pos} (he : PE X e te) : PE X (.Subscript e (.Slice none none (some (.UnaryOp .USub (.Constant (.int 1) k p1) p2)) p3) pos) (tRev2 X.K te) := by
  refine ⟨fun pins s σ H Q I h => ?_⟩
  refine Subscript_ (thn (he.run pins s σ H _ I h) fun v s1 ⟨x, H1, I1, r1, q1⟩ => ?_)
  obtain ⟨a, y, z, ex, hx, q⟩ := q1
  subst ex
  cases r1
  have hst : PO X (some (.UnaryOp .USub (.Constant (.int 1) k p1) p2)) (tPart (tUn (rU fun i => .int (-i)) (tC (.int 1)))) := po_some (pe_un un_neg pe_int)
  refine wpAny_Slice (thn (po_none.run pins s1 σ H1 (fun o H2 => o = none ∧ H2 = H1) I1 ⟨rfl, rfl⟩) fun vl s2 ⟨l, H2, I2, pl, el, e2⟩ => ?_)
  subst el e2
  refine thn (po_none.run pins s2 σ H2 (fun o H3 => o = none ∧ H3 = H2) I2 ⟨rfl, rfl⟩) fun vu s3 ⟨u, H3, I3, pu, eu, e3⟩ => ?_
  subst eu e3
  refine thn (hst.run pins s3 σ H3 (fun o H4 => o = some (-1) ∧ H4 = H3) I3 ⟨1, rfl, -1, rfl, rfl, rfl⟩) fun vs s4 ⟨o, H4, I4, ps, eo, e4⟩ => ?_
  subst eo e4
  cases pl
  cases pu
  obtain ⟨tk, rfl⟩ : ∃ tk, vs = .int (-1) tk := by cases ps; exact ⟨_, rfl⟩
  have I5 : Inv X pins σ H4 { s4 with heap := s4.heap.push { cls := .type "slice", data := .fields #[.none, .none, .int (-1) tk] } } := I4.kept (t' := s4.toks) fun b ob q => Heap.get?_push_of_some _ q
  obtain ⟨its, r, ht, hz⟩ := I5.tuple hx
  obtain ⟨u1, u2, eu, r1, r2⟩ : ∃ u1 u2, its = [u1, u2] ∧ RelV y u1 ∧ RelV z u2 := by
    cases r with
    | cons p q =>
      cases q with
      | cons p' q' => cases q'; exact ⟨_, _, rfl, p, p'⟩
  subst eu
  show wpAny (model X.prog X.w) X.A (subscriptTail e (.Slice none none (some (.UnaryOp .USub (.Constant (.int 1) k p1) p2)) p3) (.ref a) (.ref s4.heap.objs.size)) (EP X pins σ Q) X.xe { s4 with heap := s4.heap.push { cls := .type "slice", data := .fields #[.none, .none, .int (-1) tk] } }
  refine tail_any (ops := [.ref a, .ref s4.heap.objs.size]) ht.typeIs (PyProof.Rows.slot_tuple_getitem.lookup) ?_ (by with_unfolding_all rfl)
  refine HT.getItem_tuple_rev2 ht (Heap.IsSliceOf.new _ .none .none (.int (-1) tk)) ?_
  refine ⟨.ref _, _, I5.laid (t' := s4.toks) (o := .tup [z, y]) (fun b ob q => Heap.get?_push_of_some _ q) (Nat.le_refl _) ?_, rfl, q _ (I5.hok.fresh (Nat.le_refl _))⟩
  exact ⟨by show 2 ≤ sizeLine; decide, [u2, u1], .cons r2 (.cons r1 .nil), IsTup.new _ _⟩
end K73
end
section
set_option maxHeartbeats 4000000
namespace K73
open PySem PySem.Spec PyProof.Rows L2 Evl
/-! ### the law's own: offers -/
def OsOk (n : Nat) (os : List (Nat × Nat × Int)) : Prop := ∀ o ∈ os, o.1 < n ∧ o.2.1 < n ∧ 0 ≤ o.2.2 ∧ o.2.2 < 1000000000000000000
def OffL (H : Hp) (t : Addr) (os : List (Nat × Nat × Int)) : Prop := ∃ as : List Addr, H t = some (.lst (as.map V.ref)) ∧ Offs H as os
theorem pick2 {x y : V} {d : Nat} (h : d < 4) : atI [x, y] ((d : Int) / 3) = some x ∨ atI [x, y] ((d : Int) / 3) = some y := by
  match d, h with
  | 0, _ => exact Or.inl rfl
  | 1, _ => exact Or.inl rfl
  | 2, _ => exact Or.inl rfl
  | 3, _ => exact Or.inr rfl
theorem PotOk.le {H : Hp} {pa ca : Addr} {B B' : Nat} (p : PotOk H pa ca B) (h : B ≤ B') : PotOk H pa ca B' := by
  obtain ⟨c, t, n, q, q0, q1⟩ := p
  exact ⟨c, t, n, q, q0, by omega⟩
theorem PotOk.nn {H : Hp} {pa ca x : Addr} {B : Nat} (p : PotOk H pa ca B) (h : H x = none) : x ≠ pa ∧ x ≠ ca := by
  obtain ⟨c, t, n, q, _⟩ := p
  exact ⟨fun e => by (subst e; rw [q.pot] at h; cases h), fun e => by (subst e; rw [q.cel] at h; cases h)⟩
theorem PotOk.nt {H : Hp} {pa ca x : Addr} {xs : List V} {B : Nat} (p : PotOk H pa ca B) (h : H x = some (.tup xs)) : x ≠ pa ∧ x ≠ ca := by
  obtain ⟨c, t, n, q, _⟩ := p
  exact ⟨fun e => by (subst e; rw [q.pot] at h; cases h), fun e => by (subst e; rw [q.cel] at h; cases h)⟩
theorem PotOk.upd_ {H : Hp} {pa ca x : Addr} {o : HO} {B : Nat} (p : PotOk H pa ca B) (h1 : x ≠ pa) (h2 : x ≠ ca) : PotOk (upd H x o) pa ca B := by
  obtain ⟨c, t, n, q, r⟩ := p
  exact ⟨c, t, n, ⟨by rw [upd_ne h1.symm]; exact q.pot, by rw [upd_ne h2.symm]; exact q.cel, q.ne⟩, r⟩
theorem Offs.frp {H H' : Hp} {pa ca : Addr} {B : Nat} {as : List Addr} {os : List (Nat × Nat × Int)} (O : Offs H as os) (p : PotOk H pa ca B) (F : FrP pa ca H H') : Offs H' as os := O.mono fun a xs h => F _ _ h (p.nt h).1 (p.nt h).2
def oD (o : Nat × Nat × Int) : PyData := .tuple [.int o.1, .int o.2.1, .int o.2.2]
theorem lay_os (os : List (Nat × Nat × Int)) : PyData.canLayAll0 (os.map oD) = true := by
  induction os with
  | nil => rfl
  | cons n r ih => show (true && PyData.canLayAll0 (r.map oD)) = true; rw [ih]; rfl
theorem dep_os (os : List (Nat × Nat × Int)) : PyData.depthAll (os.map oD) ≤ 1 := by
  induction os with
  | nil => exact Nat.zero_le _
  | cons n r ih => show max 1 (PyData.depthAll (r.map oD)) ≤ 1; omega
theorem shp_os (os : List (Nat × Nat × Int)) : SeqAt.shaped (.list (os.map oD)) = true := by
  unfold SeqAt.shaped
  rw [Bool.and_eq_true]
  exact ⟨lay_os os, by
    show decide (PyData.depthAll (os.map oD) + 1 ≤ 64) = true
    have := dep_os os
    exact decide_eq_true (by omega)⟩
theorem dp_os {K : PySem.W.Frag} {H : Hp} (os : List (Nat × Nat × Int)) : ∀ as : List Addr, Offs H as os → DpAll K H (as.map V.ref) (os.map oD) := by
  induction os with
  | nil =>
    intro as O
    have : as = [] := List.length_eq_zero_iff.mp O.1
    subst this
    exact .nil
  | cons o r ih =>
    intro as O
    match as, O with
    | a :: as, O =>
      refine .cons ?_ (ih as ⟨Nat.succ.inj O.1, fun i a' o' h1 h2 => O.2 (i + 1) a' o' h1 h2⟩)
      exact .tup (SqT.of (O.2 0 a o rfl rfl)) (.cons (.int _) (.cons (.int _) (.cons (.int _) .nil)))
theorem ev_neNilO {σ : L2.St} {H : Hp} {K : PySem.W.Frag} {ta : TE} {a : Addr} {os : List (Nat × Nat × Int)} {as : List Addr} (h : Ev ta σ H (.ref a)) (hl : H a = some (.lst (as.map V.ref))) (O : Offs H as os) : Ev (tOp (rNeD K) ta (tLst tNil)) σ H (.bl (!os.isEmpty)) := fun H1 e Q q =>
  h H1 e _ fun H2 e2 => el_lst ea_nil (by show 0 ≤ 100000; decide) H2 (Same.trans e e2) _ fun p H3 _ e3 h3 => by
    have e4 := Same.trans (Same.trans e e2) e3
    refine ⟨.list (os.map oD), .list [], .lst (SqL.of (e4 _ _ hl)) (dp_os os as (O.mono fun a xs h => e4 _ _ h)), .lst (SqL.of h3) .nil, shp_os os, by decide, ?_⟩
    have e5 : PyData.eqv (.list (os.map oD)) (.list []) = os.isEmpty := by cases os <;> rfl
    rw [e5]
    exact q H3 (Same.trans e2 e3)
section
variable {P : Program} {w : World} {K : PySem.W.Frag} {mg : Str → Option Value} {base : Heap}
theorem call_take {σ : L2.St} {H : Hp} {pa ca : Addr} {B : Nat} {te : TE} {m : Int} {Q : VK} (h0 : σ[0]? = some (some (.ref pa))) (hp : PotOk H pa ca B) (hB : B < 900000) (he : Ev te σ H (.int m)) (hm : 0 < m) (hm2 : m ≤ 1000000000000000000)
    (k : ∀ (d : Nat) H', (d : Int) < m → PotOk H' pa ca (B + 1) → FrP pa ca H H' → Q (.int (d : Int)) H') : tCall (sp__law_take K) [] E0 (tCons (tVar 0) (tCons te tNil)) σ H Q :=
  call_fA (ea_cons (ev_var h0) (ea_cons he ea_nil)) fun H1 e1 => ⟨pa, ca, m, B, rfl, hm, hm2, hp.ex e1, hB, fun d H' hd hp' F => k d H' hd hp' ((FrP.ex e1).trans F)⟩
def sp__law_offers (K : PySem.W.Frag) : Sp := fun vs H Q _ => ∃ (pa ca : Addr) (B : Nat), vs = [.ref pa] ∧ PotOk H pa ca B ∧ B < 800000 ∧
  ∀ (n : Nat) (os : List (Nat × Nat × Int)) (t ol : Addr) H', 1 ≤ n → n ≤ 40 → os.length ≤ 63 → OsOk n os → H ol = none → H' t = some (.tup [.int (n : Int), .ref ol]) → OffL H' ol os → PotOk H' pa ca (B + 400) → FrP pa ca H H' → ol ≠ pa ∧ ol ≠ ca → Q (.ref t) H'
-- 0 _law_pot_here, 1 _law_many, 2 _law_size, 3 _law_far, 4 _law_offers_here, 5 _law_k, 6 _law_a, 7 _law_b
abbrev n__law_offers : List Str := ["_law_pot_here", "_law_many", "_law_size", "_law_far", "_law_offers_here", "_law_k", "_law_a", "_law_b"]
theorem sc__law_offers : FnScope n__law_offers ["_law_pot_here"] (defScope s__law_offers) := ⟨rfl, rfl, rfl, by decide +kernel, rfl, by decide +kernel, by decide +kernel⟩
theorem ok__law_offers (T : Txt w K mg) : Good P w K mg base 3 (He.ga K "_law_offers") ["_law_pot_here"] (sp__law_offers K) := by
  refine good_mk T.D__law_offers sc__law_offers (fun _ _ _ _ _ _ us hl => match us, hl with | [_], _ => rfl) (fun vs H Q E h => ?_) (fun cdv A0 outer s H vs Q E hr h => ?_)
  · obtain ⟨pa, ca, B, rfl, _⟩ := h
    rfl
  · obtain ⟨pa, ca, B, rfl, hp, hB, k⟩ := h
    refine ⟨_, (pss_cons (ps_set (i := 1) sc__law_offers.nd rfl (Or.inl rfl) (pe_ix ix_list (pe_lst (pa_cons (pe_op op_add pe_int (pe_f (ok__law_take T) (hr.mono (by decide)) T.g__law_take (pa_cons (pv 0) (pa_cons pe_int pa_nil)))) (pa_cons (pe_op op_add pe_int (pe_f (ok__law_take T) (hr.mono (by decide)) T.g__law_take (pa_cons (pv 0) (pa_cons pe_int pa_nil)))) pa_nil))) (pe_op op_fdivW (pe_f (ok__law_take T) (hr.mono (by decide)) T.g__law_take (pa_cons (pv 0) (pa_cons pe_int pa_nil))) pe_int) (fun _ _ => rfl)))
      (pss_cons (ps_set (i := 2) sc__law_offers.nd rfl (Or.inl rfl) (pe_ix ix_list (pe_lst (pa_cons (pe_f (ok__law_take T) (hr.mono (by decide)) T.g__law_take (pa_cons (pv 0) (pa_cons pe_int pa_nil))) (pa_cons (pe_f (ok__law_take T) (hr.mono (by decide)) T.g__law_take (pa_cons (pv 0) (pa_cons pe_int pa_nil))) pa_nil))) (pe_op op_fdivW (pe_f (ok__law_take T) (hr.mono (by decide)) T.g__law_take (pa_cons (pv 0) (pa_cons pe_int pa_nil))) pe_int) (fun _ _ => rfl)))
      (pss_cons (ps_set (i := 3) sc__law_offers.nd rfl (Or.inl rfl) (pe_ix ix_list (pe_lst (pa_cons pe_int (pa_cons pe_int (pa_cons pe_int (pa_cons (pe_op op_pow pe_int pe_int) pa_nil))))) (pe_f (ok__law_take T) (hr.mono (by decide)) T.g__law_take (pa_cons (pv 0) (pa_cons pe_int pa_nil))) (fun _ _ => rfl)))
      (pss_cons (ps_set (i := 4) sc__law_offers.nd rfl (Or.inl rfl) (pe_lst pa_nil))
      (pss_cons (ps_for PassesOwn.never rfl (pi_range1 rfl T.z_range (pa_cons (pv 2) pa_nil)) (pg_name (i := 5) sc__law_offers.nd rfl (Or.inl rfl)) (pss_cons (ps_par (i := 6) (j := 7) rfl sc__law_offers.nd rfl rfl (by decide) rfl rfl (pa_cons (pe_f (ok__law_take T) (hr.mono (by decide)) T.g__law_take (pa_cons (pv 0) (pa_cons (pv 1) pa_nil))) (pa_cons (pe_f (ok__law_take T) (hr.mono (by decide)) T.g__law_take (pa_cons (pv 0) (pa_cons (pv 1) pa_nil))) pa_nil)) (by rfl))
        (pss_cut (ps_if (PW.pt (pw_and (pt_cmpR (op_neD hr.units) (pv 4) (pe_lst pa_nil) (nomark _)) (pw_and1 (pt_cmpR op_eq (pe_f (ok__law_take T) (hr.mono (by decide)) T.g__law_take (pa_cons (pv 0) (pa_cons pe_int pa_nil))) pe_int (nomark _))))) (pss_one (ps_asg (pe_rev2 (pe_slice sl_tup (pe_ix ix_list (pv 4) (pe_f (ok__law_take T) (hr.mono (by decide)) T.g__law_take (pa_cons (pv 0) (pa_cons (pe_callB call_len_seq (by rfl) T.z_len PySem.boot_len (pa_cons (pv 4) pa_nil)) pa_nil))) (fun _ _ => rfl)) po_none (po_some pe_int))) (pg_tup rfl (pgs_cons (pg_name (i := 6) sc__law_offers.nd rfl (Or.inl rfl)) (pgs_cons (pg_name (i := 7) sc__law_offers.nd rfl (Or.inl rfl)) pgs_nil))))) pss_nil)
        (pss_one (ps_expr (pe_bm PySem.F.plainAttrs_list PySem.F.slot_list_append PySem.F.type_list_append mt_append (pv 4) (pa_cons (pe_tup (pa_cons (pv 6) (pa_cons (pv 7) (pa_cons (pe_f (ok__law_take T) (hr.mono (by decide)) T.g__law_take (pa_cons (pv 0) (pa_cons (pv 3) pa_nil))) pa_nil)))) pa_nil)))))))
      (pss_one (ps_ret (pe_tup (pa_cons (pv 1) (pa_cons (pv 4) pa_nil)))))))))), ?_⟩
    -- many
    refine call_take rfl hp (by omega) ev_c (by decide) (by decide) fun d1 H1 hd1 hp1 F1 => ?_
    refine ⟨1, (d1 : Int), rfl, rfl, ?_⟩
    refine call_take rfl hp1 (by omega) ev_c (by decide) (by decide) fun d2 H2 hd2 hp2 F2 => ?_
    refine ⟨1, (d2 : Int), rfl, rfl, ?_⟩
    refine ⟨by show 2 ≤ sizeLine; decide, fun lp hlp => ?_⟩
    refine call_take rfl (hp2.ex (same_new hlp)) (by omega) ev_c (by decide) (by decide) fun d3 H3 hd3 hp3 F3 => ?_
    refine ⟨(d3 : Int), 3, rfl, rfl, cdw (by decide) (by decide), ?_⟩
    have hn3 := hp2.nn hlp
    have hl3 := F3 _ _ upd_same hn3.1 hn3.2
    have FF3 : FrP pa ca H H3 := (F1.trans F2).trans ((FrP.ex (same_new hlp)).trans F3)
    obtain ⟨n, hat, hn1, hn2⟩ : ∃ n : Nat, atI [V.int (1 + (d1 : Int)), V.int (1 + (d2 : Int))] ((d3 : Int) / 3) = some (V.int (n : Int)) ∧ 1 ≤ n ∧ n ≤ 40 := by
      rcases pick2 (x := V.int (1 + (d1 : Int))) (y := V.int (1 + (d2 : Int))) (d := d3) (by omega) with q | q
      · exact ⟨1 + d1, by rw [q]; congr 2 <;> omega, by omega, by omega⟩
      · exact ⟨1 + d2, by rw [q]; congr 2 <;> omega, by omega, by omega⟩
    refine ⟨lp, _, _, _, rfl, rfl, SqL.of hl3, hat, ?_⟩
    clear hat hl3 hd1 hd2 hd3
    -- size
    refine call_take rfl hp3 (by omega) ev_c (by decide) (by decide) fun e1 H4 he1 hp4 F4 => ?_
    refine call_take rfl hp4 (by omega) ev_c (by decide) (by decide) fun e2 H5 he2 hp5 F5 => ?_
    refine ⟨by show 2 ≤ sizeLine; decide, fun lp2 hlp2 => ?_⟩
    refine call_take rfl (hp5.ex (same_new hlp2)) (by omega) ev_c (by decide) (by decide) fun e3 H6 he3 hp6 F6 => ?_
    refine ⟨(e3 : Int), 3, rfl, rfl, cdw (by decide) (by decide), ?_⟩
    have hn6 := hp5.nn hlp2
    have hl6 := F6 _ _ upd_same hn6.1 hn6.2
    have FF6 : FrP pa ca H H6 := (FF3.trans (F4.trans F5)).trans ((FrP.ex (same_new hlp2)).trans F6)
    obtain ⟨sz, hat, hsz⟩ : ∃ n : Nat, atI [V.int (e1 : Int), V.int (e2 : Int)] ((e3 : Int) / 3) = some (V.int (n : Int)) ∧ n ≤ 63 := by
      rcases pick2 (x := V.int (e1 : Int)) (y := V.int (e2 : Int)) (d := e3) (by omega) with q | q
      · exact ⟨e1, q, by omega⟩
      · exact ⟨e2, q, by omega⟩
    refine ⟨lp2, _, _, _, rfl, rfl, SqL.of hl6, hat, ?_⟩
    clear hat hl6 he1 he2 he3
    -- far
    refine ⟨10, 18, rfl, rfl, ⟨by decide, by decide, by decide⟩, ?_⟩
    refine ⟨by show 4 ≤ sizeLine; decide, fun lp3 hlp3 => ?_⟩
    refine call_take rfl (hp6.ex (same_new hlp3)) (by omega) ev_c (by decide) (by decide) fun f1 H7 hf1 hp7 F7 => ?_
    have hn7 := hp6.nn hlp3
    have hl7 := F7 _ _ upd_same hn7.1 hn7.2
    have FF7 : FrP pa ca H H7 := FF6.trans ((FrP.ex (same_new hlp3)).trans F7)
    obtain ⟨far, hat, hf0, hf2⟩ : ∃ far : Int, atI [V.int 3, V.int 7, V.int 100, V.int (10 ^ (18 : Int).toNat)] (f1 : Int) = some (V.int far) ∧ 0 < far ∧ far ≤ 1000000000000000000 := by
      have hf : f1 < 4 := by omega
      match f1, hf with
      | 0, _ => exact ⟨3, rfl, by decide, by decide⟩
      | 1, _ => exact ⟨7, rfl, by decide, by decide⟩
      | 2, _ => exact ⟨100, rfl, by decide, by decide⟩
      | 3, _ => exact ⟨10 ^ (18 : Int).toNat, rfl, by decide, by decide⟩
    refine ⟨lp3, _, _, _, rfl, rfl, SqL.of hl7, hat, ?_⟩
    clear hat hl7 hf1
    refine q_asgL (el_lst ea_nil (by show 0 ≤ 100000; decide)) (fun ol H8 hol e8 hl8 => ?_)
    have hp8 := hp7.ex e8
    have FF8 : FrP pa ca H H8 := FF7.trans (FrP.ex e8)
    have hno := hp7.nn hol
    have hol0 : H ol = none := by
      cases q : H ol with
      | none => rfl
      | some o => rw [FF7 _ _ q hno.1 hno.2] at hol; cases hol
    refine q_forR1 (n := (sz : Int)) (ea_cons (ev_var rfl) ea_nil) ⟨by omega, by omega⟩ (fun i σ' H' => ∃ (os : List (Nat × Nat × Int)) (as : List Addr) (v5 v6 v7 : Option V), σ' = [some (.ref pa), some (.int (n : Int)), some (.int (sz : Int)), some (.int far), some (.ref ol), v5, v6, v7] ∧ H' ol = some (.lst (as.map V.ref)) ∧ Offs H' as os ∧ os.length = i ∧ OsOk n os ∧ PotOk H' pa ca (B + 7 + 5 * i) ∧ FrP pa ca H H')
      (fun H9 e9 => ⟨[], [], _, _, _, rfl, e9 _ _ hl8, ⟨rfl, fun i a o h => by simp at h⟩, rfl, fun o ho => (by cases ho), hp8.ex e9, FF8.trans (FrP.ex e9)⟩) (fun i σ' H' hi ⟨os, as, v5, v6, v7, es, hl, hO, hlen, hok, hpt, F⟩ => ?_) (fun σ' H' ⟨os, as, v5, v6, v7, es, hl, hO, hlen, hok, hpt, F⟩ => ?_)
    · subst es
      have hiN : i < 63 := by omega
      refine call_take rfl hpt (by omega) (ev_var rfl) (by omega) (by omega) fun a1 K1 ha1 hq1 G1 => ?_
      refine call_take rfl hq1 (by omega) (ev_var rfl) (by omega) (by omega) fun b1 K2 hb1 hq2 G2 => ?_
      refine ⟨_, _, rfl, ?_⟩
      have hl2 : K2 ol = some (.lst (as.map V.ref)) := (G1.trans G2) _ _ hl hno.1 hno.2
      have hO2 : Offs K2 as os := hO.frp hpt (G1.trans G2)
      have FK2 : FrP pa ca H K2 := F.trans (G1.trans G2)
      refine ⟨fun σ'' H'' => ∃ (a b : Nat), σ'' = [some (.ref pa), some (.int (n : Int)), some (.int (sz : Int)), some (.int far), some (.ref ol), some (.int (i : Int)), some (.int (a : Int)), some (.int (b : Int))] ∧ a < n ∧ b < n ∧ H'' ol = some (.lst (as.map V.ref)) ∧ Offs H'' as os ∧ PotOk H'' pa ca (B + 7 + 5 * i + 4) ∧ FrP pa ca H H'', ?_, ?_⟩
      · refine et_test (ev_neNilO (ev_var rfl) hl2 hO2) K2 (Same.refl _) _ fun K3 g3 => ?_
        have hl3 := g3 _ _ hl2
        have hO3 : Offs K3 as os := hO2.mono fun a xs h => g3 _ _ h
        have FK3 := FK2.trans (FrP.ex g3)
        cases hos : os.isEmpty with
        | true => exact iteF (iteF ⟨a1, b1, rfl, by omega, by omega, hl3, hO3, (hq2.ex g3).le (by omega), FK3⟩)
        | false =>
          refine iteT ?_
          refine call_take rfl (hq2.ex g3) (by omega) ev_c (by decide) (by decide) fun c1 K4 hc1 hq4 G4 => ?_
          have hl4 := G4 _ _ hl3 hno.1 hno.2
          have hO4 : Offs K4 as os := hO3.frp (hq2.ex g3) G4
          have FK4 := FK3.trans G4
          refine ⟨rfl, _, rfl, ?_⟩
          by_cases hc : V.int (c1 : Int) = V.int 0
          · rw [decide_eq_true hc]
            refine iteT ?_
            have hop : 0 < os.length := by
              cases os with
              | nil => cases hos
              | cons o r => exact Nat.zero_lt_succ _
            refine ⟨_, rfl, ?_⟩
            refine call_take rfl hq4 (by omega) (m := (os.length : Int)) (ev_is (ev_len (ev_var rfl) (sq_of hl4)) (by rw [List.length_map, hO4.1])) (by omega) (by omega) fun x1 K5 hx1 hq5 G5 => ?_
            have hl5 := G5 _ _ hl4 hno.1 hno.2
            have hO5 : Offs K5 as os := hO4.frp hq4 G5
            have FK5 := FK4.trans G5
            have hx1' : x1 < os.length := by omega
            have hxa : x1 < as.length := by rw [hO5.1]; exact hx1'
            have ha5 : as[x1]? = some as[x1] := List.getElem?_eq_getElem hxa
            have ho5 : os[x1]? = some os[x1] := List.getElem?_eq_getElem hx1'
            have ht5 := hO5.2 x1 _ _ ha5 ho5
            obtain ⟨k1, k2, _, _⟩ := hok _ (List.getElem_mem hx1')
            refine ⟨ol, _, _, .ref as[x1], rfl, rfl, SqL.of hl5, at_n (by rw [List.getElem?_map, ha5]; rfl), ?_⟩
            refine ⟨2, rfl, ?_⟩
            refine ⟨as[x1], _, rfl, SqT.of ht5, by show ¬ (0 = 0 ∧ (2 : Nat) = 3); omega, fun q1 hq1' => ?_⟩
            refine ⟨q1, .int (os[x1].1 : Int), .int (os[x1].2.1 : Int), rfl, SqT.of upd_same, fun q2 hq2' => ?_⟩
            refine ⟨q2, _, rfl, SqT.of upd_same, rfl, _, _, rfl, _, _, rfl, rfl, ?_⟩
            have eS := Same.trans (same_new hq1' (o := .tup (cutV (offV os[x1]) none (some 2)))) (same_new hq2' (o := .tup [.int (os[x1].2.1 : Int), .int (os[x1].1 : Int)]))
            exact ⟨os[x1].2.1, os[x1].1, rfl, k2, k1, eS _ _ hl5, hO5.mono fun a xs h => eS _ _ h, (hq5.ex eS).le (by omega), FK5.trans (FrP.ex eS)⟩
          · rw [decide_eq_false hc]
            exact iteF ⟨a1, b1, rfl, by omega, by omega, hl4, hO4, hq4.le (by omega), FK4⟩
      · rintro _ K3 ⟨a, b, rfl, ha, hb, hl3, hO3, hq3, FK3⟩
        refine ⟨_, rfl, .inl ⟨rfl, _, SqL.of hl3⟩, _, rfl, _, rfl, ?_⟩
        refine call_take rfl hq3 (by omega) (ev_var rfl) hf0 hf2 fun z K4 hz hq4 G4 => ?_
        have hl4 := G4 _ _ hl3 hno.1 hno.2
        have hO4 : Offs K4 as os := hO3.frp hq3 G4
        have FK4 := FK3.trans G4
        refine ⟨by show 3 ≤ sizeLine; decide, fun tp htp => ?_⟩
        have hl5 := same_new htp (o := .tup [V.int (a : Int), V.int (b : Int), V.int (z : Int)]) _ _ hl4
        have hasl : as.length < 1000 := by rw [hO4.1]; omega
        refine ⟨ol, _, .ref tp, rfl, rfl, hl5, by rw [List.length_map]; exact Nat.lt_trans hasl (by decide), ?_⟩
        refine ⟨os ++ [(a, b, (z : Int))], as ++ [tp], _, _, _, rfl, by rw [upd_same, List.map_append]; rfl, ⟨by rw [List.length_append, List.length_append, hO4.1]; rfl, fun i' a' o' h1 h2 => ?_⟩, by rw [List.length_append, hlen]; rfl, fun o ho => ?_, ((hq4.ex (same_new htp)).upd_ hno.1 hno.2).le (by omega), fun x u hx n1 n2 => ?_⟩
        · have kp : ∀ (b' : Addr) (u : HO), upd K4 tp (.tup [V.int (a : Int), V.int (b : Int), V.int (z : Int)]) b' = some u → (∀ ys, u ≠ .lst ys) → upd (upd K4 tp (.tup [V.int (a : Int), V.int (b : Int), V.int (z : Int)])) ol (.lst (as.map V.ref ++ [V.ref tp])) b' = some u := fun b' u hb hn => by
            rw [upd_ne (fun e => hn _ (by subst e; rw [hl5] at hb; exact (Option.some.inj hb).symm))]
            exact hb
          by_cases hi' : i' < as.length
          · rw [List.getElem?_append_left hi'] at h1
            rw [List.getElem?_append_left (by rw [← hO4.1]; exact hi')] at h2
            exact kp _ _ (same_new htp _ _ (hO4.2 i' a' o' h1 h2)) (by intro ys e; cases e)
          · have hi' : as.length ≤ i' := by omega
            rw [List.getElem?_append_right hi'] at h1
            rw [List.getElem?_append_right (by rw [← hO4.1]; exact hi'), ← hO4.1] at h2
            cases q : i' - as.length with
            | zero =>
              rw [q] at h1 h2
              cases h1; cases h2
              exact kp _ _ upd_same (by intro ys e; cases e)
            | succ m => rw [q] at h1; simp at h1
        · rcases List.mem_append.mp ho with ho | ho
          · exact hok o ho
          · have := List.mem_singleton.mp ho
            subst this
            exact ⟨ha, hb, by show (0 : Int) ≤ (z : Int); omega, by show (z : Int) < 1000000000000000000; omega⟩
        · rw [upd_ne (ne_of_none hx hol0)]
          exact same_new htp _ _ (FK4 _ _ hx n1 n2)
    · subst es
      refine s_retU (eu_tup (vs := [.int (n : Int), .ref ol]) (ea_cons (ev_var rfl) (ea_cons (ev_var rfl) ea_nil)) (by show 2 ≤ 100000; decide)) (fun t H9 ht e9 h9 => ?_)
      have : (sz : Int).toNat = sz := Int.toNat_natCast _
      rw [this] at hlen hpt
      refine k n os t ol H9 hn1 hn2 (by omega) hok hol0 h9 ⟨as, e9 _ _ hl, hO.mono fun a xs h => e9 _ _ h⟩ ((hpt.ex e9).le (by omega)) (F.trans (FrP.ex e9)) hno
end
end K73
end
section
set_option maxHeartbeats 4000000
namespace K73
open PySem PySem.Spec PyProof.Rows L2 Evl
/-! ### the law's own: light, dearer, shuffled -/
inductive Offereds : LP → List (Nat × Nat × Int) → LP → Prop
  | nil {p : LP} : Offereds p [] p
  | cons {p p1 p' : LP} {o : Nat × Nat × Int} {os : List (Nat × Nat × Int)} : Offered p o.1 o.2.1 o.2.2 p1 → Offereds p1 os p' → Offereds p (o :: os) p'
theorem OffL.mono {H H' : Hp} {t : Addr} {os : List (Nat × Nat × Int)} (O : OffL H t os) (e : Same H H') : OffL H' t os := by
  obtain ⟨as, h1, h2⟩ := O
  exact ⟨as, e _ _ h1, h2.mono fun a xs h => e _ _ h⟩
theorem OffL.at_ {H : Hp} {t : Addr} {os : List (Nat × Nat × Int)} (O : OffL H t os) {n : Nat} {o : Nat × Nat × Int} (h : os[n]? = some o) : ∃ (as : List Addr) (a : Addr), H t = some (.lst (as.map V.ref)) ∧ (as.map V.ref)[n]? = some (V.ref a) ∧ H a = some (.tup (offV o)) := by
  obtain ⟨as, h1, h2, h3⟩ := O
  have hl : n < as.length := by
    rw [h2]
    exact (List.getElem?_eq_some_iff.mp h).1
  have ha : as[n]? = some as[n] := List.getElem?_eq_getElem hl
  exact ⟨as, as[n], h1, by rw [List.getElem?_map, ha]; rfl, h3 n _ o ha h⟩
theorem none_back {H H1 : Hp} {a : Addr} (k : ∀ b o, H b = some o → H1 b = some o) (h : H1 a = none) : H a = none := by
  cases q : H a with
  | none => rfl
  | some o => rw [k _ _ q] at h; cases h
section
variable {P : Program} {w : World} {K : PySem.W.Frag} {mg : Str → Option Value} {base : Heap}
def sp__law_light (K : PySem.W.Frag) : Sp := fun vs H Q _ => ∃ (n : Nat) (ol : Addr) (os : List (Nat × Nat × Int)) (p' : LP), vs = [.int (n : Int), .ref ol] ∧ n < 1000 ∧ OffL H ol os ∧ Offereds (lp0 n) os p' ∧
  ∀ L A j H', Lt K L A p' j H' → Same H H' → (∀ a, MutL A L a → H a = none) → Q (.ref L.q) H'
-- 0 _law_many, 1 _law_offers_here, 2 _law_light_here, 3 _law_a, 4 _law_b, 5 _law_price
abbrev n__law_light : List Str := ["_law_many", "_law_offers_here", "_law_light_here", "_law_a", "_law_b", "_law_price"]
theorem sc__law_light : FnScope n__law_light ["_law_many", "_law_offers_here"] (defScope s__law_light) := ⟨rfl, rfl, rfl, by decide +kernel, rfl, by decide +kernel, by decide +kernel⟩
theorem ok__law_light (T : Txt w K mg) : Good P w K mg base 13 (He.ga K "_law_light") ["_law_many", "_law_offers_here"] (sp__law_light K) := by
  refine good_mk T.D__law_light sc__law_light (fun _ _ _ _ _ _ us hl => match us, hl with | [_, _], _ => rfl) (fun vs H Q E h => ?_) (fun cdv A0 outer s H vs Q E hr h => ?_)
  · obtain ⟨n, ol, os, p', rfl, _⟩ := h
    rfl
  · obtain ⟨n, ol, os, p', rfl, hn, O, hof, k⟩ := h
    refine ⟨_, (pss_cons (ps_set (i := 2) sc__law_light.nd rfl (Or.inl rfl) (pe_mk T.mkL (ok_Lightest___init__ T) (hr.mono (by decide)) T.g_Lightest (pa_cons (pv 0) pa_nil)))
      (pss_cons (ps_for PassesOwn.never rfl (pi_list (pv 1)) (pg_tup rfl (pgs_cons (pg_name (i := 3) sc__law_light.nd rfl (Or.inl rfl)) (pgs_cons (pg_name (i := 4) sc__law_light.nd rfl (Or.inl rfl)) (pgs_cons (pg_name (i := 5) sc__law_light.nd rfl (Or.inl rfl)) pgs_nil)))) (pss_one (ps_expr (pe_m (pv 2) T.clL T.mL_offer (ok_Lightest_offer T) (hr.mono (by decide)) (pa_cons (pv 3) (pa_cons (pv 4) (pa_cons (pv 5) pa_nil)))))))
      (pss_one (ps_ret (pv 2))))), ?_⟩
    refine ⟨_, rfl, ?_⟩
    intro x dx nx ndx nd
    refine ⟨x, dx, n, rfl, upd_same, hn, fun L A j H1 eL Y1 kp1 fr1 => ⟨rfl, ?_⟩⟩
    subst eL
    have s1 : Same H H1 := fun b o hb => kp1 b o (by rw [upd_ne (ne_of_none hb nx), upd_ne (ne_of_none hb ndx)]; exact hb) (ne_of_none hb nx)
    have frH : ∀ a, MutL A L a → H a = none := fun a ha => by
      have q1 := fr1 a ha
      by_cases e1 : a = L.q
      · rw [e1]; exact nx
      · rw [upd_ne e1] at q1
        by_cases e2 : a = dx
        · rw [e2]; exact ndx
        · rw [upd_ne e2] at q1; exact q1
    have sF : ∀ {H2 H3 : Hp}, Same H H2 → FrL A L H2 H3 → Same H H3 := fun e F b o hb => F _ _ (e _ _ hb) fun m => by rw [frH b m] at hb; cases hb
    obtain ⟨as, ho1, ho2⟩ := O
    have O : OffL H ol os := ⟨as, ho1, ho2⟩
    refine q_forL (xs := as.map V.ref) (ev_var rfl) (sq_of (s1 _ _ ho1)) (fun i σ' H' => ∃ (p : LP) (j : J) (v3 v4 v5 : Option V), σ' = [some (.int (n : Int)), some (.ref ol), some (.ref L.q), v3, v4, v5] ∧ Lt K L A p j H' ∧ Offereds p (os.drop i) p' ∧ Same H H') (fun H2 e2 => ⟨lp0 n, j, _, _, _, rfl, Y1.ex e2, hof, Same.trans s1 e2⟩) (fun i σ' H' _ ⟨_, _, _, _, _, _, _, _, e⟩ => sq_of (e _ _ ho1)) (fun i y σ' H' hi ⟨p, j, v3, v4, v5, es, Y, hs, e⟩ => ?_) (fun σ' H' ⟨p, j, v3, v4, v5, es, Y, hs, e⟩ => ?_)
    · subst es
      have hil : i < as.length := by
        have := (List.getElem?_eq_some_iff.mp hi).1
        simpa using this
      have hio : i < os.length := by rw [← ho2.1]; exact hil
      have hy : y = .ref as[i] := by
        rw [List.getElem?_map, List.getElem?_eq_getElem hil] at hi
        exact (Option.some.inj hi).symm
      subst hy
      have ht := ho2.2 i _ _ (List.getElem?_eq_getElem hil) (List.getElem?_eq_getElem hio)
      rw [List.drop_eq_getElem_cons hio] at hs
      cases hs with
      | @cons _ p1 _ _ _ h1 h2 =>
        refine ⟨as[i], _, rfl, st_of (e _ _ ht), rfl, _, _, rfl, _, _, rfl, _, _, rfl, rfl, ?_⟩
        refine call_m (val_var rfl) Y.ob (lf_no (by decide +kernel)) (vala_cons (val_var rfl) (vala_cons (val_var rfl) (vala_cons (val_var rfl) vala_nil))) ?_
        exact ⟨L, A, p, p1, j, _, _, _, rfl, Y, h1, fun j2 H2 v Y2 F2 => ⟨p1, j2, _, _, _, rfl, Y2, h2, sF e F2⟩⟩
    · subst es
      have hd : os.drop (as.map V.ref).length = [] := by rw [List.length_map, ho2.1, List.drop_length]
      rw [hd] at hs
      cases hs
      exact s_ret (ev_var rfl) fun H2 e2 => k L A j H2 (Y.ex e2) (Same.trans e e2) frH
def sp__law_dearer (K : PySem.W.Frag) : Sp := fun vs H Q _ => ∃ (ol : Addr) (os : List (Nat × Nat × Int)) (n : Nat) (a b : Nat) (f z : Int), vs = [.ref ol, .int (n : Int), .int z] ∧ OffL H ol os ∧ os.length ≤ 1000 ∧ os[n]? = some (a, b, f) ∧
  ∀ t H', OffT H' t (os.set n (a, b, z)) → Same H H' → Q (.ref t) H'
-- 0 _law_offers_here, 1 _law_number, 2 _law_price, 3 _law_a, 4 _law_b, 5 _law_former
abbrev n__law_dearer : List Str := ["_law_offers_here", "_law_number", "_law_price", "_law_a", "_law_b", "_law_former"]
theorem sc__law_dearer : FnScope n__law_dearer ["_law_offers_here", "_law_number", "_law_price"] (defScope s__law_dearer) := ⟨rfl, rfl, rfl, by decide +kernel, rfl, by decide +kernel, by decide +kernel⟩
theorem ok__law_dearer (T : Txt w K mg) : Good P w K mg base 1 (He.ga K "_law_dearer") ["_law_offers_here", "_law_number", "_law_price"] (sp__law_dearer K) := by
  refine good_mk T.D__law_dearer sc__law_dearer (fun _ _ _ _ _ _ us hl => match us, hl with | [_, _, _], _ => rfl) (fun vs H Q E h => ?_) (fun cdv A0 outer s H vs Q E hr h => ?_)
  · obtain ⟨ol, os, n, a, b, f, z, rfl, _⟩ := h
    rfl
  · obtain ⟨ol, os, n, a, b, f, z, rfl, O, hl, ho, k⟩ := h
    refine ⟨_, (pss_cons (ps_asg (pe_ix ix_list (pv 0) (pv 1) (fun _ _ => rfl)) (pg_tup rfl (pgs_cons (pg_name (i := 3) sc__law_dearer.nd rfl (Or.inl rfl)) (pgs_cons (pg_name (i := 4) sc__law_dearer.nd rfl (Or.inl rfl)) (pgs_cons (pg_name (i := 5) sc__law_dearer.nd rfl (Or.inl rfl)) pgs_nil)))))
      (pss_one (ps_ret (pe_tupleOf rfl T.z_tuple (pe_op op_cat (pe_op op_cat (pe_slice sl_list (pv 0) po_none (po_some (pv 1))) (pe_lst (pa_cons (pe_tup (pa_cons (pv 3) (pa_cons (pv 4) (pa_cons (pv 2) pa_nil)))) pa_nil))) (pe_slice sl_list (pv 0) (po_some (pe_op op_add (pv 1) pe_int)) po_none)))))), ?_⟩
    obtain ⟨as, ad, g1, g2, g3⟩ := O.at_ ho
    obtain ⟨as', q1, q2, q3⟩ := O
    rw [g1] at q1
    have has : as = as' := (List.map_inj_right (f := V.ref) (fun x y h => by injection h)).mp (by injection q1 with q1; injection q1)
    subst has
    have hn : n < os.length := (List.getElem?_eq_some_iff.mp ho).1
    have hna : n < as.length := by rw [q2]; exact hn
    refine ev_here (ev_ixl (ev_var rfl) g1 (ev_var rfl) g2) fun H1 e1 => ?_
    refine ⟨ad, _, rfl, st_of (e1 _ _ g3), rfl, _, _, rfl, _, _, rfl, _, _, rfl, rfl, ?_⟩
    have hc1 : cutV (as.map V.ref) none (some (n : Int)) = (as.take n).map V.ref := by
      unfold cutV
      rw [HT.sIx_none, List.drop_zero, Nat.sub_zero, HT.sIx_nat, List.length_map, Nat.min_eq_left (by omega), List.map_take]
    have hc2 : cutV (as.map V.ref) (some (((n + 1 : Nat)) : Int)) none = (as.drop (n + 1)).map V.ref := by
      unfold cutV
      rw [HT.sIx_none, HT.sIx_nat, List.length_map, Nat.min_eq_left (by omega), ← List.map_drop, List.take_of_length_le (by rw [List.length_map, List.length_drop]; omega)]
    have s0 : SqL K H1 ol (as.map V.ref) := sq_of (e1 _ _ g1)
    refine el_sl (K := K) (σ := [some (.ref ol), some (.int (n : Int)), some (.int z), some (.int (a : Int)), some (.int (b : Int)), some (.int f)]) (te := tVar 0) (lo := none) (hi := some (n : Int)) (ev_var rfl) eo_none (eo_some (ev_var rfl)) s0 H1 (Same.refl _) _ fun l1 H2 hl1 e2 h2 => ?_
    refine ⟨_, rfl, _, rfl, _, rfl, by show 3 ≤ sizeLine; decide, fun tp htp => ⟨by show 1 ≤ sizeLine; decide, fun l2 hl2 => ?_⟩⟩
    have e3 := Same.trans e2 (Same.trans (same_new htp (o := .tup [V.int (a : Int), V.int (b : Int), V.int z])) (same_new hl2 (o := .lst [V.ref tp])))
    have hz1 : (cutV (as.map V.ref) none (some (n : Int))).length ≤ 1000 := Nat.le_trans (cutV_length _ _ _) (by rw [List.length_map, q2]; exact hl)
    have bg : (2003 : Nat) ≤ sizeLine := by decide
    refine ⟨l1, l2, _, _, rfl, rfl, Same.trans (same_new htp (o := .tup [V.int (a : Int), V.int (b : Int), V.int z])) (same_new hl2) _ _ h2, upd_same, by show _ + 1 ≤ _; omega, fun l3 hl3 => ?_⟩
    refine el_sl (K := K) (σ := [some (.ref ol), some (.int (n : Int)), some (.int z), some (.int (a : Int)), some (.int (b : Int)), some (.int f)]) (te := tVar 0) (lo := some (((n + 1 : Nat)) : Int)) (hi := none) (ev_var rfl) (eo_some (ev_is (ev_op (ev_var rfl) ev_c rv_I0) (by congr 1))) eo_none (ex_l (Same.trans e3 (same_new hl3)) s0) _ (Same.refl _) _ fun l4 H4 hl4 e4 h4 => ?_
    have hl3' := e4 _ _ upd_same
    have hz2 : (cutV (as.map V.ref) (some (((n + 1 : Nat)) : Int)) none).length ≤ 1000 := Nat.le_trans (cutV_length _ _ _) (by rw [List.length_map, q2]; exact hl)
    refine ⟨l3, l4, _, _, rfl, rfl, hl3', h4, by rw [List.length_append]; show _ + 1 + _ ≤ _; omega, fun l5 hl5 => ?_⟩
    refine Or.inl ⟨l5, _, rfl, SqL.of upd_same, fun t ht => ?_⟩
    have eC : Same H1 (upd H4 l5 (.lst (cutV (as.map V.ref) none (some (n : Int)) ++ [V.ref tp] ++ cutV (as.map V.ref) (some (((n + 1 : Nat)) : Int)) none))) := Same.trans (Same.trans (Same.trans e3 (same_new hl3)) e4) (same_new hl5)
    have eB : ∀ o, Same H1 (upd (upd H4 l5 (.lst (cutV (as.map V.ref) none (some (n : Int)) ++ [V.ref tp] ++ cutV (as.map V.ref) (some (((n + 1 : Nat)) : Int)) none))) t o) := fun o => Same.trans eC (same_new ht)
    have htp4 := e4 _ _ (same_new hl3 _ _ (same_new hl2 (o := .lst [V.ref tp]) _ _ (upd_same (H := H2) (a := tp) (o := .tup [V.int (a : Int), V.int (b : Int), V.int z]))))
    have hlist : cutV (as.map V.ref) none (some (n : Int)) ++ [V.ref tp] ++ cutV (as.map V.ref) (some (((n + 1 : Nat)) : Int)) none = (as.set n tp).map V.ref := by
      rw [hc1, hc2, List.set_eq_take_append_cons_drop, if_pos hna, List.map_append, List.map_cons, List.append_assoc]; rfl
    refine k t _ ⟨as.set n tp, by rw [upd_same, hlist], by rw [List.length_set, List.length_set, q2], fun i c o h1 h2 => ?_⟩ (Same.trans e1 (eB _))
    by_cases hi : i = n
    · subst hi
      rw [List.getElem?_set_self hna] at h1
      rw [List.getElem?_set_self hn] at h2
      cases h1; cases h2
      exact same_new ht _ _ (same_new hl5 _ _ htp4)
    · rw [List.getElem?_set_ne (fun q => hi q.symm)] at h1 h2
      exact eB _ _ _ (e1 _ _ (q3 i c o h1 h2))
theorem Offs.app {H : Hp} {as bs : List Addr} {os ps : List (Nat × Nat × Int)} (O : Offs H as os) (O2 : Offs H bs ps) : Offs H (as ++ bs) (os ++ ps) := by
  refine ⟨by rw [List.length_append, List.length_append, O.1, O2.1], fun i a o h1 h2 => ?_⟩
  by_cases hi : i < as.length
  · rw [List.getElem?_append_left hi] at h1
    rw [List.getElem?_append_left (by rw [← O.1]; exact hi)] at h2
    exact O.2 i a o h1 h2
  · rw [List.getElem?_append_right (by omega)] at h1
    rw [List.getElem?_append_right (by rw [← O.1]; omega), ← O.1] at h2
    exact O2.2 _ a o h1 h2
theorem Offs.one {H : Hp} {a : Addr} {o : Nat × Nat × Int} (h : H a = some (.tup (offV o))) : Offs H [a] [o] := ⟨rfl, fun i b p h1 h2 => by
  match i, h1, h2 with
  | 0, h1, h2 => cases h1; cases h2; exact h
  | i + 1, h1, _ => simp at h1⟩
theorem Offs.take {H : Hp} {as : List Addr} {os : List (Nat × Nat × Int)} (O : Offs H as os) (d : Nat) : Offs H (as.take d) (os.take d) := ⟨by rw [List.length_take, List.length_take, O.1], fun i a o h1 h2 => by
  rw [List.getElem?_take] at h1 h2
  split at h1
  · rename_i q
    rw [if_pos q] at h2
    exact O.2 i a o h1 h2
  · cases h1⟩
theorem Offs.drop {H : Hp} {as : List Addr} {os : List (Nat × Nat × Int)} (O : Offs H as os) (d : Nat) : Offs H (as.drop d) (os.drop d) := ⟨by rw [List.length_drop, List.length_drop, O.1], fun i a o h1 h2 => by
  rw [List.getElem?_drop] at h1 h2
  exact O.2 _ a o h1 h2⟩
def sp__law_shuffled (K : PySem.W.Frag) : Sp := fun vs H Q _ => ∃ (pa ca ol : Addr) (os : List (Nat × Nat × Int)) (B : Nat), vs = [.ref pa, .ref ol] ∧ PotOk H pa ca B ∧ B < 800000 ∧ OffL H ol os ∧ os.length ≤ 63 ∧ ol ≠ pa ∧ ol ≠ ca ∧
  ∀ (os' : List (Nat × Nat × Int)) fl H', os'.Perm os → OffL H' fl os' → PotOk H' pa ca (B + 100) → FrP pa ca H H' → H fl = none → fl ≠ pa → fl ≠ ca → Q (.ref fl) H'
-- 0 _law_pot_here, 1 _law_offers_here, 2 _law_found, 3 _law_offer
abbrev n__law_shuffled : List Str := ["_law_pot_here", "_law_offers_here", "_law_found", "_law_offer"]
theorem sc__law_shuffled : FnScope n__law_shuffled ["_law_pot_here", "_law_offers_here"] (defScope s__law_shuffled) := ⟨rfl, rfl, rfl, by decide +kernel, rfl, by decide +kernel, by decide +kernel⟩
theorem ok__law_shuffled (T : Txt w K mg) : Good P w K mg base 3 (He.ga K "_law_shuffled") ["_law_pot_here", "_law_offers_here"] (sp__law_shuffled K) := by
  refine good_mk T.D__law_shuffled sc__law_shuffled (fun _ _ _ _ _ _ us hl => match us, hl with | [_, _], _ => rfl) (fun vs H Q E h => ?_) (fun cdv A0 outer s H vs Q E hr h => ?_)
  · obtain ⟨pa, ca, ol, os, B, rfl, _⟩ := h
    rfl
  · obtain ⟨pa, ca, ol, os, B, rfl, hp, hB, ⟨as, g1, g2⟩, hl, n1, n2, k⟩ := h
    refine ⟨_, (pss_cons (ps_set (i := 2) sc__law_shuffled.nd rfl (Or.inl rfl) (pe_lst pa_nil))
      (pss_cons (ps_for PassesOwn.never rfl (pi_list (pv 1)) (pg_name (i := 3) sc__law_shuffled.nd rfl (Or.inl rfl)) (pss_one (ps_expr (pe_bm PySem.F.plainAttrs_list PySem.F.slot_list_insert PySem.F.type_list_insert mt_insert (pv 2) (pa_cons (pe_f (ok__law_take T) (hr.mono (by decide)) T.g__law_take (pa_cons (pv 0) (pa_cons (pe_op op_add (pe_callB call_len_seq (by rfl) T.z_len PySem.boot_len (pa_cons (pv 2) pa_nil)) pe_int) pa_nil))) (pa_cons (pv 3) pa_nil))))))
      (pss_one (ps_ret (pv 2))))), ?_⟩
    refine q_asgL (el_lst ea_nil (by show 0 ≤ 100000; decide)) (fun fl H1 hfl e1 hl1 => ?_)
    have hno := hp.nn hfl
    have nof : ol ≠ fl := ne_of_none g1 hfl
    refine q_forL (xs := as.map V.ref) (ev_var rfl) (sq_of (e1 _ _ g1)) (fun i σ' H' => ∃ (dn : List (Nat × Nat × Int)) (ds : List Addr) (v3 : Option V), σ' = [some (.ref pa), some (.ref ol), some (.ref fl), v3] ∧ H' fl = some (.lst (ds.map V.ref)) ∧ Offs H' ds dn ∧ dn.Perm (os.take i) ∧ PotOk H' pa ca (B + i) ∧ FrP pa ca H H') (fun H2 e2 => ⟨[], [], _, rfl, e2 _ _ hl1, ⟨rfl, fun i a o h => by simp at h⟩, List.Perm.refl _, hp.ex (Same.trans e1 e2), FrP.ex (Same.trans e1 e2)⟩) (fun i σ' H' _ ⟨_, _, _, _, _, _, _, _, F⟩ => sq_of (F _ _ g1 n1 n2)) (fun i y σ' H' hi ⟨dn, ds, v3, es, hf, hO, hpm, hpt, F⟩ => ?_) (fun σ' H' ⟨dn, ds, v3, es, hf, hO, hpm, hpt, F⟩ => ?_)
    · subst es
      have hil : i < as.length := by
        have := (List.getElem?_eq_some_iff.mp hi).1
        simpa using this
      have hio : i < os.length := by rw [← g2.1]; exact hil
      have hy : y = .ref as[i] := by
        rw [List.getElem?_map, List.getElem?_eq_getElem hil] at hi
        exact (Option.some.inj hi).symm
      subst hy
      have ht := g2.2 i _ _ (List.getElem?_eq_getElem hil) (List.getElem?_eq_getElem hio)
      have hti : os.take (i + 1) = os.take i ++ [os[i]] := by rw [List.take_succ, List.getElem?_eq_getElem hio]; rfl
      have hdl : dn.length = i := by rw [hpm.length_eq, List.length_take]; omega
      refine ⟨_, rfl, .inl ⟨rfl, _, SqL.of hf⟩, ?_⟩
      refine call_take (m := (ds.length : Int) + 1) rfl hpt (by omega) (ev_is (ev_op (ev_len (ev_var rfl) (sq_of hf)) ev_c rv_I0) (by rw [List.length_map])) (by omega) (by rw [hO.1, hdl]; omega) fun d H2 hd hp2 F2 => ?_
      have hf2 := F2 _ _ hf hno.1 hno.2
      have hO2 : Offs H2 ds dn := hO.frp hpt F2
      have ht2 := (F.trans F2) _ _ ht (hp.nt ht).1 (hp.nt ht).2
      have hdsl : ds.length < 1000 := by rw [hO.1, hdl]; omega
      refine ⟨_, rfl, fl, _, (d : Int), .ref as[i], rfl, rfl, hf2, by rw [List.length_map]; exact Nat.lt_trans hdsl (by decide), by omega, by omega, ?_⟩
      have kt : ∀ {o : HO} (a : Addr) (xs : List V), H2 a = some (.tup xs) → upd H2 fl o a = some (.tup xs) := fun a xs h => by rw [upd_ne (ne_of h hf2 (by intro z; cases z))]; exact h
      refine ⟨dn.take d ++ [os[i]] ++ dn.drop d, ds.take d ++ [as[i]] ++ ds.drop d, _, rfl, ?_, (((hO2.take d).app (Offs.one ht2)).app (hO2.drop d)).mono kt, ?_, (hp2.upd_ hno.1 hno.2).le (by omega), fun x u hx m1 m2 => ?_⟩
      · rw [upd_same, Int.toNat_natCast, List.map_append, List.map_append, List.map_take, List.map_drop]; rfl
      · rw [hti]
        have h1 : (dn.take d ++ [os[i]] ++ dn.drop d).Perm (os[i] :: dn) := by
          have h2 : (dn.take d ++ ([os[i]] ++ dn.drop d)).Perm (os[i] :: (dn.take d ++ dn.drop d)) := List.perm_middle
          rw [List.take_append_drop] at h2
          rw [List.append_assoc]
          exact h2
        exact h1.trans ((hpm.cons _).trans (List.perm_append_singleton _ _).symm)
      · rw [upd_ne (ne_of_none hx hfl)]
        exact (F.trans F2) _ _ hx m1 m2
    · subst es
      have hd : os.take (as.map V.ref).length = os := by rw [List.length_map, g2.1, List.take_length]
      rw [hd] at hpm
      have hal : (as.map V.ref).length ≤ 63 := by rw [List.length_map, g2.1]; exact hl
      exact s_ret (ev_var rfl) fun H2 e2 => k dn fl H2 hpm ⟨ds, e2 _ _ hf, hO.mono fun a xs h => e2 _ _ h⟩ ((hpt.ex e2).le (by omega)) (F.trans (FrP.ex e2)) hfl hno.1 hno.2
end
end K73
end
section
set_option maxHeartbeats 4000000
namespace K73
open PySem PySem.Spec PyProof.Rows L2 Evl
/-! ### the law's own: cheapest -/
def kstep (st : Int × List Nat) (e : Int × Nat × Nat) : Int × List Nat :=
  if st.2.getD e.2.1 0 = st.2.getD e.2.2 0 then st else (st.1 + e.1, st.2.map fun x => if x = max (st.2.getD e.2.1 0) (st.2.getD e.2.2 0) then min (st.2.getD e.2.1 0) (st.2.getD e.2.2 0) else x)
def kruskal (n : Nat) (srt : List (Int × Nat × Nat)) : Int × List Nat := srt.foldl kstep (0, List.range n)
theorem kstep_len (st : Int × List Nat) (e : Int × Nat × Nat) : (kstep st e).2.length = st.2.length := by
  unfold kstep
  split
  · rfl
  · rw [List.length_map]
theorem ksteps_len (es : List (Int × Nat × Nat)) : ∀ st : Int × List Nat, (es.foldl kstep st).2.length = st.2.length := by
  induction es with
  | nil => intro st; rfl
  | cons e r ih => intro st; rw [List.foldl_cons, ih, kstep_len]
def kEdge (o : Nat × Nat × Int) : Int × Nat × Nat := (o.2.2, o.1, o.2.1)
theorem foldl_takeL {α β : Type} (g : β → α → β) (b : β) (xs : List α) {i : Nat} {x : α} (h : xs[i]? = some x) : (xs.take (i + 1)).foldl g b = g ((xs.take i).foldl g b) x := by
  rw [List.take_succ, h, List.foldl_append]; rfl
theorem code_le {p a b p' a' b' : Int} (ha : 0 ≤ a) (hb : 0 ≤ b) (ha' : a' < 1000000000000000000) (hb' : b' < 1000000000000000000) (h : TS.code 1000000000000000000 [p, a, b] ≤ TS.code 1000000000000000000 [p', a', b']) : p ≤ p' := by
  have e : ∀ x y z : Int, TS.code 1000000000000000000 [x, y, z] = x * 1000000000000000000000000000000000000 + (y * 1000000000000000000 + z) := fun x y z => by
    show x * 1000000000000000000 ^ 2 + (y * 1000000000000000000 ^ 1 + (z * 1000000000000000000 ^ 0 + 0)) = _
    rw [show (1000000000000000000 : Int) ^ 2 = 1000000000000000000000000000000000000 by decide, show (1000000000000000000 : Int) ^ 1 = 1000000000000000000 by decide, show (1000000000000000000 : Int) ^ 0 = 1 by decide]
    omega
  rw [e, e] at h
  omega
theorem srt2 {ns : List Int} {x y : Nat} (h : ns.Perm [(x : Int), (y : Int)]) (s : ns.Pairwise (· ≤ ·)) : ns = [((min x y : Nat) : Int), ((max x y : Nat) : Int)] := by
  have hl := h.length_eq
  match ns, hl with
  | [u, v], _ =>
    have m1 := h.mem_iff (a := u)
    have m2 := h.mem_iff (a := v)
    have m3 := h.mem_iff (a := (x : Int))
    have m4 := h.mem_iff (a := (y : Int))
    simp only [List.mem_cons, List.not_mem_nil, or_false, true_or, or_true, true_iff, iff_true] at m1 m2 m3 m4
    have h1 : u ≤ v := by
      rw [List.pairwise_cons] at s
      exact s.1 v (by simp)
    have e1 : u = ((min x y : Nat) : Int) := by omega
    have e2 : v = ((max x y : Nat) : Int) := by omega
    rw [e1, e2]
theorem ev_tif {σ : L2.St} {H : Hp} {t : TT} {ta tb : TE} {v : V} {c : Bool} (h : EvT t σ H c) (h1 : c = true → Ev ta σ H v) (h2 : c = false → Ev tb σ H v) : Ev (tIf t ta tb) σ H v := fun H1 e Q q =>
  h H1 e _ fun H2 e2 => by
    cases c with
    | true => exact iteT (h1 rfl H2 (Same.trans e e2) _ fun H3 e3 => q H3 (Same.trans e2 e3))
    | false => exact iteF (h2 rfl H2 (Same.trans e e2) _ fun H3 e3 => q H3 (Same.trans e2 e3))
theorem q_sorted2 {σ : L2.St} {H : Hp} {K : PySem.W.Frag} {t : TA} {g : TG} {tz : TS} {D : Ends} {ra rb : Nat} (hv : EvA t σ H [.int (ra : Int), .int (rb : Int)]) (k : ∀ p H1, Same H H1 → H1 p = some (.lst [.int ((min ra rb : Nat) : Int), .int ((max ra rb : Nat) : Int)]) → g (.ref p) σ H1 (tz D)) :
    tSeq (tAsg (tCB (rSorted K) (tCons (tLst t) tNil)) g) tz D σ H := by
  refine el_lst hv (by show 2 ≤ 100000; decide) H (Same.refl _) (fun v H1 => rSorted K [v] H1 fun x H2 => g x σ H2 (tz D)) fun l H4 hl4 e4 h4 => ?_
  refine ⟨l, [(ra : Int), (rb : Int)], rfl, SqL.of h4, by show 2 < 64; decide, fun ns' p hperm' hs' hp => ?_⟩
  have hns := srt2 hperm' hs'
  subst hns
  exact k p _ (Same.trans e4 (same_new hp)) upd_same
def rdE (H : Hp) (x : V) : Int × Nat × Nat := match x with
  | .ref t => (match H t with
    | some (.tup [.int p, .int a, .int b]) => (p, a.toNat, b.toNat)
    | _ => (0, 0, 0))
  | _ => (0, 0, 0)
theorem rdE_at {H : Hp} {t : Addr} {e : Int × Nat × Nat} (h : H t = some (.tup [.int e.1, .int (e.2.1 : Int), .int (e.2.2 : Int)])) : rdE H (.ref t) = e := by
  unfold rdE
  dsimp only
  rw [h]
  rfl
section
variable {P : Program} {w : World} {K : PySem.W.Frag} {mg : Str → Option Value} {base : Heap}
def sp__law_cheapest (K : PySem.W.Frag) : Sp := fun vs H Q _ => ∃ (n : Nat) (ol : Addr) (os : List (Nat × Nat × Int)), vs = [.int (n : Int), .ref ol] ∧ n ≤ 1000 ∧ OffL H ol os ∧ os.length < 64 ∧ OsOk n os ∧
  ∀ (srt : List (Int × Nat × Nat)) t pl H', srt.Perm (os.map kEdge) → srt.Pairwise (fun e f => e.1 ≤ f.1) → Same H H' → H' t = some (.tup [.int (kruskal n srt).1, .ref pl]) → H' pl = some (.lst (vN (kruskal n srt).2)) → H pl = none → Q (.ref t) H'
-- 0 _law_many, 1 _law_offers_here, 2 _law_parts, 3 _law_total, 4 _law_price, 5 _law_a, 6 _law_b, 7 _law_one, 8 _law_other, 9 _law_part
abbrev n__law_cheapest : List Str := ["_law_many", "_law_offers_here", "_law_parts", "_law_total", "_law_price", "_law_a", "_law_b", "_law_one", "_law_other", "_law_part"]
theorem sc__law_cheapest : FnScope n__law_cheapest ["_law_many", "_law_offers_here"] (defScope s__law_cheapest) := ⟨rfl, rfl, rfl, by decide +kernel, rfl, by decide +kernel, by decide +kernel⟩
theorem ok__law_cheapest (T : Txt w K mg) : Good P w K mg base 1 (He.ga K "_law_cheapest") ["_law_many", "_law_offers_here"] (sp__law_cheapest K) := by
  refine good_mk T.D__law_cheapest sc__law_cheapest (fun _ _ _ _ _ _ us hl => match us, hl with | [_, _], _ => rfl) (fun vs H Q E h => ?_) (fun cdv A0 outer s H vs Q E hr h => ?_)
  · obtain ⟨n, ol, os, rfl, _⟩ := h
    rfl
  · obtain ⟨n, ol, os, rfl, hn, ⟨as, g1, g2⟩, hl, hok, k⟩ := h
    refine ⟨_, (pss_cons (ps_set (i := 2) sc__law_cheapest.nd rfl (Or.inl rfl) (pe_listRg (by rfl) rfl T.z_list (prg_1 rfl T.z_range (pv 0))))
      (pss_cons (ps_set (i := 3) sc__law_cheapest.nd rfl (Or.inl rfl) pe_int)
      (pss_cons (ps_for PassesOwn.never rfl (pi_list (pe_callB (cr_sortT (d := 3) (B := 1000000000000000000) (by decide)) (by rfl) T.z_sorted (by decide +kernel) (pa_cons (pe_lc (own := [("_law_a", 5), ("_law_b", 6), ("_law_price", 4)]) (g := gTup K 3 (gCons (gName 5) (gCons (gName 6) (gCons (gName 4) gNil)))) (tt := tYes) (te := (tTup (tCons (tVar 4) (tCons (tVar 5) (tCons (tVar 6) tNil))))) (by rfl) sc__law_cheapest.nd (pi_list (pv 1)) (blkOk_by (own := [("_law_a", 5), ("_law_b", 6), ("_law_price", 4)]) (N := n__law_cheapest) (sc := defScope s__law_cheapest) (by decide +kernel)) (fun _ _ _ _ _ => (pg_tup rfl (pgs_cons (pg_name (i := 5) sc__law_cheapest.nd rfl (Or.inl rfl)) (pgs_cons (pg_name (i := 6) sc__law_cheapest.nd rfl (Or.inl rfl)) (pgs_cons (pg_name (i := 4) sc__law_cheapest.nd rfl (Or.inl rfl)) pgs_nil))))) (fun _ _ _ _ _ => pts_nil) (fun _ _ _ _ _ => (pe_tup (pa_cons (pv 4) (pa_cons (pv 5) (pa_cons (pv 6) pa_nil)))))) pa_nil))) (pg_tup rfl (pgs_cons (pg_name (i := 4) sc__law_cheapest.nd rfl (Or.inl rfl)) (pgs_cons (pg_name (i := 5) sc__law_cheapest.nd rfl (Or.inl rfl)) (pgs_cons (pg_name (i := 6) sc__law_cheapest.nd rfl (Or.inl rfl)) pgs_nil)))) (pss_cons (ps_asg (pe_callB cr_sorted (by rfl) T.z_sorted (by decide +kernel) (pa_cons (pe_lst (pa_cons (pe_ix ix_list (pv 2) (pv 5) (fun _ _ => rfl)) (pa_cons (pe_ix ix_list (pv 2) (pv 6) (fun _ _ => rfl)) pa_nil))) pa_nil)) (pg_lst (by rfl) (pgs_cons (pg_name (i := 7) sc__law_cheapest.nd rfl (Or.inr rfl)) (pgs_cons (pg_name (i := 8) sc__law_cheapest.nd rfl (Or.inr rfl)) pgs_nil))))
        (pss_one (ps_if (pt_cmpR op_ne (pv 7) (pv 8) (nomark _)) (pss_cons (ps_set (i := 3) sc__law_cheapest.nd rfl (Or.inl rfl) (pe_op op_add (pv 3) (pv 4)))
          (pss_one (ps_setLc (i := 2) (own := [("_law_part", 9)]) (g := gName 9) (tt := tYes) (te := (tIf (tTest (tOp rEq (tVar 9) (tVar 8))) (tVar 7) (tVar 9))) (by rfl) sc__law_cheapest.nd rfl rfl (sw_true rfl rfl rfl (by decide +kernel)) (pi_list (pv 2)) (blkOk_by (own := [("_law_part", 9)]) (N := n__law_cheapest) (sc := defScope s__law_cheapest) (by decide +kernel)) (fun _ _ _ _ _ => (pg_name (i := 9) sc__law_cheapest.nd rfl (Or.inl rfl))) (fun _ _ _ _ _ => pts_nil) (fun _ _ _ _ _ => (pe_ifExp (pt_cmpR op_eq (pv 9) (pv 8) (nomark _)) (pv 7) (pv 9)))))) pss_nil))))
      (pss_one (ps_ret (pe_tup (pa_cons (pv 3) (pa_cons (pv 2) pa_nil)))))))), ?_⟩
    refine ⟨_, rfl, (n : Int), rfl, RgOk.of_le (by omega) (by omega) (by omega) (by omega), fun pl0 hpl0 => ?_⟩
    have hrg : rgV 0 (n : Int) = vN (List.range n) := by
      unfold rgV vN
      rw [show ((n : Int) - 0).toNat = n by omega]
      apply List.map_congr_left
      intro i _
      rw [Int.zero_add]
    rw [hrg]
    have e0 : Same H (upd H pl0 (.lst (vN (List.range n)))) := same_new hpl0
    have hp0 : upd H pl0 (.lst (vN (List.range n))) pl0 = some (.lst (vN (List.range n))) := upd_same
    generalize upd H pl0 (.lst (vN (List.range n))) = H1 at e0 hp0
    dsimp only
    refine q_asgE ev_c (fun H2 e2 => ?_)
    have e2' := Same.trans e0 e2
    have hp2 := e2 _ _ hp0
    -- the comprehension
    refine ⟨_, rfl, ol, rfl, ⟨_, SqL.of (e2' _ _ g1)⟩, fun D hD => ?_⟩
    refine lc_list (xs := as.map V.ref) (fun i H' => ∃ ts : List Addr, H' D = some (.lst (ts.map V.ref)) ∧ ts.length = i ∧ (∀ (j : Nat) t o, ts[j]? = some t → os[j]? = some o → H' t = some (.tup [.int o.2.2, .int (o.1 : Int), .int (o.2.1 : Int)])) ∧ Same H2 H') ⟨[], upd_same, rfl, fun j t o h => by simp at h, same_new hD⟩ (fun i H' _ ⟨_, _, _, _, e⟩ => SqL.of (e _ _ (e2' _ _ g1))) (fun i x H' hi ⟨ts, hDi, hts, hal, e⟩ => ?_) (fun H' ⟨ts, hDi, hts, hal, e⟩ => ?_)
    · have hil : i < as.length := by
        have := (List.getElem?_eq_some_iff.mp hi).1
        simpa using this
      have hio : i < os.length := by rw [← g2.1]; exact hil
      have hx : x = .ref as[i] := by
        rw [List.getElem?_map, List.getElem?_eq_getElem hil] at hi
        exact (Option.some.inj hi).symm
      subst hx
      have ht := e _ _ (e2' _ _ (g2.2 i _ _ (List.getElem?_eq_getElem hil) (List.getElem?_eq_getElem hio)))
      refine ⟨as[i], _, rfl, SqT.of ht, rfl, _, _, rfl, _, _, rfl, _, _, rfl, rfl, rfl, ?_⟩
      refine iteT (B := True) ?_
      refine ⟨_, rfl, _, rfl, _, rfl, by show 3 ≤ sizeLine; decide, fun tp htp => ?_⟩
      have hD2 := same_new htp (o := .tup [.int os[i].2.2, .int (os[i].1 : Int), .int (os[i].2.1 : Int)]) _ _ hDi
      have ntD : tp ≠ D := fun q => by subst q; rw [hDi] at htp; cases htp
      have hlt : ts.length < 1000 := by omega
      refine ⟨_, hD2, by rw [List.length_map]; exact Nat.lt_trans hlt (by decide), ts ++ [tp], by rw [upd_same, List.map_append]; rfl, by rw [List.length_append, hts]; rfl, fun j t o h1 h2 => ?_, fun b u hb => ?_⟩
      · have kt : ∀ (b : Addr) (xs : List V), upd H' tp (.tup [.int os[i].2.2, .int (os[i].1 : Int), .int (os[i].2.1 : Int)]) b = some (.tup xs) → upd (upd H' tp (.tup [.int os[i].2.2, .int (os[i].1 : Int), .int (os[i].2.1 : Int)])) D (.lst (ts.map V.ref ++ [V.ref tp])) b = some (.tup xs) := fun b xs h => by
          rw [upd_ne (ne_of h hD2 (by intro z; cases z))]; exact h
        by_cases hj : j < ts.length
        · rw [List.getElem?_append_left hj] at h1
          exact kt _ _ (same_new htp _ _ (hal j t o h1 h2))
        · rw [List.getElem?_append_right (by omega)] at h1
          cases q : j - ts.length with
          | zero =>
            rw [q] at h1
            have hji : j = i := by omega
            subst hji
            rw [List.getElem?_eq_getElem hio] at h2
            cases h1; cases h2
            exact kt _ _ upd_same
          | succ m => rw [q] at h1; simp at h1
      · rw [upd_ne (ne_of_none hb hD)]
        exact same_new htp _ _ (e _ _ hb)
    rw [List.length_map, g2.1] at hts
    have hmem : ∀ y ∈ ts.map V.ref, ∃ (t : Addr) (o : Nat × Nat × Int), y = .ref t ∧ o ∈ os ∧ H' t = some (.tup [.int o.2.2, .int (o.1 : Int), .int (o.2.1 : Int)]) := fun y hy => by
      obtain ⟨t, ht, rfl⟩ := List.mem_map.mp hy
      obtain ⟨j, hj, rfl⟩ := List.getElem_of_mem ht
      have hjo : j < os.length := by rw [← hts]; exact hj
      exact ⟨_, os[j], rfl, List.getElem_mem hjo, hal j _ _ (List.getElem?_eq_getElem hj) (List.getElem?_eq_getElem hjo)⟩
    refine ⟨D, _, rfl, SqL.of hDi, by rw [List.length_map, hts]; exact hl, fun y hy => ?_, fun ys sl hperm hsort hsl => ?_⟩
    · obtain ⟨t, o, rfl, ho, ht⟩ := hmem y hy
      obtain ⟨o1, o2, o3, o4⟩ := hok o ho
      refine ⟨[o.2.2, (o.1 : Int), (o.2.1 : Int)], ⟨t, rfl, SqT.of ht⟩, rfl, fun m hm => ?_⟩
      simp only [List.mem_cons, List.not_mem_nil, or_false] at hm
      rcases hm with q | q | q <;> subst q
      · exact ⟨o3, o4⟩
      · exact ⟨by omega, by omega⟩
      · exact ⟨by omega, by omega⟩
    have hys : ∀ y ∈ ys, ∃ (t : Addr) (o : Nat × Nat × Int), y = .ref t ∧ o ∈ os ∧ H' t = some (.tup [.int o.2.2, .int (o.1 : Int), .int (o.2.1 : Int)]) := fun y hy => hmem y (hperm.mem_iff.mp hy)
    have hsp : (ys.map (rdE H')).Perm (os.map kEdge) := by
      refine (hperm.map (rdE H')).trans ?_
      have : (ts.map V.ref).map (rdE H') = os.map kEdge := by
        rw [List.map_map]
        apply List.ext_getElem
        · rw [List.length_map, List.length_map, hts]
        · intro j h1 h2
          rw [List.length_map] at h1 h2
          rw [List.getElem_map, List.getElem_map]
          exact rdE_at (e := kEdge os[j]) (hal j _ _ (List.getElem?_eq_getElem h1) (List.getElem?_eq_getElem h2))
      rw [this]
    have hss : (ys.map (rdE H')).Pairwise (fun e f => e.1 ≤ f.1) := by
      rw [List.pairwise_map]
      refine List.Pairwise.imp_of_mem (fun {x y} hx hy hxy => ?_) hsort
      obtain ⟨t, o, rfl, ho, ht⟩ := hys x hx
      obtain ⟨t', o', rfl, ho', ht'⟩ := hys y hy
      obtain ⟨o1, o2, o3, o4⟩ := hok o ho
      obtain ⟨p1, p2, p3, p4⟩ := hok o' ho'
      rw [rdE_at (e := kEdge o) ht, rdE_at (e := kEdge o') ht']
      have := hxy [o.2.2, (o.1 : Int), (o.2.1 : Int)] [o'.2.2, (o'.1 : Int), (o'.2.1 : Int)] ⟨t, rfl, SqT.of ht⟩ ⟨t', rfl, SqT.of ht'⟩
      exact code_le (by omega) (by omega) (by omega) (by omega) this
    have eH : Same H2 (upd H' sl (.lst ys)) := Same.trans e (same_new hsl)
    have hys3 : ∀ y ∈ ys, ∃ (t : Addr) (o : Nat × Nat × Int), y = .ref t ∧ o ∈ os ∧ rdE H' y = kEdge o ∧ upd H' sl (.lst ys) t = some (.tup [.int o.2.2, .int (o.1 : Int), .int (o.2.1 : Int)]) := fun y hy => by
      obtain ⟨t, o, h1, h2, h3⟩ := hys y hy
      exact ⟨t, o, h1, h2, by rw [h1]; exact rdE_at (e := kEdge o) h3, same_new hsl _ _ h3⟩
    have hsl3 : upd H' sl (.lst ys) sl = some (.lst ys) := upd_same
    generalize upd H' sl (.lst ys) = H3 at eH hys3 hsl3
    generalize rdE H' = rd at hsp hss hys3
    have e3' := Same.trans e2' eH
    refine ⟨sl, rfl, ⟨_, SqL.of hsl3⟩, for_list (xs := ys) (fun i σ' H' => ∃ (pl : Addr) (v4 v5 v6 v7 v8 v9 : Option V), σ' = [some (.int (n : Int)), some (.ref ol), some (.ref pl), some (.int ((ys.map rd).take i |>.foldl kstep (0, List.range n)).1), v4, v5, v6, v7, v8, v9] ∧ H' pl = some (.lst (vN ((ys.map rd).take i |>.foldl kstep (0, List.range n)).2)) ∧ Same H3 H' ∧ H pl = none)
      ⟨pl0, _, _, _, _, _, _, rfl, eH _ _ hp2, Same.refl _, hpl0⟩ (fun i σ' H' _ ⟨_, _, _, _, _, _, _, _, _, e, _⟩ => SqL.of (e _ _ hsl3)) (fun i y σ' H' hi ⟨pl, v4, v5, v6, v7, v8, v9, es, hpl, e, hfr⟩ => ?_) (fun σ' H' ⟨pl, v4, v5, v6, v7, v8, v9, es, hpl, e, hfr⟩ => ?_)⟩
    · subst es
      obtain ⟨t, o, rfl, ho, hrd, ht⟩ := hys3 y (List.mem_of_getElem? hi)
      obtain ⟨o1, o2, _, _⟩ := hok o ho
      have hstep := foldl_takeL kstep (0, List.range n) (ys.map rd) (i := i) (x := kEdge o) (by rw [List.getElem?_map, hi]; exact congrArg some hrd)
      rw [hstep]
      have hlen : ((ys.map rd).take i |>.foldl kstep (0, List.range n)).2.length = n := by rw [ksteps_len, List.length_range]
      generalize ((ys.map rd).take i |>.foldl kstep (0, List.range n)) = st at hpl hlen
      refine ⟨t, _, rfl, SqT.of (e _ _ ht), rfl, _, _, rfl, _, _, rfl, _, _, rfl, rfl, ?_⟩
      have ga : st.2[o.1]? = some (st.2.getD o.1 0) := by rw [List.getD_eq_getElem?_getD, List.getElem?_eq_getElem (by omega)]; rfl
      have gb : st.2[o.2.1]? = some (st.2.getD o.2.1 0) := by rw [List.getD_eq_getElem?_getD, List.getElem?_eq_getElem (by omega)]; rfl
      have hk : kstep st (kEdge o) = if st.2.getD o.1 0 = st.2.getD o.2.1 0 then st else (st.1 + o.2.2, st.2.map fun x => if x = max (st.2.getD o.1 0) (st.2.getD o.2.1 0) then min (st.2.getD o.1 0) (st.2.getD o.2.1 0) else x) := rfl
      rw [hk]
      generalize st.2.getD o.1 0 = ra at ga
      generalize st.2.getD o.2.1 0 = rb at gb
      have hv : EvA (tCons (tOp (rIxL K) (tVar 2) (tVar 5)) (tCons (tOp (rIxL K) (tVar 2) (tVar 6)) tNil)) [some (.int (n : Int)), some (.ref ol), some (.ref pl), some (.int st.1), some (.int o.2.2), some (.int (o.1 : Int)), some (.int (o.2.1 : Int)), v7, v8, v9] H' [.int (ra : Int), .int (rb : Int)] :=
        ea_cons (ev_ixl (ev_var rfl) hpl (ev_var rfl) (at_N ga)) (ea_cons (ev_ixl (ev_var rfl) hpl (ev_var rfl) (at_N gb)) ea_nil)
      refine q_sorted2 hv fun p H5 e5 h5 => ?_
      refine ⟨p, _, rfl, SqL.of h5, rfl, _, _, rfl, _, _, rfl, rfl, ?_⟩
      by_cases hab : ra = rb
      · subst hab
        rw [if_pos rfl]
        refine s_if (b := false) (et_is (et_test (ev_op (ev_var rfl) (ev_var rfl) (rv_ne rfl))) ?_) (fun h => nomatch h) (fun _ H6 e6 => ?_)
        · rw [Nat.min_self, Nat.max_self, decide_eq_true rfl]; rfl
        · exact ⟨pl, _, _, _, _, _, _, rfl, e6 _ _ (e5 _ _ hpl), Same.trans (Same.trans e e5) e6, hfr⟩
      · rw [if_neg hab]
        refine s_if (b := true) (et_is (et_test (ev_op (ev_var rfl) (ev_var rfl) (rv_ne rfl))) ?_) (fun _ H6 e6 => ?_) (fun h => nomatch h)
        · rw [decide_eq_false (fun q => by injection q with q; omega)]; rfl
        · refine q_asg (ev_op (ev_var rfl) (ev_var rfl) rv_I0) (fun H7 e7 => ?_)
          have hpl6 := e7 _ _ (e6 _ _ (e5 _ _ hpl))
          refine s_asgL (el_allL (ys := st.2) (g := fun x : Nat => V.int (x : Int)) (fun x => .int ((if x = max ra rb then min ra rb else x : Nat) : Int)) (ev_var rfl) (sq_of hpl6) (by omega) (fun _ => rfl) (fun x _ H8 e8 => ev_if (b := decide (x = max ra rb)) (et_is (et_test (ev_op (ev_var rfl) (ev_var rfl) (rv_eq rfl))) ?_) (fun h => ?_) (fun h => ?_))) (fun pl' H8 hpl' e8 h8 => ⟨pl', _, _, _, _, _, _, rfl, ?_, Same.trans (Same.trans (Same.trans (Same.trans e e5) e6) e7) e8, none_back (fun b o hb => e7 _ _ (e6 _ _ (e5 _ _ (e _ _ (e3' _ _ hb))))) hpl'⟩)
          · rw [Bool.eq_iff_iff, decide_eq_true_iff, decide_eq_true_iff]
            exact ⟨fun q => (by injection q with q; exact Int.ofNat.inj q), fun q => by rw [q]⟩
          · rw [if_pos (of_decide_eq_true h)]
            exact ev_var rfl
          · rw [if_neg (of_decide_eq_false h)]
            exact ev_var rfl
          · rw [h8]
            unfold vN
            rw [List.map_map]; rfl
    · subst es
      have hfull : (ys.map rd).take ys.length = ys.map rd := List.take_of_length_le (by rw [List.length_map]; exact Nat.le_refl _)
      rw [hfull] at hpl ⊢
      refine s_retU (eu_tup (vs := [.int (kruskal n (ys.map rd)).1, .ref pl]) (ea_cons (ev_var rfl) (ea_cons (ev_var rfl) ea_nil)) (by show 2 ≤ 100000; decide)) (fun t H4 _ e4 h4 => k _ t pl H4 hsp hss (Same.trans (Same.trans e3' e) e4) h4 (e4 _ _ hpl) hfr)
end
end K73
end
section
set_option maxHeartbeats 4000000
namespace K73
open PySem PySem.Spec PyProof.Rows L2 Evl
/-! ### the law's own: right -/
def atO (os : List (Nat × Nat × Int)) (k : Nat) : Nat × Nat × Int := os.getD k (0, 0, 0)
def DearOk (n : Nat) (os : List (Nat × Nat × Int)) (ks : List Nat) (rows : List (Nat × List Nat)) (k : Nat) (z : Int) (b : Bool) : Prop :=
  ShowOk n (os.set k ((atO os k).1, (atO os k).2.1, z)) ks rows ∧ shown (os.set k ((atO os k).1, (atO os k).2.1, z)) rows = b
def SlackOk (n : Nat) (os : List (Nat × Nat × Int)) (ks : List Nat) (rows : List (Nat × List Nat)) (k : Nat) : Option Int → Prop
  | none => DearOk n os ks rows k 100000000000000000000000000000 true
  | some m => DearOk n os ks rows k m true ∧ DearOk n os ks rows k (m + 1) false
structure RightOk (n : Nat) (os : List (Nat × Nat × Int)) (p : LP) (rows : List (Nat × List Nat)) (c1 c2 : C) (ks : List Nat) : Prop where
  off : Offereds (lp0 n) os p
  offs : p.offs = os
  len : p.spots.length < 64
  inb : ∀ e ∈ p.spots, e.1 < os.length
  kept : ∀ ys : List Nat, ys.Perm (p.spots.map (·.1)) → ys.Pairwise (· ≤ ·) → ys = ks
  pap : PaperR p p.c (freeOf p) rows c1
  pap2 : PaperR { p with c := c1 } c1 (freeOf p) rows c2
  rowsb : ∀ r ∈ rows, r.1 < os.length ∧ r.2.length ≤ 1000 ∧ ∀ x ∈ r.2, x < os.length
  show_ : ShowOk n os ks rows
  shown_ : shown os rows = true
  price : ∀ srt : List (Int × Nat × Nat), srt.Perm (os.map kEdge) → srt.Pairwise (fun e f => e.1 ≤ f.1) → (kruskal n srt).1 = priceOf p ∧
    ∀ srt' : List (Int × Nat × Nat), srt'.Perm ((ks.map (atO os)).map kEdge) → srt'.Pairwise (fun e f => e.1 ≤ f.1) → kruskal n srt' = kruskal n srt
  shuf : ∀ os' : List (Nat × Nat × Int), os'.Perm os → ∃ p', Offereds (lp0 n) os' p' ∧ p'.spots.length < 64 ∧ (∀ e ∈ p'.spots, e.1 < p'.offs.length) ∧ priceOf p' = priceOf p
  slack : ∀ k ∈ ks, SlackOk n os ks rows k ((rows.foldl (sl2 os) (List.replicate os.length none)).getD k none)
theorem Lt.frp {K : PySem.W.Frag} {L : LA} {A : SA} {p : LP} {j : J} {H H' : Hp} {pa ca : Addr} {B : Nat} (Y : Lt K L A p j H) (hp : PotOk H pa ca B) (n1 : ¬ MutL A L pa) (n2 : ¬ MutL A L ca) (F : FrP pa ca H H') : Lt K L A p j H' := by
  obtain ⟨cells, tot, cnt, hpp, _⟩ := hp
  have ko : ∀ b o, H b = some o → (∀ xs, o ≠ .lst xs) → H' b = some o := fun b o hb hn => F _ _ hb (fun e => hn _ (by subst e; rw [hpp.pot] at hb; exact (Option.some.inj hb).symm)) (fun e => hn _ (by subst e; rw [hpp.cel] at hb; exact (Option.some.inj hb).symm))
  have km : ∀ b o, MutL A L b → H b = some o → H' b = some o := fun b o hm hb => F _ _ hb (fun e => n1 (e ▸ hm)) (fun e => n2 (e ▸ hm))
  refine ⟨ko _ _ Y.ob (by intro xs e; cases e), ?_, ?_, ko _ _ Y.ds (by intro xs e; cases e), ko _ _ Y.dn (by intro xs e; cases e), Y.nlo, Y.ne⟩
  · obtain ⟨dx, how⟩ := Y.ways.ob
    refine ⟨⟨dx, ko _ _ how (by intro xs e; cases e)⟩, Y.ways.arr.keep fun b o hb hc => ?_⟩
    rcases hc with hc | hc | ⟨xs, hc⟩
    · subst hc
      rw [Y.ways.arr.ob] at hb
      exact ko _ _ (by rw [Y.ways.arr.ob]; exact hb) (by intro xs e; subst e; cases hb)
    · exact km _ _ (Or.inl hc) hb
    · subst hc
      exact ko _ _ hb (by intro xs e; cases e)
  · obtain ⟨as, g1, g2⟩ := Y.off
    exact ⟨as, km _ _ (Or.inr (Or.inl rfl)) g1, g2.mono fun a xs h => ko _ _ h (by intro ys e; cases e)⟩
theorem atO_at {os : List (Nat × Nat × Int)} {k : Nat} (h : k < os.length) : os[k]? = some (atO os k) := by
  unfold atO
  rw [List.getD_eq_getElem?_getD, List.getElem?_eq_getElem h]; rfl
theorem eqv_ints (ns : List Int) : PyData.eqvAll (ns.map PyData.int) (ns.map PyData.int) = true := by
  induction ns with
  | nil => rfl
  | cons n r ih =>
    show ((n == n) && PyData.eqvAll (r.map PyData.int) (r.map PyData.int)) = true
    rw [ih, beq_self_eq_true]; rfl
theorem vN_I (xs : List Nat) : vN xs = (xs.map fun x : Nat => (x : Int)).map V.int := by unfold vN; rw [List.map_map]; rfl
theorem dp_pair {K : PySem.W.Frag} {H : Hp} {t pl : Addr} {z : Int} {xs : List Nat} (h1 : H t = some (.tup [.int z, .ref pl])) (h2 : H pl = some (.lst (vN xs))) : Dp K H (.ref t) (.tuple [.int z, .list ((xs.map fun x : Nat => (x : Int)).map PyData.int)]) :=
  .tup (SqT.of h1) (.cons (.int z) (.cons (.lst (SqL.of h2) (by rw [vN_I]; exact dp_ints _)) .nil))
theorem shp_pair (z : Int) (ns : List Int) : SeqAt.shaped (.tuple [.int z, .list (ns.map PyData.int)]) = true := by
  unfold SeqAt.shaped
  rw [Bool.and_eq_true]
  refine ⟨?_, ?_⟩
  · show (true && (PyData.canLayAll0 (ns.map PyData.int) && true)) = true
    rw [lay_ints]; rfl
  · show decide (max 0 (max (PyData.depthAll (ns.map PyData.int) + 1) 0) + 1 ≤ 64) = true
    rw [dep_ints]; rfl
theorem eqv_pair (z : Int) (ns : List Int) : PyData.eqv (.tuple [.int z, .list (ns.map PyData.int)]) (.tuple [.int z, .list (ns.map PyData.int)]) = true := by
  show ((z == z) && (PyData.eqvAll (ns.map PyData.int) (ns.map PyData.int) && true)) = true
  rw [eqv_ints, beq_self_eq_true]; rfl
section
variable {P : Program} {w : World} {K : PySem.W.Frag} {mg : Str → Option Value} {base : Heap}
def sp__law_right (K : PySem.W.Frag) : Sp := fun vs H Q _ => ∃ (pa ca ol : Addr) (B n : Nat) (os : List (Nat × Nat × Int)) (p : LP) (rows : List (Nat × List Nat)) (c1 c2 : C) (ks : List Nat), vs = [.ref pa, .int (n : Int), .ref ol] ∧ PotOk H pa ca B ∧ B < 700000 ∧ OffL H ol os ∧ ol ≠ pa ∧ ol ≠ ca ∧ 1 ≤ n ∧ n ≤ 40 ∧ os.length ≤ 63 ∧ OsOk n os ∧ RightOk n os p rows c1 c2 ks ∧
  ∀ H', PotOk H' pa ca (B + 100) → FrP pa ca H H' → Q (.bl true) H'
-- 0 _law_pot_here, 1 _law_many, 2 _law_offers_here, 3 _law_light_here, 4 _law_total, 5 _law_parts, 6 _law_kept, 7 _law_pair, 8 _law_number, 9 _law_slacks, 10 _law_most
abbrev n__law_right : List Str := ["_law_pot_here", "_law_many", "_law_offers_here", "_law_light_here", "_law_total", "_law_parts", "_law_kept", "_law_pair", "_law_number", "_law_slacks", "_law_most"]
theorem sc__law_right : FnScope n__law_right ["_law_pot_here", "_law_many", "_law_offers_here"] (defScope s__law_right) := ⟨rfl, rfl, rfl, by decide +kernel, rfl, by decide +kernel, by decide +kernel⟩
theorem ok__law_right (T : Txt w K mg) : Good P w K mg base 14 (He.ga K "_law_right") ["_law_pot_here", "_law_many", "_law_offers_here"] (sp__law_right K) := by
  refine good_mk T.D__law_right sc__law_right (fun _ _ _ _ _ _ us hl => match us, hl with | [_, _, _], _ => rfl) (fun vs H Q E h => ?_) (fun cdv A0 outer s H vs Q E hr h => ?_)
  · obtain ⟨pa, ca, ol, B, n, os, p, rows, c1, c2, ks, rfl, _⟩ := h
    rfl
  · obtain ⟨pa, ca, ol, B, n, os, p, rows, c1, c2, ks, rfl, hp, hB, O, n1, n2, hn1, hn2, hl, hok, R, k⟩ := h
    refine ⟨_, (pss_cons (ps_set (i := 3) sc__law_right.nd rfl (Or.inl rfl) (pe_f (ok__law_light T) (hr.mono (by decide)) T.g__law_light (pa_cons (pv 1) (pa_cons (pv 2) pa_nil))))
      (pss_cons (ps_asg (pe_f (ok__law_cheapest T) (hr.mono (by decide)) T.g__law_cheapest (pa_cons (pv 1) (pa_cons (pv 2) pa_nil))) (pg_tup rfl (pgs_cons (pg_name (i := 4) sc__law_right.nd rfl (Or.inl rfl)) (pgs_cons (pg_name (i := 5) sc__law_right.nd rfl (Or.inl rfl)) pgs_nil))))
      (pss_cons (ps_par (i := 6) (j := 7) rfl sc__law_right.nd rfl rfl (by decide) rfl rfl (pa_cons (pe_m0 (pv 3) T.clL T.mL_kept (ok_Lightest_kept T) (hr.mono (by decide))) (pa_cons (pe_tup (pa_cons (pe_m0 (pv 3) T.clL T.mL_kept (ok_Lightest_kept T) (hr.mono (by decide))) (pa_cons (pe_m0 (pv 3) T.clL T.mL_paper (ok_Lightest_paper T) (hr.mono (by decide))) pa_nil))) pa_nil)) (by rfl))
      (pss_cut (ps_if (PW.pt (pw_or (pt_cmpR op_ne (pe_m0 (pv 3) T.clL T.mL_price (ok_Lightest_price T) (hr.mono (by decide))) (pv 4) (nomark _)) (pw_or1 (pt_not (pt_val (pe_f (ok_shows_lightest T) (hr.mono (by decide)) T.g_shows_lightest (pa_cons (pv 1) (pa_cons (pe_tupleOf rfl T.z_tuple (pv 2)) (pa_cons (pv 7) pa_nil))))))))) (pss_one (ps_ret pe_bl)) pss_nil)
      (pss_cut (ps_if (pt_cmpR (op_neD hr.units) (pe_f (ok__law_cheapest T) (hr.mono (by decide)) T.g__law_cheapest (pa_cons (pv 1) (pa_cons (pe_lc (own := [("_law_number", 8)]) (g := gName 8) (tt := tYes) (te := (tOp (rIxL K) (tVar 2) (tVar 8))) (by rfl) sc__law_right.nd (pi_tup (pv 6)) (blkOk_by (own := [("_law_number", 8)]) (N := n__law_right) (sc := defScope s__law_right) (by decide +kernel)) (fun _ _ _ _ _ => (pg_name (i := 8) sc__law_right.nd rfl (Or.inl rfl))) (fun _ _ _ _ _ => pts_nil) (fun _ _ _ _ _ => (pe_ix ix_list (pv 2) (pv 8) (fun _ _ => rfl)))) pa_nil))) (pe_tup (pa_cons (pv 4) (pa_cons (pv 5) pa_nil))) (nomark _)) (pss_one (ps_ret pe_bl)) pss_nil)
      (pss_cut (ps_if (pt_cmpR op_ne (pe_m0 (pe_f (ok__law_light T) (hr.mono (by decide)) T.g__law_light (pa_cons (pv 1) (pa_cons (pe_f (ok__law_shuffled T) (hr.mono (by decide)) T.g__law_shuffled (pa_cons (pv 0) (pa_cons (pv 2) pa_nil))) pa_nil))) T.clL T.mL_price (ok_Lightest_price T) (hr.mono (by decide))) (pv 4) (nomark _)) (pss_one (ps_ret pe_bl)) pss_nil)
      (pss_cons (ps_set (i := 9) sc__law_right.nd rfl (Or.inl rfl) (pe_m0 (pv 3) T.clL T.mL_slacks (ok_Lightest_slacks T) (hr.mono (by decide))))
      (pss_cons (ps_for PassesOwn.never rfl (pi_tup (pv 6)) (pg_name (i := 8) sc__law_right.nd rfl (Or.inl rfl)) (pss_cons (ps_set (i := 10) sc__law_right.nd rfl (Or.inl rfl) (pe_ix ix_tup (pv 9) (pv 8) (fun _ _ => rfl)))
        (pss_one (ps_if (pt_cmpR op_notN (pv 10) pe_non (nomark _)) (pss_cut (ps_if (pt_cmpR op_isnot_bl (pe_f (ok_shows_lightest T) (hr.mono (by decide)) T.g_shows_lightest (pa_cons (pv 1) (pa_cons (pe_f (ok__law_dearer T) (hr.mono (by decide)) T.g__law_dearer (pa_cons (pv 2) (pa_cons (pv 8) (pa_cons (pv 10) pa_nil)))) (pa_cons (pv 7) pa_nil)))) pe_bl (nomark _)) (pss_one (ps_ret pe_bl)) pss_nil)
          (pss_one (ps_if (pt_cmpR op_isnot_bl (pe_f (ok_shows_lightest T) (hr.mono (by decide)) T.g_shows_lightest (pa_cons (pv 1) (pa_cons (pe_f (ok__law_dearer T) (hr.mono (by decide)) T.g__law_dearer (pa_cons (pv 2) (pa_cons (pv 8) (pa_cons (pe_op op_add (pv 10) pe_int) pa_nil)))) (pa_cons (pv 7) pa_nil)))) pe_bl (nomark _)) (pss_one (ps_ret pe_bl)) pss_nil))) (pss_one (ps_if (pt_cmpR op_isnot_bl (pe_f (ok_shows_lightest T) (hr.mono (by decide)) T.g_shows_lightest (pa_cons (pv 1) (pa_cons (pe_f (ok__law_dearer T) (hr.mono (by decide)) T.g__law_dearer (pa_cons (pv 2) (pa_cons (pv 8) (pa_cons (pe_op op_pow pe_int pe_int) pa_nil)))) (pa_cons (pv 7) pa_nil)))) pe_bl (nomark _)) (pss_one (ps_ret pe_bl)) pss_nil))))))
      (pss_one (ps_ret pe_bl)))))))))), ?_⟩
    obtain ⟨as, g1, g2⟩ := O
    have O : OffL H ol os := ⟨as, g1, g2⟩
    have hoffs := R.offs
    -- light
    refine call_fA (ea_cons (ev_var rfl) (ea_cons (ev_var rfl) ea_nil)) fun H1 e1 => ?_
    refine ⟨n, ol, os, p, rfl, by omega, O.mono e1, R.off, fun L A j H2 Y2 s2 fr2 => ?_⟩
    have s2 := Same.trans e1 s2
    have fr : ∀ a, MutL A L a → H a = none := fun a ha => none_back (fun b o hb => e1 _ _ hb) (fr2 a ha)
    have sF : ∀ {H3 H4 : Hp}, Same H H3 → FrL A L H3 H4 → Same H H4 := fun e F b o hb => F _ _ (e _ _ hb) fun m => by rw [fr b m] at hb; cases hb
    -- cheapest
    dsimp only
    refine call_fA (ea_cons (ev_var rfl) (ea_cons (ev_var rfl) ea_nil)) fun H3 e3 => ?_
    have s3 := Same.trans s2 e3
    refine ⟨n, ol, os, rfl, by omega, O.mono s3, by omega, hok, fun srt t pl H4 hperm hsort e4 ht hpl hplf => ?_⟩
    obtain ⟨hprice, hkru⟩ := R.price srt hperm hsort
    have s4 := Same.trans s3 e4
    have Y4 := (Y2.ex e3).ex e4
    refine ⟨t, _, rfl, SqT.of ht, rfl, _, _, rfl, _, _, rfl, rfl, ?_⟩
    -- kept, kept, paper
    refine call_m (val_var rfl) Y4.ob (lf_no (by decide +kernel)) vala_nil ?_
    refine ⟨L, A, p, j, rfl, Y4, R.len, fun ys kt H5 hys hyo e5 _ hkt => ?_⟩
    have := R.kept ys hys hyo
    subst this
    have Y5 := Y4.ex e5
    refine call_m (val_var rfl) Y5.ob (lf_no (by decide +kernel)) vala_nil ?_
    refine ⟨L, A, p, j, rfl, Y5, R.len, fun ys2 kt2 H6 hys2 hyo2 e6 _ hkt2 => ?_⟩
    have := R.kept ys2 hys2 hyo2
    subst this
    have Y6 := Y5.ex e6
    refine call_m (val_var rfl) Y6.ob (lf_no (by decide +kernel)) vala_nil ?_
    refine ⟨L, A, p, j, rows, c1, rfl, Y6, by rw [hoffs]; omega, R.pap, fun j7 H7 pt Y7 F7 hpt => ?_⟩
    refine ⟨by show 2 ≤ sizeLine; decide, fun pr hpr => ⟨_, _, rfl, ?_⟩⟩
    have nmpl : ¬ MutL A L pl := (Y2.ex e3).mnone hplf
    have s6 := Same.trans (Same.trans s4 e5) e6
    have s7 := sF s6 F7
    have hpl7 := F7 _ _ (e6 _ _ (e5 _ _ hpl)) nmpl
    have hkt7 := F7 _ _ (e6 _ _ hkt) (Y6.mtup (e6 _ _ hkt))
    have hkt27 := F7 _ _ hkt2 (Y6.mtup hkt2)
    have e8 : Same H7 (upd H7 pr (.tup [.ref kt2, .ref pt])) := same_new hpr
    have hpr8 : upd H7 pr (.tup [.ref kt2, .ref pt]) pr = some (.tup [.ref kt2, .ref pt]) := upd_same
    have s8 := Same.trans s7 e8
    have Y8 := Y7.ex e8
    generalize upd H7 pr (.tup [.ref kt2, .ref pt]) = H8 at e8 hpr8 s8 Y8
    have hpl8 := e8 _ _ hpl7
    have hkt8 := e8 _ _ hkt7
    have hkt28 := e8 _ _ hkt27
    have hpt8 : PaperAt H8 pt rows := by
      obtain ⟨ts, h1, h2⟩ := hpt
      exact ⟨ts, e8 _ _ h1, h2.mono fun a xs h => e8 _ _ h⟩
    clear hkt hkt2 hpt hpl7 hkt7 hkt27 hpl
    dsimp only
    -- the proof of some offers
    have hsh : ∀ {H' : Hp} {σ : L2.St} {os' : List (Nat × Nat × Int)} {bb : Bool} {t3 : TE}, FrP pa ca H8 H' → PotOk H8 pa ca B → σ[1]? = some (some (.int (n : Int))) → σ[7]? = some (some (.ref pr)) → ShowOk n os' ys2 rows → shown os' rows = bb → (∀ H1, Same H' H1 → ∀ Q : VK, (∀ ot H2, Same H1 H2 → OffT H2 ot os' → Q (.ref ot) H2) → t3 σ H1 Q) → Ev (tCall (sp_shows_lightest K) [] E0 (tCons (tVar 1) (tCons t3 (tCons (tVar 7) tNil)))) σ H' (.bl bb) := fun {H' σ os' bb t3} F hq h1 h7 hs hb h3 H1 e Q q =>
      ⟨_, h1, h3 H1 e _ fun ot H2 e2 ho => ⟨_, h7, by
        have kt : ∀ {a : Addr} {xs : List V}, H8 a = some (.tup xs) → H2 a = some (.tup xs) := fun h => e2 _ _ (e _ _ (F _ _ h (hq.nt h).1 (hq.nt h).2))
        refine ⟨n, ot, pr, kt2, pt, os', ys2, rows, rfl, ho, kt hpr8, kt hkt28, ?_, hs, fun H3 e3 => ?_⟩
        · obtain ⟨ts, h1, h2⟩ := hpt8
          exact ⟨ts, kt h1, h2.mono fun a xs h => kt h⟩
        · rw [hb]; exact q H3 (Same.trans e2 e3)⟩⟩
    have hp8 : PotOk H8 pa ca B := hp.ex s8
    have nmp : ¬ MutL A L pa := fun m => by
      obtain ⟨cc, tt, nn, hh, _⟩ := hp
      have := hh.pot
      rw [fr _ m] at this; cases this
    have nmc : ¬ MutL A L ca := fun m => by
      obtain ⟨cc, tt, nn, hh, _⟩ := hp
      have := hh.cel
      rw [fr _ m] at this; cases this
    have hinb8 : ∀ e ∈ p.spots, e.1 < p.offs.length := fun e he => by rw [hoffs]; exact R.inb e he
    have O8 := O.mono s8
    obtain ⟨as8, q1, q2⟩ := O8
    refine ⟨fun σ' H' => σ' = [some (.ref pa), some (.int (n : Int)), some (.ref ol), some (.ref L.q), some (.int (kruskal n srt).1), some (.ref pl), some (.ref kt), some (.ref pr), none, none, none] ∧ Same H8 H', s_if (b := false) (et_or (a := false) (b := false) (et_is (et_test (ev_op (ev_m (v := .int (priceOf p)) (ev_var rfl) Y8.ob (lf_no (by decide +kernel)) ea_nil fun H9 e9 Q q => ⟨L, A, _, j7, rfl, Y8.ex e9, R.len, hinb8, q⟩) (ev_var rfl) (rv_ne rfl))) (by rw [hprice, decide_eq_true rfl]; rfl)) fun _ => et_not (a := true) ?_) (fun h => nomatch h) (fun _ H9 e9 => ⟨rfl, e9⟩), ?_⟩
    · exact et_B (hsh (FrP.ex (Same.refl _)) hp8 rfl rfl R.show_ R.shown_ fun H1 e Q q => eu_tupList (ev_var rfl) (sq_of q1) H1 e _ fun ot H2 _ e2 h2 => q ot H2 e2 ⟨as8, h2, q2.mono fun a xs h => e2 _ _ (e _ _ h)⟩)
    rintro _ H9 ⟨rfl, e9⟩
    -- the cheapest of the kept
    have hmk : ∀ k ∈ ys2, k < os.length := fun k hk => R.show_.2.2.2.1 k hk
    refine ⟨fun σ' H' => σ' = [some (.ref pa), some (.int (n : Int)), some (.ref ol), some (.ref L.q), some (.int (kruskal n srt).1), some (.ref pl), some (.ref kt), some (.ref pr), none, none, none] ∧ Same H8 H', s_if (b := false) (et_test fun H10 e10 Q q => ?_) (fun h => nomatch h) (fun _ H10 e10 => ⟨rfl, Same.trans e9 e10⟩), ?_⟩
    · have e10 := Same.trans e9 e10
      refine ⟨_, rfl, ?_⟩
      have hcomp := el_allT (K := K) (σ := [some (.ref pa), some (.int (n : Int)), some (.ref ol), some (.ref L.q), some (.int (kruskal n srt).1), some (.ref pl), some (.ref kt), some (.ref pr), none, none, none]) (H := H10) (tl := tVar 6) (te := tOp (rIxL K) (tVar 2) (tVar 8)) (j := 8) (vs := [8]) (a := kt) (ys := ys2) (g := fun x : Nat => V.int (x : Int)) (fun x => .ref (as8.getD x 0)) (ev_var rfl) (st_of (e10 _ _ hkt8)) (Nat.le_trans R.show_.2.2.1 (by decide)) (fun _ => rfl) (fun x hx H11 e11 => ev_ixl (ev_var rfl) (e11 _ _ (e10 _ _ q1)) (ev_var rfl) (by
        have hx' : x < as8.length := by rw [q2.1]; exact hmk x hx
        rw [List.getElem?_map, List.getElem?_eq_getElem hx', List.getD_eq_getElem?_getD, List.getElem?_eq_getElem hx']; rfl))
      refine hcomp H10 (Same.refl _) _ fun lk H11 _ e11 hlk => ?_
      have e11' := Same.trans e10 e11
      have Ok : OffL H11 lk (ys2.map (atO os)) := ⟨ys2.map fun x => as8.getD x 0, by rw [hlk, List.map_map]; rfl, by rw [List.length_map, List.length_map], fun i a o h1 h2 => by
        rw [List.getElem?_map, Option.map_eq_some_iff] at h1 h2
        obtain ⟨x, hx, rfl⟩ := h1
        obtain ⟨x', hx', rfl⟩ := h2
        rw [hx] at hx'
        cases hx'
        have hxo := hmk x (List.mem_of_getElem? hx)
        have hxa : x < as8.length := by rw [q2.1]; exact hxo
        refine e11' _ _ (q2.2 x _ _ ?_ (atO_at hxo))
        rw [List.getD_eq_getElem?_getD, List.getElem?_eq_getElem hxa]; rfl⟩
      have hks : ys2.length < 64 := by rw [hys2.length_eq, List.length_map]; exact R.len
      refine ⟨n, lk, ys2.map (atO os), rfl, by omega, Ok, by rw [List.length_map]; exact hks, fun o ho => ?_, fun srt' t' pl' H12 hperm' hsort' e12 ht' hpl' _ => ?_⟩
      · obtain ⟨x, hx, rfl⟩ := List.mem_map.mp ho
        exact hok _ (List.mem_of_getElem? (atO_at (hmk x hx)))
      · have ek := hkru srt' hperm' hsort'
        rw [ek] at ht' hpl'
        refine eu_tup (vs := [.int (kruskal n srt).1, .ref pl]) (ea_cons (ev_var rfl) (ea_cons (ev_var rfl) ea_nil)) (by show 2 ≤ 100000; decide) H12 (Same.refl _) _ fun tt H13 _ e13 h13 => ?_
        have eP : Same H8 H13 := Same.trans (Same.trans e11' e12) e13
        refine ⟨_, _, dp_pair (e13 _ _ ht') (e13 _ _ hpl'), dp_pair h13 (eP _ _ hpl8), shp_pair _ _, shp_pair _ _, ?_⟩
        rw [eqv_pair]
        exact q H13 (Same.trans (Same.trans e11 e12) e13)
    rintro _ H10 ⟨rfl, e10⟩
    -- the shuffled
    refine ⟨fun σ' H' => σ' = [some (.ref pa), some (.int (n : Int)), some (.ref ol), some (.ref L.q), some (.int (kruskal n srt).1), some (.ref pl), some (.ref kt), some (.ref pr), none, none, none] ∧ FrP pa ca H8 H' ∧ PotOk H' pa ca (B + 100) ∧ Lt K L A { p with c := c1 } j7 H', ?_, ?_⟩
    · refine ⟨_, rfl, ?_⟩
      refine call_fA (ea_cons (ev_var rfl) (ea_cons (ev_var rfl) ea_nil)) fun H11 e11 => ?_
      have e11 := Same.trans e10 e11
      refine ⟨pa, ca, ol, os, B, rfl, hp8.ex e11, by omega, ⟨as8, e11 _ _ q1, q2.mono fun a xs h => e11 _ _ h⟩, hl, n1, n2, fun os' fl H12 hpm hfl hpt F12 _ _ _ => ?_⟩
      obtain ⟨p', hof', hlen', hin', hpr'⟩ := R.shuf os' hpm
      refine ⟨n, fl, os', p', rfl, by omega, hfl, hof', fun L' A' j' H13 Y13 e13 _ => ?_⟩
      have F13 : FrP pa ca H8 H13 := ((FrP.ex e11).trans F12).trans (FrP.ex e13)
      refine ⟨L'.q, _, _, rfl, Y13.ob, lf_no (by decide +kernel), ?_⟩
      refine ⟨L', A', p', j', rfl, Y13, hlen', hin', fun H14 e14 => ?_⟩
      refine ⟨_, rfl, rfl, _, rfl, ?_⟩
      rw [hpr', hprice, decide_eq_true rfl]
      refine iteF ⟨rfl, F13.trans (FrP.ex e14), (hpt.ex e13).ex e14, Y8.frp hp8 nmp nmc (F13.trans (FrP.ex e14))⟩
    rintro _ H11 ⟨rfl, F11, hp11, Y11⟩
    -- slacks
    refine call_m (val_var rfl) Y11.ob (lf_no (by decide +kernel)) vala_nil ?_
    refine ⟨L, A, { p with c := c1 }, j7, rows, c2, rfl, Y11, by show p.offs.length < 1000; rw [hoffs]; omega, R.pap2, fun r hr => by show _ < p.offs.length ∧ _ ∧ _; rw [hoffs]; exact R.rowsb r hr, fun j12 H12 st Y12 F12 hst => ?_⟩
    have hst : H12 st = some (.tup ((rows.foldl (sl2 os) (List.replicate os.length none)).map optV)) := by
      rw [← hoffs]; exact hst
    have sll : (rows.foldl (sl2 os) (List.replicate os.length none)).length = os.length := by rw [sl2s_len, List.length_replicate]
    have Fo : ∀ a o, H a = some o → a ≠ pa → a ≠ ca → H12 a = some o := fun a o ha m1 m2 => F12 _ _ (F11 _ _ (s8 _ _ ha) m1 m2) fun m => by rw [fr a m] at ha; cases ha
    have hp12 : PotOk H12 pa ca (B + 100) := by
      obtain ⟨cc, tt, nn, hh, hr⟩ := hp11
      exact ⟨cc, tt, nn, ⟨F12 _ _ hh.pot nmp, F12 _ _ hh.cel nmc, hh.ne⟩, hr⟩
    have F8 : ∀ {a : Addr} {xs : List V}, H8 a = some (.tup xs) → H12 a = some (.tup xs) := fun {a xs} h => by
      have h11 := F11 _ _ h (hp8.nt h).1 (hp8.nt h).2
      exact F12 _ _ h11 (Y11.mtup h11)
    have hq1 : H12 ol = some (.lst (as.map V.ref)) := Fo _ _ g1 n1 n2
    have hq2 : Offs H12 as os := g2.mono fun a xs h => Fo _ _ h (hp.nt h).1 (hp.nt h).2
    have hkt12 := F8 hkt8
    have FH : FrP pa ca H H12 := fun a o ha m1 m2 => Fo a o ha m1 m2
    have hall : ∀ {H' : Hp} {σ : L2.St} {k : Nat} {z : Int} {bb : Bool} {te : TE}, Same H12 H' → σ[1]? = some (some (.int (n : Int))) → σ[2]? = some (some (.ref ol)) → σ[7]? = some (some (.ref pr)) → σ[8]? = some (some (.int (k : Int))) → k < os.length → DearOk n os ys2 rows k z bb → Ev te σ H' (.int z) → Ev (tCall (sp_shows_lightest K) [] E0 (tCons (tVar 1) (tCons (tCall (sp__law_dearer K) [] E0 (tCons (tVar 2) (tCons (tVar 8) (tCons te tNil)))) (tCons (tVar 7) tNil)))) σ H' (.bl bb) := fun {H' σ k z bb te} e h1 h2 h7 h8 hk hd hz H1 e1 Q q =>
      ⟨_, h1, call_fA (ea_cons (ev_var h2) (ea_cons (ev_var h8) (ea_cons (fun H2 e2 => hz H2 (Same.trans e1 e2)) ea_nil))) fun H2 e2 => ⟨ol, os, k, (atO os k).1, (atO os k).2.1, (atO os k).2.2, z, rfl, ⟨as, e2 _ _ (e1 _ _ (e _ _ hq1)), hq2.mono fun a xs h => e2 _ _ (e1 _ _ (e _ _ h))⟩, by omega, atO_at hk, fun ot H3 ho e3 => ⟨_, h7, by
        have kt : ∀ {a : Addr} {xs : List V}, H8 a = some (.tup xs) → H3 a = some (.tup xs) := fun h => e3 _ _ (e2 _ _ (e1 _ _ (e _ _ (F8 h))))
        refine ⟨n, ot, pr, kt2, pt, _, ys2, rows, rfl, ho, kt hpr8, kt hkt28, ?_, hd.1, fun H4 e4 => ?_⟩
        · obtain ⟨ts, h1, h2⟩ := hpt8
          exact ⟨ts, kt h1, h2.mono fun a xs h => kt h⟩
        · rw [hd.2]; exact q H4 (Same.trans (Same.trans e2 e3) e4)⟩⟩⟩
    refine q_forT (xs := vN ys2) (ev_var rfl) (st_of hkt12) (fun i σ' H' => ∃ v8 v10 : Option V, σ' = [some (.ref pa), some (.int (n : Int)), some (.ref ol), some (.ref L.q), some (.int (kruskal n srt).1), some (.ref pl), some (.ref kt), some (.ref pr), v8, some (.ref st), v10] ∧ Same H12 H') (fun H13 e13 => ⟨_, _, rfl, e13⟩) (fun i σ' H' _ ⟨_, _, _, e⟩ => st_of (e _ _ hkt12)) (fun i y σ' H' hi ⟨v8, v10, es, e⟩ => ?_) (fun σ' H' ⟨v8, v10, es, e⟩ => ?_)
    · subst es
      have hil : i < ys2.length := by
        have := (List.getElem?_eq_some_iff.mp hi).1
        simpa [vN] using this
      have hy : y = .int ((ys2[i] : Nat) : Int) := by
        unfold vN at hi
        rw [List.getElem?_map, List.getElem?_eq_getElem hil] at hi
        exact (Option.some.inj hi).symm
      subst hy
      have hk : ys2[i] < os.length := hmk _ (List.getElem_mem hil)
      have hsl := R.slack _ (List.getElem_mem hil)
      generalize ys2[i] = kk at hk hsl
      have hat : ((rows.foldl (sl2 os) (List.replicate os.length none)).map optV)[kk]? = some (optV ((rows.foldl (sl2 os) (List.replicate os.length none)).getD kk none)) := by
        rw [List.getElem?_map, List.getD_eq_getElem?_getD, List.getElem?_eq_getElem (by rw [sll]; exact hk)]; rfl
      generalize (rows.foldl (sl2 os) (List.replicate os.length none)).getD kk none = sl at hsl hat
      refine q_asg (ev_ixt (ev_var rfl) (st_of (e _ _ hst)) (ev_var rfl) hat) (fun H13 e13 => ?_)
      have e13 := Same.trans e e13
      cases sl with
      | none =>
        refine s_if (b := false) (et_is (et_test (ev_op (ev_var rfl) ev_c (rv_val fun H1 _ Q q => ⟨rfl, q⟩))) (by rfl)) (fun h => nomatch h) (fun _ H14 e14 => ?_)
        have e14 := Same.trans e13 e14
        refine s_if (b := false) (et_is (et_test (ev_op (hall (z := 100000000000000000000000000000) (bb := true) e14 rfl rfl rfl rfl hk hsl (ev_is (ev_op ev_c ev_c (rv_I (i := 10) (j := 29) ⟨by decide, by decide, by decide⟩)) (by rfl))) ev_c (rv_val fun H1 _ Q q => ⟨_, _, rfl, rfl, q⟩))) (by rfl)) (fun h => nomatch h) (fun _ H15 e15 => ⟨_, _, rfl, Same.trans e14 e15⟩)
      | some m =>
        obtain ⟨d1, d2⟩ := hsl
        refine s_if (b := true) (et_is (et_test (ev_op (ev_var rfl) ev_c (rv_val fun H1 _ Q q => ⟨rfl, q⟩))) (by rfl)) (fun _ H14 e14 => ?_) (fun h => nomatch h)
        have e14 := Same.trans e13 e14
        refine ⟨fun σ'' H'' => σ'' = [some (.ref pa), some (.int (n : Int)), some (.ref ol), some (.ref L.q), some (.int (kruskal n srt).1), some (.ref pl), some (.ref kt), some (.ref pr), some (.int (kk : Int)), some (.ref st), some (.int m)] ∧ Same H12 H'', s_if (b := false) (et_is (et_test (ev_op (hall (z := m) (bb := true) e14 rfl rfl rfl rfl hk d1 (ev_var rfl)) ev_c (rv_val fun H1 _ Q q => ⟨_, _, rfl, rfl, q⟩))) (by rfl)) (fun h => nomatch h) (fun _ H15 e15 => ⟨rfl, Same.trans e14 e15⟩), ?_⟩
        rintro _ H15 ⟨rfl, e15⟩
        refine s_if (b := false) (et_is (et_test (ev_op (hall (z := m + 1) (bb := false) e15 rfl rfl rfl rfl hk d2 (ev_op (ev_var rfl) ev_c rv_I0)) ev_c (rv_val fun H1 _ Q q => ⟨_, _, rfl, rfl, q⟩))) (by rfl)) (fun h => nomatch h) (fun _ H16 e16 => ⟨_, _, rfl, Same.trans e15 e16⟩)
    · subst es
      exact s_ret ev_c fun H13 e13 => k H13 (hp12.ex (Same.trans e e13)) (FH.trans (FrP.ex (Same.trans e e13)))
def sp_law (K : PySem.W.Frag) : Sp := fun vs H Q _ => ∃ (a : Addr) (ns : List Int), vs = [.ref a] ∧ SqL K H a (ns.map V.int) ∧ ns.length ≤ 1000 ∧ (∀ (n : Nat) (os : List (Nat × Nat × Int)), 1 ≤ n → n ≤ 40 → os.length ≤ 63 → OsOk n os → ∃ p rows c1 c2 ks, RightOk n os p rows c1 c2 ks) ∧ ∀ H', Q (.bl true) H'
-- 0 _law_script, 1 _law_pot_here, 2 _law_turn, 3 _law_many, 4 _law_offers_here
abbrev n_law : List Str := ["_law_script", "_law_pot_here", "_law_turn", "_law_many", "_law_offers_here"]
theorem sc_law : FnScope n_law ["_law_script"] (defScope s_law) := ⟨rfl, rfl, rfl, by decide +kernel, rfl, by decide +kernel, by decide +kernel⟩
theorem fn_law (T : Txt w K mg) {fd : FuncData} (F : FunD K "law" "law" (defArgs s_law) (defBody s_law) (defScope s_law) [] [] (He.ga K "law") fd) : FnOk P w K mg base CX0 15 (He.ga K "law") fd ["_law_script"] (sp_law K) := by
  refine F.ok sc_law (fun vs H Q E h => ?_) (fun cdv A0 outer s H vs Q E hr h => ?_)
  · obtain ⟨a, ns, rfl, _⟩ := h
    rfl
  have hb : ∃ t, PSs (cxOf CX0 P w K mg base n_law "law" (defScope s_law) (He.ga K "law") cdv A0 outer s H E).nox (defBody s_law) t ∧ t { nx := fun _ H' => Q .non H', rt := Q } (start n_law vs) H := by
    obtain ⟨a, ns, rfl, ha, hl, R, k⟩ := h
    refine ⟨_, (pss_cons (ps_set (i := 1) sc_law.nd rfl (Or.inl rfl) (pe_f (ok__law_pot T) (hr.mono (by decide)) T.g__law_pot (pa_cons (pv 0) pa_nil)))
      (pss_cons (ps_for PassesOwn.never rfl (pi_range1 rfl T.z_range (pa_cons pe_int pa_nil)) (pg_name (i := 2) sc_law.nd rfl (Or.inl rfl)) (pss_cons (ps_asg (pe_f (ok__law_offers T) (hr.mono (by decide)) T.g__law_offers (pa_cons (pv 1) pa_nil)) (pg_tup rfl (pgs_cons (pg_name (i := 3) sc_law.nd rfl (Or.inl rfl)) (pgs_cons (pg_name (i := 4) sc_law.nd rfl (Or.inl rfl)) pgs_nil))))
        (pss_one (ps_if (pt_not (pt_val (pe_f (ok__law_right T) (hr.mono (by decide)) T.g__law_right (pa_cons (pv 1) (pa_cons (pv 3) (pa_cons (pv 4) pa_nil)))))) (pss_one (ps_ret pe_bl)) pss_nil))))
      (pss_one (ps_ret pe_bl)))), ?_⟩
    refine call_fA (ea_cons (ev_var rfl) ea_nil) fun H1 e1 => ?_
    refine ⟨a, ns, rfl, ex_l e1 ha, hl, fun pa ca H2 hp e2 _ _ => ?_⟩
    refine q_forR1 (n := 2) (ea_cons ev_c ea_nil) ⟨by decide, by decide⟩ (fun i σ' H' => ∃ v2 v3 v4 : Option V, σ' = [some (.ref a), some (.ref pa), v2, v3, v4] ∧ PotOk H' pa ca (1000 * i)) (fun H3 e3 => ⟨_, _, _, rfl, hp.ex e3⟩) (fun i σ' H' hi ⟨v2, v3, v4, es, hq⟩ => ?_) (fun σ' H' ⟨v2, v3, v4, es, hq⟩ => ?_)
    · subst es
      refine call_fA (ea_cons (ev_var rfl) ea_nil) fun H3 e3 => ?_
      refine ⟨pa, ca, 1000 * i, rfl, hq.ex e3, by omega, fun n os t ol H4 hn1 hn2 hos hok _ ht hO hp4 F4 hno => ?_⟩
      obtain ⟨p, rows, c1, c2, ks, hR⟩ := R n os hn1 hn2 hos hok
      refine ⟨t, _, rfl, SqT.of ht, rfl, _, _, rfl, _, _, rfl, rfl, ?_⟩
      refine call_fA (ea_cons (ev_var rfl) (ea_cons (ev_var rfl) (ea_cons (ev_var rfl) ea_nil))) fun H5 e5 => ?_
      refine ⟨pa, ca, ol, 1000 * i + 400, n, os, p, rows, c1, c2, ks, rfl, hp4.ex e5, by omega, hO.mono e5, hno.1, hno.2, hn1, hn2, hos, hok, hR, fun H6 hp6 _ => ?_⟩
      refine ⟨true, rfl, ?_⟩
      exact iteF ⟨_, _, _, rfl, hp6.le (by omega)⟩
    · subst es
      exact s_ret ev_c fun H3 e3 => k H3
  obtain ⟨t, h1, h2⟩ := hb
  exact ⟨t, h1.nox, h2⟩
end
end K73
end
section
set_option maxHeartbeats 4000000
namespace K73
open PySem PySem.Spec PyProof.Rows L2 Evl
def RightAll : Prop := ∀ (n : Nat) (os : List (Nat × Nat × Int)), 1 ≤ n → n ≤ 40 → os.length ≤ 63 → OsOk n os → ∃ p rows c1 c2 ks, RightOk n os p rows c1 c2 ks
theorem facts {P : Program} {w : World} {K : PySem.W.Frag} {h : Heap} {mg : Str → Option Value} {f : Addr} (X : K.In h) (G : h.Ns mainGlobals mg) (hfa : mg ("law" : Str) = some (.ref f)) (c : SaysY w K) :
    ∃ fd : FuncData, (∀ (s : Shared) (v : Value), BindsTo s fd ⟨[v], []⟩ [("_law_script", v)]) ∧ ∀ base : Heap, K.In base → base.Ns mainGlobals mg → FnOk P w K mg base CX0 15 f fd ["_law_script"] (sp_law K) := by
  have T := txt_of X G c
  obtain ⟨fd, F⟩ := T.D_law
  have e := hfa.symm.trans T.g_law
  cases e
  have b := FunD.bindsA (ps := ["_law_script"]) F fun _ _ _ _ _ _ us hl => match us, hl with | [_], _ => rfl
  exact ⟨fd, fun s v => b s [v] rfl, fun base _ _ => fn_law T F⟩
end K73
open PySem PySem.W PySem.Calls PyProof.Rows
theorem k73_holds (RA : K73.RightAll) : PySem.Challenge.rw_tiedcut_k73_whole_least_price.Holds := by
  w_on; o_law
  refine HandSHeadRun.head_any (r := OpenLaw.row PySem.Challenge.rw_tiedcut_k73_whole_least_price) (q := view (OpenLaw.row PySem.Challenge.rw_tiedcut_k73_whole_least_price).prog [53]) (H := K73.hk) (ob := K73.ob) (M := 6400) (loose := K73.loose) (d := HandSHeadRun.topDef (OpenLaw.row PySem.Challenge.rw_tiedcut_k73_whole_least_price).prog 53) (kwd := []) K73.ob_eq
    (by kernel_rfl) (fun s => by kernel_rfl) K73.run (by kernel_rfl) (by kernel_rfl) (by kernel_rfl) (by rfl) (by first | assumption | decide +kernel) (by decide +kernel) ⟨rfl, rfl, rfl, rfl, rfl, by decide +kernel⟩ ?hw ?hc
  case hw => w_witness2
  case hc =>
    refine L2.walk_ofE (l := PySem.Challenge.rw_tiedcut_k73_whole_least_price) (n := 63) (k := 15) (x := "_law_script") (CX := L2.CX0) rfl (by decide) (by kernel_rfl) ⟨rfl, by decide, by decide⟩ ?F (fun _ _ _ _ z => z)
    intro w mg fa h Y G hmg0
    obtain ⟨K, KX, c⟩ := Y
    have hmg : mg ("law" : PySem.Str) = some (.ref fa) := by
      have e : (HandSHeadRun.topDef (OpenLaw.row PySem.Challenge.rw_tiedcut_k73_whole_least_price).prog 53).name = ("law" : PySem.Str) := by kernel_rfl
      rw [← e]
      exact hmg0
    obtain ⟨fd, hb, hF⟩ := K73.facts (P := (PySem.Challenge.rw_tiedcut_k73_whole_least_price).prog) (w := w) KX G hmg c
    exact ⟨K, fd, K73.sp_law K, KX, hb, fun H a ns hl _ hS => ⟨a, ns, rfl, hS, Nat.le_trans hl (by decide), RA, fun _ => rfl⟩, hF⟩
end
section
set_option maxHeartbeats 4000000
namespace K73
/-! ### plain law: trees of a strand -/
inductive Tr where
  | nil
  | node (l : Tr) (x : Nat) (r : Tr)
def Tr.els : Tr → List Nat
  | .nil => []
  | .node l x r => l.els ++ x :: r.els
def Tr.root : Tr → Option Nat
  | .nil => none
  | .node _ x _ => some x
def IsMax (w : Nat → Int) (xs : List Nat) (m : Int) : Prop := (∀ y ∈ xs, w y ≤ m) ∧ ∃ y ∈ xs, w y = m
/-- c holds the tree below up, the flips above it being fl -/
def Is (c : C) : Option Nat → Bool → Tr → Prop
  | _, _, .nil => True
  | u, fl, .node l x r => c.above x = u ∧ c.left x = (if (fl ^^ c.flip x) = true then r.root else l.root) ∧ c.right x = (if (fl ^^ c.flip x) = true then l.root else r.root) ∧
    c.many x = ((Tr.node l x r).els.length : Int) ∧ IsMax c.worth (Tr.node l x r).els (c.most x) ∧ Is c (some x) (fl ^^ c.flip x) l ∧ Is c (some x) (fl ^^ c.flip x) r
/-- the same at y -/
structure At (c c' : C) (y : Nat) : Prop where
  above : c'.above y = c.above y
  left : c'.left y = c.left y
  right : c'.right y = c.right y
  flip : c'.flip y = c.flip y
  many : c'.many y = c.many y
  most : c'.most y = c.most y
theorem At.refl (c : C) (y : Nat) : At c c y := ⟨rfl, rfl, rfl, rfl, rfl, rfl⟩
theorem At.trans {c1 c2 c3 : C} {y : Nat} (a : At c1 c2 y) (b : At c2 c3 y) : At c1 c3 y := ⟨b.above.trans a.above, b.left.trans a.left, b.right.trans a.right, b.flip.trans a.flip, b.many.trans a.many, b.most.trans a.most⟩
theorem Is.congr {c c' : C} (hw : c'.worth = c.worth) : ∀ (t : Tr) (u : Option Nat) (fl : Bool), (∀ y ∈ t.els, At c c' y) → Is c u fl t → Is c' u fl t
  | .nil, _, _, _, _ => trivial
  | .node l x r, u, fl, h, ⟨h1, h2, h3, h4, h5, h6, h7⟩ => by
    have hx := h x (by simp [Tr.els])
    refine ⟨hx.above.trans h1, ?_, ?_, hx.many.trans h4, ?_, ?_, ?_⟩
    · rw [hx.left, hx.flip]; exact h2
    · rw [hx.right, hx.flip]; exact h3
    · rw [hx.most, hw]; exact h5
    · rw [hx.flip]; exact Is.congr hw l _ _ (fun y hy => h y (by simp [Tr.els, hy])) h6
    · rw [hx.flip]; exact Is.congr hw r _ _ (fun y hy => h y (by simp [Tr.els, hy])) h7
theorem Is.to {c c' : C} {t : Tr} {u : Option Nat} {fl : Bool} (h : Is c u fl t) (hw : c'.worth = c.worth) (ha : ∀ y ∈ t.els, At c c' y) : Is c' u fl t := Is.congr hw t u fl ha h
def Tr.mir : Tr → Tr
  | .nil => .nil
  | .node l x r => .node r.mir x l.mir
theorem Tr.mir_els : ∀ t : Tr, t.mir.els = t.els.reverse
  | .nil => rfl
  | .node l x r => by
    show r.mir.els ++ x :: l.mir.els = (l.els ++ x :: r.els).reverse
    rw [Tr.mir_els l, Tr.mir_els r]; simp
theorem Tr.mir_root (t : Tr) : t.mir.root = t.root := by cases t <;> rfl
theorem IsMax.rev {w : Nat → Int} {xs : List Nat} {m : Int} (h : IsMax w xs m) : IsMax w xs.reverse m := ⟨fun y hy => h.1 y (List.mem_reverse.mp hy), let ⟨y, hy, e⟩ := h.2; ⟨y, List.mem_reverse.mpr hy, e⟩⟩
theorem Is.mirror {c : C} : ∀ (t : Tr) (u : Option Nat) (fl : Bool), Is c u (!fl) t → Is c u fl t.mir
  | .nil, _, _, _ => trivial
  | .node l x r, u, fl, ⟨h1, h2, h3, h4, h5, h6, h7⟩ => by
    have e : ((!fl) ^^ c.flip x) = !(fl ^^ c.flip x) := by cases fl <;> cases c.flip x <;> rfl
    rw [e] at h2 h3 h6 h7
    have em : (Tr.node r.mir x l.mir).els = (Tr.node l x r).els.reverse := Tr.mir_els (.node l x r)
    refine ⟨h1, ?_, ?_, ?_, ?_, Is.mirror r _ _ h7, Is.mirror l _ _ h6⟩
    · rw [h2, Tr.mir_root, Tr.mir_root]
      cases (fl ^^ c.flip x) <;> rfl
    · rw [h3, Tr.mir_root, Tr.mir_root]
      cases (fl ^^ c.flip x) <;> rfl
    · rw [em, List.length_reverse]; exact h4
    · rw [em]; exact h5.rev
/-- the flip of a tree's root -/
theorem Is.flipRoot {c : C} {t : Tr} {u : Option Nat} {fl : Bool} (nd : t.els.Nodup) (h : Is c u fl t) : Is (flipAt c t.root) u (!fl) t := by
  cases t with
  | nil => trivial
  | node l x r =>
    obtain ⟨h1, h2, h3, h4, h5, h6, h7⟩ := h
    have e : ((!fl) ^^ (flipAt c (some x)).flip x) = (fl ^^ c.flip x) := by
      show ((!fl) ^^ up c.flip x (!c.flip x) x) = _
      rw [up_same]
      cases fl <;> cases c.flip x <;> rfl
    have hn : ∀ y, y ≠ x → At c (flipAt c (some x)) y := fun y hy => ⟨rfl, rfl, rfl, up_ne hy, rfl, rfl⟩
    simp only [Tr.els, List.nodup_append, List.nodup_cons, List.mem_cons] at nd
    obtain ⟨n1, ⟨n2, n3⟩, n4⟩ := nd
    have hl : ∀ y ∈ l.els, y ≠ x := fun y hy e => n4 y hy x (Or.inl rfl) e
    have hr : ∀ y ∈ r.els, y ≠ x := fun y hy e => n2 (e ▸ hy)
    show Is (flipAt c (some x)) u (!fl) (.node l x r)
    refine ⟨h1, by rw [e]; exact h2, by rw [e]; exact h3, h4, h5, ?_, ?_⟩
    · rw [e]; exact h6.to rfl (fun y hy => hn y (hl y hy))
    · rw [e]; exact h7.to rfl (fun y hy => hn y (hr y hy))
/-- hand_down at the root of a tree that stands unflipped -/
theorem flipAt_at {c : C} {o : Option Nat} {y : Nat} (h : o ≠ some y) : At c (flipAt c o) y := by
  cases o with
  | none => exact At.refl c y
  | some x => exact ⟨rfl, rfl, rfl, up_ne (fun e => h (by rw [e])), rfl, rfl⟩
theorem Tr.root_mem {t : Tr} {x : Nat} (h : t.root = some x) : x ∈ t.els := by
  cases t with
  | nil => cases h
  | node l y r => cases h; simp [Tr.els]
theorem flipAt_worth (c : C) (o : Option Nat) : (flipAt c o).worth = c.worth := by cases o <;> rfl
theorem handDown_worth (c : C) (x : Nat) : (handDown c x).worth = c.worth := by
  unfold handDown
  split
  · show (flipAt (flipAt _ _) _).worth = _
    rw [flipAt_worth, flipAt_worth]
  · rfl
theorem flipAt_many (c : C) (o : Option Nat) : (flipAt c o).many = c.many := by cases o <;> rfl
theorem flipAt_most (c : C) (o : Option Nat) : (flipAt c o).most = c.most := by cases o <;> rfl
def swapAt (c : C) (x : Nat) : C := { c with left := up c.left x (c.right x), right := up c.right x (c.left x) }
def hd3 (c : C) (x : Nat) : C := flipAt (flipAt (swapAt c x) (c.right x)) (c.left x)
theorem handDown_yes {c : C} {x : Nat} (h : c.flip x = true) : handDown c x = { hd3 c x with flip := up (hd3 c x).flip x false } := by
  have e1 : (swapAt c x).left x = c.right x := up_same
  have e2 : (flipAt (swapAt c x) (c.right x)).right x = c.left x := by rw [flipAt_right]; exact up_same
  unfold handDown
  rw [if_pos h]
  show ({ flipAt (flipAt (swapAt c x) ((swapAt c x).left x)) ((flipAt (swapAt c x) ((swapAt c x).left x)).right x) with flip := up (flipAt (flipAt (swapAt c x) ((swapAt c x).left x)) ((flipAt (swapAt c x) ((swapAt c x).left x)).right x)).flip x false } : C) = _
  rw [e1, e2]; rfl
theorem handDown_no {c : C} {x : Nat} (h : c.flip x = false) : handDown c x = c := by
  unfold handDown
  rw [if_neg (by rw [h]; decide)]
theorem hd3_at {c : C} {x y : Nat} (h : y ≠ x) (h1 : c.left x ≠ some y) (h2 : c.right x ≠ some y) : At c (hd3 c x) y := by
  have a1 : At c (swapAt c x) y := ⟨rfl, up_ne h, up_ne h, rfl, rfl, rfl⟩
  exact (a1.trans (flipAt_at h2)).trans (flipAt_at h1)
/-- hand_down touches x and the flips of its children -/
theorem handDown_at {c : C} {x y : Nat} (h : y ≠ x) (h1 : c.left x ≠ some y) (h2 : c.right x ≠ some y) : At c (handDown c x) y := by
  cases hf : c.flip x with
  | false => rw [handDown_no hf]; exact At.refl c y
  | true =>
    rw [handDown_yes hf]
    have a := hd3_at h h1 h2
    exact ⟨a.above, a.left, a.right, (up_ne h).trans a.flip, a.many, a.most⟩
theorem handDown_flip (c : C) (x : Nat) : (handDown c x).flip x = false := by
  cases hf : c.flip x with
  | false => rw [handDown_no hf]; exact hf
  | true => rw [handDown_yes hf]; exact up_same
theorem xorx (b : Bool) : (false ^^ b) = b := by cases b <;> rfl
theorem nd_node {l r : Tr} {x : Nat} (h : (Tr.node l x r).els.Nodup) : l.els.Nodup ∧ r.els.Nodup ∧ x ∉ l.els ∧ x ∉ r.els ∧ ∀ y ∈ l.els, y ∉ r.els := by
  simp only [Tr.els, List.nodup_append, List.nodup_cons, List.mem_cons] at h
  obtain ⟨n1, ⟨n2, n3⟩, n4⟩ := h
  exact ⟨n1, n3, fun q => n4 x q x (Or.inl rfl) rfl, n2, fun y hy q => n4 y hy y (Or.inr q) rfl⟩
theorem handDown_is {c : C} {l r : Tr} {x : Nat} {u : Option Nat} (nd : (Tr.node l x r).els.Nodup) (h : Is c u false (.node l x r)) : Is (handDown c x) u false (.node l x r) := by
  obtain ⟨n1, n2, n3, n4, n5⟩ := nd_node nd
  cases hf : c.flip x with
  | false => rw [handDown_no hf]; exact h
  | true =>
    obtain ⟨h1, h2, h3, h4, h5, h6, h7⟩ := h
    rw [hf] at h2 h3 h6 h7
    have h2 : c.left x = r.root := h2
    have h3 : c.right x = l.root := h3
    have h6 : Is c (some x) true l := h6
    have h7 : Is c (some x) true r := h7
    have nx : ∀ {t : Tr}, x ∉ t.els → t.root ≠ some x := fun {t} q e => q (Tr.root_mem e)
    rw [handDown_yes hf]
    have wS : (swapAt c x).worth = c.worth := rfl
    have wH : (hd3 c x).worth = c.worth := by unfold hd3; rw [flipAt_worth, flipAt_worth]; rfl
    have sl : ∀ y ∈ l.els, At c (swapAt c x) y := fun y hy => ⟨rfl, up_ne (fun e => n3 (e ▸ hy)), up_ne (fun e => n3 (e ▸ hy)), rfl, rfl, rfl⟩
    have sr : ∀ y ∈ r.els, At c (swapAt c x) y := fun y hy => ⟨rfl, up_ne (fun e => n4 (e ▸ hy)), up_ne (fun e => n4 (e ▸ hy)), rfl, rfl, rfl⟩
    have l1 : Is (swapAt c x) (some x) true l := Is.congr wS l _ _ sl h6
    have r1 : Is (swapAt c x) (some x) true r := Is.congr wS r _ _ sr h7
    have l2 : Is (flipAt (swapAt c x) (c.right x)) (some x) false l := by rw [h3]; exact Is.flipRoot n1 l1
    have r2 : Is (flipAt (swapAt c x) (c.right x)) (some x) true r := Is.congr (flipAt_worth _ _) r _ _ (fun y hy => flipAt_at (by rw [h3]; exact fun e => n5 y (Tr.root_mem e) hy)) r1
    have l3 : Is (hd3 c x) (some x) false l := Is.congr (flipAt_worth _ _) l _ _ (fun y hy => flipAt_at (by rw [h2]; exact fun e => n5 y hy (Tr.root_mem e))) l2
    have r3 : Is (hd3 c x) (some x) false r := by
      show Is (flipAt (flipAt (swapAt c x) (c.right x)) (c.left x)) (some x) false r
      rw [h2]; exact Is.flipRoot n2 r2
    have fl : ∀ y, y ≠ x → At (hd3 c x) ({ hd3 c x with flip := up (hd3 c x).flip x false } : C) y := fun y hy => ⟨rfl, rfl, rfl, up_ne hy, rfl, rfl⟩
    have ef : (false ^^ up (hd3 c x).flip x false x) = false := by rw [up_same]; rfl
    refine ⟨?_, ?_, ?_, ?_, ?_, ?_, ?_⟩
    · show (hd3 c x).above x = u
      unfold hd3; rw [flipAt_above, flipAt_above]; exact h1
    · show (hd3 c x).left x = if (false ^^ up (hd3 c x).flip x false x) = true then _ else _
      rw [ef]
      unfold hd3; rw [flipAt_left, flipAt_left]
      show up c.left x (c.right x) x = l.root
      rw [up_same]; exact h3
    · show (hd3 c x).right x = if (false ^^ up (hd3 c x).flip x false x) = true then _ else _
      rw [ef]
      unfold hd3; rw [flipAt_right, flipAt_right]
      show up c.right x (c.left x) x = r.root
      rw [up_same]; exact h2
    · show (hd3 c x).many x = _
      unfold hd3; rw [flipAt_many, flipAt_many]; exact h4
    · show IsMax (hd3 c x).worth _ ((hd3 c x).most x)
      rw [wH]
      unfold hd3; rw [flipAt_most, flipAt_most]; exact h5
    · show Is _ (some x) (false ^^ up (hd3 c x).flip x false x) l
      rw [ef]; exact l3.to rfl (fun y hy => fl y (fun e => n3 (e ▸ hy)))
    · show Is _ (some x) (false ^^ up (hd3 c x).flip x false x) r
      rw [ef]; exact r3.to rfl (fun y hy => fl y (fun e => n4 (e ▸ hy)))
end K73
end
section
set_option maxHeartbeats 4000000
namespace K73
/-! ### plain law: zippers, unfold -/
structure Fm where
  sd : Bool
  u : Nat
  s : Tr
def Fm.on (f : Fm) (t : Tr) : Tr := if f.sd = true then .node t f.u f.s else .node f.s f.u t
def Fm.E (f : Fm) (xs : List Nat) : List Nat := if f.sd = true then xs ++ f.u :: f.s.els else f.s.els ++ f.u :: xs
theorem Fm.on_els (f : Fm) (t : Tr) : (f.on t).els = f.E t.els := by
  unfold Fm.on Fm.E
  split <;> rfl
theorem Fm.on_root (f : Fm) (t : Tr) : (f.on t).root = some f.u := by
  unfold Fm.on
  split <;> rfl
def plug : Tr → List Fm → Tr
  | t, [] => t
  | t, f :: k => plug (f.on t) k
def plugE : List Nat → List Fm → List Nat
  | xs, [] => xs
  | xs, f :: k => plugE (f.E xs) k
theorem plug_els : ∀ (k : List Fm) (t : Tr), (plug t k).els = plugE t.els k
  | [], _ => rfl
  | f :: k, t => by
    show (plug (f.on t) k).els = plugE (f.E t.els) k
    rw [plug_els k, Fm.on_els]
theorem plug_app (t : Tr) (f : Fm) : ∀ (k : List Fm) (t : Tr), plug t (k ++ [f]) = f.on (plug t k)
  | [], _ => rfl
  | g :: k, t => plug_app t f k (g.on t)
def upO (pp : Option Nat) : List Fm → Option Nat
  | [] => pp
  | f :: _ => some f.u
theorem upO_app (pp : Option Nat) (f : Fm) (k : List Fm) : upO pp (k ++ [f]) = upO (some f.u) k := by cases k <;> rfl
/-- what c holds at a frame, the hole's root and items being h, xs -/
structure FmAt (c : C) (f : Fm) (u h : Option Nat) (xs : List Nat) : Prop where
  flip : c.flip f.u = false
  above : c.above f.u = u
  left : c.left f.u = if f.sd = true then h else f.s.root
  right : c.right f.u = if f.sd = true then f.s.root else h
  many : c.many f.u = ((f.E xs).length : Int)
  most : IsMax c.worth (f.E xs) (c.most f.u)
  sub : Is c (some f.u) false f.s
def Ctx (c : C) (pp : Option Nat) : Option Nat → List Nat → List Fm → Prop
  | _, _, [] => True
  | h, xs, f :: k => FmAt c f (upO pp k) h xs ∧ Ctx c pp (some f.u) (f.E xs) k
theorem Ctx.snoc {c : C} {pp : Option Nat} {f : Fm} : ∀ {k : List Fm} {t : Tr}, Ctx c (some f.u) t.root t.els k → FmAt c f pp (plug t k).root (plug t k).els → Ctx c pp t.root t.els (k ++ [f])
  | [], t, _, h => ⟨h, trivial⟩
  | g :: k, t, ⟨h1, h2⟩, h => by
    refine ⟨by show FmAt c g (upO pp (k ++ [f])) _ _; rw [upO_app]; exact h1, ?_⟩
    have := Ctx.snoc (k := k) (t := g.on t) (c := c) (pp := pp) (f := f) (by rw [Fm.on_root, Fm.on_els]; exact h2) h
    rw [Fm.on_root, Fm.on_els] at this
    exact this
theorem Is.child {c : C} : ∀ {t : Tr} {u : Option Nat} {fl : Bool} {x y : Nat}, Is c u fl t → x ∈ t.els → (c.left x = some y ∨ c.right x = some y) → y ∈ t.els
  | .nil, _, _, _, _, _, hx, _ => by cases hx
  | .node l z r, u, fl, x, y, ⟨h1, h2, h3, h4, h5, h6, h7⟩, hx, hy => by
    simp only [Tr.els, List.mem_append, List.mem_cons] at hx ⊢
    rcases hx with hx | hx | hx
    · exact Or.inl (Is.child h6 hx hy)
    · subst hx
      have : l.root = some y ∨ r.root = some y := by
        rw [h2, h3] at hy
        cases q : (fl ^^ c.flip x) <;> rw [q] at hy
        · exact hy
        · exact hy.symm
      rcases this with q | q
      · exact Or.inl (Tr.root_mem q)
      · exact Or.inr (Or.inr (Tr.root_mem q))
    · exact Or.inr (Or.inr (Is.child h7 hx hy))
theorem exists_zip : ∀ {t : Tr} {x : Nat}, x ∈ t.els → ∃ a b k, t = plug (.node a x b) k
  | .nil, _, h => by cases h
  | .node l y r, x, h => by
    simp only [Tr.els, List.mem_append, List.mem_cons] at h
    rcases h with h | h | h
    · obtain ⟨a, b, k, e⟩ := exists_zip h
      exact ⟨a, b, k ++ [⟨true, y, r⟩], by rw [plug_app .nil, ← e]; rfl⟩
    · subst h; exact ⟨l, r, [], rfl⟩
    · obtain ⟨a, b, k, e⟩ := exists_zip h
      exact ⟨a, b, k ++ [⟨false, y, l⟩], by rw [plug_app .nil, ← e]; rfl⟩
theorem unfoldL_snoc (c : C) (u : Nat) (row : List Nat) : unfoldL c (row ++ [u]) = unfoldL (handDown c u) row := by
  unfold unfoldL
  rw [List.foldr_append]; rfl
theorem FmAt.mono {c c' : C} {f : Fm} {u h : Option Nat} {xs : List Nat} (F : FmAt c f u h xs) (hw : c'.worth = c.worth) (h1 : At c c' f.u) (h2 : ∀ y ∈ f.s.els, At c c' y) : FmAt c' f u h xs :=
  ⟨h1.flip.trans F.flip, h1.above.trans F.above, h1.left.trans F.left, h1.right.trans F.right, h1.many.trans F.many, by rw [h1.most, hw]; exact F.most, F.sub.to hw h2⟩
theorem E_mem {f : Fm} {xs : List Nat} {y : Nat} : y ∈ f.E xs ↔ y = f.u ∨ y ∈ xs ∨ y ∈ f.s.els := by
  unfold Fm.E
  split <;> simp only [List.mem_append, List.mem_cons]
  · constructor
    · rintro (h | h | h)
      · exact Or.inr (Or.inl h)
      · exact Or.inl h
      · exact Or.inr (Or.inr h)
    · rintro (h | h | h)
      · exact Or.inr (Or.inl h)
      · exact Or.inl h
      · exact Or.inr (Or.inr h)
  · constructor
    · rintro (h | h | h)
      · exact Or.inr (Or.inr h)
      · exact Or.inl h
      · exact Or.inr (Or.inl h)
    · rintro (h | h | h)
      · exact Or.inr (Or.inl h)
      · exact Or.inr (Or.inr h)
      · exact Or.inl h
theorem nd_E {f : Fm} {xs : List Nat} (h : (f.E xs).Nodup) : xs.Nodup ∧ f.s.els.Nodup ∧ f.u ∉ xs ∧ f.u ∉ f.s.els ∧ ∀ y ∈ xs, y ∉ f.s.els := by
  unfold Fm.E at h
  split at h
  · simp only [List.nodup_append, List.nodup_cons, List.mem_cons] at h
    obtain ⟨n1, ⟨n2, n3⟩, n4⟩ := h
    exact ⟨n1, n3, fun q => n4 _ q _ (Or.inl rfl) rfl, n2, fun y hy q => n4 y hy y (Or.inr q) rfl⟩
  · simp only [List.nodup_append, List.nodup_cons, List.mem_cons] at h
    obtain ⟨n1, ⟨n2, n3⟩, n4⟩ := h
    exact ⟨n3, n1, n2, fun q => n4 _ q _ (Or.inl rfl) rfl, fun y hy q => n4 y q y (Or.inr hy) rfl⟩
/-- a tree at a frame, unflipped, apart -/
theorem FmAt.of {c : C} {f : Fm} {u : Option Nat} {t : Tr} (hf : c.flip f.u = false) (h : Is c u false (f.on t)) : FmAt c f u t.root t.els ∧ Is c (some f.u) false t := by
  unfold Fm.on at h
  split at h
  · rename_i e
    obtain ⟨h1, h2, h3, h4, h5, h6, h7⟩ := h
    rw [hf] at h2 h3 h6 h7
    exact ⟨⟨hf, h1, by rw [if_pos e]; exact h2, by rw [if_pos e]; exact h3, by unfold Fm.E; rw [if_pos e]; exact h4, by unfold Fm.E; rw [if_pos e]; exact h5, h7⟩, h6⟩
  · rename_i e
    obtain ⟨h1, h2, h3, h4, h5, h6, h7⟩ := h
    rw [hf] at h2 h3 h6 h7
    exact ⟨⟨hf, h1, by rw [if_neg e]; exact h2, by rw [if_neg e]; exact h3, by unfold Fm.E; rw [if_neg e]; exact h4, by unfold Fm.E; rw [if_neg e]; exact h5, h6⟩, h7⟩
theorem handDown_on {c : C} {f : Fm} {u : Option Nat} {t : Tr} (nd : (f.on t).els.Nodup) (h : Is c u false (f.on t)) : Is (handDown c f.u) u false (f.on t) := by
  unfold Fm.on at nd h ⊢
  split at h
  · rename_i e
    rw [if_pos e] at nd ⊢
    exact handDown_is nd h
  · rename_i e
    rw [if_neg e] at nd ⊢
    exact handDown_is nd h
theorem handDown_out {c : C} {u : Option Nat} {t : Tr} {x y : Nat} {fl : Bool} (h : Is c u fl t) (hx : x ∈ t.els) (hy : y ∉ t.els) : At c (handDown c x) y :=
  handDown_at (fun e => hy (e ▸ hx)) (fun e => hy (h.child hx (Or.inl e))) (fun e => hy (h.child hx (Or.inr e)))
/-- the flips go down to the hole -/
theorem unfold_z : ∀ (n : Nat) (k : List Fm), k.length = n → ∀ (c : C) (pp : Option Nat) (t : Tr), (plug t k).els.Nodup → Is c pp false (plug t k) →
    Ctx (unfoldL c (k.map Fm.u)) pp t.root t.els k ∧ Is (unfoldL c (k.map Fm.u)) (upO pp k) false t ∧ (∀ y, y ∉ (plug t k).els → At c (unfoldL c (k.map Fm.u)) y) ∧ (unfoldL c (k.map Fm.u)).worth = c.worth := by
  intro n
  induction n with
  | zero =>
    intro k hk c pp t nd h
    have : k = [] := List.length_eq_zero_iff.mp hk
    subst this
    exact ⟨trivial, h, fun y _ => At.refl c y, rfl⟩
  | succ n ih =>
    intro k hk c pp t nd h
    rcases List.eq_nil_or_concat k with e | ⟨k0, f, e⟩
    · subst e; cases hk
    · rw [List.concat_eq_append] at e
      subst e
      rw [List.length_append] at hk
      have hk0 : k0.length = n := Nat.succ.inj hk
      rw [plug_app .nil] at nd h
      have h1 := handDown_on nd h
      obtain ⟨F, h2⟩ := FmAt.of (handDown_flip c f.u) h1
      rw [Fm.on_els] at nd
      obtain ⟨n1, n2, n3, n4, n5⟩ := nd_E nd
      obtain ⟨i1, i2, i3, i4⟩ := ih k0 hk0 (handDown c f.u) (some f.u) t n1 h2
      have em : (k0 ++ [f]).map Fm.u = k0.map Fm.u ++ [f.u] := by rw [List.map_append]; rfl
      rw [em, unfoldL_snoc]
      refine ⟨i1.snoc (F.mono i4 (i3 _ n3) fun y hy => i3 y fun q => n5 y q hy), by rw [upO_app]; exact i2, fun y hy => ?_, i4.trans (handDown_worth c f.u)⟩
      rw [plug_app .nil, Fm.on_els] at hy
      have hy2 : y ∉ (f.on (plug t k0)).els := by rw [Fm.on_els]; exact hy
      exact (handDown_out h (by rw [Fm.on_els]; exact E_mem.mpr (Or.inl rfl)) hy2).trans (i3 y fun q => hy (E_mem.mpr (Or.inr (Or.inl q))))
end K73
end
section
set_option maxHeartbeats 4000000
namespace K73
/-! ### plain law: chain, turn -/
def TopOk (c : C) (pp r : Option Nat) : Prop := ∀ g y, pp = some g → r = some y → c.left g ≠ some y ∧ c.right g ≠ some y
theorem sub_is {c : C} {pp : Option Nat} : ∀ (k : List Fm) (t : Tr) (fl : Bool), Is c pp fl (plug t k) → ∃ fl', Is c (upO pp k) fl' t
  | [], _, fl, h => ⟨fl, h⟩
  | f :: k, t, fl, h => by
    obtain ⟨fl', h'⟩ := sub_is k (f.on t) fl h
    unfold Fm.on at h'
    split at h'
    · exact ⟨_, h'.2.2.2.2.2.1⟩
    · exact ⟨_, h'.2.2.2.2.2.2⟩
theorem on_child {c : C} {f : Fm} {t : Tr} {u : Option Nat} {fl : Bool} {x : Nat} (h : Is c u fl (f.on t)) (hx : t.root = some x) : c.left f.u = some x ∨ c.right f.u = some x := by
  unfold Fm.on at h
  split at h
  · obtain ⟨_, h2, h3, _⟩ := h
    rw [h2, h3]
    cases (fl ^^ c.flip f.u)
    · exact Or.inl hx
    · exact Or.inr hx
  · obtain ⟨_, h2, h3, _⟩ := h
    rw [h2, h3]
    cases (fl ^^ c.flip f.u)
    · exact Or.inr hx
    · exact Or.inl hx
theorem Is.up_ {c : C} {t : Tr} {u : Option Nat} {fl : Bool} {x : Nat} (h : Is c u fl t) (hx : t.root = some x) : c.above x = u := by
  cases t with
  | nil => cases hx
  | node l y r => cases hx; exact h.1
theorem chain_z {c : C} {pp : Option Nat} : ∀ (k : List Fm) (t : Tr) (fl : Bool) (x : Nat), Is c pp fl (plug t k) → t.root = some x → TopOk c pp (plug t k).root → Chain c x (k.map Fm.u)
  | [], t, fl, x, h, hx, ht => by
    refine Chain.top ?_
    have ha := Is.up_ h hx
    unfold isTop
    rw [ha]
    cases pp with
    | none => rfl
    | some g =>
      obtain ⟨q1, q2⟩ := ht g x rfl hx
      show (!(c.left g == some x || c.right g == some x)) = true
      rw [beq_eq_false_iff_ne.mpr q1, beq_eq_false_iff_ne.mpr q2]; rfl
  | f :: k, t, fl, x, h, hx, ht => by
    obtain ⟨fl', h'⟩ := sub_is (f :: k) t fl h
    obtain ⟨fl2, h2⟩ := sub_is k (f.on t) fl h
    have ha := Is.up_ h' hx
    refine Chain.up ?_ ha (chain_z k (f.on t) fl f.u h (Fm.on_root f t) ht)
    unfold isTop
    rw [ha]
    show (!(c.left f.u == some x || c.right f.u == some x)) = false
    rcases on_child h2 hx with q | q
    · rw [q, beq_self_eq_true]; rfl
    · rw [q, beq_self_eq_true, Bool.or_true]; rfl
/-! the fields after a turn -/
theorem t1_same (c : C) (x u : Nat) : (t1 c x u).above = c.above ∧ (t1 c x u).flip = c.flip ∧ (t1 c x u).worth = c.worth ∧ (t1 c x u).most = c.most ∧ (t1 c x u).many = c.many ∧ (t1 c x u).steps = c.steps := by
  unfold t1
  split
  · exact ⟨rfl, rfl, rfl, rfl, rfl, rfl⟩
  · unfold putBelow
    split
    · exact ⟨rfl, rfl, rfl, rfl, rfl, rfl⟩
    · split
      · exact ⟨rfl, rfl, rfl, rfl, rfl, rfl⟩
      · split <;> exact ⟨rfl, rfl, rfl, rfl, rfl, rfl⟩
theorem t1_lr (c : C) (x u y : Nat) (h : isTop c u = true ∨ c.above u ≠ some y) : (t1 c x u).left y = c.left y ∧ (t1 c x u).right y = c.right y := by
  unfold t1
  split
  · exact ⟨rfl, rfl⟩
  · rename_i ht
    have h : c.above u ≠ some y := by
      rcases h with h | h
      · exact absurd h ht
      · exact h
    unfold putBelow
    split
    · exact ⟨rfl, rfl⟩
    · rename_i g e
      have hy : y ≠ g := fun q => h (by rw [e, q])
      split
      · exact ⟨up_ne hy, rfl⟩
      · split
        · exact ⟨rfl, up_ne hy⟩
        · exact ⟨rfl, rfl⟩
theorem t1_g {c : C} {x u g : Nat} (ht : isTop c u = false) (hg : c.above u = some g) : (t1 c x u).left g = (if c.left g = some u then some x else c.left g) ∧ (t1 c x u).right g = (if c.left g = some u then c.right g else if c.right g = some u then some x else c.right g) := by
  unfold t1
  rw [if_neg (by rw [ht]; decide), hg]
  unfold putBelow
  dsimp only
  by_cases h : c.left g = some u
  · rw [if_pos h, if_pos h, if_pos h]
    exact ⟨up_same, rfl⟩
  · rw [if_neg h, if_neg h, if_neg h]
    by_cases h2 : c.right g = some u
    · rw [if_pos h2, if_pos h2]
      exact ⟨rfl, up_same⟩
    · rw [if_neg h2, if_neg h2]
      exact ⟨rfl, rfl⟩
theorem setAbove_same (c : C) (o : Option Nat) (u : Nat) : (setAbove c o u).left = c.left ∧ (setAbove c o u).right = c.right ∧ (setAbove c o u).flip = c.flip ∧ (setAbove c o u).worth = c.worth ∧ (setAbove c o u).most = c.most ∧ (setAbove c o u).many = c.many ∧ (setAbove c o u).steps = c.steps := by
  cases o <;> exact ⟨rfl, rfl, rfl, rfl, rfl, rfl, rfl⟩
theorem setAbove_above (c : C) (o : Option Nat) (u y : Nat) : (setAbove c o u).above y = if o = some y then some u else c.above y := by
  cases o with
  | none => rfl
  | some i =>
    show up c.above i (some u) y = _
    by_cases h : y = i
    · subst h; rw [up_same, if_pos rfl]
    · rw [up_ne h, if_neg (fun q => h (by injection q with q; exact q.symm))]
theorem rot_same (c : C) (x u : Nat) : (rot c x u).above = c.above ∧ (rot c x u).flip = c.flip ∧ (rot c x u).worth = c.worth ∧ (rot c x u).most = c.most ∧ (rot c x u).many = c.many ∧ (rot c x u).steps = c.steps := by
  unfold rot
  split <;> exact ⟨rfl, rfl, rfl, rfl, rfl, rfl⟩
theorem turnC_same (c : C) (x u : Nat) : (turnC c x u).flip = c.flip ∧ (turnC c x u).worth = c.worth ∧ (turnC c x u).most = c.most ∧ (turnC c x u).many = c.many ∧ (turnC c x u).steps = c.steps := by
  obtain ⟨a1, a2, a3, a4, a5, a6⟩ := t1_same c x u
  obtain ⟨b1, b2, b3, b4, b5, b6⟩ := rot_same (turnA c x u) x u
  obtain ⟨c1, c2, c3, c4, c5, c6, c7⟩ := setAbove_same (turnB c x u) (inner (turnA c x u) x u) u
  exact ⟨c3.trans (b2.trans a2), c4.trans (b3.trans a3), c5.trans (b4.trans a4), c6.trans (b5.trans a5), c7.trans (b6.trans a6)⟩
theorem turnC_above (c : C) (x u y : Nat) : (turnC c x u).above y = if inner (turnA c x u) x u = some y then some u else if y = u then some x else if y = x then c.above u else c.above y := by
  unfold turnC
  rw [setAbove_above]
  by_cases h : inner (turnA c x u) x u = some y
  · rw [if_pos h, if_pos h]
  · rw [if_neg h, if_neg h]
    show up (rot (turnA c x u) x u).above u (some x) y = _
    rw [(rot_same (turnA c x u) x u).1]
    show up (up (t1 c x u).above x (c.above u)) u (some x) y = _
    rw [(t1_same c x u).1]
    by_cases h1 : y = u
    · subst h1; rw [up_same, if_pos rfl]
    · rw [up_ne h1, if_neg h1]
      by_cases h2 : y = x
      · subst h2; rw [up_same, if_pos rfl]
      · rw [up_ne h2, if_neg h2]
theorem turnC_left (c : C) (x u y : Nat) : (turnC c x u).left y = (rot (turnA c x u) x u).left y := by
  unfold turnC
  rw [(setAbove_same _ _ _).1]; rfl
theorem turnC_right (c : C) (x u y : Nat) : (turnC c x u).right y = (rot (turnA c x u) x u).right y := by
  unfold turnC
  rw [(setAbove_same _ _ _).2.1]; rfl
end K73
end
section
set_option maxHeartbeats 4000000
namespace K73
/-! ### plain law: gather, a turn as a rotation -/
theorem Is.many_ {c : C} {t : Tr} {u : Option Nat} {fl : Bool} {x : Nat} (h : Is c u fl t) (hx : t.root = some x) : c.many x = (t.els.length : Int) ∧ IsMax c.worth t.els (c.most x) := by
  cases t with
  | nil => cases hx
  | node l y r => cases hx; exact ⟨h.2.2.2.1, h.2.2.2.2.1⟩
def rootL (t : Tr) : List Nat := match t.root with
  | none => []
  | some y => [y]
theorem belowL_eq {c : C} {u : Nat} {l r : Tr} (hl : c.left u = l.root) (hr : c.right u = r.root) : belowL c u = rootL l ++ rootL r := by
  unfold belowL rootL
  rw [hl, hr]
  cases l.root <;> cases r.root <;> rfl
theorem rootL_many {c : C} {t : Tr} {u : Option Nat} {fl : Bool} (h : Is c u fl t) : ((rootL t).map c.many).sum = (t.els.length : Int) := by
  cases t with
  | nil => rfl
  | node l y r =>
    have := (Is.many_ h (x := y) rfl).1
    show c.many y + 0 = _
    rw [Int.add_zero, this]
theorem IsMax_maxL {c : C} {u : Nat} {l r : Tr} {ul ur : Option Nat} {fl fr : Bool} (il : Is c ul fl l) (ir : Is c ur fr r) : IsMax c.worth (Tr.node l u r).els (maxL (c.worth u) ((rootL l ++ rootL r).map c.most)) := by
  have big : ∀ {t : Tr} {v : Option Nat} {f : Bool}, Is c v f t → (∀ z ∈ rootL t, z ∈ rootL l ++ rootL r) → ∀ y ∈ t.els, c.worth y ≤ maxL (c.worth u) ((rootL l ++ rootL r).map c.most) := by
    intro t v f h hs y hy
    cases t with
    | nil => cases hy
    | node l' z r' =>
      have h1 := (Is.many_ h (x := z) rfl).2.1 y hy
      have h2 := maxL_ge ((rootL l ++ rootL r).map c.most) (c.worth u) (c.most z) (List.mem_cons_of_mem _ (List.mem_map.mpr ⟨z, hs z (by simp [rootL, Tr.root]), rfl⟩))
      omega
  have small : ∀ {t : Tr} {v : Option Nat} {f : Bool}, Is c v f t → ∀ z ∈ rootL t, ∃ y ∈ t.els, c.worth y = c.most z := by
    intro t v f h z hz
    cases t with
    | nil => simp [rootL, Tr.root] at hz
    | node l' z' r' =>
      have e : z = z' := by simpa [rootL, Tr.root] using hz
      subst e
      exact (Is.many_ h (x := z) rfl).2.2
  constructor
  · intro y hy
    simp only [Tr.els, List.mem_append, List.mem_cons] at hy
    rcases hy with hy | hy | hy
    · exact big il (fun z hz => List.mem_append.mpr (Or.inl hz)) y hy
    · subst hy; exact maxL_ge _ _ _ List.mem_cons_self
    · exact big ir (fun z hz => List.mem_append.mpr (Or.inr hz)) y hy
  · rcases List.mem_cons.mp (maxL_mem ((rootL l ++ rootL r).map c.most) (c.worth u)) with e | e
    · exact ⟨u, by simp [Tr.els], e.symm⟩
    · obtain ⟨z, hz, e⟩ := List.mem_map.mp e
      rw [← e]
      rcases List.mem_append.mp hz with hz | hz
      · obtain ⟨y, hy, q⟩ := small il z hz
        exact ⟨y, by simp [Tr.els, hy], q⟩
      · obtain ⟨y, hy, q⟩ := small ir z hz
        exact ⟨y, by simp [Tr.els, hy], q⟩
theorem gather_at {c : C} {u y : Nat} (h : y ≠ u) : At c (gather c u) y := ⟨rfl, rfl, rfl, rfl, up_ne h, up_ne h⟩
theorem gather_is {c : C} {u : Nat} {pu : Option Nat} {l r : Tr} (ha : c.above u = pu) (hf : c.flip u = false) (hl : c.left u = l.root) (hr : c.right u = r.root) (il : Is c (some u) false l) (ir : Is c (some u) false r) (nl : u ∉ l.els) (nr : u ∉ r.els) : Is (gather c u) pu false (.node l u r) := by
  have ef : (false ^^ (gather c u).flip u) = false := by show (false ^^ c.flip u) = false; rw [hf]; rfl
  refine ⟨ha, by rw [ef]; exact hl, by rw [ef]; exact hr, ?_, ?_, ?_, ?_⟩
  · show up c.many u (1 + ((belowL c u).map c.many).sum) u = _
    rw [up_same, belowL_eq hl hr, List.map_append, List.sum_append, rootL_many il, rootL_many ir]
    simp only [Tr.els, List.length_append, List.length_cons]
    omega
  · show IsMax c.worth _ (up c.most u (maxL (c.worth u) ((belowL c u).map c.most)) u)
    rw [up_same, belowL_eq hl hr]
    exact IsMax_maxL il ir
  · rw [ef]; exact il.to rfl fun y hy => gather_at fun e => nl (e ▸ hy)
  · rw [ef]; exact ir.to rfl fun y hy => gather_at fun e => nr (e ▸ hy)
/-- the root's above changes -/
theorem Is.reup {c c' : C} {t : Tr} {u u' : Option Nat} {fl : Bool} (h : Is c u fl t) (nd : t.els.Nodup) (hw : c'.worth = c.worth) (hr : ∀ y, t.root = some y → c'.above y = u' ∧ c'.left y = c.left y ∧ c'.right y = c.right y ∧ c'.flip y = c.flip y ∧ c'.many y = c.many y ∧ c'.most y = c.most y) (hs : ∀ y ∈ t.els, t.root ≠ some y → At c c' y) : Is c' u' fl t := by
  cases t with
  | nil => trivial
  | node l x r =>
    obtain ⟨n1, n2, n3, n4, n5⟩ := nd_node nd
    obtain ⟨h1, h2, h3, h4, h5, h6, h7⟩ := h
    obtain ⟨q1, q2, q3, q4, q5, q6⟩ := hr x rfl
    refine ⟨q1, by rw [q2, q4]; exact h2, by rw [q3, q4]; exact h3, q5.trans h4, by rw [q6, hw]; exact h5, ?_, ?_⟩
    · rw [q4]; exact h6.to hw fun y hy => hs y (by simp [Tr.els, hy]) (fun e => n3 (by injection e with e; rw [e]; exact hy))
    · rw [q4]; exact h7.to hw fun y hy => hs y (by simp [Tr.els, hy]) (fun e => n4 (by injection e with e; rw [e]; exact hy))
structure Z (c : C) (pp : Option Nat) (k : List Fm) (a b : Tr) (x : Nat) : Prop where
  ctx : Ctx c pp (some x) (Tr.node a x b).els k
  tr : Is c (upO pp k) false (.node a x b)
  fl : c.flip x = false
def Out (c : C) (pp : Option Nat) (E : List Nat) : Prop := ∀ g, pp = some g → g ∉ E ∧ ∀ y ∈ E, c.left g ≠ some y ∧ c.right g ≠ some y
theorem Out.at_ {c c' : C} {pp : Option Nat} {E : List Nat} (o : Out c pp E) (h : ∀ y, y ∉ E → At c c' y) : Out c' pp E := fun g e => by
  obtain ⟨h1, h2⟩ := o g e
  exact ⟨h1, fun y hy => by rw [(h g h1).left, (h g h1).right]; exact h2 y hy⟩
theorem plugE_sub : ∀ (k : List Fm) (E : List Nat), ∀ y ∈ E, y ∈ plugE E k
  | [], E, y, hy => hy
  | f :: k, E, y, hy => plugE_sub k (f.E E) y (E_mem.mpr (Or.inr (Or.inl hy)))
theorem plugE_nd : ∀ (k : List Fm) (E : List Nat), (plugE E k).Nodup → E.Nodup
  | [], E, h => h
  | f :: k, E, h => (nd_E (plugE_nd k (f.E E) h)).1
/-- a context stays where nothing of it changes -/
theorem Ctx.to {c c' : C} {pp : Option Nat} (hw : c'.worth = c.worth) : ∀ (k : List Fm) (h : Option Nat) (E : List Nat), (plugE E k).Nodup → (∀ y ∈ plugE E k, y ∉ E → At c c' y) → Ctx c pp h E k → Ctx c' pp h E k
  | [], _, _, _, _, _ => trivial
  | f :: k, h, E, nd, ha, ⟨F, hc⟩ => by
    have n := nd_E (plugE_nd k (f.E E) nd)
    refine ⟨F.mono hw (ha _ (plugE_sub k _ _ (E_mem.mpr (Or.inl rfl))) n.2.2.1) fun y hy => ha y (plugE_sub k _ _ (E_mem.mpr (Or.inr (Or.inr hy)))) fun q => n.2.2.2.2 y q hy, Ctx.to hw k _ _ nd (fun y hy hn => ha y hy fun q => hn (E_mem.mpr (Or.inr (Or.inl q)))) hc⟩
end K73
end
section
set_option maxHeartbeats 4000000
namespace K73
/-! ### plain law: a turn as a rotation -/
theorem turnL {c : C} {x u : Nat} (hl : (t1 c x u).left u = some x) : (turnC c x u).left = up (t1 c x u).left u ((t1 c x u).right x) ∧ (turnC c x u).right = up (t1 c x u).right x (some u) ∧ inner (turnA c x u) x u = (t1 c x u).right x := by
  have hl' : (turnA c x u).left u = some x := hl
  refine ⟨?_, ?_, ?_⟩
  · funext y
    rw [turnC_left]
    unfold rot
    rw [if_pos hl']; rfl
  · funext y
    rw [turnC_right]
    unfold rot
    rw [if_pos hl']; rfl
  · unfold inner
    rw [if_pos hl']; rfl
theorem turnR {c : C} {x u : Nat} (hl : (t1 c x u).left u ≠ some x) : (turnC c x u).right = up (t1 c x u).right u ((t1 c x u).left x) ∧ (turnC c x u).left = up (t1 c x u).left x (some u) ∧ inner (turnA c x u) x u = (t1 c x u).left x := by
  have hl' : (turnA c x u).left u ≠ some x := hl
  refine ⟨?_, ?_, ?_⟩
  · funext y
    rw [turnC_right]
    unfold rot
    rw [if_neg hl']; rfl
  · funext y
    rw [turnC_left]
    unfold rot
    rw [if_neg hl']; rfl
  · unfold inner
    rw [if_neg hl']; rfl
theorem ctx_turn {c c' : C} {pp : Option Nat} {u x : Nat} {E : List Nat} (hw : c'.worth = c.worth) : ∀ (k : List Fm), (plugE E k).Nodup → u ∈ E → Ctx c pp (some u) E k → (∀ y ∈ plugE E k, y ∉ E → (∀ h, k.head? = some h → y ≠ h.u) → At c c' y) →
    (∀ h, k.head? = some h → c'.flip h.u = c.flip h.u ∧ c'.above h.u = c.above h.u ∧ c'.many h.u = c.many h.u ∧ c'.most h.u = c.most h.u ∧ c'.left h.u = (if c.left h.u = some u then some x else c.left h.u) ∧ c'.right h.u = (if c.left h.u = some u then c.right h.u else if c.right h.u = some u then some x else c.right h.u)) → Ctx c' pp (some x) E k
  | [], _, _, _, _, _ => trivial
  | h :: k, nd, hu, ⟨F, hc⟩, ha, hh => by
    have n := nd_E (plugE_nd k (h.E E) nd)
    obtain ⟨q1, q2, q3, q4, q5, q6⟩ := hh h rfl
    have hus : u ∉ h.s.els := n.2.2.2.2 u hu
    have hsr : h.s.root ≠ some u := fun e => hus (Tr.root_mem e)
    have inK : ∀ y ∈ h.E E, y ∈ plugE E (h :: k) := fun y hy => plugE_sub k _ _ hy
    have hsub : ∀ y ∈ h.s.els, At c c' y := fun y hy => ha y (inK y (E_mem.mpr (Or.inr (Or.inr hy)))) (fun q => n.2.2.2.2 y q hy) (fun h' e => by cases e; exact fun e => n.2.2.2.1 (e ▸ hy))
    refine ⟨⟨q1.trans F.flip, q2.trans F.above, ?_, ?_, q3.trans F.many, by rw [q4, hw]; exact F.most, F.sub.to hw hsub⟩, Ctx.to hw k _ _ nd (fun y hy hn => ha y hy (fun q => hn (E_mem.mpr (Or.inr (Or.inl q)))) (fun h' e => by cases e; exact fun e => hn (E_mem.mpr (Or.inl e)))) hc⟩
    · rw [q5, F.left]
      by_cases hs : h.sd = true
      · rw [if_pos hs, if_pos rfl, if_pos hs]
      · rw [if_neg hs, if_neg hsr, if_neg hs]
    · rw [q6, F.left, F.right]
      by_cases hs : h.sd = true
      · rw [if_pos hs, if_pos rfl, if_pos hs, if_pos hs]
      · rw [if_neg hs, if_neg hsr, if_neg hs, if_pos rfl, if_neg hs]
theorem top_iff {c : C} {pp : Option Nat} {E : List Nat} {u : Nat} : ∀ (k : List Fm), u ∈ E → (plugE E k).Nodup → Ctx c pp (some u) E k → c.above u = upO pp k → Out c pp (plugE E k) → (k = [] → isTop c u = true) ∧ (∀ h, k.head? = some h → isTop c u = false ∧ c.above u = some h.u) ∧ ∀ g, c.above u = some g → g ∉ E
  | [], hu, nd, _, ha, o => by
    refine ⟨fun _ => ?_, fun h e => (by cases e), fun g e => ?_⟩
    · unfold isTop
      rw [ha]
      cases hpp : upO pp [] with
      | none => rfl
      | some g =>
        obtain ⟨_, q⟩ := o g hpp
        obtain ⟨q1, q2⟩ := q u hu
        show (!(c.left g == some u || c.right g == some u)) = true
        rw [beq_eq_false_iff_ne.mpr q1, beq_eq_false_iff_ne.mpr q2]; rfl
    · exact (o g (by rw [← e, ha]; rfl)).1
  | h :: k, hu, nd, ⟨F, _⟩, ha, _ => by
    have n := nd_E (plugE_nd k (h.E E) nd)
    have ha' : c.above u = some h.u := ha
    refine ⟨fun e => (by cases e), fun h' e => ?_, fun g e => ?_⟩
    · cases e
      refine ⟨?_, ha'⟩
      unfold isTop
      rw [ha']
      show (!(c.left h.u == some u || c.right h.u == some u)) = false
      by_cases hs : h.sd = true
      · rw [F.left, if_pos hs, beq_self_eq_true]; rfl
      · rw [F.right, if_neg hs, beq_self_eq_true, Bool.or_true]; rfl
    · rw [ha'] at e
      cases e
      exact n.2.2.1
def rotL (f : Fm) (a b : Tr) : Tr := if f.sd = true then a else .node f.s f.u a
def rotR (f : Fm) (a b : Tr) : Tr := if f.sd = true then .node b f.u f.s else b
theorem rot_els (f : Fm) (a b : Tr) (x : Nat) : (Tr.node (rotL f a b) x (rotR f a b)).els = f.E (Tr.node a x b).els := by
  unfold rotL rotR Fm.E
  by_cases hs : f.sd = true
  · rw [if_pos hs, if_pos hs, if_pos hs]; simp [Tr.els]
  · rw [if_neg hs, if_neg hs, if_neg hs]; simp [Tr.els]
end K73
end
section
set_option maxHeartbeats 4000000
namespace K73
/-! ### plain law: a turn as a rotation, whole -/
theorem turn_z {c : C} {pp : Option Nat} {f : Fm} {k : List Fm} {a b : Tr} {x : Nat} (z : Z c pp (f :: k) a b x) (nd : (plugE (Tr.node a x b).els (f :: k)).Nodup) (out : Out c pp (plugE (Tr.node a x b).els (f :: k))) :
    Z (turn c x) pp k (rotL f a b) (rotR f a b) x ∧ (∀ y, y ∉ plugE (Tr.node a x b).els (f :: k) → At c (turn c x) y) ∧ (turn c x).worth = c.worth ∧ (turn c x).steps = c.steps + 1 := by
  obtain ⟨F, hc⟩ := z.ctx
  obtain ⟨h1, h2, h3, h4, h5, h6, h7⟩ := z.tr
  rw [z.fl] at h2 h3 h6 h7
  have h1 : c.above x = some f.u := h1
  have h2 : c.left x = a.root := h2
  have h3 : c.right x = b.root := h3
  have h6 : Is c (some x) false a := h6
  have h7 : Is c (some x) false b := h7
  have hE1 : plugE (Tr.node a x b).els (f :: k) = plugE (f.E (Tr.node a x b).els) k := rfl
  rw [hE1] at nd out ⊢
  have n := nd_E (plugE_nd k _ nd)
  obtain ⟨n1, n2, n3, n4, n5⟩ := n
  obtain ⟨m1, m2, m3, m4, m5⟩ := nd_node n1
  have inx : x ∈ (Tr.node a x b).els := by simp [Tr.els]
  have ina : ∀ y ∈ a.els, y ∈ (Tr.node a x b).els := fun y hy => by simp [Tr.els, hy]
  have inb : ∀ y ∈ b.els, y ∈ (Tr.node a x b).els := fun y hy => by simp [Tr.els, hy]
  have hxu : x ≠ f.u := fun e => n3 (e ▸ inx)
  have hua : f.u ∉ a.els := fun q => n3 (ina _ q)
  have hub : f.u ∉ b.els := fun q => n3 (inb _ q)
  have hxs : x ∉ f.s.els := n5 x inx
  have huE : f.u ∈ f.E (Tr.node a x b).els := E_mem.mpr (Or.inl rfl)
  obtain ⟨tp, ntp, hg⟩ := top_iff k huE nd hc F.above out
  have lr : ∀ y ∈ f.E (Tr.node a x b).els, (t1 c x f.u).left y = c.left y ∧ (t1 c x f.u).right y = c.right y := fun y hy => t1_lr c x f.u y (Or.inr fun e => hg y e hy)
  have lrx := lr x (E_mem.mpr (Or.inr (Or.inl inx)))
  have lru := lr f.u huE
  have eT : turn c x = turnAt c x f.u := by unfold turn; rw [h1]
  rw [eT]
  obtain ⟨s1, s2, s3, s4, s5⟩ := turnC_same c x f.u
  have wT : (turnAt c x f.u).worth = c.worth := s2
  have dT : ∀ y, y ≠ x → y ≠ f.u → At (turnC c x f.u) (turnAt c x f.u) y := fun y q1 q2 => (gather_at q2).trans ((gather_at q1).trans ⟨rfl, rfl, rfl, rfl, rfl, rfl⟩)
  have tail : (∀ y, y ∉ f.E (Tr.node a x b).els → (turnC c x f.u).left y = (t1 c x f.u).left y ∧ (turnC c x f.u).right y = (t1 c x f.u).right y ∧ (turnC c x f.u).above y = c.above y) → Is (turnAt c x f.u) (upO pp k) false (.node (rotL f a b) x (rotR f a b)) →
      Z (turnAt c x f.u) pp k (rotL f a b) (rotR f a b) x ∧ (∀ y, y ∉ plugE (f.E (Tr.node a x b).els) k → At c (turnAt c x f.u) y) ∧ (turnAt c x f.u).worth = c.worth ∧ (turnAt c x f.u).steps = c.steps + 1 := by
    intro ho hi
    have nxE : ∀ y, y ∉ f.E (Tr.node a x b).els → y ≠ x ∧ y ≠ f.u := fun y hy => ⟨fun e => hy (by rw [e]; exact E_mem.mpr (Or.inr (Or.inl inx))), fun e => hy (by rw [e]; exact huE)⟩
    have hat : ∀ y, y ∉ f.E (Tr.node a x b).els → (∀ h, k.head? = some h → y ≠ h.u) → At c (turnAt c x f.u) y := fun y hy hh => by
      have e := dT y (nxE y hy).1 (nxE y hy).2
      obtain ⟨o1, o2, o3⟩ := ho y hy
      have t := t1_lr c x f.u y (by
        cases k with
        | nil => exact Or.inl (tp rfl)
        | cons h k' => exact Or.inr (by rw [(ntp h rfl).2]; exact fun e => hh h rfl (by injection e with e; exact e.symm)))
      exact ⟨e.above.trans o3, e.left.trans (o1.trans t.1), e.right.trans (o2.trans t.2), e.flip.trans (congrFun s1 y), e.many.trans (congrFun s4 y), e.most.trans (congrFun s3 y)⟩
    refine ⟨⟨?_, hi, (congrFun s1 x).trans z.fl⟩, fun y hy => hat y (fun q => hy (plugE_sub k _ _ q)) (fun h e => by
      cases k with
      | nil => cases e
      | cons h' k' => cases e; exact fun e => hy (e ▸ plugE_sub k' _ _ (E_mem.mpr (Or.inl rfl)))), wT, rfl⟩
    rw [rot_els]
    refine ctx_turn wT k nd huE hc (fun y _ hy hh => hat y hy hh) (fun h e => ?_)
    have hn : h.u ∉ f.E (Tr.node a x b).els := hg h.u (ntp h e).2
    have e2 := dT h.u (nxE _ hn).1 (nxE _ hn).2
    obtain ⟨o1, o2, o3⟩ := ho h.u hn
    obtain ⟨g1, g2⟩ := t1_g (x := x) (ntp h e).1 (ntp h e).2
    exact ⟨e2.flip.trans (congrFun s1 _), e2.above.trans o3, e2.many.trans (congrFun s4 _), e2.most.trans (congrFun s3 _), e2.left.trans (o1.trans g1), e2.right.trans (o2.trans g2)⟩
  have noR : ∀ {t : Tr} {y : Nat}, y ∉ t.els → t.root ≠ some y := fun q e => q (Tr.root_mem e)
  have E1m : ∀ y, y ∈ (Tr.node a x b).els ∨ y ∈ f.s.els → y ∈ f.E (Tr.node a x b).els := fun y h => E_mem.mpr (Or.inr h)
  have notE : ∀ y, y ∉ f.E (Tr.node a x b).els → y ≠ x ∧ y ≠ f.u ∧ y ∉ a.els ∧ y ∉ b.els := fun y hy => ⟨fun e => hy (by rw [e]; exact E1m x (Or.inl inx)), fun e => hy (by rw [e]; exact huE), fun q => hy (E1m _ (Or.inl (ina _ q))), fun q => hy (E1m _ (Or.inl (inb _ q)))⟩
  by_cases hs : f.sd = true
  · have hl : (t1 c x f.u).left f.u = some x := by rw [lru.1, F.left, if_pos hs]
    have hr : c.right f.u = f.s.root := by rw [F.right, if_pos hs]
    obtain ⟨dl, dr, di⟩ := turnL hl
    rw [lrx.2, h3] at dl di
    have dab : ∀ y, (turnC c x f.u).above y = if b.root = some y then some f.u else if y = f.u then some x else if y = x then c.above f.u else c.above y := fun y => by rw [turnC_above, di]
    refine tail (fun y hy => ?_) ?_
    · obtain ⟨q1, q2, q3, q4⟩ := notE y hy
      exact ⟨by rw [dl, up_ne q2], by rw [dr, up_ne q1], by rw [dab, if_neg (noR q4), if_neg q2, if_neg q1]⟩
    · have at_ : ∀ y, y ∈ f.E (Tr.node a x b).els → y ≠ x → y ≠ f.u → b.root ≠ some y → At c (turnC c x f.u) y := fun y hy q1 q2 q3 =>
        ⟨by rw [dab, if_neg q3, if_neg q2, if_neg q1], by rw [dl, up_ne q2, (lr y hy).1], by rw [dr, up_ne q1, (lr y hy).2], congrFun s1 y, congrFun s4 y, congrFun s3 y⟩
      have ia : Is (turnC c x f.u) (some x) false a := h6.to s2 fun y hy => at_ y (E1m _ (Or.inl (ina y hy))) (fun e => m3 (e ▸ hy)) (fun e => hua (e ▸ hy)) (noR (m5 y hy))
      have is_ : Is (turnC c x f.u) (some f.u) false f.s := F.sub.to s2 fun y hy => at_ y (E1m _ (Or.inr hy)) (fun e => hxs (e ▸ hy)) (fun e => n4 (e ▸ hy)) (noR fun q => n5 y (inb y q) hy)
      have ib : Is (turnC c x f.u) (some f.u) false b := h7.reup m2 s2 (fun y hy => by
        have hyb := Tr.root_mem hy
        have q1 : y ≠ x := fun e => m4 (e ▸ hyb)
        have q2 : y ≠ f.u := fun e => hub (e ▸ hyb)
        have hyE := E1m y (Or.inl (inb y hyb))
        exact ⟨by rw [dab, if_pos hy], by rw [dl, up_ne q2, (lr y hyE).1], by rw [dr, up_ne q1, (lr y hyE).2], congrFun s1 y, congrFun s4 y, congrFun s3 y⟩) (fun y hy hn => at_ y (E1m _ (Or.inl (inb y hy))) (fun e => m4 (e ▸ hy)) (fun e => hub (e ▸ hy)) hn)
      have g1 : Is (gather (turnC c x f.u) f.u) (some x) false (.node b f.u f.s) := gather_is (by rw [dab, if_neg (noR hub), if_pos rfl]) ((congrFun s1 _).trans F.flip) (by rw [dl, up_same]) (by rw [dr, up_ne hxu.symm, lru.2, hr]) ib is_ hub n4
      have hxB : x ∉ (Tr.node b f.u f.s).els := by
        simp only [Tr.els, List.mem_append, List.mem_cons, not_or]
        exact ⟨m4, hxu, hxs⟩
      have g2 : Is (gather (gather (turnC c x f.u) f.u) x) (upO pp k) false (.node a x (.node b f.u f.s)) := gather_is (by
        show (turnC c x f.u).above x = _
        rw [dab, if_neg (noR m4), if_neg hxu, if_pos rfl]; exact F.above) ((congrFun s1 _).trans z.fl) (by
        show (turnC c x f.u).left x = _
        rw [dl, up_ne hxu, lrx.1, h2]) (by
        show (turnC c x f.u).right x = _
        rw [dr, up_same]; rfl) (ia.to rfl fun y hy => gather_at fun e => hua (e ▸ hy)) g1 m3 hxB
      unfold rotL rotR
      rw [if_pos hs, if_pos hs]
      exact g2.to rfl fun y _ => ⟨rfl, rfl, rfl, rfl, rfl, rfl⟩
  · have hl0 : c.left f.u = f.s.root := by rw [F.left, if_neg hs]
    have hl : (t1 c x f.u).left f.u ≠ some x := by rw [lru.1, hl0]; exact noR hxs
    have hr : c.right f.u = some x := by rw [F.right, if_neg hs]
    obtain ⟨dr, dl, di⟩ := turnR hl
    rw [lrx.1, h2] at dr di
    have dab : ∀ y, (turnC c x f.u).above y = if a.root = some y then some f.u else if y = f.u then some x else if y = x then c.above f.u else c.above y := fun y => by rw [turnC_above, di]
    refine tail (fun y hy => ?_) ?_
    · obtain ⟨q1, q2, q3, q4⟩ := notE y hy
      exact ⟨by rw [dl, up_ne q1], by rw [dr, up_ne q2], by rw [dab, if_neg (noR q3), if_neg q2, if_neg q1]⟩
    · have at_ : ∀ y, y ∈ f.E (Tr.node a x b).els → y ≠ x → y ≠ f.u → a.root ≠ some y → At c (turnC c x f.u) y := fun y hy q1 q2 q3 =>
        ⟨by rw [dab, if_neg q3, if_neg q2, if_neg q1], by rw [dl, up_ne q1, (lr y hy).1], by rw [dr, up_ne q2, (lr y hy).2], congrFun s1 y, congrFun s4 y, congrFun s3 y⟩
      have ib : Is (turnC c x f.u) (some x) false b := h7.to s2 fun y hy => at_ y (E1m _ (Or.inl (inb y hy))) (fun e => m4 (e ▸ hy)) (fun e => hub (e ▸ hy)) (noR fun q => m5 y q hy)
      have is_ : Is (turnC c x f.u) (some f.u) false f.s := F.sub.to s2 fun y hy => at_ y (E1m _ (Or.inr hy)) (fun e => hxs (e ▸ hy)) (fun e => n4 (e ▸ hy)) (noR fun q => n5 y (ina y q) hy)
      have ia : Is (turnC c x f.u) (some f.u) false a := h6.reup m1 s2 (fun y hy => by
        have hyb := Tr.root_mem hy
        have q1 : y ≠ x := fun e => m3 (e ▸ hyb)
        have q2 : y ≠ f.u := fun e => hua (e ▸ hyb)
        have hyE := E1m y (Or.inl (ina y hyb))
        exact ⟨by rw [dab, if_pos hy], by rw [dl, up_ne q1, (lr y hyE).1], by rw [dr, up_ne q2, (lr y hyE).2], congrFun s1 y, congrFun s4 y, congrFun s3 y⟩) (fun y hy hn => at_ y (E1m _ (Or.inl (ina y hy))) (fun e => m3 (e ▸ hy)) (fun e => hua (e ▸ hy)) hn)
      have g1 : Is (gather (turnC c x f.u) f.u) (some x) false (.node f.s f.u a) := gather_is (by rw [dab, if_neg (noR hua), if_pos rfl]) ((congrFun s1 _).trans F.flip) (by rw [dl, up_ne hxu.symm, lru.1, hl0]) (by rw [dr, up_same]) is_ ia n4 hua
      have hxB : x ∉ (Tr.node f.s f.u a).els := by
        simp only [Tr.els, List.mem_append, List.mem_cons, not_or]
        exact ⟨hxs, hxu, m3⟩
      have g2 : Is (gather (gather (turnC c x f.u) f.u) x) (upO pp k) false (.node (.node f.s f.u a) x b) := gather_is (by
        show (turnC c x f.u).above x = _
        rw [dab, if_neg (noR m3), if_neg hxu, if_pos rfl]; exact F.above) ((congrFun s1 _).trans z.fl) (by
        show (turnC c x f.u).left x = _
        rw [dl, up_same]; rfl) (by
        show (turnC c x f.u).right x = _
        rw [dr, up_ne hxu, lrx.2, h3]) g1 (ib.to rfl fun y hy => gather_at fun e => hub (e ▸ hy)) hxB m4
      unfold rotL rotR
      rw [if_neg hs, if_neg hs]
      exact g2.to rfl fun y _ => ⟨rfl, rfl, rfl, rfl, rfl, rfl⟩
end K73
end
section
set_option maxHeartbeats 4000000
namespace K73
/-! ### plain law: lift -/
theorem FmAt.join {c : C} {f : Fm} {u : Option Nat} {t : Tr} (F : FmAt c f u t.root t.els) (h : Is c (some f.u) false t) : Is c u false (f.on t) := by
  have e : (false ^^ c.flip f.u) = false := by rw [F.flip]; rfl
  obtain ⟨q1, q2, q3, q4, q5, q6, q7⟩ := F
  unfold Fm.E at q5 q6
  unfold Fm.on
  by_cases hs : f.sd = true
  · rw [if_pos hs] at q3 q4 q5 q6 ⊢
    exact ⟨q2, by rw [e]; exact q3, by rw [e]; exact q4, q5, q6, by rw [e]; exact h, by rw [e]; exact q7⟩
  · rw [if_neg hs] at q3 q4 q5 q6 ⊢
    exact ⟨q2, by rw [e]; exact q3, by rw [e]; exact q4, q5, q6, by rw [e]; exact q7, by rw [e]; exact h⟩
theorem turn_flip (c : C) (x : Nat) : (turn c x).flip = c.flip := by
  unfold turn
  cases c.above x with
  | none => rfl
  | some u => exact (turnC_same c x u).1
def auL (f : Fm) (t : Tr) : Tr := if f.sd = true then t else f.s
def auR (f : Fm) (t : Tr) : Tr := if f.sd = true then f.s else t
theorem au_on (f : Fm) (t : Tr) : f.on t = .node (auL f t) f.u (auR f t) := by
  unfold Fm.on auL auR
  by_cases hs : f.sd = true
  · rw [if_pos hs, if_pos hs, if_pos hs]
  · rw [if_neg hs, if_neg hs, if_neg hs]
/-- the zipper at the parent -/
theorem Z.up {c : C} {pp : Option Nat} {f : Fm} {k : List Fm} {a b : Tr} {x : Nat} (z : Z c pp (f :: k) a b x) : Z c pp k (auL f (.node a x b)) (auR f (.node a x b)) f.u := by
  obtain ⟨F, hc⟩ := z.ctx
  have h : Is c (upO pp k) false (f.on (.node a x b)) := FmAt.join (t := .node a x b) F z.tr
  have e := Fm.on_els f (.node a x b)
  rw [au_on] at h e
  exact ⟨by rw [e]; exact hc, h, F.flip⟩
/-- the zipper at a child -/
theorem Z.down {c : C} {pp : Option Nat} {f : Fm} {k : List Fm} {A B a b : Tr} {u x : Nat} (z : Z c pp k A B u) (e : .node A u B = f.on (.node a x b)) (hx : c.flip x = false) : Z c pp (f :: k) a b x := by
  have hu : f.u = u := by
    have : (f.on (.node a x b)).root = some u := by rw [← e]; rfl
    rw [Fm.on_root] at this
    injection this
  have h := z.tr
  rw [e] at h
  obtain ⟨F, h'⟩ := FmAt.of (by rw [hu]; exact z.fl) h
  have hc := z.ctx
  rw [e, Fm.on_els, ← hu] at hc
  exact ⟨⟨F, hc⟩, h', hx⟩
theorem Z.top {c : C} {pp : Option Nat} {a b : Tr} {x : Nat} (z : Z c pp [] a b x) (nd : (Tr.node a x b).els.Nodup) (out : Out c pp (Tr.node a x b).els) : isTop c x = true :=
  (top_iff (E := (Tr.node a x b).els) (u := x) [] (by simp [Tr.els]) nd trivial z.tr.1 out).1 rfl
theorem Z.ntop {c : C} {pp : Option Nat} {f : Fm} {k : List Fm} {a b : Tr} {x : Nat} (z : Z c pp (f :: k) a b x) (nd : (plugE (Tr.node a x b).els (f :: k)).Nodup) (out : Out c pp (plugE (Tr.node a x b).els (f :: k))) : isTop c x = false ∧ c.above x = some f.u :=
  (top_iff (f :: k) (by simp [Tr.els]) nd z.ctx z.tr.1 out).2.1 f rfl
theorem sd_left {c : C} {f : Fm} {u : Option Nat} {x : Nat} {E : List Nat} (F : FmAt c f u (some x) E) (h : x ∉ f.s.els) : decide (c.left f.u = some x) = f.sd := by
  rw [F.left]
  by_cases hs : f.sd = true
  · rw [if_pos hs, hs]; simp
  · rw [if_neg hs]
    have : f.s.root ≠ some x := fun e => h (Tr.root_mem e)
    rw [decide_eq_false this]
    cases q : f.sd
    · rfl
    · exact absurd q hs
theorem turn_n' (c : C) (x : Nat) : (turn c x).n = c.n := turn_n c x
theorem lift_z : ∀ (m : Nat) (k : List Fm), k.length ≤ m → ∀ (c : C) (pp : Option Nat) (a b : Tr) (x : Nat), Z c pp k a b x → (plugE (Tr.node a x b).els k).Nodup → Out c pp (plugE (Tr.node a x b).els k) → WF c → (∀ y ∈ plugE (Tr.node a x b).els k, y < c.n) → c.steps + k.length + 2 < 16000000 →
    ∃ (a' b' : Tr) (c' : C) (j : Nat), LiftR x j c c' ∧ Z c' pp [] a' b' x ∧ (Tr.node a' x b').els = plugE (Tr.node a x b).els k ∧ (∀ y, y ∉ plugE (Tr.node a x b).els k → At c c' y) ∧ c'.worth = c.worth ∧ c'.steps = c.steps + k.length := by
  intro m
  induction m with
  | zero =>
    intro k hk c pp a b x z nd out wf hn hs
    have : k = [] := List.length_eq_zero_iff.mp (by omega)
    subst this
    exact ⟨a, b, c, 0, .top (z.top nd out), z, rfl, fun y _ => At.refl c y, rfl, rfl⟩
  | succ m ih =>
    intro k hk c pp a b x z nd out wf hn hs
    match k, hk, z, nd, out, hn, hs with
    | [], _, z, nd, out, hn, hs => exact ⟨a, b, c, 0, .top (z.top nd out), z, rfl, fun y _ => At.refl c y, rfl, rfl⟩
    | [f], _, z, nd, out, hn, hs =>
      obtain ⟨t1, t2⟩ := z.ntop nd out
      obtain ⟨z1, o1, w1, s1⟩ := turn_z z nd out
      have hx : x < c.n := hn x (plugE_sub _ _ _ (by simp [Tr.els]))
      have zu := z.up
      have eu : (Tr.node (auL f (.node a x b)) f.u (auR f (.node a x b))).els = plugE (Tr.node a x b).els [f] := by rw [← au_on, Fm.on_els]; rfl
      have tu : isTop c f.u = true := zu.top (by rw [eu]; exact nd) (by rw [eu]; exact out)
      have hp : preT c x f.u = c := by unfold preT; rw [if_pos tu]
      have e1 := rot_els f a b x
      have ot : Out (turn c x) pp (Tr.node (rotL f a b) x (rotR f a b)).els := by rw [e1]; exact out.at_ o1
      exact ⟨_, _, turn c x, 1, .step t1 t2 wf hx (by simp at hs; omega) (by rw [hp]; exact t2) (by rw [hp]; exact .top (z1.top (by rw [e1]; exact nd) ot)), z1, e1, o1, w1, s1⟩
    | f :: g :: k, hk, z, nd, out, hn, hs =>
      obtain ⟨t1, t2⟩ := z.ntop nd out
      have hx : x < c.n := hn x (plugE_sub _ _ _ (by simp [Tr.els]))
      have hu : f.u < c.n := hn f.u (plugE_sub (g :: k) _ _ (E_mem.mpr (Or.inl rfl)))
      have zu := z.up
      have eu : (Tr.node (auL f (.node a x b)) f.u (auR f (.node a x b))).els = f.E (Tr.node a x b).els := by rw [← au_on, Fm.on_els]
      have ndu : (plugE (Tr.node (auL f (.node a x b)) f.u (auR f (.node a x b))).els (g :: k)).Nodup := by rw [eu]; exact nd
      have outu : Out c pp (plugE (Tr.node (auL f (.node a x b)) f.u (auR f (.node a x b))).els (g :: k)) := by rw [eu]; exact out
      obtain ⟨u1, u2⟩ := zu.ntop ndu outu
      have n1 := nd_E (plugE_nd (g :: k) _ nd)
      have n2 := nd_E (plugE_nd k _ nd)
      have hal : alike c x f.u = (f.sd == g.sd) := by
        unfold alike
        rw [u2]
        obtain ⟨F, hc⟩ := z.ctx
        obtain ⟨G, _⟩ := hc
        rw [sd_left F (n1.2.2.2.2 x (by simp [Tr.els]))]
        show (f.sd == decide (c.left g.u = some f.u)) = _
        rw [sd_left G (n2.2.2.2.2 f.u (E_mem.mpr (Or.inl rfl)))]
      have fin : ∀ (c1 : C) (a1 b1 : Tr) (f1 : Fm), Z c1 pp (f1 :: k) a1 b1 x → plugE (Tr.node a1 x b1).els (f1 :: k) = plugE (Tr.node a x b).els (f :: g :: k) → (∀ y, y ∉ plugE (Tr.node a x b).els (f :: g :: k) → At c c1 y) → c1.worth = c.worth → c1.steps = c.steps + 1 → WF c1 → c1.n = c.n → preT c x f.u = c1 →
          ∃ (a' b' : Tr) (c' : C) (j : Nat), LiftR x j c c' ∧ Z c' pp [] a' b' x ∧ (Tr.node a' x b').els = plugE (Tr.node a x b).els (f :: g :: k) ∧ (∀ y, y ∉ plugE (Tr.node a x b).els (f :: g :: k) → At c c' y) ∧ c'.worth = c.worth ∧ c'.steps = c.steps + (f :: g :: k).length := by
        intro c1 a1 b1 f1 z1 e1 o1 w1 s1 wf1 m1 hp
        have nd1 : (plugE (Tr.node a1 x b1).els (f1 :: k)).Nodup := by rw [e1]; exact nd
        have out1 : Out c1 pp (plugE (Tr.node a1 x b1).els (f1 :: k)) := by rw [e1]; exact out.at_ o1
        obtain ⟨z2, o2, w2, s2⟩ := turn_z z1 nd1 out1
        have ex : c1.above x = some f1.u := (z1.ntop nd1 out1).2
        have e2 : plugE (Tr.node (rotL f1 a1 b1) x (rotR f1 a1 b1)).els k = plugE (Tr.node a x b).els (f :: g :: k) := by rw [rot_els]; exact e1
        rw [e1] at o2
        have o3 : ∀ y, y ∉ plugE (Tr.node a x b).els (f :: g :: k) → At c (turn c1 x) y := fun y hy => (o1 y hy).trans (o2 y hy)
        obtain ⟨a', b', c', j, l, z', e', o', w', s'⟩ := ih k (by simp at hk; omega) (turn c1 x) pp _ _ x z2 (by rw [e2]; exact nd) (by rw [e2]; exact out.at_ o3) (wf_turn wf1 (by rw [m1]; exact hx)) (by rw [e2, turn_n, m1]; exact hn) (by simp at hs; omega)
        rw [e2] at e' o'
        refine ⟨a', b', c', j + 1, .step t1 t2 wf hx (by simp at hs; omega) (by rw [hp]; exact ex) (by rw [hp]; exact l), z', e', fun y hy => (o3 y hy).trans (o' y hy), w'.trans (w2.trans w1), by rw [s', s2, s1]; simp; omega⟩
      by_cases ha : f.sd = g.sd
      · have hp : preT c x f.u = turn c f.u := by
          unfold preT
          rw [if_neg (by rw [u1]; decide), hal, if_pos (by rw [ha, beq_self_eq_true])]
        obtain ⟨zv, ov, wv, sv⟩ := turn_z zu ndu outu
        rw [eu] at ov
        have fx : (turn c f.u).flip x = false := by rw [turn_flip]; exact z.fl
        have er := rot_els g (auL f (.node a x b)) (auR f (.node a x b)) f.u
        rw [eu] at er
        by_cases hs1 : f.sd = true
        · have hg1 : g.sd = true := by rw [← ha]; exact hs1
          have ed : (Tr.node (rotL g (auL f (.node a x b)) (auR f (.node a x b))) f.u (rotR g (auL f (.node a x b)) (auR f (.node a x b)))) = (⟨true, f.u, .node f.s g.u g.s⟩ : Fm).on (.node a x b) := by
            unfold rotL rotR auL auR Fm.on
            simp [hs1, hg1]
          have zd := Z.down zv ed fx
          refine fin (turn c f.u) a b _ zd ?_ ov wv sv (wf_turn wf hu) (turn_n _ _) hp
          show plugE ((⟨true, f.u, .node f.s g.u g.s⟩ : Fm).E (Tr.node a x b).els) k = _
          rw [← Fm.on_els, ← ed, er]; rfl
        · have hg1 : ¬ g.sd = true := by rw [← ha]; exact hs1
          have ed : (Tr.node (rotL g (auL f (.node a x b)) (auR f (.node a x b))) f.u (rotR g (auL f (.node a x b)) (auR f (.node a x b)))) = (⟨false, f.u, .node g.s g.u f.s⟩ : Fm).on (.node a x b) := by
            unfold rotL rotR auL auR Fm.on
            simp [hs1, hg1]
          have zd := Z.down zv ed fx
          refine fin (turn c f.u) a b _ zd ?_ ov wv sv (wf_turn wf hu) (turn_n _ _) hp
          show plugE ((⟨false, f.u, .node g.s g.u f.s⟩ : Fm).E (Tr.node a x b).els) k = _
          rw [← Fm.on_els, ← ed, er]; rfl
      · have hp : preT c x f.u = turn c x := by
          unfold preT
          rw [if_neg (by rw [u1]; decide), hal, if_neg (by rw [beq_eq_false_iff_ne.mpr ha]; decide)]
        obtain ⟨zv, ov, wv, sv⟩ := turn_z z nd out
        refine fin (turn c x) _ _ g zv ?_ ov wv sv (wf_turn wf hx) (turn_n _ _) hp
        show plugE (g.E (Tr.node _ x _).els) k = _
        rw [rot_els]; rfl
end K73
end
section
set_option maxHeartbeats 4000000
namespace K73
/-! ### plain law: Lifts, strands all together -/
theorem plugE_len : ∀ (k : List Fm) (E : List Nat), E.length + k.length ≤ (plugE E k).length
  | [], E => Nat.le_refl _
  | f :: k, E => by
    have h := plugE_len k (f.E E)
    have h2 : E.length + 1 ≤ (f.E E).length := by
      unfold Fm.E
      split <;> simp <;> omega
    show E.length + (k.length + 1) ≤ (plugE (f.E E) k).length
    omega
theorem lifts_t {c : C} {pp : Option Nat} {T : Tr} {x : Nat} (h : Is c pp false T) (hx : x ∈ T.els) (nd : T.els.Nodup) (out : Out c pp T.els) (wf : WF c) (hn : ∀ y ∈ T.els, y < c.n) (hs : c.steps + T.els.length + 2 < 16000000) (hl : T.els.length < 10000) :
    ∃ (a b : Tr) (c' : C), Lifts c x c' ∧ Is c' pp false (.node a x b) ∧ c'.flip x = false ∧ (Tr.node a x b).els = T.els ∧ (∀ y, y ∉ T.els → At c c' y) ∧ c'.worth = c.worth ∧ c'.steps + 1 ≤ c.steps + T.els.length := by
  obtain ⟨a, b, k, rfl⟩ := exists_zip hx
  have top : TopOk c pp (plug (.node a x b) k).root := fun g y e1 e2 => (out g e1).2 y (Tr.root_mem e2)
  have ch := chain_z k (.node a x b) false x h rfl top
  obtain ⟨i1, i2, i3, i4⟩ := unfold_z k.length k rfl c pp (.node a x b) nd h
  have wf1 : WF (unfoldL c (k.map Fm.u)) := wf_unfoldL wf _ (fun y hy => ch.lt wf (hn x hx) y (List.mem_cons_of_mem _ hy))
  have ex := plug_els k (.node a x b)
  rw [ex] at nd out hn hs hl i3 ⊢
  have ndT := plugE_nd k _ nd
  have h2 := handDown_is ndT i2
  have hxi : x ∈ (Tr.node a x b).els := by simp [Tr.els]
  have ho : ∀ y, y ∉ (Tr.node a x b).els → At (unfoldL c (k.map Fm.u)) (handDown (unfoldL c (k.map Fm.u)) x) y := fun y hy => handDown_out i2 hxi hy
  have wD := handDown_worth (unfoldL c (k.map Fm.u)) x
  have hc := Ctx.to wD k _ _ nd (fun y _ hy => ho y hy) i1
  have z : Z (handDown (unfoldL c (k.map Fm.u)) x) pp k a b x := ⟨hc, h2, handDown_flip _ _⟩
  have oA : ∀ y, y ∉ plugE (Tr.node a x b).els k → At c (handDown (unfoldL c (k.map Fm.u)) x) y := fun y hy => (i3 y hy).trans (ho y fun q => hy (plugE_sub k _ _ q))
  have eU : unfoldL c (x :: k.map Fm.u) = handDown (unfoldL c (k.map Fm.u)) x := rfl
  have wf2 : WF (handDown (unfoldL c (k.map Fm.u)) x) := by
    rw [← eU]
    exact wf_unfoldL wf _ (ch.lt wf (hn x (plugE_sub k _ _ hxi)))
  have st : (handDown (unfoldL c (k.map Fm.u)) x).steps = c.steps := by rw [← eU]; exact unfoldL_steps c _
  have nn : (handDown (unfoldL c (k.map Fm.u)) x).n = c.n := by rw [← eU]; exact unfoldL_n c _
  have lk := plugE_len k (Tr.node a x b).els
  have l1 : 1 ≤ (Tr.node a x b).els.length := by simp [Tr.els]; omega
  obtain ⟨a', b', c', j, l, z', e', o', w', s'⟩ := lift_z k.length k (Nat.le_refl _) _ pp a b x z nd (out.at_ oA) wf2 (by rw [nn]; exact hn) (by rw [st]; omega)
  refine ⟨a', b', c', ⟨k.map Fm.u, j, wf, hn x (plugE_sub k _ _ hxi), ch, by rw [List.length_map]; omega, by rw [eU]; exact l⟩, z'.tr, z'.fl, e', fun y hy => (oA y hy).trans (o' y hy), w'.trans (wD.trans i4), by rw [s', st]; omega⟩
def Path (par : Nat → Option Nat) : Option Nat → List Nat → Prop
  | _, [] => True
  | pp, x :: xs => par x = pp ∧ Path par (some x) xs
theorem Path.app {par : Nat → Option Nat} {y : Nat} {ys : List Nat} : ∀ {xs : List Nat} {pp : Option Nat}, Path par pp (xs ++ y :: ys) ↔ Path par pp (xs ++ [y]) ∧ Path par (some y) ys
  | [], pp => ⟨fun h => ⟨⟨h.1, trivial⟩, h.2⟩, fun h => ⟨h.1.1, h.2⟩⟩
  | x :: xs, pp => by
    have ih := Path.app (par := par) (y := y) (ys := ys) (xs := xs) (pp := some x)
    exact ⟨fun h => ⟨⟨h.1, (ih.mp h.2).1⟩, (ih.mp h.2).2⟩, fun h => ⟨h.1.1, ih.mpr ⟨h.1.2, h.2⟩⟩⟩
theorem Path.rank {par : Nat → Option Nat} {d : Nat → Nat} (hd : ∀ x y, par x = some y → d y < d x) : ∀ {xs : List Nat} {g : Nat}, Path par (some g) xs → ∀ y ∈ xs, d g < d y
  | [], _, _, y, hy => by cases hy
  | x :: xs, g, ⟨h1, h2⟩, y, hy => by
    have q := hd x g h1
    rcases List.mem_cons.mp hy with e | e
    · rw [e]; exact q
    · exact Nat.lt_trans q (Path.rank hd h2 y e)
structure Rp (c : C) (par : Nat → Option Nat) (Ts : List Tr) : Prop where
  wf : WF c
  nd : (Ts.flatMap Tr.els).Nodup
  lt : ∀ t ∈ Ts, ∀ y ∈ t.els, y < c.n
  cov : ∀ x, x < c.n → ∃ t ∈ Ts, x ∈ t.els
  tree : ∀ t ∈ Ts, ∃ pp, Is c pp false t ∧ Path par pp t.els
  rank : ∃ d : Nat → Nat, ∀ x y, par x = some y → d y < d x
  pn : ∀ x y, par x = some y → x < c.n ∧ y < c.n
theorem Rp.perm {c : C} {par : Nat → Option Nat} {Ts Us : List Tr} (R : Rp c par Ts) (h : Ts.Perm Us) : Rp c par Us where
  wf := R.wf
  nd := ((h.flatMap_right Tr.els).nodup_iff).mp R.nd
  lt t ht := R.lt t (h.mem_iff.mpr ht)
  cov x hx := let ⟨t, ht, e⟩ := R.cov x hx; ⟨t, h.mem_iff.mp ht, e⟩
  tree t ht := R.tree t (h.mem_iff.mpr ht)
  rank := R.rank
  pn := R.pn
theorem focus {Ts : List Tr} {t : Tr} (h : t ∈ Ts) : ∃ us, Ts.Perm (t :: us) := by
  obtain ⟨s, u, e⟩ := List.append_of_mem h
  exact ⟨s ++ u, by rw [e]; exact List.perm_middle⟩
theorem Rp.dis {c : C} {par : Nat → Option Nat} {T : Tr} {us : List Tr} (R : Rp c par (T :: us)) : T.els.Nodup ∧ ∀ t ∈ us, ∀ y ∈ t.els, y ∉ T.els := by
  have h := R.nd
  rw [List.flatMap_cons, List.nodup_append] at h
  exact ⟨h.1, fun t ht y hy q => h.2.2 y q y (List.mem_flatMap.mpr ⟨t, ht, hy⟩) rfl⟩
theorem Rp.out {c : C} {par : Nat → Option Nat} {T : Tr} {us : List Tr} {pp : Option Nat} (R : Rp c par (T :: us)) (h : Path par pp T.els) (hne : T.els ≠ []) : Out c pp T.els := fun g e => by
  subst e
  obtain ⟨d, hd⟩ := R.rank
  have hg : g ∉ T.els := fun q => Nat.lt_irrefl _ (Path.rank hd h g q)
  refine ⟨hg, ?_⟩
  have hgn : g < c.n := by
    cases hT : T.els with
    | nil => exact absurd hT hne
    | cons x xs => rw [hT] at h; exact (R.pn x g h.1).2
  obtain ⟨t, ht, hgt⟩ := R.cov g hgn
  rcases List.mem_cons.mp ht with e | e
  · subst e; exact absurd hgt hg
  · obtain ⟨pp', hi, _⟩ := R.tree t ht
    intro y hy
    have hd := R.dis.2 t e
    exact ⟨fun q => hd y (hi.child hgt (Or.inl q)) hy, fun q => hd y (hi.child hgt (Or.inr q)) hy⟩
theorem Rp.lift {c : C} {par : Nat → Option Nat} {T : Tr} {us : List Tr} {x : Nat} (R : Rp c par (T :: us)) (hx : x ∈ T.els) (hs : c.steps + T.els.length + 2 < 16000000) (hl : T.els.length < 10000) :
    ∃ (a b : Tr) (c' : C), Lifts c x c' ∧ Rp c' par (.node a x b :: us) ∧ (Tr.node a x b).els = T.els ∧ c'.flip x = false ∧ c'.worth = c.worth ∧ c'.n = c.n ∧ c'.steps + 1 ≤ c.steps + T.els.length ∧ (∀ y, y ∉ T.els → At c c' y) := by
  obtain ⟨pp, hi, hp⟩ := R.tree T List.mem_cons_self
  obtain ⟨hd1, hd2⟩ := R.dis
  obtain ⟨a, b, c', hL, hi', hf, he, ho, hw, hst⟩ := lifts_t hi hx hd1 (R.out hp (fun e => by rw [e] at hx; cases hx)) R.wf (R.lt T List.mem_cons_self) hs hl
  obtain ⟨wf', n', _⟩ := hL.keeps
  refine ⟨a, b, c', hL, ⟨wf', by rw [List.flatMap_cons, he, ← List.flatMap_cons]; exact R.nd, ?_, ?_, ?_, R.rank, by rw [n']; exact R.pn⟩, he, hf, hw, n', hst, ho⟩
  · intro t ht y hy
    rw [n']
    rcases List.mem_cons.mp ht with e | e
    · subst e; rw [he] at hy; exact R.lt T List.mem_cons_self y hy
    · exact R.lt t (List.mem_cons_of_mem _ e) y hy
  · intro z hz
    rw [n'] at hz
    obtain ⟨t, ht, e⟩ := R.cov z hz
    rcases List.mem_cons.mp ht with q | q
    · subst q; exact ⟨_, List.mem_cons_self, by rw [he]; exact e⟩
    · exact ⟨t, List.mem_cons_of_mem _ q, e⟩
  · intro t ht
    rcases List.mem_cons.mp ht with e | e
    · subst e; exact ⟨pp, hi', by rw [he]; exact hp⟩
    · obtain ⟨pp', h1, h2⟩ := R.tree t (List.mem_cons_of_mem _ e)
      exact ⟨pp', h1.to hw fun y hy => ho y (hd2 t e y hy), h2⟩
end K73
end
section
set_option maxHeartbeats 4000000
namespace K73
/-! ### plain law: let_go, take_in, lead -/
theorem Rp.two {c : C} {par : Nat → Option Nat} {T t : Tr} {us : List Tr} (R : Rp c par (T :: t :: us)) : T.els.length + t.els.length ≤ c.n := by
  have h := R.nd
  rw [List.flatMap_cons, List.flatMap_cons, ← List.append_assoc] at h
  have h1 := (List.nodup_append.mp h).1
  have h2 := h1.length_le_of_subset (l₂ := List.range c.n) (fun y hy => by
    rw [List.mem_range]
    rcases List.mem_append.mp hy with q | q
    · exact R.lt T List.mem_cons_self y q
    · exact R.lt t (by simp) y q)
  rw [List.length_append, List.length_range] at h2
  exact h2
theorem Rp.one {c : C} {par : Nat → Option Nat} {T : Tr} {us : List Tr} (R : Rp c par (T :: us)) : T.els.length ≤ c.n := by
  have h2 := R.dis.1.length_le_of_subset (l₂ := List.range c.n) (fun y hy => by rw [List.mem_range]; exact R.lt T List.mem_cons_self y hy)
  rw [List.length_range] at h2
  exact h2
theorem letGo_at {c : C} {x y : Nat} (h : y ≠ x) : At c (letGo c x) y := by
  unfold letGo
  cases c.right x with
  | none => exact ⟨rfl, rfl, rfl, rfl, rfl, rfl⟩
  | some z => exact ⟨rfl, rfl, up_ne h, rfl, up_ne h, up_ne h⟩
theorem letGo_worth (c : C) (x : Nat) : (letGo c x).worth = c.worth := by
  unfold letGo
  cases c.right x <;> rfl
theorem letGo_flip (c : C) (x : Nat) : (letGo c x).flip = c.flip := by
  unfold letGo
  cases c.right x <;> rfl
theorem letGo_above (c : C) (x : Nat) : (letGo c x).above = c.above := by
  unfold letGo
  cases c.right x <;> rfl
theorem Rp.letGo {c : C} {par : Nat → Option Nat} {a b : Tr} {x : Nat} {us : List Tr} (R : Rp c par (.node a x b :: us)) (hf : c.flip x = false) : Rp (letGo c x) par (.node a x .nil :: b :: us) := by
  obtain ⟨pp, hi, hp⟩ := R.tree _ List.mem_cons_self
  obtain ⟨hd1, hd2⟩ := R.dis
  obtain ⟨m1, m2, m3, m4, m5⟩ := nd_node hd1
  obtain ⟨h1, h2, h3, h4, h5, h6, h7⟩ := hi
  rw [hf] at h2 h3 h6 h7
  have h2 : c.left x = a.root := h2
  have h3 : c.right x = b.root := h3
  have h6 : Is c (some x) false a := h6
  have h7 : Is c (some x) false b := h7
  have hw := letGo_worth c x
  have hp' : Path par pp (a.els ++ x :: b.els) := hp
  rw [Path.app] at hp'
  have i1 : Is (K73.letGo c x) pp false (.node a x .nil) := by
    cases b with
    | nil =>
      have e : K73.letGo c x = { c with steps := c.steps + 1 } := by
        unfold K73.letGo
        rw [h3]; rfl
      rw [e]
      have hi : Is c pp false (.node a x .nil) := ⟨h1, by rw [hf]; exact h2, by rw [hf]; exact h3, h4, h5, by rw [hf]; exact h6, trivial⟩
      exact hi.to rfl fun y _ => ⟨rfl, rfl, rfl, rfl, rfl, rfl⟩
    | node bl y br =>
      have e : K73.letGo c x = { gather { c with right := up c.right x none } x with steps := c.steps + 1 } := by
        unfold K73.letGo
        rw [h3]; rfl
      rw [e]
      have g := gather_is (c := { c with right := up c.right x none }) (u := x) (pu := pp) (l := a) (r := .nil) h1 hf h2 up_same (h6.to rfl fun y hy => ⟨rfl, rfl, up_ne (fun q => m3 (q ▸ hy)), rfl, rfl, rfl⟩) trivial m3 (by simp [Tr.els])
      exact g.to rfl fun y _ => ⟨rfl, rfl, rfl, rfl, rfl, rfl⟩
  have i2 : Is (K73.letGo c x) (some x) false b := h7.to hw fun y hy => letGo_at fun q => m4 (q ▸ hy)
  have nn := letGo_n c x
  refine ⟨wf_letGo R.wf, ?_, ?_, ?_, ?_, R.rank, by rw [nn]; exact R.pn⟩
  · have h := R.nd
    simp only [List.flatMap_cons, Tr.els, List.append_assoc] at h ⊢
    simpa using h
  · intro t ht y hy
    rw [nn]
    simp only [List.mem_cons] at ht
    rcases ht with e | e | e
    · subst e
      exact R.lt _ List.mem_cons_self y (by simp only [Tr.els, List.mem_append, List.mem_cons, List.not_mem_nil, or_false] at hy ⊢; rcases hy with q | q; exact Or.inl q; exact Or.inr (Or.inl q))
    · subst e
      exact R.lt _ List.mem_cons_self y (by simp [Tr.els, hy])
    · exact R.lt t (List.mem_cons_of_mem _ e) y hy
  · intro z hz
    rw [nn] at hz
    obtain ⟨t, ht, e⟩ := R.cov z hz
    rcases List.mem_cons.mp ht with q | q
    · subst q
      simp only [Tr.els, List.mem_append, List.mem_cons] at e
      rcases e with e | e | e
      · exact ⟨_, List.mem_cons_self, by simp [Tr.els, e]⟩
      · exact ⟨_, List.mem_cons_self, by simp [Tr.els, e]⟩
      · exact ⟨b, by simp, e⟩
    · exact ⟨t, by simp [q], e⟩
  · intro t ht
    simp only [List.mem_cons] at ht
    rcases ht with e | e | e
    · subst e; exact ⟨pp, i1, hp'.1⟩
    · subst e; exact ⟨some x, i2, hp'.2⟩
    · obtain ⟨pp', q1, q2⟩ := R.tree t (List.mem_cons_of_mem _ e)
      exact ⟨pp', q1.to hw fun y hy => letGo_at fun q => hd2 t e y hy (by rw [q]; simp [Tr.els]), q2⟩
theorem takeIn_at {c : C} {u x y : Nat} (h : y ≠ u) : At c (takeIn c u x) y := ⟨rfl, rfl, up_ne h, rfl, up_ne h, up_ne h⟩
theorem Rp.takeIn {c : C} {par : Nat → Option Nat} {l T : Tr} {u last : Nat} {us : List Tr} (R : Rp c par (.node l u .nil :: T :: us)) (hf : c.flip u = false) (hr : T.root = some last) (ha : c.above last = some u) : Rp (takeIn c u last) par (.node l u T :: us) := by
  obtain ⟨pp, hi, hp⟩ := R.tree _ List.mem_cons_self
  obtain ⟨pt, hit, hpt⟩ := R.tree T (by simp)
  obtain ⟨hd1, hd2⟩ := R.dis
  obtain ⟨m1, m2, m3, m4, m5⟩ := nd_node hd1
  obtain ⟨h1, h2, h3, h4, h5, h6, h7⟩ := hi
  rw [hf] at h2 h3 h6
  have h2 : c.left u = l.root := h2
  have h6 : Is c (some u) false l := h6
  have ept : pt = some u := by rw [← Is.up_ hit hr]; exact ha
  subst ept
  have huT : u ∉ T.els := fun q => hd2 T (by simp) u q (by simp [Tr.els])
  have hp' : Path par pp (l.els ++ u :: T.els) := Path.app.mpr ⟨hp, hpt⟩
  have i1 : Is (K73.takeIn c u last) pp false (.node l u T) := by
    have g := gather_is (c := { c with right := up c.right u (some last) }) (u := u) (pu := pp) (l := l) (r := T) h1 hf h2 (by rw [hr]; exact up_same) (h6.to rfl fun y hy => ⟨rfl, rfl, up_ne (fun q => m3 (q ▸ hy)), rfl, rfl, rfl⟩) (hit.to rfl fun y hy => ⟨rfl, rfl, up_ne (fun q => huT (q ▸ hy)), rfl, rfl, rfl⟩) m3 huT
    exact g.to rfl fun y _ => ⟨rfl, rfl, rfl, rfl, rfl, rfl⟩
  refine ⟨wf_takeIn R.wf (R.lt T (by simp) last (Tr.root_mem hr)), ?_, ?_, ?_, ?_, R.rank, R.pn⟩
  · have h := R.nd
    simp only [List.flatMap_cons, Tr.els, List.append_assoc] at h ⊢
    simpa using h
  · intro t ht y hy
    rcases List.mem_cons.mp ht with e | e
    · subst e
      simp only [Tr.els, List.mem_append, List.mem_cons] at hy
      rcases hy with q | q | q
      · exact R.lt _ List.mem_cons_self y (by simp [Tr.els, q])
      · exact R.lt _ List.mem_cons_self y (by simp [Tr.els, q])
      · exact R.lt T (by simp) y q
    · exact R.lt t (by simp [e]) y hy
  · intro z hz
    obtain ⟨t, ht, e⟩ := R.cov z hz
    simp only [List.mem_cons] at ht
    rcases ht with q | q | q
    · subst q
      simp only [Tr.els, List.mem_append, List.mem_cons, List.not_mem_nil, or_false] at e
      rcases e with e | e
      · exact ⟨_, List.mem_cons_self, by simp [Tr.els, e]⟩
      · exact ⟨_, List.mem_cons_self, by simp [Tr.els, e]⟩
    · subst q; exact ⟨_, List.mem_cons_self, by simp [Tr.els, e]⟩
    · exact ⟨t, by simp [q], e⟩
  · intro t ht
    rcases List.mem_cons.mp ht with e | e
    · subst e; exact ⟨pp, i1, hp'⟩
    · obtain ⟨pp', q1, q2⟩ := R.tree t (by simp [e])
      exact ⟨pp', q1.to rfl fun y hy => takeIn_at fun q => hd2 t (by simp [e]) y hy (by rw [q]; simp [Tr.els]), q2⟩
/-- r is the root above x -/
inductive Rt (par : Nat → Option Nat) : Nat → Nat → Prop
  | top {r : Nat} : par r = none → Rt par r r
  | up {x y r : Nat} : par x = some y → Rt par y r → Rt par x r
theorem Rt.step {par : Nat → Option Nat} {x y r : Nat} (h : par x = some y) : Rt par x r ↔ Rt par y r :=
  ⟨fun q => by
    cases q with
    | top e => rw [h] at e; cases e
    | up e q => rw [h] at e; cases e; exact q, fun q => .up h q⟩
theorem Rt.fn {par : Nat → Option Nat} {x r r' : Nat} (h : Rt par x r) : Rt par x r' → r = r' := by
  induction h with
  | top e =>
    intro q
    cases q with
    | top _ => rfl
    | up e' _ => rw [e] at e'; cases e'
  | up e _ ih => intro q; exact ih ((Rt.step e).mp q)
theorem Rt.is_top {par : Nat → Option Nat} {x r : Nat} (h : Rt par x r) : par r = none := by
  induction h with
  | top e => exact e
  | up _ _ ih => exact ih
theorem Rt.ex {par : Nat → Option Nat} (h : ∃ d : Nat → Nat, ∀ x y, par x = some y → d y < d x) : ∀ x, ∃ r, Rt par x r := by
  obtain ⟨d, hd⟩ := h
  have : ∀ n x, d x ≤ n → ∃ r, Rt par x r := by
    intro n
    induction n with
    | zero =>
      intro x hx
      cases e : par x with
      | none => exact ⟨x, .top e⟩
      | some y => have := hd x y e; omega
    | succ n ih =>
      intro x hx
      cases e : par x with
      | none => exact ⟨x, .top e⟩
      | some y =>
        have := hd x y e
        obtain ⟨r, q⟩ := ih y (by omega)
        exact ⟨r, .up e q⟩
  exact fun x => this (d x) x (Nat.le_refl _)
/-- the items of a path have one root: that of its head -/
theorem Path.root {par : Nat → Option Nat} : ∀ {xs : List Nat} {pp : Option Nat} {x0 : Nat} {r : Nat}, Path par pp (x0 :: xs) → ∀ y ∈ x0 :: xs, (Rt par y r ↔ Rt par x0 r)
  | [], pp, x0, r, _, y, hy => by
    have : y = x0 := by simpa using hy
    rw [this]
  | x1 :: xs, pp, x0, r, ⟨h1, h2⟩, y, hy => by
    rcases List.mem_cons.mp hy with e | e
    · rw [e]
    · rw [Path.root h2 y e]
      exact Rt.step h2.1
theorem Path.root2 {par : Nat → Option Nat} {xs : List Nat} {pp : Option Nat} {r : Nat} (h : Path par pp xs) {x y : Nat} (hx : x ∈ xs) (hy : y ∈ xs) : Rt par x r ↔ Rt par y r := by
  cases xs with
  | nil => cases hx
  | cons x0 xs => rw [Path.root h x hx, Path.root h y hy]
theorem Path.rootU {par : Nat → Option Nat} {xs : List Nat} {u : Nat} {r : Nat} (h : Path par (some u) xs) {x : Nat} (hx : x ∈ xs) : Rt par x r ↔ Rt par u r := by
  cases xs with
  | nil => cases hx
  | cons x0 xs => rw [Path.root h x hx]; exact Rt.step h.1
def Far (par : Nat → Option Nat) (p y : Nat) : Prop := ∀ r, Rt par p r → ¬ Rt par y r
def Bl : Nat → Nat
  | 0 => 0
  | m + 1 => Bl m + m + 2
theorem Bl_mono {a b : Nat} (h : a ≤ b) : Bl a ≤ Bl b := by
  induction h with
  | refl => exact Nat.le_refl _
  | step _ ih => exact Nat.le_trans ih (by show _ ≤ Bl _ + _ + 2; omega)
theorem Rp.above_root {c : C} {par : Nat → Option Nat} {T : Tr} {us : List Tr} {r : Nat} (R : Rp c par (T :: us)) (hr : T.root = some r) : Path par (c.above r) T.els := by
  obtain ⟨pp, hi, hp⟩ := R.tree T List.mem_cons_self
  rw [Is.up_ hi hr]; exact hp
theorem lead_loop : ∀ (m : Nat) (c : C) (par : Nat → Option Nat) (T : Tr) (us : List Tr) (last p : Nat), Rp c par (T :: us) → T.root = some last → (∃ pre, T.els = pre ++ [p]) → c.n ≤ T.els.length + m → c.steps + Bl m + 4 < 16000000 → c.n < 10000 → c.steps + Bl m + c.n + 4 < 16000000 →
    ∃ (k l' : Nat) (c' : C) (T' : Tr) (us' : List Tr), LeadR k last c l' c' ∧ Rp c' par (T' :: us') ∧ T'.root = some l' ∧ (∃ pre, T'.els = pre ++ [p]) ∧ Path par none T'.els ∧ c'.worth = c.worth ∧ c'.n = c.n ∧ c'.steps ≤ c.steps + Bl m ∧ ∀ y, Far par p y → At c c' y := by
  intro m
  induction m with
  | zero =>
    intro c par T us last p R hr hp hm hs hn hs2
    have hA := R.above_root hr
    cases ha : c.above last with
    | none => exact ⟨0, last, c, T, us, .done ha, R, hr, hp, by rw [ha] at hA; exact hA, rfl, rfl, Nat.le_add_right _ _, fun y _ => At.refl c y⟩
    | some u =>
      rw [ha] at hA
      have hne : T.els ≠ [] := fun e => by
        have := Tr.root_mem hr
        rw [e] at this; cases this
      have ho := R.out hA hne u rfl
      have hun : u < c.n := R.wf last (R.lt T List.mem_cons_self last (Tr.root_mem hr)) u (Or.inr (Or.inr ha))
      obtain ⟨t, ht, hut⟩ := R.cov u hun
      rcases List.mem_cons.mp ht with e | e
      · subst e; exact absurd hut ho.1
      · obtain ⟨vs, pm⟩ := focus e
        have R2 := (R.perm (pm.cons T)).two
        have : 0 < t.els.length := List.length_pos_of_mem hut
        omega
  | succ m ih =>
    intro c par T us last p R hr hp hm hs hn hs2
    have hA := R.above_root hr
    cases ha : c.above last with
    | none => exact ⟨0, last, c, T, us, .done ha, R, hr, hp, by rw [ha] at hA; exact hA, rfl, rfl, Nat.le_add_right _ _, fun y _ => At.refl c y⟩
    | some u =>
      rw [ha] at hA
      have hne : T.els ≠ [] := fun e => by
        have := Tr.root_mem hr
        rw [e] at this; cases this
      have ho := R.out hA hne u rfl
      have hun : u < c.n := R.wf last (R.lt T List.mem_cons_self last (Tr.root_mem hr)) u (Or.inr (Or.inr ha))
      obtain ⟨t, ht, hut⟩ := R.cov u hun
      rcases List.mem_cons.mp ht with e | e
      · subst e; exact absurd hut ho.1
      · obtain ⟨vs, pm⟩ := focus e
        have Rq : Rp c par (t :: T :: vs) := (R.perm (pm.cons T)).perm (List.Perm.swap _ _ _)
        have sz := Rq.two
        have eB : Bl (m + 1) = Bl m + m + 2 := rfl
        rw [eB] at hs hs2
        obtain ⟨a, b, c1, hL, R1, he, hf, hw, hn1, hst, hat⟩ := Rq.lift hut (by omega) (by omega)
        have hlT : last ∉ t.els := fun q => Rq.dis.2 T (by simp) last (Tr.root_mem hr) q
        have ha1 : c1.above last = some u := (hat last hlT).above.trans ha
        have R2 := R1.letGo hf
        have R3 : Rp (letGo c1 u) par (.node a u .nil :: T :: b :: vs) := R2.perm ((List.Perm.swap _ _ _).cons _)
        have R4 := R3.takeIn (by rw [letGo_flip]; exact hf) hr (by rw [letGo_above]; exact ha1)
        have hsteps : (takeIn (letGo c1 u) u last).steps = c1.steps + 2 := by
          show (letGo c1 u).steps + 1 = _
          rw [letGo_steps]
        have hnn : (takeIn (letGo c1 u) u last).n = c.n := by
          show (letGo c1 u).n = _
          rw [letGo_n, hn1]
        have hww : (takeIn (letGo c1 u) u last).worth = c.worth := by
          show (letGo c1 u).worth = _
          rw [letGo_worth, hw]
        obtain ⟨pre, hpre⟩ := hp
        have hlen : (Tr.node a u T).els.length ≥ T.els.length + 1 := by
          show (a.els ++ u :: T.els).length ≥ _
          rw [List.length_append, List.length_cons]; omega
        obtain ⟨k, l', c', T', us', g1, g2, g3, g4, g5, g6, g7, g8, g9⟩ := ih _ par (.node a u T) (b :: vs) u p R4 rfl ⟨a.els ++ u :: pre, by simp [Tr.els, hpre]⟩ (by rw [hnn]; omega) (by rw [hsteps]; omega) (by rw [hnn]; exact hn) (by rw [hsteps, hnn]; omega)
        refine ⟨k + 1, l', c', T', us', .step ha hL (by omega) g1, g2, g3, g4, g5, g6.trans hww, g7.trans hnn, by rw [eB]; omega, fun y hy => ?_⟩
        have hpT : p ∈ T.els := by rw [hpre]; simp
        obtain ⟨r, hr'⟩ := Rt.ex R.rank p
        have hyt : y ∉ t.els := fun q => by
          obtain ⟨pt, _, hpt⟩ := Rq.tree t List.mem_cons_self
          exact hy r hr' ((hpt.root2 q hut).mpr ((hA.rootU hpT).mp hr'))
        have hyu : y ≠ u := fun e => hyt (e ▸ hut)
        exact (((hat y hyt).trans (letGo_at hyu)).trans (takeIn_at hyu)).trans (g9 y hy)
end K73
end
section
set_option maxHeartbeats 4000000
namespace K73
/-! ### plain law: lead, joined -/
theorem last_nil {a : Tr} {p : Nat} {b : Tr} {pre : List Nat} (nd : (Tr.node a p b).els.Nodup) (h : (Tr.node a p b).els = pre ++ [p]) : b = .nil := by
  cases b with
  | nil => rfl
  | node l y r =>
    exfalso
    obtain ⟨m1, m2, m3, m4, m5⟩ := nd_node nd
    have hne : (Tr.node l y r).els ≠ [] := by simp [Tr.els]
    have e1 : (Tr.node a p (.node l y r)).els.getLast? = some p := by rw [h, List.getLast?_append]; rfl
    have e2 : (Tr.node a p (.node l y r)).els.getLast? = (Tr.node l y r).els.getLast? := by
      show (a.els ++ p :: (Tr.node l y r).els).getLast? = _
      rw [List.getLast?_append, List.getLast?_cons]
      cases q : (Tr.node l y r).els.getLast? with
      | none => exact absurd (List.getLast?_eq_none_iff.mp q) hne
      | some z => rfl
    rw [e2] at e1
    exact m4 (List.mem_of_getLast? e1)
def Ld (n : Nat) : Nat := Bl n + 2 * n + 2
theorem leads_t {c : C} {par : Nat → Option Nat} {Ts : List Tr} {p : Nat} (R : Rp c par Ts) (hp : p < c.n) (hn : c.n < 10000) (hs : c.steps + Ld c.n + c.n + 10 < 16000000) :
    ∃ (c' : C) (last : Nat) (l : Tr) (us : List Tr), Leads c p c' last ∧ Rp c' par (.node l p .nil :: us) ∧ Path par none (l.els ++ [p]) ∧ c'.flip p = false ∧ c'.above p = none ∧ c'.worth = c.worth ∧ c'.n = c.n ∧ c'.steps ≤ c.steps + Ld c.n ∧ ∀ y, Far par p y → At c c' y := by
  unfold Ld at hs ⊢
  obtain ⟨t, ht, hpt⟩ := R.cov p hp
  obtain ⟨vs, pm⟩ := focus ht
  have R0 := R.perm pm
  have z0 := R0.one
  obtain ⟨a, b, c1, hL, R1, he, hf, hw, hn1, hst, hat⟩ := R0.lift hpt (by omega) (by omega)
  have R2 := R1.letGo hf
  have z1 : 1 ≤ (Tr.node a p .nil).els.length := by simp [Tr.els]
  have hB : Bl (c.n) = Bl (c.n) := rfl
  have hst1 : (letGo c1 p).steps = c1.steps + 1 := letGo_steps _ _
  have hn2 : (letGo c1 p).n = c.n := by rw [letGo_n, hn1]
  obtain ⟨k, l', c2, T', us', g1, g2, g3, ⟨pre, g4⟩, g5, g6, g7, g8, g9⟩ := lead_loop c.n (letGo c1 p) par (.node a p .nil) (b :: vs) p p R2 rfl ⟨a.els, rfl⟩ (by rw [hn2]; omega) (by rw [hst1]; omega) (by rw [hn2]; exact hn) (by rw [hst1, hn2]; omega)
  have hpT : p ∈ T'.els := by rw [g4]; simp
  have z2 := g2.one
  have hn3 : c2.n = c.n := g7.trans hn2
  obtain ⟨a', b', c3, hL3, R3, he3, hf3, hw3, hn4, hst3, hat3⟩ := g2.lift hpT (by omega) (by omega)
  have hb : b' = .nil := last_nil (pre := pre) (by rw [he3]; exact g2.dis.1) (by rw [he3, g4])
  subst hb
  have hP : Path par none (a'.els ++ [p]) := by
    have : (Tr.node a' p .nil).els = a'.els ++ [p] := rfl
    rw [← this, he3]; exact g5
  have ha : c3.above p = none := by
    obtain ⟨pp, hi, hpp⟩ := R3.tree _ List.mem_cons_self
    rw [hi.1]
    have hq : Path par pp (a'.els ++ [p]) := hpp
    cases hae : a'.els with
    | nil => rw [hae] at hq hP; exact hq.1.symm.trans hP.1
    | cons x xs => rw [hae] at hq hP; exact hq.1.symm.trans hP.1
  refine ⟨c3, l', a', us', ⟨c1, c2, k, hL, by omega, g1, hL3⟩, R3, hP, hf3, ha, hw3.trans (g6.trans ((letGo_worth _ _).trans hw)), hn4.trans hn3, by omega, fun y hy => ?_⟩
  obtain ⟨r, hr⟩ := Rt.ex R.rank p
  have hyt : y ∉ t.els := fun q => by
    obtain ⟨pt, _, hpt'⟩ := R0.tree t List.mem_cons_self
    exact hy r hr ((hpt'.root2 q hpt).mpr hr)
  have hyp : y ≠ p := fun e => hyt (e ▸ hpt)
  have hyT : y ∉ T'.els := fun q => hy r hr ((g5.root2 q hpT).mpr hr)
  exact (((hat y hyt).trans (letGo_at hyp)).trans (g9 y hy)).trans (hat3 y hyT)
/-- the one of a tree's strands without a path-parent -/
theorem above_none {c : C} {par : Nat → Option Nat} {Ts : List Tr} {a b r : Nat} {l : Tr} (R : Rp c par (.node l b .nil :: Ts)) (hP : Path par none (l.els ++ [b])) (ha : a < c.n) (h : c.above a = none) (hra : Rt par a r) (hrb : Rt par b r) : a = b := by
  -- the strand of a has a at its root, and no path-parent: it holds r, as b's does
  obtain ⟨t, ht, hat⟩ := R.cov a ha
  obtain ⟨pp, hi, hpp⟩ := R.tree t ht
  have top : t.root = some a := by
    obtain ⟨x, y, k, e⟩ := exists_zip hat
    cases k with
    | nil => rw [e]; rfl
    | cons f k =>
      rw [e] at hi
      obtain ⟨fl', h'⟩ := sub_is (f :: k) _ false hi
      have := h'.1
      rw [h] at this
      cases this
  have hpn : pp = none := by rw [← Is.up_ hi top]; exact h
  subst hpn
  have hr1 : r ∈ t.els := by
    cases ht' : t.els with
    | nil => rw [ht'] at hat; cases hat
    | cons x0 xs =>
      rw [ht'] at hpp hat
      have e0 := (Path.root (r := r) hpp a hat).mp hra
      have := Rt.fn e0 (.top hpp.1)
      rw [this]; exact List.mem_cons_self
  have hr2 : r ∈ (Tr.node l b .nil).els := by
    show r ∈ l.els ++ [b]
    cases ht' : l.els ++ [b] with
    | nil => simp at ht'
    | cons x0 xs =>
      have hb : b ∈ x0 :: xs := by rw [← ht']; simp
      rw [ht'] at hP
      have e0 := (Path.root (r := r) hP b hb).mp hrb
      have := Rt.fn e0 (.top hP.1)
      rw [this]; exact List.mem_cons_self
  rcases List.mem_cons.mp ht with e | e
  · subst e
    injection top with top
    exact top.symm
  · exact absurd hr2 (fun q => R.dis.2 t e r hr1 q)
theorem joined_t {c : C} {par : Nat → Option Nat} {Ts : List Tr} {a b : Nat} (R : Rp c par Ts) (ha : a < c.n) (hb : b < c.n) (hn : c.n < 10000) (hs : c.steps + 2 * Ld c.n + c.n + 10 < 16000000) :
    ∃ (c' : C) (l : Tr) (us : List Tr), Joined c a b c' ∧ Rp c' par (.node l b .nil :: us) ∧ (joinedB c' a b = true ↔ ∃ r, Rt par a r ∧ Rt par b r) ∧ c'.worth = c.worth ∧ c'.n = c.n ∧ c'.steps ≤ c.steps + 2 * Ld c.n := by
  obtain ⟨c1, l1, t1, us1, L1, R1, P1, f1, a1, w1, n1, s1, o1⟩ := leads_t R ha hn (by omega)
  obtain ⟨c2, l2, t2, us2, L2, R2, P2, f2, a2, w2, n2, s2, o2⟩ := leads_t R1 (by rw [n1]; exact hb) (by rw [n1]; exact hn) (by rw [n1]; omega)
  rw [n1] at s2
  refine ⟨c2, t2, us2, ⟨c1, l1, l2, L1, L2⟩, R2, ?_, w2.trans w1, n2.trans n1, by omega⟩
  unfold joinedB
  rw [Bool.or_eq_true, decide_eq_true_iff]
  obtain ⟨ra, hra⟩ := Rt.ex R.rank a
  constructor
  · rintro (h | h)
    · subst h; exact ⟨ra, hra, hra⟩
    · apply Classical.byContradiction
      intro hno
      have hfar : Far par b a := fun r q1 q2 => hno ⟨r, q2, q1⟩
      rw [(o2 a hfar).above, a1] at h
      cases h
  · rintro ⟨r, h1, h2⟩
    cases hq : c2.above a with
    | none => exact Or.inl (above_none R2 P2 (by rw [n2, n1]; exact ha) hq h1 h2)
    | some u => exact Or.inr rfl
end K73
end
section
set_option maxHeartbeats 4000000
namespace K73
/-! ### plain law: evert -/
def Con (xs : List Nat) (z y : Nat) : Prop := ∃ s t, xs = s ++ z :: y :: t
theorem Con.rev {xs : List Nat} {z y : Nat} (h : Con xs z y) : Con xs.reverse y z := by
  obtain ⟨s, t, e⟩ := h
  exact ⟨t.reverse, s.reverse, by rw [e]; simp⟩
theorem Con.mem {xs : List Nat} {z y : Nat} (h : Con xs z y) : z ∈ xs ∧ y ∈ xs := by
  obtain ⟨s, t, e⟩ := h
  rw [e]; simp
theorem Con.cons {xs : List Nat} {x z y : Nat} (h : Con xs z y) : Con (x :: xs) z y := by
  obtain ⟨s, t, e⟩ := h
  exact ⟨x :: s, t, by rw [e]; rfl⟩
/-- the parents along a path -/
theorem Path.par_iff {par : Nat → Option Nat} : ∀ {xs : List Nat} {pp : Option Nat} {y z : Nat}, Path par pp xs → xs.Nodup → y ∈ xs → (par y = some z ↔ (xs.head? = some y ∧ pp = some z) ∨ Con xs z y)
  | [], _, _, _, _, _, hy => by cases hy
  | x :: xs, pp, y, z, ⟨h1, h2⟩, nd, hy => by
    rw [List.nodup_cons] at nd
    by_cases e : y = x
    · subst e
      constructor
      · intro h; exact Or.inl ⟨rfl, by rw [← h1]; exact h⟩
      · rintro (⟨_, h⟩ | ⟨s, t, h⟩)
        · rw [h1]; exact h
        · exfalso
          cases s with
          | nil =>
            injection h with e1 e2
            exact nd.1 (by rw [e2]; simp)
          | cons w s =>
            injection h with e1 e2
            exact nd.1 (by rw [e2]; simp)
    · have hyx : y ∈ xs := by
        rcases List.mem_cons.mp hy with q | q
        · exact absurd q e
        · exact q
      rw [Path.par_iff h2 nd.2 hyx]
      constructor
      · rintro (⟨q1, q2⟩ | q)
        · injection q2 with q2
          subst q2
          cases xs with
          | nil => cases q1
          | cons w xs => injection q1 with q1; subst q1; exact Or.inr ⟨[], xs, rfl⟩
        · exact Or.inr q.cons
      · rintro (⟨q1, _⟩ | ⟨s, t, q⟩)
        · injection q1 with q1; exact absurd q1.symm e
        · cases s with
          | nil => injection q with e1 e2; subst e1; exact Or.inl ⟨by rw [e2]; rfl, rfl⟩
          | cons w s => injection q with e1 e2; exact Or.inr ⟨s, t, e2⟩
def setP (par : Nat → Option Nat) : Option Nat → List Nat → Nat → Option Nat
  | _, [] => par
  | pp, y :: ys => setP (up par y pp) (some y) ys
theorem setP_out {y : Nat} : ∀ (ys : List Nat) (par : Nat → Option Nat) (pp : Option Nat), y ∉ ys → setP par pp ys y = par y
  | [], _, _, _ => rfl
  | x :: ys, par, pp, h => by
    show setP (up par x pp) (some x) ys y = _
    rw [setP_out ys _ _ (fun q => h (List.mem_cons_of_mem _ q)), up_ne (fun e => h (by rw [e]; exact List.mem_cons_self))]
theorem setP_path : ∀ (ys : List Nat) (par : Nat → Option Nat) (pp : Option Nat), ys.Nodup → Path (setP par pp ys) pp ys
  | [], _, _, _ => trivial
  | x :: ys, par, pp, nd => by
    rw [List.nodup_cons] at nd
    refine ⟨?_, setP_path ys _ _ nd.2⟩
    show setP (up par x pp) (some x) ys x = pp
    rw [setP_out ys _ _ nd.1, up_same]
theorem Path.congr {par par' : Nat → Option Nat} : ∀ {xs : List Nat} {pp : Option Nat}, (∀ x ∈ xs, par' x = par x) → Path par pp xs → Path par' pp xs
  | [], _, _, _ => trivial
  | x :: xs, pp, h, ⟨h1, h2⟩ => ⟨(h x List.mem_cons_self).trans h1, Path.congr (fun y hy => h y (List.mem_cons_of_mem _ hy)) h2⟩
def Adj (par : Nat → Option Nat) (x y : Nat) : Prop := par x = some y ∨ par y = some x
/-- the way to the root turned about -/
theorem adj_evert {par : Nat → Option Nat} {xs : List Nat} (hP : Path par none xs) (nd : xs.Nodup) (x y : Nat) : Adj (setP par none xs.reverse) x y ↔ Adj par x y := by
  have ndr : xs.reverse.Nodup := (List.reverse_perm _).nodup_iff.mpr nd
  have hP' := setP_path xs.reverse par none ndr
  have key : ∀ x y, par x = some y → Adj (setP par none xs.reverse) x y := fun x y h => by
    by_cases hx : x ∈ xs
    · rcases (hP.par_iff nd hx).mp h with ⟨_, q⟩ | q
      · cases q
      · exact Or.inr ((hP'.par_iff ndr (List.mem_reverse.mpr q.mem.1)).mpr (Or.inr q.rev))
    · exact Or.inl (by rw [setP_out _ _ _ (fun q => hx (List.mem_reverse.mp q))]; exact h)
  have key2 : ∀ x y, setP par none xs.reverse x = some y → Adj par x y := fun x y h => by
    by_cases hx : x ∈ xs
    · rcases (hP'.par_iff ndr (List.mem_reverse.mpr hx)).mp h with ⟨_, q⟩ | q
      · cases q
      · have q2 := q.rev
        rw [List.reverse_reverse] at q2
        exact Or.inr ((hP.par_iff nd q2.mem.2).mpr (Or.inr q2))
    · rw [setP_out _ _ _ (fun q => hx (List.mem_reverse.mp q))] at h
      exact Or.inl h
  constructor
  · rintro (h | h)
    · exact key2 x y h
    · exact (key2 y x h).symm
  · rintro (h | h)
    · exact key x y h
    · exact (key y x h).symm
/-- the ranks along a path -/
theorem Con.idx {xs : List Nat} {z y : Nat} (nd : xs.Nodup) (h : Con xs z y) : xs.idxOf z < xs.idxOf y := by
  obtain ⟨s, t, e⟩ := h
  subst e
  have n1 : z ∉ s := fun q => (List.nodup_append.mp nd).2.2 z q z (by simp) rfl
  have n2 : y ∉ s := fun q => (List.nodup_append.mp nd).2.2 y q y (by simp) rfl
  have n3 : z ≠ y := fun e => by
    have := (List.nodup_append.mp nd).2.1
    rw [List.nodup_cons] at this
    exact this.1 (by rw [e]; simp)
  rw [List.idxOf_append, if_neg n1, List.idxOf_append, if_neg n2, List.idxOf_cons_self, List.idxOf_cons, beq_eq_false_iff_ne.mpr n3]
  show 0 + s.length < (List.idxOf y (y :: t) + 1) + s.length
  omega
theorem rank_evert {par : Nat → Option Nat} {xs : List Nat} (hP : Path par none xs) (nd : xs.Nodup) (h : ∃ d : Nat → Nat, ∀ x y, par x = some y → d y < d x) : ∃ d : Nat → Nat, ∀ x y, setP par none xs.reverse x = some y → d y < d x := by
  obtain ⟨d, hd⟩ := h
  have ndr : xs.reverse.Nodup := (List.reverse_perm _).nodup_iff.mpr nd
  have hP' := setP_path xs.reverse par none ndr
  refine ⟨fun y => if y ∈ xs then xs.reverse.idxOf y else d y + xs.length + 1, fun x y hx => ?_⟩
  show (if y ∈ xs then _ else _) < (if x ∈ xs then _ else _)
  by_cases hxm : x ∈ xs
  · rw [if_pos hxm]
    rcases (hP'.par_iff ndr (List.mem_reverse.mpr hxm)).mp hx with ⟨_, q⟩ | q
    · cases q
    · rw [if_pos (List.mem_reverse.mp q.mem.1)]
      exact q.idx ndr
  · rw [if_neg hxm]
    rw [setP_out _ _ _ (fun q => hxm (List.mem_reverse.mp q))] at hx
    by_cases hym : y ∈ xs
    · rw [if_pos hym]
      have : xs.reverse.idxOf y < xs.reverse.length := List.idxOf_lt_length_of_mem (List.mem_reverse.mpr hym)
      rw [List.length_reverse] at this
      omega
    · rw [if_neg hym]
      have := hd x y hx
      omega
theorem Rp.evert {c : C} {par : Nat → Option Nat} {l : Tr} {a : Nat} {us : List Tr} (R : Rp c par (.node l a .nil :: us)) (hP : Path par none (l.els ++ [a])) : Rp (flipAt c (some a)) (setP par none (l.els ++ [a]).reverse) (.node .nil a l.mir :: us) := by
  obtain ⟨pp, hi, hpp⟩ := R.tree _ List.mem_cons_self
  obtain ⟨hd1, hd2⟩ := R.dis
  have hels : (Tr.node l a .nil).els = l.els ++ [a] := rfl
  have helm : (Tr.node .nil a l.mir).els = (l.els ++ [a]).reverse := Tr.mir_els (.node l a .nil)
  have ha := hi.1
  have hpn : pp = none := by
    have hpp' : Path par pp (l.els ++ [a]) := hpp
    cases he : l.els with
    | nil => rw [he] at hP hpp'; exact hpp'.1.symm.trans hP.1
    | cons x xs => rw [he] at hP hpp'; exact hpp'.1.symm.trans hP.1
  subst hpn
  have i1 : Is (flipAt c (some a)) none true (.node l a .nil) := Is.flipRoot (fl := false) hd1 hi
  have i2 : Is (flipAt c (some a)) none false (.node .nil a l.mir) := Is.mirror (.node l a .nil) none false i1
  have nd : (l.els ++ [a]).Nodup := hd1
  refine ⟨R.wf, ?_, ?_, ?_, ?_, rank_evert hP nd R.rank, ?_⟩
  · have h := R.nd
    rw [List.flatMap_cons] at h ⊢
    rw [helm]
    exact ((List.reverse_perm _).append_right _).nodup_iff.mpr h
  · intro t ht y hy
    rcases List.mem_cons.mp ht with e | e
    · subst e
      rw [helm, List.mem_reverse] at hy
      exact R.lt _ List.mem_cons_self y hy
    · exact R.lt t (List.mem_cons_of_mem _ e) y hy
  · intro z hz
    obtain ⟨t, ht, e⟩ := R.cov z hz
    rcases List.mem_cons.mp ht with q | q
    · subst q; exact ⟨_, List.mem_cons_self, by rw [helm, List.mem_reverse]; exact e⟩
    · exact ⟨t, List.mem_cons_of_mem _ q, e⟩
  · intro t ht
    rcases List.mem_cons.mp ht with e | e
    · subst e; exact ⟨none, i2, by rw [helm]; exact setP_path _ _ _ ((List.reverse_perm _).nodup_iff.mpr nd)⟩
    · obtain ⟨pp', q1, q2⟩ := R.tree t (List.mem_cons_of_mem _ e)
      exact ⟨pp', q1.to rfl fun y hy => flipAt_at fun q => by
        injection q with q
        exact hd2 t e y hy (by rw [← q]; simp [Tr.els]), q2.congr fun y hy => setP_out _ _ _ fun q => hd2 t e y hy (List.mem_reverse.mp q)⟩
  · intro x y hx
    have := (adj_evert hP nd x y).mp (Or.inl hx)
    rcases this with h | h
    · exact R.pn x y h
    · exact (R.pn y x h).symm
end K73
end
section
set_option maxHeartbeats 4000000
namespace K73
/-! ### plain law: connected; open_way -/
inductive Cg (G : Nat → Nat → Prop) : Nat → Nat → Prop
  | refl (x : Nat) : Cg G x x
  | step {x y z : Nat} : Cg G x y → G y z → Cg G x z
theorem Cg.trans {G : Nat → Nat → Prop} {x y z : Nat} (h : Cg G x y) (h2 : Cg G y z) : Cg G x z := by
  induction h2 with
  | refl => exact h
  | step _ e ih => exact .step ih e
theorem Cg.one {G : Nat → Nat → Prop} {x y : Nat} (h : G x y) : Cg G x y := .step (.refl x) h
theorem Cg.symm {G : Nat → Nat → Prop} (hs : ∀ x y, G x y → G y x) {x y : Nat} (h : Cg G x y) : Cg G y x := by
  induction h with
  | refl => exact .refl _
  | step _ e ih => exact (Cg.one (hs _ _ e)).trans ih
theorem Cg.mono {G G' : Nat → Nat → Prop} (h : ∀ x y, G x y → G' x y) {x y : Nat} (q : Cg G x y) : Cg G' x y := by
  induction q with
  | refl => exact .refl _
  | step _ e ih => exact .step ih (h _ _ e)
theorem Cg.map {G G' : Nat → Nat → Prop} (h : ∀ x y, G x y → Cg G' x y) {x y : Nat} (q : Cg G x y) : Cg G' x y := by
  induction q with
  | refl => exact .refl _
  | step _ e ih => exact ih.trans (h _ _ e)
theorem Adj.symm {par : Nat → Option Nat} {x y : Nat} (h : Adj par x y) : Adj par y x := Or.symm h
theorem rt_cg {par : Nat → Option Nat} {x r : Nat} (h : Rt par x r) : Cg (Adj par) x r := by
  induction h with
  | top _ => exact .refl _
  | up e _ ih => exact (Cg.one (Or.inl e)).trans ih
theorem cg_rt {par : Nat → Option Nat} {x y : Nat} (h : Cg (Adj par) x y) : ∀ r, Rt par x r ↔ Rt par y r := by
  induction h with
  | refl => intro r; exact Iff.rfl
  | step _ e ih =>
    intro r
    rw [ih r]
    rcases e with e | e
    · exact Rt.step e
    · exact (Rt.step e).symm
theorem cn_iff {par : Nat → Option Nat} (hr : ∃ d : Nat → Nat, ∀ x y, par x = some y → d y < d x) (x y : Nat) : Cg (Adj par) x y ↔ ∃ r, Rt par x r ∧ Rt par y r := by
  constructor
  · intro h
    obtain ⟨r, q⟩ := Rt.ex hr x
    exact ⟨r, q, (cg_rt h r).mp q⟩
  · rintro ⟨r, h1, h2⟩
    exact (rt_cg h1).trans ((rt_cg h2).symm fun _ _ => Adj.symm)
theorem opened_t {c : C} {par : Nat → Option Nat} {Ts : List Tr} {a b : Nat} (R : Rp c par Ts) (ha : a < c.n) (hb : b < c.n) (hn : c.n < 10000) (hs : c.steps + 2 * Ld c.n + c.n + 10 < 16000000) :
    ∃ (c' : C) (par' : Nat → Option Nat) (l : Tr) (us : List Tr), Opened c a b c' ∧ Rp c' par' (.node l b .nil :: us) ∧ Path par' none (l.els ++ [b]) ∧ par' a = none ∧ (∀ x y, Adj par' x y ↔ Adj par x y) ∧ c'.flip b = false ∧ (¬ Cg (Adj par) a b → c'.above a = none) ∧ c'.worth = c.worth ∧ c'.n = c.n ∧ c'.steps ≤ c.steps + 2 * Ld c.n := by
  obtain ⟨c1, l1, t1, us1, L1, R1, P1, f1, a1, w1, n1, s1, o1⟩ := leads_t R ha hn (by omega)
  have R2 := R1.evert P1
  have nd1 : (t1.els ++ [a]).Nodup := R1.dis.1
  have adj := adj_evert P1 nd1
  have nn : (flipAt c1 (some a)).n = c.n := n1
  have hstep : (flipAt c1 (some a)).steps = c1.steps := rfl
  obtain ⟨c2, l2, t2, us2, L2, R3, P3, f3, a3, w3, n3, s3, o3⟩ := leads_t R2 (by rw [nn]; exact hb) (by rw [nn]; exact hn) (by rw [nn, hstep]; omega)
  rw [nn, hstep] at s3
  have pa : setP par none (t1.els ++ [a]).reverse a = none := by
    have e : (t1.els ++ [a]).reverse = a :: t1.els.reverse := by simp
    have h := setP_path (t1.els ++ [a]).reverse par none ((List.reverse_perm _).nodup_iff.mpr nd1)
    rw [e] at h ⊢
    exact h.1
  refine ⟨c2, _, t2, us2, ⟨c1, l1, l2, L1, L2⟩, R3, P3, pa, adj, f3, fun hno => ?_, w3.trans w1, n3.trans nn, by omega⟩
  have hfar : Far (setP par none (t1.els ++ [a]).reverse) b a := fun r q1 q2 => hno (by
    have h := (cn_iff R2.rank a b).mpr ⟨r, q2, q1⟩
    exact h.mono fun x y => (adj x y).mp)
  rw [(o3 a hfar).above]
  exact a1
/-- the state holds the forest of G -/
def Fo (c : C) (G : Nat → Nat → Prop) : Prop := ∃ par Ts, Rp c par Ts ∧ ∀ x y, G x y ↔ Adj par x y
theorem Fo.symm {c : C} {G : Nat → Nat → Prop} (F : Fo c G) (x y : Nat) (h : G x y) : G y x := by
  obtain ⟨par, Ts, R, e⟩ := F
  exact (e y x).mpr ((e x y).mp h).symm
theorem Fo.lt {c : C} {G : Nat → Nat → Prop} (F : Fo c G) {x y : Nat} (h : G x y) : x < c.n ∧ y < c.n := by
  obtain ⟨par, Ts, R, e⟩ := F
  rcases (e x y).mp h with q | q
  · exact R.pn x y q
  · exact (R.pn y x q).symm
theorem joined_F {c : C} {G : Nat → Nat → Prop} {a b : Nat} (F : Fo c G) (ha : a < c.n) (hb : b < c.n) (hn : c.n < 10000) (hs : c.steps + 2 * Ld c.n + c.n + 10 < 16000000) :
    ∃ c' : C, Joined c a b c' ∧ Fo c' G ∧ (joinedB c' a b = true ↔ Cg G a b) ∧ c'.worth = c.worth ∧ c'.n = c.n ∧ c'.steps ≤ c.steps + 2 * Ld c.n := by
  obtain ⟨par, Ts, R, e⟩ := F
  obtain ⟨c', l, us, h1, h2, h3, h4, h5, h6⟩ := joined_t R ha hb hn hs
  refine ⟨c', h1, ⟨par, _, h2, e⟩, ?_, h4, h5, h6⟩
  rw [h3, ← cn_iff R.rank]
  exact ⟨fun q => q.mono fun x y => (e x y).mpr, fun q => q.mono fun x y => (e x y).mp⟩
/-- what open_way leaves: the path in b's strand -/
structure OpenF (c : C) (G : Nat → Nat → Prop) (a b : Nat) (l : Tr) (par : Nat → Option Nat) (us : List Tr) : Prop where
  rp : Rp c par (.node l b .nil :: us)
  path : Path par none (l.els ++ [b])
  head : ∃ rest, l.els ++ [b] = a :: rest
  root : par a = none
  adj : ∀ x y, G x y ↔ Adj par x y
  flip : c.flip b = false
theorem opened_F {c : C} {G : Nat → Nat → Prop} {a b : Nat} (F : Fo c G) (ha : a < c.n) (hb : b < c.n) (hab : Cg G a b) (hn : c.n < 10000) (hs : c.steps + 2 * Ld c.n + c.n + 10 < 16000000) :
    ∃ (c' : C) (l : Tr) (par : Nat → Option Nat) (us : List Tr), Opened c a b c' ∧ OpenF c' G a b l par us ∧ c'.worth = c.worth ∧ c'.n = c.n ∧ c'.steps ≤ c.steps + 2 * Ld c.n := by
  obtain ⟨par, Ts, R, e⟩ := F
  obtain ⟨c', par', l, us, h1, h2, h3, h4, h5, h6, _, h7, h8, h9⟩ := opened_t R ha hb hn hs
  have adj : ∀ x y, G x y ↔ Adj par' x y := fun x y => (e x y).trans (h5 x y).symm
  refine ⟨c', l, par', us, h1, ⟨h2, h3, ?_, h4, adj, h6⟩, h7, h8, h9⟩
  have hab' : Cg (Adj par') a b := hab.mono fun x y => (adj x y).mp
  have hrb : Rt par' b a := (cg_rt hab' a).mp (.top h4)
  cases he : l.els ++ [b] with
  | nil => simp at he
  | cons x0 xs =>
    rw [he] at h3
    have hbm : b ∈ x0 :: xs := by rw [← he]; simp
    have e0 := (Path.root (r := a) h3 b hbm).mp hrb
    have := Rt.fn e0 (.top h3.1)
    exact ⟨xs, by rw [this]⟩
end K73
end
section
set_option maxHeartbeats 4000000
namespace K73
/-! ### plain law: tie, cut -/
theorem root_of {c : C} {pp : Option Nat} {t : Tr} {b : Nat} (hi : Is c pp false t) (hb : b ∈ t.els) (h : c.above b = none) : t.root = some b := by
  obtain ⟨x, y, k, e⟩ := exists_zip hb
  cases k with
  | nil => rw [e]; rfl
  | cons f k =>
    rw [e] at hi
    obtain ⟨fl', h'⟩ := sub_is (f :: k) _ false hi
    have := h'.1
    rw [h] at this
    cases this
def Plus (G : Nat → Nat → Prop) (a b x y : Nat) : Prop := G x y ∨ (x = a ∧ y = b) ∨ (x = b ∧ y = a)
def Minus (G : Nat → Nat → Prop) (a b x y : Nat) : Prop := G x y ∧ ¬ (x = a ∧ y = b) ∧ ¬ (x = b ∧ y = a)
theorem wf_aboveN {c : C} {b : Nat} {o : Option Nat} (wf : WF c) (h : ∀ y, o = some y → y < c.n) : WF { c with above := up c.above b o } := wf_above wf h
theorem tied_F {c : C} {G : Nat → Nat → Prop} {a b : Nat} (F : Fo c G) (ha : a < c.n) (hb : b < c.n) (hab : ¬ Cg G a b) (hn : c.n < 10000) (hs : c.steps + 4 * Ld c.n + c.n + 10 < 16000000) :
    ∃ c' : C, Tied c a b c' ∧ Fo c' (Plus G a b) ∧ c'.worth = c.worth ∧ c'.n = c.n ∧ c'.steps ≤ c.steps + 4 * Ld c.n := by
  obtain ⟨c1, hj, F1, hjb, w1, n1, s1⟩ := joined_F F ha hb hn (by omega)
  have hjf : joinedB c1 a b = false := by
    cases q : joinedB c1 a b with
    | false => rfl
    | true => exact absurd (hjb.mp q) hab
  obtain ⟨par, Ts, R, e⟩ := F1
  obtain ⟨c2, par', l, us, hO, R2, P2, pb, adj2, f2, hab2, w2, n2, s2⟩ := opened_t (a := b) (b := a) R (by rw [n1]; exact hb) (by rw [n1]; exact ha) (by rw [n1]; exact hn) (by rw [n1]; omega)
  rw [n1] at s2
  have adj : ∀ x y, G x y ↔ Adj par' x y := fun x y => (e x y).trans (adj2 x y).symm
  have hnb : ¬ Cg (Adj par) b a := fun q => hab ((q.symm fun _ _ => Adj.symm).mono fun x y => (e x y).mpr)
  have hb0 : c2.above b = none := hab2 hnb
  have hnR : ¬ Cg (Adj par') a b := fun q => hab (q.mono fun x y => (adj x y).mpr)
  have hne : a ≠ b := fun q => hab (q ▸ Cg.refl a)
  have hbn : b < c2.n := by rw [n2, n1]; exact hb
  have han : a < c2.n := by rw [n2, n1]; exact ha
  obtain ⟨t, ht, hbt⟩ := R2.cov b hbn
  obtain ⟨pp, hi, hpp⟩ := R2.tree t ht
  have top := root_of hi hbt hb0
  have hpn : pp = none := by rw [← Is.up_ hi top]; exact hb0
  subst hpn
  have htu : t ∈ us := by
    rcases List.mem_cons.mp ht with q | q
    · subst q; injection top with top; exact absurd top hne
    · exact q
  obtain ⟨vs, pm⟩ := focus htu
  have R3 := R2.perm (pm.cons _)
  have R4 := R3.perm (List.Perm.swap _ _ _)
  obtain ⟨dA1, dA2⟩ := R3.dis
  obtain ⟨dB1, dB2⟩ := R4.dis
  -- the head of b's strand is b
  have hbe : ∃ rest, t.els = b :: rest := by
    cases he : t.els with
    | nil => rw [he] at hbt; cases hbt
    | cons x0 xs =>
      rw [he] at hpp hbt
      have e0 := (Path.root (r := b) hpp b hbt).mp (.top pb)
      have := Rt.fn e0 (.top hpp.1)
      exact ⟨xs, by rw [this]⟩
  obtain ⟨rest, hbe⟩ := hbe
  have hbL : b ∉ (Tr.node l a .nil).els := fun q => dA2 t (by simp) b hbt q
  obtain ⟨pa, hia, hpa⟩ := R3.tree _ List.mem_cons_self
  obtain ⟨m1, m2, m3, m4, m5⟩ := nd_node dA1
  -- the new state
  have nA : ∀ y, y ≠ b → At c2 ({ c2 with above := up c2.above b (some a) } : C) y := fun y hy => ⟨up_ne hy, rfl, rfl, rfl, rfl, rfl⟩
  have gA : ∀ y, y ≠ a → At ({ c2 with above := up c2.above b (some a) } : C) (gather { c2 with above := up c2.above b (some a) } a) y := fun y hy => gather_at hy
  have i1 : Is (gather { c2 with above := up c2.above b (some a) } a) pa false (.node l a .nil) := by
    obtain ⟨h1, h2, h3, h4, h5, h6, h7⟩ := hia
    rw [f2] at h2 h3 h6
    have hba : a ≠ b := hne
    exact gather_is (by show up c2.above b (some a) a = pa; rw [up_ne hba]; exact h1) f2 h2 h3 (h6.to rfl fun y hy => nA y fun q => hbL (by rw [← q]; simp [Tr.els, hy])) trivial m3 (by simp [Tr.els])
  have haT : a ∉ t.els := fun q => dB2 (.node l a .nil) (by simp) a (by simp [Tr.els]) q
  have i2 : Is (gather { c2 with above := up c2.above b (some a) } a) (some a) false t := by
    refine hi.reup dB1 rfl (fun y hy => ?_) (fun y hy hr => ?_)
    · rw [top] at hy
      injection hy with hy
      subst hy
      exact ⟨up_same, rfl, rfl, rfl, up_ne hne.symm, up_ne hne.symm⟩
    · have hyb : y ≠ b := fun q => hr (by rw [q]; exact top)
      have hya : y ≠ a := fun q => haT (q ▸ hy)
      exact (nA y hyb).trans (gA y hya)
  have oP : ∀ y, y ≠ b → up par' b (some a) y = par' y := fun y hy => up_ne hy
  refine ⟨gather { c2 with above := up c2.above b (some a) } a, ⟨c1, c2, hj, hjf, hO, rfl⟩, ⟨up par' b (some a), _, ⟨?_, R3.nd, R3.lt, R3.cov, ?_, ?_, ?_⟩, ?_⟩, w2.trans w1, n2.trans n1, ?_⟩
  · exact wf_above R3.wf (fun y q => by cases q; exact han)
  · intro t' ht'
    simp only [List.mem_cons] at ht'
    rcases ht' with q | q | q
    · subst q
      exact ⟨pa, i1, hpa.congr fun y hy => oP y fun q => hbL (q ▸ hy)⟩
    · subst q
      refine ⟨some a, i2, ?_⟩
      rw [hbe] at hpp dB1 ⊢
      rw [List.nodup_cons] at dB1
      exact ⟨up_same, hpp.2.congr fun y hy => oP y fun q => dB1.1 (q ▸ hy)⟩
    · obtain ⟨pv, hv, hpv⟩ := R3.tree t' (by simp [q])
      have h1 : ∀ y ∈ t'.els, y ≠ b := fun y hy e => dB2 t' (by simp [q]) y hy (e ▸ hbt)
      have h2 : ∀ y ∈ t'.els, y ≠ a := fun y hy e => dA2 t' (by simp [q]) y hy (by rw [e]; simp [Tr.els])
      exact ⟨pv, hv.to rfl fun y hy => (nA y (h1 y hy)).trans (gA y (h2 y hy)), hpv.congr fun y hy => oP y (h1 y hy)⟩
  · classical
    obtain ⟨d, hd⟩ := R3.rank
    refine ⟨fun x => if Rt par' x b then d x + d a + 1 else d x, fun x y hx => ?_⟩
    show (if Rt par' y b then _ else _) < (if Rt par' x b then _ else _)
    by_cases hxb : x = b
    · subst hxb
      rw [up_same] at hx
      injection hx with hx
      subst hx
      have h1 : ¬ Rt par' a x := fun q => hnR ((cn_iff R3.rank a x).mpr ⟨x, q, .top pb⟩)
      rw [if_neg h1, if_pos (Rt.top pb)]
      omega
    · rw [oP x hxb] at hx
      have := hd x y hx
      by_cases hy : Rt par' y b
      · rw [if_pos hy, if_pos ((Rt.step hx).mpr hy)]; omega
      · rw [if_neg hy, if_neg (fun q => hy ((Rt.step hx).mp q))]; exact this
  · intro x y hx
    by_cases hxb : x = b
    · subst hxb
      rw [up_same] at hx
      injection hx with hx
      subst hx
      exact ⟨hbn, han⟩
    · rw [oP x hxb] at hx
      exact R3.pn x y hx
  · intro x y
    unfold Plus
    rw [adj x y]
    constructor
    · rintro ((h | h) | ⟨rfl, rfl⟩ | ⟨rfl, rfl⟩)
      · exact Or.inl (by rw [oP x (fun q => by rw [q, pb] at h; cases h)]; exact h)
      · exact Or.inr (by rw [oP y (fun q => by rw [q, pb] at h; cases h)]; exact h)
      · exact Or.inr up_same
      · exact Or.inl up_same
    · rintro (h | h)
      · by_cases hxb : x = b
        · subst hxb; rw [up_same] at h; injection h with h; exact Or.inr (Or.inr ⟨rfl, h.symm⟩)
        · rw [oP x hxb] at h; exact Or.inl (Or.inl h)
      · by_cases hyb : y = b
        · subst hyb; rw [up_same] at h; injection h with h; exact Or.inr (Or.inl ⟨h.symm, rfl⟩)
        · rw [oP y hyb] at h; exact Or.inl (Or.inr h)
  · show c2.steps ≤ _
    omega
theorem cut_F {c : C} {G : Nat → Nat → Prop} {a b : Nat} (F : Fo c G) (ha : a < c.n) (hb : b < c.n) (hg : G a b) (hne : a ≠ b) (hn : c.n < 10000) (hs : c.steps + 2 * Ld c.n + c.n + 10 < 16000000) :
    ∃ c' : C, Cutted c a b c' ∧ Fo c' (Minus G a b) ∧ c'.worth = c.worth ∧ c'.n = c.n ∧ c'.steps ≤ c.steps + 2 * Ld c.n := by
  obtain ⟨c1, l, par, us, hO, ⟨R, P, ⟨rest, hh⟩, ra, adj, f1⟩, w1, n1, s1⟩ := opened_F F ha hb (Cg.one hg) hn hs
  have hpb : par b = some a := by
    rcases (adj a b).mp hg with h | h
    · rw [ra] at h; cases h
    · exact h
  have nd : (l.els ++ [b]).Nodup := R.dis.1
  have hcon : Con (l.els ++ [b]) a b := by
    rcases (P.par_iff nd (by simp)).mp hpb with ⟨_, q⟩ | q
    · cases q
    · exact q
  have hla : l.els = [a] := by
    obtain ⟨s, t, e⟩ := hcon
    have hs0 : s = [] := by
      cases s with
      | nil => rfl
      | cons x s =>
        rw [hh] at e nd
        injection e with e1 e2
        rw [List.nodup_cons] at nd
        exact absurd (by rw [e2]; simp) nd.1
    subst hs0
    have e' : l.els ++ [b] = [a] ++ b :: t := e
    have ht0 : t = [] := by
      cases t with
      | nil => rfl
      | cons y t =>
        exfalso
        have h1 : (l.els ++ [b]).getLast? = some b := by rw [List.getLast?_append]; rfl
        rw [e', List.getLast?_append, List.getLast?_cons] at h1
        rw [e'] at nd
        have nd2 := (List.nodup_append.mp nd).2.1
        rw [List.nodup_cons] at nd2
        cases q : (y :: t).getLast? with
        | none => exact absurd (List.getLast?_eq_none_iff.mp q) (by simp)
        | some z =>
          rw [q] at h1
          have : z = b := by simpa using h1
          exact nd2.1 (this ▸ List.mem_of_getLast? q)
    subst ht0
    have : l.els ++ [b] = [a] ++ [b] := e'
    exact List.append_cancel_right this
  have hl : l = .node .nil a .nil := by
    cases l with
    | nil => simp [Tr.els] at hla
    | node p x q =>
      cases p with
      | nil =>
        cases q with
        | nil => simp [Tr.els] at hla; rw [hla]
        | node q1 y q2 => simp [Tr.els] at hla
      | node p1 y p2 =>
        have := congrArg List.length hla
        simp [Tr.els] at this
        omega
  subst hl
  obtain ⟨pp, hi, hpp⟩ := R.tree _ List.mem_cons_self
  obtain ⟨d1, d2⟩ := R.dis
  obtain ⟨h1, h2, h3, h4, h5, h6, h7⟩ := hi
  rw [f1] at h2 h3 h6
  have h2 : c1.left b = some a := h2
  have h3 : c1.right b = none := h3
  have h6 : Is c1 (some b) false (.node .nil a .nil) := h6
  have hpn : pp = none := hpp.1.symm.trans P.1
  subst hpn
  have han : a < c1.n := by rw [n1]; exact ha
  have hbn : b < c1.n := by rw [n1]; exact hb
  have nA : ∀ y, y ≠ a → y ≠ b → At c1 (gather { c1 with left := up c1.left b none, above := up c1.above a none } b) y := fun y q1 q2 => ⟨up_ne q1, up_ne q2, rfl, rfl, up_ne q2, up_ne q2⟩
  have i1 : Is (gather { c1 with left := up c1.left b none, above := up c1.above a none } b) none false (.node .nil b .nil) :=
    gather_is (c := { c1 with left := up c1.left b none, above := up c1.above a none }) (by show up c1.above a none b = none; rw [up_ne hne.symm]; exact h1) f1 up_same h3 trivial trivial (by simp [Tr.els]) (by simp [Tr.els])
  have i2 : Is (gather { c1 with left := up c1.left b none, above := up c1.above a none } b) none false (.node .nil a .nil) := by
    refine h6.reup (by simp [Tr.els]) rfl (fun y hy => ?_) (fun y hy hr => ?_)
    · injection hy with hy
      subst hy
      exact ⟨up_same, up_ne hne, rfl, rfl, up_ne hne, up_ne hne⟩
    · have : y = a := by simpa [Tr.els] using hy
      exact absurd (by rw [this]; rfl) hr
  have oP : ∀ y, y ≠ b → up par b none y = par y := fun y hy => up_ne hy
  refine ⟨_, ⟨c1, hO, hne, h2, by rw [h4]; rfl, rfl⟩, ⟨up par b none, .node .nil b .nil :: .node .nil a .nil :: us, ⟨?_, ?_, ?_, ?_, ?_, ?_, ?_⟩, ?_⟩, w1, n1, s1⟩
  · have wl : WF { c1 with left := up c1.left b none } := wf_left R.wf (fun y e => by cases e)
    exact wf_above (c := { c1 with left := up c1.left b none }) wl (fun y e => by cases e)
  · have h := R.nd
    have e1 : (Tr.node (.node .nil a .nil) b .nil :: us).flatMap Tr.els = [a, b] ++ us.flatMap Tr.els := rfl
    have e2 : (Tr.node .nil b .nil :: .node .nil a .nil :: us).flatMap Tr.els = [b, a] ++ us.flatMap Tr.els := rfl
    rw [e1] at h
    rw [e2]
    exact ((List.Perm.swap b a []).append_right _).nodup_iff.mp h
  · intro t ht y hy
    simp only [List.mem_cons] at ht
    rcases ht with q | q | q
    · subst q; have : y = b := by simpa [Tr.els] using hy
      rw [this]; exact hbn
    · subst q; have : y = a := by simpa [Tr.els] using hy
      rw [this]; exact han
    · exact R.lt t (by simp [q]) y hy
  · intro z hz
    obtain ⟨t, ht, e⟩ := R.cov z hz
    rcases List.mem_cons.mp ht with q | q
    · subst q
      have : z = a ∨ z = b := by simpa [Tr.els] using e
      rcases this with q | q
      · exact ⟨.node .nil a .nil, by simp, by simp [Tr.els, q]⟩
      · exact ⟨.node .nil b .nil, by simp, by simp [Tr.els, q]⟩
    · exact ⟨t, by simp [q], e⟩
  · intro t ht
    simp only [List.mem_cons] at ht
    rcases ht with q | q | q
    · subst q; exact ⟨none, i1, up_same, trivial⟩
    · subst q; exact ⟨none, i2, (oP a hne).trans ra, trivial⟩
    · obtain ⟨pv, hv, hpv⟩ := R.tree t (by simp [q])
      have q1 : ∀ y ∈ t.els, y ≠ a := fun y hy e => d2 t q y hy (by rw [e]; simp [Tr.els])
      have q2 : ∀ y ∈ t.els, y ≠ b := fun y hy e => d2 t q y hy (by rw [e]; simp [Tr.els])
      exact ⟨pv, hv.to rfl fun y hy => nA y (q1 y hy) (q2 y hy), hpv.congr fun y hy => oP y (q2 y hy)⟩
  · obtain ⟨d, hd⟩ := R.rank
    refine ⟨d, fun x y hx => ?_⟩
    by_cases hxb : x = b
    · subst hxb; rw [up_same] at hx; cases hx
    · rw [oP x hxb] at hx; exact hd x y hx
  · intro x y hx
    by_cases hxb : x = b
    · subst hxb; rw [up_same] at hx; cases hx
    · rw [oP x hxb] at hx; exact R.pn x y hx
  · intro x y
    unfold Minus
    rw [adj x y]
    constructor
    · rintro ⟨h | h, m1, m2⟩
      · by_cases hxb : x = b
        · subst hxb; rw [hpb] at h; injection h with h; exact absurd ⟨rfl, h.symm⟩ m2
        · exact Or.inl (by rw [oP x hxb]; exact h)
      · by_cases hyb : y = b
        · subst hyb; rw [hpb] at h; injection h with h; exact absurd ⟨h.symm, rfl⟩ m1
        · exact Or.inr (by rw [oP y hyb]; exact h)
    · rintro (h | h)
      · by_cases hxb : x = b
        · subst hxb; rw [up_same] at h; cases h
        · rw [oP x hxb] at h
          exact ⟨Or.inl h, fun ⟨q1, q2⟩ => (by rw [q1, ra] at h; cases h), fun ⟨q1, q2⟩ => hxb q1⟩
      · by_cases hyb : y = b
        · subst hyb; rw [up_same] at h; cases h
        · rw [oP y hyb] at h
          exact ⟨Or.inr h, fun ⟨q1, q2⟩ => hyb q2, fun ⟨q1, q2⟩ => by rw [q2, ra] at h; cases h⟩
end K73
end
section
set_option maxHeartbeats 4000000
namespace K73
/-! ### plain law: new points; first_by; inorder -/
theorem Is.congrW {c c' : C} : ∀ (t : Tr) (u : Option Nat) (fl : Bool), (∀ y ∈ t.els, At c c' y ∧ c'.worth y = c.worth y) → Is c u fl t → Is c' u fl t
  | .nil, _, _, _, _ => trivial
  | .node l x r, u, fl, h, ⟨h1, h2, h3, h4, h5, h6, h7⟩ => by
    have hx := (h x (by simp [Tr.els])).1
    refine ⟨hx.above.trans h1, ?_, ?_, hx.many.trans h4, ?_, ?_, ?_⟩
    · rw [hx.left, hx.flip]; exact h2
    · rw [hx.right, hx.flip]; exact h3
    · rw [hx.most]
      exact ⟨fun y hy => by rw [(h y hy).2]; exact h5.1 y hy, let ⟨y, hy, e⟩ := h5.2; ⟨y, hy, by rw [(h y hy).2]; exact e⟩⟩
    · rw [hx.flip]; exact Is.congrW l _ _ (fun y hy => h y (by simp [Tr.els, hy])) h6
    · rw [hx.flip]; exact Is.congrW r _ _ (fun y hy => h y (by simp [Tr.els, hy])) h7
theorem put_F {c : C} {G : Nat → Nat → Prop} (F : Fo c G) (z : Int) : Fo (putPoint c z) G := by
  obtain ⟨par, Ts, R, e⟩ := F
  have pn : par c.n = none := by
    cases q : par c.n with
    | none => rfl
    | some y => exact absurd (R.pn _ _ q).1 (Nat.lt_irrefl _)
  have at_ : ∀ y, y ≠ c.n → At c (putPoint c z) y ∧ (putPoint c z).worth y = c.worth y := fun y hy => ⟨⟨up_ne hy, up_ne hy, up_ne hy, up_ne hy, up_ne hy, up_ne hy⟩, up_ne hy⟩
  have nin : ∀ t ∈ Ts, ∀ y ∈ t.els, y ≠ c.n := fun t ht y hy q => Nat.lt_irrefl _ (q ▸ R.lt t ht y hy)
  refine ⟨par, .node .nil c.n .nil :: Ts, ⟨?_, ?_, ?_, ?_, ?_, R.rank, ?_⟩, e⟩
  · intro x hx y hy
    by_cases q : x = c.n
    · subst q
      rcases hy with h | h | h
      · have : up c.left c.n none c.n = some y := h
        rw [up_same] at this; cases this
      · have : up c.right c.n none c.n = some y := h
        rw [up_same] at this; cases this
      · have : up c.above c.n none c.n = some y := h
        rw [up_same] at this; cases this
    · have hx' : x < c.n + 1 := hx
      have a := (at_ x q).1
      rw [a.left, a.right, a.above] at hy
      exact Nat.lt_succ_of_lt (R.wf x (by omega) y hy)
  · rw [List.flatMap_cons]
    show ([c.n] ++ Ts.flatMap Tr.els).Nodup
    rw [List.singleton_append, List.nodup_cons]
    refine ⟨fun q => ?_, R.nd⟩
    obtain ⟨t, ht, hy⟩ := List.mem_flatMap.mp q
    exact nin t ht _ hy rfl
  · intro t ht y hy
    show y < c.n + 1
    rcases List.mem_cons.mp ht with q | q
    · subst q
      have : y = c.n := by simpa [Tr.els] using hy
      omega
    · exact Nat.lt_succ_of_lt (R.lt t q y hy)
  · intro x hx
    have hx' : x < c.n + 1 := hx
    by_cases q : x = c.n
    · exact ⟨_, List.mem_cons_self, by simp [Tr.els, q]⟩
    · obtain ⟨t, ht, h⟩ := R.cov x (by omega)
      exact ⟨t, List.mem_cons_of_mem _ ht, h⟩
  · intro t ht
    rcases List.mem_cons.mp ht with q | q
    · subst q
      refine ⟨none, ⟨up_same, ?_, ?_, up_same, ?_, trivial, trivial⟩, pn, trivial⟩
      · show up c.left c.n none c.n = _
        rw [up_same]; split <;> rfl
      · show up c.right c.n none c.n = _
        rw [up_same]; split <;> rfl
      · show IsMax (up c.worth c.n z) [c.n] (up c.most c.n z c.n)
        rw [up_same]
        refine ⟨fun y hy => ?_, c.n, by simp, up_same⟩
        have : y = c.n := by simpa using hy
        rw [this, up_same]; exact Int.le_refl _
    · obtain ⟨pp, h1, h2⟩ := R.tree t q
      exact ⟨pp, Is.congrW t _ _ (fun y hy => at_ y (nin t q y hy)) h1, h2⟩
  · intro x y h
    obtain ⟨h1, h2⟩ := R.pn x y h
    exact ⟨Nat.lt_succ_of_lt h1, Nat.lt_succ_of_lt h2⟩
theorem bare_F (n : Nat) : Fo (bare n) (fun _ _ => False) := by
  induction n with
  | zero =>
    refine ⟨fun _ => none, [], ⟨fun x hx => absurd hx (Nat.not_lt_zero _), List.nodup_nil, fun t ht => (by cases ht), fun x hx => absurd hx (Nat.not_lt_zero _), fun t ht => (by cases ht), ⟨fun _ => 0, fun x y h => (by cases h)⟩, fun x y h => (by cases h)⟩, fun x y => ⟨fun h => h.elim, fun h => ?_⟩⟩
    rcases h with h | h <;> cases h
  | succ n ih => exact put_F ih (-1)
theorem bare_steps (n : Nat) : (bare n).steps = 0 := by
  induction n with
  | zero => rfl
  | succ n ih => exact ih
theorem bare_worth (n : Nat) : ∀ x, x < n → (bare n).worth x = -1 := by
  induction n with
  | zero => intro x hx; exact absurd hx (Nat.not_lt_zero _)
  | succ n ih =>
    intro x hx
    show up (bare n).worth (bare n).n (-1) x = -1
    rw [bare_n]
    by_cases q : x = n
    · rw [q, up_same]
    · rw [up_ne q]; exact ih x (by omega)
theorem Z.join {c : C} {pp : Option Nat} : ∀ (k : List Fm) (t : Tr), Ctx c pp t.root t.els k → Is c (upO pp k) false t → Is c pp false (plug t k)
  | [], _, _, h => h
  | f :: k, t, ⟨F, hc⟩, h => Z.join k (f.on t) (by rw [Fm.on_root, Fm.on_els]; exact hc) (F.join h)
end K73
end
section
set_option maxHeartbeats 4000000
namespace K73
/-! ### plain law: first_by, inorder -/
theorem below_iff {c : C} {t : Tr} {u : Option Nat} {fl : Bool} {z : Int} (h : Is c u fl t) : belowB c t.root z = true ↔ ∃ y ∈ t.els, z ≤ c.worth y := by
  cases t with
  | nil => exact ⟨fun q => (by cases q), fun ⟨y, hy, _⟩ => (by cases hy)⟩
  | node l x r =>
    obtain ⟨_, h5⟩ := Is.many_ h (x := x) rfl
    show decide (z ≤ c.most x) = true ↔ _
    rw [decide_eq_true_iff]
    constructor
    · intro q
      obtain ⟨y, hy, e⟩ := h5.2
      exact ⟨y, hy, by rw [e]; exact q⟩
    · rintro ⟨y, hy, q⟩
      have := h5.1 y hy
      omega
theorem plugE_cons (f : Fm) (k : List Fm) (E : List Nat) : plugE (f.E E) k = plugE E (f :: k) := rfl
/-- from a zipper to one of its children, handed down -/
theorem Z.child {c : C} {pp : Option Nat} {k : List Fm} {a b : Tr} {x y : Nat} {f : Fm} {l r : Tr} (z : Z c pp k a b x) (nd : (plugE (Tr.node a x b).els k).Nodup) (e : .node a x b = f.on (.node l y r)) :
    Z (handDown c y) pp (f :: k) l r y ∧ plugE (Tr.node l y r).els (f :: k) = plugE (Tr.node a x b).els k ∧ (∀ v, v ∉ plugE (Tr.node a x b).els k → At c (handDown c y) v) := by
  have hfu : f.u = x := by
    have : (f.on (.node l y r)).root = some x := by rw [← e]; rfl
    rw [Fm.on_root] at this
    injection this
  have h := z.tr
  have hc := z.ctx
  rw [e] at h
  have eE : (Tr.node a x b).els = f.E (Tr.node l y r).els := by rw [e, Fm.on_els]
  rw [eE] at nd ⊢ hc
  obtain ⟨F, h'⟩ := FmAt.of (by rw [hfu]; exact z.fl) h
  have hy : y ∈ (Tr.node l y r).els := by simp [Tr.els]
  have n := nd_E (plugE_nd k _ nd)
  have ho : ∀ v, v ∉ (Tr.node l y r).els → At c (handDown c y) v := fun v hv => handDown_out h' hy hv
  have wD := handDown_worth c y
  have hx : some x = some f.u := by rw [hfu]
  rw [hx] at hc
  have cx : Ctx (handDown c y) pp (some y) (Tr.node l y r).els (f :: k) := Ctx.to wD (f :: k) _ _ nd (fun v _ hv => ho v hv) ⟨F, hc⟩
  exact ⟨⟨cx, handDown_is n.1 h', handDown_flip _ _⟩, rfl, fun v hv => ho v fun q => hv (plugE_sub k _ _ (E_mem.mpr (Or.inr (Or.inl q))))⟩
def Tr.size : Tr → Nat
  | .nil => 0
  | .node l _ r => l.size + r.size + 1
theorem first_z {z : Int} : ∀ (m : Nat) (c : C) (pp : Option Nat) (k : List Fm) (a b : Tr) (x : Nat), (Tr.node a x b).size ≤ m → Z c pp k a b x → (plugE (Tr.node a x b).els k).Nodup → (∃ y ∈ (Tr.node a x b).els, z ≤ c.worth y) → WF c → (∀ y ∈ plugE (Tr.node a x b).els k, y < c.n) →
    ∃ (j : Nat) (c2 : C) (x2 : Nat) (a2 b2 : Tr) (k2 : List Fm), FirstR z j c x c2 x2 ∧ Z c2 pp k2 a2 b2 x2 ∧ plugE (Tr.node a2 x2 b2).els k2 = plugE (Tr.node a x b).els k ∧ z ≤ c.worth x2 ∧ (∀ v, v ∉ plugE (Tr.node a x b).els k → At c c2 v) ∧ c2.worth = c.worth ∧ c2.n = c.n ∧ c2.steps = c.steps ∧ WF c2 := by
  intro m
  induction m with
  | zero => intro c pp k a b x hs; simp [Tr.size] at hs
  | succ m ih =>
    intro c pp k a b x hs hz nd hex wf hlt
    obtain ⟨h1, h2, h3, h4, h5, h6, h7⟩ := hz.tr
    rw [hz.fl] at h2 h3 h6 h7
    have h2 : c.left x = a.root := h2
    have h3 : c.right x = b.root := h3
    have h6 : Is c (some x) false a := h6
    have h7 : Is c (some x) false b := h7
    have inn : ∀ y ∈ (Tr.node a x b).els, y < c.n := fun y hy => hlt y (plugE_sub k _ _ hy)
    simp only [Tr.size] at hs
    have go : ∀ (y : Nat) (l r : Tr) (f : Fm), .node a x b = f.on (.node l y r) → (Tr.node l y r).size ≤ m → (∃ v ∈ (Tr.node l y r).els, z ≤ c.worth v) → y < c.n →
        ∃ (j : Nat) (c2 : C) (x2 : Nat) (a2 b2 : Tr) (k2 : List Fm), FirstR z j (handDown c y) y c2 x2 ∧ Z c2 pp k2 a2 b2 x2 ∧ plugE (Tr.node a2 x2 b2).els k2 = plugE (Tr.node a x b).els k ∧ z ≤ c.worth x2 ∧ (∀ v, v ∉ plugE (Tr.node a x b).els k → At c c2 v) ∧ c2.worth = c.worth ∧ c2.n = c.n ∧ c2.steps = c.steps ∧ WF c2 := by
      intro y l r f e hsz hex' hyn
      obtain ⟨z1, e1, o1⟩ := hz.child nd e
      have w1 := handDown_worth c y
      obtain ⟨j, c2, x2, a2, b2, k2, g1, g2, g3, g4, g5, g6, g7, g8, g9⟩ := ih (handDown c y) pp (f :: k) l r y hsz z1 (by rw [e1]; exact nd) (by rw [w1]; exact hex') (wf_handDown wf hyn) (by rw [e1, handDown_n]; exact hlt)
      rw [e1] at g3 g5
      rw [w1] at g4
      exact ⟨j, c2, x2, a2, b2, k2, g1, g2, g3, g4, fun v hv => (o1 v hv).trans (g5 v hv), g6.trans w1, by rw [g7, handDown_n], by rw [g8, handDown_steps], g9⟩
    by_cases hl : belowB c a.root z = true
    · cases a with
      | nil => cases hl
      | node l y r =>
        obtain ⟨j, c2, x2, a2, b2, k2, g1, g2⟩ := go y l r ⟨true, x, b⟩ rfl (by simp only [Tr.size] at hs ⊢; omega) ((below_iff h6).mp hl) (inn y (by simp [Tr.els]))
        exact ⟨j + 1, c2, x2, a2, b2, k2, .left (y := y) (by rw [h2]; exact hl) h2 g1, g2⟩
    · have hl : belowB c a.root z = false := by
        cases q : belowB c a.root z
        · rfl
        · exact absurd q hl
      by_cases hw : z ≤ c.worth x
      · exact ⟨0, c, x, a, b, k, .done (by rw [h2]; exact hl) (decide_eq_true hw), hz, rfl, hw, fun v _ => At.refl c v, rfl, rfl, rfl, wf⟩
      · have hb : ∃ v ∈ b.els, z ≤ c.worth v := by
          obtain ⟨y, hy, q⟩ := hex
          simp only [Tr.els, List.mem_append, List.mem_cons] at hy
          rcases hy with hy | hy | hy
          · have := (below_iff (z := z) h6).mpr ⟨y, hy, q⟩
            rw [hl] at this; cases this
          · subst hy; exact absurd q hw
          · exact ⟨y, hy, q⟩
        cases b with
        | nil => obtain ⟨v, hv, _⟩ := hb; cases hv
        | node l y r =>
          obtain ⟨j, c2, x2, a2, b2, k2, g1, g2⟩ := go y l r ⟨false, x, a⟩ rfl (by simp only [Tr.size] at hs ⊢; omega) hb (inn y (by simp [Tr.els]))
          exact ⟨j + 1, c2, x2, a2, b2, k2, .right (y := y) (by rw [h2]; exact hl) (decide_eq_false hw) h3 g1, g2⟩
end K73
end
section
set_option maxHeartbeats 4000000
namespace K73
/-! ### plain law: first_by and inorder over the way -/
theorem Rp.repl {c c' : C} {par : Nat → Option Nat} {T T' : Tr} {us : List Tr} (R : Rp c par (T :: us)) (wf : WF c') (hn : c'.n = c.n) (hw : c'.worth = c.worth) (he : T'.els = T.els) (hT : ∃ pp, Is c' pp false T' ∧ Path par pp T'.els) (ha : ∀ y, y ∉ T.els → At c c' y) : Rp c' par (T' :: us) where
  wf := wf
  nd := by rw [List.flatMap_cons, he, ← List.flatMap_cons]; exact R.nd
  lt t ht y hy := by
    rw [hn]
    rcases List.mem_cons.mp ht with e | e
    · subst e; rw [he] at hy; exact R.lt T List.mem_cons_self y hy
    · exact R.lt t (List.mem_cons_of_mem _ e) y hy
  cov z hz := by
    rw [hn] at hz
    obtain ⟨t, ht, e⟩ := R.cov z hz
    rcases List.mem_cons.mp ht with q | q
    · subst q; exact ⟨_, List.mem_cons_self, by rw [he]; exact e⟩
    · exact ⟨t, List.mem_cons_of_mem _ q, e⟩
  tree t ht := by
    rcases List.mem_cons.mp ht with e | e
    · subst e; exact hT
    · obtain ⟨pp', h1, h2⟩ := R.tree t (List.mem_cons_of_mem _ e)
      exact ⟨pp', h1.to hw fun y hy => ha y (R.dis.2 t e y hy), h2⟩
  rank := R.rank
  pn := by rw [hn]; exact R.pn
theorem first_F {c : C} {G : Nat → Nat → Prop} {a b : Nat} {l : Tr} {par : Nat → Option Nat} {us : List Tr} (O : OpenF c G a b l par us) (hn : c.n < 10000) (hs : c.steps + c.n + 10 < 16000000) :
    ∃ (c' : C) (x : Nat), FirstBy (c.most b) c b c' x ∧ Fo c' G ∧ x ∈ l.els ++ [b] ∧ c.worth x = c.most b ∧ IsMax c.worth (l.els ++ [b]) (c.most b) ∧ c'.worth = c.worth ∧ c'.n = c.n ∧ c'.steps ≤ c.steps + c.n := by
  obtain ⟨pp, hi, hp⟩ := O.rp.tree _ List.mem_cons_self
  obtain ⟨d1, d2⟩ := O.rp.dis
  have h5 := (Is.many_ hi (x := b) rfl).2
  have h5' : IsMax c.worth (l.els ++ [b]) (c.most b) := h5
  have z0 : Z c pp [] l .nil b := ⟨trivial, hi, O.flip⟩
  have hbn : b < c.n := O.rp.lt _ List.mem_cons_self b (by simp [Tr.els])
  obtain ⟨v, hv, ev⟩ := h5.2
  obtain ⟨j, c2, x2, a2, b2, k2, g1, g2, g3, g4, g5, g6, g7, g8, g9⟩ := first_z (z := c.most b) _ c pp [] l .nil b (Nat.le_refl _) z0 d1 ⟨v, hv, by rw [ev]; exact Int.le_refl _⟩ O.rp.wf (fun y hy => O.rp.lt _ List.mem_cons_self y hy)
  have hj := Z.join k2 (.node a2 x2 b2) g2.ctx g2.tr
  have he : (plug (.node a2 x2 b2) k2).els = (Tr.node l b .nil).els := by rw [plug_els, g3]; rfl
  have R2 := O.rp.repl g9 g7 g6 he ⟨pp, hj, by rw [he]; exact hp⟩ g5
  have hx2 : x2 ∈ (plug (.node a2 x2 b2) k2).els := by
    rw [plug_els]
    exact plugE_sub _ _ _ (by simp [Tr.els])
  have z1 := R2.one
  obtain ⟨a3, b3, c3, hL, R3, he3, hf3, hw3, hn3, hst3, hat3⟩ := R2.lift hx2 (by omega) (by omega)
  have hxl : x2 ∈ l.els ++ [b] := by rw [he] at hx2; exact hx2
  refine ⟨c3, x2, ⟨j, c2, O.rp.wf, hbn, ?_, ?_, hL⟩, ⟨par, _, R3, O.adj⟩, hxl, ?_, h5', hw3.trans g6, hn3.trans g7, by omega⟩
  · show decide (c.most b ≤ c.most b) = true
    exact decide_eq_true (Int.le_refl _)
  · rw [handDown_no O.flip]; exact g1
  · have := h5'.1 x2 hxl
    omega
theorem in_z : ∀ (t : Tr) (c : C) (u : Option Nat), Is c u false t → t.els.Nodup → (∀ y ∈ t.els, y < c.n) → WF c →
    ∃ (c1 : C) (cost : Nat), Is c1 u false t ∧ (∀ v, v ∉ t.els → At c c1 v) ∧ c1.worth = c.worth ∧ c1.n = c.n ∧ c1.steps = c.steps ∧ WF c1 ∧
      ∀ (k : Nat) (st : List (Option Nat × Bool)) (f f' : List Nat) (c' : C), st.length + 2 * t.size + 2 < 10000 → f.length + t.els.length < 10000 → InR k st (f ++ t.els) c1 f' c' → InR (k + cost) ((t.root, false) :: st) f c f' c'
  | .nil, c, u, h, _, _, wf => ⟨c, 1, trivial, fun v _ => At.refl c v, rfl, rfl, rfl, wf, fun k st f f' c' _ _ q => by
      have q : InR k st (f ++ []) c f' c' := q
      rw [List.append_nil] at q
      exact .none q⟩
  | .node l x r, c, u, h, nd, hlt, wf => by
    obtain ⟨m1, m2, m3, m4, m5⟩ := nd_node nd
    have hxn : x < c.n := hlt x (by simp [Tr.els])
    have h1 := handDown_is nd h
    have hf := handDown_flip c x
    have ho : ∀ v, v ∉ (Tr.node l x r).els → At c (handDown c x) v := fun v hv => handDown_out h (by simp [Tr.els]) hv
    have wfD := wf_handDown wf hxn
    have nD : (handDown c x).n = c.n := handDown_n c x
    obtain ⟨q1, q2, q3, q4, q5, q6, q7⟩ := id h1
    rw [hf] at q2 q3 q6 q7
    have q2 : (handDown c x).left x = l.root := q2
    have q3 : (handDown c x).right x = r.root := q3
    have q6 : Is (handDown c x) (some x) false l := q6
    have q7 : Is (handDown c x) (some x) false r := q7
    obtain ⟨cl, kl, l1, l2, l3, l4, l5, l6, l7⟩ := in_z l (handDown c x) (some x) q6 m1 (fun y hy => by rw [nD]; exact hlt y (by simp [Tr.els, hy])) wfD
    have r0 : Is cl (some x) false r := q7.to l3 fun y hy => l2 y fun q => m5 y q hy
    obtain ⟨cr, kr, r1, r2, r3, r4, r5, r6, r7⟩ := in_z r cl (some x) r0 m2 (fun y hy => by rw [l4, nD]; exact hlt y (by simp [Tr.els, hy])) l6
    have ax : At (handDown c x) cr x := (l2 x m3).trans (r2 x m4)
    have hw : cr.worth = (handDown c x).worth := r3.trans l3
    have e0 : (false ^^ cr.flip x) = false := by rw [ax.flip, hf]; rfl
    refine ⟨cr, kr + 1 + kl + 1, ⟨ax.above.trans q1, by rw [e0]; exact ax.left.trans q2, by rw [e0]; exact ax.right.trans q3, ax.many.trans q4, by rw [ax.most, hw]; exact q5, ?_, by rw [e0]; exact r1⟩, fun v hv => ?_, hw.trans (handDown_worth c x), r4.trans (l4.trans nD), r5.trans (l5.trans (handDown_steps c x)), r6, fun k st f f' c' hst hfl hq => ?_⟩
    · rw [e0]; exact l1.to r3 fun y hy => r2 y fun q => m5 y hy q
    · have v1 : v ∉ l.els := fun q => hv (by simp [Tr.els, q])
      have v2 : v ∉ r.els := fun q => hv (by simp [Tr.els, q])
      exact ((ho v hv).trans (l2 v v1)).trans (r2 v v2)
    · simp only [Tr.size] at hst
      simp only [Tr.els, List.length_append, List.length_cons] at hfl
      have s1 := r7 k st (f ++ l.els ++ [x]) f' c' (by omega) (by simp only [List.length_append, List.length_cons, List.length_nil]; omega) (by
        have e : f ++ l.els ++ [x] ++ r.els = f ++ (Tr.node l x r).els := by simp [Tr.els]
        rw [e]; exact hq)
      have s2 := InR.told (x := x) (f := f ++ l.els) (by rw [List.length_append]; omega) s1
      have s3 := l7 _ ((some x, true) :: (r.root, false) :: st) f f' c' (by simp only [List.length_cons]; omega) (by omega) s2
      rw [← q2, ← q3] at s3
      have s4 := InR.visit (c := c) (x := x) hxn (by omega) s3
      have e : k + (kr + 1 + kl + 1) = k + kr + 1 + kl + 1 := by omega
      rw [e]
      exact s4
theorem size_els : ∀ t : Tr, t.size = t.els.length
  | .nil => rfl
  | .node l x r => by
    show l.size + r.size + 1 = (l.els ++ x :: r.els).length
    rw [size_els l, size_els r, List.length_append, List.length_cons]; omega
theorem inorder_F {c : C} {G : Nat → Nat → Prop} {a b : Nat} {l : Tr} {par : Nat → Option Nat} {us : List Tr} (O : OpenF c G a b l par us) (hn : c.n < 1000) :
    ∃ c' : C, InOrder c b (l.els ++ [b]) c' ∧ Fo c' G ∧ c'.worth = c.worth ∧ c'.n = c.n ∧ c'.steps = c.steps := by
  obtain ⟨pp, hi, hp⟩ := O.rp.tree _ List.mem_cons_self
  obtain ⟨d1, d2⟩ := O.rp.dis
  have z1 := O.rp.one
  obtain ⟨c1, k1, h1, h2, h3, h4, h5, h6, h7⟩ := in_z (.node l b .nil) c pp hi d1 (fun y hy => O.rp.lt _ List.mem_cons_self y hy) O.rp.wf
  have R2 := O.rp.repl h6 h4 h3 rfl ⟨pp, h1, hp⟩ h2
  have hsz := size_els (.node l b .nil)
  exact ⟨c1, ⟨O.rp.wf, 0 + k1, h7 0 [] [] _ _ (by simp only [List.length_nil]; omega) (by simp only [List.length_nil]; omega) .nil⟩, ⟨par, _, R2, O.adj⟩, h3, h4, h5⟩
end K73
end
section
set_option maxHeartbeats 4000000
namespace K73
/-! ### plain law 2: labels -/
theorem getD_map (f : Nat → Nat) {l : List Nat} {x : Nat} (h : x < l.length) : (l.map f).getD x 0 = f (l.getD x 0) := by
  rw [List.getD_eq_getElem?_getD, List.getElem?_map, List.getD_eq_getElem?_getD, List.getElem?_eq_getElem h]; rfl
/-- the least of each class, below n -/
structure Lb (n : Nat) (E : Nat → Nat → Prop) (ps : List Nat) : Prop where
  len : ps.length = n
  cg : ∀ x, x < n → Cg E x (ps.getD x 0)
  lt : ∀ x, x < n → ps.getD x 0 < n
  least : ∀ x y, x < n → y < n → Cg E x y → ps.getD x 0 ≤ y
theorem Lb.iff {n : Nat} {E : Nat → Nat → Prop} {ps : List Nat} (L : Lb n E ps) (hs : ∀ x y, E x y → E y x) {x y : Nat} (hx : x < n) (hy : y < n) : ps.getD x 0 = ps.getD y 0 ↔ Cg E x y := by
  constructor
  · intro h
    have h1 := L.cg x hx
    have h2 := L.cg y hy
    rw [h] at h1
    exact h1.trans (h2.symm hs)
  · intro h
    have a := L.least x _ hx (L.lt y hy) (h.trans (L.cg y hy))
    have b := L.least y _ hy (L.lt x hx) ((h.symm hs).trans (L.cg x hx))
    omega
theorem Lb.uniq {n : Nat} {E E' : Nat → Nat → Prop} {ps qs : List Nat} (L : Lb n E ps) (M : Lb n E' qs) (h : ∀ x y, x < n → y < n → (Cg E x y ↔ Cg E' x y)) : ps = qs := by
  apply List.ext_getElem
  · rw [L.len, M.len]
  · intro i h1 h2
    have hi : i < n := by rw [← L.len]; exact h1
    have e1 : ps[i] = ps.getD i 0 := by rw [List.getD_eq_getElem?_getD, List.getElem?_eq_getElem h1]; rfl
    have e2 : qs[i] = qs.getD i 0 := by rw [List.getD_eq_getElem?_getD, List.getElem?_eq_getElem h2]; rfl
    rw [e1, e2]
    have a := L.least i _ hi (M.lt i hi) ((h i _ hi (M.lt i hi)).mpr (M.cg i hi))
    have b := M.least i _ hi (L.lt i hi) ((h i _ hi (L.lt i hi)).mp (L.cg i hi))
    omega
theorem Lb.init (n : Nat) : Lb n (fun _ _ => False) (List.range n) := by
  have e : ∀ x, x < n → (List.range n).getD x 0 = x := fun x hx => by
    rw [List.getD_eq_getElem?_getD, List.getElem?_range hx]; rfl
  have c : ∀ {x y : Nat}, Cg (fun _ _ => False) x y → x = y := fun h => by
    cases h with
    | refl => rfl
    | step _ q => exact q.elim
  exact ⟨List.length_range, fun x hx => by rw [e x hx]; exact .refl x, fun x hx => by rw [e x hx]; exact hx, fun x y hx _ h => by rw [e x hx, c h]; exact Nat.le_refl _⟩
/-- one edge more -/
theorem cg_plus {E : Nat → Nat → Prop} (hs : ∀ x y, E x y → E y x) {a b x y : Nat} : Cg (Plus E a b) x y ↔ Cg E x y ∨ (Cg E x a ∧ Cg E b y) ∨ (Cg E x b ∧ Cg E a y) := by
  constructor
  · intro h
    induction h with
    | refl => exact Or.inl (.refl _)
    | step _ e ih =>
      rcases e with e | ⟨rfl, rfl⟩ | ⟨rfl, rfl⟩
      · rcases ih with h | ⟨h1, h2⟩ | ⟨h1, h2⟩
        · exact Or.inl (.step h e)
        · exact Or.inr (Or.inl ⟨h1, .step h2 e⟩)
        · exact Or.inr (Or.inr ⟨h1, .step h2 e⟩)
      · rcases ih with h | ⟨h1, h2⟩ | ⟨h1, h2⟩
        · exact Or.inr (Or.inl ⟨h, .refl _⟩)
        · exact Or.inr (Or.inl ⟨h1, .refl _⟩)
        · exact Or.inl h1
      · rcases ih with h | ⟨h1, h2⟩ | ⟨h1, h2⟩
        · exact Or.inr (Or.inr ⟨h, .refl _⟩)
        · exact Or.inl h1
        · exact Or.inr (Or.inr ⟨h1, .refl _⟩)
  · have up : ∀ {u v : Nat}, Cg E u v → Cg (Plus E a b) u v := fun h => h.mono fun _ _ => Or.inl
    have ab : Cg (Plus E a b) a b := Cg.one (Or.inr (Or.inl ⟨rfl, rfl⟩))
    have ba : Cg (Plus E a b) b a := Cg.one (Or.inr (Or.inr ⟨rfl, rfl⟩))
    rintro (h | ⟨h1, h2⟩ | ⟨h1, h2⟩)
    · exact up h
    · exact ((up h1).trans ab).trans (up h2)
    · exact ((up h1).trans ba).trans (up h2)
theorem plus_symm {E : Nat → Nat → Prop} (hs : ∀ x y, E x y → E y x) {a b : Nat} : ∀ x y, Plus E a b x y → Plus E a b y x := fun x y h => by
  rcases h with h | ⟨rfl, rfl⟩ | ⟨rfl, rfl⟩
  · exact Or.inl (hs _ _ h)
  · exact Or.inr (Or.inr ⟨rfl, rfl⟩)
  · exact Or.inr (Or.inl ⟨rfl, rfl⟩)
theorem Lb.step {n : Nat} {E : Nat → Nat → Prop} {st : Int × List Nat} {e : Int × Nat × Nat} (L : Lb n E st.2) (hs : ∀ x y, E x y → E y x) (ha : e.2.1 < n) (hb : e.2.2 < n) : Lb n (Plus E e.2.1 e.2.2) (kstep st e).2 := by
  have iff_ := fun {x y : Nat} (hx : x < n) (hy : y < n) => L.iff hs hx hy
  unfold kstep
  by_cases h : st.2.getD e.2.1 0 = st.2.getD e.2.2 0
  · rw [if_pos h]
    have hab := (iff_ ha hb).mp h
    have same : ∀ {x y : Nat}, Cg (Plus E e.2.1 e.2.2) x y → Cg E x y := fun q => by
      rcases (cg_plus hs).mp q with q | ⟨q1, q2⟩ | ⟨q1, q2⟩
      · exact q
      · exact (q1.trans hab).trans q2
      · exact (q1.trans (hab.symm hs)).trans q2
    exact ⟨L.len, fun x hx => (cg_plus hs).mpr (Or.inl (L.cg x hx)), L.lt, fun x y hx hy q => L.least x y hx hy (same q)⟩
  · rw [if_neg h]
    have g : ∀ x, x < n → (st.2.map fun x => if x = max (st.2.getD e.2.1 0) (st.2.getD e.2.2 0) then min (st.2.getD e.2.1 0) (st.2.getD e.2.2 0) else x).getD x 0 = if st.2.getD x 0 = max (st.2.getD e.2.1 0) (st.2.getD e.2.2 0) then min (st.2.getD e.2.1 0) (st.2.getD e.2.2 0) else st.2.getD x 0 := fun x hx => by
      exact getD_map _ (by rw [L.len]; exact hx)
    have la := L.lt _ ha
    have lb := L.lt _ hb
    have ca := L.cg _ ha
    have cb := L.cg _ hb
    show Lb n (Plus E e.2.1 e.2.2) (st.2.map fun x => if x = max (st.2.getD e.2.1 0) (st.2.getD e.2.2 0) then min (st.2.getD e.2.1 0) (st.2.getD e.2.2 0) else x)
    refine ⟨by rw [List.length_map]; exact L.len, fun x hx => ?_, fun x hx => ?_, fun x y hx hy q => ?_⟩
    · rw [g x hx]
      split
      · rename_i hm
        have hx1 := L.cg x hx
        rcases Nat.le_total (st.2.getD e.2.1 0) (st.2.getD e.2.2 0) with q | q
        · rw [Nat.max_eq_right q] at hm
          rw [Nat.min_eq_left q]
          rw [hm] at hx1
          exact (cg_plus hs).mpr (Or.inr (Or.inr ⟨hx1.trans (cb.symm hs), ca⟩))
        · rw [Nat.max_eq_left q] at hm
          rw [Nat.min_eq_right q]
          rw [hm] at hx1
          exact (cg_plus hs).mpr (Or.inr (Or.inl ⟨hx1.trans (ca.symm hs), cb⟩))
      · exact (cg_plus hs).mpr (Or.inl (L.cg x hx))
    · rw [g x hx]
      split
      · omega
      · exact L.lt x hx
    · rw [g x hx]
      have low : ∀ {u : Nat}, u < n → Cg E u y → st.2.getD u 0 ≤ y := fun hu q => L.least _ y hu hy q
      have mn1 : min (st.2.getD e.2.1 0) (st.2.getD e.2.2 0) ≤ st.2.getD e.2.1 0 := Nat.min_le_left _ _
      have mn2 : min (st.2.getD e.2.1 0) (st.2.getD e.2.2 0) ≤ st.2.getD e.2.2 0 := Nat.min_le_right _ _
      have mx : min (st.2.getD e.2.1 0) (st.2.getD e.2.2 0) ≤ max (st.2.getD e.2.1 0) (st.2.getD e.2.2 0) := by omega
      rcases (cg_plus hs).mp q with q | ⟨q1, q2⟩ | ⟨q1, q2⟩
      · have := low hx q
        split
        · rename_i hm; omega
        · exact this
      · have e1 := (iff_ hx ha).mpr q1
        have e2 := low hb q2
        split
        · omega
        · rename_i hm; rw [e1] at hm ⊢; omega
      · have e1 := (iff_ hx hb).mpr q1
        have e2 := low ha q2
        split
        · omega
        · rename_i hm; rw [e1] at hm ⊢; omega
end K73
end
section
set_option maxHeartbeats 4000000
namespace K73
/-! ### plain law 2: counts -/
def own (n : Nat) (ps : List Nat) : Nat := (List.range n).countP fun x => decide (ps.getD x 0 = x)
theorem countP_one {l : List Nat} (nd : l.Nodup) {p q : Nat → Bool} {m : Nat} (hm : m ∈ l) (h1 : p m = true) (h2 : q m = false) (h : ∀ x ∈ l, x ≠ m → p x = q x) : l.countP q + 1 = l.countP p := by
  induction l with
  | nil => cases hm
  | cons x r ih =>
    rw [List.nodup_cons] at nd
    rcases List.mem_cons.mp hm with e | e
    · subst e
      rw [List.countP_cons_of_pos h1, List.countP_cons_of_neg (by rw [h2]; decide)]
      congr 1
      apply List.countP_congr
      intro y hy
      rw [h y (List.mem_cons_of_mem _ hy) (fun q => nd.1 (q ▸ hy))]
    · have hx : x ≠ m := fun q => nd.1 (q ▸ e)
      have i := ih nd.2 e fun y hy => h y (List.mem_cons_of_mem _ hy)
      have hpx := h x List.mem_cons_self hx
      cases hp : p x with
      | true =>
        rw [List.countP_cons_of_pos hp, List.countP_cons_of_pos (by rw [← hpx]; exact hp)]; omega
      | false =>
        have hq : q x = false := by rw [← hpx]; exact hp
        rw [List.countP_cons_of_neg (by rw [hq]; decide), List.countP_cons_of_neg (by rw [hp]; decide)]; exact i
theorem Lb.own_label {n : Nat} {E : Nat → Nat → Prop} {ps : List Nat} (L : Lb n E ps) (hs : ∀ x y, E x y → E y x) {x : Nat} (hx : x < n) : ps.getD (ps.getD x 0) 0 = ps.getD x 0 :=
  (L.iff hs (L.lt x hx) hx).mpr ((L.cg x hx).symm hs)
theorem own_step {n : Nat} {E : Nat → Nat → Prop} {st : Int × List Nat} {e : Int × Nat × Nat} (L : Lb n E st.2) (hs : ∀ x y, E x y → E y x) (ha : e.2.1 < n) (hb : e.2.2 < n) (h : st.2.getD e.2.1 0 ≠ st.2.getD e.2.2 0) : own n (kstep st e).2 + 1 = own n st.2 := by
  unfold kstep own
  rw [if_neg h]
  have la := L.lt _ ha
  have lb := L.lt _ hb
  have oa := L.own_label hs ha
  have ob := L.own_label hs hb
  have g : ∀ x, x < n → (st.2.map fun x => if x = max (st.2.getD e.2.1 0) (st.2.getD e.2.2 0) then min (st.2.getD e.2.1 0) (st.2.getD e.2.2 0) else x).getD x 0 = if st.2.getD x 0 = max (st.2.getD e.2.1 0) (st.2.getD e.2.2 0) then min (st.2.getD e.2.1 0) (st.2.getD e.2.2 0) else st.2.getD x 0 := fun x hx => getD_map _ (by rw [L.len]; exact hx)
  generalize st.2.getD e.2.1 0 = ra at h la oa g
  generalize st.2.getD e.2.2 0 = rb at h lb ob g
  have mo : st.2.getD (max ra rb) 0 = max ra rb := by
    rcases Nat.le_total ra rb with q | q
    · rw [Nat.max_eq_right q]; exact ob
    · rw [Nat.max_eq_left q]; exact oa
  have no : st.2.getD (min ra rb) 0 = min ra rb := by
    rcases Nat.le_total ra rb with q | q
    · rw [Nat.min_eq_left q]; exact oa
    · rw [Nat.min_eq_right q]; exact ob
  refine countP_one (m := max ra rb) List.nodup_range (List.mem_range.mpr (by omega)) (decide_eq_true mo) ?_ (fun x hx hne => ?_)
  · refine decide_eq_false ?_
    show ¬ (st.2.map fun x => if x = max ra rb then min ra rb else x).getD (max ra rb) 0 = max ra rb
    rw [g _ (by omega), if_pos mo]
    omega
  · rw [List.mem_range] at hx
    show decide (st.2.getD x 0 = x) = decide ((st.2.map fun x => if x = max ra rb then min ra rb else x).getD x 0 = x)
    rw [g x hx]
    by_cases hm : st.2.getD x 0 = max ra rb
    · rw [if_pos hm, decide_eq_false (fun q => hne (by rw [← hm]; exact q.symm)), decide_eq_false (fun q => ?_)]
      rw [← q] at hm
      rw [no] at hm
      omega
    · rw [if_neg hm]
/-- the prices that are taken -/
def accL (ps : List Nat) : List (Int × Nat × Nat) → List Int
  | [] => []
  | e :: es => if ps.getD e.2.1 0 = ps.getD e.2.2 0 then accL ps es else e.1 :: accL (kstep (0, ps) e).2 es
theorem kstep_snd (t : Int) (ps : List Nat) (e : Int × Nat × Nat) : (kstep (t, ps) e).2 = (kstep (0, ps) e).2 := by
  unfold kstep
  show (if ps.getD e.2.1 0 = ps.getD e.2.2 0 then _ else _ : Int × List Nat).2 = (if ps.getD e.2.1 0 = ps.getD e.2.2 0 then _ else _ : Int × List Nat).2
  split <;> rfl
theorem acc_sum : ∀ (es : List (Int × Nat × Nat)) (t : Int) (ps : List Nat), (es.foldl kstep (t, ps)).1 = t + (accL ps es).sum
  | [], t, ps => by show t = t + 0; omega
  | e :: es, t, ps => by
    rw [List.foldl_cons]
    have ih := acc_sum es (kstep (t, ps) e).1 (kstep (t, ps) e).2
    rw [show ((kstep (t, ps) e).1, (kstep (t, ps) e).2) = kstep (t, ps) e from rfl] at ih
    rw [ih]
    show _ = t + (if ps.getD e.2.1 0 = ps.getD e.2.2 0 then accL ps es else e.1 :: accL (kstep (0, ps) e).2 es).sum
    by_cases h : ps.getD e.2.1 0 = ps.getD e.2.2 0
    · have : kstep (t, ps) e = (t, ps) := if_pos h
      rw [this, if_pos h]
    · have : (kstep (t, ps) e).1 = t + e.1 := by
        unfold kstep
        show (if ps.getD e.2.1 0 = ps.getD e.2.2 0 then _ else _ : Int × List Nat).1 = _
        rw [if_neg h]
      rw [this, kstep_snd, if_neg h, List.sum_cons]
      omega
theorem acc_app : ∀ (es fs : List (Int × Nat × Nat)) (t : Int) (ps : List Nat), accL ps (es ++ fs) = accL ps es ++ accL (es.foldl kstep (t, ps)).2 fs
  | [], fs, t, ps => rfl
  | e :: es, fs, t, ps => by
    rw [List.foldl_cons]
    have ih := acc_app es fs (kstep (t, ps) e).1 (kstep (t, ps) e).2
    rw [show ((kstep (t, ps) e).1, (kstep (t, ps) e).2) = kstep (t, ps) e from rfl] at ih
    show (if ps.getD e.2.1 0 = ps.getD e.2.2 0 then accL ps (es ++ fs) else e.1 :: accL (kstep (0, ps) e).2 (es ++ fs)) = (if ps.getD e.2.1 0 = ps.getD e.2.2 0 then accL ps es else e.1 :: accL (kstep (0, ps) e).2 es) ++ _
    by_cases h : ps.getD e.2.1 0 = ps.getD e.2.2 0
    · have hk : kstep (t, ps) e = (t, ps) := if_pos h
      rw [hk] at ih ⊢
      rw [if_pos h, if_pos h, ih]
    · rw [if_neg h, if_neg h]
      rw [kstep_snd] at ih
      rw [ih]; rfl
end K73
end
section
set_option maxHeartbeats 4000000
namespace K73
/-! ### plain law 2: Kruskal's answer by connectivity -/
def Ed (es : List (Int × Nat × Nat)) (x y : Nat) : Prop := ∃ e ∈ es, (x = e.2.1 ∧ y = e.2.2) ∨ (x = e.2.2 ∧ y = e.2.1)
theorem Ed.symm {es : List (Int × Nat × Nat)} : ∀ x y, Ed es x y → Ed es y x := fun x y ⟨e, he, h⟩ => ⟨e, he, by rcases h with ⟨a, b⟩ | ⟨a, b⟩; exact Or.inr ⟨b, a⟩; exact Or.inl ⟨b, a⟩⟩
def EU (E F : Nat → Nat → Prop) (x y : Nat) : Prop := E x y ∨ F x y
theorem fold_lb {n : Nat} : ∀ (es : List (Int × Nat × Nat)) (E : Nat → Nat → Prop) (t : Int) (ps : List Nat), (∀ x y, E x y → E y x) → (∀ e ∈ es, e.2.1 < n ∧ e.2.2 < n) → Lb n E ps → Lb n (EU E (Ed es)) (es.foldl kstep (t, ps)).2 ∧ own n (es.foldl kstep (t, ps)).2 + (accL ps es).length = own n ps
  | [], E, t, ps, hs, _, L => by
    have e : EU E (Ed []) = E := by
      funext x y
      refine propext ⟨fun h => ?_, Or.inl⟩
      rcases h with h | ⟨_, h, _⟩
      · exact h
      · cases h
    rw [e]
    exact ⟨L, rfl⟩
  | e :: es, E, t, ps, hs, hb, L => by
    obtain ⟨b1, b2⟩ := hb e List.mem_cons_self
    have L1 : Lb n (Plus E e.2.1 e.2.2) (kstep (t, ps) e).2 := Lb.step (st := (t, ps)) L hs b1 b2
    obtain ⟨i1, i2⟩ := fold_lb es (Plus E e.2.1 e.2.2) (kstep (t, ps) e).1 (kstep (t, ps) e).2 (plus_symm hs) (fun f hf => hb f (List.mem_cons_of_mem _ hf)) L1
    rw [show ((kstep (t, ps) e).1, (kstep (t, ps) e).2) = kstep (t, ps) e from rfl] at i1 i2
    have ee : EU (Plus E e.2.1 e.2.2) (Ed es) = EU E (Ed (e :: es)) := by
      funext x y
      refine propext ⟨?_, ?_⟩
      · rintro ((h | h) | ⟨f, hf, h⟩)
        · exact Or.inl h
        · exact Or.inr ⟨e, List.mem_cons_self, h⟩
        · exact Or.inr ⟨f, List.mem_cons_of_mem _ hf, h⟩
      · rintro (h | ⟨f, hf, h⟩)
        · exact Or.inl (Or.inl h)
        · rcases List.mem_cons.mp hf with q | q
          · subst q; exact Or.inl (Or.inr h)
          · exact Or.inr ⟨f, q, h⟩
    rw [ee] at i1
    rw [List.foldl_cons]
    refine ⟨i1, ?_⟩
    show _ + (if ps.getD e.2.1 0 = ps.getD e.2.2 0 then accL ps es else e.1 :: accL (kstep (0, ps) e).2 es).length = _
    by_cases h : ps.getD e.2.1 0 = ps.getD e.2.2 0
    · have hk : kstep (t, ps) e = (t, ps) := if_pos h
      rw [hk] at i2 ⊢
      rw [if_pos h]; exact i2
    · have o : own n (kstep (t, ps) e).2 + 1 = own n ps := own_step (st := (t, ps)) L hs b1 b2 h
      rw [if_neg h, List.length_cons]
      rw [kstep_snd] at i2 o
      omega
/-- counts and lists -/
theorem sorted_eq : ∀ (xs ys : List Int), xs.Pairwise (· ≤ ·) → ys.Pairwise (· ≤ ·) → (∀ w, xs.countP (fun x => decide (x ≤ w)) = ys.countP fun x => decide (x ≤ w)) → xs = ys
  | [], [], _, _, _ => rfl
  | [], y :: ys, _, _, h => by
    have := h y
    rw [List.countP_nil, List.countP_cons_of_pos (by simp)] at this
    omega
  | x :: xs, [], _, _, h => by
    have := h x
    rw [List.countP_nil, List.countP_cons_of_pos (by simp)] at this
    omega
  | x :: xs, y :: ys, hx, hy, h => by
    rw [List.pairwise_cons] at hx hy
    have e : x = y := by
      have h1 := h x
      have h2 := h y
      rw [List.countP_cons_of_pos (by simp)] at h1
      rw [List.countP_cons_of_pos (p := fun z => decide (z ≤ y)) (a := y) (by simp)] at h2
      have a : y ≤ x := by
        apply Classical.byContradiction
        intro hn
        have : (y :: ys).countP (fun z => decide (z ≤ x)) = 0 := by
          rw [List.countP_eq_zero]
          intro z hz
          rcases List.mem_cons.mp hz with q | q
          · subst q; simpa using hn
          · have := hy.1 z q; simp; omega
        omega
      have b : x ≤ y := by
        apply Classical.byContradiction
        intro hn
        have : (x :: xs).countP (fun z => decide (z ≤ y)) = 0 := by
          rw [List.countP_eq_zero]
          intro z hz
          rcases List.mem_cons.mp hz with q | q
          · subst q; simpa using hn
          · have := hx.1 z q; simp; omega
        omega
      omega
    subst e
    congr 1
    refine sorted_eq xs ys hx.2 hy.2 fun w => ?_
    have := h w
    by_cases hw : x ≤ w
    · rw [List.countP_cons_of_pos (by simpa using hw), List.countP_cons_of_pos (by simpa using hw)] at this
      omega
    · rw [List.countP_cons_of_neg (by simpa using hw), List.countP_cons_of_neg (by simpa using hw)] at this
      exact this
theorem acc_sub : ∀ (es : List (Int × Nat × Nat)) (ps : List Nat), (accL ps es).Sublist (es.map (·.1))
  | [], ps => List.Sublist.refl _
  | e :: es, ps => by
    show (if ps.getD e.2.1 0 = ps.getD e.2.2 0 then accL ps es else e.1 :: accL (kstep (0, ps) e).2 es).Sublist (e.1 :: es.map (·.1))
    split
    · exact (acc_sub es ps).cons _
    · exact (acc_sub es _).cons₂ _
def leW (w : Int) (es : List (Int × Nat × Nat)) : List (Int × Nat × Nat) := es.filter fun e => decide (e.1 ≤ w)
theorem split_w (w : Int) : ∀ (es : List (Int × Nat × Nat)), es.Pairwise (fun e f => e.1 ≤ f.1) → es = leW w es ++ es.filter fun e => decide (w < e.1)
  | [], _ => rfl
  | e :: es, h => by
    rw [List.pairwise_cons] at h
    unfold leW
    by_cases hw : e.1 ≤ w
    · rw [List.filter_cons_of_pos (by simpa using hw), List.filter_cons_of_neg (by simpa using hw)]
      show e :: es = e :: (leW w es ++ _)
      rw [← split_w w es h.2]
    · have all : es.filter (fun e => decide (e.1 ≤ w)) = [] := by
        rw [List.filter_eq_nil_iff]
        intro f hf
        have := h.1 f hf
        simp; omega
      have all2 : es.filter (fun e => decide (w < e.1)) = es := by
        rw [List.filter_eq_self]
        intro f hf
        have := h.1 f hf
        simp; omega
      rw [List.filter_cons_of_neg (by simpa using hw), List.filter_cons_of_pos (by simp; omega), all, all2]; rfl
theorem acc_count {n : Nat} {es : List (Int × Nat × Nat)} (h : es.Pairwise (fun e f => e.1 ≤ f.1)) (w : Int) (ps : List Nat) : (accL ps es).countP (fun x => decide (x ≤ w)) = (accL ps (leW w es)).length := by
  conv => lhs; rw [split_w w es h, acc_app _ _ 0 ps, List.countP_append]
  have h1 : (accL ps (leW w es)).countP (fun x => decide (x ≤ w)) = (accL ps (leW w es)).length := by
    rw [List.countP_eq_length]
    intro x hx
    obtain ⟨e, he, q⟩ := List.mem_map.mp ((acc_sub _ _).subset hx)
    have := (List.mem_filter.mp he).2
    rw [← q]; exact this
  have h2 : ∀ qs, (accL qs (es.filter fun e => decide (w < e.1))).countP (fun x => decide (x ≤ w)) = 0 := fun qs => by
    rw [List.countP_eq_zero]
    intro x hx
    obtain ⟨e, he, q⟩ := List.mem_map.mp ((acc_sub _ _).subset hx)
    have := (List.mem_filter.mp he).2
    simp at this
    rw [← q]; simp; omega
  rw [h1, h2]; rfl
end K73
end
section
set_option maxHeartbeats 4000000
namespace K73
/-! ### plain law 2: Kruskal's answer is told by connectivity below each price -/
theorem EU_none (F : Nat → Nat → Prop) : EU (fun _ _ => False) F = F := by
  funext x y
  exact propext ⟨fun h => h.elim False.elim id, Or.inr⟩
theorem kr_lb {n : Nat} {es : List (Int × Nat × Nat)} (h : ∀ e ∈ es, e.2.1 < n ∧ e.2.2 < n) : Lb n (Ed es) (kruskal n es).2 ∧ own n (kruskal n es).2 + (accL (List.range n) es).length = own n (List.range n) := by
  have := fold_lb es (fun _ _ => False) 0 (List.range n) (fun _ _ h => h) h (Lb.init n)
  rw [EU_none] at this
  exact this
theorem leW_lt {n : Nat} {es : List (Int × Nat × Nat)} (h : ∀ e ∈ es, e.2.1 < n ∧ e.2.2 < n) (w : Int) : ∀ e ∈ leW w es, e.2.1 < n ∧ e.2.2 < n := fun e he => h e (List.mem_filter.mp he).1
theorem big (es : List (Int × Nat × Nat)) : ∃ W : Int, ∀ e ∈ es, e.1 ≤ W := by
  induction es with
  | nil => exact ⟨0, fun e he => by cases he⟩
  | cons e es ih =>
    obtain ⟨W, hW⟩ := ih
    refine ⟨max W e.1, fun f hf => ?_⟩
    rcases List.mem_cons.mp hf with q | q
    · subst q; exact Int.le_max_right _ _
    · exact Int.le_trans (hW f q) (Int.le_max_left _ _)
theorem leW_all {es : List (Int × Nat × Nat)} {w : Int} (h : ∀ e ∈ es, e.1 ≤ w) : leW w es = es := List.filter_eq_self.mpr fun e he => decide_eq_true (h e he)
theorem acc_len {n : Nat} {es fs : List (Int × Nat × Nat)} (he : ∀ e ∈ es, e.2.1 < n ∧ e.2.2 < n) (hf : ∀ e ∈ fs, e.2.1 < n ∧ e.2.2 < n) (hc : ∀ x y, x < n → y < n → (Cg (Ed es) x y ↔ Cg (Ed fs) x y)) : (kruskal n es).2 = (kruskal n fs).2 ∧ (accL (List.range n) es).length = (accL (List.range n) fs).length := by
  obtain ⟨a1, a2⟩ := kr_lb he
  obtain ⟨b1, b2⟩ := kr_lb hf
  have e := a1.uniq b1 hc
  rw [e] at a2
  exact ⟨e, by omega⟩
theorem acc_sorted {es : List (Int × Nat × Nat)} (h : es.Pairwise (fun e f => e.1 ≤ f.1)) (ps : List Nat) : (accL ps es).Pairwise (· ≤ ·) := by
  refine List.Pairwise.sublist (acc_sub es ps) ?_
  rw [List.pairwise_map]
  exact h
theorem acc_eq {n : Nat} {es fs : List (Int × Nat × Nat)} (he : ∀ e ∈ es, e.2.1 < n ∧ e.2.2 < n) (hf : ∀ e ∈ fs, e.2.1 < n ∧ e.2.2 < n) (se : es.Pairwise (fun e f => e.1 ≤ f.1)) (sf : fs.Pairwise (fun e f => e.1 ≤ f.1))
    (hc : ∀ w x y, x < n → y < n → (Cg (Ed (leW w es)) x y ↔ Cg (Ed (leW w fs)) x y)) : accL (List.range n) es = accL (List.range n) fs := by
  refine sorted_eq _ _ (acc_sorted se _) (acc_sorted sf _) fun w => ?_
  rw [acc_count (n := n) se w, acc_count (n := n) sf w]
  exact (acc_len (leW_lt he w) (leW_lt hf w) (hc w)).2
theorem kruskal_eq {n : Nat} {es fs : List (Int × Nat × Nat)} (he : ∀ e ∈ es, e.2.1 < n ∧ e.2.2 < n) (hf : ∀ e ∈ fs, e.2.1 < n ∧ e.2.2 < n) (se : es.Pairwise (fun e f => e.1 ≤ f.1)) (sf : fs.Pairwise (fun e f => e.1 ≤ f.1))
    (hc : ∀ w x y, x < n → y < n → (Cg (Ed (leW w es)) x y ↔ Cg (Ed (leW w fs)) x y)) : kruskal n es = kruskal n fs := by
  have ha := acc_eq he hf se sf hc
  obtain ⟨W1, h1⟩ := big es
  obtain ⟨W2, h2⟩ := big fs
  have w1 : leW (max W1 W2) es = es := leW_all fun e q => Int.le_trans (h1 e q) (Int.le_max_left _ _)
  have w2 : leW (max W1 W2) fs = fs := leW_all fun e q => Int.le_trans (h2 e q) (Int.le_max_right _ _)
  have hcc := hc (max W1 W2)
  rw [w1, w2] at hcc
  have hp := (acc_len he hf hcc).1
  have s1 : (kruskal n es).1 = (kruskal n fs).1 := by
    show (es.foldl kstep (0, List.range n)).1 = (fs.foldl kstep (0, List.range n)).1
    rw [acc_sum, acc_sum, ha]
  exact Prod.ext s1 hp
/-- a list that is all taken -/
def Forest (n : Nat) (es : List (Int × Nat × Nat)) : Prop := (accL (List.range n) es).length = es.length
theorem Ed_perm {es fs : List (Int × Nat × Nat)} (h : es.Perm fs) : Ed es = Ed fs := by
  funext x y
  exact propext ⟨fun ⟨e, he, q⟩ => ⟨e, h.mem_iff.mp he, q⟩, fun ⟨e, he, q⟩ => ⟨e, h.mem_iff.mpr he, q⟩⟩
theorem Forest.perm {n : Nat} {es fs : List (Int × Nat × Nat)} (F : Forest n es) (h : es.Perm fs) (he : ∀ e ∈ es, e.2.1 < n ∧ e.2.2 < n) : Forest n fs := by
  have hf : ∀ e ∈ fs, e.2.1 < n ∧ e.2.2 < n := fun e q => he e (h.mem_iff.mpr q)
  have := (acc_len he hf (fun x y _ _ => by rw [Ed_perm h])).2
  unfold Forest at F ⊢
  rw [← this, F, h.length_eq]
theorem Forest.sum {n : Nat} {es : List (Int × Nat × Nat)} (F : Forest n es) : (kruskal n es).1 = (es.map (·.1)).sum := by
  show (es.foldl kstep (0, List.range n)).1 = _
  rw [acc_sum]
  have : accL (List.range n) es = es.map (·.1) := (acc_sub es _).eq_of_length (by rw [List.length_map]; exact F)
  rw [this]; omega
theorem Forest.snoc {n : Nat} {es : List (Int × Nat × Nat)} {e : Int × Nat × Nat} (he : ∀ f ∈ es, f.2.1 < n ∧ f.2.2 < n) (ha : e.2.1 < n) (hb : e.2.2 < n) : Forest n (es ++ [e]) ↔ Forest n es ∧ ¬ Cg (Ed es) e.2.1 e.2.2 := by
  have L := (kr_lb he).1
  have hl := (acc_sub es (List.range n)).length_le
  rw [List.length_map] at hl
  unfold Forest
  rw [acc_app _ _ 0, List.length_append, List.length_append, List.length_singleton]
  have e1 : accL (es.foldl kstep (0, List.range n)).2 [e] = if (kruskal n es).2.getD e.2.1 0 = (kruskal n es).2.getD e.2.2 0 then [] else [e.1] := rfl
  rw [e1]
  by_cases h : (kruskal n es).2.getD e.2.1 0 = (kruskal n es).2.getD e.2.2 0
  · rw [if_pos h]
    have := (L.iff Ed.symm ha hb).mp h
    constructor
    · intro q; simp at q; omega
    · rintro ⟨_, q⟩; exact absurd this q
  · rw [if_neg h]
    have hn : ¬ Cg (Ed es) e.2.1 e.2.2 := fun q => h ((L.iff Ed.symm ha hb).mpr q)
    rw [List.length_singleton]
    exact ⟨fun q => ⟨by omega, hn⟩, fun q => by omega⟩
end K73
end
section
set_option maxHeartbeats 4000000
namespace K73
/-! ### plain law 2: spots and their edges -/
def atE (os : List (Nat × Nat × Int)) (k : Nat) : Nat × Nat × Int := os.getD k (0, 0, 0)
def keL (os : List (Nat × Nat × Int)) (ss : List (Nat × Nat)) : List (Int × Nat × Nat) := ss.map fun e => kEdge (atE os e.1)
/-- e's two edges -/
def SE (os : List (Nat × Nat × Int)) (e : Nat × Nat) (x y : Nat) : Prop := (x = (atE os e.1).1 ∧ y = e.2) ∨ (x = e.2 ∧ y = (atE os e.1).1) ∨ (x = e.2 ∧ y = (atE os e.1).2.1) ∨ (x = (atE os e.1).2.1 ∧ y = e.2)
def SG (os : List (Nat × Nat × Int)) (ss : List (Nat × Nat)) (x y : Nat) : Prop := ∃ e ∈ ss, SE os e x y
/-- the kept edges with P -/
def ES (os : List (Nat × Nat × Int)) (ss : List (Nat × Nat)) (P : Nat × Nat → Prop) (x y : Nat) : Prop := ∃ e ∈ ss, P e ∧ ((x = (atE os e.1).1 ∧ y = (atE os e.1).2.1) ∨ (x = (atE os e.1).2.1 ∧ y = (atE os e.1).1))
theorem ES.symm {os : List (Nat × Nat × Int)} {ss : List (Nat × Nat)} {P : Nat × Nat → Prop} : ∀ x y, ES os ss P x y → ES os ss P y x := fun x y ⟨e, h1, h2, h⟩ => ⟨e, h1, h2, h.elim (fun q => Or.inr ⟨q.2, q.1⟩) fun q => Or.inl ⟨q.2, q.1⟩⟩
theorem ES.mono {os : List (Nat × Nat × Int)} {ss : List (Nat × Nat)} {P Q : Nat × Nat → Prop} (h : ∀ e ∈ ss, P e → Q e) : ∀ x y, ES os ss P x y → ES os ss Q x y := fun x y ⟨e, h1, h2, q⟩ => ⟨e, h1, h e h1 h2, q⟩
theorem ed_es {os : List (Nat × Nat × Int)} {ss : List (Nat × Nat)} {x y : Nat} : Ed (keL os ss) x y ↔ ES os ss (fun _ => True) x y := by
  constructor
  · rintro ⟨f, hf, h⟩
    obtain ⟨e, he, rfl⟩ := List.mem_map.mp hf
    exact ⟨e, he, trivial, h⟩
  · rintro ⟨e, he, _, h⟩
    exact ⟨_, List.mem_map.mpr ⟨e, he, rfl⟩, h⟩
theorem ed_le {os : List (Nat × Nat × Int)} {ss : List (Nat × Nat)} {w : Int} {x y : Nat} : Ed (leW w (keL os ss)) x y ↔ ES os ss (fun e => (atE os e.1).2.2 ≤ w) x y := by
  constructor
  · rintro ⟨f, hf, h⟩
    obtain ⟨hf1, hf2⟩ := List.mem_filter.mp hf
    obtain ⟨e, he, rfl⟩ := List.mem_map.mp hf1
    exact ⟨e, he, of_decide_eq_true hf2, h⟩
  · rintro ⟨e, he, hp, h⟩
    exact ⟨_, List.mem_filter.mpr ⟨List.mem_map.mpr ⟨e, he, rfl⟩, decide_eq_true hp⟩, h⟩
theorem atE_mem {os : List (Nat × Nat × Int)} {k : Nat} (h : k < os.length) : atE os k ∈ os := by
  unfold atE
  rw [List.getD_eq_getElem?_getD, List.getElem?_eq_getElem h]
  exact List.getElem_mem h
theorem atE_of {os : List (Nat × Nat × Int)} {k : Nat} {o : Nat × Nat × Int} (h : os[k]? = some o) : atE os k = o := by
  unfold atE
  rw [List.getD_eq_getElem?_getD, h]; rfl
theorem atE_get {os : List (Nat × Nat × Int)} {k : Nat} (h : k < os.length) : os[k]? = some (atE os k) := by
  rw [List.getElem?_eq_getElem h]
  unfold atE
  rw [List.getD_eq_getElem?_getD, List.getElem?_eq_getElem h]; rfl
theorem atE_app {os : List (Nat × Nat × Int)} {k : Nat} {o : Nat × Nat × Int} (h : k < os.length) : atE (os ++ [o]) k = atE os k := by
  unfold atE
  rw [List.getD_eq_getElem?_getD, List.getElem?_append_left h, List.getD_eq_getElem?_getD]
/-- the plain facts of the spots -/
structure Pt (n : Nat) (os : List (Nat × Nat × Int)) (ss : List (Nat × Nat)) : Prop where
  lo : ∀ e ∈ ss, n ≤ e.2
  ix : ∀ e ∈ ss, e.1 < os.length
  ne : ∀ e ∈ ss, (atE os e.1).1 ≠ (atE os e.1).2.1
  nd1 : (ss.map (·.1)).Nodup
  nd2 : (ss.map (·.2)).Nodup
  off : ∀ o ∈ os, o.1 < n ∧ o.2.1 < n ∧ 0 ≤ o.2.2
theorem Pt.at {n : Nat} {os : List (Nat × Nat × Int)} {ss : List (Nat × Nat)} (I : Pt n os ss) {e : Nat × Nat} (h : e ∈ ss) : (atE os e.1).1 < n ∧ (atE os e.1).2.1 < n ∧ 0 ≤ (atE os e.1).2.2 := I.off _ (atE_mem (I.ix e h))
theorem Pt.same1 {n : Nat} {os : List (Nat × Nat × Int)} {ss : List (Nat × Nat)} (I : Pt n os ss) {e f : Nat × Nat} (h : e ∈ ss) (hf : f ∈ ss) (q : e.1 = f.1) : e = f := nodup_key I.nd1 h hf q
theorem Pt.same2 {n : Nat} {os : List (Nat × Nat × Int)} {ss : List (Nat × Nat)} (I : Pt n os ss) {e f : Nat × Nat} (h : e ∈ ss) (hf : f ∈ ss) (q : e.2 = f.2) : e = f := by
  have h1 : (e.2, e.1) = (f.2, f.1) := nodup_key (s := sw ss) (by rw [sw_fst]; exact I.nd2) (List.mem_map.mpr ⟨e, h, rfl⟩) (List.mem_map.mpr ⟨f, hf, rfl⟩) q
  injection h1 with q1 q2
  exact Prod.ext q2 q1
theorem SE.symm {os : List (Nat × Nat × Int)} {e : Nat × Nat} {x y : Nat} (h : SE os e x y) : SE os e y x := by
  rcases h with h | h | h | h
  · exact Or.inr (Or.inl h.symm)
  · exact Or.inl h.symm
  · exact Or.inr (Or.inr (Or.inr h.symm))
  · exact Or.inr (Or.inr (Or.inl h.symm))
theorem SG.symm {os : List (Nat × Nat × Int)} {ss : List (Nat × Nat)} : ∀ x y, SG os ss x y → SG os ss y x := fun x y ⟨e, he, h⟩ => ⟨e, he, h.symm⟩
/-- v and, if it is a spot, both of its ends are led to from a -/
def GA (n : Nat) (os : List (Nat × Nat × Int)) (ss : List (Nat × Nat)) (P : Nat × Nat → Prop) (a v : Nat) : Prop := (v < n → Cg (ES os ss P) a v) ∧ ∀ e ∈ ss, e.2 = v → Cg (ES os ss P) a (atE os e.1).1 ∧ Cg (ES os ss P) a (atE os e.1).2.1
theorem Pt.ga {n : Nat} {os : List (Nat × Nat × Int)} {ss : List (Nat × Nat)} (I : Pt n os ss) {P : Nat × Nat → Prop} {a : Nat} (h : a < n) : GA n os ss P a a := ⟨fun _ => .refl _, fun e he q => by have := I.lo e he; omega⟩
theorem Pt.walk {n : Nat} {os : List (Nat × Nat × Int)} {ss : List (Nat × Nat)} (I : Pt n os ss) {P : Nat × Nat → Prop} {a x y : Nat} (h : SG os ss x y) (hP : ∀ e ∈ ss, e.2 = x ∨ e.2 = y → P e) (q : GA n os ss P a x) : GA n os ss P a y := by
  obtain ⟨e, he, hse⟩ := h
  obtain ⟨o1, o2, o3⟩ := I.at he
  have lo := I.lo e he
  have edge : P e → ES os ss P (atE os e.1).1 (atE os e.1).2.1 := fun hp => ⟨e, he, hp, Or.inl ⟨rfl, rfl⟩⟩
  have toSpot : ∀ u, (u = (atE os e.1).1 ∨ u = (atE os e.1).2.1) → P e → Cg (ES os ss P) a u → ∀ f ∈ ss, f.2 = e.2 → Cg (ES os ss P) a (atE os f.1).1 ∧ Cg (ES os ss P) a (atE os f.1).2.1 := fun u hu hp hc f hf q => by
    rw [I.same2 hf he q]
    rcases hu with h | h
    · subst h; exact ⟨hc, .step hc (edge hp)⟩
    · subst h; exact ⟨.step hc (ES.symm _ _ (edge hp)), hc⟩
  have noSpot : ∀ u, u < n → ∀ f ∈ ss, f.2 ≠ u := fun u hu f hf q => by
    have := I.lo f hf
    omega
  rcases hse with ⟨h1, h2⟩ | ⟨h1, h2⟩ | ⟨h1, h2⟩ | ⟨h1, h2⟩
  · subst h1 h2
    exact ⟨fun h => by omega, toSpot _ (Or.inl rfl) (hP e he (Or.inr rfl)) (q.1 o1)⟩
  · subst h1 h2
    exact ⟨fun _ => (q.2 e he rfl).1, fun f hf q' => absurd q' (noSpot _ o1 f hf)⟩
  · subst h1 h2
    exact ⟨fun _ => (q.2 e he rfl).2, fun f hf q' => absurd q' (noSpot _ o2 f hf)⟩
  · subst h1 h2
    exact ⟨fun h => by omega, toSpot _ (Or.inr rfl) (hP e he (Or.inr rfl)) (q.1 o2)⟩
theorem Pt.walks {n : Nat} {os : List (Nat × Nat × Int)} {ss : List (Nat × Nat)} (I : Pt n os ss) {P : Nat × Nat → Prop} {a : Nat} : ∀ (xs : List Nat) (v : Nat), (∀ z y, Con (v :: xs) z y → SG os ss z y) → (∀ e ∈ ss, e.2 ∈ v :: xs → P e) → GA n os ss P a v → ∀ u ∈ v :: xs, GA n os ss P a u
  | [], v, _, _, q, u, hu => by
    rw [List.mem_singleton.mp hu]; exact q
  | x :: xs, v, hc, hp, q, u, hu => by
    rcases List.mem_cons.mp hu with h | h
    · rw [h]; exact q
    · refine Pt.walks I xs x (fun z y h => hc z y h.cons) (fun e he h => hp e he (List.mem_cons_of_mem _ h)) (I.walk (hc v x ⟨[], xs, rfl⟩) (fun e he h => hp e he ?_) q) u h
      rcases h with h | h
      · rw [h]; exact List.mem_cons_self
      · rw [h]; exact List.mem_cons_of_mem _ List.mem_cons_self
/-- joined by spots, joined by kept edges -/
theorem Pt.cg {n : Nat} {os : List (Nat × Nat × Int)} {ss : List (Nat × Nat)} (I : Pt n os ss) {a b : Nat} (ha : a < n) (hb : b < n) : Cg (SG os ss) a b ↔ Cg (ES os ss fun _ => True) a b := by
  constructor
  · intro h
    have : GA n os ss (fun _ => True) a b := by
      clear hb
      induction h with
      | refl => exact I.ga ha
      | step _ e ih => exact I.walk e (fun _ _ _ => trivial) ih
    exact this.1 hb
  · refine Cg.map fun x y h => ?_
    obtain ⟨e, he, _, h⟩ := h
    rcases h with ⟨rfl, rfl⟩ | ⟨rfl, rfl⟩
    · exact .step (Cg.one ⟨e, he, Or.inl ⟨rfl, rfl⟩⟩) ⟨e, he, Or.inr (Or.inr (Or.inl ⟨rfl, rfl⟩))⟩
    · exact .step (Cg.one ⟨e, he, Or.inr (Or.inr (Or.inr ⟨rfl, rfl⟩))⟩) ⟨e, he, Or.inr (Or.inl ⟨rfl, rfl⟩)⟩
theorem Pt.spot_end {n : Nat} {os : List (Nat × Nat × Int)} {ss : List (Nat × Nat)} (I : Pt n os ss) {g s v : Nat} (hg : (g, s) ∈ ss) (h : SG os ss v s) : v = (atE os g).1 ∨ v = (atE os g).2.1 := by
  obtain ⟨e, he, h⟩ := h
  obtain ⟨o1, o2, o3⟩ := I.at he
  have hs := I.lo _ hg
  have k : s = e.2 → e = (g, s) := fun q => I.same2 he hg q.symm
  rcases h with ⟨h1, h2⟩ | ⟨h1, h2⟩ | ⟨h1, h2⟩ | ⟨h1, h2⟩
  · rw [k h2] at h1; exact Or.inl h1
  · have : n ≤ s := hs
    omega
  · have : n ≤ s := hs
    omega
  · rw [k h2] at h1; exact Or.inr h1
/-- a way -/
structure Way (G : Nat → Nat → Prop) (a b : Nat) (xs : List Nat) : Prop where
  nd : xs.Nodup
  con : ∀ z y, Con xs z y → G z y
  hd : ∃ r, xs = a :: r
  la : ∃ r, xs = r ++ [b]
theorem Way.rev {G : Nat → Nat → Prop} {a b : Nat} {xs : List Nat} (W : Way G a b xs) (hs : ∀ x y, G x y → G y x) : Way G b a xs.reverse where
  nd := (List.reverse_perm xs).nodup_iff.mpr W.nd
  con z y h := by
    have := h.rev
    rw [List.reverse_reverse] at this
    exact hs _ _ (W.con _ _ this)
  hd := by
    obtain ⟨r, h⟩ := W.la
    exact ⟨r.reverse, by rw [h, List.reverse_append]; rfl⟩
  la := by
    obtain ⟨r, h⟩ := W.hd
    exact ⟨r.reverse, by rw [h, List.reverse_cons]⟩
theorem OpenF.way {c : C} {G : Nat → Nat → Prop} {a b : Nat} {l : Tr} {par : Nat → Option Nat} {us : List Tr} (O : OpenF c G a b l par us) : Way G a b (l.els ++ [b]) := by
  have nd : (l.els ++ [b]).Nodup := by
    have := O.rp.nd
    rw [List.flatMap_cons] at this
    exact (List.nodup_append.mp this).1
  refine ⟨nd, fun z y h => (O.adj z y).mpr (Or.inr ((O.path.par_iff nd h.mem.2).mpr (Or.inr h))), O.head, ⟨_, rfl⟩⟩
/-- the way from a up to the spot s -/
theorem Pt.half {n : Nat} {os : List (Nat × Nat × Int)} {ss : List (Nat × Nat)} (I : Pt n os ss) {a b g s : Nat} {xs : List Nat} (W : Way (SG os ss) a b xs) (ha : a < n) (hg : (g, s) ∈ ss) (hs : s ∈ xs) :
    ∃ v, Con xs v s ∧ (v = (atE os g).1 ∨ v = (atE os g).2.1) ∧ Cg (ES os ss fun e => e.2 ∈ xs ∧ e ≠ (g, s)) a v := by
  obtain ⟨pre, post, rfl⟩ := List.append_of_mem hs
  obtain ⟨r, hr⟩ := W.hd
  have hsn := I.lo _ hg
  cases pre with
  | nil =>
    injection hr with h1 _
    have : n ≤ s := hsn
    omega
  | cons x pre =>
    injection hr with h1 _
    subst h1
    rcases List.eq_nil_or_concat (x :: pre) with h | ⟨p0, v, h⟩
    · cases h
    rw [List.concat_eq_append] at h
    have cv : Con (x :: pre ++ s :: post) v s := ⟨p0, post, by rw [h, List.append_assoc]; rfl⟩
    have ev := I.spot_end hg (W.con v s cv)
    refine ⟨v, cv, ev, ?_⟩
    have hvn : v < n := by
      have := I.at hg
      rcases ev with q | q <;> rw [q]
      · exact this.1
      · exact this.2.1
    have hsn' : s ∉ x :: pre := fun q => by
      have := W.nd
      rw [List.nodup_append] at this
      exact this.2.2 s q s List.mem_cons_self rfl
    refine (I.walks (P := fun e => e.2 ∈ x :: pre ++ s :: post ∧ e ≠ (g, s)) pre x (fun z y ⟨s1, t1, q⟩ => W.con z y ⟨s1, t1 ++ s :: post, by rw [q]; simp⟩) (fun e he q => ⟨List.mem_append_left _ q, fun q' => ?_⟩) (I.ga ha) v ?_).1 hvn
    · subst q'; exact hsn' q
    · rw [h]; simp
theorem Pt.halves {n : Nat} {os : List (Nat × Nat × Int)} {ss : List (Nat × Nat)} (I : Pt n os ss) {a b g s : Nat} {xs : List Nat} (W : Way (SG os ss) a b xs) (ha : a < n) (hb : b < n) (hg : (g, s) ∈ ss) (hs : s ∈ xs) :
    ∃ v v', ((v = (atE os g).1 ∧ v' = (atE os g).2.1) ∨ (v = (atE os g).2.1 ∧ v' = (atE os g).1)) ∧ Cg (ES os ss fun e => e.2 ∈ xs ∧ e ≠ (g, s)) a v ∧ Cg (ES os ss fun e => e.2 ∈ xs ∧ e ≠ (g, s)) b v' := by
  obtain ⟨v, c1, e1, g1⟩ := I.half W ha hg hs
  obtain ⟨v', c2, e2, g2⟩ := I.half (W.rev SG.symm) hb hg (List.mem_reverse.mpr hs)
  have c3 := c2.rev
  rw [List.reverse_reverse] at c3
  have i1 := c1.idx W.nd
  have i2 := c3.idx W.nd
  have ne : v ≠ v' := fun q => by subst q; omega
  refine ⟨v, v', ?_, g1, g2.mono (ES.mono fun e _ h => ⟨List.mem_reverse.mp h.1, h.2⟩)⟩
  rcases e1 with e1 | e1 <;> rcases e2 with e2 | e2
  · exact absurd (e1.trans e2.symm) ne
  · exact Or.inl ⟨e1, e2⟩
  · exact Or.inr ⟨e1, e2⟩
  · exact absurd (e1.trans e2.symm) ne
end K73
end
section
set_option maxHeartbeats 4000000
namespace K73
/-! ### plain law 2: keep one, let one go -/
theorem Ld_mono {a b : Nat} (h : a ≤ b) : Ld a ≤ Ld b := by
  have := Bl_mono h
  unfold Ld
  omega
/-- the state of the strands -/
structure St (n : Nat) (os : List (Nat × Nat × Int)) (ss : List (Nat × Nat)) (c : C) : Prop where
  fo : Fo c (SG os ss)
  cn : n ≤ c.n
  wp : ∀ x, x < n → c.worth x = -1
  sp : ∀ e ∈ ss, e.2 < c.n ∧ c.worth e.2 = (atE os e.1).2.2
theorem Fo.congr {c : C} {G G' : Nat → Nat → Prop} (F : Fo c G) (h : ∀ x y, G x y ↔ G' x y) : Fo c G' := by
  have e : G = G' := by
    funext x y
    exact propext (h x y)
  rw [← e]; exact F
theorem Pt.snoc {n : Nat} {os : List (Nat × Nat × Int)} {ss : List (Nat × Nat)} {o : Nat × Nat × Int} (I : Pt n os ss) (h : o.1 < n ∧ o.2.1 < n ∧ 0 ≤ o.2.2) : Pt n (os ++ [o]) ss where
  lo := I.lo
  ix e he := by
    have := I.ix e he
    rw [List.length_append]; omega
  ne e he := by
    rw [atE_app (I.ix e he)]
    exact I.ne e he
  nd1 := I.nd1
  nd2 := I.nd2
  off p hp := by
    rcases List.mem_append.mp hp with q | q
    · exact I.off p q
    · rw [List.mem_singleton.mp q]; exact h
theorem Pt.sg_snoc {n : Nat} {os : List (Nat × Nat × Int)} {ss : List (Nat × Nat)} {o : Nat × Nat × Int} (I : Pt n os ss) (x y : Nat) : SG os ss x y ↔ SG (os ++ [o]) ss x y := by
  unfold SG SE
  constructor
  · rintro ⟨e, he, h⟩
    exact ⟨e, he, by rw [atE_app (I.ix e he)]; exact h⟩
  · rintro ⟨e, he, h⟩
    rw [atE_app (I.ix e he)] at h
    exact ⟨e, he, h⟩
theorem Pt.es_snoc {n : Nat} {os : List (Nat × Nat × Int)} {ss : List (Nat × Nat)} {o : Nat × Nat × Int} (I : Pt n os ss) : keL (os ++ [o]) ss = keL os ss :=
  List.map_congr_left fun e he => by rw [atE_app (I.ix e he)]
theorem St.snoc {n : Nat} {os : List (Nat × Nat × Int)} {ss : List (Nat × Nat)} {c : C} {o : Nat × Nat × Int} (I : Pt n os ss) (S : St n os ss c) : St n (os ++ [o]) ss c where
  fo := S.fo.congr I.sg_snoc
  cn := S.cn
  wp := S.wp
  sp e he := by
    rw [atE_app (I.ix e he)]
    exact S.sp e he
theorem cg_out {G : Nat → Nat → Prop} {m : Nat} (h : ∀ x y, G x y → x < m ∧ y < m) {x y : Nat} (q : Cg G x y) : x = y ∨ (x < m ∧ y < m) := by
  induction q with
  | refl => exact Or.inl rfl
  | step _ e ih =>
    have := h _ _ e
    rcases ih with q | q
    · subst q; exact Or.inr this
    · exact Or.inr ⟨q.1, this.2⟩
theorem keepone_F {n : Nat} {os : List (Nat × Nat × Int)} {ss : List (Nat × Nat)} {c : C} {g a b : Nat} {z : Int} (I : Pt n os ss) (S : St n os ss c) (hg : os[g]? = some (a, b, z)) (hn : g ∉ ss.map (·.1)) (hl : ss.length < 1000) (hc : ¬ Cg (SG os ss) a b) (h103 : c.n < 103)
    (hs : c.steps + 8 * Ld 103 + 120 < 16000000) : ∃ c3 : C, KeepOne ⟨n, os, ss, c⟩ g ⟨n, os, ss ++ [(g, c.n)], c3⟩ ∧ Pt n os (ss ++ [(g, c.n)]) ∧ St n os (ss ++ [(g, c.n)]) c3 ∧ c3.n = c.n + 1 ∧ c3.steps ≤ c.steps + 8 * Ld 103 := by
  have at_ := atE_of hg
  have hgl : g < os.length := (List.getElem?_eq_some_iff.mp hg).1
  obtain ⟨o1, o2, o3⟩ := I.off _ (List.mem_of_getElem? hg)
  have cn := S.cn
  have ab : a ≠ b := fun e => hc (by rw [e]; exact .refl _)
  have inG : ∀ x y, SG os ss x y → x < c.n ∧ y < c.n := fun x y h => S.fo.lt h
  have LM : Ld (c.n + 1) ≤ Ld 103 := Ld_mono (by omega)
  have n1 : ¬ Cg (SG os ss) a c.n := fun q => by
    rcases cg_out inG q with h | h
    · have : a < n := o1
      omega
    · omega
  have n2 : ¬ Cg (Plus (SG os ss) a c.n) c.n b := fun q => by
    rcases (cg_plus SG.symm).mp q with h | ⟨h, _⟩ | ⟨_, h⟩
    · rcases cg_out inG h with h | h
      · have : b < n := o2
        omega
      · omega
    · exact n1 (h.symm SG.symm)
    · exact hc h
  obtain ⟨c2, t1, f2, w2, m2, s2⟩ := tied_F (a := a) (b := c.n) (put_F S.fo z) (show a < c.n + 1 by have : a < n := o1; omega) (show c.n < c.n + 1 by omega) n1 (show c.n + 1 < 10000 by omega) (show c.steps + 4 * Ld (c.n + 1) + (c.n + 1) + 10 < 16000000 by omega)
  have m2' : c2.n = c.n + 1 := m2
  have s2' : c2.steps ≤ c.steps + 4 * Ld (c.n + 1) := s2
  obtain ⟨c3, t2, f3, w3, m3, s3⟩ := tied_F (a := c.n) (b := b) f2 (by rw [m2']; omega) (by rw [m2']; have : b < n := o2; omega) n2 (by omega) (by rw [m2']; omega)
  have nd2' : c.n ∉ ss.map (·.2) := fun q => by
    obtain ⟨e, he, q⟩ := List.mem_map.mp q
    have := (S.sp e he).1
    have q' : e.2 = c.n := q
    omega
  have snd_nd : ∀ {f : Nat × Nat → Nat} {v : Nat × Nat}, (ss.map f).Nodup → f v ∉ ss.map f → ((ss ++ [v]).map f).Nodup := fun {f v} h q => by
    rw [List.map_append, List.nodup_append]
    refine ⟨h, List.pairwise_singleton _ _, fun x hx y hy e => ?_⟩
    rw [List.mem_singleton.mp hy] at e
    subst e
    exact q hx
  have I' : Pt n os (ss ++ [(g, c.n)]) := by
    refine ⟨fun e he => ?_, fun e he => ?_, fun e he => ?_, snd_nd (f := (·.1)) I.nd1 hn, snd_nd (f := (·.2)) I.nd2 nd2', I.off⟩
    all_goals rcases List.mem_append.mp he with h | h
    · exact I.lo e h
    · rw [List.mem_singleton.mp h]; exact cn
    · exact I.ix e h
    · rw [List.mem_singleton.mp h]; exact hgl
    · exact I.ne e h
    · rw [List.mem_singleton.mp h]
      show (atE os g).1 ≠ (atE os g).2.1
      rw [at_]; exact ab
  refine ⟨c3, ⟨a, b, z, c2, c3, hg, by show c.n < 1000; omega, t1, t2, hn, nd2', hl, rfl⟩, I', ⟨?_, by rw [m3, m2']; omega, fun x hx => ?_, fun e he => ?_⟩, by rw [m3, m2'], by rw [m2'] at s3; omega⟩
  · refine f3.congr fun x y => ?_
    have one : SE os (g, c.n) x y ↔ ((x = a ∧ y = c.n) ∨ (x = c.n ∧ y = a) ∨ (x = c.n ∧ y = b) ∨ (x = b ∧ y = c.n)) := by
      unfold SE
      show (x = (atE os g).1 ∧ y = c.n) ∨ _ ∨ _ ∨ _ ↔ _
      rw [at_]
    constructor
    · rintro ((⟨e, he, h⟩ | h | h) | h | h)
      · exact ⟨e, List.mem_append_left _ he, h⟩
      · exact ⟨_, List.mem_append_right _ List.mem_cons_self, one.mpr (Or.inl h)⟩
      · exact ⟨_, List.mem_append_right _ List.mem_cons_self, one.mpr (Or.inr (Or.inl h))⟩
      · exact ⟨_, List.mem_append_right _ List.mem_cons_self, one.mpr (Or.inr (Or.inr (Or.inl h)))⟩
      · exact ⟨_, List.mem_append_right _ List.mem_cons_self, one.mpr (Or.inr (Or.inr (Or.inr h)))⟩
    · rintro ⟨e, he, h⟩
      rcases List.mem_append.mp he with q | q
      · exact Or.inl (Or.inl ⟨e, q, h⟩)
      · rw [List.mem_singleton.mp q] at h
        rcases one.mp h with h | h | h | h
        · exact Or.inl (Or.inr (Or.inl h))
        · exact Or.inl (Or.inr (Or.inr h))
        · exact Or.inr (Or.inl h)
        · exact Or.inr (Or.inr h)
  · rw [w3, w2]
    show up c.worth c.n z x = -1
    rw [up_ne (by omega)]
    exact S.wp x hx
  · rw [w3, w2, m3, m2']
    show e.2 < c.n + 1 ∧ up c.worth c.n z e.2 = _
    rcases List.mem_append.mp he with q | q
    · obtain ⟨h1, h2⟩ := S.sp e q
      rw [up_ne (by omega)]
      exact ⟨by omega, h2⟩
    · rw [List.mem_singleton.mp q]
      show c.n < c.n + 1 ∧ up c.worth c.n z c.n = (atE os g).2.2
      rw [at_]
      exact ⟨by omega, if_pos rfl⟩
theorem letgo_F {n : Nat} {os : List (Nat × Nat × Int)} {ss : List (Nat × Nat)} {c : C} {g s a b : Nat} {z : Int} (I : Pt n os ss) (S : St n os ss c) (hg : os[g]? = some (a, b, z)) (hm : (g, s) ∈ ss) (h103 : c.n ≤ 103)
    (hs : c.steps + 4 * Ld 103 + 120 < 16000000) : ∃ c3 : C, LetGo ⟨n, os, ss, c⟩ g ⟨n, os, ss.filter fun e => decide (e.1 ≠ g), c3⟩ ∧ Pt n os (ss.filter fun e => decide (e.1 ≠ g)) ∧ St n os (ss.filter fun e => decide (e.1 ≠ g)) c3 ∧ c3.n = c.n ∧ c3.steps ≤ c.steps + 4 * Ld 103 := by
  have at_ := atE_of hg
  obtain ⟨o1, o2, o3⟩ := I.off _ (List.mem_of_getElem? hg)
  have cn := S.cn
  have lo : n ≤ s := I.lo _ hm
  have hsn : s < c.n := (S.sp _ hm).1
  have o1' : a < n := o1
  have o2' : b < n := o2
  have ab : a ≠ b := by
    have := I.ne _ hm
    rw [show atE os (g, s).1 = (a, b, z) from at_] at this
    exact this
  have LM : Ld c.n ≤ Ld 103 := Ld_mono h103
  have one : ∀ x y, SE os (g, s) x y ↔ ((x = a ∧ y = s) ∨ (x = s ∧ y = a) ∨ (x = s ∧ y = b) ∨ (x = b ∧ y = s)) := fun x y => by
    unfold SE
    show (x = (atE os g).1 ∧ y = s) ∨ _ ∨ _ ∨ _ ↔ _
    rw [at_]
  obtain ⟨c2, t1, f2, w2, m2, s2⟩ := cut_F (a := a) (b := s) S.fo (by omega) hsn ⟨_, hm, (one _ _).mpr (Or.inl ⟨rfl, rfl⟩)⟩ (by omega) (by omega) (by omega)
  obtain ⟨c3, t2, f3, w3, m3, s3⟩ := cut_F (a := s) (b := b) f2 (by rw [m2]; exact hsn) (by rw [m2]; omega) ⟨⟨_, hm, (one _ _).mpr (Or.inr (Or.inr (Or.inl ⟨rfl, rfl⟩)))⟩, fun q => by omega, fun q => by have := q.2; omega⟩ (by omega) (by omega) (by rw [m2]; omega)
  have sub : ∀ e ∈ ss.filter (fun e => decide (e.1 ≠ g)), e ∈ ss ∧ e.1 ≠ g := fun e he => ⟨(List.mem_filter.mp he).1, of_decide_eq_true (List.mem_filter.mp he).2⟩
  refine ⟨c3, ⟨a, b, z, s, c2, c3, hg, hm, I.nd1, I.nd2, t1, t2, rfl⟩, ⟨fun e he => I.lo e (sub e he).1, fun e he => I.ix e (sub e he).1, fun e he => I.ne e (sub e he).1, I.nd1.sublist (List.filter_sublist.map _), I.nd2.sublist (List.filter_sublist.map _), I.off⟩,
    ⟨?_, by rw [m3, m2]; exact cn, fun x hx => by rw [w3, w2]; exact S.wp x hx, fun e he => by rw [w3, w2, m3, m2]; exact S.sp e (sub e he).1⟩, by rw [m3, m2], by rw [m2] at s3; omega⟩
  refine f3.congr fun x y => ?_
  constructor
  · rintro ⟨⟨⟨e, he, h⟩, p1, p2⟩, p3, p4⟩
    refine ⟨e, List.mem_filter.mpr ⟨he, decide_eq_true fun q => ?_⟩, h⟩
    rw [I.same1 he hm q] at h
    rcases (one _ _).mp h with h | h | h | h
    · exact p1 h
    · exact p2 h
    · exact p3 h
    · exact p4 h
  · rintro ⟨e, he, h⟩
    obtain ⟨h1, h2⟩ := sub e he
    have le := I.lo e h1
    have key : ∀ u, u < n → (SE os e u s ∨ SE os e s u) → False := fun u hu q => by
      have q' : SE os e u s := q.elim id SE.symm
      have oe := I.at h1
      rcases q' with q | q | q | q
      · exact h2 (congrArg (·.1) (I.same2 h1 hm q.2.symm))
      · omega
      · omega
      · exact h2 (congrArg (·.1) (I.same2 h1 hm q.2.symm))
    refine ⟨⟨⟨e, h1, h⟩, ?_, ?_⟩, ?_, ?_⟩
    · rintro ⟨rfl, rfl⟩; exact key _ o1' (Or.inl h)
    · rintro ⟨rfl, rfl⟩; exact key _ o1' (Or.inr h)
    · rintro ⟨rfl, rfl⟩; exact key _ o2' (Or.inr h)
    · rintro ⟨rfl, rfl⟩; exact key _ o2' (Or.inl h)
end K73
end
section
set_option maxHeartbeats 4000000
namespace K73
/-! ### plain law 2: an offer -/
structure LInv (n : Nat) (os : List (Nat × Nat × Int)) (ss : List (Nat × Nat)) (c : C) : Prop where
  pt : Pt n os ss
  st : St n os ss c
  fo : Forest n (keL os ss)
  thr : ∀ k, k < os.length → Cg (ES os ss fun e => (atE os e.1).2.2 ≤ (atE os k).2.2) (atE os k).1 (atE os k).2.1
  cn : c.n ≤ n + os.length
  sl : ss.length ≤ os.length
  steps : c.steps ≤ os.length * (19 * Ld 103)
theorem Pt.keB {n : Nat} {os : List (Nat × Nat × Int)} {ss : List (Nat × Nat)} (I : Pt n os ss) : ∀ f ∈ keL os ss, f.2.1 < n ∧ f.2.2 < n := fun f hf => by
  obtain ⟨e, he, rfl⟩ := List.mem_map.mp hf
  have := I.at he
  exact ⟨this.1, this.2.1⟩
theorem ed_eq {os : List (Nat × Nat × Int)} {ss : List (Nat × Nat)} : Ed (keL os ss) = ES os ss fun _ => True := by
  funext x y
  exact propext ed_es
theorem Pt.cgE {n : Nat} {os : List (Nat × Nat × Int)} {ss : List (Nat × Nat)} (I : Pt n os ss) {a b : Nat} (ha : a < n) (hb : b < n) : Cg (SG os ss) a b ↔ Cg (Ed (keL os ss)) a b := by
  rw [ed_eq]
  exact I.cg ha hb
theorem Pt.spot_of {n : Nat} {os : List (Nat × Nat × Int)} {ss : List (Nat × Nat)} (I : Pt n os ss) {a b x : Nat} {xs : List Nat} (W : Way (SG os ss) a b xs) (ha : a < n) (hx : x ∈ xs) (hn : n ≤ x) : ∃ g, (g, x) ∈ ss := by
  obtain ⟨pre, post, rfl⟩ := List.append_of_mem hx
  obtain ⟨r, hr⟩ := W.hd
  cases pre with
  | nil =>
    injection hr with h1 _
    omega
  | cons p pre =>
    rcases List.eq_nil_or_concat (p :: pre) with h | ⟨p0, v, h⟩
    · cases h
    rw [List.concat_eq_append] at h
    obtain ⟨e, he, hse⟩ := W.con v x ⟨p0, post, by rw [h, List.append_assoc]; rfl⟩
    have o := I.at he
    rcases hse with q | q | q | q
    · exact ⟨e.1, by rw [q.2]; exact he⟩
    · omega
    · omega
    · exact ⟨e.1, by rw [q.2]; exact he⟩
theorem Pt.way_cg {n : Nat} {os : List (Nat × Nat × Int)} {ss : List (Nat × Nat)} (I : Pt n os ss) {a b : Nat} {xs : List Nat} (W : Way (SG os ss) a b xs) (ha : a < n) (hb : b < n) {P : Nat × Nat → Prop} (hp : ∀ e ∈ ss, e.2 ∈ xs → P e) : Cg (ES os ss P) a b := by
  obtain ⟨r, hr⟩ := W.hd
  have hbm : b ∈ a :: r := by
    obtain ⟨q, hq⟩ := W.la
    rw [← hr, hq]; simp
  exact (I.walks r a (fun z y h => W.con z y (by rw [hr]; exact h)) (fun e he h => hp e he (by rw [hr]; exact h)) (I.ga ha) b hbm).1 hb
theorem Pt.swap_thr {n : Nat} {os : List (Nat × Nat × Int)} {ss : List (Nat × Nat)} (I : Pt n os ss) {a b g s m t : Nat} {xs : List Nat} (W : Way (SG os ss) a b xs) (ha : a < n) (hb : b < n) (hg : (g, s) ∈ ss) (hs : s ∈ xs) (hm : (atE os m).1 = a ∧ (atE os m).2.1 = b ∧ (atE os m).2.2 ≤ (atE os g).2.2)
    (hmax : ∀ e ∈ ss, e.2 ∈ xs → (atE os e.1).2.2 ≤ (atE os g).2.2) {w : Int} {x y : Nat} (h : Cg (ES os ss fun e => (atE os e.1).2.2 ≤ w) x y) : Cg (ES os (ss.filter (fun e => decide (e.1 ≠ g)) ++ [(m, t)]) fun e => (atE os e.1).2.2 ≤ w) x y := by
  refine Cg.map (fun x y h => ?_) h
  obtain ⟨e, he, hp, hxy⟩ := h
  by_cases q : e.1 = g
  · have hes : e = (g, s) := I.same1 he hg q
    subst hes
    obtain ⟨v, v', hv, g1, g2⟩ := I.halves W ha hb hg hs
    have lift : ∀ {x y}, Cg (ES os ss fun e => e.2 ∈ xs ∧ e ≠ (g, s)) x y → Cg (ES os (ss.filter (fun e => decide (e.1 ≠ g)) ++ [(m, t)]) fun e => (atE os e.1).2.2 ≤ w) x y := fun {x y} q =>
      q.mono fun x y ⟨f, hf, ⟨h1, h2⟩, h3⟩ => ⟨f, List.mem_append_left _ (List.mem_filter.mpr ⟨hf, decide_eq_true fun q => h2 (I.same1 hf hg q)⟩), Int.le_trans (hmax f hf h1) hp, h3⟩
    have mid : ES os (ss.filter (fun e => decide (e.1 ≠ g)) ++ [(m, t)]) (fun e => (atE os e.1).2.2 ≤ w) a b := ⟨(m, t), List.mem_append_right _ List.mem_cons_self, Int.le_trans hm.2.2 hp, Or.inl ⟨hm.1.symm, hm.2.1.symm⟩⟩
    have vv := (((lift g1).symm ES.symm).trans (Cg.one mid)).trans (lift g2)
    rcases hv with ⟨h1, h2⟩ | ⟨h1, h2⟩ <;> rcases hxy with ⟨h3, h4⟩ | ⟨h3, h4⟩ <;> rw [h3, h4] <;> rw [h1, h2] at vv
    · exact vv
    · exact vv.symm ES.symm
    · exact vv.symm ES.symm
    · exact vv
  · exact Cg.one ⟨e, List.mem_append_left _ (List.mem_filter.mpr ⟨he, decide_eq_true q⟩), hp, hxy⟩
theorem Pt.split {n : Nat} {os : List (Nat × Nat × Int)} {ss : List (Nat × Nat)} (I : Pt n os ss) (F : Forest n (keL os ss)) {g s : Nat} (hg : (g, s) ∈ ss) : Forest n (keL os (ss.filter fun e => decide (e.1 ≠ g))) ∧ ¬ Cg (ES os ss fun e => e ≠ (g, s)) (atE os g).1 (atE os g).2.1 := by
  have nd : ss.Nodup := (List.pairwise_map.mp I.nd1).imp fun h e => h (by rw [e])
  have pm : ss.Perm ((ss.filter fun e => decide (e.1 ≠ g)) ++ [(g, s)]) := by
    rw [List.perm_ext_iff_of_nodup nd ?_]
    · intro e
      rw [List.mem_append, List.mem_filter, List.mem_singleton]
      constructor
      · intro he
        by_cases q : e.1 = g
        · exact Or.inr (I.same1 he hg q)
        · exact Or.inl ⟨he, decide_eq_true q⟩
      · rintro (⟨he, _⟩ | rfl)
        · exact he
        · exact hg
    · rw [List.nodup_append]
      refine ⟨nd.sublist List.filter_sublist, List.pairwise_singleton _ _, fun x hx y hy e => ?_⟩
      rw [List.mem_singleton] at hy
      subst hy; subst e
      exact of_decide_eq_true (List.mem_filter.mp hx).2 rfl
  have F1 : Forest n (keL os ((ss.filter fun e => decide (e.1 ≠ g)) ++ [(g, s)])) := F.perm (pm.map _) I.keB
  have ee : keL os ((ss.filter fun e => decide (e.1 ≠ g)) ++ [(g, s)]) = keL os (ss.filter fun e => decide (e.1 ≠ g)) ++ [kEdge (atE os g)] := by
    unfold keL
    rw [List.map_append]; rfl
  rw [ee] at F1
  have o := I.at hg
  have F2 := (Forest.snoc (fun f hf => I.keB f (((List.filter_sublist (p := fun e => decide (e.1 ≠ g)) (l := ss)).map _).subset hf)) o.1 o.2.1).mp F1
  refine ⟨F2.1, fun q => F2.2 ?_⟩
  rw [ed_eq]
  exact q.mono fun x y ⟨e, he, hp, h⟩ => ⟨e, List.mem_filter.mpr ⟨he, decide_eq_true fun q => hp (I.same1 he hg q)⟩, trivial, h⟩
theorem way_F {c : C} {G : Nat → Nat → Prop} {a b : Nat} (F : Fo c G) (ha : a < c.n) (hb : b < c.n) (hab : Cg G a b) (hn : c.n < 10000) (hs : c.steps + 4 * Ld c.n + c.n + 10 < 16000000) :
    ∃ (c' : C) (l : Tr) (par : Nat → Option Nat) (us : List Tr), OpenWay c a b c' ∧ OpenF c' G a b l par us ∧ c'.worth = c.worth ∧ c'.n = c.n ∧ c'.steps ≤ c.steps + 4 * Ld c.n := by
  obtain ⟨c1, hj, F1, jb, w1, n1, s1⟩ := joined_F F ha hb hn (by omega)
  obtain ⟨c2, l, par, us, ho, O, w2, n2, s2⟩ := opened_F F1 (by rw [n1]; exact ha) (by rw [n1]; exact hb) hab (by rw [n1]; exact hn) (by rw [n1]; omega)
  exact ⟨c2, l, par, us, ⟨c1, hj, jb.mpr hab, ho⟩, O, w2.trans w1, n2.trans n1, by rw [n1] at s2; omega⟩
theorem Ld103 : Ld 103 = 5667 := by decide +kernel
theorem St.next {n : Nat} {os : List (Nat × Nat × Int)} {ss : List (Nat × Nat)} {c c' : C} (S : St n os ss c) (F : Fo c' (SG os ss)) (hw : c'.worth = c.worth) (hn : c'.n = c.n) : St n os ss c' :=
  ⟨F, by rw [hn]; exact S.cn, fun x hx => by rw [hw]; exact S.wp x hx, fun e he => by rw [hw, hn]; exact S.sp e he⟩
theorem Pt.thr_snoc {n : Nat} {os : List (Nat × Nat × Int)} {ss : List (Nat × Nat)} {o : Nat × Nat × Int} (I : Pt n os ss) {w : Int} {x y : Nat} (h : Cg (ES os ss fun e => (atE os e.1).2.2 ≤ w) x y) : Cg (ES (os ++ [o]) ss fun e => (atE (os ++ [o]) e.1).2.2 ≤ w) x y :=
  h.mono fun x y ⟨e, he, hp, q⟩ => ⟨e, he, by show (atE (os ++ [o]) e.1).2.2 ≤ w; rw [atE_app (I.ix e he)]; exact hp, by rw [atE_app (I.ix e he)]; exact q⟩
theorem all_thr {os : List (Nat × Nat × Int)} {ss ss' : List (Nat × Nat)} {o : Nat × Nat × Int} (thr : ∀ k, k < os.length → Cg (ES os ss fun e => (atE os e.1).2.2 ≤ (atE os k).2.2) (atE os k).1 (atE os k).2.1)
    (h1 : ∀ w x y, Cg (ES os ss fun e => (atE os e.1).2.2 ≤ w) x y → Cg (ES (os ++ [o]) ss' fun e => (atE (os ++ [o]) e.1).2.2 ≤ w) x y) (h2 : Cg (ES (os ++ [o]) ss' fun e => (atE (os ++ [o]) e.1).2.2 ≤ o.2.2) o.1 o.2.1) :
    ∀ k, k < (os ++ [o]).length → Cg (ES (os ++ [o]) ss' fun e => (atE (os ++ [o]) e.1).2.2 ≤ (atE (os ++ [o]) k).2.2) (atE (os ++ [o]) k).1 (atE (os ++ [o]) k).2.1 := fun k hk => by
  by_cases q : k < os.length
  · rw [atE_app q]
    exact h1 _ _ _ (thr k q)
  · have : k = os.length := by rw [List.length_append, List.length_singleton] at hk; omega
    have e : atE (os ++ [o]) k = o := atE_of (by rw [this]; simp)
    rw [e]; exact h2
theorem offer_F {n : Nat} {os : List (Nat × Nat × Int)} {ss : List (Nat × Nat)} {c : C} {a b : Nat} {z : Int} (I : LInv n os ss c) (ha : a < n) (hb : b < n) (hz : 0 ≤ z) (hn : n ≤ 40) (hl : os.length < 63) :
    ∃ (ss' : List (Nat × Nat)) (c' : C), Offered ⟨n, os, ss, c⟩ a b z ⟨n, os ++ [(a, b, z)], ss', c'⟩ ∧ LInv n (os ++ [(a, b, z)]) ss' c' := by
  have cn := I.cn
  have cn0 := I.st.cn
  have sl := I.sl
  have LM : Ld c.n ≤ Ld 103 := Ld_mono (by omega)
  have LV := Ld103
  have stp := I.steps
  rw [LV] at stp
  have stq : os.length * (19 * 5667) ≤ 62 * (19 * 5667) := Nat.mul_le_mul_right _ (by omega)
  obtain ⟨c1, hj, F1, jb, w1, n1, s1⟩ := joined_F I.st.fo (a := a) (b := b) (by omega) (by omega) (by omega) (by omega)
  have hg : (os ++ [(a, b, z)])[os.length]? = some (a, b, z) := by simp
  have P' : Pt n (os ++ [(a, b, z)]) ss := I.pt.snoc ⟨ha, hb, hz⟩
  have S1 : St n os ss c1 := I.st.next F1 w1 n1
  have nin : ∀ {tt : List (Nat × Nat)}, (∀ e ∈ tt, e ∈ ss) → os.length ∉ tt.map (·.1) := fun {tt} h q => by
    obtain ⟨e, he, q⟩ := List.mem_map.mp q
    have := I.pt.ix e (h e he)
    have q' : e.1 = os.length := q
    omega
  have hlen : (os ++ [(a, b, z)]).length = os.length + 1 := by rw [List.length_append, List.length_singleton]
  have hmul : (os.length + 1) * (19 * 5667) = os.length * (19 * 5667) + 19 * 5667 := Nat.succ_mul _ _
  by_cases h : Cg (SG os ss) a b
  · -- joined
    obtain ⟨c2, l, par, us, ho, O, w2, n2, s2⟩ := way_F F1 (by rw [n1]; omega) (by rw [n1]; omega) h (by rw [n1]; omega) (by rw [n1]; omega)
    obtain ⟨c3, x, hf, F3, hx, hwx, hmax, w3, n3, s3⟩ := first_F O (by rw [n2, n1]; omega) (by rw [n2, n1]; rw [n1] at s2; omega)
    have W := O.way
    have S3 : St n os ss c3 := S1.next F3 (w3.trans w2) (n3.trans n2)
    have hst3 : c3.steps ≤ c.steps + 6 * Ld 103 + 103 := by rw [n1] at s2; rw [n2, n1] at s3; omega
    have hn3 : c3.n = c.n := by omega
    have hworth : c2.worth = c.worth := w2.trans w1
    have hmx : ∀ e ∈ ss, e.2 ∈ l.els ++ [b] → (atE os e.1).2.2 ≤ c2.most b := fun e he hm => by
      have := hmax.1 _ hm
      rw [hworth, (I.st.sp e he).2] at this
      exact this
    by_cases hc : c2.most b ≤ z
    · refine ⟨ss, c3, ⟨ha, hb, hz, by show os.length < 1000; omega, c1, hj, Or.inr ⟨jb.mpr h, c2, c3, x, ho, hf, Or.inl ⟨hc, rfl⟩⟩⟩, P', S3.snoc I.pt, by rw [I.pt.es_snoc]; exact I.fo, all_thr I.thr (fun w x y => I.pt.thr_snoc) (I.pt.thr_snoc (I.pt.way_cg W ha hb fun e he hm => Int.le_trans (hmx e he hm) hc)), by omega, by omega, by rw [LV, hlen, hmul]; omega⟩
    · have hxn : n ≤ x := by
        apply Classical.byContradiction
        intro q
        have := I.st.wp x (by omega)
        rw [hworth] at hwx
        omega
      obtain ⟨g, hgs⟩ := I.pt.spot_of W ha hx hxn
      have hpg : (atE os g).2.2 = c2.most b := by
        rw [← hwx, hworth]
        exact ((I.st.sp _ hgs).2).symm
      have hgl : g < os.length := I.pt.ix _ hgs
      have hga : (os ++ [(a, b, z)])[g]? = some ((atE os g).1, (atE os g).2.1, (atE os g).2.2) := by
        rw [List.getElem?_append_left hgl]
        exact atE_get hgl
      obtain ⟨c4, hlg, P4, S4, n4, s4⟩ := letgo_F P' (S3.snoc I.pt) hga hgs (by omega) (by omega)
      have sub : ∀ e ∈ ss.filter (fun e => decide (e.1 ≠ g)), e ∈ ss := fun e he => (List.mem_filter.mp he).1
      have fl : (ss.filter fun e => decide (e.1 ≠ g)).length ≤ ss.length := List.length_filter_le _ _
      have es4 : keL (os ++ [(a, b, z)]) (ss.filter fun e => decide (e.1 ≠ g)) = keL os (ss.filter fun e => decide (e.1 ≠ g)) := List.map_congr_left fun e he => by rw [atE_app (I.pt.ix e (sub e he))]
      have hnc : ¬ Cg (Ed (keL os (ss.filter fun e => decide (e.1 ≠ g)))) a b := fun q => by
        rw [ed_eq] at q
        have q' : Cg (ES os ss fun e => e ≠ (g, x)) a b := q.mono fun u v ⟨e, he, _, k⟩ => ⟨e, sub e he, fun q => by
          have := of_decide_eq_true (List.mem_filter.mp he).2
          rw [q] at this
          exact this rfl, k⟩
        obtain ⟨v, v', hv, g1, g2⟩ := I.pt.halves W ha hb hgs hx
        have lift : ∀ {u v}, Cg (ES os ss fun e => e.2 ∈ l.els ++ [b] ∧ e ≠ (g, x)) u v → Cg (ES os ss fun e => e ≠ (g, x)) u v := fun q => q.mono (ES.mono fun e _ h => h.2)
        have vv := (((lift g1).symm ES.symm).trans q').trans (lift g2)
        have no := (I.pt.split I.fo hgs).2
        rcases hv with ⟨h1, h2⟩ | ⟨h1, h2⟩ <;> rw [h1, h2] at vv
        · exact no vv
        · exact no (vv.symm ES.symm)
      have hnc4 : ¬ Cg (SG (os ++ [(a, b, z)]) (ss.filter fun e => decide (e.1 ≠ g))) a b := fun q => hnc (by rw [← es4]; exact (P4.cgE ha hb).mp q)
      obtain ⟨c5, hk, P5, S5, n5, s5⟩ := keepone_F P4 S4 hg (nin sub) (by omega) hnc4 (by omega) (by omega)
      refine ⟨_, c5, ⟨ha, hb, hz, by show os.length < 1000; omega, c1, hj, Or.inr ⟨jb.mpr h, c2, c3, x, ho, hf, Or.inr ⟨by omega, g, _, hgs, I.pt.nd2, hlg, hk⟩⟩⟩, P5, S5, ?_, ?_, by omega, by rw [List.length_append, List.length_singleton, hlen]; omega, by rw [LV, hlen, hmul]; omega⟩
      · have ee : ∀ tt : List (Nat × Nat), keL (os ++ [(a, b, z)]) (tt ++ [(os.length, c4.n)]) = keL (os ++ [(a, b, z)]) tt ++ [kEdge (a, b, z)] := fun tt => by
          unfold keL
          rw [List.map_append]
          show _ ++ [kEdge (atE (os ++ [(a, b, z)]) os.length)] = _
          rw [atE_of hg]
        rw [ee, es4]
        exact (Forest.snoc (fun f hf => I.pt.keB f (((List.filter_sublist (p := fun e => decide (e.1 ≠ g)) (l := ss)).map _).subset hf)) ha hb).mpr ⟨(I.pt.split I.fo hgs).1, hnc⟩
      · refine all_thr I.thr (fun w u v q => P'.swap_thr (t := c4.n) (m := os.length) (xs := l.els ++ [b]) (a := a) (b := b) (g := g) (s := x) ⟨W.nd, fun u v q => (I.pt.sg_snoc u v).mp (W.con u v q), W.hd, W.la⟩ ha hb hgs hx (by rw [atE_of hg, atE_app hgl]; exact ⟨rfl, rfl, by show z ≤ _; omega⟩) (fun e he hm => by rw [atE_app hgl, atE_app (I.pt.ix e he), hpg]; exact hmx e he hm) (I.pt.thr_snoc q)) (Cg.one ⟨_, List.mem_append_right _ List.mem_cons_self, ?_, Or.inl ?_⟩)
        · show (atE _ os.length).2.2 ≤ _
          rw [atE_of hg]; exact Int.le_refl _
        · show a = (atE _ os.length).1 ∧ b = (atE _ os.length).2.1
          rw [atE_of hg]; exact ⟨rfl, rfl⟩
  · have hjf : joinedB c1 a b = false := by
      cases q : joinedB c1 a b with
      | false => rfl
      | true => exact absurd (jb.mp q) h
    have hnc : ¬ Cg (SG (os ++ [(a, b, z)]) ss) a b := fun q => h (q.mono fun u v k => (I.pt.sg_snoc u v).mpr k)
    obtain ⟨c5, hk, P5, S5, n5, s5⟩ := keepone_F P' (S1.snoc I.pt) hg (nin fun e he => he) (by omega) hnc (by omega) (by omega)
    refine ⟨_, c5, ⟨ha, hb, hz, by show os.length < 1000; omega, c1, hj, Or.inl ⟨hjf, hk⟩⟩, P5, S5, ?_, ?_, by omega, by rw [List.length_append, List.length_singleton, hlen]; omega, by rw [LV, hlen, hmul]; omega⟩
    · have ee : keL (os ++ [(a, b, z)]) (ss ++ [(os.length, c1.n)]) = keL (os ++ [(a, b, z)]) ss ++ [kEdge (a, b, z)] := by
        unfold keL
        rw [List.map_append]
        show _ ++ [kEdge (atE (os ++ [(a, b, z)]) os.length)] = _
        rw [atE_of hg]
      rw [ee, I.pt.es_snoc]
      exact (Forest.snoc I.pt.keB ha hb).mpr ⟨I.fo, fun q => h ((I.pt.cgE ha hb).mpr q)⟩
    · refine all_thr I.thr (fun w u v q => (I.pt.thr_snoc q).mono fun u v ⟨e, he, k⟩ => ⟨e, List.mem_append_left _ he, k⟩) (Cg.one ⟨_, List.mem_append_right _ List.mem_cons_self, ?_, Or.inl ?_⟩)
      · show (atE _ os.length).2.2 ≤ _
        rw [atE_of hg]; exact Int.le_refl _
      · show a = (atE _ os.length).1 ∧ b = (atE _ os.length).2.1
        rw [atE_of hg]; exact ⟨rfl, rfl⟩
theorem linv0 (n : Nat) : LInv n [] [] (bare n) where
  pt := ⟨(fun e h => by cases h), (fun e h => by cases h), (fun e h => by cases h), List.Pairwise.nil, List.Pairwise.nil, (fun o h => by cases h)⟩
  st := ⟨(bare_F n).congr fun x y => ⟨fun h => h.elim, (fun ⟨e, h, _⟩ => by cases h)⟩, by rw [bare_n]; exact Nat.le_refl _, bare_worth n, (fun e h => by cases h)⟩
  fo := rfl
  thr k h := by cases h
  cn := by rw [bare_n]; exact Nat.le_refl _
  sl := Nat.le_refl _
  steps := by rw [bare_steps]; exact Nat.zero_le _
theorem offers_F {n : Nat} (hn : n ≤ 40) : ∀ (ps os : List (Nat × Nat × Int)) (ss : List (Nat × Nat)) (c : C), LInv n os ss c → (∀ o ∈ ps, o.1 < n ∧ o.2.1 < n ∧ 0 ≤ o.2.2) → os.length + ps.length ≤ 63 →
    ∃ (ss' : List (Nat × Nat)) (c' : C), Offereds ⟨n, os, ss, c⟩ ps ⟨n, os ++ ps, ss', c'⟩ ∧ LInv n (os ++ ps) ss' c'
  | [], os, ss, c, I, _, _ => ⟨ss, c, by rw [List.append_nil]; exact .nil, by rw [List.append_nil]; exact I⟩
  | o :: ps, os, ss, c, I, h, hl => by
    obtain ⟨o1, o2, o3⟩ := h o List.mem_cons_self
    rw [List.length_cons] at hl
    obtain ⟨ss1, c1, h1, I1⟩ := offer_F I o1 o2 o3 hn (by omega)
    obtain ⟨ss', c', h2, I2⟩ := offers_F hn ps (os ++ [o]) ss1 c1 I1 (fun o' q => h o' (List.mem_cons_of_mem _ q)) (by rw [List.length_append, List.length_singleton]; omega)
    rw [List.append_assoc] at h2 I2
    exact ⟨ss', c', .cons h1 h2, I2⟩
/-! ### plain law 2: the price -/
theorem LInv.krus {n : Nat} {os : List (Nat × Nat × Int)} {ss : List (Nat × Nat)} {c : C} (I : LInv n os ss c) {es fs : List (Int × Nat × Nat)} (he : es.Perm (os.map kEdge)) (hf : fs.Perm (keL os ss)) (se : es.Pairwise (fun e f => e.1 ≤ f.1)) (sf : fs.Pairwise (fun e f => e.1 ≤ f.1)) : kruskal n es = kruskal n fs := by
  have be : ∀ e ∈ es, e.2.1 < n ∧ e.2.2 < n := fun e q => by
    obtain ⟨o, ho, rfl⟩ := List.mem_map.mp (he.mem_iff.mp q)
    have := I.pt.off o ho
    exact ⟨this.1, this.2.1⟩
  have bf : ∀ e ∈ fs, e.2.1 < n ∧ e.2.2 < n := fun e q => I.pt.keB e (hf.mem_iff.mp q)
  refine kruskal_eq be bf se sf fun w x y _ _ => ?_
  unfold leW
  rw [Ed_perm (he.filter fun e => decide (e.1 ≤ w)), Ed_perm (hf.filter fun e => decide (e.1 ≤ w))]
  constructor
  · refine Cg.map fun x y ⟨e, he, h⟩ => ?_
    obtain ⟨h1, h2⟩ := List.mem_filter.mp he
    obtain ⟨o, ho, rfl⟩ := List.mem_map.mp h1
    obtain ⟨k, hk, rfl⟩ := List.getElem_of_mem ho
    have ek : atE os k = os[k] := atE_of (List.getElem?_eq_getElem hk)
    have := I.thr k hk
    rw [ek] at this
    have key : Cg (Ed (leW w (keL os ss))) os[k].1 os[k].2.1 := this.mono fun u v q => ed_le.mpr (ES.mono (fun e _ q => Int.le_trans q (of_decide_eq_true h2)) u v q)
    rcases h with ⟨h3, h4⟩ | ⟨h3, h4⟩
    · rw [h3, h4]; exact key
    · rw [h3, h4]; exact key.symm Ed.symm
  · refine Cg.mono fun x y ⟨e, he, h⟩ => ⟨e, ?_, h⟩
    obtain ⟨h1, h2⟩ := List.mem_filter.mp he
    obtain ⟨f, hf, rfl⟩ := List.mem_map.mp h1
    exact List.mem_filter.mpr ⟨List.mem_map.mpr ⟨_, atE_mem (I.pt.ix f hf), rfl⟩, h2⟩
theorem sortE (es : List (Int × Nat × Nat)) : ∃ fs : List (Int × Nat × Nat), fs.Perm es ∧ fs.Pairwise (fun e f => e.1 ≤ f.1) := by
  refine ⟨es.mergeSort fun e f => decide (e.1 ≤ f.1), List.mergeSort_perm _ _, ?_⟩
  have := List.pairwise_mergeSort (le := fun e f : Int × Nat × Nat => decide (e.1 ≤ f.1)) (fun a b c h1 h2 => by simp at *; omega) (fun a b => by simp; omega) es
  exact this.imp fun h => of_decide_eq_true h
theorem perm_sumI {xs ys : List Int} (h : xs.Perm ys) : xs.sum = ys.sum := by
  induction h with
  | nil => rfl
  | cons x _ ih => rw [List.sum_cons, List.sum_cons, ih]
  | swap x y l => simp only [List.sum_cons]; omega
  | trans _ _ h1 h2 => exact h1.trans h2
theorem zAt_at {os : List (Nat × Nat × Int)} {k : Nat} (h : k < os.length) : zAt os k = (atE os k).2.2 := by
  unfold zAt
  rw [atE_get h]; rfl
theorem LInv.price {n : Nat} {os : List (Nat × Nat × Int)} {ss : List (Nat × Nat)} {c : C} (I : LInv n os ss c) {es : List (Int × Nat × Nat)} (he : es.Perm (os.map kEdge)) (se : es.Pairwise (fun e f => e.1 ≤ f.1)) : (kruskal n es).1 = priceOf ⟨n, os, ss, c⟩ := by
  obtain ⟨fs, hf, sf⟩ := sortE (keL os ss)
  rw [I.krus he hf se sf, (I.fo.perm hf.symm I.pt.keB).sum, perm_sumI (hf.map (·.1))]
  unfold priceOf keL
  rw [List.map_map]
  congr 1
  exact List.map_congr_left fun e q => (zAt_at (I.pt.ix e q)).symm
end K73
end
section
set_option maxHeartbeats 4000000
namespace K73
/-! ### plain law 2: the paper -/
theorem num_mem {ss : List (Nat × Nat)} {x g : Nat} (h : numO ss x = some g) : (g, x) ∈ ss := by
  unfold numO at h
  rw [Option.map_eq_some_iff] at h
  obtain ⟨e, h1, h2⟩ := h
  have hp := List.find?_some h1
  have hm := List.mem_of_find?_eq_some h1
  obtain ⟨f, hf, rfl⟩ := List.mem_map.mp hm
  have h3 : f.2 = x := of_decide_eq_true hp
  have h4 : f.1 = g := h2
  rw [← h3, ← h4]
  exact hf
theorem Pt.num {n : Nat} {os : List (Nat × Nat × Int)} {ss : List (Nat × Nat)} (I : Pt n os ss) {x g : Nat} (h : (g, x) ∈ ss) : numO ss x = some g := by
  cases q : numO ss x with
  | none =>
    unfold numO at q
    rw [Option.map_eq_none_iff, List.find?_eq_none] at q
    exact absurd (decide_eq_true rfl) (q (x, g) (List.mem_map.mpr ⟨_, h, rfl⟩))
  | some g' => exact congrArg (fun e : Nat × Nat => some e.1) (I.same2 (num_mem q) h rfl)
theorem Pt.num_lt {n : Nat} {os : List (Nat × Nat × Int)} {ss : List (Nat × Nat)} (I : Pt n os ss) {x : Nat} (h : x < n) : numO ss x = none := by
  cases q : numO ss x with
  | none => rfl
  | some g =>
    have : n ≤ x := I.lo _ (num_mem q)
    omega
theorem wn_none {ss : List (Nat × Nat)} {x : Nat} {xs : List Nat} (h : numO ss x = none) : wayNums ss (x :: xs) = wayNums ss xs := by
  unfold wayNums
  rw [List.filter_cons_of_neg (by rw [h]; decide)]
theorem wn_some {ss : List (Nat × Nat)} {x g : Nat} {xs : List Nat} (h : numO ss x = some g) : wayNums ss (x :: xs) = g :: wayNums ss xs := by
  unfold wayNums
  rw [List.filter_cons_of_pos (by rw [h]; rfl), List.map_cons, h]; rfl
theorem wn_mem {ss : List (Nat × Nat)} {g : Nat} {xs : List Nat} (h : g ∈ wayNums ss xs) : ∃ x ∈ xs, (g, x) ∈ ss := by
  unfold wayNums at h
  obtain ⟨x, hx, h2⟩ := List.mem_map.mp h
  obtain ⟨h3, h4⟩ := List.mem_filter.mp hx
  refine ⟨x, h3, ?_⟩
  cases q : numO ss x with
  | none => rw [q] at h4; cases h4
  | some g' =>
    rw [q] at h2
    have : g' = g := h2
    subst this
    exact num_mem q
theorem wn_len (ss : List (Nat × Nat)) (xs : List Nat) : (wayNums ss xs).length ≤ xs.length := by
  unfold wayNums
  rw [List.length_map]
  exact List.length_filter_le _ _
theorem Pt.wn_nd {n : Nat} {os : List (Nat × Nat × Int)} {ss : List (Nat × Nat)} (I : Pt n os ss) : ∀ (xs : List Nat), xs.Nodup → (wayNums ss xs).Nodup
  | [], _ => List.Pairwise.nil
  | x :: xs, h => by
    rw [List.nodup_cons] at h
    have ih := I.wn_nd xs h.2
    cases q : numO ss x with
    | none => rw [wn_none q]; exact ih
    | some g =>
      rw [wn_some q, List.nodup_cons]
      refine ⟨fun hm => ?_, ih⟩
      obtain ⟨x', h1, h2⟩ := wn_mem hm
      have e : (g, x') = (g, x) := I.same1 h2 (num_mem q) rfl
      injection e with _ e
      rw [e] at h1
      exact h.1 h1
theorem Pt.wsteps {n : Nat} {os : List (Nat × Nat × Int)} {ss : List (Nat × Nat)} (I : Pt n os ss) {b : Nat} (hb : b < n) : ∀ (xs : List Nat) (v : Nat), v < n → (v :: xs).Nodup → (∀ z y, Con (v :: xs) z y → SG os ss z y) → (∃ r, v :: xs = r ++ [b]) → Steps os v (wayNums ss (v :: xs)) b
  | [], v, hv, _, _, hl => by
    obtain ⟨r, hr⟩ := hl
    have : v = b := by
      cases r with
      | nil => injection hr
      | cons x r =>
        injection hr with _ h
        have := congrArg List.length h
        simp at this
    subst this
    rw [wn_none (I.num_lt hv)]
    exact .nil
  | [s], v, hv, _, hc, hl => by
    exfalso
    obtain ⟨r, hr⟩ := hl
    have hs : s = b := by
      have := congrArg List.getLast? hr
      rw [List.getLast?_append] at this
      simpa using this
    obtain ⟨e, he, h⟩ := hc v s ⟨[], [], rfl⟩
    have := I.lo e he
    rcases h with h | h | h | h <;> omega
  | s :: v' :: xs, v, hv, nd, hc, hl => by
    obtain ⟨e, he, h⟩ := hc v s ⟨[], v' :: xs, rfl⟩
    obtain ⟨e', he', h'⟩ := hc s v' ⟨[v], xs, rfl⟩
    have lo := I.lo e he
    have lo' := I.lo e' he'
    have o := I.at he
    have o' := I.at he'
    have es : s = e.2 := by
      rcases h with h | h | h | h
      · exact h.2
      · omega
      · omega
      · exact h.2
    have es' : s = e'.2 := by
      rcases h' with h | h | h | h
      · omega
      · exact h.1
      · exact h.1
      · omega
    have ee : e' = e := I.same2 he' he (by rw [← es, ← es'])
    subst ee
    have ne : v ≠ v' := fun q => by
      rw [List.nodup_cons] at nd
      exact nd.1 (by rw [q]; simp)
    have v1 : v = (atE os e'.1).1 ∨ v = (atE os e'.1).2.1 := by
      rcases h with h | h | h | h
      · exact Or.inl h.1
      · omega
      · omega
      · exact Or.inr h.1
    have v2 : v' = (atE os e'.1).1 ∨ v' = (atE os e'.1).2.1 := by
      rcases h' with h | h | h | h
      · omega
      · exact Or.inl h.2
      · exact Or.inr h.2
      · omega
    have hv' : v' < n := by
      rcases v2 with q | q <;> rw [q]
      · exact o.1
      · exact o.2.1
    have hnum : numO ss s = some e'.1 := I.num (by rw [es]; exact he)
    rw [wn_none (I.num_lt hv), wn_some hnum]
    refine .cons (a' := v') (atE_get (I.ix e' he)) ?_ (I.wsteps hb xs v' hv' (by rw [List.nodup_cons, List.nodup_cons] at nd; exact nd.2.2) (fun z y q => hc z y q.cons.cons) ?_)
    · rcases v1 with q | q <;> rcases v2 with q' | q'
      · exact absurd (q.trans q'.symm) ne
      · exact Or.inl ⟨q, q'⟩
      · exact Or.inr ⟨q, q'⟩
      · exact absurd (q.trans q'.symm) ne
    · obtain ⟨r, hr⟩ := hl
      cases r with
      | nil => injection hr with _ h; cases h
      | cons x r =>
        injection hr with _ hr
        cases r with
        | nil => injection hr with _ h; cases h
        | cons y r => injection hr with _ hr; exact ⟨r, hr⟩
/-! ### ways are unique -/
def EK (os : List (Nat × Nat × Int)) (P : Nat → Prop) (x y : Nat) : Prop := ∃ k, P k ∧ ((x = (atE os k).1 ∧ y = (atE os k).2.1) ∨ (x = (atE os k).2.1 ∧ y = (atE os k).1))
theorem EK.symm {os : List (Nat × Nat × Int)} {P : Nat → Prop} : ∀ x y, EK os P x y → EK os P y x := fun x y ⟨e, h2, h⟩ => ⟨e, h2, h.elim (fun q => Or.inr ⟨q.2, q.1⟩) fun q => Or.inl ⟨q.2, q.1⟩⟩
theorem steps_cg {os : List (Nat × Nat × Int)} {P : Nat → Prop} {x y : Nat} {us : List Nat} (h : Steps os x us y) : (∀ u ∈ us, P u) → Cg (EK os P) x y := by
  induction h with
  | nil => intro _; exact .refl _
  | @cons a a' b m x y z ns h1 h2 _ ih =>
    intro hp
    have e := atE_of h1
    refine (Cg.one ⟨m, hp m List.mem_cons_self, ?_⟩).trans (ih fun u hu => hp u (List.mem_cons_of_mem _ hu))
    rw [e]
    exact h2
theorem steps_app {os : List (Nat × Nat × Int)} : ∀ (us vs : List Nat) (a b : Nat), Steps os a (us ++ vs) b → ∃ y, Steps os a us y ∧ Steps os y vs b
  | [], vs, a, b, h => ⟨a, .nil, h⟩
  | u :: us, vs, a, b, h => by
    cases h with
    | cons h1 h2 h3 =>
      obtain ⟨y, q1, q2⟩ := steps_app us vs _ b h3
      exact ⟨y, .cons h1 h2 q1, q2⟩
def Br (os : List (Nat × Nat × Int)) (K : Nat → Prop) : Prop := ∀ g, K g → ¬ Cg (EK os fun k => K k ∧ k ≠ g) (atE os g).1 (atE os g).2.1
theorem Br.no {os : List (Nat × Nat × Int)} {K : Nat → Prop} (B : Br os K) {a b : Nat} {g : Nat} {us : List Nat} (hg : K g) (hu : ∀ u ∈ us, K u) (hn : g ∉ us) (he : (a = (atE os g).1 ∧ b = (atE os g).2.1) ∨ (a = (atE os g).2.1 ∧ b = (atE os g).1)) (h : Steps os b us a) : False := by
  have c := steps_cg (P := fun k => K k ∧ k ≠ g) h fun u q => ⟨hu u q, fun e => hn (by rw [← e]; exact q)⟩
  rcases he with ⟨h1, h2⟩ | ⟨h1, h2⟩ <;> rw [h1, h2] at c
  · exact B g hg (c.symm EK.symm)
  · exact B g hg c
theorem Br.uniq {os : List (Nat × Nat × Int)} {K : Nat → Prop} (B : Br os K) {b : Nat} : ∀ (us us' : List Nat) (a : Nat), Steps os a us b → Steps os a us' b → us.Nodup → us'.Nodup → (∀ u ∈ us, K u) → (∀ u ∈ us', K u) → us = us'
  | [], [], _, _, _, _, _, _, _ => rfl
  | [], g :: t, a, h, h', _, nd, _, hk => by
    exfalso
    cases h
    rw [List.nodup_cons] at nd
    cases h' with
    | cons h1 h2 h3 => exact B.no (hk g List.mem_cons_self) (fun u q => hk u (List.mem_cons_of_mem _ q)) nd.1 (by rw [atE_of h1]; exact h2) h3
  | g :: t, [], a, h', h, nd, _, hk, _ => by
    exfalso
    cases h
    rw [List.nodup_cons] at nd
    cases h' with
    | cons h1 h2 h3 => exact B.no (hk g List.mem_cons_self) (fun u q => hk u (List.mem_cons_of_mem _ q)) nd.1 (by rw [atE_of h1]; exact h2) h3
  | g :: t, g' :: t', a, h, h', nd, nd', hk, hk' => by
    rw [List.nodup_cons] at nd nd'
    cases h with
    | @cons _ a1 _ _ x y z _ h1 h2 h3 =>
      cases h' with
      | @cons _ a2 _ _ x' y' z' _ h1' h2' h3' =>
        have hkg := hk g List.mem_cons_self
        have hkg' := hk' g' List.mem_cons_self
        have hkt : ∀ u ∈ t, K u := fun u q => hk u (List.mem_cons_of_mem _ q)
        have hkt' : ∀ u ∈ t', K u := fun u q => hk' u (List.mem_cons_of_mem _ q)
        have e1 := atE_of h1
        have e1' := atE_of h1'
        by_cases q : g = g'
        · subst q
          rw [h1] at h1'
          injection h1' with h1'
          injection h1' with i1 i2
          injection i2 with i2 i3
          have ea : a1 = a2 := by omega
          subst ea
          rw [B.uniq t t' a1 h3 h3' nd.2 nd'.2 hkt hkt']
        · exfalso
          have ends : (a = (atE os g).1 ∧ a1 = (atE os g).2.1) ∨ (a = (atE os g).2.1 ∧ a1 = (atE os g).1) := by rw [e1]; exact h2
          have ends' : (a = (atE os g').1 ∧ a2 = (atE os g').2.1) ∨ (a = (atE os g').2.1 ∧ a2 = (atE os g').1) := by rw [e1']; exact h2'
          have c1 : Cg (EK os fun k => K k ∧ k ≠ g) a1 b := steps_cg h3 fun u q => ⟨hkt u q, fun e => nd.1 (by rw [← e]; exact q)⟩
          have noc : ¬ Cg (EK os fun k => K k ∧ k ≠ g) a a1 := fun c => by
            rcases ends with ⟨j1, j2⟩ | ⟨j1, j2⟩ <;> rw [j1, j2] at c
            · exact B g hkg c
            · exact B g hkg (c.symm EK.symm)
          by_cases hm : g ∈ t'
          · obtain ⟨u, v, rfl⟩ := List.append_of_mem hm
            obtain ⟨y1, q1, q2⟩ := steps_app u (g :: v) _ _ h3'
            have gu : g ∉ u := fun q => by
              have := (List.nodup_append.mp nd'.2).2.2 g q g List.mem_cons_self
              exact this rfl
            have c2 : Cg (EK os fun k => K k ∧ k ≠ g) a2 y1 := steps_cg q1 fun w q => ⟨hkt' w (List.mem_append_left _ q), fun e => gu (by rw [← e]; exact q)⟩
            have c3 : Cg (EK os fun k => K k ∧ k ≠ g) a a2 := Cg.one ⟨g', ⟨hkg', fun e => q e.symm⟩, ends'⟩
            cases q2 with
            | @cons _ y2 _ _ x2 x3 z2 _ j1 j2 j3 =>
              rw [h1] at j1
              injection j1 with j1
              injection j1 with i1 i2
              injection i2 with i2 i3
              have : y1 = a ∨ y1 = a1 := by omega
              rcases this with e | e
              · subst e
                exact B.no hkg' (fun w q => hkt' w (List.mem_append_left _ q)) (fun q => nd'.1 (List.mem_append_left _ q)) ends' q1
              · subst e
                exact noc (c3.trans c2)
          · have c4 : Cg (EK os fun k => K k ∧ k ≠ g) a b := steps_cg (Steps.cons h1' h2' h3') fun u hu => by
              rcases List.mem_cons.mp hu with e | e
              · subst e; exact ⟨hkg', fun e => q e.symm⟩
              · exact ⟨hkt' u e, fun e' => hm (by rw [← e']; exact e)⟩
            exact noc (c4.trans (c1.symm EK.symm))
theorem LInv.br {n : Nat} {os : List (Nat × Nat × Int)} {ss : List (Nat × Nat)} {c : C} (I : LInv n os ss c) : Br os fun k => k ∈ ss.map (·.1) := fun g hg h => by
  obtain ⟨e, he, rfl⟩ := List.mem_map.mp hg
  refine (I.pt.split I.fo (g := e.1) (s := e.2) he).2 (h.mono fun x y ⟨k, ⟨h1, h2⟩, h3⟩ => ?_)
  obtain ⟨f, hf, rfl⟩ := List.mem_map.mp h1
  exact ⟨f, hf, fun q => h2 (by rw [q]), h3⟩
/-- a row of the paper -/
structure Rw (os : List (Nat × Nat × Int)) (ss : List (Nat × Nat)) (r : Nat × List Nat) : Prop where
  mem : ∀ x ∈ r.2, x ∈ ss.map (·.1)
  nd : r.2.Nodup
  len : r.2.length ≤ 1000
  lt : r.1 < os.length
  st : Steps os (atE os r.1).1 r.2 (atE os r.1).2.1
  dr : ∀ x ∈ r.2, (atE os x).2.2 ≤ (atE os r.1).2.2
theorem LInv.waynums {n : Nat} {os : List (Nat × Nat × Int)} {ss : List (Nat × Nat)} {c0 c : C} (I : LInv n os ss c0) (S : St n os ss c) (hn : c.n ≤ 103) {k : Nat} (hk : k < os.length) (hs : c.steps + 4 * Ld 103 + 120 < 16000000) :
    ∃ (ws : List Nat) (c' : C), WayNums ⟨n, os, ss, c⟩ k ws c' ∧ St n os ss c' ∧ c'.n = c.n ∧ c'.steps ≤ c.steps + 4 * Ld 103 ∧ Rw os ss (k, ws) := by
  have LM : Ld c.n ≤ Ld 103 := Ld_mono hn
  obtain ⟨o1, o2, o3⟩ := I.pt.off _ (atE_mem hk)
  have cn := S.cn
  have hab : Cg (SG os ss) (atE os k).1 (atE os k).2.1 := (I.pt.cg o1 o2).mpr ((I.thr k hk).mono (ES.mono fun _ _ _ => trivial))
  obtain ⟨c1, l, par, us, ho, O, w1, n1, s1⟩ := way_F S.fo (a := (atE os k).1) (b := (atE os k).2.1) (by omega) (by omega) hab (by omega) (by omega)
  obtain ⟨c2, hi, F2, w2, n2, s2⟩ := inorder_F O (by omega)
  have W := O.way
  have hlen : (l.els ++ [(atE os k).2.1]).length ≤ 103 := by
    have := O.rp.one
    have e : (Tr.node l (atE os k).2.1 .nil).els = l.els ++ [(atE os k).2.1] := rfl
    rw [e] at this
    omega
  obtain ⟨r, hr⟩ := W.hd
  refine ⟨wayNums ss (l.els ++ [(atE os k).2.1]), c2, ⟨_, _, _, l.els ++ [(atE os k).2.1], atE_get hk, ⟨c1, ho, Or.inl ⟨rfl, _, hi, rfl⟩⟩, by omega, rfl⟩, S.next F2 (w2.trans w1) (n2.trans n1), n2.trans n1, by omega, ?_⟩
  refine ⟨fun x hx => ?_, I.pt.wn_nd _ W.nd, by have := wn_len ss (l.els ++ [(atE os k).2.1]); show (wayNums _ _).length ≤ _; omega, hk, ?_, fun x hx => ?_⟩
  · obtain ⟨y, _, h⟩ := wn_mem hx
    exact List.mem_map.mpr ⟨_, h, rfl⟩
  · show Steps os _ (wayNums ss (l.els ++ [(atE os k).2.1])) _
    have nd := W.nd
    have con := W.con
    have la := W.la
    rw [hr] at nd con la ⊢
    exact I.pt.wsteps o2 r _ o1 nd con la
  · obtain ⟨y, hy, hm⟩ := wn_mem hx
    apply Classical.byContradiction
    intro hlt
    obtain ⟨v, v', hv, g1, g2⟩ := I.pt.halves W o1 o2 hm hy
    have lift : ∀ {x' y'}, Cg (ES os ss fun e => e.2 ∈ l.els ++ [(atE os k).2.1] ∧ e ≠ (x, y)) x' y' → Cg (ES os ss fun e => e ≠ (x, y)) x' y' := fun q => q.mono (ES.mono fun e _ h => h.2)
    have mid : Cg (ES os ss fun e => e ≠ (x, y)) (atE os k).1 (atE os k).2.1 := (I.thr k hk).mono (ES.mono fun e _ h (q : e = (x, y)) => hlt (by have h' : (atE os e.1).2.2 ≤ (atE os k).2.2 := h; rw [q] at h'; exact h'))
    have vv := (((lift g1).symm ES.symm).trans mid).trans (lift g2)
    have no := (I.pt.split I.fo hm).2
    rcases hv with ⟨h1, h2⟩ | ⟨h1, h2⟩ <;> rw [h1, h2] at vv
    · exact no vv
    · exact no (vv.symm ES.symm)
theorem LInv.paper {n : Nat} {os : List (Nat × Nat × Int)} {ss : List (Nat × Nat)} {c0 : C} (I : LInv n os ss c0) (c9 : C) : ∀ (ns : List Nat) (c : C), St n os ss c → c.n ≤ 103 → (∀ k ∈ ns, k < os.length) → c.steps + ns.length * (4 * Ld 103) + 120 < 16000000 →
    ∃ (rows : List (Nat × List Nat)) (c' : C), PaperR ⟨n, os, ss, c9⟩ c ns rows c' ∧ St n os ss c' ∧ c'.n = c.n ∧ c'.steps ≤ c.steps + ns.length * (4 * Ld 103) ∧ rows.map (·.1) = ns ∧ ∀ r ∈ rows, Rw os ss r
  | [], c, S, _, _, _ => ⟨[], c, .nil, S, rfl, by omega, rfl, fun r h => by cases h⟩
  | k :: ns, c, S, hn, hk, hs => by
    have em : (k :: ns).length * (4 * Ld 103) = ns.length * (4 * Ld 103) + 4 * Ld 103 := by rw [List.length_cons, Nat.succ_mul]
    rw [em] at hs ⊢
    obtain ⟨ws, c1, h1, S1, n1, s1, r1⟩ := I.waynums S hn (hk k List.mem_cons_self) (by omega)
    obtain ⟨rows, c', h2, S2, n2, s2, m2, r2⟩ := I.paper c9 ns c1 S1 (by omega) (fun k' h => hk k' (List.mem_cons_of_mem _ h)) (by omega)
    refine ⟨(k, ws) :: rows, c', .cons h1 h2, S2, n2.trans n1, by omega, by rw [List.map_cons, m2], fun r hr => ?_⟩
    rcases List.mem_cons.mp hr with q | q
    · rw [q]; exact r1
    · exact r2 r q
theorem LInv.rows {n : Nat} {os : List (Nat × Nat × Int)} {ss : List (Nat × Nat)} {c : C} (I : LInv n os ss c) : ∀ (rows rows' : List (Nat × List Nat)), rows.map (·.1) = rows'.map (·.1) → (∀ r ∈ rows, Rw os ss r) → (∀ r ∈ rows', Rw os ss r) → rows = rows'
  | [], [], _, _, _ => rfl
  | [], _ :: _, h, _, _ => by cases h
  | _ :: _, [], h, _, _ => by cases h
  | r :: rows, r' :: rows', h, h1, h2 => by
    rw [List.map_cons, List.map_cons] at h
    injection h with e1 e2
    have R := h1 r List.mem_cons_self
    have R' := h2 r' List.mem_cons_self
    have st' := R'.st
    rw [← e1] at st'
    have e : r.2 = r'.2 := I.br.uniq _ _ _ R.st st' R.nd R'.nd R.mem R'.mem
    rw [I.rows rows rows' e2 (fun q hq => h1 q (List.mem_cons_of_mem _ hq)) fun q hq => h2 q (List.mem_cons_of_mem _ hq), Prod.ext e1 e]
end K73
end
section
set_option maxHeartbeats 4000000
namespace K73
/-! ### plain law 2: what is shown -/
theorem RootR.is {up : List Nat} {k x r : Nat} (h : RootR up k x r) : up[r]? = some r := by
  induction h with
  | top h => exact h
  | go _ _ _ ih => exact ih
theorem RootR.set_ {up : List Nat} {k x r r1 r2 : Nat} (h1 : up[r1]? = some r1) (h2 : up[r2]? = some r2) (ne : r1 ≠ r2) (h : RootR up k x r) : ∃ k', RootR (up.set r1 r2) k' x (if r = r1 then r2 else r) := by
  have at_ : ∀ {y v : Nat}, y ≠ r1 → up[y]? = some v → (up.set r1 r2)[y]? = some v := fun {y v} q h => by
    rw [List.getElem?_set_ne (fun e => q e.symm)]; exact h
  have l1 : r1 < up.length := (List.getElem?_eq_some_iff.mp h1).1
  have one : (up.set r1 r2)[r1]? = some r2 := List.getElem?_set_self l1
  have two : RootR (up.set r1 r2) 0 r2 r2 := .top (at_ (fun e => ne e.symm) h2)
  induction h with
  | @top x h =>
    by_cases q : x = r1
    · subst q
      rw [if_pos rfl]
      exact ⟨1, .go one (fun e => ne e.symm) two⟩
    · rw [if_neg q]
      exact ⟨0, .top (at_ q h)⟩
  | @go k x y r h3 h4 _ ih =>
    obtain ⟨k', ih⟩ := ih
    have q : x ≠ r1 := fun e => by
      rw [e, h1] at h3
      injection h3 with h3
      exact h4 (by rw [e, ← h3])
    exact ⟨k' + 1, .go (at_ q h3) h4 ih⟩
theorem no_ring {n : Nat} {os : List (Nat × Nat × Int)} : ∀ (ns : List Nat) (E : Nat → Nat → Prop) (ps up : List Nat) (rt : Nat → Nat), (∀ x y, E x y → E y x) → Lb n E ps → (∀ x, x < n → ∃ k, RootR up k x (rt x)) → (∀ x y, x < n → y < n → (rt x = rt y ↔ Cg E x y)) → (∀ i ∈ ns, i < os.length ∧ (atE os i).1 < n ∧ (atE os i).2.1 < n) →
    (accL ps (ns.map fun i => kEdge (atE os i))).length = ns.length → NoRing os up ns
  | [], _, _, _, _, _, _, _, _, _, _ => .nil
  | i :: ns, E, ps, up, rt, hs, L, hr, hc, hi, ha => by
    obtain ⟨i1, i2, i3⟩ := hi i List.mem_cons_self
    have ha' : (if ps.getD (atE os i).1 0 = ps.getD (atE os i).2.1 0 then accL ps (ns.map fun i => kEdge (atE os i)) else (atE os i).2.2 :: accL (kstep (0, ps) (kEdge (atE os i))).2 (ns.map fun i => kEdge (atE os i))).length = ns.length + 1 := ha
    have hne : ps.getD (atE os i).1 0 ≠ ps.getD (atE os i).2.1 0 := fun q => by
      rw [if_pos q] at ha'
      have := (acc_sub (ns.map fun i => kEdge (atE os i)) ps).length_le
      rw [List.length_map, List.length_map] at this
      omega
    rw [if_neg hne, List.length_cons] at ha'
    have ncg : ¬ Cg E (atE os i).1 (atE os i).2.1 := fun q => hne ((L.iff hs i2 i3).mpr q)
    have rne : rt (atE os i).1 ≠ rt (atE os i).2.1 := fun q => ncg ((hc _ _ i2 i3).mp q)
    obtain ⟨k1, r1⟩ := hr _ i2
    obtain ⟨k2, r2⟩ := hr _ i3
    have L1 : Lb n (Plus E (atE os i).1 (atE os i).2.1) (kstep (0, ps) (kEdge (atE os i))).2 := Lb.step (st := (0, ps)) (e := kEdge (atE os i)) L hs i2 i3
    refine .cons (atE_get i1) r1 r2 rne (no_ring ns (Plus E (atE os i).1 (atE os i).2.1) (kstep (0, ps) (kEdge (atE os i))).2 _ (fun x => if rt x = rt (atE os i).1 then rt (atE os i).2.1 else rt x) (plus_symm hs) L1 (fun x hx => ?_) (fun x y hx hy => ?_) (fun j hj => hi j (List.mem_cons_of_mem _ hj)) (by omega))
    · obtain ⟨k, r⟩ := hr x hx
      exact r.set_ r1.is r2.is rne
    · rw [cg_plus hs, ← hc x y hx hy, ← hc x _ hx i2, ← hc _ y i3 hy, ← hc x _ hx i3, ← hc _ y i2 hy]
      show (if rt x = rt (atE os i).1 then rt (atE os i).2.1 else rt x) = (if rt y = rt (atE os i).1 then rt (atE os i).2.1 else rt y) ↔ _
      split <;> split <;> omega
theorem no_ring0 {n : Nat} {os : List (Nat × Nat × Int)} {ns : List Nat} (h : ∀ i ∈ ns, i < os.length ∧ (atE os i).1 < n ∧ (atE os i).2.1 < n) (F : Forest n (ns.map fun i => kEdge (atE os i))) : NoRing os (List.range n) ns := by
  refine no_ring ns (fun _ _ => False) (List.range n) (List.range n) id (fun _ _ h => h) (Lb.init n) (fun x hx => ⟨0, .top ?_⟩) (fun x y _ _ => ⟨fun q => ?_, fun q => ?_⟩) h ?_
  · rw [List.getElem?_range hx]
  · have q' : x = y := q
    subst q'
    exact .refl _
  · cases q with
    | refl => rfl
    | step _ e => exact e.elim
  · have := F
    unfold Forest at this
    rw [this, List.length_map]
theorem NoRing.congr {os os' : List (Nat × Nat × Int)} (h : ∀ (i a b : Nat) (z : Int), os[i]? = some (a, b, z) → ∃ z' : Int, os'[i]? = some (a, b, z')) {up ns : List Nat} (N : NoRing os up ns) : NoRing os' up ns := by
  induction N with
  | nil => exact .nil
  | cons h1 h2 h3 h4 _ ih =>
    obtain ⟨z', q⟩ := h _ _ _ _ h1
    exact .cons q h2 h3 h4 ih
theorem Steps.congr {os os' : List (Nat × Nat × Int)} (h : ∀ (i a b : Nat) (z : Int), os[i]? = some (a, b, z) → ∃ z' : Int, os'[i]? = some (a, b, z')) {a b : Nat} {ns : List Nat} (N : Steps os a ns b) : Steps os' a ns b := by
  induction N with
  | nil => exact .nil
  | cons h1 h2 _ ih =>
    obtain ⟨z', q⟩ := h _ _ _ _ h1
    exact .cons q h2 ih
theorem set_ends {os : List (Nat × Nat × Int)} {k : Nat} {z : Int} : ∀ (i a b : Nat) (y : Int), os[i]? = some (a, b, y) → ∃ z' : Int, (os.set k ((atO os k).1, (atO os k).2.1, z))[i]? = some (a, b, z') := fun i a b y h => by
  by_cases q : k = i
  · subst q
    have hl := (List.getElem?_eq_some_iff.mp h).1
    have e := atO_at hl
    rw [h] at e
    injection e with e
    refine ⟨z, ?_⟩
    rw [List.getElem?_set_self hl, ← e]
  · exact ⟨y, by rw [List.getElem?_set_ne q]; exact h⟩
theorem ShowOk.set_ {n : Nat} {os : List (Nat × Nat × Int)} {ks : List Nat} {rows : List (Nat × List Nat)} (S : ShowOk n os ks rows) (k : Nat) (z : Int) : ShowOk n (os.set k ((atO os k).1, (atO os k).2.1, z)) ks rows := by
  obtain ⟨h1, h2, h3, h4, h5, h6, h7, h8⟩ := S
  refine ⟨h1, by rw [List.length_set]; exact h2, h3, fun x hx => by rw [List.length_set]; exact h4 x hx, h5, h6.congr set_ends, ?_, fun r hr => ?_⟩
  · rw [h7]
    unfold restOf
    rw [List.length_set]
  · obtain ⟨r1, r2, r3, a, b, y, r4, r5⟩ := h8 r hr
    obtain ⟨y', q⟩ := set_ends (k := k) (z := z) _ _ _ _ r4
    exact ⟨r1, r2, r3, a, b, y', q, r5.congr set_ends⟩
theorem zAt_set {os : List (Nat × Nat × Int)} {k i : Nat} {z : Int} (hk : k < os.length) : zAt (os.set k ((atO os k).1, (atO os k).2.1, z)) i = if i = k then z else zAt os i := by
  unfold zAt
  by_cases q : i = k
  · subst q
    rw [if_pos rfl, List.getElem?_set_self hk]; rfl
  · rw [if_neg q, List.getElem?_set_ne fun e => q e.symm]
/-! ### slacks -/
def mn (z : Int) (v : Option Int) : Option Int := if lowB z v = true then some z else v
theorem mn_mn (z : Int) (v : Option Int) : mn z (mn z v) = mn z v := by
  unfold mn
  by_cases h : lowB z v = true
  · rw [if_pos h, if_neg]
    show ¬ decide (z < z) = true
    simp
  · rw [if_neg h, if_neg h]
theorem getD_set {f : List (Option Int)} {o k : Nat} {v : Option Int} (hk : k < f.length) : (f.set o v).getD k none = if o = k then v else f.getD k none := by
  rw [List.getD_eq_getElem?_getD, List.getD_eq_getElem?_getD]
  by_cases q : o = k
  · subst q
    rw [if_pos rfl, List.getElem?_set_self hk]; rfl
  · rw [if_neg q, List.getElem?_set_ne q]
theorem sl1_at {z : Int} {f : List (Option Int)} {o k : Nat} (hk : k < f.length) : (sl1 z f o).getD k none = if o = k then mn z (f.getD k none) else f.getD k none := by
  unfold sl1 mn
  by_cases q : o = k
  · subst q
    rw [if_pos rfl]
    split
    · rw [getD_set hk, if_pos rfl]
    · rfl
  · rw [if_neg q]
    split
    · rw [getD_set hk, if_neg q]
    · rfl
theorem sl1s_at {z : Int} {k : Nat} : ∀ (xs : List Nat) (f : List (Option Int)), k < f.length → (xs.foldl (sl1 z) f).getD k none = if k ∈ xs then mn z (f.getD k none) else f.getD k none
  | [], f, _ => by rw [if_neg (by simp)]; rfl
  | x :: xs, f, hk => by
    rw [List.foldl_cons, sl1s_at xs _ (by rw [sl1_len]; exact hk), sl1_at hk]
    by_cases q : x = k
    · subst q
      rw [if_pos rfl, if_pos (show x ∈ x :: xs from List.mem_cons_self), mn_mn, ite_self]
    · rw [if_neg q]
      by_cases m : k ∈ xs
      · rw [if_pos m, if_pos (List.mem_cons_of_mem _ m)]
      · rw [if_neg m, if_neg fun h => (List.mem_cons.mp h).elim (fun e => q e.symm) m]
theorem sl2_at {os : List (Nat × Nat × Int)} {f : List (Option Int)} {r : Nat × List Nat} {k : Nat} (hk : k < f.length) (hr : r.1 ≠ k) : (sl2 os f r).getD k none = if k ∈ r.2 then mn (zAt os r.1) (f.getD k none) else f.getD k none := by
  obtain ⟨m, ws⟩ := r
  cases ws with
  | nil => rw [if_neg (by simp)]; rfl
  | cons x xs =>
    show (((x :: xs).foldl (sl1 (zAt os m)) f).set m _).getD k none = _
    rw [getD_set (by rw [sl1s_len]; exact hk), if_neg hr, sl1s_at _ _ hk]
def Mn (os : List (Nat × Nat × Int)) (k : Nat) (rows : List (Nat × List Nat)) : Option Int → Prop
  | none => ∀ r ∈ rows, k ∉ r.2
  | some m => (∀ r ∈ rows, k ∈ r.2 → m ≤ zAt os r.1) ∧ ∃ r ∈ rows, k ∈ r.2 ∧ zAt os r.1 = m
theorem Mn.snoc {os : List (Nat × Nat × Int)} {k : Nat} {rows : List (Nat × List Nat)} {v : Option Int} {r : Nat × List Nat} (h : Mn os k rows v) : Mn os k (rows ++ [r]) (if k ∈ r.2 then mn (zAt os r.1) v else v) := by
  by_cases q : k ∈ r.2
  · rw [if_pos q]
    unfold mn
    cases v with
    | none =>
      refine ⟨fun r' h1 h2 => ?_, r, by simp, q, rfl⟩
      rcases List.mem_append.mp h1 with e | e
      · exact absurd h2 (h r' e)
      · rw [List.mem_singleton.mp e]; exact Int.le_refl _
    | some m =>
      obtain ⟨h3, r0, h4, h5, h6⟩ := h
      by_cases hz : lowB (zAt os r.1) (some m) = true
      · rw [if_pos hz]
        have hz' : zAt os r.1 < m := of_decide_eq_true hz
        refine ⟨fun r' h1 h2 => ?_, r, by simp, q, rfl⟩
        rcases List.mem_append.mp h1 with e | e
        · have := h3 r' e h2; omega
        · rw [List.mem_singleton.mp e]; exact Int.le_refl _
      · rw [if_neg hz]
        have hz' : ¬ zAt os r.1 < m := fun q => hz (decide_eq_true q)
        refine ⟨fun r' h1 h2 => ?_, r0, List.mem_append_left _ h4, h5, h6⟩
        rcases List.mem_append.mp h1 with e | e
        · exact h3 r' e h2
        · rw [List.mem_singleton.mp e]; omega
  · rw [if_neg q]
    cases v with
    | none =>
      intro r' h1
      rcases List.mem_append.mp h1 with e | e
      · exact h r' e
      · rw [List.mem_singleton.mp e]; exact q
    | some m =>
      obtain ⟨h3, r0, h4, h5, h6⟩ := h
      refine ⟨fun r' h1 h2 => ?_, r0, List.mem_append_left _ h4, h5, h6⟩
      rcases List.mem_append.mp h1 with e | e
      · exact h3 r' e h2
      · rw [List.mem_singleton.mp e] at h2; exact absurd h2 q
theorem slacks_at {os : List (Nat × Nat × Int)} {k : Nat} : ∀ (rows done : List (Nat × List Nat)) (f : List (Option Int)), k < f.length → (∀ r ∈ rows, r.1 ≠ k) → Mn os k done (f.getD k none) → Mn os k (done ++ rows) ((rows.foldl (sl2 os) f).getD k none)
  | [], done, f, _, _, h => by rw [List.append_nil]; exact h
  | r :: rows, done, f, hk, hr, h => by
    rw [List.foldl_cons, show done ++ r :: rows = (done ++ [r]) ++ rows by simp]
    refine slacks_at rows (done ++ [r]) _ (by rw [sl2_len]; exact hk) (fun q hq => hr q (List.mem_cons_of_mem _ hq)) ?_
    rw [sl2_at hk (hr r List.mem_cons_self)]
    exact h.snoc
theorem shown_iff {os : List (Nat × Nat × Int)} {rows : List (Nat × List Nat)} : shown os rows = true ↔ ∀ r ∈ rows, ∀ x ∈ r.2, zAt os x ≤ zAt os r.1 := by
  unfold shown dear
  simp only [List.all_eq_true, decide_eq_true_eq]
theorem slack_ok {n : Nat} {os : List (Nat × Nat × Int)} {ks : List Nat} {rows : List (Nat × List Nat)} (S : ShowOk n os ks rows) (hs : shown os rows = true) {k : Nat} (hk : k < os.length) (hr : ∀ r ∈ rows, r.1 ≠ k) {v : Option Int} (h : Mn os k rows v) : SlackOk n os ks rows k v := by
  rw [shown_iff] at hs
  have key : ∀ z : Int, (∀ r ∈ rows, k ∈ r.2 → z ≤ zAt os r.1) → DearOk n os ks rows k z true := fun z hz => ⟨S.set_ k z, shown_iff.mpr fun r h1 x h2 => by
    rw [zAt_set hk, zAt_set hk, if_neg (hr r h1)]
    split
    · next e => exact hz r h1 (e ▸ h2)
    · exact hs r h1 x h2⟩
  cases v with
  | none => exact key _ fun r h1 h2 => absurd h2 (h r h1)
  | some m =>
    obtain ⟨h3, r0, h4, h5, h6⟩ := h
    refine ⟨key m h3, S.set_ k (m + 1), ?_⟩
    cases q : shown (os.set k ((atO os k).1, (atO os k).2.1, m + 1)) rows with
    | false => rfl
    | true =>
      have := shown_iff.mp q r0 h4 k h5
      rw [zAt_set hk, zAt_set hk, if_pos rfl, if_neg (hr r0 h4)] at this
      omega
/-! ### all that is asked -/
theorem sortN (xs : List Nat) : ∃ ys : List Nat, ys.Perm xs ∧ ys.Pairwise (· ≤ ·) := by
  refine ⟨xs.mergeSort fun e f => decide (e ≤ f), List.mergeSort_perm _ _, ?_⟩
  have := List.pairwise_mergeSort (le := fun e f : Nat => decide (e ≤ f)) (fun a b c h1 h2 => by simp at *; omega) (fun a b => by simp; omega) xs
  exact this.imp fun h => of_decide_eq_true h
theorem right_all (n : Nat) (os : List (Nat × Nat × Int)) (n1 : 1 ≤ n) (n2 : n ≤ 40) (hl : os.length ≤ 63) (hok : OsOk n os) : ∃ p rows c1 c2 ks, RightOk n os p rows c1 c2 ks := by
  have hoff : ∀ {ps : List (Nat × Nat × Int)}, ps.Perm os → ∀ o ∈ ps, o.1 < n ∧ o.2.1 < n ∧ 0 ≤ o.2.2 := fun {ps} h o ho => by
    obtain ⟨h1, h2, h3, _⟩ := hok o (h.mem_iff.mp ho)
    exact ⟨h1, h2, h3⟩
  have run : ∀ ps : List (Nat × Nat × Int), ps.Perm os → ∃ (ss : List (Nat × Nat)) (c : C), Offereds (lp0 n) ps ⟨n, ps, ss, c⟩ ∧ LInv n ps ss c := fun ps h => by
    obtain ⟨ss, c, h1, h2⟩ := offers_F n2 ps [] [] (bare n) (linv0 n) (hoff h) (by have := h.length_eq; simp; omega)
    exact ⟨ss, c, h1, h2⟩
  obtain ⟨ss, c, hO, I⟩ := run os (List.Perm.refl _)
  have LV := Ld103
  have stp := I.steps
  rw [LV] at stp
  have stq : os.length * (19 * 5667) ≤ 63 * (19 * 5667) := Nat.mul_le_mul_right _ hl
  have cn := I.cn
  have frl : (freeOf ⟨n, os, ss, c⟩).length ≤ os.length := by
    unfold freeOf
    refine Nat.le_trans (List.length_filter_le _ _) ?_
    rw [List.length_range]
    exact Nat.le_refl _
  have frm : ∀ k ∈ freeOf ⟨n, os, ss, c⟩, k < os.length ∧ k ∉ ss.map (·.1) := fun k hk => by
    obtain ⟨h1, h2⟩ := List.mem_filter.mp hk
    refine ⟨List.mem_range.mp h1, fun q => ?_⟩
    have q' : decide (k ∈ ss.map (·.1)) = true := decide_eq_true q
    have h2' : (!decide (k ∈ ss.map (·.1))) = true := h2
    rw [q'] at h2'
    cases h2'
  have frq : (freeOf ⟨n, os, ss, c⟩).length * (4 * 5667) ≤ 63 * (4 * 5667) := Nat.mul_le_mul_right _ (by omega)
  obtain ⟨rows, c1, hp1, S1, m1, s1, e1, r1⟩ := I.paper c (freeOf ⟨n, os, ss, c⟩) c I.st (by omega) (fun k hk => (frm k hk).1) (by rw [LV]; omega)
  rw [LV] at s1
  obtain ⟨rows', c2, hp2, S2, m2, s2, e2, r2⟩ := I.paper c1 (freeOf ⟨n, os, ss, c⟩) c1 S1 (by omega) (fun k hk => (frm k hk).1) (by rw [LV]; omega)
  have er : rows' = rows := I.rows rows' rows (e2.trans e1.symm) r2 r1
  subst er
  obtain ⟨ks, kp, ksr⟩ := sortN (ss.map (·.1))
  have ksm : ∀ x, x ∈ ks ↔ x ∈ ss.map (·.1) := fun x => kp.mem_iff
  have ksl : ∀ x ∈ ks, x < os.length := fun x hx => by
    obtain ⟨e, he, rfl⟩ := List.mem_map.mp ((ksm x).mp hx)
    exact I.pt.ix e he
  have ksn : ks.Nodup := kp.nodup_iff.mpr I.pt.nd1
  have sl := I.sl
  have kslen : ks.length ≤ 63 := by rw [kp.length_eq, List.length_map]; omega
  have rest : freeOf ⟨n, os, ss, c⟩ = restOf os ks := by
    unfold freeOf restOf
    refine List.filter_congr fun i _ => ?_
    congr 1
    exact decide_eq_decide.mpr (ksm i).symm
  have kmap : (ks.map fun i => kEdge (atE os i)).Perm (keL os ss) := by
    have := kp.map fun i => kEdge (atE os i)
    rw [List.map_map] at this
    exact this
  have hshow : ShowOk n os ks rows' := by
    refine ⟨by omega, by omega, by omega, ksl, ?_, no_ring0 (fun i hi => ?_) (I.fo.perm kmap.symm I.pt.keB), e1.trans rest, fun r hr => ?_⟩
    · have := List.Pairwise.and ksr ksn
      exact this.imp fun h => Nat.lt_of_le_of_ne h.1 h.2
    · have o := I.pt.off _ (atE_mem (ksl i hi))
      exact ⟨ksl i hi, o.1, o.2.1⟩
    · have R := r1 r hr
      exact ⟨fun x hx => (ksm x).mpr (R.mem x hx), R.nd, R.len, _, _, _, atE_get R.lt, R.st⟩
  have hrl : ∀ r ∈ rows', r.1 < os.length ∧ r.1 ∉ ss.map (·.1) := fun r hr => by
    refine frm r.1 ?_
    rw [← e1]
    exact List.mem_map.mpr ⟨r, hr, rfl⟩
  have hrx : ∀ r ∈ rows', ∀ x ∈ r.2, x < os.length := fun r hr x hx => ksl x ((ksm x).mpr ((r1 r hr).mem x hx))
  have hshown : shown os rows' = true := shown_iff.mpr fun r hr x hx => by
    rw [zAt_at (hrx r hr x hx), zAt_at (hrl r hr).1]
    exact (r1 r hr).dr x hx
  refine ⟨⟨n, os, ss, c⟩, rows', c1, c2, ks, hO, rfl, by show ss.length < 64; omega, fun e he => I.pt.ix e he, fun ys hy sy => ?_, hp1, hp2, fun r hr => ⟨(hrl r hr).1, (r1 r hr).len, hrx r hr⟩, hshow, hshown, fun srt hs so => ⟨I.price hs so, fun srt' hs' so' => ?_⟩, fun os' hos' => ?_, fun k hk => ?_⟩
  · exact List.Perm.eq_of_pairwise (le := (· ≤ ·)) (fun a b _ _ h1 h2 => Nat.le_antisymm h1 h2) sy ksr (hy.trans kp.symm)
  · refine (I.krus hs (hs'.trans ?_) so so').symm
    rw [List.map_map]
    exact kmap
  · obtain ⟨ss', c', h1, I'⟩ := run os' hos'
    refine ⟨_, h1, by have := I'.sl; have := hos'.length_eq; show ss'.length < 64; omega, fun e he => I'.pt.ix e he, ?_⟩
    obtain ⟨es, he, se⟩ := sortE (os.map kEdge)
    rw [← I.price he se, ← I'.price (he.trans (hos'.map _).symm) se]
  · refine slack_ok hshow hshown (ksl k hk) (fun r hr q => (hrl r hr).2 ?_) ?_
    · rw [q]; exact (ksm k).mp hk
    · have := slacks_at (os := os) (k := k) rows' [] (List.replicate os.length none) (by rw [List.length_replicate]; exact ksl k hk) (fun r hr q => (hrl r hr).2 (by rw [q]; exact (ksm k).mp hk)) (by
        have e : (List.replicate os.length (none : Option Int)).getD k none = none := by
          rw [List.getD_eq_getElem?_getD, List.getElem?_replicate]
          split <;> rfl
        rw [e]
        intro r h; cases h)
      exact this
end K73
end
section
set_option maxHeartbeats 4000000
theorem PySem.Challenge.cw_tiedcut_k73_whole_least_price_holds : PySem.Challenge.rw_tiedcut_k73_whole_least_price.Holds :=
  k73_holds K73.right_all
end
