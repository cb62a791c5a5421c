import PyProof.Rows.All
import Wide.All
import OpenK.AllK
import Wide.FinOn
import KE.KStateDown
import HandS.Base
import HandS.Call
import HandS.Ends
import HandS.More
import HandS.Words
import HandS.WordsExc
import HandS.Defaults
import HandS.Head0
import HandS.Head1
import HandS.Head2
import HandS.HeadEnd
import HandS.HeadHook1
import HandS.HeadHook2
import Wide.Once
import HandS.ForMost
import HandS.Deep
import HandS.Flow
import HandS.Style
import HandS.Conv
import HandS.IsInst
import HandS.TupAny
import HandS.TupMul
import HandS.OwnEq
import HandS.Zip
import KE.KDictKeyed
import KE.SortData
import KE.KUnpackStar
import HandS.Walk
import KE.GoesEnum
import KE.KDictWalk
import HandS.TupLen
import KE.KDictCopyH
import KE.KDictSum
import HandS.DictComp
import HandS.SetFor
import HandS.TupSets
import KE.DataMinKey
import KE.KIndexOf
import KE.KEqNest
import HandS.Wide
import HandS.Steps
import PySem.Challenge.RW_likedways_k70_whole_dropped_ways_let_it
section
set_option Elab.async false
set_option linter.all false
set_option maxRecDepth 100000
set_option maxHeartbeats 0
namespace Lw
open PySem PySem.Spec PyProof.Rows L2
def top (i : Nat) : Stmt := PySem.Challenge.pw_likedways_k70_whole_dropped_ways_let_it.main.body.getD i (.Pass ⟨0, 0, 0, 0⟩)
/-! the text by places -/
abbrev s_is_number : Stmt := top 25
abbrev s_is_pair : Stmt := top 26
abbrev s_is_rising : Stmt := top 27
abbrev s_are_roads : Stmt := top 28
abbrev s_joined : Stmt := top 29
abbrev s_is_way : Stmt := top 30
abbrev s_are_liked : Stmt := top 31
abbrev s_is_guild : Stmt := top 32
abbrev s_dropped : Stmt := top 33
abbrev s_all_ways : Stmt := top 34
abbrev s_likes_of : Stmt := top 35
abbrev s_is_liked_way : Stmt := top 36
abbrev s_ends_of : Stmt := top 38
abbrev s_forerunners : Stmt := top 39
abbrev s_placed : Stmt := top 40
abbrev s_first_order : Stmt := top 41
abbrev s_spoke_steps : Stmt := top 42
abbrev s_ring_from : Stmt := top 43
abbrev s_rings_found : Stmt := top 44
abbrev s_order_or_ring : Stmt := top 45
abbrev s_few_ways : Stmt := top 47
abbrev s_picks : Stmt := top 48
abbrev s_ways_of : Stmt := top 49
abbrev s_hits : Stmt := top 50
abbrev s_first_pick : Stmt := top 51
abbrev s_has_order : Stmt := top 52
abbrev s_least_drop : Stmt := top 53
abbrev s_first_stand : Stmt := top 55
abbrev s_choice : Stmt := top 56
abbrev s_choices : Stmt := top 57
abbrev s_is_steady : Stmt := top 58
abbrev s_grown : Stmt := top 60
abbrev s_others_of : Stmt := top 62
abbrev s_fresh : Stmt := top 63
abbrev s_copied : Stmt := top 64
abbrev s_send_along : Stmt := top 65
abbrev s_send : Stmt := top 66
abbrev s_best_heard : Stmt := top 67
abbrev s_choose : Stmt := top 68
abbrev s_deliver : Stmt := top 69
abbrev s_grouped : Stmt := top 72
abbrev s_roads_of : Stmt := top 80
abbrev s_all_turns : Stmt := top 83
abbrev s_all_made : Stmt := top 85
abbrev s_graph_of : Stmt := top 86
abbrev s_finished : Stmt := top 87
abbrev s_flood : Stmt := top 88
abbrev s_ranks_of : Stmt := top 89
abbrev s_spared_houses : Stmt := top 91
abbrev s_verdict : Stmt := top 95
abbrev s__law_cell : Stmt := top 97
abbrev s__law_draws : Stmt := top 98
abbrev s__law_walk : Stmt := top 99
abbrev s__law_ways : Stmt := top 100
abbrev s__law_roads : Stmt := top 101
abbrev s__law_drawn : Stmt := top 102
abbrev s__law_gadget : Stmt := top 103
abbrev s__law_guild : Stmt := top 104
abbrev s__law_few : Stmt := top 105
abbrev s__law_emptied : Stmt := top 106
abbrev s_law : Stmt := top 107
abbrev s_Post_init : Stmt := inClass (top 81) 0
abbrev s_Post_taken : Stmt := inClass (top 81) 1
abbrev s_Post_read : Stmt := inClass (top 81) 2
abbrev s_Post_like : Stmt := inClass (top 81) 5
abbrev s_Post_stand : Stmt := inClass (top 81) 9
abbrev s_Post_waiting : Stmt := inClass (top 81) 10
abbrev s_Post_shape : Stmt := inClass (top 81) 19
abbrev s_Post_len : Stmt := inClass (top 81) 20
abbrev s_Post_eq : Stmt := inClass (top 81) 22
/-- the keyword default x of the def at p, if it is an object -/
def kwAt (p : Str × Option Str) (x : Str) (K : PySem.W.Frag) : Addr := match K.lookup (He.fAd K p) with
  | some ⟨_, _, .func fd, _⟩ => (match fd.kwdefaults with
    | .ref T => (match PySem.W.nsIn K T x with
      | some (some (.ref a)) => a
      | _ => 0)
    | _ => 0)
  | _ => 0
def d_is_number : He.DefD := ⟨("is_number", none), "is_number", "is_number", defArgs s_is_number, defBody s_is_number, defScope s_is_number, [], []⟩
def d_is_pair : He.DefD := ⟨("is_pair", none), "is_pair", "is_pair", defArgs s_is_pair, defBody s_is_pair, defScope s_is_pair, [], []⟩
def d_is_rising : He.DefD := ⟨("is_rising", none), "is_rising", "is_rising", defArgs s_is_rising, defBody s_is_rising, defScope s_is_rising, [], []⟩
def d_are_roads : He.DefD := ⟨("are_roads", none), "are_roads", "are_roads", defArgs s_are_roads, defBody s_are_roads, defScope s_are_roads, [], []⟩
def d_joined : He.DefD := ⟨("joined", none), "joined", "joined", defArgs s_joined, defBody s_joined, defScope s_joined, [], []⟩
def d_is_way : He.DefD := ⟨("is_way", none), "is_way", "is_way", defArgs s_is_way, defBody s_is_way, defScope s_is_way, [], []⟩
def d_are_liked : He.DefD := ⟨("are_liked", none), "are_liked", "are_liked", defArgs s_are_liked, defBody s_are_liked, defScope s_are_liked, [], []⟩
def d_is_guild : He.DefD := ⟨("is_guild", none), "is_guild", "is_guild", defArgs s_is_guild, defBody s_is_guild, defScope s_is_guild, [], []⟩
def d_dropped : He.DefD := ⟨("dropped", none), "dropped", "dropped", defArgs s_dropped, defBody s_dropped, defScope s_dropped, [], []⟩
def d_all_ways : He.DefD := ⟨("all_ways", none), "all_ways", "all_ways", defArgs s_all_ways, defBody s_all_ways, defScope s_all_ways, [], []⟩
def d_likes_of : He.DefD := ⟨("likes_of", none), "likes_of", "likes_of", defArgs s_likes_of, defBody s_likes_of, defScope s_likes_of, [], []⟩
def d_is_liked_way : He.DefD := ⟨("is_liked_way", none), "is_liked_way", "is_liked_way", defArgs s_is_liked_way, defBody s_is_liked_way, defScope s_is_liked_way, [], []⟩
def d_ends_of : He.DefD := ⟨("ends_of", none), "ends_of", "ends_of", defArgs s_ends_of, defBody s_ends_of, defScope s_ends_of, [], []⟩
def d_forerunners : He.DefD := ⟨("forerunners", none), "forerunners", "forerunners", defArgs s_forerunners, defBody s_forerunners, defScope s_forerunners, [], []⟩
def d_placed : He.DefD := ⟨("placed", none), "placed", "placed", defArgs s_placed, defBody s_placed, defScope s_placed, [], []⟩
def d_first_order : He.DefD := ⟨("first_order", none), "first_order", "first_order", defArgs s_first_order, defBody s_first_order, defScope s_first_order, [], []⟩
def d_spoke_steps : He.DefD := ⟨("spoke_steps", none), "spoke_steps", "spoke_steps", defArgs s_spoke_steps, defBody s_spoke_steps, defScope s_spoke_steps, [], []⟩
def d_ring_from : He.DefD := ⟨("ring_from", none), "ring_from", "ring_from", defArgs s_ring_from, defBody s_ring_from, defScope s_ring_from, [], []⟩
def d_rings_found : He.DefD := ⟨("rings_found", none), "rings_found", "rings_found", defArgs s_rings_found, defBody s_rings_found, defScope s_rings_found, [], []⟩
def d_order_or_ring : He.DefD := ⟨("order_or_ring", none), "order_or_ring", "order_or_ring", defArgs s_order_or_ring, defBody s_order_or_ring, defScope s_order_or_ring, [], []⟩
def d_few_ways : He.DefD := ⟨("few_ways", none), "few_ways", "few_ways", defArgs s_few_ways, defBody s_few_ways, defScope s_few_ways, [], []⟩
def d_picks : He.DefD := ⟨("picks", none), "picks", "picks", defArgs s_picks, defBody s_picks, defScope s_picks, [], []⟩
def d_ways_of : He.DefD := ⟨("ways_of", none), "ways_of", "ways_of", defArgs s_ways_of, defBody s_ways_of, defScope s_ways_of, [], []⟩
def d_hits : He.DefD := ⟨("hits", none), "hits", "hits", defArgs s_hits, defBody s_hits, defScope s_hits, [], []⟩
def d_first_pick : He.DefD := ⟨("first_pick", none), "first_pick", "first_pick", defArgs s_first_pick, defBody s_first_pick, defScope s_first_pick, [], []⟩
def d_has_order : He.DefD := ⟨("has_order", none), "has_order", "has_order", defArgs s_has_order, defBody s_has_order, defScope s_has_order, [], []⟩
def d_least_drop : He.DefD := ⟨("least_drop", none), "least_drop", "least_drop", defArgs s_least_drop, defBody s_least_drop, defScope s_least_drop, [], [("kept", .adr (kwAt ("least_drop", none) "kept"))]⟩
def d_first_stand : He.DefD := ⟨("first_stand", none), "first_stand", "first_stand", defArgs s_first_stand, defBody s_first_stand, defScope s_first_stand, [], []⟩
def d_choice : He.DefD := ⟨("choice", none), "choice", "choice", defArgs s_choice, defBody s_choice, defScope s_choice, [], []⟩
def d_choices : He.DefD := ⟨("choices", none), "choices", "choices", defArgs s_choices, defBody s_choices, defScope s_choices, [], []⟩
def d_is_steady : He.DefD := ⟨("is_steady", none), "is_steady", "is_steady", defArgs s_is_steady, defBody s_is_steady, defScope s_is_steady, [], []⟩
def d_grown : He.DefD := ⟨("grown", none), "grown", "grown", defArgs s_grown, defBody s_grown, defScope s_grown, [], []⟩
def d_others_of : He.DefD := ⟨("others_of", none), "others_of", "others_of", defArgs s_others_of, defBody s_others_of, defScope s_others_of, [], []⟩
def d_fresh : He.DefD := ⟨("fresh", none), "fresh", "fresh", defArgs s_fresh, defBody s_fresh, defScope s_fresh, [], []⟩
def d_copied : He.DefD := ⟨("copied", none), "copied", "copied", defArgs s_copied, defBody s_copied, defScope s_copied, [], []⟩
def d_send_along : He.DefD := ⟨("send_along", none), "send_along", "send_along", defArgs s_send_along, defBody s_send_along, defScope s_send_along, [], []⟩
def d_send : He.DefD := ⟨("send", none), "send", "send", defArgs s_send, defBody s_send, defScope s_send, [], []⟩
def d_best_heard : He.DefD := ⟨("best_heard", none), "best_heard", "best_heard", defArgs s_best_heard, defBody s_best_heard, defScope s_best_heard, [], []⟩
def d_choose : He.DefD := ⟨("choose", none), "choose", "choose", defArgs s_choose, defBody s_choose, defScope s_choose, [], []⟩
def d_deliver : He.DefD := ⟨("deliver", none), "deliver", "deliver", defArgs s_deliver, defBody s_deliver, defScope s_deliver, [], []⟩
def d_grouped : He.DefD := ⟨("grouped", none), "grouped", "grouped", defArgs s_grouped, defBody s_grouped, defScope s_grouped, [], []⟩
def d_roads_of : He.DefD := ⟨("roads_of", none), "roads_of", "roads_of", defArgs s_roads_of, defBody s_roads_of, defScope s_roads_of, [], []⟩
def d_all_turns : He.DefD := ⟨("all_turns", none), "all_turns", "all_turns", defArgs s_all_turns, defBody s_all_turns, defScope s_all_turns, [], []⟩
def d_all_made : He.DefD := ⟨("all_made", none), "all_made", "all_made", defArgs s_all_made, defBody s_all_made, defScope s_all_made, [], []⟩
def d_graph_of : He.DefD := ⟨("graph_of", none), "graph_of", "graph_of", defArgs s_graph_of, defBody s_graph_of, defScope s_graph_of, [], []⟩
def d_finished : He.DefD := ⟨("finished", none), "finished", "finished", defArgs s_finished, defBody s_finished, defScope s_finished, [], []⟩
def d_flood : He.DefD := ⟨("flood", none), "flood", "flood", defArgs s_flood, defBody s_flood, defScope s_flood, [], []⟩
def d_ranks_of : He.DefD := ⟨("ranks_of", none), "ranks_of", "ranks_of", defArgs s_ranks_of, defBody s_ranks_of, defScope s_ranks_of, [], []⟩
def d_spared_houses : He.DefD := ⟨("spared_houses", none), "spared_houses", "spared_houses", defArgs s_spared_houses, defBody s_spared_houses, defScope s_spared_houses, [], []⟩
def d_verdict : He.DefD := ⟨("verdict", none), "verdict", "verdict", defArgs s_verdict, defBody s_verdict, defScope s_verdict, [], [("most", .int 1000)]⟩
def d__law_cell : He.DefD := ⟨("_law_cell", none), "_law_cell", "_law_cell", defArgs s__law_cell, defBody s__law_cell, defScope s__law_cell, [], []⟩
def d__law_draws : He.DefD := ⟨("_law_draws", none), "_law_draws", "_law_draws", defArgs s__law_draws, defBody s__law_draws, defScope s__law_draws, [], []⟩
def d__law_walk : He.DefD := ⟨("_law_walk", none), "_law_walk", "_law_walk", defArgs s__law_walk, defBody s__law_walk, defScope s__law_walk, [], []⟩
def d__law_ways : He.DefD := ⟨("_law_ways", none), "_law_ways", "_law_ways", defArgs s__law_ways, defBody s__law_ways, defScope s__law_ways, [], []⟩
def d__law_roads : He.DefD := ⟨("_law_roads", none), "_law_roads", "_law_roads", defArgs s__law_roads, defBody s__law_roads, defScope s__law_roads, [], []⟩
def d__law_drawn : He.DefD := ⟨("_law_drawn", none), "_law_drawn", "_law_drawn", defArgs s__law_drawn, defBody s__law_drawn, defScope s__law_drawn, [], []⟩
def d__law_gadget : He.DefD := ⟨("_law_gadget", none), "_law_gadget", "_law_gadget", defArgs s__law_gadget, defBody s__law_gadget, defScope s__law_gadget, [], []⟩
def d__law_guild : He.DefD := ⟨("_law_guild", none), "_law_guild", "_law_guild", defArgs s__law_guild, defBody s__law_guild, defScope s__law_guild, [], []⟩
def d__law_few : He.DefD := ⟨("_law_few", none), "_law_few", "_law_few", defArgs s__law_few, defBody s__law_few, defScope s__law_few, [], []⟩
def d__law_emptied : He.DefD := ⟨("_law_emptied", none), "_law_emptied", "_law_emptied", defArgs s__law_emptied, defBody s__law_emptied, defScope s__law_emptied, [], []⟩
def d_law : He.DefD := ⟨("law", none), "law", "law", defArgs s_law, defBody s_law, defScope s_law, [], []⟩
def d_Post_init : He.DefD := ⟨("Post", some "__init__"), "__init__", "Post.__init__", defArgs s_Post_init, defBody s_Post_init, defScope s_Post_init, [], [("broken", .adr (kwAt ("Post", some "__init__") "broken"))]⟩
def d_Post_taken : He.DefD := ⟨("Post", some "taken"), "taken", "Post.taken", defArgs s_Post_taken, defBody s_Post_taken, defScope s_Post_taken, [], []⟩
def d_Post_read : He.DefD := ⟨("Post", some "read"), "read", "Post.read", defArgs s_Post_read, defBody s_Post_read, defScope s_Post_read, [], []⟩
def d_Post_like : He.DefD := ⟨("Post", some "like"), "like", "Post.like", defArgs s_Post_like, defBody s_Post_like, defScope s_Post_like, [], []⟩
def d_Post_stand : He.DefD := ⟨("Post", some "stand"), "stand", "Post.stand", defArgs s_Post_stand, defBody s_Post_stand, defScope s_Post_stand, [], []⟩
def d_Post_waiting : He.DefD := ⟨("Post", some "waiting"), "waiting", "Post.waiting", defArgs s_Post_waiting, defBody s_Post_waiting, defScope s_Post_waiting, [], []⟩
def d_Post_shape : He.DefD := ⟨("Post", some "shape"), "shape", "Post.shape", defArgs s_Post_shape, defBody s_Post_shape, defScope s_Post_shape, [], []⟩
def d_Post_len : He.DefD := ⟨("Post", some "__len__"), "__len__", "Post.__len__", defArgs s_Post_len, defBody s_Post_len, defScope s_Post_len, [], []⟩
def d_Post_eq : He.DefD := ⟨("Post", some "__eq__"), "__eq__", "Post.__eq__", defArgs s_Post_eq, defBody s_Post_eq, defScope s_Post_eq, [], []⟩
def fn0 : List He.DefD := [d_is_number, d_is_pair, d_is_rising, d_are_roads, d_joined, d_is_way, d_are_liked, d_is_guild, d_dropped, d_all_ways, d_likes_of, d_is_liked_way, d_ends_of, d_forerunners, d_placed, d_first_order, d_spoke_steps, d_ring_from, d_rings_found, d_order_or_ring, d_few_ways, d_picks, d_ways_of, d_hits, d_first_pick, d_has_order, d_least_drop, d_first_stand, d_choice, d_choices]
def fn1 : List He.DefD := [d_is_steady, d_grown, d_others_of, d_fresh, d_copied, d_send_along, d_send, d_best_heard, d_choose, d_deliver, d_grouped, d_roads_of, d_all_turns, d_all_made, d_graph_of, d_finished, d_flood, d_ranks_of, d_spared_houses, d_verdict, d__law_cell, d__law_draws, d__law_walk, d__law_ways, d__law_roads, d__law_drawn, d__law_gadget, d__law_guild, d__law_few, d__law_emptied]
def fn2 : List He.DefD := [d_law, d_Post_init, d_Post_taken, d_Post_read, d_Post_like, d_Post_stand, d_Post_waiting, d_Post_shape, d_Post_len, d_Post_eq]
def fn : List He.DefD := fn0 ++ fn1 ++ fn2
def fa0 : List He.Fa := [.glo "is_number", .glo "is_pair", .glo "is_rising", .glo "are_roads", .glo "joined", .glo "is_way", .glo "are_liked", .glo "is_guild", .glo "dropped", .glo "all_ways", .glo "likes_of", .glo "is_liked_way", .glo "ends_of", .glo "forerunners", .glo "placed", .glo "first_order", .glo "spoke_steps", .glo "ring_from", .glo "rings_found", .glo "order_or_ring", .glo "few_ways", .glo "picks", .glo "ways_of", .glo "hits", .glo "first_pick", .glo "has_order", .glo "least_drop", .glo "first_stand", .glo "choice", .glo "choices"]
def fa1 : List He.Fa := [.glo "is_steady", .glo "grown", .glo "others_of", .glo "fresh", .glo "copied", .glo "send_along", .glo "send", .glo "best_heard", .glo "choose", .glo "deliver", .glo "grouped", .glo "roads_of", .glo "all_turns", .glo "all_made", .glo "graph_of", .glo "finished", .glo "flood", .glo "ranks_of", .glo "spared_houses", .glo "verdict", .glo "_law_cell", .glo "_law_draws", .glo "_law_walk", .glo "_law_ways", .glo "_law_roads", .glo "_law_drawn", .glo "_law_gadget", .glo "_law_guild", .glo "_law_few", .glo "_law_emptied"]
def fa2 : List He.Fa := [.glo "law", .glo "Post", .free "isinstance", .free "int", .free "bool", .free "tuple", .free "list", .free "len", .free "all", .free "any", .free "zip", .free "min", .free "max", .free "set", .free "enumerate", .free "sorted", .free "range", .free "dict", .int "HOUSES" 7, .int "LIKED" 6, .int "STANDS" 1000, .int "DROPS" 12, .cls "Post", .mkr "Post", .noat "Post" "houses", .noat "Post" "roads", .noat "Post" "now", .noat "Post" "past", .noat "Post" "undone", .noat "Post" "pages"]
def fa3 : List He.Fa := [.noat "Post" "deep", .meth "Post" "taken", .meth "Post" "read", .meth "Post" "like", .meth "Post" "stand", .meth "Post" "waiting", .meth "Post" "shape", .meth "Post" "__len__", .meth "Post" "__eq__"]
def fa : List He.Fa := fa0 ++ fa1 ++ fa2 ++ fa3
def loose0 : List PySem.Str := ["_wall", "HOUSES", "LIKED", "STANDS", "DROPS", "MOST", "DEEP", "DASH", "__name__", "WayError", "NoGuild", "NoOrder", "NoLetter", "NoRoad", "Broken", "Whole", "NoHouse", "NoLikes", "NothingLeft", "NoDeed", "TooDeep", "TooMany", "Unsettled", "Stopped", "is_number", "is_pair", "is_rising", "are_roads", "joined", "is_way"]
def loose1 : List PySem.Str := ["are_liked", "is_guild", "dropped", "all_ways", "likes_of", "is_liked_way", "ends_of", "forerunners", "placed", "first_order", "spoke_steps", "ring_from", "rings_found", "order_or_ring", "few_ways", "picks", "ways_of", "hits", "first_pick", "has_order", "least_drop", "first_stand", "choice", "choices", "is_steady", "grown", "others_of", "fresh", "copied", "send_along"]
def loose2 : List PySem.Str := ["send", "best_heard", "choose", "deliver", "break_road", "mend_road", "grouped", "way_text", "stand_text", "LENGTHS", "is_row", "road_of", "roads_of", "Post", "all_turns", "all_made", "graph_of", "finished", "flood", "ranks_of", "spared_houses", "trails", "with_house", "endless", "verdict", "_law_cell", "_law_draws", "_law_walk", "_law_ways", "_law_roads"]
def loose3 : List PySem.Str := ["_law_drawn", "_law_gadget", "_law_guild", "_law_few", "_law_emptied"]
def loose : List PySem.Str := loose0 ++ loose1 ++ loose2 ++ loose3
end Lw
end
section
set_option Elab.async false
set_option maxRecDepth 100000
set_option maxHeartbeats 0
/-! The head: the top's run, looked at through the objects that matter. -/
namespace Lw.Hd
open PySem PySem.Spec PyProof.Rows L2
/-- where they stand -/
def places : List Addr := [3, 314, 321, 326, 331, 338, 343, 348, 353, 358, 363, 370, 377, 382, 387, 392, 399, 404, 411, 416, 423, 430, 435, 440, 445, 450, 457, 464, 471, 478, 483, 490, 497, 502, 507, 514, 521, 528, 535, 542, 549, 564, 597, 770, 779, 784, 791, 798, 805, 810, 815, 840, 847, 854, 859, 866, 871, 876, 881, 888, 895, 902, 907, 313, 320, 325, 330, 337, 342, 347, 352, 357, 362, 369, 376, 381, 386, 391, 398, 403, 410, 415, 422, 429, 434, 439, 444, 449, 456, 463, 459, 470, 477, 482, 489, 496, 501, 506, 513, 520, 527, 534, 541, 548, 563, 596, 769, 778, 783, 790, 797, 804, 809, 814, 839, 835, 846, 853, 858, 865, 870, 875, 880, 887, 894, 901, 906, 458, 613, 620, 625, 646, 675, 682, 746, 753, 767, 612, 606, 619, 624, 645, 674, 681, 745, 752, 766, 605]
/-- an empty tuple stands there -/
def emB (K : PySem.W.Frag) (a : Addr) : Bool := match K.lookup a with
  | some ⟨.type t, none, .seq its _, _⟩ => decide (t = "tuple") && its.size == 0
  | _ => false
/-- the defaults; what isinstance asks of the class -/
def exB (K : PySem.W.Frag) : Bool := (emB K (kwAt ("least_drop", none) "kept" K) && emB K (kwAt ("Post", some "__init__") "broken" K)) && (He.eqO (PySem.W.findIn K (.ref (He.ga K "Post")) "__class__") (some (some (.builtin "object.__class__"))) && (He.eqO (PySem.W.specialIn K (.builtin "object.__class__") "__get__") (some (some (.builtin "getset_descriptor.__get__"))) &&
  (decide (PySem.W.takesIn K (.builtin "object.__class__") = some true) && decide (PySem.W.mroIn K (He.ga K "Post") (.type "object") = some true))))
abbrev R : PySem.W.OpenRow := PySem.W.OpenLaw.row PySem.Challenge.rw_likedways_k70_whole_dropped_ways_let_it
abbrev AlL : Type := Bool × He.AlD
def obsL (g : Addr → Option Obj) : AlL := (exB (He.frG g places), He.obsD fa fn (He.frG g places))
def hk : PySem.W.Hook where
  α := AlL
  obs := fun s => obsL s.heap.get?
  val := fun _ => (true, He.valD fn)
  says := fun _ h => ∃ K : PySem.W.Frag, K.In h ∧ exB K = true ∧ He.SaysD fa fn K
  of := fun _ _ e => ⟨_, He.frG_in, congrArg Prod.fst e, congrArg Prod.snd e⟩
  keeps := fun _ _ _ ⟨K, hK, c⟩ k => ⟨K, PySem.W.Frag.In.keeps hK k, c⟩
noncomputable def ob (s : PySem.W.SharedT) : AlL := obsL (HandSHeadRun.getT s)
theorem ob_eq (s : PySem.W.SharedT) : ob s = hk.obs s.abs := by
  have e : HandSHeadRun.getT s = s.abs.heap.get? := funext (HandSHeadRun.getT_eq s)
  show obsL (HandSHeadRun.getT s) = obsL s.abs.heap.get?
  rw [e]
theorem runF (w : World) : HandSHeadRun.RunEq R (PySem.W.view R.prog [107]) hk ob 8000 loose (w.withFollow "special-get-raises" false) := by
  intro os
  kernel_rfl
theorem runT (w : World) : HandSHeadRun.RunEq R (PySem.W.view R.prog [107]) hk ob 8000 loose (w.withFollow "special-get-raises" true) := by
  intro os
  kernel_rfl
theorem run (w : World) : HandSHeadRun.RunEq R (PySem.W.view R.prog [107]) hk ob 8000 loose w := PySem.W.byRow2 "special-get-raises" (P := fun w => HandSHeadRun.RunEq R (PySem.W.view R.prog [107]) hk ob 8000 loose w) runF runT w
end Lw.Hd
end
section
set_option Elab.async false
set_option linter.all false
set_option maxRecDepth 100000
set_option maxHeartbeats 1000000
/-! Data: immutable nests of ints, bools, texts in tuples and lists, told by PyData; the abstract heap kept. -/
namespace Lw
open PySem PySem.Spec PyProof.Rows L2

/-! ### what is kept -/
/-- all but the objects at S is as it was -/
def Kp (S : List Addr) (H H' : Hp) : Prop := ∀ b o, b ∉ S → H b = some o → H' b = some o
/-- the tuples stand (each made by this layer is held as it was made: .frz) -/
def TK (H H' : Hp) : Prop := ∀ b o xs, H b = some (.frz o (.tup xs)) → H' b = some (.frz o (.tup xs))
/-- no such tuple -/
def NT (u : HO) : Prop := ∀ o xs, u ≠ .frz o (.tup xs)
theorem _root_.L2.Same.new {H : Hp} {p : Addr} {o : HO} (h : H p = none) : Same H (upd H p o) := fun b u e => by rw [upd_ne (ne_of_none e h)]; exact e
theorem _root_.L2.Same.kp {H H' : Hp} (h : Same H H') {S : List Addr} : Kp S H H' := fun b o _ e => h b o e
theorem _root_.L2.Same.tk {H H' : Hp} (h : Same H H') : TK H H' := fun b o xs e => h b _ e
theorem Kp.same {H H' : Hp} (h : Kp [] H H') : Same H H' := fun b o e => h b o (by simp) e
theorem Kp.refl {S : List Addr} {H : Hp} : Kp S H H := fun _ _ _ e => e
theorem Kp.trans {S : List Addr} {H H1 H2 : Hp} (a : Kp S H H1) (b : Kp S H1 H2) : Kp S H H2 := fun c o n e => b c o n (a c o n e)
theorem Kp.mono {S S' : List Addr} {H H' : Hp} (a : Kp S H H') (h : ∀ b, b ∈ S → b ∈ S') : Kp S' H H' := fun c o n e => a c o (fun q => n (h c q)) e
theorem Kp.upd {H : Hp} {p : Addr} {o : HO} : Kp [p] H (upd H p o) := fun b u n e => by rw [upd_ne (by simpa using n)]; exact e
/-- a new object does not count -/
theorem Kp.fresh {S S' : List Addr} {H H' : Hp} (a : Kp (S ++ S') H H') (h : ∀ b ∈ S', H b = none) : Kp S H H' := fun c o n e => a c o (fun q => by
  rcases List.mem_append.mp q with z | z
  · exact n z
  · rw [h c z] at e; cases e) e
theorem TK.refl {H : Hp} : TK H H := fun _ _ _ e => e
theorem TK.trans {H H1 H2 : Hp} (a : TK H H1) (b : TK H1 H2) : TK H H2 := fun c o xs e => b c o xs (a c o xs e)
theorem TK.upd {H : Hp} {p : Addr} {o u : HO} (h : H p = some u) (hu : NT u) : TK H (L2.upd H p o) := fun b ob xs e => by
  rw [upd_ne (fun q => by subst q; rw [h] at e; exact hu ob xs (Option.some.inj e))]; exact e
theorem TK.new {H : Hp} {p : Addr} {o : HO} (h : H p = none) : TK H (L2.upd H p o) := (Same.new h).tk

/-! ### data -/
mutual
inductive Im (K : PySem.W.Frag) (H : Hp) : V → PyData → Prop
  | non : Im K H .non .none
  | bl (b : Bool) : Im K H (.bl b) (.bool b)
  | int (i : Int) : Im K H (.int i) (.int i)
  | str (x : Str) : Im K H (.str x) (.str x)
  | lst {a : Addr} {xs : List V} {ds : List PyData} : H a = some (.lst xs) → ImAll K H xs ds → Im K H (.ref a) (.list ds)
  | tup {a : Addr} {o : Obj} {xs : List V} {ds : List PyData} : H a = some (.frz o (.tup xs)) → o.dict = none → ImAll K H xs ds → Im K H (.ref a) (.tuple ds)
  | tupK {a : Addr} (o : Obj) (n : Nat) : K.lookup a = some o → o.cls = .type "tuple" → o.data = .seq #[] n → o.dict = none → Im K H (.ref a) (.tuple [])
inductive ImAll (K : PySem.W.Frag) (H : Hp) : List V → List PyData → Prop
  | nil : ImAll K H [] []
  | cons {v : V} {vs : List V} {d : PyData} {ds : List PyData} : Im K H v d → ImAll K H vs ds → ImAll K H (v :: vs) (d :: ds)
end
section
variable {K : PySem.W.Frag} {H H' : Hp}
theorem Im.sqt {a : Addr} {o : Obj} {n : Nat} (h1 : K.lookup a = some o) (h2 : o.cls = .type "tuple") (h3 : o.data = .seq #[] n) : SqT K H a [] := .inr ⟨o, #[], n, h1, h2, h3, by simp, .nil⟩
mutual
theorem Im.dp : ∀ {v : V} {d : PyData}, Im K H v d → Dp K H v d
  | _, _, .non => .non
  | _, _, .bl b => .bl b
  | _, _, .int i => .int i
  | _, _, .str x => .str x
  | _, _, .lst h t => .lst (SqL.of h) (ImAll.dp t)
  | _, _, .tup h _ t => .tup (.inl (.inr ⟨_, h⟩)) (ImAll.dp t)
  | _, _, .tupK _ _ h1 h2 h3 _ => .tup (Im.sqt h1 h2 h3) .nil
theorem ImAll.dp : ∀ {vs : List V} {ds : List PyData}, ImAll K H vs ds → DpAll K H vs ds
  | _, _, .nil => .nil
  | _, _, .cons h t => .cons (Im.dp h) (ImAll.dp t)
end
mutual
theorem Im.same (s : Same H H') : ∀ {v : V} {d : PyData}, Im K H v d → Im K H' v d
  | _, _, .non => .non
  | _, _, .bl b => .bl b
  | _, _, .int i => .int i
  | _, _, .str x => .str x
  | _, _, .lst h t => .lst (s _ _ h) (ImAll.same s t)
  | _, _, .tup h d t => .tup (s _ _ h) d (ImAll.same s t)
  | _, _, .tupK o n h1 h2 h3 h4 => .tupK o n h1 h2 h3 h4
theorem ImAll.same (s : Same H H') : ∀ {vs : List V} {ds : List PyData}, ImAll K H vs ds → ImAll K H' vs ds
  | _, _, .nil => .nil
  | _, _, .cons h t => .cons (Im.same s h) (ImAll.same s t)
end
/-! no list in it -/
mutual
def flat : PyData → Bool
  | .list _ => false
  | .tuple ds => flatAll ds
  | _ => true
def flatAll : List PyData → Bool
  | [] => true
  | d :: ds => flat d && flatAll ds
end
mutual
theorem Im.tk (s : TK H H') : ∀ {v : V} {d : PyData}, flat d = true → Im K H v d → Im K H' v d
  | _, _, _, .non => .non
  | _, _, _, .bl b => .bl b
  | _, _, _, .int i => .int i
  | _, _, _, .str x => .str x
  | _, _, f, .lst h t => by simp [flat] at f
  | _, _, f, .tup h d t => .tup (s _ _ _ h) d (ImAll.tk s (by simpa [flat] using f) t)
  | _, _, _, .tupK o n h1 h2 h3 h4 => .tupK o n h1 h2 h3 h4
theorem ImAll.tk (s : TK H H') : ∀ {vs : List V} {ds : List PyData}, flatAll ds = true → ImAll K H vs ds → ImAll K H' vs ds
  | _, _, _, .nil => .nil
  | _, _, f, .cons h t => by
    simp only [flatAll, Bool.and_eq_true] at f
    exact .cons (Im.tk s f.1 h) (ImAll.tk s f.2 t)
end
theorem ImAll.length : ∀ {vs : List V} {ds : List PyData}, ImAll K H vs ds → vs.length = ds.length
  | _, _, .nil => rfl
  | _, _, .cons _ t => congrArg Nat.succ (ImAll.length t)
theorem ImAll.get : ∀ {vs : List V} {ds : List PyData} {i : Nat} {d : PyData}, ImAll K H vs ds → ds[i]? = some d → ∃ v, vs[i]? = some v ∧ Im K H v d
  | _, _, _, _, .nil, e => by simp at e
  | _, _, 0, _, .cons h _, e => by simp at e; subst e; exact ⟨_, rfl, h⟩
  | _, _, i + 1, d, .cons _ t, e => by
    obtain ⟨v, h1, h2⟩ := ImAll.get (i := i) (d := d) t (by simpa using e)
    exact ⟨v, by simpa using h1, h2⟩
theorem ImAll.getV : ∀ {vs : List V} {ds : List PyData} {i : Nat} {v : V}, ImAll K H vs ds → vs[i]? = some v → ∃ d, ds[i]? = some d ∧ Im K H v d
  | _, _, _, _, .nil, e => by simp at e
  | _, _, 0, _, .cons h _, e => by simp at e; subst e; exact ⟨_, rfl, h⟩
  | _, _, i + 1, v, .cons _ t, e => by
    obtain ⟨d, h1, h2⟩ := ImAll.getV (i := i) (v := v) t (by simpa using e)
    exact ⟨d, by simpa using h1, h2⟩
theorem ImAll.append : ∀ {vs ws : List V} {ds es : List PyData}, ImAll K H vs ds → ImAll K H ws es → ImAll K H (vs ++ ws) (ds ++ es)
  | _, _, _, _, .nil, t => t
  | _, _, _, _, .cons h t, u => .cons h (ImAll.append t u)
theorem ImAll.take : ∀ {vs : List V} {ds : List PyData} (n : Nat), ImAll K H vs ds → ImAll K H (vs.take n) (ds.take n)
  | _, _, 0, _ => .nil
  | _, _, _ + 1, .nil => .nil
  | _, _, n + 1, .cons h t => .cons h (ImAll.take n t)
theorem ImAll.drop : ∀ {vs : List V} {ds : List PyData} (n : Nat), ImAll K H vs ds → ImAll K H (vs.drop n) (ds.drop n)
  | _, _, 0, t => t
  | _, _, _ + 1, .nil => .nil
  | _, _, n + 1, .cons _ t => ImAll.drop n t
theorem ImAll.eraseIdx : ∀ {vs : List V} {ds : List PyData} (n : Nat), ImAll K H vs ds → ImAll K H (vs.eraseIdx n) (ds.eraseIdx n)
  | _, _, _, .nil => .nil
  | _, _, 0, .cons _ t => t
  | _, _, n + 1, .cons h t => .cons h (ImAll.eraseIdx n t)
theorem ImAll.set {v : V} {d : PyData} (x : Im K H v d) : ∀ {vs : List V} {ds : List PyData} (n : Nat), ImAll K H vs ds → ImAll K H (vs.set n v) (ds.set n d)
  | _, _, _, .nil => .nil
  | _, _, 0, .cons _ t => .cons x t
  | _, _, n + 1, .cons h t => .cons h (ImAll.set x n t)
theorem ImAll.rep {v : V} {d : PyData} (x : Im K H v d) : ∀ n : Nat, ImAll K H (List.replicate n v) (List.replicate n d)
  | 0 => .nil
  | n + 1 => .cons x (ImAll.rep x n)
theorem ImAll.rev {vs : List V} {ds : List PyData} (h : ImAll K H vs ds) : ImAll K H vs.reverse ds.reverse := by
  induction vs generalizing ds with
  | nil => cases h; exact .nil
  | cons v vs ih =>
    cases h with
    | cons h t => rw [List.reverse_cons, List.reverse_cons]; exact (ih t).append (.cons h .nil)
theorem ImAll.one {v : V} {d : PyData} (h : Im K H v d) : ImAll K H [v] [d] := .cons h .nil
theorem Im.tup_inv {v : V} {ds : List PyData} (h : Im K H v (.tuple ds)) : ∃ a xs, v = .ref a ∧ SqT K H a xs ∧ ImAll K H xs ds := by
  cases h with
  | tup h _ t => exact ⟨_, _, rfl, .inl (.inr ⟨_, h⟩), t⟩
  | tupK o n h1 h2 h3 _ => exact ⟨_, _, rfl, Im.sqt h1 h2 h3, .nil⟩
/-- a tuple as it is made -/
def ptO (its : List Value) : Obj := { cls := .type "tuple", data := .seq its.toArray }
theorem Im.made {a : Addr} {its : List Value} {xs : List V} {ds : List PyData} (h : H a = some (.frz (ptO its) (.tup xs))) (t : ImAll K H xs ds) : Im K H (.ref a) (.tuple ds) := .tup h rfl t
/-- the object is a tuple without a dict -/
theorem Im.plain {X : Cx} {pins : List (Addr × Obj)} {σ : L2.St} {H : Hp} {s : Shared} (I : Inv X pins σ H s) {a : Addr} {ds : List PyData} (h : Im X.K H (.ref a) (.tuple ds)) : ∃ o, s.heap.get? a = some o ∧ o.cls = .type "tuple" ∧ o.dict = none := by
  cases h with
  | tup h hd t =>
    obtain ⟨h1, _, its, _, o', e, hc, _⟩ := I.hok _ _ h
    rw [h1] at e
    cases e
    exact ⟨_, h1, hc, hd⟩
  | tupK o n h1 h2 h3 h4 => exact ⟨o, I.kIn _ o h1, h2, h4⟩
/-- a tuple just laid -/
theorem laid_tup {X : Cx} {pins : List (Addr × Obj)} {σ : L2.St} {H : Hp} {s : Shared} (I : Inv X pins σ H s) {its : List Value} {xs : List V} (r : Vals xs its) (hz : xs.length ≤ sizeLine) :
    Inv X pins σ (upd H s.heap.objs.size (.frz (ptO its) (.tup xs))) { s with heap := s.heap.push (ptO its) } ∧ H s.heap.objs.size = none :=
  ⟨I.laid (t' := s.toks) (fun b u e => Heap.get?_push_of_some _ e) (Nat.le_refl _) ⟨Heap.get?_push_size _ rfl, hz, its, r, IsTup.new _ _⟩, I.hok.fresh (Nat.le_refl _)⟩
theorem Im.lst_inv {v : V} {ds : List PyData} (h : Im K H v (.list ds)) : ∃ a xs, v = .ref a ∧ H a = some (.lst xs) ∧ ImAll K H xs ds := by
  cases h with
  | lst h t => exact ⟨_, _, rfl, h, t⟩
theorem Im.int_inv {v : V} {i : Int} (h : Im K H v (.int i)) : v = .int i := by cases h; rfl
theorem Im.bl_inv {v : V} {b : Bool} (h : Im K H v (.bool b)) : v = .bl b := by cases h; rfl
theorem ImAll.ints : ∀ {vs : List V} {ns : List Int}, ImAll K H vs (ns.map .int) → vs = ns.map V.int
  | _, [], h => by cases h; rfl
  | _, n :: ns, h => by
    cases h with
    | cons h t => rw [h.int_inv, ImAll.ints t]; rfl
theorem ImAll.ofInts : ∀ {ns : List Int}, ImAll K H (ns.map V.int) (ns.map .int)
  | [] => .nil
  | n :: ns => .cons (.int n) ImAll.ofInts
/-- a list at a known place -/
def Ls (K : PySem.W.Frag) (H : Hp) (a : Addr) (ds : List PyData) : Prop := ∃ xs, H a = some (.lst xs) ∧ ImAll K H xs ds
theorem Ls.im {a : Addr} {ds : List PyData} (h : Ls K H a ds) : Im K H (.ref a) (.list ds) := let ⟨_, h1, h2⟩ := h; .lst h1 h2
theorem Im.ls {a : Addr} {ds : List PyData} (h : Im K H (.ref a) (.list ds)) : Ls K H a ds := by
  cases h with
  | lst h t => exact ⟨_, h, t⟩
theorem Ls.same {a : Addr} {ds : List PyData} (s : Same H H') (h : Ls K H a ds) : Ls K H' a ds := let ⟨xs, h1, h2⟩ := h; ⟨xs, s _ _ h1, h2.same s⟩
theorem Ls.tk {a : Addr} {ds : List PyData} (s : TK H H') (f : flatAll ds = true) (e : H' a = H a) (h : Ls K H a ds) : Ls K H' a ds := let ⟨xs, h1, h2⟩ := h; ⟨xs, by rw [e]; exact h1, h2.tk s f⟩
theorem Ls.kp {S : List Addr} {a : Addr} {ds : List PyData} (k : Kp S H H') (s : TK H H') (f : flatAll ds = true) (n : a ∉ S) (h : Ls K H a ds) : Ls K H' a ds := let ⟨xs, h1, h2⟩ := h; ⟨xs, k _ _ n h1, h2.tk s f⟩
theorem Ls.sql {a : Addr} {ds : List PyData} (h : Ls K H a ds) : ∃ xs, SqL K H a xs := let ⟨xs, h1, _⟩ := h; ⟨xs, SqL.of h1⟩
theorem Ls.ne_none {a : Addr} {ds : List PyData} (h : Ls K H a ds) : H a ≠ none := let ⟨xs, h1, _⟩ := h; by rw [h1]; simp
end

/-! ### encodings -/
abbrev eI : Int → PyData := .int
abbrev eB : Bool → PyData := .bool
def eT {α : Type} (e : α → PyData) (l : List α) : PyData := .tuple (l.map e)
def eL {α : Type} (e : α → PyData) (l : List α) : PyData := .list (l.map e)
def eP {α β : Type} (e : α → PyData) (f : β → PyData) (p : α × β) : PyData := .tuple [e p.1, f p.2]
def e3 {α β γ : Type} (e : α → PyData) (f : β → PyData) (g : γ → PyData) (p : α × β × γ) : PyData := .tuple [e p.1, f p.2.1, g p.2.2]
/-- a sound encoding: equal where the things are, alike, of nesting up to n -/
structure EncOk {α : Type} [DecidableEq α] (e : α → PyData) (n : Nat) : Prop where
  eqv : ∀ a b, PyData.eqv (e a) (e b) = decide (a = b)
  alk : ∀ a b, PySem.W.alike (e a) (e b) = true
  lay : ∀ a, (e a).canLay0 = true
  dep : ∀ a, (e a).depth ≤ n
section
variable {α β γ : Type} [DecidableEq α] [DecidableEq β] [DecidableEq γ] {e : α → PyData} {f : β → PyData} {g : γ → PyData} {n m k : Nat}
theorem enc_int : EncOk eI 0 := ⟨fun a b => by simp only [PyData.eqv, eI]; exact Bool.beq_eq_decide_eq a b, fun a b => by simp [PySem.W.alike], fun a => by simp [PyData.canLay0], fun a => by simp [PyData.depth]⟩
theorem EncOk.mono (h : EncOk e n) (q : n ≤ m) : EncOk e m := ⟨h.eqv, h.alk, h.lay, fun a => Nat.le_trans (h.dep a) q⟩
theorem EncOk.eqvAll (h : EncOk e n) : ∀ a b : List α, PyData.eqvAll (a.map e) (b.map e) = decide (a = b)
  | [], [] => by simp [PyData.eqvAll]
  | [], _ :: _ => by simp [PyData.eqvAll]
  | _ :: _, [] => by simp [PyData.eqvAll]
  | a :: as, b :: bs => by
    rw [List.map_cons, List.map_cons, PyData.eqvAll, h.eqv, h.eqvAll as bs]
    by_cases h1 : a = b <;> by_cases h2 : as = bs <;> simp [h1, h2]
theorem EncOk.alkAll (h : EncOk e n) : ∀ a b : List α, PySem.W.alikeAll (a.map e) (b.map e) = true
  | [], _ => by simp [PySem.W.alikeAll]
  | _ :: _, [] => by simp [PySem.W.alikeAll]
  | a :: as, b :: bs => by
    rw [List.map_cons, List.map_cons, PySem.W.alikeAll, h.alk, h.alkAll as bs]
    rfl
theorem EncOk.layAll (h : EncOk e n) : ∀ a : List α, PyData.canLayAll0 (a.map e) = true
  | [] => by simp [PyData.canLayAll0]
  | a :: as => by simp [PyData.canLayAll0, h.lay a, h.layAll as]
theorem EncOk.depAll (h : EncOk e n) : ∀ a : List α, PyData.depthAll (a.map e) ≤ n
  | [] => by simp [PyData.depthAll]
  | a :: as => by
    have h1 := h.dep a
    have h2 := h.depAll as
    simp only [List.map_cons, PyData.depthAll]
    omega
theorem enc_tup (h : EncOk e n) : EncOk (eT e) (n + 1) where
  eqv a b := by unfold eT; rw [PyData.eqv]; exact h.eqvAll a b
  alk a b := by unfold eT; rw [PySem.W.alike]; exact h.alkAll a b
  lay a := by unfold eT; rw [PyData.canLay0]; exact h.layAll a
  dep a := by unfold eT; have := h.depAll a; simp only [PyData.depth]; omega
theorem enc_lst (h : EncOk e n) : EncOk (eL e) (n + 1) where
  eqv a b := by unfold eL; rw [PyData.eqv]; exact h.eqvAll a b
  alk a b := by unfold eL; rw [PySem.W.alike]; exact h.alkAll a b
  lay a := by unfold eL; rw [PyData.canLay0]; exact h.layAll a
  dep a := by unfold eL; have := h.depAll a; simp only [PyData.depth]; omega
theorem enc_pair (h : EncOk e n) (h' : EncOk f n) : EncOk (eP e f) (n + 1) where
  eqv a b := by
    obtain ⟨a1, a2⟩ := a; obtain ⟨b1, b2⟩ := b
    unfold eP; rw [PyData.eqv, PyData.eqvAll, PyData.eqvAll, PyData.eqvAll, h.eqv, h'.eqv]
    by_cases h1 : a1 = b1 <;> by_cases h2 : a2 = b2 <;> simp [h1, h2]
  alk a b := by unfold eP; rw [PySem.W.alike, PySem.W.alikeAll, PySem.W.alikeAll, PySem.W.alikeAll, h.alk, h'.alk] <;> rfl
  lay a := by unfold eP; simp [PyData.canLay0, PyData.canLayAll0, h.lay, h'.lay]
  dep a := by unfold eP; have := h.dep a.1; have := h'.dep a.2; simp only [PyData.depth, PyData.depthAll]; omega
theorem enc_trip (h : EncOk e n) (h' : EncOk f n) (h'' : EncOk g n) : EncOk (e3 e f g) (n + 1) where
  eqv a b := by
    obtain ⟨a1, a2, a3⟩ := a; obtain ⟨b1, b2, b3⟩ := b
    unfold e3; rw [PyData.eqv, PyData.eqvAll, PyData.eqvAll, PyData.eqvAll, PyData.eqvAll, h.eqv, h'.eqv, h''.eqv]
    by_cases h1 : a1 = b1 <;> by_cases h2 : a2 = b2 <;> by_cases h3 : a3 = b3 <;> simp [h1, h2, h3]
  alk a b := by unfold e3; rw [PySem.W.alike, PySem.W.alikeAll, PySem.W.alikeAll, PySem.W.alikeAll, PySem.W.alikeAll, h.alk, h'.alk, h''.alk] <;> rfl
  lay a := by unfold e3; simp [PyData.canLay0, PyData.canLayAll0, h.lay, h'.lay, h''.lay]
  dep a := by unfold e3; have := h.dep a.1; have := h'.dep a.2.1; have := h''.dep a.2.2; simp only [PyData.depth, PyData.depthAll]; omega
theorem EncOk.shaped (h : EncOk e n) (hn : n ≤ 64) (a : α) : SeqAt.shaped (e a) = true := by
  show ((e a).canLay0 && decide ((e a).depth ≤ 64)) = true
  rw [Bool.and_eq_true]
  exact ⟨h.lay a, decide_eq_true (Nat.le_trans (h.dep a) hn)⟩
theorem EncOk.inj (h : EncOk e n) {a b : α} (q : e a = e b) : a = b := by
  have e1 := h.eqv a b
  have e2 := h.eqv b b
  rw [q, e2] at e1
  simpa using e1.symm
end
theorem flat_int (i : Int) : flat (eI i) = true := by simp [flat, eI]
theorem flatAll_map {α : Type} {e : α → PyData} (h : ∀ a, flat (e a) = true) : ∀ l : List α, flatAll (l.map e) = true
  | [] => by simp [flatAll]
  | a :: l => by simp [flatAll, h a, flatAll_map h l]
theorem flat_tup {α : Type} {e : α → PyData} (h : ∀ a, flat (e a) = true) (l : List α) : flat (eT e l) = true := by unfold eT; rw [flat]; exact flatAll_map h l
theorem flat_pair {α β : Type} {e : α → PyData} {f : β → PyData} (h : ∀ a, flat (e a) = true) (h' : ∀ a, flat (f a) = true) (p : α × β) : flat (eP e f p) = true := by unfold eP; simp [flat, flatAll, h, h']
theorem flat_trip {α β γ : Type} {e : α → PyData} {f : β → PyData} {g : γ → PyData} (h : ∀ a, flat (e a) = true) (h' : ∀ a, flat (f a) = true) (h'' : ∀ a, flat (g a) = true) (p : α × β × γ) : flat (e3 e f g p) = true := by unfold e3; simp [flat, flatAll, h, h', h'']

/-! the shapes of this program -/
abbrev eW : List Int → PyData := eT eI
abbrev eS : List (List Int) → PyData := eT eW
abbrev eRd : Int × Int → PyData := eP eI eI
theorem enc_W : EncOk eW 1 := enc_tup enc_int
theorem enc_S : EncOk eS 2 := enc_tup enc_W
theorem enc_Rd : EncOk eRd 1 := enc_pair enc_int enc_int
theorem flat_W (w : List Int) : flat (eW w) = true := flat_tup flat_int w
theorem flat_S (s : List (List Int)) : flat (eS s) = true := flat_tup flat_W s
theorem flat_Rd (p : Int × Int) : flat (eRd p) = true := flat_pair flat_int flat_int p
end Lw
end
section
set_option Elab.async false
set_option linter.all false
set_option maxRecDepth 100000
set_option maxHeartbeats 1000000
/-! Rules over data: comparison, in, items, slices, lengths, a starred target, isinstance. -/
namespace Lw
open PySem PySem.Spec PyProof.Rows L2

/-! ### head, *rest = t -/
section
variable {prog : Program} {w : World} {A : Around} {E : Value → Shared → Prop} {s : Shared}
theorem unpack_star {l : Addr} {items : Array Value} {Q : List Value → Shared → Prop} (hh : A.handled = none) (hl : IsTup s.heap l items) (h1 : 1 ≤ items.size) (hz : items.size ≤ 1000)
    (h : ∀ h' tk D, (∀ b o, s.heap.get? b = some o → h'.get? b = some o ∧ b ≠ D) → h'.get? D = some { cls := .type "list", data := .seq (items.toList.drop 1).toArray } →
      Q (items.toList.take 1 ++ [.ref D]) { s with heap := h', toks := tk }) : wpAny (model prog w) A (unpackItems (.ref l) 2 (some 1)) Q E s := by
  have hll : l < s.heap.objs.size := by
    obtain ⟨o, ho, _⟩ := hl
    exact Heap.lt_size ho
  have hlt : l ≠ s.heap.objs.size := Nat.ne_of_lt hll
  unfold unpackItems
  refine wpAny_bind ?_
  unfold notIterableAtAll
  refine wpAny_bind (wpAny_specialOf hl.typeIs slot_tuple_iter.lookup (wpAny_pure ?_))
  simp only [Bool.false_eq_true, if_false]
  refine wpAny_bind (wpAny_holding (iter_tuple hl ?_))
  refine wpAny_bind (wpAny_holding (draw_tuple hlt 1 0 _ _ ⟨_, Heap.get?_push_size _ rfl, rfl, rfl⟩ (hl.push _) (by omega) fun g1 hit hs => ?_))
  have hl1 : IsTup g1 l items := (hl.push _).extBut hs.extBut hlt
  rw [Nat.zero_add] at hit
  obtain ⟨oi, hoi, _⟩ := id hit
  obtain ⟨ol, hol, _⟩ := id hl1
  rw [List.drop_zero]
  have hfl : (items.toList.take 1).length = 1 := by rw [List.length_take, Array.length_toList]; omega
  rw [if_neg (by rw [hfl]; omega)]
  refine wpAny_bind (wpAny_holding (wpAny_collect_iter (s := { s with heap := g1 }) (T := "tuple_iterator") (.inr (.inr (.inr rfl)))
    (PySem.W.kun_shift (Walks.tuple (A := A.in1) hh s.heap.objs.size l hlt items) (k := 1) h1).toS (fun j u st => st.1.typeIs)
    (show IsTupIter g1 s.heap.objs.size l 1 ∧ IsTup g1 l items from ⟨hit, hl1⟩) (fun b hb => ?_) (List.mem_cons_self ..) (fun s' acc hm ha => ?_) (by rw [sizeLine_eq]; omega)))
  · rcases List.mem_cons.mp hb with rfl | hb
    · exact Heap.lt_size hoi
    · rw [List.mem_singleton.mp hb]; exact Heap.lt_size hol
  · obtain ⟨g2, ge, d2, tk, o2⟩ := s'
    obtain ⟨m1, m2, m3, m4, m5⟩ := hm
    cases (show ge = s.gens from m2)
    cases (show d2 = s.drawn from m3)
    cases (show o2 = s.os from m4)
    have m1 : ∀ b o, b ∉ [s.heap.objs.size] → g1.get? b = some o → g2.get? b = some o := m1
    rw [PySem.W.kun_acc h1 ha]
    have hrl : (items.toList.drop 1).length = items.size - 1 := by rw [List.length_drop, Array.length_toList]
    show wpAny _ _ (if (items.toList.drop 1).length < 2 - 1 - 1 then _ else _) _ _ _
    rw [if_neg (by omega)]
    have e1 : (items.toList.drop 1).length - (2 - 1 - 1) = (items.toList.drop 1).length := by omega
    show wpAny _ _ (newList ((items.toList.drop 1).take ((items.toList.drop 1).length - (2 - 1 - 1))) >>= fun d => pure (items.toList.take 1 ++ [d] ++ (items.toList.drop 1).drop ((items.toList.drop 1).length - (2 - 1 - 1)))) _ _ _
    rw [e1, List.take_length, List.drop_length]
    have kp : ∀ b o, s.heap.get? b = some o → g2.get? b = some o := fun b o e =>
      m1 b o (fun q => Nat.ne_of_lt (Heap.lt_size e) (List.mem_singleton.mp q)) (hs.extBut b o (Nat.ne_of_lt (Heap.lt_size e)) (Heap.get?_push_of_some _ e))
    refine wpAny_bind (wpAny_newObj_type (wpAny_pure ?_) (by show (items.toList.drop 1).toArray.size ≤ sizeLine; rw [List.size_toArray, hrl, sizeLine_eq]; omega))
    rw [List.append_nil]
    exact h _ tk g2.objs.size (fun b o e => ⟨Heap.get?_push_of_some _ (kp b o e), Nat.ne_of_lt (Heap.lt_size (kp b o e))⟩) (Heap.get?_push_size _ rfl)
end
section
variable {X : Cx} {pins : List (Addr × Obj)} {σ : L2.St} {H : Hp} {s : Shared}
/-- a new object, where its place is only known to be no old one's -/
theorem inv_laid {h' : Heap} {t' : Nat} {D : Addr} {o : HO} (I : Inv X pins σ H s) (k : ∀ b u, s.heap.get? b = some u → h'.get? b = some u ∧ b ≠ D) (new : ObjOk X.prog X.w (upd H D o) h' D o) :
    H D = none ∧ Inv X pins σ (upd H D o) { s with heap := h', toks := t' } := by
  have hn : H D = none := by
    cases q : H D with
    | none => rfl
    | some u =>
      have hlt := I.hok.lt q
      have : ∃ v, s.heap.get? D = some v := by
        have z := I.hok D u q
        cases u with
        | lst xs => obtain ⟨_, _, _, _, e⟩ := z; exact ⟨_, e⟩
        | tup xs => obtain ⟨_, _, _, _, e, _⟩ := z; exact ⟨_, e⟩
        | dK kvs => obtain ⟨_, _, _, _, o, _, _, e, _⟩ := z; exact ⟨_, e⟩
        | dT kvs => obtain ⟨_, _, _, _, o, _, _, e, _⟩ := z; exact ⟨_, e⟩
        | set S n => obtain ⟨o, _, _, _, e, _⟩ := z; exact ⟨_, e⟩
        | ins C dx fs => obtain ⟨_, _, _, e, _⟩ := z; exact ⟨_, e⟩
        | own y => obtain ⟨_, e⟩ := z; exact ⟨_, e⟩
        | xd fs => obtain ⟨_, ⟨_, _, _, e, _⟩, _⟩ := z; exact ⟨_, e⟩
        | rng lo hi => obtain ⟨_, _, _, e⟩ := z; exact ⟨_, e⟩
        | frz ob u => obtain ⟨e, _⟩ := z; exact ⟨_, e⟩
        | tbl ps => exact ⟨_, (show s.heap.get? D = some _ from z)⟩
        | met f y => exact ⟨_, (show s.heap.get? D = some _ from z)⟩
        | ext φ => obtain ⟨_, ⟨_, e⟩, _⟩ := z; exact ⟨_, e⟩
      obtain ⟨v, e⟩ := this
      exact absurd rfl (k D v e).2
  refine ⟨hn, I.un ⟨fun b u q _ _ _ => (k b u q).1, fun b u q _ _ _ => ⟨u.slots, (k b u q).1⟩, fun b u q n _ => ?_, fun b u q _ => ⟨u, (k b u q).1⟩, fun b xs q => ?_, fun b u xs q => ?_, fun b ps q => ⟨#[], ?_⟩⟩ fun b u q => ?_⟩
  · rw [upd_ne (k b u q).2]; exact n
  · rw [upd_ne (ne_of_none q hn)]; exact q
  · rw [upd_ne (ne_of_none q hn)]; exact q
  · rw [upd_ne (ne_of_none q hn), q]; simp
  · by_cases hb : b = D
    · subst hb
      rw [upd_same] at q
      cases q
      exact new
    · rw [upd_ne hb] at q
      exact (I.hok b u q).stay (fun c v _ r => (k c v r).1) (fun c r => by rw [upd_ne (ne_of_none r hn)]; exact r) fun c xs r => by rw [upd_ne (ne_of_none r hn)]; exact r
/-- head, *rest = a tuple of one item at least: rest is a new list -/
def gStar (K : PySem.W.Frag) (t : TGs) : TG := fun v σ H Q => ∃ a x xs, v = .ref a ∧ SqT K H a (x :: xs) ∧ xs.length < 1000 ∧ ∀ p, H p = none → t [x, .ref p] σ (upd H p (.lst xs)) Q
theorem pg_star {es : List Expr} {k : Nat} {pos : Pos} {t : TGs} (hc : X.calm = true) (h : PGs X es t) (hn : (assignEach es X.env).length = 2 := by rfl) (hst : (assignEach es X.env).findIdx? (·.1) = some 1 := by rfl) :
    PG X (.Tuple es k pos) (gStar X.K t) := by
  refine ⟨fun pins s σ H v u Q I r hw => ?_⟩
  obtain ⟨a, x, xs, rfl, hq, hl, hw⟩ := hw
  cases r
  obtain ⟨its, rv, ht, hz⟩ := I.tuple hq
  cases rv with
  | @cons x u xs us r rr =>
    have hll := rr.length
    rw [assign_Tuple]
    refine wpAny_bind (wpAny_standAt ?_)
    unfold unpack
    rw [hn, hst]
    refine wpAny_bind (wpAny_holding (unpack_star (I.ok.hd hc) ht (by simp) (by simp; omega) fun h' tk D kp hD => ?_))
    have e1 : (List.drop 1 (u :: us).toArray.toList) = us := by simp
    rw [e1] at hD
    have e2 : List.take 1 (u :: us).toArray.toList ++ [Value.ref D] = [u, Value.ref D] := by simp
    rw [e2]
    obtain ⟨hn', I'⟩ := inv_laid (t' := tk) (o := .lst xs) I kp ⟨by rw [sizeLine_eq]; omega, us, 0, rr, hD⟩
    exact h.run pins _ σ _ _ _ Q I' (.cons r (.cons (show RelV (V.ref D) (Value.ref D) from rfl) .nil)) (hw D hn')
/-- the starred name -/
theorem pgs_starName {i : Nat} {x : Str} {p p2 : Pos} (hN : X.N.Nodup) (hi : X.N[i]? = some x) (hx : Loc X.env.scope x) (hf : X.fn x = true ∨ X.env.scope.names.lookup x = some .local := by first | exact .inl rfl | exact .inr rfl | assumption) :
    PGs X [.Starred (.Name x p) p2] (gCons (gName i) gNil) := by
  have h0 : PG X (.Name x p) (gName i) := pg_name hN hi hx hf
  refine ⟨fun pins s σ H vs us Q I r h => ?_⟩
  exact (pgs_cons h0 pgs_nil).run pins s σ H vs us Q I r h
end
end Lw
end
section
set_option Elab.async false
set_option linter.all false
set_option maxRecDepth 100000
set_option maxHeartbeats 1000000
/-! Rules over data: comparison, in, items, slices, lengths, isinstance, walks. -/
namespace Lw
open PySem PySem.Spec PyProof.Rows L2
section
variable {X : Cx} {pins : List (Addr × Obj)} {σ : L2.St} {H : Hp} {s : Shared}
theorem Im.reads {v : V} {d : PyData} {u : Value} (h : Im X.K H v d) (I : Inv X pins σ H s) (r : RelV v u) : ∃ as, Reads s.heap u d as := Dp.reads I d v u h.dp r
end
section
variable {X : Cx}
/-! ### == and != -/
def rEqE (K : PySem.W.Frag) : R2 := fun x y H Q => ∃ (α : Type) (i : DecidableEq α) (e : α → PyData) (n : Nat) (a b : α), EncOk e n ∧ n ≤ 60 ∧ Im K H x (e a) ∧ Im K H y (e b) ∧ Q (.bl (decide (a = b))) H
def rNeE (K : PySem.W.Frag) : R2 := fun x y H Q => ∃ (α : Type) (i : DecidableEq α) (e : α → PyData) (n : Nat) (a b : α), EncOk e n ∧ n ≤ 60 ∧ Im K H x (e a) ∧ Im K H y (e b) ∧ Q (.bl (!decide (a = b))) H
theorem op_eqE (hu : X.A.units + 64 < cLine) : OpR X (compareOp .Eq) (rEqE X.K) := fun pins s σ H x y v u Q I rx ry h => by
  obtain ⟨α, i, e, n, a, b, ok, hn, ha, hb, q⟩ := h
  exact op_eqD hu pins s σ H x y v u Q I rx ry ⟨e a, e b, ha.dp, hb.dp, ok.shaped (by omega) a, ok.shaped (by omega) b, by rw [ok.eqv]; exact q⟩
theorem op_neE (hu : X.A.units + 64 < cLine) : OpR X (compareOp .NotEq) (rNeE X.K) := fun pins s σ H x y v u Q I rx ry h => by
  obtain ⟨α, i, e, n, a, b, ok, hn, ha, hb, q⟩ := h
  exact op_neD hu pins s σ H x y v u Q I rx ry ⟨e a, e b, ha.dp, hb.dp, ok.shaped (by omega) a, ok.shaped (by omega) b, by rw [ok.eqv]; exact q⟩
/-! ### in and not in -/
theorem any_eqv {α : Type} [DecidableEq α] {e : α → PyData} {n : Nat} (ok : EncOk e n) (a : α) : ∀ l : List α, ((l.map e).any fun y => PyData.eqv y (e a)) = decide (a ∈ l)
  | [] => by simp
  | b :: l => by
    rw [List.map_cons, List.any_cons, any_eqv ok a l, ok.eqv]
    by_cases h1 : b = a
    · subst h1; simp
    · simp [h1, Ne.symm h1]
def rInE (neg : Bool) (K : PySem.W.Frag) : R2 := fun x y H Q => ∃ (α : Type) (i : DecidableEq α) (e : α → PyData) (n : Nat) (a : α) (l : List α), EncOk e n ∧ n ≤ 60 ∧ Im K H x (e a) ∧ (Im K H y (eT e l) ∨ Im K H y (eL e l)) ∧
  Q (.bl (if neg then !decide (a ∈ l) else decide (a ∈ l))) H
theorem room_dep {A : Around} {ds : List PyData} {d : PyData} {n : Nat} (h1 : d.depth ≤ n) (hn : n ≤ 60) (hu : A.units + 64 < cLine) : A.units + 1 + min (PyData.depthAll ds) d.depth < cLine := by
  have := Nat.min_le_right (PyData.depthAll ds) d.depth
  omega
theorem op_inE (hu : X.A.units + 64 < cLine) : OpR X (compareOp .In) (rInE false X.K) := fun pins s σ H x y v u Q I rx ry h => by
  obtain ⟨α, i, e, n, a, l, ok, hn, ha, hl, q⟩ := h
  obtain ⟨as, r1⟩ := ha.reads I rx
  have q : Q (.bl (decide (a ∈ l))) H := q
  rw [← any_eqv ok] at q
  rcases hl with hl | hl
  · obtain ⟨bs, r2⟩ := hl.reads I ry
    exact SeqAt.in_tuple_reads r2 r1 (ok.layAll l) (ok.lay a) (room_dep (ok.dep a) hn hu) ⟨.bl _, H, I, rfl, q⟩
  · obtain ⟨bs, r2⟩ := hl.reads I ry
    exact SeqAt.in_list_reads r2 r1 (ok.layAll l) (ok.lay a) (room_dep (ok.dep a) hn hu) ⟨.bl _, H, I, rfl, q⟩
theorem op_notInE (hu : X.A.units + 64 < cLine) : OpR X (compareOp .NotIn) (rInE true X.K) := fun pins s σ H x y v u Q I rx ry h => by
  obtain ⟨α, i, e, n, a, l, ok, hn, ha, hl, q⟩ := h
  obtain ⟨as, r1⟩ := ha.reads I rx
  have q : Q (.bl (!decide (a ∈ l))) H := q
  rw [← any_eqv ok] at q
  rcases hl with hl | hl
  · obtain ⟨bs, r2⟩ := hl.reads I ry
    exact SeqAt.notIn_tuple_reads r2 r1 (ok.layAll l) (ok.lay a) (room_dep (ok.dep a) hn hu) ⟨.bl _, H, I, rfl, q⟩
  · obtain ⟨bs, r2⟩ := hl.reads I ry
    exact SeqAt.notIn_list_reads r2 r1 (ok.layAll l) (ok.lay a) (room_dep (ok.dep a) hn hu) ⟨.bl _, H, I, rfl, q⟩
/-! ### the order of tuples of ints -/
theorem lexLt_eq : ∀ a b : List Int, HT.lexLt a b = decide (a < b)
  | [], [] => by rw [HT.lexLt_nil_nil]; exact (decide_eq_false (List.lt_irrefl [])).symm
  | [], b :: bs => by rw [HT.lexLt_nil_cons]; exact (decide_eq_true (List.nil_lt_cons b bs)).symm
  | a :: as, [] => by rw [HT.lexLt_cons_nil]; exact (decide_eq_false (by simp)).symm
  | a :: as, b :: bs => by
    rw [HT.lexLt_cons, lexLt_eq as bs]
    by_cases h : a = b
    · subst h
      rw [if_pos rfl]
      simp [List.cons_lt_cons_iff]
    · rw [if_neg h]
      simp [List.cons_lt_cons_iff, h]
def rLtW (K : PySem.W.Frag) : R2 := fun x y H Q => ∃ a b : List Int, Im K H x (eW a) ∧ Im K H y (eW b) ∧ Q (.bl (decide (a < b))) H
theorem op_ltW (hu : X.A.units < cLine) : OpR X (compareOp .Lt) (rLtW X.K) := fun pins s σ H x y v u Q I rx ry h => by
  obtain ⟨a, b, ha, hb, q⟩ := h
  obtain ⟨p, xs, rfl, h1, h2⟩ := Im.tup_inv ha
  obtain ⟨p', ys, rfl, h3, h4⟩ := Im.tup_inv hb
  rw [ImAll.ints h2] at h1
  rw [ImAll.ints h4] at h3
  exact op_ltT hu pins s σ H _ _ v u Q I rx ry ⟨p, p', a, b, rfl, rfl, h1, h3, by rw [lexLt_eq]; exact q⟩
/-! ### items -/
def rIxD (K : PySem.W.Frag) : R2 := fun x y H Q => ∃ ds i d, (Im K H x (.tuple ds) ∨ Im K H x (.list ds)) ∧ y = .int i ∧ atI ds i = some d ∧ ∀ v, Im K H v d → Q v H
theorem atI_all {K : PySem.W.Frag} {vs : List V} {ds : List PyData} {i : Int} {d : PyData} (h : ImAll K H vs ds) (e : atI ds i = some d) : ∃ v, atI vs i = some v ∧ Im K H v d := by
  unfold atI at e ⊢
  rw [← h.length] at e
  cases q : ixN vs.length i with
  | none => rw [q] at e; cases e
  | some j =>
    rw [q] at e
    exact h.get e
theorem ix_D : IxR X (rIxD X.K) := fun va sl pins s σ H x y v u Q I rx ry h hs => by
  obtain ⟨ds, i, d, hx, rfl, e, q⟩ := h
  rcases hx with hx | hx
  · obtain ⟨p, xs, rfl, h1, h2⟩ := hx.tup_inv
    obtain ⟨w, e2, hw⟩ := atI_all h2 e
    exact ix_tup va sl pins s σ H _ _ v u Q I rx ry ⟨p, xs, i, w, rfl, rfl, h1, e2, q w hw⟩ hs
  · obtain ⟨p, xs, rfl, h1, h2⟩ := hx.lst_inv
    obtain ⟨w, e2, hw⟩ := atI_all h2 e
    exact ix_list va sl pins s σ H _ _ v u Q I rx ry ⟨p, xs, i, w, rfl, rfl, SqL.of h1, e2, q w hw⟩ hs
theorem atI_map {α β : Type} {f : α → β} {l : List α} {i : Int} {a : α} (h : atI l i = some a) : atI (l.map f) i = some (f a) := by
  unfold atI at h ⊢
  rw [List.length_map]
  cases q : ixN l.length i with
  | none => rw [q] at h; cases h
  | some j =>
    rw [q] at h
    have h : l[j]? = some a := h
    show (l.map f)[j]? = some (f a)
    rw [List.getElem?_map, h]; rfl
theorem atI_nn {α : Type} {l : List α} {i : Int} {a : α} (h0 : 0 ≤ i) (h : l[i.toNat]? = some a) : atI l i = some a := by
  have e : i = ((i.toNat : Nat) : Int) := by omega
  rw [e]
  exact atI_nat (by simpa using h)
theorem atI_neg1 {α : Type} {l : List α} {a : α} (h : l.getLast? = some a) : atI l (-1) = some a := by
  obtain ⟨ys, rfl⟩ := List.getLast?_eq_some_iff.mp h
  exact atI_last ys a
/-! ### slices -/
def cutD {α : Type} (xs : List α) (lo hi : Option Int) : List α := (xs.drop (HT.sIx xs.length 0 lo)).take (HT.sIx xs.length xs.length hi - HT.sIx xs.length 0 lo)
theorem ImAll.cut {K : PySem.W.Frag} {vs : List V} {ds : List PyData} (h : ImAll K H vs ds) (lo hi : Option Int) : ImAll K H (cutV vs lo hi) (cutD ds lo hi) := by
  unfold cutV cutD
  rw [h.length]
  exact (h.drop _).take _
theorem cutD_map {α β : Type} (f : α → β) (l : List α) (lo hi : Option Int) : cutD (l.map f) lo hi = (cutD l lo hi).map f := by
  unfold cutD; rw [List.length_map, List.map_take, List.map_drop]
theorem cutD_from {α : Type} (l : List α) (k : Nat) : cutD l (some (k : Int)) none = l.drop k := by
  unfold cutD
  rw [HT.sIx_nat, HT.sIx_none]
  by_cases h : k ≤ l.length
  · rw [Nat.min_eq_left h, List.take_of_length_le (by simp)]
  · rw [Nat.min_eq_right (by omega), List.drop_of_length_le (by omega), List.drop_of_length_le (by omega)]; simp
theorem cutD_to {α : Type} (l : List α) (k : Nat) : cutD l none (some (k : Int)) = l.take k := by
  unfold cutD
  rw [HT.sIx_nat, HT.sIx_none, List.drop_zero, Nat.sub_zero]
  by_cases h : k ≤ l.length
  · rw [Nat.min_eq_left h]
  · rw [Nat.min_eq_right (by omega), List.take_of_length_le (by omega), List.take_of_length_le (by omega)]
theorem cutD_mid {α : Type} (l : List α) (a b : Nat) : cutD l (some (a : Int)) (some (b : Int)) = (l.drop a).take (b - a) := by
  unfold cutD
  rw [HT.sIx_nat, HT.sIx_nat]
  by_cases h : a ≤ l.length
  · rw [Nat.min_eq_left h]
    by_cases h2 : b ≤ l.length
    · rw [Nat.min_eq_left h2]
    · rw [Nat.min_eq_right (by omega), List.take_of_length_le (by simp), List.take_of_length_le (by simp; omega)]
  · rw [Nat.min_eq_right (show l.length ≤ a by omega), List.drop_of_length_le (Nat.le_refl l.length), List.drop_of_length_le (show l.length ≤ a by omega)]; simp
def rSlD (K : PySem.W.Frag) : V → Option Int → Option Int → Hp → VK → Prop := fun x lo hi H Q =>
  (∃ ds, Im K H x (.tuple ds) ∧ ∀ v H', Same H H' → Im K H' v (.tuple (cutD ds lo hi)) → Q v H') ∨ (∃ ds, Im K H x (.list ds) ∧ ∀ p H', Same H H' → H p = none → Im K H' (.ref p) (.list (cutD ds lo hi)) → Q (.ref p) H')
theorem sl_D : SlR X (rSlD X.K) := fun pins s σ H x v vl vu lo hi sl Q I rx hs pl pu h => by
  rcases h with ⟨ds, hx, q⟩ | ⟨ds, hx, q⟩
  · obtain ⟨a, xs, rfl, h1, h2⟩ := Im.tup_inv hx
    cases rx
    obtain ⟨its, r, ht, hz⟩ := I.tuple h1
    have hlen : its.toArray.size = xs.length := by rw [List.size_toArray]; exact r.length.symm
    refine ⟨"tuple", _, PyProof.Rows.slot_tuple_getitem.lookup, ht.typeIs, ?_⟩
    by_cases hw : HT.sIx xs.length 0 lo = 0 ∧ HT.sIx xs.length xs.length hi = xs.length
    · have e : cutD ds lo hi = ds := by
        unfold cutD
        rw [← h2.length, hw.1, hw.2, List.drop_zero, Nat.sub_zero, h2.length, List.take_length]
      exact getItem_tuple_whole ht hs pl pu (by rw [hlen]; exact hw) ⟨.ref a, H, I, rfl, q _ _ (Same.refl H) (by rw [e]; exact hx)⟩
    · refine HT.getItem_tuple_cut ht hs pl pu (by rw [hlen]; exact hw) ?_ (by rw [hlen]; exact hz)
      rw [hlen]
      have rc := (r.drop (HT.sIx xs.length 0 lo)).take (HT.sIx xs.length xs.length hi - HT.sIx xs.length 0 lo)
      obtain ⟨I', hp⟩ := laid_tup I rc (Nat.le_trans (cutV_length xs lo hi) hz)
      exact ⟨.ref s.heap.objs.size, _, I', rfl, q _ _ (Same.new hp) (.made upd_same ((h2.cut lo hi).same (Same.new hp)))⟩
  · obtain ⟨a, xs, rfl, h1, h2⟩ := Im.lst_inv hx
    exact sl_list pins s σ H _ v vl vu lo hi sl Q I rx hs pl pu ⟨a, xs, rfl, SqL.of h1, fun p hp => q p _ (Same.new hp) hp (.lst upd_same ((h2.cut lo hi).same (Same.new hp)))⟩
/-! ### lengths, conversions -/
def rLenD (K : PySem.W.Frag) : List V → Hp → VK → Prop := fun xs H Q => ∃ x ds, xs = [x] ∧ (Im K H x (.tuple ds) ∨ Im K H x (.list ds)) ∧ Q (.int ds.length) H
theorem call_lenD : CallR X (.builtin "len") (rLenD X.K) := fun pins s σ H xs us Q I r h => by
  obtain ⟨x, ds, rfl, hx, q⟩ := h
  rcases hx with hx | hx
  · obtain ⟨p, ys, rfl, h1, h2⟩ := hx.tup_inv
    exact call_len_seq pins s σ H _ us Q I r ⟨p, ys, rfl, .inr h1, by rw [h2.length]; exact q⟩
  · obtain ⟨p, ys, rfl, h1, h2⟩ := hx.lst_inv
    exact call_len_seq pins s σ H _ us Q I r ⟨p, ys, rfl, .inl (SqL.of h1), by rw [h2.length]; exact q⟩
def rListD' (K : PySem.W.Frag) : List V → Hp → VK → Prop := fun xs H Q => ∃ x ds, xs = [x] ∧ (Im K H x (.tuple ds) ∨ Im K H x (.list ds)) ∧ ∀ p H', Same H H' → H p = none → Im K H' (.ref p) (.list ds) → Q (.ref p) H'
theorem call_listD : CallR X (.type "list") (rListD' X.K) := fun pins s σ H xs us Q I r h => by
  obtain ⟨x, ds, rfl, hx, q⟩ := h
  rcases hx with hx | hx
  · obtain ⟨p, ys, rfl, h1, h2⟩ := hx.tup_inv
    exact call_list_of pins s σ H _ us Q I r ⟨p, ys, rfl, .inr h1, fun l hl => q l _ (Same.new hl) hl (.lst upd_same (h2.same (Same.new hl)))⟩
  · obtain ⟨p, ys, rfl, h1, h2⟩ := hx.lst_inv
    exact call_list_of pins s σ H _ us Q I r ⟨p, ys, rfl, .inl (SqL.of h1), fun l hl => q l _ (Same.new hl) hl (.lst upd_same (h2.same (Same.new hl)))⟩
def rTupD (K : PySem.W.Frag) : List V → Hp → VK → Prop := fun xs H Q => ∃ x ds, xs = [x] ∧ (Im K H x (.tuple ds) ∨ Im K H x (.list ds)) ∧ ∀ v H', Same H H' → Im K H' v (.tuple ds) → Q v H'
theorem call_tupD : CallR X (.type "tuple") (rTupD X.K) := fun pins s σ H xs us Q I r h => by
  obtain ⟨x, ds, rfl, hx, q⟩ := h
  rcases hx with hx | hx
  · obtain ⟨p, ys, rfl, h1, h2⟩ := hx.tup_inv
    exact call_tuple_of pins s σ H _ us Q I r ⟨p, ys, rfl, .inr ⟨h1, q _ _ (Same.refl H) hx⟩⟩
  · obtain ⟨p, ys, rfl, h1, h2⟩ := hx.lst_inv
    obtain ⟨u, rfl, rx⟩ := r.one
    cases rx
    obtain ⟨its, r', pl, hz⟩ := I.list (SqL.of h1)
    have hlen := r'.length
    refine call_tuple_list pl.isList (fun h' kp => ?_) (by simp only [List.size_toArray] <;> omega)
    have I1 : Inv X pins σ H { s with heap := h' } := I.kept (t' := s.toks) kp
    obtain ⟨I', hp⟩ := laid_tup I1 r' hz
    exact ⟨.ref h'.objs.size, _, I', rfl, q _ _ (Same.new hp) (.made upd_same (h2.same (Same.new hp)))⟩
/-! ### isinstance -/
def isTy : String → PyData → Bool
  | "int", .int _ => true
  | "tuple", .tuple _ => true
  | _, _ => false
def rIsiD (K : PySem.W.Frag) : List V → Hp → VK → Prop := fun xs H Q => ∃ x n d, xs = [x, .ty n] ∧ Im K H x d ∧ (n = "int" ∨ n = "bool" ∨ n = "tuple") ∧ ((∃ i, d = .int i) ∨ ∃ ds, d = .tuple ds) ∧ Q (.bl (isTy n d)) H
theorem call_isiD : CallR X (.builtin "isinstance") (rIsiD X.K) := fun pins s σ H xs us Q I r h => by
  obtain ⟨x, n, d, rfl, hx, hn, hd, q⟩ := h
  rcases hd with ⟨i, rfl⟩ | ⟨ds, rfl⟩
  · cases hx
    rcases hn with rfl | rfl | rfl
    · exact call_isi pins s σ H _ us Q I r ⟨_, _, _, _, true, rfl, .ty _, .base (.int i), kit_ty (by decide +kernel), q⟩
    · exact call_isi pins s σ H _ us Q I r ⟨_, _, _, _, false, rfl, .ty _, .base (.int i), kit_ty (by decide +kernel), q⟩
    · exact call_isi pins s σ H _ us Q I r ⟨_, _, _, _, false, rfl, .ty _, .base (.int i), kit_ty (by decide +kernel), q⟩
  · have ty : ∃ a, x = .ref a ∧ TyX X.K H (.ref a) (.type "tuple") := by
      cases hx with
      | tup h1 h2 h3 => exact ⟨_, rfl, .fTuple h1⟩
      | tupK o n h1 h2 h3 h4 => exact ⟨_, rfl, .kTuple h1 h2⟩
    obtain ⟨a, rfl, ty⟩ := ty
    rcases hn with rfl | rfl | rfl
    · exact call_isi pins s σ H _ us Q I r ⟨_, _, _, _, false, rfl, .ty _, ty, kit_ty (by decide +kernel), q⟩
    · exact call_isi pins s σ H _ us Q I r ⟨_, _, _, _, false, rfl, .ty _, ty, kit_ty (by decide +kernel), q⟩
    · exact call_isi pins s σ H _ us Q I r ⟨_, _, _, _, true, rfl, .ty _, ty, kit_ty (by decide +kernel), q⟩
end
end Lw
end
section
set_option Elab.async false
set_option linter.all false
set_option maxRecDepth 100000
set_option maxHeartbeats 2000000
/-! enumerate of a tuple; walks told by one rule for lists, tuples; loops and comprehensions over data. -/
namespace Lw
open PySem PySem.Spec PyProof.Rows L2

/-! ### enumerate(tuple) -/
theorem enum_new1 {v : Value} {o : Obj} {G : Heap → Prop} (B : Begins v o G) :
    Meets (Builtin.«enumerate.__new__» ⟨[.type "enumerate", v], []⟩) (fun _ R s => G s.heap ∧
      R (.ok (.ret (.ref (s.heap.push o).objs.size))) { s with heap := (s.heap.push o).push { cls := .type "enumerate", data := .fields #[.none, .bool false, .ref s.heap.objs.size, rawInt 0, .none, .none] } }) :=
  .of_wp fun prog w A R s h => by
    obtain ⟨hp, g, d, tk, os⟩ := s
    obtain ⟨h1, h⟩ := h
    have hsub := sub_enumerate
    have q1 : ∀ {A' : Around} {E : Value → Shared → Prop} {Q : Value → Shared → Prop}, Q (.ref hp.objs.size) ⟨hp.push o, g, d, tk, os⟩ → wpAny (model prog w) A' (pyIter v) Q E ⟨hp, g, d, tk, os⟩ :=
      fun q => B.iter prog w _ _ ⟨hp, g, d, tk, os⟩ _ h1 q
    wp_walk using q1
    refine wpAny_stack_any fun st => wpAny_pure ?_
    split
    · rename_i c _ _ _ _ _
      cases (c == Value.type "enumerate") <;> (wp_walk using q1; exact ⟨_, rfl, h⟩)
    · wp_walk using q1
      exact ⟨_, rfl, h⟩
section
variable {prog : Program} {w : World} {A : Around} {E : Value → Shared → Prop} {s : Shared}
theorem enum_call1 {v : Value} {o : Obj} {G : Heap → Prop} {Q : Value → Shared → Prop} (B : Begins v o G) (h1 : G s.heap)
    (h : ∀ h', IsEnum h' (s.heap.objs.size + 1) s.heap.objs.size 0 .none → h'.get? s.heap.objs.size = some o → h'.objs.size = s.heap.objs.size + 2 →
      (∀ b ob, s.heap.get? b = some ob → h'.get? b = some ob) → Q (.ref (s.heap.objs.size + 1)) { s with heap := h' }) :
    wpAny (model prog w) A (call (.type "enumerate") [v]) Q E s := by
  refine callType_new F.called_enumerate (by decide) (F.typeCall_enumerate_1 _) (F.newCall_enumerate_1 _) (fun obj => F.args_object_init_2 obj _) F.entry_enumerate_new (enum_new1 B) ⟨h1, ?_⟩
  have hz : (s.heap.push o).objs.size = s.heap.objs.size + 1 := Heap.size_push ..
  show _ ∧ _
  rw [hz]
  have he : IsEnum ((s.heap.push o).push { cls := .type "enumerate", data := .fields #[.none, .bool false, .ref s.heap.objs.size, rawInt 0, .none, .none] }) (s.heap.objs.size + 1) s.heap.objs.size 0 .none := by
    have q := Heap.get?_push_size (s.heap.push o) (o := { cls := .type "enumerate", data := .fields #[.none, .bool false, .ref s.heap.objs.size, rawInt 0, .none, .none] }) rfl
    rw [hz] at q
    exact q
  exact ⟨⟨_, he, rfl⟩, h _ he (Heap.get?_push_of_some _ (Heap.get?_push_size _ B.free)) (by rw [Heap.size_push, hz]) fun b ob x => Heap.get?_push_of_some _ (Heap.get?_push_of_some _ x)⟩
end
def IteT (K : PySem.W.Frag) (a : Addr) : It :=
  ⟨fun i H => ∃ (xs : List V) (x : V), SqT K H a xs ∧ xs[i]? = some x, fun i H v H' => ∃ T x, v = .ref T ∧ H T = none ∧ H' = upd H T (.tup [.int (i : Nat), x]) ∧ ∀ xs, SqT K H a xs → xs[i]? = some x, fun i H => ∃ xs : List V, SqT K H a xs ∧ xs.length ≤ i⟩
theorem turn_enumT {P : Program} {w : World} {K : PySem.W.Frag} {elts : List Expr} {kk : Nat} {tpos : Pos} (a e it : Addr) :
    Turn P w K (.Tuple elts kk tpos) (IteT K a) [e, it] e (fun i h => (∃ old, IsEnum h e it ((i : Nat) : Int) old) ∧ h.IsTupleIter it a i ∧ e ≠ it ∧ a ≠ it ∧ e ≠ a) where
  mem := by simp
  obj := fun i h st b hb => by
    obtain ⟨⟨old, he⟩, ⟨o, ho, hc, hd⟩, _⟩ := st
    have q : b = e ∨ b = it := by simpa using hb
    rcases q with rfl | rfl
    · exact ⟨_, he, fun v q => nomatch q⟩
    · exact ⟨o, ho, fun v q => by rw [hd] at q; cases q⟩
  keep := fun i h h' st k => let ⟨⟨old, he⟩, hi, hne⟩ := st; ⟨⟨old, k e (by simp) _ he⟩, hi.at fun o q => k it (by simp) o q, hne⟩
  item := by
    intro X hP hw hK hc i pins s σ H E I hf st hg
    subst hP hw hK
    obtain ⟨⟨old, he⟩, hit, hne, hai, hea⟩ := st
    obtain ⟨xs, x, hq, hx⟩ := hg
    obtain ⟨its, rv, p, hz⟩ := I.tuple hq
    obtain ⟨u, hu, ru⟩ := rv.get hx
    have hel : e < s.heap.objs.size := Heap.lt_size he
    have hil : it < s.heap.objs.size := by obtain ⟨_, q, _⟩ := hit; exact Heap.lt_size q
    have hi : i < its.toArray.size := by
      obtain ⟨q, _⟩ := List.getElem?_eq_some_iff.mp hu
      simpa using q
    refine wpAny_pyNext_enum_itemC (Draws.tuple (A := X.A.in1) (I.ok.hd hc) it a hai its.toArray) he ⟨hit, p⟩ hi hne (by simp [hne, hea]) fun x' h' tk hp ho hst hT hsz hk => ?_
    have ex : x' = u := by
      have q : its.toArray[i]? = some x' := hp
      have q2 : its[i]? = some x' := by simpa using q
      rw [hu] at q2
      exact (Option.some.inj q2).symm
    subst ex
    refine ⟨_, rfl, wpAny_letOwnedTupleGo_enum (s := { s with heap := h', toks := tk + 1 }) ho fun h'' he' sb => ?_⟩
    have hT2 : h''.get? s.heap.objs.size = some { cls := .type "tuple", data := .seq #[.int i tk, x'] } := (sb.2 _ (Nat.ne_of_gt hel)).trans hT
    have new : ObjOk X.prog X.w (upd H s.heap.objs.size (.tup [.int (i : Nat), x])) h'' s.heap.objs.size (.tup [.int (i : Nat), x]) :=
      ⟨by show 2 ≤ sizeLine; decide, [.int i tk, x'], .cons ⟨_, rfl⟩ (.cons ru .nil), ⟨_, hT2, rfl, _, rfl⟩⟩
    have I1 : Inv X pins σ (upd H s.heap.objs.size (.tup [.int (i : Nat), x])) { s with heap := h'', toks := tk + 1 } :=
      I.turnedNew (ch := [e, it]) (fun b ob hb q => (sb.2 b (fun z => hb (by simp [z]))).trans (hk b ob (fun z => hb (by simp [z])) (fun z => hb (by simp [z])) q)) hf (Nat.le_refl _) new
    refine ⟨.ref s.heap.objs.size, _, I1, rfl, ⟨_, x, rfl, I.hok.fresh (Nat.le_refl _), rfl, fun ys hy => by rw [I.tuple_inj hy hq]; exact hx⟩, ⟨⟨x', ?_⟩, hst.1.at fun o q => (sb.2 it (Ne.symm hne)).trans q, hne, hai, hea⟩, fun b hb => ?_⟩
    · have e1 : ((i + 1 : Nat) : Int) = (i : Int) + 1 := by omega
      rw [e1]; exact he'
    · have hb' : b < s.heap.objs.size := by
        have q : b = e ∨ b = it := by simpa using hb
        rcases q with rfl | rfl
        · exact hel
        · exact hil
      rw [upd_ne (Nat.ne_of_lt hb')]
      exact (hf b hb).1
  done := by
    intro X hP hw hK hc i pins s σ H E I hf st hg
    subst hP hw hK
    obtain ⟨⟨old, he⟩, hit, hne, hai, hea⟩ := st
    obtain ⟨xs, hq, hx⟩ := hg
    obtain ⟨its, rv, p, hz⟩ := I.tuple hq
    obtain ⟨f0, f1, f2, f3, f4, f5⟩ := hf it (by simp)
    have hl := rv.length
    have hno : its.toArray[i]? = none := by
      rw [Array.getElem?_eq_none_iff]
      simp
      omega
    have hT : s.TypeIs (.ref e) "enumerate" := ⟨_, he, rfl⟩
    unfold pyNext
    refine wpAny_bind (wpAny_attempt (wpAny_callSpecial?_slot (name := Str.ofString "__next__") hT F.slot_enumerate_next
      (wpAny_call_entry F.slot_enumerate_next hT F.entry_enumerate_next ?_ (F.args_enumerate_next_1 _))))
    show wpAny _ _ (field (.ref e) 2 >>= _) _ _ _
    refine wpAny_bind (wpAny_field he rfl (x := .ref it) rfl (wpAny_bind (wpAny_nextOf_tuple_end (A := X.A.in1) (I.ok.hd hc) hit p hno fun h' x he' hx' => ?_)))
    obtain ⟨o, ho, hcx⟩ := hx'
    refine wpAny_bind (wpAny_isInstance (T := "StopIteration") (b := true) ⟨o, ho, hcx⟩ isSubtype_stop (wpAny_pure ?_))
    exact ⟨rfl, I.turned (t' := s.toks) (fun b o hb q => he' b o hb q) f0 f1 f3 f4 f5⟩
  self := fun A i s Q E st h => let ⟨⟨_, he⟩, _⟩ := st; wpAny_pyIter_enum he h
/-- enumerate of a list, of a tuple -/
def iEnumA (K : PySem.W.Frag) (ta : TA) : TI := fun σ H R => ta σ H fun vs H1 => ∃ a xs, vs = [.ref a] ∧ ((SqL K H1 a xs ∧ R (Ite K a) H1) ∨ (SqT K H1 a xs ∧ R (IteT K a) H1))
theorem pi_enumA {X : Cx} {e : Expr} {ta : TA} {p pos tpos : Pos} {elts : List Expr} {kk : Nat} (hg : Gl X "enumerate") (hm : X.mg "enumerate" = none) (ha : PA X [e] ta) (hs : starEach [e] X.env = [(false, eval e X.env)] := by rfl) :
    PI X (.Tuple elts kk tpos) (.Call (.Name "enumerate" p) [e] [] pos) (iEnumA X.K ta) := by
  refine ⟨fun pins s σ H R I h => ?_⟩
  refine Call_ (ld_blt I hg hm boot_enumerate (PyProof.Rows.callWith_type1 (thn (ha.run pos pins s σ H _ I h) fun us s1 ⟨vs, H1, I1, r1, q1⟩ => ?_) hs rfl))
  obtain ⟨a, xs, ex, q⟩ := q1
  subst ex
  cases r1 with
  | cons r rr =>
    cases rr
    cases r
    have le_of : ∀ b, b = s1.heap.objs.size + 1 ∨ b = s1.heap.objs.size → s1.heap.objs.size ≤ b := fun b q => by
      rcases q with rfl | rfl
      · exact Nat.le_add_right _ _
      · exact Nat.le_refl _
    rcases q with ⟨hq, q⟩ | ⟨hq, q⟩
    · obtain ⟨its, rv, p', hz⟩ := I1.list hq
      refine call_enumerate_list p'.isList fun h' he hit hsz hk => wpAny_pyIter_enum he ?_
      have I2 : Inv X pins σ H1 { s1 with heap := h' } := I1.kept (t' := s1.toks) hk
      refine ⟨s1.heap.objs.size + 1, [s1.heap.objs.size + 1, s1.heap.objs.size], _, _, H1, rfl, I2, turn_enum a (s1.heap.objs.size + 1) s1.heap.objs.size, ⟨⟨.none, he⟩, hit, Nat.succ_ne_self _⟩, fun b hb => ?_, q⟩
      have hle := le_of b (by simpa using hb)
      exact I1.fpOk hle (I1.hok.fresh hle)
    · obtain ⟨its, rv, p', hz⟩ := I1.tuple hq
      refine enum_call1 (begins_tuple a its.toArray) p' fun h' he hit hsz hk => wpAny_pyIter_enum he ?_
      have I2 : Inv X pins σ H1 { s1 with heap := h' } := I1.kept (t' := s1.toks) hk
      have hal : a < s1.heap.objs.size := p'.lt
      refine ⟨s1.heap.objs.size + 1, [s1.heap.objs.size + 1, s1.heap.objs.size], _, _, H1, rfl, I2, turn_enumT a (s1.heap.objs.size + 1) s1.heap.objs.size,
        ⟨⟨.none, he⟩, ⟨_, hit, rfl, rfl⟩, Nat.succ_ne_self _, Nat.ne_of_lt hal, Nat.ne_of_gt (Nat.lt_succ_of_lt hal)⟩, fun b hb => ?_, q⟩
      have hle := le_of b (by simpa using hb)
      exact I1.fpOk hle (I1.hok.fresh hle)
theorem walk_enumT {K : PySem.W.Frag} {a : Addr} {xs : List V} : Walk (IteT K a) xs.length (fun H => SqT K H a xs) (YPair (fun i => some (.int (i : Nat))) (fun i => xs[i]?)) := by
  refine ⟨fun i _ hi q => ⟨xs, xs[i], q, by simp [hi]⟩, fun _ q => ⟨xs, q, Nat.le_refl _⟩, fun i H v H' _ q y => ?_⟩
  obtain ⟨T, x, h1, h2, h3, h4⟩ := y
  exact ⟨T, .int (i : Nat), x, h1, h2, h3, rfl, h4 xs q⟩

/-! ### walks over data: a list or a tuple -/
def iSeq (K : PySem.W.Frag) (tl : TE) : TI := fun σ H R => tl σ H fun x H1 => ∃ a xs, x = .ref a ∧ ((SqL K H1 a xs ∧ R (Itl K a) H1) ∨ (SqT K H1 a xs ∧ R (Itt K a) H1))
theorem pi_seq {X : Cx} {tg l : Expr} {tl : TE} (hl : PE X l tl) : PI X tg l (iSeq X.K tl) := by
  refine ⟨fun pins s σ H R I h => ?_⟩
  refine thn (hl.run pins s σ H _ I h) fun v s1 ⟨x, H1, I1, r1, q1⟩ => ?_
  obtain ⟨a, xs, rfl, q⟩ := q1
  rcases q with ⟨hq, q⟩ | ⟨hq, q⟩
  · have pv : PE X (.Constant .none 0 ⟨0, 0, 0, 0⟩) (fun _ H Q => Q .non H) := pe_non
    cases r1
    obtain ⟨its, rv, p, hz⟩ := I1.list hq
    refine wpAny_pyIter_list p.isList ?_
    refine ⟨s1.heap.objs.size, [s1.heap.objs.size], _, _, H1, rfl, I1.kept (t' := s1.toks) fun b o e => Heap.get?_push_of_some _ e, turn_list a _, ⟨_, Heap.get?_push_size _ rfl, rfl, rfl⟩, fun b hb => ?_, q⟩
    have e : b = s1.heap.objs.size := by simpa using hb
    subst e
    exact I1.fpOk (Nat.le_refl _) (I1.hok.fresh (Nat.le_refl _))
  · cases r1
    obtain ⟨its, rv, p, hz⟩ := I1.tuple hq
    refine wpAny_pyIter_tuple (show s1.heap.IsTuple a its.toArray from p) ?_
    refine ⟨s1.heap.objs.size, [s1.heap.objs.size], _, _, H1, rfl, I1.kept (t' := s1.toks) fun b o e => Heap.get?_push_of_some _ e, turn_tuple a _, ⟨_, Heap.get?_push_size _ rfl, rfl, rfl⟩, fun b hb => ?_, q⟩
    have e : b = s1.heap.objs.size := by simpa using hb
    subst e
    exact I1.fpOk (Nat.le_refl _) (I1.hok.fresh (Nat.le_refl _))
end Lw
end
section
set_option Elab.async false
set_option linter.all false
set_option maxRecDepth 100000
set_option maxHeartbeats 2000000
/-! Loops and list comprehensions over data. -/
namespace Lw
open PySem PySem.Spec PyProof.Rows L2

/-- what a for asks of its walk; what a list comprehension asks -/
abbrev RFor (g : TG) (tb : TS) (D : Ends) (σ : L2.St) : It → Hp → Prop := fun J H1 => ∃ W : Nat → Nat → L2.St → Hp → Prop, (∃ m, W 0 m σ H1) ∧ ∀ i m σ H, W i m σ H →
  (J.stop i H ∧ D.nx σ H) ∨ (J.go i H ∧ ∃ N : L2.St → Hp → Prop, (∀ σ' H', N σ' H' → ∃ m', m' < m ∧ W (i + 1) m' σ' H') ∧ ∀ x H', J.yld i H x H' → g x σ H' fun σ2 H2 => tb { D with nx := N, ct := N, bk := D.nx } σ2 H2)
abbrev RLc (g : TG) (tt : TT) (te : TE) (vs : List Nat) (σ : L2.St) (Q : Addr → Hp → Prop) : It → Hp → Prop := fun J H1 => ∀ D, H1 D = none → ∃ W : Nat → Nat → Hp → Prop, (∃ m, W 0 m (upd H1 D (.lst []))) ∧ ∀ i m H, W i m H →
  (J.stop i H ∧ Q D H) ∨ (J.go i H ∧ ∃ Nx : Hp → Prop, (∀ H', Nx H' → ∃ m', m' < m ∧ W (i + 1) m' H') ∧ ∀ x H', J.yld i H x H' → g x (wipe σ vs) H' fun σ2 H2 => wipe σ2 vs = wipe σ vs ∧ tt σ2 H2 fun b H3 =>
    if b = true then te σ2 H3 fun y H4 => ∃ acc, H4 D = some (.lst acc) ∧ acc.length < sizeLine ∧ Nx (upd H4 D (.lst (acc ++ [y]))) else Nx H3)

section
variable {K : PySem.W.Frag} {g : TG} {tb : TS} {D : Ends} {σ : L2.St} {H : Hp} {a : Addr}
/-- for over a tuple of data -/
theorem for_tupD {x : V} {ds : List PyData} (hx : Im K H x (.tuple ds)) (Pv : Nat → L2.St → Hp → Prop) (h0 : Pv 0 σ H) (hk : ∀ i σ' H', Pv i σ' H' → TK H H')
    (hs : ∀ i d v σ' H', ds[i]? = some d → Im K H v d → Pv i σ' H' → g v σ' H' fun σ2 H2 => tb { D with nx := Pv (i + 1), ct := Pv (i + 1), bk := D.nx } σ2 H2) (hd : ∀ σ' H', Pv ds.length σ' H' → D.nx σ' H') :
    ∃ a xs, x = .ref a ∧ ((SqL K H a xs ∧ RFor g tb D σ (Itl K a) H) ∨ (SqT K H a xs ∧ RFor g tb D σ (Itt K a) H)) := by
  have key : ∀ a xs, SqT K H a xs → (∀ H', TK H H' → SqT K H' a xs) → ImAll K H xs ds → RFor g tb D σ (Itt K a) H := fun a xs h1 h2 h3 => by
    refine for_it (n := xs.length) walk_tup Pv h0 (fun i σ' H' _ p => h2 H' (hk i σ' H' p)) (fun i v σ' H' H'' hi p y => ?_) (fun σ' H' p => hd σ' H' (by rw [← h3.length]; exact p))
    obtain ⟨e, hv⟩ := y
    subst e
    obtain ⟨d, hdi, hvd⟩ := h3.getV hv
    exact hs i d v σ' _ hdi hvd p
  cases hx with
  | tup h d t => exact ⟨_, _, rfl, .inr ⟨.inl (.inr ⟨_, h⟩), key _ _ (.inl (.inr ⟨_, h⟩)) (fun H' q => .inl (.inr ⟨_, q _ _ _ h⟩)) t⟩⟩
  | tupK o n h1 h2 h3 h4 => exact ⟨_, _, rfl, .inr ⟨Im.sqt h1 h2 h3, key _ _ (Im.sqt h1 h2 h3) (fun H' q => Im.sqt h1 h2 h3) .nil⟩⟩
/-- for over a list of data that stays -/
theorem for_lstD {x : V} {ds : List PyData} (hx : Im K H x (.list ds)) (Pv : Nat → L2.St → Hp → Prop) (h0 : Pv 0 σ H) (hk : ∀ i σ' H', Pv i σ' H' → ∀ a, x = .ref a → H' a = H a)
    (hs : ∀ i d v σ' H', ds[i]? = some d → Im K H v d → Pv i σ' H' → g v σ' H' fun σ2 H2 => tb { D with nx := Pv (i + 1), ct := Pv (i + 1), bk := D.nx } σ2 H2) (hd : ∀ σ' H', Pv ds.length σ' H' → D.nx σ' H') :
    ∃ a xs, x = .ref a ∧ ((SqL K H a xs ∧ RFor g tb D σ (Itl K a) H) ∨ (SqT K H a xs ∧ RFor g tb D σ (Itt K a) H)) := by
  obtain ⟨a, xs, rfl, h1, h3⟩ := hx.lst_inv
  refine ⟨a, xs, rfl, .inl ⟨SqL.of h1, for_it (n := xs.length) (walk_list (xs := xs)) Pv h0 (fun i σ' H' _ p => SqL.of (by rw [hk i σ' H' p a rfl]; exact h1)) (fun i v σ' H' H'' hi p y => ?_) (fun σ' H' p => hd σ' H' (by rw [← h3.length]; exact p))⟩⟩
  obtain ⟨e, hv⟩ := y
  subst e
  obtain ⟨d, hdi, hvd⟩ := h3.getV hv
  exact hs i d v σ' _ hdi hvd p
end
section
variable {K : PySem.W.Frag} {g : TG} {tt : TT} {te : TE} {vs : List Nat} {σ : L2.St} {H1 : Hp} {Q : Addr → Hp → Prop} {J : It} {n : Nat} {G : Hp → Prop} {Y : Nat → Hp → V → Hp → Prop}
/-- a comprehension by what holds of the list so far -/
theorem lc_walk (w : Walk J n G Y) (hn : n ≤ sizeLine) (Pv : Addr → Nat → List V → Hp → Prop) (h0 : ∀ D, H1 D = none → Pv D 0 [] (upd H1 D (.lst []))) (hG : ∀ D i acc H, H D = some (.lst acc) → Pv D i acc H → G H)
    (hs : ∀ D i acc x H H' (QT : VK) (QF : Hp → Prop), H1 D = none → i < n → H D = some (.lst acc) → acc.length ≤ i → Pv D i acc H → Y i H x H' →
      (∀ y H4, H4 D = some (.lst acc) → Pv D (i + 1) (acc ++ [y]) (upd H4 D (.lst (acc ++ [y]))) → QT y H4) → (∀ H3, H3 D = some (.lst acc) → Pv D (i + 1) acc H3 → QF H3) →
      g x (wipe σ vs) H' fun σ2 H2 => wipe σ2 vs = wipe σ vs ∧ tt σ2 H2 fun b H3 => if b = true then te σ2 H3 QT else QF H3)
    (hd : ∀ D acc H, H1 D = none → H D = some (.lst acc) → acc.length ≤ n → Pv D n acc H → Q D H) : RLc g tt te vs σ Q J H1 := by
  intro D hD
  refine lc_it (Qd := fun H => Q D H) w (fun i H => ∃ acc, H D = some (.lst acc) ∧ acc.length ≤ i ∧ Pv D i acc H) ⟨[], upd_same, Nat.le_refl _, h0 D hD⟩ (fun i H _ ⟨acc, e, _, p⟩ => hG D i acc H e p) (fun i x H H' hi p y => ?_) (fun H ⟨acc, e, l, p⟩ => hd D acc H hD e l p)
  obtain ⟨acc, e, l, p⟩ := p
  exact hs D i acc x H H' _ _ hD hi e l p y (fun y H4 e4 p4 => ⟨acc, e4, by omega, acc ++ [y], upd_same, by simp; omega, p4⟩) (fun H3 e3 p3 => ⟨acc, e3, by omega, p3⟩)
/-- items without lists; nothing that stood is changed -/
theorem lc_flat (w : Walk J n G Y) (hn : n ≤ sizeLine) (f : Nat → Option PyData) (hf : ∀ i d, f i = some d → flat d = true) (hG : ∀ H', Same H1 H' → G H') (hY : ∀ i H x H', Y i H x H' → Same H H')
    (hs : ∀ i x H H' (QT : VK) (QF : Hp → Prop), i < n → Same H1 H → Y i H x H' → (∀ y H4 d, f i = some d → Same H' H4 → Im K H4 y d → QT y H4) → (∀ H3, f i = none → Same H' H3 → QF H3) →
      g x (wipe σ vs) H' fun σ2 H2 => wipe σ2 vs = wipe σ vs ∧ tt σ2 H2 fun b H3 => if b = true then te σ2 H3 QT else QF H3)
    (hd : ∀ p H', Same H1 H' → H1 p = none → Im K H' (.ref p) (.list ((List.range n).filterMap f)) → Q p H') : RLc g tt te vs σ Q J H1 := by
  have ffl : ∀ m, flatAll ((List.range m).filterMap f) = true := fun m => by
    induction m with
    | zero => rfl
    | succ m ih =>
      rw [List.range_succ, List.filterMap_append]
      have app : ∀ (xs ys : List PyData), flatAll xs = true → flatAll ys = true → flatAll (xs ++ ys) = true := fun xs ys hx hy => by
        induction xs with
        | nil => exact hy
        | cons x xs ih2 =>
          simp only [List.cons_append, flatAll, Bool.and_eq_true] at hx ⊢
          exact ⟨hx.1, ih2 hx.2⟩
      refine app _ _ ih ?_
      cases e : f m with
      | none => simp [e, flatAll]
      | some d => simp [e, flatAll, hf m d e]
  refine lc_walk w hn (fun D i acc H => Same H1 H ∧ ImAll K H acc ((List.range i).filterMap f)) (fun D hD => ⟨Same.new hD, .nil⟩) (fun D i acc H _ p => hG H p.1) (fun D i acc x H H' QT QF hD hi e l p y kT kF => ?_) (fun D acc H hD e l p => hd D H p.1 hD (.lst e p.2))
  have sy := hY i H x H' y
  have dne : ∀ b o, H1 b = some o → b ≠ D := fun b o q => ne_of_none q hD
  refine hs i x H H' _ _ hi p.1 y (fun z H4 d hfd s4 hz => kT z H4 (s4 _ _ (sy _ _ e)) ⟨fun b o q => ?_, ?_⟩) (fun H3 hfn s3 => kF H3 (s3 _ _ (sy _ _ e)) ⟨(p.1.trans sy).trans s3, ?_⟩)
  · rw [upd_ne (dne b o q)]; exact s4 _ _ (sy _ _ (p.1 _ _ q))
  · have tk : TK H4 (upd H4 D (.lst (acc ++ [z]))) := TK.upd (s4 _ _ (sy _ _ e)) (fun _ _ q => nomatch q)
    rw [List.range_succ, List.filterMap_append]
    have e1 : List.filterMap f [i] = [d] := by simp [hfd]
    rw [e1]
    exact (((p.2.same sy).same s4).tk tk (ffl i)).append (.one (hz.tk tk (hf i d hfd)))
  · rw [List.range_succ, List.filterMap_append]
    have e1 : List.filterMap f [i] = [] := by simp [hfn]
    rw [e1, List.append_nil]
    exact (p.2.same sy).same s3
end
/-! ### folds of places -/
theorem range_filterMap {α β : Type} (f : α → Option β) : ∀ l : List α, (List.range l.length).filterMap (fun i => (l[i]?).bind f) = l.filterMap f := by
  intro l
  have key : ∀ n, n ≤ l.length → (List.range n).filterMap (fun i => (l[i]?).bind f) = (l.take n).filterMap f := fun n => by
    induction n with
    | zero => intro _; simp
    | succ n ih =>
      intro hn
      rw [List.range_succ, List.filterMap_append, ih (by omega)]
      have e : l.take (n + 1) = l.take n ++ [l[n]] := by rw [List.take_append_getElem]
      rw [e, List.filterMap_append]
      have e2 : l[n]? = some l[n] := List.getElem?_eq_getElem (by omega)
      simp only [List.filterMap_cons, List.filterMap_nil, e2, Option.bind_some]
  have := key l.length (Nat.le_refl _)
  rwa [List.take_length] at this
section
variable {K : PySem.W.Frag} {g : TG} {tt : TT} {te : TE} {vs : List Nat} {σ : L2.St} {H1 : Hp} {Q : Addr → Hp → Prop}
/-- [f d for d in data if ..], items without lists -/
theorem lc_data {x : V} {ds : List PyData} (hx : Im K H1 x (.tuple ds) ∨ Im K H1 x (.list ds)) (hn : ds.length ≤ sizeLine) (f : PyData → Option PyData) (hf : ∀ d e, d ∈ ds → f d = some e → flat e = true)
    (hs : ∀ d v H' (QT : VK) (QF : Hp → Prop), d ∈ ds → Same H1 H' → Im K H' v d → (∀ y H4 e, f d = some e → Same H' H4 → Im K H4 y e → QT y H4) → (∀ H3, f d = none → Same H' H3 → QF H3) →
      g v (wipe σ vs) H' fun σ2 H2 => wipe σ2 vs = wipe σ vs ∧ tt σ2 H2 fun b H3 => if b = true then te σ2 H3 QT else QF H3)
    (hd : ∀ p H', Same H1 H' → H1 p = none → Im K H' (.ref p) (.list (ds.filterMap f)) → Q p H') :
    ∃ a xs, x = .ref a ∧ ((SqL K H1 a xs ∧ RLc g tt te vs σ Q (Itl K a) H1) ∨ (SqT K H1 a xs ∧ RLc g tt te vs σ Q (Itt K a) H1)) := by
  have key : ∀ (J : It) (a : Addr) (xs : List V) (G : Hp → Prop), Walk J xs.length G (YAt xs) → ImAll K H1 xs ds → (∀ H', Same H1 H' → G H') → RLc g tt te vs σ Q J H1 := fun J a xs G w t hG => by
    refine lc_flat (K := K) w (by rw [t.length]; exact hn) (fun i => (ds[i]?).bind f) (fun i d q => ?_) hG (fun i H v H' y => by rw [y.1]; exact Same.refl _) (fun i v H H' QT QF hi s y kT kF => ?_) (fun p H' s hp im => hd p H' s hp (by rw [t.length, range_filterMap] at im; exact im))
    · obtain ⟨b, hb, q⟩ := Option.bind_eq_some_iff.mp q
      exact hf b d (List.mem_of_getElem? hb) q
    · obtain ⟨e, hv⟩ := y
      subst e
      obtain ⟨d, hdi, hvd⟩ := t.getV hv
      exact hs d v _ QT QF (List.mem_of_getElem? hdi) s (hvd.same s) (fun z H4 e q => kT z H4 e (by rw [hdi]; exact q)) (fun H3 q => kF H3 (by rw [hdi]; exact q))
  rcases hx with hx | hx
  · obtain ⟨a, xs, rfl, h1, t⟩ := hx.tup_inv
    exact ⟨a, xs, rfl, .inr ⟨h1, key _ a xs _ (walk_tup (xs := xs)) t (fun H' s => SqT.ext h1 s)⟩⟩
  · obtain ⟨a, xs, rfl, h1, t⟩ := hx.lst_inv
    exact ⟨a, xs, rfl, .inl ⟨SqL.of h1, key _ a xs _ (walk_list (xs := xs)) t (fun H' s => SqL.ext (SqL.of h1) s)⟩⟩
end
end Lw
end
section
set_option Elab.async false
set_option linter.all false
set_option maxRecDepth 100000
set_option maxHeartbeats 2000000
/-! Dicts whose keys are (nested) tuples of ints, by KE.KDictKeyed. -/
namespace Lw
open PySem PySem.Spec PyProof.Rows L2

/-! ### the key that data is -/
mutual
def nk : PyData → NestedKey
  | .int i => .num i
  | .tuple ds => .tup (nkAll ds)
  | _ => .none
def nkAll : List PyData → List NestedKey
  | [] => []
  | d :: ds => nk d :: nkAll ds
end
mutual
/-- ints and tuples alone -/
def keyish : PyData → Bool
  | .int _ => true
  | .tuple ds => keyishAll ds
  | _ => false
def keyishAll : List PyData → Bool
  | [] => true
  | d :: ds => keyish d && keyishAll ds
end
mutual
theorem nk_inj : ∀ (a b : PyData), keyish a = true → keyish b = true → nk a = nk b → a = b
  | .int i, .int j, _, _, e => by simp only [nk, NestedKey.num.injEq] at e; rw [e]
  | .int i, .tuple ys, _, _, e => by simp [nk] at e
  | .tuple xs, .int j, _, _, e => by simp [nk] at e
  | .tuple xs, .tuple ys, ha, hb, e => by
    simp only [nk, NestedKey.tup.injEq] at e
    rw [nkAll_inj xs ys (by simpa [keyish] using ha) (by simpa [keyish] using hb) e]
  | .none, _, ha, _, _ => by simp [keyish] at ha
  | .bool _, _, ha, _, _ => by simp [keyish] at ha
  | .str _, _, ha, _, _ => by simp [keyish] at ha
  | .list _, _, ha, _, _ => by simp [keyish] at ha
  | .dict _, _, ha, _, _ => by simp [keyish] at ha
  | .int _, .none, _, hb, _ => by simp [keyish] at hb
  | .int _, .bool _, _, hb, _ => by simp [keyish] at hb
  | .int _, .str _, _, hb, _ => by simp [keyish] at hb
  | .int _, .list _, _, hb, _ => by simp [keyish] at hb
  | .int _, .dict _, _, hb, _ => by simp [keyish] at hb
  | .tuple _, .none, _, hb, _ => by simp [keyish] at hb
  | .tuple _, .bool _, _, hb, _ => by simp [keyish] at hb
  | .tuple _, .str _, _, hb, _ => by simp [keyish] at hb
  | .tuple _, .list _, _, hb, _ => by simp [keyish] at hb
  | .tuple _, .dict _, _, hb, _ => by simp [keyish] at hb
theorem nkAll_inj : ∀ (a b : List PyData), keyishAll a = true → keyishAll b = true → nkAll a = nkAll b → a = b
  | [], [], _, _, _ => rfl
  | [], _ :: _, _, _, e => by simp [nkAll] at e
  | _ :: _, [], _, _, e => by simp [nkAll] at e
  | x :: xs, y :: ys, ha, hb, e => by
    simp only [nkAll, List.cons.injEq] at e
    simp only [keyishAll, Bool.and_eq_true] at ha hb
    rw [nk_inj x y ha.1 hb.1 e.1, nkAll_inj xs ys ha.2 hb.2 e.2]
end
mutual
theorem nk_depth : ∀ a : PyData, keyish a = true → (nk a).depth ≤ a.depth
  | .int i, _ => by simp [nk, NestedKey.depth]
  | .tuple xs, h => by
    have := nkAll_depth xs (by simpa [keyish] using h)
    simp only [nk, NestedKey.depth, PyData.depth]
    omega
  | .none, h => by simp [keyish] at h
  | .bool _, h => by simp [keyish] at h
  | .str _, h => by simp [keyish] at h
  | .list _, h => by simp [keyish] at h
  | .dict _, h => by simp [keyish] at h
theorem nkAll_depth : ∀ a : List PyData, keyishAll a = true → NestedKey.depthAll (nkAll a) ≤ PyData.depthAll a
  | [], _ => by simp [nkAll, NestedKey.depthAll]
  | x :: xs, h => by
    simp only [keyishAll, Bool.and_eq_true] at h
    have h1 := nk_depth x h.1
    have h2 := nkAll_depth xs h.2
    simp only [nkAll, NestedKey.depthAll, PyData.depthAll]
    omega
end
/-- an encoding of keys: tuples of ints and of such -/
structure KeyOk {κ : Type} [DecidableEq κ] (e : κ → PyData) : Prop where
  enc : EncOk e 7
  tup : ∀ k, ∃ ds, e k = .tuple ds
  key : ∀ k, keyish (e k) = true
  flt : ∀ k, flat (e k) = true
theorem keyishAll_map {α : Type} {e : α → PyData} (h : ∀ a, keyish (e a) = true) : ∀ l : List α, keyishAll (l.map e) = true
  | [] => by simp [keyishAll]
  | a :: l => by simp [keyishAll, h a, keyishAll_map h l]
theorem key_W : KeyOk eW := ⟨enc_W.mono (by decide), fun k => ⟨_, rfl⟩, fun k => by show keyish (.tuple _) = true; simp only [keyish]; exact keyishAll_map (fun a => by simp [keyish]) k, flat_W⟩
theorem key_S : KeyOk eS := ⟨enc_S.mono (by decide), fun k => ⟨_, rfl⟩, fun k => by show keyish (.tuple _) = true; simp only [keyish]; exact keyishAll_map key_W.key k, flat_S⟩
theorem key_Rd : KeyOk eRd := ⟨enc_Rd.mono (by decide), fun k => ⟨_, rfl⟩, fun k => by show keyish (.tuple _) = true; simp [keyish, keyishAll], flat_Rd⟩
section
variable {κ : Type} [DecidableEq κ] {e : κ → PyData}
theorem KeyOk.inj (h : KeyOk e) {a b : κ} (q : nk (e a) = nk (e b)) : a = b := h.enc.inj (nk_inj _ _ (h.key a) (h.key b) q)
theorem KeyOk.dec (h : KeyOk e) (a b : κ) : decide (nk (e a) = nk (e b)) = decide (a = b) := by
  by_cases q : a = b
  · subst q; simp
  · rw [decide_eq_false q, decide_eq_false (fun z => q (h.inj z))]
end

/-! ### the dict's object -/
section
variable (P : Program) (w : World)
abbrev NE := NestedKey × Addr × Value
def dN (d : Addr) (xs : List NE) (ep : Nat) : HO := .ext fun h => ∃ o es, h.get? d = some o ∧ o.ExactDict ∧ o.data = .dict es ep ∧ es.toList = xs.map (entryOfKey (nestedKind P w)) ∧ (xs.map (·.1)).Nodup ∧ xs.length ≤ sizeLine ∧ (d == sysModules) = false
variable {κ : Type} (e : κ → PyData)
/-- at d stands a dict of these keys and values, in the order of their coming -/
def DN (K : PySem.W.Frag) (H : Hp) (d : Addr) (kvs : List (κ × V)) : Prop := ∃ xs ep, H d = some (dN P w d xs ep) ∧ Paired (fun (p : κ × V) (q : NE) => q.1 = nk (e p.1) ∧ Im K H (.ref q.2.1) (e p.1) ∧ RelV p.2 q.2.2) kvs xs
end
section
variable {P : Program} {w : World} {K : PySem.W.Frag} {H H' : Hp} {κ : Type} [DecidableEq κ] {e : κ → PyData} {d : Addr} {kvs : List (κ × V)}
theorem dN_ok {h : Heap} {d : Addr} {xs : List NE} {ep : Nat} {o : Obj} {es : Array DictEntry} (h1 : h.get? d = some o) (h2 : o.ExactDict) (h3 : o.data = .dict es ep) (h4 : es.toList = xs.map (entryOfKey (nestedKind P w))) (h5 : (xs.map (·.1)).Nodup) (h6 : xs.length ≤ sizeLine) (h7 : (d == sysModules) = false) :
    ObjOk P w H h d (dN P w d xs ep) := ⟨⟨o, es, h1, h2, h3, h4, h5, h6, h7⟩, ⟨o, h1⟩, fun g1 g2 ⟨o, es, q1, q2⟩ k => ⟨o, es, k o q1, q2⟩⟩
theorem DN.tk (f : ∀ k, flat (e k) = true) (s : TK H H') (hd : H' d = H d) (x : DN P w e K H d kvs) : DN P w e K H' d kvs := by
  obtain ⟨xs, ep, h1, h2⟩ := x
  exact ⟨xs, ep, by rw [hd]; exact h1, Paired.mapP h2 fun p q z => ⟨z.1, z.2.1.tk s (f _), z.2.2⟩⟩
theorem DN.same (s : Same H H') (x : DN P w e K H d kvs) : DN P w e K H' d kvs := by
  obtain ⟨xs, ep, h1, h2⟩ := x
  exact ⟨xs, ep, s _ _ h1, Paired.mapP h2 fun p q z => ⟨z.1, z.2.1.same s, z.2.2⟩⟩
theorem DN.kp {S : List Addr} (f : ∀ k, flat (e k) = true) (k : Kp S H H') (s : TK H H') (n : d ∉ S) (x : DN P w e K H d kvs) : DN P w e K H' d kvs := by
  obtain ⟨xs, ep, h1, h2⟩ := x
  exact ⟨xs, ep, k _ _ n h1, Paired.mapP h2 fun p q z => ⟨z.1, z.2.1.tk s (f _), z.2.2⟩⟩
theorem DN.there (x : DN P w e K H d kvs) : ∃ o, H d = some o ∧ NT o ∧ (∀ xs, o ≠ .lst xs) := by
  obtain ⟨xs, ep, h1, _⟩ := x
  exact ⟨_, h1, fun _ _ q => (nomatch (show (HO.ext _ = HO.frz _ _) from q)), fun _ q => (nomatch (show (HO.ext _ = HO.lst _) from q))⟩
theorem DN.ne_none (x : DN P w e K H d kvs) : H d ≠ none := by
  obtain ⟨o, h, _⟩ := x.there
  rw [h]; simp
theorem DN.upd_tk {o : HO} (x : DN P w e K H d kvs) : TK H (upd H d o) := by
  obtain ⟨u, h, h2, _⟩ := x.there
  exact TK.upd h h2

/-! the table: look, put, drop -/
def dget (kvs : List (κ × V)) (k : κ) : Option V := (kvs.find? fun p => decide (p.1 = k)).map (·.2)
def dhas (kvs : List (κ × V)) (k : κ) : Bool := kvs.any fun p => decide (p.1 = k)
def dput (kvs : List (κ × V)) (k : κ) (v : V) : List (κ × V) := if dhas kvs k then kvs.map fun p => if p.1 = k then (k, v) else p else kvs ++ [(k, v)]
def ddel (kvs : List (κ × V)) (k : κ) : List (κ × V) := kvs.filter fun p => !decide (p.1 = k)
theorem dhas_mem {kvs : List (κ × V)} {k : κ} : dhas kvs k = decide (k ∈ kvs.map (·.1)) := by
  unfold dhas
  induction kvs with
  | nil => simp
  | cons p kvs ih =>
    rw [List.any_cons, ih, List.map_cons]
    by_cases h : p.1 = k
    · simp [h]
    · simp [h, Ne.symm h]
theorem dget_isSome {kvs : List (κ × V)} {k : κ} : (dget kvs k).isSome = dhas kvs k := by
  unfold dget dhas
  rw [Option.isSome_map]
  induction kvs with
  | nil => rfl
  | cons p kvs ih =>
    rw [List.find?_cons, List.any_cons, ← ih]
    cases c : decide (p.1 = k) <;> simp
abbrev RN (K : PySem.W.Frag) (H : Hp) (e : κ → PyData) : κ × V → NE → Prop := fun p q => q.1 = nk (e p.1) ∧ Im K H (.ref q.2.1) (e p.1) ∧ RelV p.2 q.2.2
theorem dget_rel (ok : KeyOk e) {k : κ} : ∀ {kvs : List (κ × V)} {xs : List NE}, Paired (RN K H e) kvs xs → RelO (dget kvs k) (valueAt (pairsH xs) (nk (e k)))
  | _, _, .nil => True.intro
  | p :: kvs, q :: xs, .cons h t => by
    have ih := dget_rel ok (k := k) t
    unfold dget at ih ⊢
    rw [valueAt_pairsH] at ih ⊢
    unfold atKey at ih ⊢
    rw [List.find?_cons, List.find?_cons]
    have hd : decide (q.1 = nk (e k)) = decide (p.1 = k) := by rw [h.1]; exact ok.dec p.1 k
    rw [hd]
    cases c : decide (p.1 = k) with
    | true => exact h.2.2
    | false => exact ih
theorem RelO.isSome : ∀ {o : Option V} {u : Option Value}, RelO o u → u.isSome = o.isSome
  | some _, some _, _ => rfl
  | none, none, _ => rfl
  | some _, none, h => h.elim
  | none, some _, h => h.elim
theorem has_rel (ok : KeyOk e) {k : κ} {kvs : List (κ × V)} {xs : List NE} (h : Paired (RN K H e) kvs xs) : (valueAt (pairsH xs) (nk (e k))).isSome = dhas kvs k := by
  rw [RelO.isSome (dget_rel ok h), dget_isSome]
theorem put_rel (ok : KeyOk e) {k : κ} {v : V} {a : Addr} {u : Value} (ha : Im K H (.ref a) (e k)) (rv : RelV v u) {kvs : List (κ × V)} {xs : List NE} (h : Paired (RN K H e) kvs xs) : Paired (RN K H e) (dput kvs k v) (storedH xs (nk (e k)) a u) := by
  unfold dput storedH
  have e1 : (atKey xs (nk (e k))).isSome = dhas kvs k := by
    have := has_rel ok (k := k) h
    rw [valueAt_pairsH, Option.isSome_map] at this
    exact this
  rw [e1]
  cases c : dhas kvs k with
  | false =>
    have app : ∀ {l1 : List (κ × V)} {l2 : List NE}, Paired (RN K H e) l1 l2 → Paired (RN K H e) (l1 ++ [(k, v)]) (l2 ++ [(nk (e k), a, u)]) := fun {l1 l2} h => by
      induction h with
      | nil => exact .cons ⟨rfl, ha, rv⟩ .nil
      | cons h t ih => exact .cons h ih
    exact app h
  | true =>
    have mp : ∀ {l1 : List (κ × V)} {l2 : List NE}, Paired (RN K H e) l1 l2 → Paired (RN K H e) (l1.map fun p => if p.1 = k then (k, v) else p) (l2.map (putAt (nk (e k)) u)) := fun {l1 l2} h => by
      induction h with
      | nil => exact .nil
      | @cons p q l1 l2 h t ih =>
        refine .cons ?_ ih
        unfold putAt
        have hd : (q.1 = nk (e k)) ↔ (p.1 = k) := by rw [h.1]; exact ⟨fun z => ok.inj z, fun z => by rw [z]⟩
        show RN K H e (if p.1 = k then (k, v) else p) (if q.1 = nk (e k) then (q.1, q.2.1, u) else q)
        by_cases c : p.1 = k
        · rw [if_pos c, if_pos (hd.mpr c)]
          exact ⟨by rw [h.1, c], by rw [← c]; exact h.2.1, rv⟩
        · rw [if_neg c, if_neg (fun z => c (hd.mp z))]
          exact h
    exact mp h
theorem del_rel (ok : KeyOk e) {k : κ} : ∀ {kvs : List (κ × V)} {xs : List NE}, Paired (RN K H e) kvs xs → Paired (RN K H e) (ddel kvs k) (withoutH xs (nk (e k)))
  | _, _, .nil => .nil
  | p :: kvs, q :: xs, .cons h t => by
    have ih := del_rel ok (k := k) t
    unfold ddel withoutH at ih ⊢
    rw [List.filter_cons, List.filter_cons]
    have hd : decide (q.1 = nk (e k)) = decide (p.1 = k) := by rw [h.1]; exact ok.dec p.1 k
    by_cases c : p.1 = k
    · have c2 : q.1 = nk (e k) := by rw [h.1, c]
      rw [if_neg (by simp [c]), if_neg (by simp [c2])]
      exact ih
    · have c2 : ¬ q.1 = nk (e k) := fun z => c (ok.inj (by rw [← h.1]; exact z))
      rw [if_pos (by simp [c]), if_pos (by simp [c2])]
      exact .cons h ih
theorem length_dput {kvs : List (κ × V)} {k : κ} {v : V} : (dput kvs k v).length ≤ kvs.length + 1 := by
  unfold dput; split <;> simp
end

/-! ### keys in the heap -/
section
variable {X : Cx} {pins : List (Addr × Obj)} {σ : L2.St} {H : Hp} {s : Shared}
mutual
theorem nk_is (I : Inv X pins σ H s) : ∀ (d : PyData) (v : V) (u : Value), keyish d = true → Im X.K H v d → RelV v u → NestedIs s.heap (nk d) u
  | .int i, _, u, _, h, r => by
    cases h
    obtain ⟨t, rfl⟩ := r
    simp only [nk]
    exact .int i t
  | .tuple ds, v, u, k, h, r => by
    obtain ⟨a, xs, rfl, h1, h2⟩ := h.tup_inv
    cases (show u = Value.ref a from r)
    obtain ⟨its, rv, ⟨o, ho, hc, n, hd⟩, _⟩ := I.tuple h1
    simp only [nk]
    exact .tup ho hc hd (by rw [List.toList_toArray]; exact nkAll_is I ds xs its (by simpa [keyish] using k) h2 rv)
  | .none, _, _, k, _, _ => by simp [keyish] at k
  | .bool _, _, _, k, _, _ => by simp [keyish] at k
  | .str _, _, _, k, _, _ => by simp [keyish] at k
  | .list _, _, _, k, _, _ => by simp [keyish] at k
  | .dict _, _, _, k, _, _ => by simp [keyish] at k
theorem nkAll_is (I : Inv X pins σ H s) : ∀ (ds : List PyData) (vs : List V) (us : List Value), keyishAll ds = true → ImAll X.K H vs ds → Vals vs us → NestedAll s.heap (nkAll ds) us
  | [], _, _, _, h, r => by cases h; cases r; simp only [nkAll]; exact .nil
  | d :: ds, _, _, k, h, r => by
    simp only [keyishAll, Bool.and_eq_true] at k
    cases h with
    | cons h t =>
      cases r with
      | cons r rr =>
        simp only [nkAll]
        exact .cons (nk_is I d _ _ k.1 h r) (nkAll_is I ds _ _ k.2 t rr)
end
variable {κ : Type} [DecidableEq κ] {e : κ → PyData} {d : Addr} {kvs : List (κ × V)}
theorem KeyOk.is (ok : KeyOk e) (I : Inv X pins σ H s) {k : κ} {a : Addr} (h : Im X.K H (.ref a) (e k)) : (nestedKind X.prog X.w).is s.heap (nk (e k)) a :=
  ⟨nk_is I (e k) _ _ (ok.key k) h rfl, Nat.le_trans (nk_depth _ (ok.key k)) (Nat.le_trans (ok.enc.dep k) (by decide))⟩
theorem KeyOk.ref (ok : KeyOk e) {K : PySem.W.Frag} {k : κ} {x : V} (h : Im K H x (e k)) : ∃ a, x = .ref a := by
  obtain ⟨ds, q⟩ := ok.tup k
  rw [q] at h
  obtain ⟨a, _, rfl, _⟩ := h.tup_inv
  exact ⟨a, rfl⟩
theorem dn_keyed (ok : KeyOk e) (I : Inv X pins σ H s) {xs : List NE} {ep : Nat} (h1 : H d = some (dN X.prog X.w d xs ep)) (h2 : Paired (RN X.K H e) kvs xs) : s.heap.DictKeyed (nestedKind X.prog X.w) d (pairsH xs) ∧ (d == sysModules) = false ∧ xs.length ≤ sizeLine := by
  obtain ⟨⟨o, es, q1, q2, q3, q4, q5, q6, q7⟩, _⟩ := I.hok d _ h1
  refine ⟨⟨xs, ⟨o, es, ep, q1, q2, q3, q4, fun x hx => ?_, q5⟩, rfl⟩, q7, q6⟩
  have : ∀ {l1 : List (κ × V)} {l2 : List NE}, Paired (RN X.K H e) l1 l2 → ∀ x ∈ l2, (nestedKind X.prog X.w).is s.heap x.1 x.2.1 := fun {l1 l2} h => by
    induction h with
    | nil => intro x hx; cases hx
    | cons h t ih =>
      intro x hx
      rcases List.mem_cons.mp hx with rfl | hx
      · rw [h.1]; exact ok.is I h.2.1
      · exact ih x hx
  exact this h2 x hx
theorem dn_room (hu : X.A.units + 64 < cLine) : (nestedKind X.prog X.w).room X.A.in1 := by
  show X.A.units + 1 + 8 < cLine
  omega
/-- the object of a dict that a store has left -/
theorem dn_obj {h : Heap} {ys : List (NestedKey × Value)} (x : h.DictKeyed (nestedKind X.prog X.w) d ys) : ∃ xs ep o es, pairsH xs = ys ∧ h.get? d = some o ∧ o.ExactDict ∧ o.data = .dict es ep ∧ es.toList = xs.map (entryOfKey (nestedKind X.prog X.w)) ∧ (xs.map (·.1)).Nodup := by
  obtain ⟨xs, ⟨o, es, ep, q1, q2, q3, q4, _, q5⟩, rfl⟩ := x
  exact ⟨xs, ep, o, es, rfl, q1, q2, q3, q4, q5⟩
end
/-! ### the operations -/
section
variable {X : Cx}
def tNewN (P : Program) (w : World) : TE := fun _ H Q => ∀ p, H p = none → Q (.ref p) (upd H p (dN P w p [] 0))
theorem dn_empty {P : Program} {w : World} {H : Hp} (h : Heap) (hb : sysModules < h.objs.size) : ObjOk P w H (h.push { cls := .type "dict", data := .dict #[] }) h.objs.size (dN P w h.objs.size [] 0) :=
  dN_ok (es := #[]) (Heap.get?_push_size _ rfl) ⟨rfl, rfl, rfl⟩ rfl rfl List.nodup_nil (Nat.zero_le _) (beq_eq_false_iff_ne.mpr (Ne.symm (Nat.ne_of_lt hb)))
theorem pe_newN {pos : Pos} : PE X (.Dict [] [] pos) (tNewN X.prog X.w) := ⟨fun pins s σ H Q I h =>
  wpAny_Dict_empty ⟨.ref s.heap.objs.size, _, I.laid (a := s.heap.objs.size) (o := dN X.prog X.w s.heap.objs.size [] 0) (t' := s.toks) (fun _ _ q => Heap.get?_push_of_some _ q) (Nat.le_refl _) (dn_empty s.heap I.big), rfl, h _ I.fresh⟩⟩
theorem DN.new {K : PySem.W.Frag} {κ : Type} {e : κ → PyData} {P : Program} {w : World} {H : Hp} {p : Addr} : DN P w e K (upd H p (dN P w p [] 0)) p ([] : List (κ × V)) := ⟨[], 0, upd_same, .nil⟩
/-- a store has left the dict so -/
theorem dn_write {pins : List (Addr × Obj)} {σ : L2.St} {H : Hp} {s : Shared} {κ : Type} [DecidableEq κ] {e : κ → PyData} {d : Addr} {kvs' : List (κ × V)} {xs xs' : List NE} {ep : Nat} {h' : Heap} {t' : Nat} (ok : KeyOk e) (I : Inv X pins σ H s)
    (h1 : H d = some (dN X.prog X.w d xs ep)) (h2 : Paired (RN X.K H e) kvs' xs') (hl : xs'.length ≤ sizeLine) (hd : (d == sysModules) = false) (hm : h'.DictOfH (nestedKind X.prog X.w) d xs') (sb : Heap.SameBut d s.heap h') :
    ∃ H', Inv X pins σ H' { s with heap := h', toks := t' } ∧ Kp [d] H H' ∧ TK H H' ∧ DN X.prog X.w e X.K H' d kvs' := by
  obtain ⟨o, es, ep', q1, q2, q3, q4, q5, q6⟩ := hm
  have tk : TK H (upd H d (dN X.prog X.w d xs' ep')) := TK.upd h1 (fun _ _ q => nomatch (show (HO.ext _ = HO.frz _ _) from q))
  refine ⟨upd H d (dN X.prog X.w d xs' ep'), I.write (x := d) (e := d) (by rw [h1]; exact True.intro) (.inl rfl) (fun b q hb z => (sb.2 b hb).trans z) ⟨o, q1⟩ (dN_ok q1 q2 q3 q4 q6 hl hd), Kp.upd, tk, ⟨xs', ep', upd_same, ?_⟩⟩
  exact Paired.mapP h2 fun p q z => ⟨z.1, z.2.1.tk tk (ok.flt _), z.2.2⟩
def rInN (neg : Bool) (P : Program) (w : World) (K : PySem.W.Frag) : R2 := fun x y H Q => ∃ (κ : Type) (i : DecidableEq κ) (e : κ → PyData) (k : κ) (d : Addr) (kvs : List (κ × V)), @KeyOk κ i e ∧ Im K H x (e k) ∧ y = .ref d ∧ DN P w e K H d kvs ∧
  Q (.bl (if neg then !dhas kvs k else dhas kvs k)) H
theorem op_inN (hu : X.A.units + 64 < cLine) : OpR X (compareOp .In) (rInN false X.prog X.w X.K) := fun pins s σ H x y v u Q I rx ry h => by
  obtain ⟨κ, i, e, k, d, kvs, ok, hk, rfl, ⟨xs, ep, h1, h2⟩, q⟩ := h
  obtain ⟨a, rfl⟩ := ok.ref hk
  cases rx
  cases ry
  obtain ⟨hm, hd, hl⟩ := dn_keyed ok I h1 h2
  refine in_keyed (dn_room hu) (ok.is I hk) hd hm ⟨.bl _, H, I.tok _, rfl, ?_⟩
  rw [has_rel ok h2]; exact q
theorem op_notInN (hu : X.A.units + 64 < cLine) : OpR X (compareOp .NotIn) (rInN true X.prog X.w X.K) := fun pins s σ H x y v u Q I rx ry h => by
  obtain ⟨κ, i, e, k, d, kvs, ok, hk, rfl, ⟨xs, ep, h1, h2⟩, q⟩ := h
  obtain ⟨a, rfl⟩ := ok.ref hk
  cases rx
  cases ry
  obtain ⟨hm, hd, hl⟩ := dn_keyed ok I h1 h2
  refine notIn_keyed (dn_room hu) (ok.is I hk) hd hm ⟨.bl _, H, I.tok _, rfl, ?_⟩
  rw [has_rel ok h2]; exact q
theorem atKey_of (xs : List NE) (k : NestedKey) {v : Value} (h : valueAt (pairsH xs) k = some v) : ∃ p, atKey xs k = some p ∧ p.2 = v := by
  rw [valueAt_pairsH] at h
  exact Option.map_eq_some_iff.mp h
/-- d[k], k there -/
def rIxN (P : Program) (w : World) (K : PySem.W.Frag) : R2 := fun x y H Q => ∃ (κ : Type) (i : DecidableEq κ) (e : κ → PyData) (k : κ) (d : Addr) (kvs : List (κ × V)) (v : V), @KeyOk κ i e ∧ x = .ref d ∧ DN P w e K H d kvs ∧ Im K H y (e k) ∧ dget kvs k = some v ∧ Q v H
theorem ix_N (hu : X.A.units + 64 < cLine) : IxR X (rIxN X.prog X.w X.K) := fun va sl pins s σ H x y v u Q I rx ry h hs => by
  obtain ⟨κ, i, e, k, d, kvs, z, ok, rfl, ⟨xs, ep, h1, h2⟩, hk, hv, q⟩ := h
  obtain ⟨a, rfl⟩ := ok.ref hk
  cases rx
  cases ry
  obtain ⟨hm, hd, hl⟩ := dn_keyed ok I h1 h2
  have r := dget_rel ok (k := k) h2
  rw [hv] at r
  obtain ⟨v', ev, rv⟩ := r.some_of
  have fin : EP X pins σ Q v' { s with toks := s.toks + (nestedKind X.prog X.w).draws (nk (e k)) } := ⟨z, H, I.tok _, rv, q⟩
  exact subscriptTail_builtinR (x := v') hm.typeIs slot_dict_getitem.lookup (getItem_keyed (Q := fun r s' => r = v' ∧ EP X pins σ Q r s') (dn_room hu) (ok.is I hk) hm ev ⟨rfl, fin⟩) hs
/-- d[k] = v -/
def rSetN (P : Program) (w : World) (K : PySem.W.Frag) : TSet := fun o i v H Q => ∃ (κ : Type) (_ : DecidableEq κ) (e : κ → PyData) (k : κ) (d : Addr) (kvs : List (κ × V)), KeyOk e ∧ o = .ref d ∧ DN P w e K H d kvs ∧ Im K H i (e k) ∧ kvs.length < sizeLine ∧
  ∀ H', Kp [d] H H' → TK H H' → DN P w e K H' d (dput kvs k v) → Q H'
theorem set_N (hu : X.A.units + 64 < cLine) : PSet X (rSetN X.prog X.w X.K) := fun pins s σ H o i v ov iv u Q I ro ri rv h => by
  obtain ⟨κ, _, e, k, d, kvs, ok, rfl, ⟨xs, ep, h1, h2⟩, hk, hz, q⟩ := h
  obtain ⟨a, rfl⟩ := ok.ref hk
  cases ro
  cases ri
  obtain ⟨⟨xs', hm, e'⟩, hd, hl⟩ := dn_keyed ok I h1 h2
  have hm : s.heap.DictOfH (nestedKind X.prog X.w) d xs := by
    obtain ⟨⟨o, es, q1, q2, q3, q4, q5, q6, q7⟩, _⟩ := I.hok d _ h1
    obtain ⟨_, _, _, _, _, _, _, _, _⟩ := hm
    refine ⟨o, es, ep, q1, q2, q3, q4, fun x hx => ?_, q5⟩
    obtain ⟨j, hj, rfl⟩ := List.getElem_of_mem hx
    have pg : ∀ {l1 : List (κ × V)} {l2 : List NE}, Paired (RN X.K H e) l1 l2 → ∀ x ∈ l2, (nestedKind X.prog X.w).is s.heap x.1 x.2.1 := fun {l1 l2} h => by
      induction h with
      | nil => intro x hx; cases hx
      | cons h t ih =>
        intro x hx
        rcases List.mem_cons.mp hx with rfl | hx
        · rw [h.1]; exact ok.is I h.2.1
        · exact ih x hx
    exact pg h2 _ hx
  have hlen : xs.length = kvs.length := (Paired.length h2).symm
  refine wpAny_setItem_heap (hsz := hl) (dn_room hu) (ok.is I hk) hm fun h' hm' sb => ?_
  have p2 := put_rel ok (v := v) hk rv h2
  have hl' : (storedH xs (nk (e k)) a u).length ≤ sizeLine := by
    have := Paired.length p2
    have := length_dput (kvs := kvs) (k := k) (v := v)
    omega
  obtain ⟨H', I', k1, k2, k3⟩ := dn_write (t' := s.toks + (nestedKind X.prog X.w).draws (nk (e k))) ok I h1 p2 hl' hd hm' sb
  exact ⟨H', I', q H' k1 k2 k3⟩
end
end Lw
end
section
set_option Elab.async false
set_option linter.all false
set_option maxRecDepth 100000
set_option maxHeartbeats 2000000
/-! Dicts of tuple keys: pop, setdefault, len, walks over keys and values, list(d). -/
namespace Lw
open PySem PySem.Spec PyProof.Rows L2
section
variable {X : Cx} {pins : List (Addr × Obj)} {σ : L2.St} {H : Hp} {s : Shared} {d : Addr}
/-- what stands at d -/
theorem Inv.dn (I : Inv X pins σ H s) {xs : List NE} {ep : Nat} (h : H d = some (dN X.prog X.w d xs ep)) :
    (d == sysModules) = false ∧ xs.length ≤ sizeLine ∧ ∃ o es, s.heap.get? d = some o ∧ o.ExactDict ∧ o.data = .dict es ep ∧ es.size = xs.length ∧ es.toList = xs.map (entryOfKey (nestedKind X.prog X.w)) := by
  obtain ⟨⟨o, es, q1, q2, q3, q4, q5, q6, q7⟩, _⟩ := I.hok d _ h
  refine ⟨q7, q6, o, es, q1, q2, q3, ?_, q4⟩
  have := congrArg List.length q4
  rw [Array.length_toList, List.length_map] at this
  exact this
end
theorem ent_at {P : Program} {w : World} {es : Array DictEntry} {xs : List NE} (h : es.toList = xs.map (entryOfKey (nestedKind P w))) {i : Nat} {q : NE} (e : xs[i]? = some q) :
    es[i]? = some (entryOfKey (nestedKind P w) q) := by
  rw [← Array.getElem?_toList, h, List.getElem?_map, e]; rfl
theorem ent_key {P : Program} {w : World} {q : NE} : (entryOfKey (nestedKind P w) q).key = .ref q.2.1 := rfl
theorem ent_val {P : Program} {w : World} {q : NE} : (entryOfKey (nestedKind P w) q).val = q.2.2 := rfl
/-! ### walks -/
/-- the keys of the dict at d, in their order -/
def ItN (P : Program) (w : World) (d : Addr) (xs : List NE) (ep : Nat) : It :=
  ⟨fun i H => H d = some (dN P w d xs ep) ∧ i < xs.length, fun i H x H' => H' = H ∧ ∃ q, xs[i]? = some q ∧ x = .ref q.2.1, fun i H => H d = some (dN P w d xs ep) ∧ xs.length ≤ i⟩
/-- the values -/
def ItV (P : Program) (w : World) (d : Addr) (vs : List V) (xs : List NE) (ep : Nat) : It :=
  ⟨fun i H => H d = some (dN P w d xs ep) ∧ i < xs.length, fun i H x H' => H' = H ∧ vs[i]? = some x, fun i H => H d = some (dN P w d xs ep) ∧ xs.length ≤ i⟩
section
variable {P : Program} {w : World} {K : PySem.W.Frag} {tg : Expr} {d : Addr} {xs : List NE} {ep : Nat}
theorem turn_N (it : Addr) : Turn P w K tg (ItN P w d xs ep) [it] it (fun i h => h.IsKeyIter it d i xs.length ep) where
  mem := by simp
  obj := fun i h st b hb => by
    have e : b = it := by simpa using hb
    subst e
    obtain ⟨oi, e, c, dd⟩ := st
    exact ⟨oi, e, fun v z => by rw [dd] at z; cases z⟩
  keep := fun i h h' st k => st.at fun oi e => k it (by simp) oi e
  item := by
    intro X hP hw hK hc i pins s σ H E I hf st hg
    subst hP hw hK
    obtain ⟨hd, hi⟩ := hg
    obtain ⟨f0, f1, f2, f3, f4, f5⟩ := hf it (by simp)
    obtain ⟨hs, hsz, o, es, hgd, hx, hdt, hes, ent⟩ := Inv.dn I hd
    have hq := List.getElem?_eq_getElem hi
    refine next_key_item st hgd hdt hes (ent_at ent hq) fun h' st' sb => ?_
    have I1 : Inv X pins σ H { s with heap := h' } := I.turned (t' := s.toks) (fun b ob hb e => (sb.2 b hb).trans e) f0 f1 f3 f4 f5
    obtain ⟨oi, e, c, dd⟩ := id st'
    exact ⟨_, rfl, go_of (s := { s with heap := h' }) e c dd (by decide) ⟨.ref xs[i].2.1, H, I1, rfl, ⟨rfl, _, hq, rfl⟩, st', fun b hb => (hf b hb).1⟩⟩
  done := by
    intro X hP hw hK hc i pins s σ H E I hf st hg
    subst hP hw hK
    obtain ⟨hd, hi⟩ := hg
    obtain ⟨f0, f1, f2, f3, f4, f5⟩ := hf it (by simp)
    obtain ⟨hs, hsz, o, es, hgd, hx, hdt, hes, ent⟩ := Inv.dn I hd
    exact next_key_end (I.ok.hd hc) st hgd hdt hes hi fun h' eb => ⟨rfl, I.turned (t' := s.toks) (fun b ob hb e => eb b ob hb e) f0 f1 f3 f4 f5⟩
  self := fun A i s Q E st h => by
    refine wpAny_pyIter_slot st.typeIs F.slot_dict_keyiterator_iter (wpAny_call_entry F.slot_dict_keyiterator_iter st.typeIs F.entry_dict_keyiterator_iter ?_ (F.args_dict_keyiterator_iter_1 _))
    show wpAny _ _ (ret (.ref it)) _ _ s
    exact wpAny_pure ⟨_, rfl, "dict_keyiterator", _, st.typeIs, F.slot_dict_keyiterator_next.lookup, h⟩
theorem turn_NV {vs : List V} (hv : Paired (fun (v : V) (q : NE) => RelV v q.2.2) vs xs) (it : Addr) : Turn P w K tg (ItV P w d vs xs ep) [it] it (fun i h => h.IsValIter it d i xs.length ep) where
  mem := by simp
  obj := fun i h st b hb => by
    have e : b = it := by simpa using hb
    subst e
    obtain ⟨oi, e, c, dd⟩ := st
    exact ⟨oi, e, fun v z => by rw [dd] at z; cases z⟩
  keep := fun i h h' st k => st.at fun oi e => k it (by simp) oi e
  item := by
    intro X hP hw hK hc i pins s σ H E I hf st hg
    subst hP hw hK
    obtain ⟨hd, hi⟩ := hg
    obtain ⟨f0, f1, f2, f3, f4, f5⟩ := hf it (by simp)
    obtain ⟨hs, hsz, o, es, hgd, hx, hdt, hes, ent⟩ := Inv.dn I hd
    have hq := List.getElem?_eq_getElem hi
    have hlv : i < vs.length := by rw [Paired.length hv]; exact hi
    obtain ⟨b, hb, rv⟩ := paired_get hv (List.getElem?_eq_getElem hlv)
    rw [hq] at hb
    cases hb
    have hen := ent_at ent hq
    obtain ⟨hlt, hen⟩ := Array.getElem?_eq_some_iff.mp hen
    have st0 : s.heap.IsValIter it d i es.size ep := by rw [hes]; exact st
    refine wpAny_pyNext_values_item_raw st0 ⟨o, hgd, hx, hdt⟩ hlt fun h' st' sb => ?_
    rw [hen]
    rw [hes] at st'
    have I1 : Inv X pins σ H { s with heap := h' } := I.turned (t' := s.toks) (fun b ob hb e => (sb.2 b hb).trans e) f0 f1 f3 f4 f5
    obtain ⟨oi, e, c, dd⟩ := id st'
    exact ⟨_, rfl, go_of (s := { s with heap := h' }) e c dd (by decide) ⟨vs[i], H, I1, rv, ⟨rfl, List.getElem?_eq_getElem hlv⟩, st', fun b hb => (hf b hb).1⟩⟩
  done := by
    intro X hP hw hK hc i pins s σ H E I hf st hg
    subst hP hw hK
    obtain ⟨hd, hi⟩ := hg
    obtain ⟨f0, f1, f2, f3, f4, f5⟩ := hf it (by simp)
    obtain ⟨hs, hsz, o, es, hgd, hx, hdt, hes, ent⟩ := Inv.dn I hd
    have st0 : s.heap.IsValIter it d i es.size ep := by rw [hes]; exact st
    exact wpAny_pyNext_values_end_raw (I.ok.hd hc) st0 ⟨o, hgd, hx, hdt⟩ (by omega) fun h' eb => ⟨rfl, I.turned (t' := s.toks) (fun b ob hb e => eb b ob hb e) f0 f1 f3 f4 f5⟩
  self := fun A i s Q E st h => wpAny_pyIter_valiter st h
end
section
variable {X : Cx} {tg e : Expr} {td : TE} {apos cpos : Pos}
def iN (P : Program) (w : World) (td : TE) : TI := fun σ H R => td σ H fun x H1 => ∃ d xs ep, x = .ref d ∧ H1 d = some (dN P w d xs ep) ∧ R (ItN P w d xs ep) H1
theorem pi_N (he : PE X e td) : PI X tg e (iN X.prog X.w td) := by
  refine ⟨fun pins s σ H R I h => ?_⟩
  refine thn (he.run pins s σ H _ I h) fun u s1 ⟨x, H1, I1, rx, d, xs, ep, ex, hd, q⟩ => ?_
  subst ex
  obtain rfl : u = Value.ref d := rx
  obtain ⟨hs, hsz, o, es, hgd, hx, hdt, hes, ent⟩ := Inv.dn I1 hd
  refine iter_keys hs hgd hx hdt (pi_one (tk := s1.toks) I1 _ (turn_N _) ⟨_, Heap.get?_push_size _ rfl, rfl, ?_⟩ q)
  rw [hes] <;> rfl
def iNV (P : Program) (w : World) (td : TE) : TI := fun σ H R => td σ H fun x H1 => ∃ d vs xs ep, x = .ref d ∧ H1 d = some (dN P w d xs ep) ∧ Paired (fun (v : V) (q : NE) => RelV v q.2.2) vs xs ∧ R (ItV P w d vs xs ep) H1
theorem pi_NV (he : PE X e td) (hbase : attributeBase e "values" X.env (eval e X.env) = eval e X.env := by rfl) (hline : (apos.endLine == cpos.line) = true := by rfl) : PI X tg (.Call (.Attribute e "values" apos) [] [] cpos) (iNV X.prog X.w td) := by
  refine ⟨fun pins s σ H R I h => ?_⟩
  refine wpAny_Call_method (T := "dict") (id := "dict.values") hbase rfl hline F.plainAttrs_dict F.slot_dict_values F.type_dict_values (thn (he.run pins s σ H _ I h) fun u s1 ⟨x, H1, I1, rx, d, vs, xs, ep, ex, hd, hv, q⟩ => ?_)
  subst ex
  obtain rfl : u = Value.ref d := rx
  obtain ⟨hs, hsz, o, es, hgd, hx, hdt, hes, ent⟩ := Inv.dn I1 hd
  refine ⟨⟨o, hgd, hx.1⟩, fun b q => by cases q; exact ⟨o, hgd, hx.2.1⟩, ?_⟩
  have I2 : Inv X pins σ H1 { s1 with heap := s1.heap.push { cls := .type "dict_values", data := .fields #[.ref d] } } := I1.kept (t' := s1.toks) fun b ob q => Heap.get?_push_of_some _ q
  have fin : wpAny (model X.prog X.w) X.A (pyIter (.ref s1.heap.objs.size)) (PIE X pins σ tg R) X.xe { s1 with heap := s1.heap.push { cls := .type "dict_values", data := .fields #[.ref d] } } := by
    refine wpAny_pyIter_values_raw (d := d) (es := es) (ep := ep) ⟨_, Heap.get?_push_size _ rfl, rfl, rfl⟩ ⟨o, Heap.get?_push_of_some _ hgd, hx, hdt⟩ (pi_one (tk := s1.toks) I2 _ (turn_NV hv _) ⟨_, Heap.get?_push_size _ rfl, rfl, ?_⟩ q)
    rw [hes] <;> rfl
  show wpAny _ _ (callWith cpos (.builtin "dict.values") [.ref d] [] []) _ X.xe s1
  exact method_meetsIn F.slot_dict_values F.entry_dict_values rfl (PySem.evalArgs_none ⟨rfl, ⟨o, hgd, hx.1⟩, F.args_dict_values_1 _, _, meets_dict_values_raw d hs, ⟨es, ep, o, hgd, hx, hdt⟩, fin⟩)
end
/-! ### how the walks go -/
theorem rn_get {K : PySem.W.Frag} {H : Hp} {κ : Type} {e : κ → PyData} {kvs : List (κ × V)} {xs : List NE} (h : Paired (fun (p : κ × V) (q : NE) => q.1 = nk (e p.1) ∧ Im K H (.ref q.2.1) (e p.1) ∧ RelV p.2 q.2.2) kvs xs) {i : Nat} {q : NE} (hq : xs[i]? = some q) :
    ∃ p, kvs[i]? = some p ∧ Im K H (.ref q.2.1) (e p.1) ∧ RelV p.2 q.2.2 := by
  have hl : i < kvs.length := by
    rw [Paired.length h]
    exact (List.getElem?_eq_some_iff.mp hq).1
  obtain ⟨b, hb, r⟩ := paired_get h (List.getElem?_eq_getElem hl)
  rw [hq] at hb
  cases hb
  exact ⟨_, List.getElem?_eq_getElem hl, r.2.1, r.2.2⟩
section
variable {P : Program} {w : World} {K : PySem.W.Frag} {g : TG} {tb : TS} {D : Ends} {σ : L2.St} {H : Hp} {d : Addr} {κ : Type} [DecidableEq κ] {e : κ → PyData} {kvs : List (κ × V)} {tt : TT} {te : TE} {vs : List Nat} {Q : Addr → Hp → Prop}
theorem walk_N {xs : List NE} {ep : Nat} : Walk (ItN P w d xs ep) xs.length (fun H => H d = some (dN P w d xs ep)) (fun i H x H' => H' = H ∧ ∃ q, xs[i]? = some q ∧ x = .ref q.2.1) :=
  ⟨fun i _ hi q => ⟨q, hi⟩, fun _ q => ⟨q, Nat.le_refl _⟩, fun i H v H' _ q y => y⟩
theorem walk_NV {xs : List NE} {ep : Nat} {us : List V} : Walk (ItV P w d us xs ep) xs.length (fun H => H d = some (dN P w d xs ep)) (fun i H x H' => H' = H ∧ us[i]? = some x) :=
  ⟨fun i _ hi q => ⟨q, hi⟩, fun _ q => ⟨q, Nat.le_refl _⟩, fun i H v H' _ q y => y⟩
/-- for k in d -/
theorem for_N (ok : KeyOk e) (x : DN P w e K H d kvs) (Pv : Nat → L2.St → Hp → Prop) (h0 : Pv 0 σ H) (hk : ∀ i σ' H', Pv i σ' H' → TK H H' ∧ H' d = H d)
    (hs : ∀ i k v y σ' H', kvs[i]? = some (k, v) → Im K H' y (e k) → Pv i σ' H' → g y σ' H' fun σ2 H2 => tb { D with nx := Pv (i + 1), ct := Pv (i + 1), bk := D.nx } σ2 H2) (hd : ∀ σ' H', Pv kvs.length σ' H' → D.nx σ' H') :
    ∃ xs ep, H d = some (dN P w d xs ep) ∧ RFor g tb D σ (ItN P w d xs ep) H := by
  obtain ⟨xs, ep, h1, h2⟩ := x
  refine ⟨xs, ep, h1, for_it (n := xs.length) walk_N Pv h0 (fun i σ' H' _ p => by rw [(hk i σ' H' p).2]; exact h1) (fun i v σ' H' H'' hi p y => ?_) (fun σ' H' p => hd σ' H' (by rw [Paired.length h2]; exact p))⟩
  obtain ⟨e0, q, hq, e1⟩ := y
  subst e0 e1
  obtain ⟨⟨k, v⟩, hp, him, _⟩ := rn_get h2 hq
  exact hs i k v _ σ' _ hp (him.tk (hk i σ' _ p).1 (ok.flt k)) p
/-- [.. for k in d ..] by items without lists -/
theorem lc_N (ok : KeyOk e) (x : DN P w e K H d kvs) (f : κ → Option PyData) (hf : ∀ k b, k ∈ kvs.map (·.1) → f k = some b → flat b = true)
    (hs : ∀ k y H' (QT : VK) (QF : Hp → Prop), k ∈ kvs.map (·.1) → Same H H' → Im K H' y (e k) → (∀ z H4 b, f k = some b → Same H' H4 → Im K H4 z b → QT z H4) → (∀ H3, f k = none → Same H' H3 → QF H3) →
      g y (wipe σ vs) H' fun σ2 H2 => wipe σ2 vs = wipe σ vs ∧ tt σ2 H2 fun b H3 => if b = true then te σ2 H3 QT else QF H3)
    (hd : ∀ p H', Same H H' → H p = none → Im K H' (.ref p) (.list ((kvs.map (·.1)).filterMap f)) → Q p H') :
    ∃ xs ep, H d = some (dN P w d xs ep) ∧ (xs.length ≤ sizeLine → RLc g tt te vs σ Q (ItN P w d xs ep) H) := by
  obtain ⟨xs, ep, h1, h2⟩ := x
  have hl : (kvs.map (·.1)).length = xs.length := by rw [List.length_map, Paired.length h2]
  refine ⟨xs, ep, h1, fun hz => lc_flat (K := K) walk_N hz (fun i => ((kvs.map (·.1))[i]?).bind f) (fun i b q => ?_) (fun H' s => s _ _ h1) (fun i H v H' y => by rw [y.1]; exact Same.refl _) (fun i v H1 H' QT QF hi s y kT kF => ?_) (fun p H' s hp im => hd p H' s hp (by rw [← hl, range_filterMap] at im; exact im))⟩
  · obtain ⟨k, hk, q⟩ := Option.bind_eq_some_iff.mp q
    exact hf k b (List.mem_of_getElem? hk) q
  · obtain ⟨e0, q, hq, e1⟩ := y
    subst e0 e1
    obtain ⟨⟨k, v⟩, hp, him, _⟩ := rn_get h2 hq
    have hk : (kvs.map (·.1))[i]? = some k := by rw [List.getElem?_map, hp]; rfl
    exact hs k _ _ QT QF (List.mem_of_getElem? hk) s (him.same s) (fun z H4 b q => kT z H4 b (by show ((kvs.map (·.1))[i]?).bind f = _; rw [hk]; exact q)) (fun H3 q => kF H3 (by show ((kvs.map (·.1))[i]?).bind f = _; rw [hk]; exact q))
end
/-! ### methods -/
section
variable {X : Cx} {pins : List (Addr × Obj)} {σ : L2.St} {H : Hp} {s : Shared}
theorem dn_H {κ : Type} [DecidableEq κ] {e : κ → PyData} {d : Addr} {kvs : List (κ × V)} (ok : KeyOk e) (I : Inv X pins σ H s) {xs : List NE} {ep : Nat} (h1 : H d = some (dN X.prog X.w d xs ep)) (h2 : Paired (RN X.K H e) kvs xs) : s.heap.DictOfH (nestedKind X.prog X.w) d xs := by
  obtain ⟨⟨o, es, q1, q2, q3, q4, q5, q6, q7⟩, _⟩ := I.hok d _ h1
  refine ⟨o, es, ep, q1, q2, q3, q4, ?_, q5⟩
  have pg : ∀ {l1 : List (κ × V)} {l2 : List NE}, Paired (RN X.K H e) l1 l2 → ∀ x ∈ l2, (nestedKind X.prog X.w).is s.heap x.1 x.2.1 := fun {l1 l2} h => by
    induction h with
    | nil => intro x hx; cases hx
    | cons h t ih =>
      intro x hx
      rcases List.mem_cons.mp hx with rfl | hx
      · rw [h.1]; exact ok.is I h.2.1
      · exact ih x hx
  exact pg h2
end
/-- x.name(args), x a dict of tuple keys -/
def tNM (P : Program) (w : World) (r : V → List V → Hp → VK → Prop) (to : TE) (t : TA) : TE := fun σ H Q => to σ H fun x H1 => (∃ d xs ep, x = .ref d ∧ H1 d = some (dN P w d xs ep)) ∧ t σ H1 fun ys H2 => r x ys H2 Q
section
variable {X : Cx} {o e : Expr} {es : List Expr} {to : TE} {t : TA} {name : Str} {apos cpos : Pos} {id : String} {r : V → List V → Hp → VK → Prop}
theorem pe_nm (slot : Slot "dict" name id) (hty : typeOf (.builtin id) = pure (.type "method_descriptor")) (hm : MtM X id r) (ho : PE X o to) (ha : PA X (e :: es) t)
    (hbase : attributeBase o name X.env (eval o X.env) = eval o X.env := by rfl)
    (hfew : ((backTo cpos (starEach (e :: es) X.env)).all (fun x => !x.1) && (backToKw cpos (keywordEach [] X.env)).all (fun x => x.1.isSome)
      && decide ((e :: es).length + ([] : List Keyword).length + (if ([] : List Keyword).isEmpty then 0 else 1) < 30)) = true := by rfl)
    (hline : (apos.endLine == cpos.line) = true := by rfl) (hs : starEach (e :: es) X.env = (false, eval e X.env) :: starEach es X.env := by rfl) (hplain : (backTo cpos (starEach es X.env)).any (·.1) = false := by rfl) :
    PE X (.Call (.Attribute o name apos) (e :: es) [] cpos) (tNM X.prog X.w r to t) := by
  refine ⟨fun pins s σ H Q I h => ?_⟩
  refine wpAny_Call_method_late hbase hfew hline rfl (thn (ho.run pins s σ H _ I h) fun v s1 ⟨x, H1, I1, r1, ⟨d, xs, ep, ex, hd⟩, q1⟩ => ?_)
  subst ex
  cases r1
  obtain ⟨hs', hsz, ob, es', hgd, hx, hdt, hes, ent⟩ := Inv.dn I1 hd
  refine ⟨"dict", id, F.plainAttrs_dict, slot, hty, ⟨ob, hgd, hx.1⟩, fun a q => by cases q; exact ⟨ob, hgd, hx.2.1⟩, ?_⟩
  have hA := ha.run cpos pins s1 σ H1 _ I1 q1
  rw [hs] at hA ⊢
  refine Calls.callWith_builtin (by show (false || (backTo cpos (starEach es X.env)).any (·.1)) = false; rw [hplain] <;> rfl) (Calls.evalArgs_plain ?_)
  exact thn hA fun us s2 ⟨vs, H2, I2, r2, q2⟩ => hm pins s2 σ H2 (.ref d) vs (.ref d) us Q I2 (show RelV (.ref d) (.ref d) from rfl) r2 q2
/-- d.pop(k), k there -/
def rPopN (P : Program) (w : World) (K : PySem.W.Frag) : V → List V → Hp → VK → Prop := fun x ys H Q => ∃ (κ : Type) (_ : DecidableEq κ) (e : κ → PyData) (k : κ) (d : Addr) (kvs : List (κ × V)) (y v : V), KeyOk e ∧ x = .ref d ∧ ys = [y] ∧ DN P w e K H d kvs ∧ Im K H y (e k) ∧ dget kvs k = some v ∧
  ∀ H', Kp [d] H H' → TK H H' → DN P w e K H' d (ddel kvs k) → Q v H'
theorem mt_popN (hu : X.A.units + 64 < cLine) : MtM X "dict.pop" (rPopN X.prog X.w X.K) := fun pins s σ H x ys v us Q I rx r h => by
  obtain ⟨κ, _, e, k, d, kvs, y, z, ok, rfl, rfl, ⟨xs, ep, h1, h2⟩, hk, hv, q⟩ := h
  obtain ⟨u, rfl, ry⟩ := r.one
  obtain ⟨a, rfl⟩ := ok.ref hk
  cases rx
  cases ry
  obtain ⟨hm, hd, hl⟩ := dn_keyed ok I h1 h2
  have rl := dget_rel ok (k := k) h2
  rw [hv] at rl
  obtain ⟨v', ev, rv⟩ := rl.some_of
  obtain ⟨p, hp, rfl⟩ := atKey_of xs _ ev
  refine call_pop_heap (hsz := hl) (.inl rfl) (F.args_dict_pop_2 _ _) (dn_room hu) (ok.is I hk) hd (dn_H ok I h1 h2) hp fun h' hm' sb => ?_
  have p2 := del_rel ok (k := k) h2
  have hl' : (withoutH xs (nk (e k))).length ≤ sizeLine := Nat.le_trans (List.length_filter_le _ _) hl
  obtain ⟨H', I', k1, k2, k3⟩ := dn_write (t' := s.toks + (nestedKind X.prog X.w).draws (nk (e k))) ok I h1 p2 hl' hd hm' sb
  exact ⟨z, H', I', rv, q H' k1 k2 k3⟩
/-- d.setdefault(k, v) -/
def rSetdN (P : Program) (w : World) (K : PySem.W.Frag) : V → List V → Hp → VK → Prop := fun x ys H Q => ∃ (κ : Type) (_ : DecidableEq κ) (e : κ → PyData) (k : κ) (d : Addr) (kvs : List (κ × V)) (y v : V), KeyOk e ∧ x = .ref d ∧ ys = [y, v] ∧ DN P w e K H d kvs ∧ Im K H y (e k) ∧ kvs.length < sizeLine ∧
  (∀ v', dget kvs k = some v' → Q v' H) ∧ (dget kvs k = none → ∀ H', Kp [d] H H' → TK H H' → DN P w e K H' d (dput kvs k v) → Q v H')
theorem mt_setdN (hu : X.A.units + 64 < cLine) : MtM X "dict.setdefault" (rSetdN X.prog X.w X.K) := fun pins s σ H x ys v us Q I rx r h => by
  obtain ⟨κ, _, e, k, d, kvs, y, z, ok, rfl, rfl, ⟨xs, ep, h1, h2⟩, hk, hz, q1, q2⟩ := h
  obtain ⟨u, u2, rfl, ry, rz⟩ := r.two
  obtain ⟨a, rfl⟩ := ok.ref hk
  cases rx
  cases ry
  obtain ⟨hm, hd, hl⟩ := dn_keyed ok I h1 h2
  have rl := dget_rel ok (k := k) h2
  refine call_setdefault_heap (hsz := hl) (dn_room hu) (ok.is I hk) hd (dn_H ok I h1 h2) (fun p hp => ?_) fun hn h' hm' sb => ?_
  · rw [valueAt_pairsH, hp] at rl
    cases e1 : dget kvs k with
    | none => rw [e1] at rl; exact rl.elim
    | some v' =>
      rw [e1] at rl
      exact ⟨v', H, I.tok _, rl, q1 v' e1⟩
  · have e1 : dget kvs k = none := by
      rw [valueAt_pairsH, hn] at rl
      cases e1 : dget kvs k with
      | none => rfl
      | some v' => rw [e1] at rl; exact rl.elim
    have p2 := put_rel ok (v := z) hk rz h2
    have hl' : (storedH xs (nk (e k)) a u2).length ≤ sizeLine := by
      have := Paired.length p2
      have := length_dput (kvs := kvs) (k := k) (v := z)
      omega
    obtain ⟨H', I', k1, k2, k3⟩ := dn_write (t' := s.toks + (nestedKind X.prog X.w).draws (nk (e k))) ok I h1 p2 hl' hd hm' sb
    exact ⟨z, H', I', rz, q2 e1 H' k1 k2 k3⟩
/-- len(d) -/
def rLenN (P : Program) (w : World) : List V → Hp → VK → Prop := fun ys H Q => ∃ d xs ep, ys = [.ref d] ∧ H d = some (dN P w d xs ep) ∧ Q (.int xs.length) H
end
theorem DN.len {P : Program} {w : World} {K : PySem.W.Frag} {H : Hp} {κ : Type} {e : κ → PyData} {d : Addr} {kvs : List (κ × V)} (x : DN P w e K H d kvs) : ∃ xs ep, H d = some (dN P w d xs ep) ∧ xs.length = kvs.length := by
  obtain ⟨xs, ep, h1, h2⟩ := x
  exact ⟨xs, ep, h1, (Paired.length h2).symm⟩
end Lw
end
section
set_option Elab.async false
set_option linter.all false
set_option maxRecDepth 100000
set_option maxHeartbeats 2000000
/-! len, list, dict of dicts of tuple keys; sorted of data. -/
namespace Lw
open PySem PySem.Spec PyProof.Rows L2
section
variable {X : Cx}
/-- len(d) -/
def rLenN' (P : Program) (w : World) (K : PySem.W.Frag) : List V → Hp → VK → Prop := fun ys H Q => ∃ (κ : Type) (_ : DecidableEq κ) (e : κ → PyData) (d : Addr) (kvs : List (κ × V)), KeyOk e ∧ ys = [.ref d] ∧ DN P w e K H d kvs ∧ Q (.int kvs.length) H
theorem call_lenN : CallR X (.builtin "len") (rLenN' X.prog X.w X.K) := fun pins s σ H ys us Q I r h => by
  obtain ⟨κ, _, e, d, kvs, ok, rfl, ⟨xs, ep, h1, h2⟩, q⟩ := h
  obtain ⟨u, rfl, rx⟩ := r.one
  cases rx
  obtain ⟨hm, hd, hl⟩ := dn_keyed ok I h1 h2
  have hlen : kvs.length = xs.length := Paired.length h2
  refine call_len_dictH hd (dn_H ok I h1 h2) (by rw [sizeLine_eq] at hl; omega) ?_
  rw [← hlen]
  exact ⟨.int kvs.length, H, I.tok _, ⟨_, rfl⟩, q⟩
/-- the keys as data -/
theorem keys_im {K : PySem.W.Frag} {H : Hp} {κ : Type} {e : κ → PyData} : ∀ {kvs : List (κ × V)} {xs : List NE}, Paired (fun (p : κ × V) (q : NE) => q.1 = nk (e p.1) ∧ Im K H (.ref q.2.1) (e p.1) ∧ RelV p.2 q.2.2) kvs xs →
    ImAll K H (xs.map fun q => V.ref q.2.1) (kvs.map fun p => e p.1)
  | _, _, .nil => .nil
  | _, _, .cons h t => .cons h.2.1 (keys_im t)
theorem keys_vals {P : Program} {w : World} {xs : List NE} {es : Array DictEntry} {acc : Array Value} (he : es.toList = xs.map (entryOfKey (nestedKind P w))) (hl : acc.size = es.size) (h : ∀ (j : Nat) (v : Value), acc[j]? = some v → ∃ en : DictEntry, es[j]? = some en ∧ v = en.key) :
    acc.toList = (xs.map fun q => V.ref q.2.1).map (fun v => match v with | .ref a => Value.ref a | _ => Value.none) := by
  have l1 : es.size = xs.length := by
    have := congrArg List.length he
    rw [Array.length_toList, List.length_map] at this
    exact this
  apply List.ext_getElem?
  intro j
  rw [List.map_map, List.getElem?_map]
  cases hj : acc.toList[j]? with
  | none =>
    have h1 := List.getElem?_eq_none_iff.mp hj
    rw [Array.length_toList] at h1
    rw [List.getElem?_eq_none (by omega)]
    rfl
  | some v =>
    obtain ⟨en, hen, hv⟩ := h j v (by rw [← Array.getElem?_toList]; exact hj)
    have hj2 : j < xs.length := by rw [← l1]; exact (Array.getElem?_eq_some_iff.mp hen).1
    have q := ent_at he (List.getElem?_eq_getElem hj2)
    rw [hen] at q
    cases q
    rw [hv, List.getElem?_eq_getElem hj2]
    rfl
theorem vals_ref : ∀ xs : List NE, Vals (xs.map fun q => V.ref q.2.1) ((xs.map fun q => V.ref q.2.1).map (fun v => match v with | .ref a => Value.ref a | _ => Value.none))
  | [] => .nil
  | q :: xs => .cons rfl (vals_ref xs)
/-- list(d) -/
def rListN (P : Program) (w : World) (K : PySem.W.Frag) : List V → Hp → VK → Prop := fun ys H Q => ∃ (κ : Type) (_ : DecidableEq κ) (e : κ → PyData) (d : Addr) (kvs : List (κ × V)), KeyOk e ∧ ys = [.ref d] ∧ DN P w e K H d kvs ∧
  ∀ p H', Same H H' → H p = none → Im K H' (.ref p) (.list (kvs.map fun p => e p.1)) → Q (.ref p) H'
theorem call_listN (hc : X.calm = true) : CallR X (.type "list") (rListN X.prog X.w X.K) := fun pins s σ H ys us Q I r h => by
  obtain ⟨κ, _, e, d, kvs, ok, rfl, ⟨xs, ep, h1, h2⟩, q⟩ := h
  obtain ⟨u, rfl, rx⟩ := r.one
  cases rx
  obtain ⟨hs, hsz, o, es, hgd, hx, hdt, hes, ent⟩ := Inv.dn I h1
  refine PySem.W.kdl_call (kdl_raw hs hx hdt) (I.ok.hd hc) hgd (by omega) fun h' tk acc' c' kp eo it => ?_
  have ea := keys_vals ent (by rw [it.1]) (fun j v hj => it.2 j v hj)
  have rv : Vals (xs.map fun q => V.ref q.2.1) acc'.toList := by rw [ea]; exact vals_ref xs
  have hp := I.hok.fresh (Nat.le_refl s.heap.objs.size)
  refine ⟨.ref s.heap.objs.size, _, I.laid (t' := tk) (o := .lst (xs.map fun q => V.ref q.2.1)) kp (Nat.le_refl _) ⟨by rw [List.length_map]; exact hsz, acc'.toList, c', rv, by rw [Array.toArray_toList]; exact eo⟩, rfl, q _ _ (Same.new hp) hp (.lst upd_same ((keys_im h2).same (Same.new hp)))⟩
/-- dict(d): a copy -/
def rDictN (P : Program) (w : World) (K : PySem.W.Frag) : List V → Hp → VK → Prop := fun ys H Q => ∃ (κ : Type) (_ : DecidableEq κ) (e : κ → PyData) (d : Addr) (kvs : List (κ × V)), KeyOk e ∧ ys = [.ref d] ∧ DN P w e K H d kvs ∧ (∀ w, ((kvs.map fun p => (nk (e p.1)).hash w)).Nodup) ∧
  ∀ p H', Same H H' → H p = none → DN P w e K H' p kvs → Q (.ref p) H'
theorem hashes_eq {K : PySem.W.Frag} {H : Hp} {κ : Type} {e : κ → PyData} {w : World} : ∀ {kvs : List (κ × V)} {xs : List NE}, Paired (fun (p : κ × V) (q : NE) => q.1 = nk (e p.1) ∧ Im K H (.ref q.2.1) (e p.1) ∧ RelV p.2 q.2.2) kvs xs →
    (xs.map fun q => q.1.hash w) = kvs.map fun p => (nk (e p.1)).hash w
  | _, _, .nil => rfl
  | _, _, .cons h t => by rw [List.map_cons, List.map_cons, hashes_eq t, h.1]
theorem call_dictN (hu : X.A.units + 64 < cLine) : CallR X (.type "dict") (rDictN X.prog X.w X.K) := fun pins s σ H ys us Q I r h => by
  obtain ⟨κ, _, e, d, kvs, ok, rfl, ⟨xs, ep, h1, h2⟩, hh, q⟩ := h
  obtain ⟨u, rfl, rx⟩ := r.one
  cases rx
  have hm := dn_H ok I h1 h2
  obtain ⟨_, hd, hl⟩ := dn_keyed ok I h1 h2
  have hap : (xs.map fun x => (nestedKind X.prog X.w).hash x.1).Nodup := by
    have := hashes_eq (w := X.w) h2
    show (xs.map fun q => q.1.hash X.w).Nodup
    rw [this]
    exact hh X.w
  have hty : ∀ x ∈ xs, s.TypeIs (.ref x.2.1) "tuple" := by
    intro x hx
    obtain ⟨j, hj, rfl⟩ := List.getElem_of_mem hx
    obtain ⟨p, _, him, _⟩ := rn_get h2 (List.getElem?_eq_getElem hj)
    obtain ⟨ds, q⟩ := ok.tup p.1
    rw [q] at him
    obtain ⟨a, ys, e1, hq, _⟩ := him.tup_inv
    cases e1
    obtain ⟨its, rv, pt, hz⟩ := I.tuple hq
    exact pt.typeIs
  refine callType_codes (Q₁ := fun obj s₁ => obj = .ref s.heap.objs.size ∧ s₁ = { s with heap := s.heap.push { cls := .type "dict", data := .dict #[] } }) F.kt_called_dict (F.kt_typeCall_dict_1 _) F.entry_dict_init (kt_code_dict_new _ ⟨rfl, rfl⟩) ?_
  rintro obj s₁ ⟨rfl, rfl⟩
  have kp : ∀ b o, s.heap.get? b = some o → (s.heap.push { cls := .type "dict", data := .dict #[] }).get? b = some o := fun b o z => Heap.get?_push_of_some _ z
  have I1 : Inv X pins σ H { s with heap := s.heap.push { cls := .type "dict", data := .dict #[] } } := I.kept (t' := s.toks) kp
  have hnew : (s.heap.push { cls := .type "dict", data := .dict #[] }).DictOfH (nestedKind X.prog X.w) s.heap.objs.size [] :=
    ⟨_, #[], 0, Heap.get?_push_size _ rfl, ⟨rfl, rfl, rfl⟩, rfl, rfl, (fun _ z => nomatch z), List.nodup_nil⟩
  have ho' := dn_H ok I1 h1 h2
  have hdo : s.heap.objs.size ≠ d := fun z => absurd (I.hok.lt h1) (by rw [← z]; exact Nat.lt_irrefl _)
  refine ⟨hnew.typeIs, F.args_dict_init_2 _ _, ?_⟩
  unfold Builtin.«dict.__init__»
  refine wpAny_bind ?_
  unfold Builtin.Dict.selfAndRest
  refine wpAny_bind (wpAny_notOrdered_dict hnew.typeIs ?_)
  show wpAny _ _ (pure (s.heap.objs.size, [Value.ref d])) _ _ _
  refine wpAny_pure ?_
  show wpAny _ _ (Builtin.Dict.updateFrom "dict.__init__" s.heap.objs.size (.ref d) [] .none) _ _ _
  have hty' : ∀ x ∈ xs, Shared.TypeIs { s with heap := s.heap.push { cls := .type "dict", data := .dict #[] } } (.ref x.2.1) "tuple" := fun x hx => by
    obtain ⟨o, z1, z2⟩ := hty x hx
    exact ⟨o, kp _ _ z1, z2⟩
  refine updateFrom_dictH (A := X.A.in1) (R := wants (fun r s₂ => r = Value.none ∧ EP X pins σ Q (Value.ref s.heap.objs.size) s₂) X.xe) (s := { s with heap := s.heap.push { cls := .type "dict", data := .dict #[] } }) .none (show X.A.units + 1 + 1 + 8 < cLine by omega) hdo hd hnew ho' (.inr ⟨hty', hap⟩) (by simpa using hl) fun h' hd' _ sb => ?_
  rw [storedAllH_nil_of_nodup xs ho'.nodup] at hd'
  obtain ⟨o, es, ep', q1, q2, q3, q4, q5, q6⟩ := hd'
  have hp := I.hok.fresh (Nat.le_refl s.heap.objs.size)
  have hbig : (s.heap.objs.size == sysModules) = false := beq_eq_false_iff_ne.mpr (Nat.ne_of_gt I.big)
  refine ⟨rfl, ⟨.ref s.heap.objs.size, _, I.laid (t' := s.toks) (o := dN X.prog X.w s.heap.objs.size xs ep') (fun b u z => (sb.2 b (Nat.ne_of_lt (Heap.lt_size z))).trans (kp b u z)) (Nat.le_refl _) (dN_ok q1 q2 q3 q4 q6 hl hbig), rfl, q _ _ (Same.new hp) hp ?_⟩⟩
  exact ⟨xs, ep', upd_same, Paired.mapP h2 fun p q z => ⟨z.1, z.2.1.same (Same.new hp), z.2.2⟩⟩
end
/-! ### sorted -/
/-- the list sorted as Python does -/
noncomputable def srt {α : Type} (e : α → PyData) (l : List α) : List α := l.mergeSort (PySem.W.dataLe false e)
theorem srt_perm {α : Type} {e : α → PyData} (l : List α) : (srt e l).Perm l := List.mergeSort_perm _ _
section
variable {α : Type} {e : α → PyData} {X : Cx} {pins : List (Addr × Obj)} {σ : L2.St} {H : Hp} {s : Shared}
/-- what sorts: ints, or tuples of one item at least -/
def Srtb (e : α → PyData) (l : List α) : Prop := (∀ a ∈ l, ∃ d r, e a = .tuple (d :: r)) ∨ ∀ a ∈ l, ∃ i, e a = .int i
theorem Srtb.ok {l : List α} (h : Srtb e l) : PySem.W.Sortable (l.map e) := by
  rcases h with h | h
  · refine .inl fun d hd => ?_
    obtain ⟨a, ha, rfl⟩ := List.mem_map.mp hd
    exact h a ha
  · refine .inr fun d hd => ?_
    obtain ⟨a, ha, rfl⟩ := List.mem_map.mp hd
    obtain ⟨i, q⟩ := h a ha
    rw [q]
    exact ⟨(fun z => nomatch z), (fun _ z => nomatch z)⟩
theorem each_of : ∀ {vs : List V} {us : List Value} {l : List α}, ImAll X.K H vs (l.map e) → Vals vs us → PySem.W.EachIs (fun u a => ∃ v, RelV v u ∧ Im X.K H v (e a)) us l
  | _, _, [], h, r => by cases h; cases r; exact .nil
  | _, _, a :: l, h, r => by
    cases h with
    | cons h t =>
      cases r with
      | cons r rr => exact .cons ⟨_, r, h⟩ (each_of t rr)
theorem of_each : ∀ {us : List Value} {l : List α}, PySem.W.EachIs (fun u a => ∃ v, RelV v u ∧ Im X.K H v (e a)) us l → ∃ vs, Vals vs us ∧ ImAll X.K H vs (l.map e)
  | _, _, .nil => ⟨[], .nil, .nil⟩
  | _, _, .cons ⟨v, r, h⟩ t => by
    obtain ⟨vs, r2, h2⟩ := of_each t
    exact ⟨v :: vs, .cons r r2, .cons h h2⟩
theorem alike_of [DecidableEq α] {n : Nat} (ok : EncOk e n) (l : List α) : PySem.W.AllAlike (l.map e) := PySem.W.AllAlike.of ok.alk
def rSortD (K : PySem.W.Frag) : List V → Hp → VK → Prop := fun ys H Q => ∃ (α : Type) (_ : DecidableEq α) (e : α → PyData) (n : Nat) (l : List α) (y : V), EncOk e n ∧ n ≤ 60 ∧ Srtb e l ∧ ys = [y] ∧ Im K H y (eL e l) ∧
  ∀ p H', Same H H' → H p = none → Im K H' (.ref p) (eL e (srt e l)) → Q (.ref p) H'
theorem call_sortD (hu : X.A.units + 64 < cLine) : CallR X (.builtin "sorted") (rSortD X.K) := fun pins s σ H ys us Q I r h => by
  obtain ⟨α, _, e, n, l, y, ok, hn, hk, rfl, hy, q⟩ := h
  obtain ⟨u, rfl, rx⟩ := r.one
  obtain ⟨a, xs, rfl, h1, h2⟩ := hy.lst_inv
  cases rx
  obtain ⟨its, rv, pl, hz⟩ := I.list (SqL.of h1)
  have hlen : its.length = l.length := by rw [← rv.length, h2.length, List.length_map]
  have ee := each_of (e := e) h2 rv
  refine PySem.W.sorted_data (β := α) (bs := l) (enc := e) (vs := its) pl.isList ee (ee.mono fun u a ⟨v, r, h⟩ => h.reads I r) (alike_of ok l) hk.ok (by rw [← hlen, ← rv.length]; exact hz) (fun b _ => by have := ok.dep b; omega) fun out hl eo => ?_
  obtain ⟨vs, r2, i2⟩ := of_each eo
  obtain ⟨ep, he'⟩ := PyProof.Rows.sortedAll_at s.heap its out.toArray
  have hp := I.hok.fresh (Nat.le_succ s.heap.objs.size)
  refine ⟨.ref _, upd H (s.heap.objs.size + 1) (.lst vs), I.laid (t' := s.toks) (fun _ _ => PyProof.Rows.sortedAll_old) (Nat.le_succ _) ⟨?_, out, ep, r2, he'⟩, rfl, q _ _ (Same.new hp) hp (.lst upd_same (i2.same (Same.new hp)))⟩
  rw [r2.length, hl, ← hlen, ← rv.length]
  exact hz
/-- sorted(d) -/
def rSortN (P : Program) (w : World) (K : PySem.W.Frag) : List V → Hp → VK → Prop := fun ys H Q => ∃ (κ : Type) (_ : DecidableEq κ) (e : κ → PyData) (d : Addr) (kvs : List (κ × V)), KeyOk e ∧ ys = [.ref d] ∧ DN P w e K H d kvs ∧ (∀ k ∈ kvs.map (·.1), ∃ x r, e k = .tuple (x :: r)) ∧
  ∀ p H', Same H H' → H p = none → Im K H' (.ref p) (eL e (srt e (kvs.map (·.1)))) → Q (.ref p) H'
theorem call_sortN (hc : X.calm = true) (hu : X.A.units + 64 < cLine) : CallR X (.builtin "sorted") (rSortN X.prog X.w X.K) := fun pins s σ H ys us Q I r h => by
  obtain ⟨κ, _, e, d, kvs, ok, rfl, ⟨xs, ep, h1, h2⟩, hk, q⟩ := h
  obtain ⟨u, rfl, rx⟩ := r.one
  cases rx
  obtain ⟨hs, hsz, o, es, hgd, hx, hdt, hes, ent⟩ := Inv.dn I h1
  refine Calls.call_function_entry PyProof.Rows.kind_sorted PyProof.Rows.plain_sorted PyProof.Rows.entry_sorted (PyProof.Rows.args_sorted1 _) ?_
  unfold Builtin.«sorted»
  refine wpAny_bind (m := checkCount "sorted" 1 1 _) (wpAny_pure ?_)
  refine wpAny_bind (PySem.W.kdu_collect (A := X.A.in1) (kdl_raw hs hx hdt) (I.ok.hd hc) hgd (by omega) fun h' tk acc kp it => ?_)
  have ea := keys_vals ent (by rw [it.1]) (fun j v hj => it.2 j v hj)
  have rv : Vals (xs.map fun q => V.ref q.2.1) acc.toList := by rw [ea]; exact vals_ref xs
  have hal : acc.toList.length = xs.length := by rw [← rv.length, List.length_map]
  have I1 : Inv X pins σ H { s with heap := h', toks := tk } := I.kept kp
  refine wpAny_bind (wpAny_newList ?_ (by rw [hal]; exact hsz))
  have hoL : (h'.push (seqObj "list" acc.toList.toArray 0)).get? h'.objs.size = some (seqObj "list" acc.toList.toArray 0) := Heap.get?_push_size _ rfl
  show wpAny _ _ _ _ _ { s with heap := h'.push (seqObj "list" acc.toList.toArray 0), toks := tk }
  have im := keys_im h2
  have em : (kvs.map fun p => e p.1) = (kvs.map (·.1)).map e := by rw [List.map_map]; rfl
  rw [em] at im
  have ee := each_of (e := e) im rv
  have hsort : PySem.W.Sortable ((kvs.map (·.1)).map e) := Srtb.ok (.inl hk)
  have hal2 := alike_of ok.enc (kvs.map (·.1))
  have old : ∀ {b : Addr} {ob : Obj}, h'.get? b = some ob → (PySem.W.sortingHeap (h'.push (seqObj "list" acc.toList.toArray 0)) h'.objs.size acc.toList).get? b = some ob := fun {b ob} z =>
    PySem.W.sortingHeap_old (Nat.ne_of_lt (Heap.lt_size z)) (Heap.get?_push_of_some _ z)
  have er : PySem.W.EachIs (fun u a => ∃ as, Reads (PySem.W.sortingHeap (h'.push (seqObj "list" acc.toList.toArray 0)) h'.objs.size acc.toList) u (e a) as) acc.toList (kvs.map (·.1)) :=
    ee.mono fun u a ⟨v, r, h⟩ => by
      obtain ⟨as, rr⟩ := h.reads I1 r
      exact ⟨as, PyProof.Rows.Reads.keeps (fun _ _ => old) rr⟩
  refine wpAny_bind (wpAny_holding (wpAny_call_entry PyProof.Rows.slot_list_sort ⟨_, hoL, rfl⟩ PyProof.Rows.entry_list_sort
    (PySem.W.list_sort_vals (A := X.A.in1.in1) (s := { s with heap := h'.push (seqObj "list" acc.toList.toArray 0), toks := tk }) hoL
      (PySem.W.SortsAt.data (s := { s with heap := PySem.W.sortingHeap (h'.push (seqObj "list" acc.toList.toArray 0)) h'.objs.size acc.toList, toks := tk }) (PySem.W.each_map (R := fun v d => ∃ as, Reads (PySem.W.sortingHeap (h'.push (seqObj "list" acc.toList.toArray 0)) h'.objs.size acc.toList) v d as) e er) hal2 hsort
        (PySem.W.bound_map fun b _ => by show X.A.units + 1 + 1 + (e b).depth < cLine; have := ok.enc.dep b; omega))
      (by rw [hal]; exact hsz) ⟨_, rfl, ?_⟩)
    (PyProof.Rows.args_list_sort _)))
  have eo := PySem.W.sortVals_data (R := fun u a => ∃ v, RelV v u ∧ Im X.K H v (e a)) false ee er hal2
  obtain ⟨vs, r2, i2⟩ := of_each eo
  obtain ⟨e', he'⟩ := PyProof.Rows.sortedHeap_at (vs := acc.toList) (out := (PySem.W.sortVals (PySem.W.dataKind (PySem.W.sortingHeap (h'.push (seqObj "list" acc.toList.toArray 0)) h'.objs.size acc.toList) ((kvs.map (·.1)).map e)) false acc.toList acc.toList).toArray) hoL
  have hp := I1.hok.fresh (Nat.le_refl h'.objs.size)
  refine wpAny_pure ⟨_, rfl, .ref h'.objs.size, upd H h'.objs.size (.lst vs), I1.laid (t' := tk) (fun b u z => ?_) (Nat.le_refl _) ⟨?_, _, e', r2, he'⟩, rfl, q _ _ (Same.new hp) hp (.lst upd_same (i2.same (Same.new hp)))⟩
  · have hb : b < h'.objs.size := Heap.lt_size z
    rw [PyProof.Rows.sortedHeap_old (Nat.ne_of_lt hb) (by rw [size_push']; exact Nat.lt_succ_of_lt hb)]
    exact Heap.get?_push_of_some _ z
  · rw [r2.length, PySem.W.sortVals_length false rfl, hal]
    exact hsz
end
end Lw
end
section
set_option Elab.async false
set_option linter.all false
set_option maxRecDepth 100000
set_option maxHeartbeats 2000000
/-! Dict comprehensions of tuple keys, one clause or two. -/
namespace Lw
open PySem PySem.Spec PyProof.Rows L2
/-! ### one turn of a walk: the item drawn, stored, tested -/
section
variable {X : Cx} {P : List (Addr × Obj)} {σ : L2.St} {H : Hp} {s : Shared} {tg : Expr} {ifs : List Expr} {J : It} {fp : List Addr} {it : Addr} {tn : Nat → Heap → Prop} {i : Nat} {g : TG} {tt : TT}
/-- behind the tests of a turn -/
def Mid (X : Cx) (P : List (Addr × Obj)) (σ : L2.St) (fp : List Addr) (tn : Nat → Heap → Prop) (i : Nat) (C : L2.St → Prop) (B : L2.St → Bool → Hp → Prop) (ok : Bool) (s3 : Shared) : Prop :=
  ∃ pl σ2 H3, Inv X (P ++ pl) σ2 H3 s3 ∧ C σ2 ∧ B σ2 ok H3 ∧ ∀ σ' H' s', Inv X (P ++ pl) σ' H' s' → Inv X P σ' H' s' ∧ tn (i + 1) s'.heap ∧ ∀ b ∈ fp, H' b = none
theorem turn_run (hc : X.calm = true) (I : Inv X P σ H s) (T : Turn X.prog X.w X.K tg J fp it tn) (st : tn i s.heap) (hf : ∀ b ∈ fp, FpOk X P H b) (go : J.go i H) (pg : PG X tg g) (pt : PTs X ifs tt) {C : L2.St → Prop} {B : L2.St → Bool → Hp → Prop}
    (hxe : X.xe = fun _ _ => False) (h : ∀ x H', J.yld i H x H' → g x σ H' fun σ2 H2 => C σ2 ∧ tt σ2 H2 fun b H3 => B σ2 b H3) {E : Value → Shared → Prop} {Z : Option Value → Shared → Prop}
    (hz : ∀ u s1, wpAny (model X.prog X.w) X.A (letOwnedTupleGo tg (.ref it) u) (fun _ s1' => wpAny (model X.prog X.w) X.A (assign tg X.env u) (fun _ s2 =>
      wpAny (model X.prog X.w) X.A (forIn ifs true fun c r => if r = true then do let ok ← isTrue c X.env (eval c X.env); pure (ForInStep.yield ok) else pure (ForInStep.yield r)) (Mid X P σ fp tn i C B) (fun _ _ => False) s2) (fun _ _ => False) s1') (fun _ _ => False) s1 → Z (some u) s1) :
    wpAny (model X.prog X.w) X.A (pyNext (.ref it)) Z E s := by
  refine thnF (T.item X rfl rfl rfl hc i P s σ H (fun _ _ => False) I hf st go) fun r s1 ⟨u, hr, h1⟩ => ?_
  subst hr
  refine hz u s1 (thnF h1 fun _ s2 ⟨x, H2, I2, r2, y2, st2, n2⟩ => ?_)
  have f2 : ∀ b ∈ fp, FpOk X P H2 b := fun b hb => ⟨n2 b hb, (hf b hb).2⟩
  have I3 := I2.pinned f2 (T.obj _ _ st2)
  have a := pg.run _ s2 σ H2 x u _ I3 r2 (h x H2 y2)
  rw [hxe] at a
  refine thnF a fun _ s3 ⟨σ3, H3, I4, hC, q⟩ => ?_
  have b := pt.run _ s3 σ3 H3 _ I4 q
  rw [hxe] at b
  refine thnF b fun ok s4 ⟨H4, I5, q5⟩ => ⟨pinsAt fp s2.heap, σ3, H4, I5, hC, q5, fun σ' H' s' I' => ⟨I'.unpinned, ?_, fun b hb => ?_⟩⟩
  · exact T.keep _ _ _ st2 fun b hb o e => (I'.pin (b, o) (List.mem_append_right _ (List.mem_append_right _ (mem_pinsAt hb e)))).1
  · obtain ⟨o, e, _⟩ := T.obj _ _ st2 b hb
    exact (I'.pin (b, o) (List.mem_append_right _ (List.mem_append_right _ (mem_pinsAt hb e)))).2.1
end
/-! ### the block opened: the new dict, the block's frame -/
section
variable {X : Cx}
/-- a comprehension's dict is laid, its block stands -/
theorem dn_open {pins : List (Addr × Obj)} {s : Shared} {σ : L2.St} {H : Hp} {kx vx tg iter : Expr} {ifs : List Expr} {rest : List Comprehension} {scope : Scope} {own : List (Str × Nat)} {pos pos' : Pos} {wi : TI} {R : It → Hp → Prop} {use : Option (Value → Sem Unit)} {Qf : Value → Shared → Prop}
    (hN : X.N.Nodup) (I : Inv X pins σ H s) (hi : PI X tg iter wi) (ok : BlkOk X.N X.env.scope scope own) (hs : ∀ x, foldedSetIterable iter X.env x = pure x) (h : wi σ H R)
    (L : ∀ (D it C : Addr) (fp : List Addr) (tn : Nat → Heap → Prop) (J : It) (H1 : Hp) (cl : List (Str × Addr)) (s3 s4 : Shared), R J H1 → H1 D = none → Turn X.prog X.w X.K tg J fp it tn →
      Inv (X.blk s3 (upd H1 D (dN X.prog X.w D [] 0)) scope (compEnvC scope cl C X.env) fp) [] (wipe σ (own.map (·.2))) (upd H1 D (dN X.prog X.w D [] 0)) s4 → tn 0 s4.heap → (∀ b ∈ fp, (upd H1 D (dN X.prog X.w D [] 0)) b = none) →
      (∀ σ' H' s', Inv (X.blk s3 (upd H1 D (dN X.prog X.w D [] 0)) scope (compEnvC scope cl C X.env) fp) [] σ' H' s' → (∀ b ∈ fp, H' b = none) → ∀ b ∈ fp, FpOk (X.blk s3 (upd H1 D (dN X.prog X.w D [] 0)) scope (compEnvC scope cl C X.env) fp) [] H' b) →
      (∀ σ' H' s', Inv (X.blk s3 (upd H1 D (dN X.prog X.w D [] 0)) scope (compEnvC scope cl C X.env) fp) [] σ' H' s' → Inv X pins σ H' s' ∧ FpOk X pins H' C ∧ ∃ m, s'.heap.Ns C m) →
      codeAny (model X.prog X.w) X.A (.compLoop (.DictComp kx vx (⟨tg, iter, ifs, 0⟩ :: rest) scope pos) 0 (.ref it) (.ref D) (compEnvC scope cl C X.env)) (compPost (model X.prog X.w) X.A X.xe use Qf (.ref D) C) s4) :
    wpAny (model X.prog X.w) X.A (comprehension (.DictComp kx vx (⟨tg, iter, ifs, 0⟩ :: rest) scope pos) scope X.env pos' newDict false (eval iter X.env) use) Qf X.xe s := by
  have free : ∀ y ∈ scope.names, y.2 = .free → ∃ c, X.env.cells.lookup y.1 = some c := fun y hy e => I.ok.has _ (ok.free y hy e)
  refine wpAny_comprehension_free rfl hs (closure_ok free) ok.kind (fun y hy e => by rw [ok.uniq y hy, e]) (thn (hi.run pins s σ H _ I h) fun xv s1 hx => thn hx fun itv s2 h2 => ?_)
  obtain ⟨it, fp, tn, J, H1, rfl, I1, T, st, f1, q⟩ := h2
  refine wpAny_newObj_type (newEnv_comp ?_)
  have nD : H1 s2.heap.objs.size = none := I1.hok.fresh (Nat.le_refl _)
  have kp : ∀ b o, s2.heap.get? b = some o → (s2.heap.push { cls := .type "dict", data := .dict #[] }).get? b = some o := fun b o e => Heap.get?_push_of_some _ e
  have I3 : Inv X pins σ (upd H1 s2.heap.objs.size (dN X.prog X.w s2.heap.objs.size [] 0)) { s2 with heap := s2.heap.push { cls := .type "dict", data := .dict #[] } } :=
    I1.laid (t' := s2.toks) kp (Nat.le_refl _) (dn_empty s2.heap I1.big)
  have f3 : ∀ b ∈ fp, FpOk X pins (upd H1 s2.heap.objs.size (dN X.prog X.w s2.heap.objs.size [] 0)) b ∧ b < (s2.heap.push { cls := .type "dict", data := .dict #[] }).objs.size := fun b hb => by
    obtain ⟨o, e, _⟩ := T.obj _ _ st b hb
    have lt := Heap.lt_size e
    exact ⟨⟨by rw [upd_ne (Nat.ne_of_lt lt)]; exact (f1 b hb).1, (f1 b hb).2⟩, by rw [Heap.size_push]; exact Nat.lt_succ_of_lt lt⟩
  have I4 := block_start I3 ok hN f3
  have st3 : tn 0 (s2.heap.push { cls := .type "dict", data := .dict #[] }) := T.keep _ _ _ st fun b _ o e => kp b o e
  have key := L s2.heap.objs.size it (s2.heap.push { cls := .type "dict", data := .dict #[] }).objs.size fp tn J H1 (cellsFrom ((s2.heap.push { cls := .type "dict", data := .dict #[] }).objs.size + 1) scope.names (cloFrom X.env.cells scope.names []))
    { s2 with heap := s2.heap.push { cls := .type "dict", data := .dict #[] } } _ q nD T I4 (T.keep _ _ _ st3 fun b _ o e => pushCells_keeps _ _ _ _ (Heap.get?_push_of_some _ e)) (fun b hb => (f3 b hb).1.1)
    (fun σ' H' s' I' hn b hb => ⟨hn b hb, (I'.ok.exf b hb).1, I'.ok.exfs b hb, .inl hb, fun x c e => (I'.ok.exf b hb).2 x c e, fun p hp => nomatch (show p ∈ ([] : List (Addr × Obj)) from hp)⟩)
    (fun σ' H' s' I' => ⟨I3.call' (ch := fp) I'.os I'.base I'.hok I'.bare fun b hb => ⟨(f3 b hb).1.2.2.2.1, (f3 b hb).1.2.1, (f3 b hb).1.2.2.2.2.1, (f3 b hb).1.2.2.2.2.2⟩, I3.fpOk (Nat.le_refl _) I'.free, let ⟨m, hn, _⟩ := I'.loc; ⟨m, hn⟩⟩)
  exact codeAny_compStart_dict key (T.self X.A 0 _ _ _ (T.keep _ _ _ st3 fun b _ o e => pushCells_keeps _ _ _ _ (Heap.get?_push_of_some _ e)) key)
/-- a pair put in -/
def Sto (P : Program) (w : World) (K : PySem.W.Frag) (D : Addr) (Nx : Hp → Prop) (y z : V) (H : Hp) : Prop := ∃ (κ : Type) (_ : DecidableEq κ) (e : κ → PyData) (k : κ) (kvs : List (κ × V)), KeyOk e ∧ Im K H y (e k) ∧ DN P w e K H D kvs ∧ kvs.length < sizeLine ∧
  ∀ H', Kp [D] H H' → TK H H' → DN P w e K H' D (dput kvs k z) → Nx H'
theorem sto_run (hu : X.A.units + 64 < cLine) {pins : List (Addr × Obj)} {σ : L2.St} {H : Hp} {s : Shared} {D : Addr} {Nx : Hp → Prop} {y z : V} {u r : Value} (I : Inv X pins σ H s) (ry : RelV y u) (rz : RelV z r) (h : Sto X.prog X.w X.K D Nx y z H) {Q : Unit → Shared → Prop} {E : Value → Shared → Prop}
    (hQ : ∀ H' s', Inv X pins σ H' s' → Nx H' → Q () s') : wpAny (model X.prog X.w) X.A (dictSet D u r) Q E s := by
  obtain ⟨κ, _, e, k, kvs, ok, hy, ⟨xs, ep, h1, h2⟩, hl, q⟩ := h
  obtain ⟨a, rfl⟩ := ok.ref hy
  cases ry
  obtain ⟨hm, hd, hz⟩ := dn_keyed ok I h1 h2
  refine wpAny_dictSet_heap (hsz := hz) (knd := nestedKind X.prog X.w) (show X.A.units + 8 < cLine by omega) (ok.is I hy) (dn_H ok I h1 h2) fun h' hm' sb => ?_
  have p2 := put_rel ok (v := z) hy rz h2
  have hl' : (storedH xs (nk (e k)) a r).length ≤ sizeLine := by
    have := Paired.length p2
    have := length_dput (kvs := kvs) (k := k) (v := z)
    omega
  obtain ⟨H', I', k1, k2, k3⟩ := dn_write (t' := s.toks + (nestedKind X.prog X.w).draws (nk (e k))) ok I h1 p2 hl' hd hm' sb
  exact hQ H' _ I' (q H' k1 k2 k3)
/-! ### one clause -/
abbrev RDc (P : Program) (w : World) (K : PySem.W.Frag) (g : TG) (tt : TT) (tk tv : TE) (vs : List Nat) (σ : L2.St) (Q : VK) : It → Hp → Prop := fun J H1 => ∀ D, H1 D = none → ∃ W : Nat → Nat → Hp → Prop, (∃ m, W 0 m (upd H1 D (dN P w D [] 0))) ∧ ∀ i m H, W i m H →
  (J.stop i H ∧ Q (.ref D) H) ∨ (J.go i H ∧ ∃ Nx : Hp → Prop, (∀ H', Nx H' → ∃ m', m' < m ∧ W (i + 1) m' H') ∧ ∀ x H', J.yld i H x H' → g x (wipe σ vs) H' fun σ2 H2 => wipe σ2 vs = wipe σ vs ∧ tt σ2 H2 fun b H3 =>
    if b = true then tk σ2 H3 fun y H4 => tv σ2 H4 fun z H5 => Sto P w K D Nx y z H5 else Nx H3)
def tDcN (P : Program) (w : World) (K : PySem.W.Frag) (wi : TI) (g : TG) (tt : TT) (tk tv : TE) (vs : List Nat) : TE := fun σ H Q => wi σ H (RDc P w K g tt tk tv vs σ Q)
theorem dcn_core {pins : List (Addr × Obj)} {s : Shared} {σ : L2.St} {H : Hp} {Q : VK} {kx vx tg iter : Expr} {ifs : List Expr} {scope : Scope} {own : List (Str × Nat)} {pos pos' : Pos} {wi : TI} {g : TG} {tt : TT} {tk tv : TE} {use : Option (Value → Sem Unit)} {Qf : Value → Shared → Prop}
    (hu : X.A.units + 64 < cLine) (hc : X.calm = true) (hN : X.N.Nodup) (I : Inv X pins σ H s) (hi : PI X tg iter wi) (ok : BlkOk X.N X.env.scope scope own)
    (hb : ∀ (s : Shared) (H : Hp) (C : Addr) (cl : List (Str × Addr)) (fp : List Addr), PG (X.blk s H scope (compEnvC scope cl C X.env) fp) tg g ∧ PTs (X.blk s H scope (compEnvC scope cl C X.env) fp) ifs tt ∧
      PE (X.blk s H scope (compEnvC scope cl C X.env) fp) kx tk ∧ PE (X.blk s H scope (compEnvC scope cl C X.env) fp) vx tv) (hs : ∀ x, foldedSetIterable iter X.env x = pure x)
    (h : tDcN X.prog X.w X.K wi g tt tk tv (own.map (·.2)) σ H Q)
    (hR : ∀ D C s' m H', Inv X pins σ H' s' → Q (.ref D) H' → s'.heap.Ns C m → FpOk X pins H' C → compPost (model X.prog X.w) X.A X.xe use Qf (.ref D) C (.ok .next) s') :
    wpAny (model X.prog X.w) X.A (comprehension (.DictComp kx vx [⟨tg, iter, ifs, 0⟩] scope pos) scope X.env pos' newDict false (eval iter X.env) use) Qf X.xe s := by
  refine dn_open hN I hi ok hs h fun D it C fp tn J H1 cl s3 s4 q nD T I4 st4 n4 stat out => ?_
  obtain ⟨W, ⟨m0, w0⟩, turn⟩ := q D nD
  obtain ⟨pg, pt, pk, pv⟩ := hb s3 (upd H1 D (dN X.prog X.w D [] 0)) C cl fp
  generalize hce : compEnvC scope cl C X.env = ce at I4 pg pt pk pv stat out ⊢
  refine compLoop_anyD (fun n s' => ∃ i H', Inv (X.blk s3 (upd H1 D (dN X.prog X.w D [] 0)) scope ce fp) [] (wipe σ (own.map (·.2))) H' s' ∧ tn i s'.heap ∧ (∀ b ∈ fp, H' b = none) ∧ W i n H') ?_ m0 ⟨0, _, I4, st4, n4, w0⟩
  rintro n s5 ⟨i, H5, I5, st5, n5, w5⟩
  rcases turn i n H5 w5 with ⟨stop, qq⟩ | ⟨go, Nx, hNx, step⟩
  · refine thnF (T.done (X.blk s3 _ scope ce fp) rfl rfl rfl hc i [] s5 _ H5 (fun _ _ => False) I5 (stat _ _ _ I5 n5) st5 stop) fun r s6 ⟨hr, I6⟩ => ?_
    subst hr
    obtain ⟨I7, f7, m, hn⟩ := out _ _ _ I6
    exact hR D C s6 m H5 I7 qq hn f7
  · refine turn_run (X := X.blk s3 (upd H1 D (dN X.prog X.w D [] 0)) scope ce fp) hc I5 T st5 (stat _ _ _ I5 n5) go pg pt rfl step fun u s6 z => ?_
    refine thnF z fun _ s7 z => thnF z fun _ s8 z => thnF z fun b s9 ⟨pl, σ2, H9, I9, hC, q9, back⟩ => ?_
    have fin : ∀ {s' : Shared} {H' : Hp}, Inv (X.blk s3 (upd H1 D (dN X.prog X.w D [] 0)) scope ce fp) ([] ++ pl) σ2 H' s' → Nx H' → ∃ m, m < n ∧ ∃ i H', Inv (X.blk s3 (upd H1 D (dN X.prog X.w D [] 0)) scope ce fp) [] (wipe σ (own.map (·.2))) H' s' ∧ tn i s'.heap ∧ (∀ b ∈ fp, H' b = none) ∧ W i m H' := fun {s' H'} I' nx => by
      obtain ⟨m', hm, w'⟩ := hNx H' nx
      obtain ⟨I'', t', n'⟩ := back _ _ _ I'
      exact ⟨m', hm, i + 1, H', I''.weak (by rw [← hC, wipe_length]) (fun j v e => by rw [← hC] at e; exact (wipe_some e).1), t', n', w'⟩
    cases b with
    | false => exact fin I9 (by simpa using q9)
    | true =>
      simp only [if_true] at q9 ⊢
      refine thnF (pk.run _ s9 σ2 H9 _ I9 q9) fun yv s10 ⟨y, H10, I10, r10, q10⟩ => ?_
      refine thnF (pv.run _ s10 σ2 H10 _ I10 q10) fun zv s11 ⟨z, H11, I11, r11, q11⟩ => ?_
      exact sto_run (X := X.blk s3 (upd H1 D (dN X.prog X.w D [] 0)) scope ce fp) hu I11 r10 r11 q11 fun H' s' I' nx => fin I' nx
theorem pe_dcN {kx vx tg iter : Expr} {ifs : List Expr} {scope : Scope} {own : List (Str × Nat)} {pos : Pos} {wi : TI} {g : TG} {tt : TT} {tk tv : TE} (hu : X.A.units + 64 < cLine) (hc : X.calm = true) (hN : X.N.Nodup) (hi : PI X tg iter wi) (ok : BlkOk X.N X.env.scope scope own)
    (hb : ∀ (s : Shared) (H : Hp) (C : Addr) (cl : List (Str × Addr)) (fp : List Addr), PG (X.blk s H scope (compEnvC scope cl C X.env) fp) tg g ∧ PTs (X.blk s H scope (compEnvC scope cl C X.env) fp) ifs tt ∧
      PE (X.blk s H scope (compEnvC scope cl C X.env) fp) kx tk ∧ PE (X.blk s H scope (compEnvC scope cl C X.env) fp) vx tv) (hs : ∀ x, foldedSetIterable iter X.env x = pure x := by intro _; rfl) :
    PE X (.DictComp kx vx [⟨tg, iter, ifs, 0⟩] scope pos) (tDcN X.prog X.w X.K wi g tt tk tv (own.map (·.2))) := by
  refine ⟨fun pins s σ H Q I h => ?_⟩
  rw [arm_eval_DictComp]
  refine dcn_core hu hc hN I hi ok hb hs h fun D C s' m H' I' q hn f => ⟨m, hn, fun h'' sb => ⟨.ref D, H', ?_, rfl, q⟩⟩
  exact I'.turned (t' := s'.toks) (fun b o hb e => (sb.2 b hb).trans e) f.1 f.2.1 f.2.2.2.1 f.2.2.2.2.1 f.2.2.2.2.2
/-- the value of a comprehension stored to a local name -/
theorem use_store {D : Ends} {i : Nat} {y : Str} {py : Pos} {pins : List (Addr × Obj)} {σ : L2.St} (hN : X.N.Nodup) (hy : X.N[i]? = some y) (hyl : X.env.scope.names.lookup y = some .local) {Dd C : Addr} {s' : Shared} {m : Str → Option Value} {H' : Hp} (I' : Inv X pins σ H' s')
    (q : gName i (.ref Dd) σ H' D.nx) (hn : s'.heap.Ns C m) (f : FpOk X pins H' C) : compPost (model X.prog X.w) X.A X.xe (some (assign (.Name y py) X.env)) (fun _ s' => SP X pins D .next s') (.ref Dd) C (.ok .next) s' := by
  refine wpAny_assign_Name (store_ok2 (v := V.ref Dd) I' hN hy (.inl hyl) rfl (fun s2 I2 ⟨a, sb, ha⟩ => ?_) (.inr hyl))
  have ne : C ≠ a := fun z => by
    rcases ha with e | e
    · exact f.2.1 (z.trans e)
    · exact f.2.2.2.2.1 y a e z.symm
  exact ⟨m, hn.sameBut sb ne, fun h3 sb3 => ⟨_, H', I2.turned (t' := s2.toks) (fun b o hb e => (sb3.2 b hb).trans e) f.1 f.2.1 f.2.2.2.1 f.2.2.2.2.1 f.2.2.2.2.2, q⟩⟩
theorem ps_setDcN {i : Nat} {y : Str} {py : Pos} {kx vx tg iter : Expr} {ifs : List Expr} {scope : Scope} {own : List (Str × Nat)} {pos spos : Pos} {wi : TI} {g : TG} {tt : TT} {tk tv : TE} (hu : X.A.units + 64 < cLine) (hc : X.calm = true) (hN : X.N.Nodup) (hy : X.N[i]? = some y) (hyl : X.env.scope.names.lookup y = some .local)
    (hsw : swapsWith (.DictComp kx vx [⟨tg, iter, ifs, 0⟩] scope pos) (some (.Name y py)) spos.line X.env = pure true) (hi : PI X tg iter wi) (ok : BlkOk X.N X.env.scope scope own)
    (hb : ∀ (s : Shared) (H : Hp) (C : Addr) (cl : List (Str × Addr)) (fp : List Addr), PG (X.blk s H scope (compEnvC scope cl C X.env) fp) tg g ∧ PTs (X.blk s H scope (compEnvC scope cl C X.env) fp) ifs tt ∧
      PE (X.blk s H scope (compEnvC scope cl C X.env) fp) kx tk ∧ PE (X.blk s H scope (compEnvC scope cl C X.env) fp) vx tv) (hs : ∀ x, foldedSetIterable iter X.env x = pure x := by intro _; rfl) :
    PS X (.Assign [.Name y py] (.DictComp kx vx [⟨tg, iter, ifs, 0⟩] scope pos) spos) (tAsg (tDcN X.prog X.w X.K wi g tt tk tv (own.map (·.2))) (gName i)) := by
  refine ⟨fun pins s σ H D I h => ?_⟩
  rw [exec_Assign_Name_used _ _ _ _ hsw]
  refine wpAny_bind (wpAny_standAt (wpAny_bind ?_))
  show wpAny _ X.A (do let _ ← comprehension (.DictComp kx vx [⟨tg, iter, ifs, 0⟩] scope pos) scope X.env (firstIterPos [⟨tg, iter, ifs, 0⟩] pos) newDict false (eval iter X.env) (some (assign (.Name y py) X.env))) _ _ s
  have h : tDcN X.prog X.w X.K wi g tt tk tv (own.map (·.2)) σ H (fun x H1 => gName i x σ H1 D.nx) := h
  exact wpAny_bind (thn (dcn_core (Qf := fun _ s' => SP X pins D .next s') hu hc hN I hi ok hb hs h fun L C s' m H' I' q hn f => use_store hN hy hyl I' q hn f) fun _ s' hq => wpAny_pure (wpAny_pure hq))
end
/-! ### two clauses -/
/-- the tests of a clause -/
abbrev tests (cs : List Expr) (env : Env) : Sem Bool := forIn cs true fun c r => if r = true then do let ok ← isTrue c env (eval c env); pure (ForInStep.yield ok) else pure (ForInStep.yield r)
theorem turn2_out (kx vx t0 i0 t1 i1 : Expr) (c0 c1 : List Expr) (scope : Scope) (pos : Pos) (it acc : Value) (env : Env) :
    compTurn (.DictComp kx vx [⟨t0, i0, c0, 0⟩, ⟨t1, i1, c1, 0⟩] scope pos) 0 it acc env = (do
      standAt i0.pos
      let r ← pyNext it
      match r with
      | none => pure (.done .next)
      | some v =>
        letOwnedTupleGo t0 it v
        assign t0 env v
        let ok ← tests c0 env
        if ok then
          let x ← eval i1 env
          standAt i1.pos
          let y ← foldedSetIterable i1 env x
          let j ← holding [y] (pyIter y)
          let _ ← runOwn (.compStart (.DictComp kx vx [⟨t0, i0, c0, 0⟩, ⟨t1, i1, c1, 0⟩] scope pos) 1 j acc env) env
        again (.compLoop (.DictComp kx vx [⟨t0, i0, c0, 0⟩, ⟨t1, i1, c1, 0⟩] scope pos) 0 it acc env)) := by rfl
theorem turn2_in (kx vx t0 i0 t1 i1 : Expr) (c0 c1 : List Expr) (scope : Scope) (pos : Pos) (it : Value) (D : Addr) (env : Env) :
    compTurn (.DictComp kx vx [⟨t0, i0, c0, 0⟩, ⟨t1, i1, c1, 0⟩] scope pos) 1 it (.ref D) env = (do
      standAt i1.pos
      let r ← pyNext it
      match r with
      | none => pure (.done .next)
      | some v =>
        letOwnedTupleGo t1 it v
        assign t1 env v
        let ok ← tests c1 env
        if ok then
          (do
            let a ← eval kx env
            let b ← holding [a] (eval vx env)
            standAt { kx.pos with endLine := vx.pos.endLine, endCol := vx.pos.endCol }
            holding [a, b] (dictSet D a b))
        again (.compLoop (.DictComp kx vx [⟨t0, i0, c0, 0⟩, ⟨t1, i1, c1, 0⟩] scope pos) 1 it (.ref D) env)) := by rfl
section
variable {prog : Program} {w : World} {A : Around} {R : Result → Shared → Prop} {s : Shared} {kx vx t0 i0 t1 i1 : Expr} {c0 c1 : List Expr} {scope : Scope} {pos : Pos} {it : Value} {D : Addr} {env : Env}
/-- the outer loop; no turn raises -/
theorem loop2_out (hs : ∀ x, foldedSetIterable i1 env x = pure x) (I : Nat → Shared → Prop)
    (turn : ∀ n s, I n s → wpAny (model prog w) A (pyNext it) (fun r s1 => match r with
      | none => R (.ok .next) s1
      | some v => wpAny (model prog w) A (letOwnedTupleGo t0 it v) (fun _ s2 => wpAny (model prog w) A (assign t0 env v) (fun _ s3 => wpAny (model prog w) A (tests c0 env) (fun ok s4 =>
            if ok = true then wpAny (model prog w) A (eval i1 env) (fun x s5 => wpAny (model prog w) A (pyIter x) (fun j s6 =>
              codeAny (model prog w) A (.compStart (.DictComp kx vx [⟨t0, i0, c0, 0⟩, ⟨t1, i1, c1, 0⟩] scope pos) 1 j (.ref D) env) (fun r s' => match r with
                | .ok _ => ∃ m, m < n ∧ I m s'
                | .error _ => False) s6) (fun _ _ => False) s5) (fun _ _ => False) s4
            else ∃ m, m < n ∧ I m s4) (fun _ _ => False) s3) (fun _ _ => False) s2) (fun _ _ => False) s1) (fun _ _ => False) s)
    (n : Nat) (h : I n s) :
    codeAny (model prog w) A (.compLoop (.DictComp kx vx [⟨t0, i0, c0, 0⟩, ⟨t1, i1, c1, 0⟩] scope pos) 0 it (.ref D) env) R s := by
  refine codeAny_loop rfl I (fun n s hI => ?_) n h
  show wpAny _ A ((compTurn (.DictComp kx vx [⟨t0, i0, c0, 0⟩, ⟨t1, i1, c1, 0⟩] scope pos) 0 it (.ref D) env).onRaise (fun x => do noteFrame x env; theTreesLotGoes x)) _ _ s
  refine wpAny_noted ?_
  rw [turn2_out]
  refine wpAny_bind (wpAny_standAt (wpAny_bind (thnF (turn n s hI) fun r s1 h1 => ?_)))
  cases r with
  | none => exact wpAny_pure h1
  | some v =>
    refine wpAny_bind (thnF h1 fun _ s2 h2 => wpAny_bind (thnF h2 fun _ s3 h3 => wpAny_bind (thnF h3 fun ok s4 h4 => ?_)))
    cases ok with
    | false => exact wpAny_pure ⟨rfl, h4⟩
    | true =>
      refine wpAny_bind (thnF h4 fun x s5 h5 => wpAny_bind (wpAny_standAt (wpAny_bind (wpAny_of_eq (hs x) (wpAny_bind (wpAny_holding (thnF h5 fun j s6 h6 => wpAny_bind (wpAny_runOwn ?_))))))))
      rw [Around.mark_none]
      refine codeAny_mono h6 fun r s' hr => ?_
      cases r with
      | ok f => exact wpAny_pure ⟨rfl, hr⟩
      | error e => exact hr.elim
/-- the inner loop -/
theorem loop2_in (I : Nat → Shared → Prop)
    (turn : ∀ n s, I n s → wpAny (model prog w) A (pyNext it) (fun r s1 => match r with
      | none => R (.ok .next) s1
      | some v => wpAny (model prog w) A (letOwnedTupleGo t1 it v) (fun _ s2 => wpAny (model prog w) A (assign t1 env v) (fun _ s3 => wpAny (model prog w) A (tests c1 env) (fun ok s4 =>
            if ok = true then wpAny (model prog w) A (eval kx env) (fun a s5 => wpAny (model prog w) A (eval vx env) (fun b s6 =>
              wpAny (model prog w) A (dictSet D a b) (fun _ s7 => ∃ m, m < n ∧ I m s7) (fun _ _ => False) s6) (fun _ _ => False) s5) (fun _ _ => False) s4
            else ∃ m, m < n ∧ I m s4) (fun _ _ => False) s3) (fun _ _ => False) s2) (fun _ _ => False) s1) (fun _ _ => False) s)
    (n : Nat) (h : I n s) :
    codeAny (model prog w) A (.compLoop (.DictComp kx vx [⟨t0, i0, c0, 0⟩, ⟨t1, i1, c1, 0⟩] scope pos) 1 it (.ref D) env) R s := by
  refine codeAny_loop rfl I (fun n s hI => ?_) n h
  show wpAny _ A ((compTurn (.DictComp kx vx [⟨t0, i0, c0, 0⟩, ⟨t1, i1, c1, 0⟩] scope pos) 1 it (.ref D) env).onRaise (fun x => do noteFrame x env; theTreesLotGoes x)) _ _ s
  refine wpAny_noted ?_
  rw [turn2_in]
  refine wpAny_bind (wpAny_standAt (wpAny_bind (thnF (turn n s hI) fun r s1 h1 => ?_)))
  cases r with
  | none => exact wpAny_pure h1
  | some v =>
    refine wpAny_bind (thnF h1 fun _ s2 h2 => wpAny_bind (thnF h2 fun _ s3 h3 => wpAny_bind (thnF h3 fun ok s4 h4 => ?_)))
    cases ok with
    | false => exact wpAny_pure ⟨rfl, h4⟩
    | true =>
      exact wpAny_bind (wpAny_bind (thnF h4 fun a s5 h5 => wpAny_bind (wpAny_holding (thnF h5 fun b s6 h6 => wpAny_bind (wpAny_standAt (wpAny_holding (thnF h6 fun _ s7 h7 => wpAny_pure ⟨rfl, h7⟩)))))))
theorem start2_in (h0 : codeAny (model prog w) A (.compLoop (.DictComp kx vx [⟨t0, i0, c0, 0⟩, ⟨t1, i1, c1, 0⟩] scope pos) 1 it (.ref D) env) R s)
    (h : wpAny (model prog w) A (pyIter it) (fun j s' => codeAny (model prog w) A (.compLoop (.DictComp kx vx [⟨t0, i0, c0, 0⟩, ⟨t1, i1, c1, 0⟩] scope pos) 1 j (.ref D) env) R s') (notedBy (model prog w) A env fun x s' => R (.error x) s') s) :
    codeAny (model prog w) A (.compStart (.DictComp kx vx [⟨t0, i0, c0, 0⟩, ⟨t1, i1, c1, 0⟩] scope pos) 1 it (.ref D) env) R s := by
  refine codeAny_of_tree ?_
  show wpAny _ _ ((compStart (.DictComp kx vx [⟨t0, i0, c0, 0⟩, ⟨t1, i1, c1, 0⟩] scope pos) 1 it (.ref D) env).onRaise (fun x => do noteFrame x env; standAt theWindowsPlace)) _ _ s
  refine wpAny_notedAt ?_
  unfold compStart
  show wpAny _ _ (ask >>= _) _ _ s
  refine wpAny_bind (wpAny_askSetting (wpAny_ite ?_))
  split
  · first
      | exact wpAny_bind (wpAny_pure (wpAny_pure (And.intro rfl h0)))
      | exact wpAny_pure (And.intro rfl h0)
  · refine wpAny_bind (wpAny_rule ?_)
    show wpAny _ _ (standAt i1.pos >>= _) _ _ s
    exact wpAny_bind (wpAny_standAt (wpAny_bind (thn h fun j s' h' => wpAny_pure (And.intro rfl h'))))
end
/-- what the second clause's walk is asked -/
abbrev RDc2 (P : Program) (w : World) (K : PySem.W.Frag) (g : TG) (tt : TT) (tk tv : TE) (D : Addr) (Nx : Hp → Prop) (vs1 : List Nat) (σ2 : L2.St) : It → Hp → Prop := fun J1 H4 => ∃ W1 : Nat → Nat → Hp → Prop, (∃ m, W1 0 m H4) ∧ ∀ j k H, W1 j k H →
  (J1.stop j H ∧ Nx H) ∨ (J1.go j H ∧ ∃ Nx1 : Hp → Prop, (∀ H', Nx1 H' → ∃ k', k' < k ∧ W1 (j + 1) k' H') ∧ ∀ x H', J1.yld j H x H' → g x (wipe σ2 vs1) H' fun σ3 H5 => wipe σ3 vs1 = wipe σ2 vs1 ∧ tt σ3 H5 fun b H6 =>
    if b = true then tk σ3 H6 fun y H7 => tv σ3 H7 fun z H8 => Sto P w K D Nx1 y z H8 else Nx1 H6)
abbrev RDcs (P : Program) (w : World) (K : PySem.W.Frag) (g : TG) (tt : TT) (wi1 : TI) (g1 : TG) (tt1 : TT) (tk tv : TE) (vs vs1 : List Nat) (σ : L2.St) (Q : VK) : It → Hp → Prop := fun J H1 => ∀ D, H1 D = none → ∃ W : Nat → Nat → Hp → Prop, (∃ m, W 0 m (upd H1 D (dN P w D [] 0))) ∧ ∀ i m H, W i m H →
  (J.stop i H ∧ Q (.ref D) H) ∨ (J.go i H ∧ ∃ Nx : Hp → Prop, (∀ H', Nx H' → ∃ m', m' < m ∧ W (i + 1) m' H') ∧ ∀ x H', J.yld i H x H' → g x (wipe σ vs) H' fun σ2 H2 => wipe σ2 vs = wipe σ vs ∧ tt σ2 H2 fun b H3 =>
    if b = true then wi1 σ2 H3 (RDc2 P w K g1 tt1 tk tv D Nx vs1 σ2) else Nx H3)
def tDc2N (P : Program) (w : World) (K : PySem.W.Frag) (wi : TI) (g : TG) (tt : TT) (wi1 : TI) (g1 : TG) (tt1 : TT) (tk tv : TE) (vs vs1 : List Nat) : TE := fun σ H Q => wi σ H (RDcs P w K g tt wi1 g1 tt1 tk tv vs vs1 σ Q)
section
variable {X : Cx}
/-- what stands in the block, at each of its forms -/
abbrev In2 (X : Cx) (scope : Scope) (tg tg1 iter1 kx vx : Expr) (ifs ifs1 : List Expr) (g : TG) (tt : TT) (wi1 : TI) (g1 : TG) (tt1 : TT) (tk tv : TE) : Prop := ∀ (s : Shared) (H : Hp) (C : Addr) (cl : List (Str × Addr)) (fp : List Addr),
  PG (X.blk s H scope (compEnvC scope cl C X.env) fp) tg g ∧ PTs (X.blk s H scope (compEnvC scope cl C X.env) fp) ifs tt ∧ PI (X.blk s H scope (compEnvC scope cl C X.env) fp) tg1 iter1 wi1 ∧
  PG (X.blk s H scope (compEnvC scope cl C X.env) fp) tg1 g1 ∧ PTs (X.blk s H scope (compEnvC scope cl C X.env) fp) ifs1 tt1 ∧
  PE (X.blk s H scope (compEnvC scope cl C X.env) fp) kx tk ∧ PE (X.blk s H scope (compEnvC scope cl C X.env) fp) vx tv
theorem dc2_core {pins : List (Addr × Obj)} {s : Shared} {σ : L2.St} {H : Hp} {Q : VK} {kx vx tg iter tg1 iter1 : Expr} {ifs ifs1 : List Expr} {scope : Scope} {own : List (Str × Nat)} {vs1 : List Nat} {pos pos' : Pos} {wi wi1 : TI} {g g1 : TG} {tt tt1 : TT} {tk tv : TE} {use : Option (Value → Sem Unit)} {Qf : Value → Shared → Prop}
    (hu : X.A.units + 64 < cLine) (hc : X.calm = true) (hN : X.N.Nodup) (I : Inv X pins σ H s) (hi : PI X tg iter wi) (ok : BlkOk X.N X.env.scope scope own) (hv : ∀ i ∈ vs1, i ∈ own.map (·.2))
    (hb : In2 X scope tg tg1 iter1 kx vx ifs ifs1 g tt wi1 g1 tt1 tk tv) (hs : ∀ x, foldedSetIterable iter X.env x = pure x) (hs1 : ∀ env x, foldedSetIterable iter1 env x = pure x)
    (h : tDc2N X.prog X.w X.K wi g tt wi1 g1 tt1 tk tv (own.map (·.2)) vs1 σ H Q)
    (hR : ∀ D C s' m H', Inv X pins σ H' s' → Q (.ref D) H' → s'.heap.Ns C m → FpOk X pins H' C → compPost (model X.prog X.w) X.A X.xe use Qf (.ref D) C (.ok .next) s') :
    wpAny (model X.prog X.w) X.A (comprehension (.DictComp kx vx [⟨tg, iter, ifs, 0⟩, ⟨tg1, iter1, ifs1, 0⟩] scope pos) scope X.env pos' newDict false (eval iter X.env) use) Qf X.xe s := by
  refine dn_open hN I hi ok hs h fun D it C fp tn J H1 cl s3 s4 q nD T I4 st4 n4 stat out => ?_
  obtain ⟨W, ⟨m0, w0⟩, turn⟩ := q D nD
  obtain ⟨pg, pt, pi, pg1, pt1, pk, pv⟩ := hb s3 (upd H1 D (dN X.prog X.w D [] 0)) C cl fp
  generalize hce : compEnvC scope cl C X.env = ce at I4 pg pt pi pg1 pt1 pk pv stat out ⊢
  generalize hY : (X.blk s3 (upd H1 D (dN X.prog X.w D [] 0)) scope ce fp) = Y at I4 pg pt pi pg1 pt1 pk pv stat out
  have eP : Y.prog = X.prog := by rw [← hY]
  have eW : Y.w = X.w := by rw [← hY]
  have eK : Y.K = X.K := by rw [← hY]
  have eA : Y.A = X.A := by rw [← hY]
  have eE : Y.env = ce := by rw [← hY]
  have eX : Y.xe = fun _ _ => False := by rw [← hY]
  have hcY : Y.calm = true := by rw [← hY]; exact hc
  have huY : Y.A.units + 64 < cLine := by rw [eA]; exact hu
  have T : Turn Y.prog Y.w Y.K tg J fp it tn := by rw [eP, eW, eK]; exact T
  rw [← eP, ← eW, ← eA, ← eE]
  refine loop2_out (hs1 _) (fun n s' => ∃ i H', Inv Y [] (wipe σ (own.map (·.2))) H' s' ∧ tn i s'.heap ∧ (∀ b ∈ fp, H' b = none) ∧ W i n H') ?_ m0 ⟨0, _, I4, st4, n4, w0⟩
  rintro n s5 ⟨i, H5, I5, st5, n5, w5⟩
  rcases turn i n H5 w5 with ⟨stop, qq⟩ | ⟨go, Nx, hNx, step⟩
  · refine thnF (T.done Y rfl rfl rfl hcY i [] s5 _ H5 (fun _ _ => False) I5 (stat _ _ _ I5 n5) st5 stop) fun r s6 ⟨hr, I6⟩ => ?_
    subst hr
    obtain ⟨I7, f7, m, hn⟩ := out _ _ _ I6
    have := hR D C s6 m H5 I7 qq hn f7
    rw [← eP, ← eW, ← eA] at this
    exact this
  · refine turn_run (X := Y) hcY I5 T st5 (stat _ _ _ I5 n5) go pg pt eX step fun u s6 z => ?_
    refine thnF z fun _ s7 z => thnF z fun _ s8 z => thnF z fun b s9 ⟨pl, σ2, H9, I9, hC, q9, back⟩ => ?_
    have fin : ∀ {σ9 : L2.St} {s' : Shared} {H' : Hp}, Inv Y ([] ++ pl) σ9 H' s' → (wipe σ (own.map (·.2))).length = σ9.length → (∀ (j : Nat) v, (wipe σ (own.map (·.2)))[j]? = some (some v) → σ9[j]? = some (some v)) → Nx H' →
        ∃ m, m < n ∧ ∃ i H', Inv Y [] (wipe σ (own.map (·.2))) H' s' ∧ tn i s'.heap ∧ (∀ b ∈ fp, H' b = none) ∧ W i m H' := fun {σ9 s' H'} I' hl hk nx => by
      obtain ⟨m', hm, w'⟩ := hNx H' nx
      obtain ⟨I'', t', n'⟩ := back _ _ _ I'
      exact ⟨m', hm, i + 1, H', I''.weak hl hk, t', n', w'⟩
    have hl8 : (wipe σ (own.map (·.2))).length = σ2.length := by rw [← hC, wipe_length]
    have hk8 : ∀ (j : Nat) v, (wipe σ (own.map (·.2)))[j]? = some (some v) → σ2[j]? = some (some v) := fun j v e => by rw [← hC] at e; exact (wipe_some e).1
    have hk9 : ∀ (j : Nat) v, (wipe σ (own.map (·.2)))[j]? = some (some v) → (wipe σ2 vs1)[j]? = some (some v) := fun j v e => by
      rw [← hC] at e
      rw [wipe_out fun z => (wipe_some e).2 (hv j z)]
      exact (wipe_some e).1
    cases b with
    | false => exact fin I9 hl8 hk8 (by simpa using q9)
    | true =>
      simp only [if_true] at q9 ⊢
      have a := pi.run _ s9 σ2 H9 _ I9 q9
      rw [eX] at a
      refine thnF a fun xv s10 hx => thnF hx fun itv s11 ⟨it1, fp1, tn1, J1, H11, e1, I11, T1, st11, f11, W1, ⟨m1, w1⟩, turn1⟩ => ?_
      subst e1
      have inner : codeAny (model Y.prog Y.w) Y.A (.compLoop (.DictComp kx vx [⟨tg, iter, ifs, 0⟩, ⟨tg1, iter1, ifs1, 0⟩] scope pos) 1 (.ref it1) (.ref D) Y.env)
          (fun r s' => match r with
            | .ok _ => ∃ m, m < n ∧ ∃ i H', Inv Y [] (wipe σ (own.map (·.2))) H' s' ∧ tn i s'.heap ∧ (∀ b ∈ fp, H' b = none) ∧ W i m H'
            | .error _ => False) s11 := by
        refine loop2_in (fun k s' => ∃ j H', Inv Y ([] ++ pl) (wipe σ2 vs1) H' s' ∧ tn1 j s'.heap ∧ (∀ b ∈ fp1, H' b = none) ∧ W1 j k H') ?_ m1 ⟨0, H11, I11.weak (wipe_length _ _) (fun j v e => (wipe_some e).1), st11, fun b hb => (f11 b hb).1, w1⟩
        rintro k s12 ⟨j, H12, I12, st12, n12, w12⟩
        have stat1 : ∀ b ∈ fp1, FpOk Y ([] ++ pl) H12 b := fun b hb => ⟨n12 b hb, (f11 b hb).2⟩
        rcases turn1 j k H12 w12 with ⟨stop1, nx1⟩ | ⟨go1, Nx1, hNx1, step1⟩
        · refine thnF (T1.done Y rfl rfl rfl hcY j _ s12 (wipe σ2 vs1) H12 (fun _ _ => False) I12 stat1 st12 stop1) fun r s13 ⟨hr, I13⟩ => ?_
          subst hr
          exact fin I13 (hl8.trans (wipe_length σ2 vs1).symm) hk9 nx1
        · refine turn_run (X := Y) hcY I12 T1 st12 stat1 go1 pg1 pt1 eX step1 fun u1 s13 z => ?_
          refine thnF z fun _ s14 z => thnF z fun _ s15 z => thnF z fun b1 s16 ⟨pl1, σ3, H16, I16, hC1, q16, back1⟩ => ?_
          have fin1 : ∀ {s' : Shared} {H' : Hp}, Inv Y (([] ++ pl) ++ pl1) σ3 H' s' → Nx1 H' → ∃ m, m < k ∧ ∃ j H', Inv Y ([] ++ pl) (wipe σ2 vs1) H' s' ∧ tn1 j s'.heap ∧ (∀ b ∈ fp1, H' b = none) ∧ W1 j m H' := fun {s' H'} I' nx => by
            obtain ⟨m', hm, w'⟩ := hNx1 H' nx
            obtain ⟨I'', t', n'⟩ := back1 _ _ _ I'
            exact ⟨m', hm, j + 1, H', I''.weak (by rw [← hC1, wipe_length]) (fun j v e => by rw [← hC1] at e; exact (wipe_some e).1), t', n', w'⟩
          cases b1 with
          | false => exact fin1 I16 (by simpa using q16)
          | true =>
            simp only [if_true] at q16 ⊢
            have a := pk.run _ s16 σ3 H16 _ I16 q16
            rw [eX] at a
            refine thnF a fun yv s17 ⟨y, H17, I17, r17, q17⟩ => ?_
            have a := pv.run _ s17 σ3 H17 _ I17 q17
            rw [eX] at a
            refine thnF a fun zv s18 ⟨z, H18, I18, r18, q18⟩ => ?_
            exact sto_run (X := Y) huY I18 r17 r18 (by rw [eP, eW, eK]; exact q18) fun H' s' I' nx => fin1 I' nx
      exact start2_in inner (T1.self Y.A 0 _ _ _ st11 inner)
theorem pe_dc2N {kx vx tg iter tg1 iter1 : Expr} {ifs ifs1 : List Expr} {scope : Scope} {own : List (Str × Nat)} {vs1 : List Nat} {pos : Pos} {wi wi1 : TI} {g g1 : TG} {tt tt1 : TT} {tk tv : TE} (hu : X.A.units + 64 < cLine) (hc : X.calm = true) (hN : X.N.Nodup) (hi : PI X tg iter wi) (ok : BlkOk X.N X.env.scope scope own) (hv : ∀ i ∈ vs1, i ∈ own.map (·.2))
    (hb : In2 X scope tg tg1 iter1 kx vx ifs ifs1 g tt wi1 g1 tt1 tk tv) (hs : ∀ x, foldedSetIterable iter X.env x = pure x := by intro _; rfl) (hs1 : ∀ env x, foldedSetIterable iter1 env x = pure x := by intro _ _; rfl) :
    PE X (.DictComp kx vx [⟨tg, iter, ifs, 0⟩, ⟨tg1, iter1, ifs1, 0⟩] scope pos) (tDc2N X.prog X.w X.K wi g tt wi1 g1 tt1 tk tv (own.map (·.2)) vs1) := by
  refine ⟨fun pins s σ H Q I h => ?_⟩
  rw [arm_eval_DictComp]
  refine dc2_core hu hc hN I hi ok hv hb hs hs1 h fun D C s' m H' I' q hn f => ⟨m, hn, fun h'' sb => ⟨.ref D, H', ?_, rfl, q⟩⟩
  exact I'.turned (t' := s'.toks) (fun b o hb e => (sb.2 b hb).trans e) f.1 f.2.1 f.2.2.2.1 f.2.2.2.2.1 f.2.2.2.2.2
theorem ps_setDc2N {i : Nat} {y : Str} {py : Pos} {kx vx tg iter tg1 iter1 : Expr} {ifs ifs1 : List Expr} {scope : Scope} {own : List (Str × Nat)} {vs1 : List Nat} {pos spos : Pos} {wi wi1 : TI} {g g1 : TG} {tt tt1 : TT} {tk tv : TE} (hu : X.A.units + 64 < cLine) (hc : X.calm = true) (hN : X.N.Nodup) (hy : X.N[i]? = some y) (hyl : X.env.scope.names.lookup y = some .local)
    (hsw : swapsWith (.DictComp kx vx [⟨tg, iter, ifs, 0⟩, ⟨tg1, iter1, ifs1, 0⟩] scope pos) (some (.Name y py)) spos.line X.env = pure true) (hi : PI X tg iter wi) (ok : BlkOk X.N X.env.scope scope own) (hv : ∀ i ∈ vs1, i ∈ own.map (·.2))
    (hb : In2 X scope tg tg1 iter1 kx vx ifs ifs1 g tt wi1 g1 tt1 tk tv) (hs : ∀ x, foldedSetIterable iter X.env x = pure x := by intro _; rfl) (hs1 : ∀ env x, foldedSetIterable iter1 env x = pure x := by intro _ _; rfl) :
    PS X (.Assign [.Name y py] (.DictComp kx vx [⟨tg, iter, ifs, 0⟩, ⟨tg1, iter1, ifs1, 0⟩] scope pos) spos) (tAsg (tDc2N X.prog X.w X.K wi g tt wi1 g1 tt1 tk tv (own.map (·.2)) vs1) (gName i)) := by
  refine ⟨fun pins s σ H D I h => ?_⟩
  rw [exec_Assign_Name_used _ _ _ _ hsw]
  refine wpAny_bind (wpAny_standAt (wpAny_bind ?_))
  show wpAny _ X.A (do let _ ← comprehension (.DictComp kx vx [⟨tg, iter, ifs, 0⟩, ⟨tg1, iter1, ifs1, 0⟩] scope pos) scope X.env (firstIterPos [⟨tg, iter, ifs, 0⟩, ⟨tg1, iter1, ifs1, 0⟩] pos) newDict false (eval iter X.env) (some (assign (.Name y py) X.env))) _ _ s
  have h : tDc2N X.prog X.w X.K wi g tt wi1 g1 tt1 tk tv (own.map (·.2)) vs1 σ H (fun x H1 => gName i x σ H1 D.nx) := h
  exact wpAny_bind (thn (dc2_core (Qf := fun _ s' => SP X pins D .next s') hu hc hN I hi ok hv hb hs hs1 h fun L C s' m H' I' q hn f => use_store hN hy hyl I' q hn f) fun _ s' hq => wpAny_pure (wpAny_pure hq))
end
end Lw
end
section
set_option Elab.async false
set_option linter.all false
set_option maxRecDepth 100000
set_option maxHeartbeats 2000000
/-! min, tuple.index, len(set(tuple)). -/
namespace Lw
open PySem PySem.Spec PyProof.Rows L2
section
variable {P : Program} {w : World} {A : Around} {E : Value → Shared → Prop} {s : Shared}
/-- set(a): a new set, then its __init__ -/
theorem set_codes {a : Value} {Q : Value → Shared → Prop} {z : Obj} (hz : z = { cls := .type "set", dict := none, data := .set #[] 0 (.fresh 0 0 (!w.params.followText "set-order")) })
    (body : wpAny (model P w) A.in1.in1 (Builtin.«set.__init__» ⟨[.ref s.heap.objs.size, a], []⟩)
      (fun fin s' => match fin with | .done f => wants (fun r s₂ => r = .none ∧ Q (.ref s.heap.objs.size) s₂) E (.ok f) s' | .again c' => c'.quiet = true ∧ codeAny (model P w) A.in1 c' (wants (fun r s₂ => r = .none ∧ Q (.ref s.heap.objs.size) s₂) E) s')
      (fun e s' => wants (fun r s₂ => r = .none ∧ Q (.ref s.heap.objs.size) s₂) E (.error e) s') { s with heap := s.heap.push z }) : wpAny (model P w) A (call (.type "set") [a]) Q E s := by
  obtain ⟨c, tl, hmro⟩ := F.called_set.mro
  have hmade := F.called_set.made
  have hsub := F.called_set.sub
  refine wpAny_call (codeAny_of_tree (wpAny_pure ⟨Code.quiet_builtin _ (by decide +kernel), codeAny_builtin F.entry_type_call ?_⟩))
  rw [Around.under_plain (weight_type_call_type "set" [a] []) rfl]
  have h1 := F.called_set.notType
  have h2 := F.called_set.canCreate
  have h3 := F.typeCall_set_1 a
  repeat (any_goals (first | assumption | wp_step))
  refine codeAny_mono (code_set_led1 a (E := E) (Q₁ := fun obj s₁ => obj = .ref s.heap.objs.size ∧ s₁ = { s with heap := s.heap.push z }) ⟨rfl, by rw [hz]⟩) fun r s₁ hr => ?_
  have hT : Shared.TypeIs { s with heap := s.heap.push z } (.ref s.heap.objs.size) "set" := ⟨z, Heap.get?_push_size _ (by rw [hz]; rfl), by rw [hz]⟩
  cases r with
  | error e => exact hr
  | ok fl =>
    cases fl with
    | ret obj =>
      obtain ⟨rfl, rfl⟩ := hr
      have h4 := F.called_set.init.lookup
      have h5 := F.called_set.init.bind (.ref s.heap.objs.size)
      repeat (any_goals (first | assumption | wp_step))
      refine codeAny_mono (codeAny_call_builtin F.called_set.init.plain F.entry_set_init (PySem.check_set_init_1 hT body)) fun r2 s2 hr2 => ?_
      cases r2 with
      | error e => exact hr2
      | ok fl2 =>
        cases fl2 with
        | ret r =>
          obtain ⟨rfl, hq⟩ := hr2
          repeat (any_goals (first | assumption | wp_step))
        | _ => exact hr2.elim
    | _ => exact hr.elim
/-- set(t), t a tuple of tuples of ints -/
theorem set_ways {l : Addr} {items : Array Value} (ks : List (Addr × List Int)) {Q : Value → Shared → Prop} (hh : A.handled = none) (hl : s.heap.IsTuple l items) (hit : items.toList = ks.map fun p => Value.ref p.1)
    (hk : ∀ p ∈ ks, IsT P w s.heap p.2 p.1) (hfew : ks.length < 64) (hu : A.units + 3 < cLine)
    (h : ∀ (h' : Heap) (tk : Nat) L es ep t, SetTR P w h' s.heap.objs.size L es ep t → Got ks ks.length L → (∀ b o, s.heap.get? b = some o → h'.get? b = some o) → Q (.ref s.heap.objs.size) { s with heap := h', toks := tk }) :
    wpAny (model P w) A (call (.type "set") [.ref l]) Q E s := by
  have hisz : items.size = ks.length := by rw [← Array.length_toList, hit, List.length_map]
  refine set_codes rfl ?_
  let z : Obj := { cls := .type "set", dict := none, data := .set #[] 0 (.fresh 0 0 (!w.params.followText "set-order")) }
  have hS : (s.heap.push z).get? s.heap.objs.size = some z := Heap.get?_push_size _ rfl
  have kp : ∀ b o, s.heap.get? b = some o → (s.heap.push z).get? b = some o := fun b o e => Heap.get?_push_of_some _ e
  have no : ∀ b, s.heap.objs.size ≤ b → s.heap.get? b = none := fun b hb => by
    cases q : s.heap.get? b with
    | none => rfl
    | some o => exact absurd (Nat.lt_of_lt_of_le (Heap.lt_size q) hb) (Nat.lt_irrefl _)
  obtain ⟨ol, hol, hcl, nl, hdl⟩ := hl
  have hll : l < s.heap.objs.size := Heap.lt_size hol
  have hl1 : (s.heap.push z).IsTuple l items := ⟨ol, kp _ _ hol, hcl, nl, hdl⟩
  obtain ⟨ocls, odict, odata, oslots⟩ := ol
  simp only at hcl hdl
  subst hcl hdl
  have hol' := kp _ _ hol
  have hsls := F.sub_tuple_set
  have hslf := F.sub_tuple_frozenset
  have hne : (Value.type "tuple" == Value.type "dict") = false := by decide
  unfold Builtin.«set.__init__» noKeywords Builtin.Frozenset.updateFrom
  generalize hPI : pyIter = PI
  wp_walk
  subst hPI
  refine wpAny_pyIter_tuple hl1 (wpAny_bind (wpAny_runValue ?_))
  have hsz : (s.heap.push z).objs.size = s.heap.objs.size + 1 := Heap.size_push ..
  refine set_update_tups (R := wants _ _) ((Walks.tuple (A := A.in1.in1.in1) (by simp [hh]) _ l (by rw [hsz]; exact Nat.ne_of_lt (Nat.lt_succ_of_lt hll)) items).toS) s.heap.objs.size
    (fun q => ?_) ks hisz hfew (fun i v hv => ?_) s.heap hk (no _ (Nat.le_refl _)) (fun b hb => no b (by rw [List.mem_singleton.mp hb, hsz]; exact Nat.le_succ _)) (by show A.units + 1 + 1 + 1 < cLine; omega)
    items.size 0 _ (by omega) (Nat.zero_le _) ⟨⟨_, Heap.get?_push_size _ rfl, rfl, rfl⟩, hl1.push _⟩ (fun b o e => Heap.get?_push_of_some _ (kp b o e))
    ⟨[], _, _, _, setTR_fresh (Heap.get?_push_of_some _ hS), Got.zero ks⟩ (fun s' L es ep t m R g k => ?_)
  · rw [hsz] at q
    rcases List.mem_cons.mp q with q | q
    · exact absurd q (Nat.ne_of_lt (Nat.lt_succ_self _))
    · exact absurd (List.mem_singleton.mp q) (Nat.ne_of_gt hll)
  · have q : items.toList[i]? = some v := by rw [Array.getElem?_toList]; exact hv
    rw [hit, List.getElem?_map] at q
    obtain ⟨p, hp, rfl⟩ := Option.map_eq_some_iff.mp q
    exact ⟨p, hp, rfl⟩
  · obtain ⟨h', g2, d', tk', os'⟩ := s'
    have eg : g2 = s.gens := m.gens
    have ed : d' = s.drawn := m.drawn
    have eo : os' = s.os := m.os
    subst eg; subst ed; subst eo
    refine wpAny_pure (wpAny_pure ⟨rfl, ?_⟩)
    rw [hisz] at g
    exact h h' tk' L es ep t R g k
end
section
variable {X : Cx}
theorem perm_len {α : Type} [DecidableEq α] {a b : List α} (ha : a.Nodup) (hb : b.Nodup) (h : ∀ x, x ∈ a ↔ x ∈ b) : a.length = b.length := ((List.perm_ext_iff_of_nodup ha hb).mpr h).length_eq
/-- len(set(t)), t a tuple: of ints, or of tuples of ints; all different -/
def tLenSetD (K : PySem.W.Frag) (ta : TE) : TE := fun σ H Q => ta σ H fun x H1 => (∃ ns : List Int, Im K H1 x (eW ns) ∧ ns.Nodup ∧ ns.length ≤ 100 ∧ Q (.int ns.length) H1) ∨ ∃ ws : List (List Int), Im K H1 x (eT eW ws) ∧ ws.Nodup ∧ ws.length < 64 ∧ Q (.int ws.length) H1
theorem pe_lenSetD {a : Expr} {ta : TE} {p p2 q pos : Pos} (hc : X.calm = true) (hu : X.A.units + 64 < cLine) (hg : Gl X "len") (hm : X.mg "len" = none) (hg2 : Gl X "set") (hm2 : X.mg "set" = none) (ha : PE X a ta)
    (na : starEach [a] X.env = (false, eval a X.env) :: starEach [] X.env := by rfl) : PE X (.Call (.Name "len" p) [.Call (.Name "set" p2) [a] [] q] [] pos) (tLenSetD X.K ta) := by
  refine ⟨fun pins s σ H Q I h => ?_⟩
  refine Call_ (ld_blt I hg hm PySem.boot_len ?_)
  refine PyProof.Rows.callWith_builtin1 (PyProof.Rows.args_cons ?_ rfl) rfl rfl
  refine Call_ (ld_blt I hg2 hm2 PyProof.Rows.boot_set ?_)
  refine PyProof.Rows.callWith_type1 (PyProof.Rows.args_cons (thn (ha.run pins s σ H _ I h) fun v s1 ⟨x, H1, I1, r1, q1⟩ => PyProof.Rows.args_nil ?_) na) na rfl
  rcases q1 with ⟨ns, hx, hnd, hlen, q1⟩ | ⟨ws, hx, hnd, hlen, q1⟩
  · obtain ⟨b, xs, rfl, h1, h2⟩ := hx.tup_inv
    cases r1
    obtain ⟨its, rv, pt, hz⟩ := I1.tuple h1
    rw [ImAll.ints h2] at rv
    refine call_set_tupI ns (I1.ok.hd hc) pt (by simpa using RZ.intsAre_vals rv) (by unfold scanBound; omega) fun h' tk c R hc' k => PyProof.Rows.args_nil ?_
    obtain ⟨o, es, ep, t, ho, hex, hd, _, hn, hS, _, hf, hsz, _⟩ := R
    have e1 : es.size = ns.length := by
      rw [← Array.length_toList, ← List.length_map (f := keyOf) (as := es.toList)]
      refine perm_len hn hnd fun y => ?_
      rw [← hS y]
      simp
    have I2 : Inv X pins σ H1 { s1 with heap := h', toks := tk } := I1.kept k
    exact call_len_set ho hex hd hf (by rw [e1]; omega) ⟨.int ns.length, H1, I2.tok _, ⟨_, by rw [e1]⟩, q1⟩
  · obtain ⟨b, xs, rfl, h1, h2⟩ := hx.tup_inv
    cases r1
    obtain ⟨its, rv, pt, hz⟩ := I1.tuple h1
    have key : ∀ {vs : List V} {us : List Value} {ws : List (List Int)}, ImAll X.K H1 vs (ws.map eW) → Vals vs us → ∃ ks : List (Addr × List Int), us = (ks.map fun p => Value.ref p.1) ∧ ks.map (·.2) = ws ∧ ∀ p ∈ ks, IsT X.prog X.w s1.heap p.2 p.1 := fun {vs us ws} im r => by
      induction ws generalizing vs us with
      | nil => cases im; cases r; exact ⟨[], rfl, rfl, fun p hp => nomatch hp⟩
      | cons a ws ih =>
        cases im with
        | cons i1 i2 =>
          cases r with
          | cons r1 r2 =>
            obtain ⟨ks, e1, e2, e3⟩ := ih i2 r2
            obtain ⟨c, ys, rfl, hq, hy⟩ := i1.tup_inv
            rw [ImAll.ints hy] at hq
            cases r1
            refine ⟨(c, a) :: ks, by rw [e1]; rfl, by rw [List.map_cons, e2], fun p hp => ?_⟩
            rcases List.mem_cons.mp hp with rfl | hp
            · exact I1.isT hq
            · exact e3 p hp
    obtain ⟨ks, e1, e2, e3⟩ := key h2 rv
    have el : ks.length = ws.length := by rw [← e2, List.length_map]
    refine set_ways (P := X.prog) (w := X.w) ks (I1.ok.hd hc) pt (by simpa using e1) e3 (by omega) (by omega) fun h' tk L es ep t R g k => PyProof.Rows.args_nil ?_
    obtain ⟨o, ho, hex, hd⟩ := R.ob
    have e4 : es.size = ws.length := by
      rw [R.size (s := { s1 with heap := h' }), ← List.length_map (f := (·.2)) (as := L), ← e2]
      refine perm_len R.nd (by rw [e2]; exact hnd) fun y => ⟨fun hy => ?_, fun hy => ?_⟩
      · obtain ⟨p, hp, rfl⟩ := List.mem_map.mp hy
        exact List.mem_map.mpr ⟨p, List.mem_of_mem_take (g.sub p hp), rfl⟩
      · obtain ⟨p, hp, rfl⟩ := List.mem_map.mp hy
        exact g.all p (by rw [List.take_length]; exact hp)
    have I2 : Inv X pins σ H1 { s1 with heap := h', toks := tk } := I1.kept k
    refine call_len_set ho hex hd ?_ (by rw [e4]; omega) ⟨.int ws.length, H1, I2.tok _, ⟨_, by rw [e4]⟩, q1⟩
    exact R.fits (s := { s1 with heap := h' })
/-- min(l) -/
def rMinD (K : PySem.W.Frag) : List V → Hp → VK → Prop := fun ys H Q => ∃ (α : Type) (_ : DecidableEq α) (e : α → PyData) (n : Nat) (l : List α) (y : V), EncOk e n ∧ n ≤ 60 ∧ (∀ a, e a ≠ .none) ∧ l ≠ [] ∧ ys = [y] ∧ Im K H y (eL e l) ∧ ∀ a v, a ∈ l → Im K H v (e a) → Q v H
theorem call_minD (hc : X.calm = true) (hu : X.A.units + 64 < cLine) : CallR X (.builtin "min") (rMinD X.K) := fun pins s σ H ys us Q I r h => by
  obtain ⟨α, _, e, n, l, y, ok, hn, hnn, hne, rfl, hy, q⟩ := h
  obtain ⟨u, rfl, rx⟩ := r.one
  obtain ⟨b, xs, rfl, h1, h2⟩ := hy.lst_inv
  cases rx
  obtain ⟨its, rv, pl, hz⟩ := I.list (SqL.of h1)
  cases l with
  | nil => exact absurd rfl hne
  | cons a l =>
    have ra : ∃ as, ReadsAll s.heap its (e a :: l.map e) as := by
      have := PySem.W.each_readsAll (h := s.heap) e ((each_of (e := e) (l := a :: l) h2 rv).mono fun u a ⟨v, r, h⟩ => h.reads I r)
      exact this
    obtain ⟨as, ra⟩ := ra
    have hd := ok.depAll (a :: l)
    refine PySem.W.min_list_data (I.ok.hd hc) pl.isList (by simpa using ra) ⟨fun x hx y hy => ?_, fun x hx => ?_⟩ (by rw [← List.map_cons (f := e)]; omega) fun i v h' tk bs hv _ hk => ?_
    · rw [← List.map_cons (f := e)] at hx hy
      obtain ⟨c, _, rfl⟩ := List.mem_map.mp hx
      obtain ⟨d, _, rfl⟩ := List.mem_map.mp hy
      exact ok.alk c d
    · rw [← List.map_cons (f := e)] at hx
      obtain ⟨c, _, rfl⟩ := List.mem_map.mp hx
      exact hnn c
    · have hv : its[i]? = some v := by simpa using hv
      have hl : i < xs.length := by rw [rv.length]; exact (List.getElem?_eq_some_iff.mp hv).1
      obtain ⟨d, hd, him⟩ := h2.getV (List.getElem?_eq_getElem hl)
      obtain ⟨u, hu', ru⟩ := rv.get (List.getElem?_eq_getElem hl)
      rw [hv] at hu'
      cases hu'
      rw [List.getElem?_map] at hd
      obtain ⟨c, hc', rfl⟩ := Option.map_eq_some_iff.mp hd
      exact ⟨xs[i], H, I.kept hk, ru, q c _ (List.mem_of_getElem? hc') him⟩
/-- t.index(x), there -/
def rIndexT (K : PySem.W.Frag) : V → List V → Hp → VK → Prop := fun x ys H Q => ∃ (ws : List (List Int)) (a : List Int) (y : V), ys = [y] ∧ Im K H x (eT eW ws) ∧ Im K H y (eW a) ∧ a ∈ ws ∧ Q (.int (ws.idxOf a)) H
theorem mt_indexT (hu : X.A.units + 64 < cLine) : MtR X "tuple.index" (rIndexT X.K) := fun pins s σ H x ys v us Q I rx r h => by
  obtain ⟨ws, a, y, rfl, hx, hy, hm, q⟩ := h
  obtain ⟨u, rfl, ry⟩ := r.one
  obtain ⟨b, xs, rfl, h1, h2⟩ := hx.tup_inv
  cases rx
  obtain ⟨its, rv, pt, hz⟩ := I.tuple h1
  have ka : ∀ l : List (List Int), keyishAll (l.map eW) = true := fun l => keyishAll_map key_W.key l
  have n1 := nkAll_is I (ws.map eW) xs its (ka ws) h2 rv
  have n2 := nk_is I (eW a) y u (key_W.key a) hy ry
  have hdp : (nk (eW a)).depth ≤ 7 := Nat.le_trans (nk_depth _ (key_W.key a)) (key_W.enc.dep a)
  have hl : its.length = ws.length := by rw [← rv.length, h2.length, List.length_map]
  have nka : ∀ l : List (List Int), nkAll (l.map eW) = l.map fun k => nk (eW k) := fun l => by
    induction l with
    | nil => rfl
    | cons k l ih => rw [List.map_cons, List.map_cons, nkAll, ih]
  rw [nka] at n1
  have ie := SeqAt.ItemsEq.nested (A := X.A.in1) n1 n2 (by show X.A.units + 1 + _ < cLine; omega)
  refine SeqAt.call_tuple_index (ks := ws) (k := a) pt ⟨hl, fun j q1 q2 => (ie.2 j q1 (by rw [List.length_map]; exact q2)).cast ?_⟩ hm ⟨.int (ws.idxOf a : Nat), H, I.tok _, ⟨s.toks, ?_⟩, q⟩
  · rw [List.getElem_map]
    exact key_W.dec _ _
  · have e : ∀ l : List (List Int), @List.idxOf _ instBEqOfDecidableEq a l = List.idxOf a l := fun l => by
      unfold List.idxOf
      congr 1
      funext x
      show decide (x = a) = (x == a)
      by_cases c : x = a
      · rw [c]; simp
      · rw [decide_eq_false c]; exact (beq_eq_false_iff_ne.mpr c).symm
    rw [e]
end
end Lw
end
section
set_option Elab.async false
set_option linter.all false
set_option maxRecDepth 100000
set_option maxHeartbeats 2000000
/-! == of what a post shows; min by len; a field as a target; an own len. -/
namespace Lw
open PySem PySem.Spec PyProof.Rows L2
section
variable {prog : Program} {w : World} {κ : Type} [DecidableEq κ] {knd : HeapKind prog w κ} {A : Around} {E : Value → Shared → Prop} {s : Shared}
/-- two dicts of the same pairs -/
theorem pairs_same {nm : String} {d d' : Addr} {xs ys : List (κ × Addr × Value)} {Q : Bool → Shared → Prop} (hd : (d == sysModules) = false) (hd' : (d' == sysModules) = false) (hu : knd.room A)
    (hx : s.heap.DictOfH knd d xs) (hy : s.heap.DictOfH knd d' ys) (hl : xs.length = ys.length) (h : ∀ (i : Nat) (q : κ × Addr × Value), xs[i]? = some q → ∃ p, (q.1, p) ∈ ys ∧ SeqAt.EqIn prog w A s q.2.2 p.2 true) (hQ : Q true s) :
    wpAny (model prog w) A (Builtin.Dict.samePairs nm d d') Q E s := by
  obtain ⟨o, es, ep, ho, hc, hdt, he, his, hn⟩ := hx
  obtain ⟨o', es', ep', ho', hc', hdt', he', his', hn'⟩ := hy
  have z1 : es.size = xs.length := size_of_entries he
  have z2 : es'.size = ys.length := size_of_entries he'
  unfold Builtin.Dict.samePairs Builtin.Dict.showsAll
  rw [if_neg (show ¬ (d == sysModules) = true by rw [hd]; decide), if_neg (show ¬ (d' == sysModules) = true by rw [hd']; decide)]
  refine wpAny_bind (wpAny_pure (wpAny_bind (wpAny_pure (wpAny_bind (wpAny_dictEntries ho hdt ?_)))))
  dsimp only
  refine wpAny_bind (wpAny_dictEntries ho' hdt' ?_)
  rw [if_neg (by rw [z1, z2, hl]; simp)]
  refine wpAny_bind (wpAny_dictEpoch ho hdt (wpAny_bind ?_))
  rw [Std.Legacy.Range.forIn_eq_forIn_range']
  simp only [Std.Legacy.Range.size, Nat.sub_zero, Nat.add_sub_cancel, Nat.div_one]
  refine wpAny_forIn_list _ (fun rest q s' => s' = s ∧ q = (none, ()) ∧ ∃ i, rest = List.range' i (es.size - i)) _ ?_ ?_ _ _ ⟨rfl, rfl, 0, by simp⟩
  · rintro x rest q s' ⟨rfl, rfl, i, hr⟩
    have hlt : i < es.size := by
      rcases Nat.lt_or_ge i es.size with c | c
      · exact c
      · rw [Nat.sub_eq_zero_of_le c] at hr; cases hr
    have e : es.size - i = (es.size - (i + 1)) + 1 := by omega
    rw [e, List.range'_succ] at hr
    cases hr
    obtain ⟨q, hq⟩ : ∃ q, xs[x]? = some q := ⟨xs[x]'(by omega), List.getElem?_eq_getElem (by omega)⟩
    obtain ⟨p, hp, heq⟩ := h x q hq
    have hen : es[x]? = some (entryOfKey knd q) := by rw [entry_at he x, hq]; rfl
    obtain ⟨j, hj⟩ := List.getElem?_of_mem hp
    have hen' : es'[j]? = some (entryOfKey knd (q.1, p)) := by rw [entry_at he' j, hj]; rfl
    refine wpAny_bind (wpAny_dictEntries ho hdt ?_)
    rw [hen]
    show wpAny _ _ (holding [(entryOfKey knd q).key, (entryOfKey knd q).val] _ >>= _) _ _ _
    refine wpAny_bind (wpAny_holding (wpAny_bind ?_))
    refine wpAny_dictFind_heap (knd := knd) (k := q.1) (a := q.2.1) hu (his q (List.mem_of_getElem? hq)) ho' hdt' he' his' hn' (fun c => absurd hj (c j p)) (fun j2 p2 hj2 => ?_)
    have ej : j2 = j ∧ p2 = p := by
      have a1 : (ys.map (·.1))[j2]? = some q.1 := by rw [List.getElem?_map, hj2]; rfl
      have a2 : (ys.map (·.1))[j]? = some q.1 := by rw [List.getElem?_map, hj]; rfl
      have e1 : j2 = j := by
        obtain ⟨b1, c1⟩ := List.getElem?_eq_some_iff.mp a1
        obtain ⟨b2, c2⟩ := List.getElem?_eq_some_iff.mp a2
        exact (List.getElem_inj hn').mp (c1.trans c2.symm)
      subst e1
      rw [hj] at hj2
      cases hj2
      exact ⟨rfl, rfl⟩
    obtain ⟨rfl, rfl⟩ := ej
    refine wpAny_bind (wpAny_dictEntries ho' hdt' ?_)
    rw [hen']
    refine wpAny_holding (heq _ _ ?_)
    show wpAny _ _ (if (!true) = true then _ else _) _ _ _
    rw [if_neg (by decide)]
    refine wpAny_bind (wpAny_dictEpoch ho hdt ?_)
    rw [if_neg (by simp)]
    exact wpAny_pure ⟨rfl, rfl, x + 1, rfl⟩
  · rintro q s' ⟨rfl, rfl, i, hr⟩
    exact wpAny_pure hQ
theorem dicts_same {d d' : Addr} {xs ys : List (κ × Addr × Value)} {Q : Value → Shared → Prop} (hd : (d == sysModules) = false) (hd' : (d' == sysModules) = false) (hr : knd.room A.in1) (hu : A.units < cLine)
    (hx : s.heap.DictOfH knd d xs) (hy : s.heap.DictOfH knd d' ys) (hl : xs.length = ys.length) (h : ∀ (i : Nat) (q : κ × Addr × Value), xs[i]? = some q → ∃ p, (q.1, p) ∈ ys ∧ SeqAt.EqIn prog w A.in1 s q.2.2 p.2 true) (hQ : Q (.bool true) s) :
    wpAny (model prog w) A (richCompare .Eq (.ref d) (.ref d')) Q E s := by
  refine wpAny_richCompare_same_room (op := .Eq) hx.typeIs hy.typeIs F.slot_dict_eq (wpAny_call_entry F.slot_dict_eq hx.typeIs F.entry_dict_eq ?_ (F.args_dict_eq_2 _ _)) hu
  show wpAny _ _ (Builtin.Dict.dictSlotArgs "__eq__" ⟨[.ref d, .ref d'], []⟩ >>= _) _ _ s
  refine wpAny_bind ?_
  unfold Builtin.Dict.dictSlotArgs
  refine wpAny_bind (wpAny_notOrdered_dict hx.typeIs ?_)
  show wpAny _ _ (pure (Value.ref d, Value.ref d')) _ _ s
  refine wpAny_pure (wpAny_bind (wpAny_isInstance (T := "dict") hy.typeIs F.sub_dict_dict ?_))
  simp only [Bool.not_true, Bool.false_eq_true, if_false]
  refine wpAny_bind (wpAny_pure (wpAny_bind (wpAny_pure (wpAny_bind (pairs_same hd hd' hr hx hy hl h ?_)))))
  exact wpAny_pure ⟨_, rfl, (fun x => nomatch x), hQ⟩
end
/-! ### == of posts -/
/-- the same data -/
def EqD (K : PySem.W.Frag) (H : Hp) (x y : V) : Prop := ∃ (α : Type) (_ : DecidableEq α) (e : α → PyData) (n : Nat) (a : α), EncOk e n ∧ n ≤ 30 ∧ Im K H x (e a) ∧ Im K H y (e a)
/-- dicts of tuple keys of the same data -/
def EqN (P : Program) (w : World) (K : PySem.W.Frag) (H : Hp) (x y : V) : Prop := ∃ (κ : Type) (_ : DecidableEq κ) (e : κ → PyData) (d d' : Addr) (ks ls : List (κ × V)), KeyOk e ∧ x = .ref d ∧ y = .ref d' ∧ DN P w e K H d ks ∧ DN P w e K H d' ls ∧ ks.length = ls.length ∧
  ∀ p ∈ ks, ∃ v, dget ls p.1 = some v ∧ EqD K H p.2 v
/-- dicts of texts -/
def EqH (P : Program) (w : World) (K : PySem.W.Frag) (H : Hp) (x y : V) : Prop := ∃ (a b : Addr) (ks ls : List (Key × V)), x = .ref a ∧ y = .ref b ∧ H a = some (.dK ks) ∧ H b = some (.dK ls) ∧ ks.length = ls.length ∧
  ∀ p ∈ ks, ∃ v, valV ls p.1 = some v ∧ (EqD K H p.2 v ∨ EqN P w K H p.2 v)
section
variable {X : Cx} {pins : List (Addr × Obj)} {σ : L2.St} {H : Hp} {s : Shared}
theorem EqD.run (I : Inv X pins σ H s) {x y : V} {u v : Value} (rx : RelV x u) (ry : RelV y v) (h : EqD X.K H x y) {A : Around} (hu : A.units + 30 < cLine) : SeqAt.EqIn X.prog X.w A s u v true := by
  obtain ⟨α, _, e, n, a, ok, hn, hx, hy⟩ := h
  obtain ⟨as, r1⟩ := hx.reads I rx
  obtain ⟨bs, r2⟩ := hy.reads I ry
  have := SeqAt.eqAt_reads (e a) (e a) A s u v as bs r1 r2 (ok.lay a) (ok.lay a) (by have := ok.dep a; have := Nat.min_le_left (e a).depth (e a).depth; omega)
  rw [ok.eqv, decide_eq_true rfl] at this
  exact this.inModel X.prog X.w
theorem ne_or {d d' : Addr} {A : Around} (h : d ≠ d' → ∀ (E : Value → Shared → Prop) (Q : Value → Shared → Prop), Q (.bool true) s → wpAny (model X.prog X.w) A (richCompare .Eq (.ref d) (.ref d')) Q E s) : SeqAt.EqIn X.prog X.w A s (.ref d) (.ref d') true := by
  by_cases c : d = d'
  · subst c
    exact (SeqAt.EqAt.same (A := A) (s := s) (.ref d)).inModel X.prog X.w
  · exact SeqAt.EqIn.of_refs c (h c)
theorem EqN.run (I : Inv X pins σ H s) {x y : V} {u v : Value} (rx : RelV x u) (ry : RelV y v) (h : EqN X.prog X.w X.K H x y) {A : Around} (hu : A.units + 40 < cLine) : SeqAt.EqIn X.prog X.w A s u v true := by
  obtain ⟨κ, _, e, d, d', ks, ls, ok, rfl, rfl, ⟨xs, ep, h1, h2⟩, ⟨ys, ep', h3, h4⟩, hl, hp⟩ := h
  cases rx
  cases ry
  obtain ⟨_, m1, l1⟩ := dn_keyed ok I h1 h2
  obtain ⟨_, m2, l2⟩ := dn_keyed ok I h3 h4
  refine ne_or fun _ E Q hQ => dicts_same (knd := nestedKind X.prog X.w) m1 m2 (show A.units + 1 + 8 < cLine by omega) (by omega) (dn_H ok I h1 h2) (dn_H ok I h3 h4) (by rw [← Paired.length h2, ← Paired.length h4]; exact hl) (fun i q hq => ?_) hQ
  have hi : i < ks.length := by rw [Paired.length h2]; exact (List.getElem?_eq_some_iff.mp hq).1
  obtain ⟨b, hb, r1, r2, r3⟩ := paired_get h2 (List.getElem?_eq_getElem hi)
  rw [hq] at hb
  cases hb
  obtain ⟨v, hv, hd⟩ := hp ks[i] (List.getElem_mem hi)
  have rl := dget_rel ok (k := ks[i].1) h4
  rw [hv] at rl
  obtain ⟨v', ev, rv⟩ := rl.some_of
  obtain ⟨p, hp2, rfl⟩ := atKey_of ys _ ev
  refine ⟨p, ?_, hd.run I r3 rv (by show A.units + 1 + 30 < cLine; omega)⟩
  rw [r1]
  have hf : (ys.find? fun x => decide (x.1 = nk (e ks[i].1))).map (·.2) = some p := hp2
  obtain ⟨z, hz, ez⟩ := Option.map_eq_some_iff.mp hf
  have z1 := List.find?_some hz
  have z2 := List.mem_of_find?_eq_some hz
  have z3 : z.1 = nk (e ks[i].1) := of_decide_eq_true z1
  have : z = (nk (e ks[i].1), p) := Prod.ext z3 ez
  rw [← this]
  exact z2
theorem EqH.run (I : Inv X pins σ H s) {x y : V} {u v : Value} (rx : RelV x u) (ry : RelV y v) (h : EqH X.prog X.w X.K H x y) {A : Around} (hu : A.units + 50 < cLine) : SeqAt.EqIn X.prog X.w A s u v true := by
  obtain ⟨a, b, ks, ls, rfl, rfl, h1, h2, hl, hp⟩ := h
  cases rx
  cases ry
  obtain ⟨_, m1, vs, r1, d1⟩ := dk_of I.hok h1
  obtain ⟨_, m2, ws, r2, d2⟩ := dk_of I.hok h2
  refine ne_or fun _ E Q hQ => PySem.W.keq_eqIn (r := true) m1 m2 d1 d2 (by omega) (fun _ => ?_) (by rw [← r1.length, ← r2.length, hl]; simpa using hQ)
  have key : ∀ {ks : List (Key × V)} {vs : List (Key × Value)}, KV ks vs → (∀ p ∈ ks, ∃ v, valV ls p.1 = some v ∧ (EqD X.K H p.2 v ∨ EqN X.prog X.w X.K H p.2 v)) → PySem.W.KeqHitsIn X.prog X.w A.in1 s ws vs true := fun {ks vs} r => by
    induction r with
    | nil => intro _; exact .nil
    | @cons p q ks vs h t ih =>
      intro hp
      obtain ⟨v, hv, hd⟩ := hp p List.mem_cons_self
      have rl := r2.val p.1
      rw [hv] at rl
      obtain ⟨v', ev, rv⟩ := rl.some_of
      have e1 : q = (p.1, q.2) := Prod.ext h.1.symm rfl
      rw [e1]
      refine PySem.W.KeqHitsIn.hit (e := true) (b := true) ev ?_ (ih fun p hp' => hp p (List.mem_cons_of_mem _ hp'))
      rcases hd with hd | hd
      · exact hd.run I h.2 rv (by show A.units + 1 + 30 < cLine; omega)
      · exact hd.run I h.2 rv (by show A.units + 1 + 40 < cLine; omega)
  exact key r1 hp
end
section
variable {X : Cx}
/-- [..] == [..]: lists of data and of dicts -/
def rEqL (P : Program) (w : World) (K : PySem.W.Frag) : R2 := fun x y H Q => ∃ a b xs ys, x = .ref a ∧ y = .ref b ∧ H a = some (.lst xs) ∧ H b = some (.lst ys) ∧ Paired (fun u v => EqD K H u v ∨ EqH P w K H u v) xs ys ∧ Q (.bl true) H
theorem op_eqL (hu : X.A.units + 64 < cLine) : OpR X (compareOp .Eq) (rEqL X.prog X.w X.K) := fun pins s σ H x y v u Q I rx ry h => by
  obtain ⟨a, b, xs, ys, rfl, rfl, h1, h2, hp, q⟩ := h
  cases rx
  cases ry
  obtain ⟨its, rv, pl, _⟩ := I.list (SqL.of h1)
  obtain ⟨its', rv', pl', _⟩ := I.list (SqL.of h2)
  have l1 := rv.length
  have l2 := rv'.length
  have l3 := Paired.length hp
  refine SeqAt.rcIn_lists (e := fun _ => true) pl.isList pl'.isList (by simp; omega) (by omega) (fun j q1 q2 => ?_) ⟨.bl true, H, I, (show Value.bool _ = Value.bool true by simp), q⟩
  have j1 : j < its.length := by simpa using q1
  have j2 : j < its'.length := by simpa using q2
  have e1 := List.getElem?_eq_getElem (show j < xs.length by omega)
  obtain ⟨z, hz, hd⟩ := paired_get hp e1
  obtain ⟨u, hu', ru⟩ := rv.get e1
  obtain ⟨u', hu'', ru'⟩ := rv'.get hz
  rw [List.getElem?_eq_getElem j1] at hu'
  rw [List.getElem?_eq_getElem j2] at hu''
  cases hu'
  cases hu''
  have e2 : its.toArray[j] = its[j] := by simp
  have e3 : its'.toArray[j] = its'[j] := by simp
  rw [e2, e3]
  rcases hd with hd | hd
  · exact hd.run I ru ru' (by show X.A.units + 1 + 30 < cLine; omega)
  · exact hd.run I ru ru' (by show X.A.units + 1 + 50 < cLine; omega)
/-! ### a field as a target -/
def gFld (K : PySem.W.Frag) (ta : TE) (f : Str) : TG := fun v σ H Q => ta σ H fun x H1 => ∃ a C dx fs, x = .ref a ∧ H1 a = some (.ins C dx fs) ∧ Cls K C ∧ NoAttr K C f ∧ fs.length < 1000 ∧ Q σ (upd H1 a (.ins C dx (putF f v fs)))
theorem pg_fld {o : Expr} {f : Str} {pos : Pos} {ta : TE} (ha : PE X o ta) : PG X (.Attribute o f pos) (gFld X.K ta f) := by
  refine ⟨fun pins s σ H v u Q I r h => ?_⟩
  rw [assign_Attribute]
  refine wpAny_bind (wpAny_holding (thn (ha.run pins s σ H _ I h) fun ov s2 ⟨x, H2, I2, rx, a, C, dx, fs, ex, ea, c, n, l, q2⟩ => ?_))
  subst ex
  obtain rfl : ov = Value.ref a := rx
  refine wpAny_bind (wpAny_standAt (wpAny_bind (wpAny_holding (setattr_ok I2 ea c n l r fun s3 I3 => ?_))))
  exact wpAny_release ⟨σ, _, I3, q2⟩
/-! ### min(l, key=len) -/
def rMinLen (K : PySem.W.Frag) : V → Hp → VK → Prop := fun x H Q => ∃ (α : Type) (e : α → PyData) (l : List (List α)), Im K H x (eL (eL e) l) ∧ l ≠ [] ∧ ∀ a v, a ∈ l → Im K H v (eL e a) → Q v H
def tMinLen (K : PySem.W.Frag) (ta : TE) : TE := fun σ H Q => ta σ H fun x H1 => rMinLen K x H1 Q
theorem pe_minLen {a : Expr} {ta : TE} {p p2 kp pos : Pos} (hc : X.calm = true) (hu : X.A.units + 64 < cLine) (hg : Gl X "min") (hm : X.mg "min" = none) (hg2 : Gl X "len") (hm2 : X.mg "len" = none) (ha : PE X a ta)
    (na : starEach [a] X.env = (false, eval a X.env) :: starEach [] X.env := by rfl) (nb : backTo pos (starEach [a] X.env) = (false, eval a X.env) :: backTo pos (starEach [] X.env) := by rfl) : PE X (.Call (.Name "min" p) [a] [⟨some "key", .Name "len" p2, kp⟩] pos) (tMinLen X.K ta) := by
  refine ⟨fun pins s σ H Q I h => ?_⟩
  refine wpAny_Call_Name_kw (ld_blt I hg hm (u := .builtin "min") (by first | rfl | decide +kernel) ?_)
  refine PyProof.Rows.callWith_kw (PyProof.Rows.args_cons (thn (ha.run pins s σ H _ I h) fun v s1 ⟨x, H1, I1, r1, q1⟩ => PyProof.Rows.args_nil ?_) na) nb (by rw [nb]; rfl)
  refine PyProof.Rows.kws_cons (ld_blt I1 hg2 hm2 PySem.boot_len (PyProof.Rows.kws_nil ?_))
  obtain ⟨α, e, l, hx, hne, q⟩ := q1
  obtain ⟨b, xs, rfl, h1, h2⟩ := hx.lst_inv
  cases r1
  obtain ⟨its, rv, pl, hz⟩ := I1.list (SqL.of h1)
  have each : ∀ {vs : List V} {us : List Value} {l : List (List α)}, ImAll X.K H1 vs (l.map (eL e)) → Vals vs us → ∀ i u, us[i]? = some u → ∃ c p items v, l[i]? = some c ∧ u = .ref p ∧ s1.heap.IsList p items ∧ items.size ≤ sizeLine ∧ items.size = c.length ∧ RelV v u ∧ Im X.K H1 v (eL e c) := fun {vs us l} im r i u hu => by
    have hl : i < vs.length := by rw [r.length]; exact (List.getElem?_eq_some_iff.mp hu).1
    obtain ⟨d, hd, him⟩ := im.getV (List.getElem?_eq_getElem hl)
    rw [List.getElem?_map] at hd
    obtain ⟨c, hc, rfl⟩ := Option.map_eq_some_iff.mp hd
    obtain ⟨u', hu', ru⟩ := r.get (List.getElem?_eq_getElem hl)
    rw [hu] at hu'
    cases hu'
    obtain ⟨p, ys, ev, hy, hys⟩ := him.lst_inv
    rw [ev] at ru him
    cases ru
    obtain ⟨js, rj, pj, hjz⟩ := I1.list (SqL.of hy)
    refine ⟨c, p, js.toArray, .ref p, hc, rfl, pj.isList, ?_, ?_, rfl, him⟩
    · rw [List.size_toArray, ← rj.length]; exact hjz
    · rw [List.size_toArray, ← rj.length, hys.length, List.length_map]
  have hits := each h2 rv
  have hn : its.length = l.length := by rw [← rv.length, h2.length, List.length_map]
  have hpos : 0 < its.toArray.size := by
    rw [List.size_toArray, hn]
    exact List.length_pos_iff.mpr hne
  refine PySem.call_min_walkKB (q := "len") (PySem.W.iter_listW (A := X.A.in1) (I1.ok.hd hc) pl.isList fun s₂ e2 W st hfp hw hk => ?_)
  have lt : ∀ {b o}, s1.heap.get? b = some o → b < s1.heap.objs.size := fun z => Heap.lt_size z
  refine ⟨_, _, _, _, _, _, _, (fun s' => (∀ b o, s1.heap.get? b = some o → s'.heap.get? b = some o) ∧ ∃ h' tk, s' = { s1 with heap := h', toks := tk }), (fun i k _ => ∃ c t, l[i]? = some c ∧ k = .int (c.length : Nat) t), (fun i j => PySem.W.dataLt (.int ((l.getD i []).length : Nat)) (.int ((l.getD j []).length : Nat))), rfl, W, st, hfp, hpos, ⟨?_, ?_, ?_, ?_⟩, ⟨hk, _, _, e2⟩, fun v s' hP hJ => ?_⟩
  · rintro s' s'' ⟨hJ, h', tk, rfl⟩ m
    refine ⟨fun b o z => ?_, s''.heap, s''.toks, ?_⟩
    rotate_left
    · obtain ⟨h'', g2, d2, t2, o2⟩ := s''
      have e1 : g2 = s1.gens := m.gens
      have e2 : d2 = s1.drawn := m.drawn
      have e3 : o2 = s1.os := m.os
      subst e1; subst e2; subst e3
      rfl
    refine m.heap b o (fun hb => ?_) (hJ b o z)
    rcases List.mem_cons.mp hb with hb | hb
    · rw [e2, Heap.size_push] at hb
      exact absurd (lt z) (by rw [hb]; exact Nat.not_lt_of_le (Nat.le_succ _))
    · exact hw b o z hb
  · intro i k s' s'' h m
    exact h
  · rintro i v s' o Q' E' hi hP ⟨hJ, h', tk, rfl⟩ hst hS hQ'
    have hP : its.toArray[i]? = some v := hP
    have hP : its[i]? = some v := by simpa using hP
    obtain ⟨c, p, items, v', hc', rfl, hlist, hsz, hlen, _, _⟩ := hits i v hP
    obtain ⟨ol, hol, hcl, nl, hdl⟩ := hlist
    have hfit : (items.size : Int) < 2 ^ 63 := by
      have h1 : (items.size : Int) ≤ (sizeLine : Int) := by omega
      have h2 := line63
      omega
    refine Calls.call_len_list (items := items) ⟨ol, hJ _ _ hol, hcl, nl, hdl⟩ hfit ?_
    refine hQ' _ _ ⟨hJ, _, _, rfl⟩ ?_ hS ⟨c, _, hc', by rw [hlen]⟩ (fun j k' h => h)
    exact W.frame _ _ _ _ hst (Nat.le_add_right _ 2) fun b _ o z => z
  · intro i j ki kj s' Q' E' hJ ⟨c, t, hc', ek⟩ ⟨c', t', hc'', ek'⟩ hQ'
    subst ek ek'
    rw [List.getD_eq_getElem?_getD, List.getD_eq_getElem?_getD, hc', hc''] at hQ'
    refine PySem.W.rcLt_alike (.int _) (.int _) X.A.in1 s' _ _ _ _ (.int _ _) (.int _ _) (by simp [PySem.W.alike]) (by simp) (by simp [PyData.depth]; show X.A.units + 1 < cLine; omega) X.prog X.w E' Q' ?_
    exact hQ'
  · have hP : its.toArray[argBest (fun i j => PySem.W.dataLt (.int ((l.getD i []).length : Nat)) (.int ((l.getD j []).length : Nat))) (its.toArray.size - 1)]? = some v := hP
    obtain ⟨hJ, h', tk, rfl⟩ := hJ
    obtain ⟨c, p, items, v', hc', _, _, _, _, rv', him⟩ := hits _ v (by simpa using hP)
    exact ⟨v', H1, I1.kept hJ, rv', q c v' (List.mem_of_getElem? hc') him⟩
end
end Lw
end
section
set_option Elab.async false
set_option linter.all false
set_option maxRecDepth 100000
set_option maxHeartbeats 2000000
/-! len of an object with its own __len__. -/
namespace Lw
open PySem PySem.Spec PyProof.Rows L2
section
variable {X : Cx}
def rLenOwn (C : Addr) (sp : Sp) (E : XK) : List V → Hp → VK → Prop := fun xs H Q => ∃ a dx fs, xs = [.ref a] ∧ H a = some (.ins C dx fs) ∧ sp [.ref a] H (fun v H' => ∃ k : Nat, v = .int k ∧ (k : Int) < 2 ^ 63 ∧ Q (.int k) H') E
theorem call_lenOwn {CX : CXT} {C f : Addr} {fd : FuncData} {ps : List Str} {sp : Sp} {E : XK} {n : Nat} (F : FnOk X.prog X.w X.K X.mg X.base CX n f fd ps sp) (hs : PySem.W.findIn X.K (.ref C) "__len__" = some (some (.ref f))) (hf : PySem.W.isFn X.K (.ref f) = true)
    (hb : Binds X.K fd ps []) (hx : Passes CX X E) (hr : Room (n + 1) X.A) : CallR X (.builtin "len") (rLenOwn C sp E) := by
  intro pins s σ H xs us Q I r h
  obtain ⟨a, dx, fs, rfl, ha, hsp⟩ := h
  obtain ⟨u, rfl, rx⟩ := r.one
  cases rx
  obtain ⟨mA, J, _⟩ := ins_get I.hok ha
  obtain ⟨od, J, _⟩ := J.look
  obtain ⟨m, hF⟩ := I.fr
  refine PySem.W.len_K hF I.ok.mod.kin J hs hf ?_
  have sb : Sub X n X.A.in1 := Sub.in1 ⟨hr, rfl⟩
  have e0 : Env0 X.prog X.w X.K X.mg X.base X.A.in1 X.stack s H := by
    have e := I.env0
    exact ⟨by rw [sb.fr]; exact e.frames, e.mod, e.bs, e.bsz, e.funs, e.frf, e.hok, e.bare⟩
  have hl := F.len _ _ _ _ hsp
  have r2 : Vals [V.ref a] [Value.ref a] := .cons rfl .nil
  refine wpAny_call (codeAny_mono (F.run X.A.in1 X.stack s H ⟨[.ref a], []⟩ [.ref a] [.ref a] _ E sb.room e0 (by
    have := hb s [.ref a] I.kIn (by simpa using hl)
    simpa using this) r2 hsp) fun r s' hq => ?_)
  cases r with
  | error e => exact hx pins σ H s e s' I hq
  | ok fl =>
    cases fl with
    | ret w =>
      obtain ⟨z, H', I', rz, k, ez, hk, q⟩ := I.after hq
      subst ez
      obtain ⟨t, rfl⟩ := rz
      exact ⟨⟨by omega, hk⟩, ⟨.int k, H', I'.tok _, ⟨_, rfl⟩, q⟩⟩
    | next => exact False.elim hq
    | brk => exact False.elim hq
    | cont => exact False.elim hq
end
end Lw
end
section
set_option Elab.async false
set_option linter.all false
set_option maxRecDepth 100000
set_option maxHeartbeats 4000000
/-! Rules by data: displays, sums, repeats, methods of lists and tuples. -/
namespace Lw
open PySem PySem.Spec PyProof.Rows L2
theorem small_line {n : Nat} (h : n ≤ 1000000) : n ≤ sizeLine := by rw [sizeLine_eq]; omega
section
variable {X : Cx}
/-! ### displays -/
def rDispT (K : PySem.W.Frag) (xs : List V) (H1 : Hp) (Q : VK) : Prop := xs.length ≤ 1000 ∧ ∃ ds, ImAll K H1 xs ds ∧ ∀ p H', Same H1 H' → H1 p = none → Im K H' (.ref p) (.tuple ds) → Q (.ref p) H'
def tDispT (K : PySem.W.Frag) (t : TA) : TE := fun σ H Q => t σ H fun xs H1 => rDispT K xs H1 Q
theorem pe_tupD {es : List Expr} {t : TA} {k : Nat} {pos : Pos} (h : PA X es t) : PE X (.Tuple es k pos) (tDispT X.K t) := by
  refine ⟨fun pins s σ H Q I w => ?_⟩
  refine wpAny_Tuple_spliced (thn (h.run pos pins s σ H _ I w) fun us s1 ⟨xs, H1, I1, r, hz, ds, hd, q⟩ => ?_)
  have hl : xs.length ≤ sizeLine := small_line (by omega)
  obtain ⟨I', nf⟩ := laid_tup I1 r hl
  exact ⟨by rw [← r.length]; exact hl, .ref s1.heap.objs.size, _, I', rfl, q _ _ (Same.new nf) nf (.made upd_same (hd.same (Same.new nf)))⟩
def rDispL (K : PySem.W.Frag) (xs : List V) (H1 : Hp) (Q : VK) : Prop := xs.length ≤ 1000 ∧ ∃ ds, ImAll K H1 xs ds ∧ ∀ p H', Same H1 H' → H1 p = none → Im K H' (.ref p) (.list ds) → Q (.ref p) H'
def tDispL (K : PySem.W.Frag) (t : TA) : TE := fun σ H Q => t σ H fun xs H1 => rDispL K xs H1 Q
theorem pe_lstD {es : List Expr} {t : TA} {pos : Pos} (h : PA X es t) : PE X (.List es pos) (tDispL X.K t) := by
  refine ⟨fun pins s σ H Q I w => ?_⟩
  refine wpAny_List_spliced (thn (h.run pos pins s σ H _ I w) fun us s1 ⟨xs, H1, I1, r, hz, ds, hd, q⟩ => ?_)
  have hl : xs.length ≤ sizeLine := small_line (by omega)
  have nf := I1.hok.fresh (Nat.le_refl s1.heap.objs.size)
  exact ⟨by rw [← r.length]; exact hl, .ref s1.heap.objs.size, _, I1.laid (t' := s1.toks) (o := .lst xs) (fun b u e => Heap.get?_push_of_some _ e) (Nat.le_refl _) ⟨hl, us, 0, r, Heap.get?_push_size _ rfl⟩, rfl, q _ _ (Same.new nf) nf (.lst upd_same (hd.same (Same.new nf)))⟩
/-! ### + and * -/
def rCatL (K : PySem.W.Frag) : R2 := fun x y H Q => ∃ ds es, Im K H x (.list ds) ∧ Im K H y (.list es) ∧ ds.length + es.length ≤ 1000000 ∧ ∀ p H', Same H H' → H p = none → Im K H' (.ref p) (.list (ds ++ es)) → Q (.ref p) H'
theorem op_catLD : OpR X (binaryOp .Add) (rCatL X.K) := fun pins s σ H x y v u Q I rx ry h => by
  obtain ⟨ds, es, hx, hy, hl, q⟩ := h
  obtain ⟨a, xs, rfl, h1, h2⟩ := hx.lst_inv
  obtain ⟨b, ys, rfl, h3, h4⟩ := hy.lst_inv
  exact op_cat pins s σ H _ _ v u Q I rx ry ⟨a, b, xs, ys, rfl, rfl, h1, h3, small_line (by rw [h2.length, h4.length]; exact hl), fun p hp => q p _ (Same.new hp) hp (.lst upd_same ((h2.append h4).same (Same.new hp)))⟩
def rCatT' (K : PySem.W.Frag) : R2 := fun x y H Q => ∃ ds es, Im K H x (.tuple ds) ∧ Im K H y (.tuple es) ∧ ds.length + es.length ≤ 1000000 ∧ ∀ v H', Same H H' → Im K H' v (.tuple (ds ++ es)) → Q v H'
theorem op_catTD : OpR X (binaryOp .Add) (rCatT' X.K) := fun pins s σ H x y v u Q I rx ry h => by
  obtain ⟨ds, es, hx, hy, hl, q⟩ := h
  obtain ⟨a, xs, rfl, h1, h2⟩ := hx.tup_inv
  obtain ⟨b, ys, rfl, h3, h4⟩ := hy.tup_inv
  have hz : xs.length + ys.length ≤ sizeLine := small_line (by rw [h2.length, h4.length]; exact hl)
  cases rx
  cases ry
  obtain ⟨its, r1, p1, _⟩ := I.tuple h1
  obtain ⟨its2, r2, p2, _⟩ := I.tuple h3
  by_cases c : xs = []
  · subst c
    cases r1
    cases h2
    exact cat_tup0 p1 p2 ⟨.ref b, H, I, rfl, q _ _ (Same.refl H) hy⟩
  · refine HT.cat_tup p1 p2 (fun z => c (r1.nil_iff.mp z)) (fun z => ?_) (fun z => ?_) (by rw [← r1.length, ← r2.length]; exact hz)
    · have e := r2.nil_iff.mp z
      subst e
      cases h4
      exact ⟨.ref a, H, I, rfl, q _ _ (Same.refl H) (by rw [List.append_nil]; exact hx)⟩
    · obtain ⟨I', hp⟩ := laid_tup I (r1.append r2) (by rw [List.length_append]; exact hz)
      exact ⟨.ref s.heap.objs.size, _, I', rfl, q _ _ (Same.new hp) (.made upd_same ((h2.append h4).same (Same.new hp)))⟩
def repD {α : Type} (n : Int) (l : List α) : List α := (List.replicate n.toNat l).flatten
theorem ImAll.repD {K : PySem.W.Frag} {H : Hp} {vs : List V} {ds : List PyData} (h : ImAll K H vs ds) (n : Nat) : ImAll K H (List.replicate n vs).flatten (List.replicate n ds).flatten := by
  induction n with
  | zero => exact .nil
  | succ n ih => rw [List.replicate_succ, List.replicate_succ, List.flatten_cons, List.flatten_cons]; exact h.append ih
def rRepL (K : PySem.W.Frag) : R2 := fun x y H Q => ∃ ds n, Im K H x (.list ds) ∧ y = .int n ∧ 0 ≤ n ∧ n ≤ 1000 ∧ ds.length ≤ 1000 ∧ ∀ p H', Same H H' → H p = none → Im K H' (.ref p) (.list (Lw.repD n ds)) → Q (.ref p) H'
theorem op_repLD : OpR X (binaryOp .Mult) (rRepL X.K) := fun pins s σ H x y v u Q I rx ry h => by
  obtain ⟨ds, n, hx, rfl, h0, hn, hl, q⟩ := h
  obtain ⟨a, xs, rfl, h1, h2⟩ := hx.lst_inv
  refine op_rep pins s σ H _ _ v u Q I rx ry ⟨a, n, xs, rfl, rfl, h1, by omega, by omega, small_line ?_, fun p hp => q p _ (Same.new hp) hp (.lst upd_same ((h2.repD n.toNat).same (Same.new hp)))⟩
  rw [h2.length]
  have : ds.length * n.toNat ≤ 1000 * 1000 := Nat.mul_le_mul hl (by omega)
  omega
theorem tuple_mul1 (l : Addr) (items : Array Value) (n : Nat) (dd : Option Addr) (sl : Array (Option Value)) (u : Tok) :
    Meets (Builtin.«tuple.__mul__» ⟨[.ref l, .int 1 u], []⟩) (fun _ R s => s.heap.get? l = some { cls := .type "tuple", dict := dd, data := .seq items n, slots := sl } ∧ R (.ok (.ret (.ref l))) s) :=
  .of_wp fun prog w A R s h => by
    obtain ⟨hp, g, d, tk, os⟩ := s
    obtain ⟨hl, h⟩ := h
    have f1 := AutoSeq1.idx_int
    wp_walk using wpAny_loadPart' hl
    exact ⟨_, rfl, h⟩
def rRepTD (K : PySem.W.Frag) : R2 := fun x y H Q => ∃ ds n, Im K H x (.tuple ds) ∧ ds ≠ [] ∧ y = .int n ∧ 1 ≤ n ∧ n ≤ 1000 ∧ ds.length ≤ 1000 ∧ ∀ v H', Same H H' → Im K H' v (.tuple (Lw.repD n ds)) → Q v H'
theorem op_repTD : OpR X (binaryOp .Mult) (rRepTD X.K) := fun pins s σ H x y v u Q I rx ry h => by
  obtain ⟨ds, n, hx, hne, rfl, h0, hn, hl, q⟩ := h
  obtain ⟨a, xs, rfl, h1, h2⟩ := hx.tup_inv
  have hxs : xs ≠ [] := fun e => by subst e; cases h2; exact hne rfl
  cases rx
  obtain ⟨t, rfl⟩ := ry
  obtain ⟨its, r, ⟨⟨cls, dd, data, sl⟩, ho, hc, k, hd⟩, hs⟩ := I.tuple h1
  simp only at hc hd
  subst hc hd
  by_cases c : n = 1
  · subst c
    refine wpAny_binaryOp_repeat_ref (T := "tuple") (U := "int") (by decide) ⟨_, ho, rfl⟩ (fun s' => typeIs_int s' 1 t) noFill_tuple_mul F.fills_int_mul F.slot_int_rmul repeat_tuple F.slot_int_index.lookup
      (call_meets F.slot_int_rmul (typeIs_int s 1 t) F.entry_int_rmul (F.args_int_rmul_2 _ _) (int_rmul_tuple 1 t a its.toArray k dd sl)
        ⟨ho, rfl, ⟨_, ho, rfl⟩, call_meets F.slot_tuple_mul ⟨_, ho, rfl⟩ F.entry_tuple_mul (F.args_tuple_mul_2 _ _) (tuple_mul1 a its.toArray k dd sl t) ⟨ho, ?_⟩⟩)
    refine ⟨.ref a, H, I, rfl, q _ _ (Same.refl H) ?_⟩
    have e : Lw.repD 1 ds = ds := by unfold Lw.repD; simp
    rw [e]
    exact hx
  · have hlx : its.length = ds.length := by rw [← r.length, h2.length]
    have hsz : its.toArray.size = ds.length := by rw [List.size_toArray, hlx]
    have hne' : its.toArray.isEmpty = false := by
      cases its with
      | nil => cases ds with
        | nil => exact absurd rfl hne
        | cons d ds => simp at hlx
      | cons a b => rfl
    have hm : ((its.toArray.size : Nat) : Int) * n ≤ 1000000 := by
      rw [hsz]
      have a1 : ((ds.length : Nat) : Int) * n ≤ 1000 * n := Int.mul_le_mul_of_nonneg_right (by omega) (by omega)
      omega
    have fl : (List.replicate n.toNat its).flatten.length ≤ 1000000 := by
      rw [PyProof.Rows.lm_len_rep_flat, hlx]
      have a1 : n.toNat * ds.length ≤ 1000 * 1000 := Nat.mul_le_mul (by omega) hl
      omega
    refine wpAny_binaryOp_repeat_ref (T := "tuple") (U := "int") (by decide) ⟨_, ho, rfl⟩ (fun s' => typeIs_int s' n t) noFill_tuple_mul F.fills_int_mul F.slot_int_rmul repeat_tuple F.slot_int_index.lookup
      (call_meets F.slot_int_rmul (typeIs_int s n t) F.entry_int_rmul (F.args_int_rmul_2 _ _) (int_rmul_tuple n t a its.toArray k dd sl)
        ⟨ho, rfl, ⟨_, ho, rfl⟩, call_meets F.slot_tuple_mul ⟨_, ho, rfl⟩ F.entry_tuple_mul (F.args_tuple_mul_2 _ _) (tuple_mulW a its.toArray k dd sl n t
          (by rw [decide_eq_false (by omega), decide_eq_false (by omega)]; rfl) (by rw [hne', Bool.false_or]; exact beq_eq_false_iff_ne.mpr c) (by rw [hne', Bool.or_false]; exact decide_eq_false (by omega)) (by omega)
          (by unfold Builtin.Tuple.tupleTooMany; rw [sizeLine_eq]; exact decide_eq_false (by omega)) (by rw [size_rep, List.size_toArray]; exact small_line fl)) ⟨ho, ?_⟩⟩)
    rw [size_rep]
    have r2 := r.rep n.toNat
    obtain ⟨I', hp⟩ := laid_tup I r2 (by rw [r2.length]; exact small_line fl)
    exact ⟨.ref s.heap.objs.size, _, I', rfl, q _ _ (Same.new hp) (.made upd_same ((h2.repD n.toNat).same (Same.new hp)))⟩
/-! ### methods of lists -/
theorem Ls.ty {K : PySem.W.Frag} {H : Hp} {a : Addr} {ds : List PyData} (h : Ls K H a ds) : tyV K "list" (.ref a) H := by
  obtain ⟨xs, h1, _⟩ := h
  exact .inl ⟨rfl, xs, SqL.of h1⟩
theorem Ls.upd_tk {K : PySem.W.Frag} {H : Hp} {a : Addr} {ds : List PyData} {o : HO} (h : Ls K H a ds) : TK H (upd H a o) := by
  obtain ⟨xs, h1, _⟩ := h
  exact TK.upd h1 fun _ _ q => nomatch (show (HO.lst _ = HO.frz _ _) from q)
/-- the list at l has become es -/
def Ch (K : PySem.W.Frag) (l : Addr) (es : List PyData) (H H' : Hp) : Prop := Kp [l] H H' ∧ TK H H' ∧ Ls K H' l es
theorem Ls.ch {K : PySem.W.Frag} {H : Hp} {l : Addr} {ds es : List PyData} {ys : List V} (h : Ls K H l ds) (f : flatAll es = true) (im : ImAll K H ys es) : Ch K l es H (upd H l (.lst ys)) :=
  ⟨Kp.upd, h.upd_tk, ys, upd_same, im.tk h.upd_tk f⟩
def rAppD (K : PySem.W.Frag) : V → List V → Hp → VK → Prop := fun x vs H Q => ∃ l ds y d, x = .ref l ∧ vs = [y] ∧ Ls K H l ds ∧ Im K H y d ∧ flatAll (ds ++ [d]) = true ∧ ds.length < 1000000 ∧ ∀ H', Ch K l (ds ++ [d]) H H' → Q .non H'
theorem mt_appD : MtM X "list.append" (rAppD X.K) := fun pins s σ H x xs v us Q I rx r h => by
  obtain ⟨l, ds, y, d, rfl, rfl, hl, hy, hf, hz, q⟩ := h
  obtain ⟨ys, h1, h2⟩ := id hl
  exact mt_append pins s σ H _ _ v us Q I rx r ⟨l, ys, y, rfl, rfl, h1, Nat.lt_of_lt_of_le (by rw [h2.length]; exact hz) (small_line (Nat.le_refl _)), q _ (hl.ch hf (h2.append (.one hy)))⟩
theorem flatAll_take : ∀ {ds : List PyData} (n : Nat), flatAll ds = true → flatAll (ds.take n) = true
  | [], n, h => by simp [flatAll]
  | d :: ds, 0, h => by simp [flatAll]
  | d :: ds, n + 1, h => by
    simp only [flatAll, Bool.and_eq_true] at h
    simp only [List.take_succ_cons, flatAll, Bool.and_eq_true]
    exact ⟨h.1, flatAll_take n h.2⟩
theorem flatAll_erase : ∀ {ds : List PyData} (n : Nat), flatAll ds = true → flatAll (ds.eraseIdx n) = true
  | [], n, h => by simp [flatAll]
  | d :: ds, 0, h => by
    simp only [flatAll, Bool.and_eq_true] at h
    exact h.2
  | d :: ds, n + 1, h => by
    simp only [flatAll, Bool.and_eq_true] at h
    simp only [List.eraseIdx_cons_succ, flatAll, Bool.and_eq_true]
    exact ⟨h.1, flatAll_erase n h.2⟩
theorem flatAll_append : ∀ {ds es : List PyData}, flatAll ds = true → flatAll es = true → flatAll (ds ++ es) = true
  | [], _, _, h => h
  | d :: ds, _, h, k => by
    simp only [flatAll, Bool.and_eq_true] at h
    simp only [List.cons_append, flatAll, Bool.and_eq_true]
    exact ⟨h.1, flatAll_append h.2 k⟩
theorem flatAll_set : ∀ {ds : List PyData} {d : PyData} (n : Nat), flatAll ds = true → flat d = true → flatAll (ds.set n d) = true
  | [], _, n, h, _ => h
  | a :: ds, d, 0, h, k => by
    simp only [flatAll, Bool.and_eq_true] at h
    simp only [List.set_cons_zero, flatAll, Bool.and_eq_true]
    exact ⟨k, h.2⟩
  | a :: ds, d, n + 1, h, k => by
    simp only [flatAll, Bool.and_eq_true] at h
    simp only [List.set_cons_succ, flatAll, Bool.and_eq_true]
    exact ⟨h.1, flatAll_set n h.2 k⟩
/-- l.pop() -/
def rPopD (K : PySem.W.Frag) : V → List V → Hp → VK → Prop := fun x vs H Q => ∃ l ds d, x = .ref l ∧ vs = [] ∧ Ls K H l (ds ++ [d]) ∧ flatAll (ds ++ [d]) = true ∧ ∀ y H', Im K H' y d → Ch K l ds H H' → Q y H'
theorem ImAll.split {K : PySem.W.Frag} {H : Hp} {vs : List V} {ds : List PyData} {d : PyData} (h : ImAll K H vs (ds ++ [d])) : ∃ ys y, vs = ys ++ [y] ∧ ImAll K H ys ds ∧ Im K H y d := by
  have hl := h.length
  rw [List.length_append, List.length_singleton] at hl
  obtain ⟨y, hy, hd⟩ := h.get (i := ds.length) (d := d) (by simp)
  have ht := h.take ds.length
  rw [List.take_left'] at ht
  · refine ⟨vs.take ds.length, y, ?_, ht, hd⟩
    obtain ⟨h1, h2⟩ := List.getElem?_eq_some_iff.mp hy
    have e := List.take_append_drop ds.length vs
    have e2 : vs.drop ds.length = [y] := by
      rw [List.drop_eq_getElem_cons h1, h2, List.drop_of_length_le (by omega)]
    rw [e2] at e
    exact e.symm
  · rfl
theorem mt_popD : MtM X "list.pop" (rPopD X.K) := fun pins s σ H x xs v us Q I rx r h => by
  obtain ⟨l, ds, d, rfl, rfl, hl, hf, q⟩ := h
  obtain ⟨ys, h1, h2⟩ := id hl
  obtain ⟨zs, y, rfl, h3, h4⟩ := h2.split
  have f1 : flatAll ds = true := by have := flatAll_take ds.length hf; rwa [List.take_left' rfl] at this
  have f2 : flat d = true := by
    have := flatAll_erase 0 (ds := [d])
    have key : ∀ {es : List PyData}, flatAll (es ++ [d]) = true → flat d = true := fun {es} => by
      induction es with
      | nil => intro z; simpa [flatAll] using z
      | cons e es ih => intro z; simp only [List.cons_append, flatAll, Bool.and_eq_true] at z; exact ih z.2
    exact key hf
  refine mt_pop pins s σ H _ _ v us Q I rx r ⟨l, zs ++ [y], y, rfl, rfl, h1, by simp, ?_⟩
  rw [List.dropLast_concat]
  exact q y _ (h4.tk hl.upd_tk f2) (hl.ch f1 h3)
/-- l.pop(i) -/
def rPopAtD (K : PySem.W.Frag) : V → List V → Hp → VK → Prop := fun x vs H Q => ∃ l ds i d, x = .ref l ∧ vs = [.int i] ∧ Ls K H l ds ∧ flatAll ds = true ∧ 0 ≤ i ∧ ds.length ≤ 1000000 ∧ ds[i.toNat]? = some d ∧ ∀ y H', Im K H' y d → Ch K l (ds.eraseIdx i.toNat) H H' → Q y H'
theorem flatAll_get : ∀ {ds : List PyData} {n : Nat} {d : PyData}, flatAll ds = true → ds[n]? = some d → flat d = true
  | [], n, d, _, e => by simp at e
  | a :: ds, 0, d, h, e => by
    simp only [flatAll, Bool.and_eq_true] at h
    simp at e; subst e; exact h.1
  | a :: ds, n + 1, d, h, e => by
    simp only [flatAll, Bool.and_eq_true] at h
    exact flatAll_get h.2 (by simpa using e)
theorem mt_popAtD : MtM X "list.pop" (rPopAtD X.K) := fun pins s σ H x xs v us Q I rx r h => by
  obtain ⟨l, ds, i, d, rfl, rfl, hl, hf, h0, hz, hd, q⟩ := h
  obtain ⟨ys, h1, h2⟩ := id hl
  obtain ⟨y, hy, hyd⟩ := h2.get hd
  have hlt : i.toNat < ys.length := (List.getElem?_eq_some_iff.mp hy).1
  rw [h2.length] at hlt
  refine mt_popAt pins s σ H _ _ v us Q I rx r ⟨l, ys, i, i.toNat, y, rfl, rfl, h1, by omega, by omega, ?_, hy, q y _ (hyd.tk hl.upd_tk (flatAll_get hf hd)) (hl.ch (flatAll_erase _ hf) (h2.eraseIdx _))⟩
  have e : i = ((i.toNat : Nat) : Int) := by omega
  rw [h2.length, e]
  generalize i.toNat = k at hlt
  have e1 : (0 ≤ (k : Int) && decide ((k : Int) < (ds.length : Int))) = true := by
    rw [Bool.and_eq_true]
    exact ⟨decide_eq_true (by omega), decide_eq_true (by omega)⟩
  unfold seqIndex?
  rw [if_neg (show ¬ (k : Int) < 0 by omega)]
  show (if (0 ≤ (k : Int) && decide ((k : Int) < (ds.length : Int))) = true then some (k : Int).toNat else none) = _
  rw [if_pos e1, Int.toNat_natCast]
/-- l.extend(m) -/
def rExtD (K : PySem.W.Frag) : V → List V → Hp → VK → Prop := fun x vs H Q => ∃ l ds es y, x = .ref l ∧ vs = [y] ∧ Ls K H l ds ∧ Im K H y (.list es) ∧ flatAll (ds ++ es) = true ∧ ds.length + es.length ≤ 1000000 ∧ ∀ H', Ch K l (ds ++ es) H H' → Q .non H'
theorem mt_extD : MtM X "list.extend" (rExtD X.K) := fun pins s σ H x xs v us Q I rx r h => by
  obtain ⟨l, ds, es, y, rfl, rfl, hl, hy, hf, hz, q⟩ := h
  obtain ⟨ys, h1, h2⟩ := id hl
  obtain ⟨b, zs, rfl, h3, h4⟩ := hy.lst_inv
  exact mt_extend pins s σ H _ _ v us Q I rx r ⟨l, b, ys, zs, rfl, rfl, h1, h3, small_line (by rw [h2.length, h4.length]; exact hz), q _ (hl.ch hf (h2.append h4))⟩
/-- l[i] = v -/
def rSetD (K : PySem.W.Frag) : TSet := fun o i v H Q => ∃ l ds n d, o = .ref l ∧ i = .int n ∧ Ls K H l ds ∧ Im K H v d ∧ flatAll (ds.set n.toNat d) = true ∧ 0 ≤ n ∧ n.toNat < ds.length ∧ ∀ H', Ch K l (ds.set n.toNat d) H H' → Q H'
theorem set_D : PSet X (rSetD X.K) := fun pins s σ H o i v ov iv u Q I ro ri rv h => by
  obtain ⟨l, ds, n, d, rfl, rfl, hl, hv, hf, h0, hlt, q⟩ := h
  obtain ⟨ys, h1, h2⟩ := id hl
  refine set_list pins s σ H _ _ v ov iv u Q I ro ri rv ⟨l, ys, n, n.toNat, rfl, rfl, h1, ?_, q _ (hl.ch hf (h2.set hv _))⟩
  have e : n = ((n.toNat : Nat) : Int) := by omega
  rw [e, h2.length]
  unfold ixN
  rw [if_pos (by omega), if_pos (by omega)]
/-! ### t.index(x) -/
def tTM (K : PySem.W.Frag) (r : V → List V → Hp → VK → Prop) (to : TE) (t : TA) : TE := fun σ H Q => to σ H fun x H1 => (∃ a ds, x = .ref a ∧ Im K H1 (.ref a) (.tuple ds)) ∧ t σ H1 fun ys H2 => r x ys H2 Q
end
section
variable {X : Cx} {o e : Expr} {es : List Expr} {to : TE} {t : TA} {name : Str} {apos cpos : Pos} {id : String} {r : V → List V → Hp → VK → Prop}
theorem pe_tm (slot : Slot "tuple" name id) (hty : typeOf (.builtin id) = pure (.type "method_descriptor")) (hm : MtR X id r) (ho : PE X o to) (ha : PA X (e :: es) t)
    (hbase : attributeBase o name X.env (eval o X.env) = eval o X.env := by rfl)
    (hfew : ((backTo cpos (starEach (e :: es) X.env)).all (fun x => !x.1) && (backToKw cpos (keywordEach [] X.env)).all (fun x => x.1.isSome)
      && decide ((e :: es).length + ([] : List Keyword).length + (if ([] : List Keyword).isEmpty then 0 else 1) < 30)) = true := by rfl)
    (hline : (apos.endLine == cpos.line) = true := by rfl) (hs : starEach (e :: es) X.env = (false, eval e X.env) :: starEach es X.env := by rfl) (hplain : (backTo cpos (starEach es X.env)).any (·.1) = false := by rfl) :
    PE X (.Call (.Attribute o name apos) (e :: es) [] cpos) (tTM X.K r to t) := by
  refine ⟨fun pins s σ H Q I h => ?_⟩
  refine wpAny_Call_method_late hbase hfew hline rfl (thn (ho.run pins s σ H _ I h) fun v s1 ⟨x, H1, I1, r1, ⟨a, ds, ex, hx⟩, q1⟩ => ?_)
  subst ex
  cases r1
  obtain ⟨ob, hob, hc, hd⟩ := hx.plain I1
  refine ⟨"tuple", id, F.plainAttrs_tuple, slot, hty, ⟨ob, hob, hc⟩, fun b q => by cases q; exact ⟨ob, hob, hd⟩, ?_⟩
  have hA := ha.run cpos pins s1 σ H1 _ I1 q1
  rw [hs] at hA ⊢
  refine Calls.callWith_builtin (by show (false || (backTo cpos (starEach es X.env)).any (·.1)) = false; rw [hplain] <;> rfl) (Calls.evalArgs_plain ?_)
  exact thn hA fun us s2 ⟨vs, H2, I2, r2, q2⟩ => hm pins s2 σ H2 (.ref a) vs (.ref a) us Q I2 (show RelV (.ref a) (.ref a) from rfl) r2 q2
end
end Lw
end
section
set_option Elab.async false
set_option linter.all false
set_option maxRecDepth 100000
set_option maxHeartbeats 2000000
/-! The walk's frame: what a def has promised, by its name; promises over data. -/
namespace Lw
open PySem PySem.Spec PyProof.Rows L2
/-- the builtins' names are not bound by the program -/
structure Bi (mg : Str → Option Value) : Prop where
  isinstance : mg "isinstance" = none
  int : mg "int" = none
  bool : mg "bool" = none
  tuple : mg "tuple" = none
  list : mg "list" = none
  len : mg "len" = none
  all : mg "all" = none
  any : mg "any" = none
  zip : mg "zip" = none
  min : mg "min" = none
  max : mg "max" = none
  set : mg "set" = none
  enumerate : mg "enumerate" = none
  sorted : mg "sorted" = none
  range : mg "range" = none
  dict : mg "dict" = none
/-- the program's constants -/
structure Cs (mg : Str → Option Value) : Prop where
  HOUSES' : ∃ t, mg "HOUSES" = some (.int 7 t)
  LIKED' : ∃ t, mg "LIKED" = some (.int 6 t)
  STANDS' : ∃ t, mg "STANDS" = some (.int 1000 t)
  DROPS' : ∃ t, mg "DROPS" = some (.int 12 t)
section
variable {mg : Str → Option Value} (C : Cs mg)
theorem Cs.HOUSES : mg "HOUSES" = some (.int 7 C.HOUSES'.choose) := C.HOUSES'.choose_spec
theorem Cs.LIKED : mg "LIKED" = some (.int 6 C.LIKED'.choose) := C.LIKED'.choose_spec
theorem Cs.STANDS : mg "STANDS" = some (.int 1000 C.STANDS'.choose) := C.STANDS'.choose_spec
theorem Cs.DROPS : mg "DROPS" = some (.int 12 C.DROPS'.choose) := C.DROPS'.choose_spec
end
/-- a def of the text stands at its name -/
def Df (K : PySem.W.Frag) (mg : Str → Option Value) (x : Str) (st : Stmt) : Prop := ∃ f fd, mg x = some (.ref f) ∧ FunD K x x (defArgs st) (defBody st) (defScope st) [] [] f fd
/-- it keeps its promise, at most n deep -/
def Has (P : Program) (w : World) (K : PySem.W.Frag) (mg : Str → Option Value) (base : Heap) (n : Nat) (x : Str) (ps : List Str) (sp : Sp) : Prop :=
  ∃ f fd, mg x = some (.ref f) ∧ PySem.W.keepIn K (.ref f) = true ∧ Binds K fd ps [] ∧ FnOk P w K mg base CX0 n f fd ps sp
theorem Has.mono {P : Program} {w : World} {K : PySem.W.Frag} {mg : Str → Option Value} {base : Heap} {n m : Nat} {x : Str} {ps : List Str} {sp : Sp} (h : Has P w K mg base n x ps sp) (q : n ≤ m) : Has P w K mg base m x ps sp := by
  obtain ⟨f, fd, h1, h2, h3, h4⟩ := h
  exact ⟨f, fd, h1, h2, h3, h4.mono q⟩
theorem Has.imp {P : Program} {w : World} {K : PySem.W.Frag} {mg : Str → Option Value} {base : Heap} {n : Nat} {x : Str} {ps : List Str} {sp sp' : Sp} (h : Has P w K mg base n x ps sp) (q : ∀ vs H Q E, sp' vs H Q E → sp vs H Q E) : Has P w K mg base n x ps sp' := by
  obtain ⟨f, fd, h1, h2, h3, h4⟩ := h
  exact ⟨f, fd, h1, h2, h3, h4.imp q⟩
section
variable {X : Cx}
theorem pe_has {n k : Nat} {x : Str} {ps : List Str} {sp : Sp} {e : Expr} {es : List Expr} {t : TA} {p pos : Pos} (h : Has X.prog X.w X.K X.mg X.base n x ps sp) (hr : Room k X.A) (hn : n ≤ k) (ha : PA X (e :: es) t) (hg : Gl X x := by rfl)
    (hdb : (x == ("__debug__" : Str)) = false := by decide) (he : starEach (e :: es) X.env = (false, eval e X.env) :: starEach es X.env := by rfl) (hpl : (backTo pos (starEach es X.env)).any (·.1) = false := by rfl) :
    PE X (.Call (.Name x p) (e :: es) [] pos) (tCall sp [] E0 t) := by
  obtain ⟨f, fd, h1, h2, h3, h4⟩ := h
  exact pe_call h4 (hr.mono hn) hg h1 h2 h3 .nil pass0 ha hdb he hpl
end
section
variable {P : Program} {w : World} {K : PySem.W.Frag} {mg : Str → Option Value} {base : Heap}
theorem Df.has {x : Str} {st : Stmt} {N ps : List Str} {k : Nat} {sp : Sp} (D : Df K mg x st) (S : FnScope N ps (defScope st)) (len : ∀ vs H Q E, sp vs H Q E → vs.length = ps.length)
    (hb : ∀ (kV doc pm : Value) (an : Option Addr) (cdv ct : Value) (us : List Value), us.length = ps.length → bindArgs (PySem.W.fnOf x x (defArgs st) (defBody st) (defScope st) .none kV doc pm an cdv ct) ⟨us, []⟩ = pure (ps.zip us))
    (body : ∀ (f : Addr) (cdv : Value) (A : Around) (outer : List Env) (s : Shared) (H : Hp) (vs : List V) (Q : VK) (E : XK), Room k (A.deeper (envOfC x (defScope st) s.heap.objs.size f cdv)) → sp vs H Q E →
      ∃ t, PSs (cxOf CX0 P w K mg base N x (defScope st) f cdv A outer s H E) (defBody st) t ∧ t { nx := fun _ H' => Q .non H', rt := Q } (start N vs) H) : Has P w K mg base (k + 1) x ps sp := by
  obtain ⟨f, fd, h1, F⟩ := D
  exact ⟨f, fd, h1, F.kp, F.bindsN hb, F.ok S len (body f)⟩
end
/-! ### min and max of two, by names -/
def rMinI : List V → Hp → VK → Prop := fun xs H Q => ∃ i j : Int, xs = [.int i, .int j] ∧ Q (.int (min i j)) H
def rMaxI : List V → Hp → VK → Prop := fun xs H Q => ∃ i j : Int, xs = [.int i, .int j] ∧ Q (.int (max i j)) H
theorem call_minI {X : Cx} (hc : X.calm = true) : CallR X (.builtin "min") rMinI := fun pins s σ H xs us Q I r h => by
  obtain ⟨i, j, rfl, q⟩ := h
  refine call_min2 hc pins s σ H _ us Q I r ⟨i, j, rfl, ?_⟩
  have e : (if j < i then j else i) = min i j := by split <;> omega
  rw [e]; exact q
theorem call_maxI {X : Cx} (hc : X.calm = true) : CallR X (.builtin "max") rMaxI := fun pins s σ H xs us Q I r h => by
  obtain ⟨i, j, rfl, q⟩ := h
  refine call_max2 hc pins s σ H _ us Q I r ⟨i, j, rfl, ?_⟩
  have e : (if j > i then j else i) = max i j := by split <;> omega
  rw [e]; exact q
/-! ### promises over data -/
section
variable {α β γ δ ε : Type}
def Sp1 (K : PySem.W.Frag) (e1 : α → PyData) (e : β → PyData) (ok : α → Prop) (f : α → β) : Sp := fun vs H Q _ => ∃ v1 a1, vs = [v1] ∧ Im K H v1 (e1 a1) ∧ ok a1 ∧ ∀ r H', Same H H' → Im K H' r (e (f a1)) → Q r H'
def Sp2 (K : PySem.W.Frag) (e1 : α → PyData) (e2 : β → PyData) (e : γ → PyData) (ok : α → β → Prop) (f : α → β → γ) : Sp := fun vs H Q _ => ∃ v1 v2 a1 a2, vs = [v1, v2] ∧ Im K H v1 (e1 a1) ∧ Im K H v2 (e2 a2) ∧ ok a1 a2 ∧ ∀ r H', Same H H' → Im K H' r (e (f a1 a2)) → Q r H'
def Sp3 (K : PySem.W.Frag) (e1 : α → PyData) (e2 : β → PyData) (e3 : γ → PyData) (e : δ → PyData) (ok : α → β → γ → Prop) (f : α → β → γ → δ) : Sp := fun vs H Q _ => ∃ v1 v2 v3 a1 a2 a3, vs = [v1, v2, v3] ∧ Im K H v1 (e1 a1) ∧ Im K H v2 (e2 a2) ∧ Im K H v3 (e3 a3) ∧ ok a1 a2 a3 ∧
  ∀ r H', Same H H' → Im K H' r (e (f a1 a2 a3)) → Q r H'
def Sp4 (K : PySem.W.Frag) (e1 : α → PyData) (e2 : β → PyData) (e3 : γ → PyData) (e4 : δ → PyData) (e : ε → PyData) (ok : α → β → γ → δ → Prop) (f : α → β → γ → δ → ε) : Sp := fun vs H Q _ => ∃ v1 v2 v3 v4 a1 a2 a3 a4, vs = [v1, v2, v3, v4] ∧ Im K H v1 (e1 a1) ∧ Im K H v2 (e2 a2) ∧ Im K H v3 (e3 a3) ∧ Im K H v4 (e4 a4) ∧ ok a1 a2 a3 a4 ∧
  ∀ r H', Same H H' → Im K H' r (e (f a1 a2 a3 a4)) → Q r H'
end
end Lw
end
section
set_option Elab.async false
set_option linter.all false
set_option maxRecDepth 100000
set_option maxHeartbeats 4000000
/-! Comprehensions told by data: items that stay while the new list (dict) grows. -/
namespace Lw
open PySem PySem.Spec PyProof.Rows L2
/-- y is d, whatever comes to stand at D -/
def Stb (K : PySem.W.Frag) (D : Addr) (H : Hp) (y : V) (d : PyData) : Prop := ∀ H', Kp [D] H H' → TK H H' → Im K H' y d
def StbAll (K : PySem.W.Frag) (D : Addr) (H : Hp) (ys : List V) (ds : List PyData) : Prop := ∀ H', Kp [D] H H' → TK H H' → ImAll K H' ys ds
section
variable {K : PySem.W.Frag} {D : Addr} {H H' : Hp} {y : V} {d : PyData} {ys : List V} {ds : List PyData}
theorem Im.stb (h : Im K H y d) (f : flat d = true) : Stb K D H y d := fun H' _ t => h.tk t f
theorem Stb.im (h : Stb K D H y d) : Im K H y d := h H Kp.refl TK.refl
theorem StbAll.im (h : StbAll K D H ys ds) : ImAll K H ys ds := h H Kp.refl TK.refl
theorem Stb.step (h : Stb K D H y d) (k : Kp [D] H H') (t : TK H H') : Stb K D H' y d := fun H2 k2 t2 => h H2 (k.trans k2) (t.trans t2)
theorem StbAll.step (h : StbAll K D H ys ds) (k : Kp [D] H H') (t : TK H H') : StbAll K D H' ys ds := fun H2 k2 t2 => h H2 (k.trans k2) (t.trans t2)
theorem Stb.same (h : Stb K D H y d) (s : Same H H') : Stb K D H' y d := h.step s.kp s.tk
theorem StbAll.same (h : StbAll K D H ys ds) (s : Same H H') : StbAll K D H' ys ds := h.step s.kp s.tk
theorem StbAll.snoc (h : StbAll K D H ys ds) (h' : Stb K D H y d) : StbAll K D H (ys ++ [y]) (ds ++ [d]) := fun H2 k t => (h H2 k t).append (.one (h' H2 k t))
/-- a list of flat things at another place -/
theorem stb_list {p : Addr} (h : Im K H (.ref p) (.list ds)) (hp : p ≠ D) (f : flatAll ds = true) : Stb K D H (.ref p) (.list ds) := fun H' k t => by
  obtain ⟨xs, h1, h2⟩ := Im.ls h
  exact .lst (k _ _ (by simpa using hp) h1) (h2.tk t f)
theorem range_snoc {α : Type} (f : Nat → Option α) (i : Nat) : (List.range (i + 1)).filterMap f = (List.range i).filterMap f ++ (match f i with | some d => [d] | none => []) := by
  rw [List.range_succ, List.filterMap_append]
  cases e : f i <;> simp [e]
end
section
variable {K : PySem.W.Frag} {g : TG} {tt : TT} {te : TE} {vs : List Nat} {σ : L2.St} {H1 : Hp} {Q : Addr → Hp → Prop} {J : It} {n : Nat} {G : Hp → Prop} {Y : Nat → Hp → V → Hp → Prop}
/-- nothing that stood is changed -/
theorem lc_S (w : Walk J n G Y) (hn : n ≤ sizeLine) (f : Nat → Option PyData) (hG : ∀ H', Same H1 H' → G H') (hY : ∀ i H x H', Y i H x H' → Same H H')
    (hs : ∀ D i x H H' (QT : VK) (QF : Hp → Prop), i < n → Same H1 H → H D ≠ none → Y i H x H' → (∀ y H4 d, f i = some d → Same H' H4 → Stb K D H4 y d → QT y H4) → (∀ H3, f i = none → Same H' H3 → QF H3) →
      g x (wipe σ vs) H' fun σ2 H2 => wipe σ2 vs = wipe σ vs ∧ tt σ2 H2 fun b H3 => if b = true then te σ2 H3 QT else QF H3)
    (hd : ∀ p H', Same H1 H' → H1 p = none → Im K H' (.ref p) (.list ((List.range n).filterMap f)) → Q p H') : RLc g tt te vs σ Q J H1 := by
  refine lc_walk w hn (fun D i acc H => Same H1 H ∧ StbAll K D H acc ((List.range i).filterMap f)) (fun D hD => ⟨Same.new hD, fun _ _ _ => .nil⟩) (fun D i acc H _ p => hG H p.1)
    (fun D i acc x H H' QT QF hD hi e l p y kT kF => ?_) (fun D acc H hD e l p => hd D H p.1 hD (.lst e p.2.im))
  have sy := hY i H x H' y
  have dne : ∀ b o, H1 b = some o → b ≠ D := fun b o q => ne_of_none q hD
  refine hs D i x H H' _ _ hi p.1 (by rw [e]; simp) y (fun z H4 d hfd s4 hz => kT z H4 (s4 _ _ (sy _ _ e)) ⟨fun b o q => ?_, ?_⟩) (fun H3 hfn s3 => kF H3 (s3 _ _ (sy _ _ e)) ⟨(p.1.trans sy).trans s3, ?_⟩)
  · rw [upd_ne (dne b o q)]; exact s4 _ _ (sy _ _ (p.1 _ _ q))
  · have tk : TK H4 (upd H4 D (.lst (acc ++ [z]))) := TK.upd (s4 _ _ (sy _ _ e)) (fun _ _ q => nomatch q)
    rw [range_snoc, hfd]
    exact (((p.2.same sy).same s4).snoc hz).step Kp.upd tk
  · rw [range_snoc, hfn, List.append_nil]
    exact (p.2.same sy).same s3
end
section
variable {K : PySem.W.Frag} {g : TG} {tt : TT} {te : TE} {vs : List Nat} {σ : L2.St} {H1 : Hp} {Q : Addr → Hp → Prop}
/-- what pi_seq asks, of data -/
theorem seq_of {x : V} {ds : List PyData} {R : It → Hp → Prop} (hx : Im K H1 x (.tuple ds) ∨ Im K H1 x (.list ds))
    (k : ∀ (J : It) (a : Addr) (xs : List V) (G : Hp → Prop), x = .ref a → Walk J xs.length G (YAt xs) → ImAll K H1 xs ds → (∀ H', Same H1 H' → G H') → R J H1) :
    ∃ a xs, x = .ref a ∧ ((SqL K H1 a xs ∧ R (Itl K a) H1) ∨ (SqT K H1 a xs ∧ R (Itt K a) H1)) := by
  rcases hx with hx | hx
  · obtain ⟨a, xs, rfl, h1, t⟩ := hx.tup_inv
    exact ⟨a, xs, rfl, .inr ⟨h1, k _ a xs _ rfl (walk_tup (xs := xs)) t (fun H' s => SqT.ext h1 s)⟩⟩
  · obtain ⟨a, xs, rfl, h1, t⟩ := hx.lst_inv
    exact ⟨a, xs, rfl, .inl ⟨SqL.of h1, k _ a xs _ rfl (walk_list (xs := xs)) t (fun H' s => SqL.ext (SqL.of h1) s)⟩⟩
/-- the same, the source standing while D changes -/
theorem seq_but {D : Addr} {x : V} {ds : List PyData} {R : It → Hp → Prop} (hx : Im K H1 x (.tuple ds) ∨ (Im K H1 x (.list ds) ∧ x ≠ .ref D))
    (k : ∀ (J : It) (a : Addr) (xs : List V) (G : Hp → Prop), x = .ref a → Walk J xs.length G (YAt xs) → ImAll K H1 xs ds → (∀ H', Kp [D] H1 H' → TK H1 H' → G H') → R J H1) :
    ∃ a xs, x = .ref a ∧ ((SqL K H1 a xs ∧ R (Itl K a) H1) ∨ (SqT K H1 a xs ∧ R (Itt K a) H1)) := by
  rcases hx with hx | ⟨hx, hne⟩
  · cases hx with
    | tup h hd t => exact ⟨_, _, rfl, .inr ⟨.inl (.inr ⟨_, h⟩), k _ _ _ _ rfl walk_tup t (fun H' _ s => .inl (.inr ⟨_, s _ _ _ h⟩))⟩⟩
    | tupK o n h1 h2 h3 h4 => exact ⟨_, _, rfl, .inr ⟨Im.sqt h1 h2 h3, k _ _ _ _ rfl walk_tup .nil (fun H' _ s => Im.sqt h1 h2 h3)⟩⟩
  · obtain ⟨a, xs, rfl, h1, t⟩ := hx.lst_inv
    exact ⟨a, xs, rfl, .inl ⟨SqL.of h1, k _ a xs _ rfl (walk_list (xs := xs)) t (fun H' s _ => SqL.of (s _ _ (by simpa using fun q => hne (by rw [q])) h1))⟩⟩
/-- [f d for d in data if ..] -/
theorem lc_D {x : V} {ds : List PyData} (hx : Im K H1 x (.tuple ds) ∨ Im K H1 x (.list ds)) (hn : ds.length ≤ sizeLine) (f : PyData → Option PyData)
    (hs : ∀ D d v H' (QT : VK) (QF : Hp → Prop), d ∈ ds → Same H1 H' → H' D ≠ none → Im K H' v d → (∀ y H4 e, f d = some e → Same H' H4 → Stb K D H4 y e → QT y H4) → (∀ H3, f d = none → Same H' H3 → QF H3) →
      g v (wipe σ vs) H' fun σ2 H2 => wipe σ2 vs = wipe σ vs ∧ tt σ2 H2 fun b H3 => if b = true then te σ2 H3 QT else QF H3)
    (hd : ∀ p H', Same H1 H' → H1 p = none → Im K H' (.ref p) (.list (ds.filterMap f)) → Q p H') :
    ∃ a xs, x = .ref a ∧ ((SqL K H1 a xs ∧ RLc g tt te vs σ Q (Itl K a) H1) ∨ (SqT K H1 a xs ∧ RLc g tt te vs σ Q (Itt K a) H1)) := by
  refine seq_of hx fun J a xs G _ w t hG => lc_S (K := K) w (by rw [t.length]; exact hn) (fun i => (ds[i]?).bind f) hG (fun i H v H' y => by rw [y.1]; exact Same.refl _) (fun D i v H H' QT QF hi s hD y kT kF => ?_)
    (fun p H' s hp im => hd p H' s hp (by rw [t.length, range_filterMap] at im; exact im))
  obtain ⟨e, hv⟩ := y
  subst e
  obtain ⟨d, hdi, hvd⟩ := t.getV hv
  exact hs D d v _ QT QF (List.mem_of_getElem? hdi) s hD (hvd.same s) (fun z H4 e q => kT z H4 e (by rw [hdi]; exact q)) (fun H3 q => kF H3 (by rw [hdi]; exact q))
/-- [.. for k in range(..) ..] -/
theorem lc_R {lo : Int} {n : Nat} (hn : n ≤ sizeLine) (f : Nat → Option PyData)
    (hs : ∀ D i H' (QT : VK) (QF : Hp → Prop), i < n → Same H1 H' → H' D ≠ none → (∀ y H4 e, f i = some e → Same H' H4 → Stb K D H4 y e → QT y H4) → (∀ H3, f i = none → Same H' H3 → QF H3) →
      g (.int (lo + (i : Nat))) (wipe σ vs) H' fun σ2 H2 => wipe σ2 vs = wipe σ vs ∧ tt σ2 H2 fun b H3 => if b = true then te σ2 H3 QT else QF H3)
    (hd : ∀ p H', Same H1 H' → H1 p = none → Im K H' (.ref p) (.list ((List.range n).filterMap f)) → Q p H') : RLc g tt te vs σ Q (Itr lo n) H1 := by
  refine lc_S (K := K) walk_range hn f (fun _ _ => True.intro) (fun i H v H' y => by rw [y.1]; exact Same.refl _) (fun D i v H H' QT QF hi s hD y kT kF => ?_) hd
  obtain ⟨e, rfl⟩ := y
  subst e
  exact hs D i _ QT QF hi s hD kT kF
/-- the pairs that zip and enumerate hand out -/
theorem lc_P {J : It} {n : Nat} {G : Hp → Prop} {xs ys : Nat → Option V} (w : Walk J n G (YPair xs ys)) (hn : n ≤ sizeLine) (f : Nat → Option PyData) (hG : ∀ H', Same H1 H' → G H')
    (hs : ∀ D i u v T H' (QT : VK) (QF : Hp → Prop), i < n → Same H1 H' → H' D ≠ none → xs i = some u → ys i = some v → H' T = some (.tup [u, v]) → (∀ y H4 e, f i = some e → Same H' H4 → Stb K D H4 y e → QT y H4) → (∀ H3, f i = none → Same H' H3 → QF H3) →
      g (.ref T) (wipe σ vs) H' fun σ2 H2 => wipe σ2 vs = wipe σ vs ∧ tt σ2 H2 fun b H3 => if b = true then te σ2 H3 QT else QF H3)
    (hd : ∀ p H', Same H1 H' → H1 p = none → Im K H' (.ref p) (.list ((List.range n).filterMap f)) → Q p H') : RLc g tt te vs σ Q J H1 := by
  refine lc_S (K := K) w hn f hG (fun i H v H' y => by obtain ⟨T, a, b, _, hT, rfl, _⟩ := y; exact Same.new hT) (fun D i v H H' QT QF hi s hD y kT kF => ?_) hd
  obtain ⟨T, a, b, rfl, hT, rfl, ha, hb⟩ := y
  have hne : (upd H T (.tup [a, b])) D ≠ none := by
    by_cases c : D = T
    · subst c; rw [upd_same]; simp
    · rw [upd_ne c]; exact hD
  exact hs D i a b T _ QT QF hi (s.trans (Same.new hT)) hne ha hb upd_same kT kF
/-- zip of two tuples -/
theorem walk_zipT {K : PySem.W.Frag} {a b : Addr} {xs ys : List V} {n : Nat} (hn : n = min xs.length ys.length) : Walk (RZ.ItzT K a b) n (fun H => SqT K H a xs ∧ SqT K H b ys) (YPair (fun i => xs[i]?) (fun i => ys[i]?)) := by
  subst hn
  refine ⟨fun i _ hi q => ?_, fun _ q => ⟨xs, ys, q.1, q.2, by omega⟩, fun i H v H' _ q y => ?_⟩
  · exact ⟨xs, ys, xs[i]'(by omega), ys[i]'(by omega), q.1, q.2, by simp [show i < xs.length by omega], by simp [show i < ys.length by omega]⟩
  · obtain ⟨T, x, z, h1, h2, h3, h4, h5⟩ := y
    exact ⟨T, x, z, h1, h2, h3, h4 xs q.1, h5 ys q.2⟩
theorem lc_Z {x y : V} {ds es : List PyData} (hx : Im K H1 x (.tuple ds)) (hy : Im K H1 y (.tuple es)) (hn : ds.length ≤ sizeLine) (f : PyData → PyData → Option PyData)
    (hs : ∀ D d e u v T H' (QT : VK) (QF : Hp → Prop), (d, e) ∈ ds.zip es → Same H1 H' → H' D ≠ none → Im K H' u d → Im K H' v e → H' T = some (.tup [u, v]) → (∀ y H4 b, f d e = some b → Same H' H4 → Stb K D H4 y b → QT y H4) → (∀ H3, f d e = none → Same H' H3 → QF H3) →
      g (.ref T) (wipe σ vs) H' fun σ2 H2 => wipe σ2 vs = wipe σ vs ∧ tt σ2 H2 fun b H3 => if b = true then te σ2 H3 QT else QF H3)
    (hd : ∀ p H', Same H1 H' → H1 p = none → Im K H' (.ref p) (.list ((ds.zip es).filterMap fun p => f p.1 p.2)) → Q p H') :
    ∃ a b xs ys, [x, y] = [.ref a, .ref b] ∧ ((SqL K H1 a xs ∧ SqL K H1 b ys ∧ RLc g tt te vs σ Q (Itz K a b) H1) ∨ (SqT K H1 a xs ∧ SqT K H1 b ys ∧ RLc g tt te vs σ Q (RZ.ItzT K a b) H1)) := by
  obtain ⟨a, xs, rfl, h1, t1⟩ := hx.tup_inv
  obtain ⟨b, ys, rfl, h2, t2⟩ := hy.tup_inv
  have hl : (ds.zip es).length = min xs.length ys.length := by rw [List.length_zip, t1.length, t2.length]
  refine ⟨a, b, xs, ys, rfl, .inr ⟨h1, h2, lc_P (K := K) (walk_zipT (n := (ds.zip es).length) (xs := xs) (ys := ys) hl) (by rw [List.length_zip]; omega) (fun i => ((ds.zip es)[i]?).bind fun p => f p.1 p.2) (fun H' s => ⟨SqT.ext h1 s, SqT.ext h2 s⟩) (fun D i u v T H' QT QF hi s hD hu hv hT kT kF => ?_)
    (fun p H' s hp im => hd p H' s hp (by rw [range_filterMap] at im; exact im))⟩⟩
  obtain ⟨d, hdi, hud⟩ := t1.getV hu
  obtain ⟨e, hei, hve⟩ := t2.getV hv
  have hz : (ds.zip es)[i]? = some (d, e) := by rw [List.getElem?_zip_eq_some]; exact ⟨hdi, hei⟩
  exact hs D d e u v T H' QT QF (List.mem_of_getElem? hz) s hD (hud.same s) (hve.same s) hT (fun y H4 b q => kT y H4 b (by rw [hz]; exact q)) (fun H3 q => kF H3 (by rw [hz]; exact q))
/-- enumerate -/
theorem lc_E {x : V} {ds : List PyData} (hx : Im K H1 x (.tuple ds) ∨ Im K H1 x (.list ds)) (hn : ds.length ≤ sizeLine) (f : Nat → PyData → Option PyData)
    (hs : ∀ D i d v T H' (QT : VK) (QF : Hp → Prop), ds[i]? = some d → Same H1 H' → H' D ≠ none → Im K H' v d → H' T = some (.tup [.int (i : Nat), v]) → (∀ y H4 b, f i d = some b → Same H' H4 → Stb K D H4 y b → QT y H4) → (∀ H3, f i d = none → Same H' H3 → QF H3) →
      g (.ref T) (wipe σ vs) H' fun σ2 H2 => wipe σ2 vs = wipe σ vs ∧ tt σ2 H2 fun b H3 => if b = true then te σ2 H3 QT else QF H3)
    (hd : ∀ p H', Same H1 H' → H1 p = none → Im K H' (.ref p) (.list ((List.range ds.length).filterMap fun i => (ds[i]?).bind (f i))) → Q p H') :
    ∃ a xs, [x] = [.ref a] ∧ ((SqL K H1 a xs ∧ RLc g tt te vs σ Q (Ite K a) H1) ∨ (SqT K H1 a xs ∧ RLc g tt te vs σ Q (IteT K a) H1)) := by
  have key : ∀ (J : It) (xs : List V) (G : Hp → Prop), Walk J xs.length G (YPair (fun i => some (.int (i : Nat))) (fun i => xs[i]?)) → ImAll K H1 xs ds → (∀ H', Same H1 H' → G H') → RLc g tt te vs σ Q J H1 := fun J xs G w t hG => by
    refine lc_P (K := K) w (by rw [t.length]; exact hn) (fun i => (ds[i]?).bind (f i)) hG (fun D i u v T H' QT QF hi s hD hu hv hT kT kF => ?_) (fun p H' s hp im => hd p H' s hp (by rw [t.length] at im; exact im))
    cases hu
    obtain ⟨d, hdi, hvd⟩ := t.getV hv
    exact hs D i d v T H' QT QF hdi s hD (hvd.same s) hT (fun y H4 b q => kT y H4 b (by rw [hdi]; exact q)) (fun H3 q => kF H3 (by rw [hdi]; exact q))
  rcases hx with hx | hx
  · obtain ⟨a, xs, rfl, h1, t⟩ := hx.tup_inv
    exact ⟨a, xs, rfl, .inr ⟨h1, key _ xs _ (walk_enumT (xs := xs)) t (fun H' s => SqT.ext h1 s)⟩⟩
  · obtain ⟨a, xs, rfl, h1, t⟩ := hx.lst_inv
    exact ⟨a, xs, rfl, .inl ⟨SqL.of h1, key _ xs _ (walk_enum (xs := xs)) t (fun H' s => SqL.ext (SqL.of h1) s)⟩⟩
end
/-! ### two clauses -/
abbrev RLi (g1 : TG) (tt1 : TT) (te : TE) (vs1 : List Nat) (D : Addr) (Nx : Hp → Prop) (σ2 : L2.St) : It → Hp → Prop := fun J1 H4 => ∃ W1 : Nat → Nat → Hp → Prop, (∃ m, W1 0 m H4) ∧ ∀ j k H, W1 j k H →
  (J1.stop j H ∧ Nx H) ∨ (J1.go j H ∧ ∃ Nx1 : Hp → Prop, (∀ H', Nx1 H' → ∃ k', k' < k ∧ W1 (j + 1) k' H') ∧ ∀ x H', J1.yld j H x H' → g1 x (wipe σ2 vs1) H' fun σ3 H5 => wipe σ3 vs1 = wipe σ2 vs1 ∧ tt1 σ3 H5 fun b H6 =>
    if b = true then te σ3 H6 fun y H7 => ∃ acc, H7 D = some (.lst acc) ∧ acc.length < sizeLine ∧ Nx1 (upd H7 D (.lst (acc ++ [y]))) else Nx1 H6)
abbrev RL2 (g : TG) (tt : TT) (wi1 : TI) (g1 : TG) (tt1 : TT) (te : TE) (vs vs1 : List Nat) (σ : L2.St) (Q : Addr → Hp → Prop) : It → Hp → Prop := fun J H1 => ∀ D, H1 D = none → ∃ W : Nat → Nat → Hp → Prop, (∃ m, W 0 m (upd H1 D (.lst []))) ∧ ∀ i m H, W i m H →
  (J.stop i H ∧ Q D H) ∨ (J.go i H ∧ ∃ Nx : Hp → Prop, (∀ H', Nx H' → ∃ m', m' < m ∧ W (i + 1) m' H') ∧ ∀ x H', J.yld i H x H' → g x (wipe σ vs) H' fun σ2 H2 => wipe σ2 vs = wipe σ vs ∧ tt σ2 H2 fun b H3 =>
    if b = true then wi1 σ2 H3 (RLi g1 tt1 te vs1 D Nx σ2) else Nx H3)
section
variable {K : PySem.W.Frag} {g g1 : TG} {tl1 : TE} {tt1 : TT} {te : TE} {vs vs1 : List Nat} {σ : L2.St} {H1 : Hp} {Q : Addr → Hp → Prop}
/-- [f d e for d in data for e in inner d if ..] -/
theorem lc2_D {x : V} {ds : List PyData} (hx : Im K H1 x (.tuple ds) ∨ Im K H1 x (.list ds)) (inner : PyData → List PyData) (f : PyData → PyData → Option PyData) (P : V → L2.St → Prop) (hn : (ds.flatMap fun d => (inner d).filterMap (f d)).length < sizeLine) (hf : ∀ d ∈ ds, flatAll (inner d) = true)
    (hs1 : ∀ D d v H' (QI : L2.St → VK), d ∈ ds → Same H1 H' → H1 D = none → H' D ≠ none → Im K H' v d → (∀ σ2 u H2, P v σ2 → Same H' H2 → (Im K H2 u (.tuple (inner d)) ∨ (Im K H2 u (.list (inner d)) ∧ u ≠ .ref D)) → QI σ2 u H2) →
      g v (wipe σ vs) H' fun σ2 H2 => wipe σ2 vs = wipe σ vs ∧ tl1 σ2 H2 (QI σ2))
    (hs2 : ∀ D d e v u σ2 H' (QT : VK) (QF : Hp → Prop), d ∈ ds → e ∈ inner d → P v σ2 → Same H1 H' → H1 D = none → H' D ≠ none → Im K H' v d → Im K H' u e → (∀ y H4 b, f d e = some b → Same H' H4 → Stb K D H4 y b → QT y H4) → (∀ H3, f d e = none → Same H' H3 → QF H3) →
      g1 u (wipe σ2 vs1) H' fun σ3 H5 => wipe σ3 vs1 = wipe σ2 vs1 ∧ tt1 σ3 H5 fun b H6 => if b = true then te σ3 H6 QT else QF H6)
    (hd : ∀ p H', Same H1 H' → H1 p = none → Im K H' (.ref p) (.list (ds.flatMap fun d => (inner d).filterMap (f d))) → Q p H') :
    ∃ a xs, x = .ref a ∧ ((SqL K H1 a xs ∧ RL2 g tYes (iSeq K tl1) g1 tt1 te vs vs1 σ Q (Itl K a) H1) ∨ (SqT K H1 a xs ∧ RL2 g tYes (iSeq K tl1) g1 tt1 te vs vs1 σ Q (Itt K a) H1)) := by
  refine seq_of hx fun J a xs G _ w t hG => ?_
  intro D hD
  have hlen := t.length
  have dne : ∀ b o, H1 b = some o → b ≠ D := fun b o q => ne_of_none q hD
  let res := fun (i : Nat) => (ds.take i).flatMap fun d => (inner d).filterMap (f d)
  have app_upd : ∀ {H4 : Hp} {acc : List V} {z : V}, H4 D = some (.lst acc) → Same H1 H4 → Same H1 (upd H4 D (.lst (acc ++ [z]))) := fun {H4 acc z} h4 s b o q => by rw [upd_ne (dne b o q)]; exact s _ _ q
  refine ⟨fun i m H => m = xs.length - i ∧ i ≤ xs.length ∧ ∃ acc, H D = some (.lst acc) ∧ Same H1 H ∧ StbAll K D H acc (res i), ⟨xs.length, by omega, by omega, [], upd_same, Same.new hD, fun _ _ _ => by
    show ImAll K _ [] ((ds.take 0).flatMap _)
    rw [List.take_zero]; exact .nil⟩, ?_⟩
  rintro i m H ⟨rfl, hi, acc, e, s, st⟩
  by_cases hlt : i < xs.length
  · refine .inr ⟨w.goes i H hlt (hG H s), fun H' => ∃ acc, H' D = some (.lst acc) ∧ Same H1 H' ∧ StbAll K D H' acc (res (i + 1)), fun H' ⟨acc, q1, q2, q3⟩ => ⟨xs.length - (i + 1), by omega, rfl, hlt, acc, q1, q2, q3⟩, fun v H' y => ?_⟩
    obtain ⟨e1, hv⟩ := w.yields i H v H' hlt (hG H s) y
    subst e1
    obtain ⟨d, hdi, hvd⟩ := t.getV hv
    have hmem := List.mem_of_getElem? hdi
    have hres : res (i + 1) = res i ++ (inner d).filterMap (f d) := by
      show (ds.take (i + 1)).flatMap _ = _
      have : ds.take (i + 1) = ds.take i ++ [d] := by rw [List.take_add_one, hdi]; rfl
      rw [this, List.flatMap_append]
      simp [res]
    have hbound : (res (i + 1)).length < sizeLine := by
      have : ds = ds.take (i + 1) ++ ds.drop (i + 1) := (List.take_append_drop _ _).symm
      have h2 : (ds.flatMap fun d => (inner d).filterMap (f d)).length = (res (i + 1)).length + ((ds.drop (i + 1)).flatMap fun d => (inner d).filterMap (f d)).length := by
        conv => lhs; rw [this, List.flatMap_append, List.length_append]
      omega
    refine hs1 D d v _ _ hmem s hD (by rw [e]; simp) (hvd.same s) (fun σ2 u H2 hP s2 hu => ?_)
    refine seq_but hu fun J1 a1 xs1 G1 _ w1 t1 hG1 => ?_
    have hlen1 := t1.length
    refine ⟨fun j k H => k = xs1.length - j ∧ j ≤ xs1.length ∧ ∃ acc, H D = some (.lst acc) ∧ Kp [D] H2 H ∧ TK H2 H ∧ Same H1 H ∧ StbAll K D H acc (res i ++ ((inner d).take j).filterMap (f d)) ∧ ∀ b c, xs1[b]? = some c → ∀ e, (inner d)[b]? = some e → Im K H c e, ⟨xs1.length, by omega, by omega, acc, s2 _ _ e, Kp.refl, TK.refl, s.trans s2, by
      rw [List.take_zero, List.filterMap_nil, List.append_nil]; exact st.same s2, fun b c h1 e h2 => by
        obtain ⟨e', h3, h4⟩ := t1.getV h1
        rw [h2] at h3; cases h3; exact h4⟩, ?_⟩
    rintro j k H5 ⟨rfl, hj, acc5, e5, k5, t5, s5, st5, im5⟩
    have g5 := hG1 H5 k5 t5
    by_cases hltj : j < xs1.length
    · refine .inr ⟨w1.goes j H5 hltj g5, fun H => ∃ acc, H D = some (.lst acc) ∧ Kp [D] H2 H ∧ TK H2 H ∧ Same H1 H ∧ StbAll K D H acc (res i ++ ((inner d).take (j + 1)).filterMap (f d)) ∧ ∀ b c, xs1[b]? = some c → ∀ e, (inner d)[b]? = some e → Im K H c e,
        fun H' ⟨acc, q1, q2, q3, q4, q5, q6⟩ => ⟨xs1.length - (j + 1), by omega, rfl, hltj, acc, q1, q2, q3, q4, q5, q6⟩, fun c H6 y6 => ?_⟩
      obtain ⟨e6, hc⟩ := w1.yields j H5 c H6 hltj g5 y6
      subst e6
      obtain ⟨e', hdj, _⟩ := t1.getV hc
      have htake : (inner d).take (j + 1) = (inner d).take j ++ [e'] := by rw [List.take_add_one, hdj]; rfl
      have lacc : acc5.length = (res i ++ ((inner d).take j).filterMap (f d)).length := st5.im.length
      refine hs2 D d e' v c σ2 _ _ _ hmem (List.mem_of_getElem? hdj) hP s5 hD (by rw [e5]; simp) (hvd.same s5) (im5 j c hc e' hdj) (fun z H7 b hb s7 hz => ?_) (fun H7 hb s7 => ?_)
      · have e7 := s7 _ _ e5
        have tk : TK H7 (upd H7 D (.lst (acc5 ++ [z]))) := TK.upd e7 (fun _ _ q => nomatch q)
        refine ⟨acc5, e7, ?_, acc5 ++ [z], upd_same, (k5.trans s7.kp).trans Kp.upd, (t5.trans s7.tk).trans tk, app_upd e7 (s5.trans s7), ?_, fun b c h1 e h2 => ?_⟩
        · rw [lacc]
          have h3 : (inner d) = (inner d).take (j + 1) ++ (inner d).drop (j + 1) := (List.take_append_drop _ _).symm
          have h4 : (res (i + 1)).length = (res i ++ ((inner d).take j).filterMap (f d)).length + 1 + (((inner d).drop (j + 1)).filterMap (f d)).length := by
            rw [hres]
            conv => lhs; rw [h3, List.filterMap_append, htake, List.filterMap_append]
            simp [hb]; omega
          omega
        · rw [htake, List.filterMap_append, ← List.append_assoc]
          have e8 : List.filterMap (f d) [e'] = [b] := by simp [hb]
          rw [e8]
          exact ((st5.same s7).snoc hz).step Kp.upd tk
        · exact ((im5 b c h1 e h2).same s7).tk tk (flatAll_get (hf d hmem) h2)
      · refine ⟨acc5, s7 _ _ e5, k5.trans s7.kp, t5.trans s7.tk, s5.trans s7, ?_, fun b c h1 e h2 => (im5 b c h1 e h2).same s7⟩
        rw [htake, List.filterMap_append]
        have e8 : List.filterMap (f d) [e'] = [] := by simp [hb]
        rw [e8, List.append_nil]
        exact st5.same s7
    · have ej : j = xs1.length := by omega
      subst ej
      refine .inl ⟨w1.stops H5 g5, acc5, e5, s5, ?_⟩
      rw [hres]
      rw [hlen1, List.take_length] at st5
      exact st5
  · have ei : i = xs.length := by omega
    subst ei
    refine .inl ⟨w.stops H (hG H s), hd D H s hD (.lst e ?_)⟩
    have := st.im
    show ImAll K H acc (ds.flatMap _)
    have e2 : res xs.length = ds.flatMap fun d => (inner d).filterMap (f d) := by
      show (ds.take xs.length).flatMap _ = _
      rw [hlen, List.take_length]
    rw [e2] at this
    exact this
end
end Lw
end
section
/-! The mathematics: guilds, orders, the stand that grows, the measure, the potential of a stand. No program in sight. -/
set_option autoImplicit false
namespace Lk
abbrev Way := List Int

/-- a guild: how many houses, roads, likes (a row for each house from 1 on) -/
structure Gd where
  many : Nat
  roads : List (Int × Int)
  likes : List (List Way)

namespace Gd
def row (g : Gd) (h : Int) : List Way := g.likes.getD (h - 1).toNat []
def ways (g : Gd) : List Way := g.likes.flatten
end Gd

def joined (roads : List (Int × Int)) (a b : Int) : Bool := decide ((min a b, max a b) ∈ roads)

structure IsWay (n : Nat) (roads : List (Int × Int)) (h : Int) (w : Way) : Prop where
  lo : 2 ≤ w.length
  hi : w.length ≤ n
  rng : ∀ x ∈ w, 0 ≤ x ∧ x < n
  hd : w.head? = some h
  lst : w.getLast? = some 0
  nd : w.Nodup
  jn : ∀ p ∈ w.zip w.tail, joined roads p.1 p.2 = true

def ltP (p q : Int × Int) : Prop := p.1 < q.1 ∨ (p.1 = q.1 ∧ p.2 < q.2)
instance (p q : Int × Int) : Decidable (ltP p q) := inferInstanceAs (Decidable (_ ∨ _))

structure Gd.Ok (g : Gd) : Prop where
  lo : 2 ≤ g.many
  hi : g.many ≤ 6
  rds : ∀ p ∈ g.roads, 0 ≤ p.1 ∧ p.1 < p.2 ∧ p.2 < g.many
  ris : g.roads.Pairwise ltP
  len : g.likes.length = g.many - 1
  rnd : ∀ h : Nat, 1 ≤ h → h < g.many → (g.row h).Nodup
  rlen : ∀ h : Nat, 1 ≤ h → h < g.many → (g.row h).length ≤ 6
  way : ∀ h : Nat, 1 ≤ h → h < g.many → ∀ w ∈ g.row h, IsWay g.many g.roads h w
  tot : g.ways.length ≤ 9

theorem IsWay.shape {n : Nat} {roads : List (Int × Int)} {h : Int} {w : Way} (x : IsWay n roads h w) : ∃ a r, w = h :: a :: r := by
  match w, x.lo, x.hd with
  | [], q, _ => simp at q
  | [_], q, _ => simp at q
  | b :: a :: r, _, q =>
    have e : b = h := by simpa using q
    exact ⟨a, r, by rw [e]⟩

namespace Gd
variable {g : Gd}
theorem Ok.row_eq (k : g.Ok) {h : Nat} (h1 : 1 ≤ h) (h2 : h < g.many) : g.likes[h - 1]? = some (g.row h) := by
  have hl := k.len
  have e : ((h : Int) - 1).toNat = h - 1 := by omega
  unfold row
  rw [e, List.getD_eq_getElem?_getD]
  have : h - 1 < g.likes.length := by omega
  rw [List.getElem?_eq_getElem this]; rfl
theorem Ok.mem_ways (k : g.Ok) {w : Way} : w ∈ g.ways ↔ ∃ h : Nat, 1 ≤ h ∧ h < g.many ∧ w ∈ g.row h := by
  have hl := k.len
  unfold ways
  rw [List.mem_flatten]
  constructor
  · rintro ⟨l, hl', hw⟩
    obtain ⟨i, hi, e⟩ := List.getElem_of_mem hl'
    refine ⟨i + 1, by omega, by omega, ?_⟩
    have q := k.row_eq (h := i + 1) (by omega) (by omega)
    rw [show i + 1 - 1 = i by omega, List.getElem?_eq_getElem hi] at q
    rw [← Option.some.inj q, e]; exact hw
  · rintro ⟨h, h1, h2, hw⟩
    exact ⟨_, List.mem_of_getElem? (k.row_eq h1 h2), hw⟩
/-- a liked way: its house -/
theorem Ok.house (k : g.Ok) {w : Way} (hw : w ∈ g.ways) : ∃ (h : Nat) (a : Int) (r : List Int), 1 ≤ h ∧ h < g.many ∧ w = (h : Int) :: a :: r ∧ w ∈ g.row h ∧ IsWay g.many g.roads h w := by
  obtain ⟨h, h1, h2, hm⟩ := k.mem_ways.mp hw
  have x := k.way h h1 h2 w hm
  obtain ⟨a, r, e⟩ := x.shape
  exact ⟨h, a, r, h1, h2, e, hm, x⟩
theorem Ok.row_ways (k : g.Ok) {h : Nat} {w : Way} (h1 : 1 ≤ h) (h2 : h < g.many) (hw : w ∈ g.row h) : w ∈ g.ways := k.mem_ways.mpr ⟨h, h1, h2, hw⟩
end Gd

/-! ### orders -/
/-- what is left of a way behind some of its first houses -/
def ends (w : Way) : List Way := (List.range (w.length - 1)).map fun i => w.drop (i + 1)
/-- the better ones of its house -/
def better (g : Gd) (w : Way) : List Way := let r := g.row (w.headD 0); r.take (r.idxOf w)
def aheadOf (g : Gd) (w : Way) : List Way := better g w ++ (ends w).filter fun e => decide (e ∈ g.ways)

structure IsOrd (g : Gd) (o : List Way) : Prop where
  nd : o.Nodup
  all : ∀ w, w ∈ o ↔ w ∈ g.ways
  beh : ∀ pre w post, o = pre ++ w :: post → ∀ x ∈ aheadOf g w, x ∈ pre

theorem tail_mem_ends {h a : Int} {r : List Int} : (a :: r) ∈ ends (h :: a :: r) := by
  unfold ends
  refine List.mem_map.mpr ⟨0, ?_, by simp⟩
  simp
theorem tail_ahead {g : Gd} {h a : Int} {r : List Int} (m : (a :: r) ∈ g.ways) : (a :: r) ∈ aheadOf g (h :: a :: r) := by
  unfold aheadOf
  exact List.mem_append_right _ (List.mem_filter.mpr ⟨tail_mem_ends, by simpa using m⟩)
/-- the first way of a row that a test takes; those before it are better -/
theorem better_of_first {g : Gd} {h : Int} {p : Way → Bool} {w : Way} {r : List Int} (e : w = h :: r) (hf : (g.row h).find? p = some w) : ∀ x ∈ better g w, p x = false := by
  intro x hx
  unfold better at hx
  rw [e] at hx
  simp only [List.headD_cons] at hx
  rw [← e] at hx
  obtain ⟨hp, as, bs, e2, hall⟩ := List.find?_eq_some_iff_append.mp hf
  have hx2 : x ∈ as := by
    have hle : (g.row h).idxOf w ≤ as.length := by
      rw [e2, List.idxOf_append]
      split
      · rename_i hm
        exact Nat.le_of_lt (List.idxOf_lt_length_of_mem hm)
      · simp
    rw [e2] at hx
    rw [← e2] at hx
    have := List.mem_of_mem_take (l := as) (i := (g.row h).idxOf w) (a := x) (by
      have e3 : (g.row h).take ((g.row h).idxOf w) = as.take ((g.row h).idxOf w) := by
        conv => lhs; arg 2; rw [e2]
        rw [List.take_append_of_le_length hle]
      rw [e3] at hx; exact hx)
    exact this
  have := hall x hx2
  simpa using this
/-- a way before another one in a row is better -/
theorem mem_better {g : Gd} {h : Int} {w x : Way} {r : List Int} {as bs : List Way} (e : w = h :: r) (hr : g.row h = as ++ w :: bs) (hn : w ∉ as) (hx : x ∈ as) : x ∈ better g w := by
  unfold better
  rw [e]
  simp only [List.headD_cons]
  rw [← e, hr, List.idxOf_append, if_neg hn]
  simp only [List.idxOf_cons_self, Nat.add_zero]
  simpa using hx

/-! ### stands -/
def at_ (s : List Way) (h : Int) : Way := s.getD h.toNat []
/-- its rest is the way of its next house -/
def avail (s : List Way) (w : Way) : Bool := decide (at_ s (w.getD 1 0) = w.tail)
def choice (g : Gd) (s : List Way) (h : Int) : Way := ((g.row h).find? (avail s)).getD []

structure Stand (g : Gd) (s : List Way) : Prop where
  len : s.length = g.many
  hall : at_ s 0 = [0]
  own : ∀ h : Nat, 1 ≤ h → h < g.many → at_ s h = [] ∨ at_ s h ∈ g.row h
def Steady (g : Gd) (s : List Way) : Prop := ∀ h : Nat, 1 ≤ h → h < g.many → at_ s h = choice g s h

theorem choice_mem {g : Gd} {s : List Way} {h : Int} : choice g s h = [] ∨ choice g s h ∈ g.row h := by
  unfold choice
  cases e : (g.row h).find? (avail s) with
  | none => exact .inl rfl
  | some w => exact .inr (List.mem_of_find?_eq_some e)
theorem at_nat (s : List Way) (h : Nat) : at_ s (h : Int) = s.getD h [] := by unfold at_; simp
theorem at_set {s : List Way} {h : Nat} {w : Way} {x : Nat} (hl : h < s.length) : at_ (s.set h w) (x : Int) = if x = h then w else at_ s x := by
  rw [at_nat, at_nat, List.getD_eq_getElem?_getD, List.getD_eq_getElem?_getD, List.getElem?_set]
  by_cases e : h = x
  · subst e; simp [hl]
  · rw [if_neg e, if_neg (fun q => e q.symm)]

/-! ### the stand that grows -/
def first (g : Gd) : List Way := [0] :: List.replicate (g.many - 1) []
def growStep (now : List Way) (w : Way) : List Way := if at_ now (w.headD 0) = [] ∧ at_ now (w.getD 1 0) = w.tail then now.set (w.headD 0).toNat w else now
def grown (g : Gd) (o : List Way) : List Way := o.foldl growStep (first g)

theorem ext_at {s t : List Way} {n : Nat} (hs : s.length = n) (ht : t.length = n) (h : ∀ x : Nat, x < n → at_ s x = at_ t x) : s = t := by
  refine List.ext_getElem (hs.trans ht.symm) fun i h1 h2 => ?_
  have := h i (by omega)
  rw [at_nat, at_nat, List.getD_eq_getElem?_getD, List.getD_eq_getElem?_getD, List.getElem?_eq_getElem h1, List.getElem?_eq_getElem h2] at this
  exact this
theorem first_len {g : Gd} (h : 1 ≤ g.many) : (first g).length = g.many := by
  unfold first; simp; omega
theorem at_first {g : Gd} (x : Nat) : at_ (first g) x = if x = 0 then [0] else [] := by
  rw [at_nat]; unfold first
  cases x with
  | zero => rfl
  | succ x =>
    rw [List.getD_cons_succ, List.getD_eq_getElem?_getD, List.getElem?_replicate]
    split <;> simp

/-- the stand that grows is the steady stand -/
theorem grown_fold {g : Gd} (k : g.Ok) {o : List Way} (io : IsOrd g o) {s : List Way} (st : Stand g s) (sd : Steady g s) :
    ∀ (post pre now : List Way), o = pre ++ post → now.length = g.many → at_ now 0 = [0] → (∀ h : Nat, 1 ≤ h → h < g.many → at_ now h = if at_ s h ∈ pre then at_ s h else []) → post.foldl growStep now = s
  | [], pre, now, e, hl, h0, hn => by
    rw [List.foldl_nil]
    refine ext_at hl st.len fun x hx => ?_
    by_cases hx0 : x = 0
    · subst hx0; rw [show ((0 : Nat) : Int) = 0 from rfl, h0, st.hall]
    · rw [hn x (by omega) hx]
      rcases st.own x (by omega) hx with q | q
      · rw [q]; split <;> rfl
      · rw [if_pos]
        have := (io.all (at_ s x)).mpr (k.row_ways (by omega) hx q)
        rw [e] at this
        simpa using this
  | w :: post, pre, now, e, hl, h0, hn => by
    rw [List.foldl_cons]
    have hw : w ∈ g.ways := (io.all w).mp (by rw [e]; simp)
    obtain ⟨h, a, r, h1, h2, ew, hm, hx⟩ := k.house hw
    have hbe := io.beh pre w post e
    have nodup : w ∉ pre := by
      have := io.nd
      rw [e, List.nodup_append] at this
      intro q
      exact this.2.2 w q w (by simp) rfl
    have hd : w.headD 0 = (h : Int) := by rw [ew]; rfl
    have h1d : w.getD 1 0 = a := by rw [ew]; rfl
    have ht : w.tail = a :: r := by rw [ew]; rfl
    -- the next house
    have ha : 0 ≤ a ∧ a < g.many := hx.rng a (by rw [ew]; simp)
    obtain ⟨n, en⟩ : ∃ n : Nat, a = (n : Int) := ⟨a.toNat, by omega⟩
    -- available now iff available in s
    have av : at_ now a = a :: r ↔ at_ s a = a :: r := by
      subst en
      by_cases hn0 : n = 0
      · subst hn0
        rw [show ((0 : Nat) : Int) = 0 from rfl, h0, st.hall]
      · have hn1 : 1 ≤ n := by omega
        have hn2 : n < g.many := by omega
        rw [hn n hn1 hn2]
        constructor
        · intro q
          split at q
          · exact q
          · cases q
        · intro q
          have : at_ s n ∈ g.row n := (st.own n hn1 hn2).resolve_left (by rw [q]; simp)
          have hin : at_ s n ∈ pre := by
            rw [q] at this ⊢
            exact hbe ((n : Int) :: r) (by rw [ew]; exact tail_ahead (k.row_ways hn1 hn2 this))
          rw [if_pos hin]; exact q
    -- the step is taken iff w is its house's way in s
    have key : (at_ now (h : Int) = [] ∧ at_ now a = w.tail) ↔ at_ s (h : Int) = w := by
      rw [ht, av, hn h h1 h2]
      have hc := sd h h1 h2
      constructor
      · rintro ⟨q1, q2⟩
        have hnp : at_ s (h : Int) ∉ pre := by
          intro q
          rw [if_pos q] at q1
          rw [q1] at q
          have : ([] : Way) ∈ g.ways := (io.all _).mp (by rw [e]; exact List.mem_append_left _ q)
          obtain ⟨_, _, _, _, _, e3, _⟩ := k.house this
          cases e3
        -- w is available in s; no better one is the choice
        have avw : avail s w = true := by
          unfold avail; rw [h1d, ht]; exact decide_eq_true q2
        have hf : ((g.row h).find? (avail s)).isSome := List.find?_isSome.mpr ⟨w, hm, avw⟩
        obtain ⟨c, hcf⟩ := Option.isSome_iff_exists.mp hf
        have hcc : at_ s (h : Int) = c := by rw [hc]; unfold choice; rw [hcf]; rfl
        rw [hcc] at hnp ⊢
        -- c = w, else c is before w in the row
        obtain ⟨_, as, bs, e4, hall⟩ := List.find?_eq_some_iff_append.mp hcf
        by_cases hcw : c = w
        · exact hcw
        · exfalso
          have hwb : w ∈ bs := by
            have : w ∈ as ++ c :: bs := by rw [← e4]; exact hm
            rcases List.mem_append.mp this with q | q
            · have := hall w q
              rw [avw] at this; cases this
            · rcases List.mem_cons.mp q with q | q
              · exact absurd q.symm hcw
              · exact q
          obtain ⟨b1, b2, e5⟩ := List.append_of_mem hwb
          have nd := k.rnd h h1 h2
          have e6 : g.row h = (as ++ c :: b1) ++ w :: b2 := by rw [e4, e5]; simp
          have hnw : w ∉ as ++ c :: b1 := by
            rw [e6, List.nodup_append] at nd
            intro q
            exact nd.2.2 w q w (by simp) rfl
          have := mem_better (x := c) (r := a :: r) ew e6 hnw (by simp)
          exact hnp (hbe c (List.mem_append_left _ this))
      · intro q
        rw [q, if_neg nodup]
        refine ⟨rfl, ?_⟩
        rw [q] at hc
        have hcf : (g.row h).find? (avail s) = some w := by
          unfold choice at hc
          cases q2 : (g.row h).find? (avail s) with
          | none => rw [q2] at hc; rw [ew] at hc; cases hc
          | some c => rw [q2] at hc; exact congrArg some hc.symm
        have := List.find?_some hcf
        unfold avail at this
        rw [h1d, ht] at this
        exact of_decide_eq_true this
    have hlt : h < now.length := by omega
    refine grown_fold k io st sd post (pre ++ [w]) _ (by rw [e]; simp) ?_ ?_ ?_
    · unfold growStep; split
      · rw [List.length_set]; exact hl
      · exact hl
    · unfold growStep; split
      · rw [hd, Int.toNat_natCast, show (0 : Int) = ((0 : Nat) : Int) from rfl, at_set hlt, if_neg (by omega)]; exact h0
      · exact h0
    · intro x hx1 hx2
      unfold growStep
      rw [hd, h1d, Int.toNat_natCast]
      by_cases hs : at_ s (h : Int) = w
      · rw [if_pos (key.mpr hs), at_set hlt]
        by_cases hxh : x = h
        · subst hxh; rw [if_pos rfl, hs, if_pos (by simp)]
        · rw [if_neg hxh, hn x hx1 hx2]
          have hne : at_ s (x : Int) ≠ w := by
            intro q
            rcases st.own x hx1 hx2 with z | z
            · rw [q, ew] at z; cases z
            · have := (k.way x hx1 hx2 _ z).hd
              rw [q, ew] at this
              simp at this; omega
          by_cases hp : at_ s (x : Int) ∈ pre
          · rw [if_pos hp, if_pos (by simp [hp])]
          · rw [if_neg hp, if_neg (by simp [hp, hne])]
      · rw [if_neg (fun q => hs (key.mp q)), hn x hx1 hx2]
        have hne : at_ s (x : Int) ≠ w := by
          intro q
          by_cases hxh : x = h
          · subst hxh; exact hs q
          · rcases st.own x hx1 hx2 with z | z
            · rw [q, ew] at z; cases z
            · have := (k.way x hx1 hx2 _ z).hd
              rw [q, ew] at this
              simp at this; omega
        by_cases hp : at_ s (x : Int) ∈ pre
        · rw [if_pos hp, if_pos (by simp [hp])]
        · rw [if_neg hp, if_neg (by simp [hp, hne])]
theorem grown_eq {g : Gd} (k : g.Ok) {o : List Way} (io : IsOrd g o) {s : List Way} (st : Stand g s) (sd : Steady g s) : grown g o = s := by
  unfold grown
  refine grown_fold k io st sd o [] (first g) rfl (first_len (by have := k.lo; omega)) (at_first 0) fun h h1 h2 => ?_
  rw [at_first, if_neg (by omega), if_neg (by simp)]
end Lk
end
section
/-! The measure over an order; the potential of a stand. -/
set_option autoImplicit false
namespace Lk
/-! ### the measure -/
def mu (k : Nat) (A : Way → Nat) (L : Nat) : List Way → Nat
  | [] => L
  | w :: r => A w * (k * 2 ^ r.length) + mu k A L r
theorem mu_tail {k c L L' : Nat} {A A' : Way → Nat} (hL : L' ≤ L + c) : ∀ post : List Way, (∀ w ∈ post, A' w ≤ A w + 1) → mu k A' L' post + k ≤ mu k A L post + k * 2 ^ post.length + c
  | [], _ => by simp only [mu, List.length_nil, Nat.pow_zero, Nat.mul_one]; omega
  | w :: r, h => by
    have ih := mu_tail (k := k) hL r fun x hx => h x (List.mem_cons_of_mem _ hx)
    have h1 := h w (by simp)
    simp only [mu, List.length_cons]
    have h2 : A' w * (k * 2 ^ r.length) ≤ (A w + 1) * (k * 2 ^ r.length) := Nat.mul_le_mul_right _ h1
    rw [Nat.add_mul, Nat.one_mul] at h2
    have e : k * 2 ^ (r.length + 1) = k * 2 ^ r.length + k * 2 ^ r.length := by rw [Nat.pow_succ, ← Nat.mul_assoc, Nat.mul_two]
    omega
theorem mu_lt {k c L L' : Nat} {A A' : Way → Nat} (hL : L' ≤ L + c) (hc : c < k) {p : Way} {post : List Way} : ∀ pre : List Way, (∀ w ∈ pre, A' w ≤ A w) → A' p + 1 ≤ A p → (∀ w ∈ post, A' w ≤ A w + 1) →
    mu k A' L' (pre ++ p :: post) < mu k A L (pre ++ p :: post)
  | [], _, hp, hq => by
    have h1 := mu_tail (k := k) hL post hq
    simp only [List.nil_append, mu]
    have h2 : (A' p + 1) * (k * 2 ^ post.length) ≤ A p * (k * 2 ^ post.length) := Nat.mul_le_mul_right _ hp
    rw [Nat.add_mul, Nat.one_mul] at h2
    omega
  | w :: r, hpre, hp, hq => by
    have ih := mu_lt (p := p) (post := post) hL hc r (fun x hx => hpre x (List.mem_cons_of_mem _ hx)) hp hq
    have h1 := hpre w (by simp)
    simp only [List.cons_append, mu]
    have h2 : A' w * (k * 2 ^ (r ++ p :: post).length) ≤ A w * (k * 2 ^ (r ++ p :: post).length) := Nat.mul_le_mul_right _ h1
    omega
theorem mu_le {k L L' : Nat} {A A' : Way → Nat} (hL : L' ≤ L) : ∀ o : List Way, (∀ w ∈ o, A' w ≤ A w) → mu k A' L' o + L ≤ mu k A L o + L'
  | [], _ => by simp only [mu]; omega
  | w :: r, h => by
    have ih := mu_le (k := k) hL r fun x hx => h x (List.mem_cons_of_mem _ hx)
    have h1 := h w (by simp)
    simp only [mu]
    have h2 : A' w * (k * 2 ^ r.length) ≤ A w * (k * 2 ^ r.length) := Nat.mul_le_mul_right _ h1
    omega
theorem mu_bound {k L B : Nat} {A : Way → Nat} : ∀ o : List Way, (∀ w ∈ o, A w ≤ B) → mu k A L o + B * k ≤ B * k * 2 ^ o.length + L
  | [], _ => by simp only [mu, List.length_nil, Nat.pow_zero, Nat.mul_one]; omega
  | w :: r, h => by
    have ih := mu_bound (k := k) (L := L) r fun x hx => h x (List.mem_cons_of_mem _ hx)
    have h1 := h w (by simp)
    simp only [mu, List.length_cons]
    have h2 : A w * (k * 2 ^ r.length) ≤ B * (k * 2 ^ r.length) := Nat.mul_le_mul_right _ h1
    have e : B * k * 2 ^ (r.length + 1) = B * (k * 2 ^ r.length) + B * (k * 2 ^ r.length) := by
      rw [Nat.pow_succ, ← Nat.mul_assoc, Nat.mul_two, Nat.mul_assoc]
    rw [Nat.mul_assoc] at ih
    omega
theorem le_mu {k L : Nat} {A : Way → Nat} : ∀ o : List Way, L ≤ mu k A L o
  | [] => Nat.le_refl _
  | w :: r => by have := le_mu (k := k) (L := L) (A := A) r; simp only [mu]; omega

/-- the least place at which something holds -/
theorem split_least {α : Type} (P : α → Prop) [DecidablePred P] : ∀ l : List α, (∃ x ∈ l, P x) → ∃ pre p post, l = pre ++ p :: post ∧ P p ∧ ∀ x ∈ pre, ¬ P x
  | [], ⟨_, h, _⟩ => by cases h
  | a :: r, ⟨x, hx, px⟩ => by
    by_cases ha : P a
    · exact ⟨[], a, r, rfl, ha, fun _ h => by cases h⟩
    · have : x ∈ r := by
        rcases List.mem_cons.mp hx with e | e
        · exact absurd (e ▸ px) ha
        · exact e
      obtain ⟨pre, p, post, e, hp, hn⟩ := split_least P r ⟨x, this, px⟩
      refine ⟨a :: pre, p, post, by rw [e]; rfl, hp, fun y hy => ?_⟩
      rcases List.mem_cons.mp hy with e2 | e2
      · exact e2 ▸ ha
      · exact hn y e2
theorem IsOrd.before {g : Gd} {o : List Way} (io : IsOrd g o) {pre post : List Way} {p : Way} (e : o = pre ++ p :: post) {w x : Way} (_ : w ∈ g.ways) (hx : x ∈ aheadOf g w) (hpre : w ∈ pre ∨ w = p) : x ∈ pre := by
  rcases hpre with h | h
  · obtain ⟨a, b, e2⟩ := List.append_of_mem h
    have := io.beh a w (b ++ p :: post) (by rw [e, e2]; simp) x hx
    rw [e2]; exact List.mem_append_left _ this
  · subst h; exact io.beh pre w post e x hx

/-! ### a way's house and next house -/
structure Of (g : Gd) (w : Way) (h n : Nat) : Prop where
  h1 : 1 ≤ h
  h2 : h < g.many
  n2 : n < g.many
  ne : n ≠ h
  shape : ∃ r, w = (h : Int) :: (n : Int) :: r
  row : w ∈ g.row h
  way : IsWay g.many g.roads h w
theorem Gd.Ok.of {g : Gd} (k : g.Ok) {w : Way} (hw : w ∈ g.ways) : ∃ h n, Of g w h n := by
  obtain ⟨h, a, r, h1, h2, e, hm, hx⟩ := k.house hw
  have ha : 0 ≤ a ∧ a < g.many := hx.rng a (by rw [e]; simp)
  obtain ⟨n, en⟩ : ∃ n : Nat, a = (n : Int) := ⟨a.toNat, by omega⟩
  subst en
  refine ⟨h, n, h1, h2, by omega, ?_, ⟨r, e⟩, hm, hx⟩
  have nd := hx.nd
  rw [e] at nd
  intro q
  subst q
  simp at nd
theorem Of.next {g : Gd} {w : Way} {h n : Nat} (x : Of g w h n) : w.getD 1 0 = (n : Int) := by obtain ⟨r, e⟩ := x.shape; rw [e]; rfl
theorem Of.head {g : Gd} {w : Way} {h n : Nat} (x : Of g w h n) : w.headD 0 = (h : Int) := by obtain ⟨r, e⟩ := x.shape; rw [e]; rfl
theorem Of.ne_nil {g : Gd} {w : Way} {h n : Nat} (x : Of g w h n) : w ≠ [] := by obtain ⟨r, e⟩ := x.shape; rw [e]; simp
theorem Of.tail_ne {g : Gd} {w : Way} {h n : Nat} (x : Of g w h n) : w.tail ≠ [] := by obtain ⟨r, e⟩ := x.shape; rw [e]; simp
theorem Of.tail_ahead {g : Gd} {w : Way} {h n : Nat} (x : Of g w h n) (m : w.tail ∈ g.ways) : w.tail ∈ aheadOf g w := by
  obtain ⟨r, e⟩ := x.shape
  rw [e] at m ⊢
  exact Lk.tail_ahead m
theorem Of.uniq {g : Gd} {w : Way} {h n h' n' : Nat} (x : Of g w h n) (y : Of g w h' n') : h = h' ∧ n = n' := by
  obtain ⟨r, e⟩ := x.shape
  obtain ⟨r', e'⟩ := y.shape
  rw [e] at e'
  injection e' with a b
  injection b with c d
  omega
/-- of two ways of a row: the first that a test takes, and another that it takes -/
theorem first_or {g : Gd} (k : g.Ok) {h : Nat} (h1 : 1 ≤ h) (h2 : h < g.many) {p : Way → Bool} {w : Way} (hw : w ∈ g.row h) (pw : p w = true) : ∃ c, (g.row h).find? p = some c ∧ (c = w ∨ c ∈ better g w) := by
  have hf : ((g.row h).find? p).isSome := List.find?_isSome.mpr ⟨w, hw, pw⟩
  obtain ⟨c, hcf⟩ := Option.isSome_iff_exists.mp hf
  refine ⟨c, hcf, ?_⟩
  by_cases hcw : c = w
  · exact .inl hcw
  · right
    obtain ⟨_, as, bs, e4, hall⟩ := List.find?_eq_some_iff_append.mp hcf
    have hwb : w ∈ bs := by
      have : w ∈ as ++ c :: bs := by rw [← e4]; exact hw
      rcases List.mem_append.mp this with q | q
      · have := hall w q
        rw [pw] at this; cases this
      · rcases List.mem_cons.mp q with q | q
        · exact absurd q.symm hcw
        · exact q
    obtain ⟨b1, b2, e5⟩ := List.append_of_mem hwb
    have nd := k.rnd h h1 h2
    have e6 : g.row h = (as ++ c :: b1) ++ w :: b2 := by rw [e4, e5]; simp
    have hnw : w ∉ as ++ c :: b1 := by
      rw [e6, List.nodup_append] at nd
      intro q
      exact nd.2.2 w q w (by simp) rfl
    obtain ⟨a, r, ew⟩ := (k.way h h1 h2 w hw).shape
    exact mem_better (r := a :: r) ew e6 hnw (by simp)
theorem better_row {g : Gd} {w : Way} {h n : Nat} (x : Of g w h n) {b : Way} (hb : b ∈ better g w) : b ∈ g.row h := by
  unfold better at hb
  rw [x.head] at hb
  exact List.mem_of_mem_take hb
theorem better_ahead {g : Gd} {w b : Way} (hb : b ∈ better g w) : b ∈ aheadOf g w := List.mem_append_left _ hb
theorem not_before_self {g : Gd} {o : List Way} (io : IsOrd g o) {w : Way} (hw : w ∈ g.ways) : w ∉ aheadOf g w := by
  intro q
  have := (io.all w).mpr hw
  obtain ⟨a, b, e⟩ := List.append_of_mem this
  have h := io.beh a w b e w q
  have nd := io.nd
  rw [e, List.nodup_append] at nd
  exact nd.2.2 w h w (by simp) rfl

/-! ### the potential of a stand -/
def held (s : List Way) (w : Way) : Bool := decide (at_ s (w.headD 0) = w)
def dig (s : List Way) (w : Way) : Nat := if held s w = avail s w then 0 else 1
def pot (o : List Way) (s : List Way) : Nat := mu 1 (dig s) 0 o
/-- some houses have taken their choice -/
structure Turned (g : Gd) (s t : List Way) : Prop where
  len : t.length = g.many
  hall : at_ t 0 = [0]
  own : ∀ h : Nat, 1 ≤ h → h < g.many → at_ t h = at_ s h ∨ at_ t h = choice g s h
theorem Turned.stand {g : Gd} {s t : List Way} (st : Stand g s) (x : Turned g s t) : Stand g t := by
  refine ⟨x.len, x.hall, fun h h1 h2 => ?_⟩
  rcases x.own h h1 h2 with e | e
  · rw [e]; exact st.own h h1 h2
  · rw [e]; exact choice_mem
/-- of a stand: a way held by its house, or by another one -/
theorem Stand.liked {g : Gd} (k : g.Ok) {s : List Way} (st : Stand g s) {n : Nat} (hn : n < g.many) {v : Way} (e : at_ s n = v) (hv : v ≠ []) (h0 : n ≠ 0) : v ∈ g.ways ∧ v.headD 0 = (n : Int) := by
  have h1 : 1 ≤ n := by omega
  have := (st.own n h1 hn).resolve_left (by rw [e]; exact hv)
  rw [e] at this
  refine ⟨k.row_ways h1 hn this, ?_⟩
  obtain ⟨a, r, e2⟩ := (k.way n h1 hn v this).shape
  rw [e2]; rfl
theorem avail_of {g : Gd} {s : List Way} {w : Way} {h n : Nat} (x : Of g w h n) : avail s w = decide (at_ s n = w.tail) := by unfold avail; rw [x.next]
theorem held_of {g : Gd} {s : List Way} {w : Way} {h n : Nat} (x : Of g w h n) : held s w = decide (at_ s h = w) := by unfold held; rw [x.head]
/-- the rest of a way is held alike where the ways ahead are -/
theorem avail_same {g : Gd} (k : g.Ok) {s t : List Way} (st : Stand g s) (tt : Stand g t) {w : Way} (hw : w ∈ g.ways) (hs : ∀ x ∈ aheadOf g w, held s x = held t x) : avail s w = avail t w := by
  obtain ⟨h, n, x⟩ := k.of hw
  rw [avail_of x, avail_of x]
  by_cases h0 : n = 0
  · subst h0
    have e1 := st.hall
    have e2 := tt.hall
    rw [show (0 : Int) = ((0 : Nat) : Int) from rfl] at e1 e2
    rw [e1, e2]
  · have key : ∀ {u v : List Way}, Stand g u → (∀ x ∈ aheadOf g w, held u x = held v x) → at_ u n = w.tail → at_ v n = w.tail := fun {u v} su hh e => by
      obtain ⟨m, hd⟩ := su.liked k x.n2 e x.tail_ne h0
      have q := hh _ (x.tail_ahead m)
      unfold held at q
      rw [hd, e] at q
      simpa using q.symm
    by_cases e : at_ s n = w.tail
    · rw [e, key st hs e]
    · have e2 : at_ t n ≠ w.tail := fun q => e (key tt (fun y hy => (hs y hy).symm) q)
      simp [e, e2]
theorem pot_lt {g : Gd} (k : g.Ok) {o : List Way} (io : IsOrd g o) {s t : List Way} (st : Stand g s) (x : Turned g s t) (ne : t ≠ s) : pot o t < pot o s := by
  have tt := x.stand st
  -- some house has another way
  have ex : ∃ h : Nat, 1 ≤ h ∧ h < g.many ∧ at_ t h ≠ at_ s h := by
    refine Classical.byContradiction fun hn => ne (ext_at x.len st.len fun h hh => ?_)
    by_cases h0 : h = 0
    · subst h0; rw [show ((0 : Nat) : Int) = 0 from rfl, x.hall, st.hall]
    · exact Classical.byContradiction fun q => hn ⟨h, by omega, hh, q⟩
  obtain ⟨h, h1, h2, hne⟩ := ex
  -- so some way is held in one of them alone
  have ex2 : ∃ w ∈ o, held s w ≠ held t w := by
    by_cases e : at_ s h = []
    · have e2 : at_ t h ≠ [] := by rw [← e]; exact hne
      obtain ⟨m, hd⟩ := tt.liked k h2 rfl e2 (by omega)
      refine ⟨at_ t h, (io.all _).mpr m, ?_⟩
      unfold held
      rw [hd]
      simp [Ne.symm hne]
    · obtain ⟨m, hd⟩ := st.liked k h2 rfl e (by omega)
      refine ⟨at_ s h, (io.all _).mpr m, ?_⟩
      unfold held
      rw [hd]
      simp [hne]
  obtain ⟨pre, p, post, eo, hp, hpre⟩ := split_least (fun w => held s w ≠ held t w) o ex2
  have hpre' : ∀ w ∈ pre, held s w = held t w := fun w hw => Classical.byContradiction fun q => hpre w hw q
  have inw : ∀ w, w ∈ pre ∨ w = p → w ∈ g.ways := fun w hw => (io.all w).mp (by
    rw [eo]
    rcases hw with q | q
    · exact List.mem_append_left _ q
    · subst q; simp)
  have av : ∀ w, w ∈ pre ∨ w = p → avail s w = avail t w := fun w hw => avail_same k st tt (inw w hw) fun y hy => hpre' y (io.before eo (inw w hw) hy hw)
  unfold pot
  rw [eo]
  refine mu_lt (k := 1) (c := 0) (Nat.le_refl _) (by omega) pre (fun w hw => ?_) ?_ (fun w _ => ?_)
  · unfold dig
    rw [hpre' w hw, av w (.inl hw)]
    exact Nat.le_refl _
  · -- at p
    obtain ⟨hh, n, y⟩ := k.of (inw p (.inr rfl))
    have hch := x.own hh y.h1 y.h2
    have hd1 : held s p = decide (at_ s hh = p) := held_of y
    have hd2 : held t p = decide (at_ t hh = p) := held_of y
    have hch' : at_ t hh = choice g s hh := by
      rcases hch with e | e
      · exfalso; apply hp; rw [hd1, hd2, e]
      · exact e
    have goal : held s p ≠ avail s p ∧ held t p = avail t p := by
      rw [← av p (.inr rfl)]
      by_cases e : at_ t hh = p
      · -- taken: available ahead
        have a : avail s p = true := by
          rw [hch'] at e
          unfold choice at e
          cases q : (g.row hh).find? (avail s) with
          | none => rw [q] at e; exact absurd e.symm y.ne_nil
          | some c =>
            rw [q] at e
            have e' : c = p := e
            rw [← e']
            exact List.find?_some q
        have b : at_ s hh ≠ p := fun q => hp (by rw [hd1, hd2, e, q])
        rw [hd1, hd2, a]
        simp [e, b]
      · have b : at_ s hh = p := Classical.byContradiction fun q => hp (by rw [hd1, hd2]; simp [e, q])
        have a : avail s p = false := by
          cases q : avail s p with
          | false => rfl
          | true =>
            exfalso
            obtain ⟨c, hc, hcw⟩ := first_or k y.h1 y.h2 y.row q
            have ec : choice g s hh = c := by unfold choice; rw [hc]; rfl
            rw [ec] at hch'
            rcases hcw with z | z
            · exact e (hch'.trans z)
            · have hcp : c ∈ pre := io.before eo (inw p (.inr rfl)) (better_ahead z) (.inr rfl)
              have hrow := better_row y z
              obtain ⟨a, r, ec2⟩ := (k.way hh y.h1 y.h2 c hrow).shape
              have q1 := hpre' c hcp
              have hcn : p ≠ c := fun q => not_before_self io (inw p (.inr rfl)) (by have := better_ahead z; rw [← q] at this; exact this)
              have hd : c.headD 0 = (hh : Int) := by rw [ec2]; rfl
              unfold held at q1
              rw [hd, b, hch'] at q1
              simp [hcn] at q1
        rw [hd1, hd2, a]
        simp [e, b]
    unfold dig
    rw [if_neg goal.1, if_pos goal.2]
    exact Nat.le_refl _
  · unfold dig
    split <;> split <;> omega
end Lk
end
section
/-! The post: letters read one by one; each read lowers the measure; at rest the stand is steady. -/
set_option autoImplicit false
namespace Lk
abbrev Let := Int × Int × Way
structure Ps where
  ways : List Way
  heard : Int → Int → Way
  lets : List Let

def adj (g : Gd) (s r : Nat) : Prop := joined g.roads s r = true
/-- the houses that roads join with one -/
def others (roads : List (Int × Int)) (h : Int) : List Int := roads.filterMap fun p => if h = p.1 ∨ h = p.2 then some (p.1 + p.2 - h) else none
def hav (f : Int → Int → Way) (h : Int) (w : Way) : Bool := decide (f h (w.getD 1 0) = w.tail)
def best (g : Gd) (heard : Int → Int → Way) (h : Int) : Way := ((g.row h).find? (hav heard h)).getD []
/-- two ways of a row: one is better -/
theorem better_tri {g : Gd} (k : g.Ok) {h : Nat} (h1 : 1 ≤ h) (h2 : h < g.many) {b c : Way} (hb : b ∈ g.row h) (hc : c ∈ g.row h) (ne : b ≠ c) : b ∈ better g c ∨ c ∈ better g b := by
  obtain ⟨as, bs, e⟩ := List.append_of_mem hc
  have nd := k.rnd h h1 h2
  have hnc : c ∉ as := by
    rw [e, List.nodup_append] at nd
    intro q
    exact nd.2.2 c q c (by simp) rfl
  obtain ⟨a, r, ec⟩ := (k.way h h1 h2 c hc).shape
  rw [e] at hb
  rcases List.mem_append.mp hb with q | q
  · exact .inl (mem_better (r := a :: r) ec e hnc q)
  · rcases List.mem_cons.mp q with q | q
    · exact absurd q ne
    · right
      obtain ⟨b1, b2, e5⟩ := List.append_of_mem q
      have e6 : g.row h = (as ++ c :: b1) ++ b :: b2 := by rw [e, e5]; simp
      have hnb : b ∉ as ++ c :: b1 := by
        rw [e6, List.nodup_append] at nd
        intro q
        exact nd.2.2 b q b (by simp) rfl
      obtain ⟨a', r', eb⟩ := (k.way h h1 h2 b (by rw [e6]; simp)).shape
      exact mem_better (r := a' :: r') eb e6 hnb (by simp)
def onCh (s r : Int) (l : Let) : Bool := decide (l.1 = s) && decide (l.2.1 = r)
def chan (p : Ps) (s r : Int) : List Way := p.heard r s :: (p.lets.filter (onCh s r)).map (·.2.2)
def setH (f : Int → Int → Way) (r s : Int) (w : Way) : Int → Int → Way := fun a b => if a = r ∧ b = s then w else f a b
/-- a house chooses, and tells it -/
def choose (g : Gd) (os : List Int) (p : Ps) (h : Int) : Ps :=
  if h = 0 then p else if best g p.heard h = at_ p.ways h then p else
    { p with ways := p.ways.set h.toNat (best g p.heard h), lets := p.lets ++ os.map fun o => (h, o, best g p.heard h) }

/-- whose other end's list this is: each neighbour once -/
structure Nbs (g : Gd) (h : Int) (os : List Int) : Prop where
  nd : os.Nodup
  mem : ∀ o, o ∈ os ↔ (joined g.roads h o = true ∧ 0 ≤ o ∧ o < g.many)

/-- what holds but for the choices in B -/
structure PInv (g : Gd) (p : Ps) (B : Int → Prop) : Prop where
  len : p.ways.length = g.many
  hall : at_ p.ways 0 = [0]
  last : ∀ s r : Nat, s < g.many → r < g.many → joined g.roads s r = true → (chan p s r).getLast? = some (at_ p.ways s)
  own : ∀ h : Nat, 1 ≤ h → h < g.many → ¬ B h → at_ p.ways h = best g p.heard h
  lets : ∀ l ∈ p.lets, joined g.roads l.1 l.2.1 = true ∧ 0 ≤ l.1 ∧ l.1 < g.many ∧ 0 ≤ l.2.1 ∧ l.2.1 < g.many

theorem joined_ne {g : Gd} (k : g.Ok) {a b : Int} (h : joined g.roads a b = true) : a ≠ b := by
  intro e
  subst e
  have := k.rds _ (of_decide_eq_true h)
  simp at this
theorem joined_comm (roads : List (Int × Int)) (a b : Int) : joined roads a b = joined roads b a := by
  unfold joined
  rw [Int.min_comm a b, Int.max_comm a b]

theorem filter_sends {h : Int} {v : Way} {s r : Int} : ∀ {os : List Int}, os.Nodup → ((os.map fun o => ((h, o, v) : Let)).filter (onCh s r)).map (·.2.2) = if s = h ∧ r ∈ os then [v] else []
  | [], _ => by simp
  | o :: os, nd => by
    have nd' := List.nodup_cons.mp nd
    have ih := filter_sends (h := h) (v := v) (s := s) (r := r) nd'.2
    rw [List.map_cons, List.filter_cons]
    by_cases hs : s = h
    · by_cases hr : r = o
      · subst hs hr
        have e1 : onCh s r (s, r, v) = true := by simp [onCh]
        rw [if_pos e1, List.map_cons, ih, if_neg (fun q => nd'.1 q.2), if_pos ⟨rfl, by simp⟩]
      · have e1 : ¬ onCh s r (h, o, v) = true := by simp [onCh]; intro _ q; exact hr q.symm
        rw [if_neg e1, ih]
        by_cases hm : r ∈ os
        · rw [if_pos ⟨hs, hm⟩, if_pos ⟨hs, by simp [hm]⟩]
        · rw [if_neg (fun q => hm q.2), if_neg (fun q => by rcases List.mem_cons.mp q.2 with z | z; exact hr z; exact hm z)]
    · have e1 : ¬ onCh s r (h, o, v) = true := by simp [onCh]; intro q; exact absurd q.symm hs
      rw [if_neg e1, ih, if_neg (fun q => hs q.1), if_neg (fun q => hs q.1)]
theorem chan_sent (p : Ps) (ways : List Way) {h : Int} {v : Way} {os : List Int} (nd : os.Nodup) (s r : Int) :
    chan { p with ways := ways, lets := p.lets ++ os.map fun o => (h, o, v) } s r = chan p s r ++ (if s = h ∧ r ∈ os then [v] else []) := by
  unfold chan
  rw [List.filter_append, List.map_append, filter_sends nd]
  try rfl
theorem chan_ne (p : Ps) (s r : Int) : chan p s r ≠ [] := by unfold chan; simp

/-- a house chooses: what held but for its choice holds -/
theorem choose_inv {g : Gd} {p : Ps} {h : Nat} (hh : h < g.many) {os : List Int} (nb : Nbs g h os) (I : PInv g p (fun x => x = (h : Int))) : PInv g (choose g os p h) (fun _ => False) := by
  unfold choose
  by_cases h0 : h = 0
  · subst h0
    rw [if_pos (show ((0 : Nat) : Int) = 0 from rfl)]
    exact ⟨I.len, I.hall, I.last, fun x h1 h2 _ => I.own x h1 h2 (by omega), I.lets⟩
  · rw [if_neg (by omega)]
    by_cases e : best g p.heard (h : Int) = at_ p.ways (h : Int)
    · rw [if_pos e]
      refine ⟨I.len, I.hall, I.last, fun x h1 h2 _ => ?_, I.lets⟩
      by_cases hx : x = h
      · subst hx; exact e.symm
      · exact I.own x h1 h2 (by omega)
    · rw [if_neg e]
      have hl : h < p.ways.length := by rw [I.len]; exact hh
      refine ⟨by show (p.ways.set _ _).length = _; rw [List.length_set]; exact I.len, ?_, fun s r hs hr hj => ?_, fun x h1 h2 _ => ?_, fun l hm => ?_⟩
      · show at_ (p.ways.set (h : Int).toNat _) ((0 : Nat) : Int) = _
        rw [Int.toNat_natCast, at_set hl, if_neg (by omega)]
        exact I.hall
      · rw [chan_sent p _ nb.nd, show at_ (p.ways.set (h : Int).toNat (best g p.heard h)) (s : Int) = if s = h then best g p.heard h else at_ p.ways s by rw [Int.toNat_natCast, at_set hl]]
        by_cases hsh : s = h
        · subst hsh
          rw [if_pos ⟨rfl, (nb.mem r).mpr ⟨hj, by omega, by omega⟩⟩, if_pos rfl]
          simp
        · rw [if_neg (fun q => hsh (by omega)), if_neg hsh, List.append_nil]
          exact I.last s r hs hr hj
      · show at_ (p.ways.set (h : Int).toNat _) (x : Int) = best g p.heard x
        rw [Int.toNat_natCast, at_set hl]
        by_cases hx : x = h
        · subst hx; rw [if_pos rfl]
        · rw [if_neg hx]; exact I.own x h1 h2 (by omega)
      · rcases List.mem_append.mp hm with q | q
        · exact I.lets l q
        · obtain ⟨o, ho, rfl⟩ := List.mem_map.mp q
          have := (nb.mem o).mp ho
          exact ⟨this.1, by show (0 : Int) ≤ (h : Int); omega, by show (h : Int) < _; omega, this.2.1, this.2.2⟩

/-- the letter l is taken off its road and heard -/
def taken (p : Ps) (l1 l2 : List Let) (l : Let) : Ps := { p with heard := setH p.heard l.2.1 l.1 l.2.2, lets := l1 ++ l2 }
theorem chan_taken {p : Ps} {l1 l2 : List Let} {l : Let} (e : p.lets = l1 ++ l :: l2) (hn : ∀ x ∈ l1, onCh l.1 l.2.1 x = false) (s r : Int) :
    (s = l.1 ∧ r = l.2.1 ∧ chan p s r = p.heard r s :: chan (taken p l1 l2 l) s r) ∨ (¬ (s = l.1 ∧ r = l.2.1) ∧ chan (taken p l1 l2 l) s r = chan p s r) := by
  by_cases h : s = l.1 ∧ r = l.2.1
  · left
    obtain ⟨rfl, rfl⟩ := h
    refine ⟨rfl, rfl, ?_⟩
    unfold chan taken
    have e1 : l1.filter (onCh l.1 l.2.1) = [] := List.filter_eq_nil_iff.mpr fun x hx => by rw [hn x hx]; simp
    have e2 : onCh l.1 l.2.1 l = true := by simp [onCh]
    rw [e, List.filter_append, List.filter_append, e1, List.nil_append, List.nil_append, List.filter_cons, if_pos e2, List.map_cons]
    unfold setH
    simp
  · right
    refine ⟨h, ?_⟩
    unfold chan taken
    have e2 : ¬ onCh s r l = true := by simp only [onCh, Bool.and_eq_true, decide_eq_true_eq]; intro q; exact h ⟨q.1.symm, q.2.symm⟩
    rw [e, List.filter_append, List.filter_append, List.filter_cons, if_neg e2]
    unfold setH
    simp only
    rw [if_neg (fun q => h ⟨q.2, q.1⟩)]
theorem taken_inv {g : Gd} {p : Ps} {l1 l2 : List Let} {l : Let} (I : PInv g p (fun _ => False)) (e : p.lets = l1 ++ l :: l2) (hn : ∀ x ∈ l1, onCh l.1 l.2.1 x = false) : PInv g (taken p l1 l2 l) (fun x => x = l.2.1) := by
  refine ⟨I.len, I.hall, fun s r hs hr hj => ?_, fun h h1 h2 hb => ?_, fun x hx => I.lets x ?_⟩
  · have q := I.last s r hs hr hj
    rcases chan_taken e hn s r with ⟨_, _, z⟩ | ⟨_, z⟩
    · rw [z, List.getLast?_cons] at q
      show (chan (taken p l1 l2 l) s r).getLast? = some (at_ p.ways s)
      cases hc : (chan (taken p l1 l2 l) s r).getLast? with
      | none => exact absurd (List.getLast?_eq_none_iff.mp hc) (chan_ne _ _ _)
      | some v => rw [hc] at q; exact q
    · rw [z]; exact q
  · have := I.own h h1 h2 (fun z => z)
    show at_ p.ways h = _
    rw [this]
    unfold best taken setH
    simp only
    congr 1
    refine congrArg (fun f => List.find? f _) (funext fun w => ?_)
    have e1 : (if (h : Int) = l.2.1 ∧ w.getD 1 0 = l.1 then l.2.2 else p.heard h (w.getD 1 0)) = p.heard h (w.getD 1 0) := if_neg (fun q => hb q.1)
    show decide _ = decide ((if (h : Int) = l.2.1 ∧ w.getD 1 0 = l.1 then l.2.2 else p.heard h (w.getD 1 0)) = _)
    simp only [e1]
  · rw [e]
    rcases List.mem_append.mp hx with q | q
    · exact List.mem_append_left _ q
    · exact List.mem_append_right _ (List.mem_cons_of_mem _ q)
/-- the letter is read -/
def deliver (g : Gd) (os : List Int) (p : Ps) (l1 l2 : List Let) (l : Let) : Ps := choose g os (taken p l1 l2 l) l.2.1
theorem deliver_inv {g : Gd} {p : Ps} {l1 l2 : List Let} {l : Let} {os : List Int} (nb : Nbs g l.2.1 os) (I : PInv g p (fun _ => False)) (e : p.lets = l1 ++ l :: l2) (hn : ∀ x ∈ l1, onCh l.1 l.2.1 x = false) :
    PInv g (deliver g os p l1 l2 l) (fun _ => False) := by
  have hl := I.lets l (by rw [e]; simp)
  obtain ⟨n, en⟩ : ∃ n : Nat, l.2.1 = (n : Int) := ⟨l.2.1.toNat, by omega⟩
  have J := taken_inv I e hn
  unfold deliver
  rw [en] at J nb ⊢
  exact choose_inv (by omega) nb J

/-! ### the measure falls -/
def flips (f : Way → Bool) : List Way → Nat
  | a :: b :: r => (if f a = f b then 0 else 1) + flips f (b :: r)
  | _ => 0
theorem flips_cons_le (f : Way → Bool) (a : Way) : ∀ r : List Way, flips f r ≤ flips f (a :: r)
  | [] => Nat.le_refl _
  | _ :: _ => by simp only [flips]; omega
theorem flips_snoc (f : Way → Bool) (b : Way) : ∀ (r : List Way) (a : Way), flips f (a :: r ++ [b]) = flips f (a :: r) + if f ((a :: r).getLastD a) = f b then 0 else 1
  | [], a => by simp [flips]
  | c :: r, a => by
    have ih := flips_snoc f b r c
    have e : (a :: c :: r).getLastD a = (c :: r).getLastD c := by
      simp [List.getLastD_eq_getLast?, List.getLast?_cons]
    rw [e]
    simp only [List.cons_append, flips] at ih ⊢
    rw [ih]
    omega
theorem flips_app {f : Way → Bool} {l : List Way} {u v : Way} (hl : l.getLast? = some u) : flips f (l ++ [v]) = flips f l + if f u = f v then 0 else 1 := by
  cases l with
  | nil => cases hl
  | cons a r =>
    rw [flips_snoc]
    have : (a :: r).getLastD a = u := by
      rw [List.getLastD_eq_getLast?, hl]; rfl
    rw [this]
theorem flips_le (f : Way → Bool) : ∀ l : List Way, flips f l ≤ l.length - 1
  | [] => Nat.le_refl _
  | [_] => Nat.le_refl _
  | a :: b :: r => by
    have := flips_le f (b :: r)
    simp only [flips, List.length_cons] at this ⊢
    split <;> omega
/-- how often a way's availability will turn by the letters that wait -/
def turns (p : Ps) (w : Way) : Nat := flips (fun v => decide (v = w.tail)) (chan p (w.getD 1 0) (w.headD 0))
def weight (o : List Way) (p : Ps) : Nat := mu 8 (turns p) p.lets.length o

theorem house_count {n : Nat} {os : List Int} (nd : os.Nodup) (h : ∀ x ∈ os, 0 ≤ x ∧ x < n) : os.length ≤ n := by
  have hs : os ⊆ (List.range n).map (fun i : Nat => (i : Int)) := fun x hx => by
    have := h x hx
    exact List.mem_map.mpr ⟨x.toNat, List.mem_range.mpr (by omega), by omega⟩
  have := nd.length_le_of_subset hs
  simpa using this
theorem deg {g : Gd} (k : g.Ok) {h : Int} {os : List Int} (nb : Nbs g h os) : os.length ≤ 6 :=
  Nat.le_trans (house_count nb.nd fun x hx => ((nb.mem x).mp hx).2) k.hi

theorem deliver_weight {g : Gd} (k : g.Ok) {o : List Way} (io : IsOrd g o) {p : Ps} {l1 l2 : List Let} {l : Let} {os : List Int} (nb : Nbs g l.2.1 os) (I : PInv g p (fun _ => False)) (e : p.lets = l1 ++ l :: l2) (hn : ∀ x ∈ l1, onCh l.1 l.2.1 x = false) :
    weight o (deliver g os p l1 l2 l) < weight o p := by
  have hl := I.lets l (by rw [e]; simp)
  have J := taken_inv I e hn
  have elen : p.lets.length = (l1 ++ l2).length + 1 := by rw [e]; simp; omega
  -- what a taken letter does to the turns
  have tk : ∀ w, turns (taken p l1 l2 l) w ≤ turns p w := fun w => by
    unfold turns
    rcases chan_taken e hn (w.getD 1 0) (w.headD 0) with ⟨_, _, z⟩ | ⟨_, z⟩
    · rw [z]; exact flips_cons_le _ _ _
    · rw [z]; exact Nat.le_refl _
  have same : weight o (taken p l1 l2 l) < weight o p := by
    unfold weight
    have := mu_le (k := 8) (L := p.lets.length) (L' := (taken p l1 l2 l).lets.length) (A := turns p) (A' := turns (taken p l1 l2 l)) (by show (l1 ++ l2).length ≤ _; omega) o (fun w _ => tk w)
    have e2 : (taken p l1 l2 l).lets.length = (l1 ++ l2).length := rfl
    omega
  unfold deliver choose
  by_cases h0 : l.2.1 = 0
  · rw [if_pos h0]; exact same
  rw [if_neg h0]
  by_cases eb : best g (taken p l1 l2 l).heard l.2.1 = at_ (taken p l1 l2 l).ways l.2.1
  · rw [if_pos eb]; exact same
  rw [if_neg eb]
  -- the house and its two ways
  obtain ⟨h, eh⟩ : ∃ h : Nat, l.2.1 = (h : Int) := ⟨l.2.1.toNat, by omega⟩
  obtain ⟨s, es⟩ : ∃ s : Nat, l.1 = (s : Int) := ⟨l.1.toNat, by omega⟩
  have h1 : 1 ≤ h := by omega
  have h2 : h < g.many := by omega
  have hu : at_ p.ways (h : Int) = best g p.heard h := I.own h h1 h2 (fun z => z)
  rw [eh] at eb ⊢
  generalize hv : best g (taken p l1 l2 l).heard (h : Int) = v at eb ⊢
  have eb : v ≠ at_ p.ways (h : Int) := eb
  generalize hus : at_ p.ways (h : Int) = u at eb hu
  -- the turns behind it
  generalize hq : ({ taken p l1 l2 l with ways := (taken p l1 l2 l).ways.set (h : Int).toNat v, lets := (taken p l1 l2 l).lets ++ os.map fun o => ((h : Int), o, v) } : Ps) = q
  have ch : ∀ a b, chan q a b = chan (taken p l1 l2 l) a b ++ (if a = (h : Int) ∧ b ∈ os then [v] else []) := fun a b => by rw [← hq]; exact chan_sent _ _ nb.nd a b
  have ql : q.lets.length ≤ p.lets.length + 5 := by
    rw [← hq]
    show ((l1 ++ l2) ++ os.map _).length ≤ _
    rw [List.length_append, List.length_map]
    have := deg k nb
    omega
  have le1 : ∀ w ∈ g.ways, turns q w ≤ turns p w + 1 := fun w hw => by
    obtain ⟨hh, n, x⟩ := k.of hw
    unfold turns
    rw [x.next, x.head, ch]
    have t1 := tk w
    unfold turns at t1
    rw [x.next, x.head] at t1
    by_cases c : (n : Int) = (h : Int) ∧ (hh : Int) ∈ os
    · rw [if_pos c]
      have hj := (nb.mem hh).mp c.2
      have hlast := J.last h hh h2 x.h2 (by rw [eh] at hj; exact hj.1)
      rw [← c.1] at hlast
      rw [flips_app hlast]
      split <;> omega
    · rw [if_neg c, List.append_nil]; omega
  -- only ways whose rest is u or v turn more
  have le0 : ∀ w ∈ g.ways, w.tail ≠ u → w.tail ≠ v → turns q w ≤ turns p w := fun w hw n1 n2 => by
    obtain ⟨hh, n, x⟩ := k.of hw
    unfold turns
    rw [x.next, x.head, ch]
    have t1 := tk w
    unfold turns at t1
    rw [x.next, x.head] at t1
    by_cases c : (n : Int) = (h : Int) ∧ (hh : Int) ∈ os
    · rw [if_pos c]
      have hj := (nb.mem hh).mp c.2
      have hlast := J.last h hh h2 x.h2 (by rw [eh] at hj; exact hj.1)
      rw [← c.1] at hlast
      rw [flips_app hlast]
      have e1 : at_ (taken p l1 l2 l).ways (n : Int) = u := by rw [c.1]; exact hus
      rw [e1]
      have e2 : decide (u = w.tail) = decide (v = w.tail) := by simp [Ne.symm n1, Ne.symm n2]
      rw [if_pos e2]; exact t1
    · rw [if_neg c, List.append_nil]; exact t1
  -- a way of this house whose availability has turned
  have piv : ∀ w, Of g w h s → decide (p.heard h s = w.tail) ≠ decide (l.2.2 = w.tail) → turns q w + 1 ≤ turns p w := fun w x hne => by
    unfold turns
    rw [x.next, x.head, ch]
    rw [if_neg (fun c => by have := x.ne; omega), List.append_nil]
    rcases chan_taken e hn (s : Int) (h : Int) with ⟨_, _, z⟩ | ⟨z, _⟩
    · rw [z]
      have e3 : chan (taken p l1 l2 l) (s : Int) (h : Int) = l.2.2 :: ((taken p l1 l2 l).lets.filter (onCh s h)).map (·.2.2) := by
        unfold chan taken setH
        simp only
        rw [if_pos ⟨eh.symm, es.symm⟩]
      rw [e3]
      simp only [flips]
      rw [if_neg hne]
      omega
    · exact absurd ⟨es.symm, eh.symm⟩ z
  have heardSame : ∀ n : Nat, n ≠ s → (taken p l1 l2 l).heard h n = p.heard h n := fun n hn' => by
    show setH p.heard l.2.1 l.1 l.2.2 h n = _
    unfold setH
    rw [if_neg (fun c => hn' (by omega))]
  have heardNew : (taken p l1 l2 l).heard h s = l.2.2 := by
    show setH p.heard l.2.1 l.1 l.2.2 h s = _
    unfold setH
    rw [if_pos ⟨eh.symm, es.symm⟩]
  -- the pivot: w is available in one of the two alone
  have pivot : ∀ w ∈ g.row h, hav p.heard h w ≠ hav (taken p l1 l2 l).heard h w → turns q w + 1 ≤ turns p w := fun w hw hne => by
    obtain ⟨hh, n, x⟩ := k.of (k.row_ways h1 h2 hw)
    have ehh : hh = h := by
      obtain ⟨r, er⟩ := x.shape
      have := (k.way h h1 h2 w hw).hd
      rw [er] at this; simp at this; omega
    subst ehh
    unfold hav at hne
    rw [x.next] at hne
    by_cases c : n = s
    · subst c
      rw [heardNew] at hne
      exact piv w x hne
    · rw [heardSame n c] at hne
      exact absurd rfl hne
  -- which way is the pivot
  have main : ∃ w ∈ g.ways, turns q w + 1 ≤ turns p w ∧ (∀ x ∈ g.ways, (x.tail = u ∨ x.tail = v) → (w ∈ aheadOf g x ∨ ∃ y ∈ aheadOf g x, y ∈ g.ways ∧ w ∈ aheadOf g y)) := by
    have hfu : u = ((g.row h).find? (hav p.heard h)).getD [] := hu
    have hfv : v = ((g.row h).find? (hav (taken p l1 l2 l).heard h)).getD [] := hv.symm
    have tl : ∀ x ∈ g.ways, ∀ z ∈ g.ways, x.tail = z → z ∈ aheadOf g x := fun x hx z hz ez => by
      obtain ⟨hh, n, y⟩ := k.of hx
      rw [← ez] at hz ⊢
      exact y.tail_ahead hz
    have tn : ∀ x ∈ g.ways, x.tail ≠ [] := fun x hx => by
      obtain ⟨hh, n, y⟩ := k.of hx
      exact y.tail_ne
    have rw_ : ∀ w ∈ g.row h, w ∈ g.ways := fun w hw => k.row_ways h1 h2 hw
    have shp : ∀ w ∈ g.row h, ∃ r, w = (h : Int) :: r := fun w hw => by
      obtain ⟨a, r, e⟩ := (k.way h h1 h2 w hw).shape
      exact ⟨_, e⟩
    cases cu : (g.row h).find? (hav p.heard h) with
    | none =>
      rw [cu] at hfu
      have hfu : u = [] := hfu
      cases cv : (g.row h).find? (hav (taken p l1 l2 l).heard h) with
      | none => rw [cv] at hfv; exact absurd (hfv.trans hfu.symm) eb
      | some c =>
        rw [cv] at hfv
        have hfv : v = c := hfv
        have hm := List.mem_of_find?_eq_some cv
        have hp2 := List.find?_some cv
        have hp1 := List.find?_eq_none.mp cu c hm
        refine ⟨c, rw_ c hm, pivot c hm (by rw [hp2]; exact hp1), fun x hx hxx => ?_⟩
        rcases hxx with z | z
        · exact absurd (z.trans hfu) (tn x hx)
        · exact .inl (tl x hx c (rw_ c hm) (z.trans hfv))
    | some b =>
      rw [cu] at hfu
      have hfu : u = b := hfu
      have hmb := List.mem_of_find?_eq_some cu
      have hpb := List.find?_some cu
      obtain ⟨rb, erb⟩ := shp b hmb
      -- c, better than b, has turned
      have viaC : ∀ c ∈ g.row h, v = c → c ∈ better g b → hav (taken p l1 l2 l).heard h c = true → ∃ w ∈ g.ways, turns q w + 1 ≤ turns p w ∧ (∀ x ∈ g.ways, (x.tail = u ∨ x.tail = v) → (w ∈ aheadOf g x ∨ ∃ y ∈ aheadOf g x, y ∈ g.ways ∧ w ∈ aheadOf g y)) := fun c hm hfv z hp2 => by
        have hp1 := better_of_first erb cu c z
        refine ⟨c, rw_ c hm, pivot c hm (by rw [hp1, hp2]; simp), fun x hx hxx => ?_⟩
        rcases hxx with y | y
        · exact .inr ⟨b, tl x hx b (rw_ b hmb) (y.trans hfu), rw_ b hmb, better_ahead z⟩
        · exact .inl (tl x hx c (rw_ c hm) (y.trans hfv))
      by_cases c2 : hav (taken p l1 l2 l).heard h b = true
      · obtain ⟨c, hc, hcb⟩ := first_or k h1 h2 hmb c2
        rw [hc] at hfv
        have hfv : v = c := hfv
        rcases hcb with z | z
        · exact absurd (hfv.trans (z.trans hfu.symm)) eb
        · exact viaC c (List.mem_of_find?_eq_some hc) hfv z (List.find?_some hc)
      · have gone : turns q b + 1 ≤ turns p b := pivot b hmb (by rw [hpb]; exact fun z => c2 z.symm)
        cases cv : (g.row h).find? (hav (taken p l1 l2 l).heard h) with
        | none =>
          rw [cv] at hfv
          refine ⟨b, rw_ b hmb, gone, fun x hx hxx => ?_⟩
          rcases hxx with y | y
          · exact .inl (tl x hx b (rw_ b hmb) (y.trans hfu))
          · exact absurd (y.trans hfv) (tn x hx)
        | some c =>
          rw [cv] at hfv
          have hfv : v = c := hfv
          have hmc := List.mem_of_find?_eq_some cv
          rcases better_tri k h1 h2 hmb hmc (fun z => eb (hfv.trans (z.symm.trans hfu.symm))) with z | z
          · refine ⟨b, rw_ b hmb, gone, fun x hx hxx => ?_⟩
            rcases hxx with y | y
            · exact .inl (tl x hx b (rw_ b hmb) (y.trans hfu))
            · exact .inr ⟨c, tl x hx c (rw_ c hmc) (y.trans hfv), rw_ c hmc, better_ahead z⟩
          · exact viaC c hmc hfv z (List.find?_some cv)
  obtain ⟨w, hw, hturn, hbe⟩ := main
  obtain ⟨pre, post, eo⟩ := List.append_of_mem ((io.all w).mpr hw)
  have inw : ∀ x, x ∈ o → x ∈ g.ways := fun x hx => (io.all x).mp hx
  have notpre : ∀ x ∈ pre, turns q x ≤ turns p x := fun x hx => by
    have hxo : x ∈ o := by rw [eo]; exact List.mem_append_left _ hx
    have hxw := inw x hxo
    have nw : w ∉ pre := by
      have := io.nd
      rw [eo, List.nodup_append] at this
      intro z
      exact this.2.2 w z w (by simp) rfl
    by_cases c : x.tail = u ∨ x.tail = v
    · exfalso
      rcases hbe x hxw c with z | ⟨y, hy, hyw, z⟩
      · exact nw (io.before eo hxw z (.inl hx))
      · have hyp := io.before eo hxw hy (.inl hx)
        exact nw (io.before eo hyw z (.inl hyp))
    · exact le0 x hxw (fun z => c (.inl z)) (fun z => c (.inr z))
  unfold weight
  rw [eo]
  refine mu_lt (k := 8) (c := 5) ql (by omega) pre notpre hturn fun x hx => ?_
  exact le1 x (inw x (by rw [eo]; exact List.mem_append_right _ (List.mem_cons_of_mem _ hx)))
end Lk
end
section
set_option Elab.async false
set_option linter.all false
set_option maxRecDepth 100000
set_option maxHeartbeats 2000000
/-! The defs that ask whether a guild is one: they say yes to what is one. -/
namespace Lw
open PySem PySem.Spec PyProof.Rows L2
open Lk (Way Gd IsWay ltP)
theorem ifT {c : Bool} {A B : Prop} (h : c = true) (x : A) : if c = true then A else B := by rw [if_pos h]; exact x
theorem ifF {c : Bool} {A B : Prop} (h : c = false) (x : B) : if c = true then A else B := by rw [if_neg (by rw [h]; decide)]; exact x
theorem Im.b {K : PySem.W.Frag} {H : Hp} {c d : Bool} (h : c = d) : Im K H (.bl c) (eB d) := by rw [h]; exact .bl d
theorem Im.inT {K : PySem.W.Frag} {H : Hp} {p : Prop} {i j : Decidable p} : Im K H (.bl (if false = true then !(@decide p i) else @decide p i)) (eB (@decide p j)) := .b (by rw [if_neg (by decide)]; exact decide_eq_decide.mpr Iff.rfl)
theorem Im.blT {K : PySem.W.Frag} {H : Hp} {c : Bool} (h : c = true) : Im K H (.bl c) (eB true) := by rw [h]; exact .bl true
/-- a list of truths -/
theorem trues {K : PySem.W.Frag} {H : Hp} {v : V} {ds : List PyData} (h : Im K H v (.list ds)) (ht : ∀ d ∈ ds, d = .bool true) : ∃ (a : Addr) (bs : List Bool), v = .ref a ∧ SqL K H a (bs.map V.bl) ∧ bs.all id = true := by
  obtain ⟨a, xs, rfl, h1, h2⟩ := h.lst_inv
  refine ⟨a, List.replicate ds.length true, rfl, ?_, by simp⟩
  have key : ∀ {xs : List V} {ds : List PyData}, ImAll K H xs ds → (∀ d ∈ ds, d = .bool true) → xs = (List.replicate ds.length true).map V.bl := fun {xs ds} h => by
    induction ds generalizing xs with
    | nil => intro _; cases h; rfl
    | cons d ds ih =>
      intro ht
      cases h with
      | cons h t =>
        rw [ht d List.mem_cons_self] at h
        cases h
        rw [ih t fun d hd => ht d (List.mem_cons_of_mem _ hd)]
        rfl
  rw [← key h2 ht]
  exact SqL.of h1
section
variable {P : Program} {w : World} {K : PySem.W.Frag} {mg : Str → Option Value} {base : Heap}
theorem sc_is_number : FnScope ["thing", "least", "most"] ["thing", "least", "most"] (defScope s_is_number) := ⟨rfl, rfl, rfl, by decide +kernel, rfl, by decide +kernel, by decide +kernel⟩
abbrev S_is_number (P : Program) (w : World) (K : PySem.W.Frag) : Sp := Sp3 K eI eI eI eB (fun t l m => l ≤ t ∧ t ≤ m) (fun _ _ _ => true)
theorem w_is_number (B : Bi mg) (D : Df K mg "is_number" s_is_number) : Has P w K mg base 1 "is_number" ["thing", "least", "most"] (S_is_number P w K) := by
  refine D.has sc_is_number (fun vs H Q E h => ?_) (fun _ _ _ _ _ _ us hl => match us, hl with | [_, _, _], _ => rfl) (fun f cdv A outer s H vs Q E hr h => ?_)
  rotate_left
  have nd := sc_is_number.nd
  have hu := hr.units
  have hu0 := hr.units0
  have hu1 := hu_of hr
  refine ⟨_, (pss_one (ps_ret (pe_and (pe_callB call_isiD (by rfl) B.isinstance (by decide +kernel) (pa_cons (pv 0) (pa_cons (pe_bltn (by rfl) B.int (by decide +kernel) (show RelV (.ty "int") (.type "int") from rfl)) pa_nil))) (pe_and (pe_not (pe_callB call_isiD (by rfl) B.isinstance (by decide +kernel) (pa_cons (pv 0) (pa_cons (pe_bltn (by rfl) B.bool (by decide +kernel) (show RelV (.ty "bool") (.type "bool") from rfl)) pa_nil)))) (pe_one (pe_chain op_le op_le (pv 1) (pv 0) (pv 2))))))), ?_⟩
  rotate_left
  · obtain ⟨_, _, _, _, _, _, rfl, _⟩ := h
    rfl
  · obtain ⟨_, _, _, t, l, m, rfl, h1, h2, h3, ⟨a1, a2⟩, q⟩ := h
    cases h1; cases h2; cases h3
    refine ⟨_, rfl, _, _, _, rfl, .int t, .inl rfl, .inl ⟨t, rfl⟩, _, rfl, iteT ?_⟩
    refine ⟨_, rfl, _, _, _, rfl, .int t, .inr (.inl rfl), .inl ⟨t, rfl⟩, _, rfl, _, rfl, iteT ?_⟩
    exact ⟨_, rfl, _, rfl, _, _, rfl, rfl, _, rfl, ifT (decide_eq_true a1) ⟨_, rfl, _, _, rfl, rfl, q _ _ (Same.refl H) (.blT (decide_eq_true a2))⟩⟩
theorem sc_is_pair : FnScope ["thing", "many"] ["thing", "many"] (defScope s_is_pair) := ⟨rfl, rfl, rfl, by decide +kernel, rfl, by decide +kernel, by decide +kernel⟩
abbrev S_is_pair (P : Program) (w : World) (K : PySem.W.Frag) : Sp := Sp2 K eRd eI eB (fun p m => (0 ≤ p.1 ∧ p.1 ≤ m - 1) ∧ 0 ≤ p.2 ∧ p.2 ≤ m - 1) (fun _ _ => true)
theorem w_is_pair (B : Bi mg) (D : Df K mg "is_pair" s_is_pair) (his_number : Has P w K mg base 1 "is_number" ["thing", "least", "most"] (S_is_number P w K)) : Has P w K mg base 2 "is_pair" ["thing", "many"] (S_is_pair P w K) := by
  refine D.has sc_is_pair (fun vs H Q E h => ?_) (fun _ _ _ _ _ _ us hl => match us, hl with | [_, _], _ => rfl) (fun f cdv A outer s H vs Q E hr h => ?_)
  rotate_left
  have nd := sc_is_pair.nd
  have hu := hr.units
  have hu0 := hr.units0
  have hu1 := hu_of hr
  refine ⟨_, (pss_cons (ps_if (PW.pt (pw_or (pt_not (pt_val (pe_callB call_isiD (by rfl) B.isinstance (by decide +kernel) (pa_cons (pv 0) (pa_cons (pe_bltn (by rfl) B.tuple (by decide +kernel) (show RelV (.ty "tuple") (.type "tuple") from rfl)) pa_nil))))) (pw_or1 (pt_cmpR op_ne (pe_callB call_lenD (by rfl) B.len (by decide +kernel) (pa_cons (pv 0) pa_nil)) pe_int (nomark _))))) (pss_one (ps_ret pe_bl)) pss_nil) (pss_one (ps_ret (pe_and (pe_has his_number hr (by decide) (pa_cons (pe_ix ix_D (pv 0) pe_int (fun _ _ => rfl)) (pa_cons pe_int (pa_cons (pe_op op_sub (pv 1) pe_int) pa_nil)))) (pe_one (pe_has his_number hr (by decide) (pa_cons (pe_ix ix_D (pv 0) pe_int (fun _ _ => rfl)) (pa_cons pe_int (pa_cons (pe_op op_sub (pv 1) pe_int) pa_nil))))))))), ?_⟩
  rotate_left
  · obtain ⟨_, _, _, _, rfl, _⟩ := h
    rfl
  · obtain ⟨v, _, ⟨a, b⟩, m, rfl, h1, h2, ⟨a1, a2⟩, q⟩ := h
    cases h2
    refine ⟨_, rfl, _, _, _, rfl, h1, .inr (.inr rfl), .inr ⟨_, rfl⟩, _, rfl, iteF ?_⟩
    refine ⟨_, rfl, _, _, rfl, .inl h1, rfl, _, rfl, ifF (by simp) ?_⟩
    refine ⟨_, rfl, _, 0, .int a, .inl h1, rfl, rfl, fun v' hv => ?_⟩
    cases hv
    refine ⟨_, rfl, _, _, rfl, rfl, _, _, _, _, _, _, rfl, .int a, .int 0, .int (m - 1), a1, fun r H1 s1 i1 => ?_⟩
    cases i1
    refine ⟨_, rfl, iteT ⟨_, rfl, _, 1, .int b, .inl (h1.same s1), rfl, rfl, fun v' hv => ?_⟩⟩
    cases hv
    exact ⟨_, rfl, _, _, rfl, rfl, _, _, _, _, _, _, rfl, .int b, .int 0, .int (m - 1), a2, fun r H2 s2 i2 => q _ _ (s1.trans s2) i2⟩
/-! ### roads -/
abbrev eRs : List (Int × Int) → PyData := eT eRd
theorem ltP_iff (p q : Int × Int) : ([p.1, p.2] : List Int) < [q.1, q.2] ↔ ltP p q := by
  unfold ltP
  simp [List.cons_lt_cons_iff]
theorem eRd_W (p : Int × Int) : eRd p = eW [p.1, p.2] := rfl
theorem mem_zip_drop {α : Type} {l : List α} {a b : α} (h : (a, b) ∈ l.zip (l.drop 1)) : ∃ i, l[i]? = some a ∧ l[i + 1]? = some b := by
  obtain ⟨i, hi⟩ := List.getElem?_of_mem h
  rw [List.getElem?_zip_eq_some] at hi
  exact ⟨i, hi.1, by have := hi.2; rwa [List.getElem?_drop, Nat.add_comm] at this⟩
theorem pair_step {α : Type} {R : α → α → Prop} {l : List α} (h : l.Pairwise R) {i : Nat} {a b : α} (h1 : l[i]? = some a) (h2 : l[i + 1]? = some b) : R a b := by
  obtain ⟨a1, rfl⟩ := List.getElem?_eq_some_iff.mp h1
  obtain ⟨a2, rfl⟩ := List.getElem?_eq_some_iff.mp h2
  exact List.pairwise_iff_getElem.mp h i (i + 1) a1 a2 (by omega)
theorem cut1 {ds : List PyData} : cutD ds (some 1) none = ds.drop 1 := cutD_from ds 1
theorem zip_map {α : Type} (f : α → PyData) (l m : List α) {d e : PyData} (h : (d, e) ∈ (l.map f).zip (m.map f)) : ∃ a b, d = f a ∧ e = f b ∧ (a, b) ∈ l.zip m := by
  rw [List.zip_map] at h
  obtain ⟨⟨a, b⟩, hm, e⟩ := List.mem_map.mp h
  cases e
  exact ⟨a, b, rfl, rfl, hm⟩
theorem sc_is_rising : FnScope ["row", "one", "other"] ["row"] (defScope s_is_rising) := ⟨rfl, rfl, rfl, by decide +kernel, rfl, by decide +kernel, by decide +kernel⟩
abbrev S_is_rising (P : Program) (w : World) (K : PySem.W.Frag) : Sp := Sp1 K eRs eB (fun rs => rs.Pairwise ltP ∧ rs.length ≤ 1000) (fun _ => true)
theorem w_is_rising (B : Bi mg) (D : Df K mg "is_rising" s_is_rising) : Has P w K mg base 1 "is_rising" ["row"] (S_is_rising P w K) := by
  refine D.has sc_is_rising (fun vs H Q E h => ?_) (fun _ _ _ _ _ _ us hl => match us, hl with | [_], _ => rfl) (fun f cdv A outer s H vs Q E hr h => ?_)
  rotate_left
  have nd := sc_is_rising.nd
  have hu := hr.units
  have hu0 := hr.units0
  have hu1 := hu_of hr
  refine ⟨_, (pss_one (ps_ret (pe_callB (cr_all rfl) (by rfl) B.all (by decide +kernel) (pa_cons (pe_lc (g := (gTup K 2 (gCons (gName 1) (gCons (gName 2) gNil)))) (tt := tYes) (te := (tOp (rLtW K) (tVar 1) (tVar 2))) rfl nd (RZ.pi_zipA (by rfl) B.zip (pa_cons (pv 0) (pa_cons (pe_slice sl_D (pv 0) (po_some pe_int) po_none) pa_nil))) (blkOk_by (own := [("one", 1), ("other", 2)]) (by rfl)) (fun _ _ _ _ _ => (pg_tup (by rfl) (pgs_cons (pg_name (i := 1) nd rfl (Or.inl rfl)) (pgs_cons (pg_name (i := 2) nd rfl (Or.inl rfl)) pgs_nil)))) (fun _ _ _ _ _ => pts_nil) (fun _ _ _ _ _ => (pe_cmpR (op_ltW hu0) (pv 1) (pv 2) (nomark _)))) pa_nil)))), ?_⟩
  rotate_left
  · obtain ⟨_, _, rfl, _⟩ := h
    rfl
  · obtain ⟨v, rs, rfl, h1, ⟨hp, hl⟩, q⟩ := h
    refine ⟨_, rfl, _, rfl, _, rfl, .inl ⟨_, h1, fun v2 H2 s2 i2 => ?_⟩⟩
    rw [cut1, ← List.map_drop] at i2
    refine lc_Z (h1.same s2) i2 (by rw [List.length_map]; exact small_line (by omega)) (fun _ _ => some (.bool true)) (fun N d e u y T H' QT QF hm s3 hN hu hy hT kT kF => ?_) (fun p H3 s3 hp3 i3 => ?_)
    · obtain ⟨a, b, rfl, rfl, hz⟩ := zip_map eRd _ _ hm
      obtain ⟨i, e1, e2⟩ := mem_zip_drop hz
      refine ⟨T, _, rfl, SqT.of hT, rfl, _, _, rfl, _, _, rfl, rfl, rfl, _, rfl, _, rfl, [a.1, a.2], [b.1, b.2], hu, hy, ?_⟩
      refine kT _ _ _ rfl (Same.refl _) (Im.stb ?_ rfl)
      rw [decide_eq_true ((ltP_iff a b).mpr (pair_step hp e1 e2))]
      exact .bl true
    · obtain ⟨a, bs, e, hs, hb⟩ := trues i3 fun d hd => by
        obtain ⟨x, _, hx⟩ := List.mem_filterMap.mp hd
        exact (Option.some.inj hx).symm
      refine ⟨a, bs, by rw [e], hs, ?_⟩
      rw [hb]
      exact q _ _ (s2.trans s3) (.bl true)
theorem all_mem {α : Type} {e : α → PyData} {l : List α} {d : PyData} (h : d ∈ l.map e) : ∃ a ∈ l, d = e a := by
  obtain ⟨a, ha, q⟩ := List.mem_map.mp h
  exact ⟨a, ha, q.symm⟩
theorem sc_are_roads : FnScope ["thing", "many", "road"] ["thing", "many"] (defScope s_are_roads) := ⟨rfl, rfl, rfl, by decide +kernel, rfl, by decide +kernel, by decide +kernel⟩
abbrev S_are_roads (P : Program) (w : World) (K : PySem.W.Frag) : Sp := Sp2 K eRs eI eB (fun rs m => (∀ p ∈ rs, 0 ≤ p.1 ∧ p.1 < p.2 ∧ p.2 < m) ∧ rs.Pairwise ltP ∧ rs.length ≤ 1000) (fun _ _ => true)
theorem w_are_roads (B : Bi mg) (D : Df K mg "are_roads" s_are_roads) (his_pair : Has P w K mg base 2 "is_pair" ["thing", "many"] (S_is_pair P w K)) (his_rising : Has P w K mg base 1 "is_rising" ["row"] (S_is_rising P w K)) :
    Has P w K mg base 3 "are_roads" ["thing", "many"] (S_are_roads P w K) := by
  refine D.has sc_are_roads (fun vs H Q E h => ?_) (fun _ _ _ _ _ _ us hl => match us, hl with | [_, _], _ => rfl) (fun f cdv A outer s H vs Q E hr h => ?_)
  rotate_left
  have nd := sc_are_roads.nd
  have hu := hr.units
  have hu0 := hr.units0
  have hu1 := hu_of hr
  refine ⟨_, (pss_cons (ps_if (pt_not (pt_val (pe_callB call_isiD (by rfl) B.isinstance (by decide +kernel) (pa_cons (pv 0) (pa_cons (pe_bltn (by rfl) B.tuple (by decide +kernel) (show RelV (.ty "tuple") (.type "tuple") from rfl)) pa_nil))))) (pss_one (ps_ret pe_bl)) pss_nil) (pss_one (ps_ret (pe_and (pe_callB (cr_all rfl) (by rfl) B.all (by decide +kernel) (pa_cons (pe_lc (g := (gName 2)) (tt := tYes) (te := (tAndV (tCall (S_is_pair P w K) [] E0 (tCons (tVar 2) (tCons (tVar 1) tNil))) (tOp (rI0 fun i j => .bl (decide (i < j))) (tOp (rIxD K) (tVar 2) (tC (.int 0))) (tOp (rIxD K) (tVar 2) (tC (.int 1)))))) rfl nd (pi_seq (pv 0)) (blkOk_by (own := [("road", 2)]) (by rfl)) (fun _ _ _ _ _ => (pg_name (i := 2) nd rfl (Or.inl rfl))) (fun _ _ _ _ _ => pts_nil) (fun _ _ _ _ _ => (pe_and (pe_has his_pair hr (by decide) (pa_cons (pv 2) (pa_cons (pv 1) pa_nil))) (pe_one (pe_cmpR op_lt (pe_ix ix_D (pv 2) pe_int (fun _ _ => rfl)) (pe_ix ix_D (pv 2) pe_int (fun _ _ => rfl)) (nomark _)))))) pa_nil)) (pe_one (pe_has his_rising hr (by decide) (pa_cons (pv 0) pa_nil))))))), ?_⟩
  rotate_left
  · obtain ⟨_, _, _, _, rfl, _⟩ := h
    rfl
  · obtain ⟨v, _, rs, m, rfl, h1, h2, ⟨a1, a2, a3⟩, q⟩ := h
    cases h2
    refine ⟨_, rfl, _, _, _, rfl, h1, .inr (.inr rfl), .inr ⟨_, rfl⟩, _, rfl, iteF ?_⟩
    refine ⟨_, rfl, lc_D (.inl h1) (by rw [List.length_map]; exact small_line (by omega)) (fun _ => some (.bool true)) (fun N d u H' QT QF hd s1 hN hu kT kF => ?_) (fun p H1 s1 hp i1 => ?_)⟩
    · obtain ⟨r, hr', rfl⟩ := all_mem hd
      obtain ⟨b1, b2, b3⟩ := a1 r hr'
      refine ⟨rfl, _, rfl, _, rfl, _, _, r, m, rfl, hu, .int m, ⟨by omega, by omega⟩, fun t H2 s2 i2 => ?_⟩
      cases i2
      have hu2 := hu.same s2
      refine ⟨_, rfl, iteT ⟨_, rfl, _, 0, .int r.1, .inl hu2, rfl, rfl, fun x hx => ?_⟩⟩
      cases hx
      refine ⟨_, rfl, _, 1, .int r.2, .inl hu2, rfl, rfl, fun x hx => ?_⟩
      cases hx
      exact ⟨_, _, rfl, rfl, kT _ _ _ rfl s2 (Im.stb (.blT (decide_eq_true b2)) rfl)⟩
    · obtain ⟨a, bs, e, hs, hb⟩ := trues i1 fun d hd => by
        obtain ⟨x, _, hx⟩ := List.mem_filterMap.mp hd
        exact (Option.some.inj hx).symm
      cases e
      refine ⟨_, bs, rfl, hs, _, rfl, ifT hb ?_⟩
      exact ⟨_, rfl, _, rs, rfl, h1.same s1, ⟨a2, a3⟩, fun t H2 s2 i2 => q _ _ (s1.trans s2) i2⟩
theorem sc_joined : FnScope ["roads", "one", "other"] ["roads", "one", "other"] (defScope s_joined) := ⟨rfl, rfl, rfl, by decide +kernel, rfl, by decide +kernel, by decide +kernel⟩
abbrev S_joined (P : Program) (w : World) (K : PySem.W.Frag) : Sp := Sp3 K eRs eI eI eB (fun _ _ _ => True) Lk.joined
theorem w_joined (B : Bi mg) (D : Df K mg "joined" s_joined) : Has P w K mg base 1 "joined" ["roads", "one", "other"] (S_joined P w K) := by
  refine D.has sc_joined (fun vs H Q E h => ?_) (fun _ _ _ _ _ _ us hl => match us, hl with | [_, _, _], _ => rfl) (fun f cdv A outer s H vs Q E hr h => ?_)
  rotate_left
  have nd := sc_joined.nd
  have hu := hr.units
  have hu0 := hr.units0
  have hu1 := hu_of hr
  refine ⟨_, (pss_one (ps_ret (pe_cmpR (op_inE hu) (pe_tupD (pa_cons (pe_callB (call_minI rfl) (by rfl) B.min (by decide +kernel) (pa_cons (pv 1) (pa_cons (pv 2) pa_nil))) (pa_cons (pe_callB (call_maxI rfl) (by rfl) B.max (by decide +kernel) (pa_cons (pv 1) (pa_cons (pv 2) pa_nil))) pa_nil))) (pv 0) (by rfl)))), ?_⟩
  rotate_left
  · obtain ⟨_, _, _, _, _, _, rfl, _⟩ := h
    rfl
  · obtain ⟨v, _, _, rs, a, b, rfl, h1, h2, h3, _, q⟩ := h
    cases h2; cases h3
    refine ⟨_, rfl, _, rfl, _, _, rfl, _, rfl, _, rfl, _, _, rfl, by simp, _, .cons (.int _) (.cons (.int _) .nil), fun p H1 s1 hp i1 => ?_⟩
    exact ⟨_, rfl, _, _, eRd, 1, (min a b, max a b), rs, enc_Rd, by decide, i1, .inl (h1.same s1), q _ _ s1 .inT⟩
/-! ### ways -/
theorem sc_is_way : FnScope ["thing", "house", "many", "roads", "step", "one", "other"] ["thing", "house", "many", "roads"] (defScope s_is_way) := ⟨rfl, rfl, rfl, by decide +kernel, rfl, by decide +kernel, by decide +kernel⟩
abbrev S_is_way (P : Program) (w : World) (K : PySem.W.Frag) : Sp := Sp4 K eW eI eI eRs eB (fun u h m rs => ∃ n : Nat, m = n ∧ n ≤ 100 ∧ IsWay n rs h u) (fun _ _ _ _ => true)
theorem w_is_way (B : Bi mg) (D : Df K mg "is_way" s_is_way) (his_number : Has P w K mg base 1 "is_number" ["thing", "least", "most"] (S_is_number P w K)) (hjoined : Has P w K mg base 1 "joined" ["roads", "one", "other"] (S_joined P w K)) :
    Has P w K mg base 2 "is_way" ["thing", "house", "many", "roads"] (S_is_way P w K) := by
  refine D.has sc_is_way (fun vs H Q E h => ?_) (fun _ _ _ _ _ _ us hl => match us, hl with | [_, _, _, _], _ => rfl) (fun f cdv A outer s H vs Q E hr h => ?_)
  rotate_left
  have nd := sc_is_way.nd
  have hu := hr.units
  have hu0 := hr.units0
  have hu1 := hu_of hr
  refine ⟨_, (pss_cons (ps_if (PW.pt (pw_or (pt_not (pt_val (pe_callB call_isiD (by rfl) B.isinstance (by decide +kernel) (pa_cons (pv 0) (pa_cons (pe_bltn (by rfl) B.tuple (by decide +kernel) (show RelV (.ty "tuple") (.type "tuple") from rfl)) pa_nil))))) (pw_or1 (pt_not (pt_chain op_le op_le pe_int (pe_callB call_lenD (by rfl) B.len (by decide +kernel) (pa_cons (pv 0) pa_nil)) (pv 2)))))) (pss_one (ps_ret pe_bl)) pss_nil) (pss_cons (ps_if (pt_not (pt_val (pe_callB (cr_all rfl) (by rfl) B.all (by decide +kernel) (pa_cons (pe_lc (g := (gName 4)) (tt := tYes) (te := (tCall (S_is_number P w K) [] E0 (tCons (tVar 4) (tCons (tC (.int 0)) (tCons (tOp (rI0 fun i j => .int (i - j)) (tVar 2) (tC (.int 1))) tNil))))) rfl nd (pi_seq (pv 0)) (blkOk_by (own := [("step", 4)]) (by rfl)) (fun _ _ _ _ _ => (pg_name (i := 4) nd rfl (Or.inl rfl))) (fun _ _ _ _ _ => pts_nil) (fun _ _ _ _ _ => (pe_has his_number hr (by decide) (pa_cons (pv 4) (pa_cons pe_int (pa_cons (pe_op op_sub (pv 2) pe_int) pa_nil)))))) pa_nil)))) (pss_one (ps_ret pe_bl)) pss_nil) (pss_cons (ps_if (PW.pt (pw_or (pt_cmpR op_ne (pe_ix ix_D (pv 0) pe_int (fun _ _ => rfl)) (pv 1) (nomark _)) (pw_or (pt_cmpR op_ne (pe_ix ix_D (pv 0) (pe_un un_neg pe_int) (fun _ _ => rfl)) pe_int (nomark _)) (pw_or1 (pt_cmpR op_ne (pe_lenSetD rfl hu (by rfl) B.len (by rfl) B.set (pv 0)) (pe_callB call_lenD (by rfl) B.len (by decide +kernel) (pa_cons (pv 0) pa_nil)) (nomark _)))))) (pss_one (ps_ret pe_bl)) pss_nil) (pss_one (ps_ret (pe_callB (cr_all rfl) (by rfl) B.all (by decide +kernel) (pa_cons (pe_lc (g := (gTup K 2 (gCons (gName 5) (gCons (gName 6) gNil)))) (tt := tYes) (te := (tCall (S_joined P w K) [] E0 (tCons (tVar 3) (tCons (tVar 5) (tCons (tVar 6) tNil))))) rfl nd (RZ.pi_zipA (by rfl) B.zip (pa_cons (pv 0) (pa_cons (pe_slice sl_D (pv 0) (po_some pe_int) po_none) pa_nil))) (blkOk_by (own := [("one", 5), ("other", 6)]) (by rfl)) (fun _ _ _ _ _ => (pg_tup (by rfl) (pgs_cons (pg_name (i := 5) nd rfl (Or.inl rfl)) (pgs_cons (pg_name (i := 6) nd rfl (Or.inl rfl)) pgs_nil)))) (fun _ _ _ _ _ => pts_nil) (fun _ _ _ _ _ => (pe_has hjoined hr (by decide) (pa_cons (pv 3) (pa_cons (pv 5) (pa_cons (pv 6) pa_nil)))))) pa_nil))))))), ?_⟩
  rotate_left
  · obtain ⟨_, _, _, _, _, _, _, _, rfl, _⟩ := h
    rfl
  · obtain ⟨v, _, _, vr, u, a, m, rs, rfl, h1, h2, h3, h4, ⟨n, rfl, hn, ok⟩, q⟩ := h
    cases h2; cases h3
    have hlo := ok.lo
    have hhi := ok.hi
    have hlen : (u.map PyData.int).length = u.length := List.length_map _
    obtain ⟨b, r, hsh⟩ := ok.shape
    refine ⟨_, rfl, _, _, _, rfl, h1, .inr (.inr rfl), .inr ⟨_, rfl⟩, _, rfl, iteF ?_⟩
    refine ⟨_, rfl, _, _, rfl, .inl h1, _, _, rfl, rfl, _, rfl, ifT (decide_eq_true (by rw [hlen]; omega)) ⟨_, rfl, _, _, rfl, rfl, _, rfl, ?_⟩⟩
    rw [decide_eq_true (show ((u.map eI).length : Int) ≤ (n : Int) by rw [show (u.map eI).length = u.length from List.length_map _]; omega)]
    refine iteF ?_
    refine ⟨_, rfl, lc_D (.inl h1) (by rw [List.length_map]; exact small_line (by omega)) (fun _ => some (.bool true)) (fun N d x H' QT QF hd s1 hN hx kT kF => ?_) (fun p H1 s1 hp i1 => ?_)⟩
    · obtain ⟨y, hy, rfl⟩ := all_mem hd
      obtain ⟨b1, b2⟩ := ok.rng y hy
      exact ⟨rfl, _, rfl, _, rfl, _, _, rfl, rfl, _, _, _, y, 0, (n : Int) - 1, rfl, hx, .int 0, .int _, ⟨b1, by omega⟩, fun t H2 s2 i2 => kT _ _ _ rfl s2 (i2.stb rfl)⟩
    obtain ⟨c, bs, e, hs, hb⟩ := trues i1 fun d hd => by
      obtain ⟨x, _, hx⟩ := List.mem_filterMap.mp hd
      exact (Option.some.inj hx).symm
    cases e
    refine ⟨_, bs, rfl, hs, _, rfl, ?_⟩
    rw [hb]
    have h1' := h1.same s1
    have e0 : atI (u.map eI) 0 = some (.int a) := atI_map (f := eI) (atI_nn (by decide) (by rw [hsh]; rfl))
    have el : atI (u.map eI) (-1) = some (.int 0) := atI_map (f := eI) (atI_neg1 ok.lst)
    refine iteF ⟨_, rfl, _, 0, _, .inl h1', rfl, e0, fun x hx => ?_⟩
    cases hx
    refine ⟨_, rfl, rfl, _, rfl, ifF (by simp) ⟨_, rfl, _, rfl, _, (-1 : Int), _, .inl h1', rfl, el, fun x hx => ?_⟩⟩
    cases hx
    refine ⟨rfl, _, rfl, ifF (by simp) ⟨_, rfl, .inl ⟨u, h1', ok.nd, by omega, _, rfl, _, _, rfl, .inl h1', rfl, _, rfl, ?_⟩⟩⟩
    refine ifF (by rw [show (u.map eI).length = u.length from List.length_map _]; simp) ?_
    refine ⟨_, rfl, _, rfl, _, rfl, .inl ⟨_, h1', fun v2 H2 s2 i2 => ?_⟩⟩
    rw [cut1, ← List.map_drop] at i2
    refine lc_Z (h1'.same s2) i2 (by rw [List.length_map]; exact small_line (by omega)) (fun _ _ => some (.bool true)) (fun N d e x y T H' QT QF hm s3 hN hx hy hT kT kF => ?_) (fun p H3 s3 hp3 i3 => ?_)
    · obtain ⟨x1, y1, rfl, rfl, hz⟩ := zip_map eI _ _ hm
      rw [List.drop_one] at hz
      have hj := ok.jn _ hz
      have h4' := ((h4.same s1).same s2).same s3
      exact ⟨T, _, rfl, SqT.of hT, rfl, _, _, rfl, _, _, rfl, rfl, rfl, _, rfl, _, rfl, _, rfl, _, _, _, rs, x1, y1, rfl, h4', hx, hy, True.intro, fun t H5 s5 i5 => kT _ _ _ rfl s5 (by rw [hj] at i5; exact i5.stb rfl)⟩
    · obtain ⟨c, bs, e, hs, hb⟩ := trues i3 fun d hd => by
        obtain ⟨x, _, hx⟩ := List.mem_filterMap.mp hd
        exact (Option.some.inj hx).symm
      cases e
      refine ⟨_, bs, rfl, hs, ?_⟩
      rw [hb]
      exact q _ _ ((s1.trans s2).trans s3) (.bl true)
/-! ### likes, the guild -/
abbrev eWs : List (List Int) → PyData := eT eW
theorem sc_are_liked : FnScope ["thing", "house", "many", "roads", "way"] ["thing", "house", "many", "roads"] (defScope s_are_liked) := ⟨rfl, rfl, rfl, by decide +kernel, rfl, by decide +kernel, by decide +kernel⟩
abbrev S_are_liked (P : Program) (w : World) (K : PySem.W.Frag) : Sp := Sp4 K eWs eI eI eRs eB (fun us h m rs => us.Nodup ∧ us.length ≤ 6 ∧ ∃ n : Nat, m = n ∧ n ≤ 100 ∧ ∀ u ∈ us, IsWay n rs h u) (fun _ _ _ _ => true)
theorem w_are_liked (B : Bi mg) (C : Cs mg) (D : Df K mg "are_liked" s_are_liked) (his_way : Has P w K mg base 2 "is_way" ["thing", "house", "many", "roads"] (S_is_way P w K)) :
    Has P w K mg base 3 "are_liked" ["thing", "house", "many", "roads"] (S_are_liked P w K) := by
  refine D.has sc_are_liked (fun vs H Q E h => ?_) (fun _ _ _ _ _ _ us hl => match us, hl with | [_, _, _, _], _ => rfl) (fun f cdv A outer s H vs Q E hr h => ?_)
  rotate_left
  have nd := sc_are_liked.nd
  have hu := hr.units
  have hu0 := hr.units0
  have hu1 := hu_of hr
  refine ⟨_, (pss_cons (ps_if (PW.pt (pw_or (pt_not (pt_val (pe_callB call_isiD (by rfl) B.isinstance (by decide +kernel) (pa_cons (pv 0) (pa_cons (pe_bltn (by rfl) B.tuple (by decide +kernel) (show RelV (.ty "tuple") (.type "tuple") from rfl)) pa_nil))))) (pw_or1 (pt_cmpR op_gt (pe_callB call_lenD (by rfl) B.len (by decide +kernel) (pa_cons (pv 0) pa_nil)) (pe_glob (v := .int 6) (by rfl) C.LIKED ⟨_, rfl⟩) (nomark _))))) (pss_one (ps_ret pe_bl)) pss_nil) (pss_one (ps_ret (pe_and (pe_callB (cr_all rfl) (by rfl) B.all (by decide +kernel) (pa_cons (pe_lc (g := (gName 4)) (tt := tYes) (te := (tCall (S_is_way P w K) [] E0 (tCons (tVar 4) (tCons (tVar 1) (tCons (tVar 2) (tCons (tVar 3) tNil)))))) rfl nd (pi_seq (pv 0)) (blkOk_by (own := [("way", 4)]) (by rfl)) (fun _ _ _ _ _ => (pg_name (i := 4) nd rfl (Or.inl rfl))) (fun _ _ _ _ _ => pts_nil) (fun _ _ _ _ _ => (pe_has his_way hr (by decide) (pa_cons (pv 4) (pa_cons (pv 1) (pa_cons (pv 2) (pa_cons (pv 3) pa_nil))))))) pa_nil)) (pe_one (pe_cmpR op_eq (pe_lenSetD rfl hu (by rfl) B.len (by rfl) B.set (pv 0)) (pe_callB call_lenD (by rfl) B.len (by decide +kernel) (pa_cons (pv 0) pa_nil)) (nomark _))))))), ?_⟩
  rotate_left
  · obtain ⟨_, _, _, _, _, _, _, _, rfl, _⟩ := h
    rfl
  · obtain ⟨v, _, _, vr, us, a, m, rs, rfl, h1, h2, h3, h4, ⟨nd1, hl, n, rfl, hn, ok⟩, q⟩ := h
    cases h2; cases h3
    have hlen : (us.map eW).length = us.length := List.length_map _
    refine ⟨_, rfl, _, _, _, rfl, h1, .inr (.inr rfl), .inr ⟨_, rfl⟩, _, rfl, iteF ?_⟩
    refine ⟨_, rfl, _, _, rfl, .inl h1, _, _, rfl, rfl, _, rfl, ifF (decide_eq_false (by rw [hlen]; omega)) ?_⟩
    refine ⟨_, rfl, lc_D (.inl h1) (by rw [List.length_map]; exact small_line (by omega)) (fun _ => some (.bool true)) (fun N d x H' QT QF hd s1 hN hx kT kF => ?_) (fun p H1 s1 hp i1 => ?_)⟩
    · obtain ⟨y, hy, rfl⟩ := all_mem hd
      exact ⟨rfl, _, rfl, _, rfl, _, rfl, _, rfl, _, _, _, _, y, a, (n : Int), rs, rfl, hx, .int _, .int _, h4.same s1, ⟨n, rfl, hn, ok y hy⟩, fun t H2 s2 i2 => kT _ _ _ rfl s2 (i2.stb rfl)⟩
    obtain ⟨c, bs, e, hs, hb⟩ := trues i1 fun d hd => by
      obtain ⟨x, _, hx⟩ := List.mem_filterMap.mp hd
      exact (Option.some.inj hx).symm
    cases e
    refine ⟨_, bs, rfl, hs, _, rfl, ifT hb ?_⟩
    refine ⟨_, rfl, .inr ⟨us, h1.same s1, nd1, by omega, _, rfl, _, _, rfl, .inl (h1.same s1), rfl, ?_⟩⟩
    exact q _ _ s1 (.blT (decide_eq_true (by rw [hlen])))
def eG (g : Gd) : PyData := .tuple [.int g.many, eRs g.roads, eT eWs g.likes]
theorem sc_is_guild : FnScope ["thing", "many", "roads", "likes", "at", "row"] ["thing"] (defScope s_is_guild) := ⟨rfl, rfl, rfl, by decide +kernel, rfl, by decide +kernel, by decide +kernel⟩
abbrev S_is_guild (P : Program) (w : World) (K : PySem.W.Frag) : Sp := Sp1 K eG eB Gd.Ok (fun _ => true)
theorem rds_len {g : Gd} (ok : g.Ok) : g.roads.length ≤ 1000 := by
  have h := Lk.house_count (n := 36) (os := g.roads.map fun p => p.1 * 6 + p.2) ?_ ?_
  · rw [List.length_map] at h; omega
  · rw [List.nodup_iff_pairwise_ne, List.pairwise_map]
    refine List.Pairwise.imp_of_mem (fun {p q} hp hq l => ?_) ok.ris
    have h1 := ok.rds p hp
    have h2 := ok.rds q hq
    have h3 := ok.hi
    unfold ltP at l
    omega
  · intro x hx
    obtain ⟨p, hp, rfl⟩ := List.mem_map.mp hx
    have h1 := ok.rds p hp
    have h3 := ok.hi
    omega
theorem w_is_guild (B : Bi mg) (C : Cs mg) (D : Df K mg "is_guild" s_is_guild) (his_number : Has P w K mg base 1 "is_number" ["thing", "least", "most"] (S_is_number P w K)) (hare_roads : Has P w K mg base 3 "are_roads" ["thing", "many"] (S_are_roads P w K))
    (hare_liked : Has P w K mg base 3 "are_liked" ["thing", "house", "many", "roads"] (S_are_liked P w K)) : Has P w K mg base 4 "is_guild" ["thing"] (S_is_guild P w K) := by
  refine D.has sc_is_guild (fun vs H Q E h => ?_) (fun _ _ _ _ _ _ us hl => match us, hl with | [_], _ => rfl) (fun f cdv A outer s H vs Q E hr h => ?_)
  rotate_left
  have nd := sc_is_guild.nd
  have hu := hr.units
  have hu0 := hr.units0
  have hu1 := hu_of hr
  refine ⟨_, (pss_cons (ps_if (PW.pt (pw_or (pt_not (pt_val (pe_callB call_isiD (by rfl) B.isinstance (by decide +kernel) (pa_cons (pv 0) (pa_cons (pe_bltn (by rfl) B.tuple (by decide +kernel) (show RelV (.ty "tuple") (.type "tuple") from rfl)) pa_nil))))) (pw_or1 (pt_cmpR op_ne (pe_callB call_lenD (by rfl) B.len (by decide +kernel) (pa_cons (pv 0) pa_nil)) pe_int (nomark _))))) (pss_one (ps_ret pe_bl)) pss_nil) (pss_cons (ps_asg (pv 0) (pg_tup (by rfl) (pgs_cons (pg_name (i := 1) nd rfl (Or.inr rfl)) (pgs_cons (pg_name (i := 2) nd rfl (Or.inr rfl)) (pgs_cons (pg_name (i := 3) nd rfl (Or.inl rfl)) pgs_nil))))) (pss_cons (ps_if (PW.pt (pw_or (pt_not (pt_val (pe_has his_number hr (by decide) (pa_cons (pv 1) (pa_cons pe_int (pa_cons (pe_glob (v := .int 7) (by rfl) C.HOUSES ⟨_, rfl⟩) pa_nil)))))) (pw_or1 (pt_not (pt_val (pe_has hare_roads hr (by decide) (pa_cons (pv 2) (pa_cons (pv 1) pa_nil)))))))) (pss_one (ps_ret pe_bl)) pss_nil) (pss_cons (ps_if (PW.pt (pw_or (pt_not (pt_val (pe_callB call_isiD (by rfl) B.isinstance (by decide +kernel) (pa_cons (pv 3) (pa_cons (pe_bltn (by rfl) B.tuple (by decide +kernel) (show RelV (.ty "tuple") (.type "tuple") from rfl)) pa_nil))))) (pw_or1 (pt_cmpR op_ne (pe_callB call_lenD (by rfl) B.len (by decide +kernel) (pa_cons (pv 3) pa_nil)) (pe_op op_sub (pv 1) pe_int) (nomark _))))) (pss_one (ps_ret pe_bl)) pss_nil) (pss_one (ps_ret (pe_callB (cr_all rfl) (by rfl) B.all (by decide +kernel) (pa_cons (pe_lc (g := (gTup K 2 (gCons (gName 4) (gCons (gName 5) gNil)))) (tt := tYes) (te := (tCall (S_are_liked P w K) [] E0 (tCons (tVar 5) (tCons (tOp (rI0 fun i j => .int (i + j)) (tVar 4) (tC (.int 1))) (tCons (tVar 1) (tCons (tVar 2) tNil)))))) rfl nd (pi_enumA (by rfl) B.enumerate (pa_cons (pv 3) pa_nil)) (blkOk_by (own := [("at", 4), ("row", 5)]) (by rfl)) (fun _ _ _ _ _ => (pg_tup (by rfl) (pgs_cons (pg_name (i := 4) nd rfl (Or.inl rfl)) (pgs_cons (pg_name (i := 5) nd rfl (Or.inl rfl)) pgs_nil)))) (fun _ _ _ _ _ => pts_nil) (fun _ _ _ _ _ => (pe_has hare_liked hr (by decide) (pa_cons (pv 5) (pa_cons (pe_op op_add (pv 4) pe_int) (pa_cons (pv 1) (pa_cons (pv 2) pa_nil))))))) pa_nil)))))))), ?_⟩
  rotate_left
  · obtain ⟨_, _, rfl, _⟩ := h
    rfl
  · obtain ⟨v, g, rfl, h1, ok, q⟩ := h
    have h1 : Im K H v (.tuple [.int g.many, eRs g.roads, eT eWs g.likes]) := h1
    have hlo := ok.lo
    have hhi := ok.hi
    have hll := ok.len
    refine ⟨_, rfl, _, _, _, rfl, h1, .inr (.inr rfl), .inr ⟨_, rfl⟩, _, rfl, iteF ?_⟩
    refine ⟨_, rfl, _, _, rfl, .inl h1, rfl, _, rfl, ifF (by simp) ?_⟩
    obtain ⟨a, xs, rfl, hq, him⟩ := h1.tup_inv
    cases him with
    | cons i1 him =>
    cases him with
    | cons i2 him =>
    cases him with
    | cons i3 him =>
    cases him
    cases i1
    refine ⟨_, rfl, _, _, rfl, hq, rfl, _, _, rfl, _, _, rfl, _, _, rfl, rfl, ?_⟩
    refine ⟨_, rfl, _, _, _, g.many, 2, 7, rfl, .int _, .int 2, .int 7, ⟨by omega, by omega⟩, fun t H1 s1 j1 => ?_⟩
    cases j1
    refine ⟨_, rfl, iteF ⟨_, rfl, _, rfl, _, _, g.roads, (g.many : Int), rfl, i2.same s1, .int _, ⟨fun p hp => ?_, ok.ris, rds_len ok⟩, fun t H2 s2 j2 => ?_⟩⟩
    · exact ok.rds p hp
    cases j2
    have i3' := (i3.same s1).same s2
    have i2' := (i2.same s1).same s2
    refine ⟨_, rfl, iteF ⟨_, rfl, _, _, _, rfl, i3', .inr (.inr rfl), .inr ⟨_, rfl⟩, _, rfl, iteF ?_⟩⟩
    have hlen : (g.likes.map eWs).length = g.many - 1 := by rw [List.length_map]; exact hll
    refine ⟨_, rfl, _, _, rfl, .inl i3', _, rfl, _, _, rfl, rfl, rfl, _, rfl, ifF ?_ ?_⟩
    · rw [hlen]
      simp
      omega
    refine ⟨_, rfl, lc_E (.inl i3') (by rw [hlen]; exact small_line (by omega)) (fun _ _ => some (.bool true)) (fun N i d u T H' QT QF hd s3 hN hu hT kT kF => ?_) (fun p H3 s3 hp j3 => ?_)⟩
    · rw [List.getElem?_map] at hd
      obtain ⟨row, hrow, rfl⟩ := Option.map_eq_some_iff.mp hd
      have hi : i < g.many - 1 := by rw [← hll]; exact (List.getElem?_eq_some_iff.mp hrow).1
      have hre : row = g.row ((i + 1 : Nat) : Int) := by
        have := ok.row_eq (h := i + 1) (by omega) (by omega)
        rw [show i + 1 - 1 = i by omega, hrow] at this
        exact Option.some.inj this
      refine ⟨T, _, rfl, SqT.of hT, rfl, _, _, rfl, _, _, rfl, rfl, rfl, _, rfl, _, rfl, _, _, rfl, rfl, _, rfl, _, rfl, ?_⟩
      refine ⟨_, _, _, _, row, (i : Int) + 1, (g.many : Int), g.roads, rfl, hu, .int _, .int _, i2'.same s3, ⟨?_, ?_, g.many, rfl, by omega, fun w hw => ?_⟩, fun t H5 s5 i5 => kT _ _ _ rfl s5 (i5.stb rfl)⟩
      · rw [hre]; exact ok.rnd (i + 1) (by omega) (by omega)
      · rw [hre]; exact ok.rlen (i + 1) (by omega) (by omega)
      · rw [hre] at hw
        have := ok.way (i + 1) (by omega) (by omega) w hw
        rwa [show ((i + 1 : Nat) : Int) = (i : Int) + 1 by omega] at this
    · obtain ⟨c, bs, e, hs, hb⟩ := trues j3 fun d hd => by
        obtain ⟨x, _, hx⟩ := List.mem_filterMap.mp hd
        obtain ⟨y, _, hy⟩ := Option.bind_eq_some_iff.mp hx
        exact (Option.some.inj hy).symm
      cases e
      refine ⟨_, bs, rfl, hs, ?_⟩
      exact q _ _ ((s1.trans s2).trans s3) (.blT hb)
end
end Lw
end
section
set_option Elab.async false
set_option linter.all false
set_option maxRecDepth 100000
set_option maxHeartbeats 4000000
/-! Dicts of tuple keys with values told by data; their comprehensions. -/
namespace Lw
open PySem PySem.Spec PyProof.Rows L2
/-- the keys as a dict keeps them -/
def dadd {κ : Type} [DecidableEq κ] (ks : List κ) (k : κ) : List κ := if k ∈ ks then ks else ks ++ [k]
def ddup {κ : Type} [DecidableEq κ] (ks : List κ) : List κ := ks.foldl dadd []
section
variable {κ : Type} [DecidableEq κ]
theorem dadd_mem {ks : List κ} {k x : κ} : x ∈ dadd ks k ↔ x ∈ ks ∨ x = k := by
  unfold dadd
  split
  · rename_i h
    exact ⟨.inl, fun q => q.elim id fun e => by rw [e]; exact h⟩
  · simp
theorem dadd_nodup {ks : List κ} {k : κ} (h : ks.Nodup) : (dadd ks k).Nodup := by
  unfold dadd
  split
  · exact h
  · rename_i hn
    rw [List.nodup_append]
    exact ⟨h, by simp, fun a ha b hb q => by rw [List.mem_singleton.mp hb] at q; rw [q] at ha; exact hn ha⟩
theorem foldl_dadd_mem {x : κ} : ∀ {ks acc : List κ}, x ∈ ks.foldl dadd acc ↔ x ∈ acc ∨ x ∈ ks
  | [], acc => by simp
  | k :: ks, acc => by
    rw [List.foldl_cons, foldl_dadd_mem, dadd_mem]
    simp only [List.mem_cons]
    exact or_assoc
theorem ddup_mem {ks : List κ} {x : κ} : x ∈ ddup ks ↔ x ∈ ks := by unfold ddup; rw [foldl_dadd_mem]; simp
theorem foldl_dadd_nodup : ∀ {ks acc : List κ}, acc.Nodup → (ks.foldl dadd acc).Nodup
  | [], _, h => h
  | k :: ks, acc, h => foldl_dadd_nodup (ks := ks) (dadd_nodup h)
theorem ddup_nodup {ks : List κ} : (ddup ks).Nodup := foldl_dadd_nodup List.nodup_nil
theorem foldl_dadd_id : ∀ {ks acc : List κ}, (acc ++ ks).Nodup → ks.foldl dadd acc = acc ++ ks
  | [], acc, _ => by simp
  | k :: ks, acc, h => by
    have hn : k ∉ acc := fun q => by
      rw [List.nodup_append] at h
      exact h.2.2 k q k List.mem_cons_self rfl
    have e : dadd acc k = acc ++ [k] := by unfold dadd; rw [if_neg hn]
    rw [List.foldl_cons, e, foldl_dadd_id (by rw [List.append_assoc]; exact h), List.append_assoc]; rfl
theorem ddup_id {ks : List κ} (h : ks.Nodup) : ddup ks = ks := by unfold ddup; rw [foldl_dadd_id (by simpa using h)]; simp
theorem ddup_snoc {ks : List κ} {k : κ} : ddup (ks ++ [k]) = dadd (ddup ks) k := by unfold ddup; rw [List.foldl_append]; rfl
theorem foldl_dadd_len : ∀ {ks acc : List κ}, (ks.foldl dadd acc).length ≤ acc.length + ks.length
  | [], acc => by simp
  | k :: ks, acc => by
    rw [List.foldl_cons]
    refine Nat.le_trans foldl_dadd_len ?_
    unfold dadd
    split <;> simp <;> omega
theorem ddup_len {ks : List κ} : (ddup ks).length ≤ ks.length := by unfold ddup; exact Nat.le_trans foldl_dadd_len (by simp)
theorem dput_keys {kvs : List (κ × V)} {k : κ} {v : V} : (dput kvs k v).map (·.1) = dadd (kvs.map (·.1)) k := by
  unfold dput dadd
  rw [dhas_mem]
  by_cases h : k ∈ kvs.map (·.1)
  · rw [if_pos h, if_pos (decide_eq_true h), List.map_map]
    refine List.map_congr_left fun p _ => ?_
    show (if p.1 = k then (k, v) else p).1 = p.1
    split
    · rename_i e; exact e.symm
    · rfl
  · rw [if_neg h, if_neg (by simp [h]), List.map_append]; rfl
theorem dput_mem {kvs : List (κ × V)} {k : κ} {v : V} {p : κ × V} (h : p ∈ dput kvs k v) : p = (k, v) ∨ p ∈ kvs := by
  unfold dput at h
  split at h
  · obtain ⟨q, hq, rfl⟩ := List.mem_map.mp h
    split
    · exact .inl rfl
    · exact .inr hq
  · rcases List.mem_append.mp h with h | h
    · exact .inr h
    · exact .inl (List.mem_singleton.mp h)
theorem dget_mem {kvs : List (κ × V)} {k : κ} {v : V} (h : dget kvs k = some v) : (k, v) ∈ kvs := by
  unfold dget at h
  obtain ⟨p, hp, rfl⟩ := Option.map_eq_some_iff.mp h
  have h1 := List.mem_of_find?_eq_some hp
  have h2 : p.1 = k := by simpa using List.find?_some hp
  rw [← h2]; exact h1
theorem dget_some {kvs : List (κ × V)} {k : κ} (h : k ∈ kvs.map (·.1)) : ∃ v, dget kvs k = some v := by
  have e : dhas kvs k = true := by rw [dhas_mem]; exact decide_eq_true h
  rw [← dget_isSome] at e
  exact Option.isSome_iff_exists.mp e
theorem dget_none {kvs : List (κ × V)} {k : κ} (h : k ∉ kvs.map (·.1)) : dget kvs k = none := by
  cases e : dget kvs k with
  | none => rfl
  | some v => exact absurd (List.mem_map.mpr ⟨_, dget_mem e, rfl⟩) h
end
/-! ### values told by data -/
/-- at d a dict of the keys ks, each with the value that f tells -/
structure DF (P : Program) (w : World) (K : PySem.W.Frag) {κ : Type} [DecidableEq κ] (e : κ → PyData) (H : Hp) (d : Addr) (ks : List κ) (f : κ → PyData) : Prop where
  ex : ∃ kvs, DN P w e K H d kvs ∧ kvs.map (·.1) = ks ∧ ∀ p ∈ kvs, Stb K d H p.2 (f p.1)
section
variable {P : Program} {w : World} {K : PySem.W.Frag} {κ : Type} [DecidableEq κ] {e : κ → PyData} {H H' : Hp} {d : Addr} {ks : List κ} {f f' : κ → PyData}
theorem DF.same (x : DF P w K e H d ks f) (s : Same H H') : DF P w K e H' d ks f := by
  obtain ⟨kvs, h1, h2, h3⟩ := x.ex
  exact ⟨kvs, h1.same s, h2, fun p hp => (h3 p hp).same s⟩
theorem DF.new {p : Addr} : DF P w K e (upd H p (dN P w p [] 0)) p [] f := ⟨[], DN.new, rfl, fun _ h => nomatch h⟩
theorem DF.congr (x : DF P w K e H d ks f) (h : ∀ k ∈ ks, f k = f' k) : DF P w K e H d ks f' := by
  obtain ⟨kvs, h1, h2, h3⟩ := x.ex
  refine ⟨kvs, h1, h2, fun p hp => ?_⟩
  rw [← h p.1 (by rw [← h2]; exact List.mem_map.mpr ⟨p, hp, rfl⟩)]
  exact h3 p hp
/-- a store: key k (old or new), its value told by f -/
theorem DF.put {kvs : List (κ × V)} {k : κ} {v : V} (h2 : kvs.map (·.1) = ks) (h3 : ∀ p ∈ kvs, Stb K d H p.2 (f p.1)) (kp : Kp [d] H H') (tk : TK H H') (hd : DN P w e K H' d (dput kvs k v)) (hv : Stb K d H v (f k)) : DF P w K e H' d (dadd ks k) f := by
  refine ⟨_, hd, by rw [dput_keys, h2], fun p hp => ?_⟩
  rcases dput_mem hp with rfl | hp
  · exact hv.step kp tk
  · exact (h3 p hp).step kp tk
theorem DF.get (x : DF P w K e H d ks f) {k : κ} (h : k ∈ ks) : ∃ kvs v, DN P w e K H d kvs ∧ dget kvs k = some v ∧ Stb K d H v (f k) := by
  obtain ⟨kvs, h1, h2, h3⟩ := x.ex
  obtain ⟨v, hv⟩ := dget_some (kvs := kvs) (k := k) (by rw [h2]; exact h)
  exact ⟨kvs, v, h1, hv, h3 _ (dget_mem hv)⟩
theorem DF.dn (x : DF P w K e H d ks f) : ∃ kvs, DN P w e K H d kvs ∧ kvs.map (·.1) = ks := let ⟨kvs, h1, h2, _⟩ := x.ex; ⟨kvs, h1, h2⟩
theorem DF.ne_none (x : DF P w K e H d ks f) : H d ≠ none := let ⟨_, h1, _⟩ := x.dn; h1.ne_none
/-- changed elsewhere, where the values lean on nothing that changes -/
theorem DF.flat (x : DF P w K e H d ks f) (ok : KeyOk e) (hf : ∀ k ∈ ks, Lw.flat (f k) = true) (t : TK H H') (hd : H' d = H d) : DF P w K e H' d ks f := by
  obtain ⟨kvs, h1, h2, h3⟩ := x.ex
  exact ⟨kvs, h1.tk ok.flt t hd, h2, fun p hp => ((h3 p hp).im.tk t (hf _ (by rw [← h2]; exact List.mem_map.mpr ⟨p, hp, rfl⟩))).stb (hf _ (by rw [← h2]; exact List.mem_map.mpr ⟨p, hp, rfl⟩))⟩
end
/-! ### comprehensions -/
section
variable {P : Program} {w : World} {K : PySem.W.Frag} {κ : Type} [DecidableEq κ] {e : κ → PyData} {g : TG} {tt : TT} {tk tv : TE} {vs : List Nat} {σ : L2.St} {H1 : Hp} {Q : VK} {J : It} {n : Nat} {G : Hp → Prop} {Y : Nat → Hp → V → Hp → Prop}
theorem dc_S (ok : KeyOk e) (wk : Walk J n G Y) (hn : n < sizeLine) (f : Nat → κ) (val : κ → PyData) (hG : ∀ H', Same H1 H' → G H') (hY : ∀ i H x H', Y i H x H' → Same H H')
    (hs : ∀ D i x H H' (QT : V → V → Hp → Prop) (QF : Hp → Prop), i < n → Same H1 H → H D ≠ none → Y i H x H' → (∀ y z H4, Same H' H4 → Im K H4 y (e (f i)) → Stb K D H4 z (val (f i)) → QT y z H4) →
      g x (wipe σ vs) H' fun σ2 H2 => wipe σ2 vs = wipe σ vs ∧ tt σ2 H2 fun b H3 => if b = true then tk σ2 H3 fun y H4 => tv σ2 H4 fun z H5 => QT y z H5 else QF H3)
    (hd : ∀ p H', Same H1 H' → H1 p = none → DF P w K e H' p (ddup ((List.range n).map f)) val → Q (.ref p) H') : RDc P w K g tt tk tv vs σ Q J H1 := by
  intro D hD
  have dne : ∀ b o, H1 b = some o → b ≠ D := fun b o q => ne_of_none q hD
  refine ⟨fun i m H => m = n - i ∧ i ≤ n ∧ Same H1 H ∧ DF P w K e H D (ddup ((List.range i).map f)) val, ⟨n, by omega, Nat.zero_le _, Same.new hD, DF.new⟩, ?_⟩
  rintro i m H ⟨rfl, hi, s, x⟩
  have hg := hG H s
  by_cases hlt : i < n
  · refine .inr ⟨wk.goes i H hlt hg, fun H' => Same H1 H' ∧ DF P w K e H' D (ddup ((List.range (i + 1)).map f)) val, fun H' ⟨q1, q2⟩ => ⟨n - (i + 1), by omega, rfl, hlt, q1, q2⟩, fun y H' yy => ?_⟩
    have yy := wk.yields i H y H' hlt hg yy
    refine hs D i y H H' _ _ hlt s x.ne_none yy fun ky z H4 s4 hk hz => ?_
    obtain ⟨kvs, h1, h2, h3⟩ := (((x.same (hY _ _ _ _ yy)).same s4)).ex
    refine ⟨κ, _, e, f i, kvs, ok, hk, h1, ?_, fun H' kp tk' hdn => ⟨fun b o q => ?_, ?_⟩⟩
    · rw [← List.length_map (f := (·.1)), h2]
      exact Nat.lt_of_le_of_lt (Nat.le_trans ddup_len (by simp; omega)) hn
    · exact kp _ _ (by simpa using dne b o q) (s4 _ _ ((hY _ _ _ _ yy) _ _ (s _ _ q)))
    · have := DF.put (P := P) (w := w) h2 h3 kp tk' hdn hz
      rw [List.range_succ, List.map_append]
      show DF P w K e H' D (ddup ((List.range i).map f ++ [f i])) val
      rw [ddup_snoc]
      exact this
  · have ei : i = n := by omega
    subst ei
    exact .inl ⟨wk.stops H hg, hd D H s hD x⟩
/-- {k d: v d for d in data} -/
theorem dc_D (ok : KeyOk e) {x : V} {α : Type} {ea : α → PyData} {l : List α} (hx : Im K H1 x (eT ea l) ∨ Im K H1 x (eL ea l)) (hn : l.length < sizeLine) (f : α → κ) (val : κ → PyData)
    (hs : ∀ D a v H' (QT : V → V → Hp → Prop) (QF : Hp → Prop), a ∈ l → Same H1 H' → H' D ≠ none → Im K H' v (ea a) → (∀ y z H4, Same H' H4 → Im K H4 y (e (f a)) → Stb K D H4 z (val (f a)) → QT y z H4) →
      g v (wipe σ vs) H' fun σ2 H2 => wipe σ2 vs = wipe σ vs ∧ tt σ2 H2 fun b H3 => if b = true then tk σ2 H3 fun y H4 => tv σ2 H4 fun z H5 => QT y z H5 else QF H3)
    (hd : ∀ p H', Same H1 H' → H1 p = none → DF P w K e H' p (ddup (l.map f)) val → Q (.ref p) H') :
    ∃ a xs, x = .ref a ∧ ((SqL K H1 a xs ∧ RDc P w K g tt tk tv vs σ Q (Itl K a) H1) ∨ (SqT K H1 a xs ∧ RDc P w K g tt tk tv vs σ Q (Itt K a) H1)) := by
  refine seq_of hx fun J a xs G _ wk t hG => ?_
  have hlen : xs.length = l.length := by rw [t.length, List.length_map]
  cases l with
  | nil =>
    have hx0 : xs.length = 0 := hlen
    by_cases hk : Nonempty κ
    · obtain ⟨k0⟩ := hk
      exact dc_S ok wk (by rw [hlen]; exact hn) (fun _ => k0) val hG (fun i H v H' y => by rw [y.1]; exact Same.refl _) (fun D i v H H' QT QF hi => by omega) (fun p H' s hp q => hd p H' s hp (by rw [hx0] at q; exact q))
    · intro D hD
      refine ⟨fun i m H => i = 0 ∧ H = upd H1 D (dN P w D [] 0), ⟨0, rfl, rfl⟩, ?_⟩
      rintro i m H ⟨rfl, rfl⟩
      have hg := hG _ (Same.new (o := dN P w D [] 0) hD)
      have st := wk.stops _ hg
      rw [hx0] at st
      exact .inl ⟨st, hd D _ (Same.new hD) hD DF.new⟩
  | cons a0 l =>
    have hl : (List.range xs.length).map (fun i => f ((a0 :: l).getD i a0)) = (a0 :: l).map f := by
      rw [hlen]
      apply List.ext_getElem
      · simp
      · intro i h1 h2
        simp only [List.getElem_map, List.getElem_range]
        rw [List.getD_eq_getElem?_getD, List.getElem?_eq_getElem (by simpa using h2)]
        rfl
    refine dc_S ok wk (by rw [hlen]; exact hn) (fun i => f ((a0 :: l).getD i a0)) val hG (fun i H v H' y => by rw [y.1]; exact Same.refl _) (fun D i v H H' QT QF hi s hD y kT => ?_) (fun p H' s hp q => hd p H' s hp (by rw [hl] at q; exact q))
    obtain ⟨e0, hv⟩ := y
    subst e0
    obtain ⟨d, hdi, hvd⟩ := t.getV hv
    rw [List.getElem?_map] at hdi
    obtain ⟨a1, ha1, rfl⟩ := Option.map_eq_some_iff.mp hdi
    have eg : (a0 :: l).getD i a0 = a1 := by rw [List.getD_eq_getElem?_getD, ha1]; rfl
    rw [eg] at kT
    exact hs D a1 v _ QT QF (List.mem_of_getElem? ha1) s hD (hvd.same s) kT
/-- {k: v for k in d} -/
theorem dc_K (ok : KeyOk e) {d : Addr} {kvs : List (κ × V)} (x : DN P w e K H1 d kvs) (val : κ → PyData)
    (hs : ∀ D k v H' (QT : V → V → Hp → Prop) (QF : Hp → Prop), k ∈ kvs.map (·.1) → Same H1 H' → H' D ≠ none → Im K H' v (e k) → (∀ y z H4, Same H' H4 → Im K H4 y (e k) → Stb K D H4 z (val k) → QT y z H4) →
      g v (wipe σ vs) H' fun σ2 H2 => wipe σ2 vs = wipe σ vs ∧ tt σ2 H2 fun b H3 => if b = true then tk σ2 H3 fun y H4 => tv σ2 H4 fun z H5 => QT y z H5 else QF H3)
    (hd : ∀ p H', Same H1 H' → H1 p = none → DF P w K e H' p (ddup (kvs.map (·.1))) val → Q (.ref p) H') (hn : kvs.length < sizeLine) :
    ∃ xs ep, H1 d = some (dN P w d xs ep) ∧ RDc P w K g tt tk tv vs σ Q (ItN P w d xs ep) H1 := by
  obtain ⟨xs, ep, h1, h2⟩ := x
  refine ⟨xs, ep, h1, ?_⟩
  have hlen : xs.length = kvs.length := (Paired.length h2).symm
  cases hk : kvs with
  | nil =>
    subst hk
    have hx0 : xs.length = 0 := hlen
    intro D hD
    refine ⟨fun i m H => i = 0 ∧ H = upd H1 D (dN P w D [] 0), ⟨0, rfl, rfl⟩, ?_⟩
    rintro i m H ⟨rfl, rfl⟩
    exact .inl ⟨⟨by rw [upd_ne (ne_of_none h1 hD)]; exact h1, by omega⟩, hd D _ (Same.new hD) hD DF.new⟩
  | cons p0 l =>
    have hl : (List.range xs.length).map (fun i => (kvs.getD i p0).1) = kvs.map (·.1) := by
      rw [hlen]
      apply List.ext_getElem
      · simp
      · intro i q1 q2
        simp only [List.getElem_map, List.getElem_range]
        rw [List.getD_eq_getElem?_getD, List.getElem?_eq_getElem (by simpa using q2)]
        rfl
    refine dc_S ok walk_N (by rw [hlen]; exact hn) (fun i => (kvs.getD i p0).1) val (fun H' s => s _ _ h1) (fun i H v H' y => by rw [y.1]; exact Same.refl _) (fun D i v H H' QT QF hi s hD y kT => ?_) (fun p H' s hp q => hd p H' s hp (by rw [hl] at q; exact q))
    obtain ⟨e0, q, hq, e1⟩ := y
    subst e0 e1
    obtain ⟨⟨k, u⟩, hp, him, _⟩ := rn_get h2 hq
    have eg : (kvs.getD i p0).1 = k := by rw [List.getD_eq_getElem?_getD, hp]; rfl
    rw [eg] at kT
    exact hs D k _ _ QT QF (List.mem_map.mpr ⟨_, List.mem_of_getElem? hp, rfl⟩) s hD (him.same s) kT
end
theorem sw_trueD {kx vx : Expr} {gs : List Comprehension} {scope : Scope} {pos py : Pos} {y : Str} {l : Nat} {env : Env} (hk : env.scope.kind = .function) (hy : env.scope.names.lookup y = some .local) (hl : (py.line == pos.line) = true)
    (ha : (scope.names.any fun (n, k) => n == y && (k == .local || k == .cell)) = false) : swapsWith (.DictComp kx vx gs scope pos) (some (.Name y py)) l env = pure true := by
  have ky : env.kindOf y = some .local := hy
  have hb : env.blockKind = .function := by unfold Env.blockKind; rw [hk]; rfl
  unfold swapsWith
  simp only [hb, ky, ha, Expr.pos, hl]
  rfl
end Lw
end
section
set_option Elab.async false
set_option linter.all false
set_option maxRecDepth 100000
set_option maxHeartbeats 4000000
/-! Comprehensions over lists and tuples of one kind of thing. -/
namespace Lw
open PySem PySem.Spec PyProof.Rows L2
noncomputable def unE {α : Type} (e : α → PyData) (d : PyData) : Option α := open Classical in if h : ∃ a, e a = d then some h.choose else none
theorem unE_eq {α : Type} {e : α → PyData} (inj : ∀ a b, e a = e b → a = b) (a : α) : unE e (e a) = some a := by
  unfold unE
  have h : ∃ b, e b = e a := ⟨a, rfl⟩
  rw [dif_pos h]
  exact congrArg some (inj _ _ h.choose_spec)
section
variable {K : PySem.W.Frag} {g : TG} {tt : TT} {te : TE} {vs : List Nat} {σ : L2.St} {H1 : Hp} {Q : Addr → Hp → Prop}
theorem lc_T {x : V} {α : Type} {ea : α → PyData} {l : List α} (hx : Im K H1 x (eT ea l) ∨ Im K H1 x (eL ea l)) (hn : l.length ≤ sizeLine) (f : α → Option PyData)
    (hs : ∀ D a v H' (QT : VK) (QF : Hp → Prop), a ∈ l → Same H1 H' → H' D ≠ none → Im K H' v (ea a) → (∀ y H4 e, f a = some e → Same H' H4 → Stb K D H4 y e → QT y H4) → (∀ H3, f a = none → Same H' H3 → QF H3) →
      g v (wipe σ vs) H' fun σ2 H2 => wipe σ2 vs = wipe σ vs ∧ tt σ2 H2 fun b H3 => if b = true then te σ2 H3 QT else QF H3)
    (hd : ∀ p H', Same H1 H' → H1 p = none → Im K H' (.ref p) (.list (l.filterMap f)) → Q p H') :
    ∃ a xs, x = .ref a ∧ ((SqL K H1 a xs ∧ RLc g tt te vs σ Q (Itl K a) H1) ∨ (SqT K H1 a xs ∧ RLc g tt te vs σ Q (Itt K a) H1)) := by
  refine seq_of hx fun J a xs G _ w t hG => ?_
  have hl : xs.length = l.length := by rw [t.length, List.length_map]
  refine lc_S (K := K) w (by rw [hl]; exact hn) (fun i => (l[i]?).bind f) hG (fun i H v H' y => by rw [y.1]; exact Same.refl _) (fun D i v H H' QT QF hi s hD y kT kF => ?_)
    (fun p H' s hp im => hd p H' s hp (by rw [hl, range_filterMap] at im; exact im))
  obtain ⟨e, hv⟩ := y
  subst e
  obtain ⟨d, hdi, hvd⟩ := t.getV hv
  rw [List.getElem?_map] at hdi
  obtain ⟨b, hb, rfl⟩ := Option.map_eq_some_iff.mp hdi
  exact hs D b v _ QT QF (List.mem_of_getElem? hb) s hD (hvd.same s) (fun z H4 e q => kT z H4 e (by rw [hb]; exact q)) (fun H3 q => kF H3 (by rw [hb]; exact q))
section
variable {g1 : TG} {tl1 : TE} {tt1 : TT} {vs1 : List Nat}
theorem lc2_T {x : V} {α β : Type} {ea : α → PyData} {eb : β → PyData} (ia : ∀ a b, ea a = ea b → a = b) (ib : ∀ a b, eb a = eb b → a = b) {l : List α} (hx : Im K H1 x (eT ea l) ∨ Im K H1 x (eL ea l)) (inner : α → List β) (f : α → β → Option PyData) (P : V → L2.St → Prop)
    (hn : (l.flatMap fun d => (inner d).filterMap (f d)).length < sizeLine) (hf : ∀ b, flat (eb b) = true)
    (hs1 : ∀ D d v H' (QI : L2.St → VK), d ∈ l → Same H1 H' → H1 D = none → H' D ≠ none → Im K H' v (ea d) → (∀ σ2 u H2, P v σ2 → Same H' H2 → (Im K H2 u (eT eb (inner d)) ∨ (Im K H2 u (eL eb (inner d)) ∧ u ≠ .ref D)) → QI σ2 u H2) →
      g v (wipe σ vs) H' fun σ2 H2 => wipe σ2 vs = wipe σ vs ∧ tl1 σ2 H2 (QI σ2))
    (hs2 : ∀ D d e v u σ2 H' (QT : VK) (QF : Hp → Prop), d ∈ l → e ∈ inner d → P v σ2 → Same H1 H' → H1 D = none → H' D ≠ none → Im K H' v (ea d) → Im K H' u (eb e) → (∀ y H4 b, f d e = some b → Same H' H4 → Stb K D H4 y b → QT y H4) → (∀ H3, f d e = none → Same H' H3 → QF H3) →
      g1 u (wipe σ2 vs1) H' fun σ3 H5 => wipe σ3 vs1 = wipe σ2 vs1 ∧ tt1 σ3 H5 fun b H6 => if b = true then te σ3 H6 QT else QF H6)
    (hd : ∀ p H', Same H1 H' → H1 p = none → Im K H' (.ref p) (.list (l.flatMap fun d => (inner d).filterMap (f d))) → Q p H') :
    ∃ a xs, x = .ref a ∧ ((SqL K H1 a xs ∧ RL2 g tYes (iSeq K tl1) g1 tt1 te vs vs1 σ Q (Itl K a) H1) ∨ (SqT K H1 a xs ∧ RL2 g tYes (iSeq K tl1) g1 tt1 te vs vs1 σ Q (Itt K a) H1)) := by
  have uf : ∀ a b, ((unE ea (ea a)).bind fun d => (unE eb (eb b)).bind fun e => f d e) = f a b := fun a b => by rw [unE_eq ia, unE_eq ib]; rfl
  have e1 : ∀ a, ((match unE ea (ea a) with | some d => (inner d).map eb | none => []) : List PyData) = (inner a).map eb := fun a => by rw [unE_eq ia]
  have e2 : ∀ a, ((match unE ea (ea a) with | some d => (inner d).map eb | none => []) : List PyData).filterMap (fun e' => (unE ea (ea a)).bind fun d => (unE eb e').bind fun e => f d e) = (inner a).filterMap (f a) := fun a => by
    rw [e1, List.filterMap_map]
    exact congrArg (fun z => List.filterMap z _) (funext fun b => uf a b)
  have e3 : ((l.map ea).flatMap fun d' => ((match unE ea d' with | some d => (inner d).map eb | none => []) : List PyData).filterMap (fun e' => (unE ea d').bind fun d => (unE eb e').bind fun e => f d e)) = l.flatMap fun d => (inner d).filterMap (f d) := by
    rw [List.flatMap_map]
    exact congrArg (fun z => List.flatMap z l) (funext fun a => e2 a)
  refine lc2_D (ds := l.map ea) hx (fun d' => match unE ea d' with | some d => (inner d).map eb | none => []) (fun d' e' => (unE ea d').bind fun d => (unE eb e').bind fun e => f d e) P (by rw [e3]; exact hn) ?_ ?_ ?_ ?_
  · intro d hd'
    obtain ⟨a, _, rfl⟩ := List.mem_map.mp hd'
    show flatAll _ = true
    rw [e1]; exact flatAll_map hf _
  · intro D d v H' QI hd' s hD hD' hv k
    obtain ⟨a, ha, rfl⟩ := List.mem_map.mp hd'
    refine hs1 D a v H' QI ha s hD hD' hv fun σ2 u H2 hP s2 hu => k σ2 u H2 hP s2 ?_
    show Im K H2 u (.tuple _) ∨ (Im K H2 u (.list _) ∧ _)
    rw [e1]
    exact hu
  · intro D d e v u σ2 H' QT QF hd' he hP s hD hD' hv hu kT kF
    obtain ⟨a, ha, rfl⟩ := List.mem_map.mp hd'
    replace he : e ∈ ((match unE ea (ea a) with | some d => (inner d).map eb | none => []) : List PyData) := he
    rw [e1] at he
    obtain ⟨b, hb, rfl⟩ := List.mem_map.mp he
    refine hs2 D a b v u σ2 H' QT QF ha hb hP s hD hD' hv hu (fun y H4 c hc => kT y H4 c ?_) (fun H3 hc => kF H3 ?_)
    · show (Option.bind _ _) = _
      rw [uf]; exact hc
    · show (Option.bind _ _) = _
      rw [uf]; exact hc
  · intro p H' s hp im
    rw [e3] at im
    exact hd p H' s hp im
end
end
section
variable {K : PySem.W.Frag} {g : TG} {tb : TS} {D : Ends} {σ : L2.St} {H : Hp} {α : Type} {ea : α → PyData} {l : List α}
theorem map_get {i : Nat} {d : PyData} (h : (l.map ea)[i]? = some d) : ∃ a, l[i]? = some a ∧ d = ea a := by
  rw [List.getElem?_map] at h
  obtain ⟨a, h1, h2⟩ := Option.map_eq_some_iff.mp h
  exact ⟨a, h1, h2.symm⟩
theorem for_TT {x : V} (hx : Im K H x (eT ea l)) (Pv : Nat → L2.St → Hp → Prop) (h0 : Pv 0 σ H) (hk : ∀ i σ' H', Pv i σ' H' → TK H H')
    (hs : ∀ i a v σ' H', l[i]? = some a → Im K H v (ea a) → Pv i σ' H' → g v σ' H' fun σ2 H2 => tb { D with nx := Pv (i + 1), ct := Pv (i + 1), bk := D.nx } σ2 H2) (hd : ∀ σ' H', Pv l.length σ' H' → D.nx σ' H') :
    ∃ a xs, x = .ref a ∧ ((SqL K H a xs ∧ RFor g tb D σ (Itl K a) H) ∨ (SqT K H a xs ∧ RFor g tb D σ (Itt K a) H)) :=
  for_tupD hx Pv h0 hk (fun i d v σ' H' e hv p => by obtain ⟨a, h1, rfl⟩ := map_get e; exact hs i a v σ' H' h1 hv p) (fun σ' H' p => hd σ' H' (by rw [List.length_map] at p; exact p))
theorem for_LT {x : V} (hx : Im K H x (eL ea l)) (Pv : Nat → L2.St → Hp → Prop) (h0 : Pv 0 σ H) (hk : ∀ i σ' H', Pv i σ' H' → ∀ a, x = .ref a → H' a = H a)
    (hs : ∀ i a v σ' H', l[i]? = some a → Im K H v (ea a) → Pv i σ' H' → g v σ' H' fun σ2 H2 => tb { D with nx := Pv (i + 1), ct := Pv (i + 1), bk := D.nx } σ2 H2) (hd : ∀ σ' H', Pv l.length σ' H' → D.nx σ' H') :
    ∃ a xs, x = .ref a ∧ ((SqL K H a xs ∧ RFor g tb D σ (Itl K a) H) ∨ (SqT K H a xs ∧ RFor g tb D σ (Itt K a) H)) :=
  for_lstD hx Pv h0 hk (fun i d v σ' H' e hv p => by obtain ⟨a, h1, rfl⟩ := map_get e; exact hs i a v σ' H' h1 hv p) (fun σ' H' p => hd σ' H' (by rw [List.length_map] at p; exact p))
end
theorem take_snoc {α : Type} {l : List α} {i : Nat} {a : α} (h : l[i]? = some a) : l.take (i + 1) = l.take i ++ [a] := by rw [List.take_add_one, h]; rfl
/-- a list's place, kept by what changes elsewhere -/
theorem keep_lst {K : PySem.W.Frag} {H H' : Hp} {S : List Addr} {x : V} {ds : List PyData} (h : Im K H x (.list ds)) (k : Kp S H H') (hn : ∀ a ∈ S, ∀ xs, H a ≠ some (.lst xs)) (a : Addr) (e : x = .ref a) : H' a = H a := by
  subst e
  obtain ⟨xs, h1, _⟩ := h.ls
  rw [h1]
  exact k _ _ (fun m => hn a m xs h1) h1
theorem DN.nolst {P : Program} {w : World} {K : PySem.W.Frag} {H : Hp} {κ : Type} [DecidableEq κ] {e : κ → PyData} {d : Addr} {kvs : List (κ × V)} (x : DN P w e K H d kvs) (xs : List V) : H d ≠ some (.lst xs) := by
  obtain ⟨o, h, _, h2⟩ := x.there
  rw [h]
  exact fun q => h2 xs (Option.some.inj q)
theorem DF.nolst {P : Program} {w : World} {K : PySem.W.Frag} {H : Hp} {κ : Type} [DecidableEq κ] {e : κ → PyData} {d : Addr} {ks : List κ} {f : κ → PyData} (x : DF P w K e H d ks f) (xs : List V) : H d ≠ some (.lst xs) := by
  obtain ⟨_, h, _⟩ := x.dn
  exact h.nolst xs
theorem same_kp {S : List Addr} {H H2 H' : Hp} (s : Same H H2) (k : Kp S H2 H') (n : ∀ a ∈ S, H a = none) : Same H H' := fun b o q => k b o (fun m => ne_of_none q (n b m) rfl) (s _ _ q)
theorem same_kp1 {d : Addr} {H H2 H' : Hp} (s : Same H H2) (k : Kp [d] H2 H') (n : H d = none) : Same H H' := same_kp s k fun a m => by rw [List.mem_singleton.mp m]; exact n
theorem filterMap_if {α β : Type} (p : α → Bool) (f : α → β) (l : List α) : l.filterMap (fun e => if p e then some (f e) else none) = (l.filter p).map f := by
  induction l with
  | nil => rfl
  | cons u l ih =>
    cases c : p u
    · rw [List.filterMap_cons_none (by simp [c]), ih, List.filter_cons_of_neg (by simp [c])]
    · rw [List.filterMap_cons_some (b := f u) (by simp [c]), ih, List.filter_cons_of_pos (by simp [c]), List.map_cons]
theorem dadd_take {κ : Type} [DecidableEq κ] {l : List κ} (nd : l.Nodup) {i : Nat} {a : κ} (h : l[i]? = some a) : dadd (l.take i) a = l.take (i + 1) := by
  rw [take_snoc h]
  unfold dadd
  rw [if_neg]
  intro m
  have e := List.take_append_drop i l
  have hd : a ∈ l.drop i := by
    obtain ⟨hi, e⟩ := List.getElem?_eq_some_iff.mp h
    rw [List.drop_eq_getElem_cons hi, e]
    exact List.mem_cons_self
  rw [← e, List.nodup_append] at nd
  exact nd.2.2 a m a hd rfl
/-- truths told -/
theorem bools_of {K : PySem.W.Frag} {H : Hp} {v : V} {α : Type} {l : List α} {f : α → Bool} (h : Im K H v (.list (l.map fun x => .bool (f x)))) : ∃ a, v = .ref a ∧ SqL K H a ((l.map f).map V.bl) := by
  obtain ⟨a, xs, rfl, h1, h2⟩ := h.lst_inv
  refine ⟨a, rfl, ?_⟩
  have key : ∀ {xs : List V} {l : List α}, ImAll K H xs (l.map fun x => .bool (f x)) → xs = (l.map f).map V.bl := fun {xs l} h => by
    induction l generalizing xs with
    | nil => cases h; rfl
    | cons d ds ih =>
      rw [List.map_cons] at h
      cases h with
      | cons h t => cases h; rw [ih t]; rfl
  rw [← key h2]
  exact SqL.of h1
section
variable {P : Program} {w : World} {K : PySem.W.Frag} {κ : Type} [DecidableEq κ] {e : κ → PyData} {g : TG} {tt : TT} {te : TE} {vs : List Nat} {σ : L2.St} {H1 : Hp} {Q : Addr → Hp → Prop} {d : Addr} {kvs : List (κ × V)}
theorem lc_K {x : V} (hx : x = .ref d) (hd : DN P w e K H1 d kvs) (hn : kvs.length ≤ 1000000) (f : κ → Option PyData)
    (hs : ∀ D k v H' (QT : VK) (QF : Hp → Prop), k ∈ kvs.map (·.1) → Same H1 H' → H' D ≠ none → Im K H' v (e k) → (∀ y H4 b, f k = some b → Same H' H4 → Stb K D H4 y b → QT y H4) → (∀ H3, f k = none → Same H' H3 → QF H3) →
      g v (wipe σ vs) H' fun σ2 H2 => wipe σ2 vs = wipe σ vs ∧ tt σ2 H2 fun b H3 => if b = true then te σ2 H3 QT else QF H3)
    (hq : ∀ p H', Same H1 H' → H1 p = none → Im K H' (.ref p) (.list ((kvs.map (·.1)).filterMap f)) → Q p H') :
    ∃ d xs ep, x = .ref d ∧ H1 d = some (dN P w d xs ep) ∧ RLc g tt te vs σ Q (ItN P w d xs ep) H1 := by
  subst hx
  obtain ⟨xs, ep, h1, h2⟩ := hd
  have hlen : xs.length = kvs.length := (Paired.length h2).symm
  have hl2 : (kvs.map (·.1)).length = xs.length := by rw [List.length_map, hlen]
  refine ⟨d, xs, ep, rfl, h1, lc_S (K := K) (Q := Q) walk_N (small_line (by omega)) (fun i => ((kvs.map (·.1))[i]?).bind f) (fun H' s => s _ _ h1) (fun i H v H' y => by rw [y.1]; exact Same.refl _) (fun D i v H H' QT QF hi s hD y kT kF => ?_)
    (fun p H' s hp im => hq p H' s hp (by rw [← hl2, range_filterMap] at im; exact im))⟩
  obtain ⟨e1, q, hq', rfl⟩ := y
  subst e1
  obtain ⟨⟨k, u⟩, hp, him, _⟩ := rn_get h2 hq'
  have hk : (kvs.map (·.1))[i]? = some k := by rw [List.getElem?_map, hp]; rfl
  exact hs D k _ _ QT QF (List.mem_of_getElem? hk) s hD (him.same s) (fun z H4 b q => kT z H4 b (by rw [hk]; exact q)) (fun H3 q => kF H3 (by rw [hk]; exact q))
end
theorem dc_K' {P : Program} {w : World} {K : PySem.W.Frag} {κ : Type} [DecidableEq κ] {e : κ → PyData} {g : TG} {tt : TT} {tk tv : TE} {vs : List Nat} {σ : L2.St} {H1 : Hp} {Q : VK} (ok : KeyOk e) {x : V} {d : Addr} {kvs : List (κ × V)} (hx : x = .ref d) (h : DN P w e K H1 d kvs) (hn : kvs.length < 1000000) (val : κ → PyData)
    (hs : ∀ D k v H' (QT : V → V → Hp → Prop) (QF : Hp → Prop), k ∈ kvs.map (·.1) → Same H1 H' → H' D ≠ none → Im K H' v (e k) → (∀ y z H4, Same H' H4 → Im K H4 y (e k) → Stb K D H4 z (val k) → QT y z H4) →
      g v (wipe σ vs) H' fun σ2 H2 => wipe σ2 vs = wipe σ vs ∧ tt σ2 H2 fun b H3 => if b = true then tk σ2 H3 fun y H4 => tv σ2 H4 fun z H5 => QT y z H5 else QF H3)
    (hd : ∀ p H', Same H1 H' → H1 p = none → DF P w K e H' p (ddup (kvs.map (·.1))) val → Q (.ref p) H') :
    ∃ d xs ep, x = .ref d ∧ H1 d = some (dN P w d xs ep) ∧ RDc P w K g tt tk tv vs σ Q (ItN P w d xs ep) H1 := by
  obtain ⟨xs, ep, a, b⟩ := dc_K ok h val hs hd (Nat.lt_of_lt_of_le hn (small_line (Nat.le_refl _)))
  exact ⟨d, xs, ep, hx, a, b⟩
theorem ddel_keys {κ : Type} [DecidableEq κ] {kvs : List (κ × V)} {k : κ} : (ddel kvs k).map (·.1) = (kvs.map (·.1)).filter fun x => !decide (x = k) := by
  unfold ddel
  rw [List.filter_map]
  rfl
theorem none_back {H H' : Hp} {a : Addr} (s : Same H H') (h : H' a = none) : H a = none := by
  cases e : H a with
  | none => rfl
  | some o => rw [s _ _ e] at h; cases h
theorem inj_W : ∀ a b : List Int, eW a = eW b → a = b := fun _ _ q => enc_W.inj q
end Lw
end
section
set_option Elab.async false
set_option linter.all false
set_option maxRecDepth 100000
set_option maxHeartbeats 2000000
/-! The defs that look into a guild. -/
namespace Lw
open PySem PySem.Spec PyProof.Rows L2
open Lk (Way Gd IsWay ltP)
section
variable {P : Program} {w : World} {K : PySem.W.Frag} {mg : Str → Option Value} {base : Heap}
theorem eG_inv {H : Hp} {v : V} {g : Gd} (h : Im K H v (eG g)) : Im K H v (.tuple [.int g.many, eRs g.roads, eT eWs g.likes]) := h
theorem sc_likes_of : FnScope ["guild", "house"] ["guild", "house"] (defScope s_likes_of) := ⟨rfl, rfl, rfl, by decide +kernel, rfl, by decide +kernel, by decide +kernel⟩
abbrev S_likes_of (P : Program) (w : World) (K : PySem.W.Frag) : Sp := Sp2 K eG eI eWs (fun g h => g.Ok ∧ ∃ n : Nat, h = n ∧ 1 ≤ n ∧ n < g.many) (fun g h => g.row h)
theorem w_likes_of (B : Bi mg) (D : Df K mg "likes_of" s_likes_of) : Has P w K mg base 1 "likes_of" ["guild", "house"] (S_likes_of P w K) := by
  refine D.has sc_likes_of (fun vs H Q E h => ?_) (fun _ _ _ _ _ _ us hl => match us, hl with | [_, _], _ => rfl) (fun f cdv A outer s H vs Q E hr h => ?_)
  rotate_left
  have nd := sc_likes_of.nd
  have hu := hr.units
  have hu0 := hr.units0
  have hu1 := hu_of hr
  refine ⟨_, (pss_one (ps_ret (pe_ix ix_D (pe_ix ix_D (pv 0) pe_int (fun _ _ => rfl)) (pe_op op_sub (pv 1) pe_int) (fun _ _ => rfl)))), ?_⟩
  rotate_left
  · obtain ⟨_, _, _, _, rfl, _⟩ := h
    rfl
  · obtain ⟨v, _, g, a, rfl, h1, h2, ⟨ok, n, rfl, n1, n2⟩, q⟩ := h
    cases h2
    refine ⟨_, rfl, _, 2, eT eWs g.likes, .inl (eG_inv h1), rfl, rfl, fun x hx => ?_⟩
    refine ⟨_, rfl, _, _, rfl, rfl, _, _, eWs (g.row n), .inl hx, rfl, ?_, fun y hy => q _ _ (Same.refl H) hy⟩
    exact atI_map (f := eWs) (atI_nn (by omega) (by rw [show ((n : Int) - 1).toNat = n - 1 by omega]; exact ok.row_eq n1 n2))
theorem flat_Ws (l : List Way) : flat (eWs l) = true := flat_tup flat_W l
def innerT : PyData → List PyData
  | .tuple ds => ds
  | .list ds => ds
  | _ => []
theorem srtb_W (l : List Way) (h : ∀ w ∈ l, w ≠ []) : Srtb eW l := .inl fun w hw => by
  cases w with
  | nil => exact absurd rfl (h _ hw)
  | cons a r => exact ⟨_, _, rfl⟩
theorem flatMap_eWs (l : List (List Way)) : ((l.map eWs).flatMap fun d => (innerT d).filterMap fun e => some e) = l.flatten.map eW := by
  induction l with
  | nil => rfl
  | cons a l ih =>
    rw [List.map_cons, List.flatMap_cons, ih, List.flatten_cons, List.map_append]
    congr 1
    show (a.map eW).filterMap some = _
    exact List.filterMap_some
theorem sc_all_ways : FnScope ["guild", "row", "way"] ["guild"] (defScope s_all_ways) := ⟨rfl, rfl, rfl, by decide +kernel, rfl, by decide +kernel, by decide +kernel⟩
abbrev S_all_ways (P : Program) (w : World) (K : PySem.W.Frag) : Sp := Sp1 K eG (eL eW) Gd.Ok (fun g => srt eW g.ways)
theorem w_all_ways (B : Bi mg) (D : Df K mg "all_ways" s_all_ways) : Has P w K mg base 1 "all_ways" ["guild"] (S_all_ways P w K) := by
  refine D.has sc_all_ways (fun vs H Q E h => ?_) (fun _ _ _ _ _ _ us hl => match us, hl with | [_], _ => rfl) (fun f cdv A outer s H vs Q E hr h => ?_)
  rotate_left
  have nd := sc_all_ways.nd
  have hu := hr.units
  have hu0 := hr.units0
  have hu1 := hu_of hr
  refine ⟨_, (pss_one (ps_ret (pe_callB (call_sortD hu) (by rfl) B.sorted (by decide +kernel) (pa_cons (pe_lc2 (g := (gName 1)) (tt := tYes) (wi1 := (iSeq K (tVar 1))) (g1 := (gName 2)) (tt1 := tYes) (vs1 := [2]) (te := (tVar 2)) rfl nd (pi_seq (pe_ix ix_D (pv 0) pe_int (fun _ _ => rfl))) (blkOk_by (own := [("row", 1), ("way", 2)]) (by rfl)) (by decide) (fun _ _ _ _ _ => (pg_name (i := 1) nd rfl (Or.inl rfl))) (fun _ _ _ _ _ => pts_nil) (fun _ _ _ _ _ => (pi_seq (pv 1))) (fun _ _ _ _ _ => (pg_name (i := 2) nd rfl (Or.inl rfl))) (fun _ _ _ _ _ => pts_nil) (fun _ _ _ _ _ => (pv 2))) pa_nil)))), ?_⟩
  rotate_left
  · obtain ⟨_, _, rfl, _⟩ := h
    rfl
  · obtain ⟨v, g, rfl, h1, ok, q⟩ := h
    refine ⟨_, rfl, _, 2, eT eWs g.likes, .inl (eG_inv h1), rfl, rfl, fun x hx => ?_⟩
    have hlen : g.ways.length < sizeLine := by have := ok.tot; rw [sizeLine_eq]; omega
    refine lc2_D (.inl hx) innerT (fun _ e => some e) (fun x σ => σ = [some v, some x, none]) ?_ ?_ ?_ ?_ ?_
    · rw [flatMap_eWs, List.length_map]; exact hlen
    · intro d hd
      obtain ⟨a, _, rfl⟩ := all_mem hd
      exact flatAll_map flat_W a
    · intro D d x H' QI hd s1 hN hN' hx' k
      obtain ⟨a, _, rfl⟩ := all_mem hd
      exact ⟨rfl, _, rfl, k _ _ _ rfl (Same.refl _) (.inl hx')⟩
    · intro D d e x u σ2 H' QT QF hd he hP s1 hN hN' _ hu kT kF
      obtain ⟨a, _, rfl⟩ := all_mem hd
      obtain ⟨b, _, rfl⟩ := all_mem he
      cases hP
      exact ⟨rfl, _, rfl, kT _ _ _ rfl (Same.refl _) (hu.stb (flat_W b))⟩
    · intro p H' s1 hp i1
      rw [flatMap_eWs] at i1
      refine ⟨_, _, eW, 1, g.ways, _, enc_W, by decide, srtb_W _ fun w hw => ?_, rfl, i1, fun p2 H2 s2 _ i2 => q _ _ (s1.trans s2) i2⟩
      obtain ⟨_, _, _, _, _, e, _⟩ := ok.house hw
      rw [e]; simp
theorem sc_is_liked_way : FnScope ["guild", "way"] ["guild", "way"] (defScope s_is_liked_way) := ⟨rfl, rfl, rfl, by decide +kernel, rfl, by decide +kernel, by decide +kernel⟩
abbrev S_is_liked_way (P : Program) (w : World) (K : PySem.W.Frag) : Sp := Sp2 K eG eW eB (fun g u => g.Ok ∧ u ≠ [] ∧ ∀ x ∈ u, 0 ≤ x ∧ x < g.many) (fun g u => decide (u ∈ g.ways))
theorem ways_head {g : Gd} (ok : g.Ok) {a : Int} {r : Way} (h : a :: r ∈ g.ways) : 0 < a ∧ a < g.many ∧ r ≠ [] ∧ a :: r ∈ g.row a := by
  obtain ⟨n, b, s, n1, n2, e, hm, _⟩ := ok.house h
  cases e
  exact ⟨by omega, by omega, by simp, hm⟩
theorem w_is_liked_way (B : Bi mg) (D : Df K mg "is_liked_way" s_is_liked_way) : Has P w K mg base 1 "is_liked_way" ["guild", "way"] (S_is_liked_way P w K) := by
  refine D.has sc_is_liked_way (fun vs H Q E h => ?_) (fun _ _ _ _ _ _ us hl => match us, hl with | [_, _], _ => rfl) (fun f cdv A outer s H vs Q E hr h => ?_)
  rotate_left
  have nd := sc_is_liked_way.nd
  have hu := hr.units
  have hu0 := hr.units0
  have hu1 := hu_of hr
  refine ⟨_, (pss_one (ps_ret (pe_and (pe_cmpR op_gt (pe_callB call_lenD (by rfl) B.len (by decide +kernel) (pa_cons (pv 1) pa_nil)) pe_int (nomark _)) (pe_and (pe_chain op_lt op_lt pe_int (pe_ix ix_D (pv 1) pe_int (fun _ _ => rfl)) (pe_ix ix_D (pv 0) pe_int (fun _ _ => rfl))) (pe_one (pe_cmpR (op_inE hu) (pv 1) (pe_ix ix_D (pe_ix ix_D (pv 0) pe_int (fun _ _ => rfl)) (pe_op op_sub (pe_ix ix_D (pv 1) pe_int (fun _ _ => rfl)) pe_int) (fun _ _ => rfl)) (by rfl))))))), ?_⟩
  rotate_left
  · obtain ⟨_, _, _, _, rfl, _⟩ := h
    rfl
  · obtain ⟨v, v2, g, u, rfl, h1, h2, ⟨ok, hne, hr⟩, q⟩ := h
    obtain ⟨a, r, rfl⟩ : ∃ a r, u = a :: r := by cases u with
      | nil => exact absurd rfl hne
      | cons a r => exact ⟨a, r, rfl⟩
    obtain ⟨a1, a2⟩ := hr a List.mem_cons_self
    have fin : ∀ {H' : Hp}, Same H H' → decide (a :: r ∈ g.ways) = false → Q (.bl false) H' := fun s' e => q _ _ s' (by show Im K _ _ (eB (decide (a :: r ∈ g.ways))); rw [e]; exact .bl false)
    refine ⟨_, rfl, _, _, rfl, .inl h2, _, _, rfl, rfl, _, rfl, ?_⟩
    by_cases hr0 : r = []
    · subst hr0
      refine ifF (by simp) (fin (Same.refl H) (decide_eq_false fun c => (ways_head ok c).2.2.1 rfl))
    have hr1 : 0 < r.length := List.length_pos_iff.mpr hr0
    refine ifT (decide_eq_true (by simp; omega)) ?_
    refine ⟨_, rfl, _, 0, .int a, .inl h2, rfl, atI_map (f := eI) (atI_nn (a := a) (by decide) rfl), fun x hx => ?_⟩
    cases hx
    refine ⟨_, _, rfl, rfl, _, rfl, ?_⟩
    by_cases ha : a = 0
    · subst ha
      exact ifF rfl ⟨_, rfl, ifF rfl (fin (Same.refl H) (decide_eq_false fun c => by have := (ways_head ok c).1; omega))⟩
    refine ifT (decide_eq_true (by omega)) ⟨_, rfl, _, 0, .int (g.many : Int), .inl (eG_inv h1), rfl, rfl, fun x hx => ?_⟩
    cases hx
    refine ⟨_, _, rfl, rfl, _, rfl, ifT (decide_eq_true a2) ?_⟩
    refine ⟨_, rfl, _, rfl, _, 2, eT eWs g.likes, .inl (eG_inv h1), rfl, rfl, fun x hx => ?_⟩
    refine ⟨_, rfl, _, 0, .int a, .inl h2, rfl, atI_map (f := eI) (atI_nn (a := a) (by decide) rfl), fun y hy => ?_⟩
    cases hy
    refine ⟨_, _, rfl, rfl, _, _, eWs (g.row a), .inl hx, rfl, ?_, fun y hy => ?_⟩
    · refine atI_map (f := eWs) (atI_nn (by omega) ?_)
      have := ok.row_eq (h := a.toNat) (by omega) (by omega)
      rw [show (a - 1).toNat = a.toNat - 1 by omega, this, show ((a.toNat : Nat) : Int) = a by omega]
    · refine ⟨_, _, eW, 1, a :: r, g.row a, enc_W, by decide, h2, .inl hy, q _ _ (Same.refl H) (.b ?_)⟩
      rw [if_neg (by decide)]
      refine decide_eq_decide.mpr ⟨fun c => ?_, fun c => (ways_head ok c).2.2.2⟩
      have := ok.row_ways (h := a.toNat) (w := a :: r) (by omega) (by omega)
      rw [show ((a.toNat : Nat) : Int) = a by omega] at this
      exact this c
theorem sc_ends_of : FnScope ["way", "at"] ["way"] (defScope s_ends_of) := ⟨rfl, rfl, rfl, by decide +kernel, rfl, by decide +kernel, by decide +kernel⟩
/-- a new list is handed back -/
def Sp1n {α β : Type} (K : PySem.W.Frag) (e1 : α → PyData) (e : β → PyData) (ok : α → Prop) (f : α → β) : Sp := fun vs H Q _ => ∃ v1 a1, vs = [v1] ∧ Im K H v1 (e1 a1) ∧ ok a1 ∧ ∀ p H', Same H H' → H p = none → Im K H' (.ref p) (e (f a1)) → Q (.ref p) H'
abbrev S_ends_of (P : Program) (w : World) (K : PySem.W.Frag) : Sp := Sp1n K eW (eL eW) (fun u => u.length ≤ 1000) Lk.ends
theorem w_ends_of (B : Bi mg) (D : Df K mg "ends_of" s_ends_of) : Has P w K mg base 1 "ends_of" ["way"] (S_ends_of P w K) := by
  refine D.has sc_ends_of (fun vs H Q E h => ?_) (fun _ _ _ _ _ _ us hl => match us, hl with | [_], _ => rfl) (fun f cdv A outer s H vs Q E hr h => ?_)
  rotate_left
  have nd := sc_ends_of.nd
  have hu := hr.units
  have hu0 := hr.units0
  have hu1 := hu_of hr
  refine ⟨_, (pss_one (ps_ret (pe_lc (g := (gName 1)) (tt := tYes) (te := (tSl (rSlD K) (tVar 0) (tPart (tVar 1)) tNoPart)) rfl nd (pi_range2 (by rfl) B.range (pa_cons pe_int (pa_cons (pe_callB call_lenD (by rfl) B.len (by decide +kernel) (pa_cons (pv 0) pa_nil)) pa_nil))) (blkOk_by (own := [("at", 1)]) (by rfl)) (fun _ _ _ _ _ => (pg_name (i := 1) nd rfl (Or.inl rfl))) (fun _ _ _ _ _ => pts_nil) (fun _ _ _ _ _ => (pe_slice sl_D (pv 0) (po_some (pv 1)) po_none))))), ?_⟩
  rotate_left
  · obtain ⟨_, _, rfl, _⟩ := h
    rfl
  · obtain ⟨v, u, rfl, h1, hl, q⟩ := h
    have hlen : (u.map eI).length = u.length := List.length_map _
    refine ⟨_, rfl, _, _, rfl, .inl h1, _, _, rfl, ⟨by decide, by decide, by omega, by rw [hlen]; omega⟩, ?_⟩
    refine lc_R (K := K) (by rw [hlen]; exact small_line (by omega)) (fun i => some (eW (u.drop (i + 1)))) (fun D i H' QT QF hi s1 hN kT kF => ?_) (fun p H' s1 hp i1 => ?_)
    · refine ⟨rfl, _, rfl, _, rfl, _, rfl, .inl ⟨_, h1.same s1, fun y H2 s2 i2 => kT y H2 _ rfl s2 ?_⟩⟩
      rw [show (1 : Int) + (i : Int) = ((i + 1 : Nat) : Int) by omega, cutD_from, ← List.map_drop] at i2
      exact i2.stb (flat_W _)
    · refine q _ _ s1 hp ?_
      have e : (List.range (((u.map eI).length : Int) - 1).toNat).filterMap (fun i => some (eW (u.drop (i + 1)))) = (Lk.ends u).map eW := by
        rw [hlen]
        unfold Lk.ends
        rw [List.map_map, List.filterMap_eq_map', show ((u.length : Int) - 1).toNat = u.length - 1 by omega]
        rfl
      rw [e] at i1
      exact i1
def dropG (g : Gd) (ws : List Way) : Gd := { g with likes := g.likes.map fun row => row.filter fun w => !decide (w ∈ ws) }
theorem sc_dropped : FnScope ["guild", "ways", "many", "roads", "likes", "way", "gone", "row"] ["guild", "ways"] (defScope s_dropped) := ⟨rfl, rfl, rfl, by decide +kernel, rfl, by decide +kernel, by decide +kernel⟩
abbrev S_dropped (P : Program) (w : World) (K : PySem.W.Frag) : Sp := Sp2 K eG (eL eW) eG (fun g ws => g.Ok ∧ ws.length ≤ 1000) dropG
theorem w_dropped (B : Bi mg) (D : Df K mg "dropped" s_dropped) : Has P w K mg base 1 "dropped" ["guild", "ways"] (S_dropped P w K) := by
  refine D.has sc_dropped (fun vs H Q E h => ?_) (fun _ _ _ _ _ _ us hl => match us, hl with | [_, _], _ => rfl) (fun f cdv A outer s H vs Q E hr h => ?_)
  rotate_left
  have nd := sc_dropped.nd
  have hu := hr.units
  have hu0 := hr.units0
  have hu1 := hu_of hr
  refine ⟨_, (pss_cons (ps_asg (pv 0) (pg_tup (by rfl) (pgs_cons (pg_name (i := 2) nd rfl (Or.inl rfl)) (pgs_cons (pg_name (i := 3) nd rfl (Or.inl rfl)) (pgs_cons (pg_name (i := 4) nd rfl (Or.inl rfl)) pgs_nil))))) (pss_cons (ps_set (i := 6) nd rfl (Or.inr rfl) (pe_dcN (g := (gName 5)) (tt := tYes) (tk := (tVar 5)) (tv := (tC (.bl true))) hu rfl nd (pi_seq (pv 1)) (blkOk_by (own := [("way", 5)]) (by rfl)) (fun _ _ _ _ _ => ⟨(pg_name (i := 5) nd rfl (Or.inl rfl)), pts_nil, (pv 5), pe_bl⟩))) (pss_one (ps_ret (pe_tupD (pa_cons (pv 2) (pa_cons (pv 3) (pa_cons (pe_callTy call_tupD (by rfl) B.tuple (by decide +kernel) (pa_cons (pe_lc (g := (gName 7)) (tt := tYes) (te := (tCB (rTupD K) (tCons (tLc (iSeq K (tVar 7)) (gName 5) (tTest (tOp (rInN true P w K) (tVar 5) (tVar 6))) (tVar 5) [5]) tNil))) rfl nd (pi_seq (pv 4)) (blkOk_by (own := [("row", 7)]) (by rfl)) (fun _ _ _ _ _ => (pg_name (i := 7) nd rfl (Or.inl rfl))) (fun _ _ _ _ _ => pts_nil) (fun _ _ _ _ _ => (pe_callTy call_tupD (by rfl) B.tuple (by decide +kernel) (pa_cons (pe_lc (g := (gName 5)) (tt := (tTest (tOp (rInN true P w K) (tVar 5) (tVar 6)))) (te := (tVar 5)) rfl nd (pi_seq (pv 7)) (blkOk_by (own := [("way", 5)]) (by rfl)) (fun _ _ _ _ _ => (pg_name (i := 5) nd rfl (Or.inl rfl))) (fun _ _ _ _ _ => (pts_one (pt_cmpR (op_notInN hu) (pv 5) (pv 6) (by rfl)))) (fun _ _ _ _ _ => (pv 5))) pa_nil)))) pa_nil)) pa_nil)))))))), ?_⟩
  rotate_left
  · obtain ⟨_, _, _, _, rfl, _⟩ := h
    rfl
  · obtain ⟨v, v2, g, ws, rfl, h1, h2, ⟨ok, hl⟩, q⟩ := h
    obtain ⟨a, xs, rfl, hq, him⟩ := (eG_inv h1).tup_inv
    cases him with
    | cons i1 him =>
    cases him with
    | cons i2 him =>
    cases him with
    | cons i3 him =>
    cases him
    cases i1
    refine ⟨_, rfl, _, _, rfl, hq, rfl, _, _, rfl, _, _, rfl, _, _, rfl, rfl, ?_⟩
    refine ⟨_, rfl, dc_D (P := P) (w := w) (K := K) key_W (.inr h2) (by rw [sizeLine_eq]; omega) id (fun _ => .bool true) (fun D a x H' QT QF ha s1 hN hx k => ?_) (fun d H1 s1 hd1 df => ?_)⟩
    · exact ⟨rfl, _, rfl, k _ _ _ (Same.refl _) hx ((Im.bl true).stb rfl)⟩
    obtain ⟨kvs, hdn, hks⟩ := df.dn
    refine ⟨_, rfl, _, rfl, _, rfl, lc_T (.inl (i3.same s1)) (small_line (by have := ok.len; have := ok.hi; omega)) (fun row => some (eWs (row.filter fun u => !decide (u ∈ ws)))) (fun D row x H' QT QF hr' s2 hN hx kT kF => ?_) (fun p H2 s2 hp i4 => ?_)⟩
    · refine ⟨rfl, _, rfl, lc_T (.inl hx) (small_line ?_) (fun u => if u ∈ ws then none else some (eW u)) (fun D2 u y H3 QT2 QF2 hu3 s3 hN3 hy kT2 kF2 => ?_) (fun p H3 s3 hp i5 => ?_)⟩
      · obtain ⟨i, hi, e⟩ := List.getElem_of_mem hr'
        have := ok.row_eq (h := i + 1) (by omega) (by have := ok.len; omega)
        rw [show i + 1 - 1 = i by omega, List.getElem?_eq_getElem hi, e] at this
        rw [Option.some.inj this]
        exact Nat.le_trans (ok.rlen (i + 1) (by omega) (by have := ok.len; omega)) (by decide)
      · refine ⟨rfl, _, rfl, _, rfl, _, inferInstance, eW, u, d, kvs, key_W, hy, rfl, (hdn.same s2).same s3, _, rfl, ?_⟩
        have hd : dhas kvs u = decide (u ∈ ws) := by rw [dhas_mem, hks, List.map_id]; exact decide_eq_decide.mpr ddup_mem
        by_cases c : u ∈ ws
        · exact ifF (by rw [if_pos rfl, hd, decide_eq_true c]; rfl) (kF2 _ (if_pos c) (Same.refl _))
        · exact ifT (by rw [if_pos rfl, hd, decide_eq_false c]; rfl) ⟨_, rfl, kT2 _ _ _ (if_neg c) (Same.refl _) (hy.stb (flat_W u))⟩
      · have e : row.filterMap (fun u => if u ∈ ws then none else some (eW u)) = (row.filter fun u => !decide (u ∈ ws)).map eW := by
          clear hr' hx i5 kT kF
          induction row with
          | nil => rfl
          | cons u row ih => by_cases c : u ∈ ws <;> simp [c, ih]
        rw [e] at i5
        exact ⟨_, _, rfl, .inr i5, fun v4 H4 s4 i6 => kT _ _ _ rfl (s3.trans s4) (i6.stb (flat_Ws _))⟩
    · rw [show g.likes.filterMap (fun row => some (eWs (row.filter fun u => !decide (u ∈ ws)))) = (dropG g ws).likes.map eWs by
        show _ = (g.likes.map _).map eWs
        rw [List.map_map, List.filterMap_eq_map']; rfl] at i4
      refine ⟨_, _, rfl, .inr i4, fun v4 H4 s4 i5 => ⟨by show (3 : Nat) ≤ 1000; decide, _, .cons (.int _) (.cons (((i2.same s1).same s2).same s4) (.cons i5 .nil)), fun p2 H5 s5 _ i6 => q _ _ (((s1.trans s2).trans s4).trans s5) i6⟩⟩
end
end Lw
end
section
/-! More of guilds: all ways are told apart; dropping; orders and rings. -/
set_option autoImplicit false
namespace Lk
theorem Gd.Ok.ways_nodup {g : Gd} (k : g.Ok) : g.ways.Nodup := by
  unfold Gd.ways
  rw [List.nodup_iff_pairwise_ne, List.pairwise_flatten]
  have hl := k.len
  have rowi : ∀ i (hi : i < g.likes.length), g.likes[i] = g.row ((i + 1 : Nat) : Int) := fun i hi => by
    have q := k.row_eq (h := i + 1) (by omega) (by omega)
    rw [show i + 1 - 1 = i by omega, List.getElem?_eq_getElem hi] at q
    exact Option.some.inj q
  constructor
  · intro l hlm
    obtain ⟨i, hi, e⟩ := List.getElem_of_mem hlm
    rw [← List.nodup_iff_pairwise_ne, ← e, rowi i hi]
    exact k.rnd (i + 1) (by omega) (by omega)
  · rw [List.pairwise_iff_getElem]
    intro i j hi hj hij x hx y hy e
    rw [rowi i hi] at hx
    rw [rowi j hj] at hy
    have h1 := (k.way (i + 1) (by omega) (by omega) x hx).hd
    have h2 := (k.way (j + 1) (by omega) (by omega) y hy).hd
    rw [e, h2] at h1
    have := Option.some.inj h1
    omega
theorem ends_mem {w e : Way} (h : e ∈ ends w) : ∃ i, i + 1 < w.length ∧ e = w.drop (i + 1) := by
  unfold ends at h
  obtain ⟨i, hi, rfl⟩ := List.mem_map.mp h
  exact ⟨i, by have := List.mem_range.mp hi; omega, rfl⟩
theorem ends_ne {w e : Way} (h : e ∈ ends w) : e ≠ [] := by
  obtain ⟨i, hi, rfl⟩ := ends_mem h
  intro c
  have := congrArg List.length c
  rw [List.length_drop] at this
  simp at this
  omega
theorem ends_sub {w e : Way} (h : e ∈ ends w) {x : Int} (hx : x ∈ e) : x ∈ w := by
  obtain ⟨i, hi, rfl⟩ := ends_mem h
  exact List.mem_of_mem_drop hx
theorem ends_len {w : Way} : (ends w).length = w.length - 1 := by unfold ends; simp
theorem aheadOf_len {g : Gd} (k : g.Ok) {w : Way} (hw : w ∈ g.ways) : (aheadOf g w).length ≤ 1000 := by
  obtain ⟨n, b, r, n1, n2, e, hm, hx⟩ := k.house hw
  unfold aheadOf better
  rw [List.length_append]
  have h1 := List.length_filter_le (fun e => decide (e ∈ g.ways)) (ends w)
  rw [ends_len] at h1
  have h2 := hx.hi
  have h3 := k.hi
  have h4 := k.rlen n n1 n2
  have e2 : w.headD 0 = n := by rw [e]; rfl
  rw [e2]
  have h5 := List.length_take_le' ((g.row n).idxOf w) (g.row n)
  show (List.take ((g.row n).idxOf w) (g.row n)).length + _ ≤ _
  omega
/-- an order as far as it goes, and what is left -/
structure Part (g : Gd) (o l : List Way) : Prop where
  ndo : o.Nodup
  ndl : l.Nodup
  all : ∀ w, w ∈ g.ways ↔ w ∈ o ∨ w ∈ l
  dis : ∀ w, w ∈ o → w ∉ l
  beh : ∀ pre w post, o = pre ++ w :: post → ∀ x ∈ aheadOf g w, x ∈ pre
structure Placed (g : Gd) (o l : List Way) : Prop extends Part g o l where
  stuck : ∀ w ∈ l, ∃ x ∈ aheadOf g w, x ∈ l
theorem ahead_ways {g : Gd} (k : g.Ok) {w x : Way} (hw : w ∈ g.ways) (h : x ∈ aheadOf g w) : x ∈ g.ways := by
  unfold aheadOf at h
  rcases List.mem_append.mp h with h | h
  · obtain ⟨n, b, r, n1, n2, e, hm, _⟩ := k.house hw
    unfold better at h
    rw [e] at h
    exact k.row_ways n1 n2 (List.mem_of_mem_take h)
  · simpa using (List.mem_filter.mp h).2
theorem Part.zero {g : Gd} {l : List Way} (nd : l.Nodup) (h : ∀ w, w ∈ g.ways ↔ w ∈ l) : Part g [] l :=
  ⟨List.nodup_nil, nd, fun w => by simp [h], fun w q => (nomatch q), fun pre w post e => by simp at e⟩
theorem Part.step {g : Gd} (k : g.Ok) {o l : List Way} (p : Part g o l) {w : Way} (hw : w ∈ l) (h : ∀ x ∈ aheadOf g w, x ∉ l) : Part g (o ++ [w]) (l.filter fun x => !decide (x = w)) := by
  have hwo : w ∉ o := fun q => p.dis w q hw
  refine ⟨?_, p.ndl.filter _, fun x => ?_, fun x hx => ?_, fun pre x post e y hy => ?_⟩
  · rw [List.nodup_append]
    exact ⟨p.ndo, by simp, fun a ha b hb q => by rw [List.mem_singleton.mp hb] at q; rw [q] at ha; exact hwo ha⟩
  · rw [p.all x]
    simp only [List.mem_append, List.mem_singleton, List.mem_filter, Bool.not_eq_true', decide_eq_false_iff_not]
    constructor
    · rintro (a | a)
      · exact .inl (.inl a)
      · by_cases c : x = w
        · exact .inl (.inr c)
        · exact .inr ⟨a, c⟩
    · rintro ((a | a) | ⟨a, _⟩)
      · exact .inl a
      · rw [a]; exact .inr hw
      · exact .inr a
  · intro q
    obtain ⟨q1, q2⟩ := List.mem_filter.mp q
    rcases List.mem_append.mp hx with a | a
    · exact p.dis x a q1
    · rw [List.mem_singleton.mp a] at q2; simp at q2
  · rcases List.append_eq_append_iff.mp e with ⟨as, e1, e2⟩ | ⟨cs, e1, e2⟩
    · cases as with
      | nil =>
        rw [List.append_nil] at e1
        rw [List.nil_append] at e2
        cases e2
        rw [e1]
        have yw := ahead_ways k ((p.all w).mpr (.inr hw)) hy
        exact ((p.all y).mp yw).resolve_right (h y hy)
      | cons a as =>
        have := congrArg List.length e2
        simp at this
    · cases cs with
      | nil =>
        rw [List.nil_append] at e2
        have e3 := List.cons.inj e2
        rw [e3.1] at hy
        have yw := ahead_ways k ((p.all w).mpr (.inr hw)) hy
        rw [List.append_nil] at e1
        rw [← e1]
        exact ((p.all y).mp yw).resolve_right (h y hy)
      | cons c cs =>
        have e3 := List.cons.inj e2
        rw [e3.1] at hy
        exact p.beh pre c cs e1 y hy
theorem Placed.done {g : Gd} {o l oo : List Way} (k : g.Ok) (p : Placed g o l) (io : IsOrd g oo) : l = [] := by
  -- no member of oo is in l: by the place in oo
  have key : ∀ n pre w post, pre.length = n → oo = pre ++ w :: post → w ∉ l := by
    intro n
    induction n using Nat.strongRecOn with
    | ind n ih =>
      intro pre w post hn e hw
      obtain ⟨x, hx, hxl⟩ := p.stuck w hw
      have hxp := io.beh pre w post e x hx
      obtain ⟨a, b, e2⟩ := List.append_of_mem hxp
      exact ih a.length (by rw [← hn, e2]; simp) a x (b ++ w :: post) rfl (by rw [e, e2]; simp) hxl
  refine List.eq_nil_iff_forall_not_mem.mpr fun w hw => ?_
  have hm := (io.all w).mpr ((p.all w).mpr (.inr hw))
  obtain ⟨a, b, e⟩ := List.append_of_mem hm
  exact key _ a w b rfl e hw
theorem Placed.ord {g : Gd} {o : List Way} (p : Placed g o []) : IsOrd g o := ⟨p.ndo, fun w => by rw [p.all w]; simp, p.beh⟩
/-- the steps from a spoke: a better one of its house, and one of its ends that is liked -/
def stepsOf (g : Gd) (w : Way) : List (Way × Way) := (better g w).flatMap fun u => ((ends u).filter fun e => decide (e ∈ g.ways)).map fun e => (u, e)
theorem better_len {g : Gd} (k : g.Ok) {w : Way} (hw : w ∈ g.ways) : (better g w).length ≤ 6 := by
  obtain ⟨n, b, r, n1, n2, e, hm, hx⟩ := k.house hw
  unfold better
  have h4 := k.rlen n n1 n2
  have e2 : w.headD 0 = n := by rw [e]; rfl
  rw [e2]
  have h5 := List.length_take_le' ((g.row n).idxOf w) (g.row n)
  show (List.take ((g.row n).idxOf w) (g.row n)).length ≤ _
  omega
theorem better_ways {g : Gd} (k : g.Ok) {w u : Way} (hw : w ∈ g.ways) (h : u ∈ better g w) : u ∈ g.ways := by
  refine ahead_ways k hw ?_
  unfold aheadOf
  exact List.mem_append_left _ h
theorem steps_mem {g : Gd} {w u e : Way} : (u, e) ∈ stepsOf g w ↔ u ∈ better g w ∧ e ∈ ends u ∧ e ∈ g.ways := by
  unfold stepsOf
  simp only [List.mem_flatMap, List.mem_map, List.mem_filter, decide_eq_true_eq]
  constructor
  · rintro ⟨a, ha, b, ⟨h1, h2⟩, e⟩
    cases e
    exact ⟨ha, h1, h2⟩
  · rintro ⟨h1, h2, h3⟩
    exact ⟨u, h1, e, ⟨h2, h3⟩, rfl⟩
theorem flatMap_len {α β : Type} {f : α → List β} {n : Nat} : ∀ {l : List α}, (∀ a ∈ l, (f a).length ≤ n) → (l.flatMap f).length ≤ l.length * n
  | [], _ => by simp
  | a :: l, h => by
    rw [List.flatMap_cons, List.length_append, List.length_cons, Nat.succ_mul]
    have h1 := h a List.mem_cons_self
    have h2 := flatMap_len (l := l) fun b hb => h b (List.mem_cons_of_mem _ hb)
    omega
theorem stepsOf_len {g : Gd} (k : g.Ok) {w : Way} (hw : w ∈ g.ways) : (stepsOf g w).length ≤ 36 := by
  unfold stepsOf
  have h1 := flatMap_len (n := 6) (l := better g w) (f := fun u => ((ends u).filter fun e => decide (e ∈ g.ways)).map fun e => (u, e)) fun u hu => by
    rw [List.length_map]
    refine Nat.le_trans (List.length_filter_le _ _) ?_
    rw [ends_len]
    obtain ⟨n, b, r, n1, n2, e, hm, hx⟩ := k.house (better_ways k hw hu)
    have := hx.hi
    have := k.hi
    omega
  have h2 := better_len k hw
  omega
/-- from one spoke to another by steps -/
inductive Reach (g : Gd) (s : Way) : Way → Prop
  | one {u e : Way} : (u, e) ∈ stepsOf g s → Reach g s e
  | more {a u e : Way} : Reach g s a → (u, e) ∈ stepsOf g a → Reach g s e
theorem closed_no {g : Gd} {s : Way} {rd : List Way} (h0 : s ∈ rd) (h : ∀ k ∈ rd, ∀ p ∈ stepsOf g k, p.2 ≠ s ∧ p.2 ∈ rd) : ¬ Reach g s s := by
  have key : ∀ e, Reach g s e → e ∈ rd ∧ e ≠ s := fun e r => by
    induction r with
    | one q => exact ⟨(h s h0 _ q).2, (h s h0 _ q).1⟩
    | more r q ih => exact ⟨(h _ ih.1 _ q).2, (h _ ih.1 _ q).1⟩
  exact fun r => (key s r).2 rfl
/-- what a ring's pairs are -/
def InWays (g : Gd) (r : List (Way × Way)) : Prop := ∀ p ∈ r, p.1 ∈ g.ways ∧ p.2 ∈ g.ways
end Lk
end
section
set_option Elab.async false
set_option linter.all false
set_option maxRecDepth 100000
set_option maxHeartbeats 2000000
/-! What stands ahead of a way. -/
namespace Lw
open PySem PySem.Spec PyProof.Rows L2
open Lk (Way Gd IsWay ltP)
section
variable {P : Program} {w : World} {K : PySem.W.Frag} {mg : Str → Option Value} {base : Heap}
theorem sc_forerunners : FnScope ["guild", "found", "way", "row", "end"] ["guild"] (defScope s_forerunners) := ⟨rfl, rfl, rfl, by decide +kernel, rfl, by decide +kernel, by decide +kernel⟩
def S_forerunners (P : Program) (w : World) (K : PySem.W.Frag) : Sp := fun vs H Q _ => ∃ v g, vs = [v] ∧ Im K H v (eG g) ∧ g.Ok ∧ ∀ d H', Same H H' → H d = none → DF P w K eW H' d (srt eW g.ways) (fun k => eL eW (Lk.aheadOf g k)) → Q (.ref d) H'
theorem w_forerunners (B : Bi mg) (D : Df K mg "forerunners" s_forerunners) (hall_ways : Has P w K mg base 1 "all_ways" ["guild"] (S_all_ways P w K)) (hlikes_of : Has P w K mg base 1 "likes_of" ["guild", "house"] (S_likes_of P w K))
    (hends_of : Has P w K mg base 1 "ends_of" ["way"] (S_ends_of P w K)) (his_liked_way : Has P w K mg base 1 "is_liked_way" ["guild", "way"] (S_is_liked_way P w K)) : Has P w K mg base 2 "forerunners" ["guild"] (S_forerunners P w K) := by
  refine D.has sc_forerunners (fun vs H Q E h => ?_) (fun _ _ _ _ _ _ us hl => match us, hl with | [_], _ => rfl) (fun f cdv A outer s H vs Q E hr h => ?_)
  rotate_left
  have nd := sc_forerunners.nd
  have hu := hr.units
  have hu0 := hr.units0
  have hu1 := hu_of hr
  refine ⟨_, (pss_cons (ps_set (i := 1) nd rfl (Or.inl rfl) pe_newN) (pss_cons (ps_for (passes_of rfl) rfl (pi_seq (pe_has hall_ways hr (by decide) (pa_cons (pv 0) pa_nil))) (pg_name (i := 2) nd rfl (Or.inl rfl)) (pss_cons (ps_set (i := 3) nd rfl (Or.inl rfl) (pe_has hlikes_of hr (by decide) (pa_cons (pv 0) (pa_cons (pe_ix ix_D (pv 2) pe_int (fun _ _ => rfl)) pa_nil)))) (pss_one (ps_asg (pe_op op_catLD (pe_callTy call_listD (by rfl) B.list (by decide +kernel) (pa_cons (pe_slice sl_D (pv 3) po_none (po_some (pe_tm PySem.F.slot_tuple_index PySem.F.type_tuple_index (mt_indexT hu) (pv 3) (pa_cons (pv 2) pa_nil)))) pa_nil)) (pe_lc (g := (gName 4)) (tt := (tB (tCall (S_is_liked_way P w K) [] E0 (tCons (tVar 0) (tCons (tVar 4) tNil))))) (te := (tVar 4)) rfl nd (pi_seq (pe_has hends_of hr (by decide) (pa_cons (pv 2) pa_nil))) (blkOk_by (own := [("end", 4)]) (by rfl)) (fun _ _ _ _ _ => (pg_name (i := 4) nd rfl (Or.inl rfl))) (fun _ _ _ _ _ => (pts_one (pt_val (pe_has his_liked_way hr (by decide) (pa_cons (pv 0) (pa_cons (pv 4) pa_nil)))))) (fun _ _ _ _ _ => (pv 4)))) (pg_sub (pv 1) (pv 2) (set_N hu)))))) (pss_one (ps_ret (pv 1))))), ?_⟩
  rotate_left
  · obtain ⟨_, _, rfl, _⟩ := h
    rfl
  · obtain ⟨v, g, rfl, h1, ok, q⟩ := h
    intro d hd
    have s0 : Same H (upd H d (dN P w d [] 0)) := Same.new hd
    refine ⟨v, rfl, _, g, rfl, h1.same s0, ok, fun r H2 s2 i2 => ?_⟩
    have hnd : (srt eW g.ways).Nodup := (srt_perm _).nodup_iff.mpr ok.ways_nodup
    have hlen : (srt eW g.ways).length ≤ 9 := by rw [(srt_perm _).length_eq]; exact ok.tot
    have df0 : DF P w K eW H2 d [] (fun k => eL eW (Lk.aheadOf g k)) := DF.new.same s2
    refine for_LT i2 (fun i σ' H' => (∃ x y, σ' = [some v, some (.ref d), x, y, none]) ∧ Kp [d] H2 H' ∧ TK H2 H' ∧ DF P w K eW H' d ((srt eW g.ways).take i) (fun k => eL eW (Lk.aheadOf g k)))
      ⟨⟨none, none, rfl⟩, Kp.refl, TK.refl, df0⟩ (fun i σ' H' p a e => keep_lst i2 p.2.1 (fun b hb xs => by rw [List.mem_singleton.mp hb]; exact df0.nolst xs) a e) (fun i a x σ' H' ha hx p => ?_) (fun σ' H' p => ?_)
    · obtain ⟨⟨y1, y2, rfl⟩, kp, tk, df⟩ := p
      have hx := (hx.tk tk (flat_W a))
      have s4 := same_kp1 (s0.trans s2) kp hd
      have haw : a ∈ g.ways := (srt_perm (e := eW) _).mem_iff.mp (List.mem_of_getElem? ha)
      obtain ⟨h, b, r, n1, n2, ea, hm, hw⟩ := ok.house haw
      have hd0 : a.headD 0 = h := by rw [ea]; rfl
      refine ⟨_, rfl, _, rfl, _, 0, .int h, .inl hx, rfl, atI_map (f := eI) (atI_nn (a := (h : Int)) (by decide) (by rw [ea]; rfl)), fun z hz => ?_⟩
      cases hz
      refine ⟨_, _, g, (h : Int), rfl, h1.same s4, .int h, ⟨ok, h, rfl, n1, n2⟩, fun y3 H3 s5 i5 => ?_⟩
      obtain ⟨ry, xsr, ery, _⟩ := i5.tup_inv
      refine ⟨_, rfl, _, rfl, ⟨⟨ry, _, ery, by rw [← ery]; exact i5⟩, _, rfl, g.row h, a, x, rfl, i5, hx.same s5, hm, _, rfl, .inl ⟨_, i5, fun y6 H6 s6 i6 => ?_⟩⟩⟩
      rw [cutD_to, ← List.map_take] at i6
      refine ⟨_, _, rfl, .inl i6, fun p7 H7 s7 hp7 i7 => ?_⟩
      have hx7 := ((hx.same s5).same s6).same s7
      refine ⟨_, rfl, _, a, rfl, hx7, by have := hw.hi; have := ok.hi; omega, fun y8 H8 s8 f8 i8 => ?_⟩
      have hends : (Lk.ends a).length ≤ 5 := by
        unfold Lk.ends
        rw [List.length_map, List.length_range]
        have := hw.hi; have := ok.hi; omega
      have s48 := (((s4.trans s5).trans s6).trans s7).trans s8
      refine lc_T (.inr i8) (small_line (by omega)) (fun e => if decide (e ∈ g.ways) then some (eW e) else none) (fun D e y H9 QT QF he s9 hN hy kT kF => ?_) (fun p H9 s9 hp9 i9 => ?_)
      · refine ⟨rfl, _, rfl, _, rfl, _, _, g, e, rfl, h1.same (s48.trans s9), hy, ⟨ok, Lk.ends_ne he, fun z hz => hw.rng z (Lk.ends_sub he hz)⟩, fun y10 H10 s10 i10 => ?_⟩
        cases i10
        refine ⟨_, rfl, ?_⟩
        by_cases c : e ∈ g.ways
        · exact ifT (decide_eq_true c) ⟨_, rfl, kT _ _ _ (if_pos (decide_eq_true c)) s10 ((hy.same s10).stb (flat_W e))⟩
        · exact ifF (decide_eq_false c) (kF _ (if_neg (by simp [c])) s10)
      · have e1 : (Lk.ends a).filterMap (fun e => if decide (e ∈ g.ways) then some (eW e) else none) = ((Lk.ends a).filter fun e => decide (e ∈ g.ways)).map eW := filterMap_if (fun e => decide (e ∈ g.ways)) eW _
        rw [e1] at i9
        have hbt : (g.row h).take ((g.row h).idxOf a) = Lk.better g a := by unfold Lk.better; rw [hd0]
        rw [hbt] at i7
        refine ⟨_, _, (i7.same s8).same s9, i9, ?_, fun p10 H10 s10 hp10 i10 => ?_⟩
        · have h6 := ok.rlen h n1 n2
          rw [List.length_map, List.length_map, ← hbt]
          have := List.length_filter_le (fun e => decide (e ∈ g.ways)) (Lk.ends a)
          have := List.length_take_le ((g.row h).idxOf a) (g.row h)
          have := List.length_take_le' ((g.row h).idxOf a) (g.row h)
          omega
        rw [← List.map_append] at i10
        have i10 : Im K H10 (.ref p10) (eL eW (Lk.aheadOf g a)) := i10
        have s510 := ((((s5.trans s6).trans s7).trans s8).trans s9).trans s10
        obtain ⟨kvs, d1, d2, d3⟩ := (df.same s510).ex
        refine ⟨_, rfl, _, rfl, _, _, eW, a, d, kvs, key_W, rfl, d1, hx.same s510, ?_, fun H11 k11 t11 d11 => ⟨⟨_, _, rfl⟩, ?_, ?_, ?_⟩⟩
        · have hi := (List.getElem?_eq_some_iff.mp ha).1
          have e : kvs.length = i := by rw [← List.length_map (f := (·.1)), d2, List.length_take]; exact Nat.min_eq_left (Nat.le_of_lt hi)
          rw [e, sizeLine_eq]
          exact Nat.lt_of_lt_of_le hi (Nat.le_trans hlen (by decide))
        · exact (kp.trans s510.kp).trans k11
        · exact (tk.trans s510.tk).trans t11
        · rw [← dadd_take hnd ha]
          refine DF.put d2 d3 k11 t11 d11 (stb_list i10 (fun e => ?_) (flatAll_map flat_W _))
          rw [e] at hp10
          exact (df.same ((((s5.trans s6).trans s7).trans s8).trans s9)).ne_none hp10
    · obtain ⟨⟨y1, y2, rfl⟩, kp, tk, df⟩ := p
      rw [List.take_length] at df
      refine ⟨_, rfl, q d H' (same_kp1 (s0.trans s2) kp hd) hd df⟩
end
end Lw
end
section
set_option Elab.async false
set_option linter.all false
set_option maxRecDepth 100000
set_option maxHeartbeats 2000000
/-! The order, as far as it goes. -/
namespace Lw
open PySem PySem.Spec PyProof.Rows L2
open Lk (Way Gd IsWay ltP)
section
variable {P : Program} {w : World} {K : PySem.W.Frag} {mg : Str → Option Value} {base : Heap}
theorem sc_placed : FnScope ["guild", "ahead", "order", "way", "left", "ready", "least", "other"] ["guild"] (defScope s_placed) := ⟨rfl, rfl, rfl, by decide +kernel, rfl, by decide +kernel, by decide +kernel⟩
def S_placed (P : Program) (w : World) (K : PySem.W.Frag) : Sp := fun vs H Q _ => ∃ v g, vs = [v] ∧ Im K H v (eG g) ∧ g.Ok ∧ ∀ o l T a b H', Lk.Placed g o l → Same H H' → H a = none → H b = none → SqT K H' T [.ref a, .ref b] → Im K H' (.ref a) (eL eW o) → Im K H' (.ref b) (eL eW l) → Q (.ref T) H'
theorem w_placed (B : Bi mg) (D : Df K mg "placed" s_placed) (hforerunners : Has P w K mg base 2 "forerunners" ["guild"] (S_forerunners P w K)) : Has P w K mg base 3 "placed" ["guild"] (S_placed P w K) := by
  refine D.has sc_placed (fun vs H Q E h => ?_) (fun _ _ _ _ _ _ us hl => match us, hl with | [_], _ => rfl) (fun f cdv A outer s H vs Q E hr h => ?_)
  rotate_left
  have nd := sc_placed.nd
  have hu := hr.units
  have hu0 := hr.units0
  have hu1 := hu_of hr
  refine ⟨_, (pss_cons (ps_set (i := 1) nd rfl (Or.inr rfl) (pe_has hforerunners hr (by decide) (pa_cons (pv 0) pa_nil))) (pss_cons (ps_set (i := 2) nd rfl (Or.inl rfl) (pe_lstD pa_nil)) (pss_cons (ps_set (i := 4) nd rfl (Or.inr rfl) (pe_dcN (g := (gName 3)) (tt := tYes) (tk := (tVar 3)) (tv := (tC (.bl true))) hu rfl nd (pi_N (pv 1)) (blkOk_by (own := [("way", 3)]) (by rfl)) (fun _ _ _ _ _ => ⟨(pg_name (i := 3) nd rfl (Or.inl rfl)), pts_nil, (pv 3), pe_bl⟩))) (pss_cons (ps_setLc (i := 5) (g := (gName 3)) (tt := (tTest (tOp (rEqE K) (tOp (rIxN P w K) (tVar 1) (tVar 3)) (tDispL K tNil)))) (te := (tVar 3)) rfl nd rfl rfl (sw_true rfl rfl rfl (by decide +kernel)) (pi_N (pv 4)) (blkOk_by (own := [("way", 3)]) (by rfl)) (fun _ _ _ _ _ => (pg_name (i := 3) nd rfl (Or.inl rfl))) (fun _ _ _ _ _ => (pts_one (pt_cmpR (op_eqE hu) (pe_ix (ix_N hu) (pv 1) (pv 3) (fun _ _ => rfl)) (pe_lstD pa_nil) (nomark _)))) (fun _ _ _ _ _ => (pv 3))) (pss_cons (ps_while (passes_of rfl) (pt_cmpR (op_neE hu) (pv 5) (pe_lstD pa_nil) (nomark _)) (pss_cons (ps_set (i := 6) nd rfl (Or.inl rfl) (pe_callB (call_minD rfl hu) (by rfl) B.min (by decide +kernel) (pa_cons (pv 5) pa_nil))) (pss_cons (ps_expr (pe_bm PySem.F.plainAttrs_list PySem.F.slot_list_append PySem.F.type_list_append mt_appD (pv 2) (pa_cons (pv 6) pa_nil))) (pss_cons (ps_expr (pe_nm PySem.F.slot_dict_pop PySem.F.type_dict_pop (mt_popN hu) (pv 4) (pa_cons (pv 6) pa_nil))) (pss_one (ps_setLc (i := 5) (g := (gName 3)) (tt := (tNot (tB (tCB (rAny K) (tCons (tLc (iSeq K (tOp (rIxN P w K) (tVar 1) (tVar 3))) (gName 7) tYes (tOp (rInN false P w K) (tVar 7) (tVar 4)) [7]) tNil))))) (te := (tVar 3)) rfl nd rfl rfl (sw_true rfl rfl rfl (by decide +kernel)) (pi_N (pv 4)) (blkOk_by (own := [("way", 3)]) (by rfl)) (fun _ _ _ _ _ => (pg_name (i := 3) nd rfl (Or.inl rfl))) (fun _ _ _ _ _ => (pts_one (pt_not (pt_val (pe_callB (cr_any rfl) (by rfl) B.any (by decide +kernel) (pa_cons (pe_lc (g := (gName 7)) (tt := tYes) (te := (tOp (rInN false P w K) (tVar 7) (tVar 4))) rfl nd (pi_seq (pe_ix (ix_N hu) (pv 1) (pv 3) (fun _ _ => rfl))) (blkOk_by (own := [("other", 7)]) (by rfl)) (fun _ _ _ _ _ => (pg_name (i := 7) nd rfl (Or.inl rfl))) (fun _ _ _ _ _ => pts_nil) (fun _ _ _ _ _ => (pe_cmpR (op_inN hu) (pv 7) (pv 4) (by rfl)))) pa_nil)))))) (fun _ _ _ _ _ => (pv 3)))))))) (pss_one (ps_ret (pe_tup (pa_cons (pv 2) (pa_cons (pe_callTy (call_listN rfl) (by rfl) B.list (by decide +kernel) (pa_cons (pv 4) pa_nil)) pa_nil)))))))))), ?_⟩
  rotate_left
  · obtain ⟨_, _, rfl, _⟩ := h
    rfl
  · obtain ⟨v, g, rfl, h1, ok, q⟩ := h
    refine ⟨_, rfl, _, g, rfl, h1, ok, fun dA HA sA0 fA df => ?_⟩
    obtain ⟨kA, hA, ekA⟩ := df.dn
    have hnd : (srt eW g.ways).Nodup := (srt_perm _).nodup_iff.mpr ok.ways_nodup
    have hlen : (srt eW g.ways).length ≤ 9 := by rw [(srt_perm _).length_eq]; exact ok.tot
    have hkl : kA.length ≤ 9 := by rw [← List.length_map (f := (·.1)), ekA]; exact hlen
    refine ⟨Nat.zero_le _, [], .nil, fun oL H1 s1 f1 i1 => ?_⟩
    refine ⟨_, rfl, dc_K' (P := P) (w := w) (K := K) key_W rfl (hA.same s1) (by omega) (fun _ => .bool true) (fun D k x H' QT QF hk s2 hN hx kT => ⟨rfl, _, rfl, kT _ _ _ (Same.refl _) hx ((Im.bl true).stb rfl)⟩) (fun dL H2 s2 f2 dl => ?_)⟩
    rw [ekA, ddup_id hnd] at dl
    obtain ⟨kL, hL, ekL⟩ := dl.dn
    have hkl2 : kL.length ≤ 9 := by rw [← List.length_map (f := (·.1)), ekL]; exact hlen
    refine ⟨_, rfl, lc_K rfl hL (by omega) (fun k => if decide (Lk.aheadOf g k = []) then some (eW k) else none) (fun D k x H' QT QF hk s3 hN hx kT kF => ?_) (fun r H3 s3 f3 i3 => ?_)⟩
    · obtain ⟨kvs, y, d1, d2, d3⟩ := ((df.same s1).same (s2.trans s3)).get (k := k) (by rw [ekL] at hk; exact hk)
      refine ⟨rfl, _, rfl, _, rfl, _, inferInstance, eW, k, dA, kvs, y, key_W, rfl, d1, hx, d2, Nat.zero_le _, [], .nil, fun p4 H4 s4 f4 i4 => ?_⟩
      refine ⟨_, inferInstance, eL eW, 2, Lk.aheadOf g k, [], enc_lst enc_W, by decide, d3.im.same s4, i4, _, rfl, ?_⟩
      by_cases c : Lk.aheadOf g k = []
      · exact ifT (decide_eq_true c) ⟨_, rfl, kT _ _ _ (if_pos (decide_eq_true c)) s4 ((hx.same s4).stb (flat_W k))⟩
      · exact ifF (decide_eq_false c) (kF _ (if_neg (by simp [c])) s4)
    rw [filterMap_if (fun k => decide (Lk.aheadOf g k = [])) eW, ekL] at i3
    have sA3 := (s1.trans s2).trans s3
    refine ⟨fun m σ' H' => ∃ o l rd kvs r y, σ' = [some v, some (.ref dA), some (.ref oL), none, some (.ref dL), some r, y, none] ∧ m = l.length ∧ Lk.Part g o l ∧ (∀ u, u ∈ rd ↔ u ∈ l ∧ ∀ x ∈ Lk.aheadOf g u, x ∉ l) ∧ Same HA H' ∧ Ls K H' oL (o.map eW) ∧ DN P w eW K H' dL kvs ∧ kvs.map (·.1) = l ∧ Im K H' r (eL eW rd),
      ⟨_, [], srt eW g.ways, _, kL, _, none, rfl, rfl, Lk.Part.zero hnd fun w => (srt_perm (e := eW) _).mem_iff.symm, fun u => ?_, sA3, ((i1.same s2).same s3).ls, hL.same s3, ekL, i3⟩, ?_⟩
    · rw [List.mem_filter]
      refine and_congr_right fun hu => ?_
      simp only [decide_eq_true_eq]
      constructor
      · intro e x hx; rw [e] at hx; cases hx
      · intro h
        refine List.eq_nil_iff_forall_not_mem.mpr fun x hx => h x hx ?_
        exact (srt_perm (e := eW) _).mem_iff.mpr (Lk.ahead_ways ok ((srt_perm (e := eW) _).mem_iff.mp hu) hx)
    rintro m σ' H' ⟨o, l, rd, kvs, r, y, rfl, rfl, pt, hrd, sA, lo, dn, ek, ir⟩
    refine ⟨_, rfl, Nat.zero_le _, [], .nil, fun p4 H4 s4 f4 i4 => ?_⟩
    refine ⟨_, inferInstance, eL eW, 2, rd, [], enc_lst enc_W, by decide, ir.same s4, i4, _, rfl, ?_⟩
    have sA4 := sA.trans s4
    by_cases c : rd = []
    · refine ifF (by simp [c]) ⟨_, rfl, _, rfl, _, _, eW, dL, kvs, key_W, rfl, dn.same s4, fun p5 H5 s5 f5 i5 => ?_⟩
      rw [show (kvs.map fun p => eW p.1) = l.map eW by rw [← ek, List.map_map]; rfl] at i5
      refine ⟨small_line (by show (2 : Nat) ≤ 1000000; decide), fun T fT => ?_⟩
      have sT : Same H5 (upd H5 T (.tup [.ref oL, .ref p5])) := Same.new fT
      refine q o l T oL p5 _ ⟨pt, fun u hu => ?_⟩ (sA0.trans ((((sA.trans s4).trans s5).trans sT))) (none_back sA0 f1) (none_back (sA0.trans (sA.trans s4)) f5) (SqT.of upd_same) ((((lo.same s4).same s5).same sT).im) (i5.same sT)
      have : u ∉ rd := by rw [c]; exact fun q => nomatch q
      rw [hrd u] at this
      refine Classical.byContradiction fun hno => this ⟨hu, fun x hx hxl => hno ⟨x, hx, hxl⟩⟩
    · refine ifT (by simp [c]) ⟨fun σ' H' => ∃ m', m' < l.length ∧ ∃ o l rd kvs r y, σ' = [some v, some (.ref dA), some (.ref oL), none, some (.ref dL), some r, y, none] ∧ m' = l.length ∧ Lk.Part g o l ∧ (∀ u, u ∈ rd ↔ u ∈ l ∧ ∀ x ∈ Lk.aheadOf g u, x ∉ l) ∧ Same HA H' ∧ Ls K H' oL (o.map eW) ∧ DN P w eW K H' dL kvs ∧ kvs.map (·.1) = l ∧ Im K H' r (eL eW rd), fun σ' H' h => h, ?_⟩
      refine ⟨_, rfl, _, inferInstance, eW, 1, rd, _, enc_W, by decide, fun a e => (nomatch e), c, rfl, ir.same s4, fun a x ha hx => ?_⟩
      obtain ⟨hal, hah⟩ := (hrd a).mp ha
      have lo4 := lo.same s4
      refine ⟨_, rfl, lo4.ty, _, rfl, oL, o.map eW, _, _, rfl, rfl, lo4, hx, ?_, ?_, fun H5 c5 => ?_⟩
      · rw [show o.map eW ++ [eW a] = (o ++ [a]).map eW by simp]
        exact flatAll_map flat_W _
      · rw [List.length_map]
        have := pt.ndo.length_le_of_subset (fun u hu => (pt.all u).mpr (.inl hu))
        have := ok.tot
        omega
      obtain ⟨k5, t5, l5⟩ := c5
      have sA5 := same_kp1 sA4 k5 f1
      have dn5 := (dn.same s4).kp flat_W k5 t5 (by simp only [List.mem_singleton]; intro e; obtain ⟨xs, z, _⟩ := lo4; rw [← e] at z; exact (dn.same s4).nolst _ z)
      have hx5 := hx.tk t5 (flat_W a)
      obtain ⟨z, hz⟩ := dget_some (kvs := kvs) (k := a) (by rw [ek]; exact hal)
      obtain ⟨xs5, ep5, g5, _⟩ := id dn5
      refine ⟨_, rfl, ⟨dL, xs5, ep5, rfl, g5⟩, _, rfl, _, inferInstance, eW, a, dL, kvs, _, z, key_W, rfl, rfl, dn5, hx5, hz, fun H6 k6 t6 dn6 => ?_⟩
      have sA6 := same_kp1 sA5 k6 (none_back s1 f2)
      have ek6 : (ddel kvs a).map (·.1) = l.filter fun x => !decide (x = a) := by rw [ddel_keys, ek]
      have pt6 := pt.step ok hal hah
      have l6 := l5.kp k6 t6 (by rw [show o.map eW ++ [eW a] = (o ++ [a]).map eW by simp]; exact flatAll_map flat_W _) (by simp only [List.mem_singleton]; intro e; obtain ⟨xs, z, _⟩ := l5; rw [e] at z; exact dn5.nolst _ z)
      have hll : l.length ≤ 9 := Nat.le_trans (pt.ndl.length_le_of_subset (fun u hu => (pt.all u).mpr (.inr hu))) ok.tot
      refine ⟨_, rfl, lc_K rfl dn6 (by rw [← List.length_map (f := (·.1)), ek6]; exact Nat.le_trans (List.length_filter_le _ _) (by omega)) (fun k => if (!(Lk.aheadOf g k).any fun x => decide (x ∈ l.filter fun x => !decide (x = a))) then some (eW k) else none) (fun D k x H' QT QF hk s7 hN hx kT kF => ?_) (fun r H7 s7 f7 i7 => ?_)⟩
      · rw [ek6] at hk
        have hk2 : k ∈ srt eW g.ways := (srt_perm (e := eW) _).mem_iff.mpr ((pt.all k).mpr (.inr (List.mem_filter.mp hk).1))
        obtain ⟨kv8, y8, d1, d2, d3⟩ := (df.same (sA6.trans s7)).get (k := k) hk2
        have hal6 : (Lk.aheadOf g k).length ≤ 1000 := Lk.aheadOf_len ok ((srt_perm (e := eW) _).mem_iff.mp hk2)
        refine ⟨rfl, _, rfl, _, rfl, _, inferInstance, eW, k, dA, kv8, y8, key_W, rfl, d1, hx, d2, ?_⟩
        refine lc_T (.inr d3.im) (small_line (by omega)) (fun x => some (.bool (decide (x ∈ l.filter fun x => !decide (x = a))))) (fun D2 x y H8 QT2 QF2 hxa s8 hN2 hy kT2 kF2 => ?_) (fun p9 H9 s9 f9 i9 => ?_)
        · refine ⟨rfl, _, rfl, _, rfl, _, inferInstance, eW, x, dL, ddel kvs a, key_W, hy, rfl, (dn6.same s7).same s8, kT2 _ _ _ rfl (Same.refl _) (Im.stb (.b ?_) rfl)⟩
          rw [if_neg (by decide), dhas_mem, ek6]
          exact decide_eq_decide.mpr Iff.rfl
        · rw [List.filterMap_eq_map'] at i9
          obtain ⟨b9, e9, q9⟩ := bools_of i9
          refine ⟨_, _, by rw [e9], q9, _, rfl, ?_⟩
          have eb : ((Lk.aheadOf g k).map fun x => decide (x ∈ l.filter fun x => !decide (x = a))).any id = (Lk.aheadOf g k).any fun x => decide (x ∈ l.filter fun x => !decide (x = a)) := by rw [List.any_map]; rfl
          rw [eb]
          cases c : (Lk.aheadOf g k).any fun x => decide (x ∈ l.filter fun x => !decide (x = a)) with
          | true => exact ifF rfl (kF _ (by rw [if_neg]; rw [c]; decide) s9)
          | false => exact ifT rfl ⟨_, rfl, kT _ _ _ (by rw [if_pos]; rw [c]; rfl) s9 ((hx.same s9).stb (flat_W k))⟩
      rw [filterMap_if (fun k => !(Lk.aheadOf g k).any fun x => decide (x ∈ l.filter fun x => !decide (x = a))) eW, ek6] at i7
      refine ⟨(l.filter fun x => !decide (x = a)).length, ?_, o ++ [a], l.filter fun x => !decide (x = a), _, ddel kvs a, _, _, rfl, rfl, pt6, fun u => ?_, sA6.trans s7, ?_, dn6.same s7, ek6, i7⟩
      · exact List.length_filter_lt_length_iff_exists.mpr ⟨a, hal, by simp⟩
      · rw [List.mem_filter]
        refine and_congr_right fun _ => ?_
        simp only [Bool.not_eq_true', List.any_eq_false, decide_eq_true_eq]
      · rw [List.map_append]
        exact l6.same s7
end
end Lw
end
section
set_option Elab.async false
set_option linter.all false
set_option maxRecDepth 100000
set_option maxHeartbeats 4000000
/-! A dict display of one pair, its key a tuple. -/
namespace Lw
open PySem PySem.Spec PyProof.Rows L2
section
variable {X : Cx}
def tNew1N (P : Program) (w : World) (K : PySem.W.Frag) (tk tv : TE) : TE := fun σ H Q => ∀ p, H p = none → tk σ (upd H p (dN P w p [] 0)) fun x H1 => tv σ H1 fun y H2 => ∃ (κ : Type) (_ : DecidableEq κ) (e : κ → PyData) (k : κ), KeyOk e ∧ Im K H2 x (e k) ∧ H2 p = some (dN P w p [] 0) ∧
  ∀ H', Kp [p] H2 H' → TK H2 H' → DN P w e K H' p [(k, y)] → Q (.ref p) H'
theorem pe_new1N {k v : Expr} {pos : Pos} {tk tv : TE} (hu : X.A.units + 64 < cLine) (hk : PE X k tk) (hv : PE X v tv) : PE X (.Dict [some k] [v] pos) (tNew1N X.prog X.w X.K tk tv) := by
  refine ⟨fun pins s σ H Q I q => ?_⟩
  have hn := I.hok.fresh (Nat.le_refl s.heap.objs.size)
  have I1 := I.laid (a := s.heap.objs.size) (o := dN X.prog X.w s.heap.objs.size [] 0) (h' := s.heap.push { cls := .type "dict", data := .dict #[] }) (t' := s.toks) (fun _ _ q => Heap.get?_push_of_some _ q) (Nat.le_refl _) (dn_empty s.heap I.big)
  refine wpAny_Dict_any rfl rfl (by simp) (by show (1 : Nat) ≤ 15; decide) (pairTrees_cons_walk (thn (hk.run pins _ σ _ _ I1 (q _ hn)) fun u s1 ⟨x, H1, I2, rx, q1⟩ => thn (hv.run pins s1 σ H1 _ I2 q1) fun r s2 ⟨y, H2, I3, ry, κ, _, e, kk, ok, hx, hp, q2⟩ => pairTrees_nil_walk ?_))
  obtain ⟨a, rfl⟩ := ok.ref hx
  cases rx
  have hH : DN X.prog X.w e X.K H2 s.heap.objs.size ([] : List (κ × V)) := ⟨[], 0, hp, .nil⟩
  have hm := dn_H (kvs := ([] : List (κ × V))) (e := e) ok I3 hp .nil
  unfold storeAll
  rw [List.forIn_cons]
  refine wpAny_bind (wpAny_bind (wpAny_dictSet_heap (knd := nestedKind X.prog X.w) (xs := []) (hsz := by rw [sizeLine_eq]; decide) (show X.A.units + 8 < cLine by omega) (ok.is I3 hx) hm fun h' hm' sb => wpAny_pure ?_))
  show wpAny _ _ (forIn [] PUnit.unit _) _ _ _
  rw [List.forIn_nil]
  refine wpAny_pure ?_
  obtain ⟨⟨o, es, z1, z2, z3, z4, z5, z6, hd⟩, _⟩ := I3.hok _ _ hp
  have p2 : Paired (RN X.K H2 e) [(kk, y)] (storedH [] (nk (e kk)) a r) := .cons ⟨rfl, hx, ry⟩ .nil
  obtain ⟨H', I', k1, k2, k3⟩ := dn_write (t' := _) ok I3 hp p2 (show (1 : Nat) ≤ sizeLine by rw [sizeLine_eq]; decide) hd hm' sb
  exact ⟨.ref _, H', I', rfl, q2 H' k1 k2 k3⟩
end
end Lw
end
section
set_option Elab.async false
set_option linter.all false
set_option maxRecDepth 100000
set_option maxHeartbeats 2000000
/-! The order; the steps between spokes. -/
namespace Lw
open PySem PySem.Spec PyProof.Rows L2
open Lk (Way Gd IsWay ltP)
section
variable {P : Program} {w : World} {K : PySem.W.Frag} {mg : Str → Option Value} {base : Heap}
theorem sc_first_order : FnScope ["guild", "order", "left"] ["guild"] (defScope s_first_order) := ⟨rfl, rfl, rfl, by decide +kernel, rfl, by decide +kernel, by decide +kernel⟩
def S_first_order (P : Program) (w : World) (K : PySem.W.Frag) : Sp := fun vs H Q _ => ∃ v g, vs = [v] ∧ Im K H v (eG g) ∧ g.Ok ∧ (∃ o, Lk.IsOrd g o) ∧ ∀ o r H', Lk.IsOrd g o → Same H H' → H r = none → Im K H' (.ref r) (eL eW o) → Q (.ref r) H'
theorem w_first_order (B : Bi mg) (D : Df K mg "first_order" s_first_order) (hplaced : Has P w K mg base 3 "placed" ["guild"] (S_placed P w K)) : Has P w K mg base 4 "first_order" ["guild"] (S_first_order P w K) := by
  refine D.has sc_first_order (fun vs H Q E h => ?_) (fun _ _ _ _ _ _ us hl => match us, hl with | [_], _ => rfl) (fun f cdv A outer s H vs Q E hr h => ?_)
  rotate_left
  have nd := sc_first_order.nd
  have hu := hr.units
  have hu0 := hr.units0
  have hu1 := hu_of hr
  refine ⟨_, (pss_cons (ps_asg (pe_has hplaced hr (by decide) (pa_cons (pv 0) pa_nil)) (pg_tup (by rfl) (pgs_cons (pg_name (i := 1) nd rfl (Or.inl rfl)) (pgs_cons (pg_name (i := 2) nd rfl (Or.inl rfl)) pgs_nil)))) (pss_cons (ps_if (pt_cmpR (op_neE hu) (pv 2) (pe_lstD pa_nil) (nomark _)) (pss_one ps_never) pss_nil) (pss_one (ps_ret (pv 1))))), ?_⟩
  rotate_left
  · obtain ⟨_, _, rfl, _⟩ := h
    rfl
  · obtain ⟨v, g, rfl, h1, ok, ⟨oo, io⟩, q⟩ := h
    refine ⟨_, rfl, _, g, rfl, h1, ok, fun o l T a b H1 pl s1 fa fb hq j1 j2 => ?_⟩
    obtain rfl := pl.done ok io
    refine ⟨_, _, rfl, hq, rfl, _, _, rfl, _, _, rfl, rfl, ?_⟩
    refine ⟨_, rfl, Nat.zero_le _, [], .nil, fun p2 H2 s2 f2 i2 => ?_⟩
    refine ⟨_, inferInstance, eL eW, 2, [], [], enc_lst enc_W, by decide, j2.same s2, i2, _, rfl, ?_⟩
    exact ifF rfl ⟨_, rfl, q o _ H2 pl.ord (s1.trans s2) fa (j1.same s2)⟩
abbrev eSt : Way × Way → PyData := eP eW eW
theorem flat_St (p : Way × Way) : flat (eSt p) = true := flat_pair flat_W flat_W p
theorem sc_spoke_steps : FnScope ["guild", "found", "spoke", "row", "better", "whole", "end"] ["guild"] (defScope s_spoke_steps) := ⟨rfl, rfl, rfl, by decide +kernel, rfl, by decide +kernel, by decide +kernel⟩
def S_spoke_steps (P : Program) (w : World) (K : PySem.W.Frag) : Sp := fun vs H Q _ => ∃ v g, vs = [v] ∧ Im K H v (eG g) ∧ g.Ok ∧ ∀ d H', Same H H' → H d = none → DF P w K eW H' d (srt eW g.ways) (fun k => eL eSt (Lk.stepsOf g k)) → Q (.ref d) H'
theorem w_spoke_steps (B : Bi mg) (D : Df K mg "spoke_steps" s_spoke_steps) (hall_ways : Has P w K mg base 1 "all_ways" ["guild"] (S_all_ways P w K)) (hlikes_of : Has P w K mg base 1 "likes_of" ["guild", "house"] (S_likes_of P w K))
    (hends_of : Has P w K mg base 1 "ends_of" ["way"] (S_ends_of P w K)) (his_liked_way : Has P w K mg base 1 "is_liked_way" ["guild", "way"] (S_is_liked_way P w K)) : Has P w K mg base 2 "spoke_steps" ["guild"] (S_spoke_steps P w K) := by
  refine D.has sc_spoke_steps (fun vs H Q E h => ?_) (fun _ _ _ _ _ _ us hl => match us, hl with | [_], _ => rfl) (fun f cdv A outer s H vs Q E hr h => ?_)
  rotate_left
  have nd := sc_spoke_steps.nd
  have hu := hr.units
  have hu0 := hr.units0
  have hu1 := hu_of hr
  refine ⟨_, (pss_cons (ps_set (i := 1) nd rfl (Or.inl rfl) pe_newN) (pss_cons (ps_for (passes_of rfl) rfl (pi_seq (pe_has hall_ways hr (by decide) (pa_cons (pv 0) pa_nil))) (pg_name (i := 2) nd rfl (Or.inl rfl)) (pss_cons (ps_set (i := 3) nd rfl (Or.inl rfl) (pe_has hlikes_of hr (by decide) (pa_cons (pv 0) (pa_cons (pe_ix ix_D (pv 2) pe_int (fun _ _ => rfl)) pa_nil)))) (pss_cons (ps_set (i := 4) nd rfl (Or.inl rfl) (pe_slice sl_D (pv 3) po_none (po_some (pe_tm PySem.F.slot_tuple_index PySem.F.type_tuple_index (mt_indexT hu) (pv 3) (pa_cons (pv 2) pa_nil))))) (pss_one (ps_asg (pe_lc2 (g := (gName 5)) (tt := tYes) (wi1 := (iSeq K (tCall (S_ends_of P w K) [] E0 (tCons (tVar 5) tNil)))) (g1 := (gName 6)) (tt1 := (tB (tCall (S_is_liked_way P w K) [] E0 (tCons (tVar 0) (tCons (tVar 6) tNil))))) (vs1 := [6]) (te := (tDispT K (tCons (tVar 5) (tCons (tVar 6) tNil)))) rfl nd (pi_seq (pv 4)) (blkOk_by (own := [("whole", 5), ("end", 6)]) (by rfl)) (by decide) (fun _ _ _ _ _ => (pg_name (i := 5) nd rfl (Or.inl rfl))) (fun _ _ _ _ _ => pts_nil) (fun _ _ _ _ _ => (pi_seq (pe_has hends_of hr (by decide) (pa_cons (pv 5) pa_nil)))) (fun _ _ _ _ _ => (pg_name (i := 6) nd rfl (Or.inl rfl))) (fun _ _ _ _ _ => (pts_one (pt_val (pe_has his_liked_way hr (by decide) (pa_cons (pv 0) (pa_cons (pv 6) pa_nil)))))) (fun _ _ _ _ _ => (pe_tupD (pa_cons (pv 5) (pa_cons (pv 6) pa_nil))))) (pg_sub (pv 1) (pv 2) (set_N hu))))))) (pss_one (ps_ret (pv 1))))), ?_⟩
  rotate_left
  · obtain ⟨_, _, rfl, _⟩ := h
    rfl
  · obtain ⟨v, g, rfl, h1, ok, q⟩ := h
    intro d hd
    have s0 : Same H (upd H d (dN P w d [] 0)) := Same.new hd
    refine ⟨v, rfl, _, g, rfl, h1.same s0, ok, fun r H2 s2 i2 => ?_⟩
    have hnd : (srt eW g.ways).Nodup := (srt_perm _).nodup_iff.mpr ok.ways_nodup
    have hlen : (srt eW g.ways).length ≤ 9 := by rw [(srt_perm _).length_eq]; exact ok.tot
    have df0 : DF P w K eW H2 d [] (fun k => eL eSt (Lk.stepsOf g k)) := DF.new.same s2
    refine for_LT i2 (fun i σ' H' => (∃ x y z, σ' = [some v, some (.ref d), x, y, z, none, none]) ∧ Kp [d] H2 H' ∧ TK H2 H' ∧ DF P w K eW H' d ((srt eW g.ways).take i) (fun k => eL eSt (Lk.stepsOf g k)))
      ⟨⟨none, none, none, rfl⟩, Kp.refl, TK.refl, df0⟩ (fun i σ' H' p a e => keep_lst i2 p.2.1 (fun b hb xs => by rw [List.mem_singleton.mp hb]; exact df0.nolst xs) a e) (fun i a x σ' H' ha hx p => ?_) (fun σ' H' p => ?_)
    · obtain ⟨⟨y1, y2, y3, rfl⟩, kp, tk, df⟩ := p
      have hx := (hx.tk tk (flat_W a))
      have s4 := same_kp1 (s0.trans s2) kp hd
      have haw : a ∈ g.ways := (srt_perm (e := eW) _).mem_iff.mp (List.mem_of_getElem? ha)
      obtain ⟨h, b, r, n1, n2, ea, hm, hw⟩ := ok.house haw
      have hd0 : a.headD 0 = h := by rw [ea]; rfl
      refine ⟨_, rfl, _, rfl, _, 0, .int h, .inl hx, rfl, atI_map (f := eI) (atI_nn (a := (h : Int)) (by decide) (by rw [ea]; rfl)), fun z hz => ?_⟩
      cases hz
      refine ⟨_, _, g, (h : Int), rfl, h1.same s4, .int h, ⟨ok, h, rfl, n1, n2⟩, fun y3 H3 s5 i5 => ?_⟩
      obtain ⟨ry, xsr, ery, _⟩ := i5.tup_inv
      refine ⟨_, rfl, _, rfl, ⟨⟨ry, _, ery, by rw [← ery]; exact i5⟩, _, rfl, g.row h, a, x, rfl, i5, hx.same s5, hm, _, rfl, .inl ⟨_, i5, fun y6 H6 s6 i6 => ?_⟩⟩⟩
      rw [cutD_to, ← List.map_take] at i6
      have hbt : (g.row h).take ((g.row h).idxOf a) = Lk.better g a := by unfold Lk.better; rw [hd0]
      rw [hbt] at i6
      have hx6 := (hx.same s5).same s6
      have s46 := (s4.trans s5).trans s6
      have heq : ((Lk.better g a).flatMap fun u => (Lk.ends u).filterMap fun e => if decide (e ∈ g.ways) then some (eSt (u, e)) else none) = (Lk.stepsOf g a).map eSt := by
        unfold Lk.stepsOf
        rw [List.map_flatMap]
        refine congrArg (fun z => List.flatMap z _) (funext fun u => ?_)
        rw [filterMap_if (fun e => decide (e ∈ g.ways)) (fun e => eSt (u, e)), List.map_map]
        rfl
      refine ⟨_, rfl, lc2_T inj_W inj_W (.inl i6) Lk.ends (fun u e => if decide (e ∈ g.ways) then some (eSt (u, e)) else none) (fun u σ => σ = [some v, some (.ref d), some x, some y3, some y6, some u, none]) ?_ flat_W ?_ ?_ ?_⟩
      · rw [heq, List.length_map, sizeLine_eq]
        exact Nat.lt_of_le_of_lt (Lk.stepsOf_len ok haw) (by decide)
      · intro D U u H7 QI hU s7 hN hN' hu k
        obtain ⟨_, _, _, _, _, _, _, hwU⟩ := ok.house (Lk.better_ways ok haw hU)
        refine ⟨rfl, _, rfl, _, U, rfl, hu, by have := hwU.hi; have := ok.hi; omega, fun y8 H8 s8 f8 i8 => k _ _ _ rfl s8 (.inr ⟨i8, fun e => ?_⟩)⟩
        cases e
        exact hN' f8
      · intro D U e u y σ2 H7 QT QF hU he hP s7 hN hN' hu hy kT kF
        cases hP
        obtain ⟨_, _, _, _, _, _, _, hwU⟩ := ok.house (Lk.better_ways ok haw hU)
        refine ⟨rfl, _, rfl, _, rfl, _, _, g, e, rfl, h1.same (s46.trans s7), hy, ⟨ok, Lk.ends_ne he, fun z hz => hwU.rng z (Lk.ends_sub he hz)⟩, fun y10 H10 s10 i10 => ?_⟩
        cases i10
        refine ⟨_, rfl, ?_⟩
        by_cases c : e ∈ g.ways
        · refine ifT (decide_eq_true c) ⟨_, rfl, _, rfl, ⟨by show (2 : Nat) ≤ 1000; decide, _, .cons (hu.same s10) (.cons (hy.same s10) .nil), fun p11 H11 s11 f11 i11 => kT _ _ _ (if_pos (decide_eq_true c)) (s10.trans s11) (i11.stb (flat_St (U, e)))⟩⟩
        · exact ifF (decide_eq_false c) (kF _ (if_neg (by simp [c])) s10)
      · intro p10 H10 s10 hp10 i10
        rw [heq] at i10
        have i10 : Im K H10 (.ref p10) (eL eSt (Lk.stepsOf g a)) := i10
        have s510 := (s5.trans s6).trans s10
        obtain ⟨kvs, d1, d2, d3⟩ := (df.same s510).ex
        refine ⟨_, rfl, _, rfl, _, _, eW, a, d, kvs, key_W, rfl, d1, hx.same s510, ?_, fun H11 k11 t11 d11 => ⟨⟨_, _, _, rfl⟩, ?_, ?_, ?_⟩⟩
        · have hi := (List.getElem?_eq_some_iff.mp ha).1
          have e : kvs.length = i := by rw [← List.length_map (f := (·.1)), d2, List.length_take]; exact Nat.min_eq_left (Nat.le_of_lt hi)
          rw [e, sizeLine_eq]
          exact Nat.lt_of_lt_of_le hi (Nat.le_trans hlen (by decide))
        · exact (kp.trans s510.kp).trans k11
        · exact (tk.trans s510.tk).trans t11
        · rw [← dadd_take hnd ha]
          refine DF.put d2 d3 k11 t11 d11 (stb_list i10 (fun e => ?_) (flatAll_map flat_St _))
          rw [e] at hp10
          exact (df.same (s5.trans s6)).ne_none hp10
    · obtain ⟨⟨y1, y2, y3, rfl⟩, kp, tk, df⟩ := p
      rw [List.take_length] at df
      exact ⟨_, rfl, q d H' (same_kp1 (s0.trans s2) kp hd) hd df⟩
end
end Lw
end
section
set_option Elab.async false
set_option linter.all false
set_option maxRecDepth 100000
set_option maxHeartbeats 4000000
/-! Dicts of tuple keys whose values are lists, each list its own. -/
namespace Lw
open PySem PySem.Spec PyProof.Rows L2
section
variable {P : Program} {w : World} {K : PySem.W.Frag} {κ : Type} [DecidableEq κ] {e : κ → PyData} {H H' : Hp} {d : Addr} {S : List Addr} {ks : List κ} {f : κ → List PyData}
def kvr (ks : List κ) (as : κ → Addr) : List (κ × V) := ks.map fun k => (k, .ref (as k))
theorem kvr_keys {as : κ → Addr} : (kvr ks as).map (·.1) = ks := by unfold kvr; rw [List.map_map]; exact List.map_id _
theorem kvr_get {as : κ → Addr} {k : κ} (h : k ∈ ks) : dget (kvr ks as) k = some (.ref (as k)) := by
  obtain ⟨v, hv⟩ := dget_some (kvs := kvr ks as) (k := k) (by rw [kvr_keys]; exact h)
  rw [hv]
  obtain ⟨x, hx, q⟩ := List.mem_map.mp (dget_mem hv)
  cases q
  rfl
theorem kvr_put {as : κ → Addr} {k : κ} {a : Addr} (h : k ∉ ks) : dput (kvr ks as) k (.ref a) = kvr (ks ++ [k]) (fun x => if x = k then a else as x) := by
  unfold dput
  rw [dhas_mem, kvr_keys, if_neg (by simp [h])]
  unfold kvr
  rw [List.map_append, List.map_singleton]
  simp only [if_true]
  refine congrArg (· ++ _) (List.map_congr_left fun x hx => ?_)
  have : x ≠ k := fun q => h (q ▸ hx)
  rw [if_neg this]
/-- each key's list at its own place, none of the places in S -/
def DL (P : Program) (w : World) (K : PySem.W.Frag) (e : κ → PyData) (H : Hp) (d : Addr) (S : List Addr) (ks : List κ) (f : κ → List PyData) (as : κ → Addr) : Prop :=
  DN P w e K H d (kvr ks as) ∧ (∀ k ∈ ks, Ls K H (as k) (f k) ∧ as k ∉ S ∧ flatAll (f k) = true) ∧ (∀ k ∈ ks, ∀ k' ∈ ks, as k = as k' → k = k') ∧ ks.Nodup
variable {as : κ → Addr}
theorem DL.dn (x : DL P w K e H d S ks f as) : DN P w e K H d (kvr ks as) := x.1
theorem DL.ls (x : DL P w K e H d S ks f as) {k : κ} (h : k ∈ ks) : Ls K H (as k) (f k) := (x.2.1 k h).1
theorem DL.ne_d (x : DL P w K e H d S ks f as) {k : κ} (h : k ∈ ks) : as k ≠ d := fun q => by
  obtain ⟨xs, h1, _⟩ := x.ls h
  rw [q] at h1
  exact x.dn.nolst xs h1
theorem DL.same (x : DL P w K e H d S ks f as) (s : Same H H') : DL P w K e H' d S ks f as := ⟨x.1.same s, fun k h => ⟨(x.ls h).same s, (x.2.1 k h).2⟩, x.2.2⟩
/-- changes at places of S -/
theorem DL.kp (x : DL P w K e H d S ks f as) (ok : KeyOk e) {S' : List Addr} (hS : ∀ a ∈ S', a ∈ S) (hd : d ∉ S') (k : Kp S' H H') (t : TK H H') : DL P w K e H' d S ks f as :=
  ⟨x.1.kp ok.flt k t hd, fun c h => ⟨(x.ls h).kp k t (x.2.1 c h).2.2 (fun m => (x.2.1 c h).2.1 (hS _ m)), (x.2.1 c h).2⟩, x.2.2⟩
/-- one more place that none of the lists is at -/
theorem DL.grow (x : DL P w K e H d S ks f as) {L : Addr} (hL : H L = none) : DL P w K e H d (L :: S) ks f as :=
  ⟨x.1, fun c h => ⟨x.ls h, fun m => by
    rcases List.mem_cons.mp m with q | q
    · exact (x.ls h).ne_none (by rw [q]; exact hL)
    · exact (x.2.1 c h).2.1 q, (x.2.1 c h).2.2⟩, x.2.2⟩
theorem DL.less (x : DL P w K e H d S ks f as) {S' : List Addr} (h : ∀ a ∈ S', a ∈ S) : DL P w K e H d S' ks f as := ⟨x.1, fun c hc => ⟨x.ls hc, fun m => (x.2.1 c hc).2.1 (h _ m), (x.2.1 c hc).2.2⟩, x.2.2⟩
theorem DL.new {p : Addr} : DL P w K e (upd H p (dN P w p [] 0)) p S ([] : List κ) f as := ⟨DN.new, fun _ h => (nomatch h), fun _ h => (nomatch h), List.nodup_nil⟩
/-- a new key with a list that no other key has -/
theorem DL.put (x : DL P w K e H d S ks f as) {k : κ} {a : Addr} {ds : List PyData} (hk : k ∉ ks) (hl : Ls K H a ds) (fl : flatAll ds = true) (ha : a ∉ S) (hne : ∀ c ∈ ks, as c ≠ a) (had : a ≠ d) (kp : Kp [d] H H') (tk : TK H H') (hd : DN P w e K H' d (dput (kvr ks as) k (.ref a))) :
    DL P w K e H' d S (ks ++ [k]) (fun c => if c = k then ds else f c) (fun c => if c = k then a else as c) := by
  rw [kvr_put hk] at hd
  refine ⟨hd, fun c hc => ?_, fun c hc c' hc' q => ?_, ?_⟩
  · by_cases q : c = k
    · simp only [if_pos q]
      exact ⟨hl.kp kp tk fl (by simpa using had), ha, fl⟩
    · simp only [if_neg q]
      have hc : c ∈ ks := by
        rcases List.mem_append.mp hc with h | h
        · exact h
        · exact absurd (List.mem_singleton.mp h) q
      exact ⟨(x.ls hc).kp kp tk (x.2.1 c hc).2.2 (by simpa using x.ne_d hc), (x.2.1 c hc).2⟩
  · have mem : ∀ {z : κ}, z ∈ ks ++ [k] → z ≠ k → z ∈ ks := fun {z} hz n => by
      rcases List.mem_append.mp hz with h | h
      · exact h
      · exact absurd (List.mem_singleton.mp h) n
    simp only at q
    by_cases q1 : c = k
    · by_cases q2 : c' = k
      · rw [q1, q2]
      · rw [if_pos q1, if_neg q2] at q
        exact absurd q.symm (hne c' (mem hc' q2))
    · by_cases q2 : c' = k
      · rw [if_neg q1, if_pos q2] at q
        exact absurd q (hne c (mem hc q1))
      · rw [if_neg q1, if_neg q2] at q
        exact x.2.2.1 c (mem hc q1) c' (mem hc' q2) q
  · rw [List.nodup_append]
    exact ⟨x.2.2.2, by simp, fun a ha b hb q => by rw [List.mem_singleton.mp hb] at q; rw [q] at ha; exact hk ha⟩
/-- a key's list changed -/
theorem DL.chg (x : DL P w K e H d S ks f as) (ok : KeyOk e) {k : κ} {es : List PyData} (hk : k ∈ ks) (fl : flatAll es = true) (c : Ch K (as k) es H H') : DL P w K e H' d S ks (fun c => if c = k then es else f c) as := by
  obtain ⟨kp, tk, l⟩ := c
  refine ⟨x.1.kp ok.flt kp tk (by simpa using (x.ne_d hk).symm), fun c hc => ?_, x.2.2⟩
  by_cases q : c = k
  · subst q
    simp only [if_true]
    exact ⟨l, (x.2.1 c hc).2.1, fl⟩
  · simp only [if_neg q]
    exact ⟨(x.ls hc).kp kp tk (x.2.1 c hc).2.2 (by simpa using fun z => q (x.2.2.1 c hc k hk z)), (x.2.1 c hc).2⟩
theorem DL.len (x : DL P w K e H d S ks f as) : (kvr ks as).length = ks.length := by unfold kvr; simp
end
theorem keep_ne {K : PySem.W.Frag} {H H' : Hp} {S : List Addr} {x : V} {ds : List PyData} (h : Im K H x (.list ds)) (k : Kp S H H') (hn : ∀ a ∈ S, x ≠ .ref a) (a : Addr) (e : x = .ref a) : H' a = H a := by
  subst e
  obtain ⟨xs, h1, _⟩ := h.ls
  rw [h1]
  exact k _ _ (fun m => hn a m rfl) h1
theorem same_two {K : PySem.W.Frag} {H H' H2 : Hp} {x : V} {ds : List PyData} (h : Im K H x (.list ds)) (s1 : Same H H') (s2 : Same H H2) (a : Addr) (e : x = .ref a) : H2 a = H' a := by
  subst e
  obtain ⟨xs, h1, _⟩ := h.ls
  rw [s1 _ _ h1, s2 _ _ h1]
theorem ImAll.uncons {K : PySem.W.Frag} {H : Hp} {xs : List V} {d : PyData} {ds : List PyData} (h : ImAll K H xs (d :: ds)) : ∃ x r, xs = x :: r ∧ Im K H x d ∧ ImAll K H r ds := by
  cases h with
  | cons a b => exact ⟨_, _, rfl, a, b⟩
theorem Im.ne_new {K : PySem.W.Frag} {H : Hp} {x : V} {ds : List PyData} (h : Im K H x (.list ds)) {a : Addr} (f : H a = none) : x ≠ .ref a := by
  rintro rfl
  exact h.ls.ne_none f
theorem Im.ne_dn {P : Program} {w : World} {K : PySem.W.Frag} {H : Hp} {κ : Type} [DecidableEq κ] {e : κ → PyData} {d : Addr} {kvs : List (κ × V)} {x : V} {ds : List PyData} (h : Im K H x (.list ds)) (n : DN P w e K H d kvs) : x ≠ .ref d := by
  rintro rfl
  obtain ⟨xs, h1, _⟩ := h.ls
  exact n.nolst xs h1
end Lw
end
section
set_option Elab.async false
set_option linter.all false
set_option maxRecDepth 100000
set_option maxHeartbeats 2000000
/-! A ring from a spoke. -/
namespace Lw
open PySem PySem.Spec PyProof.Rows L2
open Lk (Way Gd IsWay ltP)
/-- the search so far -/
structure Bfs (g : Gd) (s0 : Way) (rd rw : List Way) (f : Way → List (Way × Way)) : Prop where
  sub : ∀ k ∈ rd, k ∈ g.ways
  nd : rd.Nodup
  st : s0 ∈ rd
  row : ∀ k ∈ rw, k ∈ rd
  cls : ∀ k ∈ rd, k ∉ rw → ∀ p ∈ Lk.stepsOf g k, p.2 ≠ s0 ∧ p.2 ∈ rd
  len : ∀ k ∈ rd, (f k).length ≤ rd.length
  inw : ∀ k ∈ rd, Lk.InWays g (f k)
/-- the search within a row: i of its spokes done, and some steps of the next -/
structure Bmid (g : Gd) (s0 : Way) (rd rw : List Way) (i : Nat) (ps : List (Way × Way)) (rd2 lt : List Way) (f : Way → List (Way × Way)) : Prop where
  eq : rd2 = rd ++ lt
  sub : ∀ k ∈ rd2, k ∈ g.ways
  nd : rd2.Nodup
  cls : ∀ k ∈ rd, k ∉ rw.drop i → ∀ p ∈ Lk.stepsOf g k, p.2 ≠ s0 ∧ p.2 ∈ rd2
  len : ∀ k ∈ rd2, (f k).length ≤ rd2.length
  inw : ∀ k ∈ rd2, Lk.InWays g (f k)
  dn : ∀ p ∈ ps, p.2 ≠ s0 ∧ p.2 ∈ rd2
theorem Bfs.mid {g : Gd} {s0 : Way} {rd rw : List Way} {f : Way → List (Way × Way)} (b : Bfs g s0 rd rw f) : Bmid g s0 rd rw 0 [] rd [] f :=
  ⟨by simp, b.sub, b.nd, fun k hk h => b.cls k hk (by simpa using h), b.len, b.inw, fun p hp => (nomatch hp)⟩
theorem Bmid.skip {g : Gd} {s0 : Way} {rd rw : List Way} {i : Nat} {ps : List (Way × Way)} {rd2 lt : List Way} {f : Way → List (Way × Way)} (m : Bmid g s0 rd rw i ps rd2 lt f) {p : Way × Way} (h1 : p.2 ≠ s0) (h2 : p.2 ∈ rd2) : Bmid g s0 rd rw i (ps ++ [p]) rd2 lt f :=
  ⟨m.eq, m.sub, m.nd, m.cls, m.len, m.inw, fun x hx => by
    rcases List.mem_append.mp hx with a | a
    · exact m.dn x a
    · rw [List.mem_singleton.mp a]; exact ⟨h1, h2⟩⟩
theorem Bmid.add {g : Gd} {s0 : Way} {rd rw : List Way} {i : Nat} {ps : List (Way × Way)} {rd2 lt : List Way} {f : Way → List (Way × Way)} (m : Bmid g s0 rd rw i ps rd2 lt f) {p : Way × Way} {r : List (Way × Way)} (h1 : p.2 ≠ s0) (h2 : p.2 ∉ rd2) (hw : p.2 ∈ g.ways) (hl : r.length ≤ rd2.length + 1) (hi : Lk.InWays g r) :
    Bmid g s0 rd rw i (ps ++ [p]) (rd2 ++ [p.2]) (lt ++ [p.2]) (fun k => if k = p.2 then r else f k) := by
  have mem : ∀ {k : Way}, k ∈ rd2 ++ [p.2] → k ∈ rd2 ∨ k = p.2 := fun {k} h => (List.mem_append.mp h).imp id List.mem_singleton.mp
  refine ⟨by rw [m.eq, List.append_assoc], fun k hk => (mem hk).elim (m.sub k) fun e => by rw [e]; exact hw, ?_, fun k hk hd q hq => ⟨(m.cls k hk hd q hq).1, List.mem_append_left _ (m.cls k hk hd q hq).2⟩, fun k hk => ?_, fun k hk => ?_, fun x hx => ?_⟩
  · rw [List.nodup_append]
    exact ⟨m.nd, by simp, fun a ha b hb q => by rw [List.mem_singleton.mp hb] at q; rw [q] at ha; exact h2 ha⟩
  · rw [List.length_append, List.length_singleton]
    by_cases c : k = p.2
    · simp only [if_pos c]; exact hl
    · simp only [if_neg c]
      exact Nat.le_succ_of_le (m.len k ((mem hk).resolve_right c))
  · by_cases c : k = p.2
    · simp only [if_pos c]; exact hi
    · simp only [if_neg c]
      exact m.inw k ((mem hk).resolve_right c)
  · rcases List.mem_append.mp hx with a | a
    · exact ⟨(m.dn x a).1, List.mem_append_left _ (m.dn x a).2⟩
    · rw [List.mem_singleton.mp a]; exact ⟨h1, by simp⟩
theorem Bmid.next {g : Gd} {s0 : Way} {rd rw : List Way} {i : Nat} {a : Way} {rd2 lt : List Way} {f : Way → List (Way × Way)} (ha : rw[i]? = some a) (m : Bmid g s0 rd rw i (Lk.stepsOf g a) rd2 lt f) : Bmid g s0 rd rw (i + 1) [] rd2 lt f := by
  refine ⟨m.eq, m.sub, m.nd, fun k hk hd p hp => ?_, m.len, m.inw, fun p hp => (nomatch hp)⟩
  by_cases c : k = a
  · subst c; exact m.dn p hp
  · refine m.cls k hk (fun q => ?_) p hp
    obtain ⟨hi, e⟩ := List.getElem?_eq_some_iff.mp ha
    rw [List.drop_eq_getElem_cons hi, e] at q
    rcases List.mem_cons.mp q with q | q
    · exact c q
    · exact hd q
theorem Bmid.done {g : Gd} {s0 : Way} {rd rw : List Way} {f0 : Way → List (Way × Way)} {rd2 lt : List Way} {f : Way → List (Way × Way)} (b : Bfs g s0 rd rw f0) (m : Bmid g s0 rd rw rw.length [] rd2 lt f) : Bfs g s0 rd2 lt f := by
  refine ⟨m.sub, m.nd, by rw [m.eq]; exact List.mem_append_left _ b.st, fun k hk => by rw [m.eq]; exact List.mem_append_right _ hk, fun k hk hn p hp => ?_, m.len, m.inw⟩
  rw [m.eq] at hk
  rcases List.mem_append.mp hk with q | q
  · exact m.cls k q (by simp) p hp
  · exact absurd q hn
section
variable {P : Program} {w : World} {K : PySem.W.Frag} {mg : Str → Option Value} {base : Heap}
theorem sc_ring_from : FnScope ["steps", "start", "reached", "row", "later", "spoke", "whole", "end", "pairs"] ["steps", "start"] (defScope s_ring_from) := ⟨rfl, rfl, rfl, by decide +kernel, rfl, by decide +kernel, by decide +kernel⟩
def S_ring_from (P : Program) (w : World) (K : PySem.W.Frag) : Sp := fun vs H Q _ => ∃ dS x g s0, vs = [.ref dS, x] ∧ DF P w K eW H dS (srt eW g.ways) (fun k => eL eSt (Lk.stepsOf g k)) ∧ Im K H x (eW s0) ∧ g.Ok ∧ s0 ∈ g.ways ∧
  ∀ ring p H', Lk.InWays g ring → (ring = [] → ¬ Lk.Reach g s0 s0) → ring.length ≤ 10 → Same H H' → H p = none → Im K H' (.ref p) (eL eSt ring) → Q (.ref p) H'
theorem w_ring_from (B : Bi mg) (D : Df K mg "ring_from" s_ring_from) : Has P w K mg base 1 "ring_from" ["steps", "start"] (S_ring_from P w K) := by
  refine D.has sc_ring_from (fun vs H Q E h => ?_) (fun _ _ _ _ _ _ us hl => match us, hl with | [_, _], _ => rfl) (fun f cdv A outer s H vs Q E hr h => ?_)
  rotate_left
  have nd := sc_ring_from.nd
  have hu := hr.units
  have hu0 := hr.units0
  have hu1 := hu_of hr
  refine ⟨_, (pss_cons (ps_set (i := 2) nd rfl (Or.inl rfl) (pe_new1N hu (pv 1) (pe_lstD pa_nil))) (pss_cons (ps_set (i := 3) nd rfl (Or.inl rfl) (pe_lstD (pa_cons (pv 1) pa_nil))) (pss_cons (ps_while (passes_of rfl) (pt_cmpR (op_neE hu) (pv 3) (pe_lstD pa_nil) (nomark _)) (pss_cons (ps_set (i := 4) nd rfl (Or.inl rfl) (pe_lstD pa_nil)) (pss_cons (ps_for (passes_of rfl) rfl (pi_seq (pv 3)) (pg_name (i := 5) nd rfl (Or.inl rfl)) (pss_one (ps_for (passes_of rfl) rfl (pi_seq (pe_ix (ix_N hu) (pv 0) (pv 5) (fun _ _ => rfl))) (pg_tup (by rfl) (pgs_cons (pg_name (i := 6) nd rfl (Or.inl rfl)) (pgs_cons (pg_name (i := 7) nd rfl (Or.inl rfl)) pgs_nil))) (pss_cons (ps_set (i := 8) nd rfl (Or.inl rfl) (pe_op op_catLD (pe_ix (ix_N hu) (pv 2) (pv 5) (fun _ _ => rfl)) (pe_lstD (pa_cons (pe_tupD (pa_cons (pv 5) (pa_cons (pv 6) pa_nil))) pa_nil)))) (pss_cons (ps_if (pt_cmpR (op_eqE hu) (pv 7) (pv 1) (nomark _)) (pss_one (ps_ret (pv 8))) pss_nil) (pss_one (ps_if (pt_cmpR (op_notInN hu) (pv 7) (pv 2) (by rfl)) (pss_cons (ps_asg (pv 8) (pg_sub (pv 2) (pv 7) (set_N hu))) (pss_one (ps_expr (pe_bm PySem.F.plainAttrs_list PySem.F.slot_list_append PySem.F.type_list_append mt_appD (pv 4) (pa_cons (pv 7) pa_nil))))) pss_nil))))))) (pss_one (ps_set (i := 3) nd rfl (Or.inl rfl) (pv 4)))))) (pss_one (ps_ret (pe_lstD pa_nil)))))), ?_⟩
  rotate_left
  · obtain ⟨_, _, _, _, rfl, _⟩ := h
    rfl
  · obtain ⟨dS, x, g, s0, rfl, df, hx, ok, hs0, q⟩ := h
    intro dR fR
    have sR : Same H (upd H dR (dN P w dR [] 0)) := Same.new fR
    refine ⟨_, rfl, Nat.zero_le _, [], .nil, fun pE H1 s1 f1 i1 => ?_⟩
    refine ⟨_, inferInstance, eW, s0, key_W, (hx.same sR).same s1, s1 _ _ upd_same, fun H2 k2 t2 dn2 => ?_⟩
    have s02 : Same H H2 := same_kp1 (sR.trans s1) k2 fR
    have hpE : pE ≠ dR := fun e => by rw [e, upd_same] at f1; cases f1
    have dl2 : DL P w K eW H2 dR [] [s0] (fun k => ([] : List (Way × Way)).map eSt) (fun _ => pE) := by
      refine ⟨dn2, fun k hk => ⟨i1.ls.kp k2 t2 (by simp [flatAll]) (by simpa using hpE), by simp, by simp [flatAll]⟩, fun k hk k' hk' _ => ?_, by simp⟩
      rw [List.mem_singleton.mp hk, List.mem_singleton.mp hk']
    refine ⟨_, rfl, by show (1 : Nat) ≤ 1000; decide, [eW s0], .cons ((hx.same s02)) .nil, fun r3 H3 s3 f3 i3 => ?_⟩
    have s03 := s02.trans s3
    refine ⟨fun m σ' H' => ∃ rd rw f as r y4 y5 y6 y7 y8, σ' = [some (.ref dS), some x, some (.ref dR), some r, y4, y5, y6, y7, y8] ∧ m = 2 * (9 - rd.length) + (if rw = [] then 0 else 1) ∧ Bfs g s0 rd rw f ∧ Same H H' ∧ DL P w K eW H' dR [] rd (fun k => (f k).map eSt) as ∧ Im K H' r (eL eW rw),
      ⟨_, [s0], [s0], fun _ => [], fun _ => pE, _, none, none, none, none, none, rfl, rfl, ⟨by simpa using hs0, by simp, by simp, fun k hk => hk, fun k h1 h2 => absurd h1 h2, fun k _ => Nat.zero_le _, fun k _ p hp => (nomatch hp)⟩, s03, dl2.same s3, i3⟩, ?_⟩
    rintro m σ' H' ⟨rd, rw, f, as, r, y4, y5, y6, y7, y8, rfl, rfl, bf, sH, dl, ir⟩
    have hrd9 : rd.length ≤ 9 := Nat.le_trans (bf.nd.length_le_of_subset bf.sub) ok.tot
    refine ⟨_, rfl, Nat.zero_le _, [], .nil, fun p4 H4 s4 f4 i4 => ?_⟩
    refine ⟨_, inferInstance, eL eW, 2, rw, [], enc_lst enc_W, by decide, ir.same s4, i4, _, rfl, ?_⟩
    have sH4 := sH.trans s4
    by_cases c : rw = []
    · subst c
      refine ifF (by simp) ⟨Nat.zero_le _, [], .nil, fun p5 H5 s5 f5 i5 => ?_⟩
      exact q [] p5 H5 (fun p hp => (nomatch hp)) (fun _ => Lk.closed_no bf.st fun k hk => bf.cls k hk (by simp)) (by simp) (sH4.trans s5) (none_back sH4 f5) i5
    · refine ifT (by simp [c]) ⟨fun σ' H' => ∃ rd2 rw2 f as r y4 y5 y6 y7 y8, σ' = [some (.ref dS), some x, some (.ref dR), some r, y4, y5, y6, y7, y8] ∧ (rw2 = [] ∧ rd.length ≤ rd2.length ∨ rd.length < rd2.length) ∧ Bfs g s0 rd2 rw2 f ∧ Same H H' ∧ DL P w K eW H' dR [] rd2 (fun k => (f k).map eSt) as ∧ Im K H' r (eL eW rw2), fun σ' H' h => ?_, ?_⟩
      · obtain ⟨rd2, rw2, f2, as2, r2, z4, z5, z6, z7, z8, e1, hm, bf2, rest⟩ := h
        refine ⟨_, ?_, rd2, rw2, f2, as2, r2, z4, z5, z6, z7, z8, e1, rfl, bf2, rest⟩
        have := Nat.le_trans (bf2.nd.length_le_of_subset bf2.sub) ok.tot
        rw [if_neg c]
        rcases hm with ⟨hm1, hm2⟩ | hm
        · rw [if_pos hm1]; omega
        · split <;> omega
      refine ⟨Nat.zero_le _, [], .nil, fun L H5 s5 f5 i5 => ?_⟩
      have s45 := s4.trans s5
      have ir5 := ir.same s45
      have dl5 := (dl.same s4).grow f5
      have hLd : L ≠ dR := fun e => (dl.same s4).dn.ne_none (by rw [← e]; exact f5)
      have nrL : r ≠ .ref L := (ir.same s4).ne_new f5
      have nrD : r ≠ .ref dR := ir.ne_dn dl.dn
      refine ⟨_, rfl, for_LT ir5 (fun i σ' H' => ∃ rd2 lt f as y5 y6 y7 y8, σ' = [some (.ref dS), some x, some (.ref dR), some r, some (.ref L), y5, y6, y7, y8] ∧ Bmid g s0 rd rw i [] rd2 lt f ∧ Kp [dR, L] H5 H' ∧ TK H5 H' ∧ DL P w K eW H' dR [L] rd2 (fun k => (f k).map eSt) as ∧ Ls K H' L (lt.map eW))
        ⟨rd, [], f, as, y5, y6, y7, y8, rfl, bf.mid, Kp.refl, TK.refl, dl5.same s5, i5.ls⟩ (fun i σ' H' p a e => ?_) (fun i a y σ' H' ha hy p => ?_) (fun σ' H' p => ?_)⟩
      · obtain ⟨_, _, _, _, _, _, _, _, _, _, kp, _⟩ := p
        exact keep_ne ir5 kp (fun b hb => by simp only [List.mem_cons, List.not_mem_nil, or_false] at hb; rcases hb with e | e <;> rw [e] <;> assumption) a e
      · obtain ⟨rd2, lt, f2, as2, z5, z6, z7, z8, rfl, md, kp, tk, dl6, lL⟩ := p
        have haw := bf.sub a (bf.row a (List.mem_of_getElem? ha))
        have hard := bf.row a (List.mem_of_getElem? ha)
        have sH5 := sH.trans s45
        have back : ∀ {H' : Hp}, Kp [dR, L] H5 H' → Same H H' := fun kp => same_kp sH5 kp fun b hb => by
          simp only [List.mem_cons, List.not_mem_nil, or_false] at hb
          rcases hb with e | e
          · rw [e]; exact fR
          · rw [e]; exact none_back sH4 f5
        have sH' := back kp
        have hy' := hy.tk tk (flat_W a)
        obtain ⟨kvS, yS, q1, q2, q3⟩ := df.get (k := a) ((srt_perm (e := eW) _).mem_iff.mpr haw)
        have iS := q3.im.same sH'
        have nSL : yS ≠ .ref L := q3.im.ne_new (none_back sH4 f5)
        have nSD : yS ≠ .ref dR := q3.im.ne_new fR
        refine ⟨_, rfl, _, rfl, _, inferInstance, eW, a, dS, kvS, yS, key_W, rfl, q1.same sH', hy', q2, ?_⟩
        refine for_LT iS (fun j σ' H2 => ∃ rd2 lt f as y6 y7 y8, σ' = [some (.ref dS), some x, some (.ref dR), some r, some (.ref L), some y, y6, y7, y8] ∧ Bmid g s0 rd rw i ((Lk.stepsOf g a).take j) rd2 lt f ∧ Kp [dR, L] H5 H2 ∧ TK H' H2 ∧ DL P w K eW H2 dR [L] rd2 (fun k => (f k).map eSt) as ∧ Ls K H2 L (lt.map eW))
          ⟨rd2, lt, f2, as2, z6, z7, z8, rfl, md, kp, TK.refl, dl6, lL⟩ (fun j σ2 H2 p b e => ?_) (fun j p t σ2 H2 hp ht pp => ?_) (fun σ2 H2 pp => ?_)
        · obtain ⟨_, _, _, _, _, _, _, _, _, kp3, _⟩ := p
          exact same_two q3.im sH' (back kp3) b e
        · obtain ⟨rd3, lt3, f3, as3, x6, x7, x8, rfl, md3, kp3, tk3, dl3, lL3⟩ := pp
          have hy2 := hy'.tk tk3 (flat_W a)
          have sH2 := back kp3
          have hp2 : (p.1, p.2) ∈ Lk.stepsOf g a := List.mem_of_getElem? hp
          obtain ⟨hp3, hp4, hp5⟩ := Lk.steps_mem.mp hp2
          have hard3 : a ∈ rd3 := by rw [md3.eq]; exact List.mem_append_left _ hard
          have hrd9' : rd3.length ≤ 9 := Nat.le_trans (md3.nd.length_le_of_subset md3.sub) ok.tot
          have ht2 : Im K H2 t (eSt p) := ht.tk tk3 (flat_St p)
          obtain ⟨T, xs, rfl, hq, him⟩ := ht2.tup_inv
          cases him with
          | cons j1 him =>
          cases him with
          | cons j2 him =>
          cases him
          refine ⟨_, _, rfl, hq, rfl, _, _, rfl, _, _, rfl, rfl, ?_⟩
          refine ⟨_, rfl, _, rfl, _, inferInstance, eW, a, dR, _, _, key_W, rfl, dl3.dn, hy2, kvr_get hard3, ?_⟩
          refine ⟨_, rfl, _, rfl, by show (2 : Nat) ≤ 1000; decide, _, .cons hy2 (.cons j1 .nil), fun p7 H7 s7 f7 i7 => ⟨by show (1 : Nat) ≤ 1000; decide, _, .cons i7 .nil, fun p8 H8 s8 f8 i8 => ?_⟩⟩
          have s78 := s7.trans s8
          have lna := (dl3.ls hard3)
          refine ⟨_, _, (lna.same s78).im, i8, by have := md3.len a hard3; rw [List.length_map]; simp; omega, fun p9 H9 s9 f9 i9 => ?_⟩
          rw [show (f3 a).map eSt ++ [PyData.tuple [eW a, eW p.1]] = (f3 a ++ [(a, p.1)]).map eSt by rw [List.map_append]; rfl] at i9
          have s29 := s78.trans s9
          have hinw : Lk.InWays g (f3 a ++ [(a, p.1)]) := fun z hz => by
            rcases List.mem_append.mp hz with c | c
            · exact md3.inw a hard3 z c
            · rw [List.mem_singleton.mp c]; exact ⟨haw, Lk.better_ways ok haw hp3⟩
          have hlen9 : (f3 a ++ [(a, p.1)]).length ≤ rd3.length + 1 := by rw [List.length_append, List.length_singleton]; have := md3.len a hard3; omega
          refine ⟨_, rfl, _, rfl, _, inferInstance, eW, 1, p.2, s0, enc_W, by decide, j2.same s29, hx.same (sH2.trans s29), _, rfl, ?_⟩
          by_cases c0 : p.2 = s0
          · refine ifT (decide_eq_true c0) ⟨_, rfl, ?_⟩
            exact q _ p9 H9 hinw (fun e => by simp at e) (by omega) (sH2.trans s29) (none_back (sH2.trans s78) f9) i9
          refine ifF (decide_eq_false c0) ?_
          refine ⟨_, rfl, _, rfl, _, inferInstance, eW, p.2, dR, _, key_W, j2.same s29, rfl, (dl3.same s29).dn, _, rfl, ?_⟩
          have hdh : dhas (kvr rd3 as3) p.2 = decide (p.2 ∈ rd3) := by rw [dhas_mem, kvr_keys]; exact decide_eq_decide.mpr Iff.rfl
          by_cases c1 : p.2 ∈ rd3
          · refine ifF (by rw [if_pos rfl, hdh, decide_eq_true c1]; rfl) ?_
            refine ⟨rd3, lt3, f3, as3, _, _, _, rfl, ?_, kp3.trans s29.kp, tk3.trans s29.tk, dl3.same s29, lL3.same s29⟩
            rw [take_snoc hp]
            exact md3.skip c0 c1
          · refine ifT (by rw [if_pos rfl, hdh, decide_eq_false c1]; rfl) ?_
            have hp9L : p9 ≠ L := fun e => (lL3.same s78).ne_none (by rw [← e]; exact f9)
            have hp9D : p9 ≠ dR := fun e => (dl3.same s78).dn.ne_none (by rw [← e]; exact f9)
            refine ⟨_, rfl, _, rfl, _, rfl, _, inferInstance, eW, p.2, dR, _, key_W, rfl, (dl3.same s29).dn, j2.same s29, by rw [dl3.len, sizeLine_eq]; omega, fun H10 k10 t10 d10 => ?_⟩
            have dl10 := (dl3.same s29).put c1 i9.ls (flatAll_map flat_St _) (by simpa using hp9L) (fun k hk e => ((dl3.ls hk).same s78).ne_none (by rw [e]; exact f9)) hp9D k10 t10 d10
            have lL10 := (lL3.same s29).kp k10 t10 (flatAll_map flat_W _) (by simpa using hLd)
            have hj10 := (j2.same s29).tk t10 (flat_W p.2)
            have hltl : lt3.length ≤ 9 := by
              have := congrArg List.length md3.eq
              rw [List.length_append] at this
              omega
            refine ⟨_, rfl, lL10.ty, _, rfl, L, lt3.map eW, _, _, rfl, rfl, lL10, hj10, ?_, by rw [List.length_map]; omega, fun H11 c11 => ?_⟩
            · rw [show lt3.map eW ++ [eW p.2] = (lt3 ++ [p.2]).map eW by simp]
              exact flatAll_map flat_W _
            obtain ⟨k11, t11, l11⟩ := c11
            refine ⟨rd3 ++ [p.2], lt3 ++ [p.2], fun k => if k = p.2 then f3 a ++ [(a, p.1)] else f3 k, fun k => if k = p.2 then p9 else as3 k, _, _, _, rfl, ?_, ?_, ?_, ?_, ?_⟩
            · rw [take_snoc hp]
              exact md3.add c0 c1 hp5 hlen9 hinw
            · exact ((kp3.trans s29.kp).trans (k10.mono (by simp))).trans (k11.mono (by simp))
            · exact ((tk3.trans s29.tk).trans t10).trans t11
            · have := dl10.kp key_W (S' := [L]) (by simp) (by simpa using hLd.symm) k11 t11
              have e : (fun k => ((if k = p.2 then f3 a ++ [(a, p.1)] else f3 k) : List (Way × Way)).map eSt) = fun c => if c = p.2 then (f3 a ++ [(a, p.1)]).map eSt else (f3 c).map eSt := funext fun k => by split <;> rfl
              rw [e]
              exact this
            · rw [List.map_append]; exact l11
        · obtain ⟨rd3, lt3, f3, as3, x6, x7, x8, rfl, md3, kp3, tk3, dl3, lL3⟩ := pp
          rw [List.take_length] at md3
          exact ⟨rd3, lt3, f3, as3, _, _, _, _, rfl, md3.next ha, kp3, tk.trans tk3, dl3, lL3⟩
      · obtain ⟨rd2, lt, f2, as2, z5, z6, z7, z8, rfl, md, kp, tk, dl6, lL⟩ := p
        have bf2 := md.done bf
        have sH' : Same H H' := same_kp (sH.trans s45) kp fun b hb => by
          simp only [List.mem_cons, List.not_mem_nil, or_false] at hb
          rcases hb with e | e
          · rw [e]; exact fR
          · rw [e]; exact none_back sH4 f5
        refine ⟨_, rfl, rd2, lt, f2, as2, _, _, _, _, _, _, rfl, ?_, bf2, sH', dl6.less (by simp), lL.im⟩
        cases lt with
        | nil => exact .inl ⟨rfl, by rw [md.eq]; simp⟩
        | cons b lt => exact .inr (by rw [md.eq]; simp)
end
end Lw
end
section
set_option Elab.async false
set_option linter.all false
set_option maxRecDepth 100000
set_option maxHeartbeats 4000000
/-! Comprehensions whose items are told by a relation. -/
namespace Lw
open PySem PySem.Spec PyProof.Rows L2
section
variable {K : PySem.W.Frag} {g : TG} {tt : TT} {te : TE} {vs : List Nat} {σ : L2.St} {H1 : Hp} {Q : Addr → Hp → Prop} {J : It} {n : Nat} {G : Hp → Prop} {Y : Nat → Hp → V → Hp → Prop}
theorem lc_SR (w : Walk J n G Y) (hn : n ≤ sizeLine) (R : Nat → Option PyData → Prop) (hG : ∀ H', Same H1 H' → G H') (hY : ∀ i H x H', Y i H x H' → Same H H')
    (hs : ∀ D i x H H' (QT : VK) (QF : Hp → Prop), i < n → Same H1 H → H1 D = none → H D ≠ none → Y i H x H' → (∀ y H4 d, R i (some d) → Same H' H4 → Stb K D H4 y d → QT y H4) → (∀ H3, R i none → Same H' H3 → QF H3) →
      g x (wipe σ vs) H' fun σ2 H2 => wipe σ2 vs = wipe σ vs ∧ tt σ2 H2 fun b H3 => if b = true then te σ2 H3 QT else QF H3)
    (hd : ∀ p H' (os : List (Option PyData)), os.length = n → (∀ (i : Nat) (o : Option PyData), os[i]? = some o → R i o) → Same H1 H' → H1 p = none → Im K H' (.ref p) (.list (os.filterMap id)) → Q p H') : RLc g tt te vs σ Q J H1 := by
  have snoc : ∀ {i : Nat} {os : List (Option PyData)} {o : Option PyData}, os.length = i → (∀ j o, os[j]? = some o → R j o) → R i o → ∀ j o', (os ++ [o])[j]? = some o' → R j o' := fun {i os o} hl h ho j o' q => by
    rcases Nat.lt_trichotomy j os.length with c | c | c
    · rw [List.getElem?_append_left c] at q; exact h j o' q
    · rw [List.getElem?_append_right (by omega), c, Nat.sub_self] at q
      cases q
      rw [c, hl]; exact ho
    · rw [List.getElem?_eq_none (by simp; omega)] at q; cases q
  refine lc_walk w hn (fun D i acc H => Same H1 H ∧ ∃ os : List (Option PyData), os.length = i ∧ (∀ j o, os[j]? = some o → R j o) ∧ StbAll K D H acc (os.filterMap id)) (fun D hD => ⟨Same.new hD, [], rfl, fun j o q => by simp at q, fun _ _ _ => .nil⟩) (fun D i acc H _ p => hG H p.1)
    (fun D i acc x H H' QT QF hD hi e l p y kT kF => ?_) (fun D acc H hD e l p => ?_)
  · obtain ⟨s1, os, hl, hr, st⟩ := p
    have sy := hY i H x H' y
    have dne : ∀ b o, H1 b = some o → b ≠ D := fun b o q => ne_of_none q hD
    refine hs D i x H H' _ _ hi s1 hD (by rw [e]; simp) y (fun z H4 d hfd s4 hz => kT z H4 (s4 _ _ (sy _ _ e)) ⟨fun b o q => ?_, os ++ [some d], by simp [hl], snoc hl hr hfd, ?_⟩) (fun H3 hfn s3 => kF H3 (s3 _ _ (sy _ _ e)) ⟨(s1.trans sy).trans s3, os ++ [none], by simp [hl], snoc hl hr hfn, ?_⟩)
    · rw [upd_ne (dne b o q)]; exact s4 _ _ (sy _ _ (s1 _ _ q))
    · have tk : TK H4 (upd H4 D (.lst (acc ++ [z]))) := TK.upd (s4 _ _ (sy _ _ e)) (fun _ _ q => nomatch q)
      rw [List.filterMap_append]
      exact (((st.same sy).same s4).snoc hz).step Kp.upd tk
    · rw [List.filterMap_append]
      show StbAll K D H3 acc (os.filterMap id ++ [])
      rw [List.append_nil]
      exact (st.same sy).same s3
  · obtain ⟨s1, os, hl, hr, st⟩ := p
    exact hd D H os hl hr s1 hD (.lst e st.im)
end
section
variable {P : Program} {w : World} {K : PySem.W.Frag} {κ : Type} [DecidableEq κ] {e : κ → PyData} {g : TG} {tt : TT} {te : TE} {vs : List Nat} {σ : L2.St} {H1 : Hp} {Q : Addr → Hp → Prop} {d : Addr} {kvs : List (κ × V)}
/-- over a dict's keys -/
theorem lc_KR {x : V} (hx : x = .ref d) (hd : DN P w e K H1 d kvs) (hn : kvs.length ≤ 1000000) (R : κ → Option PyData → Prop)
    (hs : ∀ D k v H' (QT : VK) (QF : Hp → Prop), k ∈ kvs.map (·.1) → Same H1 H' → H1 D = none → H' D ≠ none → Im K H' v (e k) → (∀ y H4 b, R k (some b) → Same H' H4 → Stb K D H4 y b → QT y H4) → (∀ H3, R k none → Same H' H3 → QF H3) →
      g v (wipe σ vs) H' fun σ2 H2 => wipe σ2 vs = wipe σ vs ∧ tt σ2 H2 fun b H3 => if b = true then te σ2 H3 QT else QF H3)
    (hq : ∀ p H' (os : List (Option PyData)), os.length = (kvs.map (·.1)).length → (∀ (i : Nat) (k : κ) (o : Option PyData), (kvs.map (·.1))[i]? = some k → os[i]? = some o → R k o) → Same H1 H' → H1 p = none → Im K H' (.ref p) (.list (os.filterMap id)) → Q p H') :
    ∃ d xs ep, x = .ref d ∧ H1 d = some (dN P w d xs ep) ∧ RLc g tt te vs σ Q (ItN P w d xs ep) H1 := by
  subst hx
  obtain ⟨xs, ep, h1, h2⟩ := hd
  have hlen : xs.length = kvs.length := (Paired.length h2).symm
  have hl2 : (kvs.map (·.1)).length = xs.length := by rw [List.length_map, hlen]
  refine ⟨d, xs, ep, rfl, h1, lc_SR (K := K) (Q := Q) walk_N (small_line (by omega)) (fun i o => ∀ k, (kvs.map (·.1))[i]? = some k → R k o) (fun H' s => s _ _ h1) (fun i H v H' y => by rw [y.1]; exact Same.refl _) (fun D i v H H' QT QF hi s hD hD' y kT kF => ?_)
    (fun p H' os hl hr s hp im => hq p H' os (by rw [hl, hl2]) (fun i k (o : Option PyData) hk ho => hr i o ho k hk) s hp im)⟩
  obtain ⟨e1, q, hq', rfl⟩ := y
  subst e1
  obtain ⟨⟨k, u⟩, hp, him, _⟩ := rn_get h2 hq'
  have hk : (kvs.map (·.1))[i]? = some k := by rw [List.getElem?_map, hp]; rfl
  have only : ∀ {o : Option PyData}, R k o → ∀ k', (kvs.map (·.1))[i]? = some k' → R k' o := fun {o} r k' q => by rw [hk] at q; cases q; exact r
  exact hs D k _ _ QT QF (List.mem_of_getElem? hk) s hD hD' (him.same s) (fun z H4 b q => kT z H4 b (only q)) (fun H3 q => kF H3 (only q))
end
section
variable {K : PySem.W.Frag} {g : TG} {tt : TT} {te : TE} {vs : List Nat} {σ : L2.St} {H1 : Hp} {Q : Addr → Hp → Prop}
/-- over data of one kind, the new list's place told to be new -/
theorem lc_TN {x : V} {α : Type} {ea : α → PyData} {l : List α} (hx : Im K H1 x (eT ea l) ∨ Im K H1 x (eL ea l)) (hn : l.length ≤ sizeLine) (f : α → Option PyData)
    (hs : ∀ D a v H' (QT : VK) (QF : Hp → Prop), a ∈ l → Same H1 H' → H1 D = none → H' D ≠ none → Im K H1 v (ea a) → (∀ y H4 e, f a = some e → Same H' H4 → Stb K D H4 y e → QT y H4) → (∀ H3, f a = none → Same H' H3 → QF H3) →
      g v (wipe σ vs) H' fun σ2 H2 => wipe σ2 vs = wipe σ vs ∧ tt σ2 H2 fun b H3 => if b = true then te σ2 H3 QT else QF H3)
    (hd : ∀ p H', Same H1 H' → H1 p = none → Im K H' (.ref p) (.list (l.filterMap f)) → Q p H') :
    ∃ a xs, x = .ref a ∧ ((SqL K H1 a xs ∧ RLc g tt te vs σ Q (Itl K a) H1) ∨ (SqT K H1 a xs ∧ RLc g tt te vs σ Q (Itt K a) H1)) := by
  refine seq_of hx fun J a xs G _ w t hG => ?_
  have hl : xs.length = l.length := by rw [t.length, List.length_map]
  refine lc_SR (K := K) w (by rw [hl]; exact hn) (fun i o => ∀ a, l[i]? = some a → o = f a) hG (fun i H v H' y => by rw [y.1]; exact Same.refl _) (fun D i v H H' QT QF hi s hD hD' y kT kF => ?_)
    (fun p H' os hlo hr s hp im => hd p H' s hp (by
      have e : os = l.map f := List.ext_getElem (by rw [hlo, hl, List.length_map]) fun i h1 h2 => by
        rw [List.getElem_map]
        exact hr i _ (List.getElem?_eq_getElem h1) _ (List.getElem?_eq_getElem (by simpa using h2))
      rw [e, List.filterMap_map] at im
      exact im))
  obtain ⟨e, hv⟩ := y
  subst e
  obtain ⟨d, hdi, hvd⟩ := t.getV hv
  rw [List.getElem?_map] at hdi
  obtain ⟨b, hb, rfl⟩ := Option.map_eq_some_iff.mp hdi
  have only : ∀ {o : Option PyData}, f b = o → ∀ a, l[i]? = some a → o = f a := fun {o} q a q' => by rw [hb] at q'; cases q'; exact q.symm
  exact hs D b v _ QT QF (List.mem_of_getElem? hb) s hD hD' hvd (fun z H4 e q => kT z H4 e (only q)) (fun H3 q => kF H3 (only q))
end
end Lw
end
section
/-! What is stuck has a ring. -/
set_option autoImplicit false
namespace Lk
/-- e has a better one in l -/
def HasB (g : Gd) (l : List Way) (e : Way) : Prop := e ∈ l ∧ ∃ x ∈ better g e, x ∈ l
theorem Placed.bad_end {g : Gd} {o l : List Way} (p : Placed g o l) : ∀ n (u : Way), u.length = n → u ∈ l → HasB g l u ∨ ∃ e ∈ ends u, e ∈ g.ways ∧ HasB g l e := by
  intro n
  induction n using Nat.strongRecOn with
  | ind n ih =>
    intro u hn hu
    obtain ⟨x, hx, hxl⟩ := p.stuck u hu
    unfold aheadOf at hx
    rcases List.mem_append.mp hx with h | h
    · exact .inl ⟨hu, x, h, hxl⟩
    · obtain ⟨h1, h2⟩ := List.mem_filter.mp h
      obtain ⟨i, hi, rfl⟩ := ends_mem h1
      have hlen : (u.drop (i + 1)).length < n := by rw [List.length_drop]; omega
      rcases ih _ hlen _ rfl hxl with c | ⟨e, he, hw, hb⟩
      · exact .inr ⟨_, h1, by simpa using h2, c⟩
      · obtain ⟨j, hj, rfl⟩ := ends_mem he
        rw [List.length_drop] at hj
        refine .inr ⟨_, ?_, hw, hb⟩
        unfold ends
        refine List.mem_map.mpr ⟨i + 1 + j, List.mem_range.mpr (by omega), ?_⟩
        rw [List.drop_drop]
        congr 1
theorem Placed.step {g : Gd} {o l : List Way} (k : g.Ok) (p : Placed g o l) {s : Way} (hs : HasB g l s) : ∃ u e, (u, e) ∈ stepsOf g s ∧ HasB g l e := by
  obtain ⟨hsl, x, hx, hxl⟩ := hs
  have hsw : s ∈ g.ways := (p.all s).mpr (.inr hsl)
  -- the best of its house that is left
  have hf : ((better g s).find? fun y => decide (y ∈ l)).isSome := List.find?_isSome.mpr ⟨x, hx, by simpa using hxl⟩
  obtain ⟨u, hu⟩ := Option.isSome_iff_exists.mp hf
  obtain ⟨hul, as, bs, e1, hall⟩ := List.find?_eq_some_iff_append.mp hu
  have hul : u ∈ l := by simpa using hul
  have hub : u ∈ better g s := List.mem_of_find?_eq_some hu
  obtain ⟨h, b, r, n1, n2, es, hm, hw⟩ := k.house hsw
  have hd : s.headD 0 = (h : Int) := by rw [es]; rfl
  have hrow : better g s = (g.row h).take ((g.row h).idxOf s) := by unfold better; rw [hd]
  have hur : u ∈ g.row h := by rw [hrow] at hub; exact List.mem_of_mem_take hub
  have hud : u.headD 0 = (h : Int) := by
    have := (k.way h n1 n2 u hur).hd
    cases u with
    | nil => cases this
    | cons a u => simpa using this
  have nob : ∀ y ∈ better g u, y ∉ l := by
    intro y hy
    have e2 : g.row h = as ++ u :: (bs ++ (g.row h).drop ((g.row h).idxOf s)) := by
      have := (List.take_append_drop ((g.row h).idxOf s) (g.row h)).symm
      rw [← hrow, e1] at this
      rw [List.append_assoc, List.cons_append] at this
      exact this
    have nd := k.rnd h n1 n2
    have hnu : u ∉ as := by
      rw [e2, List.nodup_append] at nd
      intro q
      exact nd.2.2 u q u (by simp) rfl
    have e3 : better g u = as := by
      unfold better
      rw [hud]
      show (g.row h).take ((g.row h).idxOf u) = as
      have e4 : (g.row h).idxOf u = as.length := by
        rw [e2, List.idxOf_append, if_neg hnu]; simp
      rw [e4]
      conv => lhs; rw [e2]
      simp
    rw [e3] at hy
    have := hall y hy
    simpa using this
  rcases p.bad_end _ u rfl hul with ⟨_, y, hy, hyl⟩ | ⟨e, he, hew, hb⟩
  · exact absurd hyl (nob y hy)
  · exact ⟨u, e, steps_mem.mpr ⟨hub, he, hew⟩, hb⟩
/-- steps that go on for ever among few come round -/
theorem come_round {g : Gd} (k : g.Ok) {S : Way → Prop} (hS : ∀ s, S s → s ∈ g.ways) (step : ∀ s, S s → ∃ u e, (u, e) ∈ stepsOf g s ∧ S e) {s0 : Way} (h0 : S s0) : ∃ s ∈ g.ways, Reach g s s := by
  have nxt : ∀ s : { s // S s }, ∃ e : { s // S s }, ∃ u, (u, e.1) ∈ stepsOf g s.1 := fun s => let ⟨u, e, h1, h2⟩ := step s.1 s.2; ⟨⟨e, h2⟩, u, h1⟩
  let f : { s // S s } → { s // S s } := fun s => (nxt s).choose
  have hf : ∀ s, ∃ u, (u, (f s).1) ∈ stepsOf g s.1 := fun s => (nxt s).choose_spec
  let seq : Nat → { s // S s } := fun n => Nat.rec ⟨s0, h0⟩ (fun _ s => f s) n
  have hseq : ∀ n, seq (n + 1) = f (seq n) := fun n => rfl
  have reach : ∀ i d, Reach g (seq i).1 (seq (i + d + 1)).1 := by
    intro i d
    induction d with
    | zero => obtain ⟨u, hu⟩ := hf (seq i); exact .one (u := u) (by rw [Nat.add_zero, hseq]; exact hu)
    | succ d ih => obtain ⟨u, hu⟩ := hf (seq (i + d + 1)); exact .more (u := u) ih hu
  have hnn : ¬ ((List.range 10).map fun n => (seq n).1).Nodup := fun nd => by
    have hle := nd.length_le_of_subset (l₂ := g.ways) fun x hx => by
      obtain ⟨n, _, rfl⟩ := List.mem_map.mp hx
      exact hS _ (seq n).2
    have := k.tot
    rw [List.length_map, List.length_range] at hle
    omega
  have : ∃ i j, i < j ∧ (seq i).1 = (seq j).1 := by
    refine Classical.byContradiction fun hno => hnn ?_
    rw [List.nodup_iff_pairwise_ne, List.pairwise_map]
    refine List.Pairwise.imp (fun {a b} hlt e => hno ⟨a, b, hlt, e⟩) List.pairwise_lt_range
  obtain ⟨i, j, hij, e⟩ := this
  have r := reach i (j - i - 1)
  rw [show i + (j - i - 1) + 1 = j by omega, ← e] at r
  exact ⟨(seq i).1, hS _ (seq i).2, r⟩
theorem Placed.ring {g : Gd} {o l : List Way} (k : g.Ok) (p : Placed g o l) (h : l ≠ []) : ∃ s ∈ g.ways, Reach g s s := by
  obtain ⟨u, hu⟩ := List.exists_mem_of_ne_nil l h
  have hS : ∀ s, HasB g l s → s ∈ g.ways := fun s hs => (p.all s).mpr (.inr hs.1)
  rcases p.bad_end _ u rfl hu with c | ⟨e, _, _, c⟩
  · exact come_round k hS (fun s hs => p.step k hs) c
  · exact come_round k hS (fun s hs => p.step k hs) c
end Lk
end
section
set_option Elab.async false
set_option linter.all false
set_option maxRecDepth 100000
set_option maxHeartbeats 2000000
/-! The rings; the order or a ring. -/
namespace Lw
open PySem PySem.Spec PyProof.Rows L2
open Lk (Way Gd IsWay ltP)
abbrev eRg : List (Way × Way) → PyData := eL eSt
theorem enc_St : EncOk eSt 2 := enc_pair enc_W enc_W
theorem enc_Rg : EncOk eRg 3 := enc_lst enc_St
/-- a list of things of which each is told -/
theorem told {α : Type} {e : α → PyData} {R : α → Prop} : ∀ {os : List (Option PyData)}, (∀ o ∈ os, ∃ a, R a ∧ o = some (e a)) → ∃ l : List α, os.filterMap id = l.map e ∧ l.length = os.length ∧ (∀ a ∈ l, R a) ∧ ∀ i : Nat, os[i]? = (l[i]?).map fun a => some (e a)
  | [], _ => ⟨[], rfl, rfl, fun _ h => (nomatch h), fun i => by simp⟩
  | o :: os, h => by
    obtain ⟨a, ha, rfl⟩ := h _ List.mem_cons_self
    obtain ⟨l, h1, h2, h3, h4⟩ := told (os := os) fun o ho => h o (List.mem_cons_of_mem _ ho)
    refine ⟨a :: l, ?_, by simp [h2], fun b hb => ?_, fun i => ?_⟩
    · show e a :: os.filterMap id = _
      rw [h1]; rfl
    · rcases List.mem_cons.mp hb with rfl | hb
      · exact ha
      · exact h3 b hb
    · cases i with
      | zero => rfl
      | succ i => simpa using h4 i
section
variable {P : Program} {w : World} {K : PySem.W.Frag} {mg : Str → Option Value} {base : Heap}
theorem sc_rings_found : FnScope ["guild", "steps", "spoke", "rings", "ring"] ["guild"] (defScope s_rings_found) := ⟨rfl, rfl, rfl, by decide +kernel, rfl, by decide +kernel, by decide +kernel⟩
def S_rings_found (P : Program) (w : World) (K : PySem.W.Frag) : Sp := fun vs H Q _ => ∃ v g, vs = [v] ∧ Im K H v (eG g) ∧ g.Ok ∧ ∀ rs p H', (∀ r ∈ rs, r ≠ [] ∧ Lk.InWays g r ∧ r.length ≤ 10) → ((∃ s ∈ g.ways, Lk.Reach g s s) → rs ≠ []) → Same H H' → H p = none → Im K H' (.ref p) (eL eRg rs) → Q (.ref p) H'
theorem w_rings_found (B : Bi mg) (D : Df K mg "rings_found" s_rings_found) (hspoke_steps : Has P w K mg base 2 "spoke_steps" ["guild"] (S_spoke_steps P w K)) (hring_from : Has P w K mg base 1 "ring_from" ["steps", "start"] (S_ring_from P w K)) :
    Has P w K mg base 3 "rings_found" ["guild"] (S_rings_found P w K) := by
  refine D.has sc_rings_found (fun vs H Q E h => ?_) (fun _ _ _ _ _ _ us hl => match us, hl with | [_], _ => rfl) (fun f cdv A outer s H vs Q E hr h => ?_)
  rotate_left
  have nd := sc_rings_found.nd
  have hu := hr.units
  have hu0 := hr.units0
  have hu1 := hu_of hr
  refine ⟨_, (pss_cons (ps_set (i := 1) nd rfl (Or.inr rfl) (pe_has hspoke_steps hr (by decide) (pa_cons (pv 0) pa_nil))) (pss_cons (ps_setLc (i := 3) (g := (gName 2)) (tt := tYes) (te := (tCall (S_ring_from P w K) [] E0 (tCons (tVar 1) (tCons (tVar 2) tNil)))) rfl nd rfl rfl (sw_true rfl rfl rfl (by decide +kernel)) (pi_N (pv 1)) (blkOk_by (own := [("spoke", 2)]) (by rfl)) (fun _ _ _ _ _ => (pg_name (i := 2) nd rfl (Or.inl rfl))) (fun _ _ _ _ _ => pts_nil) (fun _ _ _ _ _ => (pe_has hring_from hr (by decide) (pa_cons (pv 1) (pa_cons (pv 2) pa_nil))))) (pss_one (ps_ret (pe_lc (g := (gName 4)) (tt := (tTest (tOp (rNeE K) (tVar 4) (tDispL K tNil)))) (te := (tVar 4)) rfl nd (pi_seq (pv 3)) (blkOk_by (own := [("ring", 4)]) (by rfl)) (fun _ _ _ _ _ => (pg_name (i := 4) nd rfl (Or.inl rfl))) (fun _ _ _ _ _ => (pts_one (pt_cmpR (op_neE hu) (pv 4) (pe_lstD pa_nil) (nomark _)))) (fun _ _ _ _ _ => (pv 4))))))), ?_⟩
  rotate_left
  · obtain ⟨_, _, rfl, _⟩ := h
    rfl
  · obtain ⟨v, g, rfl, h1, ok, q⟩ := h
    refine ⟨_, rfl, _, g, rfl, h1, ok, fun dS H1 s1 f1 df => ?_⟩
    obtain ⟨kvs, dn, ek⟩ := df.dn
    have hlen : kvs.length ≤ 9 := by rw [← List.length_map (f := (·.1)), ek, (srt_perm _).length_eq]; exact ok.tot
    refine ⟨_, rfl, lc_KR rfl dn (by omega) (fun k o => ∃ r, (Lk.InWays g r ∧ (r = [] → ¬ Lk.Reach g k k) ∧ r.length ≤ 10) ∧ o = some (eRg r)) (fun D k x H2 QT QF hk s2 hN hN2 hx kT kF => ?_) (fun p2 H2 os hl hr s2 f2 i2 => ?_)⟩
    · rw [ek] at hk
      exact ⟨rfl, _, rfl, _, rfl, dS, x, g, k, rfl, df.same s2, hx, ok, (srt_perm (e := eW) _).mem_iff.mp hk, fun ring p H3 a1 a2 a3 s3 f3 i3 => kT _ _ _ ⟨ring, ⟨a1, a2, a3⟩, rfl⟩ s3 (stb_list i3 (fun e => hN2 (by rw [← e]; exact f3)) (flatAll_map flat_St _))⟩
    have hol : os.length = kvs.length := by rw [hl, List.length_map]
    have keyAt : ∀ i (hi : i < os.length), ∃ k, (kvs.map (·.1))[i]? = some k := fun i hi => ⟨_, List.getElem?_eq_getElem (by rw [← hl]; exact hi)⟩
    obtain ⟨l, e1, e2, e3, e4⟩ := told (e := eRg) (R := fun r => Lk.InWays g r ∧ r.length ≤ 10) (os := os) fun o ho => by
      obtain ⟨i, hi, rfl⟩ := List.getElem_of_mem ho
      obtain ⟨k, hk⟩ := keyAt i hi
      obtain ⟨r, ⟨a1, _, a3⟩, e⟩ := hr i k _ hk (List.getElem?_eq_getElem hi)
      exact ⟨r, ⟨a1, a3⟩, e⟩
    rw [e1] at i2
    refine ⟨_, rfl, lc_TN (.inr i2) (small_line (by omega)) (fun r => if (!decide (r = [])) then some (eRg r) else none) (fun D r y H3 QT QF hr' s3 hN hN3 hy kT kF => ?_) (fun p3 H3 s3 f3 i3 => ?_)⟩
    · refine ⟨rfl, _, rfl, Nat.zero_le _, [], .nil, fun p4 H4 s4 f4 i4 => ?_⟩
      refine ⟨_, inferInstance, eRg, 3, r, [], enc_Rg, by decide, hy.same (s3.trans s4), i4, _, rfl, ?_⟩
      obtain ⟨b, xs, eb, hb, hall⟩ := hy.lst_inv
      by_cases c : r = []
      · exact ifF (by simp [c]) (kF _ (by simp [c]) s4)
      · refine ifT (by simp [c]) ⟨_, rfl, kT _ _ _ (if_pos (by simp [c])) s4 ?_⟩
        rw [eb] at hy ⊢
        exact stb_list (hy.same (s3.trans s4)) (ne_of_none hb hN) (flatAll_map flat_St _)
    · rw [filterMap_if (fun r => !decide (r = [])) eRg] at i3
      refine q _ p3 H3 (fun r hr' => ?_) (fun ⟨s0, hs0, hre⟩ => ?_) ((s1.trans s2).trans s3) (none_back (s1.trans s2) f3) i3
      · obtain ⟨a1, a2⟩ := List.mem_filter.mp hr'
        exact ⟨by simpa using a2, (e3 r a1).1, (e3 r a1).2⟩
      · have hm : s0 ∈ kvs.map (·.1) := by rw [ek]; exact (srt_perm (e := eW) _).mem_iff.mpr hs0
        obtain ⟨i, hi⟩ := List.getElem?_of_mem hm
        have hio : i < os.length := by rw [hl]; exact (List.getElem?_eq_some_iff.mp hi).1
        obtain ⟨r, ⟨_, a2, _⟩, e⟩ := hr i s0 _ hi (List.getElem?_eq_getElem hio)
        have hne : r ≠ [] := fun c => a2 c hre
        have h4 := e4 i
        rw [List.getElem?_eq_getElem hio, e] at h4
        cases hli : l[i]? with
        | none => rw [hli] at h4; cases h4
        | some r' =>
          rw [hli] at h4
          have : r = r' := enc_Rg.inj (by simpa using h4)
          subst this
          intro c
          have hmm : r ∈ l.filter fun r => !decide (r = []) := List.mem_filter.mpr ⟨List.mem_of_getElem? hli, by simp [hne]⟩
          rw [c] at hmm
          cases hmm
theorem sc_order_or_ring : FnScope ["guild", "order", "left"] ["guild"] (defScope s_order_or_ring) := ⟨rfl, rfl, rfl, by decide +kernel, rfl, by decide +kernel, by decide +kernel⟩
/-- what order_or_ring tells -/
inductive Told (g : Gd) : PyData → Prop
  | order {o : List Way} : Lk.IsOrd g o → Told g (.tuple [.str "order", eL eW o])
  | ring {r : List (Way × Way)} : r ≠ [] → Lk.InWays g r → r.length ≤ 10 → (¬ ∃ o, Lk.IsOrd g o) → Told g (.tuple [.str "ring", eRg r])
def S_order_or_ring (P : Program) (w : World) (K : PySem.W.Frag) : Sp := fun vs H Q _ => ∃ v g, vs = [v] ∧ Im K H v (eG g) ∧ g.Ok ∧ ∀ d r H', Told g d → Same H H' → Im K H' r d → Q r H'
theorem w_order_or_ring (B : Bi mg) (D : Df K mg "order_or_ring" s_order_or_ring) (hplaced : Has P w K mg base 3 "placed" ["guild"] (S_placed P w K)) (hrings_found : Has P w K mg base 3 "rings_found" ["guild"] (S_rings_found P w K)) :
    Has P w K mg base 4 "order_or_ring" ["guild"] (S_order_or_ring P w K) := by
  refine D.has sc_order_or_ring (fun vs H Q E h => ?_) (fun _ _ _ _ _ _ us hl => match us, hl with | [_], _ => rfl) (fun f cdv A outer s H vs Q E hr h => ?_)
  rotate_left
  have nd := sc_order_or_ring.nd
  have hu := hr.units
  have hu0 := hr.units0
  have hu1 := hu_of hr
  refine ⟨_, (pss_cons (ps_asg (pe_has hplaced hr (by decide) (pa_cons (pv 0) pa_nil)) (pg_tup (by rfl) (pgs_cons (pg_name (i := 1) nd rfl (Or.inl rfl)) (pgs_cons (pg_name (i := 2) nd rfl (Or.inl rfl)) pgs_nil)))) (pss_cons (ps_if (pt_cmpR (op_eqE hu) (pv 2) (pe_lstD pa_nil) (nomark _)) (pss_one (ps_ret (pe_tupD (pa_cons pe_str (pa_cons (pv 1) pa_nil))))) pss_nil) (pss_one (ps_ret (pe_tupD (pa_cons pe_str (pa_cons (pe_minLen rfl hu (by rfl) B.min (by rfl) B.len (pe_has hrings_found hr (by decide) (pa_cons (pv 0) pa_nil))) pa_nil))))))), ?_⟩
  rotate_left
  · obtain ⟨_, _, rfl, _⟩ := h
    rfl
  · obtain ⟨v, g, rfl, h1, ok, q⟩ := h
    refine ⟨_, rfl, _, g, rfl, h1, ok, fun o l T a b H1 pl s1 fa fb hq j1 j2 => ?_⟩
    refine ⟨_, _, rfl, hq, rfl, _, _, rfl, _, _, rfl, rfl, ?_⟩
    refine ⟨_, rfl, Nat.zero_le _, [], .nil, fun p2 H2 s2 f2 i2 => ?_⟩
    refine ⟨_, inferInstance, eL eW, 2, l, [], enc_lst enc_W, by decide, j2.same s2, i2, _, rfl, ?_⟩
    by_cases c : l = []
    · subst c
      exact ifT rfl ⟨_, rfl, by show (2 : Nat) ≤ 1000; decide, _, .cons (.str _) (.cons (j1.same s2) .nil), fun p3 H3 s3 f3 i3 => q _ _ H3 (.order pl.ord) ((s1.trans s2).trans s3) i3⟩
    · refine ifF (by simp [c]) ⟨_, rfl, _, g, rfl, h1.same (s1.trans s2), ok, fun rs p3 H3 a1 a2 s3 f3 i3 => ?_⟩
      refine ⟨_, eSt, rs, i3, a2 (pl.ring ok c), fun r y hr hy => ?_⟩
      refine ⟨by show (2 : Nat) ≤ 1000; decide, _, .cons (.str _) (.cons hy .nil), fun p4 H4 s4 f4 i4 => q _ _ H4 (.ring (a1 r hr).1 (a1 r hr).2.1 (a1 r hr).2.2 fun ⟨oo, io⟩ => c (pl.done ok io)) (((s1.trans s2).trans s3).trans s4) i4⟩
end
end Lw
end
section
set_option Elab.async false
set_option linter.all false
set_option maxRecDepth 100000
set_option maxHeartbeats 4000000
/-! Dict comprehensions of two clauses, told by data. -/
namespace Lw
open PySem PySem.Spec PyProof.Rows L2
def eOR (b : Bool) : PyData := .str (if b then "order" else "ring")
theorem enc_OR : EncOk eOR 0 := ⟨fun a b => by cases a <;> cases b <;> rfl, fun a b => by simp [PySem.W.alike, eOR], fun a => by cases a <;> decide +kernel, fun a => by cases a <;> simp [PyData.depth, eOR]⟩
section
variable {P : Program} {w : World} {K : PySem.W.Frag} {κ : Type} [DecidableEq κ] {e : κ → PyData} {g g1 : TG} {tl1 : TE} {tk tv : TE} {vs vs1 : List Nat} {σ : L2.St} {H1 : Hp} {Q : VK} {J : It} {n : Nat} {G : Hp → Prop} {Y : Nat → Hp → V → Hp → Prop}
theorem dc2_S {β : Type} {eb : β → PyData} (ok : KeyOk e) (wk : Walk J n G Y) (inner : Nat → List β) (key : Nat → β → κ) (val : κ → PyData) (Pz : Nat → L2.St → Prop) (hn : ((List.range n).flatMap fun i => (inner i).map (key i)).length < sizeLine) (fb : ∀ b, flat (eb b) = true) (hG : ∀ H', Same H1 H' → G H') (hY : ∀ i H x H', Y i H x H' → Same H H')
    (hs1 : ∀ D i x H H' (QI : L2.St → VK), i < n → Same H1 H → H1 D = none → H D ≠ none → Y i H x H' → (∀ σ2 u H2, Pz i σ2 → Same H' H2 → (Im K H2 u (eT eb (inner i)) ∨ (Im K H2 u (eL eb (inner i)) ∧ u ≠ .ref D)) → QI σ2 u H2) →
      g x (wipe σ vs) H' fun σ2 H2 => wipe σ2 vs = wipe σ vs ∧ tl1 σ2 H2 (QI σ2))
    (hs2 : ∀ D i b u σ2 H' (QT : V → V → Hp → Prop), i < n → b ∈ inner i → Pz i σ2 → Same H1 H' → H1 D = none → H' D ≠ none → Im K H' u (eb b) → (∀ y z H4, Same H' H4 → Im K H4 y (e (key i b)) → Stb K D H4 z (val (key i b)) → QT y z H4) →
      g1 u (wipe σ2 vs1) H' fun σ3 H5 => wipe σ3 vs1 = wipe σ2 vs1 ∧ tk σ3 H5 fun y H7 => tv σ3 H7 fun z H8 => QT y z H8)
    (hd : ∀ p H', Same H1 H' → H1 p = none → DF P w K e H' p (ddup ((List.range n).flatMap fun i => (inner i).map (key i))) val → Q (.ref p) H') : RDcs P w K g tYes (iSeq K tl1) g1 tYes tk tv vs vs1 σ Q J H1 := by
  intro D hD
  have dne : ∀ b o, H1 b = some o → b ≠ D := fun b o q => ne_of_none q hD
  let res := fun (i : Nat) => (List.range i).flatMap fun i => (inner i).map (key i)
  have hres : ∀ i, res (i + 1) = res i ++ (inner i).map (key i) := fun i => by
    show (List.range (i + 1)).flatMap _ = _
    rw [List.range_succ, List.flatMap_append]
    simp [res]
  have hmono : ∀ i j, i ≤ j → (res i).length ≤ (res j).length := fun i j h => by
    induction h with
    | refl => exact Nat.le_refl _
    | step _ ih => rw [hres, List.length_append]; omega
  refine ⟨fun i m H => m = n - i ∧ i ≤ n ∧ Same H1 H ∧ DF P w K e H D (ddup (res i)) val, ⟨n, by omega, Nat.zero_le _, Same.new hD, DF.new⟩, ?_⟩
  rintro i m H ⟨rfl, hi, s, x⟩
  have hg := hG H s
  by_cases hlt : i < n
  · refine .inr ⟨wk.goes i H hlt hg, fun H' => Same H1 H' ∧ DF P w K e H' D (ddup (res (i + 1))) val, fun H' ⟨q1, q2⟩ => ⟨n - (i + 1), by omega, rfl, hlt, q1, q2⟩, fun v H' y => ?_⟩
    have y := wk.yields i H v H' hlt hg y
    have sy := hY _ _ _ _ y
    refine hs1 D i v H H' _ hlt s hD x.ne_none y fun σ2 u H2 hP s2 hu => ?_
    have x2 := (x.same sy).same s2
    have s12 := (s.trans sy).trans s2
    refine seq_but hu fun J1 a1 xs1 G1 _ w1 t1 hG1 => ?_
    have hlen1 : xs1.length = (inner i).length := by rw [t1.length, List.length_map]
    refine ⟨fun j k H => k = xs1.length - j ∧ j ≤ xs1.length ∧ Kp [D] H2 H ∧ TK H2 H ∧ Same H1 H ∧ DF P w K e H D (ddup (res i ++ ((inner i).take j).map (key i))) val, ⟨xs1.length, by omega, by omega, Kp.refl, TK.refl, s12, by
      rw [List.take_zero, List.map_nil, List.append_nil]; exact x2⟩, ?_⟩
    rintro j k H5 ⟨rfl, hj, k5, t5, s5, x5⟩
    have g5 := hG1 H5 k5 t5
    by_cases hltj : j < xs1.length
    · refine .inr ⟨w1.goes j H5 hltj g5, fun H => Kp [D] H2 H ∧ TK H2 H ∧ Same H1 H ∧ DF P w K e H D (ddup (res i ++ ((inner i).take (j + 1)).map (key i))) val,
        fun H' ⟨q1, q2, q3, q4⟩ => ⟨xs1.length - (j + 1), by omega, rfl, hltj, q1, q2, q3, q4⟩, fun c H6 y6 => ?_⟩
      obtain ⟨e6, hc⟩ := w1.yields j H5 c H6 hltj g5 y6
      subst e6
      obtain ⟨d', hdj, him⟩ := t1.getV hc
      rw [List.getElem?_map] at hdj
      obtain ⟨b, hb, rfl⟩ := Option.map_eq_some_iff.mp hdj
      have htake : (inner i).take (j + 1) = (inner i).take j ++ [b] := take_snoc hb
      refine hs2 D i b c σ2 _ (fun y z H8 => Sto P w K D _ y z H8) hlt (List.mem_of_getElem? hb) hP s5 hD x5.ne_none (him.tk t5 (fb b)) (fun ky z H7 s7 hk hz => ?_)
      · obtain ⟨kvs, h1, h2, h3⟩ := (x5.same s7).ex
        refine ⟨κ, _, e, key i b, kvs, ok, hk, h1, ?_, fun H8 kp8 tk8 hdn => ⟨(k5.trans s7.kp).trans kp8, (t5.trans s7.tk).trans tk8, fun b o q => ?_, ?_⟩⟩
        · rw [← List.length_map (f := (·.1)), h2]
          refine Nat.lt_of_le_of_lt ddup_len ?_
          have h4 := hmono (i + 1) n hlt
          rw [hres] at h4
          refine Nat.lt_of_le_of_lt ?_ (Nat.lt_of_le_of_lt h4 hn)
          rw [List.length_append, List.length_append, List.length_map, List.length_map, List.length_take]
          omega
        · exact kp8 _ _ (by simpa using dne b o q) (s7 _ _ (s5 _ _ q))
        · have := DF.put (P := P) (w := w) h2 h3 kp8 tk8 hdn hz
          rw [htake, List.map_append, ← List.append_assoc]
          show DF P w K e H8 D (ddup (_ ++ [key i b])) val
          rw [ddup_snoc]
          exact this
    · have ej : j = xs1.length := by omega
      subst ej
      refine .inl ⟨w1.stops H5 g5, s5, ?_⟩
      rw [hlen1, List.take_length] at x5
      rw [hres]
      exact x5
  · have ei : i = n := by omega
    subst ei
    exact .inl ⟨wk.stops H hg, hd D H s hD x⟩
end
theorem for_R {g : TG} {tb : TS} {D : Ends} {σ : L2.St} {H : Hp} {lo : Int} {n : Nat} (Pv : Nat → L2.St → Hp → Prop) (h0 : Pv 0 σ H)
    (hs : ∀ i σ' H', i < n → Pv i σ' H' → g (.int (lo + (i : Nat))) σ' H' fun σ2 H2 => tb { D with nx := Pv (i + 1), ct := Pv (i + 1), bk := D.nx } σ2 H2) (hd : ∀ σ' H', Pv n σ' H' → D.nx σ' H') : RFor g tb D σ (Itr lo n) H :=
  for_it (n := n) walk_range Pv h0 (fun _ _ _ _ _ => True.intro) (fun i v σ' H' H'' hi p y => by
    obtain ⟨e, rfl⟩ := y
    subst e
    exact hs i σ' _ hi p) hd
end Lw
end
section
/-! Picks: rising rows of ways; how many there are; the full one. -/
set_option autoImplicit false
namespace Lk
def fits (row : List Way) (w : Way) : Bool := decide (row = []) || decide (row.getLastD [] < w)
def picksF (ws : List Way) : Nat → List (List Way)
  | 0 => [[]]
  | n + 1 => (picksF ws n).flatMap fun row => (ws.filter (fits row)).map fun w => row ++ [w]
/-! ### how many -/
def cnt (ws : List Way) (y : Way) : Nat := (ws.filter fun w => decide (y < w)).length
def wt (ws : List Way) (row : List Way) : Nat := 2 ^ (ws.filter (fits row)).length
theorem sum_perm {l l' : List Nat} (p : l.Perm l') : l.sum = l'.sum := p.sum_nat
theorem sum_sorted : ∀ {S : List Way}, S.Pairwise (fun a b => a < b) → (S.map fun w => 2 ^ cnt S w).sum + 1 ≤ 2 ^ S.length
  | [], _ => by simp
  | m :: S, h => by
    obtain ⟨h1, h2⟩ := List.pairwise_cons.mp h
    have ih := sum_sorted h2
    have e1 : cnt (m :: S) m = S.length := by
      unfold cnt
      rw [List.filter_cons_of_neg (by simp [List.lt_irrefl]), List.filter_eq_self.mpr fun x hx => by simpa using h1 x hx]
    have e2 : (S.map fun w => 2 ^ cnt (m :: S) w) = S.map fun w => 2 ^ cnt S w := List.map_congr_left fun w hw => by
      unfold cnt
      rw [List.filter_cons_of_neg]
      simpa using List.not_lt.mp fun q => List.lt_irrefl _ (List.lt_trans (h1 w hw) q)
    rw [List.map_cons, List.sum_cons, e1, e2, List.length_cons, Nat.pow_succ]
    omega
def asc (l : List Way) : List Way := l.mergeSort fun a b => decide (a ≤ b)
theorem asc_perm (l : List Way) : (asc l).Perm l := List.mergeSort_perm _ _
theorem wlt_of {a b : Way} (h : a ≤ b) (n : a ≠ b) : a < b := Classical.byContradiction fun c => n (List.le_antisymm h (List.not_lt.mp c))
theorem wlt_tri {a b : Way} (n : a ≠ b) : a < b ∨ b < a := by
  rcases List.le_total a b with h | h
  · exact .inl (wlt_of h n)
  · exact .inr (wlt_of h fun e => n e.symm)
theorem asc_sorted {l : List Way} (nd : l.Nodup) : (asc l).Pairwise fun a b => a < b := by
  have h1 : (asc l).Pairwise fun a b => decide (a ≤ b) = true := List.pairwise_mergeSort (fun a b c h1 h2 => by simpa using List.le_trans (by simpa using h1) (by simpa using h2)) (fun a b => by simpa using List.le_total a b) l
  have h2 : (asc l).Nodup := (asc_perm l).nodup_iff.mpr nd
  rw [List.nodup_iff_pairwise_ne] at h2
  exact (h1.and h2).imp fun {a b} h => wlt_of (by simpa using h.1) h.2
theorem sum_any {S : List Way} (nd : S.Nodup) : (S.map fun w => 2 ^ cnt S w).sum + 1 ≤ 2 ^ S.length := by
  have h := sum_sorted (asc_sorted nd)
  rw [(asc_perm S).length_eq] at h
  have e : ∀ w, cnt (asc S) w = cnt S w := fun w => ((asc_perm S).filter _).length_eq
  simp only [e] at h
  rw [sum_perm ((asc_perm S).map fun w => 2 ^ cnt S w)] at h
  exact h
/-- what a row's followers weigh is less than what it weighs -/
theorem wt_step {ws : List Way} (nd : ws.Nodup) (row : List Way) : (((ws.filter (fits row)).map fun w => row ++ [w]).map (wt ws)).sum + 1 ≤ wt ws row := by
  have hS := sum_any (nd.filter (fits row))
  unfold wt
  rw [List.map_map]
  refine Nat.le_trans (Nat.succ_le_succ (Nat.le_of_eq ?_)) hS
  congr 1
  refine List.map_congr_left fun w hw => ?_
  show 2 ^ (ws.filter (fits (row ++ [w]))).length = 2 ^ cnt _ w
  congr 1
  unfold cnt
  rw [List.filter_filter]
  congr 1
  refine List.filter_congr fun x hx => ?_
  have hf := (List.mem_filter.mp hw).2
  have e1 : fits (row ++ [w]) x = decide (w < x) := by unfold fits; simp
  rw [e1]
  by_cases c : w < x
  · have : fits row x = true := by
      unfold fits at hf ⊢
      simp only [Bool.or_eq_true, decide_eq_true_eq] at hf ⊢
      rcases hf with h | h
      · exact .inl h
      · exact .inr (List.lt_trans h c)
    rw [this]; simp [c]
  · simp [c]
theorem sum_flat {α β : Type} (f : α → List β) (u : β → Nat) (v : α → Nat) : ∀ (l : List α), (∀ a ∈ l, ((f a).map u).sum ≤ v a) → ((l.flatMap f).map u).sum ≤ (l.map v).sum
  | [], _ => by simp
  | a :: l, h => by
    rw [List.flatMap_cons, List.map_append, List.sum_append, List.map_cons, List.sum_cons]
    have h1 := h a List.mem_cons_self
    have h2 := sum_flat f u v l fun b hb => h b (List.mem_cons_of_mem _ hb)
    omega
theorem picks_weight {ws : List Way} (nd : ws.Nodup) : ∀ n, ((picksF ws n).map (wt ws)).sum ≤ 2 ^ ws.length
  | 0 => by
    show 2 ^ _ + 0 ≤ _
    rw [Nat.add_zero]
    exact Nat.pow_le_pow_right (by decide) (List.length_filter_le _ _)
  | n + 1 => by
    refine Nat.le_trans (sum_flat _ _ (wt ws) _ fun row _ => ?_) (picks_weight nd n)
    have := wt_step nd row
    omega
theorem len_sum {α : Type} (u : α → Nat) (h : ∀ a, 1 ≤ u a) : ∀ l : List α, l.length ≤ (l.map u).sum
  | [] => by simp
  | a :: l => by
    rw [List.map_cons, List.sum_cons, List.length_cons]
    have := h a
    have := len_sum u h l
    omega
theorem picks_len {ws : List Way} (nd : ws.Nodup) (n : Nat) : (picksF ws n).length ≤ 2 ^ ws.length :=
  Nat.le_trans (len_sum (wt ws) (fun a => Nat.one_le_two_pow) _) (picks_weight nd n)
theorem picks_row {ws : List Way} : ∀ {n : Nat} {p : List Way}, p ∈ picksF ws n → p.length = n ∧ ∀ w ∈ p, w ∈ ws
  | 0, p, h => by
    have : p = [] := by simpa [picksF] using h
    subst this
    exact ⟨rfl, fun _ h => nomatch h⟩
  | n + 1, p, h => by
    obtain ⟨row, h1, h2⟩ := List.mem_flatMap.mp h
    obtain ⟨w, h3, rfl⟩ := List.mem_map.mp h2
    obtain ⟨e, hs⟩ := picks_row h1
    refine ⟨by simp [e], fun x hx => ?_⟩
    rcases List.mem_append.mp hx with q | q
    · exact hs x q
    · rw [List.mem_singleton.mp q]; exact (List.mem_filter.mp h3).1
/-! ### the full one -/
theorem picks_take {ws : List Way} {l : List Way} (hs : ∀ w ∈ l, w ∈ ws) (h : l.Pairwise fun a b => a < b) : ∀ n, n ≤ l.length → l.take n ∈ picksF ws n
  | 0, _ => by simp [picksF]
  | n + 1, hn => by
    have ih := picks_take hs h n (by omega)
    refine List.mem_flatMap.mpr ⟨_, ih, List.mem_map.mpr ⟨l[n]'(by omega), List.mem_filter.mpr ⟨hs _ (List.getElem_mem _), ?_⟩, ?_⟩⟩
    · unfold fits
      simp only [Bool.or_eq_true, decide_eq_true_eq]
      cases n with
      | zero => exact .inl (by simp)
      | succ n =>
        refine .inr ?_
        have e : (l.take (n + 1)).getLastD [] = l[n]'(by omega) := by
          rw [List.getLastD_eq_getLast?, List.getLast?_eq_getElem?, List.length_take, List.getElem?_take]
          rw [show min (n + 1) l.length - 1 = n by omega, if_pos (by omega), List.getElem?_eq_getElem (by omega)]
          rfl
        rw [e]
        exact List.pairwise_iff_getElem.mp h n (n + 1) (by omega) (by omega) (by omega)
    · rw [List.take_add_one, List.getElem?_eq_getElem (by omega)]; rfl
theorem picks_full {ws : List Way} (nd : ws.Nodup) : asc ws ∈ picksF ws ws.length := by
  have := picks_take (ws := ws) (fun w hw => (asc_perm ws).mem_iff.mp hw) (asc_sorted nd) ws.length (Nat.le_of_eq (asc_perm ws).length_eq.symm)
  rwa [List.take_of_length_le (Nat.le_of_eq (asc_perm ws).length_eq)] at this
/-! ### hitting rings -/
def ringWays (r : List (Way × Way)) : List Way := r.flatMap fun p => [p.1, p.2]
def hitsR (p : List Way) (r : List (Way × Way)) : Bool := p.any fun w => decide (w ∈ ringWays r)
def hitsA (p : List Way) (rs : List (List (Way × Way))) : Bool := rs.all (hitsR p)
def allP (ws : List Way) : List (List Way) := (List.range (ws.length + 1)).flatMap (picksF ws)
theorem allP_mem {ws p : List Way} {n : Nat} (hn : n ≤ ws.length) (h : p ∈ picksF ws n) : p ∈ allP ws := List.mem_flatMap.mpr ⟨n, List.mem_range.mpr (by omega), h⟩
theorem allP_sub {ws p : List Way} (h : p ∈ allP ws) : p.length ≤ ws.length ∧ ∀ w ∈ p, w ∈ ws := by
  obtain ⟨n, h1, h2⟩ := List.mem_flatMap.mp h
  obtain ⟨e, hs⟩ := picks_row h2
  exact ⟨by rw [e]; have := List.mem_range.mp h1; omega, hs⟩
theorem flat_len_le {α β : Type} (f : α → List β) (c : Nat) : ∀ l : List α, (∀ a ∈ l, (f a).length ≤ c) → (l.flatMap f).length ≤ l.length * c
  | [], _ => by simp
  | a :: l, h => by
    rw [List.flatMap_cons, List.length_append, List.length_cons, Nat.succ_mul]
    have h1 := h a List.mem_cons_self
    have h2 := flat_len_le f c l fun b hb => h b (List.mem_cons_of_mem _ hb)
    omega
theorem allP_len {ws : List Way} (nd : ws.Nodup) (h9 : ws.length ≤ 9) : (allP ws).length ≤ 5120 := by
  have h1 := flat_len_le (picksF ws) 512 (List.range (ws.length + 1)) fun n _ => Nat.le_trans (picks_len nd n) (Nat.pow_le_pow_right (n := 2) (by decide) h9)
  rw [List.length_range] at h1
  unfold allP
  have : (ws.length + 1) * 512 ≤ 10 * 512 := Nat.mul_le_mul_right _ (by omega)
  omega
/-- picks that hit all -/
def left_ (ws : List Way) (rs : List (List (Way × Way))) : Nat := ((allP ws).filter fun p => hitsA p rs).length
theorem left_lt {ws p : List Way} {rs : List (List (Way × Way))} {r : List (Way × Way)} (hp : p ∈ allP ws) (h1 : hitsA p rs = true) (h2 : hitsR p r = false) : left_ ws (rs ++ [r]) < left_ ws rs := by
  unfold left_
  have e : (allP ws).filter (fun p => hitsA p (rs ++ [r])) = ((allP ws).filter fun p => hitsA p rs).filter fun p => hitsR p r := by
    rw [List.filter_filter]
    refine List.filter_congr fun x _ => ?_
    unfold hitsA
    rw [List.all_append]
    simp [Bool.and_comm]
  rw [e]
  exact List.length_filter_lt_length_iff_exists.mpr ⟨p, List.mem_filter.mpr ⟨hp, h1⟩, by simp [h2]⟩
theorem full_hits {ws : List Way} {rs : List (List (Way × Way))} (h : ∀ r ∈ rs, ∃ w ∈ ws, w ∈ ringWays r) : hitsA (asc ws) rs = true := by
  unfold hitsA
  rw [List.all_eq_true]
  intro r hr
  obtain ⟨w, h1, h2⟩ := h r hr
  unfold hitsR
  rw [List.any_eq_true]
  exact ⟨w, (asc_perm ws).mem_iff.mpr h1, by simpa using h2⟩
end Lk
end
section
set_option Elab.async false
set_option linter.all false
set_option maxRecDepth 100000
set_option maxHeartbeats 2000000
/-! Picks. -/
namespace Lw
open PySem PySem.Spec PyProof.Rows L2
open Lk (Way Gd IsWay ltP)
section
variable {P : Program} {w : World} {K : PySem.W.Frag} {mg : Str → Option Value} {base : Heap}
theorem sc_few_ways : FnScope ["guild", "ways"] ["guild"] (defScope s_few_ways) := ⟨rfl, rfl, rfl, by decide +kernel, rfl, by decide +kernel, by decide +kernel⟩
abbrev S_few_ways (P : Program) (w : World) (K : PySem.W.Frag) : Sp := Sp1 K eG (eL eW) Gd.Ok (fun g => srt eW g.ways)
theorem w_few_ways (B : Bi mg) (C : Cs mg) (D : Df K mg "few_ways" s_few_ways) (hall_ways : Has P w K mg base 1 "all_ways" ["guild"] (S_all_ways P w K)) : Has P w K mg base 2 "few_ways" ["guild"] (S_few_ways P w K) := by
  refine D.has sc_few_ways (fun vs H Q E h => ?_) (fun _ _ _ _ _ _ us hl => match us, hl with | [_], _ => rfl) (fun f cdv A outer s H vs Q E hr h => ?_)
  rotate_left
  have nd := sc_few_ways.nd
  have hu := hr.units
  have hu0 := hr.units0
  have hu1 := hu_of hr
  refine ⟨_, (pss_cons (ps_set (i := 1) nd rfl (Or.inl rfl) (pe_has hall_ways hr (by decide) (pa_cons (pv 0) pa_nil))) (pss_cons (ps_if (pt_cmpR op_gt (pe_callB call_lenD (by rfl) B.len (by decide +kernel) (pa_cons (pv 1) pa_nil)) (pe_glob (v := .int 12) (by rfl) C.DROPS ⟨_, rfl⟩) (nomark _)) (pss_one ps_never) pss_nil) (pss_one (ps_ret (pv 1))))), ?_⟩
  rotate_left
  · obtain ⟨_, _, rfl, _⟩ := h
    rfl
  · obtain ⟨v, g, rfl, h1, ok, q⟩ := h
    refine ⟨_, rfl, _, g, rfl, h1, ok, fun r H1 s1 i1 => ?_⟩
    have hlen : (srt eW g.ways).length ≤ 9 := by rw [(srt_perm _).length_eq]; exact ok.tot
    refine ⟨_, rfl, _, _, rfl, .inr i1, _, _, rfl, rfl, _, rfl, ifF (decide_eq_false ?_) ⟨_, rfl, q r H1 s1 i1⟩⟩
    rw [List.length_map]
    show ¬ (12 : Int) < ((srt eW g.ways).length : Int)
    omega
theorem sc_picks : FnScope ["ways", "many", "found", "count", "row", "way"] ["ways", "many"] (defScope s_picks) := ⟨rfl, rfl, rfl, by decide +kernel, rfl, by decide +kernel, by decide +kernel⟩
def S_picks (P : Program) (w : World) (K : PySem.W.Frag) : Sp := fun vs H Q _ => ∃ x ws n, vs = [x, .int (n : Nat)] ∧ Im K H x (eL eW ws) ∧ ws.Nodup ∧ ws.length ≤ 9 ∧ n ≤ 9 ∧ ∀ p H', Same H H' → H p = none → Im K H' (.ref p) (eL (eL eW) (Lk.picksF ws n)) → Q (.ref p) H'
theorem w_picks (B : Bi mg) (D : Df K mg "picks" s_picks) : Has P w K mg base 1 "picks" ["ways", "many"] (S_picks P w K) := by
  refine D.has sc_picks (fun vs H Q E h => ?_) (fun _ _ _ _ _ _ us hl => match us, hl with | [_, _], _ => rfl) (fun f cdv A outer s H vs Q E hr h => ?_)
  rotate_left
  have nd := sc_picks.nd
  have hu := hr.units
  have hu0 := hr.units0
  have hu1 := hu_of hr
  refine ⟨_, (pss_cons (ps_set (i := 2) nd rfl (Or.inl rfl) (pe_lstD (pa_cons (pe_lstD pa_nil) pa_nil))) (pss_cons (ps_for (passes_of rfl) rfl (pi_range1 (by rfl) B.range (pa_cons (pv 1) pa_nil)) (pg_name (i := 3) nd rfl (Or.inl rfl)) (pss_one (ps_setLc2 (i := 2) (g := (gName 4)) (tt := tYes) (wi1 := (iSeq K (tVar 0))) (g1 := (gName 5)) (tt1 := (tOr (tTest (tOp (rEqE K) (tVar 4) (tDispL K tNil))) (tTest (tOp (rLtW K) (tOp (rIxD K) (tVar 4) (tUn (rU fun i => .int (-i)) (tC (.int 1)))) (tVar 5))))) (vs1 := [5]) (te := (tOp (rCatL K) (tVar 4) (tDispL K (tCons (tVar 5) tNil)))) rfl nd rfl rfl (sw_true rfl rfl rfl (by decide +kernel)) (pi_seq (pv 2)) (blkOk_by (own := [("row", 4), ("way", 5)]) (by rfl)) (by decide) (fun _ _ _ _ _ => (pg_name (i := 4) nd rfl (Or.inl rfl))) (fun _ _ _ _ _ => pts_nil) (fun _ _ _ _ _ => (pi_seq (pv 0))) (fun _ _ _ _ _ => (pg_name (i := 5) nd rfl (Or.inl rfl))) (fun _ _ _ _ _ => (pts_one (PW.pt (pw_or (pt_cmpR (op_eqE hu) (pv 4) (pe_lstD pa_nil) (nomark _)) (pw_or1 (pt_cmpR (op_ltW hu0) (pe_ix ix_D (pv 4) (pe_un un_neg pe_int) (fun _ _ => rfl)) (pv 5) (nomark _))))))) (fun _ _ _ _ _ => (pe_op op_catLD (pv 4) (pe_lstD (pa_cons (pv 5) pa_nil))))))) (pss_one (ps_ret (pv 2))))), ?_⟩
  rotate_left
  · obtain ⟨_, _, _, rfl, _⟩ := h
    rfl
  · obtain ⟨x, ws, n, rfl, hx, nd, h9, hn9, q⟩ := h
    refine ⟨Nat.zero_le _, [], .nil, fun p1 H1 s1 f1 i1 => ⟨by show (1 : Nat) ≤ 1000; decide, _, .cons i1 .nil, fun p2 H2 s2 f2 i2 => ?_⟩⟩
    have s12 := s1.trans s2
    refine ⟨_, rfl, _, rfl, by omega, by omega, ?_⟩
    refine for_R (n := n) (lo := 0) (fun i σ' H' => ∃ p y, σ' = [some x, some (.int n), some (.ref p), y, none, none] ∧ Same H H' ∧ H p = none ∧ Im K H' (.ref p) (eL (eL eW) (Lk.picksF ws i))) ⟨p2, none, rfl, s12, none_back s1 f2, i2⟩ (fun i σ' H' hi pv => ?_) (fun σ' H' pv => ?_)
    · obtain ⟨p, y, rfl, sH, fp, ip⟩ := pv
      have heq : ((Lk.picksF ws i).flatMap fun row => ws.filterMap fun a => if Lk.fits row a then some (eL eW (row ++ [a])) else none) = (Lk.picksF ws (i + 1)).map (eL eW) := by
        show _ = ((Lk.picksF ws i).flatMap fun row => (ws.filter (Lk.fits row)).map fun w => row ++ [w]).map (eL eW)
        rw [List.map_flatMap]
        refine congrArg (fun z => List.flatMap z _) (funext fun row => ?_)
        rw [filterMap_if, List.map_map]
        rfl
      refine ⟨_, rfl, lc2_T (ea := eL eW) (fun _ _ h => (enc_lst enc_W).inj h) inj_W (.inr ip) (fun _ => ws) (fun row a => if Lk.fits row a then some (eL eW (row ++ [a])) else none) (fun r σ => σ = [some x, some (.int n), some (.ref p), some (.int (0 + (i : Nat))), some r, none]) ?_ flat_W ?_ ?_ ?_⟩
      · rw [heq, List.length_map, sizeLine_eq]
        have := Lk.picks_len nd (i + 1)
        have := Nat.pow_le_pow_right (n := 2) (by decide) h9
        omega
      · intro D row r H3 QI hr3 s3 hN hN2 ir k
        exact ⟨rfl, _, rfl, k _ _ _ rfl (Same.refl _) (.inr ⟨(hx.same sH).same s3, fun e => by rw [e] at hx; exact hx.ls.ne_none (none_back sH hN)⟩)⟩
      · intro D row a r u σ2 H3 QT QF hr3 ha hP s3 hN hN2 ir iu kT kF
        cases hP
        have hrl := (Lk.picks_row hr3).1
        refine ⟨rfl, _, rfl, Nat.zero_le _, [], .nil, fun p4 H4 s4 f4 i4 => ?_⟩
        have yes : Lk.fits row a = true → ∀ H5, Same H3 H5 → tOp (rCatL K) (tVar 4) (tDispL K (tCons (tVar 5) tNil)) [some x, some (.int n), some (.ref p), some (.int (0 + (i : Nat))), some r, some u] H5 QT := fun hf H5 s5 => by
          refine ⟨_, rfl, _, rfl, by show (1 : Nat) ≤ 1000; decide, _, .cons (iu.same s5) .nil, fun p6 H6 s6 f6 i6 => ⟨_, _, ir.same (s5.trans s6), i6, ?_, fun p7 H7 s7 f7 i7 => ?_⟩⟩
          · rw [List.length_map]; simp; omega
          · rw [show row.map eW ++ [eW a] = (row ++ [a]).map eW by simp] at i7
            exact kT _ _ _ (if_pos hf) ((s5.trans s6).trans s7) (stb_list i7 (fun e => hN2 (none_back (s5.trans s6) (by rw [← e]; exact f7))) (flatAll_map flat_W _))
        refine ⟨_, inferInstance, eL eW, 2, row, [], enc_lst enc_W, by decide, ir.same s4, i4, _, rfl, ?_⟩
        by_cases c : row = []
        · exact ifT (decide_eq_true c) (yes (by simp [Lk.fits, c]) H4 s4)
        refine ifF (decide_eq_false c) ?_
        have hlast : row.getLast? = some (row.getLastD []) := by
          rw [List.getLastD_eq_getLast?]
          cases h : row.getLast? with
          | none => exact absurd (List.getLast?_eq_none_iff.mp h) c
          | some z => rfl
        refine ⟨_, rfl, _, rfl, _, (-1 : Int), eW (row.getLastD []), .inr (ir.same s4), rfl, atI_map (f := eW) (atI_neg1 hlast), fun z hz => ?_⟩
        refine ⟨_, rfl, _, _, hz, iu.same s4, _, rfl, ?_⟩
        by_cases c2 : row.getLastD [] < a
        · exact ifT (decide_eq_true c2) (yes (by unfold Lk.fits; rw [decide_eq_true c2, Bool.or_true]) H4 s4)
        · refine ifF (decide_eq_false c2) (kF _ ?_ s4)
          rw [if_neg]
          unfold Lk.fits
          rw [decide_eq_false c2, decide_eq_false c]
          decide
      · intro p3 H3 s3 f3 i3
        rw [heq] at i3
        exact ⟨p3, _, rfl, sH.trans s3, none_back sH f3, i3⟩
    · obtain ⟨p, y, rfl, sH, fp, ip⟩ := pv
      exact ⟨_, rfl, q p H' sH fp ip⟩
theorem sc_ways_of : FnScope ["ring", "pair", "way"] ["ring"] (defScope s_ways_of) := ⟨rfl, rfl, rfl, by decide +kernel, rfl, by decide +kernel, by decide +kernel⟩
/-- at d a dict of a ring's ways -/
def Tab (P : Program) (w : World) (K : PySem.W.Frag) (H : Hp) (d : Addr) (r : List (Way × Way)) : Prop := ∃ kvs, DN P w eW K H d kvs ∧ ∀ u, u ∈ kvs.map (·.1) ↔ u ∈ Lk.ringWays r
def S_ways_of (P : Program) (w : World) (K : PySem.W.Frag) : Sp := fun vs H Q _ => ∃ x r, vs = [x] ∧ Im K H x (eRg r) ∧ r.length ≤ 1000 ∧ ∀ d H', Same H H' → H d = none → Tab P w K H' d r → Q (.ref d) H'
theorem w_ways_of (B : Bi mg) (D : Df K mg "ways_of" s_ways_of) : Has P w K mg base 1 "ways_of" ["ring"] (S_ways_of P w K) := by
  refine D.has sc_ways_of (fun vs H Q E h => ?_) (fun _ _ _ _ _ _ us hl => match us, hl with | [_], _ => rfl) (fun f cdv A outer s H vs Q E hr h => ?_)
  rotate_left
  have nd := sc_ways_of.nd
  have hu := hr.units
  have hu0 := hr.units0
  have hu1 := hu_of hr
  refine ⟨_, (pss_one (ps_ret (pe_dc2N (g := (gName 1)) (tt := tYes) (wi1 := (iSeq K (tVar 1))) (g1 := (gName 2)) (tt1 := tYes) (vs1 := [2]) (tk := (tVar 2)) (tv := (tC (.bl true))) hu rfl nd (pi_seq (pv 0)) (blkOk_by (own := [("pair", 1), ("way", 2)]) (by rfl)) (by decide) (fun _ _ _ _ _ => ⟨(pg_name (i := 1) nd rfl (Or.inl rfl)), pts_nil, (pi_seq (pv 1)), (pg_name (i := 2) nd rfl (Or.inl rfl)), pts_nil, (pv 2), pe_bl⟩)))), ?_⟩
  rotate_left
  · obtain ⟨_, _, rfl, _⟩ := h
    rfl
  · obtain ⟨x, r, rfl, hx, hl, q⟩ := h
    refine ⟨_, rfl, seq_of (.inr hx) fun J a xs G e wk t hG => ?_⟩
    have hxs : xs.length = r.length := by rw [t.length, List.length_map]
    let el : Nat → List Way := fun i => match r[i]? with | some p => [p.1, p.2] | none => []
    have heq : ((List.range xs.length).flatMap fun i => (el i).map fun u => u) = Lk.ringWays r := by
      rw [hxs]
      unfold Lk.ringWays
      have : ∀ (l : List (Way × Way)), ((List.range l.length).flatMap fun i => ((match l[i]? with | some p => [p.1, p.2] | none => []) : List Way).map fun u => u) = l.flatMap fun p => [p.1, p.2] := fun l => by
        induction l with
        | nil => rfl
        | cons p l ih =>
          rw [List.length_cons, List.range_succ_eq_map, List.flatMap_cons, List.flatMap_map, List.flatMap_cons]
          congr 1
      exact this r
    refine dc2_S (P := P) (w := w) (K := K) (eb := eW) key_W wk el (fun _ u => u) (fun _ => .bool true) (fun i σ => ∃ p, σ = [some x, some p, none]) ?_ flat_W hG (fun i H v H' y => by rw [y.1]; exact Same.refl _) (fun D i v H2 H3 QI hi s2 hN hN2 y k => ?_) (fun D i b u σ2 H3 QT hi hb hP s3 hN hN3 iu kT => ?_) (fun d H2 s2 f2 df => ?_)
    · rw [heq, sizeLine_eq]
      unfold Lk.ringWays
      refine Nat.lt_of_le_of_lt (Lk.flat_len_le (fun p : Way × Way => [p.1, p.2]) 2 r fun _ _ => Nat.le_refl _) ?_
      omega
    · obtain ⟨e1, hv⟩ := y
      subst e1
      obtain ⟨d, hd, him⟩ := t.getV hv
      obtain ⟨p, hp, rfl⟩ := map_get hd
      refine ⟨rfl, _, rfl, k _ _ _ ⟨_, rfl⟩ (Same.refl _) (.inl ?_)⟩
      have e2 : el i = [p.1, p.2] := by show (match r[i]? with | some p => _ | none => _) = _; rw [hp]
      rw [e2]
      exact him.same s2
    · obtain ⟨p, rfl⟩ := hP
      exact ⟨rfl, _, rfl, kT _ _ _ (Same.refl _) iu ((Im.bl true).stb rfl)⟩
    · rw [heq] at df
      obtain ⟨kvs, dn, ek⟩ := df.dn
      exact q d H2 s2 f2 ⟨kvs, dn, fun u => by rw [ek]; exact ddup_mem⟩
/-- at T a list of the rings' tables -/
def Tabs (P : Program) (w : World) (K : PySem.W.Frag) (H : Hp) (T : Addr) (rs : List (List (Way × Way))) : Prop := ∃ xs : List V, H T = some (.lst xs) ∧ xs.length = rs.length ∧ ∀ (i : Nat) r, rs[i]? = some r → ∃ d, xs[i]? = some (.ref d) ∧ Tab P w K H d r
theorem Tab.same {H H' : Hp} {d : Addr} {r : List (Way × Way)} (h : Tab P w K H d r) (s : Same H H') : Tab P w K H' d r := let ⟨kvs, h1, h2⟩ := h; ⟨kvs, h1.same s, h2⟩
theorem Tabs.same {H H' : Hp} {T : Addr} {rs : List (List (Way × Way))} (h : Tabs P w K H T rs) (s : Same H H') : Tabs P w K H' T rs := by
  obtain ⟨xs, h1, h2, h3⟩ := h
  exact ⟨xs, s _ _ h1, h2, fun i r hr => let ⟨d, q1, q2⟩ := h3 i r hr; ⟨d, q1, q2.same s⟩⟩
theorem getD_map {α β : Type} (f : α → β) (l : List α) (b : β) : ∀ n, n = l.length → (List.range n).map (fun i => (l[i]?.map f).getD b) = l.map f := fun n hn => by
  subst hn
  apply List.ext_getElem
  · simp
  · intro i h1 h2
    simp at h1
    simp [h1]
theorem filterMap_get {α β : Type} (f : α → β) (l : List α) : (List.range l.length).filterMap (fun i => (l[i]?).map f) = l.map f := by
  have := range_filterMap (fun a => some (f a)) l
  rw [List.filterMap_eq_map'] at this
  rw [← this]
  refine congrArg (fun z => List.filterMap z _) (funext fun i => ?_)
  cases l[i]? <;> rfl
theorem sc_hits : FnScope ["pick", "tables", "table", "way"] ["pick", "tables"] (defScope s_hits) := ⟨rfl, rfl, rfl, by decide +kernel, rfl, by decide +kernel, by decide +kernel⟩
def S_hits (P : Program) (w : World) (K : PySem.W.Frag) : Sp := fun vs H Q _ => ∃ x T p rs, vs = [x, .ref T] ∧ Im K H x (eL eW p) ∧ p.length ≤ 1000 ∧ rs.length ≤ 100000 ∧ Tabs P w K H T rs ∧ ∀ H', Same H H' → Q (.bl (Lk.hitsA p rs)) H'
theorem w_hits (B : Bi mg) (D : Df K mg "hits" s_hits) : Has P w K mg base 1 "hits" ["pick", "tables"] (S_hits P w K) := by
  refine D.has sc_hits (fun vs H Q E h => ?_) (fun _ _ _ _ _ _ us hl => match us, hl with | [_, _], _ => rfl) (fun f cdv A outer s H vs Q E hr h => ?_)
  rotate_left
  have nd := sc_hits.nd
  have hu := hr.units
  have hu0 := hr.units0
  have hu1 := hu_of hr
  refine ⟨_, (pss_one (ps_ret (pe_callB (cr_all rfl) (by rfl) B.all (by decide +kernel) (pa_cons (pe_lc (g := (gName 2)) (tt := tYes) (te := (tCB (rAny K) (tCons (tLc (iSeq K (tVar 0)) (gName 3) tYes (tOp (rInN false P w K) (tVar 3) (tVar 2)) [3]) tNil))) rfl nd (pi_seq (pv 1)) (blkOk_by (own := [("table", 2)]) (by rfl)) (fun _ _ _ _ _ => (pg_name (i := 2) nd rfl (Or.inr rfl))) (fun _ _ _ _ _ => pts_nil) (fun _ _ _ _ _ => (pe_callB (cr_any rfl) (by rfl) B.any (by decide +kernel) (pa_cons (pe_lc (g := (gName 3)) (tt := tYes) (te := (tOp (rInN false P w K) (tVar 3) (tVar 2))) rfl nd (pi_seq (pv 0)) (blkOk_by (own := [("way", 3)]) (by rfl)) (fun _ _ _ _ _ => (pg_name (i := 3) nd rfl (Or.inl rfl))) (fun _ _ _ _ _ => pts_nil) (fun _ _ _ _ _ => (pe_cmpR (op_inN hu) (pv 3) (pv 2) (by rfl)))) pa_nil)))) pa_nil)))), ?_⟩
  rotate_left
  · obtain ⟨_, _, _, _, rfl, _⟩ := h
    rfl
  · obtain ⟨x, T, p, rs, rfl, hx, hpl, hrl, ht, q⟩ := h
    obtain ⟨xs, h1, h2, h3⟩ := id ht
    refine ⟨_, rfl, T, xs, rfl, .inl ⟨SqL.of h1, ?_⟩⟩
    refine lc_S (K := K) (walk_list (xs := xs)) (small_line (by omega)) (fun i => (rs[i]?).map fun r => .bool (Lk.hitsR p r)) (fun H' s => SqL.of (s _ _ h1)) (fun i H v H' y => by rw [y.1]; exact Same.refl _) (fun D i v H2 H3 QT QF hi s2 hN y kT kF => ?_) (fun a H2 s2 f2 i2 => ?_)
    · obtain ⟨e1, hv⟩ := y
      subst e1
      have hir : i < rs.length := by omega
      have hr := List.getElem?_eq_getElem hir
      obtain ⟨d, hd, tb⟩ := h3 i _ hr
      rw [hv] at hd
      cases hd
      obtain ⟨kvs, dn, hk⟩ := tb.same s2
      refine ⟨rfl, _, rfl, lc_T (.inr (hx.same s2)) (small_line (by omega)) (fun u => some (.bool (decide (u ∈ Lk.ringWays rs[i])))) (fun D2 u y H4 QT2 QF2 hu4 s4 hN2 hy kT2 kF2 => ?_) (fun p5 H5 s5 f5 i5 => ?_)⟩
      · refine ⟨rfl, _, rfl, _, rfl, _, inferInstance, eW, u, d, kvs, key_W, hy, rfl, dn.same s4, kT2 _ _ _ rfl (Same.refl _) (Im.stb (.b ?_) rfl)⟩
        rw [if_neg (by decide), dhas_mem]
        exact decide_eq_decide.mpr (hk u)
      · rw [List.filterMap_eq_map'] at i5
        obtain ⟨b9, e9, q9⟩ := bools_of i5
        refine ⟨_, _, by rw [e9], q9, ?_⟩
        refine kT _ _ _ (by rw [hr]; rfl) s5 (Im.stb (.b ?_) rfl)
        unfold Lk.hitsR
        rw [List.any_map]; rfl
    · rw [h2, filterMap_get] at i2
      obtain ⟨b9, e9, q9⟩ := bools_of i2
      refine ⟨_, _, by rw [e9], q9, ?_⟩
      have e : (rs.map (Lk.hitsR p)).all id = Lk.hitsA p rs := by unfold Lk.hitsA; rw [List.all_map]; rfl
      rw [e]
      exact q H2 s2
theorem Tab.kp {H H' : Hp} {d : Addr} {r : List (Way × Way)} {S : List Addr} (h : Tab P w K H d r) (k : Kp S H H') (t : TK H H') (n : d ∉ S) : Tab P w K H' d r := let ⟨kvs, h1, h2⟩ := h; ⟨kvs, h1.kp flat_W k t n, h2⟩
theorem Tab.ne_none {H : Hp} {d : Addr} {r : List (Way × Way)} (h : Tab P w K H d r) : H d ≠ none := let ⟨_, h1, _⟩ := h; h1.ne_none
theorem sc_first_pick : FnScope ["free", "rings", "ring", "tables", "many", "pick"] ["free", "rings"] (defScope s_first_pick) := ⟨rfl, rfl, rfl, by decide +kernel, rfl, by decide +kernel, by decide +kernel⟩
def S_first_pick (P : Program) (w : World) (K : PySem.W.Frag) : Sp := fun vs H Q _ => ∃ x y ws rs, vs = [x, y] ∧ Im K H x (eL eW ws) ∧ Im K H y (eL eRg rs) ∧ ws.Nodup ∧ ws.length ≤ 9 ∧ rs.length ≤ 100000 ∧ (∀ r ∈ rs, r.length ≤ 1000 ∧ ∃ u ∈ ws, u ∈ Lk.ringWays r) ∧ ∀ p v H', p ∈ Lk.allP ws → Lk.hitsA p rs = true → Same H H' → Im K H' v (eL eW p) → Q v H'
theorem w_first_pick (B : Bi mg) (D : Df K mg "first_pick" s_first_pick) (hpicks : Has P w K mg base 1 "picks" ["ways", "many"] (S_picks P w K)) (hways_of : Has P w K mg base 1 "ways_of" ["ring"] (S_ways_of P w K)) (hhits : Has P w K mg base 1 "hits" ["pick", "tables"] (S_hits P w K)) : Has P w K mg base 2 "first_pick" ["free", "rings"] (S_first_pick P w K) := by
  refine D.has sc_first_pick (fun vs H Q E h => ?_) (fun _ _ _ _ _ _ us hl => match us, hl with | [_, _], _ => rfl) (fun f cdv A outer s H vs Q E hr h => ?_)
  rotate_left
  have nd := sc_first_pick.nd
  have hu := hr.units
  have hu0 := hr.units0
  have hu1 := hu_of hr
  refine ⟨_, (pss_cons (ps_setLc (i := 3) (g := (gName 2)) (tt := tYes) (te := (tCall (S_ways_of P w K) [] E0 (tCons (tVar 2) tNil))) rfl nd rfl rfl (sw_true rfl rfl rfl (by decide +kernel)) (pi_seq (pv 1)) (blkOk_by (own := [("ring", 2)]) (by rfl)) (fun _ _ _ _ _ => (pg_name (i := 2) nd rfl (Or.inl rfl))) (fun _ _ _ _ _ => pts_nil) (fun _ _ _ _ _ => (pe_has hways_of hr (by decide) (pa_cons (pv 2) pa_nil)))) (pss_cons (ps_set (i := 4) nd rfl (Or.inl rfl) pe_int) (pss_one (ps_while (passes_of rfl) (pt_val pe_bl) (pss_cons (ps_for (passes_of rfl) rfl (pi_seq (pe_has hpicks hr (by decide) (pa_cons (pv 0) (pa_cons (pv 4) pa_nil)))) (pg_name (i := 5) nd rfl (Or.inl rfl)) (pss_one (ps_if (pt_val (pe_has hhits hr (by decide) (pa_cons (pv 5) (pa_cons (pv 3) pa_nil)))) (pss_one (ps_ret (pv 5))) pss_nil))) (pss_one (ps_aug (i := 4) nd rfl (Or.inl rfl) pe_int ip_add))))))), ?_⟩
  rotate_left
  · obtain ⟨_, _, _, _, rfl, _⟩ := h
    rfl
  · obtain ⟨x, y, ws, rs, rfl, hx, hy, nd, h9, hrl, hr1, q⟩ := h
    refine ⟨_, rfl, seq_of (R := RLc _ _ _ _ _ _) (.inr hy) fun J a xs G e wk t hG => ?_⟩
    have hxs : xs.length = rs.length := by rw [t.length, List.length_map]
    refine lc_walk wk (small_line (by omega)) (fun D i acc H2 => acc.length = i ∧ Same H H2 ∧ ∀ j r, j < i → rs[j]? = some r → ∃ d, acc[j]? = some (.ref d) ∧ Tab P w K H2 d r ∧ d ≠ D) (fun D hD => ⟨rfl, Same.new hD, fun j r hj => by omega⟩) (fun D i acc H2 _ p => hG H2 p.2.1)
      (fun D i acc v H2 H3 QT QF hD hi eD hl p yy kT kF => ?_) (fun T H2acc H2 hD eD hl p => ?_)
    · obtain ⟨hl, s2, told⟩ := p
      obtain ⟨e3, hv⟩ := yy
      subst e3
      obtain ⟨d, hd, him⟩ := t.getV hv
      obtain ⟨r, hr, rfl⟩ := map_get hd
      refine ⟨rfl, _, rfl, v, r, rfl, him.same s2, (hr1 r (List.mem_of_getElem? hr)).1, fun d H4 s4 f4 tb => kT _ H4 (s4 _ _ eD) ⟨by simp [hl], fun b o q => ?_, fun j r' hj hr' => ?_⟩⟩
      · rw [upd_ne (ne_of_none q hD)]; exact s4 _ _ (s2 _ _ q)
      · have tk : TK H4 (upd H4 D (.lst (acc ++ [.ref d]))) := TK.upd (s4 _ _ eD) (fun _ _ q => nomatch q)
        rcases Nat.lt_or_ge j i with c | c
        · obtain ⟨d', q1, q2, q3⟩ := told j r' c hr'
          exact ⟨d', by rw [List.getElem?_append_left (by omega)]; exact q1, (q2.same s4).kp Kp.upd tk (by simpa using q3), q3⟩
        · have : j = i := by omega
          subst this
          rw [hr] at hr'
          cases hr'
          have hne : d ≠ D := fun e => by rw [e] at f4; rw [f4] at eD; cases eD
          exact ⟨d, by rw [List.getElem?_append_right (by omega), hl, Nat.sub_self]; rfl, tb.kp Kp.upd tk (by simpa using hne), hne⟩
    obtain ⟨hl, s2, told⟩ := p
    have tabs : Tabs P w K H2 T rs := ⟨H2acc, eD, by omega, fun i r hr => by
      obtain ⟨d, q1, q2, _⟩ := told i r (by have := (List.getElem?_eq_some_iff.mp hr).1; omega) hr
      exact ⟨d, q1, q2⟩⟩
    refine ⟨fun m σ' H' => ∃ (k : Nat) (z : Option V), σ' = [some x, some y, none, some (.ref T), some (.int k), z] ∧ m = 10 - k ∧ k ≤ ws.length ∧ Same H H' ∧ Tabs P w K H' T rs, ⟨_, 0, none, rfl, rfl, Nat.zero_le _, s2, tabs⟩, ?_⟩
    rintro m σ' H' ⟨k, z, rfl, rfl, hk, sH, tb⟩
    refine ⟨_, rfl, ifT rfl ⟨fun σ' H' => ∃ z, σ' = [some x, some y, none, some (.ref T), some (.int (k + 1 : Nat)), z] ∧ k < ws.length ∧ Same H H' ∧ Tabs P w K H' T rs, fun σ' H' ⟨z, e1, e2, e3, e4⟩ => ⟨10 - (k + 1), by omega, k + 1, z, e1, rfl, e2, e3, e4⟩, ?_⟩⟩
    refine ⟨_, rfl, _, rfl, _, ws, k, rfl, hx.same sH, nd, h9, by omega, fun pp H3 s3 f3 i3 => ?_⟩
    refine for_LT i3 (fun i σ' H' => ∃ z, σ' = [some x, some y, none, some (.ref T), some (.int k), z] ∧ Same H3 H' ∧ ∀ p ∈ (Lk.picksF ws k).take i, Lk.hitsA p rs = false) ⟨z, rfl, Same.refl _, by simp⟩ (fun i σ' H' pv a e => ?_) (fun i p v σ' H' hp hv pv => ?_) (fun σ' H' pv => ?_)
    · obtain ⟨_, _, s4, _⟩ := pv
      exact same_two i3 (Same.refl _) s4 a e
    · obtain ⟨z, rfl, s4, no⟩ := pv
      have hpm := List.mem_of_getElem? hp
      refine ⟨_, rfl, _, rfl, _, T, p, rs, rfl, hv.same s4, by rw [(Lk.picks_row hpm).1]; omega, hrl, (tb.same s3).same s4, fun H5 s5 => ⟨_, rfl, ?_⟩⟩
      cases c : Lk.hitsA p rs with
      | true => exact ifT rfl ⟨_, rfl, q p v H5 (Lk.allP_mem hk hpm) c (((sH.trans s3).trans s4).trans s5) (hv.same (s4.trans s5))⟩
      | false =>
        refine ifF rfl ⟨_, rfl, s4.trans s5, fun p' hp' => ?_⟩
        rw [take_snoc hp] at hp'
        rcases List.mem_append.mp hp' with c' | c'
        · exact no p' c'
        · rw [List.mem_singleton.mp c']; exact c
    · obtain ⟨z, rfl, s4, no⟩ := pv
      rw [List.take_length] at no
      have hlt : k < ws.length := Nat.lt_of_le_of_ne hk fun e => by
        subst e
        have := no _ (Lk.picks_full nd)
        rw [Lk.full_hits fun r hr => (hr1 r hr).2] at this
        cases this
      exact ⟨_, rfl, _, _, rfl, rfl, z, rfl, hlt, (sH.trans s3).trans s4, (tb.same s3).same s4⟩
end
end Lw
end
section
set_option Elab.async false
set_option linter.all false
set_option maxRecDepth 100000
set_option maxHeartbeats 2000000
/-! Defs with one keyword-only parameter, called without it. -/
namespace Lw
open PySem PySem.Spec PyProof.Rows L2
def DfK (K : PySem.W.Frag) (mg : Str → Option Value) (x : Str) (st : Stmt) (kws : List (Str × V)) : Prop := ∃ f fd, mg x = some (.ref f) ∧ FunD K x x (defArgs st) (defBody st) (defScope st) [] kws f fd
def HasD (P : Program) (w : World) (K : PySem.W.Frag) (mg : Str → Option Value) (base : Heap) (n : Nat) (x : Str) (ps : List Str) (dvs : List V) (sp : Sp) : Prop :=
  ∃ f fd ds, mg x = some (.ref f) ∧ PySem.W.keepIn K (.ref f) = true ∧ Vals dvs ds ∧ Binds K fd ps ds ∧ FnOk P w K mg base CX0 n f fd ps sp
section
variable {X : Cx}
theorem pe_hasD {n k : Nat} {x : Str} {ps : List Str} {dvs : List V} {sp : Sp} {e : Expr} {es : List Expr} {t : TA} {p pos : Pos} (h : HasD X.prog X.w X.K X.mg X.base n x ps dvs sp) (hr : Room k X.A) (hn : n ≤ k) (ha : PA X (e :: es) t) (hg : Gl X x := by rfl)
    (hdb : (x == ("__debug__" : Str)) = false := by decide) (he : starEach (e :: es) X.env = (false, eval e X.env) :: starEach es X.env := by rfl) (hpl : (backTo pos (starEach es X.env)).any (·.1) = false := by rfl) :
    PE X (.Call (.Name x p) (e :: es) [] pos) (tCall sp dvs E0 t) := by
  obtain ⟨f, fd, ds, h1, h2, hv, h3, h4⟩ := h
  exact pe_call h4 (hr.mono hn) hg h1 h2 h3 hv pass0 ha hdb he hpl
end
section
variable {P : Program} {w : World} {K : PySem.W.Frag} {mg : Str → Option Value} {base : Heap}
theorem DfK.has {x : Str} {st : Stmt} {N ps : List Str} {k m : Nat} {sp : Sp} {kws : List (Str × V)} (D : DfK K mg x st kws) (S : FnScope N ps (defScope st)) (hk : kws ≠ []) (hm : m + kws.length = ps.length) (len : ∀ vs H Q E, sp vs H Q E → vs.length = ps.length)
    (hb : ∀ (D : Addr) (doc pm : Value) (an : Option Addr) (cdv ct : Value) (us ks : List Value), us.length = m → ks.length = kws.length → KwChain D ((kws.map (·.1)).zip ks) (bindArgs (PySem.W.fnOf x x (defArgs st) (defBody st) (defScope st) .none (.ref D) doc pm an cdv ct) ⟨us, []⟩) (ps.zip (us ++ ks)))
    (body : ∀ (f : Addr) (cdv : Value) (A : Around) (outer : List Env) (s : Shared) (H : Hp) (vs : List V) (Q : VK) (E : XK), Room k (A.deeper (envOfC x (defScope st) s.heap.objs.size f cdv)) → sp vs H Q E →
      ∃ t, PSs (cxOf CX0 P w K mg base N x (defScope st) f cdv A outer s H E) (defBody st) t ∧ t { nx := fun _ H' => Q .non H', rt := Q } (start N vs) H) : HasD P w K mg base (k + 1) x ps (kws.map (·.2)) sp := by
  obtain ⟨f, fd, h1, F⟩ := D
  obtain ⟨ds, hv, hB⟩ := F.binds0 m hk hm hb
  exact ⟨f, fd, ds, h1, F.kp, hv, hB, F.ok S len (body f)⟩
end
theorem tst_bind (D : Addr) (doc pm : Value) (an : Option Addr) (cdv ct : Value) (us ks : List Value) (h1 : us.length = 1) (h2 : ks.length = 1) : KwChain D ((["kept"] : List Str).zip ks) (bindArgs (PySem.W.fnOf "least_drop" "least_drop" (defArgs s_least_drop) (defBody s_least_drop) (defScope s_least_drop) .none (.ref D) doc pm an cdv ct) ⟨us, []⟩) ((["guild", "kept"] : List Str).zip (us ++ ks)) := by
  match us, h1, ks, h2 with
  | [u], _, [k], _ => exact ⟨_, _, _, _, _, _, rfl, rfl, rfl⟩
end Lw
end
section
set_option Elab.async false
set_option linter.all false
set_option maxRecDepth 100000
set_option maxHeartbeats 2000000
/-! The least drop. -/
namespace Lw
open PySem PySem.Spec PyProof.Rows L2
open Lk (Way Gd IsWay ltP)
theorem dropG_row (g : Gd) (ws : List Way) (h : Int) : (dropG g ws).row h = (g.row h).filter fun w => !decide (w ∈ ws) := by
  unfold Lk.Gd.row dropG
  simp only [List.getD_eq_getElem?_getD, List.getElem?_map]
  cases g.likes[(h - 1).toNat]? <;> rfl
theorem dropG_ways (g : Gd) (ws : List Way) : (dropG g ws).ways = g.ways.filter fun w => !decide (w ∈ ws) := by
  unfold Lk.Gd.ways dropG
  rw [List.filter_flatten]
theorem dropG_ok {g : Gd} (ok : g.Ok) (ws : List Way) : (dropG g ws).Ok := by
  refine ⟨ok.lo, ok.hi, ok.rds, ok.ris, ?_, fun h h1 h2 => ?_, fun h h1 h2 => ?_, fun h h1 h2 w hw => ?_, ?_⟩
  · show (g.likes.map _).length = _
    rw [List.length_map]; exact ok.len
  · rw [dropG_row]; exact (ok.rnd h h1 h2).filter _
  · rw [dropG_row]; exact Nat.le_trans (List.length_filter_le _ _) (ok.rlen h h1 h2)
  · rw [dropG_row] at hw; exact ok.way h h1 h2 w (List.mem_filter.mp hw).1
  · rw [dropG_ways]; exact Nat.le_trans (List.length_filter_le _ _) ok.tot
theorem drop_all {g : Gd} {ws : List Way} (h : ∀ u ∈ g.ways, u ∈ ws) : ∃ o, Lk.IsOrd (dropG g ws) o := by
  refine ⟨[], List.nodup_nil, fun u => ?_, fun pre u post e => by simp at e⟩
  rw [dropG_ways, List.mem_filter]
  constructor
  · intro q; cases q
  · rintro ⟨a, b⟩
    simp [h u a] at b
/-- a ring of what is left is not hit -/
theorem not_hit {g : Gd} {p : List Way} {r : List (Way × Way)} (h : Lk.InWays (dropG g p) r) : Lk.hitsR p r = false := by
  unfold Lk.hitsR
  rw [List.any_eq_false]
  intro u hu c
  have c : u ∈ Lk.ringWays r := by simpa using c
  unfold Lk.ringWays at c
  obtain ⟨q, hq, hq2⟩ := List.mem_flatMap.mp c
  obtain ⟨h1, h2⟩ := h q hq
  rw [dropG_ways, List.mem_filter] at h1 h2
  simp only [List.mem_cons, List.not_mem_nil, or_false] at hq2
  rcases hq2 with rfl | rfl
  · simp [hu] at h1
  · simp [hu] at h2
theorem ring_ne {K : PySem.W.Frag} {H : Hp} {R b : Addr} {ys : List V} {rs : List (List (Way × Way))} {r : List (Way × Way)} (h1 : H R = some (.lst ys)) (h2 : ImAll K H ys (rs.map eRg)) (h3 : Im K H (.ref b) (eRg r)) (hr : r ≠ []) : b ≠ R := by
  rintro rfl
  obtain ⟨xs, e1, e2⟩ := h3.ls
  rw [h1] at e1
  cases e1
  cases r with
  | nil => exact hr rfl
  | cons p r =>
    rw [List.map_cons] at e2
    cases e2 with
    | cons a _ =>
      cases rs with
      | nil => cases h2
      | cons r0 rs =>
        rw [List.map_cons] at h2
        cases h2 with
        | cons c _ =>
          obtain ⟨z, zs, rfl, q1, _⟩ := c.lst_inv
          have a : Im K H (.ref z) (.tuple [eW p.1, eW p.2]) := a
          cases a with
          | tup h _ _ => rw [q1] at h; cases h
section
variable {P : Program} {w : World} {K : PySem.W.Frag} {mg : Str → Option Value} {base : Heap}
theorem sc_has_order : FnScope ["guild"] ["guild"] (defScope s_has_order) := ⟨rfl, rfl, rfl, by decide +kernel, rfl, by decide +kernel, by decide +kernel⟩
def S_has_order (P : Program) (w : World) (K : PySem.W.Frag) : Sp := fun vs H Q _ => ∃ v g, vs = [v] ∧ Im K H v (eG g) ∧ g.Ok ∧ ∀ b H', (b = true ↔ ∃ o, Lk.IsOrd g o) → Same H H' → Q (.bl b) H'
theorem w_has_order (B : Bi mg) (D : Df K mg "has_order" s_has_order) (horder_or_ring : Has P w K mg base 4 "order_or_ring" ["guild"] (S_order_or_ring P w K)) : Has P w K mg base 5 "has_order" ["guild"] (S_has_order P w K) := by
  refine D.has sc_has_order (fun vs H Q E h => ?_) (fun _ _ _ _ _ _ us hl => match us, hl with | [_], _ => rfl) (fun f cdv A outer s H vs Q E hr h => ?_)
  rotate_left
  have nd := sc_has_order.nd
  have hu := hr.units
  have hu0 := hr.units0
  have hu1 := hu_of hr
  refine ⟨_, (pss_one (ps_ret (pe_cmpR op_eq (pe_ix ix_D (pe_has horder_or_ring hr (by decide) (pa_cons (pv 0) pa_nil)) pe_int (fun _ _ => rfl)) pe_str (nomark _)))), ?_⟩
  rotate_left
  · obtain ⟨_, _, rfl, _⟩ := h
    rfl
  · obtain ⟨v, g, rfl, h1, ok, q⟩ := h
    refine ⟨_, rfl, _, g, rfl, h1, ok, fun d r H1 td s1 i1 => ?_⟩
    cases td with
    | order io =>
      refine ⟨_, 0, _, .inl i1, rfl, rfl, fun x hx => ?_⟩
      cases hx
      exact ⟨rfl, q _ H1 ⟨fun _ => ⟨_, io⟩, fun _ => by decide⟩ s1⟩
    | ring a1 a2 a3 a4 =>
      refine ⟨_, 0, _, .inl i1, rfl, rfl, fun x hx => ?_⟩
      cases hx
      exact ⟨rfl, q _ H1 ⟨fun c => absurd c (by decide), fun c => absurd c a4⟩ s1⟩
theorem sc_least_drop : FnScope ["guild", "kept", "way", "free", "rings", "pick", "word", "found"] ["guild", "kept"] (defScope s_least_drop) := ⟨rfl, rfl, rfl, by decide +kernel, rfl, by decide +kernel, by decide +kernel⟩
/-- what least_drop tells -/
structure Least (g : Gd) (p : List Way) (rs : List (List (Way × Way))) : Prop where
  sub : ∀ u ∈ p, u ∈ g.ways
  len : p.length ≤ 9
  ord : ∃ o, Lk.IsOrd (dropG g p) o
  hit : Lk.hitsA p rs = true
  rlen : rs.length ≤ 100000
  each : ∀ r ∈ rs, r.length ≤ 1000
def S_least_drop (P : Program) (w : World) (K : PySem.W.Frag) : Sp := fun vs H Q _ => ∃ v v2 g, vs = [v, v2] ∧ Im K H v (eG g) ∧ Im K H v2 (.tuple []) ∧ g.Ok ∧ ∀ p rs r H', Least g p rs → Same H H' → Im K H' r (.tuple [eL eW p, eL eRg rs]) → Q r H'
theorem w_least_drop (B : Bi mg) {kv : V} (D : DfK K mg "least_drop" s_least_drop [("kept", kv)]) (hfew_ways : Has P w K mg base 2 "few_ways" ["guild"] (S_few_ways P w K)) (hhas_order : Has P w K mg base 5 "has_order" ["guild"] (S_has_order P w K)) (hdropped : Has P w K mg base 1 "dropped" ["guild", "ways"] (S_dropped P w K))
    (hfirst_pick : Has P w K mg base 2 "first_pick" ["free", "rings"] (S_first_pick P w K)) (horder_or_ring : Has P w K mg base 4 "order_or_ring" ["guild"] (S_order_or_ring P w K)) : HasD P w K mg base 6 "least_drop" ["guild", "kept"] [kv] (S_least_drop P w K) := by
  refine D.has sc_least_drop (by simp) rfl (fun vs H Q E h => ?_) (fun D doc pm an cdv ct us ks h1 h2 => match us, h1, ks, h2 with | [u0], _, [k], _ => ⟨_, _, _, _, _, _, rfl, rfl, rfl⟩) (fun f cdv A outer s H vs Q E hr h => ?_)
  rotate_left
  have nd := sc_least_drop.nd
  have hu := hr.units
  have hu0 := hr.units0
  have hu1 := hu_of hr
  refine ⟨_, (pss_cons (ps_setLc (i := 3) (g := (gName 2)) (tt := (tTest (tOp (rInE true K) (tVar 2) (tVar 1)))) (te := (tVar 2)) rfl nd rfl rfl (sw_true rfl rfl rfl (by decide +kernel)) (pi_seq (pe_has hfew_ways hr (by decide) (pa_cons (pv 0) pa_nil))) (blkOk_by (own := [("way", 2)]) (by rfl)) (fun _ _ _ _ _ => (pg_name (i := 2) nd rfl (Or.inl rfl))) (fun _ _ _ _ _ => (pts_one (pt_cmpR (op_notInE hu) (pv 2) (pv 1) (by rfl)))) (fun _ _ _ _ _ => (pv 2))) (pss_cons (ps_if (pt_not (pt_val (pe_has hhas_order hr (by decide) (pa_cons (pe_has hdropped hr (by decide) (pa_cons (pv 0) (pa_cons (pv 3) pa_nil))) pa_nil)))) (pss_one ps_never) pss_nil) (pss_cons (ps_set (i := 4) nd rfl (Or.inl rfl) (pe_lstD pa_nil)) (pss_one (ps_while (passes_of rfl) (pt_val pe_bl) (pss_cons (ps_set (i := 5) nd rfl (Or.inl rfl) (pe_has hfirst_pick hr (by decide) (pa_cons (pv 3) (pa_cons (pv 4) pa_nil)))) (pss_cons (ps_asg (pe_has horder_or_ring hr (by decide) (pa_cons (pe_has hdropped hr (by decide) (pa_cons (pv 0) (pa_cons (pv 5) pa_nil))) pa_nil)) (pg_tup (by rfl) (pgs_cons (pg_name (i := 6) nd rfl (Or.inl rfl)) (pgs_cons (pg_name (i := 7) nd rfl (Or.inl rfl)) pgs_nil)))) (pss_cons (ps_if (pt_cmpR op_eq (pv 6) pe_str (nomark _)) (pss_one (ps_ret (pe_tupD (pa_cons (pv 5) (pa_cons (pv 4) pa_nil))))) pss_nil) (pss_one (ps_expr (pe_bm PySem.F.plainAttrs_list PySem.F.slot_list_append PySem.F.type_list_append mt_append (pv 4) (pa_cons (pv 7) pa_nil)))))))))))), ?_⟩
  rotate_left
  · obtain ⟨_, _, _, rfl, _⟩ := h
    rfl
  · obtain ⟨v, v2, g, rfl, h1, h2, ok, q⟩ := h
    refine ⟨_, rfl, _, g, rfl, h1, ok, fun r H1 s1 i1 => ?_⟩
    have hws : ∀ u, u ∈ srt eW g.ways ↔ u ∈ g.ways := fun u => (srt_perm (e := eW) _).mem_iff
    have hlen : (srt eW g.ways).length ≤ 9 := by rw [(srt_perm _).length_eq]; exact ok.tot
    have hnd : (srt eW g.ways).Nodup := (srt_perm _).nodup_iff.mpr ok.ways_nodup
    have i1 : Im K H1 r (eL eW (srt eW g.ways)) := i1
    generalize srt eW g.ways = ws at hws hlen hnd i1
    refine lc_T (.inr i1) (small_line (by omega)) (fun u => some (eW u)) (fun D u x H2 QT QF hu2 s2 hN hx kT kF => ?_) (fun F H2 s2 f2 i2 => ?_)
    · refine ⟨rfl, _, rfl, _, rfl, _, inferInstance, eW, 1, u, [], enc_W, by decide, hx, .inl (h2.same (s1.trans s2)), _, rfl, ifT ?_ ⟨_, rfl, kT _ _ _ rfl (Same.refl _) (hx.stb (flat_W u))⟩⟩
      rfl
    rw [List.filterMap_eq_map'] at i2
    have i2 : Im K H2 (.ref F) (eL eW ws) := i2
    have s12 := s1.trans s2
    refine ⟨_, rfl, _, rfl, _, _, g, ws, rfl, h1.same s12, i2, ⟨ok, by omega⟩, fun d H3 s3 i3 => ?_⟩
    refine ⟨_, _, rfl, i3, dropG_ok ok ws, fun b H4 hb s4 => ⟨_, rfl, ifF ?_ ?_⟩⟩
    · rw [hb.mpr (drop_all fun u hu => (hws u).mpr hu)]; rfl
    refine ⟨Nat.zero_le _, [], .nil, fun R H5 s5 f5 i5 => ?_⟩
    have s25 := (s3.trans s4).trans s5
    have sR := s12.trans (s3.trans s4)
    refine ⟨fun m σ' H' => ∃ rs y5 y6 y7 ys, σ' = [some v, some v2, none, some (.ref F), some (.ref R), y5, y6, y7] ∧ m = Lk.left_ ws rs ∧ rs.length + Lk.left_ ws rs ≤ 5120 ∧ (∀ r ∈ rs, r.length ≤ 10 ∧ ∃ u ∈ ws, u ∈ Lk.ringWays r) ∧ Kp [R] H5 H' ∧ TK H5 H' ∧ H' R = some (.lst ys) ∧ StbAll K R H' ys (rs.map eRg),
      ⟨_, [], none, none, none, [], rfl, rfl, ?_, fun r hr => (nomatch hr), Kp.refl, TK.refl, ?_, fun _ _ _ => .nil⟩, ?_⟩
    · have := Lk.allP_len hnd hlen
      unfold Lk.left_
      have := List.length_filter_le (fun p => Lk.hitsA p []) (Lk.allP ws)
      show 0 + _ ≤ _
      omega
    · obtain ⟨xs, e1, e2⟩ := i5.ls
      cases e2
      exact e1
    rintro m σ' H' ⟨rs, y5, y6, y7, ys, rfl, rfl, hbd, hrs, kp, tk, hR, st⟩
    have sH' : Same H H' := same_kp1 (sR.trans s5) kp (none_back sR f5)
    refine ⟨_, rfl, ifT rfl ⟨fun σ' H' => ∃ m', m' < Lk.left_ ws rs ∧ ∃ rs y5 y6 y7 ys, σ' = [some v, some v2, none, some (.ref F), some (.ref R), y5, y6, y7] ∧ m' = Lk.left_ ws rs ∧ rs.length + Lk.left_ ws rs ≤ 5120 ∧ (∀ r ∈ rs, r.length ≤ 10 ∧ ∃ u ∈ ws, u ∈ Lk.ringWays r) ∧ Kp [R] H5 H' ∧ TK H5 H' ∧ H' R = some (.lst ys) ∧ StbAll K R H' ys (rs.map eRg), fun _ _ h => h, ?_⟩⟩
    have hFR : F ≠ R := fun e => by
      have := (i2.same (s3.trans s4)).ls.ne_none
      rw [e] at this
      exact this f5
    have iF : Im K H' (.ref F) (eL eW ws) := ((i2.same s25).ls.kp kp tk (flatAll_map flat_W _) (by simpa using hFR)).im
    have iR : Im K H' (.ref R) (eL eRg rs) := .lst hR st.im
    refine ⟨_, rfl, _, rfl, _, _, ws, rs, rfl, iF, iR, hnd, hlen, by omega, fun r hr => ⟨Nat.le_trans (hrs r hr).1 (by decide), (hrs r hr).2⟩, fun p pv H6 hp hh s6 i6 => ?_⟩
    have hps := Lk.allP_sub hp
    refine ⟨_, rfl, _, rfl, _, _, g, p, rfl, h1.same (sH'.trans s6), i6, ⟨ok, by omega⟩, fun d H7 s7 i7 => ?_⟩
    refine ⟨_, _, rfl, i7, dropG_ok ok p, fun td x H8 told s8 i8 => ?_⟩
    have s68 := (s6.trans s7).trans s8
    have hR8 := s68 _ _ hR
    have st8 := st.same s68
    cases told with
    | @order o io =>
      obtain ⟨T, xs, rfl, hq, him⟩ := i8.tup_inv
      cases him with
      | cons j1 him =>
      cases him with
      | cons j2 him =>
      cases him
      cases j1
      refine ⟨_, _, rfl, hq, rfl, _, _, rfl, _, _, rfl, rfl, ?_⟩
      refine ⟨_, rfl, rfl, _, rfl, ifT rfl ⟨_, rfl, _, rfl, by show (2 : Nat) ≤ 1000; decide, _, .cons (i6.same (s7.trans s8)) (.cons (.lst hR8 st8.im) .nil), fun p9 H9 s9 f9 i9 => ?_⟩⟩
      exact q p rs _ H9 ⟨fun u hu => (hws u).mp (hps.2 u hu), by omega, ⟨o, io⟩, hh, by omega, fun r hr => Nat.le_trans (hrs r hr).1 (by decide)⟩ ((sH'.trans s68).trans s9) i9
    | @ring r hr0 hin hl10 hno =>
      obtain ⟨T, xs, rfl, hq, him⟩ := i8.tup_inv
      cases him with
      | cons j1 him =>
      cases him with
      | cons j2 him =>
      cases him
      cases j1
      refine ⟨_, _, rfl, hq, rfl, _, _, rfl, _, _, rfl, rfl, ?_⟩
      refine ⟨_, rfl, rfl, _, rfl, ifF rfl ?_⟩
      have hlt := Lk.left_lt hp hh (not_hit hin)
      have hyl : ys.length = rs.length := by have := st.im.length; rw [List.length_map] at this; exact this
      obtain ⟨b, zs, rfl, hb1, hb2⟩ := j2.lst_inv
      have hbR := ring_ne hR8 st8.im j2 hr0
      refine ⟨_, rfl, .inl ⟨rfl, ys, SqL.of hR8⟩, _, rfl, R, ys, _, rfl, rfl, hR8, by rw [sizeLine_eq]; omega, ?_⟩
      have tk9 : TK H8 (upd H8 R (.lst (ys ++ [.ref b]))) := TK.upd hR8 (fun _ _ q => nomatch q)
      refine ⟨_, hlt, rs ++ [r], _, _, _, _, rfl, rfl, ?_, fun r' hr' => ?_, (kp.trans s68.kp).trans Kp.upd, (tk.trans s68.tk).trans tk9, upd_same, ?_⟩
      · rw [List.length_append, List.length_singleton]; omega
      · rcases List.mem_append.mp hr' with c | c
        · exact hrs r' c
        · rw [List.mem_singleton.mp c]
          refine ⟨hl10, ?_⟩
          cases r with
          | nil => exact absurd rfl hr0
          | cons q0 r =>
            have := (hin q0 List.mem_cons_self).1
            rw [dropG_ways, List.mem_filter] at this
            exact ⟨q0.1, (hws _).mpr this.1, by simp [Lk.ringWays]⟩
      · rw [List.map_append]
        exact (st8.snoc (stb_list j2 hbR (flatAll_map flat_St _))).step Kp.upd tk9
end
end Lw
end
section
set_option Elab.async false
set_option linter.all false
set_option maxRecDepth 100000
set_option maxHeartbeats 2000000
/-! Stands. -/
namespace Lw
open PySem PySem.Spec PyProof.Rows L2
open Lk (Way Gd IsWay ltP)
theorem atI_at {s : List Way} {b : Int} (h0 : 0 ≤ b) (h1 : b < s.length) : atI (s.map eW) b = some (eW (Lk.at_ s b)) := by
  refine atI_map (f := eW) (atI_nn h0 ?_)
  unfold Lk.at_
  have h2 : b.toNat < s.length := by omega
  rw [List.getD_eq_getElem?_getD, List.getElem?_eq_getElem h2]
  rfl
theorem repD_eq {α : Type} (n : Nat) (a : α) : repD (n : Int) [a] = List.replicate n a := by
  unfold repD
  rw [Int.toNat_natCast]
  induction n with
  | zero => rfl
  | succ n ih => rw [List.replicate_succ, List.flatten_cons, ih]; rfl
section
variable {P : Program} {w : World} {K : PySem.W.Frag} {mg : Str → Option Value} {base : Heap}
theorem sc_first_stand : FnScope ["guild"] ["guild"] (defScope s_first_stand) := ⟨rfl, rfl, rfl, by decide +kernel, rfl, by decide +kernel, by decide +kernel⟩
abbrev S_first_stand (P : Program) (w : World) (K : PySem.W.Frag) : Sp := Sp1 K eG eS Gd.Ok Lk.first
theorem w_first_stand (B : Bi mg) (D : Df K mg "first_stand" s_first_stand) : Has P w K mg base 1 "first_stand" ["guild"] (S_first_stand P w K) := by
  refine D.has sc_first_stand (fun vs H Q E h => ?_) (fun _ _ _ _ _ _ us hl => match us, hl with | [_], _ => rfl) (fun f cdv A outer s H vs Q E hr h => ?_)
  rotate_left
  have nd := sc_first_stand.nd
  have hu := hr.units
  have hu0 := hr.units0
  have hu1 := hu_of hr
  refine ⟨_, (pss_one (ps_ret (pe_op op_catTD (pe_tupD (pa_cons (pe_tupD (pa_cons pe_int pa_nil)) pa_nil)) (pe_op op_repTD (pe_tupD (pa_cons (pe_tupD pa_nil) pa_nil)) (pe_op op_sub (pe_ix ix_D (pv 0) pe_int (fun _ _ => rfl)) pe_int))))), ?_⟩
  rotate_left
  · obtain ⟨_, _, rfl, _⟩ := h
    rfl
  · obtain ⟨v, g, rfl, h1, ok, q⟩ := h
    have hlo := ok.lo
    have hhi := ok.hi
    refine ⟨by show (1 : Nat) ≤ 1000; decide, _, .cons (.int 0) .nil, fun p1 H1 s1 f1 i1 => ⟨by show (1 : Nat) ≤ 1000; decide, _, .cons i1 .nil, fun p2 H2 s2 f2 i2 => ?_⟩⟩
    refine ⟨Nat.zero_le _, [], .nil, fun p3 H3 s3 f3 i3 => ⟨by show (1 : Nat) ≤ 1000; decide, _, .cons i3 .nil, fun p4 H4 s4 f4 i4 => ?_⟩⟩
    have s14 := ((s1.trans s2).trans s3).trans s4
    refine ⟨_, rfl, _, 0, .int g.many, .inl (eG_inv (h1.same s14)), rfl, rfl, fun x hx => ?_⟩
    cases hx
    refine ⟨_, _, rfl, rfl, _, _, i4, by simp, rfl, by omega, by omega, by show (1 : Nat) ≤ 1000; decide, fun v5 H5 s5 i5 => ?_⟩
    rw [show (g.many : Int) - 1 = ((g.many - 1 : Nat) : Int) by omega, repD_eq] at i5
    refine ⟨_, _, (i2.same ((s3.trans s4).trans s5)), i5, by rw [List.length_replicate]; simp; omega, fun v6 H6 s6 i6 => q v6 H6 ((s14.trans s5).trans s6) ?_⟩
    have e : [PyData.tuple [PyData.int 0]] ++ List.replicate (g.many - 1) (PyData.tuple []) = (Lk.first g).map eW := by
      unfold Lk.first
      rw [List.map_cons, List.map_replicate]; rfl
    rw [e] at i6
    exact i6
theorem sc_choice : FnScope ["guild", "stand", "house", "way", "head", "rest"] ["guild", "stand", "house"] (defScope s_choice) := ⟨rfl, rfl, rfl, by decide +kernel, rfl, by decide +kernel, by decide +kernel⟩
abbrev S_choice (P : Program) (w : World) (K : PySem.W.Frag) : Sp := Sp3 K eG eS eI eW (fun g s h => g.Ok ∧ s.length = g.many ∧ ∃ n : Nat, h = n ∧ 1 ≤ n ∧ n < g.many) (fun g s h => Lk.choice g s h)
theorem w_choice (B : Bi mg) (D : Df K mg "choice" s_choice) (hlikes_of : Has P w K mg base 1 "likes_of" ["guild", "house"] (S_likes_of P w K)) : Has P w K mg base 2 "choice" ["guild", "stand", "house"] (S_choice P w K) := by
  refine D.has sc_choice (fun vs H Q E h => ?_) (fun _ _ _ _ _ _ us hl => match us, hl with | [_, _, _], _ => rfl) (fun f cdv A outer s H vs Q E hr h => ?_)
  rotate_left
  have nd := sc_choice.nd
  have hu := hr.units
  have hu0 := hr.units0
  have hu1 := hu_of hr
  refine ⟨_, (pss_cons (ps_for (passes_of rfl) rfl (pi_seq (pe_has hlikes_of hr (by decide) (pa_cons (pv 0) (pa_cons (pv 2) pa_nil)))) (pg_name (i := 3) nd rfl (Or.inl rfl)) (pss_cons (ps_asg (pv 3) (pg_star rfl (pgs_cons (pg_name (i := 4) nd rfl (Or.inl rfl)) (pgs_starName (i := 5) nd rfl (Or.inl rfl))))) (pss_one (ps_if (pt_cmpR (op_eqE hu) (pe_ix ix_D (pv 1) (pe_ix ix_D (pv 3) pe_int (fun _ _ => rfl)) (fun _ _ => rfl)) (pe_callTy call_tupD (by rfl) B.tuple (by decide +kernel) (pa_cons (pv 5) pa_nil)) (nomark _)) (pss_one (ps_ret (pv 3))) pss_nil)))) (pss_one (ps_ret (pe_tupD pa_nil)))), ?_⟩
  rotate_left
  · obtain ⟨_, _, _, _, _, _, rfl, _⟩ := h
    rfl
  · obtain ⟨v, v2, _, g, s, a, rfl, h1, h2, h3, ⟨ok, hl, n, rfl, n1, n2⟩, q⟩ := h
    cases h3
    refine ⟨_, rfl, _, rfl, _, _, g, (n : Int), rfl, h1, .int _, ⟨ok, n, rfl, n1, n2⟩, fun r H1 s1 i1 => ?_⟩
    refine for_TT i1 (fun i σ' H' => (∃ x y z, σ' = [some v, some v2, some (.int n), x, y, z]) ∧ Same H1 H' ∧ ∀ u ∈ (g.row n).take i, Lk.avail s u = false) ⟨⟨_, _, _, rfl⟩, Same.refl _, by simp⟩ (fun i σ' H' p => p.2.1.tk) (fun i a x σ' H' ha hx p => ?_) (fun σ' H' p => ?_)
    · obtain ⟨⟨x0, y, z, rfl⟩, s2, no⟩ := p
      have ham := List.mem_of_getElem? ha
      have hw := ok.way n n1 n2 a ham
      obtain ⟨b, rr, ea⟩ := hw.shape
      have hx := hx.same s2
      have sH' := s1.trans s2
      obtain ⟨T, xs, rfl, hq, him⟩ := hx.tup_inv
      have him2 := him
      rw [ea] at him2
      obtain ⟨x1, xs1, rfl, j1, j2⟩ := ImAll.uncons him2
      have hxl : xs1.length = rr.length + 1 := by have := j2.length; rw [List.length_map, List.length_cons] at this; exact this
      have hal : a.length ≤ 6 := Nat.le_trans hw.hi ok.hi
      have hrl : rr.length ≤ 4 := by rw [ea] at hal; simp at hal; omega
      obtain ⟨hb0, hb1⟩ := hw.rng b (by rw [ea]; simp)
      refine ⟨_, rfl, T, x1, xs1, rfl, hq, by omega, fun p hp => ?_⟩
      have sp : Same H' (upd H' p (.lst xs1)) := Same.new hp
      have ip : Im K (upd H' p (.lst xs1)) (.ref p) (.list ((b :: rr).map eI)) := .lst upd_same (j2.same sp)
      refine ⟨_, _, rfl, _, _, rfl, rfl, _, rfl, _, rfl, _, 1, .int b, .inl (hx.same sp), rfl, ?_, fun y1 hy1 => ?_⟩
      · exact atI_map (f := eI) (atI_nn (a := b) (by decide) (by rw [ea]; rfl))
      cases hy1
      refine ⟨_, b, eW (Lk.at_ s b), .inl (h2.same (sH'.trans sp)), rfl, atI_at hb0 (by rw [hl]; exact hb1), fun y2 hy2 => ?_⟩
      refine ⟨_, rfl, _, _, rfl, .inr ip, fun v3 H3 s3 i3 => ?_⟩
      refine ⟨_, inferInstance, eW, 1, Lk.at_ s b, b :: rr, enc_W, by decide, hy2.same s3, i3, _, rfl, ?_⟩
      have hav : Lk.avail s a = decide (Lk.at_ s b = b :: rr) := by unfold Lk.avail; rw [ea]; rfl
      by_cases c : Lk.at_ s b = b :: rr
      · refine ifT (decide_eq_true c) ⟨_, rfl, q _ H3 ((sH'.trans sp).trans s3) ?_⟩
        have e : Lk.choice g s n = a := by
          unfold Lk.choice
          rw [List.find?_eq_some_iff_append.mpr ⟨by rw [hav]; exact decide_eq_true c, (g.row n).take i, (g.row n).drop (i + 1), ?_, fun u hu => by rw [no u hu]; rfl⟩]
          · rfl
          · have := List.take_append_drop i (g.row n)
            rw [List.drop_eq_getElem_cons (List.getElem?_eq_some_iff.mp ha).1, (List.getElem?_eq_some_iff.mp ha).2] at this
            exact this.symm
        show Im K H3 _ (eW (Lk.choice g s n))
        rw [e]
        exact hx.same (sp.trans s3)
      · refine ifF (decide_eq_false c) ⟨⟨_, _, _, rfl⟩, (s2.trans sp).trans s3, fun u hu => ?_⟩
        rw [take_snoc ha] at hu
        rcases List.mem_append.mp hu with c' | c'
        · exact no u c'
        · rw [List.mem_singleton.mp c', hav]; exact decide_eq_false c
    · obtain ⟨⟨x0, y, z, rfl⟩, s2, no⟩ := p
      rw [List.take_length] at no
      refine ⟨Nat.zero_le _, [], .nil, fun p3 H3 s3 f3 i3 => q _ H3 ((s1.trans s2).trans s3) ?_⟩
      have e : Lk.choice g s n = [] := by
        unfold Lk.choice
        rw [List.find?_eq_none.mpr fun u hu => by rw [no u hu]; decide]
        rfl
      show Im K H3 _ (eW (Lk.choice g s n))
      rw [e]
      exact i3
def choicesF (g : Gd) (s : List Way) : List Way := [0] :: (List.range (g.many - 1)).map fun i => Lk.choice g s ((i + 1 : Nat) : Int)
theorem sc_choices : FnScope ["guild", "stand", "house"] ["guild", "stand"] (defScope s_choices) := ⟨rfl, rfl, rfl, by decide +kernel, rfl, by decide +kernel, by decide +kernel⟩
abbrev S_choices (P : Program) (w : World) (K : PySem.W.Frag) : Sp := Sp2 K eG eS eS (fun g s => g.Ok ∧ s.length = g.many) choicesF
theorem w_choices (B : Bi mg) (D : Df K mg "choices" s_choices) (hchoice : Has P w K mg base 2 "choice" ["guild", "stand", "house"] (S_choice P w K)) : Has P w K mg base 3 "choices" ["guild", "stand"] (S_choices P w K) := by
  refine D.has sc_choices (fun vs H Q E h => ?_) (fun _ _ _ _ _ _ us hl => match us, hl with | [_, _], _ => rfl) (fun f cdv A outer s H vs Q E hr h => ?_)
  rotate_left
  have nd := sc_choices.nd
  have hu := hr.units
  have hu0 := hr.units0
  have hu1 := hu_of hr
  refine ⟨_, (pss_one (ps_ret (pe_op op_catTD (pe_tupD (pa_cons (pe_tupD (pa_cons pe_int pa_nil)) pa_nil)) (pe_callTy call_tupD (by rfl) B.tuple (by decide +kernel) (pa_cons (pe_lc (g := (gName 2)) (tt := tYes) (te := (tCall (S_choice P w K) [] E0 (tCons (tVar 0) (tCons (tVar 1) (tCons (tVar 2) tNil))))) rfl nd (pi_range2 (by rfl) B.range (pa_cons pe_int (pa_cons (pe_ix ix_D (pv 0) pe_int (fun _ _ => rfl)) pa_nil))) (blkOk_by (own := [("house", 2)]) (by rfl)) (fun _ _ _ _ _ => (pg_name (i := 2) nd rfl (Or.inl rfl))) (fun _ _ _ _ _ => pts_nil) (fun _ _ _ _ _ => (pe_has hchoice hr (by decide) (pa_cons (pv 0) (pa_cons (pv 1) (pa_cons (pv 2) pa_nil)))))) pa_nil))))), ?_⟩
  rotate_left
  · obtain ⟨_, _, _, _, rfl, _⟩ := h
    rfl
  · obtain ⟨v, v2, g, s, rfl, h1, h2, ⟨ok, hl⟩, q⟩ := h
    have hlo := ok.lo
    have hhi := ok.hi
    refine ⟨by show (1 : Nat) ≤ 1000; decide, _, .cons (.int 0) .nil, fun p1 H1 s1 f1 i1 => ⟨by show (1 : Nat) ≤ 1000; decide, _, .cons i1 .nil, fun p2 H2 s2 f2 i2 => ?_⟩⟩
    have s12 := s1.trans s2
    refine ⟨_, rfl, _, 0, .int g.many, .inl (eG_inv (h1.same s12)), rfl, rfl, fun x hx => ?_⟩
    cases hx
    refine ⟨_, _, rfl, ⟨by decide, by decide, by omega, by omega⟩, ?_⟩
    have en : ((g.many : Int) - 1).toNat = g.many - 1 := by omega
    rw [en]
    refine lc_R (K := K) (small_line (by omega)) (fun i => some (eW (Lk.choice g s ((i + 1 : Nat) : Int)))) (fun D i H' QT QF hi s3 hN kT kF => ?_) (fun p H3 s3 f3 i3 => ?_)
    · refine ⟨rfl, _, rfl, _, rfl, _, rfl, _, _, _, g, s, (1 : Int) + i, rfl, (h1.same s12).same s3, (h2.same s12).same s3, .int _, ⟨ok, hl, i + 1, by omega, by omega, by omega⟩, fun r H4 s4 i4 => kT _ _ _ rfl s4 ?_⟩
      rw [show ((i + 1 : Nat) : Int) = 1 + (i : Int) by omega]
      exact i4.stb (flat_W _)
    · rw [List.filterMap_eq_map'] at i3
      refine ⟨_, _, rfl, .inr i3, fun v4 H4 s4 i4 => ⟨_, _, (i2.same s3).same s4, i4, by rw [List.length_map, List.length_range]; simp; omega, fun v5 H5 s5 i5 => q v5 H5 (((s12.trans s3).trans s4).trans s5) ?_⟩⟩
      have e : [PyData.tuple [PyData.int 0]] ++ (List.range (g.many - 1)).map (fun i => eW (Lk.choice g s ((i + 1 : Nat) : Int))) = (choicesF g s).map eW := by
        unfold choicesF
        rw [List.map_cons, List.map_map]; rfl
      rw [e] at i5
      exact i5
theorem sc_is_steady : FnScope ["guild", "stand"] ["guild", "stand"] (defScope s_is_steady) := ⟨rfl, rfl, rfl, by decide +kernel, rfl, by decide +kernel, by decide +kernel⟩
abbrev S_is_steady (P : Program) (w : World) (K : PySem.W.Frag) : Sp := Sp2 K eG eS eB (fun g s => g.Ok ∧ s.length = g.many) (fun g s => decide (choicesF g s = s))
theorem w_is_steady (B : Bi mg) (D : Df K mg "is_steady" s_is_steady) (hchoices : Has P w K mg base 3 "choices" ["guild", "stand"] (S_choices P w K)) : Has P w K mg base 4 "is_steady" ["guild", "stand"] (S_is_steady P w K) := by
  refine D.has sc_is_steady (fun vs H Q E h => ?_) (fun _ _ _ _ _ _ us hl => match us, hl with | [_, _], _ => rfl) (fun f cdv A outer s H vs Q E hr h => ?_)
  rotate_left
  have nd := sc_is_steady.nd
  have hu := hr.units
  have hu0 := hr.units0
  have hu1 := hu_of hr
  refine ⟨_, (pss_one (ps_ret (pe_cmpR (op_eqE hu) (pe_has hchoices hr (by decide) (pa_cons (pv 0) (pa_cons (pv 1) pa_nil))) (pv 1) (nomark _)))), ?_⟩
  rotate_left
  · obtain ⟨_, _, _, _, rfl, _⟩ := h
    rfl
  · obtain ⟨v, v2, g, s, rfl, h1, h2, ⟨ok, hl⟩, q⟩ := h
    refine ⟨_, rfl, _, rfl, _, _, g, s, rfl, h1, h2, ⟨ok, hl⟩, fun r H1 s1 i1 => ?_⟩
    exact ⟨_, rfl, _, inferInstance, eS, 2, _, _, enc_S, by decide, i1, h2.same s1, q _ H1 s1 (.bl _)⟩
theorem sc_grown : FnScope ["guild", "now", "way", "house", "rest"] ["guild"] (defScope s_grown) := ⟨rfl, rfl, rfl, by decide +kernel, rfl, by decide +kernel, by decide +kernel⟩
def S_grown (P : Program) (w : World) (K : PySem.W.Frag) : Sp := fun vs H Q _ => ∃ v g, vs = [v] ∧ Im K H v (eG g) ∧ g.Ok ∧ (∃ o, Lk.IsOrd g o) ∧ ∀ o r H', Lk.IsOrd g o → Same H H' → Im K H' r (eS (Lk.grown g o)) → Q r H'
theorem w_grown (B : Bi mg) (D : Df K mg "grown" s_grown) (hfirst_stand : Has P w K mg base 1 "first_stand" ["guild"] (S_first_stand P w K)) (hfirst_order : Has P w K mg base 4 "first_order" ["guild"] (S_first_order P w K)) : Has P w K mg base 5 "grown" ["guild"] (S_grown P w K) := by
  refine D.has sc_grown (fun vs H Q E h => ?_) (fun _ _ _ _ _ _ us hl => match us, hl with | [_], _ => rfl) (fun f cdv A outer s H vs Q E hr h => ?_)
  rotate_left
  have nd := sc_grown.nd
  have hu := hr.units
  have hu0 := hr.units0
  have hu1 := hu_of hr
  refine ⟨_, (pss_cons (ps_set (i := 1) nd rfl (Or.inl rfl) (pe_callTy call_listD (by rfl) B.list (by decide +kernel) (pa_cons (pe_has hfirst_stand hr (by decide) (pa_cons (pv 0) pa_nil)) pa_nil))) (pss_cons (ps_for (passes_of rfl) rfl (pi_seq (pe_has hfirst_order hr (by decide) (pa_cons (pv 0) pa_nil))) (pg_name (i := 2) nd rfl (Or.inl rfl)) (pss_cons (ps_asg (pv 2) (pg_star rfl (pgs_cons (pg_name (i := 3) nd rfl (Or.inl rfl)) (pgs_starName (i := 4) nd rfl (Or.inl rfl))))) (pss_one (ps_if (PW.pt (pw_and (pt_cmpR (op_eqE hu) (pe_ix ix_D (pv 1) (pv 3) (fun _ _ => rfl)) (pe_tupD pa_nil) (nomark _)) (pw_and1 (pt_cmpR (op_eqE hu) (pe_ix ix_D (pv 1) (pe_ix ix_D (pv 4) pe_int (fun _ _ => rfl)) (fun _ _ => rfl)) (pe_callTy call_tupD (by rfl) B.tuple (by decide +kernel) (pa_cons (pv 4) pa_nil)) (nomark _))))) (pss_one (ps_asg (pv 2) (pg_sub (pv 1) (pv 3) set_D))) pss_nil)))) (pss_one (ps_ret (pe_callTy call_tupD (by rfl) B.tuple (by decide +kernel) (pa_cons (pv 1) pa_nil)))))), ?_⟩
  rotate_left
  · obtain ⟨_, _, rfl, _⟩ := h
    rfl
  · obtain ⟨v, g, rfl, h1, ok, hex, q⟩ := h
    refine ⟨_, rfl, _, g, rfl, h1, ok, fun r1 H1 s1 i1 => ⟨_, _, rfl, .inl i1, fun N H2 s2 f2 i2 => ?_⟩⟩
    have s12 := s1.trans s2
    refine ⟨_, rfl, _, g, rfl, h1.same s12, ok, hex, fun o r3 H3 io s3 f3 i3 => ?_⟩
    have hfl : (Lk.first g).length = g.many := Lk.first_len (by have := ok.lo; omega)
    have hNr : V.ref r3 ≠ .ref N := fun e => by cases e; exact i2.ls.ne_none f3
    refine for_LT i3 (D := _) (fun (i : Nat) (σ' : L2.St) (H' : Hp) => (∃ x y z, σ' = [some v, some (.ref N), x, y, z]) ∧ Kp [N] H3 H' ∧ TK H3 H' ∧ ∃ now : List Way, Ls K H' N (now.map eW) ∧ now.length = g.many ∧ now = ((o.take i).foldl Lk.growStep (Lk.first g))) ⟨⟨_, _, _, rfl⟩, Kp.refl, TK.refl, _, (i2.same s3).ls, hfl, rfl⟩ (fun i σ' H' p a e => ?_) (fun i a x σ' H' ha hx p => ?_) (fun σ' H' p => ?_)
    · exact keep_ne i3 p.2.1 (fun b hb => by rw [List.mem_singleton.mp hb]; exact hNr) a e
    · obtain ⟨⟨x0, y, z, rfl⟩, kp, tk, now, hn, hnl, enow⟩ := p
      have hao : a ∈ o := List.mem_of_getElem? ha
      have haw := (io.all a).mp hao
      obtain ⟨h, b, rr, n1, n2, ea, hm, hw⟩ := ok.house haw
      have hx := hx.tk tk (flat_W a)
      have sH' : Same H H' := same_kp1 (s12.trans s3) kp (none_back s1 f2)
      obtain ⟨T, xs, rfl, hq, him⟩ := hx.tup_inv
      have him2 := him
      rw [ea] at him2
      obtain ⟨x1, xs1, rfl, j1, j2⟩ := ImAll.uncons him2
      cases j1
      have hxl : xs1.length = rr.length + 1 := by have := j2.length; rw [List.length_map, List.length_cons] at this; exact this
      have hal : a.length ≤ 6 := Nat.le_trans hw.hi ok.hi
      have hrl : rr.length ≤ 4 := by rw [ea] at hal; simp at hal; omega
      obtain ⟨hb0, hb1⟩ := hw.rng b (by rw [ea]; simp)
      refine ⟨_, rfl, T, _, xs1, rfl, hq, by omega, fun p hp => ?_⟩
      have sp : Same H' (upd H' p (.lst xs1)) := Same.new hp
      have ip : Im K (upd H' p (.lst xs1)) (.ref p) (.list ((b :: rr).map eI)) := .lst upd_same (j2.same sp)
      refine ⟨_, _, rfl, _, _, rfl, rfl, ?_⟩
      have inow := hn.im.same sp
      have ext : (o.take (i + 1)).foldl Lk.growStep (Lk.first g) = Lk.growStep now a := by rw [take_snoc ha, List.foldl_append, ← enow]; rfl
      refine ⟨_, rfl, _, rfl, _, (h : Int), eW (Lk.at_ now h), .inr inow, rfl, atI_at (by omega) (by omega), fun y1 hy1 => ?_⟩
      refine ⟨Nat.zero_le _, [], .nil, fun p4 H4 s4 f4 i4 => ?_⟩
      refine ⟨_, inferInstance, eW, 1, Lk.at_ now h, [], enc_W, by decide, hy1.same s4, i4, _, rfl, ?_⟩
      have kp4 := (kp.trans sp.kp).trans s4.kp
      have tk4 := (tk.trans sp.tk).trans s4.tk
      have ehd : a.headD 0 = (h : Int) := by rw [ea]; rfl
      have e1d : a.getD 1 0 = b := by rw [ea]; rfl
      have etl : a.tail = b :: rr := by rw [ea]; rfl
      have skip_ : ∀ H5, Same H4 H5 → ¬ (Lk.at_ now h = [] ∧ Lk.at_ now b = b :: rr) → (∃ x y z, ([some v, some (.ref N), some (.ref T), some (.int (h : Int)), some (.ref p)] : L2.St) = [some v, some (.ref N), x, y, z]) ∧ Kp [N] H3 H5 ∧ TK H3 H5 ∧ ∃ now : List Way, Ls K H5 N (now.map eW) ∧ now.length = g.many ∧ now = ((o.take (i + 1)).foldl Lk.growStep (Lk.first g)) := fun H5 s5 hno => by
        refine ⟨⟨_, _, _, rfl⟩, kp4.trans s5.kp, tk4.trans s5.tk, now, ((hn.same sp).same s4).same s5, hnl, ?_⟩
        rw [ext]
        unfold Lk.growStep
        rw [ehd, e1d, etl, if_neg hno]
      by_cases c1 : Lk.at_ now h = []
      · refine ifT (decide_eq_true c1) ?_
        refine ⟨_, rfl, _, rfl, _, 0, PyData.int b, .inr (ip.same s4), rfl, atI_map (f := eI) (atI_nn (a := b) (by decide) rfl), fun y2 hy2 => ?_⟩
        cases hy2
        refine ⟨_, b, eW (Lk.at_ now b), .inr (inow.same s4), rfl, atI_at hb0 (by omega), fun y3 hy3 => ?_⟩
        refine ⟨_, rfl, _, _, rfl, .inr (ip.same s4), fun v5 H5 s5 i5 => ?_⟩
        refine ⟨_, inferInstance, eW, 1, Lk.at_ now b, b :: rr, enc_W, by decide, hy3.same s5, i5, _, rfl, ?_⟩
        by_cases c2 : Lk.at_ now b = b :: rr
        · have hn5 := ((hn.same sp).same s4).same s5
          have hset : (now.map eW).set (h : Int).toNat (eW a) = (now.set h a).map eW := by rw [Int.toNat_natCast, List.map_set]
          refine ifT (decide_eq_true c2) ⟨_, rfl, _, rfl, _, rfl, N, now.map eW, (h : Int), eW a, rfl, rfl, hn5, ((hx.same sp).same s4).same s5, ?_, by omega, by rw [List.length_map]; omega, fun H6 c6 => ?_⟩
          · rw [hset]; exact flatAll_map flat_W _
          · rw [hset] at c6
            obtain ⟨k6, t6, l6⟩ := c6
            refine ⟨⟨_, _, _, rfl⟩, (kp4.trans s5.kp).trans k6, (tk4.trans s5.tk).trans t6, now.set h a, l6, by rw [List.length_set]; exact hnl, ?_⟩
            rw [ext]
            unfold Lk.growStep
            rw [ehd, e1d, etl, if_pos ⟨c1, c2⟩, Int.toNat_natCast]
        · exact ifF (decide_eq_false c2) (skip_ H5 s5 fun c => c2 c.2)
      · exact ifF (decide_eq_false c1) (ifF rfl (skip_ H4 (Same.refl _) fun c => c1 c.1))
    · obtain ⟨⟨x0, y, z, rfl⟩, kp, tk, now, hn, hnl, enow⟩ := p
      rw [List.take_length] at enow
      have sH' : Same H H' := same_kp1 (s12.trans s3) kp (none_back s1 f2)
      exact ⟨_, rfl, _, _, rfl, .inr hn.im, fun v4 H4 s4 i4 => q o v4 H4 io (sH'.trans s4) (by unfold Lk.grown; rw [← enow]; exact i4)⟩
end
end Lw
end
section
/-! The houses that roads join with one. -/
set_option autoImplicit false
namespace Lk
theorem others_eq {p : Int × Int} {h o : Int} (hp : p.1 < p.2) (hh : h = p.1 ∨ h = p.2) (e : p.1 + p.2 - h = o) : p = (min h o, max h o) := by
  obtain ⟨a, b⟩ := p
  simp only at hp hh e
  rcases hh with rfl | rfl
  · have : o = b := by omega
    subst this
    rw [Int.min_eq_left (by omega), Int.max_eq_right (by omega)]
  · have : o = a := by omega
    subst this
    rw [Int.min_eq_right (by omega), Int.max_eq_left (by omega)]
theorem others_nbs {g : Gd} (k : g.Ok) {h : Int} (h0 : 0 ≤ h) (h1 : h < g.many) : Nbs g h (others g.roads h) := by
  have hrn : g.roads.Nodup := by
    rw [List.nodup_iff_pairwise_ne]
    refine k.ris.imp fun {a b} l e => ?_
    subst e
    unfold ltP at l
    omega
  constructor
  · unfold others
    rw [List.nodup_iff_pairwise_ne, List.pairwise_filterMap]
    rw [List.nodup_iff_pairwise_ne] at hrn
    refine List.Pairwise.imp_of_mem (fun {a b} ha hb hne x hx y hy e => hne ?_) hrn
    subst e
    split at hx
    · split at hy
      · rename_i c1 c2
        rw [others_eq (k.rds a ha).2.1 c1 (Option.some.inj hx), others_eq (k.rds b hb).2.1 c2 (Option.some.inj hy)]
      · cases hy
    · cases hx
  · intro o
    unfold others joined
    rw [List.mem_filterMap, decide_eq_true_eq]
    constructor
    · rintro ⟨p, hp, q⟩
      split at q
      · rename_i c
        have hr := k.rds p hp
        have e := others_eq hr.2.1 c (Option.some.inj q)
        have q := Option.some.inj q
        refine ⟨by rw [← e]; exact hp, ?_, ?_⟩ <;> omega
      · cases q
    · rintro ⟨hm, o0, o1⟩
      refine ⟨_, hm, ?_⟩
      have hr := k.rds _ hm
      simp only at hr
      by_cases c : h ≤ o
      · rw [Int.min_eq_left c, Int.max_eq_right c, if_pos (.inl rfl)]
        congr 1
        show h + o - h = o
        omega
      · rw [Int.min_eq_right (by omega), Int.max_eq_left (by omega), if_pos (.inr rfl)]
        congr 1
        show o + h - h = o
        omega
theorem Nbs.perm {g : Gd} {h : Int} {os os' : List Int} (n : Nbs g h os) (p : os'.Perm os) : Nbs g h os' := ⟨p.nodup_iff.mpr n.nd, fun o => by rw [p.mem_iff]; exact n.mem o⟩
end Lk
end
section
set_option Elab.async false
set_option linter.all false
set_option maxRecDepth 100000
set_option maxHeartbeats 4000000
/-! A told dict: one key's value told anew. -/
namespace Lw
open PySem PySem.Spec PyProof.Rows L2
section
variable {P : Program} {w : World} {K : PySem.W.Frag} {κ : Type} [DecidableEq κ] {e : κ → PyData} {H H' : Hp} {d : Addr} {ks : List κ} {f : κ → PyData}
theorem dput_mem' {kvs : List (κ × V)} {k : κ} {v : V} {p : κ × V} (h : p ∈ dput kvs k v) : p = (k, v) ∨ (p ∈ kvs ∧ p.1 ≠ k) := by
  unfold dput at h
  split at h
  · obtain ⟨q, hq, rfl⟩ := List.mem_map.mp h
    split
    · exact .inl rfl
    · rename_i c; exact .inr ⟨hq, c⟩
  · rename_i c
    rcases List.mem_append.mp h with h | h
    · refine .inr ⟨h, fun q => c ?_⟩
      rw [dhas_mem]
      exact decide_eq_true (List.mem_map.mpr ⟨p, h, q⟩)
    · exact .inl (List.mem_singleton.mp h)
theorem DF.set {kvs : List (κ × V)} {k : κ} {v : V} {x : PyData} (h2 : kvs.map (·.1) = ks) (h3 : ∀ p ∈ kvs, Stb K d H p.2 (f p.1)) (kp : Kp [d] H H') (tk : TK H H') (hd : DN P w e K H' d (dput kvs k v)) (hv : Stb K d H v x) : DF P w K e H' d (dadd ks k) (fun c => if c = k then x else f c) := by
  refine ⟨_, hd, by rw [dput_keys, h2], fun p hp => ?_⟩
  rcases dput_mem' hp with rfl | ⟨hp, hne⟩
  · simp only [if_true]; exact hv.step kp tk
  · simp only [if_neg hne]; exact (h3 p hp).step kp tk
theorem dadd_old {k : κ} (h : k ∈ ks) : dadd ks k = ks := by unfold dadd; rw [if_pos h]
end
end Lw
end
section
set_option Elab.async false
set_option linter.all false
set_option maxRecDepth 100000
set_option maxHeartbeats 2000000
/-! Letters. -/
namespace Lw
open PySem PySem.Spec PyProof.Rows L2
open Lk (Way Gd IsWay ltP Ps Let Nbs)
/-- the houses that are written to, in order -/
noncomputable def osF (g : Gd) (h : Int) : List Int := srt eI (Lk.others g.roads h)
theorem osF_nbs {g : Gd} (ok : g.Ok) {h : Int} (h0 : 0 ≤ h) (h1 : h < g.many) : Nbs g h (osF g h) := (Lk.others_nbs ok h0 h1).perm (srt_perm _)
section
variable {P : Program} {w : World} {K : PySem.W.Frag} {mg : Str → Option Value} {base : Heap}
theorem sc_others_of : FnScope ["roads", "house", "one", "other"] ["roads", "house"] (defScope s_others_of) := ⟨rfl, rfl, rfl, by decide +kernel, rfl, by decide +kernel, by decide +kernel⟩
def Sp2n {α β γ : Type} (K : PySem.W.Frag) (e1 : α → PyData) (e2 : β → PyData) (e : γ → PyData) (ok : α → β → Prop) (f : α → β → γ) : Sp := fun vs H Q _ => ∃ v1 v2 a1 a2, vs = [v1, v2] ∧ Im K H v1 (e1 a1) ∧ Im K H v2 (e2 a2) ∧ ok a1 a2 ∧ ∀ p H', Same H H' → H p = none → Im K H' (.ref p) (e (f a1 a2)) → Q (.ref p) H'
abbrev S_others_of (P : Program) (w : World) (K : PySem.W.Frag) : Sp := Sp2n K eRs eI (eL eI) (fun rs _ => rs.length ≤ 1000) (fun rs h => srt eI (Lk.others rs h))
theorem w_others_of (B : Bi mg) (D : Df K mg "others_of" s_others_of) : Has P w K mg base 1 "others_of" ["roads", "house"] (S_others_of P w K) := by
  refine D.has sc_others_of (fun vs H Q E h => ?_) (fun _ _ _ _ _ _ us hl => match us, hl with | [_, _], _ => rfl) (fun f cdv A outer s H vs Q E hr h => ?_)
  rotate_left
  have nd := sc_others_of.nd
  have hu := hr.units
  have hu0 := hr.units0
  have hu1 := hu_of hr
  refine ⟨_, (pss_one (ps_ret (pe_callB (call_sortD hu) (by rfl) B.sorted (by decide +kernel) (pa_cons (pe_lc (g := (gTup K 2 (gCons (gName 2) (gCons (gName 3) gNil)))) (tt := (tTest (tOp (rInE false K) (tVar 1) (tDispT K (tCons (tVar 2) (tCons (tVar 3) tNil)))))) (te := (tOp (rI0 fun i j => .int (i - j)) (tOp (rI0 fun i j => .int (i + j)) (tVar 2) (tVar 3)) (tVar 1))) rfl nd (pi_seq (pv 0)) (blkOk_by (own := [("one", 2), ("other", 3)]) (by rfl)) (fun _ _ _ _ _ => (pg_tup (by rfl) (pgs_cons (pg_name (i := 2) nd rfl (Or.inl rfl)) (pgs_cons (pg_name (i := 3) nd rfl (Or.inl rfl)) pgs_nil)))) (fun _ _ _ _ _ => (pts_one (pt_cmpR (op_inE hu) (pv 1) (pe_tupD (pa_cons (pv 2) (pa_cons (pv 3) pa_nil))) (by rfl)))) (fun _ _ _ _ _ => (pe_op op_sub (pe_op op_add (pv 2) (pv 3)) (pv 1)))) pa_nil)))), ?_⟩
  rotate_left
  · obtain ⟨_, _, _, _, rfl, _⟩ := h
    rfl
  · obtain ⟨v, _, rs, h, rfl, h1, h2, hl, q⟩ := h
    cases h2
    refine ⟨_, rfl, lc_T (.inl h1) (small_line (by omega)) (fun p => if h = p.1 ∨ h = p.2 then some (eI (p.1 + p.2 - h)) else none) (fun D p x H' QT QF hp s1 hN hx kT kF => ?_) (fun p H1 s1 f1 i1 => ?_)⟩
    · obtain ⟨T, xs, rfl, hq, him⟩ := hx.tup_inv
      obtain ⟨x1, r1, rfl, j1, him⟩ := ImAll.uncons him
      obtain ⟨x2, r2, rfl, j2, him⟩ := ImAll.uncons him
      cases him
      cases j1; cases j2
      refine ⟨_, _, rfl, hq, rfl, _, _, rfl, _, _, rfl, rfl, rfl, ?_⟩
      refine ⟨_, rfl, _, rfl, _, rfl, by show (2 : Nat) ≤ 1000; decide, _, .cons (.int _) (.cons (.int _) .nil), fun p2 H2 s2 f2 i2 => ?_⟩
      refine ⟨_, inferInstance, eI, 0, h, [p.1, p.2], enc_int, by decide, .int h, .inl i2, _, rfl, ?_⟩
      have hm : h ∈ [p.1, p.2] ↔ (h = p.1 ∨ h = p.2) := by simp
      by_cases c : h = p.1 ∨ h = p.2
      · refine ifT (by rw [if_neg (by decide)]; exact decide_eq_true (hm.mpr c)) ⟨_, rfl, _, rfl, _, _, rfl, rfl, _, rfl, _, _, rfl, rfl, kT _ _ _ (if_pos c) s2 (Im.stb (.int _) rfl)⟩
      · exact ifF (by rw [if_neg (by decide)]; exact decide_eq_false fun z => c (hm.mp z)) (kF _ (if_neg c) s2)
    · have e : rs.filterMap (fun p => if h = p.1 ∨ h = p.2 then some (eI (p.1 + p.2 - h)) else none) = (Lk.others rs h).map eI := by
        unfold Lk.others
        rw [List.map_filterMap]
        refine congrArg (fun z => List.filterMap z rs) (funext fun p => ?_)
        split <;> rfl
      rw [e] at i1
      exact ⟨_, inferInstance, eI, 0, Lk.others rs h, _, enc_int, by decide, .inr fun a _ => ⟨a, rfl⟩, rfl, i1, fun p2 H2 s2 f2 i2 => q p2 H2 (s1.trans s2) (none_back s1 f2) i2⟩
end
/-! ### the holding -/
abbrev eLt : Let → PyData := e3 eI eI eW
theorem flat_Lt (l : Let) : flat (eLt l) = true := flat_trip flat_int flat_int flat_W l
/-- its places -/
structure Hla where
  d : Addr
  B : Addr
  L : V
  W : Addr
  H : Addr
  Q : Addr
def Hla.kvs (A : Hla) : List (Key × V) := [(.inr "broken", .ref A.B), (.inr "likes", A.L), (.inr "ways", .ref A.W), (.inr "heard", .ref A.H), (.inr "letters", .ref A.Q)]
/-- who hears whom -/
noncomputable def hkF (g : Gd) : List (Int × Int) := (List.range g.many).flatMap fun i => (osF g (i : Nat)).map fun o => ((i : Int), o)
/-- a holding stands at its places -/
structure HolB (P : Program) (w : World) (K : PySem.W.Frag) (H : Hp) (g : Gd) (A : Hla) (p : Ps) : Prop where
  dict : H A.d = some (.dK A.kvs)
  brk : Ls K H A.B []
  lik : Im K H A.L (eT eWs g.likes)
  way : Ls K H A.W (p.ways.map eW)
  hrd : DF P w K eRd H A.H (ddup (hkF g)) (fun k => eW (p.heard k.1 k.2))
  let_ : Ls K H A.Q (p.lets.map eLt)
  ne1 : A.B ≠ A.W
  ne2 : A.B ≠ A.Q
  ne3 : A.W ≠ A.Q
section
variable {P : Program} {w : World} {K : PySem.W.Frag} {H H' : Hp} {g : Gd} {A : Hla} {p : Ps}
theorem HolB.same (h : HolB P w K H g A p) (s : Same H H') : HolB P w K H' g A p := ⟨s _ _ h.dict, h.brk.same s, h.lik.same s, h.way.same s, h.hrd.same s, h.let_.same s, h.ne1, h.ne2, h.ne3⟩
theorem HolB.d_ne (h : HolB P w K H g A p) : A.d ≠ A.Q ∧ A.d ≠ A.W ∧ A.d ≠ A.H ∧ A.H ≠ A.Q ∧ A.H ≠ A.W := by
  obtain ⟨q, h1, _⟩ := h.let_
  obtain ⟨u, h2, _⟩ := h.way
  obtain ⟨kvs, ⟨xs, ep, h3, _⟩, _⟩ := h.hrd.dn
  have h0 := h.dict
  refine ⟨fun e => ?_, fun e => ?_, fun e => ?_, fun e => ?_, fun e => ?_⟩
  · rw [e, h1] at h0; cases h0
  · rw [e, h2] at h0; cases h0
  · rw [e, h3] at h0; cases h0
  · rw [e, h1] at h3; cases h3
  · rw [e, h2] at h3; cases h3
theorem flat_heard (f : Int → Int → Way) : ∀ k ∈ ddup (hkF g), Lw.flat (eW (f k.1 k.2)) = true := fun k _ => flat_W _
/-- other places change -/
theorem HolB.kp {S : List Addr} (h : HolB P w K H g A p) (k : Kp S H H') (t : TK H H') (n1 : A.d ∉ S) (n2 : A.B ∉ S) (n3 : A.W ∉ S) (n4 : A.H ∉ S) (n5 : A.Q ∉ S) : HolB P w K H' g A p := by
  obtain ⟨kvs, ⟨xs, ep, h3, _⟩, _⟩ := h.hrd.dn
  refine ⟨k _ _ n1 h.dict, h.brk.kp k t (by simp [flatAll]) n2, h.lik.tk t (flat_tup flat_Ws _), h.way.kp k t (flatAll_map flat_W _) n3, ?_, h.let_.kp k t (flatAll_map flat_Lt _) n5, h.ne1, h.ne2, h.ne3⟩
  exact h.hrd.flat key_Rd (flat_heard p.heard) t (by rw [h3]; exact k _ _ n4 h3)
/-- the letters change -/
theorem HolB.chQ {ls : List Let} (h : HolB P w K H g A p) (c : Ch K A.Q (ls.map eLt) H H') : HolB P w K H' g A { p with lets := ls } := by
  obtain ⟨k, t, l⟩ := c
  obtain ⟨m1, m2, m3, m4, m5⟩ := h.d_ne
  obtain ⟨kvs, ⟨xs, ep, h3, _⟩, _⟩ := h.hrd.dn
  exact ⟨k _ _ (by simpa using m1) h.dict, h.brk.kp k t (by simp [flatAll]) (by simpa using h.ne2), h.lik.tk t (flat_tup flat_Ws _), h.way.kp k t (flatAll_map flat_W _) (by simpa using h.ne3), h.hrd.flat key_Rd (flat_heard p.heard) t (by rw [h3]; exact k _ _ (by simpa using m4) h3), l, h.ne1, h.ne2, h.ne3⟩
/-- the ways change -/
theorem HolB.chW {ws : List Way} (h : HolB P w K H g A p) (c : Ch K A.W (ws.map eW) H H') : HolB P w K H' g A { p with ways := ws } := by
  obtain ⟨k, t, l⟩ := c
  obtain ⟨m1, m2, m3, m4, m5⟩ := h.d_ne
  obtain ⟨kvs, ⟨xs, ep, h3, _⟩, _⟩ := h.hrd.dn
  exact ⟨k _ _ (by simpa using m2) h.dict, h.brk.kp k t (by simp [flatAll]) (by simpa using h.ne1), h.lik.tk t (flat_tup flat_Ws _), l, h.hrd.flat key_Rd (flat_heard p.heard) t (by rw [h3]; exact k _ _ (by simpa using m5) h3), h.let_.kp k t (flatAll_map flat_Lt _) (by simpa using Ne.symm h.ne3), h.ne1, h.ne2, h.ne3⟩
end
section
variable {P : Program} {w : World} {K : PySem.W.Frag} {mg : Str → Option Value} {base : Heap}
theorem sc_send_along : FnScope ["holding", "house", "other"] ["holding", "house", "other"] (defScope s_send_along) := ⟨rfl, rfl, rfl, by decide +kernel, rfl, by decide +kernel, by decide +kernel⟩
def S_send_along (P : Program) (w : World) (K : PySem.W.Frag) : Sp := fun vs H Q _ => ∃ g A p a b, vs = [.ref A.d, .int a, .int b] ∧ HolB P w K H g A p ∧ 0 ≤ a ∧ a < p.ways.length ∧ p.lets.length < 1000000 ∧ ∀ H', Kp [A.Q] H H' → TK H H' → HolB P w K H' g A { p with lets := p.lets ++ [(a, b, Lk.at_ p.ways a)] } → Q .non H'
theorem w_send_along (B : Bi mg) (D : Df K mg "send_along" s_send_along) : Has P w K mg base 1 "send_along" ["holding", "house", "other"] (S_send_along P w K) := by
  refine D.has sc_send_along (fun vs H Q E h => ?_) (fun _ _ _ _ _ _ us hl => match us, hl with | [_, _, _], _ => rfl) (fun f cdv A outer s H vs Q E hr h => ?_)
  rotate_left
  have nd := sc_send_along.nd
  have hu := hr.units
  have hu0 := hr.units0
  have hu1 := hu_of hr
  refine ⟨_, (pss_one (ps_expr (pe_bm PySem.F.plainAttrs_list PySem.F.slot_list_append PySem.F.type_list_append mt_appD (pe_dget hu1 (pv 0) pe_str (fun _ _ => rfl)) (pa_cons (pe_tupD (pa_cons (pv 1) (pa_cons (pv 2) (pa_cons (pe_ix ix_D (pe_dget hu1 (pv 0) pe_str (fun _ _ => rfl)) (pv 1) (fun _ _ => rfl)) pa_nil)))) pa_nil)))), ?_⟩
  rotate_left
  · obtain ⟨_, _, _, _, _, rfl, _⟩ := h
    rfl
  · obtain ⟨g, A, p, a, b, rfl, hol, a0, a1, hl, q⟩ := h
    refine ⟨_, rfl, A.d, .ref A.Q, rfl, DGet.k (k := .inr "letters") hol.dict, hol.let_.ty, ?_⟩
    refine ⟨_, rfl, _, rfl, _, rfl, A.d, .ref A.W, rfl, DGet.k (k := .inr "ways") hol.dict, _, rfl, _, a, eW (Lk.at_ p.ways a), .inr hol.way.im, rfl, atI_at a0 a1, fun x hx => ?_⟩
    refine ⟨by show (3 : Nat) ≤ 1000; decide, _, .cons (.int a) (.cons (.int b) (.cons hx .nil)), fun p1 H1 s1 f1 i1 => ?_⟩
    refine ⟨A.Q, p.lets.map eLt, _, _, rfl, rfl, hol.let_.same s1, i1, ?_, by rw [List.length_map]; exact hl, fun H2 c2 => ?_⟩
    · rw [show p.lets.map eLt ++ [PyData.tuple [PyData.int a, PyData.int b, eW (Lk.at_ p.ways a)]] = (p.lets ++ [(a, b, Lk.at_ p.ways a)]).map eLt by rw [List.map_append]; rfl]
      exact flatAll_map flat_Lt _
    · rw [show p.lets.map eLt ++ [PyData.tuple [PyData.int a, PyData.int b, eW (Lk.at_ p.ways a)]] = (p.lets ++ [(a, b, Lk.at_ p.ways a)]).map eLt by rw [List.map_append]; rfl] at c2
      exact q H2 (s1.kp.trans c2.1) (s1.tk.trans c2.2.1) ((hol.same s1).chQ c2)
noncomputable def sentF (g : Gd) (p : Ps) (h : Int) : List Let := (osF g h).map fun o => (h, o, Lk.at_ p.ways h)
theorem sc_send : FnScope ["roads", "holding", "house", "other"] ["roads", "holding", "house"] (defScope s_send) := ⟨rfl, rfl, rfl, by decide +kernel, rfl, by decide +kernel, by decide +kernel⟩
def S_send (P : Program) (w : World) (K : PySem.W.Frag) : Sp := fun vs H Q _ => ∃ vr g A p h, vs = [vr, .ref A.d, .int h] ∧ Im K H vr (eRs g.roads) ∧ g.Ok ∧ HolB P w K H g A p ∧ 0 ≤ h ∧ h < g.many ∧ p.ways.length = g.many ∧ p.lets.length ≤ 999000 ∧ ∀ H', Kp [A.Q] H H' → TK H H' → HolB P w K H' g A { p with lets := p.lets ++ sentF g p h } → Q .non H'
theorem w_send (B : Bi mg) (D : Df K mg "send" s_send) (hothers_of : Has P w K mg base 1 "others_of" ["roads", "house"] (S_others_of P w K)) (hsend_along : Has P w K mg base 1 "send_along" ["holding", "house", "other"] (S_send_along P w K)) : Has P w K mg base 2 "send" ["roads", "holding", "house"] (S_send P w K) := by
  refine D.has sc_send (fun vs H Q E h => ?_) (fun _ _ _ _ _ _ us hl => match us, hl with | [_, _, _], _ => rfl) (fun f cdv A outer s H vs Q E hr h => ?_)
  rotate_left
  have nd := sc_send.nd
  have hu := hr.units
  have hu0 := hr.units0
  have hu1 := hu_of hr
  refine ⟨_, (pss_one (ps_for (passes_of rfl) rfl (pi_seq (pe_has hothers_of hr (by decide) (pa_cons (pv 0) (pa_cons (pv 2) pa_nil)))) (pg_name (i := 3) nd rfl (Or.inl rfl)) (pss_one (ps_if (pt_cmpR (op_notInE hu) (pe_tupD (pa_cons (pe_callB (call_minI rfl) (by rfl) B.min (by decide +kernel) (pa_cons (pv 2) (pa_cons (pv 3) pa_nil))) (pa_cons (pe_callB (call_maxI rfl) (by rfl) B.max (by decide +kernel) (pa_cons (pv 2) (pa_cons (pv 3) pa_nil))) pa_nil))) (pe_dget hu1 (pv 1) pe_str (fun _ _ => rfl)) (by rfl)) (pss_one (ps_expr (pe_has hsend_along hr (by decide) (pa_cons (pv 1) (pa_cons (pv 2) (pa_cons (pv 3) pa_nil)))))) pss_nil)))), ?_⟩
  rotate_left
  · obtain ⟨_, _, _, _, _, rfl, _⟩ := h
    rfl
  · obtain ⟨vr, g, A, p, h, rfl, hr1, ok, hol, h0, h1, hwl, hl, q⟩ := h
    have nb := osF_nbs ok h0 h1
    have hdeg := Lk.deg ok nb
    refine ⟨_, rfl, _, rfl, _, _, g.roads, h, rfl, hr1, .int h, rds_len ok, fun r H1 s1 f1 i1 => ?_⟩
    have i1 : Im K H1 (.ref r) (eL eI (osF g h)) := i1
    have hrQ : V.ref r ≠ .ref A.Q := fun e => by cases e; exact hol.let_.ne_none f1
    refine for_LT i1 (fun i σ' H' => (∃ x, σ' = [some vr, some (.ref A.d), some (.int h), x]) ∧ Kp [A.Q] H1 H' ∧ TK H1 H' ∧ HolB P w K H' g A { p with lets := p.lets ++ ((osF g h).take i).map fun o => (h, o, Lk.at_ p.ways h) }) ⟨⟨_, rfl⟩, Kp.refl, TK.refl, ?_⟩ (fun i σ' H' pv a e => ?_) (fun i o x σ' H' ho hx pv => ?_) (fun σ' H' pv => ?_)
    · rw [List.take_zero, List.map_nil, List.append_nil]; exact hol.same s1
    · exact keep_ne i1 pv.2.1 (fun b hb => by rw [List.mem_singleton.mp hb]; exact hrQ) a e
    · obtain ⟨⟨x0, rfl⟩, kp, tk, hb⟩ := pv
      cases hx
      have hno := (nb.mem o).mp (List.mem_of_getElem? ho)
      refine ⟨_, rfl, _, rfl, _, _, rfl, _, rfl, _, rfl, _, _, rfl, by show (2 : Nat) ≤ 1000; decide, _, .cons (.int _) (.cons (.int _) .nil), fun p2 H2 s2 f2 i2 => ?_⟩
      refine ⟨_, rfl, A.d, .ref A.B, rfl, DGet.k (k := .inr "broken") (hb.same s2).dict, ?_⟩
      refine ⟨_, inferInstance, eRd, 1, (min h o, max h o), [], enc_Rd, by decide, i2, .inr (hb.same s2).brk.im, _, rfl, ifT rfl ?_⟩
      have htl : ((osF g h).take i).length ≤ 6 := Nat.le_trans (List.length_take_le' _ _) hdeg
      refine ⟨_, rfl, _, rfl, _, rfl, g, A, _, h, o, rfl, hb.same s2, h0, by rw [hwl]; exact h1, by show (p.lets ++ _).length < _; rw [List.length_append, List.length_map]; omega, fun H3 k3 t3 hb3 => ⟨⟨_, rfl⟩, (kp.trans s2.kp).trans k3, (tk.trans s2.tk).trans t3, ?_⟩⟩
      rw [take_snoc ho, List.map_append, ← List.append_assoc]
      exact hb3
    · obtain ⟨⟨x0, rfl⟩, kp, tk, hb⟩ := pv
      rw [List.take_length] at hb
      exact q H' (s1.kp.trans kp) (s1.tk.trans tk) hb
theorem sc_best_heard : FnScope ["holding", "house", "way", "head", "rest"] ["holding", "house"] (defScope s_best_heard) := ⟨rfl, rfl, rfl, by decide +kernel, rfl, by decide +kernel, by decide +kernel⟩
def S_best_heard (P : Program) (w : World) (K : PySem.W.Frag) : Sp := fun vs H Q _ => ∃ g A p n, vs = [.ref A.d, .int (n : Nat)] ∧ g.Ok ∧ HolB P w K H g A p ∧ 1 ≤ n ∧ n < g.many ∧ ∀ v H', Same H H' → Im K H' v (eW (Lk.best g p.heard n)) → Q v H'
theorem hk_mem {g : Gd} (ok : g.Ok) {a b : Int} (a0 : 0 ≤ a) (a1 : a < g.many) (hj : Lk.joined g.roads a b = true) (b0 : 0 ≤ b) (b1 : b < g.many) : (a, b) ∈ ddup (hkF g) := by
  rw [ddup_mem]
  unfold hkF
  refine List.mem_flatMap.mpr ⟨a.toNat, List.mem_range.mpr (by omega), List.mem_map.mpr ⟨b, ?_, by rw [show ((a.toNat : Nat) : Int) = a by omega]⟩⟩
  rw [show ((a.toNat : Nat) : Int) = a by omega]
  exact ((osF_nbs ok a0 a1).mem b).mpr ⟨hj, b0, b1⟩
theorem w_best_heard (B : Bi mg) (D : Df K mg "best_heard" s_best_heard) : Has P w K mg base 1 "best_heard" ["holding", "house"] (S_best_heard P w K) := by
  refine D.has sc_best_heard (fun vs H Q E h => ?_) (fun _ _ _ _ _ _ us hl => match us, hl with | [_, _], _ => rfl) (fun f cdv A outer s H vs Q E hr h => ?_)
  rotate_left
  have nd := sc_best_heard.nd
  have hu := hr.units
  have hu0 := hr.units0
  have hu1 := hu_of hr
  refine ⟨_, (pss_cons (ps_for (passes_of rfl) rfl (pi_seq (pe_ix ix_D (pe_dget hu1 (pv 0) pe_str (fun _ _ => rfl)) (pe_op op_sub (pv 1) pe_int) (fun _ _ => rfl))) (pg_name (i := 2) nd rfl (Or.inl rfl)) (pss_cons (ps_asg (pv 2) (pg_star rfl (pgs_cons (pg_name (i := 3) nd rfl (Or.inl rfl)) (pgs_starName (i := 4) nd rfl (Or.inl rfl))))) (pss_one (ps_if (pt_cmpR (op_eqE hu) (pe_ix (ix_N hu) (pe_dget hu1 (pv 0) pe_str (fun _ _ => rfl)) (pe_tupD (pa_cons (pv 3) (pa_cons (pe_ix ix_D (pv 4) pe_int (fun _ _ => rfl)) pa_nil))) (fun _ _ => rfl)) (pe_callTy call_tupD (by rfl) B.tuple (by decide +kernel) (pa_cons (pv 4) pa_nil)) (nomark _)) (pss_one (ps_ret (pv 2))) pss_nil)))) (pss_one (ps_ret (pe_tupD pa_nil)))), ?_⟩
  rotate_left
  · obtain ⟨_, _, _, _, rfl, _⟩ := h
    rfl
  · obtain ⟨g, A, p, n, rfl, ok, hol, n1, n2, q⟩ := h
    refine ⟨_, rfl, A.d, A.L, rfl, DGet.k (k := .inr "likes") hol.dict, ?_⟩
    refine ⟨_, rfl, _, _, rfl, rfl, _, _, eWs (g.row n), .inl hol.lik, rfl, ?_, fun y i1 => ?_⟩
    · exact atI_map (f := eWs) (atI_nn (by omega) (by rw [show ((n : Int) - 1).toNat = n - 1 by omega]; exact ok.row_eq n1 n2))
    refine for_TT i1 (fun i σ' H' => (∃ x y z, σ' = [some (.ref A.d), some (.int n), x, y, z]) ∧ Same H H' ∧ ∀ u ∈ (g.row n).take i, Lk.hav p.heard n u = false) ⟨⟨_, _, _, rfl⟩, Same.refl _, by simp⟩ (fun i σ' H' p => p.2.1.tk) (fun i a x σ' H' ha hx pv => ?_) (fun σ' H' pv => ?_)
    · obtain ⟨⟨x0, y, z, rfl⟩, sH', no⟩ := pv
      have ham := List.mem_of_getElem? ha
      have hw := ok.way n n1 n2 a ham
      obtain ⟨b, rr, ea⟩ := hw.shape
      have hx := hx.same sH'
      obtain ⟨T, xs, rfl, hq, him⟩ := hx.tup_inv
      have him2 := him
      rw [ea] at him2
      obtain ⟨x1, xs1, rfl, j1, j2⟩ := ImAll.uncons him2
      cases j1
      have hxl : xs1.length = rr.length + 1 := by have := j2.length; rw [List.length_map, List.length_cons] at this; exact this
      have hal : a.length ≤ 6 := Nat.le_trans hw.hi ok.hi
      have hrl : rr.length ≤ 4 := by rw [ea] at hal; simp at hal; omega
      obtain ⟨hb0, hb1⟩ := hw.rng b (by rw [ea]; simp)
      refine ⟨_, rfl, T, _, xs1, rfl, hq, by omega, fun pr hp => ?_⟩
      have sp : Same H' (upd H' pr (.lst xs1)) := Same.new hp
      have ip : Im K (upd H' pr (.lst xs1)) (.ref pr) (.list ((b :: rr).map eI)) := .lst upd_same (j2.same sp)
      have hol1 := hol.same (sH'.trans sp)
      have hj : Lk.joined g.roads n b = true := hw.jn (n, b) (by rw [ea]; simp)
      obtain ⟨kvs, v2, d1, d2, d3⟩ := hol1.hrd.get (k := ((n : Int), b)) (hk_mem ok (by omega) (by omega) hj hb0 hb1)
      refine ⟨_, _, rfl, _, _, rfl, rfl, _, rfl, A.d, .ref A.H, rfl, DGet.k (k := .inr "heard") hol1.dict, ?_⟩
      refine ⟨_, rfl, _, rfl, _, 0, .int b, .inr ip, rfl, atI_map (f := eI) (atI_nn (a := b) (by decide) rfl), fun y2 hy2 => ?_⟩
      cases hy2
      refine ⟨by show (2 : Nat) ≤ 1000; decide, _, .cons (.int n) (.cons (.int b) .nil), fun p3 H3 s3 f3 i3 => ?_⟩
      refine ⟨_, inferInstance, eRd, ((n : Int), b), A.H, kvs, v2, key_Rd, rfl, d1.same s3, i3, d2, ?_⟩
      refine ⟨_, rfl, _, _, rfl, .inr (ip.same s3), fun v5 H5 s5 i5 => ?_⟩
      refine ⟨_, inferInstance, eW, 1, p.heard n b, b :: rr, enc_W, by decide, d3.im.same (s3.trans s5), i5, _, rfl, ?_⟩
      have hav : Lk.hav p.heard n a = decide (p.heard n b = b :: rr) := by unfold Lk.hav; rw [ea]; rfl
      have s15 := ((sH'.trans sp).trans s3).trans s5
      by_cases c : p.heard n b = b :: rr
      · refine ifT (decide_eq_true c) ⟨_, rfl, q _ H5 s15 ?_⟩
        have e : Lk.best g p.heard n = a := by
          unfold Lk.best
          rw [List.find?_eq_some_iff_append.mpr ⟨by rw [hav]; exact decide_eq_true c, (g.row n).take i, (g.row n).drop (i + 1), ?_, fun u hu => by rw [no u hu]; rfl⟩]
          · rfl
          · have := List.take_append_drop i (g.row n)
            rw [List.drop_eq_getElem_cons (List.getElem?_eq_some_iff.mp ha).1, (List.getElem?_eq_some_iff.mp ha).2] at this
            exact this.symm
        rw [e]
        exact hx.same ((sp.trans s3).trans s5)
      · refine ifF (decide_eq_false c) ⟨⟨_, _, _, rfl⟩, s15, fun u hu => ?_⟩
        rw [take_snoc ha] at hu
        rcases List.mem_append.mp hu with c' | c'
        · exact no u c'
        · rw [List.mem_singleton.mp c', hav]; exact decide_eq_false c
    · obtain ⟨⟨x0, y, z, rfl⟩, sH', no⟩ := pv
      rw [List.take_length] at no
      refine ⟨Nat.zero_le _, [], .nil, fun p3 H3 s3 f3 i3 => q _ H3 (sH'.trans s3) ?_⟩
      have e : Lk.best g p.heard n = [] := by
        unfold Lk.best
        rw [List.find?_eq_none.mpr fun u hu => by rw [no u hu]; decide]
        rfl
      rw [e]
      exact i3
theorem sc_choose : FnScope ["roads", "holding", "house", "best"] ["roads", "holding", "house"] (defScope s_choose) := ⟨rfl, rfl, rfl, by decide +kernel, rfl, by decide +kernel, by decide +kernel⟩
def S_choose (P : Program) (w : World) (K : PySem.W.Frag) : Sp := fun vs H Q _ => ∃ vr g A p h, vs = [vr, .ref A.d, .int (h : Nat)] ∧ Im K H vr (eRs g.roads) ∧ g.Ok ∧ HolB P w K H g A p ∧ h < g.many ∧ p.ways.length = g.many ∧ p.lets.length ≤ 999000 ∧ ∀ H', Kp [A.W, A.Q] H H' → TK H H' → HolB P w K H' g A (Lk.choose g (osF g h) p h) → Q .non H'
theorem w_choose (B : Bi mg) (D : Df K mg "choose" s_choose) (hbest_heard : Has P w K mg base 1 "best_heard" ["holding", "house"] (S_best_heard P w K)) (hsend : Has P w K mg base 2 "send" ["roads", "holding", "house"] (S_send P w K)) : Has P w K mg base 3 "choose" ["roads", "holding", "house"] (S_choose P w K) := by
  refine D.has sc_choose (fun vs H Q E h => ?_) (fun _ _ _ _ _ _ us hl => match us, hl with | [_, _, _], _ => rfl) (fun f cdv A outer s H vs Q E hr h => ?_)
  rotate_left
  have nd := sc_choose.nd
  have hu := hr.units
  have hu0 := hr.units0
  have hu1 := hu_of hr
  refine ⟨_, (pss_cons (ps_if (pt_cmpR op_eq (pv 2) pe_int (nomark _)) (pss_one ps_retN) pss_nil) (pss_cons (ps_set (i := 3) nd rfl (Or.inl rfl) (pe_has hbest_heard hr (by decide) (pa_cons (pv 1) (pa_cons (pv 2) pa_nil)))) (pss_one (ps_if (pt_cmpR (op_neE hu) (pv 3) (pe_ix ix_D (pe_dget hu1 (pv 1) pe_str (fun _ _ => rfl)) (pv 2) (fun _ _ => rfl)) (nomark _)) (pss_cons (ps_asg (pv 3) (pg_sub (pe_dget hu1 (pv 1) pe_str (fun _ _ => rfl)) (pv 2) set_D)) (pss_one (ps_expr (pe_has hsend hr (by decide) (pa_cons (pv 0) (pa_cons (pv 1) (pa_cons (pv 2) pa_nil))))))) pss_nil)))), ?_⟩
  rotate_left
  · obtain ⟨_, _, _, _, _, rfl, _⟩ := h
    rfl
  · obtain ⟨vr, g, A, p, h, rfl, hr1, ok, hol, h1, hwl, hl, q⟩ := h
    refine ⟨_, rfl, rfl, _, rfl, ?_⟩
    by_cases h0 : h = 0
    · subst h0
      refine ifT (by simp) (q H Kp.refl TK.refl ?_)
      unfold Lk.choose
      rw [if_pos (show ((0 : Nat) : Int) = 0 from rfl)]
      exact hol
    refine ifF (by simp; omega) ?_
    refine ⟨_, rfl, _, rfl, g, A, p, h, rfl, ok, hol, by omega, h1, fun bv H1 s1 i1 => ?_⟩
    have hol1 := hol.same s1
    refine ⟨_, rfl, _, rfl, A.d, .ref A.W, rfl, DGet.k (k := .inr "ways") hol1.dict, _, rfl, _, (h : Int), eW (Lk.at_ p.ways h), .inr hol1.way.im, rfl, atI_at (by omega) (by omega), fun x hx => ?_⟩
    refine ⟨_, inferInstance, eW, 1, Lk.best g p.heard h, Lk.at_ p.ways h, enc_W, by decide, i1, hx, _, rfl, ?_⟩
    by_cases c : Lk.best g p.heard h = Lk.at_ p.ways h
    · refine ifF (by simp [c]) (q H1 s1.kp s1.tk ?_)
      unfold Lk.choose
      rw [if_neg (by omega), if_pos c]
      exact hol1
    refine ifT (by simp [c]) ?_
    have hset : (p.ways.map eW).set (h : Int).toNat (eW (Lk.best g p.heard h)) = (p.ways.set (h : Int).toNat (Lk.best g p.heard h)).map eW := by rw [List.map_set]
    refine ⟨_, rfl, _, rfl, A.d, .ref A.W, rfl, DGet.k (k := .inr "ways") hol1.dict, _, rfl, A.W, p.ways.map eW, (h : Int), _, rfl, rfl, hol1.way, i1, ?_, by omega, by rw [List.length_map]; omega, fun H2 c2 => ?_⟩
    · rw [hset]; exact flatAll_map flat_W _
    rw [hset] at c2
    have hol2 := hol1.chW c2
    refine ⟨_, rfl, _, rfl, _, rfl, vr, g, A, _, (h : Int), rfl, (hr1.same s1).tk c2.2.1 (flat_tup flat_Rd _), ok, hol2, by omega, by omega, by show (p.ways.set _ _).length = _; rw [List.length_set]; exact hwl, hl, fun H3 k3 t3 hol3 => ?_⟩
    refine q H3 ((s1.kp.trans (c2.1.mono (by simp))).trans (k3.mono (by simp))) ((s1.tk.trans c2.2.1).trans t3) ?_
    unfold Lk.choose
    rw [if_neg (by omega), if_neg c]
    have e : sentF g { p with ways := p.ways.set (h : Int).toNat (Lk.best g p.heard h) } h = (osF g h).map fun o => ((h : Int), o, Lk.best g p.heard h) := by
      unfold sentF
      refine List.map_congr_left fun o _ => ?_
      show ((h : Int), o, Lk.at_ (p.ways.set (h : Int).toNat (Lk.best g p.heard h)) h) = _
      rw [Int.toNat_natCast, Lk.at_set (by omega), if_pos rfl]
    rw [← e]
    exact hol3
theorem HolB.chH {H H' : Hp} {g : Gd} {A : Hla} {p : Ps} {f : Int → Int → Way} (h : HolB P w K H g A p) (k : Kp [A.H] H H') (t : TK H H') (df : DF P w K eRd H' A.H (ddup (hkF g)) (fun k => eW (f k.1 k.2))) : HolB P w K H' g A { p with heard := f } := by
  obtain ⟨m1, m2, m3, m4, m5⟩ := h.d_ne
  have m6 : A.B ≠ A.H := fun e => by
    obtain ⟨kvs, ⟨xs, ep, h3, _⟩, _⟩ := h.hrd.dn
    obtain ⟨q, h4, _⟩ := h.brk
    rw [e, h3] at h4; cases h4
  exact ⟨k _ _ (by simpa using m3) h.dict, h.brk.kp k t (by simp [flatAll]) (by simpa using m6), h.lik.tk t (flat_tup flat_Ws _), h.way.kp k t (flatAll_map flat_W _) (by simpa using Ne.symm m5), df, h.let_.kp k t (flatAll_map flat_Lt _) (by simpa using Ne.symm m4), h.ne1, h.ne2, h.ne3⟩
theorem sc_deliver : FnScope ["roads", "holding", "at", "sender", "reader", "way"] ["roads", "holding", "at"] (defScope s_deliver) := ⟨rfl, rfl, rfl, by decide +kernel, rfl, by decide +kernel, by decide +kernel⟩
def S_deliver (P : Program) (w : World) (K : PySem.W.Frag) : Sp := fun vs H Q _ => ∃ vr g A p n l, vs = [vr, .ref A.d, .int (n : Nat)] ∧ Im K H vr (eRs g.roads) ∧ g.Ok ∧ HolB P w K H g A p ∧ Lk.PInv g p (fun _ => False) ∧ p.lets[n]? = some l ∧ p.lets.length ≤ 999000 ∧
  ∀ v H', Kp [A.W, A.Q, A.H] H H' → TK H H' → HolB P w K H' g A (Lk.deliver g (osF g l.2.1) p (p.lets.take n) (p.lets.drop (n + 1)) l) → Q v H'
theorem w_deliver (B : Bi mg) (D : Df K mg "deliver" s_deliver) (hchoose : Has P w K mg base 3 "choose" ["roads", "holding", "house"] (S_choose P w K)) : Has P w K mg base 4 "deliver" ["roads", "holding", "at"] (S_deliver P w K) := by
  refine D.has sc_deliver (fun vs H Q E h => ?_) (fun _ _ _ _ _ _ us hl => match us, hl with | [_, _, _], _ => rfl) (fun f cdv A outer s H vs Q E hr h => ?_)
  rotate_left
  have nd := sc_deliver.nd
  have hu := hr.units
  have hu0 := hr.units0
  have hu1 := hu_of hr
  refine ⟨_, (pss_cons (ps_asg (pe_bm PySem.F.plainAttrs_list PySem.F.slot_list_pop PySem.F.type_list_pop mt_popAtD (pe_dget hu1 (pv 1) pe_str (fun _ _ => rfl)) (pa_cons (pv 2) pa_nil)) (pg_tup (by rfl) (pgs_cons (pg_name (i := 3) nd rfl (Or.inl rfl)) (pgs_cons (pg_name (i := 4) nd rfl (Or.inl rfl)) (pgs_cons (pg_name (i := 5) nd rfl (Or.inl rfl)) pgs_nil))))) (pss_cons (ps_asg (pv 5) (pg_sub (pe_dget hu1 (pv 1) pe_str (fun _ _ => rfl)) (pe_tupD (pa_cons (pv 4) (pa_cons (pv 3) pa_nil))) (set_N hu))) (pss_cons (ps_expr (pe_has hchoose hr (by decide) (pa_cons (pv 0) (pa_cons (pv 1) (pa_cons (pv 4) pa_nil))))) (pss_one (ps_ret (pe_ix ix_D (pe_dget hu1 (pv 1) pe_str (fun _ _ => rfl)) (pv 4) (fun _ _ => rfl))))))), ?_⟩
  rotate_left
  · obtain ⟨_, _, _, _, _, _, rfl, _⟩ := h
    rfl
  · obtain ⟨vr, g, A, p, n, l, rfl, hr1, ok, hol, inv, hn, hl, q⟩ := h
    obtain ⟨hj, a0, a1, b0, b1⟩ := inv.lets l (List.mem_of_getElem? hn)
    refine ⟨_, rfl, A.d, .ref A.Q, rfl, DGet.k (k := .inr "letters") hol.dict, hol.let_.ty, _, rfl, A.Q, p.lets.map eLt, (n : Int), eLt l, rfl, rfl, hol.let_, flatAll_map flat_Lt _, by omega, by rw [List.length_map]; omega, ?_, fun y H1 i1 c1 => ?_⟩
    · rw [List.getElem?_map, Int.toNat_natCast, hn]; rfl
    rw [Int.toNat_natCast, List.eraseIdx_eq_take_drop_succ, ← List.map_take, ← List.map_drop, ← List.map_append] at c1
    have hol1 := hol.chQ c1
    obtain ⟨T, xs, rfl, hq, him⟩ := i1.tup_inv
    obtain ⟨x1, r1, rfl, j1, him⟩ := ImAll.uncons him
    obtain ⟨x2, r2, rfl, j2, him⟩ := ImAll.uncons him
    obtain ⟨x3, r3, rfl, j3, him⟩ := ImAll.uncons him
    cases him
    cases j1; cases j2
    refine ⟨_, _, rfl, hq, rfl, _, _, rfl, _, _, rfl, _, _, rfl, rfl, ?_⟩
    refine ⟨_, rfl, _, rfl, A.d, .ref A.H, rfl, DGet.k (k := .inr "heard") hol1.dict, ?_⟩
    refine ⟨_, rfl, _, rfl, by show (2 : Nat) ≤ 1000; decide, _, .cons (.int _) (.cons (.int _) .nil), fun p3 H3 s3 f3 i3 => ?_⟩
    have hol3 := hol1.same s3
    have hkm : (l.2.1, l.1) ∈ ddup (hkF g) := hk_mem ok b0 b1 (by rw [Lk.joined_comm]; exact hj) a0 a1
    obtain ⟨kvs, d1, d2, d3⟩ := hol3.hrd.ex
    have hkl : kvs.length ≤ 1000 := by
      rw [← List.length_map (f := (·.1)), d2]
      refine Nat.le_trans ddup_len ?_
      unfold hkF
      refine Nat.le_trans (Lk.flat_len_le _ 6 _ fun i hi => ?_) ?_
      · rw [List.length_map]
        exact Lk.deg ok (osF_nbs ok (by omega) (by have := List.mem_range.mp hi; omega))
      · rw [List.length_range]; have := ok.hi; omega
    refine ⟨_, inferInstance, eRd, (l.2.1, l.1), A.H, kvs, key_Rd, rfl, d1, i3, by rw [sizeLine_eq]; omega, fun H4 k4 t4 dn4 => ?_⟩
    have df4 := DF.set (P := P) (w := w) (K := K) (e := eRd) (f := fun k => eW (p.heard k.1 k.2)) (x := eW l.2.2) d2 d3 k4 t4 dn4 ((j3.same s3).stb (flat_W l.2.2))
    rw [dadd_old hkm] at df4
    have hol4 := hol3.chH (f := Lk.setH p.heard l.2.1 l.1 l.2.2) k4 t4 (df4.congr fun k _ => by
      unfold Lk.setH
      by_cases c : k = (l.2.1, l.1)
      · subst c; simp
      · rw [if_neg c, if_neg (fun z => c (Prod.ext z.1 z.2))])
    have hol4 : HolB P w K H4 g A (Lk.taken p (p.lets.take n) (p.lets.drop (n + 1)) l) := hol4
    obtain ⟨r, er⟩ : ∃ r : Nat, l.2.1 = (r : Int) := ⟨l.2.1.toNat, by omega⟩
    have k04 := ((c1.1.mono (S' := [A.W, A.Q, A.H]) (by simp)).trans (s3.kp)).trans (k4.mono (by simp))
    have t04 := (c1.2.1.trans s3.tk).trans t4
    refine ⟨_, rfl, _, rfl, _, rfl, vr, g, A, _, r, by rw [er]; rfl, hr1.tk t04 (flat_tup flat_Rd _), ok, hol4, by omega, inv.len, by show (p.lets.take n ++ p.lets.drop (n + 1)).length ≤ _; rw [List.length_append, List.length_take, List.length_drop]; omega, fun H5 k5 t5 hol5 => ?_⟩
    have hwl5 : (Lk.choose g (osF g r) (Lk.taken p (p.lets.take n) (p.lets.drop (n + 1)) l) r).ways.length = g.many := by
      unfold Lk.choose
      have := inv.len
      split
      · exact this
      · split
        · exact this
        · show (p.ways.set _ _).length = _; rw [List.length_set]; exact this
    refine ⟨_, rfl, A.d, .ref A.W, rfl, DGet.k (k := .inr "ways") hol5.dict, _, rfl, _, (l.2.1 : Int), _, .inr hol5.way.im, rfl, atI_at b0 (by rw [hwl5]; exact b1), fun x hx => ?_⟩
    refine q x H5 (k04.trans (k5.mono (by simp))) (t04.trans t5) ?_
    unfold Lk.deliver
    rw [er]
    exact hol5
end
end Lw
end
section
set_option Elab.async false
set_option linter.all false
set_option maxRecDepth 100000
set_option maxHeartbeats 2000000
/-! Holdings copied, made; letters grouped. -/
namespace Lw
open PySem PySem.Spec PyProof.Rows L2
open Lk (Way Gd IsWay ltP Ps Let Nbs)
/-- all its places are new -/
def Hla.New (A : Hla) (H : Hp) : Prop := H A.d = none ∧ H A.B = none ∧ H A.W = none ∧ H A.H = none ∧ H A.Q = none
theorem hpair_inj : ∀ a b c d : Fin 6, reduceHash (Builtin.Tuple.tupleHashOf [hashInt (a.val : Int), hashInt (b.val : Int)]) = reduceHash (Builtin.Tuple.tupleHashOf [hashInt (c.val : Int), hashInt (d.val : Int)]) → a = c ∧ b = d := by decide +kernel
theorem hash_pair (w : World) (p : Int × Int) : (nk (eRd p)).hash w = reduceHash (Builtin.Tuple.tupleHashOf [hashInt p.1, hashInt p.2]) := by
  show NestedKey.hash w (nk (.tuple [.int p.1, .int p.2])) = _
  simp only [nk, nkAll, NestedKey.hash, NestedKey.hashes]
theorem hashes_nd {l : List ((Int × Int) × V)} (nd : (l.map (·.1)).Nodup) (hr : ∀ k ∈ l.map (·.1), 0 ≤ k.1 ∧ k.1 < 6 ∧ 0 ≤ k.2 ∧ k.2 < 6) (w : World) : (l.map fun p => (nk (eRd p.1)).hash w).Nodup := by
  rw [List.nodup_iff_pairwise_ne, List.pairwise_map] at nd ⊢
  refine nd.imp_of_mem fun {p q} hp hq hne e => hne ?_
  rw [hash_pair, hash_pair] at e
  obtain ⟨a1, a2, a3, a4⟩ := hr p.1 (List.mem_map.mpr ⟨p, hp, rfl⟩)
  obtain ⟨b1, b2, b3, b4⟩ := hr q.1 (List.mem_map.mpr ⟨q, hq, rfl⟩)
  have h := hpair_inj ⟨p.1.1.toNat, by omega⟩ ⟨p.1.2.toNat, by omega⟩ ⟨q.1.1.toNat, by omega⟩ ⟨q.1.2.toNat, by omega⟩ (by
    show reduceHash (Builtin.Tuple.tupleHashOf [hashInt ((p.1.1.toNat : Nat) : Int), hashInt ((p.1.2.toNat : Nat) : Int)]) = reduceHash (Builtin.Tuple.tupleHashOf [hashInt ((q.1.1.toNat : Nat) : Int), hashInt ((q.1.2.toNat : Nat) : Int)])
    rw [show ((p.1.1.toNat : Nat) : Int) = p.1.1 by omega, show ((p.1.2.toNat : Nat) : Int) = p.1.2 by omega, show ((q.1.1.toNat : Nat) : Int) = q.1.1 by omega, show ((q.1.2.toNat : Nat) : Int) = q.1.2 by omega]
    exact e)
  have e1 : p.1.1.toNat = q.1.1.toNat := congrArg Fin.val h.1
  have e2 : p.1.2.toNat = q.1.2.toNat := congrArg Fin.val h.2
  exact Prod.ext (by omega) (by omega)
theorem hk_range {g : Gd} (ok : g.Ok) {k : Int × Int} (h : k ∈ ddup (hkF g)) : 0 ≤ k.1 ∧ k.1 < 6 ∧ 0 ≤ k.2 ∧ k.2 < 6 := by
  rw [ddup_mem] at h
  unfold hkF at h
  obtain ⟨i, hi, h⟩ := List.mem_flatMap.mp h
  obtain ⟨o, ho, rfl⟩ := List.mem_map.mp h
  have hi := List.mem_range.mp hi
  have := ((osF_nbs ok (h := (i : Int)) (by omega) (by omega)).mem o).mp ho
  have := ok.hi
  refine ⟨by show (0 : Int) ≤ i; omega, by show (i : Int) < 6; omega, by show 0 ≤ o; omega, by show o < 6; omega⟩
section
variable {P : Program} {w : World} {K : PySem.W.Frag} {mg : Str → Option Value} {base : Heap}
def cpK (A : Hla) (B W Q : V) : List (Key × V) := [(.inr "broken", B), (.inr "likes", A.L), (.inr "ways", W), (.inr "heard", .ref A.H), (.inr "letters", Q)]
theorem sc_copied : FnScope ["holding", "found", "word"] ["holding"] (defScope s_copied) := ⟨rfl, rfl, rfl, by decide +kernel, rfl, by decide +kernel, by decide +kernel⟩
def S_copied (P : Program) (w : World) (K : PySem.W.Frag) : Sp := fun vs H Q _ => ∃ g A p, vs = [.ref A.d] ∧ g.Ok ∧ HolB P w K H g A p ∧ ∀ A' H', Same H H' → A'.New H → HolB P w K H' g A' p → Q (.ref A'.d) H'
theorem w_copied (B : Bi mg) (D : Df K mg "copied" s_copied) : Has P w K mg base 1 "copied" ["holding"] (S_copied P w K) := by
  refine D.has sc_copied (fun vs H Q E h => ?_) (fun _ _ _ _ _ _ us hl => match us, hl with | [_], _ => rfl) (fun f cdv A outer s H vs Q E hr h => ?_)
  rotate_left
  have nd := sc_copied.nd
  have hu := hr.units
  have hu0 := hr.units0
  have hu1 := hu_of hr
  refine ⟨_, (pss_cons (ps_set (i := 1) nd rfl (Or.inl rfl) (pe_callTy call_dictD (by rfl) B.dict (by decide +kernel) (pa_cons (pv 0) pa_nil))) (pss_cons (ps_for (passes_of rfl) rfl (pi_seq (pe_tupD (pa_cons pe_str (pa_cons pe_str (pa_cons pe_str pa_nil))))) (pg_name (i := 2) nd rfl (Or.inl rfl)) (pss_one (ps_dput hu1 (pv 1) (pv 2) (pe_callTy call_listD (by rfl) B.list (by decide +kernel) (pa_cons (pe_dget hu1 (pv 0) (pv 2) (fun _ _ => rfl)) pa_nil)) rfl))) (pss_cons (ps_dput hu1 (pv 1) pe_str (pe_callTy (call_dictN hu) (by rfl) B.dict (by decide +kernel) (pa_cons (pe_dget hu1 (pv 0) pe_str (fun _ _ => rfl)) pa_nil)) rfl) (pss_one (ps_ret (pv 1)))))), ?_⟩
  rotate_left
  · obtain ⟨_, _, _, rfl, _⟩ := h
    rfl
  · obtain ⟨g, A, p, rfl, ok, hol, q⟩ := h
    refine ⟨_, rfl, A.d, A.kvs, rfl, .inl hol.dict, fun F fF => ?_⟩
    have sF : Same H (upd H F (.dK A.kvs)) := Same.new fF
    refine ⟨by show (3 : Nat) ≤ 1000; decide, _, .cons (.str "broken") (.cons (.str "ways") (.cons (.str "letters") .nil)), fun T H1 s1 fT iT => ?_⟩
    -- a list at a fresh place: the dict's key told anew
    have put : ∀ {H' H2 : Hp} {B W Q B' W' Q' : V} {k : Key} {b : Addr} {ds : List PyData}, Same H H' → TK H1 H' → H' F = some (.dK (cpK A B W Q)) → Same H' H2 → H' b = none → Im K H2 (.ref b) (.list ds) → flatAll ds = true → putK (cpK A B W Q) k (.ref b) = cpK A B' W' Q' →
        DPut H2 F (kV k) (.ref b) (upd H2 F (.dK (cpK A B' W' Q'))) ∧ Same H (upd H2 F (.dK (cpK A B' W' Q'))) ∧ TK H1 (upd H2 F (.dK (cpK A B' W' Q'))) ∧ Ls K (upd H2 F (.dK (cpK A B' W' Q'))) b ds ∧ H b = none ∧ (∀ c es, Ls K H' c es → flatAll es = true → Ls K (upd H2 F (.dK (cpK A B' W' Q'))) c es ∧ c ≠ b) := by
      intro H' H2 B W Q B' W' Q' k b ds s' t' e s2 f2 i2 fl hp
      have e2 := s2 _ _ e
      have tk2 : TK H2 (upd H2 F (.dK (cpK A B' W' Q'))) := TK.upd e2 (fun _ _ q => nomatch q)
      have nF : ∀ {c : Addr} {es : List PyData}, Ls K H2 c es → c ≠ F := fun {c es} l q => by
        obtain ⟨xs, z, _⟩ := l
        rw [q, e2] at z; cases z
      refine ⟨?_, same_kp1 (s'.trans s2) Kp.upd fF, (t'.trans s2.tk).trans tk2, i2.ls.kp Kp.upd tk2 fl (by simpa using nF i2.ls), none_back s' f2, fun c es l fl2 => ⟨(l.same s2).kp Kp.upd tk2 fl2 (by simpa using nF (l.same s2)), fun q => l.ne_none (by rw [q]; exact f2)⟩⟩
      rw [← hp]
      exact DPut.k e2 (by rw [sizeLine_eq]; show (5 : Nat) < _; decide)
    refine for_tupD iT (fun i σ' H' => ∃ (w : Option V) (B W Q : V), σ' = [some (.ref A.d), some (.ref F), w] ∧ Same H H' ∧ TK H1 H' ∧ H' F = some (.dK (cpK A B W Q)) ∧ (if 0 < i then ∃ b, B = .ref b ∧ H b = none ∧ Ls K H' b [] else B = .ref A.B) ∧ (if 1 < i then ∃ b, W = .ref b ∧ H b = none ∧ Ls K H' b (p.ways.map eW) ∧ B ≠ W else W = .ref A.W) ∧ (if 2 < i then ∃ b, Q = .ref b ∧ H b = none ∧ Ls K H' b (p.lets.map eLt) ∧ B ≠ Q ∧ W ≠ Q else Q = .ref A.Q))
      ⟨none, _, _, _, rfl, sF.trans s1, TK.refl, s1 _ _ upd_same, rfl, rfl, rfl⟩ (fun i σ' H' p => p.choose_spec.choose_spec.choose_spec.choose_spec.2.2.1) (fun i d v σ' H' hd hv pv => ?_) (fun σ' H' pv => ?_)
    · obtain ⟨w0, B, W, Q', rfl, sH, tk, eF, c1, c2, c3⟩ := pv
      have hol' := hol.same sH
      match i, hd with
      | 0, hd =>
        cases hd
        cases hv
        refine ⟨_, rfl, _, rfl, A.d, .ref A.B, rfl, DGet.k (k := .inr "broken") hol'.dict, _, _, rfl, .inr hol'.brk.im, fun b H2 s2 f2 i2 => ?_⟩
        obtain ⟨q1, q2, q3, q4, q5, q6⟩ := put (k := .inr "broken") (B' := .ref b) (W' := W) (Q' := Q') sH tk eF s2 f2 i2 (by simp [flatAll]) rfl
        exact ⟨_, rfl, _, rfl, F, _, rfl, q1, _, .ref b, W, Q', rfl, q2, q3, upd_same, ⟨b, rfl, q5, q4⟩, c2, c3⟩
      | 1, hd =>
        cases hd
        cases hv
        obtain ⟨bB, rfl, fB, lB⟩ := c1
        refine ⟨_, rfl, _, rfl, A.d, .ref A.W, rfl, DGet.k (k := .inr "ways") hol'.dict, _, _, rfl, .inr hol'.way.im, fun b H2 s2 f2 i2 => ?_⟩
        obtain ⟨q1, q2, q3, q4, q5, q6⟩ := put (k := .inr "ways") (B' := .ref bB) (W' := .ref b) (Q' := Q') sH tk eF s2 f2 i2 (flatAll_map flat_W _) rfl
        obtain ⟨z1, z2⟩ := q6 bB [] lB (by simp [flatAll])
        exact ⟨_, rfl, _, rfl, F, _, rfl, q1, _, .ref bB, .ref b, Q', rfl, q2, q3, upd_same, ⟨bB, rfl, fB, z1⟩, ⟨b, rfl, q5, q4, fun e => z2 (by cases e; rfl)⟩, c3⟩
      | 2, hd =>
        cases hd
        cases hv
        obtain ⟨bB, rfl, fB, lB⟩ := c1
        obtain ⟨bW, rfl, fW, lW, nBW⟩ := c2
        refine ⟨_, rfl, _, rfl, A.d, .ref A.Q, rfl, DGet.k (k := .inr "letters") hol'.dict, _, _, rfl, .inr hol'.let_.im, fun b H2 s2 f2 i2 => ?_⟩
        obtain ⟨q1, q2, q3, q4, q5, q6⟩ := put (k := .inr "letters") (B' := .ref bB) (W' := .ref bW) (Q' := .ref b) sH tk eF s2 f2 i2 (flatAll_map flat_Lt _) rfl
        obtain ⟨z1, z2⟩ := q6 bB [] lB (by simp [flatAll])
        obtain ⟨z3, z4⟩ := q6 bW _ lW (flatAll_map flat_W _)
        exact ⟨_, rfl, _, rfl, F, _, rfl, q1, _, .ref bB, .ref bW, .ref b, rfl, q2, q3, upd_same, ⟨bB, rfl, fB, z1⟩, ⟨bW, rfl, fW, z3, nBW⟩, ⟨b, rfl, q5, q4, fun e => z2 (by cases e; rfl), fun e => z4 (by cases e; rfl)⟩⟩
    · obtain ⟨w0, B, W, Q', rfl, sH, tk, eF, ⟨bB, rfl, fB, lB⟩, ⟨bW, rfl, fW, lW, nBW⟩, ⟨bQ, rfl, fQ, lQ, nBQ, nWQ⟩⟩ := pv
      have hol' := hol.same sH
      obtain ⟨kvs, d1, d2, d3⟩ := hol'.hrd.ex
      refine ⟨_, rfl, A.d, .ref A.H, rfl, DGet.k (k := .inr "heard") hol'.dict, ?_⟩
      refine ⟨_, inferInstance, eRd, A.H, kvs, key_Rd, rfl, d1, ?_, fun c H2 => ?_⟩
      · exact hashes_nd (by rw [d2]; exact ddup_nodup) (fun k hk => hk_range ok (by rw [d2] at hk; exact hk))
      · intro s2 f2 dn2
        have e2 := s2 _ _ eF
        let A' : Hla := ⟨F, bB, A.L, bW, c, bQ⟩
        have tk3 : TK H2 (upd H2 F (.dK A'.kvs)) := TK.upd e2 (fun _ _ q => nomatch q)
        have kp3 : Kp [F] H2 (upd H2 F (.dK A'.kvs)) := Kp.upd
        have nF : ∀ {c : Addr} {es : List PyData}, Ls K H2 c es → c ∉ [F] := fun {c es} l q => by
          obtain ⟨xs, z, _⟩ := l
          rw [List.mem_singleton.mp q, e2] at z; cases z
        have sH3 : Same H (upd H2 F (.dK A'.kvs)) := same_kp1 (sH.trans s2) kp3 fF
        have ncF : c ∉ [F] := fun q => by rw [List.mem_singleton.mp q, eF] at f2; cases f2
        refine ⟨_, rfl, F, _, rfl, DPut.k (k := .inr "heard") (v := .ref c) e2 (by rw [sizeLine_eq]; show (5 : Nat) < _; decide), _, rfl, ?_⟩
        show Q (.ref A'.d) (upd H2 F (.dK A'.kvs))
        refine q A' _ sH3 ⟨fF, fB, fW, none_back sH f2, fQ⟩ ⟨upd_same, (lB.same s2).kp kp3 tk3 (by simp [flatAll]) (nF (lB.same s2)), hol.lik.same sH3, (lW.same s2).kp kp3 tk3 (flatAll_map flat_W _) (nF (lW.same s2)), ?_, (lQ.same s2).kp kp3 tk3 (flatAll_map flat_Lt _) (nF (lQ.same s2)), fun e => nBW (by rw [show bB = bW from e]), fun e => nBQ (by rw [show bB = bQ from e]), fun e => nWQ (by rw [show bW = bQ from e])⟩
        exact ⟨kvs, dn2.kp key_Rd.flt kp3 tk3 ncF, d2, fun k hk => (((d3 k hk).im.same s2).tk tk3 (flat_W _)).stb (flat_W _)⟩
noncomputable def freshP (g : Gd) : Ps := { ways := Lk.first g, heard := fun _ _ => [], lets := (osF g 0).map fun o => (0, o, [0]) }
theorem sc_fresh : FnScope ["guild", "broken", "many", "roads", "likes", "house", "other", "heard", "holding"] ["guild", "broken"] (defScope s_fresh) := ⟨rfl, rfl, rfl, by decide +kernel, rfl, by decide +kernel, by decide +kernel⟩
def S_fresh (P : Program) (w : World) (K : PySem.W.Frag) : Sp := fun vs H Q _ => ∃ v v2 g, vs = [v, v2] ∧ Im K H v (eG g) ∧ Im K H v2 (.list []) ∧ g.Ok ∧ ∀ A H', Same H H' → A.New H → HolB P w K H' g A (freshP g) → Q (.ref A.d) H'
theorem w_fresh (B : Bi mg) (D : Df K mg "fresh" s_fresh) (hothers_of : Has P w K mg base 1 "others_of" ["roads", "house"] (S_others_of P w K)) (hsend : Has P w K mg base 2 "send" ["roads", "holding", "house"] (S_send P w K)) : Has P w K mg base 3 "fresh" ["guild", "broken"] (S_fresh P w K) := by
  refine D.has sc_fresh (fun vs H Q E h => ?_) (fun _ _ _ _ _ _ us hl => match us, hl with | [_, _], _ => rfl) (fun f cdv A outer s H vs Q E hr h => ?_)
  rotate_left
  have nd := sc_fresh.nd
  have hu := hr.units
  have hu0 := hr.units0
  have hu1 := hu_of hr
  refine ⟨_, (pss_cons (ps_asg (pv 0) (pg_tup (by rfl) (pgs_cons (pg_name (i := 2) nd rfl (Or.inl rfl)) (pgs_cons (pg_name (i := 3) nd rfl (Or.inr rfl)) (pgs_cons (pg_name (i := 4) nd rfl (Or.inl rfl)) pgs_nil))))) (pss_cons (ps_setDc2N (i := 7) (g := (gName 5)) (tt := tYes) (wi1 := (iSeq K (tCall (S_others_of P w K) [] E0 (tCons (tVar 3) (tCons (tVar 5) tNil))))) (g1 := (gName 6)) (tt1 := tYes) (vs1 := [6]) (tk := (tDispT K (tCons (tVar 5) (tCons (tVar 6) tNil)))) (tv := (tDispT K tNil)) hu rfl nd rfl rfl (sw_trueD rfl rfl rfl (by decide +kernel)) (pi_range1 (by rfl) B.range (pa_cons (pv 2) pa_nil)) (blkOk_by (own := [("house", 5), ("other", 6)]) (by rfl)) (by decide) (fun _ _ _ _ _ => ⟨(pg_name (i := 5) nd rfl (Or.inl rfl)), pts_nil, (pi_seq (pe_has hothers_of hr (by decide) (pa_cons (pv 3) (pa_cons (pv 5) pa_nil)))), (pg_name (i := 6) nd rfl (Or.inl rfl)), pts_nil, (pe_tupD (pa_cons (pv 5) (pa_cons (pv 6) pa_nil))), (pe_tupD pa_nil)⟩)) (pss_cons (ps_set (i := 8) nd rfl (Or.inl rfl) (pe_disp (pps_cons pe_str (pe_callB (call_sortD hu) (by rfl) B.sorted (by decide +kernel) (pa_cons (pv 1) pa_nil)) (pps_cons pe_str (pv 4) (pps_cons pe_str (pe_op op_catLD (pe_lstD (pa_cons (pe_tupD (pa_cons pe_int pa_nil)) pa_nil)) (pe_op op_repLD (pe_lstD (pa_cons (pe_tupD pa_nil) pa_nil)) (pe_op op_sub (pv 2) pe_int))) (pps_cons pe_str (pv 7) pps_nil)))) (by rfl) (by rfl) (fun z => by cases z) (by decide))) (pss_cons (ps_dput hu1 (pv 8) pe_str (pe_lstD pa_nil) rfl) (pss_cons (ps_expr (pe_has hsend hr (by decide) (pa_cons (pv 3) (pa_cons (pv 8) (pa_cons pe_int pa_nil))))) (pss_one (ps_ret (pv 8)))))))), ?_⟩
  rotate_left
  · obtain ⟨_, _, _, rfl, _⟩ := h
    rfl
  · obtain ⟨v, v2, g, rfl, h1, h2, ok, q⟩ := h
    have hlo := ok.lo
    have hhi := ok.hi
    obtain ⟨T, xs, rfl, hq, him⟩ := (eG_inv h1).tup_inv
    obtain ⟨x1, r1, rfl, i1, him⟩ := ImAll.uncons him
    obtain ⟨x2, r2, rfl, i2, him⟩ := ImAll.uncons him
    obtain ⟨x3, r3, rfl, i3, him⟩ := ImAll.uncons him
    cases him
    cases i1
    have i3y : Im K H x3 (eT eWs g.likes) := i3
    refine ⟨_, rfl, _, _, rfl, hq, rfl, _, _, rfl, _, _, rfl, _, _, rfl, rfl, ?_⟩
    refine ⟨_, rfl, _, rfl, by omega, by omega, ?_⟩
    refine dc2_S (P := P) (w := w) (K := K) (eb := eI) key_Rd (walk_range (lo := 0) (n := g.many)) (fun i => osF g (i : Nat)) (fun i o => ((i : Int), o)) (fun _ => eW []) (fun i σ => σ = [some (.ref T), some v2, some (.int g.many), some x2, some x3, some (.int (0 + (i : Nat))), none, none, none]) ?_ flat_int (fun _ _ => True.intro) (fun i H v H' y => by rw [y.1]; exact Same.refl _) (fun D i v H2 H3 QI hi s2 hN hN2 y k => ?_) (fun D i b u σ2 H3 QT hi hb hP s3 hN hN3 iu kT => ?_) (fun aH H2 s2 f2 df => ?_)
    · refine Nat.lt_of_le_of_lt (Lk.flat_len_le _ 6 _ fun i hi => ?_) ?_
      · rw [List.length_map]
        exact Lk.deg ok (osF_nbs ok (by omega) (by have := List.mem_range.mp hi; omega))
      · rw [List.length_range, sizeLine_eq]; omega
    · obtain ⟨e, rfl⟩ := y
      subst e
      refine ⟨rfl, _, rfl, _, rfl, _, _, g.roads, (0 + (i : Nat) : Int), rfl, i2.same s2, .int _, rds_len ok, fun r H4 s4 f4 i4 => k _ _ _ rfl s4 (.inr ⟨?_, fun e => by cases e; exact hN2 f4⟩)⟩
      rw [Int.zero_add] at i4
      exact i4
    · cases hP
      cases iu
      refine ⟨rfl, _, rfl, _, rfl, by show (2 : Nat) ≤ 1000; decide, _, .cons (.int _) (.cons (.int _) .nil), fun p4 H4 s4 f4 i4 => ⟨Nat.zero_le _, [], .nil, fun p5 H5 s5 f5 i5 => ?_⟩⟩
      rw [Int.zero_add] at i4
      exact kT _ _ _ (s4.trans s5) (i4.same s5) (i5.stb (flat_W []))
    · have df : DF P w K eRd H2 aH (ddup (hkF g)) (fun _ => eW []) := df
      intro F fF
      have i3x := i3y.same s2
      have sF : Same H2 (upd H2 F (.dK [])) := Same.new fF
      refine ⟨_, rfl, _, inferInstance, eI, 0, [], _, enc_int, by decide, .inr fun a h => (nomatch h), rfl, h2.same (s2.trans sF), fun aB H3 s3 f3 i3 => ?_⟩
      refine ⟨_, rfl, by show (1 : Nat) ≤ 1000; decide, _, .cons (.int 0) .nil, fun p4 H4 s4 f4 i4 => ⟨by show (1 : Nat) ≤ 1000; decide, _, .cons i4 .nil, fun p5 H5 s5 f5 i5 => ?_⟩⟩
      refine ⟨Nat.zero_le _, [], .nil, fun p6 H6 s6 f6 i6 => ⟨by show (1 : Nat) ≤ 1000; decide, _, .cons i6 .nil, fun p7 H7 s7 f7 i7 => ⟨_, rfl, _, _, rfl, rfl, _, _, i7, rfl, by omega, by omega, by show (1 : Nat) ≤ 1000; decide, fun p8 H8 s8 f8 i8 => ?_⟩⟩⟩
      rw [show (g.many : Int) - 1 = ((g.many - 1 : Nat) : Int) by omega, repD_eq] at i8
      refine ⟨_, _, ((i5.same s6).same s7).same s8, i8, by rw [List.length_replicate]; simp; omega, fun aW H9 s9 f9 i9 => ?_⟩
      have e : [PyData.tuple [PyData.int 0]] ++ List.replicate (g.many - 1) (PyData.tuple []) = (Lk.first g).map eW := by
        unfold Lk.first
        rw [List.map_cons, List.map_replicate]; rfl
      rw [e] at i9
      have s39 := (((((s4.trans s5).trans s6).trans s7).trans s8).trans s9)
      have eF9 : H9 F = some (.dK []) := (s3.trans s39) _ _ upd_same
      refine ⟨_, rfl, eF9, [(.inr "broken", .ref aB), (.inr "likes", x3), (.inr "ways", .ref aW), (.inr "heard", .ref aH)], rfl, by show (4 : Nat) ≤ 15; decide, ?_⟩
      have sF9 : Same H2 (upd H9 F (.dK (mergeK [] [(.inr "broken", .ref aB), (.inr "likes", x3), (.inr "ways", .ref aW), (.inr "heard", .ref aH)]))) := same_kp1 ((sF.trans s3).trans s39) Kp.upd fF
      refine ⟨Nat.zero_le _, [], .nil, fun aQ H10 s10 f10 i10 => ?_⟩
      let A : Hla := ⟨F, aB, x3, aW, aH, aQ⟩
      have e10 := s10 _ _ (upd_same (H := H9) (a := F) (o := .dK (mergeK [] [(.inr "broken", .ref aB), (.inr "likes", x3), (.inr "ways", .ref aW), (.inr "heard", .ref aH)])))
      have tk9 := TK.upd (o := .dK (mergeK [] [(.inr "broken", .ref aB), (.inr "likes", x3), (.inr "ways", .ref aW), (.inr "heard", .ref aH)])) eF9 (fun _ _ q => nomatch q)
      have tk11 : TK H10 (upd H10 F (.dK A.kvs)) := TK.upd e10 (fun _ _ q => nomatch q)
      have k911 : Kp [F] H9 (upd H10 F (.dK A.kvs)) := (Kp.upd.trans s10.kp).trans Kp.upd
      have t911 : TK H9 (upd H10 F (.dK A.kvs)) := (tk9.trans s10.tk).trans tk11
      have nF9 : ∀ {c : Addr} {es : List PyData}, Ls K H9 c es → c ∉ [F] := fun {c es} l q => by
        obtain ⟨xs, z, _⟩ := l
        rw [List.mem_singleton.mp q, eF9] at z; cases z
      have sH2 : Same H2 (upd H10 F (.dK A.kvs)) := same_kp1 (sF9.trans s10) Kp.upd fF
      have lB : Ls K H9 aB [] := by
        have z := (i3.same s39).ls
        rw [show srt eI [] = [] from by unfold srt; exact List.mergeSort_nil] at z
        exact z
      have lW : Ls K H9 aW ((Lk.first g).map eW) := i9.ls
      have hBW : aB ≠ aW := fun e => (i3.same (((((s4.trans s5).trans s6).trans s7).trans s8))).ls.ne_none (by rw [e]; exact f9)
      have up9 : ∀ {c : Addr}, c ∉ [F] → H9 c ≠ none → H10 c ≠ none := fun {c} hc hn => by
        cases z : H9 c with
        | none => exact absurd z hn
        | some o => rw [s10 _ _ (Kp.upd _ _ hc z)]; simp
      have hBQ : aB ≠ aQ := fun e => by
        have h9 := nF9 lB
        have : upd H9 F (.dK (mergeK [] [(.inr "broken", .ref aB), (.inr "likes", x3), (.inr "ways", .ref aW), (.inr "heard", .ref aH)])) aB = H9 aB := upd_ne (by simpa using h9)
        rw [← e, this] at f10
        exact lB.ne_none f10
      have hWQ : aW ≠ aQ := fun e => by
        have h9 := nF9 lW
        have : upd H9 F (.dK (mergeK [] [(.inr "broken", .ref aB), (.inr "likes", x3), (.inr "ways", .ref aW), (.inr "heard", .ref aH)])) aW = H9 aW := upd_ne (by simpa using h9)
        rw [← e, this] at f10
        exact lW.ne_none f10
      have nF10 : aQ ∉ [F] := fun q => by
        obtain ⟨xs, z, _⟩ := i10.ls
        rw [List.mem_singleton.mp q, e10] at z; cases z
      have hol : HolB P w K (upd H10 F (.dK A.kvs)) g A { ways := Lk.first g, heard := fun _ _ => [], lets := [] } :=
        ⟨upd_same, lB.kp k911 t911 (by simp [flatAll]) (nF9 lB), i3x.same sH2, lW.kp k911 t911 (flatAll_map flat_W _) (nF9 lW), df.same sH2, i10.ls.kp Kp.upd tk11 (by simp [flatAll]) nF10, hBW, hBQ, hWQ⟩
      have s2F := s2.trans sH2
      refine ⟨_, rfl, F, _, rfl, DPut.k (k := .inr "letters") (v := .ref aQ) e10 (by rw [sizeLine_eq]; show (4 : Nat) < _; decide), ?_⟩
      refine ⟨_, rfl, _, rfl, x2, g, A, _, 0, rfl, i2.same s2F, ok, hol, by omega, by omega, Lk.first_len (by omega), Nat.zero_le _, fun H12 k12 t12 hol12 => ⟨_, rfl, ?_⟩⟩
      have fQ : H aQ = none := none_back (s2.trans sF9) (by
        cases z : H9 aQ with
        | none => rw [upd_ne (by simpa using nF10)]; exact z
        | some o => rw [upd_ne (by simpa using nF10), z] at f10; cases f10)
      refine q A H12 (same_kp1 s2F k12 fQ) ⟨none_back s2 fF, none_back (s2.trans sF) f3, ?_, f2, fQ⟩ hol12
      exact none_back ((((((s2.trans sF).trans s3).trans s4).trans s5).trans s6).trans (s7.trans s8)) f9
end
end Lw
end
section
set_option Elab.async false
set_option linter.all false
set_option maxRecDepth 100000
set_option maxHeartbeats 4000000
/-! A tuple display told by its members. -/
namespace Lw
open PySem PySem.Spec PyProof.Rows L2
section
variable {X : Cx}
def rMadeT (xs : List V) (H1 : Hp) (Q : VK) : Prop := xs.length ≤ 1000 ∧ ∀ p o H', Same H1 H' → H1 p = none → H' p = some (.frz o (.tup xs)) → o.dict = none → Q (.ref p) H'
def tMadeT (t : TA) : TE := fun σ H Q => t σ H fun xs H1 => rMadeT xs H1 Q
theorem pe_tupM {es : List Expr} {t : TA} {k : Nat} {pos : Pos} (h : PA X es t) : PE X (.Tuple es k pos) (tMadeT t) := by
  refine ⟨fun pins s σ H Q I w => ?_⟩
  refine wpAny_Tuple_spliced (thn (h.run pos pins s σ H _ I w) fun us s1 ⟨xs, H1, I1, r, hz, q⟩ => ?_)
  have hl : xs.length ≤ sizeLine := small_line (by omega)
  obtain ⟨I', nf⟩ := laid_tup I1 r hl
  exact ⟨by rw [← r.length]; exact hl, .ref s1.heap.objs.size, _, I', rfl, q _ _ _ (Same.new nf) nf upd_same rfl⟩
end
end Lw
end
section
set_option Elab.async false
set_option linter.all false
set_option maxRecDepth 100000
set_option maxHeartbeats 2000000
/-! Letters grouped by road. -/
namespace Lw
open PySem PySem.Spec PyProof.Rows L2
open Lk (Way Gd IsWay ltP Ps Let Nbs)
abbrev eGr : Int × Int × List Way → PyData := e3 eI eI (eL eW)
theorem enc_Gr : EncOk eGr 3 := enc_trip (enc_int.mono (by decide)) (enc_int.mono (by decide)) (enc_lst enc_W)
structure Grp (lets : List Let) (ws : List (Int × Int × List Way)) : Prop where
  len : ws.length ≤ lets.length
  ne : lets ≠ [] → ws ≠ []
  mem : ∀ x ∈ ws, ∃ l ∈ lets, l.1 = x.1 ∧ l.2.1 = x.2.1
section
variable {P : Program} {w : World} {K : PySem.W.Frag} {mg : Str → Option Value} {base : Heap}
theorem sc_grouped : FnScope ["letters", "found", "sender", "reader", "way"] ["letters"] (defScope s_grouped) := ⟨rfl, rfl, rfl, by decide +kernel, rfl, by decide +kernel, by decide +kernel⟩
def S_grouped (P : Program) (w : World) (K : PySem.W.Frag) : Sp := fun vs H Q _ => ∃ x lets, vs = [x] ∧ Im K H x (eL eLt lets) ∧ lets.length ≤ 999999 ∧ ∀ ws p H', Grp lets ws → Same H H' → H p = none → Im K H' (.ref p) (eL eGr ws) → Q (.ref p) H'
theorem w_grouped (B : Bi mg) (D : Df K mg "grouped" s_grouped) : Has P w K mg base 1 "grouped" ["letters"] (S_grouped P w K) := by
  refine D.has sc_grouped (fun vs H Q E h => ?_) (fun _ _ _ _ _ _ us hl => match us, hl with | [_], _ => rfl) (fun f cdv A outer s H vs Q E hr h => ?_)
  rotate_left
  have nd := sc_grouped.nd
  have hu := hr.units
  have hu0 := hr.units0
  have hu1 := hu_of hr
  refine ⟨_, (pss_cons (ps_set (i := 1) nd rfl (Or.inr rfl) pe_newN) (pss_cons (ps_for (passes_of rfl) rfl (pi_seq (pv 0)) (pg_tup (by rfl) (pgs_cons (pg_name (i := 2) nd rfl (Or.inl rfl)) (pgs_cons (pg_name (i := 3) nd rfl (Or.inl rfl)) (pgs_cons (pg_name (i := 4) nd rfl (Or.inl rfl)) pgs_nil)))) (pss_one (ps_expr (pe_bm PySem.F.plainAttrs_list PySem.F.slot_list_append PySem.F.type_list_append mt_appD (pe_nm PySem.F.slot_dict_setdefault PySem.F.type_dict_setdefault (mt_setdN hu) (pv 1) (pa_cons (pe_tupD (pa_cons (pv 2) (pa_cons (pv 3) pa_nil))) (pa_cons (pe_lstD pa_nil) pa_nil))) (pa_cons (pv 4) pa_nil))))) (pss_one (ps_ret (pe_lc (g := (gTup K 2 (gCons (gName 2) (gCons (gName 3) gNil)))) (tt := tYes) (te := (tMadeT (tCons (tVar 2) (tCons (tVar 3) (tCons (tOp (rIxN P w K) (tVar 1) (tDispT K (tCons (tVar 2) (tCons (tVar 3) tNil)))) tNil))))) rfl nd (pi_seq (pe_callB (call_sortN rfl hu) (by rfl) B.sorted (by decide +kernel) (pa_cons (pv 1) pa_nil))) (blkOk_by (own := [("sender", 2), ("reader", 3)]) (by rfl)) (fun _ _ _ _ _ => (pg_tup (by rfl) (pgs_cons (pg_name (i := 2) nd rfl (Or.inl rfl)) (pgs_cons (pg_name (i := 3) nd rfl (Or.inl rfl)) pgs_nil)))) (fun _ _ _ _ _ => pts_nil) (fun _ _ _ _ _ => (pe_tupM (pa_cons (pv 2) (pa_cons (pv 3) (pa_cons (pe_ix (ix_N hu) (pv 1) (pe_tupD (pa_cons (pv 2) (pa_cons (pv 3) pa_nil))) (fun _ _ => rfl)) pa_nil)))))))))), ?_⟩
  rotate_left
  · obtain ⟨_, _, rfl, _⟩ := h
    rfl
  · obtain ⟨x, lets, rfl, hx, hl, q⟩ := h
    intro F fF
    have sF : Same H (upd H F (dN P w F [] 0)) := Same.new fF
    refine ⟨_, rfl, for_LT (hx.same sF) (fun i σ' H' => ∃ (ks : List (Int × Int)) (f : Int × Int → List Way) (as : Int × Int → Addr) (y1 y2 y3 : Option V), σ' = [some x, some (.ref F), y1, y2, y3] ∧ Same H H' ∧ TK (upd H F (dN P w F [] 0)) H' ∧ DL P w K eRd H' F [] ks (fun k => (f k).map eW) as ∧ (∀ k ∈ ks, H (as k) = none) ∧ (∀ k, k ∈ ks ↔ ∃ l ∈ lets.take i, (l.1, l.2.1) = k) ∧ ks.length ≤ i ∧ ∀ k ∈ ks, (f k).length ≤ i)
      ⟨[], fun _ => [], fun _ => 0, none, none, none, rfl, sF, TK.refl, DL.new, fun _ h => (nomatch h), fun k => by simp, Nat.zero_le _, fun _ h => (nomatch h)⟩ (fun i σ' H' p a e => ?_) (fun i l v σ' H' hli hv pv => ?_) (fun σ' H' pv => ?_)⟩
    · obtain ⟨_, _, _, _, _, _, _, sH, _⟩ := p
      exact same_two hx sF sH a e
    · obtain ⟨ks, f, as, y1, y2, y3, rfl, sH, tk, dl, hfr, hks, hkl, hfl⟩ := pv
      obtain ⟨T, xs, rfl, hq, him⟩ := (hv.tk tk (flat_Lt l)).tup_inv
      obtain ⟨x1, r1, rfl, j1, him⟩ := ImAll.uncons him
      obtain ⟨x2, r2, rfl, j2, him⟩ := ImAll.uncons him
      obtain ⟨x3, r3, rfl, j3, him⟩ := ImAll.uncons him
      cases him
      cases j1; cases j2
      refine ⟨_, _, rfl, hq, rfl, _, _, rfl, _, _, rfl, _, _, rfl, rfl, ?_⟩
      obtain ⟨kxs, kep, kg, _⟩ := id dl.dn
      have hi := (List.getElem?_eq_some_iff.mp hli).1
      have htake : ∀ c : Int × Int, (∃ l' ∈ lets.take (i + 1), (l'.1, l'.2.1) = c) ↔ c ∈ ks ∨ c = (l.1, l.2.1) := fun c => by
        rw [take_snoc hli, hks c]
        constructor
        · rintro ⟨l', hl', e⟩
          rcases List.mem_append.mp hl' with z | z
          · exact .inl ⟨l', z, e⟩
          · rw [List.mem_singleton.mp z] at e; exact .inr e.symm
        · rintro (⟨l', hl', e⟩ | e)
          · exact ⟨l', List.mem_append_left _ hl', e⟩
          · exact ⟨l, by simp, e.symm⟩
      refine ⟨_, rfl, ⟨F, kxs, kep, rfl, kg⟩, _, rfl, _, rfl, by show (2 : Nat) ≤ 1000; decide, _, .cons (.int _) (.cons (.int _) .nil), fun p2 H2 s2 f2 i2 => ⟨Nat.zero_le _, [], .nil, fun b H3 s3 f3 i3 => ?_⟩⟩
      have s23 := s2.trans s3
      have dl3 := dl.same s23
      refine ⟨_, inferInstance, eRd, (l.1, l.2.1), F, kvr ks as, _, _, key_Rd, rfl, rfl, dl3.dn, i2.same s3, by rw [dl3.len, sizeLine_eq]; omega, fun v' hv' => ?_, fun hnone H4 k4 t4 d4 => ?_⟩
      · have hk : (l.1, l.2.1) ∈ ks := Classical.byContradiction fun c => by rw [dget_none (by rw [kvr_keys]; exact c)] at hv'; cases hv'
        rw [kvr_get hk] at hv'
        cases hv'
        have lk := dl3.ls hk
        have hfl' := hfl _ hk
        refine ⟨lk.ty, _, rfl, as (l.1, l.2.1), (f (l.1, l.2.1)).map eW, _, eW l.2.2, rfl, rfl, lk, j3.same s23, ?_, by rw [List.length_map]; omega, fun H5 c5 => ?_⟩
        · rw [show (f (l.1, l.2.1)).map eW ++ [eW l.2.2] = (f (l.1, l.2.1) ++ [l.2.2]).map eW by simp]
          exact flatAll_map flat_W _
        · rw [show (f (l.1, l.2.1)).map eW ++ [eW l.2.2] = (f (l.1, l.2.1) ++ [l.2.2]).map eW by simp] at c5
          have dl5 := dl3.chg key_Rd hk (flatAll_map flat_W _) c5
          refine ⟨ks, fun c => if c = (l.1, l.2.1) then f (l.1, l.2.1) ++ [l.2.2] else f c, as, _, _, _, rfl, same_kp1 (sH.trans s23) c5.1 (hfr _ hk), (tk.trans s23.tk).trans c5.2.1, ?_, hfr, fun c => ?_, by omega, fun c hc => ?_⟩
          · have e : (fun c => ((if c = (l.1, l.2.1) then f (l.1, l.2.1) ++ [l.2.2] else f c) : List Way).map eW) = fun c => if c = (l.1, l.2.1) then (f (l.1, l.2.1) ++ [l.2.2]).map eW else (f c).map eW := funext fun c => by split <;> rfl
            rw [e]; exact dl5
          · rw [htake c]
            exact ⟨.inl, fun z => z.elim id fun e => by rw [e]; exact hk⟩
          · by_cases c' : c = (l.1, l.2.1)
            · simp only [if_pos c', List.length_append, List.length_singleton]; omega
            · simp only [if_neg c']; have := hfl c hc; omega
      · have hk : (l.1, l.2.1) ∉ ks := fun c => by rw [kvr_get c] at hnone; cases hnone
        have hbF : b ≠ F := fun e => (dl.same s2).dn.ne_none (by rw [← e]; exact f3)
        have hbn : H b = none := none_back (sH.trans s2) f3
        have dl4 := dl3.put hk i3.ls (by simp [flatAll]) (by simp) (fun c hc e => ((dl.ls hc).same s2).ne_none (by rw [e]; exact f3)) hbF k4 t4 d4
        have hkm : (l.1, l.2.1) ∈ ks ++ [(l.1, l.2.1)] := by simp
        have lk := dl4.ls hkm
        have hz : (fun c => if c = (l.1, l.2.1) then b else as c) (l.1, l.2.1) = b := by simp
        have lb : Ls K H4 b [] := i3.ls.kp k4 t4 (by simp [flatAll]) (by simpa using hbF)
        refine ⟨lb.ty, _, rfl, b, [], _, eW l.2.2, rfl, rfl, lb, (j3.same s23).tk t4 (flat_W _), by simp [flatAll, flat_W], by show (0 : Nat) < _; decide, fun H5 c5 => ?_⟩
        have c5' : Ch K ((fun c => if c = (l.1, l.2.1) then b else as c) (l.1, l.2.1)) ([l.2.2].map eW) H4 H5 := by rw [hz]; exact c5
        have dl5 := dl4.chg key_Rd hkm (flatAll_map flat_W _) c5'
        refine ⟨ks ++ [(l.1, l.2.1)], fun c => if c = (l.1, l.2.1) then [l.2.2] else f c, fun c => if c = (l.1, l.2.1) then b else as c, _, _, _, rfl, ?_, ((tk.trans s23.tk).trans t4).trans c5.2.1, ?_, fun c hc => ?_, fun c => ?_, by rw [List.length_append, List.length_singleton]; omega, fun c hc => ?_⟩
        · exact same_kp1 (same_kp1 (sH.trans s23) k4 fF) c5.1 hbn
        · have e : (fun c => ((if c = (l.1, l.2.1) then [l.2.2] else f c) : List Way).map eW) = fun c => if c = (l.1, l.2.1) then [l.2.2].map eW else if c = (l.1, l.2.1) then [] else (f c).map eW := funext fun c => by split <;> rfl
          rw [e]; exact dl5
        · by_cases c' : c = (l.1, l.2.1)
          · simp only [if_pos c']; exact hbn
          · simp only [if_neg c']
            refine hfr c ((List.mem_append.mp hc).resolve_right fun z => c' (List.mem_singleton.mp z))
        · rw [htake c, List.mem_append, List.mem_singleton]
        · by_cases c' : c = (l.1, l.2.1)
          · simp only [if_pos c', List.length_singleton]; omega
          · simp only [if_neg c']
            have := hfl c ((List.mem_append.mp hc).resolve_right fun z => c' (List.mem_singleton.mp z))
            omega
    · obtain ⟨ks, f, as, y1, y2, y3, rfl, sH, tk, dl, hfr, hks, hkl, hfl⟩ := pv
      rw [List.take_length] at hks
      refine ⟨_, rfl, _, inferInstance, eRd, F, kvr ks as, key_Rd, rfl, dl.dn, fun k _ => ⟨_, _, rfl⟩, fun p2 H2 s2 f2 i2 => ?_⟩
      rw [kvr_keys] at i2
      have hsm : ∀ k, k ∈ srt eRd ks ↔ k ∈ ks := fun k => (srt_perm (e := eRd) _).mem_iff
      have hsl : (srt eRd ks).length = ks.length := (srt_perm _).length_eq
      refine lc_TN (.inr i2) (small_line (by omega)) (fun k => some (eGr (k.1, k.2, f k))) (fun D k y H3 QT QF hk s3 hN hN3 hy kT kF => ?_) (fun p3 H3 s3 f3 i3 => ?_)
      · have hk := (hsm k).mp hk
        obtain ⟨T, xs, rfl, hq, him⟩ := (hy.same s3).tup_inv
        obtain ⟨x1, r1, rfl, j1, him⟩ := ImAll.uncons him
        obtain ⟨x2, r2, rfl, j2, him⟩ := ImAll.uncons him
        cases him
        cases j1; cases j2
        refine ⟨_, _, rfl, hq, rfl, _, _, rfl, _, _, rfl, rfl, rfl, ?_⟩
        have dl3 := dl.same (s2.trans s3)
        refine ⟨_, rfl, _, rfl, _, rfl, _, rfl, _, rfl, by show (2 : Nat) ≤ 1000; decide, _, .cons (.int _) (.cons (.int _) .nil), fun p4 H4 s4 f4 i4 => ?_⟩
        refine ⟨_, inferInstance, eRd, k, F, kvr ks as, _, key_Rd, rfl, (dl3.same s4).dn, i4, kvr_get hk, by show (3 : Nat) ≤ 1000; decide, fun p5 o H5 s5 f5 g5 ho => ?_⟩
        refine kT _ _ _ rfl (s4.trans s5) fun H6 k6 t6 => .tup (t6 _ _ _ g5) ho (.cons (.int _) (.cons (.int _) (.cons ?_ .nil)))
        have l5 := (dl3.same (s4.trans s5)).ls hk
        have hD : as k ≠ D := fun e => (dl.same s2).ls hk |>.ne_none (by rw [e]; exact hN)
        exact (l5.kp k6 t6 (flatAll_map flat_W _) (by simpa using hD)).im
      · rw [List.filterMap_eq_map'] at i3
        have i3 : Im K H3 (.ref p3) (eL eGr ((srt eRd ks).map fun k => (k.1, k.2, f k))) := by unfold eL; rw [List.map_map]; exact i3
        refine q _ p3 H3 ⟨by rw [List.length_map, hsl]; exact hkl, fun hne => ?_, fun z hz => ?_⟩ ((sH.trans s2).trans s3) (none_back (sH.trans s2) f3) i3
        · obtain ⟨l0, hl0⟩ := List.exists_mem_of_ne_nil _ hne
          have hm := (hsm _).mpr ((hks (l0.1, l0.2.1)).mpr ⟨l0, hl0, rfl⟩)
          intro c
          have hin : (l0.1, l0.2.1, f (l0.1, l0.2.1)) ∈ (srt eRd ks).map fun k => (k.1, k.2, f k) := List.mem_map.mpr ⟨_, hm, rfl⟩
          rw [c] at hin
          cases hin
        · obtain ⟨k, hk, rfl⟩ := List.mem_map.mp hz
          obtain ⟨l0, hl0, e⟩ := (hks k).mp ((hsm k).mp hk)
          exact ⟨l0, hl0, by rw [← e], by rw [← e]⟩
end
end Lw
end
section
set_option Elab.async false
set_option linter.all false
set_option maxRecDepth 100000
set_option maxHeartbeats 2000000
/-! Methods of the class. -/
namespace Lw
open PySem PySem.Spec PyProof.Rows L2
def DfM (K : PySem.W.Frag) (C : Addr) (m q : Str) (st : Stmt) : Prop := ∃ f fd, Meth K C m f ∧ FunD K m q (defArgs st) (defBody st) (defScope st) [] [] f fd
def PHas (P : Program) (w : World) (K : PySem.W.Frag) (mg : Str → Option Value) (base : Heap) (n : Nat) (C : Addr) (m : Str) (ps : List Str) (sp : Sp) : Prop :=
  ∃ f fd, Meth K C m f ∧ Binds K fd ps [] ∧ FnOk P w K mg base CX0 n f fd ps sp
section
variable {X : Cx}
theorem pe_own {n k : Nat} {C : Addr} {m : Str} {ps : List Str} {sp : Sp} {o e : Expr} {es : List Expr} {ta : TE} {t : TA} {apos pos : Pos} {pl : Sem Bool} (h : PHas X.prog X.w X.K X.mg X.base n C m ps sp) (c : Cls X.K C) (hr : Room k X.A) (hn : n ≤ k) (he : PE X o ta) (ha : PA X (e :: es) t)
    (hst : starEach (e :: es) X.env = (false, eval e X.env) :: starEach es X.env := by rfl) (hpl : (backTo pos (starEach es X.env)).any (·.1) = false := by rfl)
    (ht : eval (.Call (.Attribute o m apos) (e :: es) [] pos) X.env = (do
      let ov ← eval o X.env
      standAt apos.atName
      let (f, first) ← holding [ov] (getMethod ov m pl)
      callWith pos f first (backTo pos (starEach (e :: es) X.env)) (backToKw pos (keywordEach [] X.env))) := by rfl) :
    PE X (.Call (.Attribute o m apos) (e :: es) [] pos) (tMeth C m sp [] E0 ta t) := by
  obtain ⟨f, fd, h1, h2, h3⟩ := h
  exact pe_meth he c h1 h3 (hr.mono hn) h2 .nil pass0 ha hst hpl ht
theorem pe_own0 {n k : Nat} {C : Addr} {m : Str} {ps : List Str} {sp : Sp} {o : Expr} {ta : TE} {apos pos : Pos} {pl : Sem Bool} (h : PHas X.prog X.w X.K X.mg X.base n C m ps sp) (c : Cls X.K C) (hr : Room k X.A) (hn : n ≤ k) (he : PE X o ta)
    (ht : eval (.Call (.Attribute o m apos) [] [] pos) X.env = (do
      let ov ← eval o X.env
      standAt apos.atName
      let (f, first) ← holding [ov] (getMethod ov m pl)
      callWith pos f first (backTo pos (starEach [] X.env)) (backToKw pos (keywordEach [] X.env))) := by rfl) :
    PE X (.Call (.Attribute o m apos) [] [] pos) (tMeth C m sp [] E0 ta tNil) := by
  obtain ⟨f, fd, h1, h2, h3⟩ := h
  exact pe_meth0 he c h1 h3 (hr.mono hn) h2 .nil pass0 ht
end
section
variable {P : Program} {w : World} {K : PySem.W.Frag} {mg : Str → Option Value} {base : Heap}
theorem DfM.has {C : Addr} {m q : Str} {st : Stmt} {N ps : List Str} {k : Nat} {sp : Sp} (D : DfM K C m q st) (S : FnScope N ps (defScope st)) (len : ∀ vs H Q E, sp vs H Q E → vs.length = ps.length)
    (hb : ∀ (kV doc pm : Value) (an : Option Addr) (cdv ct : Value) (us : List Value), us.length = ps.length → bindArgs (PySem.W.fnOf m q (defArgs st) (defBody st) (defScope st) .none kV doc pm an cdv ct) ⟨us, []⟩ = pure (ps.zip us))
    (body : ∀ (f : Addr) (cdv : Value) (A : Around) (outer : List Env) (s : Shared) (H : Hp) (vs : List V) (Q : VK) (E : XK), Room k (A.deeper (envOfC q (defScope st) s.heap.objs.size f cdv)) → sp vs H Q E →
      ∃ t, PSs (cxOf CX0 P w K mg base N q (defScope st) f cdv A outer s H E) (defBody st) t ∧ t { nx := fun _ H' => Q .non H', rt := Q } (start N vs) H) : PHas P w K mg base (k + 1) C m ps sp := by
  obtain ⟨f, fd, h1, F⟩ := D
  exact ⟨f, fd, h1, F.bindsN hb, F.ok S len (body f)⟩
end
end Lw
end
section
set_option Elab.async false
set_option linter.all false
set_option maxRecDepth 100000
set_option maxHeartbeats 2000000
/-! The class itself: what of its text is asked; making one. -/
namespace Lw
open PySem PySem.Spec PyProof.Rows L2
/-- what the head says of the class at C -/
structure Cl (K : PySem.W.Frag) (mg : Str → Option Value) (C : Addr) : Prop where
  cls : Cls K C
  glo : mg "Post" = some (.ref C)
  houses : NoAttr K C "houses"
  roads : NoAttr K C "roads"
  now : NoAttr K C "now"
  past : NoAttr K C "past"
  undone : NoAttr K C "undone"
  pages : NoAttr K C "pages"
  deep : NoAttr K C "deep"
  cl1 : PySem.W.findIn K (.ref C) "__class__" = some (some (.builtin "object.__class__"))
  cl2 : PySem.W.specialIn K (.builtin "object.__class__") "__get__" = some (some (.builtin "getset_descriptor.__get__"))
  cl3 : PySem.W.takesIn K (.builtin "object.__class__") = some true
  cl4 : PySem.W.mroIn K C (.type "object") = some true
def DfI (K : PySem.W.Frag) (mg : Str → Option Value) (C : Addr) (st : Stmt) (kws : List (Str × V)) : Prop := ∃ f fd, mg "Post" = some (.ref C) ∧ Mk K C f ∧ FunD K "__init__" "Post.__init__" (defArgs st) (defBody st) (defScope st) [] kws f fd
def HasI (P : Program) (w : World) (K : PySem.W.Frag) (mg : Str → Option Value) (base : Heap) (n : Nat) (C : Addr) (ps : List Str) (dvs : List V) (sp : Sp) : Prop :=
  ∃ f fd ds, mg "Post" = some (.ref C) ∧ Mk K C f ∧ Vals dvs ds ∧ Binds K fd ps ds ∧ FnOk P w K mg base CX0 n f fd ps sp
section
variable {X : Cx}
theorem pe_post {n k : Nat} {C : Addr} {ps : List Str} {dvs : List V} {sp : Sp} {e : Expr} {es : List Expr} {t : TA} {p pos : Pos} (h : HasI X.prog X.w X.K X.mg X.base n C ps dvs sp) (hr : Room k X.A) (hn : n + 1 ≤ k) (ha : PA X (e :: es) t) (hg : Gl X "Post" := by rfl)
    (he : starEach (e :: es) X.env = (false, eval e X.env) :: starEach es X.env := by rfl) (hpl : (backTo pos (starEach es X.env)).any (·.1) = false := by rfl) :
    PE X (.Call (.Name "Post" p) (e :: es) [] pos) (tMake C sp dvs E0 t) := by
  obtain ⟨f, fd, ds, h1, h2, hv, h3, h4⟩ := h
  exact pe_make h2 h4 (hr.mono hn) hg h1 h3 hv pass0 ha (by decide) he hpl
end
section
variable {P : Program} {w : World} {K : PySem.W.Frag} {mg : Str → Option Value} {base : Heap}
theorem DfI.has {C : Addr} {st : Stmt} {N ps : List Str} {k m : Nat} {sp : Sp} {kws : List (Str × V)} (D : DfI K mg C st kws) (S : FnScope N ps (defScope st)) (hk : kws ≠ []) (hm : m + kws.length = ps.length) (len : ∀ vs H Q E, sp vs H Q E → vs.length = ps.length)
    (hb : ∀ (D : Addr) (doc pm : Value) (an : Option Addr) (cdv ct : Value) (us ks : List Value), us.length = m → ks.length = kws.length → KwChain D ((kws.map (·.1)).zip ks) (bindArgs (PySem.W.fnOf "__init__" "Post.__init__" (defArgs st) (defBody st) (defScope st) .none (.ref D) doc pm an cdv ct) ⟨us, []⟩) (ps.zip (us ++ ks)))
    (body : ∀ (f : Addr) (cdv : Value) (A : Around) (outer : List Env) (s : Shared) (H : Hp) (vs : List V) (Q : VK) (E : XK), Room k (A.deeper (envOfC "Post.__init__" (defScope st) s.heap.objs.size f cdv)) → sp vs H Q E →
      ∃ t, PSs (cxOf CX0 P w K mg base N "Post.__init__" (defScope st) f cdv A outer s H E) (defBody st) t ∧ t { nx := fun _ H' => Q .non H', rt := Q } (start N vs) H) : HasI P w K mg base (k + 1) C ps (kws.map (·.2)) sp := by
  obtain ⟨f, fd, h1, h2, F⟩ := D
  obtain ⟨ds, hv, hB⟩ := F.binds0 m hk hm hb
  exact ⟨f, fd, ds, h1, h2, hv, hB, F.ok S len (body f)⟩
end
end Lw
end
section
set_option Elab.async false
set_option linter.all false
set_option maxRecDepth 100000
set_option maxHeartbeats 2000000
/-! The post: its methods. -/
namespace Lw
open PySem PySem.Spec PyProof.Rows L2
open Lk (Way Gd IsWay ltP Ps Let Nbs)
/-- tuple + tuple, whatever stands in them -/
def rCatR (K : PySem.W.Frag) : R2 := fun x y H Q => ∃ a b xs ys, x = .ref a ∧ y = .ref b ∧ SqT K H a xs ∧ SqT K H b ys ∧ xs.length + ys.length ≤ 2000000 ∧ ∀ q H', Same H H' → SqT K H' q (xs ++ ys) → Q (.ref q) H'
theorem op_catR {X : Cx} : OpR X (binaryOp .Add) (rCatR X.K) := fun pins s σ H x y v u Q I rx ry h => by
  obtain ⟨a, b, xs, ys, rfl, rfl, h1, h2, hl, q⟩ := h
  refine op_catA pins s σ H _ _ v u Q I rx ry ⟨a, b, xs, ys, rfl, rfl, h1, h2, by rw [sizeLine_eq]; omega, fun e => ?_, fun _ e => ?_, fun _ _ p hp => ?_⟩
  · subst e; exact q b H (Same.refl H) h2
  · subst e; rw [List.append_nil] at q; exact q a H (Same.refl H) h1
  · exact q p _ (Same.new hp) (.inl (.inl upd_same))
theorem sqt_kpi {K : PySem.W.Frag} {H H' : Hp} {pa b C dx : Addr} {fs : List (Str × V)} {xs : List V} (h : SqT K H pa xs) (hb : H b = some (.ins C dx fs)) (k : Kp [b] H H') : SqT K H' pa xs := by
  rcases h with (h | ⟨o, h⟩) | h
  · exact .inl (.inl (k _ _ (fun c => by rw [List.mem_singleton.mp c, hb] at h; cases h) h))
  · exact .inl (.inr ⟨o, k _ _ (fun c => by rw [List.mem_singleton.mp c, hb] at h; cases h) h⟩)
  · exact .inr h
theorem flat_G (g : Gd) : flat (eG g) = true := by
  have h1 : flat (eRs g.roads) = true := flat_tup flat_Rd g.roads
  have h2 : flat (eT eWs g.likes) = true := flat_tup flat_Ws g.likes
  unfold eG
  simp [flat, flatAll, h1, h2]
theorem TK.ins {H : Hp} {a C dx : Addr} {fs : List (Str × V)} {o : HO} (h : H a = some (.ins C dx fs)) : TK H (L2.upd H a o) := TK.upd h (fun _ _ q => nomatch q)
/-- its attributes -/
def pfs (m : Int) (vr : V) (d pa : Addr) (vu vg vd : V) : List (Str × V) := [("houses", .int m), ("roads", vr), ("now", .ref d), ("past", .ref pa), ("undone", vu), ("pages", vg), ("deep", vd)]
section
variable {m : Int} {vr : V} {d pa : Addr} {vu vg vd : V}
theorem pfs_past (q : Addr) : putF "past" (.ref q) (pfs m vr d pa vu vg vd) = pfs m vr d q vu vg vd := rfl
theorem pfs_now (q : Addr) : putF "now" (.ref q) (pfs m vr d pa vu vg vd) = pfs m vr q pa vu vg vd := rfl
theorem pfs_undone (q : V) : putF "undone" q (pfs m vr d pa vu vg vd) = pfs m vr d pa q vg vd := rfl
theorem l_houses : (pfs m vr d pa vu vg vd).lookup ("houses" : Str) = some (.int m) := rfl
theorem l_roads : (pfs m vr d pa vu vg vd).lookup ("roads" : Str) = some vr := rfl
theorem l_now : (pfs m vr d pa vu vg vd).lookup ("now" : Str) = some (.ref d) := rfl
theorem l_past : (pfs m vr d pa vu vg vd).lookup ("past" : Str) = some (.ref pa) := rfl
theorem pfs_len : (pfs m vr d pa vu vg vd).length < 1000 := by show (7 : Nat) < 1000; decide
end
/-- a post at a: its guild, its holding's places, its state, how many holdings are past -/
structure PostB (P : Program) (w : World) (K : PySem.W.Frag) (C : Addr) (H : Hp) (g : Gd) (a : Addr) (A : Hla) (p : Ps) (n : Nat) : Prop where
  ins : ∃ dx vr pa vu vg vd xs, H a = some (.ins C dx (pfs g.many vr A.d pa vu vg vd)) ∧ Im K H vr (eRs g.roads) ∧ SqT K H pa xs ∧ xs.length ≤ n
  hol : HolB P w K H g A p
section
variable {P : Program} {w : World} {K : PySem.W.Frag} {H H' : Hp} {g : Gd} {A : Hla} {p : Ps} {C a b dx : Addr} {fs : List (Str × V)} {n : Nat}
theorem HolB.nins (h : HolB P w K H g A p) (hb : H b = some (.ins C dx fs)) : A.d ∉ [b] ∧ A.B ∉ [b] ∧ A.W ∉ [b] ∧ A.H ∉ [b] ∧ A.Q ∉ [b] := by
  obtain ⟨kvs, ⟨xs, ep, h3, _⟩, _⟩ := h.hrd.dn
  have h0 := h.dict
  obtain ⟨xB, h1, _⟩ := h.brk
  obtain ⟨xW, h2, _⟩ := h.way
  obtain ⟨xQ, h4, _⟩ := h.let_
  refine ⟨fun c => ?_, fun c => ?_, fun c => ?_, fun c => ?_, fun c => ?_⟩ <;> have c := List.mem_singleton.mp c
  · rw [c, hb] at h0; cases h0
  · rw [c, hb] at h1; cases h1
  · rw [c, hb] at h2; cases h2
  · rw [c, hb] at h3; cases h3
  · rw [c, hb] at h4; cases h4
theorem HolB.kpi (h : HolB P w K H g A p) (hb : H b = some (.ins C dx fs)) (k : Kp [b] H H') (t : TK H H') : HolB P w K H' g A p :=
  let ⟨n1, n2, n3, n4, n5⟩ := h.nins hb
  h.kp k t n1 n2 n3 n4 n5
theorem PostB.same (h : PostB P w K C H g a A p n) (s : Same H H') : PostB P w K C H' g a A p n := by
  obtain ⟨dx, vr, pa, vu, vg, vd, xs, h1, h2, h3, h4⟩ := h.ins
  exact ⟨⟨dx, vr, pa, vu, vg, vd, xs, s _ _ h1, h2.same s, SqT.ext h3 s, h4⟩, h.hol.same s⟩
/-- another post changes -/
theorem PostB.kpi {C' : Addr} (h : PostB P w K C H g a A p n) (hb : H b = some (.ins C' dx fs)) (ne : a ≠ b) (k : Kp [b] H H') (t : TK H H') : PostB P w K C H' g a A p n := by
  obtain ⟨dx, vr, pa, vu, vg, vd, xs, h1, h2, h3, h4⟩ := h.ins
  exact ⟨⟨dx, vr, pa, vu, vg, vd, xs, k _ _ (by simpa using ne) h1, h2.tk t (flat_tup flat_Rd _), sqt_kpi h3 hb k, h4⟩, h.hol.kpi hb k t⟩
end
section
variable {P : Program} {w : World} {K : PySem.W.Frag} {mg : Str → Option Value} {base : Heap} {CP : Addr}
theorem sc_roads_of : FnScope ["many", "roads", "told", "found", "pair"] ["many", "roads", "told"] (defScope s_roads_of) := ⟨rfl, rfl, rfl, by decide +kernel, rfl, by decide +kernel, by decide +kernel⟩
def S_roads_of (P : Program) (w : World) (K : PySem.W.Frag) : Sp := fun vs H Q _ => ∃ v1 v2 v3, vs = [v1, v2, v3] ∧ Im K H v3 (.tuple []) ∧ ∀ p H', Same H H' → H p = none → Im K H' (.ref p) (.list []) → Q (.ref p) H'
theorem w_roads_of (B : Bi mg) (D : Df K mg "roads_of" s_roads_of) : Has P w K mg base 1 "roads_of" ["many", "roads", "told"] (S_roads_of P w K) := by
  refine D.has sc_roads_of (fun vs H Q E h => ?_) (fun _ _ _ _ _ _ us hl => match us, hl with | [_, _, _], _ => rfl) (fun f cdv A outer s H vs Q E hr h => ?_)
  rotate_left
  have nd := sc_roads_of.nd
  have hu := hr.units
  have hu0 := hr.units0
  have hu1 := hu_of hr
  refine ⟨_, (pss_cons (ps_if (pt_not (pt_val (pe_callB call_isiD (by rfl) B.isinstance (by decide +kernel) (pa_cons (pv 2) (pa_cons (pe_bltn (by rfl) B.tuple (by decide +kernel) (show RelV (.ty "tuple") (.type "tuple") from rfl)) pa_nil))))) (pss_one ps_never) pss_nil) (pss_cons (ps_set (i := 3) nd rfl (Or.inl rfl) pe_newN) (pss_cons (ps_for (passes_of rfl) rfl (pi_seq (pv 2)) (pg_name (i := 4) nd rfl (Or.inl rfl)) pss_never) (pss_one (ps_ret (pe_callTy (call_listN rfl) (by rfl) B.list (by decide +kernel) (pa_cons (pv 3) pa_nil))))))), ?_⟩
  rotate_left
  · obtain ⟨_, _, _, rfl, _⟩ := h
    rfl
  · obtain ⟨v1, v2, v3, rfl, h3, q⟩ := h
    refine ⟨_, rfl, _, "tuple", _, rfl, h3, .inr (.inr rfl), .inr ⟨_, rfl⟩, _, rfl, ifF rfl ?_⟩
    intro F fF
    have s0 : Same H (upd H F (dN P w F [] 0)) := Same.new fF
    refine ⟨_, rfl, for_tupD (h3.same s0) (fun i σ' H' => (∃ x, σ' = [some v1, some v2, some v3, some (.ref F), x]) ∧ Same (upd H F (dN P w F [] 0)) H') ⟨⟨none, rfl⟩, Same.refl _⟩ (fun i σ' H' p => p.2.tk) (fun i d v σ' H' hd hv p => ?_) (fun σ' H' p => ?_)⟩
    · simp at hd
    · obtain ⟨⟨x, rfl⟩, s1⟩ := p
      have dn : DN P w eRd K H' F ([] : List ((Int × Int) × V)) := DN.new.same s1
      refine ⟨_, rfl, _, inferInstance, eRd, F, [], key_Rd, rfl, dn, fun p2 H2 s2 f2 i2 => q p2 H2 ((s0.trans s1).trans s2) (none_back (s0.trans s1) f2) ?_⟩
      exact i2
end
end Lw
end
section
set_option Elab.async false
set_option linter.all false
set_option maxRecDepth 100000
set_option maxHeartbeats 2000000
/-! The post: made; taken; told. -/
namespace Lw
open PySem PySem.Spec PyProof.Rows L2
open Lk (Way Gd IsWay ltP Ps Let Nbs)
section
variable {P : Program} {w : World} {K : PySem.W.Frag} {mg : Str → Option Value} {base : Heap} {CP : Addr}
theorem sc_P_taken : FnScope ["self", "holding"] ["self", "holding"] (defScope s_Post_taken) := ⟨rfl, rfl, rfl, by decide +kernel, rfl, by decide +kernel, by decide +kernel⟩
def S_P_taken (P : Program) (w : World) (K : PySem.W.Frag) (C : Addr) : Sp := fun vs H Q _ => ∃ a g A p n g' A' p', vs = [.ref a, .ref A'.d] ∧ PostB P w K C H g a A p n ∧ g'.many = g.many ∧ g'.roads = g.roads ∧ HolB P w K H g' A' p' ∧ n < 1000000 ∧
  ∀ H', Kp [a] H H' → TK H H' → PostB P w K C H' g' a A' p' (n + 1) → Q .non H'
theorem w_P_taken (B : Bi mg) (Cc : Cl K mg CP) (D : DfM K CP "taken" "Post.taken" s_Post_taken) : PHas P w K mg base 1 CP "taken" ["self", "holding"] (S_P_taken P w K CP) := by
  refine D.has sc_P_taken (fun vs H Q E h => ?_) (fun _ _ _ _ _ _ us hl => match us, hl with | [_, _], _ => rfl) (fun f cdv A outer s H vs Q E hr h => ?_)
  rotate_left
  have nd := sc_P_taken.nd
  have hu := hr.units
  have hu0 := hr.units0
  have hu1 := hu_of hr
  refine ⟨_, (pss_cons (ps_fld (pv 0) (pe_op op_catR (pe_fld (pv 0) rfl) (pe_tupM (pa_cons (pe_fld (pv 0) rfl) pa_nil))) rfl) (pss_cons (ps_fld (pv 0) (pv 1) rfl) (pss_one (ps_fld (pv 0) (pe_tupD pa_nil) rfl)))), ?_⟩
  rotate_left
  · obtain ⟨_, _, _, _, _, _, _, _, rfl, _⟩ := h
    rfl
  · obtain ⟨a, g, A, p, n, g', A', p', rfl, pb, hm, hrd, hol, hn, q⟩ := h
    obtain ⟨dx, vr, pa, vu, vg, vd, xs, hI, hvr, hpa, hxs⟩ := pb.ins
    refine ⟨_, rfl, a, CP, dx, _, _, rfl, hI, Cc.cls, Cc.past, l_past, _, rfl, a, CP, dx, _, _, rfl, hI, Cc.cls, Cc.now, l_now, by show (1 : Nat) ≤ 1000; decide, fun T o H1 s1 f1 gT ho => ?_⟩
    refine ⟨pa, T, xs, [.ref A.d], rfl, rfl, SqT.ext hpa s1, .inl (.inr ⟨o, gT⟩), by show xs.length + 1 ≤ _; omega, fun q2 H2 s2 hq2 => ?_⟩
    have s12 := s1.trans s2
    have e2 := s12 _ _ hI
    refine ⟨_, rfl, a, CP, dx, _, rfl, e2, Cc.cls, Cc.past, pfs_len, ?_⟩
    rw [pfs_past]
    refine ⟨_, rfl, _, rfl, a, CP, dx, _, rfl, upd_same, Cc.cls, Cc.now, pfs_len, ?_⟩
    rw [pfs_now]
    refine ⟨Nat.zero_le _, [], .nil, fun p3 H3 s3 f3 i3 => ?_⟩
    have e3 := s3 _ _ upd_same
    refine ⟨_, rfl, a, CP, dx, _, rfl, e3, Cc.cls, Cc.undone, pfs_len, ?_⟩
    rw [pfs_undone]
    have k2 : Kp [a] H2 H3 := (Kp.upd.trans Kp.upd).trans s3.kp
    have t2 : TK H2 H3 := ((TK.ins e2).trans (TK.ins upd_same)).trans s3.tk
    have k3 := k2.trans (Kp.upd (p := a) (o := .ins CP dx (pfs g.many vr A'.d q2 (.ref p3) vg vd)))
    have t3 := t2.trans (TK.upd (o := .ins CP dx (pfs g.many vr A'.d q2 (.ref p3) vg vd)) e3 (fun _ _ q => nomatch q))
    have hq3 := sqt_kpi hq2 e2 k3
    refine q _ (s12.kp.trans k3) (s12.tk.trans t3) ⟨⟨dx, vr, q2, _, vg, vd, _, by rw [hm]; exact upd_same, by rw [hrd]; exact (hvr.same s12).tk t3 (flat_tup flat_Rd _), hq3, by rw [List.length_append, List.length_singleton]; omega⟩, (hol.same s12).kpi e2 k3 t3⟩
theorem sc_P_init : FnScope ["self", "guild", "broken", "likes"] ["self", "guild", "broken"] (defScope s_Post_init) := ⟨rfl, rfl, rfl, by decide +kernel, rfl, by decide +kernel, by decide +kernel⟩
def S_P_init (P : Program) (w : World) (K : PySem.W.Frag) (C : Addr) : Sp := fun vs H Q _ => ∃ a dx v vb g, vs = [.ref a, v, vb] ∧ H a = some (.ins C dx []) ∧ Im K H v (eG g) ∧ Im K H vb (.tuple []) ∧ g.Ok ∧
  ∀ A H', Kp [a] H H' → TK H H' → A.New H → PostB P w K C H' g a A (freshP g) 0 → Q .non H'
theorem w_P_init (B : Bi mg) (Cc : Cl K mg CP) {kv : V} (D : DfI K mg CP s_Post_init [("broken", kv)]) (his_guild : Has P w K mg base 4 "is_guild" ["thing"] (S_is_guild P w K)) (hfresh : Has P w K mg base 3 "fresh" ["guild", "broken"] (S_fresh P w K))
    (hroads_of : Has P w K mg base 1 "roads_of" ["many", "roads", "told"] (S_roads_of P w K)) : HasI P w K mg base 5 CP ["self", "guild", "broken"] [kv] (S_P_init P w K CP) := by
  refine D.has sc_P_init (by simp) rfl (fun vs H Q E h => ?_) (fun D doc pm an cdv ct us ks h1 h2 => match us, h1, ks, h2 with | [u0, u1], _, [k], _ => ⟨_, _, _, _, _, _, rfl, rfl, rfl⟩) (fun f cdv A outer s H vs Q E hr h => ?_)
  rotate_left
  have nd := sc_P_init.nd
  have hu := hr.units
  have hu0 := hr.units0
  have hu1 := hu_of hr
  refine ⟨_, (pss_cons (ps_if (pt_not (pt_val (pe_has his_guild hr (by decide) (pa_cons (pv 1) pa_nil)))) (pss_one ps_never) pss_nil) (pss_cons (ps_asg (pv 1) (pg_tup (by rfl) (pgs_cons (pg_fld (pv 0)) (pgs_cons (pg_fld (pv 0)) (pgs_cons (pg_name (i := 3) nd rfl (Or.inl rfl)) pgs_nil))))) (pss_cons (ps_fld (pv 0) (pe_has hfresh hr (by decide) (pa_cons (pv 1) (pa_cons (pe_has hroads_of hr (by decide) (pa_cons (pe_fld (pv 0) rfl) (pa_cons (pe_fld (pv 0) rfl) (pa_cons (pv 2) pa_nil)))) pa_nil))) rfl) (pss_cons (ps_asg2 (pe_tupD pa_nil) (pg_fld (pv 0)) (pg_fld (pv 0))) (pss_cons (ps_fld (pv 0) (pe_lstD pa_nil) rfl) (pss_one (ps_fld (pv 0) pe_int rfl))))))), ?_⟩
  rotate_left
  · obtain ⟨_, _, _, _, _, rfl, _⟩ := h
    rfl
  · obtain ⟨a, dx, v, vb, g, rfl, hI, hv, hb, ok, q⟩ := h
    refine ⟨_, rfl, _, g, rfl, hv, ok, fun r H1 s1 i1 => ?_⟩
    cases i1
    refine ⟨_, rfl, ifF rfl ?_⟩
    have e1 := s1 _ _ hI
    obtain ⟨T, xs, rfl, hq, him⟩ := (eG_inv (hv.same s1)).tup_inv
    obtain ⟨x1, r1, rfl, i1, him⟩ := ImAll.uncons him
    obtain ⟨x2, r2, rfl, i2, him⟩ := ImAll.uncons him
    obtain ⟨x3, r3, rfl, i3, him⟩ := ImAll.uncons him
    cases him
    cases i1
    refine ⟨_, rfl, T, _, rfl, hq, rfl, _, _, rfl, _, rfl, a, CP, dx, _, rfl, e1, Cc.cls, Cc.houses, by show (0 : Nat) < 1000; decide, _, _, rfl, _, rfl, a, CP, dx, _, rfl, upd_same, Cc.cls, Cc.roads, by show (1 : Nat) < 1000; decide, _, _, rfl, rfl, ?_⟩
    generalize hH2 : upd (upd H1 a (.ins CP dx (putF "houses" (.int (g.many : Nat)) []))) a (.ins CP dx (putF "roads" x2 (putF "houses" (.int (g.many : Nat)) []))) = H2
    have e2 : H2 a = some (.ins CP dx [("houses", .int (g.many : Nat)), ("roads", x2)]) := by rw [← hH2]; exact upd_same
    have k12 : Kp [a] H1 H2 := by rw [← hH2]; exact Kp.upd.trans Kp.upd
    have t12 : TK H1 H2 := by rw [← hH2]; exact (TK.ins e1).trans (TK.ins upd_same)
    have hv2 : Im K H2 (.ref T) (eG g) := (hv.same s1).tk t12 (flat_G g)
    have hb2 : Im K H2 vb (.tuple []) := (hb.same s1).tk t12 (by simp [flat, flatAll])
    have i22 : Im K H2 x2 (eRs g.roads) := i2.tk t12 (flat_tup flat_Rd _)
    refine ⟨_, rfl, _, rfl, a, CP, dx, _, _, rfl, e2, Cc.cls, Cc.houses, rfl, _, rfl, a, CP, dx, _, _, rfl, e2, Cc.cls, Cc.roads, rfl, _, rfl, _, _, _, rfl, hb2, fun r3 H3 s3 f3 i3' => ?_⟩
    refine ⟨_, _, g, rfl, hv2.same s3, i3', ok, fun A H4 s4 nA hol => ?_⟩
    have e4 := (s3.trans s4) _ _ e2
    refine ⟨_, rfl, a, CP, dx, _, rfl, e4, Cc.cls, Cc.now, by show (2 : Nat) < 1000; decide, ?_⟩
    refine ⟨Nat.zero_le _, [], .nil, fun p5 H5 s5 f5 i5 => ?_⟩
    have e5 := s5 _ _ upd_same
    refine ⟨_, rfl, a, CP, dx, _, rfl, e5, Cc.cls, Cc.past, by show (3 : Nat) < 1000; decide, _, rfl, a, CP, dx, _, rfl, upd_same, Cc.cls, Cc.undone, by show (4 : Nat) < 1000; decide, ?_⟩
    refine ⟨Nat.zero_le _, [], .nil, fun p6 H6 s6 f6 i6 => ?_⟩
    have e6 := s6 _ _ upd_same
    refine ⟨_, rfl, a, CP, dx, _, rfl, e6, Cc.cls, Cc.pages, by show (5 : Nat) < 1000; decide, ?_⟩
    refine ⟨_, rfl, a, CP, dx, _, rfl, upd_same, Cc.cls, Cc.deep, by show (6 : Nat) < 1000; decide, ?_⟩
    have k46 : Kp [a] H4 H6 := ((Kp.upd.trans s5.kp).trans (Kp.upd.trans Kp.upd)).trans s6.kp
    have k56 : Kp [a] H5 H6 := (Kp.upd.trans Kp.upd).trans s6.kp
    have t56 : TK H5 H6 := ((TK.ins e5).trans (TK.ins upd_same)).trans s6.tk
    have t46 : TK H4 H6 := ((TK.ins e4).trans s5.tk).trans t56
    have k6 : ∀ {o1 o2 : HO}, Kp [a] H6 (upd (upd H6 a o1) a o2) := fun {_ _} => Kp.upd.trans Kp.upd
    have t6 : ∀ {fs fs' : List (Str × V)}, TK H6 (upd (upd H6 a (.ins CP dx fs)) a (.ins CP dx fs')) := fun {_ _} => (TK.ins e6).trans (TK.ins upd_same)
    have s34 := s3.trans s4
    obtain ⟨p5', xs5, ee, hq5, him5⟩ := i5.tup_inv
    cases ee
    cases him5
    refine q A _ (((s1.kp.trans k12).trans s34.kp).trans (k46.trans k6)) (((s1.tk.trans t12).trans s34.tk).trans (t46.trans t6)) ?_ ⟨⟨dx, x2, p5, _, _, _, [], upd_same, (i22.same s34).tk (t46.trans t6) (flat_tup flat_Rd _), sqt_kpi hq5 e5 (k56.trans k6), Nat.zero_le _⟩, hol.kpi e4 (k46.trans k6) (t46.trans t6)⟩
    have nb : ∀ {c : Addr}, H3 c = none → H c = none := fun {c} hc => by
      have h2 := none_back s3 hc
      have hca : c ≠ a := fun e => by rw [e, e2] at h2; cases h2
      rw [← hH2, upd_ne hca, upd_ne hca] at h2
      exact none_back s1 h2
    exact ⟨nb nA.1, nb nA.2.1, nb nA.2.2.1, nb nA.2.2.2.1, nb nA.2.2.2.2⟩
end
end Lw
end
section
set_option Elab.async false
set_option linter.all false
set_option maxRecDepth 100000
set_option maxHeartbeats 2000000
/-! The post: what it tells; ==. -/
namespace Lw
open PySem PySem.Spec PyProof.Rows L2
open Lk (Way Gd IsWay ltP Ps Let Nbs)
theorem enc_Lt : EncOk eLt 2 := enc_trip (enc_int.mono (by decide)) (enc_int.mono (by decide)) enc_W
section
variable {P : Program} {w : World} {K : PySem.W.Frag} {mg : Str → Option Value} {base : Heap} {CP : Addr}
theorem sc_P_stand : FnScope ["self"] ["self"] (defScope s_Post_stand) := ⟨rfl, rfl, rfl, by decide +kernel, rfl, by decide +kernel, by decide +kernel⟩
def S_P_stand (P : Program) (w : World) (K : PySem.W.Frag) (C : Addr) : Sp := fun vs H Q _ => ∃ a g A p n, vs = [.ref a] ∧ PostB P w K C H g a A p n ∧ ∀ v H', Same H H' → Im K H' v (eS p.ways) → Q v H'
theorem w_P_stand (B : Bi mg) (Cc : Cl K mg CP) (D : DfM K CP "stand" "Post.stand" s_Post_stand) : PHas P w K mg base 1 CP "stand" ["self"] (S_P_stand P w K CP) := by
  refine D.has sc_P_stand (fun vs H Q E h => ?_) (fun _ _ _ _ _ _ us hl => match us, hl with | [_], _ => rfl) (fun f cdv A outer s H vs Q E hr h => ?_)
  rotate_left
  have nd := sc_P_stand.nd
  have hu := hr.units
  have hu0 := hr.units0
  have hu1 := hu_of hr
  refine ⟨_, (pss_one (ps_ret (pe_callTy call_tupD (by rfl) B.tuple (by decide +kernel) (pa_cons (pe_dget hu1 (pe_fld (pv 0) rfl) pe_str (fun _ _ => rfl)) pa_nil)))), ?_⟩
  rotate_left
  · obtain ⟨_, _, _, _, _, rfl, _⟩ := h
    rfl
  · obtain ⟨a, g, A, p, n, rfl, pb, q⟩ := h
    obtain ⟨dx, vr, pa, vu, vg, vd, xs, hI, hvr, hpa, hxs⟩ := pb.ins
    exact ⟨_, rfl, a, CP, dx, _, _, rfl, hI, Cc.cls, Cc.now, l_now, A.d, .ref A.W, rfl, DGet.k (k := .inr "ways") pb.hol.dict, _, _, rfl, .inr pb.hol.way.im, fun v H1 s1 i1 => q v H1 s1 i1⟩
theorem sc_P_waiting : FnScope ["self"] ["self"] (defScope s_Post_waiting) := ⟨rfl, rfl, rfl, by decide +kernel, rfl, by decide +kernel, by decide +kernel⟩
def S_P_waiting (P : Program) (w : World) (K : PySem.W.Frag) (C : Addr) : Sp := fun vs H Q _ => ∃ a g A p n, vs = [.ref a] ∧ PostB P w K C H g a A p n ∧ p.lets.length ≤ 999999 ∧ ∀ ws b H', Grp p.lets ws → Same H H' → H b = none → Im K H' (.ref b) (eL eGr ws) → Q (.ref b) H'
theorem w_P_waiting (B : Bi mg) (Cc : Cl K mg CP) (D : DfM K CP "waiting" "Post.waiting" s_Post_waiting) (hgrouped : Has P w K mg base 1 "grouped" ["letters"] (S_grouped P w K)) : PHas P w K mg base 2 CP "waiting" ["self"] (S_P_waiting P w K CP) := by
  refine D.has sc_P_waiting (fun vs H Q E h => ?_) (fun _ _ _ _ _ _ us hl => match us, hl with | [_], _ => rfl) (fun f cdv A outer s H vs Q E hr h => ?_)
  rotate_left
  have nd := sc_P_waiting.nd
  have hu := hr.units
  have hu0 := hr.units0
  have hu1 := hu_of hr
  refine ⟨_, (pss_one (ps_ret (pe_has hgrouped hr (by decide) (pa_cons (pe_dget hu1 (pe_fld (pv 0) rfl) pe_str (fun _ _ => rfl)) pa_nil)))), ?_⟩
  rotate_left
  · obtain ⟨_, _, _, _, _, rfl, _⟩ := h
    rfl
  · obtain ⟨a, g, A, p, n, rfl, pb, hl, q⟩ := h
    obtain ⟨dx, vr, pa, vu, vg, vd, xs, hI, hvr, hpa, hxs⟩ := pb.ins
    exact ⟨_, rfl, a, CP, dx, _, _, rfl, hI, Cc.cls, Cc.now, l_now, A.d, .ref A.Q, rfl, DGet.k (k := .inr "letters") pb.hol.dict, _, p.lets, rfl, pb.hol.let_.im, hl, fun ws b H1 gr s1 f1 i1 => q ws b H1 gr s1 f1 i1⟩
theorem sc_P_len : FnScope ["self"] ["self"] (defScope s_Post_len) := ⟨rfl, rfl, rfl, by decide +kernel, rfl, by decide +kernel, by decide +kernel⟩
def S_P_len (P : Program) (w : World) (K : PySem.W.Frag) (C : Addr) : Sp := fun vs H Q _ => ∃ a g A p n, vs = [.ref a] ∧ PostB P w K C H g a A p n ∧ Q (.int p.lets.length) H
theorem w_P_len (B : Bi mg) (Cc : Cl K mg CP) (D : DfM K CP "__len__" "Post.__len__" s_Post_len) : PHas P w K mg base 1 CP "__len__" ["self"] (S_P_len P w K CP) := by
  refine D.has sc_P_len (fun vs H Q E h => ?_) (fun _ _ _ _ _ _ us hl => match us, hl with | [_], _ => rfl) (fun f cdv A outer s H vs Q E hr h => ?_)
  rotate_left
  have nd := sc_P_len.nd
  have hu := hr.units
  have hu0 := hr.units0
  have hu1 := hu_of hr
  refine ⟨_, (pss_one (ps_ret (pe_callB call_lenD (by rfl) B.len (by decide +kernel) (pa_cons (pe_dget hu1 (pe_fld (pv 0) rfl) pe_str (fun _ _ => rfl)) pa_nil)))), ?_⟩
  rotate_left
  · obtain ⟨_, _, _, _, _, rfl, _⟩ := h
    rfl
  · obtain ⟨a, g, A, p, n, rfl, pb, q⟩ := h
    obtain ⟨dx, vr, pa, vu, vg, vd, xs, hI, hvr, hpa, hxs⟩ := pb.ins
    refine ⟨_, rfl, a, CP, dx, _, _, rfl, hI, Cc.cls, Cc.now, l_now, A.d, .ref A.Q, rfl, DGet.k (k := .inr "letters") pb.hol.dict, _, _, rfl, .inr pb.hol.let_.im, ?_⟩
    rw [List.length_map]; exact q
theorem sc_P_shape : FnScope ["self"] ["self"] (defScope s_Post_shape) := ⟨rfl, rfl, rfl, by decide +kernel, rfl, by decide +kernel, by decide +kernel⟩
def S_P_shape (P : Program) (w : World) (K : PySem.W.Frag) (C : Addr) : Sp := fun vs H Q _ => ∃ a g A p n, vs = [.ref a] ∧ PostB P w K C H g a A p n ∧ ∀ b vr H', Same H H' → H b = none → H' b = some (.lst [.int g.many, vr, .ref A.d]) → Im K H' vr (eRs g.roads) → Q (.ref b) H'
theorem w_P_shape (B : Bi mg) (Cc : Cl K mg CP) (D : DfM K CP "shape" "Post.shape" s_Post_shape) : PHas P w K mg base 1 CP "shape" ["self"] (S_P_shape P w K CP) := by
  refine D.has sc_P_shape (fun vs H Q E h => ?_) (fun _ _ _ _ _ _ us hl => match us, hl with | [_], _ => rfl) (fun f cdv A outer s H vs Q E hr h => ?_)
  rotate_left
  have nd := sc_P_shape.nd
  have hu := hr.units
  have hu0 := hr.units0
  have hu1 := hu_of hr
  refine ⟨_, (pss_one (ps_ret (pe_lst (pa_cons (pe_fld (pv 0) rfl) (pa_cons (pe_fld (pv 0) rfl) (pa_cons (pe_fld (pv 0) rfl) pa_nil)))))), ?_⟩
  rotate_left
  · obtain ⟨_, _, _, _, _, rfl, _⟩ := h
    rfl
  · obtain ⟨a, g, A, p, n, rfl, pb, q⟩ := h
    obtain ⟨dx, vr, pa, vu, vg, vd, xs, hI, hvr, hpa, hxs⟩ := pb.ins
    refine ⟨_, rfl, a, CP, dx, _, _, rfl, hI, Cc.cls, Cc.houses, l_houses, _, rfl, a, CP, dx, _, _, rfl, hI, Cc.cls, Cc.roads, l_roads, _, rfl, a, CP, dx, _, _, rfl, hI, Cc.cls, Cc.now, l_now, by show (3 : Nat) ≤ sizeLine; decide, fun b fb => ?_⟩
    exact q b vr _ (Same.new fb) fb upd_same (hvr.same (Same.new fb))
/-- alike -/
def Alike (P : Program) (w : World) (K : PySem.W.Frag) (C : Addr) (a b : Addr) (H : Hp) : Prop := ∃ g A p n A' p' n', PostB P w K C H g a A p n ∧ PostB P w K C H g b A' p' n' ∧ p.ways = p'.ways ∧ p.lets = p'.lets ∧ ∀ k ∈ ddup (hkF g), p.heard k.1 k.2 = p'.heard k.1 k.2
theorem eqH_hol {H : Hp} {g : Gd} {A A' : Hla} {p p' : Ps} (h : HolB P w K H g A p) (h' : HolB P w K H g A' p') (hw : p.ways = p'.ways) (hl : p.lets = p'.lets) (hh : ∀ k ∈ ddup (hkF g), p.heard k.1 k.2 = p'.heard k.1 k.2) : EqH P w K H (.ref A.d) (.ref A'.d) := by
  refine ⟨A.d, A'.d, A.kvs, A'.kvs, rfl, rfl, h.dict, h'.dict, rfl, fun q hq => ?_⟩
  have hq : q ∈ [((.inr "broken", .ref A.B) : Key × V), (.inr "likes", A.L), (.inr "ways", .ref A.W), (.inr "heard", .ref A.H), (.inr "letters", .ref A.Q)] := hq
  simp only [List.mem_cons, List.not_mem_nil, or_false] at hq
  rcases hq with rfl | rfl | rfl | rfl | rfl
  · exact ⟨.ref A'.B, rfl, .inl ⟨List Int, inferInstance, eL eI, 1, [], enc_lst enc_int, by decide, h.brk.im, h'.brk.im⟩⟩
  · exact ⟨A'.L, rfl, .inl ⟨_, inferInstance, eT eWs, 3, g.likes, enc_tup (enc_tup enc_W), by decide, h.lik, h'.lik⟩⟩
  · exact ⟨.ref A'.W, rfl, .inl ⟨_, inferInstance, eL eW, 2, p.ways, enc_lst enc_W, by decide, h.way.im, by rw [hw]; exact h'.way.im⟩⟩
  · obtain ⟨kvs, d1, d2, d3⟩ := h.hrd.ex
    obtain ⟨lvs, e1, e2, e3⟩ := h'.hrd.ex
    refine ⟨.ref A'.H, rfl, .inr ⟨_, inferInstance, eRd, A.H, A'.H, kvs, lvs, key_Rd, rfl, rfl, d1, e1, ?_, fun x hx => ?_⟩⟩
    · rw [← List.length_map (f := (·.1)) (as := kvs), d2, ← e2, List.length_map]
    · have hk : x.1 ∈ ddup (hkF g) := by rw [← d2]; exact List.mem_map.mpr ⟨x, hx, rfl⟩
      obtain ⟨v, hv⟩ := dget_some (kvs := lvs) (k := x.1) (by rw [e2]; exact hk)
      have im1 := (d3 x hx).im
      have im2 := (e3 _ (dget_mem hv)).im
      refine ⟨v, hv, _, inferInstance, eW, 1, p.heard x.1.1 x.1.2, enc_W, by decide, im1, ?_⟩
      rw [hh x.1 hk]; exact im2
  · exact ⟨.ref A'.Q, rfl, .inl ⟨_, inferInstance, eL eLt, 3, p.lets, enc_lst enc_Lt, by decide, h.let_.im, by rw [hl]; exact h'.let_.im⟩⟩
theorem sc_P_eq : FnScope ["self", "other"] ["self", "other"] (defScope s_Post_eq) := ⟨rfl, rfl, rfl, by decide +kernel, rfl, by decide +kernel, by decide +kernel⟩
theorem w_P_eq (B : Bi mg) (Cc : Cl K mg CP) (D : DfM K CP "__eq__" "Post.__eq__" s_Post_eq) (h_shape : PHas P w K mg base 1 CP "shape" ["self"] (S_P_shape P w K CP)) : PHas P w K mg base 2 CP "__eq__" ["self", "other"] (spEq (Alike P w K CP)) := by
  have cP := Cc.cls
  have hP := Cc.glo
  refine D.has sc_P_eq (fun vs H Q E h => ?_) (fun _ _ _ _ _ _ us hl => match us, hl with | [_, _], _ => rfl) (fun f cdv A outer s H vs Q E hr h => ?_)
  rotate_left
  have nd := sc_P_eq.nd
  have hu := hr.units
  have hu0 := hr.units0
  have hu1 := hu_of hr
  refine ⟨_, (pss_one (ps_ret (pe_and (pe_callB call_isi (by rfl) B.isinstance (by decide +kernel) (pa_cons (pv 1) (pa_cons (pe_glob (v := .ref CP) (by rfl) hP rfl) pa_nil))) (pe_one (pe_cmpR (op_eqL hu) (pe_own0 h_shape cP hr (by decide) (pv 0)) (pe_own0 h_shape cP hr (by decide) (pv 1)) (nomark _)))))), ?_⟩
  rotate_left
  · obtain ⟨_, _, rfl, _⟩ := h
    rfl
  · obtain ⟨a, b, rfl, ⟨g, A, p, n, A', p', n', pa, pb, hw, hl, hh⟩, q⟩ := h
    obtain ⟨dx, vr, pq, vu, vg, vd, xs, hI, hvr, hpa, hxs⟩ := pa.ins
    obtain ⟨dx', vr', pq', vu', vg', vd', xs', hI', hvr', hpa', hxs'⟩ := pb.ins
    refine ⟨_, rfl, .ref b, .ref CP, .ref CP, .ref CP, true, rfl, .own CP, .base (.ins hI' Cc.cls Cc.cl1 Cc.cl2 Cc.cl3 Cc.cl4), if_pos (beq_self_eq_true _), true, rfl, ifT rfl ?_⟩
    refine ⟨_, rfl, a, dx, _, rfl, hI, rfl, a, g, A, p, n, rfl, pa, fun b1 vr1 H1 s1 f1 e1 i1 => ?_⟩
    refine ⟨_, rfl, b, dx', _, rfl, s1 _ _ hI', rfl, b, g, A', p', n', rfl, pb.same s1, fun b2 vr2 H2 s2 f2 e2 i2 => ?_⟩
    refine ⟨b1, b2, _, _, rfl, rfl, s2 _ _ e1, e2, .cons (.inl ⟨_, inferInstance, eI, 0, (g.many : Int), enc_int, by decide, .int _, .int _⟩) (.cons (.inl ⟨_, inferInstance, eRs, 2, g.roads, enc_tup enc_Rd, by decide, i1.same s2, i2⟩) (.cons (.inr ?_) .nil)), q H2 (s1.trans s2)⟩
    exact eqH_hol (pa.hol.same (s1.trans s2)) (pb.hol.same (s1.trans s2)) hw hl hh
end
end Lw
end
section
set_option Elab.async false
set_option linter.all false
set_option maxRecDepth 100000
set_option maxHeartbeats 2000000
/-! The post: letters read; other likings. -/
namespace Lw
open PySem PySem.Spec PyProof.Rows L2
open Lk (Way Gd IsWay ltP Ps Let Nbs)
/-- the first place at which a test holds -/
theorem first_idx {α : Type} (l : List α) (p : α → Bool) (h : ∃ x ∈ l, p x = true) : ∃ i x rest, (List.range l.length).filterMap (fun i => (l[i]?).bind fun x => if p x = true then some i else none) = i :: rest ∧ l[i]? = some x ∧ p x = true ∧ ∀ y ∈ l.take i, p y = false := by
  obtain ⟨pre, x, post, e, hx, hn⟩ := Lk.split_least (fun x => p x = true) l h
  have hl : l.length = pre.length + (1 + post.length) := by rw [e]; simp; omega
  have hi : l[pre.length]? = some x := by rw [e]; simp
  have e2 : ∃ rest, (List.range l.length).filterMap (fun i => (l[i]?).bind fun x => if p x = true then some i else none) = pre.length :: rest := by
    rw [hl, List.range_add, List.filterMap_append]
    have e1 : (List.range pre.length).filterMap (fun i => (l[i]?).bind fun x => if p x = true then some i else none) = [] := by
      rw [List.filterMap_eq_nil_iff]
      intro i hi
      have hi := List.mem_range.mp hi
      have : l[i]? = some (pre[i]'hi) := by rw [e, List.getElem?_append_left hi, List.getElem?_eq_getElem hi]
      rw [this]
      show (if p _ = true then _ else _) = _
      rw [if_neg (hn _ (List.getElem_mem hi))]
    rw [e1, List.nil_append, show 1 + post.length = post.length + 1 by omega, List.range_succ_eq_map, List.map_cons, List.filterMap_cons]
    simp only [Nat.add_zero, hi, Option.bind_some, hx, if_true]
    exact ⟨_, rfl⟩
  obtain ⟨rest, e2⟩ := e2
  refine ⟨pre.length, x, rest, e2, hi, hx, fun y hy => ?_⟩
  rw [e, List.take_left' rfl] at hy
  have := hn y hy
  simpa using this
section
variable {P : Program} {w : World} {K : PySem.W.Frag} {mg : Str → Option Value} {base : Heap} {CP : Addr}
/-- the place of a letter that a road's end asks for -/
def atL (s r : Int) (i : Nat) : PyData → Option PyData
  | .tuple (.int a :: .int b :: _) => if a = s ∧ b = r then some (.int i) else none
  | _ => none
theorem sc_P_read : FnScope ["self", "sender", "reader", "good", "at", "row", "places", "holding", "way"] ["self", "sender", "reader"] (defScope s_Post_read) := ⟨rfl, rfl, rfl, by decide +kernel, rfl, by decide +kernel, by decide +kernel⟩
def S_P_read (P : Program) (w : World) (K : PySem.W.Frag) (C : Addr) : Sp := fun vs H Q _ => ∃ a g A p n s r, vs = [.ref a, .int s, .int r] ∧ g.Ok ∧ PostB P w K C H g a A p n ∧ Lk.PInv g p (fun _ => False) ∧ (∃ l ∈ p.lets, l.1 = s ∧ l.2.1 = r) ∧ p.lets.length ≤ 999000 ∧ n < 1000000 ∧
  ∀ v H' A' l1 l l2, p.lets = l1 ++ l :: l2 → (∀ x ∈ l1, Lk.onCh l.1 l.2.1 x = false) → Kp [a] H H' → TK H H' → PostB P w K C H' g a A' (Lk.deliver g (osF g l.2.1) p l1 l2 l) (n + 1) → Q v H'
theorem w_P_read (B : Bi mg) (Cc : Cl K mg CP) (D : DfM K CP "read" "Post.read" s_Post_read) (his_number : Has P w K mg base 1 "is_number" ["thing", "least", "most"] (S_is_number P w K)) (hcopied : Has P w K mg base 1 "copied" ["holding"] (S_copied P w K))
    (hdeliver : Has P w K mg base 4 "deliver" ["roads", "holding", "at"] (S_deliver P w K)) (h_taken : PHas P w K mg base 1 CP "taken" ["self", "holding"] (S_P_taken P w K CP)) : PHas P w K mg base 5 CP "read" ["self", "sender", "reader"] (S_P_read P w K CP) := by
  have cP := Cc.cls
  refine D.has sc_P_read (fun vs H Q E h => ?_) (fun _ _ _ _ _ _ us hl => match us, hl with | [_, _, _], _ => rfl) (fun f cdv A outer s H vs Q E hr h => ?_)
  rotate_left
  have nd := sc_P_read.nd
  have hu := hr.units
  have hu0 := hr.units0
  have hu1 := hu_of hr
  refine ⟨_, (pss_cons (ps_set (i := 3) nd rfl (Or.inr rfl) (pe_and (pe_has his_number hr (by decide) (pa_cons (pv 1) (pa_cons pe_int (pa_cons (pe_op op_sub (pe_fld (pv 0) rfl) pe_int) pa_nil)))) (pe_one (pe_has his_number hr (by decide) (pa_cons (pv 2) (pa_cons pe_int (pa_cons (pe_op op_sub (pe_fld (pv 0) rfl) pe_int) pa_nil))))))) (pss_cons (ps_setLc (i := 6) (g := (gTup K 2 (gCons (gName 4) (gCons (gName 5) gNil)))) (tt := (tAnd (tB (tVar 3)) (tTest (tOp (rEqE K) (tSl (rSlD K) (tVar 5) tNoPart (tPart (tC (.int 2)))) (tDispT K (tCons (tVar 1) (tCons (tVar 2) tNil))))))) (te := (tVar 4)) rfl nd rfl rfl (sw_true rfl rfl rfl (by decide +kernel)) (pi_enumA (by rfl) B.enumerate (pa_cons (pe_dget hu1 (pe_fld (pv 0) rfl) pe_str (fun _ _ => rfl)) pa_nil)) (blkOk_by (own := [("at", 4), ("row", 5)]) (by rfl)) (fun _ _ _ _ _ => (pg_tup (by rfl) (pgs_cons (pg_name (i := 4) nd rfl (Or.inl rfl)) (pgs_cons (pg_name (i := 5) nd rfl (Or.inl rfl)) pgs_nil)))) (fun _ _ _ _ _ => (pts_one (PW.pt (pw_and (pt_val (pv 3)) (pw_and1 (pt_cmpR (op_eqE hu) (pe_slice sl_D (pv 5) po_none (po_some pe_int)) (pe_tupD (pa_cons (pv 1) (pa_cons (pv 2) pa_nil))) (nomark _))))))) (fun _ _ _ _ _ => (pv 4))) (pss_cons (ps_if (pt_cmpR (op_eqE hu) (pv 6) (pe_lstD pa_nil) (nomark _)) (pss_one ps_never) pss_nil) (pss_cons (ps_set (i := 7) nd rfl (Or.inl rfl) (pe_has hcopied hr (by decide) (pa_cons (pe_fld (pv 0) rfl) pa_nil))) (pss_cons (ps_set (i := 8) nd rfl (Or.inl rfl) (pe_has hdeliver hr (by decide) (pa_cons (pe_fld (pv 0) rfl) (pa_cons (pv 7) (pa_cons (pe_ix ix_D (pv 6) pe_int (fun _ _ => rfl)) pa_nil))))) (pss_cons (ps_expr (pe_own h_taken cP hr (by decide) (pv 0) (pa_cons (pv 7) pa_nil))) (pss_one (ps_ret (pv 8))))))))), ?_⟩
  rotate_left
  · obtain ⟨_, _, _, _, _, _, _, rfl, _⟩ := h
    rfl
  · obtain ⟨a, g, A, p, n, s, r, rfl, ok, pb, inv, hex, hl, hn, q⟩ := h
    obtain ⟨dx, vr, pa, vu, vg, vd, xs, hI, hvr, hpa, hxs⟩ := pb.ins
    obtain ⟨l0, hl0, rfl, rfl⟩ := hex
    obtain ⟨hj, a0, a1, b0, b1⟩ := inv.lets l0 hl0
    refine ⟨_, rfl, _, rfl, a, CP, dx, _, _, rfl, hI, Cc.cls, Cc.houses, l_houses, _, _, rfl, rfl, ?_⟩
    refine ⟨_, _, _, l0.1, 0, (g.many : Int) - 1, rfl, .int _, .int _, .int _, ⟨a0, by omega⟩, fun r1 H1 s1 i1 => ?_⟩
    cases i1
    refine ⟨_, rfl, ifT rfl ?_⟩
    refine ⟨_, rfl, _, rfl, a, CP, dx, _, _, rfl, s1 _ _ hI, Cc.cls, Cc.houses, l_houses, _, _, rfl, rfl, ?_⟩
    refine ⟨_, _, _, l0.2.1, 0, (g.many : Int) - 1, rfl, .int _, .int _, .int _, ⟨b0, by omega⟩, fun r2 H2 s2 i2 => ?_⟩
    cases i2
    have s12 := s1.trans s2
    have pb2 := pb.same s12
    have hI2 := s12 _ _ hI
    refine ⟨_, rfl, a, CP, dx, _, _, rfl, hI2, Cc.cls, Cc.now, l_now, A.d, .ref A.Q, rfl, DGet.k (k := .inr "letters") pb2.hol.dict, ?_⟩
    refine lc_E (.inr pb2.hol.let_.im) (by rw [List.length_map]; exact small_line (by omega)) (atL l0.1 l0.2.1) (fun D i d v T H3 QT QF hd s3 hN hv hT kT kF => ?_) (fun b H3 s3 f3 i3 => ?_)
    · rw [List.getElem?_map] at hd
      obtain ⟨l, hli, rfl⟩ := Option.map_eq_some_iff.mp hd
      have e0 : atL l0.1 l0.2.1 i (eLt l) = if l.1 = l0.1 ∧ l.2.1 = l0.2.1 then some (.int i) else none := rfl
      refine ⟨T, _, rfl, SqT.of hT, rfl, _, _, rfl, _, _, rfl, rfl, rfl, ?_⟩
      refine ⟨_, rfl, true, rfl, ifT rfl ?_⟩
      refine ⟨_, rfl, _, rfl, .inl ⟨_, hv, fun v4 H4 s4 i4 => ?_⟩⟩
      have i4 : Im K H4 v4 (eRd (l.1, l.2.1)) := i4
      refine ⟨_, rfl, _, rfl, by show (2 : Nat) ≤ 1000; decide, _, .cons (.int _) (.cons (.int _) .nil), fun p5 H5 s5 f5 i5 => ?_⟩
      have i5 : Im K H5 (.ref p5) (eRd (l0.1, l0.2.1)) := i5
      refine ⟨_, inferInstance, eRd, 1, (l.1, l.2.1), (l0.1, l0.2.1), enc_Rd, by decide, i4.same s5, i5, _, rfl, ?_⟩
      by_cases c : l.1 = l0.1 ∧ l.2.1 = l0.2.1
      · exact ifT (decide_eq_true (Prod.ext c.1 c.2)) ⟨_, rfl, kT _ _ (.int i) (by rw [e0, if_pos c]) (s4.trans s5) (Im.stb (.int _) rfl)⟩
      · exact ifF (decide_eq_false fun z => c (by have z : (l.1, l.2.1) = (l0.1, l0.2.1) := z; exact Prod.mk.inj z)) (kF _ (by rw [e0, if_neg c]) (s4.trans s5))
    · obtain ⟨i, l, rest, hfi, hli, hpl, hpre⟩ := first_idx p.lets (Lk.onCh l0.1 l0.2.1) ⟨l0, hl0, by simp [Lk.onCh]⟩
      have e3 : ((List.range (p.lets.map eLt).length).filterMap fun i => ((p.lets.map eLt)[i]?).bind (atL l0.1 l0.2.1 i)) = ((i : Int) :: rest.map fun (j : Nat) => (j : Int)).map eI := by
        have e4 : ∀ i, (((p.lets.map eLt)[i]?).bind (atL l0.1 l0.2.1 i)) = ((p.lets[i]?).bind fun x => if Lk.onCh l0.1 l0.2.1 x = true then some i else none).map fun (j : Nat) => eI (j : Int) := fun i => by
          rw [List.getElem?_map]
          cases p.lets[i]? with
          | none => rfl
          | some x =>
            show atL l0.1 l0.2.1 i (eLt x) = Option.map _ (if Lk.onCh l0.1 l0.2.1 x = true then some i else none)
            have e0 : atL l0.1 l0.2.1 i (eLt x) = if x.1 = l0.1 ∧ x.2.1 = l0.2.1 then some (.int i) else none := rfl
            rw [e0]
            by_cases c : x.1 = l0.1 ∧ x.2.1 = l0.2.1
            · rw [if_pos c, if_pos (by simp [Lk.onCh, c])]; rfl
            · rw [if_neg c, if_neg (by simpa [Lk.onCh] using c)]; rfl
        rw [List.length_map, funext e4, ← List.map_filterMap, hfi]
        simp
      rw [e3] at i3
      have i3 : Im K H3 (.ref b) (eL eI ((i : Int) :: rest.map fun (j : Nat) => (j : Int))) := i3
      refine ⟨_, rfl, Nat.zero_le _, [], .nil, fun p4 H4 s4 f4 i4 => ?_⟩
      refine ⟨_, inferInstance, eL eI, 1, (i : Int) :: rest.map fun (j : Nat) => (j : Int), [], enc_lst enc_int, by decide, i3.same s4, i4, _, rfl, ifF (decide_eq_false (by simp)) ?_⟩
      have s24 := s3.trans s4
      have s4' := s12.trans s24
      refine ⟨_, rfl, a, CP, dx, _, _, rfl, s4' _ _ hI, Cc.cls, Cc.now, l_now, g, A, p, rfl, ok, pb2.hol.same s24, fun A' H5 s5 nA hol5 => ?_⟩
      have s5' := s4'.trans s5
      refine ⟨_, rfl, a, CP, dx, _, _, rfl, s5' _ _ hI, Cc.cls, Cc.roads, l_roads, _, rfl, _, rfl, _, 0, .int i, .inr ((i3.same s4).same s5), rfl, atI_nn (by decide) rfl, fun y hy => ?_⟩
      cases hy
      refine ⟨_, g, A', p, i, l, rfl, hvr.same s5', ok, hol5, inv, hli, hl, fun v6 H6 k6 t6 hol6 => ?_⟩
      have hon : l.1 = l0.1 ∧ l.2.1 = l0.2.1 := by simpa [Lk.onCh] using hpl
      have nA' : ∀ c ∈ [A'.W, A'.Q, A'.H], H c = none := fun c hc => by
        simp only [List.mem_cons, List.not_mem_nil, or_false] at hc
        rcases hc with rfl | rfl | rfl
        · exact none_back s4' nA.2.2.1
        · exact none_back s4' nA.2.2.2.2
        · exact none_back s4' nA.2.2.2.1
      have s6 : Same H H6 := same_kp s5' k6 nA'
      refine ⟨_, rfl, a, dx, _, rfl, s6 _ _ hI, rfl, _, rfl, a, g, A, p, n, g, A', _, rfl, pb.same s6, rfl, rfl, hol6, hn, fun H7 k7 t7 pb7 => ?_⟩
      refine ⟨_, rfl, q v6 H7 A' (p.lets.take i) l (p.lets.drop (i + 1)) ?_ (fun x hx => ?_) (s6.kp.trans k7) (s6.tk.trans t7) pb7⟩
      · have := List.take_append_drop i p.lets
        rw [List.drop_eq_getElem_cons (List.getElem?_eq_some_iff.mp hli).1, (List.getElem?_eq_some_iff.mp hli).2] at this
        exact this.symm
      · rw [hon.1, hon.2]; exact hpre x hx
end
end Lw
end
section
set_option Elab.async false
set_option linter.all false
set_option maxRecDepth 100000
set_option maxHeartbeats 2000000
/-! The post: other likings. -/
namespace Lw
open PySem PySem.Spec PyProof.Rows L2
open Lk (Way Gd IsWay ltP Ps Let Nbs)
/-- a house likes other ways -/
def likeG (g : Gd) (h : Nat) (us : List Way) : Gd := { g with likes := g.likes.set (h - 1) us }
theorem likeG_row (g : Gd) (h : Nat) (us : List Way) {x : Nat} (hx : 1 ≤ x) (h1 : 1 ≤ h) (hl : h - 1 < g.likes.length) : (likeG g h us).row x = if x = h then us else g.row x := by
  unfold Lk.Gd.row likeG
  simp only [List.getD_eq_getElem?_getD]
  rw [show ((x : Int) - 1).toNat = x - 1 by omega, List.getElem?_set]
  by_cases c : x = h
  · subst c; rw [if_pos rfl, if_pos rfl, if_pos hl]; rfl
  · rw [if_neg (by omega), if_neg c]
theorem cutD_likes {g : Gd} {h : Nat} {us : List Way} (h1 : 1 ≤ h) (hl : h - 1 < g.likes.length) :
    cutD (g.likes.map eWs) none (some ((h : Int) - 1)) ++ [eWs us] ++ cutD (g.likes.map eWs) (some (h : Int)) none = (likeG g h us).likes.map eWs := by
  rw [show (h : Int) - 1 = ((h - 1 : Nat) : Int) by omega, cutD_to, cutD_from]
  show _ = (g.likes.set (h - 1) us).map eWs
  rw [List.set_eq_take_append_cons_drop, if_pos hl, List.map_append, List.map_cons, List.map_take, List.map_drop, show h - 1 + 1 = h by omega]
  simp
section
variable {P : Program} {w : World} {K : PySem.W.Frag} {mg : Str → Option Value} {base : Heap} {CP : Addr}
/-- other likes stand in a holding -/
theorem HolB.chL {H : Hp} {g g' : Gd} {A : Hla} {p : Ps} {v : V} (h : HolB P w K H g A p) (hm : g'.many = g.many) (hr : g'.roads = g.roads) (im : Im K H v (eT eWs g'.likes)) :
    HolB P w K (upd H A.d (.dK { A with L := v }.kvs)) g' { A with L := v } p := by
  obtain ⟨m1, m2, m3, m4, m5⟩ := h.d_ne
  have t : TK H (upd H A.d (.dK { A with L := v }.kvs)) := TK.upd h.dict (fun _ _ q => nomatch q)
  have k : Kp [A.d] H (upd H A.d (.dK { A with L := v }.kvs)) := Kp.upd
  have n1 : A.B ∉ [A.d] := fun c => by
    obtain ⟨xs, e, _⟩ := h.brk
    rw [List.mem_singleton.mp c, h.dict] at e; cases e
  have eh : hkF g' = hkF g := by unfold hkF osF; rw [hm, hr]
  obtain ⟨kvs, ⟨xs, ep, h3, _⟩, _⟩ := h.hrd.dn
  refine ⟨upd_same, h.brk.kp k t (by simp [flatAll]) n1, im.tk t (flat_tup flat_Ws _), h.way.kp k t (flatAll_map flat_W _) (by simpa using Ne.symm m2), ?_, h.let_.kp k t (flatAll_map flat_Lt _) (by simpa using Ne.symm m1), h.ne1, h.ne2, h.ne3⟩
  rw [eh]
  exact h.hrd.flat key_Rd (flat_heard p.heard) t (by rw [h3]; exact k _ _ (by simpa using Ne.symm m3) h3)
theorem sc_P_like : FnScope ["self", "house", "ways", "holding"] ["self", "house", "ways"] (defScope s_Post_like) := ⟨rfl, rfl, rfl, by decide +kernel, rfl, by decide +kernel, by decide +kernel⟩
def S_P_like (P : Program) (w : World) (K : PySem.W.Frag) (C : Addr) : Sp := fun vs H Q _ => ∃ a g A p n h v us, vs = [.ref a, .int (h : Nat), v] ∧ Im K H v (eWs us) ∧ (likeG g h us).Ok ∧ g.Ok ∧ 1 ≤ h ∧ h < g.many ∧ PostB P w K C H g a A p n ∧ p.ways.length = g.many ∧ p.lets.length ≤ 999000 ∧ n < 1000000 ∧
  ∀ H' A', Kp [a] H H' → TK H H' → PostB P w K C H' (likeG g h us) a A' (Lk.choose (likeG g h us) (osF (likeG g h us) h) p h) (n + 1) → Q .non H'
theorem w_P_like (B : Bi mg) (Cc : Cl K mg CP) (D : DfM K CP "like" "Post.like" s_Post_like) (his_number : Has P w K mg base 1 "is_number" ["thing", "least", "most"] (S_is_number P w K)) (hare_liked : Has P w K mg base 3 "are_liked" ["thing", "house", "many", "roads"] (S_are_liked P w K))
    (hcopied : Has P w K mg base 1 "copied" ["holding"] (S_copied P w K)) (hchoose : Has P w K mg base 3 "choose" ["roads", "holding", "house"] (S_choose P w K)) (h_taken : PHas P w K mg base 1 CP "taken" ["self", "holding"] (S_P_taken P w K CP)) :
    PHas P w K mg base 4 CP "like" ["self", "house", "ways"] (S_P_like P w K CP) := by
  have cP := Cc.cls
  refine D.has sc_P_like (fun vs H Q E h => ?_) (fun _ _ _ _ _ _ us hl => match us, hl with | [_, _, _], _ => rfl) (fun f cdv A outer s H vs Q E hr h => ?_)
  rotate_left
  have nd := sc_P_like.nd
  have hu := hr.units
  have hu0 := hr.units0
  have hu1 := hu_of hr
  refine ⟨_, (pss_cons (ps_if (pt_not (pt_val (pe_has his_number hr (by decide) (pa_cons (pv 1) (pa_cons pe_int (pa_cons (pe_op op_sub (pe_fld (pv 0) rfl) pe_int) pa_nil)))))) (pss_one ps_never) pss_nil) (pss_cons (ps_if (pt_not (pt_val (pe_has hare_liked hr (by decide) (pa_cons (pv 2) (pa_cons (pv 1) (pa_cons (pe_fld (pv 0) rfl) (pa_cons (pe_fld (pv 0) rfl) pa_nil))))))) (pss_one ps_never) pss_nil) (pss_cons (ps_set (i := 3) nd rfl (Or.inl rfl) (pe_has hcopied hr (by decide) (pa_cons (pe_fld (pv 0) rfl) pa_nil))) (pss_cons (ps_dput hu1 (pv 3) pe_str (pe_op op_catTD (pe_op op_catTD (pe_slice sl_D (pe_dget hu1 (pv 3) pe_str (fun _ _ => rfl)) po_none (po_some (pe_op op_sub (pv 1) pe_int))) (pe_tupD (pa_cons (pv 2) pa_nil))) (pe_slice sl_D (pe_dget hu1 (pv 3) pe_str (fun _ _ => rfl)) (po_some (pv 1)) po_none)) rfl) (pss_cons (ps_expr (pe_has hchoose hr (by decide) (pa_cons (pe_fld (pv 0) rfl) (pa_cons (pv 3) (pa_cons (pv 1) pa_nil))))) (pss_one (ps_expr (pe_own h_taken cP hr (by decide) (pv 0) (pa_cons (pv 3) pa_nil))))))))), ?_⟩
  rotate_left
  · obtain ⟨_, _, _, _, _, _, _, _, rfl, _⟩ := h
    rfl
  · obtain ⟨a, g, A, p, n, h, v, us, rfl, hv, ok', ok, h1, h2, pb, hwl, hl, hn, q⟩ := h
    obtain ⟨dx, vr, pa, vu, vg, vd, xs, hI, hvr, hpa, hxs⟩ := pb.ins
    have hll := ok.len
    have hrow : (likeG g h us).row h = us := by rw [likeG_row g h us h1 h1 (by omega), if_pos rfl]
    refine ⟨_, rfl, _, rfl, a, CP, dx, _, _, rfl, hI, Cc.cls, Cc.houses, l_houses, _, _, rfl, rfl, ?_⟩
    refine ⟨_, _, _, (h : Int), 1, (g.many : Int) - 1, rfl, .int _, .int _, .int _, ⟨by omega, by omega⟩, fun r1 H1 s1 i1 => ?_⟩
    cases i1
    refine ⟨_, rfl, ifF rfl ?_⟩
    have hI1 := s1 _ _ hI
    refine ⟨_, rfl, _, rfl, _, rfl, a, CP, dx, _, _, rfl, hI1, Cc.cls, Cc.houses, l_houses, _, rfl, a, CP, dx, _, _, rfl, hI1, Cc.cls, Cc.roads, l_roads, ?_⟩
    refine ⟨_, _, _, _, us, (h : Int), (g.many : Int), g.roads, rfl, hv.same s1, .int _, .int _, hvr.same s1, ⟨?_, ?_, g.many, rfl, by have := ok.hi; omega, fun u hu => ?_⟩, fun r2 H2 s2 i2 => ?_⟩
    · rw [← hrow]; exact ok'.rnd h h1 h2
    · rw [← hrow]; exact ok'.rlen h h1 h2
    · exact ok'.way h h1 h2 u (by rw [hrow]; exact hu)
    cases i2
    refine ⟨_, rfl, ifF rfl ?_⟩
    have s12 := s1.trans s2
    refine ⟨_, rfl, a, CP, dx, _, _, rfl, s12 _ _ hI, Cc.cls, Cc.now, l_now, g, A, p, rfl, ok, pb.hol.same s12, fun A' H3 s3 nA hol => ?_⟩
    refine ⟨_, rfl, A'.d, A'.L, rfl, DGet.k (k := .inr "likes") hol.dict, _, rfl, _, _, rfl, rfl, _, rfl, .inl ⟨_, hol.lik, fun v4 H4 s4 i4 => ?_⟩⟩
    have s04 := (s12.trans s3).trans s4
    refine ⟨_, rfl, by show (1 : Nat) ≤ 1000; decide, _, .cons (hv.same s04) .nil, fun p5 H5 s5 f5 i5 => ?_⟩
    have hcl : (cutD (g.likes.map eWs) none (some ((h : Int) - 1))).length ≤ 10 := by
      have := ok.hi
      unfold cutD
      rw [List.length_take, List.length_drop, List.length_map]
      omega
    have hcl2 : (cutD (g.likes.map eWs) (some (h : Int)) none).length ≤ 10 := by
      have := ok.hi
      unfold cutD
      rw [List.length_take, List.length_drop, List.length_map]
      omega
    refine ⟨_, _, i4.same s5, i5, by show _ + 1 ≤ _; omega, fun v6 H6 s6 i6 => ?_⟩
    have hol6 := ((hol.same s4).same s5).same s6
    refine ⟨_, rfl, A'.d, A'.L, rfl, DGet.k (k := .inr "likes") hol6.dict, _, rfl, _, rfl, .inl ⟨_, hol6.lik, fun v7 H7 s7 i7 => ?_⟩⟩
    refine ⟨_, _, i6.same s7, i7, by rw [List.length_append, List.length_singleton]; omega, fun v8 H8 s8 i8 => ?_⟩
    rw [cutD_likes h1 (by omega)] at i8
    have hol8 := (hol6.same s7).same s8
    refine ⟨_, rfl, A'.d, _, rfl, DPut.k (k := .inr "likes") (v := v8) hol8.dict (by rw [sizeLine_eq]; show (5 : Nat) < _; decide), ?_⟩
    have hol9 := hol8.chL (g' := likeG g h us) rfl rfl i8
    have s08 := (((s04.trans s5).trans s6).trans s7).trans s8
    have fd : H A'.d = none := none_back s12 nA.1
    have s09 : Same H (upd H8 A'.d (.dK { A' with L := v8 }.kvs)) := same_kp1 s08 Kp.upd fd
    refine ⟨_, rfl, a, CP, dx, _, _, rfl, s09 _ _ hI, Cc.cls, Cc.roads, l_roads, _, rfl, _, rfl, _, likeG g h us, { A' with L := v8 }, p, h, rfl, hvr.same s09, ok', hol9, h2, hwl, hl, fun H10 k10 t10 hol10 => ?_⟩
    have s10 : Same H H10 := same_kp s09 k10 fun c hc => by
      simp only [List.mem_cons, List.not_mem_nil, or_false] at hc
      rcases hc with rfl | rfl
      · exact none_back s12 nA.2.2.1
      · exact none_back s12 nA.2.2.2.2
    refine ⟨_, rfl, a, dx, _, rfl, s10 _ _ hI, rfl, _, rfl, a, g, A, p, n, likeG g h us, { A' with L := v8 }, _, rfl, pb.same s10, rfl, rfl, hol10, hn, fun H11 k11 t11 pb11 => ?_⟩
    exact q H11 _ (s10.kp.trans k11) (s10.tk.trans t11) pb11
end
end Lw
end
section
/-! Turns, what they make of a stand; the graph of stands; a walk in depth; ranks. -/
set_option autoImplicit false
namespace Lk
/-! ### turns -/
def turnsF : Nat → List (List Int)
  | 0 => [[]]
  | n + 1 => turnsF n ++ (turnsF n).map fun t => t ++ [((n + 1 : Nat) : Int)]
def allTurns (m : Nat) : List (List Int) := (turnsF (m - 1)).drop 1
theorem turnsF_len : ∀ n, (turnsF n).length = 2 ^ n
  | 0 => rfl
  | n + 1 => by unfold turnsF; rw [List.length_append, List.length_map, turnsF_len n, Nat.pow_succ]; omega
theorem turnsF_rng : ∀ {n : Nat} {t : List Int}, t ∈ turnsF n → ∀ x ∈ t, 1 ≤ x ∧ x ≤ n
  | 0, t, h, x, hx => by
    have : t = [] := by simpa [turnsF] using h
    subst this; cases hx
  | n + 1, t, h, x, hx => by
    unfold turnsF at h
    rcases List.mem_append.mp h with h | h
    · have := turnsF_rng h x hx; omega
    · obtain ⟨u, hu, rfl⟩ := List.mem_map.mp h
      rcases List.mem_append.mp hx with c | c
      · have := turnsF_rng hu x c; omega
      · rw [List.mem_singleton.mp c]; omega
theorem turnsF_tlen : ∀ {n : Nat} {t : List Int}, t ∈ turnsF n → t.length ≤ n
  | 0, t, h => by
    have : t = [] := by simpa [turnsF] using h
    subst this; exact Nat.le_refl _
  | n + 1, t, h => by
    unfold turnsF at h
    rcases List.mem_append.mp h with h | h
    · have := turnsF_tlen h; omega
    · obtain ⟨u, hu, rfl⟩ := List.mem_map.mp h
      have := turnsF_tlen hu
      rw [List.length_append, List.length_singleton]; omega
theorem allTurns_mem {m : Nat} {t : List Int} (h : t ∈ allTurns m) : t ∈ turnsF (m - 1) := List.mem_of_mem_drop h
theorem allTurns_len {m : Nat} (h : m ≤ 6) : (allTurns m).length ≤ 32 := by
  unfold allTurns
  rw [List.length_drop, turnsF_len]
  have : 2 ^ (m - 1) ≤ 2 ^ 5 := Nat.pow_le_pow_right (by decide) (by omega)
  omega
/-! ### what a turn makes -/
def choicesL (g : Gd) (s : List Way) : List Way := [0] :: (List.range (g.many - 1)).map fun i => choice g s ((i + 1 : Nat) : Int)
def madeB (best s : List Way) (t : List Int) : List Way := (List.range s.length).map fun i => if ((i : Nat) : Int) ∈ t then at_ best (i : Nat) else at_ s (i : Nat)
theorem choicesL_len {g : Gd} (h : 1 ≤ g.many) (s : List Way) : (choicesL g s).length = g.many := by unfold choicesL; simp; omega
theorem at_choices {g : Gd} {s : List Way} {h : Nat} (h1 : 1 ≤ h) (h2 : h < g.many) : at_ (choicesL g s) h = choice g s h := by
  rw [at_nat]
  unfold choicesL
  obtain ⟨k, rfl⟩ : ∃ k, h = k + 1 := ⟨h - 1, by omega⟩
  rw [List.getD_cons_succ, List.getD_eq_getElem?_getD, List.getElem?_map, List.getElem?_range (by omega)]
  rfl
theorem at_choices0 {g : Gd} {s : List Way} : at_ (choicesL g s) 0 = [0] := rfl
theorem at_made {best s : List Way} {t : List Int} {x : Nat} (h : x < s.length) : at_ (madeB best s t) x = if ((x : Nat) : Int) ∈ t then at_ best (x : Nat) else at_ s (x : Nat) := by
  rw [at_nat (madeB best s t)]
  unfold madeB
  rw [List.getD_eq_getElem?_getD, List.getElem?_map, List.getElem?_range h]
  rfl
theorem made_turned {g : Gd} {s : List Way} (k : g.Ok) (st : Stand g s) (t : List Int) : Turned g s (madeB (choicesL g s) s t) := by
  have hlo := k.lo
  refine ⟨by unfold madeB; rw [List.length_map, List.length_range]; exact st.len, ?_, fun h h1 h2 => ?_⟩
  · have := at_made (best := choicesL g s) (s := s) (t := t) (x := 0) (by rw [st.len]; omega)
    rw [show ((0 : Nat) : Int) = 0 from rfl] at this
    rw [this]
    split
    · rfl
    · exact st.hall
  · rw [at_made (by rw [st.len]; exact h2)]
    split
    · exact .inr (at_choices h1 h2)
    · exact .inl rfl
/-- a turn that changes nothing: each of its houses has its choice -/
theorem made_same {g : Gd} {s : List Way} (st : Stand g s) {t : List Int} (e : madeB (choicesL g s) s t = s) {h : Nat} (h1 : 1 ≤ h) (h2 : h < g.many) (m : (h : Int) ∈ t) : choice g s h = at_ s h := by
  have := at_made (best := choicesL g s) (s := s) (t := t) (x := h) (by rw [st.len]; exact h2)
  rw [e, if_pos m, at_choices h1 h2] at this
  exact this.symm
/-- steady: its choices are it -/
theorem choices_eq {g : Gd} {s : List Way} (k : g.Ok) (st : Stand g s) (e : ∀ h : Nat, 1 ≤ h → h < g.many → choice g s h = at_ s h) : choicesL g s = s := by
  have hlo := k.lo
  refine ext_at (choicesL_len (by omega) s) st.len fun x hx => ?_
  by_cases c : x = 0
  · subst c; exact at_choices0.trans st.hall.symm
  · rw [at_choices (by omega) hx]; exact e x (by omega) hx
theorem first_stand {g : Gd} (k : g.Ok) : Stand g (first g) := by
  refine ⟨first_len (by have := k.lo; omega), at_first 0, fun h h1 _ => .inl ?_⟩
  rw [at_first, if_neg (by omega)]
/-! ### how many stands -/
def prodL : List (List Way) → List (List Way)
  | [] => [[]]
  | r :: rs => ([] :: r).flatMap fun w => (prodL rs).map (w :: ·)
theorem flatMap_const {α β : Type} (f : α → List β) (c : Nat) : ∀ l : List α, (∀ a ∈ l, (f a).length = c) → (l.flatMap f).length = l.length * c
  | [], _ => by simp
  | a :: l, h => by
    rw [List.flatMap_cons, List.length_append, List.length_cons, Nat.succ_mul, h a List.mem_cons_self, flatMap_const f c l fun b hb => h b (List.mem_cons_of_mem _ hb)]
    omega
theorem prodL_len : ∀ rs : List (List Way), (prodL rs).length ≤ 2 ^ rs.flatten.length
  | [] => by simp [prodL]
  | r :: rs => by
    have ih := prodL_len rs
    unfold prodL
    rw [flatMap_const _ (prodL rs).length _ (fun w _ => by rw [List.length_map]), List.flatten_cons, List.length_append, List.length_cons, Nat.pow_add]
    exact Nat.mul_le_mul (Nat.lt_two_pow_self) ih
theorem mem_prodL : ∀ {rs s : List (List Way)} {v : List Way}, rs = s → v.length = rs.length → (∀ i, i < rs.length → v.getD i [] = [] ∨ v.getD i [] ∈ rs.getD i []) → v ∈ prodL rs
  | [], _, v, _, hl, _ => by
    have : v = [] := List.eq_nil_of_length_eq_zero hl
    subst this; simp [prodL]
  | r :: rs, _, [], _, hl, _ => by simp at hl
  | r :: rs, _, w :: v, _, hl, h => by
    unfold prodL
    refine List.mem_flatMap.mpr ⟨w, ?_, List.mem_map.mpr ⟨v, ?_, rfl⟩⟩
    · have := h 0 (by simp)
      simp only [List.getD_cons_zero] at this
      rcases this with c | c
      · rw [c]; exact List.mem_cons_self
      · exact List.mem_cons_of_mem _ c
    · refine mem_prodL (s := rs) rfl (by simpa using hl) fun i hi => ?_
      have := h (i + 1) (by simpa using hi)
      simpa using this
theorem stand_prod {g : Gd} (k : g.Ok) {s : List Way} (st : Stand g s) : s ∈ (prodL g.likes).map ([0] :: ·) := by
  have hlo := k.lo
  have hll := k.len
  have hsl := st.len
  cases s with
  | nil => simp at hsl; omega
  | cons a v =>
    have ha : a = [0] := st.hall
    subst ha
    refine List.mem_map.mpr ⟨v, mem_prodL (s := g.likes) rfl (by simp at hsl; omega) fun i hi => ?_, rfl⟩
    have h1 := st.own (i + 1) (by omega) (by omega)
    rw [at_nat] at h1
    rw [List.getD_cons_succ] at h1
    have e := k.row_eq (h := i + 1) (by omega) (by omega)
    rw [show i + 1 - 1 = i by omega] at e
    rw [show g.likes.getD i [] = g.row ((i + 1 : Nat) : Int) by rw [List.getD_eq_getElem?_getD, e]; rfl]
    exact h1
theorem stands_len {g : Gd} (k : g.Ok) {l : List (List Way)} (nd : l.Nodup) (h : ∀ s ∈ l, Stand g s) : l.length ≤ 512 := by
  have h1 := nd.length_le_of_subset (l₂ := (prodL g.likes).map ([0] :: ·)) fun s hs => stand_prod k (h s hs)
  rw [List.length_map] at h1
  have h2 := prodL_len g.likes
  have h3 : 2 ^ g.likes.flatten.length ≤ 2 ^ 9 := Nat.pow_le_pow_right (by decide) k.tot
  omega
/-! ### the graph -/
abbrev Sd := List Way
def succs (g : Gd) (s : Sd) : List (List Int × Sd) := (allTurns g.many).map fun t => (t, madeB (choicesL g s) s t)
structure Gph (g : Gd) (ks : List Sd) : Prop where
  nd : ks.Nodup
  st : ∀ s ∈ ks, Stand g s
  fst : first g ∈ ks
  cl : ∀ s ∈ ks, ∀ p ∈ succs g s, p.2 ∈ ks
theorem succs_len {g : Gd} (s : Sd) : (succs g s).length = (allTurns g.many).length := by unfold succs; rw [List.length_map]
theorem succs_stand {g : Gd} (k : g.Ok) {s : Sd} (st : Stand g s) {p : List Int × Sd} (h : p ∈ succs g s) : Stand g p.2 := by
  obtain ⟨t, _, rfl⟩ := List.mem_map.mp h
  exact (made_turned k st t).stand st
theorem succs_pot {g : Gd} (k : g.Ok) {o : List Way} (io : IsOrd g o) {s : Sd} (st : Stand g s) {p : List Int × Sd} (h : p ∈ succs g s) : p.2 = s ∨ pot o p.2 < pot o s := by
  obtain ⟨t, _, rfl⟩ := List.mem_map.mp h
  by_cases c : madeB (choicesL g s) s t = s
  · exact .inl c
  · exact .inr (pot_lt k io st (made_turned k st t) c)
/-! ### a walk in depth -/
section
variable {α : Type} (succ : α → List α) (pt : α → Nat)
/-- the trail, its top first; up: what stands above -/
def Okt (order : List α) : List α → List (α × Nat) → Prop
  | _, [] => True
  | up, (a, k) :: r => k ≤ (succ a).length ∧ (∀ b ∈ (succ a).take k, b = a ∨ b ∈ order ∨ b ∈ up) ∧ Okt order (a :: up) r
/-- each one's followers stand ahead of it -/
def Topo (order : List α) : Prop := ∀ pre a post, order = pre ++ a :: post → ∀ b ∈ succ a, b = a ∨ b ∈ pre
structure Dfs (V seen order : List α) (tr : List (α × Nat)) : Prop where
  nd : order.Nodup
  sn : ∀ a, a ∈ seen ↔ a ∈ order ∨ a ∈ tr.map (·.1)
  snd : seen.Nodup
  sub : ∀ a ∈ seen, a ∈ V
  dis : ∀ a ∈ tr.map (·.1), a ∉ order
  dec : tr.Pairwise fun x y => pt x.1 < pt y.1
  topo : Topo succ order
  okt : Okt succ order [] tr
variable {succ pt}
theorem Okt.mono {order order' : List α} : ∀ {up up' : List α} {tr : List (α × Nat)}, Okt succ order up tr → (∀ b, b ∈ order ∨ b ∈ up → b ∈ order' ∨ b ∈ up') → Okt succ order' up' tr
  | _, _, [], _, _ => True.intro
  | up, up', (a, k) :: r, ⟨h1, h2, h3⟩, h => ⟨h1, fun b hb => (h2 b hb).elim .inl fun q => .inr (h b q), h3.mono fun b q => by
      rcases q with q | q
      · exact (h b (.inl q)).elim .inl fun z => .inr (List.mem_cons_of_mem _ z)
      · rcases List.mem_cons.mp q with z | z
        · exact .inr (z ▸ List.mem_cons_self)
        · exact (h b (.inr z)).elim .inl fun z => .inr (List.mem_cons_of_mem _ z)⟩
theorem Topo.snoc {order : List α} {a : α} (h : Topo succ order) (ha : ∀ b ∈ succ a, b = a ∨ b ∈ order) : Topo succ (order ++ [a]) := fun pre x post e b hb => by
  rcases List.append_eq_append_iff.mp e with ⟨as, e1, e2⟩ | ⟨cs, e1, e2⟩
  · cases as with
    | nil =>
      rw [List.append_nil] at e1
      rw [List.nil_append] at e2
      cases e2
      rw [e1]
      exact ha b hb
    | cons c as =>
      have := congrArg List.length e2
      simp at this
  · cases cs with
    | nil =>
      rw [List.nil_append] at e2
      have e3 := List.cons.inj e2
      rw [List.append_nil] at e1
      rw [← e1]
      rw [e3.1] at hb ⊢
      exact ha b hb
    | cons c cs =>
      have e3 := List.cons.inj e2
      exact h pre x cs (by rw [e1, e3.1]) b hb
theorem Dfs.zero {V : List α} : Dfs succ pt V [] [] [] := ⟨List.nodup_nil, fun a => by simp, List.nodup_nil, fun _ h => (nomatch h), fun _ h => (nomatch h), .nil, fun pre a post e => (by simp at e), True.intro⟩
/-- a new start -/
theorem Dfs.start {V seen order : List α} (d : Dfs succ pt V seen order []) {a : α} (ha : a ∈ V) (hn : a ∉ seen) : Dfs succ pt V (seen ++ [a]) order [(a, 0)] := by
  refine ⟨d.nd, fun x => ?_, ?_, fun x hx => ?_, fun x hx => ?_, List.pairwise_singleton _ _, d.topo, ⟨Nat.zero_le _, by simp, True.intro⟩⟩
  · rw [List.mem_append, d.sn x]; simp
  · rw [List.nodup_append]
    exact ⟨d.snd, by simp, fun x hx y hy q => by rw [List.mem_singleton.mp hy] at q; rw [q] at hx; exact hn hx⟩
  · rcases List.mem_append.mp hx with c | c
    · exact d.sub x c
    · rw [List.mem_singleton.mp c]; exact ha
  · have e : x = a := by simpa using hx
    subst e
    exact fun q => hn ((d.sn x).mpr (.inl q))
/-- the top is done -/
theorem Dfs.finish {V seen order : List α} {a : α} {k : Nat} {r : List (α × Nat)} (d : Dfs succ pt V seen order ((a, k) :: r)) (hk : k = (succ a).length) : Dfs succ pt V seen (order ++ [a]) r := by
  have hao := d.dis a (by simp)
  obtain ⟨_, h2, h3⟩ := d.okt
  have hdec := List.pairwise_cons.mp d.dec
  refine ⟨?_, fun x => ?_, d.snd, d.sub, fun x hx q => ?_, hdec.2, d.topo.snoc fun b hb => ?_, h3.mono fun b q => ?_⟩
  · rw [List.nodup_append]
    exact ⟨d.nd, by simp, fun x hx y hy q => by rw [List.mem_singleton.mp hy] at q; rw [q] at hx; exact hao hx⟩
  · rw [d.sn x]
    simp only [List.map_cons, List.mem_cons, List.mem_append, List.not_mem_nil, or_false]
    constructor
    · rintro (c | c | c)
      · exact .inl (.inl c)
      · exact .inl (.inr c)
      · exact .inr c
    · rintro ((c | c) | c)
      · exact .inl c
      · exact .inr (.inl c)
      · exact .inr (.inr c)
  · rcases List.mem_append.mp q with c | c
    · exact d.dis x (by simp only [List.map_cons]; exact List.mem_cons_of_mem _ hx) c
    · rw [List.mem_singleton.mp c] at hx
      obtain ⟨y, hy, e⟩ := List.mem_map.mp hx
      have := hdec.1 y hy
      simp only at this
      rw [e] at this
      exact Nat.lt_irrefl _ this
  · have := h2 b (by rw [hk, List.take_length]; exact hb)
    rcases this with c | c | c
    · exact .inl c
    · exact .inr c
    · cases c
  · rcases q with q | q
    · exact .inl (List.mem_append_left _ q)
    · exact .inl (List.mem_append_right _ q)
/-- the top's next follower is seen -/
theorem Dfs.skip {V seen order : List α} {a b : α} {k : Nat} {r : List (α × Nat)} (d : Dfs succ pt V seen order ((a, k) :: r)) (hb : (succ a)[k]? = some b) (hs : b ∈ seen) (hp : b = a ∨ pt b < pt a) : Dfs succ pt V seen order ((a, k + 1) :: r) := by
  obtain ⟨h1, h2, h3⟩ := d.okt
  have hdec := List.pairwise_cons.mp d.dec
  have hkl := (List.getElem?_eq_some_iff.mp hb).1
  refine ⟨d.nd, fun x => (d.sn x).trans (by simp), d.snd, d.sub, fun x hx => d.dis x (by simpa using hx), List.pairwise_cons.mpr ⟨fun y hy => hdec.1 y hy, hdec.2⟩, d.topo, ⟨hkl, fun x hx => ?_, h3⟩⟩
  rw [List.take_add_one, hb] at hx
  rcases List.mem_append.mp hx with c | c
  · exact h2 x c
  · have e : x = b := by simpa using c
    subst e
    rcases hp with z | z
    · exact .inl z
    · rcases (d.sn x).mp hs with q | q
      · exact .inr (.inl q)
      · exfalso
        simp only [List.map_cons, List.mem_cons] at q
        rcases q with q | q
        · rw [q] at z; exact Nat.lt_irrefl _ z
        · obtain ⟨y, hy, e⟩ := List.mem_map.mp q
          have := hdec.1 y hy
          simp only at this
          rw [e] at this
          omega
/-- the top's next follower is new -/
theorem Dfs.push {V seen order : List α} {a b : α} {k : Nat} {r : List (α × Nat)} (d : Dfs succ pt V seen order ((a, k) :: r)) (hb : (succ a)[k]? = some b) (hV : b ∈ V) (hs : b ∉ seen) (hp : b = a ∨ pt b < pt a) : Dfs succ pt V (seen ++ [b]) order ((b, 0) :: (a, k + 1) :: r) := by
  obtain ⟨h1, h2, h3⟩ := d.okt
  have hdec := List.pairwise_cons.mp d.dec
  have hkl := (List.getElem?_eq_some_iff.mp hb).1
  have hba : b ≠ a := fun e => hs (by rw [e]; exact (d.sn a).mpr (.inr (by simp)))
  have hlt : pt b < pt a := hp.resolve_left hba
  refine ⟨d.nd, fun x => ?_, ?_, fun x hx => ?_, fun x hx => ?_, ?_, d.topo, ⟨Nat.zero_le _, by simp, hkl, fun x hx => ?_, h3.mono fun x q => ?_⟩⟩
  · rw [List.mem_append, d.sn x]
    simp only [List.map_cons, List.mem_cons, List.not_mem_nil, or_false]
    constructor
    · rintro ((c | c | c) | c)
      · exact .inl c
      · exact .inr (.inr (.inl c))
      · exact .inr (.inr (.inr c))
      · exact .inr (.inl c)
    · rintro (c | c | c | c)
      · exact .inl (.inl c)
      · exact .inr c
      · exact .inl (.inr (.inl c))
      · exact .inl (.inr (.inr c))
  · rw [List.nodup_append]
    exact ⟨d.snd, by simp, fun x hx y hy q => by rw [List.mem_singleton.mp hy] at q; rw [q] at hx; exact hs hx⟩
  · rcases List.mem_append.mp hx with c | c
    · exact d.sub x c
    · rw [List.mem_singleton.mp c]; exact hV
  · simp only [List.map_cons, List.mem_cons] at hx
    rcases hx with c | c | c
    · rw [c]; exact fun q => hs ((d.sn b).mpr (.inl q))
    · exact d.dis x (by simp [c])
    · exact d.dis x (by simp only [List.map_cons]; exact List.mem_cons_of_mem _ c)
  · refine List.pairwise_cons.mpr ⟨fun y hy => ?_, List.pairwise_cons.mpr ⟨fun y hy => hdec.1 y hy, hdec.2⟩⟩
    rcases List.mem_cons.mp hy with c | c
    · rw [c]; exact hlt
    · have := hdec.1 y c
      simp only at this ⊢
      omega
  · rw [List.take_add_one, hb] at hx
    rcases List.mem_append.mp hx with c | c
    · exact (h2 x c).elim .inl fun q => q.elim (fun q => .inr (.inl q)) fun q => nomatch q
    · have e : x = b := by simpa using c
      exact .inr (.inr (by simp [e]))
  · rcases q with q | q
    · exact .inl q
    · exact .inr (by simp only [List.mem_cons, List.not_mem_nil, or_false] at q ⊢; exact .inl q)
/-- what is left to do -/
def todo (T : Nat) (V seen : List α) (tr : List (α × Nat)) : Nat := (V.length - seen.length) * (T + 2) + (tr.map fun x => T + 1 - x.2).sum
theorem Dfs.le {V seen order : List α} {tr : List (α × Nat)} (d : Dfs succ pt V seen order tr) : seen.length ≤ V.length := d.snd.length_le_of_subset d.sub
theorem Dfs.order_le {V seen order : List α} {tr : List (α × Nat)} (d : Dfs succ pt V seen order tr) : order.length ≤ V.length := d.nd.length_le_of_subset fun x hx => d.sub x ((d.sn x).mpr (.inl hx))
theorem Dfs.tr_le {V seen order : List α} {tr : List (α × Nat)} (d : Dfs succ pt V seen order tr) : tr.length ≤ V.length := by
  have nd : (tr.map (·.1)).Nodup := by
    rw [List.nodup_iff_pairwise_ne, List.pairwise_map]
    exact d.dec.imp fun {x y} h e => by rw [e] at h; exact Nat.lt_irrefl _ h
  have := nd.length_le_of_subset (l₂ := V) fun x hx => d.sub x ((d.sn x).mpr (.inr hx))
  rwa [List.length_map] at this
theorem todo_finish {T : Nat} {V seen : List α} {a : α} {k : Nat} {r : List (α × Nat)} (hk : k ≤ T) : todo T V seen r < todo T V seen ((a, k) :: r) := by
  unfold todo; simp only [List.map_cons, List.sum_cons]; omega
theorem todo_skip {T : Nat} {V seen : List α} {a : α} {k : Nat} {r : List (α × Nat)} (hk : k < T) : todo T V seen ((a, k + 1) :: r) < todo T V seen ((a, k) :: r) := by
  unfold todo; simp only [List.map_cons, List.sum_cons]; omega
theorem todo_push {T : Nat} {V seen : List α} {a b : α} {k : Nat} {r : List (α × Nat)} (hk : k < T) (hl : (seen ++ [b]).length ≤ V.length) : todo T V (seen ++ [b]) ((b, 0) :: (a, k + 1) :: r) < todo T V seen ((a, k) :: r) := by
  rw [List.length_append, List.length_singleton] at hl
  unfold todo
  rw [List.length_append, List.length_singleton]
  simp only [List.map_cons, List.sum_cons]
  have e : (V.length - seen.length) * (T + 2) = (V.length - (seen.length + 1)) * (T + 2) + (T + 2) := by
    rw [← Nat.succ_mul]; congr 1; omega
  omega
/-- all the followed stand before: in the order turned round -/
theorem Topo.rev {order : List α} (h : Topo succ order) (nd : order.Nodup) {i : Nat} {a b : α} (ha : order.reverse[i]? = some a) (hb : b ∈ order) (hs : a ∈ succ b) : b = a ∨ b ∈ order.reverse.take i := by
  obtain ⟨pre, post, e⟩ := List.append_of_mem hb
  rcases h pre b post e a hs with c | c
  · exact .inl c.symm
  · right
    have e2 : order.reverse = (post.reverse ++ [b]) ++ pre.reverse := by rw [e]; simp
    have hi : post.length + 1 ≤ i := by
      refine Nat.le_of_not_lt fun q => ?_
      have h3 : a ∈ post.reverse ++ [b] := by
        rw [e2, List.getElem?_append_left (by simp; omega)] at ha
        exact List.mem_of_getElem? ha
      rw [e, List.nodup_append] at nd
      rcases List.mem_append.mp h3 with z | z
      · exact nd.2.2 a c a (List.mem_cons_of_mem _ (by simpa using z)) rfl
      · rw [List.mem_singleton.mp z] at c
        exact nd.2.2 b c b List.mem_cons_self rfl
    rw [e2, List.take_append, List.take_of_length_le (by simp; omega)]
    exact List.mem_append_left _ (by simp)
end
end Lk
end
section
set_option Elab.async false
set_option linter.all false
set_option maxRecDepth 100000
set_option maxHeartbeats 2000000
/-! Turns; what they make. -/
namespace Lw
open PySem PySem.Spec PyProof.Rows L2
open Lk (Way Gd IsWay ltP Sd Stand)
abbrev eEd : List Int × Sd → PyData := eP eW eS
theorem enc_Ed : EncOk eEd 3 := enc_pair (enc_W.mono (by decide)) enc_S
theorem flat_Ed (p : List Int × Sd) : flat (eEd p) = true := flat_pair flat_W flat_S p
theorem eW_snoc (t : List Int) (x : Int) : PyData.tuple (t.map eI ++ [PyData.int x]) = eW (t ++ [x]) := by show _ = PyData.tuple ((t ++ [x]).map eI); rw [List.map_append]; rfl
theorem filterMap_cg {α β : Type} {f g : α → Option β} : ∀ {l : List α}, (∀ a ∈ l, f a = g a) → l.filterMap f = l.filterMap g
  | [], _ => rfl
  | a :: l, h => by rw [List.filterMap_cons, List.filterMap_cons, h a List.mem_cons_self, filterMap_cg fun b hb => h b (List.mem_cons_of_mem _ hb)]
section
variable {P : Program} {w : World} {K : PySem.W.Frag} {mg : Str → Option Value} {base : Heap}
theorem sc_all_turns : FnScope ["many", "found", "house", "turn"] ["many"] (defScope s_all_turns) := ⟨rfl, rfl, rfl, by decide +kernel, rfl, by decide +kernel, by decide +kernel⟩
def S_all_turns (P : Program) (w : World) (K : PySem.W.Frag) : Sp := fun vs H Q _ => ∃ m : Nat, vs = [.int m] ∧ 1 ≤ m ∧ m ≤ 6 ∧ ∀ p H', Same H H' → H p = none → Im K H' (.ref p) (eL eW (Lk.allTurns m)) → Q (.ref p) H'
theorem w_all_turns (B : Bi mg) (D : Df K mg "all_turns" s_all_turns) : Has P w K mg base 1 "all_turns" ["many"] (S_all_turns P w K) := by
  refine D.has sc_all_turns (fun vs H Q E h => ?_) (fun _ _ _ _ _ _ us hl => match us, hl with | [_], _ => rfl) (fun f cdv A outer s H vs Q E hr h => ?_)
  rotate_left
  have nd := sc_all_turns.nd
  have hu := hr.units
  have hu0 := hr.units0
  have hu1 := hu_of hr
  refine ⟨_, (pss_cons (ps_set (i := 1) nd rfl (Or.inl rfl) (pe_lstD (pa_cons (pe_tupD pa_nil) pa_nil))) (pss_cons (ps_for (passes_of rfl) rfl (pi_range2 (by rfl) B.range (pa_cons pe_int (pa_cons (pv 0) pa_nil))) (pg_name (i := 2) nd rfl (Or.inr rfl)) (pss_one (ps_set (i := 1) nd rfl (Or.inl rfl) (pe_op op_catLD (pv 1) (pe_lc (g := (gName 3)) (tt := tYes) (te := (tOp (rCatT' K) (tVar 3) (tDispT K (tCons (tVar 2) tNil)))) rfl nd (pi_seq (pv 1)) (blkOk_by (own := [("turn", 3)]) (by rfl)) (fun _ _ _ _ _ => (pg_name (i := 3) nd rfl (Or.inl rfl))) (fun _ _ _ _ _ => pts_nil) (fun _ _ _ _ _ => (pe_op op_catTD (pv 3) (pe_tupD (pa_cons (pv 2) pa_nil))))))))) (pss_one (ps_ret (pe_slice sl_D (pv 1) (po_some pe_int) po_none))))), ?_⟩
  rotate_left
  · obtain ⟨_, rfl, _⟩ := h
    rfl
  · obtain ⟨m, rfl, h1, h6, q⟩ := h
    refine ⟨Nat.zero_le _, [], .nil, fun p1 H1 s1 f1 i1 => ⟨by show (1 : Nat) ≤ 1000; decide, _, .cons i1 .nil, fun p2 H2 s2 f2 i2 => ?_⟩⟩
    refine ⟨_, rfl, _, _, rfl, ⟨by decide, by decide, by omega, by omega⟩, ?_⟩
    have en : ((m : Int) - 1).toNat = m - 1 := by omega
    rw [en]
    refine for_R (fun i σ' H' => (∃ fd x y, σ' = [some (.int m), some fd, x, y] ∧ Im K H' fd (eL eW (Lk.turnsF i))) ∧ Same H H') ⟨⟨_, none, none, rfl, i2⟩, s1.trans s2⟩ (fun i σ' H' hi pv => ?_) (fun σ' H' pv => ?_)
    · obtain ⟨⟨fd, x, y, rfl, im⟩, sH⟩ := pv
      have hlen : (Lk.turnsF i).length ≤ 32 := by
        rw [Lk.turnsF_len]
        have : 2 ^ i ≤ 2 ^ 5 := Nat.pow_le_pow_right (by decide) (by omega)
        omega
      refine ⟨_, rfl, _, rfl, lc_T (.inr im) (small_line (by omega)) (fun t => some (eW (t ++ [1 + (i : Int)]))) (fun D t x H3 QT QF ht s3 hN hx kT kF => ?_) (fun p3 H3 s3 f3 i3 => ?_)⟩
      · have htl := Lk.turnsF_tlen ht
        refine ⟨rfl, _, rfl, _, rfl, by show (1 : Nat) ≤ 1000; decide, _, .cons (.int _) .nil, fun p4 H4 s4 f4 i4 => ?_⟩
        refine ⟨_, _, hx.same s4, i4, by rw [List.length_map]; show _ + 1 ≤ _; omega, fun v5 H5 s5 i5 => kT _ _ _ rfl (s4.trans s5) ?_⟩
        rw [eW_snoc] at i5
        exact i5.stb (flat_W _)
      · rw [List.filterMap_eq_map'] at i3
        refine ⟨_, _, im.same s3, i3, by rw [List.length_map, List.length_map]; omega, fun p6 H6 s6 f6 i6 => ⟨⟨_, _, _, rfl, ?_⟩, (sH.trans s3).trans s6⟩⟩
        have e : (Lk.turnsF i).map eW ++ (Lk.turnsF i).map (fun t => eW (t ++ [1 + (i : Int)])) = (Lk.turnsF (i + 1)).map eW := by
          rw [Lk.turnsF, List.map_append, List.map_map]
          congr 2
          funext t
          show eW _ = eW (t ++ [((i + 1 : Nat) : Int)])
          rw [show ((i + 1 : Nat) : Int) = 1 + (i : Int) by omega]
        rw [e] at i6
        exact i6
    · obtain ⟨⟨fd, x, y, rfl, im⟩, sH⟩ := pv
      refine ⟨_, rfl, _, rfl, .inr ⟨_, im, fun p H3 s3 f3 i3 => q p H3 (sH.trans s3) (none_back sH f3) ?_⟩⟩
      rw [show (1 : Int) = ((1 : Nat) : Int) from rfl, cutD_from, ← List.map_drop] at i3
      exact i3
theorem sc_all_made : FnScope ["guild", "stand", "turns", "best", "turn", "at", "way"] ["guild", "stand", "turns"] (defScope s_all_made) := ⟨rfl, rfl, rfl, by decide +kernel, rfl, by decide +kernel, by decide +kernel⟩
def S_all_made (P : Program) (w : World) (K : PySem.W.Frag) : Sp := fun vs H Q _ => ∃ v1 v2 v3 g s, vs = [v1, v2, v3] ∧ Im K H v1 (eG g) ∧ Im K H v2 (eS s) ∧ Im K H v3 (eL eW (Lk.allTurns g.many)) ∧ g.Ok ∧ Stand g s ∧ ∀ p H', Same H H' → H p = none → Im K H' (.ref p) (eL eEd (Lk.succs g s)) → Q (.ref p) H'
theorem made_map (best s : List Way) (t : List Int) : ((List.range (s.map eW).length).filterMap fun i => ((s.map eW)[i]?).bind fun d => some (if ((i : Nat) : Int) ∈ t then eW (Lk.at_ best (i : Nat)) else d)) = (Lk.madeB best s t).map eW := by
  unfold Lk.madeB
  rw [List.map_map, List.length_map, show ∀ (f : Nat → PyData) (l : List Nat), l.map f = l.filterMap (fun i => some (f i)) from fun f l => (List.filterMap_eq_map' (f := f)).symm ▸ rfl]
  refine filterMap_cg fun i hi => ?_
  have hi := List.mem_range.mp hi
  rw [List.getElem?_map, List.getElem?_eq_getElem hi]
  show some _ = some _
  congr 1
  show _ = eW (if ((i : Nat) : Int) ∈ t then _ else _)
  have e : Lk.at_ s (i : Nat) = s[i] := by rw [Lk.at_nat, List.getD_eq_getElem?_getD, List.getElem?_eq_getElem hi]; rfl
  split
  · rfl
  · rw [e]
theorem w_all_made (B : Bi mg) (D : Df K mg "all_made" s_all_made) (hchoices : Has P w K mg base 3 "choices" ["guild", "stand"] (S_choices P w K)) : Has P w K mg base 4 "all_made" ["guild", "stand", "turns"] (S_all_made P w K) := by
  refine D.has sc_all_made (fun vs H Q E h => ?_) (fun _ _ _ _ _ _ us hl => match us, hl with | [_, _, _], _ => rfl) (fun f cdv A outer s H vs Q E hr h => ?_)
  rotate_left
  have nd := sc_all_made.nd
  have hu := hr.units
  have hu0 := hr.units0
  have hu1 := hu_of hr
  refine ⟨_, (pss_cons (ps_set (i := 3) nd rfl (Or.inr rfl) (pe_has hchoices hr (by decide) (pa_cons (pv 0) (pa_cons (pv 1) pa_nil)))) (pss_one (ps_ret (pe_lc (g := (gName 4)) (tt := tYes) (te := (tDispT K (tCons (tVar 4) (tCons (tCB (rTupD K) (tCons (tLc (iEnumA K (tCons (tVar 1) tNil)) (gTup K 2 (gCons (gName 5) (gCons (gName 6) gNil))) tYes (tIf (tTest (tOp (rInE false K) (tVar 5) (tVar 4))) (tOp (rIxD K) (tVar 3) (tVar 5)) (tVar 6)) [5, 6]) tNil)) tNil)))) rfl nd (pi_seq (pv 2)) (blkOk_by (own := [("turn", 4)]) (by rfl)) (fun _ _ _ _ _ => (pg_name (i := 4) nd rfl (Or.inr rfl))) (fun _ _ _ _ _ => pts_nil) (fun _ _ _ _ _ => (pe_tupD (pa_cons (pv 4) (pa_cons (pe_callTy call_tupD (by rfl) B.tuple (by decide +kernel) (pa_cons (pe_lc (g := (gTup K 2 (gCons (gName 5) (gCons (gName 6) gNil)))) (tt := tYes) (te := (tIf (tTest (tOp (rInE false K) (tVar 5) (tVar 4))) (tOp (rIxD K) (tVar 3) (tVar 5)) (tVar 6))) rfl nd (pi_enumA (by rfl) B.enumerate (pa_cons (pv 1) pa_nil)) (blkOk_by (own := [("at", 5), ("way", 6)]) (by rfl)) (fun _ _ _ _ _ => (pg_tup (by rfl) (pgs_cons (pg_name (i := 5) nd rfl (Or.inl rfl)) (pgs_cons (pg_name (i := 6) nd rfl (Or.inl rfl)) pgs_nil)))) (fun _ _ _ _ _ => pts_nil) (fun _ _ _ _ _ => (pe_ifExp (pt_cmpR (op_inE hu) (pv 5) (pv 4) (by rfl)) (pe_ix ix_D (pv 3) (pv 5) (fun _ _ => rfl)) (pv 6)))) pa_nil)) pa_nil)))))))), ?_⟩
  rotate_left
  · obtain ⟨_, _, _, _, _, rfl, _⟩ := h
    rfl
  · obtain ⟨v1, v2, v3, g, s, rfl, h1, h2, h3, ok, st, q⟩ := h
    have hlo := ok.lo
    have hhi := ok.hi
    have hsl := st.len
    refine ⟨_, rfl, _, rfl, _, _, g, s, rfl, h1, h2, ⟨ok, st.len⟩, fun r1 H1 s1 i1 => ?_⟩
    have i1 : Im K H1 r1 (eS (Lk.choicesL g s)) := i1
    have htl := Lk.allTurns_len hhi
    refine ⟨_, rfl, lc_T (.inr (h3.same s1)) (small_line (by omega)) (fun t => some (eEd (t, Lk.madeB (Lk.choicesL g s) s t))) (fun D t x H2 QT QF ht s2 hN hx kT kF => ?_) (fun p H2 s2 f2 i2 => ?_)⟩
    · refine ⟨rfl, _, rfl, _, rfl, lc_E (.inl ((h2.same s1).same s2)) (by rw [List.length_map]; exact small_line (by omega)) (fun i d => some (if ((i : Nat) : Int) ∈ t then eW (Lk.at_ (Lk.choicesL g s) (i : Nat)) else d)) (fun D2 i d v T H3 QT2 QF2 hd s3 hN2 hv hT kT2 kF2 => ?_) (fun p3 H3 s3 f3 i3 => ?_)⟩
      · rw [List.getElem?_map] at hd
        obtain ⟨u, hu, rfl⟩ := Option.map_eq_some_iff.mp hd
        have hi := (List.getElem?_eq_some_iff.mp hu).1
        refine ⟨T, _, rfl, SqT.of hT, rfl, _, _, rfl, _, _, rfl, rfl, rfl, ?_⟩
        refine ⟨_, rfl, _, rfl, _, inferInstance, eI, 0, (i : Int), t, enc_int, by decide, .int _, .inl (hx.same s3), _, rfl, ?_⟩
        by_cases c : (i : Int) ∈ t
        · refine ifT (by rw [if_neg (by decide)]; exact decide_eq_true c) ⟨_, rfl, _, rfl, _, (i : Int), eW (Lk.at_ (Lk.choicesL g s) (i : Nat)), .inl ((i1.same s2).same s3), rfl, atI_at (by omega) (by rw [Lk.choicesL_len (by omega)]; omega), fun y hy => kT2 _ _ _ (by rw [if_pos c]) (Same.refl _) (hy.stb (flat_W _))⟩
        · exact ifF (by rw [if_neg (by decide)]; exact decide_eq_false c) ⟨_, rfl, kT2 _ _ _ (by rw [if_neg c]) (Same.refl _) (hv.stb (flat_W _))⟩
      · rw [made_map] at i3
        refine ⟨_, _, rfl, .inr i3, fun v4 H4 s4 i4 => ⟨by show (2 : Nat) ≤ 1000; decide, _, .cons ((hx.same s3).same s4) (.cons i4 .nil), fun p5 H5 s5 f5 i5 => kT _ _ _ rfl ((s3.trans s4).trans s5) (Im.stb (d := eEd (t, Lk.madeB (Lk.choicesL g s) s t)) i5 (flat_Ed _))⟩⟩
    · rw [List.filterMap_eq_map'] at i2
      refine q p H2 (s1.trans s2) (none_back s1 f2) ?_
      unfold Lk.succs eL
      rw [List.map_map]
      exact i2
end
end Lw
end
section
set_option Elab.async false
set_option linter.all false
set_option maxRecDepth 100000
set_option maxHeartbeats 2000000
/-! The graph of stands. -/
namespace Lk
/-- the graph as far as it goes: ks done, rw known alone -/
structure Grow (g : Gd) (ks rw kn : List Sd) : Prop where
  nd : (ks ++ rw).Nodup
  mem : ∀ s, s ∈ kn ↔ s ∈ ks ++ rw
  st : ∀ s ∈ kn, Stand g s
  fst : first g ∈ kn
  cl : ∀ s ∈ ks, ∀ p ∈ succs g s, p.2 ∈ kn
variable {g : Gd} {ks rw kn : List Sd}
theorem Grow.zero (k : g.Ok) : Grow g [] [first g] [first g] := ⟨by simp, fun s => by simp, fun s hs => by rw [List.mem_singleton.mp hs]; exact first_stand k, by simp, fun _ h => nomatch h⟩
theorem Grow.add (d : Grow g ks rw kn) {b : Sd} (hb : b ∉ kn) (st : Stand g b) : Grow g ks (rw ++ [b]) (kn ++ [b]) := by
  refine ⟨?_, fun s => ?_, fun s hs => ?_, List.mem_append_left _ d.fst, fun s hs p hp => List.mem_append_left _ (d.cl s hs p hp)⟩
  · rw [← List.append_assoc, List.nodup_append]
    exact ⟨d.nd, by simp, fun x hx y hy e => by rw [List.mem_singleton.mp hy] at e; rw [e] at hx; exact hb ((d.mem b).mpr hx)⟩
  · rw [List.mem_append, d.mem s, ← List.append_assoc, List.mem_append (s := ks ++ rw)]
  · rcases List.mem_append.mp hs with c | c
    · exact d.st s c
    · rw [List.mem_singleton.mp c]; exact st
theorem Grow.done {s : Sd} (d : Grow g ks (s :: rw) kn) (h : ∀ p ∈ succs g s, p.2 ∈ kn) : Grow g (ks ++ [s]) rw kn := by
  have e : ks ++ [s] ++ rw = ks ++ s :: rw := by simp
  refine ⟨by rw [e]; exact d.nd, fun x => by rw [e]; exact d.mem x, d.st, d.fst, fun x hx p hp => ?_⟩
  rcases List.mem_append.mp hx with c | c
  · exact d.cl x c p hp
  · rw [List.mem_singleton.mp c] at hp; exact h p hp
theorem Grow.gph (d : Grow g ks [] kn) : Gph g ks := by
  have nd := d.nd
  have mem := d.mem
  rw [List.append_nil] at nd mem
  exact ⟨nd, fun s hs => d.st s ((mem s).mpr hs), (mem _).mp d.fst, fun s hs p hp => (mem _).mp (d.cl s hs p hp)⟩
end Lk
namespace Lw
open PySem PySem.Spec PyProof.Rows L2
open Lk (Way Gd IsWay ltP Sd Stand Grow Gph)
section
variable {P : Program} {w : World} {K : PySem.W.Frag} {κ : Type} [DecidableEq κ] {e : κ → PyData} {H H' : Hp} {d : Addr} {S : List Addr} {ks : List κ} {f f' : κ → List PyData} {as : κ → Addr}
theorem DL.congr (x : DL P w K e H d S ks f as) (h : ∀ k ∈ ks, f k = f' k) : DL P w K e H d S ks f' as := ⟨x.1, fun k hk => by rw [← h k hk]; exact x.2.1 k hk, x.2.2⟩
theorem DL.df (x : DL P w K e H d S ks f as) : DF P w K e H d ks (fun k => .list (f k)) := by
  refine ⟨kvr ks as, x.1, kvr_keys, fun p hp => ?_⟩
  obtain ⟨k, hk, rfl⟩ := List.mem_map.mp hp
  exact stb_list (x.ls hk).im (x.ne_d hk) (x.2.1 k hk).2.2
end
/-- a dict's keys -/
def DKs (P : Program) (w : World) (K : PySem.W.Frag) (H : Hp) (d : Addr) (ks : List Sd) : Prop := ∃ kvs, DN P w eS K H d kvs ∧ kvs.map (·.1) = ks
section
variable {P : Program} {w : World} {K : PySem.W.Frag} {mg : Str → Option Value} {base : Heap}
theorem DKs.put {H' : Hp} {d : Addr} {ks : List Sd} {k : Sd} {v : V} {kvs : List (Sd × V)} (hk : k ∉ ks) (e : kvs.map (·.1) = ks) (dn : DN P w eS K H' d (dput kvs k v)) : DKs P w K H' d (ks ++ [k]) := ⟨_, dn, by rw [dput_keys, e]; unfold dadd; rw [if_neg hk]⟩
theorem sc_graph_of : FnScope ["guild", "most", "turns", "first", "found", "row", "known", "later", "stand", "turn", "after"] ["guild", "most"] (defScope s_graph_of) := ⟨rfl, rfl, rfl, by decide +kernel, rfl, by decide +kernel, by decide +kernel⟩
/-- the heap of the loops -/
structure GrH (P : Program) (w : World) (K : PySem.W.Frag) (g : Gd) (H : Hp) (F N L : Addr) (ks kn lt : List Sd) : Prop where
  dl : ∃ as, DL P w K eS H F [L, N] ks (fun k => (Lk.succs g k).map eEd) as
  kn : DKs P w K H N kn
  lt : Ls K H L (lt.map eS)
theorem DKs.same {H H' : Hp} {d : Addr} {ks : List Sd} (h : DKs P w K H d ks) (s : Same H H') : DKs P w K H' d ks := let ⟨kvs, a, b⟩ := h; ⟨kvs, a.same s, b⟩
theorem DKs.kp {H H' : Hp} {S : List Addr} {d : Addr} {ks : List Sd} (h : DKs P w K H d ks) (k : Kp S H H') (t : TK H H') (n : d ∉ S) : DKs P w K H' d ks := let ⟨kvs, a, b⟩ := h; ⟨kvs, a.kp key_S.flt k t n, b⟩
theorem DKs.ne_none {H : Hp} {d : Addr} {ks : List Sd} (h : DKs P w K H d ks) : H d ≠ none := let ⟨_, a, _⟩ := h; a.ne_none
theorem DKs.len {ks : List Sd} {kvs : List (Sd × V)} (e : kvs.map (·.1) = ks) : kvs.length = ks.length := by rw [← e, List.length_map]
theorem GrH.same {g : Gd} {H H' : Hp} {F N L : Addr} {ks kn lt : List Sd} (h : GrH P w K g H F N L ks kn lt) (s : Same H H') : GrH P w K g H' F N L ks kn lt := ⟨let ⟨as, d⟩ := h.dl; ⟨as, d.same s⟩, h.kn.same s, h.lt.same s⟩
def S_graph_of (P : Program) (w : World) (K : PySem.W.Frag) : Sp := fun vs H Q _ => ∃ v g, vs = [v, .int 1000] ∧ Im K H v (eG g) ∧ g.Ok ∧ ∀ ks d H', Gph g ks → Same H H' → H d = none → DF P w K eS H' d ks (fun k => eL eEd (Lk.succs g k)) → Q (.ref d) H'
theorem w_graph_of (B : Bi mg) (D : Df K mg "graph_of" s_graph_of) (hall_turns : Has P w K mg base 1 "all_turns" ["many"] (S_all_turns P w K)) (hfirst_stand : Has P w K mg base 1 "first_stand" ["guild"] (S_first_stand P w K))
    (hall_made : Has P w K mg base 4 "all_made" ["guild", "stand", "turns"] (S_all_made P w K)) : Has P w K mg base 5 "graph_of" ["guild", "most"] (S_graph_of P w K) := by
  refine D.has sc_graph_of (fun vs H Q E h => ?_) (fun _ _ _ _ _ _ us hl => match us, hl with | [_, _], _ => rfl) (fun f cdv A outer s H vs Q E hr h => ?_)
  rotate_left
  have nd := sc_graph_of.nd
  have hu := hr.units
  have hu0 := hr.units0
  have hu1 := hu_of hr
  refine ⟨_, (pss_cons (ps_set (i := 2) nd rfl (Or.inl rfl) (pe_has hall_turns hr (by decide) (pa_cons (pe_ix ix_D (pv 0) pe_int (fun _ _ => rfl)) pa_nil))) (pss_cons (ps_set (i := 3) nd rfl (Or.inl rfl) (pe_has hfirst_stand hr (by decide) (pa_cons (pv 0) pa_nil))) (pss_cons (ps_set (i := 4) nd rfl (Or.inl rfl) pe_newN) (pss_cons (ps_set (i := 5) nd rfl (Or.inl rfl) (pe_lstD (pa_cons (pv 3) pa_nil))) (pss_cons (ps_set (i := 6) nd rfl (Or.inl rfl) (pe_new1N hu (pv 3) pe_bl)) (pss_cons (ps_while (passes_of rfl) (pt_cmpR (op_neE hu) (pv 5) (pe_lstD pa_nil) (nomark _)) (pss_cons (ps_set (i := 7) nd rfl (Or.inl rfl) (pe_lstD pa_nil)) (pss_cons (ps_for (passes_of rfl) rfl (pi_seq (pv 5)) (pg_name (i := 8) nd rfl (Or.inl rfl)) (pss_cons (ps_asg (pe_has hall_made hr (by decide) (pa_cons (pv 0) (pa_cons (pv 8) (pa_cons (pv 2) pa_nil)))) (pg_sub (pv 4) (pv 8) (set_N hu))) (pss_cons (ps_for (passes_of rfl) rfl (pi_seq (pe_ix (ix_N hu) (pv 4) (pv 8) (fun _ _ => rfl))) (pg_tup (by rfl) (pgs_cons (pg_name (i := 9) nd rfl (Or.inl rfl)) (pgs_cons (pg_name (i := 10) nd rfl (Or.inl rfl)) pgs_nil))) (pss_one (ps_if (pt_cmpR (op_notInN hu) (pv 10) (pv 6) (by rfl)) (pss_cons (ps_asg pe_bl (pg_sub (pv 6) (pv 10) (set_N hu))) (pss_one (ps_expr (pe_bm PySem.F.plainAttrs_list PySem.F.slot_list_append PySem.F.type_list_append mt_appD (pv 7) (pa_cons (pv 10) pa_nil))))) pss_nil))) (pss_one (ps_if (pt_cmpR op_gt (pe_callB call_lenN (by rfl) B.len (by decide +kernel) (pa_cons (pv 6) pa_nil)) (pv 1) (nomark _)) (pss_one ps_never) pss_nil))))) (pss_one (ps_set (i := 5) nd rfl (Or.inl rfl) (pv 7)))))) (pss_one (ps_ret (pv 4))))))))), ?_⟩
  rotate_left
  · obtain ⟨_, _, rfl, _⟩ := h
    rfl
  · obtain ⟨v, g, rfl, h1, ok, q⟩ := h
    have hlo := ok.lo
    have hhi := ok.hi
    refine ⟨_, rfl, _, 0, .int g.many, .inl (eG_inv h1), rfl, rfl, fun x hx => ?_⟩
    cases hx
    refine ⟨g.many, rfl, by omega, by omega, fun pT H1 s1 f1 i1 => ?_⟩
    refine ⟨_, rfl, _, g, rfl, h1.same s1, ok, fun r2 H2 s2 i2 => ?_⟩
    have iT := i1.same s2
    have hg := h1.same (s1.trans s2)
    intro F fF
    have sF : Same H2 (upd H2 F (dN P w F [] 0)) := Same.new fF
    refine ⟨_, rfl, by show (1 : Nat) ≤ 1000; decide, _, .cons (i2.same sF) .nil, fun pR H3 s3 f3 i3 => ?_⟩
    have i3 : Im K H3 (.ref pR) (eL eS [Lk.first g]) := i3
    intro N fN
    have sN : Same H3 (upd H3 N (dN P w N [] 0)) := Same.new fN
    have sF3 := (sF.trans s3).trans sN
    refine ⟨_, rfl, _, inferInstance, eS, Lk.first g, key_S, i2.same sF3, upd_same, fun H4 k4 t4 d4 => ?_⟩
    have nFN : F ∉ [N] := by
      simp only [List.mem_singleton]
      rintro rfl
      have := s3 _ _ (upd_same (H := H2) (a := F) (o := dN P w F [] 0))
      rw [this] at fN; cases fN
    have nN2 : H2 N = none := none_back (sF.trans s3) fN
    have s24 : Same H2 H4 := same_kp1 sF3 k4 nN2
    have dl4 : DL P w K eS H4 F [N] ([] : List Sd) (fun k => (Lk.succs g k).map eEd) (fun _ => 0) := (DL.new (S := [N])).same (s3.trans sN) |>.kp key_S (fun a h => h) nFN k4 t4
    have i4 : Im K H4 (.ref pR) (eL eS [Lk.first g]) := ((i3.same sN).ls.kp k4 t4 (flatAll_map flat_S _) (by simp only [List.mem_singleton]; rintro rfl; exact i3.ls.ne_none fN)).im
    refine ⟨fun m σ' H' => ∃ rv rw_ ks kn y7 y8 y9 y10, σ' = [some v, some (.int 1000), some (.ref pT), some r2, some (.ref F), some rv, some (.ref N), y7, y8, y9, y10] ∧ m = 2 * (600 - kn.length) + (if rw_ = [] then 0 else 1) ∧ Grow g ks rw_ kn ∧ Same H2 H' ∧ (∃ as, DL P w K eS H' F [N] ks (fun k => (Lk.succs g k).map eEd) as) ∧ DKs P w K H' N kn ∧ kn.Nodup ∧ Im K H' rv (eL eS rw_),
      ⟨_, _, [Lk.first g], [], [Lk.first g], none, none, none, none, rfl, rfl, Grow.zero ok, s24, ⟨_, dl4⟩, ⟨_, d4, rfl⟩, by simp, i4⟩, ?_⟩
    rintro m σ' H' ⟨rv, rw_, ks, kn, y7, y8, y9, y10, rfl, rfl, gr, sH, ⟨as, dl⟩, dk, knd, irw⟩
    refine ⟨_, rfl, Nat.zero_le _, [], .nil, fun p5 H5 s5 f5 i5 => ?_⟩
    refine ⟨_, inferInstance, eL eS, 3, rw_, [], enc_lst enc_S, by decide, irw.same s5, i5, _, rfl, ?_⟩
    by_cases c : rw_ = []
    · subst c
      exact ifF (by simp) ⟨_, rfl, q ks F H5 gr.gph (((s1.trans s2).trans sH).trans s5) (none_back (s1.trans s2) fF) (dl.same s5).df⟩
    refine ifT (by simp [c]) ⟨fun σ' H' => ∃ m', m' < 2 * (600 - kn.length) + (if rw_ = [] then 0 else 1) ∧ ∃ rv rw_ ks kn y7 y8 y9 y10, σ' = [some v, some (.int 1000), some (.ref pT), some r2, some (.ref F), some rv, some (.ref N), y7, y8, y9, y10] ∧ m' = 2 * (600 - kn.length) + (if rw_ = [] then 0 else 1) ∧ Grow g ks rw_ kn ∧ Same H2 H' ∧ (∃ as, DL P w K eS H' F [N] ks (fun k => (Lk.succs g k).map eEd) as) ∧ DKs P w K H' N kn ∧ kn.Nodup ∧ Im K H' rv (eL eS rw_), fun _ _ h => h, ?_⟩
    rw [if_neg c]
    refine ⟨Nat.zero_le _, [], .nil, fun L H6 s6 f6 i6 => ?_⟩
    have s56 := s5.trans s6
    have sH6 := sH.trans s56
    have irw6 := irw.same s56
    have nL2 : H2 L = none := none_back (sH.trans s5) f6
    have nLN : L ≠ N := fun e => (dk.same s5).ne_none (by rw [← e]; exact f6)
    have nLF : L ≠ F := fun e => (dl.same s5).dn.ne_none (by rw [← e]; exact f6)
    have nFN' : F ≠ N := by simpa using nFN
    have dl6 : DL P w K eS H6 F [L, N] ks (fun k => (Lk.succs g k).map eEd) as := (((dl.same s5).grow f6).same s6)
    have nr : ∀ a ∈ [F, N, L], rv ≠ .ref a := fun a ha => by
      simp only [List.mem_cons, List.not_mem_nil, or_false] at ha
      rcases ha with rfl | rfl | rfl
      · exact irw6.ne_dn dl6.dn
      · exact let ⟨_, d, _⟩ := dk; irw.ne_dn d
      · exact (irw.same s5).ne_new f6
    refine ⟨_, rfl, ?_⟩
    refine for_LT irw6 (fun i σ' H' => ∃ ks' kn' lt y8 y9 y10, σ' = [some v, some (.int 1000), some (.ref pT), some r2, some (.ref F), some rv, some (.ref N), some (.ref L), y8, y9, y10] ∧ Grow g ks' (rw_.drop i ++ lt) kn' ∧ kn'.Nodup ∧ Kp [F, N, L] H6 H' ∧ TK H6 H' ∧ GrH P w K g H' F N L ks' kn' lt ∧ kn'.length = kn.length + lt.length)
      ⟨ks, kn, [], _, _, _, rfl, by rw [List.drop_zero, List.append_nil]; exact gr, knd, Kp.refl, TK.refl, ⟨⟨as, dl6⟩, dk.same s56, i6.ls⟩, rfl⟩ (fun i σ' H' p a e => keep_ne irw6 p.choose_spec.choose_spec.choose_spec.choose_spec.choose_spec.choose_spec.2.2.2.1 nr a e) (fun i s x σ' H' hs hx pv => ?_) (fun σ' H' pv => ?_)
    · obtain ⟨ks', kn', lt, y8', y9', y10', rfl, gr', knd', kp', tk', gh, hkl⟩ := pv
      obtain ⟨as', dl'⟩ := gh.dl
      have hdrop : rw_.drop i ++ lt = s :: (rw_.drop (i + 1) ++ lt) := by
        rw [List.drop_eq_getElem_cons (List.getElem?_eq_some_iff.mp hs).1, (List.getElem?_eq_some_iff.mp hs).2]; rfl
      rw [hdrop] at gr'
      have hskn : s ∈ kn' := (gr'.mem s).mpr (by simp)
      have st := gr'.st s hskn
      have hsks : s ∉ ks' := fun m => by
        have := gr'.nd
        rw [List.nodup_append] at this
        exact this.2.2 s m s (by simp) rfl
      have sH' : Same H2 H' := same_kp sH6 kp' fun a ha => by
        simp only [List.mem_cons, List.not_mem_nil, or_false] at ha
        rcases ha with rfl | rfl | rfl
        · exact fF
        · exact nN2
        · exact nL2
      have hx' : Im K H' x (eS s) := hx.tk tk' (flat_S s)
      have hkn5 : ∀ {l : List Sd}, l.Nodup → (∀ z ∈ l, Stand g z) → l.length ≤ 512 := fun nd h => Lk.stands_len ok nd h
      have hksl : ks'.length ≤ 512 := by
        have := gr'.nd
        rw [List.nodup_append] at this
        exact hkn5 this.1 fun z hz => gr'.st z ((gr'.mem z).mpr (List.mem_append_left _ hz))
      refine ⟨_, rfl, _, rfl, _, rfl, _, _, _, g, s, rfl, hg.same sH', hx', iT.same sH', ok, st, fun pM H7 s7 f7 i7 => ?_⟩
      refine ⟨_, rfl, _, rfl, _, inferInstance, eS, s, F, kvr ks' as', key_S, rfl, (dl'.same s7).dn, hx'.same s7, by rw [dl'.len, sizeLine_eq]; omega, fun H8 k8 t8 d8 => ?_⟩
      have nM : pM ∉ [L, N] := by
        simp only [List.mem_cons, List.not_mem_nil, or_false]
        rintro (rfl | rfl)
        · exact gh.lt.ne_none f7
        · exact gh.kn.ne_none f7
      have nMF : pM ≠ F := fun e => dl'.dn.ne_none (by rw [← e]; exact f7)
      have dl8 := ((dl'.same s7).put hsks i7.ls (flatAll_map flat_Ed _) nM (fun z hz e => (dl'.ls hz).ne_none (by rw [e]; exact f7)) nMF k8 t8 d8).congr (f' := fun k => (Lk.succs g k).map eEd) (fun z hz => by by_cases e : z = s <;> simp [e])
      have hsm : s ∈ ks' ++ [s] := by simp
      have gh8 : GrH P w K g H8 F N L (ks' ++ [s]) kn' lt := ⟨⟨_, dl8⟩, (gh.kn.same s7).kp k8 t8 (by simpa using Ne.symm nFN'), (gh.lt.same s7).kp k8 t8 (flatAll_map flat_S _) (by simpa using nLF)⟩
      have hx8 : Im K H8 x (eS s) := (hx'.same s7).tk t8 (flat_S s)
      have iM := (dl8.ls hsm).im
      refine ⟨_, rfl, _, rfl, _, inferInstance, eS, s, F, _, _, key_S, rfl, dl8.dn, hx8, kvr_get hsm, ?_⟩
      refine for_LT (ea := eEd) (l := Lk.succs g s) iM (fun j σ' H' => ∃ kn'' lt'' y9 y10, σ' = [some v, some (.int 1000), some (.ref pT), some r2, some (.ref F), some rv, some (.ref N), some (.ref L), some x, y9, y10] ∧ Grow g ks' (s :: (rw_.drop (i + 1) ++ lt'')) kn'' ∧ kn''.Nodup ∧ (∀ p ∈ (Lk.succs g s).take j, p.2 ∈ kn'') ∧ Kp [N, L] H8 H' ∧ TK H8 H' ∧ GrH P w K g H' F N L (ks' ++ [s]) kn'' lt'' ∧ kn''.length = kn.length + lt''.length)
        ⟨kn', lt, _, _, rfl, gr', knd', by simp, Kp.refl, TK.refl, gh8, hkl⟩ (fun j σ' H' p a e => keep_ne iM p.choose_spec.choose_spec.choose_spec.choose_spec.2.2.2.2.1 (fun b hb e2 => ?_) a e) (fun j p y σ' H' hp hy pv => ?_) (fun σ' H' pv => ?_)
      · cases e2
        exact (dl8.2.1 s hsm).2.1 (by simp only [List.mem_cons, List.not_mem_nil, or_false] at hb ⊢; exact hb.symm)
      · obtain ⟨kn2, lt2, y9, y10, rfl, gr2, knd2, hcl, kp2, tk2, gh2, hkl2⟩ := pv
        obtain ⟨kvs, dn2, ek2⟩ := gh2.kn
        have hpm := List.mem_of_getElem? hp
        have hst := Lk.succs_stand ok st hpm
        have hy := hy.tk tk2 (flat_Ed p)
        obtain ⟨T, xs, rfl, hq, him⟩ := hy.tup_inv
        obtain ⟨x1, r1, rfl, j1, him⟩ := ImAll.uncons him
        obtain ⟨x2, r2', rfl, j2, him⟩ := ImAll.uncons him
        cases him
        have hkl3 : kvs.length ≤ 512 := by rw [DKs.len ek2]; exact hkn5 knd2 gr2.st
        have htk : (Lk.succs g s).take (j + 1) = (Lk.succs g s).take j ++ [p] := take_snoc hp
        refine ⟨T, _, rfl, hq, rfl, _, _, rfl, _, _, rfl, rfl, ?_⟩
        refine ⟨_, rfl, _, rfl, _, inferInstance, eS, p.2, N, kvs, key_S, j2, rfl, dn2, _, rfl, ?_⟩
        have hdh : dhas kvs p.2 = true ↔ p.2 ∈ kn2 := by rw [dhas_mem, ek2]; simp
        by_cases cm : p.2 ∈ kn2
        · refine ifF (by show (!dhas kvs p.2) = false; rw [hdh.mpr cm]; rfl) ⟨kn2, lt2, _, _, rfl, gr2, knd2, fun z hz => ?_, kp2, tk2, gh2, hkl2⟩
          rw [htk] at hz
          rcases List.mem_append.mp hz with e | e
          · exact hcl z e
          · rw [List.mem_singleton.mp e]; exact cm
        · refine ifT (by show (!dhas kvs p.2) = true; cases e : dhas kvs p.2 with | false => rfl | true => exact absurd (hdh.mp e) cm) ?_
          refine ⟨_, rfl, _, rfl, _, inferInstance, eS, p.2, N, kvs, key_S, rfl, dn2, j2, by rw [sizeLine_eq]; omega, fun H9 k9 t9 d9 => ?_⟩
          have lt9 := gh2.lt.kp k9 t9 (flatAll_map flat_S _) (by simpa using nLN)
          have ltl : lt2.length ≤ 512 := by
            have := gr2.nd
            rw [List.nodup_append] at this
            have h2 := (List.nodup_cons.mp this.2.1).2
            rw [List.nodup_append] at h2
            exact hkn5 h2.2.1 fun z hz => gr2.st z ((gr2.mem z).mpr (by simp [hz]))
          refine ⟨_, rfl, lt9.ty, _, rfl, L, lt2.map eS, _, eS p.2, rfl, rfl, lt9, j2.tk t9 (flat_S _), ?_, by rw [List.length_map]; omega, fun H10 c10 => ?_⟩
          · rw [show lt2.map eS ++ [eS p.2] = (lt2 ++ [p.2]).map eS by simp]
            exact flatAll_map flat_S _
          rw [show lt2.map eS ++ [eS p.2] = (lt2 ++ [p.2]).map eS by simp] at c10
          obtain ⟨k10, t10, l10⟩ := c10
          obtain ⟨as2, dl2⟩ := gh2.dl
          have dl10 := (dl2.kp key_S (S' := [N]) (by simp) nFN k9 t9).kp key_S (S' := [L]) (by simp) (by simpa using Ne.symm nLF) k10 t10
          have dk10 := (DKs.put (P := P) (w := w) (K := K) cm ek2 d9).kp k10 t10 (by simpa using Ne.symm nLN)
          have grn := gr2.add cm hst
          refine ⟨kn2 ++ [p.2], lt2 ++ [p.2], _, _, rfl, ?_, ?_, fun z hz => ?_, (kp2.trans (k9.mono (by simp))).trans (k10.mono (by simp)), (tk2.trans t9).trans t10, ⟨⟨as2, dl10⟩, dk10, l10⟩, by rw [List.length_append, List.length_append, hkl2]; simp; omega⟩
          · rw [← List.append_assoc, ← List.cons_append]; exact grn
          · rw [List.nodup_append]
            exact ⟨knd2, by simp, fun a ha b hb e => by rw [List.mem_singleton.mp hb] at e; rw [e] at ha; exact cm ha⟩
          · rw [htk] at hz
            rcases List.mem_append.mp hz with e | e
            · exact List.mem_append_left _ (hcl z e)
            · rw [List.mem_singleton.mp e]; simp
      · obtain ⟨kn2, lt2, y9, y10, rfl, gr2, knd2, hcl, kp2, tk2, gh2, hkl2⟩ := pv
        obtain ⟨kvs, dn2, ek2⟩ := gh2.kn
        rw [List.take_length] at hcl
        have hkl3 : kvs.length ≤ 512 := by rw [DKs.len ek2]; exact hkn5 knd2 gr2.st
        refine ⟨_, rfl, _, inferInstance, eS, N, kvs, key_S, rfl, dn2, _, rfl, _, _, rfl, rfl, _, rfl, ifF (decide_eq_false (by omega)) ?_⟩
        refine ⟨ks' ++ [s], kn2, lt2, _, _, _, rfl, gr2.done hcl, knd2, ((kp'.trans s7.kp).trans (k8.mono (by simp))).trans (kp2.mono (by simp)), ((tk'.trans s7.tk).trans t8).trans tk2, gh2, hkl2⟩
    · obtain ⟨ks', kn', lt, y8', y9', y10', rfl, gr', knd', kp', tk', gh, hkl⟩ := pv
      rw [List.drop_length, List.nil_append] at gr'
      obtain ⟨as', dl'⟩ := gh.dl
      have hk5 : kn'.length ≤ 512 := Lk.stands_len ok knd' gr'.st
      have sH' : Same H2 H' := same_kp sH6 kp' fun a ha => by
        simp only [List.mem_cons, List.not_mem_nil, or_false] at ha
        rcases ha with rfl | rfl | rfl
        · exact fF
        · exact nN2
        · exact nL2
      refine ⟨_, rfl, _, ?_, _, lt, ks', kn', _, _, _, _, rfl, rfl, gr', sH', ⟨as', dl'.less (by simp)⟩, gh.kn, knd', gh.lt.im⟩
      cases lt with
      | nil => rw [if_pos rfl]; simp at hkl; omega
      | cons z lt => rw [if_neg (by simp)]; simp at hkl; omega
end
end Lw
end
section
set_option Elab.async false
set_option linter.all false
set_option maxRecDepth 100000
set_option maxHeartbeats 2000000
/-! The walk in depth over the graph. -/
namespace Lk
def sc (g : Gd) (s : Sd) : List Sd := (succs g s).map (·.2)
theorem sc_len {g : Gd} (s : Sd) : (sc g s).length = (allTurns g.many).length := by unfold sc; rw [List.length_map, succs_len]
theorem sc_get {g : Gd} {s : Sd} {k : Nat} {p : List Int × Sd} (h : (succs g s)[k]? = some p) : (sc g s)[k]? = some p.2 := by unfold sc; rw [List.getElem?_map, h]; rfl
end Lk
namespace Lw
open PySem PySem.Spec PyProof.Rows L2
open Lk (Way Gd IsWay ltP Sd Stand Gph sc)
theorem tIf_by {t : TT} {ta tb : TE} {σ : L2.St} {H : Hp} {Q : VK} (R : V → Hp → Prop) (k : ∀ v H', R v H' → Q v H') (h : (∀ v H', R v H' → Q v H') → tIf t ta tb σ H Q) : tIf t ta tb σ H Q := h k
abbrev eSI : Sd × Int → PyData := eP eS eI
theorem enc_SI : EncOk eSI 3 := enc_pair enc_S (enc_int.mono (by decide))
def trI (tr : List (Sd × Nat)) : List (Sd × Int) := tr.reverse.map fun x => (x.1, (x.2 : Int))
theorem trI_cons (x : Sd × Nat) (r : List (Sd × Nat)) : trI (x :: r) = trI r ++ [(x.1, (x.2 : Int))] := by unfold trI; rw [List.reverse_cons, List.map_append]; rfl
theorem trI_nil {tr : List (Sd × Nat)} : trI tr = [] ↔ tr = [] := by unfold trI; simp
theorem flat_SI (p : Sd × Int) : flat (eSI p) = true := flat_pair flat_S flat_int p
section
variable {P : Program} {w : World} {K : PySem.W.Frag} {mg : Str → Option Value} {base : Heap}
theorem DKs.put' {H' : Hp} {d : Addr} {ks : List Sd} {k : Sd} {v : V} {kvs : List (Sd × V)} (e : kvs.map (·.1) = ks) (dn : DN P w eS K H' d (dput kvs k v)) : DKs P w K H' d (dadd ks k) := ⟨_, dn, by rw [dput_keys, e]⟩
theorem for_K {g : TG} {tb : TS} {D : Ends} {σ : L2.St} {H : Hp} {d : Addr} {κ : Type} [DecidableEq κ] {e : κ → PyData} {kvs : List (κ × V)} (ok : KeyOk e) {x : V} (hx : x = .ref d) (h : DN P w e K H d kvs) (Pv : Nat → L2.St → Hp → Prop) (h0 : Pv 0 σ H) (hk : ∀ i σ' H', Pv i σ' H' → TK H H' ∧ H' d = H d)
    (hs : ∀ i k v y σ' H', kvs[i]? = some (k, v) → Im K H' y (e k) → Pv i σ' H' → g y σ' H' fun σ2 H2 => tb { D with nx := Pv (i + 1), ct := Pv (i + 1), bk := D.nx } σ2 H2) (hd : ∀ σ' H', Pv kvs.length σ' H' → D.nx σ' H') :
    ∃ d xs ep, x = .ref d ∧ H d = some (dN P w d xs ep) ∧ RFor g tb D σ (ItN P w d xs ep) H := by
  obtain ⟨xs, ep, h1, h2⟩ := for_N ok h Pv h0 hk hs hd
  exact ⟨d, xs, ep, hx, h1, h2⟩
theorem sc_finished : FnScope ["graph", "seen", "order", "start", "trail", "stand", "at", "after"] ["graph"] (defScope s_finished) := ⟨rfl, rfl, rfl, by decide +kernel, rfl, by decide +kernel, by decide +kernel⟩
def S_finished (P : Program) (w : World) (K : PySem.W.Frag) : Sp := fun vs H Q _ => ∃ dG g ks, vs = [.ref dG] ∧ DF P w K eS H dG ks (fun k => eL eEd (Lk.succs g k)) ∧ Gph g ks ∧ g.Ok ∧ (∃ o, Lk.IsOrd g o) ∧
  ∀ order p H', order.Nodup → (∀ s, s ∈ order ↔ s ∈ ks) → Lk.Topo (sc g) order → Same H H' → H p = none → Im K H' (.ref p) (eL eS order) → Q (.ref p) H'
theorem w_finished (B : Bi mg) (D : Df K mg "finished" s_finished) : Has P w K mg base 1 "finished" ["graph"] (S_finished P w K) := by
  refine D.has sc_finished (fun vs H Q E h => ?_) (fun _ _ _ _ _ _ us hl => match us, hl with | [_], _ => rfl) (fun f cdv A outer s H vs Q E hr h => ?_)
  rotate_left
  have nd := sc_finished.nd
  have hu := hr.units
  have hu0 := hr.units0
  have hu1 := hu_of hr
  refine ⟨_, (pss_cons (ps_set (i := 1) nd rfl (Or.inl rfl) pe_newN) (pss_cons (ps_set (i := 2) nd rfl (Or.inl rfl) (pe_lstD pa_nil)) (pss_cons (ps_for (passes_of rfl) rfl (pi_N (pv 0)) (pg_name (i := 3) nd rfl (Or.inl rfl)) (pss_cons (ps_set (i := 4) nd rfl (Or.inl rfl) (pe_ifExp (pt_cmpR (op_inN hu) (pv 3) (pv 1) (by rfl)) (pe_lstD pa_nil) (pe_lstD (pa_cons (pe_tupD (pa_cons (pv 3) (pa_cons pe_int pa_nil))) pa_nil)))) (pss_cons (ps_asg pe_bl (pg_sub (pv 1) (pv 3) (set_N hu))) (pss_one (ps_while (passes_of rfl) (pt_cmpR (op_neE hu) (pv 4) (pe_lstD pa_nil) (nomark _)) (pss_cons (ps_asg (pe_bm0 PySem.F.plainAttrs_list PySem.F.slot_list_pop PySem.F.type_list_pop mt_popD (pv 4)) (pg_tup (by rfl) (pgs_cons (pg_name (i := 5) nd rfl (Or.inl rfl)) (pgs_cons (pg_name (i := 6) nd rfl (Or.inl rfl)) pgs_nil)))) (pss_one (ps_if (pt_cmpR op_eq (pv 6) (pe_callB call_lenD (by rfl) B.len (by decide +kernel) (pa_cons (pe_ix (ix_N hu) (pv 0) (pv 5) (fun _ _ => rfl)) pa_nil)) (nomark _)) (pss_one (ps_expr (pe_bm PySem.F.plainAttrs_list PySem.F.slot_list_append PySem.F.type_list_append mt_appD (pv 2) (pa_cons (pv 5) pa_nil)))) (pss_cons (ps_expr (pe_bm PySem.F.plainAttrs_list PySem.F.slot_list_append PySem.F.type_list_append mt_appD (pv 4) (pa_cons (pe_tupD (pa_cons (pv 5) (pa_cons (pe_op op_add (pv 6) pe_int) pa_nil))) pa_nil))) (pss_cons (ps_set (i := 7) nd rfl (Or.inl rfl) (pe_ix ix_D (pe_ix ix_D (pe_ix (ix_N hu) (pv 0) (pv 5) (fun _ _ => rfl)) (pv 6) (fun _ _ => rfl)) pe_int (fun _ _ => rfl))) (pss_one (ps_if (pt_cmpR (op_notInN hu) (pv 7) (pv 1) (by rfl)) (pss_cons (ps_asg pe_bl (pg_sub (pv 1) (pv 7) (set_N hu))) (pss_one (ps_expr (pe_bm PySem.F.plainAttrs_list PySem.F.slot_list_append PySem.F.type_list_append mt_appD (pv 4) (pa_cons (pe_tupD (pa_cons (pv 7) (pa_cons pe_int pa_nil))) pa_nil))))) pss_nil)))))))))))) (pss_one (ps_ret (pv 2)))))), ?_⟩
  rotate_left
  · obtain ⟨_, _, _, rfl, _⟩ := h
    rfl
  · obtain ⟨dG, g, ks, rfl, df, gp, ok, ⟨o, io⟩, q⟩ := h
    have hks : ks.length ≤ 512 := Lk.stands_len ok gp.nd gp.st
    intro S fS
    have s0 : Same H (upd H S (dN P w S [] 0)) := Same.new fS
    refine ⟨Nat.zero_le _, [], .nil, fun O H1 s1 f1 i1 => ?_⟩
    have sH1 := s0.trans s1
    have nSO : S ≠ O := fun e => by rw [← e, upd_same] at f1; cases f1
    have fO : H O = none := none_back s0 f1
    obtain ⟨kvG, dnG, ekG⟩ := (df.same sH1).dn
    have nG : dG ∉ [S, O] := by
      simp only [List.mem_cons, List.not_mem_nil, or_false]
      rintro (rfl | rfl)
      · exact df.ne_none fS
      · exact df.ne_none fO
    have hdk : DKs P w K H1 S [] := ⟨[], DN.new.same s1, rfl⟩
    have lO : Ls K H1 O (([] : List Sd).map eS) := i1.ls
    have hlk : kvG.length = ks.length := by rw [← ekG, List.length_map]
    refine ⟨_, rfl, for_K key_S rfl dnG (fun i σ' H' => ∃ seen order y3 y4 y5 y6 y7, σ' = [some (.ref dG), some (.ref S), some (.ref O), y3, y4, y5, y6, y7] ∧ Kp [S, O] H1 H' ∧ TK H1 H' ∧ Lk.Dfs (sc g) (Lk.pot o) ks seen order [] ∧ DKs P w K H' S seen ∧ Ls K H' O (order.map eS) ∧ ∀ k ∈ ks.take i, k ∈ seen)
      ⟨[], [], _, _, _, _, _, rfl, Kp.refl, TK.refl, Lk.Dfs.zero, hdk, lO, by simp⟩ (fun i σ' H' p => ?_) (fun i s v x σ' H' hs hx pv => ?_) (fun σ' H' pv => ?_)⟩
    · obtain ⟨_, _, _, _, _, _, _, _, kp, tk, _⟩ := p
      obtain ⟨xs, ep, hh, _⟩ := dnG
      exact ⟨tk, by rw [hh]; exact kp _ _ nG hh⟩
    · obtain ⟨seen, order, y3, y4, y5, y6, y7, rfl, kp, tk, dfs, dk, lo, hin⟩ := pv
      have hsi : ks[i]? = some s := by rw [← ekG, List.getElem?_map, hs]; rfl
      have hsk : s ∈ ks := List.mem_of_getElem? hsi
      have sHc : ∀ {H2 : Hp}, Kp [S, O] H1 H2 → Same H H2 := fun {H2} k => same_kp sH1 k fun a ha => by
        simp only [List.mem_cons, List.not_mem_nil, or_false] at ha
        rcases ha with rfl | rfl
        · exact fS
        · exact fO
      have hx' : Im K H' x (eS s) := hx
      obtain ⟨kvs, dn, ek⟩ := id dk
      have hkl : kvs.length ≤ 512 := by rw [DKs.len ek]; exact Nat.le_trans dfs.le hks
      have hdh : dhas kvs s = true ↔ s ∈ seen := by rw [dhas_mem, ek]; simp
      refine tIf_by (fun v4 H4 => ∃ T tr, v4 = .ref T ∧ H' T = none ∧ Same H' H4 ∧ Ls K H4 T ((trI tr).map eSI) ∧ (s ∈ seen ∧ tr = [] ∨ s ∉ seen ∧ tr = [(s, 0)])) (fun v4 H4 hR => ?_) (fun key => ?_)
      rotate_left
      · refine ⟨_, rfl, _, rfl, _, inferInstance, eS, s, S, kvs, key_S, hx', rfl, dn, _, rfl, ?_⟩
        by_cases cm : s ∈ seen
        · exact ifT (by show dhas kvs s = true; exact hdh.mpr cm) ⟨Nat.zero_le _, [], .nil, fun T H4 s4 f4 i4 => key _ _ ⟨T, [], rfl, f4, s4, i4.ls, .inl ⟨cm, rfl⟩⟩⟩
        · refine ifF (by show dhas kvs s = false; cases e : dhas kvs s with | false => rfl | true => exact absurd (hdh.mp e) cm) ?_
          refine ⟨_, rfl, by show (2 : Nat) ≤ 1000; decide, _, .cons hx' (.cons (.int 0) .nil), fun T1 H3 s3 f3 i3 => ⟨by show (1 : Nat) ≤ 1000; decide, _, .cons i3 .nil, fun T H4 s4 f4 i4 => key _ _ ⟨T, [(s, 0)], rfl, none_back s3 f4, s3.trans s4, i4.ls, .inr ⟨cm, rfl⟩⟩⟩⟩
      obtain ⟨T, tr, rfl, fT, s4, lT, hcase⟩ := hR
      have nTS : T ≠ S := fun e => dk.ne_none (by rw [← e]; exact fT)
      have nTO : T ≠ O := fun e => lo.ne_none (by rw [← e]; exact fT)
      refine ⟨_, rfl, _, rfl, _, inferInstance, eS, s, S, kvs, key_S, rfl, dn.same s4, hx'.same s4, by rw [sizeLine_eq]; omega, fun H5 k5 t5 d5 => ?_⟩
      have dk5 := DKs.put' (P := P) (w := w) (K := K) ek d5
      have lo5 := (lo.same s4).kp k5 t5 (flatAll_map flat_S _) (by simpa using Ne.symm nSO)
      have lT5 := lT.kp k5 t5 (flatAll_map flat_SI _) (by simpa using nTS)
      have dfs5 : Lk.Dfs (sc g) (Lk.pot o) ks (dadd seen s) order tr := by
        rcases hcase with ⟨cm, rfl⟩ | ⟨cm, rfl⟩
        · rw [dadd_old cm]; exact dfs
        · unfold dadd; rw [if_neg cm]; exact dfs.start hsk cm
      have fT1 : H1 T = none := by
        cases e : H1 T with
        | none => rfl
        | some u => rw [kp T u (by simp only [List.mem_cons, List.not_mem_nil, or_false]; rintro (z | z); exact nTS z; exact nTO z) e] at fT; cases fT
      have kp5 : Kp [S, O] H1 H5 := (kp.trans s4.kp).trans (k5.mono (by simp))
      have tk5 : TK H1 H5 := (tk.trans s4.tk).trans t5
      have hin5 : ∀ k ∈ ks.take (i + 1), k ∈ dadd seen s := fun k hk => by
        rw [take_snoc hsi] at hk
        rw [dadd_mem]
        rcases List.mem_append.mp hk with c | c
        · exact .inl (hin k c)
        · exact .inr (List.mem_singleton.mp c)
      generalize dadd seen s = sn0 at dfs5 dk5 hin5
      have TL : ∀ z, (sc g z).length = (Lk.allTurns g.many).length := fun z => Lk.sc_len z
      refine ⟨fun m σ' H' => ∃ sn od tr y5 y6 y7, σ' = [some (.ref dG), some (.ref S), some (.ref O), some x, some (.ref T), y5, y6, y7] ∧ m = Lk.todo (Lk.allTurns g.many).length ks sn tr ∧ Lk.Dfs (sc g) (Lk.pot o) ks sn od tr ∧ Kp [S, O, T] H5 H' ∧ TK H5 H' ∧ DKs P w K H' S sn ∧ Ls K H' O (od.map eS) ∧ Ls K H' T ((trI tr).map eSI) ∧ (∀ k ∈ ks.take (i + 1), k ∈ sn),
        ⟨_, sn0, order, tr, _, _, _, rfl, rfl, dfs5, Kp.refl, TK.refl, dk5, lo5, lT5, hin5⟩, ?_⟩
      rintro m σ' H6 ⟨sn, od, tr, z5, z6, z7, rfl, rfl, d6, kp6, tk6, dk6, lo6, lT6, hin6⟩
      have kp16 : ∀ {H7 : Hp}, Kp [S, O, T] H5 H7 → Kp [S, O] H1 H7 := fun {H7} k => Kp.fresh (S' := [T]) ((kp5.mono (by simp)).trans (k.mono (by simp))) fun b hb => by rw [List.mem_singleton.mp hb]; exact fT1
      have sH6 := sHc (kp16 kp6)
      refine ⟨_, rfl, Nat.zero_le _, [], .nil, fun p7 H7 s7 f7 i7 => ?_⟩
      refine ⟨_, inferInstance, eL eSI, 4, trI tr, [], enc_lst enc_SI, by decide, (lT6.same s7).im, i7, _, rfl, ?_⟩
      have kp7 := kp6.trans s7.kp
      have tk7 := tk6.trans s7.tk
      by_cases ct : tr = []
      · subst ct
        exact ifF (by simp [trI]) ⟨sn, od, _, _, _, _, _, rfl, kp16 kp7, tk5.trans tk7, d6, dk6.same s7, lo6.same s7, hin6⟩
      refine ifT (by simp [trI_nil, ct]) ⟨fun σ' H' => ∃ m', m' < Lk.todo (Lk.allTurns g.many).length ks sn tr ∧ ∃ sn od tr y5 y6 y7, σ' = [some (.ref dG), some (.ref S), some (.ref O), some x, some (.ref T), y5, y6, y7] ∧ m' = Lk.todo (Lk.allTurns g.many).length ks sn tr ∧ Lk.Dfs (sc g) (Lk.pot o) ks sn od tr ∧ Kp [S, O, T] H5 H' ∧ TK H5 H' ∧ DKs P w K H' S sn ∧ Ls K H' O (od.map eS) ∧ Ls K H' T ((trI tr).map eSI) ∧ (∀ k ∈ ks.take (i + 1), k ∈ sn), fun _ _ h => h, ?_⟩
      obtain ⟨⟨a, k⟩, r, rfl⟩ : ∃ x r, tr = x :: r := by
        cases tr with
        | nil => exact absurd rfl ct
        | cons x r => exact ⟨x, r, rfl⟩
      have lT7 := lT6.same s7
      rw [trI_cons, List.map_append] at lT7
      have hak : a ∈ ks := d6.sub a ((d6.sn a).mpr (.inr (by simp)))
      have hk1 := d6.okt.1
      refine ⟨_, rfl, lT7.ty, T, (trI r).map eSI, eSI (a, (k : Int)), rfl, rfl, lT7, ?_, fun y H8 i8 c8 => ?_⟩
      · rw [show (trI r).map eSI ++ [eSI (a, (k : Int))] = (trI r ++ [(a, (k : Int))]).map eSI by simp]
        exact flatAll_map flat_SI _
      obtain ⟨k8, t8, lT8⟩ := c8
      have dk8 := (dk6.same s7).kp k8 t8 (by simpa using Ne.symm nTS)
      have lo8 := (lo6.same s7).kp k8 t8 (flatAll_map flat_S _) (by simpa using Ne.symm nTO)
      have kp8 := kp7.trans (k8.mono (S' := [S, O, T]) (by simp))
      have tk8 := tk7.trans t8
      have sH8 := sHc (kp16 kp8)
      obtain ⟨T2, xs2, rfl, hq, him⟩ := i8.tup_inv
      obtain ⟨x1, r1, rfl, j1, him⟩ := ImAll.uncons him
      obtain ⟨x2, r2, rfl, j2, him⟩ := ImAll.uncons him
      cases him
      cases j2
      refine ⟨T2, _, rfl, hq, rfl, _, _, rfl, _, _, rfl, rfl, ?_⟩
      obtain ⟨kvq, vq, g1, g2, g3⟩ := (df.same sH8).get hak
      refine ⟨_, rfl, _, rfl, _, rfl, _, inferInstance, eS, a, dG, kvq, vq, key_S, rfl, g1, j1, g2, _, _, rfl, .inr g3.im, rfl, _, rfl, ?_⟩
      rw [List.length_map, Lk.succs_len, dec_int]
      have nz := d6.order_le
      have nt := d6.tr_le
      have trl : ∀ t : List (Sd × Nat), (trI t).length = t.length := fun t => by unfold trI; rw [List.length_map, List.length_reverse]
      have hkT := TL a
      by_cases ck : k = (Lk.allTurns g.many).length
      · refine ifT (beq_iff_eq.mpr (by rw [ck])) ?_
        refine ⟨_, rfl, lo8.ty, _, rfl, O, od.map eS, _, eS a, rfl, rfl, lo8, j1, ?_, by rw [List.length_map]; omega, fun H9 c9 => ?_⟩
        · rw [show od.map eS ++ [eS a] = (od ++ [a]).map eS by simp]
          exact flatAll_map flat_S _
        rw [show od.map eS ++ [eS a] = (od ++ [a]).map eS by simp] at c9
        obtain ⟨k9, t9, lo9⟩ := c9
        exact ⟨_, Lk.todo_finish (by omega), sn, od ++ [a], r, _, _, _, rfl, rfl, d6.finish (by rw [TL]; exact ck), kp8.trans (k9.mono (by simp)), tk8.trans t9, dk8.kp k9 t9 (by simpa using nSO), lo9, lT8.kp k9 t9 (flatAll_map flat_SI _) (by simpa using nTO), hin6⟩
      · have hlt : k < (Lk.allTurns g.many).length := by rw [TL] at hk1; omega
        refine ifF (by rw [beq_eq_false_iff_ne]; omega) ?_
        have hpl : k < (Lk.succs g a).length := by rw [Lk.succs_len]; exact hlt
        obtain ⟨p, hp⟩ : ∃ p, (Lk.succs g a)[k]? = some p := ⟨_, List.getElem?_eq_getElem hpl⟩
        have hpm := List.mem_of_getElem? hp
        have hsc := Lk.sc_get hp
        have hpot := Lk.succs_pot ok io (gp.st a hak) hpm
        have hpk := gp.cl a hak p hpm
        refine ⟨_, rfl, lT8.ty, _, rfl, _, rfl, _, _, rfl, rfl, by show (2 : Nat) ≤ 1000; decide, _, .cons j1 (.cons (.int _) .nil), fun p9 H9 s9 f9 i9 => ?_⟩
        have i9 : Im K H9 (.ref p9) (eSI (a, ((k : Int) + 1))) := i9
        refine ⟨T, (trI r).map eSI, _, eSI (a, ((k : Int) + 1)), rfl, rfl, lT8.same s9, i9, ?_, by rw [List.length_map, trl]; simp at nt; omega, fun H10 c10 => ?_⟩
        · rw [show (trI r).map eSI ++ [eSI (a, (k : Int) + 1)] = (trI ((a, k + 1) :: r)).map eSI by rw [trI_cons]; simp]
          exact flatAll_map flat_SI _
        rw [show (trI r).map eSI ++ [eSI (a, (k : Int) + 1)] = (trI ((a, k + 1) :: r)).map eSI by rw [trI_cons]; simp] at c10
        obtain ⟨k10, t10, lT10⟩ := c10
        have dk10 := (dk8.same s9).kp k10 t10 (by simpa using Ne.symm nTS)
        have lo10 := (lo8.same s9).kp k10 t10 (flatAll_map flat_S _) (by simpa using Ne.symm nTO)
        have kp10 := (kp8.trans s9.kp).trans (k10.mono (S' := [S, O, T]) (by simp))
        have tk10 := (tk8.trans s9.tk).trans t10
        have sH10 := sHc (kp16 kp10)
        have j10 : Im K H10 x1 (eS a) := (j1.same s9).tk t10 (flat_S a)
        obtain ⟨kvq', vq', g1', g2', g3'⟩ := (df.same sH10).get hak
        refine ⟨_, rfl, _, rfl, _, inferInstance, eS, a, dG, kvq', vq', key_S, rfl, g1', j10, g2', _, rfl, _, (k : Int), eEd p, .inr g3'.im, rfl, atI_map (atI_nn (by omega) (by rw [Int.toNat_natCast]; exact hp)), fun y hy => ?_⟩
        refine ⟨_, 1, eS p.2, .inl hy, rfl, rfl, fun z hz => ?_⟩
        obtain ⟨kvs2, dn2, ek2⟩ := id dk10
        have hkl2 : kvs2.length ≤ 512 := by rw [DKs.len ek2]; exact Nat.le_trans d6.le hks
        have hdh2 : dhas kvs2 p.2 = true ↔ p.2 ∈ sn := by rw [dhas_mem, ek2]; simp
        refine ⟨_, rfl, _, rfl, _, inferInstance, eS, p.2, S, kvs2, key_S, hz, rfl, dn2, _, rfl, ?_⟩
        by_cases cm : p.2 ∈ sn
        · refine ifF (by show (!dhas kvs2 p.2) = false; rw [hdh2.mpr cm]; rfl) ⟨_, Lk.todo_skip hlt, sn, od, (a, k + 1) :: r, _, _, _, rfl, rfl, d6.skip hsc cm hpot, kp10, tk10, dk10, lo10, lT10, hin6⟩
        · refine ifT (by show (!dhas kvs2 p.2) = true; cases e : dhas kvs2 p.2 with | false => rfl | true => exact absurd (hdh2.mp e) cm) ?_
          refine ⟨_, rfl, _, rfl, _, inferInstance, eS, p.2, S, kvs2, key_S, rfl, dn2, hz, by rw [sizeLine_eq]; omega, fun H11 k11 t11 d11 => ?_⟩
          have dk11 := DKs.put (P := P) (w := w) (K := K) cm ek2 d11
          have lo11 := lo10.kp k11 t11 (flatAll_map flat_S _) (by simpa using Ne.symm nSO)
          have lT11 := lT10.kp k11 t11 (flatAll_map flat_SI _) (by simpa using nTS)
          have hz11 : Im K H11 z (eS p.2) := hz.tk t11 (flat_S _)
          have dp := d6.push hsc hpk cm hpot
          refine ⟨_, rfl, lT11.ty, _, rfl, by show (2 : Nat) ≤ 1000; decide, _, .cons hz11 (.cons (.int 0) .nil), fun p12 H12 s12 f12 i12 => ?_⟩
          have i12 : Im K H12 (.ref p12) (eSI (p.2, (0 : Int))) := i12
          refine ⟨T, (trI ((a, k + 1) :: r)).map eSI, _, eSI (p.2, (0 : Int)), rfl, rfl, lT11.same s12, i12, ?_, by rw [List.length_map, trl]; simp at nt ⊢; omega, fun H13 c13 => ?_⟩
          · rw [show (trI ((a, k + 1) :: r)).map eSI ++ [eSI (p.2, (0 : Int))] = (trI ((p.2, 0) :: (a, k + 1) :: r)).map eSI by rw [trI_cons (p.2, 0)]; simp]
            exact flatAll_map flat_SI _
          rw [show (trI ((a, k + 1) :: r)).map eSI ++ [eSI (p.2, (0 : Int))] = (trI ((p.2, 0) :: (a, k + 1) :: r)).map eSI by rw [trI_cons (p.2, 0)]; simp] at c13
          obtain ⟨k13, t13, lT13⟩ := c13
          exact ⟨_, Lk.todo_push hlt dp.le, sn ++ [p.2], od, (p.2, 0) :: (a, k + 1) :: r, _, _, _, rfl, rfl, dp, ((kp10.trans (k11.mono (by simp))).trans s12.kp).trans (k13.mono (by simp)), ((tk10.trans t11).trans s12.tk).trans t13, (dk11.same s12).kp k13 t13 (by simpa using Ne.symm nTS), (lo11.same s12).kp k13 t13 (flatAll_map flat_S _) (by simpa using Ne.symm nTO), lT13, fun z hz => List.mem_append_left _ (hin6 z hz)⟩
    · obtain ⟨seen, order, y3, y4, y5, y6, y7, rfl, kp, tk, dfs, dk, lo, hin⟩ := pv
      rw [hlk, List.take_length] at hin
      have sH' : Same H H' := same_kp sH1 kp fun a ha => by
        simp only [List.mem_cons, List.not_mem_nil, or_false] at ha
        rcases ha with rfl | rfl
        · exact fS
        · exact fO
      refine ⟨_, rfl, q order O H' dfs.nd (fun s => ⟨fun hs => dfs.sub s ((dfs.sn s).mpr (.inl hs)), fun hs => ?_⟩) dfs.topo sH' fO lo.im⟩
      have := (dfs.sn s).mp (hin s hs)
      simpa using this
end
end Lw
end
section
set_option Elab.async false
set_option linter.all false
set_option maxRecDepth 100000
set_option maxHeartbeats 2000000
/-! Floods, ranks. -/
namespace Lw
open PySem PySem.Spec PyProof.Rows L2
open Lk (Way Gd IsWay ltP Sd Stand Gph sc)
section
variable {P : Program} {w : World} {K : PySem.W.Frag} {mg : Str → Option Value} {base : Heap}
/-- {k: [] for k in d}: each key's list at its own place -/
theorem dc_KL {κ : Type} [DecidableEq κ] {e : κ → PyData} {g : TG} {tt : TT} {tk tv : TE} {vs : List Nat} {σ : L2.St} {H1 : Hp} {Q : VK} (ok : KeyOk e) {x : V} {d : Addr} {kvs : List (κ × V)} (hx : x = .ref d) (h : DN P w e K H1 d kvs) (nd : (kvs.map (·.1)).Nodup) (hn : kvs.length < 1000000)
    (hs : ∀ D k v H' (QT : V → V → Hp → Prop) (QF : Hp → Prop), k ∈ kvs.map (·.1) → Same H1 H' → H' D ≠ none → Im K H' v (e k) → (∀ y a H4, Same H' H4 → Im K H4 y (e k) → H' a = none → Ls K H4 a [] → QT y (.ref a) H4) →
      g v (wipe σ vs) H' fun σ2 H2 => wipe σ2 vs = wipe σ vs ∧ tt σ2 H2 fun b H3 => if b = true then tk σ2 H3 fun y H4 => tv σ2 H4 fun z H5 => QT y z H5 else QF H3)
    (hd : ∀ p H' as, Same H1 H' → H1 p = none → (∀ k ∈ kvs.map (·.1), H1 (as k) = none) → DL P w K e H' p [] (kvs.map (·.1)) (fun _ => []) as → Q (.ref p) H') :
    ∃ d xs ep, x = .ref d ∧ H1 d = some (dN P w d xs ep) ∧ RDc P w K g tt tk tv vs σ Q (ItN P w d xs ep) H1 := by
  obtain ⟨xs, ep, h1, h2⟩ := h
  have hlen : xs.length = kvs.length := (Paired.length h2).symm
  have wk := walk_N (P := P) (w := w) (d := d) (xs := xs) (ep := ep)
  refine ⟨d, xs, ep, hx, h1, ?_⟩
  intro D hD
  have dne : ∀ b o, H1 b = some o → b ≠ D := fun b o q => ne_of_none q hD
  refine ⟨fun i m H => m = xs.length - i ∧ i ≤ xs.length ∧ Same H1 H ∧ ∃ as, (∀ k ∈ (kvs.map (·.1)).take i, H1 (as k) = none) ∧ DL P w K e H D [] ((kvs.map (·.1)).take i) (fun _ => []) as, ⟨xs.length, by omega, Nat.zero_le _, Same.new hD, fun _ => 0, by simp, DL.new⟩, ?_⟩
  rintro i m H ⟨rfl, hi, s, as, hfr, dl⟩
  have hg := s _ _ h1
  by_cases hlt : i < xs.length
  · refine .inr ⟨wk.goes i H hlt hg, fun H' => Same H1 H' ∧ ∃ as, (∀ k ∈ (kvs.map (·.1)).take (i + 1), H1 (as k) = none) ∧ DL P w K e H' D [] ((kvs.map (·.1)).take (i + 1)) (fun _ => []) as, fun H' ⟨q1, q2⟩ => ⟨xs.length - (i + 1), by omega, rfl, hlt, q1, q2⟩, fun y H' yy => ?_⟩
    obtain ⟨e0, q, hq, e1⟩ := wk.yields i H y H' hlt hg yy
    subst e0 e1
    obtain ⟨⟨k, u⟩, hp, him, _⟩ := rn_get h2 hq
    have hk : (kvs.map (·.1))[i]? = some k := by rw [List.getElem?_map, hp]; rfl
    have hkt : k ∉ (kvs.map (·.1)).take i := fun c => by
      have e2 := List.take_append_drop i (kvs.map (·.1))
      rw [List.drop_eq_getElem_cons (List.getElem?_eq_some_iff.mp hk).1, (List.getElem?_eq_some_iff.mp hk).2] at e2
      rw [← e2, List.nodup_append] at nd
      exact nd.2.2 k c k (by simp) rfl
    refine hs D k _ _ _ _ (List.mem_of_getElem? hk) s dl.dn.ne_none (him.same s) fun ky a H4 s4 hk4 fa la => ?_
    refine ⟨κ, _, e, k, _, ok, hk4, (dl.same s4).dn, ?_, fun H' kp tk' hdn => ⟨fun b o q => ?_, ?_⟩⟩
    · rw [dl.len]
      have := List.length_take_le' i (kvs.map (·.1))
      rw [List.length_map] at this
      rw [sizeLine_eq]; omega
    · exact kp _ _ (by simpa using dne b o q) (s4 _ _ (s _ _ q))
    · have naD : a ≠ D := fun e => dl.dn.ne_none (by rw [← e]; exact fa)
      have d2 := (dl.same s4).put hkt la (by simp [flatAll]) (by simp) (fun c hc e => (dl.ls hc).ne_none (by rw [e]; exact fa)) naD kp tk' hdn
      refine ⟨fun c => if c = k then a else as c, fun c hc => ?_, ?_⟩
      · rw [take_snoc hk] at hc
        by_cases z : c = k
        · simp only [if_pos z]; exact none_back s fa
        · simp only [if_neg z]; exact hfr c ((List.mem_append.mp hc).resolve_right fun q => z (List.mem_singleton.mp q))
      · rw [take_snoc hk]
        exact d2.congr fun c hc => by by_cases z : c = k <;> simp [z]
  · have ei : i = xs.length := by omega
    have e3 : (kvs.map (·.1)).take i = kvs.map (·.1) := List.take_of_length_le (by rw [List.length_map]; omega)
    rw [e3] at dl hfr
    rw [ei]
    exact .inl ⟨wk.stops H hg, hd D H as s hD hfr dl⟩
theorem sc_flood : FnScope ["back", "start", "place", "number", "row", "stand"] ["back", "start", "place", "number"] (defScope s_flood) := ⟨rfl, rfl, rfl, by decide +kernel, rfl, by decide +kernel, by decide +kernel⟩
def S_flood (P : Program) (w : World) (K : PySem.W.Frag) : Sp := fun vs H Q _ => ∃ (b : Addr) (x : V) (pl : Addr) (n : Int) (s : Sd) (kvb : List (Sd × V)) (ab : Addr) (bs : List Sd) (kvs : List (Sd × V)), vs = [.ref b, x, .ref pl, .int n] ∧ Im K H x (eS s) ∧ DN P w eS K H b kvb ∧ dget kvb s = some (.ref ab) ∧ Ls K H ab (bs.map eS) ∧ b ≠ pl ∧ DN P w eS K H pl kvs ∧ s ∉ kvs.map (·.1) ∧
  (∀ z ∈ bs, z = s ∨ z ∈ kvs.map (·.1)) ∧ bs.length ≤ 500000 ∧ kvs.length ≤ 1000 ∧ ∀ H', Kp [pl] H H' → TK H H' → DN P w eS K H' pl (dput kvs s (.int n)) → Q .non H'
theorem w_flood (B : Bi mg) (D : Df K mg "flood" s_flood) : Has P w K mg base 1 "flood" ["back", "start", "place", "number"] (S_flood P w K) := by
  refine D.has sc_flood (fun vs H Q E h => ?_) (fun _ _ _ _ _ _ us hl => match us, hl with | [_, _, _, _], _ => rfl) (fun f cdv A outer s H vs Q E hr h => ?_)
  rotate_left
  have nd := sc_flood.nd
  have hu := hr.units
  have hu0 := hr.units0
  have hu1 := hu_of hr
  refine ⟨_, (pss_cons (ps_set (i := 4) nd rfl (Or.inl rfl) (pe_lstD (pa_cons (pv 1) pa_nil))) (pss_one (ps_while (passes_of rfl) (pt_cmpR (op_neE hu) (pv 4) (pe_lstD pa_nil) (nomark _)) (pss_cons (ps_set (i := 5) nd rfl (Or.inl rfl) (pe_bm0 PySem.F.plainAttrs_list PySem.F.slot_list_pop PySem.F.type_list_pop mt_popD (pv 4))) (pss_one (ps_if (pt_cmpR (op_notInN hu) (pv 5) (pv 2) (by rfl)) (pss_cons (ps_asg (pv 3) (pg_sub (pv 2) (pv 5) (set_N hu))) (pss_one (ps_expr (pe_bm PySem.F.plainAttrs_list PySem.F.slot_list_extend PySem.F.type_list_extend mt_extD (pv 4) (pa_cons (pe_ix (ix_N hu) (pv 0) (pv 5) (fun _ _ => rfl)) pa_nil))))) pss_nil)))))), ?_⟩
  rotate_left
  · obtain ⟨_, _, _, _, _, _, _, _, _, rfl, _⟩ := h
    rfl
  · obtain ⟨b, x, pl, n, s, kvb, ab, bs, kvs, rfl, hx, db, gb, lb, nbp, dp, hs, hz, hbl, hkl, q⟩ := h
    refine ⟨_, rfl, by show (1 : Nat) ≤ 1000; decide, _, .cons hx .nil, fun R H1 s1 f1 i1 => ?_⟩
    have lR : Ls K H1 R (([s] : List Sd).map eS) := i1.ls
    have nRp : R ≠ pl := fun e => dp.ne_none (by rw [← e]; exact f1)
    have nRb : R ≠ b := fun e => db.ne_none (by rw [← e]; exact f1)
    have nRa : R ≠ ab := fun e => lb.ne_none (by rw [← e]; exact f1)
    have nap : ab ≠ pl := fun e => by
      obtain ⟨xs, z, _⟩ := lb
      rw [e] at z; exact dp.nolst _ z
    refine ⟨fun m σ' H' => ∃ rw_ kv' y5, σ' = [some (.ref b), some x, some (.ref pl), some (.int n), some (.ref R), y5] ∧ Kp [pl, R] H1 H' ∧ TK H1 H' ∧ Ls K H' R (rw_.map eS) ∧ DN P w eS K H' pl kv' ∧ ((rw_ = [s] ∧ kv' = kvs ∧ m = bs.length + 2) ∨ (kv' = dput kvs s (.int n) ∧ (∀ z ∈ rw_, z ∈ kv'.map (·.1)) ∧ rw_.length ≤ bs.length ∧ m = rw_.length)),
      ⟨_, [s], kvs, _, rfl, Kp.refl, TK.refl, lR, dp.same s1, .inl ⟨rfl, rfl, rfl⟩⟩, ?_⟩
    rintro m σ' H' ⟨rw_, kv', y5, rfl, kp, tk, lr, dn, hc⟩
    refine ⟨_, rfl, Nat.zero_le _, [], .nil, fun p2 H2 s2 f2 i2 => ?_⟩
    refine ⟨_, inferInstance, eL eS, 3, rw_, [], enc_lst enc_S, by decide, (lr.same s2).im, i2, _, rfl, ?_⟩
    have kp2 := kp.trans s2.kp
    have tk2 := tk.trans s2.tk
    by_cases ce : rw_ = []
    · refine ifF (by simp [ce]) ?_
      rcases hc with ⟨e, _⟩ | ⟨e, _⟩
      · rw [ce] at e; cases e
      · rw [e] at dn
        exact q H2 (Kp.fresh (S' := [R]) (s1.kp.trans kp2) fun a ha => by rw [List.mem_singleton.mp ha]; exact f1) (s1.tk.trans tk2) (dn.same s2)
    refine ifT (by simp [ce]) ⟨fun σ' H' => ∃ m', m' < m ∧ ∃ rw_ kv' y5, σ' = [some (.ref b), some x, some (.ref pl), some (.int n), some (.ref R), y5] ∧ Kp [pl, R] H1 H' ∧ TK H1 H' ∧ Ls K H' R (rw_.map eS) ∧ DN P w eS K H' pl kv' ∧ ((rw_ = [s] ∧ kv' = kvs ∧ m' = bs.length + 2) ∨ (kv' = dput kvs s (.int n) ∧ (∀ z ∈ rw_, z ∈ kv'.map (·.1)) ∧ rw_.length ≤ bs.length ∧ m' = rw_.length)), fun _ _ h => h, ?_⟩
    obtain ⟨r0, t, rfl⟩ : ∃ r0 t, rw_ = r0 ++ [t] := ⟨rw_.dropLast, rw_.getLast ce, (List.dropLast_concat_getLast ce).symm⟩
    have lr2 := lr.same s2
    have fl : flatAll ((r0 ++ [t]).map eS) = true := flatAll_map flat_S _
    rw [List.map_append] at lr2 fl
    refine ⟨_, rfl, lr2.ty, R, r0.map eS, eS t, rfl, rfl, lr2, fl, fun y H3 i3 c3 => ?_⟩
    obtain ⟨k3, t3, l3⟩ := c3
    have dn3 := (dn.same s2).kp key_S.flt k3 t3 (by simpa using Ne.symm nRp)
    have kp3 := kp2.trans (k3.mono (S' := [pl, R]) (by simp))
    have tk3 := tk2.trans t3
    refine ⟨_, rfl, _, rfl, _, inferInstance, eS, t, pl, kv', key_S, i3, rfl, dn3, _, rfl, ?_⟩
    have hdh : dhas kv' t = true ↔ t ∈ kv'.map (·.1) := by rw [dhas_mem]; simp
    rcases hc with ⟨e, rfl, rfl⟩ | ⟨rfl, hin, hle, rfl⟩
    · have e2 : r0 = [] ∧ t = s := by
        cases r0 with
        | nil => simpa using e
        | cons a r0 => have := congrArg List.length e; simp at this
      obtain ⟨rfl, rfl⟩ := e2
      refine ifT (by show (!dhas kv' t) = true; cases e : dhas kv' t with | false => rfl | true => exact absurd (hdh.mp e) hs) ?_
      refine ⟨_, rfl, _, rfl, _, rfl, _, inferInstance, eS, t, pl, kv', key_S, rfl, dn3, i3, by rw [sizeLine_eq]; omega, fun H4 k4 t4 d4 => ?_⟩
      have kp4 := kp3.trans (k4.mono (S' := [pl, R]) (by simp))
      have tk4 := tk3.trans t4
      have l4 := l3.kp k4 t4 (by simp [flatAll]) (by simpa using nRp)
      have db4 := (db.same s1).kp key_S.flt kp4 tk4 (by simp only [List.mem_cons, List.not_mem_nil, or_false]; rintro (z | z); exact nbp z; exact nRb z.symm)
      have lb4 := (lb.same s1).kp kp4 tk4 (flatAll_map flat_S _) (by simp only [List.mem_cons, List.not_mem_nil, or_false]; rintro (z | z); exact nap z; exact nRa z.symm)
      refine ⟨_, rfl, l4.ty, _, rfl, _, rfl, _, inferInstance, eS, t, b, kvb, .ref ab, key_S, rfl, db4, i3.tk t4 (flat_S _), gb, R, [], bs.map eS, .ref ab, rfl, rfl, l4, lb4.im, by rw [List.nil_append]; exact flatAll_map flat_S _, by rw [List.length_map]; simp; omega, fun H5 c5 => ?_⟩
      rw [List.nil_append] at c5
      obtain ⟨k5, t5, l5⟩ := c5
      refine ⟨bs.length, by omega, bs, _, _, rfl, kp4.trans (k5.mono (by simp)), tk4.trans t5, l5, d4.kp key_S.flt k5 t5 (by simpa using Ne.symm nRp), .inr ⟨rfl, fun z hzb => ?_, Nat.le_refl _, rfl⟩⟩
      rw [dput_keys, dadd_mem]
      rcases hz z hzb with c | c
      · exact .inr c
      · exact .inl c
    · refine ifF (by show (!dhas _ t) = false; rw [hdh.mpr (hin t (by simp))]; rfl) ⟨r0.length, by rw [List.length_append, List.length_singleton]; omega, r0, _, _, rfl, kp3, tk3, l3, dn3, .inr ⟨rfl, fun z hz' => hin z (List.mem_append_left _ hz'), by rw [List.length_append, List.length_singleton] at hle; omega, rfl⟩⟩
end
end Lw
end
section
set_option Elab.async false
set_option linter.all false
set_option maxRecDepth 100000
set_option maxHeartbeats 2000000
/-! Ranks. -/
namespace Lw
open PySem PySem.Spec PyProof.Rows L2
open Lk (Way Gd IsWay ltP Sd Stand Gph sc)
/-- the places so far -/
def plF (l : List Sd) : List (Sd × V) := l.zipIdx.map fun p => (p.1, .int (p.2 : Nat))
theorem plF_snoc (l : List Sd) (s : Sd) : plF (l ++ [s]) = plF l ++ [(s, .int (l.length : Nat))] := by
  unfold plF
  rw [List.zipIdx_append, List.map_append]
  simp
theorem plF_keys (l : List Sd) : (plF l).map (·.1) = l := by
  unfold plF
  rw [List.map_map]
  have e : ((fun x : Sd × V => x.1) ∘ fun p : Sd × Nat => (p.1, V.int (p.2 : Nat))) = fun p => p.1 := rfl
  rw [e]
  exact List.zipIdx_map_fst 0 l
theorem plF_put {l : List Sd} {s : Sd} (h : s ∉ l) : dput (plF l) s (.int (l.length : Nat)) = plF (l ++ [s]) := by
  unfold dput
  rw [dhas_mem, plF_keys, if_neg (by simp [h]), plF_snoc]
theorem plF_get {l : List Sd} {s : Sd} (h : s ∈ l) (nd : l.Nodup) : dget (plF l) s = some (.int (l.idxOf s : Nat)) := by
  obtain ⟨v, hv⟩ := dget_some (kvs := plF l) (k := s) (by rw [plF_keys]; exact h)
  rw [hv]
  have hm := dget_mem hv
  unfold plF at hm
  obtain ⟨⟨a, i⟩, hp, e⟩ := List.mem_map.mp hm
  cases e
  have hg := List.mem_zipIdx hp
  simp only [Nat.zero_le, true_and, Nat.zero_add, Nat.sub_zero] at hg
  have e2 : l.idxOf a = i := by
    rw [hg.2]
    exact nd.idxOf_getElem i hg.1
  rw [e2]
theorem idx_inj {l : List Sd} {a b : Sd} (ha : a ∈ l) (h : l.idxOf a = l.idxOf b) : a = b := by
  have h1 := List.idxOf_lt_length_of_mem ha
  have e1 : l[l.idxOf a] = a := List.getElem_idxOf h1
  have h2 : l.idxOf b < l.length := by omega
  have e2 : l[l.idxOf b] = b := List.getElem_idxOf h2
  rw [← e1, ← e2]
  congr 1
def rkF (l : List Sd) (s : Sd) : Int := (l.length : Nat) - 1 - (l.idxOf s : Nat)
section
variable {P : Program} {w : World} {K : PySem.W.Frag} {mg : Str → Option Value} {base : Heap}
theorem sc_ranks_of : FnScope ["graph", "stand", "back", "turn", "after", "place", "number", "start"] ["graph"] (defScope s_ranks_of) := ⟨rfl, rfl, rfl, by decide +kernel, rfl, by decide +kernel, by decide +kernel⟩
def S_ranks_of (P : Program) (w : World) (K : PySem.W.Frag) : Sp := fun vs H Q _ => ∃ (dG : Addr) (g : Gd) (ks : List Sd), vs = [.ref dG] ∧ DF P w K eS H dG ks (fun k => eL eEd (Lk.succs g k)) ∧ Gph g ks ∧ g.Ok ∧ (∃ o, Lk.IsOrd g o) ∧
  ∀ (rk : Sd → Int) d H', (∀ a ∈ ks, ∀ b ∈ ks, rk a = rk b → a = b) → Same H H' → H d = none → DF P w K eS H' d ks (fun k => eI (rk k)) → Q (.ref d) H'
theorem w_ranks_of (B : Bi mg) (D : Df K mg "ranks_of" s_ranks_of) (hfinished : Has P w K mg base 1 "finished" ["graph"] (S_finished P w K)) (hflood : Has P w K mg base 1 "flood" ["back", "start", "place", "number"] (S_flood P w K)) : Has P w K mg base 2 "ranks_of" ["graph"] (S_ranks_of P w K) := by
  refine D.has sc_ranks_of (fun vs H Q E h => ?_) (fun _ _ _ _ _ _ us hl => match us, hl with | [_], _ => rfl) (fun f cdv A outer s H vs Q E hr h => ?_)
  rotate_left
  have nd := sc_ranks_of.nd
  have hu := hr.units
  have hu0 := hr.units0
  have hu1 := hu_of hr
  refine ⟨_, (pss_cons (ps_setDcN (i := 2) (g := (gName 1)) (tt := tYes) (tk := (tVar 1)) (tv := (tDispL K tNil)) hu rfl nd rfl rfl (sw_trueD rfl rfl rfl (by decide +kernel)) (pi_N (pv 0)) (blkOk_by (own := [("stand", 1)]) (by rfl)) (fun _ _ _ _ _ => ⟨(pg_name (i := 1) nd rfl (Or.inl rfl)), pts_nil, (pv 1), (pe_lstD pa_nil)⟩)) (pss_cons (ps_for (passes_of rfl) rfl (pi_N (pv 0)) (pg_name (i := 1) nd rfl (Or.inl rfl)) (pss_one (ps_for (passes_of rfl) rfl (pi_seq (pe_ix (ix_N hu) (pv 0) (pv 1) (fun _ _ => rfl))) (pg_tup (by rfl) (pgs_cons (pg_name (i := 3) nd rfl (Or.inl rfl)) (pgs_cons (pg_name (i := 4) nd rfl (Or.inl rfl)) pgs_nil))) (pss_one (ps_expr (pe_bm PySem.F.plainAttrs_list PySem.F.slot_list_append PySem.F.type_list_append mt_appD (pe_ix (ix_N hu) (pv 2) (pv 4) (fun _ _ => rfl)) (pa_cons (pv 1) pa_nil))))))) (pss_cons (ps_set (i := 5) nd rfl (Or.inr rfl) pe_newN) (pss_cons (ps_set (i := 6) nd rfl (Or.inr rfl) pe_int) (pss_cons (ps_for (passes_of rfl) rfl (pi_seq (pe_revL (pe_has hfinished hr (by decide) (pa_cons (pv 0) pa_nil)))) (pg_name (i := 7) nd rfl (Or.inl rfl)) (pss_one (ps_if (pt_cmpR (op_notInN hu) (pv 7) (pv 5) (by rfl)) (pss_cons (ps_expr (pe_has hflood hr (by decide) (pa_cons (pv 2) (pa_cons (pv 7) (pa_cons (pv 5) (pa_cons (pv 6) pa_nil)))))) (pss_one (ps_aug (i := 6) nd rfl (Or.inr rfl) pe_int ip_add))) pss_nil))) (pss_one (ps_ret (pe_dcN (g := (gName 1)) (tt := tYes) (tk := (tVar 1)) (tv := (tOp (rI0 fun i j => .int (i - j)) (tOp (rI0 fun i j => .int (i - j)) (tVar 6) (tC (.int 1))) (tOp (rIxN P w K) (tVar 5) (tVar 1)))) hu rfl nd (pi_N (pv 0)) (blkOk_by (own := [("stand", 1)]) (by rfl)) (fun _ _ _ _ _ => ⟨(pg_name (i := 1) nd rfl (Or.inl rfl)), pts_nil, (pv 1), (pe_op op_sub (pe_op op_sub (pv 6) pe_int) (pe_ix (ix_N hu) (pv 5) (pv 1) (fun _ _ => rfl)))⟩))))))))), ?_⟩
  rotate_left
  · obtain ⟨_, _, _, rfl, _⟩ := h
    rfl
  · obtain ⟨dG, g, ks, rfl, df, gp, ok, hex, q⟩ := h
    have hks : ks.length ≤ 512 := Lk.stands_len ok gp.nd gp.st
    obtain ⟨kvG, dnG, ekG⟩ := df.dn
    have hlk : kvG.length = ks.length := by rw [← ekG, List.length_map]
    refine ⟨_, rfl, dc_KL key_S rfl dnG (by rw [ekG]; exact gp.nd) (by omega) (fun D k x H' QT QF hk s2 hN hx kT => ⟨rfl, _, rfl, Nat.zero_le _, [], .nil, fun p3 H3 s3 f3 i3 => kT _ _ _ s3 (hx.same s3) f3 i3.ls⟩) (fun Bk H1 as s1 fB fas dl0 => ?_)⟩
    rw [ekG] at dl0 fas
    have dnG1 := dnG.same s1
    refine ⟨_, rfl, for_K key_S rfl dnG1 (fun i σ' H' => ∃ f : Sd → List Sd, ∃ y1 y3 y4 y5 y6 y7, σ' = [some (.ref dG), y1, some (.ref Bk), y3, y4, y5, y6, y7] ∧ Same H H' ∧ TK H1 H' ∧ DL P w K eS H' Bk [] ks (fun k => (f k).map eS) as ∧ ∀ a ∈ ks, (f a).length ≤ i * 32 ∧ ∀ b ∈ f a, b ∈ ks ∧ a ∈ sc g b)
      ⟨fun _ => [], _, _, _, _, _, _, rfl, s1, TK.refl, dl0, fun a ha => ⟨Nat.zero_le _, by simp⟩⟩ (fun i σ' H' p => ?_) (fun i s v x σ' H' hs hx pv => ?_) (fun σ' H' pv => ?_)⟩
    · obtain ⟨_, _, _, _, _, _, _, _, sH, tk, _⟩ := p
      obtain ⟨xs, ep, hh, _⟩ := dnG
      exact ⟨tk, by rw [sH _ _ hh, s1 _ _ hh]⟩
    · obtain ⟨f, y1, y3, y4, y5, y6, y7, rfl, sH, tk, dl, hf⟩ := pv
      have hsi : ks[i]? = some s := by rw [← ekG, List.getElem?_map, hs]; rfl
      have hsk : s ∈ ks := List.mem_of_getElem? hsi
      have hik : i < ks.length := (List.getElem?_eq_some_iff.mp hsi).1
      have hx' : Im K H' x (eS s) := hx
      obtain ⟨kvq, vq, g1, g2, g3⟩ := df.get hsk
      have ivq : Im K H vq (eL eEd (Lk.succs g s)) := g3.im
      refine ⟨_, rfl, _, rfl, _, inferInstance, eS, s, dG, kvq, vq, key_S, rfl, g1.same sH, hx', g2, ?_⟩
      have hsl : (Lk.succs g s).length ≤ 32 := by rw [Lk.succs_len]; exact Lk.allTurns_len ok.hi
      refine for_LT (ea := eEd) (l := Lk.succs g s) (ivq.same sH) (fun j σ' H2 => ∃ f : Sd → List Sd, ∃ y3 y4 y5 y6 y7, σ' = [some (.ref dG), some x, some (.ref Bk), y3, y4, y5, y6, y7] ∧ Same H H2 ∧ TK H' H2 ∧ DL P w K eS H2 Bk [] ks (fun k => (f k).map eS) as ∧ ∀ a ∈ ks, (f a).length ≤ i * 32 + j ∧ ∀ b ∈ f a, b ∈ ks ∧ a ∈ sc g b)
        ⟨f, _, _, _, _, _, rfl, sH, TK.refl, dl, hf⟩ (fun j σ' H2 p a e => ?_) (fun j p y σ' H2 hp hy pv => ?_) (fun σ' H2 pv => ?_)
      · obtain ⟨_, _, _, _, _, _, _, s2, _⟩ := p
        exact same_two ivq sH s2 a e
      · obtain ⟨f2, z3, z4, z5, z6, z7, rfl, sH2, tk2, dl2, hf2⟩ := pv
        have hpm := List.mem_of_getElem? hp
        have hjl := (List.getElem?_eq_some_iff.mp hp).1
        have hpk := gp.cl s hsk p hpm
        have hps : p.2 ∈ sc g s := List.mem_map.mpr ⟨p, hpm, rfl⟩
        obtain ⟨T, xs, rfl, hq, him⟩ := (hy.tk tk2 (flat_Ed p)).tup_inv
        obtain ⟨x1, r1, rfl, j1, him⟩ := ImAll.uncons him
        obtain ⟨x2, r2', rfl, j2, him⟩ := ImAll.uncons him
        cases him
        refine ⟨T, _, rfl, hq, rfl, _, _, rfl, _, _, rfl, rfl, ?_⟩
        have lk := dl2.ls hpk
        have hfl := (hf2 p.2 hpk).1
        refine ⟨_, rfl, _, rfl, _, inferInstance, eS, p.2, Bk, kvr ks as, _, key_S, rfl, dl2.dn, j2, kvr_get hpk, lk.ty, _, rfl, as p.2, (f2 p.2).map eS, _, eS s, rfl, rfl, lk, hx'.tk tk2 (flat_S s), ?_, by rw [List.length_map]; omega, fun H3 c3 => ?_⟩
        · rw [show (f2 p.2).map eS ++ [eS s] = (f2 p.2 ++ [s]).map eS by simp]
          exact flatAll_map flat_S _
        rw [show (f2 p.2).map eS ++ [eS s] = (f2 p.2 ++ [s]).map eS by simp] at c3
        have dl3 := (dl2.chg key_S hpk (flatAll_map flat_S _) c3).congr (f' := fun k => ((if k = p.2 then f2 p.2 ++ [s] else f2 k) : List Sd).map eS) (fun k hk => by by_cases z : k = p.2 <;> simp [z])
        refine ⟨fun k => if k = p.2 then f2 p.2 ++ [s] else f2 k, _, _, _, _, _, rfl, same_kp1 sH2 c3.1 (fas p.2 hpk), tk2.trans c3.2.1, dl3, fun a ha => ?_⟩
        by_cases z : a = p.2
        · subst z
          simp only [if_true, List.length_append, List.length_singleton]
          refine ⟨by omega, fun b hb => ?_⟩
          rcases List.mem_append.mp hb with c | c
          · exact (hf2 _ hpk).2 b c
          · rw [List.mem_singleton.mp c]; exact ⟨hsk, hps⟩
        · simp only [if_neg z]
          have := hf2 a ha
          exact ⟨by omega, this.2⟩
      · obtain ⟨f2, z3, z4, z5, z6, z7, rfl, sH2, tk2, dl2, hf2⟩ := pv
        exact ⟨f2, _, _, _, _, _, _, rfl, sH2, tk.trans tk2, dl2, fun a ha => ⟨by have := (hf2 a ha).1; omega, (hf2 a ha).2⟩⟩
    · obtain ⟨f, y1, y3, y4, y5, y6, y7, rfl, sH, tk, dl, hf⟩ := pv
      intro pl fpl
      have spl : Same H' (upd H' pl (dN P w pl [] 0)) := Same.new fpl
      have dlp := ((dl.grow fpl).same spl)
      have sH2 := sH.trans spl
      have fplH : H pl = none := none_back sH fpl
      refine ⟨_, rfl, dG, g, ks, rfl, df.same sH2, gp, ok, hex, fun od pO H2 ond omem topo s2 f2 i2 => ?_⟩
      obtain ⟨aO, xsO, eO, hO, tO⟩ := i2.lst_inv
      cases eO
      refine ⟨_, _, rfl, SqL.of hO, fun pR fR => ?_⟩
      have sR : Same H2 (upd H2 pR (.lst xsO.reverse)) := Same.new fR
      have iR : Im K (upd H2 pR (.lst xsO.reverse)) (.ref pR) (eL eS od.reverse) := by
        refine .lst upd_same ?_
        have := (tO.rev).same sR
        rw [← List.map_reverse] at this
        exact this
      have s23 := s2.trans sR
      have sH3 := sH2.trans s23
      have hol : od.length ≤ 512 := Nat.le_trans (ond.length_le_of_subset fun x hx => (omem x).mp hx) hks
      have rnd : od.reverse.Nodup := (List.reverse_perm od).nodup_iff.mpr ond
      have dlq := dlp.same s23
      have dpl : DN P w eS K (upd H2 pR (.lst xsO.reverse)) pl (plF []) := (DN.new (e := eS) (κ := Sd)).same s23
      have hRpl : V.ref pR ≠ .ref pl := fun e => by
        have e : pR = pl := by injection e
        have hz := s2 _ _ (upd_same (H := H') (a := pl) (o := dN P w pl [] 0))
        rw [← e, fR] at hz
        cases hz
      have nBp : Bk ≠ pl := fun e => dl.dn.ne_none (by rw [e]; exact fpl)
      refine for_LT iR (fun i σ' H4 => ∃ y1 y3 y4 y7, σ' = [some (.ref dG), y1, some (.ref Bk), y3, y4, some (.ref pl), some (.int (i : Nat)), y7] ∧ Kp [pl] (upd H2 pR (.lst xsO.reverse)) H4 ∧ TK (upd H2 pR (.lst xsO.reverse)) H4 ∧ DN P w eS K H4 pl (plF (od.reverse.take i)))
        ⟨_, _, _, _, rfl, Kp.refl, TK.refl, dpl⟩ (fun i σ' H4 p a e => keep_ne iR p.choose_spec.choose_spec.choose_spec.choose_spec.2.1 (fun b hb => by rw [List.mem_singleton.mp hb]; exact hRpl) a e) (fun i s x σ' H4 hs hx pv => ?_) (fun σ' H4 pv => ?_)
      · obtain ⟨z1, z3, z4, z7, rfl, kp4, tk4, dn4⟩ := pv
        have hil := (List.getElem?_eq_some_iff.mp hs).1
        rw [List.length_reverse] at hil
        have hso : s ∈ od := List.mem_reverse.mp (List.mem_of_getElem? hs)
        have hsk : s ∈ ks := (omem s).mp hso
        have hst : s ∉ od.reverse.take i := fun c => by
          have e2 := List.take_append_drop i od.reverse
          rw [List.drop_eq_getElem_cons (List.getElem?_eq_some_iff.mp hs).1, (List.getElem?_eq_some_iff.mp hs).2] at e2
          rw [← e2, List.nodup_append] at rnd
          exact rnd.2.2 s c s (by simp) rfl
        have hlt : (od.reverse.take i).length = i := by rw [List.length_take, List.length_reverse]; omega
        have hx4 : Im K H4 x (eS s) := hx.tk tk4 (flat_S s)
        refine ⟨_, rfl, _, rfl, _, inferInstance, eS, s, pl, _, key_S, hx4, rfl, dn4, _, rfl, ifT ?_ ?_⟩
        · show (!dhas _ s) = true
          cases e : dhas (plF (od.reverse.take i)) s with
          | false => rfl
          | true =>
            rw [dhas_mem, plF_keys] at e
            exact absurd (by simpa using e) hst
        have dl4 := dlq.kp key_S (S' := [pl]) (by simp) (by simpa using nBp) kp4 tk4
        refine ⟨_, rfl, _, rfl, _, rfl, _, rfl, Bk, x, pl, (i : Nat), s, kvr ks as, as s, f s, plF (od.reverse.take i), rfl, hx4, dl4.dn, kvr_get hsk, dl4.ls hsk, nBp, dn4, by rw [plF_keys]; exact hst, fun z hz => ?_, ?_, ?_, fun H5 k5 t5 d5 => ?_⟩
        · rw [plF_keys]
          obtain ⟨hz1, hz2⟩ := (hf s hsk).2 z hz
          exact topo.rev ond hs ((omem z).mpr hz1) hz2
        · have := (hf s hsk).1
          have : ks.length * 32 ≤ 512 * 32 := Nat.mul_le_mul_right _ hks
          rw [hlk] at *
          omega
        · rw [← List.length_map (f := (·.1)), plF_keys, hlt]; omega
        · have e := plF_put hst
          rw [hlt] at e
          rw [e, ← take_snoc hs] at d5
          exact ⟨_, rfl, _, _, rfl, rfl, _, _, _, _, rfl, kp4.trans k5, tk4.trans t5, d5⟩
      · obtain ⟨z1, z3, z4, z7, rfl, kp4, tk4, dn4⟩ := pv
        rw [List.take_length] at dn4
        have sH4 : Same H H4 := same_kp1 sH3 kp4 fplH
        refine ⟨_, rfl, dc_K' (P := P) (w := w) (K := K) key_S rfl (dnG.same sH4) (by omega) (fun k => eI (rkF od.reverse k)) (fun D k x H5 QT QF hk s5 hN hx kT => ?_) (fun d H5 s5 f5 d5 => ?_)⟩
        · rw [ekG] at hk
          have hko : k ∈ od.reverse := List.mem_reverse.mpr ((omem k).mpr hk)
          refine ⟨rfl, _, rfl, _, rfl, _, _, rfl, rfl, _, rfl, _, rfl, _, inferInstance, eS, k, pl, _, _, key_S, rfl, dn4.same s5, hx, plF_get hko rnd, _, _, rfl, rfl, kT _ _ _ (Same.refl _) hx (Im.stb ?_ rfl)⟩
          unfold rkF
          exact .int _
        · rw [ekG, ddup_id gp.nd] at d5
          refine q (rkF od.reverse) d H5 (fun a ha b hb e => ?_) (sH4.trans s5) (none_back sH4 f5) d5
          have hao : a ∈ od.reverse := List.mem_reverse.mpr ((omem a).mpr ha)
          unfold rkF at e
          exact idx_inj hao (by omega)
end
end Lw
end
section
set_option Elab.async false
set_option linter.all false
set_option maxRecDepth 100000
set_option maxHeartbeats 2000000
/-! Dicts of int keys: a comprehension stored to a name; how it goes; == of an empty one. -/
namespace Lw
open PySem PySem.Spec PyProof.Rows L2
section
variable {X : Cx}
theorem ps_setDc {i : Nat} {y : Str} {py : Pos} {kx vx tg iter : Expr} {ifs : List Expr} {scope : Scope} {own : List (Str × Nat)} {pos spos : Pos} {wi : TI} {g : TG} {tt : TT} {tk tv : TE} (hc : X.calm = true) (hN : X.N.Nodup) (hy : X.N[i]? = some y) (hyl : X.env.scope.names.lookup y = some .local)
    (hsw : swapsWith (.DictComp kx vx [⟨tg, iter, ifs, 0⟩] scope pos) (some (.Name y py)) spos.line X.env = pure true) (hi : PI X tg iter wi) (ok : BlkOk X.N X.env.scope scope own)
    (hg : ∀ (s : Shared) (H : Hp) (C : Addr) (cl : List (Str × Addr)) (fp : List Addr), PG (X.blk s H scope (compEnvC scope cl C X.env) fp) tg g) (ht : ∀ (s : Shared) (H : Hp) (C : Addr) (cl : List (Str × Addr)) (fp : List Addr), PTs (X.blk s H scope (compEnvC scope cl C X.env) fp) ifs tt)
    (hk : ∀ (s : Shared) (H : Hp) (C : Addr) (cl : List (Str × Addr)) (fp : List Addr), PE (X.blk s H scope (compEnvC scope cl C X.env) fp) kx tk)
    (he : ∀ (s : Shared) (H : Hp) (C : Addr) (cl : List (Str × Addr)) (fp : List Addr), PE (X.blk s H scope (compEnvC scope cl C X.env) fp) vx tv) (hs : ∀ x, foldedSetIterable iter X.env x = pure x := by intro _; rfl) :
    PS X (.Assign [.Name y py] (.DictComp kx vx [⟨tg, iter, ifs, 0⟩] scope pos) spos) (tAsg (tDc wi g tt tk tv (own.map (·.2))) (gName i)) := by
  refine ⟨fun pins s σ H D I h => ?_⟩
  rw [exec_Assign_Name_used _ _ _ _ hsw]
  refine wpAny_bind (wpAny_standAt (wpAny_bind ?_))
  show wpAny _ X.A (do let _ ← comprehension (.DictComp kx vx [⟨tg, iter, ifs, 0⟩] scope pos) scope X.env (firstIterPos [⟨tg, iter, ifs, 0⟩] pos) newDict false (eval iter X.env) (some (assign (.Name y py) X.env))) _ _ s
  have h : tDc wi g tt tk tv (own.map (·.2)) σ H (fun x H1 => gName i x σ H1 D.nx) := h
  exact wpAny_bind (thn (dc_core (Qf := fun _ s' => SP X pins D .next s') hc hN I hi ok hg ht hk he hs h fun L C s' m H' I' q hn f => use_store hN hy hyl I' q hn f) fun _ s' hq => wpAny_pure (wpAny_pure hq))
/-- a dict that is not empty == {} -/
def rEqDe : R2 := fun x y H Q => ∃ a b kvs, x = .ref a ∧ y = .ref b ∧ H a = some (.dK kvs) ∧ kvs ≠ [] ∧ H b = some (.dK []) ∧ Q (.bl false) H
theorem op_eqDe (hu : X.A.units < cLine) : OpR X (compareOp .Eq) rEqDe := fun pins s σ H x y v u Q I rx ry h => by
  obtain ⟨a, b, kvs, rfl, rfl, h1, hne, h2, q⟩ := h
  cases rx
  cases ry
  obtain ⟨_, m1, vs, r1, d1⟩ := dk_of I.hok h1
  obtain ⟨_, m2, ws, r2, d2⟩ := dk_of I.hok h2
  have l1 := r1.length
  have l2 := r2.length
  have hl : (vs.length == ws.length) = false := by
    rw [beq_eq_false_iff_ne, ← l1, ← l2]
    intro e
    exact hne (List.eq_nil_of_length_eq_zero e)
  refine PySem.W.keq_eqIn (r := true) m1 m2 d1 d2 hu (fun e => ?_) ⟨.bl false, H, I, by rw [hl]; rfl, q⟩
  rw [beq_eq_false_iff_ne] at hl
  exact absurd e hl
end
abbrev RDi (g : TG) (tt : TT) (tk tv : TE) (vs : List Nat) (σ : L2.St) (Q : VK) : It → Hp → Prop := fun J H1 => ∀ D, H1 D = none → ∃ W : Nat → Nat → Hp → Prop, (∃ m, W 0 m (upd H1 D (.dK []))) ∧ ∀ i m H, W i m H →
  (J.stop i H ∧ Q (.ref D) H) ∨ (J.go i H ∧ ∃ Nx : Hp → Prop, (∀ H', Nx H' → ∃ m', m' < m ∧ W (i + 1) m' H') ∧ ∀ x H', J.yld i H x H' → g x (wipe σ vs) H' fun σ2 H2 => wipe σ2 vs = wipe σ vs ∧ tt σ2 H2 fun b H3 =>
    if b = true then tk σ2 H3 fun y H4 => tv σ2 H4 fun z H5 => ∃ kvs k, y = kV k ∧ H5 D = some (.dK kvs) ∧ kvs.length < sizeLine ∧ Nx (upd H5 D (.dK (putK kvs k z))) else Nx H3)
theorem tDc_I {wi : TI} {g : TG} {tt : TT} {tk tv : TE} {vs : List Nat} {σ : L2.St} {H : Hp} {Q : VK} (h : wi σ H (RDi g tt tk tv vs σ Q)) : tDc wi g tt tk tv vs σ H Q := h
theorem seq_dc {wi : TI} {g : TG} {tt : TT} {tk tv : TE} {vs : List Nat} {σ : L2.St} {H : Hp} {G : TG} {T : TS} {D : Ends} (h : wi σ H (RDi g tt tk tv vs σ fun x H1 => G x σ H1 (T D))) : tSeq (tAsg (tDc wi g tt tk tv vs) G) T D σ H := h
/-- how a comprehension with unlike int keys goes -/
theorem dcI {J : It} {n : Nat} {G : Hp → Prop} {Y : Nat → Hp → V → Hp → Prop} {g : TG} {tt : TT} {tk tv : TE} {vs : List Nat} {σ : L2.St} {H1 : Hp} {Q : VK} (wk : Walk J n G Y) (hn : n < sizeLine) (f : Nat → Int) (hf : ∀ i j, i < n → j < n → f i = f j → i = j)
    (Pv : Addr → Nat → List (Key × V) → Hp → Prop) (h0 : ∀ D, H1 D = none → Pv D 0 [] (upd H1 D (.dK []))) (hG : ∀ H, Same H1 H → G H) (hY : ∀ i H x H', Y i H x H' → Same H H')
    (hs : ∀ D i kvs x H H' (QT : V → V → Hp → Prop) (QF : Hp → Prop), H1 D = none → i < n → H D = some (.dK kvs) → Same H1 H → Pv D i kvs H → Y i H x H' →
      (∀ z H5, Same H' H5 → Pv D (i + 1) (kvs ++ [(.inl (f i), z)]) (upd H5 D (.dK (kvs ++ [(.inl (f i), z)]))) → QT (.int (f i)) z H5) →
      g x (wipe σ vs) H' fun σ2 H2 => wipe σ2 vs = wipe σ vs ∧ tt σ2 H2 fun b H3 => if b = true then tk σ2 H3 fun y H4 => tv σ2 H4 fun z H5 => QT y z H5 else QF H3)
    (hd : ∀ D kvs H, H1 D = none → H D = some (.dK kvs) → Same H1 H → kvs.map (·.1) = (List.range n).map (fun i => .inl (f i)) → Pv D n kvs H → Q (.ref D) H) :
    RDi g tt tk tv vs σ Q J H1 := by
  intro D hD
  have dne : ∀ b o, H1 b = some o → b ≠ D := fun b o q => ne_of_none q hD
  refine ⟨fun i m H => m = n - i ∧ i ≤ n ∧ Same H1 H ∧ ∃ kvs, H D = some (.dK kvs) ∧ kvs.map (·.1) = (List.range i).map (fun i => .inl (f i)) ∧ Pv D i kvs H, ⟨n, by omega, Nat.zero_le _, Same.new hD, [], upd_same, rfl, h0 D hD⟩, ?_⟩
  rintro i m H ⟨rfl, hi, s, kvs, e, ek, p⟩
  have hg := hG H s
  by_cases hlt : i < n
  · refine .inr ⟨wk.goes i H hlt hg, fun H' => Same H1 H' ∧ ∃ kvs, H' D = some (.dK kvs) ∧ kvs.map (·.1) = (List.range (i + 1)).map (fun i => .inl (f i)) ∧ Pv D (i + 1) kvs H', fun H' ⟨q1, q2⟩ => ⟨n - (i + 1), by omega, rfl, hlt, q1, q2⟩, fun x H' y => ?_⟩
    have y := wk.yields i H x H' hlt hg y
    have sy := hY _ _ _ _ y
    refine hs D i kvs x H H' _ _ hD hlt e s p y fun z H5 s5 p5 => ?_
    have e5 := s5 _ _ (sy _ _ e)
    have hnew : valV kvs (.inl (f i)) = none := by
      cases q : valV kvs (.inl (f i)) with
      | none => rfl
      | some v =>
        exfalso
        have := valV_in q
        rw [ek] at this
        obtain ⟨j, hj, ej⟩ := List.mem_map.mp this
        have hj := List.mem_range.mp hj
        have := hf j i (by omega) hlt (Sum.inl.inj ej)
        omega
    have hkl : kvs.length = i := by rw [← List.length_map (f := (·.1)), ek, List.length_map, List.length_range]
    refine ⟨kvs, .inl (f i), rfl, e5, by omega, fun b o q => ?_, kvs ++ [(.inl (f i), z)], ?_, ?_, ?_⟩
    · rw [upd_ne (dne b o q)]; exact s5 _ _ (sy _ _ (s _ _ q))
    · rw [putK_new z hnew]; exact upd_same
    · rw [List.map_append, ek, List.range_succ, List.map_append]; rfl
    · rw [putK_new z hnew]; exact p5
  · have ei : i = n := by omega
    subst ei
    exact .inl ⟨wk.stops H hg, hd D kvs H hD e s ek p⟩
end Lw
end
section
set_option Elab.async false
set_option linter.all false
set_option maxRecDepth 100000
set_option maxHeartbeats 2000000
/-! The houses that each rank spares. -/
namespace Lw
open PySem PySem.Spec PyProof.Rows L2
open Lk (Way Gd IsWay ltP Sd Stand Gph sc)
/-- at F a dict of dicts of houses -/
structure SpH (H : Hp) (F : Addr) (ks : List Sd) (rk : Sd → Int) (ad : Sd → Addr) (hs : Sd → List Int) : Prop where
  top : H F = some (.dK (ks.map fun s => (.inl (rk s), .ref (ad s))))
  each : ∀ s ∈ ks, ∃ kv : List (Key × V), H (ad s) = some (.dK kv) ∧ kv.map (·.1) = (hs s).map .inl
  inj : ∀ a ∈ ks, ∀ b ∈ ks, ad a = ad b → a = b
  ne : ∀ s ∈ ks, ad s ≠ F
section
variable {H H' : Hp} {F : Addr} {ks : List Sd} {rk : Sd → Int} {ad : Sd → Addr} {hs hs' : Sd → List Int}
theorem SpH.same (h : SpH H F ks rk ad hs) (s : Same H H') : SpH H' F ks rk ad hs := ⟨s _ _ h.top, fun a ha => let ⟨kv, e1, e2⟩ := h.each a ha; ⟨kv, s _ _ e1, e2⟩, h.inj, h.ne⟩
theorem SpH.get (h : SpH H F ks rk ad hs) (inj : ∀ a ∈ ks, ∀ b ∈ ks, rk a = rk b → a = b) {s : Sd} (hs : s ∈ ks) : valV (ks.map fun s => ((.inl (rk s) : Key), V.ref (ad s))) (.inl (rk s)) = some (.ref (ad s)) := by
  unfold valV
  have : ∀ l : List Sd, (∀ a ∈ l, a ∈ ks) → s ∈ l → ((l.map fun s => ((.inl (rk s) : Key), V.ref (ad s))).find? fun kv => decide (kv.1 = .inl (rk s))).map (·.2) = some (.ref (ad s)) := fun l => by
    induction l with
    | nil => intro _ h; cases h
    | cons a l ih =>
      intro hl hm
      rw [List.map_cons, List.find?_cons]
      by_cases c : rk a = rk s
      · have e : a = s := inj a (hl a List.mem_cons_self) s hs c
        subst e
        simp
      · have e : decide ((((.inl (rk a) : Key), V.ref (ad a)) : Key × V).1 = .inl (rk s)) = false := decide_eq_false fun q => c (Sum.inl.inj q)
        rw [e]
        refine ih (fun b hb => hl b (List.mem_cons_of_mem _ hb)) ?_
        rcases List.mem_cons.mp hm with q | q
        · exact absurd (by rw [q]) c
        · exact q
  exact this ks (fun a h => h) hs
/-- a house goes out of one of them -/
theorem SpH.pop (h : SpH H F ks rk ad hs) {s : Sd} (hsk : s ∈ ks) {kv kv' : List (Key × V)} {x : Int} (e1 : H (ad s) = some (.dK kv)) (e2 : kv.map (·.1) = (hs s).map .inl) (e3 : kv'.map (·.1) = (kv.map (·.1)).filter fun k => decide (k ≠ .inl x)) :
    SpH (upd H (ad s) (.dK kv')) F ks rk ad (fun a => if a = s then (hs s).filter fun y => decide (y ≠ x) else hs a) := by
  refine ⟨by rw [upd_ne (h.ne s hsk).symm]; exact h.top, fun a ha => ?_, h.inj, h.ne⟩
  by_cases c : a = s
  · subst c
    refine ⟨kv', upd_same, ?_⟩
    rw [e3, e2, if_pos rfl, List.filter_map]
    congr 1
    refine List.filter_congr fun y _ => ?_
    simp
  · obtain ⟨kv2, q1, q2⟩ := h.each a ha
    refine ⟨kv2, by rw [upd_ne (fun q => c (h.inj a ha s hsk q))]; exact q1, by rw [if_neg c]; exact q2⟩
end
theorem dropK_keys (kv : List (Key × V)) (k : Key) : (dropK kv k).map (·.1) = (kv.map (·.1)).filter fun j => decide (j ≠ k) := by
  unfold dropK
  rw [List.filter_map]
  rfl
section
variable {P : Program} {w : World} {K : PySem.W.Frag} {mg : Str → Option Value} {base : Heap}
theorem paired_snd {H : Hp} {κ : Type} {e : κ → PyData} : ∀ {kvs : List (κ × V)} {xs : List NE}, Paired (fun (p : κ × V) (q : NE) => q.1 = nk (e p.1) ∧ Im K H (.ref q.2.1) (e p.1) ∧ RelV p.2 q.2.2) kvs xs → Paired (fun (v : V) (q : NE) => RelV v q.2.2) (kvs.map (·.2)) xs
  | _, _, .nil => .nil
  | _, _, .cons a t => .cons a.2.2 (paired_snd t)
/-- values of a dict that a walk yields -/
theorem df_vals {H : Hp} {d : Addr} {ks : List Sd} {rk : Sd → Int} (x : DF P w K eS H d ks (fun k => eI (rk k))) : ∃ xs ep, H d = some (dN P w d xs ep) ∧ Paired (fun (v : V) (q : NE) => RelV v q.2.2) (ks.map fun k => V.int (rk k)) xs := by
  obtain ⟨kvs, ⟨xs, ep, h1, h2⟩, e, h3⟩ := x.ex
  refine ⟨xs, ep, h1, ?_⟩
  have hv : ks.map (fun k => V.int (rk k)) = kvs.map (·.2) := by
    rw [← e, List.map_map]
    refine List.map_congr_left fun p hp => ?_
    have := (h3 p hp).im
    exact this.int_inv.symm
  rw [hv]
  exact paired_snd h2
/-- who is never taken out of a stand's dict -/
def Wit (g : Gd) (s : Sd) (x : Int) : Prop := 1 ≤ x ∧ x < g.many ∧ (choicesF g s ≠ s → ∃ h : Nat, x = h ∧ Lk.choice g s h ≠ Lk.at_ s h)
theorem wit_ex {g : Gd} (ok : g.Ok) {s : Sd} (st : Stand g s) : ∃ x, Wit g s x := by
  have hlo := ok.lo
  by_cases c : choicesF g s = s
  · exact ⟨1, by omega, by omega, fun h => absurd c h⟩
  · have : ∃ h : Nat, 1 ≤ h ∧ h < g.many ∧ Lk.choice g s h ≠ Lk.at_ s h := Classical.byContradiction fun hn => c (Lk.choices_eq ok st fun h h1 h2 => Classical.byContradiction fun q => hn ⟨h, h1, h2, q⟩)
    obtain ⟨h, h1, h2, h3⟩ := this
    exact ⟨h, by omega, by omega, fun _ => ⟨h, rfl, h3⟩⟩
theorem sc_spared_houses : FnScope ["guild", "graph", "rank", "number", "house", "found", "stand", "turn", "after"] ["guild", "graph", "rank"] (defScope s_spared_houses) := ⟨rfl, rfl, rfl, by decide +kernel, rfl, by decide +kernel, by decide +kernel⟩
def S_spared_houses (P : Program) (w : World) (K : PySem.W.Frag) : Sp := fun vs H Q _ => ∃ (v : V) (dG dR : Addr) (g : Gd) (ks : List Sd) (rk : Sd → Int), vs = [v, .ref dG, .ref dR] ∧ Im K H v (eG g) ∧ DF P w K eS H dG ks (fun k => eL eEd (Lk.succs g k)) ∧ DF P w K eS H dR ks (fun k => eI (rk k)) ∧ (∀ a ∈ ks, ∀ b ∈ ks, rk a = rk b → a = b) ∧ Gph g ks ∧ g.Ok ∧
  ∀ F ad hs H', (∀ s ∈ ks, hs s ≠ []) → SpH H' F ks rk ad hs → Same H H' → H F = none → Q (.ref F) H'
theorem w_spared_houses (B : Bi mg) (D : Df K mg "spared_houses" s_spared_houses) (his_steady : Has P w K mg base 4 "is_steady" ["guild", "stand"] (S_is_steady P w K)) : Has P w K mg base 5 "spared_houses" ["guild", "graph", "rank"] (S_spared_houses P w K) := by
  refine D.has sc_spared_houses (fun vs H Q E h => ?_) (fun _ _ _ _ _ _ us hl => match us, hl with | [_, _, _], _ => rfl) (fun f cdv A outer s H vs Q E hr h => ?_)
  rotate_left
  have nd := sc_spared_houses.nd
  have hu := hr.units
  have hu0 := hr.units0
  have hu1 := hu_of hr
  refine ⟨_, (pss_cons (ps_setDc (i := 5) (g := (gName 3)) (tt := tYes) (tk := (tVar 3)) (tv := (tDc (iRng2 (tCons (tC (.int 1)) (tCons (tOp (rIxD K) (tVar 0) (tC (.int 0))) tNil))) (gName 4) tYes (tVar 4) (tC (.bl true)) [4])) rfl nd rfl rfl (sw_trueD rfl rfl rfl (by decide +kernel)) (pi_NV (pv 2)) (blkOk_by (own := [("number", 3)]) (by rfl)) (fun _ _ _ _ _ => (pg_name (i := 3) nd rfl (Or.inl rfl))) (fun _ _ _ _ _ => pts_nil) (fun _ _ _ _ _ => (pv 3)) (fun _ _ _ _ _ => (pe_dc (g := (gName 4)) (tt := tYes) (tk := (tVar 4)) (tv := (tC (.bl true))) rfl nd (pi_range2 (by rfl) B.range (pa_cons pe_int (pa_cons (pe_ix ix_D (pv 0) pe_int (fun _ _ => rfl)) pa_nil))) (blkOk_by (own := [("house", 4)]) (by rfl)) (fun _ _ _ _ _ => (pg_name (i := 4) nd rfl (Or.inl rfl))) (fun _ _ _ _ _ => pts_nil) (fun _ _ _ _ _ => (pv 4)) (fun _ _ _ _ _ => pe_bl)))) (pss_cons (ps_for (passes_of rfl) rfl (pi_N (pv 1)) (pg_name (i := 6) nd rfl (Or.inl rfl)) (pss_one (ps_if (pt_not (pt_val (pe_has his_steady hr (by decide) (pa_cons (pv 0) (pa_cons (pv 6) pa_nil))))) (pss_one (ps_for (passes_of rfl) rfl (pi_seq (pe_ix (ix_N hu) (pv 1) (pv 6) (fun _ _ => rfl))) (pg_tup (by rfl) (pgs_cons (pg_name (i := 7) nd rfl (Or.inl rfl)) (pgs_cons (pg_name (i := 8) nd rfl (Or.inl rfl)) pgs_nil))) (pss_one (ps_if (pt_cmpR op_eq (pe_ix (ix_N hu) (pv 2) (pv 8) (fun _ _ => rfl)) (pe_ix (ix_N hu) (pv 2) (pv 6) (fun _ _ => rfl)) (nomark _)) (pss_one (ps_for (passes_of rfl) rfl (pi_seq (pv 7)) (pg_name (i := 4) nd rfl (Or.inl rfl)) (pss_one (ps_expr (pe_dpop2 (pe_dget hu1 (pv 5) (pe_ix (ix_N hu) (pv 2) (pv 6) (fun _ _ => rfl)) (fun _ _ => rfl)) (pv 4) pe_non ⟨rfl, rfl, rfl, rfl⟩))))) pss_nil)))) pss_nil))) (pss_one (ps_ret (pv 5))))), ?_⟩
  rotate_left
  · obtain ⟨_, _, _, _, _, _, rfl, _⟩ := h
    rfl
  · obtain ⟨v, dG, dR, g, ks, rk, rfl, hg, df, dr, inj, gp, ok, q⟩ := h
    have hlo := ok.lo
    have hhi := ok.hi
    have hks : ks.length ≤ 512 := Lk.stands_len ok gp.nd gp.st
    obtain ⟨xs, ep, hR, hp⟩ := df_vals dr
    have wk := walk_NV (P := P) (w := w) (d := dR) (xs := xs) (ep := ep) (us := ks.map fun k => V.int (rk k))
    have hxl : xs.length = ks.length := by rw [← Paired.length hp, List.length_map]
    -- a dict of all houses
    have en : ((g.many : Int) - 1).toNat = g.many - 1 := by omega
    have inner : ∀ (num : V) (H1 : Hp) (QV : VK), Same H H1 → (∀ D kv H2, Same H1 H2 → H1 D = none → H2 D = some (.dK kv) → kv.map (·.1) = ((List.range (g.many - 1)).map fun i => (1 : Int) + (i : Nat)).map .inl → QV (.ref D) H2) →
        tDc (iRng2 (tCons (tC (.int 1)) (tCons (tOp (rIxD K) (tVar 0) (tC (.int 0))) tNil))) (gName 4) tYes (tVar 4) (tC (.bl true)) [4] [some v, some (.ref dG), some (.ref dR), some num, none, none, none, none, none] H1 QV := by
      intro num H1 QV s1 hQ
      refine tDc_I ?_
      refine ⟨_, rfl, _, 0, .int g.many, .inl (eG_inv (hg.same s1)), rfl, rfl, fun x hx => ?_⟩
      cases hx
      refine ⟨_, _, rfl, ⟨by decide, by decide, by omega, by omega⟩, ?_⟩
      rw [en]
      refine dcI (walk_range (lo := 1) (n := g.many - 1)) (by rw [sizeLine_eq]; omega) (fun i => (1 : Int) + (i : Nat)) (fun i j _ _ e => by omega) (fun _ _ _ _ => True) (fun _ _ => True.intro) (fun _ _ => True.intro) (fun i H x H' y => by rw [y.1]; exact Same.refl _) (fun D i kvs x H2 H3 QT QF hD hi e s2 _ y kT => ?_) (fun D kvs H2 hD e s2 ek _ => hQ D kvs H2 s2 hD e (by rw [ek, List.map_map]; rfl))
      obtain ⟨ex, rfl⟩ := y
      subst ex
      exact ⟨rfl, _, rfl, kT _ _ (Same.refl _) True.intro⟩
    refine seq_dc ?_
    refine ⟨_, rfl, dR, _, xs, ep, rfl, hR, hp, ?_⟩
    let full : List Int := (List.range (g.many - 1)).map fun i => (1 : Int) + (i : Nat)
    refine dcI wk (by rw [sizeLine_eq]; omega) (fun i => rk (ks.getD i [])) (fun i j hi hj e => ?_)
      (fun D i kvs H2 => ∃ ad : Sd → Addr, kvs = (ks.take i).map (fun s => (.inl (rk s), .ref (ad s))) ∧ (∀ s ∈ ks.take i, (∃ kv : List (Key × V), H2 (ad s) = some (.dK kv) ∧ kv.map (·.1) = full.map .inl) ∧ ad s ≠ D ∧ H (ad s) = none) ∧ ∀ a ∈ ks.take i, ∀ b ∈ ks.take i, ad a = ad b → a = b)
      (fun D hD => ⟨fun _ => 0, by simp, by simp, by simp⟩) (fun H2 s => s _ _ hR) (fun i H x H' y => by rw [y.1]; exact Same.refl _) (fun D i kvs x H2 H3 QT QF hD hi e s2 pv y kT => ?_) (fun F kvs H1 fF e s1 ek pv => ?_)
    · rw [hxl] at hi hj
      have e1 : ks.getD i [] = ks[i] := by rw [List.getD_eq_getElem?_getD, List.getElem?_eq_getElem hi]; rfl
      have e2 : ks.getD j [] = ks[j] := by rw [List.getD_eq_getElem?_getD, List.getElem?_eq_getElem hj]; rfl
      rw [e1, e2] at e
      have := inj _ (List.getElem_mem hi) _ (List.getElem_mem hj) e
      exact (List.getElem_inj gp.nd).mp this
    · obtain ⟨rfl, hy⟩ := y
      rw [hxl] at hi
      obtain ⟨ad, rfl, had, hinj⟩ := pv
      have hsi : ks[i]? = some ks[i] := List.getElem?_eq_getElem hi
      rw [List.getElem?_map, hsi] at hy
      cases hy
      have eg : ks.getD i [] = ks[i] := by rw [List.getD_eq_getElem?_getD, hsi]; rfl
      rw [eg] at kT
      have hnew : ks[i] ∉ ks.take i := fun c => by
        have e2 := List.take_append_drop i ks
        rw [List.drop_eq_getElem_cons hi] at e2
        have nd := gp.nd
        rw [← e2, List.nodup_append] at nd
        exact nd.2.2 _ c _ List.mem_cons_self rfl
      refine ⟨rfl, _, rfl, inner _ _ _ s2 fun A kv H4 s4 fA eA ekA => kT _ _ s4 ?_⟩
      have nAD : A ≠ D := fun q => by rw [q, e] at fA; cases fA
      refine ⟨fun s => if s = ks[i] then A else ad s, ?_, fun s hs => ?_, fun a ha b hb q => ?_⟩
      · rw [take_snoc hsi, List.map_append, List.map_singleton]
        simp only [if_true]
        congr 1
        refine List.map_congr_left fun s hs => ?_
        have hne : ¬ (s = ks[i]) := fun q => hnew (by rw [← q]; exact hs)
        rw [if_neg hne]
      · rw [take_snoc hsi] at hs
        by_cases c : s = ks[i]
        · subst c
          simp only [if_true]
          exact ⟨⟨kv, by rw [upd_ne nAD]; exact eA, ekA⟩, nAD, none_back s2 fA⟩
        · simp only [if_neg c]
          have hs := (List.mem_append.mp hs).resolve_right fun q => c (List.mem_singleton.mp q)
          obtain ⟨⟨kv2, q1, q2⟩, q3, q4⟩ := had s hs
          exact ⟨⟨kv2, by rw [upd_ne q3]; exact s4 _ _ q1, q2⟩, q3, q4⟩
      · rw [take_snoc hsi] at ha hb
        have mem : ∀ {z : Sd}, z ∈ ks.take i ++ [ks[i]] → z ≠ ks[i] → z ∈ ks.take i := fun {z} hz n => (List.mem_append.mp hz).resolve_right fun q => n (List.mem_singleton.mp q)
        have old : ∀ {z : Sd}, z ∈ ks.take i → ad z ≠ A := fun {z} hz q => by
          obtain ⟨⟨kv2, q1, _⟩, _⟩ := had z hz
          rw [q, fA] at q1; cases q1
        by_cases c1 : a = ks[i]
        · by_cases c2 : b = ks[i]
          · rw [c1, c2]
          · simp only [if_pos c1, if_neg c2] at q
            exact absurd q.symm (old (mem hb c2))
        · by_cases c2 : b = ks[i]
          · simp only [if_neg c1, if_pos c2] at q
            exact absurd q (old (mem ha c1))
          · simp only [if_neg c1, if_neg c2] at q
            exact hinj a (mem ha c1) b (mem hb c2) q
    · obtain ⟨ad, rfl, had, hinj⟩ := pv
      rw [hxl, List.take_length] at e had hinj
      have hmem : ∀ x : Int, 1 ≤ x → x < g.many → x ∈ full := fun x h1 h2 => List.mem_map.mpr ⟨(x - 1).toNat, List.mem_range.mpr (by omega), by omega⟩
      have sp0 : SpH H1 F ks rk ad (fun _ => full) := ⟨e, fun s hs => (had s hs).1, hinj, fun s hs => (had s hs).2.1⟩
      have fad : ∀ s ∈ ks, H (ad s) = none := fun s hs => (had s hs).2.2
      obtain ⟨wt, hwt⟩ : ∃ wt : Sd → Int, ∀ s ∈ ks, Wit g s (wt s) := by
        refine ⟨fun s => if hs : s ∈ ks then (wit_ex ok (gp.st s hs)).choose else 0, fun s hs => ?_⟩
        simp only [dif_pos hs]
        exact (wit_ex ok (gp.st s hs)).choose_spec
      obtain ⟨kvG, dnG, ekG⟩ := df.dn
      have hlk : kvG.length = ks.length := by rw [← ekG, List.length_map]
      refine ⟨_, rfl, for_K key_S rfl (dnG.same s1) (fun i σ' H' => ∃ hs : Sd → List Int, ∃ y3 y4 y6 y7 y8, σ' = [some v, some (.ref dG), some (.ref dR), y3, y4, some (.ref F), y6, y7, y8] ∧ Same H H' ∧ TK H1 H' ∧ SpH H' F ks rk ad hs ∧ ∀ s ∈ ks, wt s ∈ hs s)
        ⟨fun _ => full, _, _, _, _, _, rfl, s1, TK.refl, sp0, fun s hs => hmem _ (hwt s hs).1 (hwt s hs).2.1⟩ (fun i σ' H' p => ?_) (fun i s vv x σ' H' hs hx pv => ?_) (fun σ' H' pv => ?_)⟩
      · obtain ⟨_, _, _, _, _, _, _, sH, tk, _⟩ := p
        obtain ⟨xs, ep, hh, _⟩ := dnG
        exact ⟨tk, by rw [sH _ _ hh, s1 _ _ hh]⟩
      · obtain ⟨hd, y3, y4, y6, y7, y8, rfl, sH, tk, sp, hw⟩ := pv
        have hsi : ks[i]? = some s := by rw [← ekG, List.getElem?_map, hs]; rfl
        have hsk : s ∈ ks := List.mem_of_getElem? hsi
        have hx' : Im K H' x (eS s) := hx
        have st := gp.st s hsk
        refine ⟨_, rfl, _, rfl, _, _, g, s, rfl, hg.same sH, hx', ⟨ok, st.len⟩, fun r2 H2 s2 i2 => ?_⟩
        cases i2
        refine ⟨_, rfl, ?_⟩
        have sH2 := sH.trans s2
        by_cases c : choicesF g s = s
        · exact ifF (by simp [c]) ⟨hd, _, _, _, _, _, rfl, sH2, tk.trans s2.tk, sp.same s2, hw⟩
        refine ifT (by simp [c]) ?_
        obtain ⟨kvq, vq, g1, g2, g3⟩ := df.get hsk
        have ivq : Im K H vq (eL eEd (Lk.succs g s)) := g3.im
        refine ⟨_, rfl, _, rfl, _, inferInstance, eS, s, dG, kvq, vq, key_S, rfl, g1.same sH2, hx'.same s2, g2, ?_⟩
        refine for_LT (ea := eEd) (l := Lk.succs g s) (ivq.same sH2) (fun j σ' H3 => ∃ hs : Sd → List Int, ∃ y3 y4 y7 y8, σ' = [some v, some (.ref dG), some (.ref dR), y3, y4, some (.ref F), some x, y7, y8] ∧ Same H H3 ∧ TK H2 H3 ∧ SpH H3 F ks rk ad hs ∧ ∀ s ∈ ks, wt s ∈ hs s)
          ⟨hd, _, _, _, _, rfl, sH2, TK.refl, sp.same s2, hw⟩ (fun j σ' H3 p a e => ?_) (fun j p y σ' H3 hp hy pv => ?_) (fun σ' H3 pv => ?_)
        · obtain ⟨_, _, _, _, _, _, s3, _⟩ := p
          exact same_two ivq sH2 s3 a e
        · obtain ⟨hd, z3, z4, z7, z8, rfl, sH3, tk3, sp3, hw3⟩ := pv
          have hpm := List.mem_of_getElem? hp
          have hpk := gp.cl s hsk p hpm
          obtain ⟨T, xs, rfl, hq, him⟩ := (hy.tk tk3 (flat_Ed p)).tup_inv
          obtain ⟨x1, r1, rfl, j1, him⟩ := ImAll.uncons him
          obtain ⟨x2, r2', rfl, j2, him⟩ := ImAll.uncons him
          cases him
          have hx3 : Im K H3 x (eS s) := (hx'.same s2).tk tk3 (flat_S s)
          refine ⟨T, _, rfl, hq, rfl, _, _, rfl, _, _, rfl, rfl, ?_⟩
          obtain ⟨kr1, v1, a1, a2, a3⟩ := (dr.same sH3).get hpk
          obtain ⟨kr2, v2, b1, b2, b3⟩ := (dr.same sH3).get hsk
          have e1 := a3.im.int_inv
          have e2 := b3.im.int_inv
          subst e1 e2
          refine ⟨_, rfl, _, rfl, _, inferInstance, eS, p.2, dR, kr1, _, key_S, rfl, a1, j2, a2, _, rfl, _, rfl, _, inferInstance, eS, s, dR, kr2, _, key_S, rfl, b1, hx3, b2, rfl, _, rfl, ?_⟩
          rw [dec_int]
          by_cases ce : rk p.2 = rk s
          · refine ifT (beq_iff_eq.mpr ce) ?_
            have hps : p.2 = s := inj _ hpk _ hsk ce
            obtain ⟨t, ht, rfl⟩ := List.mem_map.mp hpm
            have hmade : Lk.madeB (Lk.choicesL g s) s t = s := hps
            have j1 : Im K H3 x1 (eW t) := j1
            have htr := Lk.turnsF_rng (Lk.allTurns_mem ht)
            refine ⟨_, rfl, for_TT j1 (fun l σ' H4 => ∃ hs : Sd → List Int, ∃ y3 y4, σ' = [some v, some (.ref dG), some (.ref dR), y3, y4, some (.ref F), some x, some x1, some x2] ∧ Same H H4 ∧ TK H3 H4 ∧ SpH H4 F ks rk ad hs ∧ ∀ s ∈ ks, wt s ∈ hs s)
              ⟨hd, _, _, rfl, sH3, TK.refl, sp3, hw3⟩ (fun l σ' H4 p => p.choose_spec.choose_spec.choose_spec.2.2.1) (fun l h u σ' H4 hh hu pv => ?_) (fun σ' H4 pv => ?_)⟩
            · obtain ⟨hd, q3, q4, rfl, sH4, tk4, sp4, hw4⟩ := pv
              cases hu
              have hhr := htr h (List.mem_of_getElem? hh)
              obtain ⟨kv, ek1, ek2⟩ := sp4.each s hsk
              obtain ⟨kr, v3, c1, c2, c3⟩ := (dr.same sH4).get hsk
              have e3 := c3.im.int_inv
              subst e3
              have hx4 : Im K H4 x (eS s) := hx3.tk tk4 (flat_S s)
              have hget := sp4.get inj hsk
              have hdg : DGet H4 F (kV (.inl (rk s))) (some (.ref (ad s))) := by rw [← hget]; exact DGet.k sp4.top
              refine ⟨_, rfl, _, rfl, _, rfl, _, inferInstance, eS, s, dR, kr, _, key_S, rfl, c1, hx4, c2, F, .ref (ad s), rfl, hdg, ad s, rfl, .inl ⟨kv, .inl ek1⟩, _, rfl, kv, .inl h, ek1, rfl, fun v' hv' => ?_, fun hv' => ?_⟩
              · have hne : wt s ≠ h := fun q => by
                  obtain ⟨w1, w2, w3⟩ := hwt s hsk
                  obtain ⟨h0, e0, n0⟩ := w3 c
                  have hm0 : (h0 : Int) ∈ t := by rw [← e0, q]; exact List.mem_of_getElem? hh
                  exact n0 (Lk.made_same st hmade (by omega) (by omega) hm0)
                refine ⟨fun a => if a = s then (hd s).filter fun y => decide (y ≠ h) else hd a, _, _, rfl, same_kp1 sH4 Kp.upd (fad s hsk), tk4.trans (TK.upd ek1 fun _ _ q => nomatch q), sp4.pop hsk ek1 ek2 (dropK_keys kv _), fun a ha => ?_⟩
                by_cases z : a = s
                · subst z
                  simp only [if_true]
                  exact List.mem_filter.mpr ⟨hw4 a ha, by simpa using hne⟩
                · simp only [if_neg z]; exact hw4 a ha
              · exact ⟨hd, _, _, rfl, sH4, tk4, sp4, hw4⟩
            · obtain ⟨hd, q3, q4, rfl, sH4, tk4, sp4, hw4⟩ := pv
              exact ⟨hd, _, _, _, _, rfl, sH4, tk3.trans tk4, sp4, hw4⟩
          · exact ifF (by rw [beq_eq_false_iff_ne]; exact ce) ⟨hd, _, _, _, _, rfl, sH3, tk3, sp3, hw3⟩
        · obtain ⟨hd, z3, z4, z7, z8, rfl, sH3, tk3, sp3, hw3⟩ := pv
          exact ⟨hd, _, _, _, _, _, rfl, sH3, (tk.trans s2.tk).trans tk3, sp3, hw3⟩
      · obtain ⟨hd, y3, y4, y6, y7, y8, rfl, sH, tk, sp, hw⟩ := pv
        exact ⟨_, rfl, q F ad hd H' (fun s hs z => by have := hw s hs; rw [z] at this; cases this) sp sH fF⟩
end
end Lw
end
section
set_option Elab.async false
set_option linter.all false
set_option maxRecDepth 100000
set_option maxHeartbeats 2000000
/-! The verdict. -/
namespace Lw
open PySem PySem.Spec PyProof.Rows L2
open Lk (Way Gd IsWay ltP Sd Stand Gph sc)
abbrev eVt : Sd × Int × Int → PyData := e3 eS eI eI
theorem enc_Vt : EncOk eVt 3 := enc_trip enc_S (enc_int.mono (by decide)) (enc_int.mono (by decide))
theorem flat_Vt (p : Sd × Int × Int) : flat (eVt p) = true := flat_trip flat_S flat_int flat_int p
noncomputable def mnF (l : List Int) : Int := open Classical in if h : ∃ m, m ∈ l ∧ ∀ j ∈ l, m ≤ j then h.choose else 0
theorem mnF_eq {l : List Int} {m : Int} (h1 : m ∈ l) (h2 : ∀ j ∈ l, m ≤ j) : mnF l = m := by
  have h : ∃ m, m ∈ l ∧ ∀ j ∈ l, m ≤ j := ⟨m, h1, h2⟩
  unfold mnF
  rw [dif_pos h]
  have := h.choose_spec
  exact Int.le_antisymm (this.2 m h1) (h2 _ this.1)
section
variable {P : Program} {w : World} {K : PySem.W.Frag} {mg : Str → Option Value} {base : Heap}
theorem sc_verdict : FnScope ["guild", "most", "graph", "rank", "spared", "number", "stand"] ["guild", "most"] (defScope s_verdict) := ⟨rfl, rfl, rfl, by decide +kernel, rfl, by decide +kernel, by decide +kernel⟩
def S_verdict (P : Program) (w : World) (K : PySem.W.Frag) : Sp := fun vs H Q _ => ∃ v g, vs = [v, .int 1000] ∧ Im K H v (eG g) ∧ g.Ok ∧ (∃ o, Lk.IsOrd g o) ∧ ∀ r d H', Same H H' → Im K H' r (.tuple [.str "safe", d]) → Q r H'
theorem w_verdict (B : Bi mg) (D : DfK K mg "verdict" s_verdict [("most", .int 1000)]) (hgraph_of : Has P w K mg base 5 "graph_of" ["guild", "most"] (S_graph_of P w K)) (hranks_of : Has P w K mg base 2 "ranks_of" ["graph"] (S_ranks_of P w K))
    (hspared_houses : Has P w K mg base 5 "spared_houses" ["guild", "graph", "rank"] (S_spared_houses P w K)) : HasD P w K mg base 6 "verdict" ["guild", "most"] [.int 1000] (S_verdict P w K) := by
  refine D.has sc_verdict (by simp) rfl (fun vs H Q E h => ?_) (fun D doc pm an cdv ct us ks h1 h2 => match us, h1, ks, h2 with | [u0], _, [k], _ => ⟨_, _, _, _, _, _, rfl, rfl, rfl⟩) (fun f cdv A outer s H vs Q E hr h => ?_)
  rotate_left
  have nd := sc_verdict.nd
  have hu := hr.units
  have hu0 := hr.units0
  have hu1 := hu_of hr
  refine ⟨_, (pss_cons (ps_set (i := 2) nd rfl (Or.inl rfl) (pe_has hgraph_of hr (by decide) (pa_cons (pv 0) (pa_cons (pv 1) pa_nil)))) (pss_cons (ps_set (i := 3) nd rfl (Or.inr rfl) (pe_has hranks_of hr (by decide) (pa_cons (pv 2) pa_nil))) (pss_cons (ps_set (i := 4) nd rfl (Or.inr rfl) (pe_has hspared_houses hr (by decide) (pa_cons (pv 0) (pa_cons (pv 2) (pa_cons (pv 3) pa_nil))))) (pss_cons (ps_lock (ps_for (passes_of rfl) rfl (pi_keys (pv 4)) (pg_name (i := 5) nd rfl (Or.inr rfl)) (pss_one (ps_if (pt_cmpR (op_eqDe hu0) (pe_dget hu1 (pv 4) (pv 5) (fun _ _ => rfl)) pe_dnewK (nomark _)) (pss_one ps_never) pss_nil)))) (pss_one (ps_ret (pe_tupD (pa_cons pe_str (pa_cons (pe_callB (call_sortD hu) (by rfl) B.sorted (by decide +kernel) (pa_cons (pe_lc (g := (gName 6)) (tt := tYes) (te := (tDispT K (tCons (tVar 6) (tCons (tOp (rIxN P w K) (tVar 3) (tVar 6)) (tCons (tCB rMinK (tCons (tDGet (tVar 4) (tOp (rIxN P w K) (tVar 3) (tVar 6))) tNil)) tNil))))) rfl nd (pi_N (pv 2)) (blkOk_by (own := [("stand", 6)]) (by rfl)) (fun _ _ _ _ _ => (pg_name (i := 6) nd rfl (Or.inl rfl))) (fun _ _ _ _ _ => pts_nil) (fun _ _ _ _ _ => (pe_tupD (pa_cons (pv 6) (pa_cons (pe_ix (ix_N hu) (pv 3) (pv 6) (fun _ _ => rfl)) (pa_cons (pe_callB (cr_minK rfl) (by rfl) B.min (by decide +kernel) (pa_cons (pe_dget hu1 (pv 4) (pe_ix (ix_N hu) (pv 3) (pv 6) (fun _ _ => rfl)) (fun _ _ => rfl)) pa_nil)) pa_nil)))))) pa_nil)) pa_nil))))))))), ?_⟩
  rotate_left
  · obtain ⟨_, _, rfl, _⟩ := h
    rfl
  · obtain ⟨v, g, rfl, h1, ok, hex, q⟩ := h
    refine ⟨_, rfl, _, rfl, v, g, rfl, h1, ok, fun ks dG H1 gp s1 f1 df => ?_⟩
    have hks : ks.length ≤ 512 := Lk.stands_len ok gp.nd gp.st
    refine ⟨_, rfl, dG, g, ks, rfl, df, gp, ok, hex, fun rk dR H2 inj s2 f2 dr => ?_⟩
    refine ⟨_, rfl, _, rfl, _, rfl, v, dG, dR, g, ks, rk, rfl, h1.same (s1.trans s2), df.same s2, dr, inj, gp, ok, fun F ad hs H3 hne sp s3 f3 => ?_⟩
    refine ⟨F, _, sp.top, True.intro, fun od => ?_⟩
    have sL : ∀ b o, b ≠ F → H3 b = some o → upd H3 F (.frz od (.dK (ks.map fun s => (.inl (rk s), .ref (ad s))))) b = some o := fun b o n e => by rw [upd_ne n]; exact e
    refine ⟨_, rfl, F, od, rfl, .inl ⟨_, upd_same, ?_⟩⟩
    refine for_it walk_keys (fun i σ' H' => (∃ y5, σ' = [some v, some (.int 1000), some (.ref dG), some (.ref dR), some (.ref F), y5, none]) ∧ Same (upd H3 F (.frz od (.dK (ks.map fun s => (.inl (rk s), .ref (ad s)))))) H') ⟨⟨_, rfl⟩, Same.refl _⟩ (fun i σ' H' _ p => p.2 _ _ upd_same) (fun i x σ' H' H'' hi pv y => ?_) (fun σ' H' pv => ?_)
    · obtain ⟨⟨y5, rfl⟩, sH⟩ := pv
      obtain ⟨rfl, k, vv, hk, rfl⟩ := y
      rw [List.getElem?_map] at hk
      obtain ⟨s, hs', e⟩ := Option.map_eq_some_iff.mp hk
      cases e
      have hsk := List.mem_of_getElem? hs'
      obtain ⟨kv, e1, e2⟩ := sp.each s hsk
      have e3 := sH _ _ (sL _ _ (sp.ne s hsk) e1)
      have hget := sp.get inj hsk
      refine ⟨_, rfl, _, rfl, F, .ref (ad s), rfl, .inl ⟨_, .inl (rk s), .inr ⟨od, sH _ _ upd_same⟩, rfl, hget.symm⟩, fun p fp => ?_⟩
      refine ⟨ad s, p, kv, rfl, rfl, ?_, fun q => ?_, upd_same, _, rfl, ifF rfl ⟨⟨_, rfl⟩, sH.trans (Same.new fp)⟩⟩
      · rw [upd_ne (ne_of_none e3 fp)]; exact e3
      · rw [q] at e2
        have := hne s hsk
        cases h : hs s with
        | nil => exact this h
        | cons a l => rw [h] at e2; simp at e2
    · obtain ⟨⟨y5, rfl⟩, sH⟩ := pv
      refine ⟨sH _ _ upd_same, ?_⟩
      have s5 : Same H3 (upd H' F (.dK (ks.map fun s => (.inl (rk s), .ref (ad s))))) := fun b o e => by
        by_cases c : b = F
        · subst c
          rw [sp.top] at e
          cases e
          exact upd_same
        · rw [upd_ne c]; exact sH _ _ (sL b o c e)
      generalize upd H' F (.dK (ks.map fun s => (.inl (rk s), .ref (ad s)))) = H5 at s5
      have sp5 := sp.same s5
      have df5 := (df.same s2).same (s3.trans s5)
      have dr5 := dr.same (s3.trans s5)
      obtain ⟨kvG, dnG, ekG⟩ := df5.dn
      have hlk : kvG.length = ks.length := by rw [← ekG, List.length_map]
      refine ⟨_, rfl, lc_K rfl dnG (by omega) (fun s => some (eVt (s, rk s, mnF (hs s)))) (fun D k x H6 QT QF hk s6 hN hx kT kF => ?_) (fun p H6 s6 f6 i6 => ?_)⟩
      · rw [ekG] at hk
        obtain ⟨kr, v1, a1, a2, a3⟩ := (dr5.same s6).get hk
        have e1 := a3.im.int_inv
        subst e1
        obtain ⟨kv, e1, e2⟩ := (sp5.same s6).each k hk
        have hget := sp5.get inj hk
        have hdg : DGet H6 F (kV (.inl (rk k))) (some (.ref (ad k))) := by rw [← hget]; exact DGet.k (sp5.same s6).top
        refine ⟨rfl, _, rfl, _, rfl, _, rfl, _, inferInstance, eS, k, dR, kr, _, key_S, rfl, a1, hx, a2, _, rfl, _, rfl, _, rfl, _, inferInstance, eS, k, dR, kr, _, key_S, rfl, a1, hx, a2, F, .ref (ad k), rfl, hdg, ad k, kv, hs k, rfl, e1, e2, hne k hk, fun m hm1 hm2 => ?_⟩
        refine ⟨by show (3 : Nat) ≤ 1000; decide, _, .cons hx (.cons (.int _) (.cons (.int _) .nil)), fun p7 H7 s7 f7 i7 => kT _ _ _ rfl s7 ?_⟩
        rw [mnF_eq hm1 hm2]
        exact Im.stb (d := eVt (k, rk k, m)) i7 (flat_Vt _)
      · rw [List.filterMap_eq_map', ekG] at i6
        have i6 : Im K H6 (.ref p) (eL eVt (ks.map fun s => (s, rk s, mnF (hs s)))) := by unfold eL; rw [List.map_map]; exact i6
        refine ⟨_, inferInstance, eVt, 3, _, _, enc_Vt, by decide, .inl fun a _ => ⟨_, _, rfl⟩, rfl, i6, fun p7 H7 s7 f7 i7 => ?_⟩
        refine ⟨by show (2 : Nat) ≤ 1000; decide, _, .cons (.str "safe") (.cons i7 .nil), fun p8 H8 s8 f8 i8 => q _ _ H8 ((((((s1.trans s2).trans s3).trans s5).trans s6).trans s7).trans s8) i8⟩
end
end Lw
end
section
set_option Elab.async false
set_option linter.all false
set_option maxRecDepth 100000
set_option maxHeartbeats 2000000
/-! The law's digits. -/
namespace Lw
open PySem PySem.Spec PyProof.Rows L2
theorem mul_bd {i j : Int} {a b : Nat} (hi : i.natAbs < 2 ^ a) (hj : j.natAbs < 2 ^ b) : (i * j).natAbs < 2 ^ (a + b) := by
  rw [Int.natAbs_mul, Nat.pow_add]
  exact Nat.mul_lt_mul'' hi hj
theorem cm {i j : Int} (hi : i.natAbs < 2 ^ 200) (hj : j.natAbs < 2 ^ 200) : CMulW i j := wide_mul hi hj (by decide) (by decide) (by decide)
theorem cm' {i j : Int} {a b : Nat} (hi : i.natAbs < 2 ^ a) (hj : j.natAbs < 2 ^ b) (ha : a ≤ 200) (hb : b ≤ 200) : CMulW i j := cm (Nat.lt_of_lt_of_le hi (Nat.pow_le_pow_right (by decide) ha)) (Nat.lt_of_lt_of_le hj (Nat.pow_le_pow_right (by decide) hb))
theorem seq_by {t T : TS} {D : Ends} {σ : L2.St} {H : Hp} (R : L2.St → Hp → Prop) (k : ∀ σ' H', R σ' H' → T D σ' H') (h : (∀ σ' H', R σ' H' → T D σ' H') → tSeq t T D σ H) : tSeq t T D σ H := h k
theorem step_c {v : V} {i : Nat} {T : TS} {D : Ends} {σ : L2.St} {H : Hp} (h : T D (σ.set i (some v)) H) : tSeq (tAsg (tC v) (gName i)) T D σ H := h
theorem step_e {te : TE} {i : Nat} {T : TS} {D : Ends} {σ : L2.St} {H : Hp} (h : te σ H fun v H1 => T D (σ.set i (some v)) H1) : tSeq (tAsg te (gName i)) T D σ H := h
/-- the script: a list of ints -/
def Scr (K : PySem.W.Frag) (H : Hp) (a : Addr) : Prop := ∃ ns : List Int, SqL K H a (ns.map V.int) ∧ ns.length ≤ 63
theorem Scr.same {K : PySem.W.Frag} {H H' : Hp} {a : Addr} (h : Scr K H a) (s : Same H H') : Scr K H' a := let ⟨ns, h1, h2⟩ := h; ⟨ns, SqL.ext h1 s, h2⟩
def PR : List Int := [2147483647, 2147483629, 2147483587, 2147483579, 2147483563, 2147483549, 2147483543, 2147483497]
theorem pr_bd : ∀ i : Fin 8, ∃ p, PR[i.val]? = some p ∧ 0 < p ∧ p < 2147483648 := by decide
theorem pr_at {i : Int} (h0 : 0 ≤ i) (h8 : i < 8) : ∃ p, atI (PR.map eI) i = some (eI p) ∧ 0 < p ∧ p < 2147483648 := by
  obtain ⟨p, h1, h2, h3⟩ := pr_bd ⟨i.toNat, by omega⟩
  exact ⟨p, atI_map (atI_nn h0 h1), h2, h3⟩
section
variable {P : Program} {w : World} {K : PySem.W.Frag} {mg : Str → Option Value} {base : Heap}
theorem sc__law_cell : FnScope ["script", "k"] ["script", "k"] (defScope s__law_cell) := ⟨rfl, rfl, rfl, by decide +kernel, rfl, by decide +kernel, by decide +kernel⟩
def S__law_cell (P : Program) (w : World) (K : PySem.W.Frag) : Sp := fun vs H Q _ => ∃ (a : Addr) (k : Int), vs = [.ref a, .int k] ∧ Scr K H a ∧ 0 ≤ k ∧ k ≤ 1000 ∧ ∀ i : Int, Q (.int i) H
theorem w__law_cell (B : Bi mg) (D : Df K mg "_law_cell" s__law_cell) : Has P w K mg base 1 "_law_cell" ["script", "k"] (S__law_cell P w K) := by
  refine D.has sc__law_cell (fun vs H Q E h => ?_) (fun _ _ _ _ _ _ us hl => match us, hl with | [_, _], _ => rfl) (fun f cdv A outer s H vs Q E hr h => ?_)
  rotate_left
  have nd := sc__law_cell.nd
  have hu := hr.units
  have hu0 := hr.units0
  have hu1 := hu_of hr
  refine ⟨_, (pss_cons (ps_if (pt_cmpR op_lt (pv 1) (pe_callB call_len_seq (by rfl) B.len (by decide +kernel) (pa_cons (pv 0) pa_nil)) (nomark _)) (pss_one (ps_ret (pe_ix ix_list (pv 0) (pv 1) (fun _ _ => rfl)))) pss_nil) (pss_cons (ps_if (pt_cmpR op_eq (pe_callB call_len_seq (by rfl) B.len (by decide +kernel) (pa_cons (pv 0) pa_nil)) pe_int (nomark _)) (pss_one (ps_ret (pe_op op_add (pe_op op_mulW pe_int (pv 1)) pe_int))) pss_nil) (pss_one (ps_ret (pe_op op_add (pe_op op_mod (pe_ix ix_list (pv 0) (pe_op op_mod (pv 1) (pe_callB call_len_seq (by rfl) B.len (by decide +kernel) (pa_cons (pv 0) pa_nil))) (fun _ _ => rfl)) pe_int) (pe_op op_mulW pe_int (pv 1))))))), ?_⟩
  rotate_left
  · obtain ⟨_, _, rfl, _⟩ := h
    rfl
  · obtain ⟨a, k, rfl, ⟨ns, hS, hl⟩, k0, k1, q⟩ := h
    have hl' : (ns.map V.int).length = ns.length := List.length_map ..
    refine ⟨_, rfl, _, rfl, a, _, rfl, .inl hS, _, _, rfl, rfl, _, rfl, ?_⟩
    by_cases c : k < ns.length
    · have hi : k.toNat < ns.length := by omega
      refine ifT (decide_eq_true (by rw [hl']; exact c)) ⟨_, rfl, _, rfl, a, _, k, .int ns[k.toNat], rfl, rfl, hS, atI_nn k0 (by rw [List.getElem?_map, List.getElem?_eq_getElem hi]; rfl), q _⟩
    · refine ifF (decide_eq_false (by rw [hl']; exact c)) ?_
      refine ⟨_, rfl, a, _, rfl, .inl hS, rfl, _, rfl, ?_⟩
      rw [dec_int, hl']
      by_cases c0 : ns.length = 0
      · refine ifT (by rw [c0]; rfl) ⟨_, rfl, _, _, rfl, rfl, cm (by decide) (by omega), _, _, rfl, rfl, q _⟩
      · refine ifF (by rw [beq_eq_false_iff_ne]; omega) ?_
        have hp : (0 : Int) < ns.length := by omega
        have hm0 := Int.emod_nonneg k (show (ns.length : Int) ≠ 0 by omega)
        have hm1 := Int.emod_lt_of_pos k hp
        have hi : (k % (ns.length : Int)).toNat < ns.length := by omega
        refine ⟨_, rfl, _, rfl, _, rfl, a, _, rfl, .inl hS, k, (ns.length : Int), rfl, by rw [hl'], hp, a, _, k % (ns.length : Int), .int ns[(k % (ns.length : Int)).toNat], rfl, rfl, hS, atI_nn hm0 (by rw [List.getElem?_map, List.getElem?_eq_getElem hi]; rfl), ?_⟩
        exact ⟨_, _, rfl, rfl, (by show (0 : Int) < 1000003; decide), _, rfl, _, _, rfl, rfl, cm (by decide) (by omega), _, _, rfl, rfl, q _⟩
theorem sc__law_draws : FnScope ["script", "k", "many", "base", "primes", "cell", "rest", "row", "j", "mash"] ["script", "k", "many", "base"] (defScope s__law_draws) := ⟨rfl, rfl, rfl, by decide +kernel, rfl, by decide +kernel, by decide +kernel⟩
def S__law_draws (P : Program) (w : World) (K : PySem.W.Frag) : Sp := fun vs H Q _ => ∃ (a : Addr) (k : Int) (n : Nat), vs = [.ref a, .int k, .int n, .int 27720] ∧ Scr K H a ∧ 0 ≤ k ∧ k ≤ 1000 ∧ n ≤ 100 ∧ ∀ (ds : List Int) p H', ds.length = n → (∀ d ∈ ds, 0 ≤ d ∧ d < 27720) → Same H H' → H p = none → Im K H' (.ref p) (eL eI ds) → Q (.ref p) H'
theorem w__law_draws (B : Bi mg) (D : Df K mg "_law_draws" s__law_draws) (h_law_cell : Has P w K mg base 1 "_law_cell" ["script", "k"] (S__law_cell P w K)) : Has P w K mg base 2 "_law_draws" ["script", "k", "many", "base"] (S__law_draws P w K) := by
  refine D.has sc__law_draws (fun vs H Q E h => ?_) (fun _ _ _ _ _ _ us hl => match us, hl with | [_, _, _, _], _ => rfl) (fun f cdv A outer s H vs Q E hr h => ?_)
  rotate_left
  have nd := sc__law_draws.nd
  have hu := hr.units
  have hu0 := hr.units0
  have hu1 := hu_of hr
  refine ⟨_, (pss_cons (ps_set (i := 4) nd rfl (Or.inl rfl) (pe_tupD (pa_cons pe_int (pa_cons pe_int (pa_cons pe_int (pa_cons pe_int (pa_cons pe_int (pa_cons pe_int (pa_cons pe_int (pa_cons pe_int pa_nil)))))))))) (pss_cons (ps_set (i := 5) nd rfl (Or.inl rfl) (pe_has h_law_cell hr (by decide) (pa_cons (pv 0) (pa_cons (pv 1) pa_nil)))) (pss_cons (ps_set (i := 6) nd rfl (Or.inl rfl) pe_int) (pss_cons (ps_if (pt_cmpR op_ge (pv 5) (pe_op op_pow pe_int pe_int) (nomark _)) (pss_one (ps_set (i := 6) nd rfl (Or.inl rfl) (pv 5))) pss_nil) (pss_cons (ps_set (i := 7) nd rfl (Or.inl rfl) (pe_lstD pa_nil)) (pss_cons (ps_for (passes_of rfl) rfl (pi_range1 (by rfl) B.range (pa_cons (pv 2) pa_nil)) (pg_name (i := 8) nd rfl (Or.inl rfl)) (pss_cons (ps_set (i := 9) nd rfl (Or.inl rfl) (pe_op op_mulW (pe_op op_mod (pv 5) (pe_ix ix_D (pv 4) (pe_op op_mod (pv 8) pe_int) (fun _ _ => rfl))) (pe_op op_add pe_int (pe_op op_mulW (pe_op op_mulW pe_int (pv 8)) (pv 8))))) (pss_cons (ps_set (i := 9) nd rfl (Or.inl rfl) (pe_op op_add (pe_op op_add (pv 9) (pe_op op_mulW (pe_op op_mulW pe_int (pe_op op_add (pv 8) pe_int)) (pe_op op_add (pv 8) pe_int))) (pe_op op_mulW pe_int (pv 1)))) (pss_cons (ps_set (i := 9) nd rfl (Or.inl rfl) (pe_op op_mod (pv 9) (pe_ix ix_D (pv 4) (pe_op op_mod (pe_op op_add (pe_op op_mulW pe_int (pv 8)) (pv 1)) pe_int) (fun _ _ => rfl)))) (pss_cons (ps_set (i := 9) nd rfl (Or.inl rfl) (pe_op op_mod (pe_op op_mulW (pe_op op_mulW (pv 9) (pv 9)) (pv 9)) (pe_ix ix_D (pv 4) (pe_op op_mod (pe_op op_add (pv 8) pe_int) pe_int) (fun _ _ => rfl)))) (pss_cons (ps_if (pt_cmpR op_gt (pv 6) pe_int (nomark _)) (pss_one (ps_set (i := 9) nd rfl (Or.inl rfl) (pv 6))) pss_nil) (pss_cons (ps_expr (pe_bm PySem.F.plainAttrs_list PySem.F.slot_list_append PySem.F.type_list_append mt_appD (pv 7) (pa_cons (pe_op op_mod (pv 9) (pv 3)) pa_nil))) (pss_one (ps_set (i := 6) nd rfl (Or.inl rfl) (pe_op op_fdivW (pv 6) (pv 3))))))))))) (pss_one (ps_ret (pv 7))))))))), ?_⟩
  rotate_left
  · obtain ⟨_, _, _, rfl, _⟩ := h
    rfl
  · obtain ⟨a, k, n, rfl, hS, k0, k1, hn, q⟩ := h
    refine ⟨by show (8 : Nat) ≤ 1000; decide, PR.map eI, ImAll.ofInts (ns := PR), fun pP H1 s1 f1 i1 => ?_⟩
    refine ⟨_, rfl, _, rfl, a, k, rfl, hS.same s1, k0, k1, fun cell => ?_⟩
    dsimp only [gName]
    refine step_c (v := .int 0) (i := 6) ?_
    refine seq_by (fun σ' H' => ∃ r0 : Int, 0 ≤ r0 ∧ σ' = [some (.ref a), some (.int k), some (.int n), some (.int 27720), some (.ref pP), some (.int cell), some (.int r0), none, none, none] ∧ H' = H1) (fun σ' H' hR => ?_) (fun key => ?_)
    rotate_left
    · refine ⟨_, rfl, _, _, rfl, rfl, ⟨by decide, by decide, by decide⟩, _, _, rfl, rfl, _, rfl, ?_⟩
      by_cases c : (10 : Int) ^ (18 : Int).toNat ≤ cell
      · refine ifT (decide_eq_true c) ⟨_, rfl, key _ _ ⟨cell, Int.le_trans (by decide) c, rfl, rfl⟩⟩
      · exact ifF (decide_eq_false c) (key _ _ ⟨0, Int.le_refl _, rfl, rfl⟩)
    obtain ⟨r0, hr0, rfl, rfl⟩ := hR
    refine ⟨Nat.zero_le _, [], .nil, fun R H2 s2 f2 i2 => ?_⟩
    refine ⟨_, rfl, _, rfl, by omega, by omega, ?_⟩
    refine for_R (fun i σ' H' => ∃ (r : Int) (ds : List Int), ∃ y8 y9, σ' = [some (.ref a), some (.int k), some (.int n), some (.int 27720), some (.ref pP), some (.int cell), some (.int r), some (.ref R), y8, y9] ∧ 0 ≤ r ∧ ds.length = i ∧ (∀ d ∈ ds, 0 ≤ d ∧ d < 27720) ∧ Kp [R] H2 H' ∧ TK H2 H' ∧ Ls K H' R (ds.map eI))
      ⟨r0, [], _, _, rfl, hr0, rfl, by simp, Kp.refl, TK.refl, i2.ls⟩ (fun i σ' H' hi pv => ?_) (fun σ' H' pv => ?_)
    · obtain ⟨r, ds, y8, y9, rfl, hr, hdl, hds, kp, tk, ls⟩ := pv
      rw [Int.zero_add]
      have iP : Im K H' (.ref pP) (.tuple (PR.map eI)) := (i1.same s2).tk tk (flat_tup flat_int PR)
      obtain ⟨p1, a1, b1, c1⟩ := pr_at (Int.emod_nonneg (i : Int) (show (8 : Int) ≠ 0 by decide)) (Int.emod_lt_of_pos (i : Int) (show (0 : Int) < 8 by decide))
      obtain ⟨p2, a2, b2, c2⟩ := pr_at (Int.emod_nonneg ((3 : Int) * i + k) (show (8 : Int) ≠ 0 by decide)) (Int.emod_lt_of_pos ((3 : Int) * i + k) (show (0 : Int) < 8 by decide))
      obtain ⟨p3, a3, b3, c3⟩ := pr_at (Int.emod_nonneg ((i : Int) + 5) (show (8 : Int) ≠ 0 by decide)) (Int.emod_lt_of_pos ((i : Int) + 5) (show (0 : Int) < 8 by decide))
      have d8 : (0 : Int) < 8 := by decide
      have m1a := Int.emod_nonneg cell (show p1 ≠ 0 by omega)
      have m1b := Int.emod_lt_of_pos cell b1
      refine ⟨_, rfl, _, rfl, _, rfl, _, _, rfl, rfl, d8, _, _, _, .inl iP, rfl, a1, fun x hx => ?_⟩
      cases hx
      have q1 : ((2 : Int) * i).natAbs < 2 ^ 8 := by omega
      have q2 : ((2 : Int) * i * i).natAbs < 2 ^ 15 := mul_bd (a := 8) (b := 7) q1 (by omega)
      refine ⟨_, _, rfl, rfl, b1, _, rfl, _, _, rfl, rfl, cm (by decide) (by omega), _, rfl, _, _, rfl, rfl, cm (Nat.lt_of_lt_of_le q1 (by decide)) (by omega), _, _, rfl, rfl, ?_⟩
      have q3 : ((48271 : Int) + 2 * i * i).natAbs < 2 ^ 20 := by omega
      refine ⟨_, _, rfl, rfl, cm (by omega) (Nat.lt_of_lt_of_le q3 (by decide)), ?_⟩
      have q4 : ((7919 : Int) * ((i : Int) + 1)).natAbs < 2 ^ 20 := by omega
      refine ⟨_, rfl, _, rfl, _, _, rfl, rfl, _, _, rfl, rfl, cm (by decide) (by omega), _, rfl, _, _, rfl, rfl, _, _, rfl, rfl, cm (Nat.lt_of_lt_of_le q4 (by decide)) (by omega), _, _, rfl, rfl, ?_⟩
      refine ⟨_, rfl, _, _, rfl, rfl, cm (by decide) (by omega), _, _, rfl, rfl, ?_⟩
      refine ⟨_, rfl, _, rfl, _, rfl, _, _, rfl, rfl, cm (by decide) (by omega), _, rfl, _, _, rfl, rfl, _, _, rfl, rfl, d8, _, _, _, .inl iP, rfl, a2, fun x hx => ?_⟩
      cases hx
      refine ⟨_, _, rfl, rfl, b2, ?_⟩
      have q5 : ∀ z2 : Int, (z2 % p2).natAbs < 2 ^ 31 := fun z2 => by
        have m2a := Int.emod_nonneg z2 (show p2 ≠ 0 by omega)
        have m2b := Int.emod_lt_of_pos z2 b2
        omega
      have q6 : ∀ z3 : Int, z3.natAbs < 2 ^ 31 → (z3 * z3).natAbs < 2 ^ 62 := fun z3 h => mul_bd (a := 31) (b := 31) h h
      refine ⟨_, rfl, _, rfl, _, _, rfl, rfl, cm' (q5 _) (q5 _) (by decide) (by decide), _, rfl, _, _, rfl, rfl, cm' (q6 _ (q5 _)) (q5 _) (by decide) (by decide), ?_⟩
      refine ⟨_, rfl, _, rfl, _, _, rfl, rfl, _, _, rfl, rfl, d8, _, _, _, .inl iP, rfl, a3, fun x hx => ?_⟩
      cases hx
      refine ⟨_, _, rfl, rfl, b3, ?_⟩
      dsimp only [gName]
      refine seq_by (fun σ' H'' => ∃ z5 : Int, σ' = [some (.ref a), some (.int k), some (.int n), some (.int 27720), some (.ref pP), some (.int cell), some (.int r), some (.ref R), some (.int i), some (.int z5)] ∧ H'' = H') (fun σ' H'' hR => ?_) (fun key => ?_)
      rotate_left
      · refine ⟨_, rfl, _, _, rfl, rfl, _, rfl, ?_⟩
        by_cases c : 0 < r
        · exact ifT (decide_eq_true c) ⟨_, rfl, key _ _ ⟨r, rfl, rfl⟩⟩
        · exact ifF (decide_eq_false c) (key _ _ ⟨_, rfl, rfl⟩)
      obtain ⟨z5, rfl, rfl⟩ := hR
      have hb : (0 : Int) < 27720 := by decide
      refine ⟨_, rfl, ls.ty, _, rfl, _, rfl, _, _, rfl, rfl, hb, R, ds.map eI, _, eI (z5 % 27720), rfl, rfl, ls, .int _, ?_, by rw [List.length_map]; omega, fun H4 c4 => ?_⟩
      · rw [show ds.map eI ++ [eI (z5 % 27720)] = (ds ++ [z5 % 27720]).map eI by simp]
        exact flatAll_map flat_int _
      rw [show ds.map eI ++ [eI (z5 % 27720)] = (ds ++ [z5 % 27720]).map eI by simp] at c4
      refine ⟨_, rfl, _, rfl, _, _, rfl, rfl, ⟨hb, by decide⟩, r / 27720, ds ++ [z5 % 27720], _, _, rfl, Int.ediv_nonneg hr (by decide), by rw [List.length_append, hdl]; rfl, fun d hd => ?_, kp.trans c4.1, tk.trans c4.2.1, c4.2.2⟩
      rcases List.mem_append.mp hd with e | e
      · exact hds d e
      · rw [List.mem_singleton.mp e]
        exact ⟨Int.emod_nonneg _ (by decide), Int.emod_lt_of_pos _ hb⟩
    · obtain ⟨r, ds, y8, y9, rfl, hr, hdl, hds, kp, tk, ls⟩ := pv
      exact ⟨_, rfl, q ds R H' hdl hds (same_kp1 (s1.trans s2) kp (none_back s1 f2)) (none_back s1 f2) ls.im⟩
end
end Lw
end
section
set_option Elab.async false
set_option linter.all false
set_option maxRecDepth 100000
set_option maxHeartbeats 2000000
/-! Ways and roads by digits. -/
namespace Lk
/-- a way so far -/
structure PWay (n : Nat) (rs : List (Int × Int)) (h : Int) (w : Way) : Prop where
  hd : w.head? = some h
  nd : w.Nodup
  rng : ∀ x ∈ w, 0 ≤ x ∧ x < n
  jn : ∀ p ∈ w.zip w.tail, joined rs p.1 p.2 = true
theorem zip_snoc : ∀ {w : Way} {x : Int} {p : Int × Int}, p ∈ (w ++ [x]).zip (w ++ [x]).tail → p ∈ w.zip w.tail ∨ (w.getLast? = some p.1 ∧ p.2 = x)
  | [], x, p, h => by simp at h
  | [a], x, p, h => by
    have h : p ∈ [(a, x)] := h
    rw [List.mem_singleton.mp h]
    exact .inr ⟨rfl, rfl⟩
  | a :: b :: w, x, p, h => by
    have h : p ∈ (a, b) :: (b :: (w ++ [x])).zip (w ++ [x]) := h
    rcases List.mem_cons.mp h with e | e
    · exact .inl (by rw [e]; exact List.mem_cons_self)
    · have e : p ∈ ((b :: w) ++ [x]).zip ((b :: w) ++ [x]).tail := e
      rcases zip_snoc e with c | c
      · exact .inl (List.mem_cons_of_mem _ c)
      · refine .inr ⟨?_, c.2⟩
        rw [List.getLast?_cons_cons]
        exact c.1
theorem PWay.one {n : Nat} {rs : List (Int × Int)} {h : Int} (h0 : 0 ≤ h) (h1 : h < n) : PWay n rs h [h] := ⟨rfl, by simp, fun x hx => by rw [List.mem_singleton.mp hx]; exact ⟨h0, h1⟩, fun p hp => by simp at hp⟩
theorem PWay.snoc {n : Nat} {rs : List (Int × Int)} {h l x : Int} {w : Way} (p : PWay n rs h w) (hx : x ∉ w) (x0 : 0 ≤ x) (x1 : x < n) (hl : w.getLast? = some l) (hj : joined rs l x = true) : PWay n rs h (w ++ [x]) := by
  refine ⟨?_, ?_, fun y hy => ?_, fun q hq => ?_⟩
  · cases w with
    | nil => simp at hl
    | cons a w => exact p.hd
  · rw [List.nodup_append]
    exact ⟨p.nd, by simp, fun a ha b hb e => by rw [List.mem_singleton.mp hb] at e; rw [e] at ha; exact hx ha⟩
  · rcases List.mem_append.mp hy with c | c
    · exact p.rng y c
    · rw [List.mem_singleton.mp c]; exact ⟨x0, x1⟩
  · rcases zip_snoc hq with c | ⟨c1, c2⟩
    · exact p.jn q c
    · rw [hl] at c1
      rw [c2, ← Option.some.inj c1]
      exact hj
theorem PWay.len {n : Nat} {rs : List (Int × Int)} {h : Int} {w : Way} (p : PWay n rs h w) : w.length ≤ n := house_count p.nd p.rng
theorem PWay.way {n : Nat} {rs : List (Int × Int)} {h : Int} {w : Way} (p : PWay n rs h w) (hl : w.getLast? = some 0) (hh : h ≠ 0) : IsWay n rs h w := by
  refine ⟨?_, p.len, p.rng, p.hd, hl, p.nd, p.jn⟩
  match w, p.hd, hl with
  | [], e, _ => simp at e
  | [a], e, e2 =>
    simp at e e2
    omega
  | a :: b :: w, _, _ => simp
/-! ### all pairs of houses -/
def pairsF (m n : Nat) : List (Int × Int) := (List.range n).flatMap fun (a : Nat) => (List.range (m - (a + 1))).map fun (j : Nat) => ((a : Int), (a : Int) + 1 + (j : Nat))
theorem pairsF_mem {m n : Nat} {p : Int × Int} : p ∈ pairsF m n ↔ 0 ≤ p.1 ∧ p.1 < n ∧ p.1 < p.2 ∧ p.2 < m := by
  unfold pairsF
  rw [List.mem_flatMap]
  constructor
  · rintro ⟨a, ha, h⟩
    obtain ⟨j, hj, rfl⟩ := List.mem_map.mp h
    have := List.mem_range.mp ha
    have := List.mem_range.mp hj
    refine ⟨?_, ?_, ?_, ?_⟩ <;> simp only <;> omega
  · rintro ⟨h0, h1, h2, h3⟩
    refine ⟨p.1.toNat, List.mem_range.mpr (by omega), List.mem_map.mpr ⟨(p.2 - p.1 - 1).toNat, List.mem_range.mpr (by omega), Prod.ext ?_ ?_⟩⟩ <;> simp only <;> omega
theorem pairsF_rise (m n : Nat) : (pairsF m n).Pairwise ltP := by
  unfold pairsF
  rw [List.pairwise_flatMap]
  refine ⟨fun a _ => ?_, ?_⟩
  · rw [List.pairwise_map]
    exact List.pairwise_lt_range.imp fun {i j} h => .inr ⟨rfl, by show (a : Int) + 1 + (i : Nat) < (a : Int) + 1 + (j : Nat); omega⟩
  · refine List.pairwise_lt_range.imp fun {i j} h => ?_
    intro x hx y hy
    obtain ⟨k, _, rfl⟩ := List.mem_map.mp hx
    obtain ⟨l, _, rfl⟩ := List.mem_map.mp hy
    exact .inl (by show (i : Int) < j; omega)
theorem pairsF_len {m n : Nat} (hm : m ≤ 6) (hn : n ≤ m) : (pairsF m n).length ≤ 15 := by
  have : ∀ m ≤ 6, ∀ n ≤ m, (pairsF m n).length ≤ 15 := by decide
  exact this m hm n hn
/-- roads as a guild has them -/
structure Rds (m : Nat) (rs : List (Int × Int)) : Prop where
  rds : ∀ p ∈ rs, 0 ≤ p.1 ∧ p.1 < p.2 ∧ p.2 < m
  ris : rs.Pairwise ltP
theorem Rds.sub {m : Nat} {rs : List (Int × Int)} (h : rs.Sublist (pairsF m m)) : Rds m rs := ⟨fun p hp => let ⟨a, _, b, c⟩ := pairsF_mem.mp (h.subset hp); ⟨a, b, c⟩, (pairsF_rise m m).sublist h⟩
theorem keep_sub {α : Type} (c : Nat → Bool) : ∀ (l : List α) (k : Nat), ∃ l', l'.Sublist l ∧ ((∀ i, c i = true) → l' = l) ∧ ((List.range l.length).filterMap fun i => (l[i]?).bind fun x => if c (k + i) = true then some x else none) = l'
  | [], k => ⟨[], .slnil, fun _ => rfl, rfl⟩
  | a :: l, k => by
    obtain ⟨l', h1, h2, h3⟩ := keep_sub c l (k + 1)
    have e : ((List.range (a :: l).length).filterMap fun i => ((a :: l)[i]?).bind fun x => if c (k + i) = true then some x else none) = (if c k = true then [a] else []) ++ l' := by
      rw [List.length_cons, List.range_succ_eq_map, List.filterMap_cons, List.filterMap_map]
      have e2 : ((fun i => ((a :: l)[i]?).bind fun x => if c (k + i) = true then some x else none) ∘ Nat.succ) = fun i => (l[i]?).bind fun x => if c (k + 1 + i) = true then some x else none := by
        funext i
        simp only [Function.comp, List.getElem?_cons_succ, show k + i.succ = k + 1 + i by omega]
      rw [e2, h3]
      simp only [List.getElem?_cons_zero, Option.bind_some, Nat.add_zero]
      by_cases q : c k = true
      · simp [q]
      · simp [q]
    rw [e]
    by_cases q : c k = true
    · rw [if_pos q]
      exact ⟨a :: l', h1.cons_cons a, fun h => by rw [h2 h], rfl⟩
    · rw [if_neg q]
      exact ⟨l', h1.cons a, fun h => absurd (h k) q, rfl⟩
end Lk
namespace Lw
open PySem PySem.Spec PyProof.Rows L2
open Lk (Way Gd IsWay ltP PWay Rds)
section
variable {P : Program} {w : World} {K : PySem.W.Frag} {mg : Str → Option Value} {base : Heap}
theorem rds_small {m : Nat} {rs : List (Int × Int)} (hm : m ≤ 6) (h : Rds m rs) : rs.length ≤ 1000 := by
  have nd : rs.Nodup := by
    rw [List.nodup_iff_pairwise_ne]
    refine h.ris.imp fun {a b} l e => ?_
    subst e
    unfold ltP at l
    omega
  have := nd.length_le_of_subset (l₂ := Lk.pairsF m m) fun p hp => Lk.pairsF_mem.mpr ⟨(h.rds p hp).1, by have := h.rds p hp; omega, (h.rds p hp).2.1, (h.rds p hp).2.2⟩
  have := Lk.pairsF_len hm (Nat.le_refl m)
  omega
theorem sc__law_walk : FnScope ["many", "roads", "house", "draws", "way", "draw", "other", "near"] ["many", "roads", "house", "draws"] (defScope s__law_walk) := ⟨rfl, rfl, rfl, by decide +kernel, rfl, by decide +kernel, by decide +kernel⟩
def S__law_walk (P : Program) (w : World) (K : PySem.W.Frag) : Sp := fun vs H Q _ => ∃ (m n : Nat) (vr vd : V) (rs : List (Int × Int)) (ds : List Int), vs = [.int m, vr, .int n, vd] ∧ Im K H vr (eRs rs) ∧ Im K H vd (eL eI ds) ∧ Rds m rs ∧ 2 ≤ m ∧ m ≤ 6 ∧ 1 ≤ n ∧ n < m ∧ ds.length ≤ 1000 ∧
  (∀ H', Same H H' → Q .non H') ∧ ∀ u r H', IsWay m rs n u → Same H H' → Im K H' r (eW u) → Q r H'
theorem w__law_walk (B : Bi mg) (D : Df K mg "_law_walk" s__law_walk) : Has P w K mg base 1 "_law_walk" ["many", "roads", "house", "draws"] (S__law_walk P w K) := by
  refine D.has sc__law_walk (fun vs H Q E h => ?_) (fun _ _ _ _ _ _ us hl => match us, hl with | [_, _, _, _], _ => rfl) (fun f cdv A outer s H vs Q E hr h => ?_)
  rotate_left
  have nd := sc__law_walk.nd
  have hu := hr.units
  have hu0 := hr.units0
  have hu1 := hu_of hr
  refine ⟨_, (pss_cons (ps_set (i := 4) nd rfl (Or.inr rfl) (pe_lstD (pa_cons (pv 2) pa_nil))) (pss_cons (ps_for (passes_of rfl) rfl (pi_seq (pe_slice sl_D (pv 3) po_none (po_some (pv 0)))) (pg_name (i := 5) nd rfl (Or.inl rfl)) (pss_cons (ps_setLc (i := 7) (g := (gName 6)) (tt := (tTest (tOp (rInE true K) (tVar 6) (tVar 4)))) (te := (tVar 6)) rfl nd rfl rfl (sw_true rfl rfl rfl (by decide +kernel)) (pi_range1 (by rfl) B.range (pa_cons (pv 0) pa_nil)) (blkOk_by (own := [("other", 6)]) (by rfl)) (fun _ _ _ _ _ => (pg_name (i := 6) nd rfl (Or.inl rfl))) (fun _ _ _ _ _ => (pts_one (pt_cmpR (op_notInE hu) (pv 6) (pv 4) (by rfl)))) (fun _ _ _ _ _ => (pv 6))) (pss_cons (ps_setLc (i := 7) (g := (gName 6)) (tt := (tTest (tOp (rInE false K) (tDispT K (tCons (tCB rMinI (tCons (tOp (rIxD K) (tVar 4) (tUn (rU fun i => .int (-i)) (tC (.int 1)))) (tCons (tVar 6) tNil))) (tCons (tCB rMaxI (tCons (tOp (rIxD K) (tVar 4) (tUn (rU fun i => .int (-i)) (tC (.int 1)))) (tCons (tVar 6) tNil))) tNil))) (tVar 1)))) (te := (tVar 6)) rfl nd rfl rfl (sw_true rfl rfl rfl (by decide +kernel)) (pi_seq (pv 7)) (blkOk_by (own := [("other", 6)]) (by rfl)) (fun _ _ _ _ _ => (pg_name (i := 6) nd rfl (Or.inl rfl))) (fun _ _ _ _ _ => (pts_one (pt_cmpR (op_inE hu) (pe_tupD (pa_cons (pe_callB (call_minI rfl) (by rfl) B.min (by decide +kernel) (pa_cons (pe_ix ix_D (pv 4) (pe_un un_neg pe_int) (fun _ _ => rfl)) (pa_cons (pv 6) pa_nil))) (pa_cons (pe_callB (call_maxI rfl) (by rfl) B.max (by decide +kernel) (pa_cons (pe_ix ix_D (pv 4) (pe_un un_neg pe_int) (fun _ _ => rfl)) (pa_cons (pv 6) pa_nil))) pa_nil))) (pv 1) (by rfl)))) (fun _ _ _ _ _ => (pv 6))) (pss_one (ps_if (PW.pt (pw_and (pt_cmpR op_ne (pe_ix ix_D (pv 4) (pe_un un_neg pe_int) (fun _ _ => rfl)) pe_int (nomark _)) (pw_and1 (pt_cmpR (op_neE hu) (pv 7) (pe_lstD pa_nil) (nomark _))))) (pss_one (ps_expr (pe_bm PySem.F.plainAttrs_list PySem.F.slot_list_append PySem.F.type_list_append mt_appD (pv 4) (pa_cons (pe_ix ix_D (pv 7) (pe_op op_mod (pv 5) (pe_callB call_lenD (by rfl) B.len (by decide +kernel) (pa_cons (pv 7) pa_nil))) (fun _ _ => rfl)) pa_nil)))) pss_nil))))) (pss_one (ps_ret (pe_ifExp (pt_cmpR op_eq (pe_ix ix_D (pv 4) (pe_un un_neg pe_int) (fun _ _ => rfl)) pe_int (nomark _)) (pe_callTy call_tupD (by rfl) B.tuple (by decide +kernel) (pa_cons (pv 4) pa_nil)) pe_non))))), ?_⟩
  rotate_left
  · obtain ⟨_, _, _, _, _, _, rfl, _⟩ := h
    rfl
  · obtain ⟨m, n, vr, vd, rs, ds, rfl, hr1, hd1, hrs, m2, m6, n1, n2, hdl, qN, qW⟩ := h
    refine ⟨_, rfl, by show (1 : Nat) ≤ 1000; decide, _, .cons (.int _) .nil, fun W H1 s1 f1 i1 => ?_⟩
    refine ⟨_, rfl, _, rfl, _, rfl, .inr ⟨_, hd1.same s1, fun pD H2 s2 f2 i2 => ?_⟩⟩
    rw [show cutD (ds.map eI) none (some (m : Int)) = (ds.take m).map eI by rw [cutD_to, List.map_take]] at i2
    have i2 : Im K H2 (.ref pD) (eL eI (ds.take m)) := i2
    have lW : Ls K H2 W (([(n : Int)] : List Int).map eI) := (i1.same s2).ls
    have nDW : V.ref pD ≠ .ref W := fun e => by cases e; exact i1.ls.ne_none f2
    have s12 := s1.trans s2
    refine for_LT i2 (fun i σ' H' => ∃ (wy : Way), ∃ y5 y6 y7, σ' = [some (.int m), some vr, some (.int n), some vd, some (.ref W), y5, y6, y7] ∧ Kp [W] H2 H' ∧ TK H2 H' ∧ Ls K H' W (wy.map eI) ∧ PWay m rs n wy)
      ⟨[(n : Int)], _, _, _, rfl, Kp.refl, TK.refl, lW, PWay.one (by omega) (by omega)⟩ (fun i σ' H' p a e => keep_ne i2 p.choose_spec.choose_spec.choose_spec.choose_spec.2.1 (fun b hb => by rw [List.mem_singleton.mp hb]; exact nDW) a e) (fun i d x σ' H' hd hx pv => ?_) (fun σ' H' pv => ?_)
    · obtain ⟨wy, y5, y6, y7, rfl, kp, tk, ls, pw⟩ := pv
      cases hx
      obtain ⟨l, hl⟩ : ∃ l, wy.getLast? = some l := by
        cases e : wy.getLast? with
        | none =>
          have := List.getLast?_eq_none_iff.mp e
          have := pw.hd
          simp_all
        | some l => exact ⟨l, rfl⟩
      have hlast : atI (wy.map eI) (-1) = some (eI l) := atI_map (f := eI) (atI_neg1 hl)
      have hwl := pw.len
      refine ⟨_, rfl, _, rfl, by omega, by omega, ?_⟩
      refine lc_R (K := K) (small_line (by omega)) (fun i => if ((i : Nat) : Int) ∈ wy then none else some (eI (i : Nat))) (fun D i H3 QT QF hi s3 hN kT kF => ?_) (fun p3 H3 s3 f3 i3 => ?_)
      · refine ⟨rfl, _, rfl, _, rfl, _, inferInstance, eI, 0, (0 : Int) + (i : Nat), wy, enc_int, by decide, .int _, .inr (ls.same s3).im, _, rfl, ?_⟩
        by_cases c : ((i : Nat) : Int) ∈ wy
        · exact ifF (by rw [if_pos rfl]; simp [c]) (kF _ (if_pos c) (Same.refl _))
        · refine ifT (by rw [if_pos rfl]; simp [c]) ⟨_, rfl, kT _ _ _ (if_neg c) (Same.refl _) ?_⟩
          rw [show (0 : Int) + (i : Nat) = (i : Nat) by omega]
          exact Im.stb (.int _) rfl
      have e3 : (List.range m).filterMap (fun i => if ((i : Nat) : Int) ∈ wy then none else some (eI (i : Nat))) = ((List.range m).filterMap fun i => if ((i : Nat) : Int) ∈ wy then none else some ((i : Nat) : Int)).map eI := by
        rw [List.map_filterMap]
        refine congrArg (fun f => List.filterMap f (List.range m)) (funext fun i => ?_)
        split <;> rfl
      have e4 : ((m : Int)).toNat = m := by omega
      rw [e4, e3] at i3
      obtain ⟨nr, hnr⟩ : ∃ nr, nr = (List.range m).filterMap fun i => if ((i : Nat) : Int) ∈ wy then none else some ((i : Nat) : Int) := ⟨_, rfl⟩
      rw [← hnr] at i3
      have hnm : ∀ x ∈ nr, 0 ≤ x ∧ x < m ∧ x ∉ wy := fun x hx => by
        rw [hnr] at hx
        obtain ⟨i, hi, e⟩ := List.mem_filterMap.mp hx
        have hi := List.mem_range.mp hi
        split at e
        · cases e
        · rename_i c
          cases e
          exact ⟨by omega, by omega, c⟩
      have hnl : nr.length ≤ m := by
        rw [hnr]
        have := List.length_filterMap_le (fun i : Nat => if ((i : Nat) : Int) ∈ wy then none else some ((i : Nat) : Int)) (List.range m)
        rw [List.length_range] at this
        exact this
      have ls3 := ls.same s3
      have hr3 : Im K H3 vr (eRs rs) := (((hr1.same s12).tk tk (flat_tup flat_Rd _)).same s3)
      refine ⟨_, rfl, lc_T (.inr i3) (small_line (by omega)) (fun x => if Lk.joined rs l x then some (eI x) else none) (fun D x u H4 QT QF hx s4 hN hu kT kF => ?_) (fun p4 H4 s4 f4 i4 => ?_)⟩
      · cases hu
        refine ⟨rfl, _, rfl, _, rfl, _, -1, eI l, .inr (ls3.same s4).im, rfl, hlast, fun y hy => ?_⟩
        cases hy
        refine ⟨_, rfl, _, _, rfl, _, rfl, _, rfl, _, -1, eI l, .inr (ls3.same s4).im, rfl, hlast, fun y hy => ?_⟩
        cases hy
        refine ⟨_, rfl, _, _, rfl, by show (2 : Nat) ≤ 1000; decide, _, .cons (.int _) (.cons (.int _) .nil), fun p5 H5 s5 f5 i5 => ?_⟩
        refine ⟨_, rfl, _, inferInstance, eRd, 1, (min l x, max l x), rs, enc_Rd, by decide, i5, .inl ((hr3.same s4).same s5), _, rfl, ?_⟩
        by_cases c : (min l x, max l x) ∈ rs
        · exact ifT (by rw [if_neg (by decide)]; simpa using c) ⟨_, rfl, kT _ _ _ (if_pos (by simp [Lk.joined, c])) s5 (Im.stb (.int _) rfl)⟩
        · exact ifF (by rw [if_neg (by decide)]; simpa using c) (kF _ (if_neg (by simp [Lk.joined, c])) s5)
      rw [filterMap_if (fun x => Lk.joined rs l x) eI] at i4
      have i4 : Im K H4 (.ref p4) (eL eI (nr.filter fun x => Lk.joined rs l x)) := i4
      have hfm : ∀ x ∈ nr.filter (fun x => Lk.joined rs l x), x ∈ nr ∧ Lk.joined rs l x = true := fun x hx => List.mem_filter.mp hx
      have hfl : (nr.filter fun x => Lk.joined rs l x).length ≤ m := Nat.le_trans (List.length_filter_le _ _) hnl
      generalize (nr.filter fun x => Lk.joined rs l x) = nf at i4 hfm hfl
      have ls4 := ls3.same s4
      have kp4 := (kp.trans s3.kp).trans s4.kp
      have tk4 := (tk.trans s3.tk).trans s4.tk
      refine ⟨_, rfl, _, rfl, _, -1, eI l, .inr ls4.im, rfl, hlast, fun y hy => ?_⟩
      cases hy
      refine ⟨rfl, _, rfl, ?_⟩
      by_cases c0 : l = 0
      · refine ifF (by simp [c0]) (ifF rfl ⟨wy, _, _, _, rfl, kp4, tk4, ls4, pw⟩)
      refine ifT (by simp [c0]) ?_
      refine ⟨_, rfl, Nat.zero_le _, [], .nil, fun p5 H5 s5 f5 i5 => ?_⟩
      refine ⟨_, inferInstance, eL eI, 1, nf, [], enc_lst enc_int, by decide, i4.same s5, i5, _, rfl, ?_⟩
      have ls5 := ls4.same s5
      by_cases c1 : nf = []
      · exact ifF (by simp [c1]) ⟨wy, _, _, _, rfl, kp4.trans s5.kp, tk4.trans s5.tk, ls5, pw⟩
      refine ifT (by simp [c1]) ?_
      have hp : (0 : Int) < nf.length := by
        cases nf with
        | nil => exact absurd rfl c1
        | cons a nf => rw [List.length_cons]; omega
      have hm0 := Int.emod_nonneg d (show (nf.length : Int) ≠ 0 by omega)
      have hm1 := Int.emod_lt_of_pos d hp
      obtain ⟨z, hz⟩ : ∃ z, nf[(d % (nf.length : Int)).toNat]? = some z := ⟨_, List.getElem?_eq_getElem (by omega)⟩
      have hzm := hfm z (List.mem_of_getElem? hz)
      have hzn := hnm z hzm.1
      refine ⟨_, rfl, ls5.ty, _, rfl, _, rfl, _, rfl, _, _, rfl, .inr (i4.same s5), d, (nf.length : Int), rfl, by rw [List.length_map], hp, _, d % (nf.length : Int), eI z, .inr (i4.same s5), rfl, atI_map (atI_nn hm0 hz), fun y hy => ?_⟩
      cases hy
      refine ⟨W, wy.map eI, _, eI z, rfl, rfl, ls5, .int _, ?_, by rw [List.length_map]; omega, fun H6 c6 => ?_⟩
      · rw [show wy.map eI ++ [eI z] = (wy ++ [z]).map eI by simp]
        exact flatAll_map flat_int _
      rw [show wy.map eI ++ [eI z] = (wy ++ [z]).map eI by simp] at c6
      exact ⟨wy ++ [z], _, _, _, rfl, (kp4.trans s5.kp).trans c6.1, (tk4.trans s5.tk).trans c6.2.1, c6.2.2, pw.snoc hzn.2.2 hzn.1 hzn.2.1 hl hzm.2⟩
    · obtain ⟨wy, y5, y6, y7, rfl, kp, tk, ls, pw⟩ := pv
      obtain ⟨l, hl⟩ : ∃ l, wy.getLast? = some l := by
        cases e : wy.getLast? with
        | none =>
          have := List.getLast?_eq_none_iff.mp e
          have := pw.hd
          simp_all
        | some l => exact ⟨l, rfl⟩
      have hlast : atI (wy.map eI) (-1) = some (eI l) := atI_map (f := eI) (atI_neg1 hl)
      have sH : Same H H' := same_kp1 s12 kp f1
      refine ⟨_, rfl, _, rfl, _, -1, eI l, .inr ls.im, rfl, hlast, fun y hy => ?_⟩
      cases hy
      refine ⟨rfl, _, rfl, ?_⟩
      by_cases c0 : l = 0
      · refine ifT (by simp [c0]) ⟨_, rfl, _, _, rfl, .inr ls.im, fun v6 H6 s6 i6 => qW wy v6 H6 (pw.way (by rw [hl, c0]) (by omega)) (sH.trans s6) i6⟩
      · exact ifF (by simp [c0]) (qN H' sH)
end
end Lw
end
section
set_option Elab.async false
set_option linter.all false
set_option maxRecDepth 100000
set_option maxHeartbeats 2000000
/-! Ways and roads by digits. -/
namespace Lw
open PySem PySem.Spec PyProof.Rows L2
open Lk (Way Gd IsWay ltP PWay Rds)
section
variable {P : Program} {w : World} {K : PySem.W.Frag} {mg : Str → Option Value} {base : Heap}
theorem sc__law_ways : FnScope ["many", "roads", "house", "draws", "count", "found", "k", "way"] ["many", "roads", "house", "draws"] (defScope s__law_ways) := ⟨rfl, rfl, rfl, by decide +kernel, rfl, by decide +kernel, by decide +kernel⟩
def S__law_ways (P : Program) (w : World) (K : PySem.W.Frag) : Sp := fun vs H Q _ => ∃ (m n : Nat) (vr vd : V) (rs : List (Int × Int)) (ds : List Int), vs = [.int m, vr, .int n, vd] ∧ Im K H vr (eRs rs) ∧ Im K H vd (eL eI ds) ∧ Rds m rs ∧ 2 ≤ m ∧ m ≤ 6 ∧ 1 ≤ n ∧ n < m ∧ ds.length = 44 ∧
  ∀ us r H', us.Nodup → us.length ≤ 6 → (∀ u ∈ us, IsWay m rs n u) → Same H H' → Im K H' r (eWs us) → Q r H'
theorem w__law_ways (B : Bi mg) (D : Df K mg "_law_ways" s__law_ways) (h_law_walk : Has P w K mg base 1 "_law_walk" ["many", "roads", "house", "draws"] (S__law_walk P w K)) : Has P w K mg base 2 "_law_ways" ["many", "roads", "house", "draws"] (S__law_ways P w K) := by
  refine D.has sc__law_ways (fun vs H Q E h => ?_) (fun _ _ _ _ _ _ us hl => match us, hl with | [_, _, _, _], _ => rfl) (fun f cdv A outer s H vs Q E hr h => ?_)
  rotate_left
  have nd := sc__law_ways.nd
  have hu := hr.units
  have hu0 := hr.units0
  have hu1 := hu_of hr
  refine ⟨_, (pss_cons (ps_set (i := 4) nd rfl (Or.inl rfl) (pe_ix ix_D (pe_lstD (pa_cons (pe_op op_mod (pe_ix ix_D (pv 3) pe_int (fun _ _ => rfl)) pe_int) (pa_cons pe_int (pa_cons (pe_op op_add pe_int (pe_op op_mod (pe_ix ix_D (pv 3) pe_int (fun _ _ => rfl)) pe_int)) pa_nil)))) (pe_op op_mod (pe_ix ix_D (pv 3) pe_int (fun _ _ => rfl)) pe_int) (fun _ _ => rfl))) (pss_cons (ps_set (i := 5) nd rfl (Or.inl rfl) (pe_lstD pa_nil)) (pss_cons (ps_for (passes_of rfl) rfl (pi_range1 (by rfl) B.range (pa_cons (pv 4) pa_nil)) (pg_name (i := 6) nd rfl (Or.inl rfl)) (pss_cons (ps_set (i := 7) nd rfl (Or.inl rfl) (pe_has h_law_walk hr (by decide) (pa_cons (pv 0) (pa_cons (pv 1) (pa_cons (pv 2) (pa_cons (pe_slice sl_D (pv 3) (po_some (pe_op op_mulW pe_int (pv 6))) (po_some (pe_op op_add (pe_op op_mulW pe_int (pv 6)) pe_int))) pa_nil)))))) (pss_one (ps_if (PW.pt (pw_and (pt_cmpR op_notN1 (pv 7) pe_non (nomark _)) (pw_and1 (pt_cmpR (op_notInE hu) (pv 7) (pv 5) (by rfl))))) (pss_one (ps_expr (pe_bm PySem.F.plainAttrs_list PySem.F.slot_list_append PySem.F.type_list_append mt_appD (pv 5) (pa_cons (pv 7) pa_nil)))) pss_nil)))) (pss_one (ps_ret (pe_callTy call_tupD (by rfl) B.tuple (by decide +kernel) (pa_cons (pv 5) pa_nil))))))), ?_⟩
  rotate_left
  · obtain ⟨_, _, _, _, _, _, rfl, _⟩ := h
    rfl
  · obtain ⟨m, n, vr, vd, rs, ds, rfl, hr1, hd1, hrs, m2, m6, n1, n2, hdl, q⟩ := h
    obtain ⟨d42, h42⟩ : ∃ d, ds[42]? = some d := ⟨_, List.getElem?_eq_getElem (by omega)⟩
    obtain ⟨d43, h43⟩ : ∃ d, ds[43]? = some d := ⟨_, List.getElem?_eq_getElem (by omega)⟩
    have a42 : atI (ds.map eI) 42 = some (eI d42) := atI_map (atI_nn (by decide) h42)
    have a43 : atI (ds.map eI) 43 = some (eI d43) := atI_map (atI_nn (by decide) h43)
    have d7 : (0 : Int) < 7 := by decide
    have d3 : (0 : Int) < 3 := by decide
    refine ⟨_, rfl, _, 42, eI d42, .inr hd1, rfl, a42, fun x hx => ?_⟩
    cases hx
    refine ⟨_, _, rfl, rfl, d7, _, rfl, _, 42, eI d42, .inr hd1, rfl, a42, fun x hx => ?_⟩
    cases hx
    refine ⟨_, _, rfl, rfl, d3, _, _, rfl, rfl, by show (3 : Nat) ≤ 1000; decide, _, .cons (.int _) (.cons (.int _) (.cons (.int _) .nil)), fun pc H1 s1 f1 i1 => ?_⟩
    have i1 : Im K H1 (.ref pc) (eL eI [d42 % 7, 6, 1 + d42 % 3]) := i1
    refine ⟨_, rfl, _, 43, eI d43, .inr (hd1.same s1), rfl, a43, fun x hx => ?_⟩
    cases hx
    refine ⟨_, _, rfl, rfl, d3, ?_⟩
    have b0 := Int.emod_nonneg d43 (show (3 : Int) ≠ 0 by decide)
    have b1 := Int.emod_lt_of_pos d43 d3
    obtain ⟨c, hc, hc0, hc6⟩ : ∃ c : Nat, [d42 % 7, 6, 1 + d42 % 3][(d43 % 3).toNat]? = some (c : Int) ∧ 0 ≤ c ∧ c ≤ 6 := by
      have e1 := Int.emod_nonneg d42 (show (7 : Int) ≠ 0 by decide)
      have e2 := Int.emod_lt_of_pos d42 d7
      have e3 := Int.emod_nonneg d42 (show (3 : Int) ≠ 0 by decide)
      have e4 := Int.emod_lt_of_pos d42 d3
      have : (d43 % 3).toNat = 0 ∨ (d43 % 3).toNat = 1 ∨ (d43 % 3).toNat = 2 := by omega
      rcases this with h | h | h <;> rw [h]
      · exact ⟨(d42 % 7).toNat, by simp; omega, by omega, by omega⟩
      · exact ⟨6, rfl, by omega, by omega⟩
      · exact ⟨(1 + d42 % 3).toNat, by simp; omega, by omega, by omega⟩
    refine ⟨_, d43 % 3, eI (c : Int), .inr i1, rfl, atI_map (atI_nn b0 hc), fun x hx => ?_⟩
    cases hx
    refine ⟨Nat.zero_le _, [], .nil, fun F H2 s2 f2 i2 => ?_⟩
    have s12 := s1.trans s2
    have lF : Ls K H2 F (([] : List Way).map eW) := i2.ls
    refine ⟨_, rfl, _, rfl, by omega, by omega, ?_⟩
    refine for_R (fun i σ' H' => ∃ us : List Way, ∃ y6 y7, σ' = [some (.int m), some vr, some (.int n), some vd, some (.int c), some (.ref F), y6, y7] ∧ Kp [F] H2 H' ∧ TK H2 H' ∧ Ls K H' F (us.map eW) ∧ us.Nodup ∧ us.length ≤ i ∧ ∀ u ∈ us, IsWay m rs n u)
      ⟨[], _, _, rfl, Kp.refl, TK.refl, lF, List.nodup_nil, Nat.le_refl _, fun _ h => nomatch h⟩ (fun i σ' H' hi pv => ?_) (fun σ' H' pv => ?_)
    · obtain ⟨us, y6, y7, rfl, kp, tk, ls, nd, hul, hus⟩ := pv
      rw [Int.zero_add]
      have sH : Same H H' := same_kp1 s12 kp (none_back s1 f2)
      refine ⟨_, rfl, _, rfl, _, rfl, _, rfl, _, rfl, _, _, rfl, rfl, cm (by decide) (by omega), _, rfl, _, rfl, _, _, rfl, rfl, cm (by decide) (by omega), _, _, rfl, rfl, _, rfl, .inr ⟨_, hd1.same sH, fun pD H3 s3 f3 i3 => ?_⟩⟩
      rw [show (6 : Int) * (i : Nat) = ((6 * i : Nat) : Int) by omega, show ((6 * i : Nat) : Int) + 6 = ((6 * i + 6 : Nat) : Int) by omega, cutD_mid, ← List.map_drop, ← List.map_take] at i3
      have kp3 := kp.trans s3.kp
      have tk3 := tk.trans s3.tk
      refine ⟨m, n, vr, _, rs, (ds.drop (6 * i)).take (6 * i + 6 - 6 * i), rfl, hr1.same (sH.trans s3), i3, hrs, m2, m6, n1, n2, by rw [List.length_take]; omega, fun H4 s4 => ?_, fun u r H4 hu s4 i4 => ?_⟩
      · refine ⟨_, rfl, rfl, _, rfl, ifF rfl (ifF rfl ⟨us, _, _, rfl, kp3.trans s4.kp, tk3.trans s4.tk, (ls.same s3).same s4, nd, by omega, hus⟩)⟩
      · obtain ⟨T, xs, rfl, hq, him⟩ := i4.tup_inv
        refine ⟨_, rfl, rfl, _, rfl, ifT rfl ?_⟩
        have ls4 := (ls.same s3).same s4
        refine ⟨_, rfl, _, rfl, _, inferInstance, eW, 1, u, us, enc_W, by decide, i4, .inr ls4.im, _, rfl, ?_⟩
        by_cases cu : u ∈ us
        · exact ifF (by rw [if_pos rfl]; simp [cu]) ⟨us, _, _, rfl, kp3.trans s4.kp, tk3.trans s4.tk, ls4, nd, by omega, hus⟩
        · refine ifT (by rw [if_pos rfl]; simp [cu]) ?_
          refine ⟨_, rfl, ls4.ty, _, rfl, F, us.map eW, _, eW u, rfl, rfl, ls4, i4, ?_, by rw [List.length_map]; omega, fun H5 c5 => ?_⟩
          · rw [show us.map eW ++ [eW u] = (us ++ [u]).map eW by simp]
            exact flatAll_map flat_W _
          rw [show us.map eW ++ [eW u] = (us ++ [u]).map eW by simp] at c5
          refine ⟨us ++ [u], _, _, rfl, (kp3.trans s4.kp).trans c5.1, (tk3.trans s4.tk).trans c5.2.1, c5.2.2, ?_, by rw [List.length_append, List.length_singleton]; omega, fun z hz => ?_⟩
          · rw [List.nodup_append]
            exact ⟨nd, by simp, fun a ha b hb e => by rw [List.mem_singleton.mp hb] at e; rw [e] at ha; exact cu ha⟩
          · rcases List.mem_append.mp hz with e | e
            · exact hus z e
            · rw [List.mem_singleton.mp e]; exact hu
    · obtain ⟨us, y6, y7, rfl, kp, tk, ls, nd, hul, hus⟩ := pv
      have sH : Same H H' := same_kp1 s12 kp (none_back s1 f2)
      exact ⟨_, rfl, _, _, rfl, .inr ls.im, fun v3 H3 s3 i3 => q us v3 H3 nd (by omega) hus (sH.trans s3) i3⟩
theorem sc__law_roads : FnScope ["many", "draws", "share", "found", "one", "other", "k", "road"] ["many", "draws", "share"] (defScope s__law_roads) := ⟨rfl, rfl, rfl, by decide +kernel, rfl, by decide +kernel, by decide +kernel⟩
def S__law_roads (P : Program) (w : World) (K : PySem.W.Frag) : Sp := fun vs H Q _ => ∃ (m : Nat) (sh : Int) (vd : V) (ds : List Int), vs = [.int m, vd, .int sh] ∧ Im K H vd (eL eI ds) ∧ 2 ≤ m ∧ m ≤ 6 ∧ 15 ≤ ds.length ∧ 0 < sh ∧
  ∀ rs r H', Rds m rs → (sh = 6 → rs = Lk.pairsF m m) → Same H H' → Im K H' r (eRs rs) → Q r H'
theorem w__law_roads (B : Bi mg) (D : Df K mg "_law_roads" s__law_roads) : Has P w K mg base 1 "_law_roads" ["many", "draws", "share"] (S__law_roads P w K) := by
  refine D.has sc__law_roads (fun vs H Q E h => ?_) (fun _ _ _ _ _ _ us hl => match us, hl with | [_, _, _], _ => rfl) (fun f cdv A outer s H vs Q E hr h => ?_)
  rotate_left
  have nd := sc__law_roads.nd
  have hu := hr.units
  have hu0 := hr.units0
  have hu1 := hu_of hr
  refine ⟨_, (pss_cons (ps_set (i := 3) nd rfl (Or.inl rfl) (pe_lstD pa_nil)) (pss_cons (ps_for (passes_of rfl) rfl (pi_range1 (by rfl) B.range (pa_cons (pv 0) pa_nil)) (pg_name (i := 4) nd rfl (Or.inr rfl)) (pss_one (ps_set (i := 3) nd rfl (Or.inl rfl) (pe_op op_catLD (pv 3) (pe_lc (g := (gName 5)) (tt := tYes) (te := (tDispT K (tCons (tVar 4) (tCons (tVar 5) tNil)))) rfl nd (pi_range2 (by rfl) B.range (pa_cons (pe_op op_add (pv 4) pe_int) (pa_cons (pv 0) pa_nil))) (blkOk_by (own := [("other", 5)]) (by rfl)) (fun _ _ _ _ _ => (pg_name (i := 5) nd rfl (Or.inl rfl))) (fun _ _ _ _ _ => pts_nil) (fun _ _ _ _ _ => (pe_tupD (pa_cons (pv 4) (pa_cons (pv 5) pa_nil))))))))) (pss_one (ps_ret (pe_callTy call_tupD (by rfl) B.tuple (by decide +kernel) (pa_cons (pe_lc (g := (gTup K 2 (gCons (gName 6) (gCons (gName 7) gNil)))) (tt := (tOr (tTest (tOp rNe (tOp (rI (fun _ j => 0 < j) fun i j => .int (i % j)) (tOp (rIxD K) (tVar 1) (tVar 6)) (tVar 2)) (tC (.int 0)))) (tTest (tOp rEq (tVar 2) (tC (.int 6)))))) (te := (tVar 7)) rfl nd (pi_enumA (by rfl) B.enumerate (pa_cons (pv 3) pa_nil)) (blkOk_by (own := [("k", 6), ("road", 7)]) (by rfl)) (fun _ _ _ _ _ => (pg_tup (by rfl) (pgs_cons (pg_name (i := 6) nd rfl (Or.inl rfl)) (pgs_cons (pg_name (i := 7) nd rfl (Or.inl rfl)) pgs_nil)))) (fun _ _ _ _ _ => (pts_one (PW.pt (pw_or (pt_cmpR op_ne (pe_op op_mod (pe_ix ix_D (pv 1) (pv 6) (fun _ _ => rfl)) (pv 2)) pe_int (nomark _)) (pw_or1 (pt_cmpR op_eq (pv 2) pe_int (nomark _))))))) (fun _ _ _ _ _ => (pv 7))) pa_nil)))))), ?_⟩
  rotate_left
  · obtain ⟨_, _, _, _, rfl, _⟩ := h
    rfl
  · obtain ⟨m, sh, vd, ds, rfl, hd1, m2, m6, hdl, hsh, q⟩ := h
    refine ⟨Nat.zero_le _, [], .nil, fun F H1 s1 f1 i1 => ?_⟩
    refine ⟨_, rfl, _, rfl, by omega, by omega, ?_⟩
    refine for_R (n := m) (lo := 0) (fun i σ' H' => (∃ fd y4, σ' = [some (.int m), some vd, some (.int sh), some fd, y4, none, none, none] ∧ Im K H' fd (eL eRd (Lk.pairsF m i))) ∧ Same H H') ⟨⟨_, _, rfl, i1⟩, s1⟩ (fun i σ' H' hi pv => ?_) (fun σ' H' pv => ?_)
    · obtain ⟨⟨fd, y4, rfl, im⟩, sH⟩ := pv
      rw [Int.zero_add]
      have hlen := Lk.pairsF_len m6 (show i ≤ m by omega)
      refine ⟨_, rfl, _, rfl, _, _, rfl, rfl, _, rfl, _, _, rfl, ⟨by omega, by omega, by omega, by omega⟩, ?_⟩
      have en : ((m : Int) - ((i : Int) + 1)).toNat = m - (i + 1) := by omega
      rw [en]
      refine lc_R (K := K) (small_line (by omega)) (fun j => some (eRd ((i : Int), (i : Int) + 1 + (j : Nat)))) (fun D j H2 QT QF hj s2 hN kT kF => ?_) (fun p H2 s2 f2 i2 => ?_)
      · exact ⟨rfl, _, rfl, _, rfl, by show (2 : Nat) ≤ 1000; decide, _, .cons (.int _) (.cons (.int _) .nil), fun p3 H3 s3 f3 i3 => kT _ _ _ rfl s3 (Im.stb (d := eRd ((i : Int), (i : Int) + 1 + (j : Nat))) i3 (flat_Rd _))⟩
      · rw [List.filterMap_eq_map'] at i2
        refine ⟨_, _, im.same s2, i2, by rw [List.length_map, List.length_map, List.length_range]; omega, fun p3 H3 s3 f3 i3 => ⟨⟨_, _, rfl, ?_⟩, (sH.trans s2).trans s3⟩⟩
        have e : (Lk.pairsF m i).map eRd ++ (List.range (m - (i + 1))).map (fun j => eRd ((i : Int), (i : Int) + 1 + (j : Nat))) = (Lk.pairsF m (i + 1)).map eRd := by
          unfold Lk.pairsF
          rw [List.range_succ, List.flatMap_append, List.map_append]
          congr 1
          simp
        rw [e] at i3
        exact i3
    · obtain ⟨⟨fd, y4, rfl, im⟩, sH⟩ := pv
      have hlen := Lk.pairsF_len m6 (Nat.le_refl m)
      let c : Nat → Bool := fun i => (!decide ((ds.getD i 0) % sh = 0)) || decide (sh = 6)
      refine ⟨_, rfl, lc_E (.inr im) (by rw [List.length_map]; exact small_line (by omega)) (fun i d => if c (0 + i) = true then some d else none) (fun D i d v T H2 QT QF hd s2 hN hv hT kT kF => ?_) (fun p H2 s2 f2 i2 => ?_)⟩
      · have hi := (List.getElem?_eq_some_iff.mp hd).1
        rw [List.length_map] at hi
        obtain ⟨x, hx⟩ : ∃ x, ds[i]? = some x := ⟨_, List.getElem?_eq_getElem (by omega)⟩
        have eg : ds.getD i 0 = x := by rw [List.getD_eq_getElem?_getD, hx]; rfl
        have hc : c (0 + i) = ((!decide (x % sh = 0)) || decide (sh = 6)) := by show _ = _; simp only [c, Nat.zero_add, eg]
        refine ⟨T, _, rfl, SqT.of hT, rfl, _, _, rfl, _, _, rfl, rfl, rfl, ?_⟩
        refine ⟨_, rfl, _, rfl, _, (i : Int), eI x, .inr ((hd1.same sH).same s2), rfl, atI_map (atI_nn (by omega) (by rw [Int.toNat_natCast]; exact hx)), fun y hy => ?_⟩
        cases hy
        refine ⟨_, rfl, _, _, rfl, rfl, hsh, rfl, _, rfl, ?_⟩
        have df : flat d = true := by
          rw [List.getElem?_map] at hd
          obtain ⟨r0, _, rfl⟩ := Option.map_eq_some_iff.mp hd
          exact flat_Rd r0
        by_cases c1 : x % sh = 0
        · refine ifF (by simp [c1]) ⟨_, rfl, rfl, _, rfl, ?_⟩
          by_cases c2 : sh = 6
          · exact ifT (by simp [c2]) ⟨_, rfl, kT _ _ _ (by rw [hc]; simp [c2]) (Same.refl _) (hv.stb df)⟩
          · exact ifF (by simp [c2]) (kF _ (by rw [hc]; simp [c1, c2]) (Same.refl _))
        · exact ifT (by simp [c1]) (ifT rfl ⟨_, rfl, kT _ _ _ (by rw [hc]; simp [c1]) (Same.refl _) (hv.stb df)⟩)
      · obtain ⟨l', h1, h2, h3⟩ := Lk.keep_sub c (Lk.pairsF m m) 0
        have e : ((List.range ((Lk.pairsF m m).map eRd).length).filterMap fun i => (((Lk.pairsF m m).map eRd)[i]?).bind fun d => if c (0 + i) = true then some d else none) = l'.map eRd := by
          rw [← h3, List.map_filterMap, List.length_map]
          refine congrArg (fun f => List.filterMap f _) (funext fun i => ?_)
          rw [List.getElem?_map]
          cases (Lk.pairsF m m)[i]? with
          | none => rfl
          | some x =>
            show (if c (0 + i) = true then some (eRd x) else none) = Option.map eRd (if c (0 + i) = true then some x else none)
            split <;> rfl
        rw [e] at i2
        have i2 : Im K H2 (.ref p) (eL eRd l') := i2
        refine ⟨_, _, rfl, .inr i2, fun v3 H3 s3 i3 => q l' v3 H3 (Rds.sub h1) (fun h6 => h2 fun i => ?_) ((sH.trans s2).trans s3) i3⟩
        show ((!decide ((ds.getD i 0) % sh = 0)) || decide (sh = 6)) = true
        simp [h6]
end
end Lw
end
section
set_option Elab.async false
set_option linter.all false
set_option maxRecDepth 100000
set_option maxHeartbeats 2000000
/-! for over enumerate. -/
namespace Lw
open PySem PySem.Spec PyProof.Rows L2
section
variable {K : PySem.W.Frag} {g : TG} {tb : TS} {D : Ends} {σ : L2.St} {H : Hp}
theorem for_ET {x : V} {ds : List PyData} (hx : Im K H x (.tuple ds)) (Pv : Nat → L2.St → Hp → Prop) (h0 : Pv 0 σ H) (hk : ∀ i σ' H', Pv i σ' H' → TK H H')
    (hs : ∀ i d v T σ' H', ds[i]? = some d → Im K H v d → Pv i σ' H' → H' T = none → g (.ref T) σ' (upd H' T (.tup [.int (i : Nat), v])) fun σ2 H2 => tb { D with nx := Pv (i + 1), ct := Pv (i + 1), bk := D.nx } σ2 H2) (hd : ∀ σ' H', Pv ds.length σ' H' → D.nx σ' H') :
    ∃ a xs, [x] = [.ref a] ∧ ((SqL K H a xs ∧ RFor g tb D σ (Ite K a) H) ∨ (SqT K H a xs ∧ RFor g tb D σ (IteT K a) H)) := by
  have key : ∀ a xs, SqT K H a xs → (∀ H', TK H H' → SqT K H' a xs) → ImAll K H xs ds → RFor g tb D σ (IteT K a) H := fun a xs h1 h2 h3 => by
    refine for_it (n := xs.length) walk_enumT Pv h0 (fun i σ' H' _ p => h2 H' (hk i σ' H' p)) (fun i v σ' H' H'' hi p y => ?_) (fun σ' H' p => hd σ' H' (by rw [← h3.length]; exact p))
    obtain ⟨T, u, z, e1, hT, e2, e3, hv⟩ := y
    subst e1 e2
    cases e3
    obtain ⟨d, hdi, hvd⟩ := h3.getV hv
    exact hs i d z T σ' _ hdi hvd p hT
  cases hx with
  | tup h d t => exact ⟨_, _, rfl, .inr ⟨.inl (.inr ⟨_, h⟩), key _ _ (.inl (.inr ⟨_, h⟩)) (fun H' q => .inl (.inr ⟨_, q _ _ _ h⟩)) t⟩⟩
  | tupK o n h1 h2 h3 h4 => exact ⟨_, _, rfl, .inr ⟨Im.sqt h1 h2 h3, key _ _ (Im.sqt h1 h2 h3) (fun H' q => Im.sqt h1 h2 h3) .nil⟩⟩
theorem for_EL {x : V} {ds : List PyData} (hx : Im K H x (.list ds)) (Pv : Nat → L2.St → Hp → Prop) (h0 : Pv 0 σ H) (hk : ∀ i σ' H', Pv i σ' H' → ∀ a, x = .ref a → H' a = H a)
    (hs : ∀ i d v T σ' H', ds[i]? = some d → Im K H v d → Pv i σ' H' → H' T = none → g (.ref T) σ' (upd H' T (.tup [.int (i : Nat), v])) fun σ2 H2 => tb { D with nx := Pv (i + 1), ct := Pv (i + 1), bk := D.nx } σ2 H2) (hd : ∀ σ' H', Pv ds.length σ' H' → D.nx σ' H') :
    ∃ a xs, [x] = [.ref a] ∧ ((SqL K H a xs ∧ RFor g tb D σ (Ite K a) H) ∨ (SqT K H a xs ∧ RFor g tb D σ (IteT K a) H)) := by
  obtain ⟨a, xs, rfl, h1, h3⟩ := hx.lst_inv
  refine ⟨a, xs, rfl, .inl ⟨SqL.of h1, for_it (n := xs.length) (walk_enum (xs := xs)) Pv h0 (fun i σ' H' _ p => SqL.of (by rw [hk i σ' H' p a rfl]; exact h1)) (fun i v σ' H' H'' hi p y => ?_) (fun σ' H' p => hd σ' H' (by rw [← h3.length]; exact p))⟩⟩
  obtain ⟨T, u, z, e1, hT, e2, e3, hv⟩ := y
  subst e1 e2
  cases e3
  obtain ⟨d, hdi, hvd⟩ := h3.getV hv
  exact hs i d z T σ' _ hdi hvd p hT
end
end Lw
end
section
set_option Elab.async false
set_option linter.all false
set_option maxRecDepth 100000
set_option maxHeartbeats 2000000
/-! Guilds by digits. -/
namespace Lk
/-- a guild but for how many ways it has -/
structure GdP (g : Gd) : Prop where
  lo : 2 ≤ g.many
  hi : g.many ≤ 6
  rds : Rds g.many g.roads
  len : g.likes.length = g.many - 1
  each : ∀ (i : Nat) (r : List Way), g.likes[i]? = some r → r.Nodup ∧ r.length ≤ 6 ∧ ∀ u ∈ r, IsWay g.many g.roads ((i + 1 : Nat) : Int) u
theorem GdP.ok {g : Gd} (p : GdP g) (ht : g.likes.flatten.length ≤ 9) : g.Ok := by
  have row : ∀ h : Nat, 1 ≤ h → h < g.many → g.likes[h - 1]? = some (g.row h) := fun h h1 h2 => by
    have hl := p.len
    have e : ((h : Int) - 1).toNat = h - 1 := by omega
    unfold Gd.row
    rw [e, List.getD_eq_getElem?_getD]
    have : h - 1 < g.likes.length := by omega
    rw [List.getElem?_eq_getElem this]; rfl
  refine ⟨p.lo, p.hi, p.rds.rds, p.rds.ris, p.len, fun h h1 h2 => (p.each _ _ (row h h1 h2)).1, fun h h1 h2 => (p.each _ _ (row h h1 h2)).2.1, fun h h1 h2 u hu => ?_, ht⟩
  have := (p.each _ _ (row h h1 h2)).2.2 u hu
  rwa [show h - 1 + 1 = h by omega] at this
end Lk
namespace Lw
open PySem PySem.Spec PyProof.Rows L2
open Lk (Way Gd IsWay ltP PWay Rds GdP)
section
variable {K : PySem.W.Frag} {g : TG} {tt : TT} {te : TE} {vs : List Nat} {σ : L2.St} {H1 : Hp} {Q : Addr → Hp → Prop}
theorem os_us {β : Type} {e : β → PyData} {Rel : Nat → β → Prop} : ∀ (os : List (Option PyData)) (k : Nat), (∀ (i : Nat) (o : Option PyData), os[i]? = some o → ∃ b, Rel (k + i) b ∧ o = some (e b)) →
    ∃ us : List β, us.length = os.length ∧ (∀ i u, us[i]? = some u → Rel (k + i) u) ∧ os.filterMap id = us.map e
  | [], k, _ => ⟨[], rfl, fun i u h => by simp at h, rfl⟩
  | o :: os, k, h => by
    obtain ⟨b, hb, rfl⟩ := h 0 o rfl
    obtain ⟨us, h1, h2, h3⟩ := os_us (e := e) (Rel := Rel) os (k + 1) fun i o ho => by
      have := h (i + 1) o (by simpa using ho)
      rwa [show k + (i + 1) = k + 1 + i by omega] at this
    refine ⟨b :: us, by simp [h1], fun i u hu => ?_, by simp [h3]⟩
    cases i with
    | zero =>
      have e : b = u := by simpa using hu
      rw [← e]; exact hb
    | succ i =>
      have := h2 i u (by simpa using hu)
      rwa [show k + (i + 1) = k + 1 + i by omega]
theorem lc_RX {lo : Int} {n : Nat} (hn : n ≤ sizeLine) {β : Type} {e : β → PyData} (fl : ∀ b, flat (e b) = true) (Rel : Nat → β → Prop)
    (hs : ∀ D i H' (QT : VK) (QF : Hp → Prop), i < n → Same H1 H' → H' D ≠ none → (∀ y H4 b, Rel i b → Same H' H4 → Im K H4 y (e b) → QT y H4) →
      g (.int (lo + (i : Nat))) (wipe σ vs) H' fun σ2 H2 => wipe σ2 vs = wipe σ vs ∧ tt σ2 H2 fun b H3 => if b = true then te σ2 H3 QT else QF H3)
    (hd : ∀ p H' us, us.length = n → (∀ i u, us[i]? = some u → Rel i u) → Same H1 H' → H1 p = none → Im K H' (.ref p) (eL e us) → Q p H') : RLc g tt te vs σ Q (Itr lo n) H1 := by
  refine lc_SR (K := K) (walk_range (lo := lo) (n := n)) hn (fun i o => ∃ b, Rel i b ∧ o = some (e b)) (fun _ _ => True.intro) (fun i H x H' y => by rw [y.1]; exact Same.refl _) (fun D i x H H' QT QF hi s hD hD2 y kT kF => ?_) (fun p H' os hl hr s hp im => ?_)
  · obtain ⟨ex, rfl⟩ := y
    subst ex
    exact hs D i _ QT QF hi s hD2 fun z H4 b hb s4 hz => kT z H4 _ ⟨b, hb, rfl⟩ s4 (hz.stb (fl b))
  · obtain ⟨us, h1, h2, h3⟩ := os_us (e := e) (Rel := Rel) os 0 (fun i o ho => by rw [Nat.zero_add]; exact hr i o ho)
    rw [h3] at im
    exact hd p H' us (by rw [h1, hl]) (fun i u hu => by have := h2 i u hu; rwa [Nat.zero_add] at this) s hp im
end
section
variable {P : Program} {w : World} {K : PySem.W.Frag} {mg : Str → Option Value} {base : Heap}
theorem sc__law_drawn : FnScope ["script", "at", "most", "draws", "many", "roads", "k", "likes"] ["script", "at", "most"] (defScope s__law_drawn) := ⟨rfl, rfl, rfl, by decide +kernel, rfl, by decide +kernel, by decide +kernel⟩
def S__law_drawn (P : Program) (w : World) (K : PySem.W.Frag) : Sp := fun vs H Q _ => ∃ (a : Addr) (at_ : Int), vs = [.ref a, .int at_, .int 6] ∧ Scr K H a ∧ 0 ≤ at_ ∧ at_ ≤ 900 ∧ ∀ g r H', GdP g → Same H H' → Im K H' r (eG g) → Q r H'
theorem w__law_drawn (B : Bi mg) (D : Df K mg "_law_drawn" s__law_drawn) (h_law_draws : Has P w K mg base 2 "_law_draws" ["script", "k", "many", "base"] (S__law_draws P w K)) (h_law_roads : Has P w K mg base 1 "_law_roads" ["many", "draws", "share"] (S__law_roads P w K))
    (h_law_ways : Has P w K mg base 2 "_law_ways" ["many", "roads", "house", "draws"] (S__law_ways P w K)) : Has P w K mg base 3 "_law_drawn" ["script", "at", "most"] (S__law_drawn P w K) := by
  refine D.has sc__law_drawn (fun vs H Q E h => ?_) (fun _ _ _ _ _ _ us hl => match us, hl with | [_, _, _], _ => rfl) (fun f cdv A outer s H vs Q E hr h => ?_)
  rotate_left
  have nd := sc__law_drawn.nd
  have hu := hr.units
  have hu0 := hr.units0
  have hu1 := hu_of hr
  refine ⟨_, (pss_cons (ps_set (i := 3) nd rfl (Or.inl rfl) (pe_has h_law_draws hr (by decide) (pa_cons (pv 0) (pa_cons (pv 1) (pa_cons pe_int (pa_cons pe_int pa_nil)))))) (pss_cons (ps_set (i := 4) nd rfl (Or.inr rfl) (pe_ix ix_D (pe_lstD (pa_cons (pe_op op_add pe_int (pe_op op_mod (pe_ix ix_D (pv 3) pe_int (fun _ _ => rfl)) (pe_op op_sub (pv 2) pe_int))) (pa_cons (pv 2) (pa_cons (pe_callB (call_minI rfl) (by rfl) B.min (by decide +kernel) (pa_cons pe_int (pa_cons (pv 2) pa_nil))) pa_nil)))) (pe_op op_mod (pe_ix ix_D (pv 3) pe_int (fun _ _ => rfl)) pe_int) (fun _ _ => rfl))) (pss_cons (ps_set (i := 5) nd rfl (Or.inr rfl) (pe_has h_law_roads hr (by decide) (pa_cons (pv 4) (pa_cons (pe_slice sl_D (pv 3) (po_some pe_int) po_none) (pa_cons (pe_op op_add pe_int (pe_op op_mod (pe_ix ix_D (pv 3) pe_int (fun _ _ => rfl)) pe_int)) pa_nil))))) (pss_cons (ps_setLc (i := 7) (g := (gName 6)) (tt := tYes) (te := (tCall (S__law_ways P w K) [] E0 (tCons (tVar 4) (tCons (tVar 5) (tCons (tVar 6) (tCons (tCall (S__law_draws P w K) [] E0 (tCons (tVar 0) (tCons (tOp (rI0 fun i j => .int (i + j)) (tVar 1) (tVar 6)) (tCons (tC (.int 44)) (tCons (tC (.int 27720)) tNil))))) tNil)))))) rfl nd rfl rfl (sw_true rfl rfl rfl (by decide +kernel)) (pi_range2 (by rfl) B.range (pa_cons pe_int (pa_cons (pv 4) pa_nil))) (blkOk_by (own := [("k", 6)]) (by rfl)) (fun _ _ _ _ _ => (pg_name (i := 6) nd rfl (Or.inl rfl))) (fun _ _ _ _ _ => pts_nil) (fun _ _ _ _ _ => (pe_has h_law_ways hr (by decide) (pa_cons (pv 4) (pa_cons (pv 5) (pa_cons (pv 6) (pa_cons (pe_has h_law_draws hr (by decide) (pa_cons (pv 0) (pa_cons (pe_op op_add (pv 1) (pv 6)) (pa_cons pe_int (pa_cons pe_int pa_nil))))) pa_nil))))))) (pss_one (ps_ret (pe_tupD (pa_cons (pv 4) (pa_cons (pv 5) (pa_cons (pe_callTy call_tupD (by rfl) B.tuple (by decide +kernel) (pa_cons (pv 7) pa_nil)) pa_nil)))))))))), ?_⟩
  rotate_left
  · obtain ⟨_, _, rfl, _⟩ := h
    rfl
  · obtain ⟨a, at_, rfl, hS, a0, a1, q⟩ := h
    have d5 : (0 : Int) < 5 := by decide
    have d3 : (0 : Int) < 3 := by decide
    refine ⟨_, rfl, _, rfl, a, at_, 30, rfl, hS, a0, by omega, by decide, fun ds pD H1 hdl hds s1 f1 i1 => ?_⟩
    obtain ⟨x0, h0⟩ : ∃ d, ds[0]? = some d := ⟨_, List.getElem?_eq_getElem (by omega)⟩
    obtain ⟨x1, h1⟩ : ∃ d, ds[1]? = some d := ⟨_, List.getElem?_eq_getElem (by omega)⟩
    obtain ⟨x29, h29⟩ : ∃ d, ds[29]? = some d := ⟨_, List.getElem?_eq_getElem (by omega)⟩
    have e0 : atI (ds.map eI) 0 = some (eI x0) := atI_map (atI_nn (by decide) h0)
    have e1 : atI (ds.map eI) 1 = some (eI x1) := atI_map (atI_nn (by decide) h1)
    have e29 : atI (ds.map eI) 29 = some (eI x29) := atI_map (atI_nn (by decide) h29)
    refine ⟨_, rfl, _, 0, eI x0, .inr i1, rfl, e0, fun x hx => ?_⟩
    cases hx
    refine ⟨_, rfl, _, _, rfl, rfl, _, _, rfl, rfl, d5, _, _, rfl, rfl, _, rfl, _, rfl, _, _, rfl, by show (3 : Nat) ≤ 1000; decide, _, .cons (.int _) (.cons (.int _) (.cons (.int _) .nil)), fun pc H2 s2 f2 i2 => ?_⟩
    have i2 : Im K H2 (.ref pc) (eL eI [2 + x0 % (6 - 1), 6, min 4 6]) := i2
    refine ⟨_, rfl, _, 1, eI x1, .inr (i1.same s2), rfl, e1, fun x hx => ?_⟩
    cases hx
    refine ⟨_, _, rfl, rfl, d3, ?_⟩
    have b0 := Int.emod_nonneg x1 (show (3 : Int) ≠ 0 by decide)
    have b1 := Int.emod_lt_of_pos x1 d3
    obtain ⟨m, hm, m2, m6⟩ : ∃ m : Nat, [2 + x0 % (6 - 1), 6, min 4 6][(x1 % 3).toNat]? = some (m : Int) ∧ 2 ≤ m ∧ m ≤ 6 := by
      have c1 := Int.emod_nonneg x0 (show (6 : Int) - 1 ≠ 0 by decide)
      have c2 := Int.emod_lt_of_pos x0 (show (0 : Int) < 6 - 1 by decide)
      have : (x1 % 3).toNat = 0 ∨ (x1 % 3).toNat = 1 ∨ (x1 % 3).toNat = 2 := by omega
      rcases this with h | h | h <;> rw [h]
      · exact ⟨(2 + x0 % (6 - 1)).toNat, by simp; omega, by omega, by omega⟩
      · exact ⟨6, rfl, by omega, by omega⟩
      · exact ⟨4, rfl, by omega, by omega⟩
    refine ⟨_, x1 % 3, eI (m : Int), .inr i2, rfl, atI_map (atI_nn b0 hm), fun x hx => ?_⟩
    cases hx
    have i1' := i1.same s2
    refine ⟨_, rfl, _, rfl, _, rfl, .inr ⟨_, i1', fun pE H3 s3 f3 i3 => ?_⟩⟩
    rw [show (2 : Int) = ((2 : Nat) : Int) from rfl, cutD_from, ← List.map_drop] at i3
    refine ⟨_, rfl, _, 29, eI x29, .inr (i1'.same s3), rfl, e29, fun x hx => ?_⟩
    cases hx
    have c1 := Int.emod_nonneg x29 (show (5 : Int) ≠ 0 by decide)
    refine ⟨_, _, rfl, rfl, d5, _, _, rfl, rfl, m, _, _, ds.drop 2, rfl, i3, m2, m6, by rw [List.length_drop]; omega, by omega, fun rs vr H4 hrs _ s4 i4 => ?_⟩
    have s14 := ((s1.trans s2).trans s3).trans s4
    refine ⟨_, rfl, _, _, rfl, ⟨by decide, by decide, by omega, by omega⟩, ?_⟩
    have en : ((m : Int) - 1).toNat = m - 1 := by omega
    rw [en]
    refine lc_RX (K := K) (e := eWs) (small_line (by omega)) flat_Ws (fun i us => us.Nodup ∧ us.length ≤ 6 ∧ ∀ u ∈ us, IsWay m rs ((i + 1 : Nat) : Int) u) (fun D i H5 QT QF hi s5 hN kT => ?_) (fun p H5 us hul hus s5 f5 i5 => ?_)
    · refine ⟨rfl, _, rfl, _, rfl, _, rfl, _, rfl, _, rfl, _, rfl, _, _, rfl, rfl, a, at_ + (1 + (i : Nat)), 44, rfl, (hS.same s14).same s5, by omega, by omega, by decide, fun es pF H6 hel hes s6 f6 i6 => ?_⟩
      refine ⟨m, i + 1, vr, _, rs, es, ?_, (i4.same s5).same s6, i6, hrs, m2, m6, by omega, by omega, hel, fun us r H7 u1 u2 u3 s7 i7 => kT r H7 us ⟨u1, u2, u3⟩ (s6.trans s7) i7⟩
      rw [show (1 : Int) + (i : Nat) = ((i + 1 : Nat) : Int) by omega]
      rfl
    · refine ⟨_, rfl, _, rfl, _, rfl, _, _, rfl, .inr i5, fun v6 H6 s6 i6 => ⟨by show (3 : Nat) ≤ 1000; decide, _, .cons (.int _) (.cons ((i4.same s5).same s6) (.cons i6 .nil)), fun p7 H7 s7 f7 i7 => q ⟨m, rs, us⟩ _ H7 ⟨m2, m6, hrs, by rw [hul], fun i r hr => hus i r hr⟩ (((s14.trans s5).trans s6).trans s7) i7⟩⟩
theorem sc__law_few : FnScope ["script", "at", "most", "guild", "likes", "left", "k", "row"] ["script", "at", "most"] (defScope s__law_few) := ⟨rfl, rfl, rfl, by decide +kernel, rfl, by decide +kernel, by decide +kernel⟩
def S__law_guild (P : Program) (w : World) (K : PySem.W.Frag) : Sp := fun vs H Q _ => ∃ (a : Addr) (at_ : Int), vs = [.ref a, .int at_, .int 6] ∧ Scr K H a ∧ 0 ≤ at_ ∧ at_ ≤ 800 ∧ ∀ g r H', GdP g → Same H H' → Im K H' r (eG g) → Q r H'
def S__law_few (P : Program) (w : World) (K : PySem.W.Frag) : Sp := fun vs H Q _ => ∃ (a : Addr) (at_ : Int), vs = [.ref a, .int at_, .int 9] ∧ Scr K H a ∧ 0 ≤ at_ ∧ at_ ≤ 800 ∧ ∀ g r H', g.Ok → Same H H' → Im K H' r (eG g) → Q r H'
theorem w__law_few (B : Bi mg) (D : Df K mg "_law_few" s__law_few) (h_law_guild : Has P w K mg base 4 "_law_guild" ["script", "at", "most"] (S__law_guild P w K)) : Has P w K mg base 5 "_law_few" ["script", "at", "most"] (S__law_few P w K) := by
  refine D.has sc__law_few (fun vs H Q E h => ?_) (fun _ _ _ _ _ _ us hl => match us, hl with | [_, _, _], _ => rfl) (fun f cdv A outer s H vs Q E hr h => ?_)
  rotate_left
  have nd := sc__law_few.nd
  have hu := hr.units
  have hu0 := hr.units0
  have hu1 := hu_of hr
  refine ⟨_, (pss_cons (ps_set (i := 3) nd rfl (Or.inl rfl) (pe_has h_law_guild hr (by decide) (pa_cons (pv 0) (pa_cons (pv 1) (pa_cons pe_int pa_nil))))) (pss_cons (ps_set (i := 4) nd rfl (Or.inl rfl) (pe_lstD pa_nil)) (pss_cons (ps_set (i := 5) nd rfl (Or.inl rfl) (pv 2)) (pss_cons (ps_for (passes_of rfl) rfl (pi_enumA (by rfl) B.enumerate (pa_cons (pe_ix ix_D (pv 3) pe_int (fun _ _ => rfl)) pa_nil)) (pg_tup (by rfl) (pgs_cons (pg_name (i := 6) nd rfl (Or.inl rfl)) (pgs_cons (pg_name (i := 7) nd rfl (Or.inl rfl)) pgs_nil))) (pss_cons (ps_expr (pe_bm PySem.F.plainAttrs_list PySem.F.slot_list_append PySem.F.type_list_append mt_appD (pv 4) (pa_cons (pe_slice sl_D (pv 7) po_none (po_some (pe_callB (call_maxI rfl) (by rfl) B.max (by decide +kernel) (pa_cons (pe_callB (call_minI rfl) (by rfl) B.min (by decide +kernel) (pa_cons (pe_callB call_lenD (by rfl) B.len (by decide +kernel) (pa_cons (pv 7) pa_nil)) (pa_cons (pe_op op_sub (pv 5) (pe_op op_sub (pe_op op_sub (pe_ix ix_D (pv 3) pe_int (fun _ _ => rfl)) pe_int) (pv 6))) pa_nil))) (pa_cons pe_int pa_nil))))) pa_nil))) (pss_one (ps_set (i := 5) nd rfl (Or.inl rfl) (pe_op op_sub (pv 5) (pe_callB call_lenD (by rfl) B.len (by decide +kernel) (pa_cons (pe_ix ix_D (pv 4) (pe_un un_neg pe_int) (fun _ _ => rfl)) pa_nil))))))) (pss_one (ps_ret (pe_tupD (pa_cons (pe_ix ix_D (pv 3) pe_int (fun _ _ => rfl)) (pa_cons (pe_ix ix_D (pv 3) pe_int (fun _ _ => rfl)) (pa_cons (pe_callTy call_tupD (by rfl) B.tuple (by decide +kernel) (pa_cons (pv 4) pa_nil)) pa_nil)))))))))), ?_⟩
  rotate_left
  · obtain ⟨_, _, rfl, _⟩ := h
    rfl
  · obtain ⟨a, at_, rfl, hS, a0, a1, q⟩ := h
    refine ⟨_, rfl, _, rfl, a, at_, rfl, hS, a0, a1, fun g vg H1 gp s1 i1 => ?_⟩
    have hlo := gp.lo
    have hhi := gp.hi
    have hll := gp.len
    refine ⟨Nat.zero_le _, [], .nil, fun L H2 s2 f2 i2 => ?_⟩
    have lL : Ls K H2 L (([] : List (List Way)).map eWs) := i2.ls
    have ig2 := i1.same s2
    refine ⟨_, rfl, _, rfl, _, 2, eT eWs g.likes, .inl (eG_inv ig2), rfl, rfl, fun x hx => ?_⟩
    have hx : Im K H2 x (eT eWs g.likes) := hx
    refine for_ET (ds := g.likes.map eWs) hx (fun i σ' H' => ∃ us : List (List Way), ∃ left : Int, ∃ y6 y7, σ' = [some (.ref a), some (.int at_), some (.int 9), some vg, some (.ref L), some (.int left), y6, y7] ∧ Kp [L] H2 H' ∧ TK H2 H' ∧ Ls K H' L (us.map eWs) ∧ us.length = i ∧ left = 9 - us.flatten.length ∧ (g.many : Int) - 1 - i ≤ left ∧ ∀ (j : Nat) (r : List Way), us[j]? = some r → r.Nodup ∧ r.length ≤ 6 ∧ ∀ u ∈ r, IsWay g.many g.roads ((j + 1 : Nat) : Int) u)
      ⟨[], 9, _, _, rfl, Kp.refl, TK.refl, lL, rfl, by simp, by omega, fun j r h => by simp at h⟩ (fun i σ' H' p => p.choose_spec.choose_spec.choose_spec.choose_spec.2.2.1) (fun i d v T σ' H' hd hv pv hT => ?_) (fun σ' H' pv => ?_)
    · obtain ⟨us, left, y6, y7, rfl, kp, tk, ls, hul, hleft, hge, hus⟩ := pv
      rw [List.getElem?_map] at hd
      obtain ⟨row, hrow, rfl⟩ := Option.map_eq_some_iff.mp hd
      have hi := (List.getElem?_eq_some_iff.mp hrow).1
      obtain ⟨r1, r2, r3⟩ := gp.each i row hrow
      have sT : Same H' (upd H' T (.tup [.int (i : Nat), v])) := Same.new hT
      have hv' : Im K (upd H' T (.tup [.int (i : Nat), v])) v (eWs row) := ((hv.tk tk (flat_Ws row)).same sT)
      refine ⟨T, _, rfl, SqT.of upd_same, rfl, _, _, rfl, _, _, rfl, rfl, ?_⟩
      have ls1 := ls.same sT
      have ig := (ig2.tk tk (flat_G g)).same sT
      refine ⟨_, rfl, ls1.ty, _, rfl, _, rfl, _, _, rfl, .inl hv', _, rfl, _, rfl, _, 0, .int g.many, .inl (eG_inv ig), rfl, rfl, fun x hx => ?_⟩
      cases hx
      refine ⟨_, _, rfl, rfl, _, rfl, _, _, rfl, rfl, _, _, rfl, rfl, _, _, rfl, _, _, rfl, _, rfl, .inl ⟨_, hv', fun v5 H5 s5 i5 => ?_⟩⟩
      rw [List.length_map] at i5
      obtain ⟨c, hc⟩ : ∃ c : Nat, max (min (row.length : Int) (left - ((g.many : Int) - 2 - (i : Nat)))) 0 = (c : Int) := ⟨(max (min (row.length : Int) (left - ((g.many : Int) - 2 - (i : Nat)))) 0).toNat, by omega⟩
      rw [hc, cutD_to, ← List.map_take] at i5
      have i5 : Im K H5 v5 (eWs (row.take c)) := i5
      have hcl : c ≤ row.length := by omega
      have hcm : (c : Int) ≤ left - ((g.many : Int) - 2 - (i : Nat)) := by omega
      have htl : (row.take c).length = c := by rw [List.length_take]; omega
      have ls5 := ls1.same s5
      refine ⟨L, us.map eWs, _, eWs (row.take c), rfl, rfl, ls5, i5, ?_, by rw [List.length_map]; omega, fun H6 c6 => ?_⟩
      · rw [show us.map eWs ++ [eWs (row.take c)] = (us ++ [row.take c]).map eWs by simp]
        exact flatAll_map flat_Ws _
      rw [show us.map eWs ++ [eWs (row.take c)] = (us ++ [row.take c]).map eWs by simp] at c6
      obtain ⟨k6, t6, l6⟩ := c6
      have hlast : atI ((us ++ [row.take c]).map eWs) (-1) = some (eWs (row.take c)) := atI_map (f := eWs) (atI_neg1 (by simp))
      refine ⟨_, rfl, _, rfl, _, rfl, _, -1, eWs (row.take c), .inr l6.im, rfl, hlast, fun y hy => ?_⟩
      refine ⟨_, _, rfl, .inl hy, _, _, rfl, rfl, us ++ [row.take c], left - (c : Int), some (.int (i : Nat)), some v, ?_, ((kp.trans sT.kp).trans s5.kp).trans k6, ((tk.trans sT.tk).trans s5.tk).trans t6, l6, by simp [hul], ?_, by omega, fun j r hr => ?_⟩
      · simp only [List.length_map, htl]
        rfl
      · rw [List.flatten_append, List.length_append, hleft]
        simp [htl]
        omega
      · by_cases cj : j < us.length
        · rw [List.getElem?_append_left cj] at hr
          exact hus j r hr
        · rw [List.getElem?_append_right (by omega)] at hr
          have e : j - us.length = 0 := by
            cases q : j - us.length with
            | zero => rfl
            | succ n => rw [q] at hr; simp at hr
          rw [e] at hr
          cases hr
          have ej : j = i := by omega
          subst ej
          exact ⟨r1.sublist (List.take_sublist c row), by rw [htl]; omega, fun u hu => r3 u (List.mem_of_mem_take hu)⟩
    · obtain ⟨us, left, y6, y7, rfl, kp, tk, ls, hul, hleft, hge, hus⟩ := pv
      rw [List.length_map] at hul hge
      have ig := ig2.tk tk (flat_G g)
      have sH : Same H H' := same_kp1 (s1.trans s2) kp (none_back s1 f2)
      refine ⟨_, rfl, _, 0, .int g.many, .inl (eG_inv ig), rfl, rfl, fun x hx => ?_⟩
      cases hx
      refine ⟨_, rfl, _, 1, eRs g.roads, .inl (eG_inv ig), rfl, rfl, fun x1 hx1 => ?_⟩
      refine ⟨_, rfl, _, _, rfl, .inr ls.im, fun v6 H6 s6 i6 => ⟨by show (3 : Nat) ≤ 1000; decide, _, .cons (.int _) (.cons (hx1.same s6) (.cons i6 .nil)), fun p7 H7 s7 f7 i7 => ?_⟩⟩
      refine q ⟨g.many, g.roads, us⟩ _ H7 (GdP.ok ⟨hlo, hhi, gp.rds, by rw [hul, hll], fun j r hr => hus j r hr⟩ ?_) ((sH.trans s6).trans s7) i7
      show us.flatten.length ≤ 9
      omega
end
end Lw
end
section
set_option Elab.async false
set_option linter.all false
set_option maxRecDepth 100000
set_option maxHeartbeats 2000000
/-! Rings of houses by digits. -/
namespace Lk
theorem zip_nd : ∀ {w : Way} {p : Int × Int}, w.Nodup → p ∈ w.zip w.tail → p.1 ∈ w ∧ p.2 ∈ w ∧ p.1 ≠ p.2
  | [], p, _, h => by simp at h
  | [a], p, _, h => by simp at h
  | a :: b :: w, p, nd, h => by
    have h : p ∈ (a, b) :: (b :: w).zip (b :: w).tail := h
    rcases List.mem_cons.mp h with e | e
    · rw [e]
      exact ⟨by simp, by simp, fun q => by simp only at q; rw [q] at nd; simp at nd⟩
    · obtain ⟨h1, h2, h3⟩ := zip_nd (List.nodup_cons.mp nd).2 e
      exact ⟨List.mem_cons_of_mem _ h1, List.mem_cons_of_mem _ h2, h3⟩
theorem joined_full {m : Nat} {a b : Int} (a0 : 0 ≤ a) (a1 : a < m) (b0 : 0 ≤ b) (b1 : b < m) (ne : a ≠ b) : joined (pairsF m m) a b = true := by
  unfold joined
  refine decide_eq_true (pairsF_mem.mpr ?_)
  simp only
  omega
theorem way_full {m : Nat} {h : Int} {w : Way} (nd : w.Nodup) (lo : 2 ≤ w.length) (rng : ∀ x ∈ w, 0 ≤ x ∧ x < m) (hd : w.head? = some h) (hl : w.getLast? = some 0) : IsWay m (pairsF m m) h w :=
  ⟨lo, house_count nd rng, rng, hd, hl, nd, fun p hp => by
    obtain ⟨h1, h2, h3⟩ := zip_nd nd hp
    exact joined_full (rng _ h1).1 (rng _ h1).2 (rng _ h2).1 (rng _ h2).2 h3⟩
theorem way2 {m : Nat} {h : Int} (h0 : 1 ≤ h) (h1 : h < m) : IsWay m (pairsF m m) h [h, 0] :=
  way_full (by simp; omega) (by simp) (fun x hx => by simp at hx; omega) rfl rfl
theorem way3 {m : Nat} {h a : Int} (h0 : 1 ≤ h) (h1 : h < m) (a0 : 1 ≤ a) (a1 : a < m) (ne : h ≠ a) : IsWay m (pairsF m m) h [h, a, 0] :=
  way_full (by simp; omega) (by simp) (fun x hx => by simp at hx; omega) rfl rfl
theorem way4 {m : Nat} {h a b : Int} (h0 : 1 ≤ h) (h1 : h < m) (a0 : 1 ≤ a) (a1 : a < m) (b0 : 1 ≤ b) (b1 : b < m) (n1 : h ≠ a) (n2 : h ≠ b) (n3 : a ≠ b) : IsWay m (pairsF m m) h [h, a, b, 0] :=
  way_full (by simp; omega) (by simp) (fun x hx => by simp at hx; omega) rfl rfl
/-- a row of likes of the i-th house -/
def RowOk (m i : Nat) (r : List Way) : Prop := r.Nodup ∧ r.length ≤ 6 ∧ ∀ u ∈ r, IsWay m (pairsF m m) ((i + 1 : Nat) : Int) u
def housesF (m : Nat) : List Int := (List.range (m - 1)).map fun i => (1 : Int) + (i : Nat)
theorem housesF_mem {m : Nat} {x : Int} : x ∈ housesF m ↔ 1 ≤ x ∧ x < m := by
  unfold housesF
  rw [List.mem_map]
  constructor
  · rintro ⟨i, hi, rfl⟩
    have := List.mem_range.mp hi
    omega
  · rintro ⟨h1, h2⟩
    exact ⟨(x - 1).toNat, List.mem_range.mpr (by omega), by omega⟩
theorem housesF_nd (m : Nat) : (housesF m).Nodup := by
  unfold housesF
  rw [List.nodup_iff_pairwise_ne, List.pairwise_map]
  exact List.pairwise_lt_range.imp fun {i j} h e => by omega
theorem housesF_len (m : Nat) : (housesF m).length = m - 1 := by unfold housesF; simp
theorem erase_perm {α : Type} {l : List α} {i : Nat} {z : α} (h : l[i]? = some z) : (z :: l.eraseIdx i).Perm l := by
  obtain ⟨hi, e⟩ := List.getElem?_eq_some_iff.mp h
  rw [List.eraseIdx_eq_take_drop_succ]
  have e2 := List.take_append_drop i l
  rw [List.drop_eq_getElem_cons hi, e] at e2
  conv => rhs; rw [← e2]
  exact List.perm_middle.symm
end Lk
namespace Lw
open PySem PySem.Spec PyProof.Rows L2
open Lk (Way Gd IsWay ltP PWay Rds GdP RowOk housesF)
section
variable {P : Program} {w : World} {K : PySem.W.Frag} {mg : Str → Option Value} {base : Heap}
theorem rgV_houses (m : Nat) : rgV 1 (m : Int) = (housesF m).map V.int := by
  unfold rgV housesF
  rw [show ((m : Int) - 1).toNat = m - 1 by omega, List.map_map]
  rfl
theorem map_erase {α β : Type} (f : α → β) (l : List α) (i : Nat) : (l.map f).eraseIdx i = (l.eraseIdx i).map f := by
  rw [List.eraseIdx_eq_take_drop_succ, List.eraseIdx_eq_take_drop_succ, List.map_append, List.map_take, List.map_drop]
/-- [left.pop(d) for k in range(n)]: all of a list's ints, one behind the other -/
theorem lc_pops {g : TG} {tt : TT} {te : TE} {vs : List Nat} {σ : L2.St} {H1 : Hp} {Q : Addr → Hp → Prop} {Lf : Addr} {L0 : List Int} {n : Nat} (hn : n ≤ 1000) (hl : L0.length = n) (ls : Ls K H1 Lf (L0.map eI))
    (hs : ∀ D i (l : List Int) H (QT : VK) (QF : Hp → Prop), i < n → Kp [D, Lf] H1 H → TK H1 H → H1 D = none → l.length = n - i → Ls K H Lf (l.map eI) → (∀ z j H4, l[j]? = some z → Ch K Lf ((l.eraseIdx j).map eI) H H4 → QT (.int z) H4) →
      g (.int (0 + (i : Nat))) (wipe σ vs) H fun σ2 H2 => wipe σ2 vs = wipe σ vs ∧ tt σ2 H2 fun b H3 => if b = true then te σ2 H3 QT else QF H3)
    (hd : ∀ p H' hs, hs.Perm L0 → Kp [Lf] H1 H' → TK H1 H' → H1 p = none → Im K H' (.ref p) (eL eI hs) → Q p H') : RLc g tt te vs σ Q (Itr 0 n) H1 := by
  refine lc_walk (walk_range (lo := 0) (n := n)) (small_line (by omega)) (fun D i acc H => ∃ l hs : List Int, acc = hs.map V.int ∧ hs.length = i ∧ l.length = n - i ∧ (hs ++ l).Perm L0 ∧ Kp [D, Lf] H1 H ∧ TK H1 H ∧ Ls K H Lf (l.map eI))
    (fun D hD => ⟨L0, [], rfl, rfl, by omega, List.Perm.refl _, Kp.upd.mono (by simp), TK.new hD, ls.same (Same.new hD)⟩) (fun _ _ _ _ _ _ => True.intro) (fun D i acc x H H' QT QF hD hi e hal pv y kT kF => ?_) (fun D acc H hD e hal pv => ?_)
  · obtain ⟨l, hs', rfl, h1, h2, h3, kp, tk, ls'⟩ := pv
    obtain ⟨ex, rfl⟩ := y
    subst ex
    refine hs D i l H' _ _ hi kp tk hD h2 ls' fun z j H4 hz ch => ?_
    obtain ⟨k4, t4, l4⟩ := ch
    have hDL : D ≠ Lf := fun q => ls.ne_none (by rw [← q]; exact hD)
    have e4 : H4 D = some (.lst (hs'.map V.int)) := k4 _ _ (by simpa using hDL) e
    have t5 : TK H4 (upd H4 D (.lst (hs'.map V.int ++ [.int z]))) := TK.upd e4 (fun _ _ q => nomatch q)
    refine kT _ _ e4 ⟨l.eraseIdx j, hs' ++ [z], by simp, by simp [h1], ?_, ?_, (kp.trans (k4.mono (by simp))).trans (Kp.upd.mono (by simp)), (tk.trans t4).trans t5, l4.kp Kp.upd t5 (flatAll_map flat_int _) (by simpa using Ne.symm hDL)⟩
    · rw [List.length_eraseIdx, if_pos (List.getElem?_eq_some_iff.mp hz).1]; omega
    · refine List.Perm.trans ?_ h3
      rw [List.append_assoc]
      exact List.Perm.append_left hs' (Lk.erase_perm hz)
  · obtain ⟨l, hs', rfl, h1, h2, h3, kp, tk, ls'⟩ := pv
    have : l = [] := List.eq_nil_of_length_eq_zero (by omega)
    subst this
    rw [List.append_nil] at h3
    refine hd D H hs' h3 (Kp.fresh (S' := [D]) (kp.mono (by simp)) fun b hb => by rw [List.mem_singleton.mp hb]; exact hD) tk hD (.lst e ImAll.ofInts)
theorem sc__law_gadget : FnScope ["script", "at", "most", "draws", "many", "left", "k", "houses", "count", "house", "likes", "after"] ["script", "at", "most"] (defScope s__law_gadget) := ⟨rfl, rfl, rfl, by decide +kernel, rfl, by decide +kernel, by decide +kernel⟩
def S__law_gadget (P : Program) (w : World) (K : PySem.W.Frag) : Sp := fun vs H Q _ => ∃ (a : Addr) (at_ : Int), vs = [.ref a, .int at_, .int 6] ∧ Scr K H a ∧ 0 ≤ at_ ∧ at_ ≤ 900 ∧ ∀ g r H', GdP g → Same H H' → Im K H' r (eG g) → Q r H'
theorem w__law_gadget (B : Bi mg) (D : Df K mg "_law_gadget" s__law_gadget) (h_law_draws : Has P w K mg base 2 "_law_draws" ["script", "k", "many", "base"] (S__law_draws P w K)) (h_law_roads : Has P w K mg base 1 "_law_roads" ["many", "draws", "share"] (S__law_roads P w K)) :
    Has P w K mg base 3 "_law_gadget" ["script", "at", "most"] (S__law_gadget P w K) := by
  refine D.has sc__law_gadget (fun vs H Q E h => ?_) (fun _ _ _ _ _ _ us hl => match us, hl with | [_, _, _], _ => rfl) (fun f cdv A outer s H vs Q E hr h => ?_)
  rotate_left
  have nd := sc__law_gadget.nd
  have hu := hr.units
  have hu0 := hr.units0
  have hu1 := hu_of hr
  refine ⟨_, (pss_cons (ps_set (i := 3) nd rfl (Or.inr rfl) (pe_has h_law_draws hr (by decide) (pa_cons (pv 0) (pa_cons (pv 1) (pa_cons pe_int (pa_cons pe_int pa_nil)))))) (pss_cons (ps_set (i := 4) nd rfl (Or.inl rfl) (pe_op op_add pe_int (pe_op op_mod (pe_ix ix_D (pv 3) pe_int (fun _ _ => rfl)) (pe_op op_sub (pv 2) pe_int)))) (pss_cons (ps_set (i := 5) nd rfl (Or.inr rfl) (pe_listRg rfl (by rfl) B.list (prg_2 (by rfl) B.range pe_int (pv 4)))) (pss_cons (ps_setLc (i := 7) (g := (gName 6)) (tt := tYes) (te := (tBM K "list" (rPopAtD K) (tVar 5) (tCons (tOp (rI (fun _ j => 0 < j) fun i j => .int (i % j)) (tOp (rIxD K) (tVar 3) (tOp (rI0 fun i j => .int (i + j)) (tC (.int 1)) (tVar 6))) (tCB (rLenD K) (tCons (tVar 5) tNil))) tNil))) rfl nd rfl rfl (sw_true rfl rfl rfl (by decide +kernel)) (pi_range1 (by rfl) B.range (pa_cons (pe_op op_sub (pv 4) pe_int) pa_nil)) (blkOk_by (own := [("k", 6)]) (by rfl)) (fun _ _ _ _ _ => (pg_name (i := 6) nd rfl (Or.inl rfl))) (fun _ _ _ _ _ => pts_nil) (fun _ _ _ _ _ => (pe_bm PySem.F.plainAttrs_list PySem.F.slot_list_pop PySem.F.type_list_pop mt_popAtD (pv 5) (pa_cons (pe_op op_mod (pe_ix ix_D (pv 3) (pe_op op_add pe_int (pv 6)) (fun _ _ => rfl)) (pe_callB call_lenD (by rfl) B.len (by decide +kernel) (pa_cons (pv 5) pa_nil))) pa_nil)))) (pss_cons (ps_set (i := 8) nd rfl (Or.inl rfl) (pe_op op_add pe_int (pe_op op_mod (pe_ix ix_D (pv 3) pe_int (fun _ _ => rfl)) (pe_op op_sub (pv 4) pe_int)))) (pss_cons (ps_setLc (i := 10) (g := (gName 9)) (tt := tYes) (te := (tDispT K (tCons (tDispT K (tCons (tVar 9) (tCons (tC (.int 0)) tNil))) tNil))) rfl nd rfl rfl (sw_true rfl rfl rfl (by decide +kernel)) (pi_range2 (by rfl) B.range (pa_cons pe_int (pa_cons (pv 4) pa_nil))) (blkOk_by (own := [("house", 9)]) (by rfl)) (fun _ _ _ _ _ => (pg_name (i := 9) nd rfl (Or.inl rfl))) (fun _ _ _ _ _ => pts_nil) (fun _ _ _ _ _ => (pe_tupD (pa_cons (pe_tupD (pa_cons (pv 9) (pa_cons pe_int pa_nil))) pa_nil)))) (pss_cons (ps_for (passes_of rfl) rfl (pi_range1 (by rfl) B.range (pa_cons (pv 8) pa_nil)) (pg_name (i := 6) nd rfl (Or.inl rfl)) (pss_cons (ps_set (i := 9) nd rfl (Or.inl rfl) (pe_ix ix_D (pv 7) (pv 6) (fun _ _ => rfl))) (pss_cons (ps_set (i := 11) nd rfl (Or.inl rfl) (pe_ix ix_D (pv 7) (pe_op op_mod (pe_op op_add (pv 6) pe_int) (pv 8)) (fun _ _ => rfl))) (pss_cons (ps_asg (pe_tupD (pa_cons (pe_tupD (pa_cons (pv 9) (pa_cons (pv 11) (pa_cons pe_int pa_nil)))) (pa_cons (pe_tupD (pa_cons (pv 9) (pa_cons pe_int pa_nil))) pa_nil))) (pg_sub (pv 10) (pe_op op_sub (pv 9) pe_int) set_D)) (pss_one (ps_if (PW.pt (pw_and (pt_cmpR op_eq (pv 6) pe_int (nomark _)) (pw_and1 (pt_cmpR op_eq (pe_op op_mod (pe_ix ix_D (pv 3) pe_int (fun _ _ => rfl)) pe_int) pe_int (nomark _))))) (pss_one (ps_asg (pe_tupD (pa_cons (pe_tupD (pa_cons (pv 9) (pa_cons pe_int pa_nil))) (pa_cons (pe_tupD (pa_cons (pv 9) (pa_cons (pv 11) (pa_cons pe_int pa_nil)))) pa_nil))) (pg_sub (pv 10) (pe_op op_sub (pv 9) pe_int) set_D))) pss_nil)))))) (pss_cons (ps_if (PW.pt (pw_and (pt_cmpR op_eq (pe_op op_mod (pe_ix ix_D (pv 3) pe_int (fun _ _ => rfl)) pe_int) pe_int (nomark _)) (pw_and1 (pt_cmpR op_lt (pe_op op_add (pv 8) pe_int) (pv 4) (nomark _))))) (pss_one (ps_asg (pe_tupD (pa_cons (pe_op op_catTD (pe_tupD (pa_cons (pe_ix ix_D (pv 7) (pv 8) (fun _ _ => rfl)) pa_nil)) (pe_ix ix_D (pe_ix ix_D (pv 10) (pe_op op_sub (pe_ix ix_D (pv 7) pe_int (fun _ _ => rfl)) pe_int) (fun _ _ => rfl)) pe_int (fun _ _ => rfl))) (pa_cons (pe_tupD (pa_cons (pe_ix ix_D (pv 7) (pv 8) (fun _ _ => rfl)) (pa_cons (pe_ix ix_D (pv 7) pe_int (fun _ _ => rfl)) (pa_cons pe_int pa_nil)))) pa_nil))) (pg_sub (pv 10) (pe_op op_sub (pe_ix ix_D (pv 7) (pv 8) (fun _ _ => rfl)) pe_int) set_D))) pss_nil) (pss_one (ps_ret (pe_tupD (pa_cons (pv 4) (pa_cons (pe_has h_law_roads hr (by decide) (pa_cons (pv 4) (pa_cons (pe_op op_catLD (pv 3) (pv 3)) (pa_cons pe_int pa_nil)))) (pa_cons (pe_callTy call_tupD (by rfl) B.tuple (by decide +kernel) (pa_cons (pv 10) pa_nil)) pa_nil)))))))))))))), ?_⟩
  rotate_left
  · obtain ⟨_, _, rfl, _⟩ := h
    rfl
  · obtain ⟨a, at_, rfl, hS, a0, a1, q⟩ := h
    refine ⟨_, rfl, _, rfl, a, at_, 12, rfl, hS, a0, by omega, by decide, fun ds pD H1 hdl hds s1 f1 i1 => ?_⟩
    have gi : ∀ i : Nat, i < 12 → ∃ d, atI (ds.map eI) (i : Nat) = some (eI d) := fun i hi => by
      obtain ⟨d, hd⟩ : ∃ d, ds[i]? = some d := ⟨_, List.getElem?_eq_getElem (by omega)⟩
      exact ⟨d, atI_map (atI_nn (by omega) (by rw [Int.toNat_natCast]; exact hd))⟩
    obtain ⟨x0, e0⟩ := gi 0 (by decide)
    obtain ⟨x8, e8⟩ := gi 8 (by decide)
    obtain ⟨x9, e9⟩ := gi 9 (by decide)
    have d4 : (0 : Int) < 6 - 2 := by decide
    refine ⟨_, rfl, _, 0, eI x0, .inr i1, rfl, e0, fun x hx => ?_⟩
    cases hx
    refine ⟨_, rfl, _, _, rfl, rfl, _, _, rfl, rfl, d4, _, _, rfl, rfl, ?_⟩
    have c1 := Int.emod_nonneg x0 (show (6 : Int) - 2 ≠ 0 by decide)
    have c2 := Int.emod_lt_of_pos x0 d4
    obtain ⟨m, hm, m3, m6⟩ : ∃ m : Nat, (3 : Int) + x0 % (6 - 2) = (m : Int) ∧ 3 ≤ m ∧ m ≤ 6 := ⟨(3 + x0 % (6 - 2)).toNat, by omega, by omega, by omega⟩
    dsimp only [gName]
    rw [hm]
    refine ⟨_, rfl, _, _, rfl, rfl, RgOk.of_le (by decide) (by omega) (by decide) (by omega), fun Lf fLf => ?_⟩
    have s2 : Same H1 (upd H1 Lf (.lst (rgV 1 (m : Int)))) := Same.new fLf
    have lsL : Ls K (upd H1 Lf (.lst (rgV 1 (m : Int)))) Lf ((housesF m).map eI) := ⟨_, upd_same, by rw [rgV_houses]; exact ImAll.ofInts⟩
    generalize upd H1 Lf (.lst (rgV 1 (m : Int))) = H2 at s2 lsL
    have i12 := i1.same s2
    have nDL : V.ref pD ≠ .ref Lf := fun e => by cases e; exact i1.ls.ne_none fLf
    refine ⟨_, rfl, _, _, rfl, rfl, _, rfl, by omega, by omega, ?_⟩
    have en : ((m : Int) - 1).toNat = m - 1 := by omega
    rw [en]
    refine lc_pops (K := K) (by omega) (Lk.housesF_len m) lsL (fun D i l H3 QT QF hi kp3 tk3 hD hll ls3 kT => ?_) (fun pH H3 hs hperm kp3 tk3 f3 i3 => ?_)
    · obtain ⟨xi, ei⟩ := gi (1 + i) (by omega)
      have ip : Im K H3 (.ref pD) (eL eI ds) := i12.ls.kp kp3 tk3 (flatAll_map flat_int _) (by simp only [List.mem_cons, List.not_mem_nil, or_false]; rintro (z | z); exact i12.ls.ne_none (by rw [z]; exact hD); exact nDL (by rw [z])) |>.im
      have hp : (0 : Int) < l.length := by omega
      have hm0 := Int.emod_nonneg xi (show (l.length : Int) ≠ 0 by omega)
      have hm1 := Int.emod_lt_of_pos xi hp
      obtain ⟨z, hz⟩ : ∃ z, l[(xi % (l.length : Int)).toNat]? = some z := ⟨_, List.getElem?_eq_getElem (by omega)⟩
      refine ⟨rfl, _, rfl, ls3.ty, _, rfl, _, rfl, _, _, rfl, rfl, _, 1 + (0 + (i : Nat)), eI xi, .inr ip, rfl, ?_, fun y hy => ?_⟩
      · rw [show (1 : Int) + (0 + (i : Nat)) = ((1 + i : Nat) : Int) by omega]; exact ei
      cases hy
      refine ⟨_, rfl, _, _, rfl, .inr ls3.im, xi, (l.length : Int), rfl, by rw [List.length_map], hp, Lf, l.map eI, xi % (l.length : Int), eI z, rfl, rfl, ls3, flatAll_map flat_int _, hm0, by rw [List.length_map]; omega, by rw [List.getElem?_map, hz]; rfl, fun y H4 iy ch => ?_⟩
      cases iy
      refine kT z _ H4 hz ?_
      rw [map_erase] at ch
      exact ch
    have hhl : hs.length = m - 1 := by rw [hperm.length_eq, Lk.housesF_len]
    have hnd : hs.Nodup := hperm.nodup_iff.mpr (Lk.housesF_nd m)
    have hmem : ∀ x ∈ hs, 1 ≤ x ∧ x < m := fun x hx => Lk.housesF_mem.mp (hperm.mem_iff.mp hx)
    have iD3 : Im K H3 (.ref pD) (eL eI ds) := (i12.ls.kp kp3 tk3 (flatAll_map flat_int _) (by simp only [List.mem_singleton]; rintro z; exact nDL (by rw [z]))).im
    have sH3 : Same H H3 := same_kp1 (s1.trans s2) kp3 (none_back s1 fLf)
    have hS3 := hS.same sH3
    -- the count
    have dm : (0 : Int) < (m : Int) - 2 := by omega
    refine ⟨_, rfl, _, 8, eI x8, .inr iD3, rfl, e8, fun x hx => ?_⟩
    cases hx
    refine ⟨_, rfl, _, _, rfl, rfl, _, _, rfl, rfl, dm, _, _, rfl, rfl, ?_⟩
    have g1 := Int.emod_nonneg x8 (show (m : Int) - 2 ≠ 0 by omega)
    have g2 := Int.emod_lt_of_pos x8 dm
    obtain ⟨c, hc, c2', cm⟩ : ∃ c : Nat, (2 : Int) + x8 % ((m : Int) - 2) = (c : Int) ∧ 2 ≤ c ∧ c ≤ m - 1 := ⟨(2 + x8 % ((m : Int) - 2)).toNat, by omega, by omega, by omega⟩
    dsimp only [gName]
    rw [hc]
    -- the first likes
    refine ⟨_, rfl, _, _, rfl, ⟨by decide, by decide, by omega, by omega⟩, ?_⟩
    rw [en]
    refine lc_R (K := K) (small_line (by omega)) (fun i => some (eWs [[(1 : Int) + (i : Nat), 0]])) (fun D i H4 QT QF hi s4 hN kT kF => ?_) (fun pL H4 s4 f4 i4 => ?_)
    · refine ⟨rfl, _, rfl, by show (2 : Nat) ≤ 1000; decide, _, .cons (.int _) (.cons (.int 0) .nil), fun p5 H5 s5 f5 i5 => ⟨by show (1 : Nat) ≤ 1000; decide, _, .cons i5 .nil, fun p6 H6 s6 f6 i6 => kT _ _ _ rfl (s5.trans s6) (Im.stb (d := eWs [[(1 : Int) + (i : Nat), 0]]) i6 (flat_Ws _))⟩⟩
    rw [List.filterMap_eq_map'] at i4
    have lL4 : Ls K H4 pL (((List.range (m - 1)).map fun i => [[(1 : Int) + ((i : Nat) : Int), 0]]).map eWs) := by rw [List.map_map]; exact i4.ls
    have iD4 := iD3.same s4
    have iH4 := i3.same s4
    have nLD : V.ref pD ≠ .ref pL := iD3.ne_new f4
    have nLH : V.ref pH ≠ .ref pL := i3.ne_new f4
    have sH4 := sH3.trans s4
    have fL0 : H pL = none := none_back sH3 f4
    obtain ⟨h0, hh0⟩ : ∃ x, hs[0]? = some x := ⟨_, List.getElem?_eq_getElem (by omega)⟩
    obtain ⟨h1, hh1⟩ : ∃ x, hs[1]? = some x := ⟨_, List.getElem?_eq_getElem (by omega)⟩
    have hm0 := hmem h0 (List.mem_of_getElem? hh0)
    have hm1 := hmem h1 (List.mem_of_getElem? hh1)
    have uneq : ∀ {i j : Nat} {x y : Int}, hs[i]? = some x → hs[j]? = some y → i ≠ j → x ≠ y := fun {i j x y} hx hy ne e => by
      obtain ⟨hi, ex⟩ := List.getElem?_eq_some_iff.mp hx
      obtain ⟨hj, ey⟩ := List.getElem?_eq_some_iff.mp hy
      exact ne ((List.getElem_inj hnd).mp (ex.trans (e.trans ey.symm)))
    have n01 : h0 ≠ h1 := uneq hh0 hh1 (by decide)
    have rowset : ∀ (lk : List (List Way)) (n : Nat) (r0 : List Way), 1 ≤ n → (∀ i r, lk[i]? = some r → RowOk m i r) → RowOk m (n - 1) r0 → ∀ i r, (lk.set (n - 1) r0)[i]? = some r → RowOk m i r := fun lk n r0 hn hlk hr0 i r hr => by
      rw [List.getElem?_set] at hr
      by_cases e : n - 1 = i
      · rw [if_pos e] at hr
        split at hr
        · cases hr; rw [← e]; exact hr0
        · cases hr
      · rw [if_neg e] at hr; exact hlk i r hr
    have row2 : ∀ {n : Nat} {a : Int}, 1 ≤ n → n < m → 1 ≤ a → a < m → (n : Int) ≠ a → RowOk m (n - 1) [[(n : Int), a, 0], [(n : Int), 0]] ∧ RowOk m (n - 1) [[(n : Int), 0], [(n : Int), a, 0]] := fun {n a} n1 n2 a1 a2 ne => by
      have e : ((n - 1 + 1 : Nat) : Int) = (n : Int) := by omega
      have w2 := Lk.way2 (m := m) (h := (n : Int)) (by omega) (by omega)
      have w3 := Lk.way3 (m := m) (h := (n : Int)) (a := a) (by omega) (by omega) a1 a2 ne
      refine ⟨⟨by simp, by simp, fun u hu => ?_⟩, ⟨by simp, by simp, fun u hu => ?_⟩⟩
      · rw [e]
        simp only [List.mem_cons, List.not_mem_nil, or_false] at hu
        rcases hu with rfl | rfl
        · exact w3
        · exact w2
      · rw [e]
        simp only [List.mem_cons, List.not_mem_nil, or_false] at hu
        rcases hu with rfl | rfl
        · exact w2
        · exact w3
    refine ⟨_, rfl, _, rfl, by omega, by omega, ?_⟩
    refine for_R (n := c) (lo := 0) (fun i σ' H' => ∃ lk : List (List Way), ∃ y6 y9 y11, σ' = [some (.ref a), some (.int at_), some (.int 6), some (.ref pD), some (.int m), some (.ref Lf), y6, some (.ref pH), some (.int c), y9, some (.ref pL), y11] ∧ Kp [pL] H4 H' ∧ TK H4 H' ∧ Ls K H' pL (lk.map eWs) ∧ lk.length = m - 1 ∧ (∀ i r, lk[i]? = some r → RowOk m i r) ∧ (1 ≤ i → ∃ u t, lk[(h0 - 1).toNat]? = some (u :: t) ∧ (u = [h0, h1, 0] ∨ u = [h0, 0])))
      ⟨_, _, _, _, rfl, Kp.refl, TK.refl, lL4, by simp, fun i r hr => ?_, fun h => absurd h (by decide)⟩ (fun i σ' H' hi pv => ?_) (fun σ' H' pv => ?_)
    · rw [List.getElem?_map] at hr
      obtain ⟨j, hj, rfl⟩ := Option.map_eq_some_iff.mp hr
      have hil := (List.getElem?_eq_some_iff.mp hj).1
      rw [List.length_range] at hil
      rw [List.getElem?_range hil] at hj
      cases hj
      refine ⟨by simp, by simp, fun u hu => ?_⟩
      rw [List.mem_singleton.mp hu, show (1 : Int) + ((i : Nat) : Int) = ((i + 1 : Nat) : Int) by omega]
      exact Lk.way2 (by omega) (by omega)
    · obtain ⟨lk, y6, y9, y11, rfl, kp, tk, ls, hlk, hrow, hfst⟩ := pv
      rw [Int.zero_add]
      have iH := (iH4.ls.kp kp tk (flatAll_map flat_int _) (by simp only [List.mem_singleton]; rintro z; exact nLH (by rw [z]))).im
      have iD := (iD4.ls.kp kp tk (flatAll_map flat_int _) (by simp only [List.mem_singleton]; rintro z; exact nLD (by rw [z]))).im
      obtain ⟨hk, hhk⟩ : ∃ x, hs[i]? = some x := ⟨_, List.getElem?_eq_getElem (by omega)⟩
      have hmk := hmem hk (List.mem_of_getElem? hhk)
      obtain ⟨n, rfl⟩ : ∃ n : Nat, hk = (n : Int) := ⟨hk.toNat, by omega⟩
      have dc : (0 : Int) < (c : Int) := by omega
      have j0 := Int.emod_nonneg ((i : Int) + 1) (show (c : Int) ≠ 0 by omega)
      have j1 := Int.emod_lt_of_pos ((i : Int) + 1) dc
      obtain ⟨ha, hha⟩ : ∃ x, hs[(((i : Int) + 1) % (c : Int)).toNat]? = some x := ⟨_, List.getElem?_eq_getElem (by omega)⟩
      have hma := hmem ha (List.mem_of_getElem? hha)
      have hne : (n : Int) ≠ ha := by
        refine uneq hhk hha fun e => ?_
        by_cases cl : i + 1 = c
        · have : ((i : Int) + 1) % (c : Int) = 0 := by rw [show (i : Int) + 1 = (c : Int) by omega]; exact Int.emod_self
          omega
        · have : ((i : Int) + 1) % (c : Int) = (i : Int) + 1 := Int.emod_eq_of_lt (by omega) (by omega)
          omega
      obtain ⟨rA, rB⟩ := row2 (n := n) (a := ha) (by omega) (by omega) hma.1 hma.2 hne
      refine ⟨_, rfl, _, rfl, _, (i : Int), eI (n : Int), .inr iH, rfl, atI_map (atI_nn (by omega) (by rw [Int.toNat_natCast]; exact hhk)), fun y hy => ?_⟩
      cases hy
      refine ⟨_, rfl, _, rfl, _, _, rfl, rfl, _, rfl, _, _, rfl, rfl, dc, _, _, eI ha, .inr iH, rfl, atI_map (atI_nn j0 hha), fun y hy => ?_⟩
      cases hy
      refine ⟨_, rfl, _, rfl, by show (3 : Nat) ≤ 1000; decide, _, .cons (.int _) (.cons (.int _) (.cons (.int 0) .nil)), fun p5 H5 s5 f5 i5 => ⟨_, rfl, by show (2 : Nat) ≤ 1000; decide, _, .cons (.int _) (.cons (.int 0) .nil), fun p6 H6 s6 f6 i6 => ?_⟩⟩
      refine ⟨by show (2 : Nat) ≤ 1000; decide, _, .cons (i5.same s6) (.cons i6 .nil), fun p7 H7 s7 f7 i7 => ?_⟩
      have i7 : Im K H7 (.ref p7) (eWs [[(n : Int), ha, 0], [(n : Int), 0]]) := i7
      have s57 := (s5.trans s6).trans s7
      have hidx : ((n : Int) - 1).toNat = n - 1 := by omega
      refine ⟨_, rfl, _, rfl, _, _, rfl, rfl, pL, lk.map eWs, (n : Int) - 1, _, rfl, rfl, ls.same s57, i7, ?_, by omega, by rw [List.length_map]; omega, fun H8 c8 => ?_⟩
      · rw [← List.map_set]; exact flatAll_map flat_Ws _
      rw [← List.map_set, hidx] at c8
      obtain ⟨k8, t8, l8⟩ := c8
      have kp8 := (kp.trans s57.kp).trans k8
      have tk8 := (tk.trans s57.tk).trans t8
      have fstN : ∀ r0, (i = 0 → (r0 : List Way)[0]? = some [h0, h1, 0] ∨ r0[0]? = some [h0, 0]) → ∀ lk1 : List (List Way), lk1.length = m - 1 → (i ≠ 0 → lk1[(h0 - 1).toNat]? = lk[(h0 - 1).toNat]?) → 1 ≤ i + 1 → ∃ u t, (lk1.set (n - 1) r0)[(h0 - 1).toNat]? = some (u :: t) ∧ (u = [h0, h1, 0] ∨ u = [h0, 0]) := fun r0 hr0 lk1 hl1 heq _ => by
        by_cases i0 : i = 0
        · subst i0
          rw [hh0] at hhk
          cases hhk
          have hx : ((n : Int) - 1).toNat = n - 1 := by omega
          rw [hx, List.getElem?_set_self (by omega)]
          cases r0 with
          | nil => rcases hr0 rfl with e | e <;> simp at e
          | cons u t =>
            refine ⟨u, t, rfl, ?_⟩
            rcases hr0 rfl with e | e
            · exact .inl (by simpa using e)
            · exact .inr (by simpa using e)
        · have hn0 : h0 ≠ (n : Int) := uneq hh0 hhk (Ne.symm i0)
          rw [List.getElem?_set_ne (by omega), heq i0]
          exact hfst (by omega)
      have ha1 : i = 0 → (n : Int) = h0 ∧ ha = h1 := fun i0 => by
        subst i0
        rw [hh0] at hhk
        cases hhk
        have : (((0 : Nat) : Int) + 1) % (c : Int) = 1 := Int.emod_eq_of_lt (by omega) (by omega)
        rw [this] at hha
        have hha : hs[1]? = some ha := hha
        rw [hh1] at hha
        cases hha
        exact ⟨rfl, rfl⟩
      have fin1 := fstN [[(n : Int), ha, 0], [(n : Int), 0]] (fun i0 => .inl (by rw [(ha1 i0).1, (ha1 i0).2]; rfl)) lk hlk (fun _ => rfl)
      have rows1 := rowset lk n _ (by omega) hrow rA
      refine ⟨_, rfl, rfl, _, rfl, ?_⟩
      by_cases ci : i = 0
      · refine ifT (by rw [dec_int, ci]; rfl) ?_
        refine ⟨_, rfl, _, 9, eI x9, .inr (((iD.same s57).ls.kp k8 t8 (flatAll_map flat_int _) (by simp only [List.mem_singleton]; rintro z; exact nLD (by rw [z]))).im), rfl, e9, fun y hy => ?_⟩
        cases hy
        refine ⟨_, _, rfl, rfl, (by show (0 : Int) < 4; decide), rfl, _, rfl, ?_⟩
        by_cases c9 : x9 % 4 = 0
        · refine ifT (by rw [dec_int]; simp [c9]) ?_
          refine ⟨_, rfl, by show (2 : Nat) ≤ 1000; decide, _, .cons (.int _) (.cons (.int 0) .nil), fun p5 Ha sa fa ia => ⟨_, rfl, _, rfl, by show (3 : Nat) ≤ 1000; decide, _, .cons (.int _) (.cons (.int _) (.cons (.int 0) .nil)), fun p6 Hb sb fb ib => ?_⟩⟩
          refine ⟨by show (2 : Nat) ≤ 1000; decide, _, .cons (ia.same sb) (.cons ib .nil), fun p7 Hc sc fc ic => ?_⟩
          have ic : Im K Hc (.ref p7) (eWs [[(n : Int), 0], [(n : Int), ha, 0]]) := ic
          have sac := (sa.trans sb).trans sc
          refine ⟨_, rfl, _, rfl, _, _, rfl, rfl, pL, (lk.set (n - 1) [[(n : Int), ha, 0], [(n : Int), 0]]).map eWs, (n : Int) - 1, _, rfl, rfl, l8.same sac, ic, ?_, by omega, by rw [List.length_map, List.length_set]; omega, fun Hd cd => ?_⟩
          · rw [← List.map_set]; exact flatAll_map flat_Ws _
          rw [← List.map_set, hidx] at cd
          obtain ⟨kd, td, ld⟩ := cd
          refine ⟨_, _, _, _, rfl, (kp8.trans sac.kp).trans kd, (tk8.trans sac.tk).trans td, ld, by rw [List.length_set, List.length_set]; exact hlk, rowset _ n _ (by omega) rows1 rB, fstN [[(n : Int), 0], [(n : Int), ha, 0]] (fun i0 => .inr (by rw [(ha1 i0).1]; rfl)) _ (by rw [List.length_set]; exact hlk) (fun h => absurd ci h)⟩
        · exact ifF (by rw [dec_int]; simp [c9]) ⟨_, _, _, _, rfl, kp8, tk8, l8, by rw [List.length_set]; exact hlk, rows1, fin1⟩
      · exact ifF (by rw [dec_int, beq_eq_false_iff_ne]; omega) (ifF rfl ⟨_, _, _, _, rfl, kp8, tk8, l8, by rw [List.length_set]; exact hlk, rows1, fin1⟩)
    · obtain ⟨lk, y6, y9, y11, rfl, kp, tk, ls, hlk, hrow, hfst⟩ := pv
      have iH := (iH4.ls.kp kp tk (flatAll_map flat_int _) (by simp only [List.mem_singleton]; rintro z; exact nLH (by rw [z]))).im
      have iD := (iD4.ls.kp kp tk (flatAll_map flat_int _) (by simp only [List.mem_singleton]; rintro z; exact nLD (by rw [z]))).im
      have sH' : Same H H' := same_kp1 sH4 kp fL0
      -- what is left: the guild told
      have fin : ∀ (lk : List (List Way)) (H5 : Hp), Kp [pL] H' H5 → TK H' H5 → Ls K H5 pL (lk.map eWs) → lk.length = m - 1 → (∀ i r, lk[i]? = some r → RowOk m i r) → ∀ y6 y9 y11, tRet (tDispT K (tCons (tVar 4) (tCons (tCall (S__law_roads P w K) [] E0 (tCons (tVar 4) (tCons (tOp (rCatL K) (tVar 3) (tVar 3)) (tCons (tC (.int 6)) tNil)))) (tCons (tCB (rTupD K) (tCons (tVar 10) tNil)) tNil)))) { nx := fun _ H' => Q .non H', rt := Q } [some (.ref a), some (.int at_), some (.int 6), some (.ref pD), some (.int m), some (.ref Lf), y6, some (.ref pH), some (.int c), y9, some (.ref pL), y11] H5 := by
        intro lk H5 k5 t5 l5 hl5 hr5 y6 y9 y11
        have sH5 : Same H H5 := same_kp1 sH4 (kp.trans k5) fL0
        have iD5 := (iD.ls.kp k5 t5 (flatAll_map flat_int _) (by simp only [List.mem_singleton]; rintro z; exact nLD (by rw [z]))).im
        refine ⟨_, rfl, _, rfl, _, rfl, _, rfl, _, _, iD5, iD5, by rw [List.length_map]; omega, fun p6 H6 s6 f6 i6 => ?_⟩
        rw [← List.map_append] at i6
        refine ⟨m, 6, _, ds ++ ds, rfl, i6, by omega, m6, by rw [List.length_append]; omega, by decide, fun rs vr H7 hrs h6 s7 i7 => ?_⟩
        have hrs6 := h6 rfl
        subst hrs6
        have l7 := (l5.same s6).same s7
        refine ⟨_, rfl, _, _, rfl, .inr l7.im, fun v8 H8 s8 i8 => ⟨by show (3 : Nat) ≤ 1000; decide, _, .cons (.int _) (.cons (i7.same s8) (.cons i8 .nil)), fun p9 H9 s9 f9 i9 => ?_⟩⟩
        exact q ⟨m, Lk.pairsF m m, lk⟩ _ H9 ⟨by show 2 ≤ m; omega, m6, hrs, hl5, hr5⟩ ((((sH5.trans s6).trans s7).trans s8).trans s9) i9
      have d5 : (0 : Int) < 5 := by decide
      refine ⟨_, rfl, _, 9, eI x9, .inr iD, rfl, e9, fun y hy => ?_⟩
      cases hy
      refine ⟨_, _, rfl, rfl, d5, rfl, _, rfl, ?_⟩
      by_cases c9 : x9 % 5 = 1
      · refine ifT (by rw [dec_int]; simp [c9]) ?_
        refine ⟨_, rfl, _, _, rfl, rfl, _, rfl, _, _, rfl, rfl, _, rfl, ?_⟩
        by_cases cc : (c : Int) + 1 < (m : Int)
        · refine ifT (decide_eq_true cc) ?_
          obtain ⟨hcv, hhc⟩ : ∃ x, hs[c]? = some x := ⟨_, List.getElem?_eq_getElem (by omega)⟩
          have hmc := hmem hcv (List.mem_of_getElem? hhc)
          have nc0 : hcv ≠ h0 := uneq hhc hh0 (by omega)
          have nc1 : hcv ≠ h1 := uneq hhc hh1 (by omega)
          obtain ⟨u, t, hu, hu2⟩ := hfst (by omega)
          have gc : atI (hs.map eI) (c : Int) = some (eI hcv) := atI_map (atI_nn (by omega) (by rw [Int.toNat_natCast]; exact hhc))
          have g0 : atI (hs.map eI) 0 = some (eI h0) := atI_map (atI_nn (by decide) hh0)
          have g1' : atI (hs.map eI) 1 = some (eI h1) := atI_map (atI_nn (by decide) hh1)
          refine ⟨_, rfl, _, rfl, _, (c : Int), eI hcv, .inr iH, rfl, gc, fun y hy => ?_⟩
          cases hy
          refine ⟨by show (1 : Nat) ≤ 1000; decide, _, .cons (.int _) .nil, fun p5 H5 s5 f5 i5 => ?_⟩
          refine ⟨_, rfl, _, rfl, _, 0, eI h0, .inr (iH.same s5), rfl, g0, fun y hy => ?_⟩
          cases hy
          refine ⟨_, _, rfl, rfl, _, h0 - 1, eWs (u :: t), .inr (ls.same s5).im, rfl, atI_map (atI_nn (by omega) hu), fun y hy => ?_⟩
          refine ⟨_, 0, eW u, .inl hy, rfl, atI_map (f := eW) (atI_nn (by decide) rfl), fun y2 hy2 => ?_⟩
          refine ⟨_, _, i5, hy2, by rw [List.length_map]; rcases hu2 with e | e <;> rw [e] <;> simp, fun v6 H6 s6 i6 => ?_⟩
          have i6 : Im K H6 v6 (eW (hcv :: u)) := i6
          have s56 := s5.trans s6
          refine ⟨_, rfl, _, rfl, _, (c : Int), eI hcv, .inr (iH.same s56), rfl, gc, fun y hy => ?_⟩
          cases hy
          refine ⟨_, rfl, _, 1, eI h1, .inr (iH.same s56), rfl, g1', fun y hy => ?_⟩
          cases hy
          refine ⟨by show (3 : Nat) ≤ 1000; decide, _, .cons (.int _) (.cons (.int _) (.cons (.int 0) .nil)), fun p7 H7 s7 f7 i7 => ?_⟩
          refine ⟨by show (2 : Nat) ≤ 1000; decide, _, .cons (i6.same s7) (.cons i7 .nil), fun p8 H8 s8 f8 i8 => ?_⟩
          have i8 : Im K H8 (.ref p8) (eWs [hcv :: u, [hcv, h1, 0]]) := i8
          have s58 := (s56.trans s7).trans s8
          obtain ⟨n, rfl⟩ : ∃ n : Nat, hcv = (n : Int) := ⟨hcv.toNat, by omega⟩
          have hidx : ((n : Int) - 1).toNat = n - 1 := by omega
          have m4 : 4 ≤ m := by omega
          refine ⟨_, rfl, _, rfl, _, rfl, _, (c : Int), eI (n : Int), .inr (iH.same s58), rfl, gc, fun y hy => ?_⟩
          cases hy
          refine ⟨_, _, rfl, rfl, pL, lk.map eWs, (n : Int) - 1, _, rfl, rfl, ls.same s58, i8, ?_, by omega, by rw [List.length_map]; omega, fun H9 c9' => ?_⟩
          · rw [← List.map_set]; exact flatAll_map flat_Ws _
          rw [← List.map_set, hidx] at c9'
          obtain ⟨k9, t9, l9⟩ := c9'
          refine fin (lk.set (n - 1) [(n : Int) :: u, [(n : Int), h1, 0]]) H9 (s58.kp.trans k9) (s58.tk.trans t9) l9 (by rw [List.length_set]; exact hlk) (rowset lk n _ (by omega) hrow ⟨?_, by simp, fun z hz => ?_⟩) _ _ _
          · rcases hu2 with e | e <;> rw [e] <;> simp <;> omega
          · rw [show ((n - 1 + 1 : Nat) : Int) = (n : Int) by omega]
            simp only [List.mem_cons, List.not_mem_nil, or_false] at hz
            rcases hz with rfl | rfl
            · rcases hu2 with e | e
              · rw [e]; exact Lk.way4 (by omega) (by omega) hm0.1 hm0.2 hm1.1 hm1.2 nc0 nc1 n01
              · rw [e]; exact Lk.way3 (by omega) (by omega) hm0.1 hm0.2 nc0
            · exact Lk.way3 (by omega) (by omega) hm1.1 hm1.2 nc1
        · exact ifF (decide_eq_false cc) (fin lk H' Kp.refl TK.refl ls hlk hrow _ _ _)
      · exact ifF (by rw [dec_int]; simp [c9]) (ifF rfl (fin lk H' Kp.refl TK.refl ls hlk hrow _ _ _))
theorem sc__law_guild : FnScope ["script", "at", "most"] ["script", "at", "most"] (defScope s__law_guild) := ⟨rfl, rfl, rfl, by decide +kernel, rfl, by decide +kernel, by decide +kernel⟩
theorem w__law_guild (B : Bi mg) (D : Df K mg "_law_guild" s__law_guild) (h_law_draws : Has P w K mg base 2 "_law_draws" ["script", "k", "many", "base"] (S__law_draws P w K)) (h_law_gadget : Has P w K mg base 3 "_law_gadget" ["script", "at", "most"] (S__law_gadget P w K))
    (h_law_drawn : Has P w K mg base 3 "_law_drawn" ["script", "at", "most"] (S__law_drawn P w K)) : Has P w K mg base 4 "_law_guild" ["script", "at", "most"] (S__law_guild P w K) := by
  refine D.has sc__law_guild (fun vs H Q E h => ?_) (fun _ _ _ _ _ _ us hl => match us, hl with | [_, _, _], _ => rfl) (fun f cdv A outer s H vs Q E hr h => ?_)
  rotate_left
  have nd := sc__law_guild.nd
  have hu := hr.units
  have hu0 := hr.units0
  have hu1 := hu_of hr
  refine ⟨_, (pss_cons (ps_if (pt_cmpR op_eq (pe_op op_mod (pe_ix ix_D (pe_has h_law_draws hr (by decide) (pa_cons (pv 0) (pa_cons (pe_op op_add (pv 1) pe_int) (pa_cons pe_int (pa_cons pe_int pa_nil))))) pe_int (fun _ _ => rfl)) pe_int) pe_int (nomark _)) (pss_one (ps_ret (pe_has h_law_gadget hr (by decide) (pa_cons (pv 0) (pa_cons (pv 1) (pa_cons (pe_callB (call_maxI rfl) (by rfl) B.max (by decide +kernel) (pa_cons (pv 2) (pa_cons pe_int pa_nil))) pa_nil)))))) pss_nil) (pss_one (ps_ret (pe_has h_law_drawn hr (by decide) (pa_cons (pv 0) (pa_cons (pv 1) (pa_cons (pv 2) pa_nil))))))), ?_⟩
  rotate_left
  · obtain ⟨_, _, rfl, _⟩ := h
    rfl
  · obtain ⟨a, at_, rfl, hS, a0, a1, q⟩ := h
    refine ⟨_, rfl, _, rfl, _, _, rfl, rfl, a, at_ + 7, 1, rfl, hS, by omega, by omega, by decide, fun ds pD H1 hdl hds s1 f1 i1 => ?_⟩
    obtain ⟨x0, h0⟩ : ∃ d, ds[0]? = some d := ⟨_, List.getElem?_eq_getElem (by omega)⟩
    refine ⟨_, 0, eI x0, .inr i1, rfl, atI_map (atI_nn (by decide) h0), fun y hy => ?_⟩
    cases hy
    refine ⟨_, _, rfl, rfl, (by show (0 : Int) < 3; decide), rfl, _, rfl, ?_⟩
    by_cases c : x0 % 3 = 0
    · refine ifT (by rw [dec_int]; simp [c]) ⟨_, rfl, _, rfl, _, rfl, _, _, rfl, a, at_, ?_, hS.same s1, a0, by omega, fun g r H2 gp s2 i2 => q g r H2 gp (s1.trans s2) i2⟩
      rfl
    · exact ifF (by rw [dec_int]; simp [c]) ⟨_, rfl, _, rfl, _, rfl, a, at_, rfl, hS.same s1, a0, by omega, fun g r H2 gp s2 i2 => q g r H2 gp (s1.trans s2) i2⟩
end
end Lw
end
section
/-! The post made, its likings changed, at rest. -/
set_option autoImplicit false
namespace Lk
theorem find_congr {α : Type} {p q : α → Bool} : ∀ {l : List α}, (∀ x ∈ l, p x = q x) → l.find? p = l.find? q
  | [], _ => rfl
  | a :: l, h => by
    rw [List.find?_cons, List.find?_cons, h a List.mem_cons_self, find_congr fun x hx => h x (List.mem_cons_of_mem _ hx)]
/-- the letters at first -/
def freshOf (g : Gd) (os : List Int) : Ps := { ways := first g, heard := fun _ _ => [], lets := os.map fun o => (0, o, [0]) }
theorem fresh_inv {g : Gd} (k : g.Ok) {os : List Int} (nb : Nbs g 0 os) : PInv g (freshOf g os) (fun _ => False) := by
  have hlo := k.lo
  refine ⟨first_len (by omega), at_first 0, fun s r hs hr hj => ?_, fun h h1 h2 _ => ?_, fun l hl => ?_⟩
  · unfold chan freshOf
    simp only
    rw [filter_sends nb.nd]
    by_cases c : s = 0
    · subst c
      have hm : (r : Int) ∈ os := (nb.mem r).mpr ⟨hj, by omega, by omega⟩
      rw [if_pos ⟨rfl, hm⟩, at_first 0]
      rfl
    · rw [if_neg (fun q => c (by omega)), at_first, if_neg c]
      rfl
  · show at_ (first g) h = _
    rw [at_first, if_neg (by omega)]
    unfold best
    have : (g.row h).find? (hav (freshOf g os).heard h) = none := by
      rw [List.find?_eq_none]
      intro w hw
      obtain ⟨a, r, e⟩ := (k.way h h1 h2 w hw).shape
      unfold hav freshOf
      rw [e]
      simp
    rw [this]
    rfl
  · obtain ⟨o, ho, rfl⟩ := List.mem_map.mp hl
    have := (nb.mem o).mp ho
    exact ⟨this.1, Int.le_refl _, by show (0 : Int) < g.many; omega, this.2.1, this.2.2⟩
/-- another house's likings change -/
theorem like_inv {g g' : Gd} {p : Ps} {h : Nat} (I : PInv g p (fun _ => False)) (em : g'.many = g.many) (er : g'.roads = g.roads) (hrow : ∀ x : Nat, 1 ≤ x → x < g.many → x ≠ h → g'.row x = g.row x) : PInv g' p (fun x => x = (h : Int)) := by
  refine ⟨by rw [em]; exact I.len, I.hall, fun s r hs hr hj => I.last s r (by omega) (by omega) (by rw [← er]; exact hj), fun x h1 h2 hb => ?_, fun l hl => by rw [em, er]; exact I.lets l hl⟩
  rw [I.own x h1 (by omega) (fun z => z)]
  unfold best
  rw [hrow x h1 (by omega) (fun q => hb (by rw [q]))]
/-- no letters: each has heard what its neighbours have -/
theorem rest_heard {g : Gd} {p : Ps} (I : PInv g p (fun _ => False)) (e : p.lets = []) {s r : Nat} (hs : s < g.many) (hr : r < g.many) (hj : joined g.roads s r = true) : p.heard r s = at_ p.ways s := by
  have := I.last s r hs hr hj
  unfold chan at this
  rw [e] at this
  exact Option.some.inj this
theorem rest_choice {g : Gd} (k : g.Ok) {p : Ps} (I : PInv g p (fun _ => False)) (e : p.lets = []) {h : Nat} (h1 : 1 ≤ h) (h2 : h < g.many) : at_ p.ways h = choice g p.ways h := by
  rw [I.own h h1 h2 (fun z => z)]
  unfold best choice
  congr 1
  refine find_congr fun w hw => ?_
  have x := k.way h h1 h2 w hw
  obtain ⟨a, r, ew⟩ := x.shape
  obtain ⟨a0, a1⟩ := x.rng a (by rw [ew]; simp)
  have hj : joined g.roads h a = true := x.jn ((h : Int), a) (by rw [ew]; simp)
  have hh := rest_heard I e (s := a.toNat) (r := h) (by omega) h2 (by rw [show ((a.toNat : Nat) : Int) = a by omega, joined_comm]; exact hj)
  rw [show ((a.toNat : Nat) : Int) = a by omega] at hh
  unfold hav avail
  rw [ew]
  show decide (p.heard h a = a :: r) = decide (at_ p.ways a = a :: r)
  exact congrArg (fun z => decide (z = a :: r)) hh
theorem rest_stand {g : Gd} {p : Ps} (I : PInv g p (fun _ => False)) : Stand g p.ways := by
  refine ⟨I.len, I.hall, fun h h1 h2 => ?_⟩
  rw [I.own h h1 h2 (fun z => z)]
  unfold best
  cases e : (g.row h).find? (hav p.heard h) with
  | none => exact .inl rfl
  | some w => exact .inr (List.mem_of_find?_eq_some e)
theorem rest_grown {g : Gd} (k : g.Ok) {o : List Way} (io : IsOrd g o) {p : Ps} (I : PInv g p (fun _ => False)) (e : p.lets = []) : grown g o = p.ways :=
  grown_eq k io (rest_stand I) fun _ h1 h2 => rest_choice k I e h1 h2
/-! ### how much is left to read -/
theorem weight_le {g : Gd} (k : g.Ok) {o : List Way} (io : IsOrd g o) {p : Ps} {B : Nat} (h : p.lets.length ≤ B) : weight o p ≤ B * 8 * 512 + B := by
  have hol : o.length ≤ 9 := Nat.le_trans (io.nd.length_le_of_subset fun w hw => (io.all w).mp hw) k.tot
  have := mu_bound (k := 8) (L := p.lets.length) (B := B) (A := turns p) o fun w _ => by
    unfold turns
    refine Nat.le_trans (flips_le _ _) ?_
    unfold chan
    rw [List.length_cons, List.length_map]
    have := List.length_filter_le (onCh (w.getD 1 0) (w.headD 0)) p.lets
    omega
  have h2 : B * 8 * 2 ^ o.length ≤ B * 8 * 2 ^ 9 := Nat.mul_le_mul_left _ (Nat.pow_le_pow_right (by decide) hol)
  unfold weight
  omega
theorem lets_le_weight {o : List Way} {p : Ps} : p.lets.length ≤ weight o p := le_mu o
theorem choose_lets {g : Gd} {os : List Int} {p : Ps} {h : Int} : (choose g os p h).lets.length ≤ p.lets.length + os.length := by
  unfold choose
  split
  · omega
  · split
    · omega
    · show (p.lets ++ os.map _).length ≤ _
      rw [List.length_append, List.length_map]
      omega
theorem deliver_lets {g : Gd} {os : List Int} {p : Ps} {l1 l2 : List Let} {l : Let} (e : p.lets = l1 ++ l :: l2) : (deliver g os p l1 l2 l).lets.length ≤ p.lets.length + os.length := by
  unfold deliver
  refine Nat.le_trans choose_lets ?_
  have : (taken p l1 l2 l).lets.length ≤ p.lets.length := by
    show (l1 ++ l2).length ≤ _
    rw [e]
    simp
  omega
/-! ### a guild on its way to another one -/
theorem flatten_le {α : Type} : ∀ {l1 l2 : List (List α)}, l1.length = l2.length → (∀ (i : Nat) (a b : List α), l1[i]? = some a → l2[i]? = some b → a.length ≤ b.length) → l1.flatten.length ≤ l2.flatten.length
  | [], [], _, _ => Nat.le_refl _
  | [], _ :: _, h, _ => by simp at h
  | _ :: _, [], h, _ => by simp at h
  | a :: l1, b :: l2, h, hh => by
    rw [List.flatten_cons, List.flatten_cons, List.length_append, List.length_append]
    have h1 := hh 0 a b rfl rfl
    have h2 := flatten_le (l1 := l1) (l2 := l2) (by simpa using h) fun i x y hx hy => hh (i + 1) x y (by simpa using hx) (by simpa using hy)
    omega
/-- so many houses of hs have the likes of l -/
structure Mid (g l : Gd) (hs : List Int) (k : Nat) (x : Gd) : Prop where
  many : x.many = g.many
  roads : x.roads = g.roads
  len : x.likes.length = g.many - 1
  at_ : ∀ i, i < g.many - 1 → x.likes[i]? = if ((i + 1 : Nat) : Int) ∈ hs.take k then l.likes[i]? else g.likes[i]?
theorem Mid.zero {g l : Gd} (ok : g.Ok) {hs : List Int} : Mid g l hs 0 g := ⟨rfl, rfl, ok.len, fun i _ => by simp⟩
theorem Mid.ok {g l x : Gd} {hs : List Int} {k : Nat} (ok : g.Ok) (okl : l.Ok) (em : l.many = g.many) (er : l.roads = g.roads) (hle : ∀ (i : Nat) (a b : List Way), l.likes[i]? = some a → g.likes[i]? = some b → a.length ≤ b.length) (m : Mid g l hs k x) : x.Ok := by
  have hlg := ok.len
  have hll := okl.len
  have row : ∀ h : Nat, 1 ≤ h → h < g.many → x.row h = l.row h ∨ x.row h = g.row h := fun h h1 h2 => by
    have e : ((h : Int) - 1).toNat = h - 1 := by omega
    unfold Gd.row
    rw [e, List.getD_eq_getElem?_getD, List.getD_eq_getElem?_getD, List.getD_eq_getElem?_getD, m.at_ (h - 1) (by omega)]
    split
    · exact .inl rfl
    · exact .inr rfl
  refine ⟨by rw [m.many]; exact ok.lo, by rw [m.many]; exact ok.hi, fun p hp => ?_, by rw [m.roads]; exact ok.ris, by rw [m.len, m.many], fun h h1 h2 => ?_, fun h h1 h2 => ?_, fun h h1 h2 u hu => ?_, ?_⟩
  · rw [m.roads] at hp; rw [m.many]; exact ok.rds p hp
  · rw [m.many] at h2
    rcases row h h1 h2 with e | e <;> rw [e]
    · exact okl.rnd h h1 (by omega)
    · exact ok.rnd h h1 h2
  · rw [m.many] at h2
    rcases row h h1 h2 with e | e <;> rw [e]
    · exact okl.rlen h h1 (by omega)
    · exact ok.rlen h h1 h2
  · rw [m.many] at h2
    rw [m.many, m.roads]
    rcases row h h1 h2 with e | e <;> rw [e] at hu
    · have := okl.way h h1 (by omega) u hu
      rwa [em, er] at this
    · exact ok.way h h1 h2 u hu
  · refine Nat.le_trans (flatten_le (by rw [m.len, hlg]) fun i a b ha hb => ?_) ok.tot
    have hi := (List.getElem?_eq_some_iff.mp ha).1
    rw [m.len] at hi
    rw [m.at_ i hi] at ha
    split at ha
    · exact hle i a b ha hb
    · rw [hb] at ha; cases ha; exact Nat.le_refl _
theorem Mid.done {g l x : Gd} {hs : List Int} {k : Nat} (okl : l.Ok) (em : l.many = g.many) (er : l.roads = g.roads) (m : Mid g l hs k x) (hk : ∀ h : Nat, 1 ≤ h → h < g.many → (h : Int) ∈ hs.take k) : x = l := by
  have hll := okl.len
  have e : x.likes = l.likes := by
    refine List.ext_getElem? fun i => ?_
    by_cases hi : i < g.many - 1
    · rw [m.at_ i hi, if_pos (hk (i + 1) (by omega) (by omega))]
    · rw [List.getElem?_eq_none (by rw [m.len]; omega), List.getElem?_eq_none (by omega)]
  obtain ⟨xm, xr, xl⟩ := x
  obtain ⟨lm, lr, ll⟩ := l
  have h1 : xm = lm := m.many.trans em.symm
  have h2 : xr = lr := m.roads.trans er.symm
  have h3 : xl = ll := e
  subst h1 h2 h3
  rfl
end Lk
end
section
set_option Elab.async false
set_option linter.all false
set_option maxRecDepth 100000
set_option maxHeartbeats 2000000
/-! Letters read until none is left. -/
namespace Lw
open PySem PySem.Spec PyProof.Rows L2
open Lk (Way Gd IsWay ltP Ps Let Nbs IsOrd PInv weight)
section
variable {K : PySem.W.Frag} {H H' : Hp} {b C dx : Addr} {fs : List (Str × V)}
mutual
theorem Im.kpi (hb : H b = some (.ins C dx fs)) (k : Kp [b] H H') : ∀ {v : V} {d : PyData}, Im K H v d → Im K H' v d
  | _, _, .non => .non
  | _, _, .bl b => .bl b
  | _, _, .int i => .int i
  | _, _, .str x => .str x
  | _, _, .lst h t => .lst (k _ _ (fun c => by rw [List.mem_singleton.mp c, hb] at h; cases h) h) (ImAll.kpi hb k t)
  | _, _, .tup h d t => .tup (k _ _ (fun c => by rw [List.mem_singleton.mp c, hb] at h; cases h) h) d (ImAll.kpi hb k t)
  | _, _, .tupK o n h1 h2 h3 h4 => .tupK o n h1 h2 h3 h4
theorem ImAll.kpi (hb : H b = some (.ins C dx fs)) (k : Kp [b] H H') : ∀ {vs : List V} {ds : List PyData}, ImAll K H vs ds → ImAll K H' vs ds
  | _, _, .nil => .nil
  | _, _, .cons h t => .cons (Im.kpi hb k h) (ImAll.kpi hb k t)
end
end
section
variable {P : Program} {w : World} {K : PySem.W.Frag} {mg : Str → Option Value} {base : Heap} {CP : Addr}
theorem sc__law_emptied : FnScope ["post", "draws", "at", "waiting", "here", "sender", "reader", "ways"] ["post", "draws"] (defScope s__law_emptied) := ⟨rfl, rfl, rfl, by decide +kernel, rfl, by decide +kernel, by decide +kernel⟩
def S__law_emptied (P : Program) (w : World) (K : PySem.W.Frag) (C : Addr) : Sp := fun vs H Q _ => ∃ a vd ds g A p n o, vs = [.ref a, vd] ∧ Im K H vd (eL eI ds) ∧ 0 < ds.length ∧ ds.length ≤ 1000 ∧ PostB P w K C H g a A p n ∧ g.Ok ∧ IsOrd g o ∧ PInv g p (fun _ => False) ∧ weight o p ≤ 999000 ∧ weight o p + n < 1000000 ∧
  ∀ H' A' p' n', Kp [a] H H' → TK H H' → PostB P w K C H' g a A' p' n' → PInv g p' (fun _ => False) → p'.lets = [] → Q .non H'
theorem w__law_emptied (B : Bi mg) (Cc : Cl K mg CP) (D : Df K mg "_law_emptied" s__law_emptied) (h_waiting : PHas P w K mg base 2 CP "waiting" ["self"] (S_P_waiting P w K CP)) (h_read : PHas P w K mg base 5 CP "read" ["self", "sender", "reader"] (S_P_read P w K CP))
    (h_len : PHas P w K mg base 1 CP "__len__" ["self"] (S_P_len P w K CP)) : Has P w K mg base 6 "_law_emptied" ["post", "draws"] (S__law_emptied P w K CP) := by
  have cP := Cc.cls
  obtain ⟨fL, fdL, hmL, hbL, FL⟩ := h_len
  refine D.has sc__law_emptied (fun vs H Q E h => ?_) (fun _ _ _ _ _ _ us hl => match us, hl with | [_, _], _ => rfl) (fun f cdv A outer s H vs Q E hr h => ?_)
  rotate_left
  have nd := sc__law_emptied.nd
  have hu := hr.units
  have hu0 := hr.units0
  have hu1 := hu_of hr
  refine ⟨_, (pss_cons (ps_set (i := 2) nd rfl (Or.inl rfl) pe_int) (pss_one (ps_while (passes_of rfl) (pt_cmpR op_gt (pe_callB (call_lenOwn FL hmL.at_ hmL.fn hbL pass0 (hr.mono (by decide))) (by rfl) B.len (by decide +kernel) (pa_cons (pv 0) pa_nil)) pe_int (nomark _)) (pss_cons (ps_set (i := 3) nd rfl (Or.inl rfl) (pe_own0 h_waiting cP hr (by decide) (pv 0))) (pss_cons (ps_set (i := 4) nd rfl (Or.inl rfl) (pe_op op_mod (pe_op op_add (pe_ix ix_D (pv 1) (pe_op op_mod (pv 2) (pe_callB call_lenD (by rfl) B.len (by decide +kernel) (pa_cons (pv 1) pa_nil))) (fun _ _ => rfl)) (pv 2)) (pe_callB call_lenD (by rfl) B.len (by decide +kernel) (pa_cons (pv 3) pa_nil)))) (pss_cons (ps_asg (pe_ix ix_D (pv 3) (pv 4) (fun _ _ => rfl)) (pg_tup (by rfl) (pgs_cons (pg_name (i := 5) nd rfl (Or.inl rfl)) (pgs_cons (pg_name (i := 6) nd rfl (Or.inl rfl)) (pgs_cons (pg_name (i := 7) nd rfl (Or.inl rfl)) pgs_nil))))) (pss_cons (ps_expr (pe_own h_read cP hr (by decide) (pv 0) (pa_cons (pv 5) (pa_cons (pv 6) pa_nil)))) (pss_one (ps_set (i := 2) nd rfl (Or.inl rfl) (pe_op op_add (pv 2) pe_int)))))))))), ?_⟩
  rotate_left
  · obtain ⟨_, _, _, _, _, _, _, _, rfl, _⟩ := h
    rfl
  · obtain ⟨a, vd, ds, g, A, p, n, o, rfl, hd, hd0, hd1, pb, ok, io, inv, hw, hwn, q⟩ := h
    refine ⟨fun m σ' H' => ∃ A' p' n', ∃ t : Nat, ∃ y3 y4 y5 y6 y7, σ' = [some (.ref a), some vd, some (.int t), y3, y4, y5, y6, y7] ∧ Kp [a] H H' ∧ TK H H' ∧ PostB P w K CP H' g a A' p' n' ∧ PInv g p' (fun _ => False) ∧ weight o p' = m ∧ m ≤ weight o p ∧ m + n' ≤ weight o p + n,
      ⟨_, A, p, n, 0, _, _, _, _, _, rfl, Kp.refl, TK.refl, pb, inv, rfl, Nat.le_refl _, Nat.le_refl _⟩, ?_⟩
    rintro m σ' H' ⟨A', p', n', t, y3, y4, y5, y6, y7, rfl, kp, tk, pb', inv', rfl, hm, hmn⟩
    obtain ⟨dx, vr, pa, vu, vg, vd', xs, hI, hvr, hpa, hxs⟩ := pb'.ins
    have hpl := Lk.lets_le_weight (o := o) (p := p')
    have hd' : Im K H' vd (eL eI ds) := by
      obtain ⟨dx0, _, _, _, _, _, _, hI0, _⟩ := pb.ins
      exact hd.kpi hI0 kp
    refine ⟨_, rfl, a, dx, _, rfl, hI, a, g, A', p', n', rfl, pb', _, rfl, by omega, _, _, rfl, rfl, _, rfl, ?_⟩
    by_cases c0 : p'.lets = []
    · refine ifF (by rw [c0]; rfl) (q H' A' p' n' kp tk pb' inv' c0)
    refine ifT (decide_eq_true (by have := List.length_pos_iff.mpr c0; omega)) ⟨fun σ' H' => ∃ m', m' < weight o p' ∧ ∃ A' p' n', ∃ t : Nat, ∃ y3 y4 y5 y6 y7, σ' = [some (.ref a), some vd, some (.int t), y3, y4, y5, y6, y7] ∧ Kp [a] H H' ∧ TK H H' ∧ PostB P w K CP H' g a A' p' n' ∧ PInv g p' (fun _ => False) ∧ weight o p' = m' ∧ m' ≤ weight o p ∧ m' + n' ≤ weight o p + n, fun _ _ h => h, ?_⟩
    refine ⟨_, rfl, a, dx, _, rfl, hI, rfl, a, g, A', p', n', rfl, pb', by omega, fun ws b H1 gr s1 f1 i1 => ?_⟩
    have hws := gr.ne c0
    have wl : (0 : Int) < ws.length := by have := List.length_pos_iff.mpr hws; omega
    have hd1' := hd'.same s1
    have dl : (0 : Int) < ds.length := by omega
    have t0 := Int.emod_nonneg (t : Int) (show (ds.length : Int) ≠ 0 by omega)
    have t1 := Int.emod_lt_of_pos (t : Int) dl
    obtain ⟨x, hx⟩ : ∃ x, ds[((t : Int) % (ds.length : Int)).toNat]? = some x := ⟨_, List.getElem?_eq_getElem (by omega)⟩
    refine ⟨_, rfl, _, rfl, _, rfl, _, _, rfl, .inr hd1', _, (ds.length : Int), rfl, by rw [List.length_map], dl, _, (t : Int) % (ds.length : Int), eI x, .inr hd1', rfl, atI_map (atI_nn t0 hx), fun y hy => ?_⟩
    cases hy
    refine ⟨_, rfl, _, _, rfl, rfl, _, rfl, _, _, rfl, .inr i1, _, (ws.length : Int), rfl, by rw [List.length_map], wl, ?_⟩
    have u0 := Int.emod_nonneg (x + (t : Int)) (show (ws.length : Int) ≠ 0 by omega)
    have u1 := Int.emod_lt_of_pos (x + (t : Int)) wl
    obtain ⟨z, hz⟩ : ∃ z, ws[((x + (t : Int)) % (ws.length : Int)).toNat]? = some z := ⟨_, List.getElem?_eq_getElem (by omega)⟩
    refine ⟨_, rfl, _, rfl, _, (x + (t : Int)) % (ws.length : Int), eGr z, .inr i1, rfl, atI_map (atI_nn u0 hz), fun y hy => ?_⟩
    obtain ⟨zs, zr, zw⟩ := z
    obtain ⟨T, us, rfl, hq, him⟩ := hy.tup_inv
    obtain ⟨x1, r1, rfl, j1, him⟩ := ImAll.uncons him
    obtain ⟨x2, r2, rfl, j2, him⟩ := ImAll.uncons him
    obtain ⟨x3, r3, rfl, j3, him⟩ := ImAll.uncons him
    cases him
    cases j1
    cases j2
    have pb1 := pb'.same s1
    refine ⟨T, _, rfl, hq, rfl, _, _, rfl, _, _, rfl, _, _, rfl, rfl, ?_⟩
    obtain ⟨l0, hl0, e1, e2⟩ := gr.mem _ (List.mem_of_getElem? hz)
    refine ⟨_, rfl, a, dx, _, rfl, s1 _ _ hI, rfl, _, rfl, _, rfl, a, g, A', p', n', zs, zr, rfl, ok, pb1, inv', ⟨l0, hl0, e1, e2⟩, by omega, by omega, fun v H2 A2 l1 l l2 hsp hpre k2 t2 pb2 => ?_⟩
    have hl := inv'.lets l (by rw [hsp]; simp)
    have nb := osF_nbs ok (h := l.2.1) hl.2.2.2.1 hl.2.2.2.2
    have wt := Lk.deliver_weight ok io nb inv' hsp hpre
    refine ⟨_, rfl, _, _, rfl, rfl, _, wt, A2, _, _, t + 1, _, _, _, _, _, rfl, (kp.trans s1.kp).trans k2, (tk.trans s1.tk).trans t2, pb2, Lk.deliver_inv nb inv' hsp hpre, rfl, by omega, by omega⟩
end
end Lw
end
section
set_option Elab.async false
set_option linter.all false
set_option maxRecDepth 100000
set_option maxHeartbeats 4000000
/-! The law. -/
namespace Lw
open PySem PySem.Spec PyProof.Rows L2
open Lk (Way Gd IsWay ltP Ps Let Nbs IsOrd PInv weight housesF)
theorem mid_like {g l x : Gd} {hs : List Int} {k h : Nat} (m : Lk.Mid g l hs k x) (okl : l.Ok) (em : l.many = g.many) (hk : hs[k]? = some (h : Int)) (h1 : 1 ≤ h) (h2 : h < g.many) : Lk.Mid g l hs (k + 1) (likeG x h (l.row h)) := by
  have hll := okl.len
  have hml := m.len
  refine ⟨m.many, m.roads, by show (x.likes.set _ _).length = _; rw [List.length_set]; exact hml, fun i hi => ?_⟩
  show (x.likes.set (h - 1) (l.row h))[i]? = _
  rw [take_snoc hk, List.getElem?_set]
  by_cases c : h - 1 = i
  · subst c
    have e : ((h - 1 + 1 : Nat) : Int) = (h : Int) := by omega
    rw [if_pos rfl, if_pos (by omega), if_pos (by rw [e]; simp)]
    unfold Lk.Gd.row
    rw [show ((h : Int) - 1).toNat = h - 1 by omega, List.getD_eq_getElem?_getD, List.getElem?_eq_getElem (by omega)]
    rfl
  · rw [if_neg c, m.at_ i hi]
    have e : (((i + 1 : Nat) : Int) ∈ hs.take k ++ [(h : Int)]) ↔ ((i + 1 : Nat) : Int) ∈ hs.take k := by
      rw [List.mem_append, List.mem_singleton]
      exact ⟨fun z => z.resolve_right fun q => c (by omega), .inl⟩
    by_cases d : ((i + 1 : Nat) : Int) ∈ hs.take k
    · rw [if_pos d, if_pos (e.mpr d)]
    · rw [if_neg d, if_neg (fun z => d (e.mp z))]
theorem dropG_le {g : Gd} {ws : List Way} (i : Nat) (a b : List Way) (ha : (dropG g ws).likes[i]? = some a) (hb : g.likes[i]? = some b) : a.length ≤ b.length := by
  unfold dropG at ha
  simp only [List.getElem?_map, hb, Option.map_some, Option.some.injEq] at ha
  rw [← ha]
  exact List.length_filter_le _ _
section
variable {P : Program} {w : World} {K : PySem.W.Frag} {mg : Str → Option Value} {base : Heap} {CP : Addr}
/-- the def of the law itself -/
def DfL (K : PySem.W.Frag) (x : Str) (st : Stmt) (f : Addr) (fd : FuncData) : Prop := FunD K x x (defArgs st) (defBody st) (defScope st) [] [] f fd
theorem DfL.has {f : Addr} {fd : FuncData} {x : Str} {st : Stmt} {N ps : List Str} {k : Nat} {sp : Sp} (F : DfL K x st f fd) (S : FnScope N ps (defScope st)) (len : ∀ vs H Q E, sp vs H Q E → vs.length = ps.length)
    (hb : ∀ (kV doc pm : Value) (an : Option Addr) (cdv ct : Value) (us : List Value), us.length = ps.length → bindArgs (PySem.W.fnOf x x (defArgs st) (defBody st) (defScope st) .none kV doc pm an cdv ct) ⟨us, []⟩ = pure (ps.zip us))
    (body : ∀ (f : Addr) (cdv : Value) (A : Around) (outer : List Env) (s : Shared) (H : Hp) (vs : List V) (Q : VK) (E : XK), Room k (A.deeper (envOfC x (defScope st) s.heap.objs.size f cdv)) → sp vs H Q E →
      ∃ t, PSs (cxOf CX0 P w K mg base N x (defScope st) f cdv A outer s H E) (defBody st) t ∧ t { nx := fun _ H' => Q .non H', rt := Q } (start N vs) H) : FnOk P w K mg base CX0 (k + 1) f fd ps sp :=
  FunD.ok F S len (body f)
theorem sc_law : FnScope ["script", "guild", "draws", "ways", "rings", "left", "post", "other", "houses", "k", "house", "draw", "waiting", "sender", "reader", "some", "ring", "pair"] ["script"] (defScope s_law) := ⟨rfl, rfl, rfl, by decide +kernel, rfl, by decide +kernel, by decide +kernel⟩
def S_law (P : Program) (w : World) (K : PySem.W.Frag) : Sp := fun vs H Q _ => ∃ a, vs = [.ref a] ∧ Scr K H a ∧ ∀ H', Q (.bl true) H'
theorem w_law (B : Bi mg) (Cc : Cl K mg CP) {kv kb : V} (hkv : ∀ H, Im K H kv (.tuple [])) (hkb : ∀ H, Im K H kb (.tuple [])) {f0 : Addr} {fd0 : FuncData} (D : DfL K "law" s_law f0 fd0)
    (h_law_few : Has P w K mg base 5 "_law_few" ["script", "at", "most"] (S__law_few P w K)) (h_law_draws : Has P w K mg base 2 "_law_draws" ["script", "k", "many", "base"] (S__law_draws P w K)) (hleast_drop : HasD P w K mg base 6 "least_drop" ["guild", "kept"] [kv] (S_least_drop P w K))
    (hdropped : Has P w K mg base 1 "dropped" ["guild", "ways"] (S_dropped P w K)) (h_init : HasI P w K mg base 5 CP ["self", "guild", "broken"] [kb] (S_P_init P w K CP)) (h_waiting : PHas P w K mg base 2 CP "waiting" ["self"] (S_P_waiting P w K CP)) (h_read : PHas P w K mg base 5 CP "read" ["self", "sender", "reader"] (S_P_read P w K CP))
    (h_like : PHas P w K mg base 4 CP "like" ["self", "house", "ways"] (S_P_like P w K CP)) (h_stand : PHas P w K mg base 1 CP "stand" ["self"] (S_P_stand P w K CP)) (h_eq : PHas P w K mg base 2 CP "__eq__" ["self", "other"] (spEq (Alike P w K CP))) (h_law_emptied : Has P w K mg base 6 "_law_emptied" ["post", "draws"] (S__law_emptied P w K CP))
    (hgrown : Has P w K mg base 5 "grown" ["guild"] (S_grown P w K)) (hverdict : HasD P w K mg base 6 "verdict" ["guild", "most"] [.int 1000] (S_verdict P w K)) : FnOk P w K mg base CX0 7 f0 fd0 ["script"] (S_law P w K) := by
  have cP := Cc.cls
  obtain ⟨fE, fdE, hmE, hbE, FE⟩ := h_eq
  refine D.has sc_law (fun vs H Q E h => ?_) (fun _ _ _ _ _ _ us hl => match us, hl with | [_], _ => rfl) (fun f cdv A outer s H vs Q E hr h => ?_)
  rotate_left
  have nd := sc_law.nd
  have hu := hr.units
  have hu0 := hr.units0
  have hu1 := hu_of hr
  refine ⟨_, (pss_cons (ps_set (i := 1) nd rfl (Or.inl rfl) (pe_has h_law_few hr (by decide) (pa_cons (pv 0) (pa_cons pe_int (pa_cons pe_int pa_nil))))) (pss_cons (ps_set (i := 2) nd rfl (Or.inr rfl) (pe_has h_law_draws hr (by decide) (pa_cons (pv 0) (pa_cons pe_int (pa_cons pe_int (pa_cons pe_int pa_nil)))))) (pss_cons (ps_asg (pe_hasD hleast_drop hr (by decide) (pa_cons (pv 1) pa_nil)) (pg_tup (by rfl) (pgs_cons (pg_name (i := 3) nd rfl (Or.inr rfl)) (pgs_cons (pg_name (i := 4) nd rfl (Or.inl rfl)) pgs_nil)))) (pss_cons (ps_set (i := 5) nd rfl (Or.inl rfl) (pe_has hdropped hr (by decide) (pa_cons (pv 1) (pa_cons (pv 3) pa_nil)))) (pss_cons (ps_par (by rfl) nd (i := 6) (j := 7) rfl rfl (by decide) rfl rfl (pa_cons (pe_post h_init hr (by decide) (pa_cons (pv 1) pa_nil)) (pa_cons (pe_post h_init hr (by decide) (pa_cons (pv 5) pa_nil)) pa_nil)) (by rfl)) (pss_cons (ps_set (i := 8) nd rfl (Or.inr rfl) (pe_listRg rfl (by rfl) B.list (prg_2 (by rfl) B.range pe_int (pe_ix ix_D (pv 1) pe_int (fun _ _ => rfl))))) (pss_cons (ps_set (i := 8) nd rfl (Or.inr rfl) (pe_lc (g := (gName 9)) (tt := tYes) (te := (tBM K "list" (rPopAtD K) (tVar 8) (tCons (tOp (rI (fun _ j => 0 < j) fun i j => .int (i % j)) (tOp (rIxD K) (tVar 2) (tVar 9)) (tCB (rLenD K) (tCons (tVar 8) tNil))) tNil))) rfl nd (pi_range1 (by rfl) B.range (pa_cons (pe_op op_sub (pe_ix ix_D (pv 1) pe_int (fun _ _ => rfl)) pe_int) pa_nil)) (blkOk_by (own := [("k", 9)]) (by rfl)) (fun _ _ _ _ _ => (pg_name (i := 9) nd rfl (Or.inl rfl))) (fun _ _ _ _ _ => pts_nil) (fun _ _ _ _ _ => (pe_bm PySem.F.plainAttrs_list PySem.F.slot_list_pop PySem.F.type_list_pop mt_popAtD (pv 8) (pa_cons (pe_op op_mod (pe_ix ix_D (pv 2) (pv 9) (fun _ _ => rfl)) (pe_callB call_lenD (by rfl) B.len (by decide +kernel) (pa_cons (pv 8) pa_nil))) pa_nil))))) (pss_cons (ps_for (passes_of rfl) rfl (pi_enumA (by rfl) B.enumerate (pa_cons (pv 8) pa_nil)) (pg_tup (by rfl) (pgs_cons (pg_name (i := 9) nd rfl (Or.inl rfl)) (pgs_cons (pg_name (i := 10) nd rfl (Or.inl rfl)) pgs_nil))) (pss_cons (ps_for (passes_of rfl) rfl (pi_seq (pe_slice sl_D (pv 2) (po_some (pe_op op_mulW pe_int (pv 9))) (po_some (pe_op op_add (pe_op op_mulW pe_int (pv 9)) (pe_op op_mod (pe_ix ix_D (pv 2) (pe_op op_add pe_int (pv 9)) (fun _ _ => rfl)) pe_int))))) (pg_name (i := 11) nd rfl (Or.inl rfl)) (pss_cons (ps_set (i := 12) nd rfl (Or.inl rfl) (pe_own0 h_waiting cP hr (by decide) (pv 6))) (pss_one (ps_if (pt_cmpR (op_neE hu) (pv 12) (pe_lstD pa_nil) (nomark _)) (pss_cons (ps_asg (pe_ix ix_D (pv 12) (pe_op op_mod (pv 11) (pe_callB call_lenD (by rfl) B.len (by decide +kernel) (pa_cons (pv 12) pa_nil))) (fun _ _ => rfl)) (pg_tup (by rfl) (pgs_cons (pg_name (i := 13) nd rfl (Or.inl rfl)) (pgs_cons (pg_name (i := 14) nd rfl (Or.inl rfl)) (pgs_cons (pg_name (i := 15) nd rfl (Or.inl rfl)) pgs_nil))))) (pss_one (ps_expr (pe_own h_read cP hr (by decide) (pv 6) (pa_cons (pv 13) (pa_cons (pv 14) pa_nil)))))) pss_nil)))) (pss_one (ps_expr (pe_own h_like cP hr (by decide) (pv 6) (pa_cons (pv 10) (pa_cons (pe_ix ix_D (pe_ix ix_D (pv 5) pe_int (fun _ _ => rfl)) (pe_op op_sub (pv 10) pe_int) (fun _ _ => rfl)) pa_nil))))))) (pss_cons (ps_expr (pe_has h_law_emptied hr (by decide) (pa_cons (pv 6) (pa_cons (pv 2) pa_nil)))) (pss_cons (ps_expr (pe_has h_law_emptied hr (by decide) (pa_cons (pv 7) (pa_cons (pe_revL (pv 2)) pa_nil)))) (pss_cons (ps_if (PW.pt (pw_or (pt_cmpR (op_neE hu) (pe_own0 h_stand cP hr (by decide) (pv 6)) (pe_has hgrown hr (by decide) (pa_cons (pv 5) pa_nil)) (nomark _)) (pw_or (pt_not (pt_cmpR (op_eqG (rcG_ins FE hmE.at_ hmE.fn hbE pass0) (hr.mono (by decide))) (pv 6) (pv 7) (nomark _))) (pw_or1 (pt_cmpR op_ne (pe_ix ix_D (pe_hasD hverdict hr (by decide) (pa_cons (pv 5) pa_nil)) pe_int (fun _ _ => rfl)) pe_str (nomark _)))))) (pss_one (ps_ret pe_bl)) pss_nil) (pss_cons (ps_for (passes_of rfl) rfl (pi_seq (pv 4)) (pg_name (i := 16) nd rfl (Or.inl rfl)) (pss_one (ps_if (pt_cmpR (op_eqE hu) (pe_lc (g := (gName 17)) (tt := (tOr (tTest (tOp (rInE false K) (tOp (rIxD K) (tVar 17) (tC (.int 0))) (tVar 3))) (tTest (tOp (rInE false K) (tOp (rIxD K) (tVar 17) (tC (.int 1))) (tVar 3))))) (te := (tVar 17)) rfl nd (pi_seq (pv 16)) (blkOk_by (own := [("pair", 17)]) (by rfl)) (fun _ _ _ _ _ => (pg_name (i := 17) nd rfl (Or.inl rfl))) (fun _ _ _ _ _ => (pts_one (PW.pt (pw_or (pt_cmpR (op_inE hu) (pe_ix ix_D (pv 17) pe_int (fun _ _ => rfl)) (pv 3) (by rfl)) (pw_or1 (pt_cmpR (op_inE hu) (pe_ix ix_D (pv 17) pe_int (fun _ _ => rfl)) (pv 3) (by rfl))))))) (fun _ _ _ _ _ => (pv 17))) (pe_lstD pa_nil) (nomark _)) (pss_one (ps_ret pe_bl)) pss_nil))) (pss_one (ps_ret pe_bl)))))))))))))), ?_⟩
  rotate_left
  · obtain ⟨_, rfl, _⟩ := h
    rfl
  · obtain ⟨a, rfl, hS, q⟩ := h
    refine ⟨_, rfl, a, 0, rfl, hS, by decide, by decide, fun g vg H1 ok s1 i1 => ?_⟩
    refine ⟨_, rfl, a, 9, 60, rfl, hS.same s1, by decide, by decide, by decide, fun ds pD H2 hdl hds s2 f2 i2 => ?_⟩
    have ig2 := i1.same s2
    refine ⟨_, rfl, vg, kv, g, rfl, ig2, hkv H2, ok, fun wp rs r H3 L s3 i3 => ?_⟩
    obtain ⟨T, us, rfl, hq, him⟩ := i3.tup_inv
    obtain ⟨vw, r1, rfl, iw3, him⟩ := ImAll.uncons him
    obtain ⟨vr, r2, rfl, ir3, him⟩ := ImAll.uncons him
    cases him
    refine ⟨T, _, rfl, hq, rfl, _, _, rfl, _, _, rfl, rfl, ?_⟩
    have ig3 := ig2.same s3
    refine ⟨_, rfl, _, rfl, vg, vw, g, wp, rfl, ig3, iw3, ⟨ok, by have := L.len; omega⟩, fun vl H4 s4 il4 => ?_⟩
    have okl := dropG_ok ok wp
    obtain ⟨o, io⟩ := L.ord
    have ig4 := ig3.same s4
    have iw4 := iw3.same s4
    have ir4 := ir3.same s4
    have id4 := (i2.same s3).same s4
    refine ⟨_, rfl, fun pa da fpa fda na => ?_⟩
    have s5 : Same H4 (upd (upd H4 da (.own pa)) pa (.ins CP da [])) := (Same.new fda).trans (Same.new (by rw [upd_ne (Ne.symm na)]; exact fpa))
    refine ⟨pa, da, vg, kb, g, rfl, upd_same, ig4.same s5, hkb _, ok, fun A H5 k5 t5 nA pba => ⟨rfl, ?_⟩⟩
    have s45 : Same H4 H5 := same_kp1 s5 k5 fpa
    refine ⟨_, rfl, fun pb db fpb fdb nb => ?_⟩
    have s6 : Same H5 (upd (upd H5 db (.own pb)) pb (.ins CP db [])) := (Same.new fdb).trans (Same.new (by rw [upd_ne (Ne.symm nb)]; exact fpb))
    refine ⟨pb, db, vl, kb, dropG g wp, rfl, upd_same, (il4.same s45).same s6, hkb _, okl, fun A' H6 k6 t6 nA' pbb => ⟨rfl, ?_⟩⟩
    have s56 : Same H5 H6 := same_kp1 s6 k6 fpb
    have s46 := s45.trans s56
    have pba6 := pba.same s56
    have nab : pa ≠ pb := fun e => by
      obtain ⟨_, _, _, _, _, _, _, hI, _⟩ := pba.ins
      rw [e, fpb] at hI; cases hI
    refine ⟨_, _, rfl, ?_⟩
    have hlo := ok.lo
    have hhi := ok.hi
    have ig6 := ig4.same s46
    refine ⟨_, rfl, _, 0, .int g.many, .inl (eG_inv ig6), rfl, rfl, fun x hx => ?_⟩
    cases hx
    refine ⟨_, _, rfl, rfl, RgOk.of_le (by decide) (by omega) (by decide) (by omega), fun Lf fLf => ?_⟩
    have s7 : Same H6 (upd H6 Lf (.lst (rgV 1 (g.many : Int)))) := Same.new fLf
    have lsL : Ls K (upd H6 Lf (.lst (rgV 1 (g.many : Int)))) Lf ((housesF g.many).map eI) := ⟨_, upd_same, by rw [rgV_houses]; exact ImAll.ofInts⟩
    generalize upd H6 Lf (.lst (rgV 1 (g.many : Int))) = H7 at s7 lsL
    have id7 := (id4.same s46).same s7
    have nDL : V.ref pD ≠ .ref Lf := fun e => by cases e; exact (id4.same s46).ls.ne_none fLf
    refine ⟨_, rfl, _, 0, .int g.many, .inl (eG_inv (ig6.same s7)), rfl, rfl, fun x hx => ?_⟩
    cases hx
    refine ⟨_, _, rfl, rfl, _, rfl, by omega, by omega, ?_⟩
    rw [show ((g.many : Int) - 1).toNat = g.many - 1 by omega]
    have gi : ∀ i : Nat, i < 60 → ∃ d, atI (ds.map eI) (i : Nat) = some (eI d) ∧ 0 ≤ d := fun i hi => by
      obtain ⟨d, hd⟩ : ∃ d, ds[i]? = some d := ⟨_, List.getElem?_eq_getElem (by omega)⟩
      exact ⟨d, atI_map (atI_nn (by omega) (by rw [Int.toNat_natCast]; exact hd)), (hds d (List.mem_of_getElem? hd)).1⟩
    refine lc_pops (K := K) (by omega) (Lk.housesF_len g.many) lsL (fun D i l H8 QT QF hi kp8 tk8 hD hll ls8 kT => ?_) (fun pH H8 hs hperm kp8 tk8 f8 i8 => ?_)
    · obtain ⟨xi, ei, _⟩ := gi i (by omega)
      have ip : Im K H8 (.ref pD) (eL eI ds) := id7.ls.kp kp8 tk8 (flatAll_map flat_int _) (by simp only [List.mem_cons, List.not_mem_nil, or_false]; rintro (z | z); exact id7.ls.ne_none (by rw [z]; exact hD); exact nDL (by rw [z])) |>.im
      have hp : (0 : Int) < l.length := by omega
      have hm0 := Int.emod_nonneg xi (show (l.length : Int) ≠ 0 by omega)
      have hm1 := Int.emod_lt_of_pos xi hp
      obtain ⟨z, hz⟩ : ∃ z, l[(xi % (l.length : Int)).toNat]? = some z := ⟨_, List.getElem?_eq_getElem (by omega)⟩
      refine ⟨rfl, _, rfl, ls8.ty, _, rfl, _, rfl, _, 0 + (i : Nat), eI xi, .inr ip, rfl, ?_, fun y hy => ?_⟩
      · rw [show (0 : Int) + (i : Nat) = ((i : Nat) : Int) by omega]; exact ei
      cases hy
      refine ⟨_, rfl, _, _, rfl, .inr ls8.im, xi, (l.length : Int), rfl, by rw [List.length_map], hp, Lf, l.map eI, xi % (l.length : Int), eI z, rfl, rfl, ls8, flatAll_map flat_int _, hm0, by rw [List.length_map]; omega, by rw [List.getElem?_map, hz]; rfl, fun y H4 iy ch => ?_⟩
      cases iy
      refine kT z _ H4 hz ?_
      rw [map_erase] at ch
      exact ch
    have hhl : hs.length = g.many - 1 := by rw [hperm.length_eq, Lk.housesF_len]
    have hnd : hs.Nodup := hperm.nodup_iff.mpr (Lk.housesF_nd g.many)
    have hmem : ∀ x, x ∈ hs ↔ 1 ≤ x ∧ x < g.many := fun x => by rw [hperm.mem_iff]; exact Lk.housesF_mem
    have s68 : Same H6 H8 := same_kp1 s7 kp8 fLf
    have id8 := (id4.same s46).same s68
    have il8 := (il4.same s46).same s68
    have iw8 := (iw4.same s46).same s68
    have ir8 := (ir4.same s46).same s68
    have pa8 := pba6.same s68
    have pb8 := pbb.same s68
    obtain ⟨dxa, _, _, _, _, _, _, hIa8, _⟩ := pa8.ins
    obtain ⟨dxb, _, _, _, _, _, _, hIb8, _⟩ := pb8.ins
    have npH : pH ≠ pa := fun e => by
      obtain ⟨xs, z, _⟩ := i8.ls
      rw [e, hIa8] at z; cases z
    have deg6 : ∀ {x : Gd} {h : Int}, x.Ok → 0 ≤ h → h < x.many → (osF x h).length ≤ 6 := fun k h0 h1 => Lk.deg k (osF_nbs k h0 h1)
    refine ⟨_, rfl, for_EL (K := K) i8 (fun i σ' H' => ∃ (gk : Gd) (A : Hla) (p : Ps) (n : Nat), ∃ y9 y10 y11 y12 y13 y14 y15, σ' = [some (.ref a), some vg, some (.ref pD), some vw, some vr, some vl, some (.ref pa), some (.ref pb), some (.ref pH), y9, y10, y11, y12, y13, y14, y15, none, none] ∧ Kp [pa] H8 H' ∧ TK H8 H' ∧ PostB P w K CP H' gk pa A p n ∧ Lk.Mid g (dropG g wp) hs i gk ∧ PInv gk p (fun _ => False) ∧ p.lets.length ≤ 6 + 36 * i ∧ n ≤ 6 * i)
      ⟨g, A, _, 0, _, _, _, _, _, _, _, rfl, Kp.refl, TK.refl, pa8, Lk.Mid.zero ok, Lk.fresh_inv ok (osF_nbs ok (by omega) (by omega)), by show ((osF g 0).map _).length ≤ _; rw [List.length_map]; exact deg6 ok (by omega) (by omega), Nat.le_refl _⟩ (fun i σ' H' pv b e => ?_) (fun i d v T σ' H' hd hv pv hT => ?_) (fun σ' H' pv => ?_)⟩
    · cases e
      obtain ⟨_, _, _, _, _, _, _, _, _, _, _, _, kp, _⟩ := pv
      obtain ⟨xs, z, _⟩ := i8.ls
      rw [z]
      exact kp _ _ (by simpa using npH) z
    · obtain ⟨gk, A1, p, n, y9, y10, y11, y12, y13, y14, y15, rfl, kp, tk, pk, mid, inv, hlets, hn⟩ := pv
      rw [List.getElem?_map] at hd
      obtain ⟨z, hz, rfl⟩ := Option.map_eq_some_iff.mp hd
      have hil := (List.getElem?_eq_some_iff.mp hz).1
      have hv := hv.int_inv
      subst hv
      have hzr := (hmem z).mp (List.mem_of_getElem? hz)
      obtain ⟨h, rfl⟩ : ∃ h : Nat, z = (h : Int) := ⟨z.toNat, by omega⟩
      have sT : Same H' (upd H' T (.tup [.int (i : Nat), .int (h : Nat)])) := Same.new hT
      refine ⟨T, _, rfl, SqT.of upd_same, rfl, _, _, rfl, _, _, rfl, rfl, ?_⟩
      generalize upd H' T (.tup [.int (i : Nat), .int (h : Nat)]) = HT at sT
      have kpT := kp.trans sT.kp
      have tkT := tk.trans sT.tk
      have idT := id8.kpi hIa8 kpT
      obtain ⟨x50, e50, x50n⟩ := gi (50 + i) (by omega)
      have d6 : (0 : Int) < 6 := by decide
      have i6 : ((i : Nat) : Int).natAbs < 2 ^ 200 := Nat.lt_of_lt_of_le (show ((i : Nat) : Int).natAbs < 8 by omega) (by decide)
      refine ⟨_, rfl, _, rfl, _, _, rfl, rfl, cm (by decide) i6, _, rfl, _, rfl, _, _, rfl, rfl, cm (by decide) i6, _, rfl, _, rfl, _, _, rfl, rfl, _, 50 + (i : Nat), eI x50, .inr idT, rfl, ?_, fun y hy => ?_⟩
      · rw [show (50 : Int) + ((i : Nat) : Int) = ((50 + i : Nat) : Int) by omega]; exact e50
      cases hy
      have c0 := Int.emod_nonneg x50 (show (6 : Int) ≠ 0 by decide)
      have c1 := Int.emod_lt_of_pos x50 d6
      refine ⟨_, _, rfl, rfl, d6, _, _, rfl, rfl, _, rfl, .inr ⟨_, idT, fun pS HS sS fS iS => ?_⟩⟩
      obtain ⟨c, hc, c5⟩ : ∃ c : Nat, (6 : Int) * ((i : Nat) : Int) + x50 % 6 = ((6 * i + c : Nat) : Int) ∧ c ≤ 5 := ⟨(x50 % 6).toNat, by omega, by omega⟩
      rw [hc, show (6 : Int) * ((i : Nat) : Int) = ((6 * i : Nat) : Int) by omega, cutD_mid, ← List.map_drop, ← List.map_take] at iS
      have iS : Im K HS (.ref pS) (eL eI ((ds.drop (6 * i)).take (6 * i + c - 6 * i))) := iS
      have hes : ((ds.drop (6 * i)).take (6 * i + c - 6 * i)).length ≤ 5 := by rw [List.length_take]; omega
      generalize (ds.drop (6 * i)).take (6 * i + c - 6 * i) = es at iS hes
      have kpS := kpT.trans sS.kp
      have tkS := tkT.trans sS.tk
      have pkS := (pk.same sT).same sS
      obtain ⟨dxS, _, _, _, _, _, _, hIS, _⟩ := pkS.ins
      have nSa : pS ≠ pa := fun e => by
        obtain ⟨xs, z, _⟩ := iS.ls
        rw [e, hIS] at z; cases z
      have hlk : (dropG g wp).Ok := okl
      have okk := Lk.Mid.ok ok okl rfl rfl dropG_le mid
      refine for_LT (K := K) (ea := eI) iS (fun j σ' H' => ∃ (A2 : Hla) (p2 : Ps) (n2 : Nat), ∃ y11 y12 y13 y14 y15, σ' = [some (.ref a), some vg, some (.ref pD), some vw, some vr, some vl, some (.ref pa), some (.ref pb), some (.ref pH), some (.int (i : Nat)), some (.int (h : Nat)), y11, y12, y13, y14, y15, none, none] ∧ Kp [pa] HS H' ∧ TK HS H' ∧ PostB P w K CP H' gk pa A2 p2 n2 ∧ PInv gk p2 (fun _ => False) ∧ p2.lets.length ≤ 6 + 36 * i + 6 * j ∧ n2 ≤ 6 * i + j)
        ⟨A1, p, n, _, _, _, _, _, rfl, Kp.refl, TK.refl, pkS, inv, by omega, by omega⟩ (fun j σ2 H2 pv b e => ?_) (fun j x v σ2 H2 hx hv pv => ?_) (fun σ2 H2 pv => ?_)
      · cases e
        obtain ⟨_, _, _, _, _, _, _, _, _, kp2, _⟩ := pv
        obtain ⟨xs, z, _⟩ := iS.ls
        rw [z]
        exact kp2 _ _ (by simpa using nSa) z
      · obtain ⟨A2, p2, n2, z11, z12, z13, z14, z15, rfl, kp2, tk2, pk2, inv2, hl2, hn2⟩ := pv
        have hj : j < es.length := (List.getElem?_eq_some_iff.mp hx).1
        have hv := hv.int_inv
        subst hv
        obtain ⟨dx2, vr2, pa2, vu2, vg2, vd2, xs2, hI2, _⟩ := pk2.ins
        refine ⟨_, rfl, pa, dx2, _, rfl, hI2, rfl, pa, gk, A2, p2, n2, rfl, pk2, by omega, fun ws b H3 gr s3 f3 i3 => ?_⟩
        refine ⟨_, rfl, Nat.zero_le _, [], .nil, fun b4 H4 s4 f4 i4 => ?_⟩
        have s34 := s3.trans s4
        have i34 := i3.same s4
        refine ⟨_, inferInstance, eL eGr, 4, ws, [], enc_lst (enc_trip (enc_int.mono (by decide)) (enc_int.mono (by decide)) (enc_lst enc_W)), by decide, i34, i4, _, rfl, ?_⟩
        by_cases hws : ws = []
        · refine ifF (by simp [hws]) ⟨A2, p2, n2, _, _, _, _, _, rfl, kp2.trans s34.kp, tk2.trans s34.tk, pk2.same s34, inv2, by omega, by omega⟩
        refine ifT (by simp [hws]) ?_
        have wl : (0 : Int) < ws.length := by have := List.length_pos_iff.mpr hws; omega
        have u0 := Int.emod_nonneg x (show (ws.length : Int) ≠ 0 by omega)
        have u1 := Int.emod_lt_of_pos x wl
        obtain ⟨z, hz2⟩ : ∃ z, ws[(x % (ws.length : Int)).toNat]? = some z := ⟨_, List.getElem?_eq_getElem (by omega)⟩
        refine ⟨_, rfl, _, rfl, _, rfl, _, _, rfl, .inr i34, _, (ws.length : Int), rfl, by rw [List.length_map], wl, _, x % (ws.length : Int), eGr z, .inr i34, rfl, atI_map (atI_nn u0 hz2), fun y hy => ?_⟩
        obtain ⟨zs, zr, zw⟩ := z
        obtain ⟨T2, us, rfl, hq2, him⟩ := hy.tup_inv
        obtain ⟨x1, r1, rfl, j1, him⟩ := ImAll.uncons him
        obtain ⟨x2, r2, rfl, j2, him⟩ := ImAll.uncons him
        obtain ⟨x3, r3, rfl, j3, him⟩ := ImAll.uncons him
        cases him
        cases j1
        cases j2
        have pk4 := pk2.same s34
        refine ⟨T2, _, rfl, hq2, rfl, _, _, rfl, _, _, rfl, _, _, rfl, rfl, ?_⟩
        obtain ⟨l0, hl0, e1, e2⟩ := gr.mem _ (List.mem_of_getElem? hz2)
        refine ⟨_, rfl, pa, dx2, _, rfl, s34 _ _ hI2, rfl, _, rfl, _, rfl, pa, gk, A2, p2, n2, zs, zr, rfl, okk, pk4, inv2, ⟨l0, hl0, e1, e2⟩, by omega, by omega, fun v H5 A5 l1 l l2 hsp hpre k5 t5 pk5 => ?_⟩
        have hl := inv2.lets l (by rw [hsp]; simp)
        have nb := osF_nbs okk (h := l.2.1) hl.2.2.2.1 hl.2.2.2.2
        have ll := Lk.deliver_lets (g := gk) (os := osF gk l.2.1) hsp
        have l6 := Lk.deg okk nb
        refine ⟨A5, _, _, _, _, _, _, _, rfl, (kp2.trans s34.kp).trans k5, (tk2.trans s34.tk).trans t5, pk5, Lk.deliver_inv nb inv2 hsp hpre, by omega, by omega⟩
      · obtain ⟨A2, p2, n2, z11, z12, z13, z14, z15, rfl, kp2, tk2, pk2, inv2, hl2, hn2⟩ := pv
        obtain ⟨dx2, vr2, pa2, vu2, vg2, vd2, xs2, hI2, _⟩ := pk2.ins
        have kp8 := kpS.trans kp2
        have tk8 := tkS.trans tk2
        have il2 := il8.kpi hIa8 kp8
        have hmk : gk.many = g.many := mid.many
        have hzr1 : 1 ≤ h := by omega
        have hzr2 : h < g.many := by omega
        have mid' := mid_like mid okl rfl hz hzr1 hzr2
        have ok' := Lk.Mid.ok ok okl rfl rfl dropG_le mid'
        have hll := okl.len
        have hrow : (dropG g wp).likes[h - 1]? = some ((dropG g wp).row h) := by
          unfold Lk.Gd.row
          rw [show ((h : Int) - 1).toNat = h - 1 by omega, List.getD_eq_getElem?_getD, List.getElem?_eq_getElem (by rw [hll]; show h - 1 < g.many - 1; omega)]
          rfl
        refine ⟨_, rfl, pa, dx2, _, rfl, hI2, rfl, _, rfl, _, rfl, _, 2, eT eWs (dropG g wp).likes, .inl (eG_inv il2), rfl, rfl, fun y hy => ?_⟩
        have hy : Im K H2 y (eT eWs (dropG g wp).likes) := hy
        refine ⟨_, rfl, _, _, rfl, rfl, _, (h : Int) - 1, eWs ((dropG g wp).row h), .inl hy, rfl, atI_map (atI_nn (by omega) (by rw [show ((h : Int) - 1).toNat = h - 1 by omega]; exact hrow)), fun y2 hy2 => ?_⟩
        refine ⟨pa, gk, A2, p2, n2, h, y2, (dropG g wp).row h, rfl, hy2, ok', okk, hzr1, by omega, pk2, inv2.len, by omega, by omega, fun H3 A3 k3 t3 pk3 => ?_⟩
        have nb := osF_nbs ok' (h := (h : Int)) (by omega) (by show (h : Int) < gk.many; omega)
        have l6 := Lk.deg ok' nb
        have ll := Lk.choose_lets (g := likeG gk h ((dropG g wp).row h)) (os := osF (likeG gk h ((dropG g wp).row h)) h) (p := p2) (h := (h : Int))
        have hlen : h - 1 < gk.likes.length := by rw [mid.len]; omega
        have I1 : PInv (likeG gk h ((dropG g wp).row h)) p2 (fun x => x = (h : Int)) := Lk.like_inv inv2 rfl rfl fun x hx1 hx2 hx3 => by rw [likeG_row gk h _ hx1 hzr1 hlen, if_neg hx3]
        refine ⟨_, A3, _, n2 + 1, _, _, _, _, _, _, _, rfl, kp8.trans k3, tk8.trans t3, pk3, mid', Lk.choose_inv (by show h < gk.many; omega) nb I1, by omega, by omega⟩
    · obtain ⟨gk, A1, p, n, y9, y10, y11, y12, y13, y14, y15, rfl, kp, tk, pk, mid, inv, hlets, hn⟩ := pv
      rw [List.length_map] at mid hlets hn
      have eg : gk = dropG g wp := Lk.Mid.done (g := g) okl rfl rfl mid fun h h1 h2 => by
        have h2 : h < g.many := h2
        rw [List.take_of_length_le (Nat.le_refl _)]
        exact (hmem h).mpr ⟨by omega, by omega⟩
      subst eg
      have hb5 : p.lets.length ≤ 190 := by omega
      have wt := Lk.weight_le okl io hb5
      have idE := id8.kpi hIa8 kp
      have ilE := il8.kpi hIa8 kp
      have irE := ir8.kpi hIa8 kp
      have iwE := iw8.kpi hIa8 kp
      have pbE := pb8.kpi hIa8 (Ne.symm nab) kp tk
      obtain ⟨dxE, _, _, _, _, _, _, hIE, _⟩ := pk.ins
      refine ⟨_, rfl, _, rfl, pa, .ref pD, ds, _, A1, p, n, o, rfl, idE, by omega, by omega, pk, okl, io, inv, by omega, by omega, fun HF AF pf nf kF tF pF invF eF => ?_⟩
      have idF := idE.kpi hIE kF
      have ilF := ilE.kpi hIE kF
      have irF := irE.kpi hIE kF
      have iwF := iwE.kpi hIE kF
      have pbF := pbE.kpi hIE (Ne.symm nab) kF tF
      obtain ⟨xs, hxs, hxa⟩ := idF.ls
      have hxs2 := ImAll.ints hxa
      subst hxs2
      refine ⟨_, rfl, _, rfl, pD, _, rfl, SqL.of hxs, fun pR fR => ?_⟩
      have sR : Same HF (upd HF pR (.lst (ds.map V.int).reverse)) := Same.new fR
      have iR : Im K (upd HF pR (.lst (ds.map V.int).reverse)) (.ref pR) (eL eI ds.reverse) := .lst upd_same (by rw [← List.map_reverse]; exact ImAll.ofInts)
      generalize upd HF pR (.lst (ds.map V.int).reverse) = HR at sR iR
      have pbR := pbF.same sR
      obtain ⟨dxR, _, _, _, _, _, _, hIR, _⟩ := pbR.ins
      have hb6 : (freshP (dropG g wp)).lets.length ≤ 190 := by
        show ((osF (dropG g wp) 0).map _).length ≤ _
        rw [List.length_map]
        have := deg6 (x := dropG g wp) (h := 0) okl (by omega) (by show (0 : Int) < g.many; omega)
        omega
      have wt2 := Lk.weight_le okl io hb6
      refine ⟨pb, .ref pR, ds.reverse, _, A', _, 0, o, rfl, iR, by rw [List.length_reverse]; omega, by rw [List.length_reverse]; omega, pbR, okl, io, Lk.fresh_inv okl (osF_nbs okl (by omega) (by show (0 : Int) < g.many; omega)), by omega, by omega, fun HG AG pg ng kG tG pG invG eG' => ?_⟩
      have ilG := (ilF.same sR).kpi hIR kG
      have irG := (irF.same sR).kpi hIR kG
      have iwG := (iwF.same sR).kpi hIR kG
      have paG := (pF.same sR).kpi hIR nab kG tG
      obtain ⟨dxA, _, _, _, _, _, _, hIA, _⟩ := paG.ins
      obtain ⟨dxB, _, _, _, _, _, _, hIB, _⟩ := pG.ins
      refine ⟨_, rfl, pa, dxA, _, rfl, hIA, rfl, pa, _, AF, pf, nf, rfl, paG, fun v H1 s1 j1 => ?_⟩
      refine ⟨_, rfl, vl, _, rfl, ilG.same s1, okl, ⟨o, io⟩, fun o2 r2 H2 io2 s2 j2 => ?_⟩
      refine ⟨_, inferInstance, eS, 2, pf.ways, _, enc_S, by decide, j1.same s2, j2, _, rfl, ifF (by rw [Lk.rest_grown okl io2 invF eF]; simp) ?_⟩
      have s12 := s1.trans s2
      have gA := Lk.rest_grown okl io invF eF
      have gB := Lk.rest_grown okl io invG eG'
      refine ⟨_, rfl, _, rfl, ⟨pa, pb, dxA, dxB, _, _, rfl, rfl, s12 _ _ hIA, s12 _ _ hIB, _, AF, pf, nf, AG, pg, ng, paG.same s12, pG.same s12, gA.symm.trans gB, eF.trans eG'.symm, fun k hk => ?_⟩, fun H3 s3 => ⟨true, rfl, ifF rfl ?_⟩⟩
      · have hk := ddup_mem.mp hk
        unfold hkF at hk
        obtain ⟨i, hi, hk⟩ := List.mem_flatMap.mp hk
        obtain ⟨oo, ho, rfl⟩ := List.mem_map.mp hk
        have hi : i < (dropG g wp).many := List.mem_range.mp hi
        obtain ⟨hj, o0, o1⟩ := ((osF_nbs okl (h := (i : Int)) (by omega) (by omega)).mem oo).mp ho
        obtain ⟨on, rfl⟩ : ∃ on : Nat, oo = (on : Int) := ⟨oo.toNat, by omega⟩
        rw [Lk.joined_comm] at hj
        show pf.heard (i : Nat) (on : Nat) = pg.heard (i : Nat) (on : Nat)
        rw [Lk.rest_heard invF eF (by omega) hi hj, Lk.rest_heard invG eG' (by omega) hi hj, ← gA, ← gB]
      have s13 : Same HG H3 := s12.trans s3
      refine ⟨_, rfl, vl, _, rfl, ilG.same s13, okl, ⟨o, io⟩, fun r d H4 s4 j4 => ?_⟩
      refine ⟨_, 0, .str "safe", .inl j4, rfl, rfl, fun x hx => ?_⟩
      cases hx
      have s14 := s13.trans s4
      refine ⟨rfl, _, rfl, ifF (by decide) ?_⟩
      have ir4 := irG.same s14
      have iw4 := iwG.same s14
      have ir4 : Im K H4 vr (eL eRg rs) := ir4
      refine ⟨_, rfl, for_LT (K := K) ir4 (fun i σ' H' => (∃ y16, σ' = [some (.ref a), some vg, some (.ref pD), some vw, some vr, some vl, some (.ref pa), some (.ref pb), some (.ref pH), y9, y10, y11, y12, y13, y14, y15, y16, none]) ∧ Same H4 H') ⟨⟨_, rfl⟩, Same.refl _⟩ (fun i σ' H' pv b e => ?_) (fun i ring v σ' H' hr hv pv => ?_) (fun σ' H' pv => ?_)⟩
      · obtain ⟨xs2, z, _⟩ := (show Im K H4 (.ref b) (eL eRg rs) from e ▸ ir4).ls
        rw [z]
        exact pv.2 _ _ z
      · obtain ⟨⟨y16, rfl⟩, sH⟩ := pv
        have hrm := List.mem_of_getElem? hr
        have hrl := L.each ring hrm
        have hv : Im K H' v (eL eSt ring) := hv.same sH
        refine ⟨_, rfl, lc_T (K := K) (.inr hv) (small_line (by omega)) (fun pr => if pr.1 ∈ wp ∨ pr.2 ∈ wp then some (eSt pr) else none) (fun D pr x H5 QT QF hp s5 hN hx kT kF => ?_) (fun p5 H5 s5 f5 i5 => ?_)⟩
        · have iw5 := (iw4.same sH).same s5
          refine ⟨rfl, _, rfl, _, 0, eW pr.1, .inl hx, rfl, rfl, fun x0 hx0 => ?_⟩
          refine ⟨_, rfl, _, inferInstance, eW, 1, pr.1, wp, enc_W, by decide, hx0, .inr iw5, _, rfl, ?_⟩
          by_cases c0 : pr.1 ∈ wp
          · exact ifT (by simp [c0]) (ifT rfl ⟨_, rfl, kT _ _ (eSt pr) (by rw [if_pos (.inl c0)]) (Same.refl _) (Im.stb hx (flat_pair flat_W flat_W _))⟩)
          refine ifF (by simp [c0]) ?_
          refine ⟨_, rfl, _, 1, eW pr.2, .inl hx, rfl, rfl, fun x1 hx1 => ?_⟩
          refine ⟨_, rfl, _, inferInstance, eW, 1, pr.2, wp, enc_W, by decide, hx1, .inr iw5, _, rfl, ?_⟩
          by_cases c1 : pr.2 ∈ wp
          · exact ifT (by simp [c1]) ⟨_, rfl, kT _ _ (eSt pr) (by rw [if_pos (.inr c1)]) (Same.refl _) (Im.stb hx (flat_pair flat_W flat_W _))⟩
          · exact ifF (by simp [c1]) (kF _ (by rw [if_neg (fun z => z.elim c0 c1)]) (Same.refl _))
        · have e5 : ring.filterMap (fun pr => if pr.1 ∈ wp ∨ pr.2 ∈ wp then some (eSt pr) else none) = (ring.filter fun pr => decide (pr.1 ∈ wp ∨ pr.2 ∈ wp)).map eSt := by
            rw [← filterMap_if]
            simp
          rw [e5] at i5
          have i5 : Im K H5 (.ref p5) (eRg (ring.filter fun pr => decide (pr.1 ∈ wp ∨ pr.2 ∈ wp))) := i5
          have hit : Lk.hitsR wp ring = true := by
            have := L.hit
            unfold Lk.hitsA at this
            exact List.all_eq_true.mp this ring hrm
          have hne : (ring.filter fun pr => decide (pr.1 ∈ wp ∨ pr.2 ∈ wp)) ≠ [] := by
            unfold Lk.hitsR Lk.ringWays at hit
            obtain ⟨u, hu, hu2⟩ := List.any_eq_true.mp hit
            obtain ⟨pr, hpr, hu3⟩ := List.mem_flatMap.mp (of_decide_eq_true hu2)
            have : pr ∈ ring.filter fun pr => decide (pr.1 ∈ wp ∨ pr.2 ∈ wp) := List.mem_filter.mpr ⟨hpr, decide_eq_true (by
              simp only [List.mem_cons, List.not_mem_nil, or_false] at hu3
              rcases hu3 with rfl | rfl
              · exact .inl hu
              · exact .inr hu)⟩
            exact List.ne_nil_of_mem this
          refine ⟨Nat.zero_le _, [], .nil, fun p6 H6 s6 f6 i6 => ?_⟩
          refine ⟨_, inferInstance, eRg, 3, _, [], enc_Rg, by decide, i5.same s6, i6, _, rfl, ifF (decide_eq_false hne) ⟨⟨_, rfl⟩, (sH.trans s5).trans s6⟩⟩
      · exact q _
end
end Lw
end
section
set_option Elab.async false
set_option linter.all false
set_option maxRecDepth 100000
set_option maxHeartbeats 4000000
/-! The head's facts; each def's promise; the last theorem. -/
namespace Lw
open Hd
open PySem PySem.Spec PyProof.Rows L2
theorem and2 {a b : Bool} (h : (a && b) = true) : a = true ∧ b = true := by simpa using h
theorem emB_ok {K : PySem.W.Frag} {a : Addr} (h : emB K a = true) (H : Hp) : Im K H (.ref a) (.tuple []) := by
  unfold emB at h
  split at h
  · rename_i t its n sl e
    obtain ⟨h1, h2⟩ := and2 h
    have h1 := of_decide_eq_true h1
    have h2 : its = #[] := by
      have : its.size = 0 := by simpa using h2
      exact Array.eq_empty_of_size_eq_zero this
    subst h1 h2
    exact .tupK _ n e rfl rfl rfl
  · cases h
section
variable {P : Program} {w : World} {K : PySem.W.Frag} {h : Heap} {mg : Str → Option Value}
theorem use_Bi (X : K.In h) (G : h.Ns mainGlobals mg) (c : He.SaysD fa fn K) : Bi mg where
  isinstance := He.free_ok X G (c.fact 62 (f := .free "isinstance") rfl)
  int := He.free_ok X G (c.fact 63 (f := .free "int") rfl)
  bool := He.free_ok X G (c.fact 64 (f := .free "bool") rfl)
  tuple := He.free_ok X G (c.fact 65 (f := .free "tuple") rfl)
  list := He.free_ok X G (c.fact 66 (f := .free "list") rfl)
  len := He.free_ok X G (c.fact 67 (f := .free "len") rfl)
  all := He.free_ok X G (c.fact 68 (f := .free "all") rfl)
  any := He.free_ok X G (c.fact 69 (f := .free "any") rfl)
  zip := He.free_ok X G (c.fact 70 (f := .free "zip") rfl)
  min := He.free_ok X G (c.fact 71 (f := .free "min") rfl)
  max := He.free_ok X G (c.fact 72 (f := .free "max") rfl)
  set := He.free_ok X G (c.fact 73 (f := .free "set") rfl)
  enumerate := He.free_ok X G (c.fact 74 (f := .free "enumerate") rfl)
  sorted := He.free_ok X G (c.fact 75 (f := .free "sorted") rfl)
  range := He.free_ok X G (c.fact 76 (f := .free "range") rfl)
  dict := He.free_ok X G (c.fact 77 (f := .free "dict") rfl)
theorem use_Cs (X : K.In h) (G : h.Ns mainGlobals mg) (c : He.SaysD fa fn K) : Cs mg where
  HOUSES' := He.int_ok X G (c.fact 78 (f := .int "HOUSES" 7) rfl)
  LIKED' := He.int_ok X G (c.fact 79 (f := .int "LIKED" 6) rfl)
  STANDS' := He.int_ok X G (c.fact 80 (f := .int "STANDS" 1000) rfl)
  DROPS' := He.int_ok X G (c.fact 81 (f := .int "DROPS" 12) rfl)
theorem use_Cl (X : K.In h) (G : h.Ns mainGlobals mg) (c : He.SaysD fa fn K) (ex : exB K = true) : Cl K mg (He.ga K "Post") where
  cls := He.cls_ok (c.fact 82 (f := .cls "Post") rfl)
  glo := He.glo_ok X G (c.fact 61 (f := .glo "Post") rfl)
  houses := He.noat_ok (c.fact 84 (f := .noat "Post" "houses") rfl)
  roads := He.noat_ok (c.fact 85 (f := .noat "Post" "roads") rfl)
  now := He.noat_ok (c.fact 86 (f := .noat "Post" "now") rfl)
  past := He.noat_ok (c.fact 87 (f := .noat "Post" "past") rfl)
  undone := He.noat_ok (c.fact 88 (f := .noat "Post" "undone") rfl)
  pages := He.noat_ok (c.fact 89 (f := .noat "Post" "pages") rfl)
  deep := He.noat_ok (c.fact 90 (f := .noat "Post" "deep") rfl)
  cl1 := He.eqO_ok (and2 (and2 ex).2).1
  cl2 := He.eqO_ok (and2 (and2 (and2 ex).2).2).1
  cl3 := of_decide_eq_true (and2 (and2 (and2 (and2 ex).2).2).2).1
  cl4 := of_decide_eq_true (and2 (and2 (and2 (and2 ex).2).2).2).2
theorem use_is_number (X : K.In h) (G : h.Ns mainGlobals mg) (c : He.SaysD fa fn K) : Df K mg "is_number" s_is_number := by
  obtain ⟨fd, F⟩ := c.def_ 0 (d := d_is_number) rfl
  exact ⟨_, fd, He.glo_ok X G (c.fact 0 (f := .glo "is_number") rfl), F⟩
theorem use_is_pair (X : K.In h) (G : h.Ns mainGlobals mg) (c : He.SaysD fa fn K) : Df K mg "is_pair" s_is_pair := by
  obtain ⟨fd, F⟩ := c.def_ 1 (d := d_is_pair) rfl
  exact ⟨_, fd, He.glo_ok X G (c.fact 1 (f := .glo "is_pair") rfl), F⟩
theorem use_is_rising (X : K.In h) (G : h.Ns mainGlobals mg) (c : He.SaysD fa fn K) : Df K mg "is_rising" s_is_rising := by
  obtain ⟨fd, F⟩ := c.def_ 2 (d := d_is_rising) rfl
  exact ⟨_, fd, He.glo_ok X G (c.fact 2 (f := .glo "is_rising") rfl), F⟩
theorem use_are_roads (X : K.In h) (G : h.Ns mainGlobals mg) (c : He.SaysD fa fn K) : Df K mg "are_roads" s_are_roads := by
  obtain ⟨fd, F⟩ := c.def_ 3 (d := d_are_roads) rfl
  exact ⟨_, fd, He.glo_ok X G (c.fact 3 (f := .glo "are_roads") rfl), F⟩
theorem use_joined (X : K.In h) (G : h.Ns mainGlobals mg) (c : He.SaysD fa fn K) : Df K mg "joined" s_joined := by
  obtain ⟨fd, F⟩ := c.def_ 4 (d := d_joined) rfl
  exact ⟨_, fd, He.glo_ok X G (c.fact 4 (f := .glo "joined") rfl), F⟩
theorem use_is_way (X : K.In h) (G : h.Ns mainGlobals mg) (c : He.SaysD fa fn K) : Df K mg "is_way" s_is_way := by
  obtain ⟨fd, F⟩ := c.def_ 5 (d := d_is_way) rfl
  exact ⟨_, fd, He.glo_ok X G (c.fact 5 (f := .glo "is_way") rfl), F⟩
theorem use_are_liked (X : K.In h) (G : h.Ns mainGlobals mg) (c : He.SaysD fa fn K) : Df K mg "are_liked" s_are_liked := by
  obtain ⟨fd, F⟩ := c.def_ 6 (d := d_are_liked) rfl
  exact ⟨_, fd, He.glo_ok X G (c.fact 6 (f := .glo "are_liked") rfl), F⟩
theorem use_is_guild (X : K.In h) (G : h.Ns mainGlobals mg) (c : He.SaysD fa fn K) : Df K mg "is_guild" s_is_guild := by
  obtain ⟨fd, F⟩ := c.def_ 7 (d := d_is_guild) rfl
  exact ⟨_, fd, He.glo_ok X G (c.fact 7 (f := .glo "is_guild") rfl), F⟩
theorem use_likes_of (X : K.In h) (G : h.Ns mainGlobals mg) (c : He.SaysD fa fn K) : Df K mg "likes_of" s_likes_of := by
  obtain ⟨fd, F⟩ := c.def_ 10 (d := d_likes_of) rfl
  exact ⟨_, fd, He.glo_ok X G (c.fact 10 (f := .glo "likes_of") rfl), F⟩
theorem use_all_ways (X : K.In h) (G : h.Ns mainGlobals mg) (c : He.SaysD fa fn K) : Df K mg "all_ways" s_all_ways := by
  obtain ⟨fd, F⟩ := c.def_ 9 (d := d_all_ways) rfl
  exact ⟨_, fd, He.glo_ok X G (c.fact 9 (f := .glo "all_ways") rfl), F⟩
theorem use_is_liked_way (X : K.In h) (G : h.Ns mainGlobals mg) (c : He.SaysD fa fn K) : Df K mg "is_liked_way" s_is_liked_way := by
  obtain ⟨fd, F⟩ := c.def_ 11 (d := d_is_liked_way) rfl
  exact ⟨_, fd, He.glo_ok X G (c.fact 11 (f := .glo "is_liked_way") rfl), F⟩
theorem use_ends_of (X : K.In h) (G : h.Ns mainGlobals mg) (c : He.SaysD fa fn K) : Df K mg "ends_of" s_ends_of := by
  obtain ⟨fd, F⟩ := c.def_ 12 (d := d_ends_of) rfl
  exact ⟨_, fd, He.glo_ok X G (c.fact 12 (f := .glo "ends_of") rfl), F⟩
theorem use_dropped (X : K.In h) (G : h.Ns mainGlobals mg) (c : He.SaysD fa fn K) : Df K mg "dropped" s_dropped := by
  obtain ⟨fd, F⟩ := c.def_ 8 (d := d_dropped) rfl
  exact ⟨_, fd, He.glo_ok X G (c.fact 8 (f := .glo "dropped") rfl), F⟩
theorem use_forerunners (X : K.In h) (G : h.Ns mainGlobals mg) (c : He.SaysD fa fn K) : Df K mg "forerunners" s_forerunners := by
  obtain ⟨fd, F⟩ := c.def_ 13 (d := d_forerunners) rfl
  exact ⟨_, fd, He.glo_ok X G (c.fact 13 (f := .glo "forerunners") rfl), F⟩
theorem use_placed (X : K.In h) (G : h.Ns mainGlobals mg) (c : He.SaysD fa fn K) : Df K mg "placed" s_placed := by
  obtain ⟨fd, F⟩ := c.def_ 14 (d := d_placed) rfl
  exact ⟨_, fd, He.glo_ok X G (c.fact 14 (f := .glo "placed") rfl), F⟩
theorem use_first_order (X : K.In h) (G : h.Ns mainGlobals mg) (c : He.SaysD fa fn K) : Df K mg "first_order" s_first_order := by
  obtain ⟨fd, F⟩ := c.def_ 15 (d := d_first_order) rfl
  exact ⟨_, fd, He.glo_ok X G (c.fact 15 (f := .glo "first_order") rfl), F⟩
theorem use_spoke_steps (X : K.In h) (G : h.Ns mainGlobals mg) (c : He.SaysD fa fn K) : Df K mg "spoke_steps" s_spoke_steps := by
  obtain ⟨fd, F⟩ := c.def_ 16 (d := d_spoke_steps) rfl
  exact ⟨_, fd, He.glo_ok X G (c.fact 16 (f := .glo "spoke_steps") rfl), F⟩
theorem use_ring_from (X : K.In h) (G : h.Ns mainGlobals mg) (c : He.SaysD fa fn K) : Df K mg "ring_from" s_ring_from := by
  obtain ⟨fd, F⟩ := c.def_ 17 (d := d_ring_from) rfl
  exact ⟨_, fd, He.glo_ok X G (c.fact 17 (f := .glo "ring_from") rfl), F⟩
theorem use_rings_found (X : K.In h) (G : h.Ns mainGlobals mg) (c : He.SaysD fa fn K) : Df K mg "rings_found" s_rings_found := by
  obtain ⟨fd, F⟩ := c.def_ 18 (d := d_rings_found) rfl
  exact ⟨_, fd, He.glo_ok X G (c.fact 18 (f := .glo "rings_found") rfl), F⟩
theorem use_order_or_ring (X : K.In h) (G : h.Ns mainGlobals mg) (c : He.SaysD fa fn K) : Df K mg "order_or_ring" s_order_or_ring := by
  obtain ⟨fd, F⟩ := c.def_ 19 (d := d_order_or_ring) rfl
  exact ⟨_, fd, He.glo_ok X G (c.fact 19 (f := .glo "order_or_ring") rfl), F⟩
theorem use_few_ways (X : K.In h) (G : h.Ns mainGlobals mg) (c : He.SaysD fa fn K) : Df K mg "few_ways" s_few_ways := by
  obtain ⟨fd, F⟩ := c.def_ 20 (d := d_few_ways) rfl
  exact ⟨_, fd, He.glo_ok X G (c.fact 20 (f := .glo "few_ways") rfl), F⟩
theorem use_picks (X : K.In h) (G : h.Ns mainGlobals mg) (c : He.SaysD fa fn K) : Df K mg "picks" s_picks := by
  obtain ⟨fd, F⟩ := c.def_ 21 (d := d_picks) rfl
  exact ⟨_, fd, He.glo_ok X G (c.fact 21 (f := .glo "picks") rfl), F⟩
theorem use_ways_of (X : K.In h) (G : h.Ns mainGlobals mg) (c : He.SaysD fa fn K) : Df K mg "ways_of" s_ways_of := by
  obtain ⟨fd, F⟩ := c.def_ 22 (d := d_ways_of) rfl
  exact ⟨_, fd, He.glo_ok X G (c.fact 22 (f := .glo "ways_of") rfl), F⟩
theorem use_hits (X : K.In h) (G : h.Ns mainGlobals mg) (c : He.SaysD fa fn K) : Df K mg "hits" s_hits := by
  obtain ⟨fd, F⟩ := c.def_ 23 (d := d_hits) rfl
  exact ⟨_, fd, He.glo_ok X G (c.fact 23 (f := .glo "hits") rfl), F⟩
theorem use_first_pick (X : K.In h) (G : h.Ns mainGlobals mg) (c : He.SaysD fa fn K) : Df K mg "first_pick" s_first_pick := by
  obtain ⟨fd, F⟩ := c.def_ 24 (d := d_first_pick) rfl
  exact ⟨_, fd, He.glo_ok X G (c.fact 24 (f := .glo "first_pick") rfl), F⟩
theorem use_has_order (X : K.In h) (G : h.Ns mainGlobals mg) (c : He.SaysD fa fn K) : Df K mg "has_order" s_has_order := by
  obtain ⟨fd, F⟩ := c.def_ 25 (d := d_has_order) rfl
  exact ⟨_, fd, He.glo_ok X G (c.fact 25 (f := .glo "has_order") rfl), F⟩
theorem use_least_drop (X : K.In h) (G : h.Ns mainGlobals mg) (c : He.SaysD fa fn K) : DfK K mg "least_drop" s_least_drop [("kept", V.ref (kwAt ("least_drop", none) "kept" K))] := by
  obtain ⟨fd, F⟩ := c.def_ 26 (d := d_least_drop) rfl
  exact ⟨_, fd, He.glo_ok X G (c.fact 26 (f := .glo "least_drop") rfl), F⟩
theorem use_first_stand (X : K.In h) (G : h.Ns mainGlobals mg) (c : He.SaysD fa fn K) : Df K mg "first_stand" s_first_stand := by
  obtain ⟨fd, F⟩ := c.def_ 27 (d := d_first_stand) rfl
  exact ⟨_, fd, He.glo_ok X G (c.fact 27 (f := .glo "first_stand") rfl), F⟩
theorem use_choice (X : K.In h) (G : h.Ns mainGlobals mg) (c : He.SaysD fa fn K) : Df K mg "choice" s_choice := by
  obtain ⟨fd, F⟩ := c.def_ 28 (d := d_choice) rfl
  exact ⟨_, fd, He.glo_ok X G (c.fact 28 (f := .glo "choice") rfl), F⟩
theorem use_choices (X : K.In h) (G : h.Ns mainGlobals mg) (c : He.SaysD fa fn K) : Df K mg "choices" s_choices := by
  obtain ⟨fd, F⟩ := c.def_ 29 (d := d_choices) rfl
  exact ⟨_, fd, He.glo_ok X G (c.fact 29 (f := .glo "choices") rfl), F⟩
theorem use_is_steady (X : K.In h) (G : h.Ns mainGlobals mg) (c : He.SaysD fa fn K) : Df K mg "is_steady" s_is_steady := by
  obtain ⟨fd, F⟩ := c.def_ 30 (d := d_is_steady) rfl
  exact ⟨_, fd, He.glo_ok X G (c.fact 30 (f := .glo "is_steady") rfl), F⟩
theorem use_grown (X : K.In h) (G : h.Ns mainGlobals mg) (c : He.SaysD fa fn K) : Df K mg "grown" s_grown := by
  obtain ⟨fd, F⟩ := c.def_ 31 (d := d_grown) rfl
  exact ⟨_, fd, He.glo_ok X G (c.fact 31 (f := .glo "grown") rfl), F⟩
theorem use_others_of (X : K.In h) (G : h.Ns mainGlobals mg) (c : He.SaysD fa fn K) : Df K mg "others_of" s_others_of := by
  obtain ⟨fd, F⟩ := c.def_ 32 (d := d_others_of) rfl
  exact ⟨_, fd, He.glo_ok X G (c.fact 32 (f := .glo "others_of") rfl), F⟩
theorem use_send_along (X : K.In h) (G : h.Ns mainGlobals mg) (c : He.SaysD fa fn K) : Df K mg "send_along" s_send_along := by
  obtain ⟨fd, F⟩ := c.def_ 35 (d := d_send_along) rfl
  exact ⟨_, fd, He.glo_ok X G (c.fact 35 (f := .glo "send_along") rfl), F⟩
theorem use_send (X : K.In h) (G : h.Ns mainGlobals mg) (c : He.SaysD fa fn K) : Df K mg "send" s_send := by
  obtain ⟨fd, F⟩ := c.def_ 36 (d := d_send) rfl
  exact ⟨_, fd, He.glo_ok X G (c.fact 36 (f := .glo "send") rfl), F⟩
theorem use_best_heard (X : K.In h) (G : h.Ns mainGlobals mg) (c : He.SaysD fa fn K) : Df K mg "best_heard" s_best_heard := by
  obtain ⟨fd, F⟩ := c.def_ 37 (d := d_best_heard) rfl
  exact ⟨_, fd, He.glo_ok X G (c.fact 37 (f := .glo "best_heard") rfl), F⟩
theorem use_choose (X : K.In h) (G : h.Ns mainGlobals mg) (c : He.SaysD fa fn K) : Df K mg "choose" s_choose := by
  obtain ⟨fd, F⟩ := c.def_ 38 (d := d_choose) rfl
  exact ⟨_, fd, He.glo_ok X G (c.fact 38 (f := .glo "choose") rfl), F⟩
theorem use_deliver (X : K.In h) (G : h.Ns mainGlobals mg) (c : He.SaysD fa fn K) : Df K mg "deliver" s_deliver := by
  obtain ⟨fd, F⟩ := c.def_ 39 (d := d_deliver) rfl
  exact ⟨_, fd, He.glo_ok X G (c.fact 39 (f := .glo "deliver") rfl), F⟩
theorem use_copied (X : K.In h) (G : h.Ns mainGlobals mg) (c : He.SaysD fa fn K) : Df K mg "copied" s_copied := by
  obtain ⟨fd, F⟩ := c.def_ 34 (d := d_copied) rfl
  exact ⟨_, fd, He.glo_ok X G (c.fact 34 (f := .glo "copied") rfl), F⟩
theorem use_fresh (X : K.In h) (G : h.Ns mainGlobals mg) (c : He.SaysD fa fn K) : Df K mg "fresh" s_fresh := by
  obtain ⟨fd, F⟩ := c.def_ 33 (d := d_fresh) rfl
  exact ⟨_, fd, He.glo_ok X G (c.fact 33 (f := .glo "fresh") rfl), F⟩
theorem use_grouped (X : K.In h) (G : h.Ns mainGlobals mg) (c : He.SaysD fa fn K) : Df K mg "grouped" s_grouped := by
  obtain ⟨fd, F⟩ := c.def_ 40 (d := d_grouped) rfl
  exact ⟨_, fd, He.glo_ok X G (c.fact 40 (f := .glo "grouped") rfl), F⟩
theorem use_roads_of (X : K.In h) (G : h.Ns mainGlobals mg) (c : He.SaysD fa fn K) : Df K mg "roads_of" s_roads_of := by
  obtain ⟨fd, F⟩ := c.def_ 41 (d := d_roads_of) rfl
  exact ⟨_, fd, He.glo_ok X G (c.fact 41 (f := .glo "roads_of") rfl), F⟩
theorem use_P_taken (X : K.In h) (G : h.Ns mainGlobals mg) (c : He.SaysD fa fn K) : DfM K (He.ga K "Post") "taken" "Post.taken" s_Post_taken := by
  obtain ⟨fd, F⟩ := c.def_ 62 (d := d_Post_taken) rfl
  exact ⟨_, fd, He.meth_ok (c.fact 91 (f := .meth "Post" "taken") rfl), F⟩
theorem use_P_init (X : K.In h) (G : h.Ns mainGlobals mg) (c : He.SaysD fa fn K) : DfI K mg (He.ga K "Post") s_Post_init [("broken", V.ref (kwAt ("Post", some "__init__") "broken" K))] := by
  obtain ⟨fd, F⟩ := c.def_ 61 (d := d_Post_init) rfl
  exact ⟨_, fd, He.glo_ok X G (c.fact 61 (f := .glo "Post") rfl), He.mkr_ok (c.fact 83 (f := .mkr "Post") rfl), F⟩
theorem use_P_stand (X : K.In h) (G : h.Ns mainGlobals mg) (c : He.SaysD fa fn K) : DfM K (He.ga K "Post") "stand" "Post.stand" s_Post_stand := by
  obtain ⟨fd, F⟩ := c.def_ 65 (d := d_Post_stand) rfl
  exact ⟨_, fd, He.meth_ok (c.fact 94 (f := .meth "Post" "stand") rfl), F⟩
theorem use_P_waiting (X : K.In h) (G : h.Ns mainGlobals mg) (c : He.SaysD fa fn K) : DfM K (He.ga K "Post") "waiting" "Post.waiting" s_Post_waiting := by
  obtain ⟨fd, F⟩ := c.def_ 66 (d := d_Post_waiting) rfl
  exact ⟨_, fd, He.meth_ok (c.fact 95 (f := .meth "Post" "waiting") rfl), F⟩
theorem use_P_len (X : K.In h) (G : h.Ns mainGlobals mg) (c : He.SaysD fa fn K) : DfM K (He.ga K "Post") "__len__" "Post.__len__" s_Post_len := by
  obtain ⟨fd, F⟩ := c.def_ 68 (d := d_Post_len) rfl
  exact ⟨_, fd, He.meth_ok (c.fact 97 (f := .meth "Post" "__len__") rfl), F⟩
theorem use_P_shape (X : K.In h) (G : h.Ns mainGlobals mg) (c : He.SaysD fa fn K) : DfM K (He.ga K "Post") "shape" "Post.shape" s_Post_shape := by
  obtain ⟨fd, F⟩ := c.def_ 67 (d := d_Post_shape) rfl
  exact ⟨_, fd, He.meth_ok (c.fact 96 (f := .meth "Post" "shape") rfl), F⟩
theorem use_P_eq (X : K.In h) (G : h.Ns mainGlobals mg) (c : He.SaysD fa fn K) : DfM K (He.ga K "Post") "__eq__" "Post.__eq__" s_Post_eq := by
  obtain ⟨fd, F⟩ := c.def_ 69 (d := d_Post_eq) rfl
  exact ⟨_, fd, He.meth_ok (c.fact 98 (f := .meth "Post" "__eq__") rfl), F⟩
theorem use_P_read (X : K.In h) (G : h.Ns mainGlobals mg) (c : He.SaysD fa fn K) : DfM K (He.ga K "Post") "read" "Post.read" s_Post_read := by
  obtain ⟨fd, F⟩ := c.def_ 63 (d := d_Post_read) rfl
  exact ⟨_, fd, He.meth_ok (c.fact 92 (f := .meth "Post" "read") rfl), F⟩
theorem use_P_like (X : K.In h) (G : h.Ns mainGlobals mg) (c : He.SaysD fa fn K) : DfM K (He.ga K "Post") "like" "Post.like" s_Post_like := by
  obtain ⟨fd, F⟩ := c.def_ 64 (d := d_Post_like) rfl
  exact ⟨_, fd, He.meth_ok (c.fact 93 (f := .meth "Post" "like") rfl), F⟩
theorem use_all_turns (X : K.In h) (G : h.Ns mainGlobals mg) (c : He.SaysD fa fn K) : Df K mg "all_turns" s_all_turns := by
  obtain ⟨fd, F⟩ := c.def_ 42 (d := d_all_turns) rfl
  exact ⟨_, fd, He.glo_ok X G (c.fact 42 (f := .glo "all_turns") rfl), F⟩
theorem use_all_made (X : K.In h) (G : h.Ns mainGlobals mg) (c : He.SaysD fa fn K) : Df K mg "all_made" s_all_made := by
  obtain ⟨fd, F⟩ := c.def_ 43 (d := d_all_made) rfl
  exact ⟨_, fd, He.glo_ok X G (c.fact 43 (f := .glo "all_made") rfl), F⟩
theorem use_graph_of (X : K.In h) (G : h.Ns mainGlobals mg) (c : He.SaysD fa fn K) : Df K mg "graph_of" s_graph_of := by
  obtain ⟨fd, F⟩ := c.def_ 44 (d := d_graph_of) rfl
  exact ⟨_, fd, He.glo_ok X G (c.fact 44 (f := .glo "graph_of") rfl), F⟩
theorem use_finished (X : K.In h) (G : h.Ns mainGlobals mg) (c : He.SaysD fa fn K) : Df K mg "finished" s_finished := by
  obtain ⟨fd, F⟩ := c.def_ 45 (d := d_finished) rfl
  exact ⟨_, fd, He.glo_ok X G (c.fact 45 (f := .glo "finished") rfl), F⟩
theorem use_flood (X : K.In h) (G : h.Ns mainGlobals mg) (c : He.SaysD fa fn K) : Df K mg "flood" s_flood := by
  obtain ⟨fd, F⟩ := c.def_ 46 (d := d_flood) rfl
  exact ⟨_, fd, He.glo_ok X G (c.fact 46 (f := .glo "flood") rfl), F⟩
theorem use_ranks_of (X : K.In h) (G : h.Ns mainGlobals mg) (c : He.SaysD fa fn K) : Df K mg "ranks_of" s_ranks_of := by
  obtain ⟨fd, F⟩ := c.def_ 47 (d := d_ranks_of) rfl
  exact ⟨_, fd, He.glo_ok X G (c.fact 47 (f := .glo "ranks_of") rfl), F⟩
theorem use_spared_houses (X : K.In h) (G : h.Ns mainGlobals mg) (c : He.SaysD fa fn K) : Df K mg "spared_houses" s_spared_houses := by
  obtain ⟨fd, F⟩ := c.def_ 48 (d := d_spared_houses) rfl
  exact ⟨_, fd, He.glo_ok X G (c.fact 48 (f := .glo "spared_houses") rfl), F⟩
theorem use_verdict (X : K.In h) (G : h.Ns mainGlobals mg) (c : He.SaysD fa fn K) : DfK K mg "verdict" s_verdict [("most", .int 1000)] := by
  obtain ⟨fd, F⟩ := c.def_ 49 (d := d_verdict) rfl
  exact ⟨_, fd, He.glo_ok X G (c.fact 49 (f := .glo "verdict") rfl), F⟩
theorem use__law_cell (X : K.In h) (G : h.Ns mainGlobals mg) (c : He.SaysD fa fn K) : Df K mg "_law_cell" s__law_cell := by
  obtain ⟨fd, F⟩ := c.def_ 50 (d := d__law_cell) rfl
  exact ⟨_, fd, He.glo_ok X G (c.fact 50 (f := .glo "_law_cell") rfl), F⟩
theorem use__law_draws (X : K.In h) (G : h.Ns mainGlobals mg) (c : He.SaysD fa fn K) : Df K mg "_law_draws" s__law_draws := by
  obtain ⟨fd, F⟩ := c.def_ 51 (d := d__law_draws) rfl
  exact ⟨_, fd, He.glo_ok X G (c.fact 51 (f := .glo "_law_draws") rfl), F⟩
theorem use__law_walk (X : K.In h) (G : h.Ns mainGlobals mg) (c : He.SaysD fa fn K) : Df K mg "_law_walk" s__law_walk := by
  obtain ⟨fd, F⟩ := c.def_ 52 (d := d__law_walk) rfl
  exact ⟨_, fd, He.glo_ok X G (c.fact 52 (f := .glo "_law_walk") rfl), F⟩
theorem use__law_ways (X : K.In h) (G : h.Ns mainGlobals mg) (c : He.SaysD fa fn K) : Df K mg "_law_ways" s__law_ways := by
  obtain ⟨fd, F⟩ := c.def_ 53 (d := d__law_ways) rfl
  exact ⟨_, fd, He.glo_ok X G (c.fact 53 (f := .glo "_law_ways") rfl), F⟩
theorem use__law_roads (X : K.In h) (G : h.Ns mainGlobals mg) (c : He.SaysD fa fn K) : Df K mg "_law_roads" s__law_roads := by
  obtain ⟨fd, F⟩ := c.def_ 54 (d := d__law_roads) rfl
  exact ⟨_, fd, He.glo_ok X G (c.fact 54 (f := .glo "_law_roads") rfl), F⟩
theorem use__law_drawn (X : K.In h) (G : h.Ns mainGlobals mg) (c : He.SaysD fa fn K) : Df K mg "_law_drawn" s__law_drawn := by
  obtain ⟨fd, F⟩ := c.def_ 55 (d := d__law_drawn) rfl
  exact ⟨_, fd, He.glo_ok X G (c.fact 55 (f := .glo "_law_drawn") rfl), F⟩
theorem use__law_gadget (X : K.In h) (G : h.Ns mainGlobals mg) (c : He.SaysD fa fn K) : Df K mg "_law_gadget" s__law_gadget := by
  obtain ⟨fd, F⟩ := c.def_ 56 (d := d__law_gadget) rfl
  exact ⟨_, fd, He.glo_ok X G (c.fact 56 (f := .glo "_law_gadget") rfl), F⟩
theorem use__law_guild (X : K.In h) (G : h.Ns mainGlobals mg) (c : He.SaysD fa fn K) : Df K mg "_law_guild" s__law_guild := by
  obtain ⟨fd, F⟩ := c.def_ 57 (d := d__law_guild) rfl
  exact ⟨_, fd, He.glo_ok X G (c.fact 57 (f := .glo "_law_guild") rfl), F⟩
theorem use__law_few (X : K.In h) (G : h.Ns mainGlobals mg) (c : He.SaysD fa fn K) : Df K mg "_law_few" s__law_few := by
  obtain ⟨fd, F⟩ := c.def_ 58 (d := d__law_few) rfl
  exact ⟨_, fd, He.glo_ok X G (c.fact 58 (f := .glo "_law_few") rfl), F⟩
theorem use__law_emptied (X : K.In h) (G : h.Ns mainGlobals mg) (c : He.SaysD fa fn K) : Df K mg "_law_emptied" s__law_emptied := by
  obtain ⟨fd, F⟩ := c.def_ 59 (d := d__law_emptied) rfl
  exact ⟨_, fd, He.glo_ok X G (c.fact 59 (f := .glo "_law_emptied") rfl), F⟩
theorem use_all {base : Heap} {f : Addr} {fd : FuncData} (X : K.In h) (G : h.Ns mainGlobals mg) (ex : exB K = true) (c : He.SaysD fa fn K) (F : DfL K "law" s_law f fd) : FnOk P w K mg base CX0 7 f fd ["script"] (S_law P w K) := by
  have B := use_Bi X G c
  have C := use_Cs X G c
  have Cc := use_Cl X G c ex
  have h_is_number : Has P w K mg base 1 "is_number" ["thing", "least", "most"] (S_is_number P w K) := w_is_number B (use_is_number X G c)
  have h_is_pair : Has P w K mg base 2 "is_pair" ["thing", "many"] (S_is_pair P w K) := w_is_pair B (use_is_pair X G c) h_is_number
  have h_is_rising : Has P w K mg base 1 "is_rising" ["row"] (S_is_rising P w K) := w_is_rising B (use_is_rising X G c)
  have h_are_roads : Has P w K mg base 3 "are_roads" ["thing", "many"] (S_are_roads P w K) := w_are_roads B (use_are_roads X G c) h_is_pair h_is_rising
  have h_joined : Has P w K mg base 1 "joined" ["roads", "one", "other"] (S_joined P w K) := w_joined B (use_joined X G c)
  have h_is_way : Has P w K mg base 2 "is_way" ["thing", "house", "many", "roads"] (S_is_way P w K) := w_is_way B (use_is_way X G c) h_is_number h_joined
  have h_are_liked : Has P w K mg base 3 "are_liked" ["thing", "house", "many", "roads"] (S_are_liked P w K) := w_are_liked B C (use_are_liked X G c) h_is_way
  have h_is_guild : Has P w K mg base 4 "is_guild" ["thing"] (S_is_guild P w K) := w_is_guild B C (use_is_guild X G c) h_is_number h_are_roads h_are_liked
  have h_likes_of : Has P w K mg base 1 "likes_of" ["guild", "house"] (S_likes_of P w K) := w_likes_of B (use_likes_of X G c)
  have h_all_ways : Has P w K mg base 1 "all_ways" ["guild"] (S_all_ways P w K) := w_all_ways B (use_all_ways X G c)
  have h_is_liked_way : Has P w K mg base 1 "is_liked_way" ["guild", "way"] (S_is_liked_way P w K) := w_is_liked_way B (use_is_liked_way X G c)
  have h_ends_of : Has P w K mg base 1 "ends_of" ["way"] (S_ends_of P w K) := w_ends_of B (use_ends_of X G c)
  have h_dropped : Has P w K mg base 1 "dropped" ["guild", "ways"] (S_dropped P w K) := w_dropped B (use_dropped X G c)
  have h_forerunners : Has P w K mg base 2 "forerunners" ["guild"] (S_forerunners P w K) := w_forerunners B (use_forerunners X G c) h_all_ways h_likes_of h_ends_of h_is_liked_way
  have h_placed : Has P w K mg base 3 "placed" ["guild"] (S_placed P w K) := w_placed B (use_placed X G c) h_forerunners
  have h_first_order : Has P w K mg base 4 "first_order" ["guild"] (S_first_order P w K) := w_first_order B (use_first_order X G c) h_placed
  have h_spoke_steps : Has P w K mg base 2 "spoke_steps" ["guild"] (S_spoke_steps P w K) := w_spoke_steps B (use_spoke_steps X G c) h_all_ways h_likes_of h_ends_of h_is_liked_way
  have h_ring_from : Has P w K mg base 1 "ring_from" ["steps", "start"] (S_ring_from P w K) := w_ring_from B (use_ring_from X G c)
  have h_rings_found : Has P w K mg base 3 "rings_found" ["guild"] (S_rings_found P w K) := w_rings_found B (use_rings_found X G c) h_spoke_steps h_ring_from
  have h_order_or_ring : Has P w K mg base 4 "order_or_ring" ["guild"] (S_order_or_ring P w K) := w_order_or_ring B (use_order_or_ring X G c) h_placed h_rings_found
  have h_few_ways : Has P w K mg base 2 "few_ways" ["guild"] (S_few_ways P w K) := w_few_ways B C (use_few_ways X G c) h_all_ways
  have h_picks : Has P w K mg base 1 "picks" ["ways", "many"] (S_picks P w K) := w_picks B (use_picks X G c)
  have h_ways_of : Has P w K mg base 1 "ways_of" ["ring"] (S_ways_of P w K) := w_ways_of B (use_ways_of X G c)
  have h_hits : Has P w K mg base 1 "hits" ["pick", "tables"] (S_hits P w K) := w_hits B (use_hits X G c)
  have h_first_pick : Has P w K mg base 2 "first_pick" ["free", "rings"] (S_first_pick P w K) := w_first_pick B (use_first_pick X G c) h_picks h_ways_of h_hits
  have h_has_order : Has P w K mg base 5 "has_order" ["guild"] (S_has_order P w K) := w_has_order B (use_has_order X G c) h_order_or_ring
  have h_least_drop : HasD P w K mg base 6 "least_drop" ["guild", "kept"] [V.ref (kwAt ("least_drop", none) "kept" K)] (S_least_drop P w K) := w_least_drop B (use_least_drop X G c) h_few_ways h_has_order h_dropped h_first_pick h_order_or_ring
  have h_first_stand : Has P w K mg base 1 "first_stand" ["guild"] (S_first_stand P w K) := w_first_stand B (use_first_stand X G c)
  have h_choice : Has P w K mg base 2 "choice" ["guild", "stand", "house"] (S_choice P w K) := w_choice B (use_choice X G c) h_likes_of
  have h_choices : Has P w K mg base 3 "choices" ["guild", "stand"] (S_choices P w K) := w_choices B (use_choices X G c) h_choice
  have h_is_steady : Has P w K mg base 4 "is_steady" ["guild", "stand"] (S_is_steady P w K) := w_is_steady B (use_is_steady X G c) h_choices
  have h_grown : Has P w K mg base 5 "grown" ["guild"] (S_grown P w K) := w_grown B (use_grown X G c) h_first_stand h_first_order
  have h_others_of : Has P w K mg base 1 "others_of" ["roads", "house"] (S_others_of P w K) := w_others_of B (use_others_of X G c)
  have h_send_along : Has P w K mg base 1 "send_along" ["holding", "house", "other"] (S_send_along P w K) := w_send_along B (use_send_along X G c)
  have h_send : Has P w K mg base 2 "send" ["roads", "holding", "house"] (S_send P w K) := w_send B (use_send X G c) h_others_of h_send_along
  have h_best_heard : Has P w K mg base 1 "best_heard" ["holding", "house"] (S_best_heard P w K) := w_best_heard B (use_best_heard X G c)
  have h_choose : Has P w K mg base 3 "choose" ["roads", "holding", "house"] (S_choose P w K) := w_choose B (use_choose X G c) h_best_heard h_send
  have h_deliver : Has P w K mg base 4 "deliver" ["roads", "holding", "at"] (S_deliver P w K) := w_deliver B (use_deliver X G c) h_choose
  have h_copied : Has P w K mg base 1 "copied" ["holding"] (S_copied P w K) := w_copied B (use_copied X G c)
  have h_fresh : Has P w K mg base 3 "fresh" ["guild", "broken"] (S_fresh P w K) := w_fresh B (use_fresh X G c) h_others_of h_send
  have h_grouped : Has P w K mg base 1 "grouped" ["letters"] (S_grouped P w K) := w_grouped B (use_grouped X G c)
  have h_roads_of : Has P w K mg base 1 "roads_of" ["many", "roads", "told"] (S_roads_of P w K) := w_roads_of B (use_roads_of X G c)
  have h_P_taken : PHas P w K mg base 1 (He.ga K "Post") "taken" ["self", "holding"] (S_P_taken P w K (He.ga K "Post")) := w_P_taken B Cc (use_P_taken X G c)
  have h_P_init : HasI P w K mg base 5 (He.ga K "Post") ["self", "guild", "broken"] [V.ref (kwAt ("Post", some "__init__") "broken" K)] (S_P_init P w K (He.ga K "Post")) := w_P_init B Cc (use_P_init X G c) h_is_guild h_fresh h_roads_of
  have h_P_stand : PHas P w K mg base 1 (He.ga K "Post") "stand" ["self"] (S_P_stand P w K (He.ga K "Post")) := w_P_stand B Cc (use_P_stand X G c)
  have h_P_waiting : PHas P w K mg base 2 (He.ga K "Post") "waiting" ["self"] (S_P_waiting P w K (He.ga K "Post")) := w_P_waiting B Cc (use_P_waiting X G c) h_grouped
  have h_P_len : PHas P w K mg base 1 (He.ga K "Post") "__len__" ["self"] (S_P_len P w K (He.ga K "Post")) := w_P_len B Cc (use_P_len X G c)
  have h_P_shape : PHas P w K mg base 1 (He.ga K "Post") "shape" ["self"] (S_P_shape P w K (He.ga K "Post")) := w_P_shape B Cc (use_P_shape X G c)
  have h_P_eq : PHas P w K mg base 2 (He.ga K "Post") "__eq__" ["self", "other"] (spEq (Alike P w K (He.ga K "Post"))) := w_P_eq B Cc (use_P_eq X G c) h_P_shape
  have h_P_read : PHas P w K mg base 5 (He.ga K "Post") "read" ["self", "sender", "reader"] (S_P_read P w K (He.ga K "Post")) := w_P_read B Cc (use_P_read X G c) h_is_number h_copied h_deliver h_P_taken
  have h_P_like : PHas P w K mg base 4 (He.ga K "Post") "like" ["self", "house", "ways"] (S_P_like P w K (He.ga K "Post")) := w_P_like B Cc (use_P_like X G c) h_is_number h_are_liked h_copied h_choose h_P_taken
  have h_all_turns : Has P w K mg base 1 "all_turns" ["many"] (S_all_turns P w K) := w_all_turns B (use_all_turns X G c)
  have h_all_made : Has P w K mg base 4 "all_made" ["guild", "stand", "turns"] (S_all_made P w K) := w_all_made B (use_all_made X G c) h_choices
  have h_graph_of : Has P w K mg base 5 "graph_of" ["guild", "most"] (S_graph_of P w K) := w_graph_of B (use_graph_of X G c) h_all_turns h_first_stand h_all_made
  have h_finished : Has P w K mg base 1 "finished" ["graph"] (S_finished P w K) := w_finished B (use_finished X G c)
  have h_flood : Has P w K mg base 1 "flood" ["back", "start", "place", "number"] (S_flood P w K) := w_flood B (use_flood X G c)
  have h_ranks_of : Has P w K mg base 2 "ranks_of" ["graph"] (S_ranks_of P w K) := w_ranks_of B (use_ranks_of X G c) h_finished h_flood
  have h_spared_houses : Has P w K mg base 5 "spared_houses" ["guild", "graph", "rank"] (S_spared_houses P w K) := w_spared_houses B (use_spared_houses X G c) h_is_steady
  have h_verdict : HasD P w K mg base 6 "verdict" ["guild", "most"] [.int 1000] (S_verdict P w K) := w_verdict B (use_verdict X G c) h_graph_of h_ranks_of h_spared_houses
  have h__law_cell : Has P w K mg base 1 "_law_cell" ["script", "k"] (S__law_cell P w K) := w__law_cell B (use__law_cell X G c)
  have h__law_draws : Has P w K mg base 2 "_law_draws" ["script", "k", "many", "base"] (S__law_draws P w K) := w__law_draws B (use__law_draws X G c) h__law_cell
  have h__law_walk : Has P w K mg base 1 "_law_walk" ["many", "roads", "house", "draws"] (S__law_walk P w K) := w__law_walk B (use__law_walk X G c)
  have h__law_ways : Has P w K mg base 2 "_law_ways" ["many", "roads", "house", "draws"] (S__law_ways P w K) := w__law_ways B (use__law_ways X G c) h__law_walk
  have h__law_roads : Has P w K mg base 1 "_law_roads" ["many", "draws", "share"] (S__law_roads P w K) := w__law_roads B (use__law_roads X G c)
  have h__law_drawn : Has P w K mg base 3 "_law_drawn" ["script", "at", "most"] (S__law_drawn P w K) := w__law_drawn B (use__law_drawn X G c) h__law_draws h__law_roads h__law_ways
  have h__law_gadget : Has P w K mg base 3 "_law_gadget" ["script", "at", "most"] (S__law_gadget P w K) := w__law_gadget B (use__law_gadget X G c) h__law_draws h__law_roads
  have h__law_guild : Has P w K mg base 4 "_law_guild" ["script", "at", "most"] (S__law_guild P w K) := w__law_guild B (use__law_guild X G c) h__law_draws h__law_gadget h__law_drawn
  have h__law_few : Has P w K mg base 5 "_law_few" ["script", "at", "most"] (S__law_few P w K) := w__law_few B (use__law_few X G c) h__law_guild
  have h__law_emptied : Has P w K mg base 6 "_law_emptied" ["post", "draws"] (S__law_emptied P w K (He.ga K "Post")) := w__law_emptied B Cc (use__law_emptied X G c) h_P_waiting h_P_read h_P_len
  exact w_law B Cc (fun H => emB_ok (and2 (and2 ex).1).1 H) (fun H => emB_ok (and2 (and2 ex).1).2 H) F h__law_few h__law_draws h_least_drop h_dropped h_P_init h_P_waiting h_P_read h_P_like h_P_stand h_P_eq h__law_emptied h_grown h_verdict
theorem facts {f : Addr} (X : K.In h) (G : h.Ns mainGlobals mg) (hfa : mg ("law" : Str) = some (.ref f)) (ex : exB K = true) (c : He.SaysD fa fn K) :
    ∃ fd : FuncData, (∀ (s : Shared) (v : Value), BindsTo s fd ⟨[v], []⟩ [("script", v)]) ∧ ∀ base : Heap, K.In base → base.Ns mainGlobals mg → FnOk P w K mg base CX0 7 f fd ["script"] (S_law P w K) := by
  obtain ⟨fd, F⟩ := c.def_ 60 (d := d_law) rfl
  have e := hfa.symm.trans (He.glo_ok X G (c.fact 60 (f := .glo "law") rfl))
  cases e
  have bd := FunD.bindsA (ps := ["script"]) F fun _ _ _ _ _ _ us hl => match us, hl with | [_], _ => rfl
  exact ⟨fd, fun s v => bd s [v] rfl, fun base _ _ => use_all X G ex c F⟩
end
end Lw
open PySem PySem.W PySem.Calls PyProof.Rows
theorem PySem.Challenge.cw_likedways_k70_whole_dropped_ways_let_it_holds : PySem.Challenge.rw_likedways_k70_whole_dropped_ways_let_it.Holds := by
  w_on; o_law
  refine HandSHeadRun.head_any (r := OpenLaw.row PySem.Challenge.rw_likedways_k70_whole_dropped_ways_let_it) (q := view (OpenLaw.row PySem.Challenge.rw_likedways_k70_whole_dropped_ways_let_it).prog [107]) (H := Lw.Hd.hk) (ob := Lw.Hd.ob) (M := 8000) (loose := Lw.loose) (d := HandSHeadRun.topDef (OpenLaw.row PySem.Challenge.rw_likedways_k70_whole_dropped_ways_let_it).prog 107) (kwd := []) Lw.Hd.ob_eq
    (by kernel_rfl) (fun s => by kernel_rfl) Lw.Hd.run (by kernel_rfl) (by kernel_rfl) (by kernel_rfl) (by rfl) (by first | assumption | decide +kernel) (by decide +kernel) ⟨rfl, rfl, rfl, rfl, rfl, by decide +kernel⟩ ?hw ?hc
  case hw => w_witness2
  case hc =>
    refine L2.walk_ofE (l := PySem.Challenge.rw_likedways_k70_whole_dropped_ways_let_it) (n := 63) (k := 7) (x := "script") (CX := L2.CX0) rfl (by decide) (by kernel_rfl) ⟨rfl, by decide, by decide⟩ ?F (fun _ _ _ _ z => z)
    intro w mg fa h Y G hmg0
    obtain ⟨K, KX, ex, c⟩ := Y
    have hmg : mg ("law" : PySem.Str) = some (.ref fa) := by
      have e : (HandSHeadRun.topDef (OpenLaw.row PySem.Challenge.rw_likedways_k70_whole_dropped_ways_let_it).prog 107).name = ("law" : PySem.Str) := by kernel_rfl
      rw [← e]
      exact hmg0
    obtain ⟨fd, hb, hF⟩ := Lw.facts (P := (PySem.Challenge.rw_likedways_k70_whole_dropped_ways_let_it).prog) (w := w) KX G hmg ex c
    exact ⟨K, fd, Lw.S_law _ w K, KX, hb, fun H a ns hl _ hS => ⟨a, rfl, ⟨ns, hS, hl⟩, fun _ => rfl⟩, hF⟩
end
