import PyProof.Rows.All
import Wide.All
import OpenK.AllK
import Wide.FinOn
import HandS.ForMost
import HandS.ForExc
import PySem.Challenge.RW_cardrings_k51_whole_once_in_order
import HandS.ExcInit
import HandS.ExcIs
import HandS.ExcField
import HandS.Defaults
import HandS.HeadHook1
import HandS.HeadHook2
import HandS.HeadHook3
import HandS.HeadHook4
import HandS.HeadWalk
import HandS.HeadEnd
import HandS.Head0
import HandS.Head1
import HandS.Head2
import HandS.TupAny
import HandS.TupMul
import HandS.TupLe
import HandS.Deep
import HandS.Style
import HandS.Wide
import HandS.Lambda
import HandS.Replace
import KE.KDictKeyed
import HandS.Iter
import HandS.Comp
import PyProof.Rows.CallKw2
import KE.GoesEnumKw
import HandS.DictTup
import HandS.Keys
import KE.SortKeyHeap
import KE.KSortKey
import HandS.Small
import HandS.More
set_option Elab.async false
set_option linter.all false
set_option maxRecDepth 100000
/-! CrTop -/
set_option maxHeartbeats 4000000
namespace CR
open PySem PySem.Spec L2
open PyProof.Rows hiding St
/-! ### the text by places -/
def top (i : Nat) : Stmt := PySem.Challenge.pw_cardrings_k51_whole_once_in_order.main.body.getD i (.Pass ⟨0, 0, 0, 0⟩)
abbrev s_NoPaper_init : Stmt := inClass (top 5) 0
abbrev s_NoPlace_init : Stmt := inClass (top 6) 0
abbrev s_NoStep_init : Stmt := inClass (top 7) 0
abbrev s_mix_of : Stmt := top 12
abbrev s_lane_of : Stmt := top 13
abbrev s_common : Stmt := top 15
abbrev s_ratio : Stmt := top 16
abbrev s_added : Stmt := top 17
abbrev s_times : Stmt := top 18
abbrev s_is_less : Stmt := top 19
abbrev s_lesser : Stmt := top 20
abbrev s_purse_filled : Stmt := top 23
abbrev s_owns : Stmt := top 25
abbrev s_count_on : Stmt := top 27
abbrev s_count_gap : Stmt := top 28
abbrev s_void_ring : Stmt := top 29
abbrev s_held_in : Stmt := top 30
abbrev s_laid : Stmt := top 31
abbrev s_put_in : Stmt := top 32
abbrev s_take_out : Stmt := top 33
abbrev s_void_lane : Stmt := top 45
abbrev s_half_of : Stmt := top 46
abbrev s_turned_at : Stmt := top 47
abbrev s_lane_turned : Stmt := top 48
abbrev s_by_talk : Stmt := top 49
abbrev s_with_talk : Stmt := top 50
abbrev s_owns_it : Stmt := top 51
abbrev s_sum_due : Stmt := top 55
abbrev s_is_right : Stmt := top 56
abbrev s_summed : Stmt := top 57
abbrev s_bent : Stmt := top 58
abbrev s_pieces_of : Stmt := top 59
abbrev s_going_on : Stmt := top 61
abbrev s_does_go_on : Stmt := top 62
abbrev s_does_begin : Stmt := top 63
abbrev s_with_part : Stmt := top 64
abbrev s_came_of : Stmt := top 65
abbrev s_page_at : Stmt := top 67
abbrev s_words_at : Stmt := top 68
abbrev s_written : Stmt := top 69
abbrev s_is_due : Stmt := top 73
abbrev s_look_at_lane : Stmt := top 75
abbrev s_polled : Stmt := top 76
abbrev s_unmasked : Stmt := top 77
abbrev s_ticked : Stmt := top 78
abbrev s_oldest_posted : Stmt := top 80
abbrev s_boxed : Stmt := top 81
abbrev s_why_not : Stmt := top 82
abbrev s_takes_whole : Stmt := top 83
abbrev s_comes_in : Stmt := top 84
abbrev s_put_or_full : Stmt := top 86
abbrev s_posts : Stmt := top 87
abbrev s__law_feed : Stmt := top 89
abbrev s__law_draw : Stmt := top 90
abbrev s__law_lane : Stmt := top 91
abbrev s__law_world : Stmt := top 92
abbrev s__law_said : Stmt := top 93
abbrev s__law_stretch : Stmt := top 94
abbrev s__law_some : Stmt := top 95
abbrev s__law_drawn : Stmt := top 96
abbrev s__law_letter : Stmt := top 97
abbrev s__law_piece : Stmt := top 98
abbrev s__law_program : Stmt := top 99
abbrev s__law_act : Stmt := top 100
abbrev s__law_value : Stmt := top 101
abbrev s__law_by_program : Stmt := top 102
abbrev s__law_done : Stmt := top 103
abbrev s__law_is_filled : Stmt := top 104
abbrev s_law : Stmt := top 105
end CR
/-! CrHead -/
set_option maxHeartbeats 0
namespace CR
open PySem PySem.Spec L2
open PyProof.Rows hiding St
def d_mix_of : He.DefD := ⟨("mix_of", none), "mix_of", "mix_of", defArgs s_mix_of, defBody s_mix_of, defScope s_mix_of, [], []⟩
def d_lane_of : He.DefD := ⟨("lane_of", none), "lane_of", "lane_of", defArgs s_lane_of, defBody s_lane_of, defScope s_lane_of, [], [("lanes", .int 2)]⟩
def d_common : He.DefD := ⟨("common", none), "common", "common", defArgs s_common, defBody s_common, defScope s_common, [], []⟩
def d_ratio : He.DefD := ⟨("ratio", none), "ratio", "ratio", defArgs s_ratio, defBody s_ratio, defScope s_ratio, [], []⟩
def d_added : He.DefD := ⟨("added", none), "added", "added", defArgs s_added, defBody s_added, defScope s_added, [], []⟩
def d_times : He.DefD := ⟨("times", none), "times", "times", defArgs s_times, defBody s_times, defScope s_times, [], []⟩
def d_is_less : He.DefD := ⟨("is_less", none), "is_less", "is_less", defArgs s_is_less, defBody s_is_less, defScope s_is_less, [], []⟩
def d_lesser : He.DefD := ⟨("lesser", none), "lesser", "lesser", defArgs s_lesser, defBody s_lesser, defScope s_lesser, [], []⟩
def d_purse_filled : He.DefD := ⟨("purse_filled", none), "purse_filled", "purse_filled", defArgs s_purse_filled, defBody s_purse_filled, defScope s_purse_filled, [], [("ticks", .int 1)]⟩
def d_owns : He.DefD := ⟨("owns", none), "owns", "owns", defArgs s_owns, defBody s_owns, defScope s_owns, [], []⟩
def d_count_on : He.DefD := ⟨("count_on", none), "count_on", "count_on", defArgs s_count_on, defBody s_count_on, defScope s_count_on, [], [("by", .int 1)]⟩
def d_count_gap : He.DefD := ⟨("count_gap", none), "count_gap", "count_gap", defArgs s_count_gap, defBody s_count_gap, defScope s_count_gap, [], []⟩
def d_void_ring : He.DefD := ⟨("void_ring", none), "void_ring", "void_ring", defArgs s_void_ring, defBody s_void_ring, defScope s_void_ring, [], []⟩
def d_held_in : He.DefD := ⟨("held_in", none), "held_in", "held_in", defArgs s_held_in, defBody s_held_in, defScope s_held_in, [], []⟩
def d_laid : He.DefD := ⟨("laid", none), "laid", "laid", defArgs s_laid, defBody s_laid, defScope s_laid, [], []⟩
def d_put_in : He.DefD := ⟨("put_in", none), "put_in", "put_in", defArgs s_put_in, defBody s_put_in, defScope s_put_in, [], []⟩
def d_take_out : He.DefD := ⟨("take_out", none), "take_out", "take_out", defArgs s_take_out, defBody s_take_out, defScope s_take_out, [], []⟩
def d_void_lane : He.DefD := ⟨("void_lane", none), "void_lane", "void_lane", defArgs s_void_lane, defBody s_void_lane, defScope s_void_lane, [], []⟩
def d_half_of : He.DefD := ⟨("half_of", none), "half_of", "half_of", defArgs s_half_of, defBody s_half_of, defScope s_half_of, [], [("purse", .glo "PURSE"), ("lanes", .int 2), ("size", .int 4)]⟩
def d_turned_at : He.DefD := ⟨("turned_at", none), "turned_at", "turned_at", defArgs s_turned_at, defBody s_turned_at, defScope s_turned_at, [], []⟩
def d_lane_turned : He.DefD := ⟨("lane_turned", none), "lane_turned", "lane_turned", defArgs s_lane_turned, defBody s_lane_turned, defScope s_lane_turned, [], []⟩
def d_by_talk : He.DefD := ⟨("by_talk", none), "by_talk", "by_talk", defArgs s_by_talk, defBody s_by_talk, defScope s_by_talk, [], []⟩
def d_with_talk : He.DefD := ⟨("with_talk", none), "with_talk", "with_talk", defArgs s_with_talk, defBody s_with_talk, defScope s_with_talk, [], []⟩
def d_owns_it : He.DefD := ⟨("owns_it", none), "owns_it", "owns_it", defArgs s_owns_it, defBody s_owns_it, defScope s_owns_it, [], []⟩
def d_sum_due : He.DefD := ⟨("sum_due", none), "sum_due", "sum_due", defArgs s_sum_due, defBody s_sum_due, defScope s_sum_due, [], []⟩
def d_is_right : He.DefD := ⟨("is_right", none), "is_right", "is_right", defArgs s_is_right, defBody s_is_right, defScope s_is_right, [], []⟩
def d_summed : He.DefD := ⟨("summed", none), "summed", "summed", defArgs s_summed, defBody s_summed, defScope s_summed, [], []⟩
def d_bent : He.DefD := ⟨("bent", none), "bent", "bent", defArgs s_bent, defBody s_bent, defScope s_bent, [], [("word", .int 0)]⟩
def d_pieces_of : He.DefD := ⟨("pieces_of", none), "pieces_of", "pieces_of", defArgs s_pieces_of, defBody s_pieces_of, defScope s_pieces_of, [], [("epoch", .int 0), ("cut", .int 4)]⟩
def d_going_on : He.DefD := ⟨("going_on", none), "going_on", "going_on", defArgs s_going_on, defBody s_going_on, defScope s_going_on, [], []⟩
def d_does_go_on : He.DefD := ⟨("does_go_on", none), "does_go_on", "does_go_on", defArgs s_does_go_on, defBody s_does_go_on, defScope s_does_go_on, [], []⟩
def d_does_begin : He.DefD := ⟨("does_begin", none), "does_begin", "does_begin", defArgs s_does_begin, defBody s_does_begin, defScope s_does_begin, [], []⟩
def d_with_part : He.DefD := ⟨("with_part", none), "with_part", "with_part", defArgs s_with_part, defBody s_with_part, defScope s_with_part, [], []⟩
def d_came_of : He.DefD := ⟨("came_of", none), "came_of", "came_of", defArgs s_came_of, defBody s_came_of, defScope s_came_of, [], []⟩
def d_page_at : He.DefD := ⟨("page_at", none), "page_at", "page_at", defArgs s_page_at, defBody s_page_at, defScope s_page_at, [], []⟩
def d_words_at : He.DefD := ⟨("words_at", none), "words_at", "words_at", defArgs s_words_at, defBody s_words_at, defScope s_words_at, [], []⟩
def d_written : He.DefD := ⟨("written", none), "written", "written", defArgs s_written, defBody s_written, defScope s_written, [], []⟩
def d_is_due : He.DefD := ⟨("is_due", none), "is_due", "is_due", defArgs s_is_due, defBody s_is_due, defScope s_is_due, [], []⟩
def d_look_at_lane : He.DefD := ⟨("look_at_lane", none), "look_at_lane", "look_at_lane", defArgs s_look_at_lane, defBody s_look_at_lane, defScope s_look_at_lane, [], []⟩
def d_polled : He.DefD := ⟨("polled", none), "polled", "polled", defArgs s_polled, defBody s_polled, defScope s_polled, [], []⟩
def d_unmasked : He.DefD := ⟨("unmasked", none), "unmasked", "unmasked", defArgs s_unmasked, defBody s_unmasked, defScope s_unmasked, [], [("most", .int 2), ("wait", .int 4)]⟩
def d_ticked : He.DefD := ⟨("ticked", none), "ticked", "ticked", defArgs s_ticked, defBody s_ticked, defScope s_ticked, [], [("most", .int 2), ("wait", .int 4)]⟩
def d_oldest_posted : He.DefD := ⟨("oldest_posted", none), "oldest_posted", "oldest_posted", defArgs s_oldest_posted, defBody s_oldest_posted, defScope s_oldest_posted, [], []⟩
def d_boxed : He.DefD := ⟨("boxed", none), "boxed", "boxed", defArgs s_boxed, defBody s_boxed, defScope s_boxed, [], []⟩
def d_why_not : He.DefD := ⟨("why_not", none), "why_not", "why_not", defArgs s_why_not, defBody s_why_not, defScope s_why_not, [], []⟩
def d_takes_whole : He.DefD := ⟨("takes_whole", none), "takes_whole", "takes_whole", defArgs s_takes_whole, defBody s_takes_whole, defScope s_takes_whole, [], []⟩
def d_comes_in : He.DefD := ⟨("comes_in", none), "comes_in", "comes_in", defArgs s_comes_in, defBody s_comes_in, defScope s_comes_in, [], [("most", .int 2), ("wait", .int 4)]⟩
def d_put_or_full : He.DefD := ⟨("put_or_full", none), "put_or_full", "put_or_full", defArgs s_put_or_full, defBody s_put_or_full, defScope s_put_or_full, [], []⟩
def d_posts : He.DefD := ⟨("posts", none), "posts", "posts", defArgs s_posts, defBody s_posts, defScope s_posts, [], []⟩
def d__law_feed : He.DefD := ⟨("_law_feed", none), "_law_feed", "_law_feed", defArgs s__law_feed, defBody s__law_feed, defScope s__law_feed, [], []⟩
def d__law_draw : He.DefD := ⟨("_law_draw", none), "_law_draw", "_law_draw", defArgs s__law_draw, defBody s__law_draw, defScope s__law_draw, [], []⟩
def d__law_lane : He.DefD := ⟨("_law_lane", none), "_law_lane", "_law_lane", defArgs s__law_lane, defBody s__law_lane, defScope s__law_lane, [], []⟩
def d__law_world : He.DefD := ⟨("_law_world", none), "_law_world", "_law_world", defArgs s__law_world, defBody s__law_world, defScope s__law_world, [], []⟩
def d__law_said : He.DefD := ⟨("_law_said", none), "_law_said", "_law_said", defArgs s__law_said, defBody s__law_said, defScope s__law_said, [], []⟩
def d__law_stretch : He.DefD := ⟨("_law_stretch", none), "_law_stretch", "_law_stretch", defArgs s__law_stretch, defBody s__law_stretch, defScope s__law_stretch, [], []⟩
def d__law_some : He.DefD := ⟨("_law_some", none), "_law_some", "_law_some", defArgs s__law_some, defBody s__law_some, defScope s__law_some, [], []⟩
def d__law_drawn : He.DefD := ⟨("_law_drawn", none), "_law_drawn", "_law_drawn", defArgs s__law_drawn, defBody s__law_drawn, defScope s__law_drawn, [], []⟩
def d__law_letter : He.DefD := ⟨("_law_letter", none), "_law_letter", "_law_letter", defArgs s__law_letter, defBody s__law_letter, defScope s__law_letter, [], []⟩
def d__law_piece : He.DefD := ⟨("_law_piece", none), "_law_piece", "_law_piece", defArgs s__law_piece, defBody s__law_piece, defScope s__law_piece, [], []⟩
def d__law_program : He.DefD := ⟨("_law_program", none), "_law_program", "_law_program", defArgs s__law_program, defBody s__law_program, defScope s__law_program, [], []⟩
def d__law_act : He.DefD := ⟨("_law_act", none), "_law_act", "_law_act", defArgs s__law_act, defBody s__law_act, defScope s__law_act, [], []⟩
def d__law_value : He.DefD := ⟨("_law_value", none), "_law_value", "_law_value", defArgs s__law_value, defBody s__law_value, defScope s__law_value, [], []⟩
def d__law_by_program : He.DefD := ⟨("_law_by_program", none), "_law_by_program", "_law_by_program", defArgs s__law_by_program, defBody s__law_by_program, defScope s__law_by_program, [], []⟩
def d__law_done : He.DefD := ⟨("_law_done", none), "_law_done", "_law_done", defArgs s__law_done, defBody s__law_done, defScope s__law_done, [], []⟩
def d__law_is_filled : He.DefD := ⟨("_law_is_filled", none), "_law_is_filled", "_law_is_filled", defArgs s__law_is_filled, defBody s__law_is_filled, defScope s__law_is_filled, [], []⟩
def d_law : He.DefD := ⟨("law", none), "law", "law", defArgs s_law, defBody s_law, defScope s_law, [], []⟩
def d_NoPaper_init : He.DefD := ⟨("NoPaper", some "__init__"), "__init__", "NoPaper.__init__", defArgs s_NoPaper_init, defBody s_NoPaper_init, defScope s_NoPaper_init, [], []⟩
def d_NoPlace_init : He.DefD := ⟨("NoPlace", some "__init__"), "__init__", "NoPlace.__init__", defArgs s_NoPlace_init, defBody s_NoPlace_init, defScope s_NoPlace_init, [], []⟩
def d_NoStep_init : He.DefD := ⟨("NoStep", some "__init__"), "__init__", "NoStep.__init__", defArgs s_NoStep_init, defBody s_NoStep_init, defScope s_NoStep_init, [], []⟩
def fnA : List He.DefD := [d_mix_of, d_lane_of, d_common, d_ratio, d_added, d_times, d_is_less, d_lesser, d_purse_filled, d_owns, d_count_on, d_count_gap, d_void_ring, d_held_in, d_laid, d_put_in, d_take_out, d_void_lane, d_half_of, d_turned_at, d_lane_turned, d_by_talk, d_with_talk, d_owns_it, d_sum_due, d_is_right, d_summed, d_bent, d_pieces_of, d_going_on, d_does_go_on, d_does_begin, d_with_part, d_came_of, d_page_at, d_words_at, d_written, d_is_due]
def fnB : List He.DefD := [d_look_at_lane, d_polled, d_unmasked, d_ticked, d_oldest_posted, d_boxed, d_why_not, d_takes_whole, d_comes_in, d_put_or_full, d_posts, d__law_feed, d__law_draw, d__law_lane, d__law_world, d__law_said, d__law_stretch, d__law_some, d__law_drawn, d__law_letter, d__law_piece, d__law_program, d__law_act, d__law_value, d__law_by_program, d__law_done, d__law_is_filled, d_law, d_NoPlace_init, d_NoStep_init]
def fn : List He.DefD := fnA ++ fnB
def faA : List He.Fa := [.glo "mix_of", .glo "lane_of", .glo "common", .glo "ratio", .glo "added", .glo "times", .glo "is_less", .glo "lesser", .glo "purse_filled", .glo "owns", .glo "count_on", .glo "count_gap", .glo "void_ring", .glo "held_in", .glo "laid", .glo "put_in", .glo "take_out", .glo "void_lane", .glo "half_of", .glo "turned_at", .glo "lane_turned", .glo "by_talk", .glo "with_talk", .glo "owns_it", .glo "sum_due", .glo "is_right", .glo "summed", .glo "bent", .glo "pieces_of", .glo "going_on", .glo "does_go_on", .glo "does_begin", .glo "with_part", .glo "came_of", .glo "page_at", .glo "words_at", .glo "written", .glo "is_due", .glo "look_at_lane", .glo "polled"]
def faB : List He.Fa := [.glo "unmasked", .glo "ticked", .glo "oldest_posted", .glo "boxed", .glo "why_not", .glo "takes_whole", .glo "comes_in", .glo "put_or_full", .glo "posts", .glo "_law_feed", .glo "_law_draw", .glo "_law_lane", .glo "_law_world", .glo "_law_said", .glo "_law_stretch", .glo "_law_some", .glo "_law_drawn", .glo "_law_letter", .glo "_law_piece", .glo "_law_program", .glo "_law_act", .glo "_law_value", .glo "_law_by_program", .glo "_law_done", .glo "_law_is_filled", .glo "law", .glo "CardError", .glo "PaperError", .glo "RingError", .glo "TextError", .glo "NoPaper", .glo "NoPlace", .glo "NoStep"]
def faC : List He.Fa := [.free "sum", .free "enumerate", .free "dict", .free "len", .free "tuple", .free "sorted", .free "range", .free "max", .free "isinstance", .free "int", .free "list", .int "LANES" 2, .int "MIXES" 1009, .str "SIGNS" "abcdefghijklmnopqrstuvwxyz", .int "SIZE" 4, .int "HALF_AT" 0, .int "LANES_AT" 1, .int "JOININGS_AT" 4, .int "STEERS_AT" 6, .int "PURSE_AT" 7, .int "INWARD_AT" 4, .int "BOX_AT" 5, .int "SINCE_AT" 6, .int "MASKED_AT" 7, .int "CUT" 4, .int "SUMS" 10007, .int "MOST" 2, .int "WAIT" 4]
def fa : List He.Fa := faA ++ (faB ++ faC)
def nm0 : List Str := ["CardError", "PaperError", "RingError", "TextError", "NoPaper", "NoPlace", "NoStep", "mix_of", "lane_of", "common", "ratio", "added", "times", "is_less", "lesser"]
def nm1 : List Str := ["purse_filled", "owns", "count_on", "count_gap", "void_ring", "held_in", "laid", "put_in", "take_out", "void_lane", "half_of", "turned_at", "lane_turned", "by_talk", "with_talk"]
def nm2 : List Str := ["owns_it", "sum_due", "is_right", "summed", "bent", "pieces_of", "going_on", "does_go_on", "does_begin", "with_part", "came_of", "page_at", "words_at", "written", "is_due"]
def nm3 : List Str := ["look_at_lane", "polled", "unmasked", "ticked", "oldest_posted", "boxed", "why_not", "takes_whole", "comes_in", "put_or_full", "posts", "_law_feed", "_law_draw", "_law_lane", "_law_world"]
def nm4 : List Str := ["_law_said", "_law_stretch", "_law_some", "_law_drawn", "_law_letter", "_law_piece", "_law_program", "_law_act", "_law_value", "_law_by_program", "_law_done", "_law_is_filled", "__name__", "LANES", "MIXES"]
def nm5 : List Str := ["SIGNS", "PURSE", "SIZE", "HALF_AT", "LANES_AT", "JOININGS_AT", "STEERS_AT", "PURSE_AT", "INWARD_AT", "BOX_AT", "SINCE_AT", "MASKED_AT", "CUT", "SUMS", "MOST"]
def nm6 : List Str := ["WAIT"]
def nms : List Str := nm0 ++ nm1 ++ nm2 ++ nm3 ++ nm4 ++ nm5 ++ nm6
def tf : List He.Defn := [("with_talk", none), ("_law_done", none)]
abbrev R : PySem.W.OpenRow := PySem.W.OpenLaw.row PySem.Challenge.rw_cardrings_k51_whole_once_in_order
/-! ### facts of the classes, looked at -/
section
variable {K : PySem.W.Frag} {C : Addr}
def clsB (K : PySem.W.Frag) (C : Addr) : Bool := match K.lookup C with
  | some ⟨.type c, _, .cls cd, ⟨[_, _, _, _, some (.builtin n), _]⟩⟩ => decide (c = "type") && (cd.hasDict && (!cd.hasDel && (decide (n = "ValueError.__new__") && (match cd.mro with
    | .ref b :: bm => decide (b = C) && PySem.HandSPX.refsVE bm
    | _ => false))))
  | _ => false
theorem clsB_ok (h : clsB K C = true) : ∃ nm q N bs bm sn sub ab col dd k0 k1 k2 k3 k5, K.lookup C = some (excClassObj nm q C N bs bm true sn sub ab col dd k0 k1 k2 k3 k5 "ValueError.__new__") ∧ PySem.HandSPX.refsVE bm = true := by
  unfold clsB at h
  split at h
  · rename_i c d cd k0 k1 k2 k3 n k5 q
    simp only [Bool.and_eq_true, decide_eq_true_eq, Bool.not_eq_true'] at h
    obtain ⟨e1, e2, e3, e4, e5⟩ := h
    obtain ⟨nm, bs, mro, ns, qn, hd, sn, sb, ab, col, dl⟩ := cd
    dsimp only at e2 e3 e5
    subst e1 e2 e3 e4
    cases mro with
    | nil => cases e5
    | cons y bm =>
      cases y with
      | ref b =>
        simp only [Bool.and_eq_true, decide_eq_true_eq] at e5
        obtain ⟨rfl, e7⟩ := e5
        exact ⟨nm, qn, ns, bs, bm, sn, sb, ab, col, d, k0, k1, k2, k3, k5, q, e7⟩
      | _ => cases e5
  · cases h
def oexB (K : PySem.W.Frag) (C : Addr) : Bool := clsB K C && (decide (PySem.W.findIn K (.ref C) "__setattr__" = some (some (.builtin "object.__setattr__"))) && (decide (PySem.W.subIn K (.ref C) (.type "BaseException") = some true) && (decide (PySem.W.typeIn K (.ref C) = some (.type "type")) && PySem.W.keepIn K (.ref C))))
theorem oexB_ok (h : oexB K C = true) : OexC K C := by
  unfold oexB at h
  simp only [Bool.and_eq_true, decide_eq_true_eq] at h
  obtain ⟨h1, h2, h3, h4, h5⟩ := h
  exact ⟨clsB_ok h1, h2, h3, h4, h5⟩
def excB (K : PySem.W.Frag) (C : Addr) : Bool := decide (PySem.W.findIn K (.ref C) "__class__" = some (some (.builtin "object.__class__"))) && (decide (PySem.W.specialIn K (.builtin "object.__class__") "__get__" = some (some (.builtin "getset_descriptor.__get__"))) && (decide (PySem.W.takesIn K (.builtin "object.__class__") = some true) && decide (PySem.W.mroIn K C (.type "object") = some true)))
theorem excB_ok (x : XfC K C) (h : excB K C = true) : ExcC K C := by
  unfold excB at h
  simp only [Bool.and_eq_true, decide_eq_true_eq] at h
  obtain ⟨h1, h2, h3, h4⟩ := h
  exact ⟨x.ga, x.gg, x.exC, x.hdC, h1, h2, h3, h4⟩
def rgB (K : PySem.W.Frag) (C : Addr) : Bool := PySem.W.readsIn K C (.type "type") && (decide (PySem.W.specialIn K (.ref C) "__getattribute__" = some (some (.builtin "type.__getattribute__"))) && (match PySem.W.findCls K (.ref C) (.type "type") "__init__" with
  | some (.val (.builtin n)) => decide (n = "ValueError.__init__")
  | _ => false))
def exB (K : PySem.W.Frag) (x : Str) : Bool := oexB K (He.ga K x) && (decide (PySem.W.findIn K (.ref (He.ga K x)) "word" = some none) && (decide (PySem.W.findIn K (.ref (He.ga K x)) "__init__" = some (some (.ref (He.ma K (He.ga K x) "__init__")))) && decide (PySem.W.typeIn K (.ref (He.ma K (He.ga K x) "__init__")) = some (.type "function"))))
def sdB (K : PySem.W.Frag) : Bool := decide (PySem.W.exmOne K (.ref (He.ga K "NoStep")) (.ref (He.ga K "CardError")) = some true) && (xfB K (He.ga K "NoStep") && (excB K (He.ga K "NoStep") && (decide (PySem.W.findIn K (.ref (He.ga K "NoStep")) "at" = some none) && (decide (PySem.W.kitOne K (.ref (He.ga K "NoStep")) (.ref (He.ga K "PaperError")) = some false) && (decide (PySem.W.kitOne K (.ref (He.ga K "NoStep")) (.ref (He.ga K "RingError")) = some true) && (decide (PySem.W.kitOne K (.ref (He.ga K "NoStep")) (.ref (He.ga K "TextError")) = some false) && decide (PySem.W.kitOne K (.ref (He.ga K "NoStep")) (.ref (He.ga K "NoStep")) = some true)))))))
def exA (K : PySem.W.Frag) : Bool := decide (PySem.W.exmOne K (.ref (He.ga K "NoPlace")) (.ref (He.ga K "NoPlace")) = some true)
def exT (K : PySem.W.Frag) : Bool := !decide ((He.cT K ("with_talk", none)).2 = (He.cT K ("_law_done", none)).2)
end
/-! ### what is looked at: what the module's names mean, the code and defaults of defs, the methods of classes, the library's own notes -/
def partsO : Obj → List Addr
  | ⟨_, _, .func fd, _⟩ => He.refV fd.code ++ (He.refV fd.defaults ++ He.refV fd.kwdefaults)
  | ⟨_, _, .cls cd, _⟩ => [cd.ns]
  | _ => []
def valsO : Obj → List Addr
  | ⟨_, _, .dict es _, _⟩ => es.toList.flatMap fun e => He.refV e.val
  | _ => []
def ofG (g : Addr → Option Obj) (k : Obj → List Addr) (as : List Addr) : List Addr := as.flatMap fun a => match g a with
  | some o => k o
  | none => []
def nsO : Obj → List Addr
  | ⟨_, _, .cls cd, _⟩ => [cd.ns]
  | _ => []
def looked (g : Addr → Option Obj) : List Addr :=
  let l1 := ofG g valsO [mainGlobals]
  let l3 := ofG g valsO (ofG g nsO l1)
  cStatics :: mainGlobals :: (l1 ++ (ofG g partsO l1 ++ (l3 ++ ofG g partsO l3)))
def obS (fa : List He.Fa) (fn : List He.DefD) (tf : List He.Defn) (ex : PySem.W.Frag → Bool) (g : Addr → Option Obj) : He.AlX := (He.obsT fa fn [] (He.frT g (looked g)), ex (He.frT g (looked g)) && He.tabsB g tf (He.frT g (looked g)))
theorem says_frag {fa : List He.Fa} {fn : List He.DefD} {ts : List He.Tab} {tf : List He.Defn} {ex : PySem.W.Frag → Bool} {w : World} {h : Heap} {as : List Addr} (e1 : He.obsT fa fn ts (He.frT h.get? as) = He.valT fn ts w) (e2 : (ex (He.frT h.get? as) && He.tabsB h.get? tf (He.frT h.get? as)) = true) : He.SaysX fa fn ts tf ex w h (He.frT h.get? as) := by
  obtain ⟨x1, x2⟩ := Bool.and_eq_true_iff.mp e2
  have one : ∀ d ∈ tf, PySem.W.codeHdIn (He.frT h.get? as) (He.cT (He.frT h.get? as) d).1 (He.cT (He.frT h.get? as) d).2 = true ∧ ∃ u, h.get? (He.cT (He.frT h.get? as) d).2 = some u ∧ He.emptyTab u = true := fun d hd => by
    have y := List.all_eq_true.mp x2 d hd
    rw [Bool.and_eq_true] at y
    refine ⟨y.1, ?_⟩
    have y2 := y.2
    split at y2
    · rename_i u hu
      exact ⟨u, hu, y2⟩
    · cases y2
  exact { t := e1, more := x1, hd := fun d m => (one d m).1, out := fun d m => (one d m).2.elim fun u q => He.frT_none q.1 q.2, empty := fun d m => (one d m).2.elim fun u q => by rw [q.1, He.emptyTab_eq q.2] }
def hookS (fa : List He.Fa) (fn : List He.DefD) (tf : List He.Defn) (ex : PySem.W.Frag → Bool) : PySem.W.Hook where
  α := He.AlX
  val := He.valX fn []
  obs := fun s => obS fa fn tf ex s.heap.get?
  says := fun w h => ∃ K : PySem.W.Frag, He.SaysX fa fn [] tf ex w h K ∧ K.In h
  of := fun w s e => ⟨_, says_frag (congrArg Prod.fst e) (congrArg Prod.snd e), He.frT_in⟩
  keeps := fun _ _ _ ⟨K, c, hK⟩ k => ⟨K, { t := c.t, more := c.more, hd := c.hd, out := c.out, empty := fun d m => k _ _ (c.empty d m) }, hK.keeps k⟩
def ex (K : PySem.W.Frag) : Bool := rgB K (He.ga K "RingError") && (exB K "NoPlace" && (exB K "NoStep" && (sdB K && (exA K && exT K))))
abbrev hk : PySem.W.Hook := hookS fa fn tf ex
def ob (s : PySem.W.SharedT) : He.AlX := obS fa fn tf ex (HandSHeadRun.getT s)
theorem ob_eq (s : PySem.W.SharedT) : ob s = hk.obs s.abs := by
  have e : HandSHeadRun.getT s = s.abs.heap.get? := funext fun a => HandSHeadRun.getT_eq s a
  unfold ob
  rw [e] <;> rfl
theorem run (w : World) : HandSHeadRun.RunEq R (PySem.W.view R.prog [105]) hk ob 6000 nms w := by
  intro os
  kernel_rfl
end CR
/-! CrA -/
set_option maxHeartbeats 4000000
namespace CR
open PySem PySem.Spec L2
open PyProof.Rows hiding St
abbrev D := PyData
abbrev DEnv := List (Option D)
/-! ### data in the abstract heap: nested tuples that never change -/
mutual
inductive Is (H : Hp) : V → D → Prop
  | non : Is H .non .none
  | bl (b : Bool) : Is H (.bl b) (.bool b)
  | int (i : Int) : Is H (.int i) (.int i)
  | str (x : Str) : Is H (.str x) (.str x)
  | tup {a : Addr} {xs : List V} {ds : List D} : H a = some (.tup xs) → IsAll H xs ds → Is H (.ref a) (.tuple ds)
  /-- a tuple that is known to have no dict of its own: told as a list -/
  | pl {a : Addr} {o : Obj} {xs : List V} {ds : List D} : H a = some (.frz o (.tup xs)) → o.dict = none → IsAll H xs ds → Is H (.ref a) (.list ds)
inductive IsAll (H : Hp) : List V → List D → Prop
  | nil : IsAll H [] []
  | cons {v : V} {vs : List V} {d : D} {ds : List D} : Is H v d → IsAll H vs ds → IsAll H (v :: vs) (d :: ds)
end
/-- tuples stay -/
def Tups (H H' : Hp) : Prop := (∀ a xs, H a = some (.tup xs) → H' a = some (.tup xs)) ∧ ∀ a o xs, H a = some (.frz o (.tup xs)) → H' a = some (.frz o (.tup xs))
mutual
theorem Is.mono {H H' : Hp} (t : Tups H H') : ∀ (d : D) (v : V), Is H v d → Is H' v d
  | .none, _, h => by cases h; exact .non
  | .bool b, _, h => by cases h; exact .bl b
  | .int i, _, h => by cases h; exact .int i
  | .str x, _, h => by cases h; exact .str x
  | .tuple ds, _, h => by
    cases h with
    | tup h1 h2 => exact .tup (t.1 _ _ h1) (IsAll.mono t ds _ h2)
  | .list ds, _, h => by
    cases h with
    | pl h1 h2 h3 => exact .pl (t.2 _ _ _ h1) h2 (IsAll.mono t ds _ h3)
  | .dict _, _, h => by cases h
theorem IsAll.mono {H H' : Hp} (t : Tups H H') : ∀ (ds : List D) (vs : List V), IsAll H vs ds → IsAll H' vs ds
  | [], _, h => by cases h; exact .nil
  | d :: ds, _, h => by
    cases h with
    | cons h1 h2 => exact .cons (Is.mono t d _ h1) (IsAll.mono t ds _ h2)
end
mutual
/-- no such tuple in it -/
def noL : D → Bool
  | .none => true
  | .bool _ => true
  | .int _ => true
  | .str _ => true
  | .tuple ds => noLs ds
  | .list _ => false
  | .dict _ => false
def noLs : List D → Bool
  | [] => true
  | d :: ds => noL d && noLs ds
end
mutual
theorem Is.dp {K : PySem.W.Frag} {H : Hp} : ∀ (d : D) (v : V), Is H v d → noL d = true → Dp K H v d
  | .none, _, h, _ => by cases h; exact .non
  | .bool b, _, h, _ => by cases h; exact .bl b
  | .int i, _, h, _ => by cases h; exact .int i
  | .str x, _, h, _ => by cases h; exact .str x
  | .tuple ds, _, h, n => by
    cases h with
    | tup h1 h2 => exact .tup (SqT.of h1) (IsAll.dp ds _ h2 (by unfold noL at n; exact n))
  | .list _, _, h, n => by unfold noL at n; cases n
  | .dict _, _, h, _ => by cases h
theorem IsAll.dp {K : PySem.W.Frag} {H : Hp} : ∀ (ds : List D) (vs : List V), IsAll H vs ds → noLs ds = true → DpAll K H vs ds
  | [], _, h, _ => by cases h; exact .nil
  | d :: ds, _, h, n => by
    unfold noLs at n
    rw [Bool.and_eq_true] at n
    cases h with
    | cons h1 h2 => exact .cons (Is.dp d _ h1 n.1) (IsAll.dp ds _ h2 n.2)
end
section
variable {H : Hp} {vs : List V} {ds : List D}
theorem IsAll.length : ∀ {vs : List V} {ds : List D}, IsAll H vs ds → vs.length = ds.length
  | _, _, .nil => rfl
  | _, _, .cons _ t => congrArg (· + 1) (IsAll.length t)
theorem IsAll.get : ∀ {vs : List V} {ds : List D} {i : Nat} {d : D}, IsAll H vs ds → ds[i]? = some d → ∃ v, vs[i]? = some v ∧ Is H v d
  | _, _, _, _, .nil, e => by simp at e
  | _, _, 0, d, .cons h _, e => by
    simp at e
    subst e
    exact ⟨_, rfl, h⟩
  | _, _, i + 1, d, .cons _ t, e => by
    obtain ⟨v, h1, h2⟩ := IsAll.get (i := i) t (by simpa using e)
    exact ⟨v, by simpa using h1, h2⟩
theorem IsAll.getV : ∀ {vs : List V} {ds : List D} {i : Nat} {v : V}, IsAll H vs ds → vs[i]? = some v → ∃ d, ds[i]? = some d ∧ Is H v d
  | _, _, _, _, .nil, e => by simp at e
  | _, _, 0, v, .cons h _, e => by
    simp at e
    subst e
    exact ⟨_, rfl, h⟩
  | _, _, i + 1, v, .cons _ t, e => by
    obtain ⟨d, h1, h2⟩ := IsAll.getV (i := i) t (by simpa using e)
    exact ⟨d, by simpa using h1, h2⟩
theorem IsAll.append : ∀ {vs ws : List V} {ds es : List D}, IsAll H vs ds → IsAll H ws es → IsAll H (vs ++ ws) (ds ++ es)
  | _, _, _, _, .nil, s => s
  | _, _, _, _, .cons h t, s => .cons h (IsAll.append t s)
theorem IsAll.take : ∀ (n : Nat) {vs : List V} {ds : List D}, IsAll H vs ds → IsAll H (vs.take n) (ds.take n)
  | 0, _, _, _ => .nil
  | _ + 1, _, _, .nil => .nil
  | n + 1, _, _, .cons h t => .cons h (IsAll.take n t)
theorem IsAll.drop : ∀ (n : Nat) {vs : List V} {ds : List D}, IsAll H vs ds → IsAll H (vs.drop n) (ds.drop n)
  | 0, _, _, h => h
  | _ + 1, _, _, .nil => .nil
  | n + 1, _, _, .cons _ t => IsAll.drop n t
theorem IsAll.rep {v : V} {d : D} (h : Is H v d) : ∀ n : Nat, IsAll H (List.replicate n v) (List.replicate n d)
  | 0 => .nil
  | n + 1 => .cons h (IsAll.rep h n)
theorem IsAll.flat {vs : List V} {ds : List D} (h : IsAll H vs ds) : ∀ n : Nat, IsAll H (List.replicate n vs).flatten (List.replicate n ds).flatten
  | 0 => .nil
  | n + 1 => by
    rw [List.replicate_succ, List.replicate_succ, List.flatten_cons, List.flatten_cons]
    exact h.append (IsAll.flat h n)
theorem IsAll.ints : ∀ {vs : List V} {ns : List Int}, IsAll H vs (ns.map PyData.int) → vs = ns.map V.int
  | _, [], h => by cases h; rfl
  | _, n :: ns, h => by
    cases h with
    | cons h1 h2 =>
      cases h1
      rw [IsAll.ints h2]
      rfl
end
/-- the tuple's place and its items -/
theorem Is.tupE {H : Hp} {v : V} {ds : List D} (h : Is H v (.tuple ds)) : ∃ a xs, v = .ref a ∧ H a = some (.tup xs) ∧ IsAll H xs ds := by
  cases h with
  | tup h1 h2 => exact ⟨_, _, rfl, h1, h2⟩
theorem Is.intE {H : Hp} {v : V} {i : Int} (h : Is H v (.int i)) : v = .int i := by cases h; rfl
theorem Is.strE {H : Hp} {v : V} {x : Str} (h : Is H v (.str x)) : v = .str x := by cases h; rfl
theorem Is.blE {H : Hp} {v : V} {b : Bool} (h : Is H v (.bool b)) : v = .bl b := by cases h; rfl
theorem Is.nonE {H : Hp} {v : V} (h : Is H v .none) : v = .non := by cases h; rfl
/-! ### how heaps go on: all that is tracked stays, but tables of code objects grow -/
structure Ext (T : List (Addr × Str)) (H H' : Hp) : Prop where
  keep : LamX.ExtN H H'
  tabs : LamX.Tabs T H → LamX.Tabs T H'
theorem Ext.refl (T : List (Addr × Str)) (H : Hp) : Ext T H H := ⟨LamX.ExtN.refl H, id⟩
theorem Ext.trans {T : List (Addr × Str)} {H H1 H2 : Hp} (a : Ext T H H1) (b : Ext T H1 H2) : Ext T H H2 := ⟨a.keep.trans b.keep, fun t => b.tabs (a.tabs t)⟩
theorem Ext.same {T : List (Addr × Str)} {H H' : Hp} (e : Same H H') : Ext T H H' := ⟨LamX.ExtN.of e, fun t => t.ext e⟩
theorem same_upd {H : Hp} {p : Addr} {o : HO} (n : H p = none) : Same H (upd H p o) := fun b u e => by rw [upd_ne (ne_of_none e n)]; exact e
theorem Ext.new {T : List (Addr × Str)} {H : Hp} {p : Addr} {o : HO} (n : H p = none) : Ext T H (upd H p o) := .same (same_upd n)
theorem Ext.tups {T : List (Addr × Str)} {H H' : Hp} (e : Ext T H H') : Tups H H' := ⟨fun a xs h => e.keep a _ h (fun ps z => by cases z), fun a o xs h => e.keep a _ h (fun ps z => by cases z)⟩
theorem tups_new {H : Hp} {p : Addr} {o : HO} (n : H p = none) : Tups H (upd H p o) := (Ext.new (T := []) n).tups
theorem Ext.is {T : List (Addr × Str)} {H H' : Hp} (e : Ext T H H') {v : V} {d : D} (h : Is H v d) : Is H' v d := h.mono e.tups
theorem Ext.all {T : List (Addr × Str)} {H H' : Hp} (e : Ext T H H') {vs : List V} {ds : List D} (h : IsAll H vs ds) : IsAll H' vs ds := h.mono e.tups
theorem Ext.ne {T : List (Addr × Str)} {H H' : Hp} (e : Ext T H H') {a p : Addr} {o : HO} (h : H a = some o) (n : ∀ ps, o ≠ .tbl ps) (hp : H' p = none) : a ≠ p := ne_of_none (e.keep a o h n) hp
/-! ### slots -/
def EnvIs (H : Hp) (σ : St) (ρ : DEnv) : Prop := σ.length = ρ.length ∧ ∀ (i : Nat) (d : D), ρ[i]? = some (some d) → ∃ v, σ[i]? = some (some v) ∧ Is H v d
theorem EnvIs.mono {H H' : Hp} {σ : St} {ρ : DEnv} (h : EnvIs H σ ρ) (t : Tups H H') : EnvIs H' σ ρ := ⟨h.1, fun i d e => let ⟨v, h1, h2⟩ := h.2 i d e; ⟨v, h1, h2.mono t⟩⟩
theorem EnvIs.set {H : Hp} {σ : St} {ρ : DEnv} (h : EnvIs H σ ρ) (i : Nat) {v : V} {d : D} (hv : Is H v d) : EnvIs H (σ.set i (some v)) (ρ.set i (some d)) := by
  refine ⟨by simpa using h.1, fun j e q => ?_⟩
  by_cases hj : i = j
  · subst hj
    have hl : i < ρ.length := by
      have := (List.getElem?_eq_some_iff.mp q).1
      simpa using this
    rw [List.getElem?_set_self hl] at q
    cases q
    exact ⟨v, by rw [List.getElem?_set_self (by rw [h.1]; exact hl)], hv⟩
  · rw [List.getElem?_set_ne hj] at q
    obtain ⟨w, h1, h2⟩ := h.2 j e q
    exact ⟨w, by rw [List.getElem?_set_ne hj]; exact h1, h2⟩
theorem EnvIs.forget {H : Hp} {σ : St} {ρ : DEnv} (h : EnvIs H σ ρ) (i : Nat) (x : Option V) : EnvIs H (σ.set i x) (ρ.set i none) := by
  refine ⟨by simpa using h.1, fun j e q => ?_⟩
  by_cases hj : i = j
  · subst hj
    have hl : i < ρ.length := by
      have := (List.getElem?_eq_some_iff.mp q).1
      simpa using this
    rw [List.getElem?_set_self hl] at q
    cases q
  · rw [List.getElem?_set_ne hj] at q
    obtain ⟨w, h1, h2⟩ := h.2 j e q
    exact ⟨w, by rw [List.getElem?_set_ne hj]; exact h1, h2⟩
def wipeD (ρ : DEnv) : List Nat → DEnv
  | [] => ρ
  | v :: vs => (wipeD ρ vs).set v none
theorem EnvIs.wipe {H : Hp} {σ : St} {ρ : DEnv} (h : EnvIs H σ ρ) : ∀ vs : List Nat, EnvIs H (wipe σ vs) (wipeD ρ vs)
  | [] => h
  | v :: vs => (EnvIs.wipe h vs).forget v none
def startD (n : Nat) (ds : List D) : DEnv := ds.map some ++ List.replicate (n - ds.length) none
theorem EnvIs.start {H : Hp} {N : List Str} {vs : List V} {ds : List D} (h : IsAll H vs ds) : EnvIs H (start N vs) (startD N.length ds) := by
  refine ⟨?_, fun i d e => ?_⟩
  · unfold L2.start startD
    rw [List.length_append, List.length_append, List.length_map, List.length_map, List.length_replicate, List.length_replicate, h.length]
  · unfold startD at e
    by_cases hi : i < (ds.map some).length
    · rw [List.getElem?_append_left hi, List.getElem?_map] at e
      cases q : ds[i]? with
      | none => rw [q] at e; cases e
      | some d' =>
        rw [q] at e
        cases e
        obtain ⟨v, h1, h2⟩ := h.get q
        refine ⟨v, ?_, h2⟩
        unfold L2.start
        rw [List.getElem?_append_left (by rw [List.length_map, h.length]; simpa using hi), List.getElem?_map, h1]
        rfl
    · rw [List.getElem?_append_right (Nat.le_of_not_lt hi)] at e
      have := List.mem_of_getElem? e
      rw [List.mem_replicate] at this
      cases this.2
/-! ### the readings over data -/
def tD (T : List (Addr × Str)) (f : DEnv → Option D) : TE := fun σ H Q => ∃ ρ d, LamX.Tabs T H ∧ EnvIs H σ ρ ∧ f ρ = some d ∧ ∀ v H', Ext T H H' → Is H' v d → Q v H'
def tDT (T : List (Addr × Str)) (f : DEnv → Option Bool) : TT := fun σ H Q => ∃ ρ b, LamX.Tabs T H ∧ EnvIs H σ ρ ∧ f ρ = some b ∧ ∀ H', Ext T H H' → Q b H'
def tDA (T : List (Addr × Str)) (f : DEnv → Option (List D)) : TA := fun σ H Q => ∃ ρ ds, LamX.Tabs T H ∧ EnvIs H σ ρ ∧ f ρ = some ds ∧ ∀ vs H', Ext T H H' → IsAll H' vs ds → Q vs H'
inductive Res where
  | nx (ρ : DEnv)
  | rt (d : D)
def Res.to (T : List (Addr × Str)) (D' : Ends) (H : Hp) : Res → Prop
  | .nx ρ' => ∀ σ' H', Ext T H H' → EnvIs H' σ' ρ' → D'.nx σ' H'
  | .rt d => ∀ v H', Ext T H H' → Is H' v d → D'.rt v H'
abbrev Stm := DEnv → Option Res
def tSD (T : List (Addr × Str)) (F : Stm) : TS := fun D' σ H => ∃ ρ r, LamX.Tabs T H ∧ EnvIs H σ ρ ∧ F ρ = some r ∧ r.to T D' H
/-- a promise over data -/
def spD (T : List (Addr × Str)) (n : Nat) (m : List D → Option D) : Sp := fun vs H Q _ => ∃ ds d, ds.length = n ∧ LamX.Tabs T H ∧ IsAll H vs ds ∧ m ds = some d ∧ ∀ v H', Ext T H H' → Is H' v d → Q v H'
theorem pe_weak {X : Cx} {e : Expr} {t t' : TE} (h : PE X e t) (hw : ∀ σ H Q, t' σ H Q → t σ H Q) : PE X e t' := ⟨fun pins s σ H Q I q => h.run pins s σ H Q I (hw _ _ _ q)⟩
theorem pt_weak {X : Cx} {e : Expr} {t t' : TT} (h : PT X e t) (hw : ∀ σ H Q, t' σ H Q → t σ H Q) : PT X e t' := ⟨fun pins s σ H Q I q => h.run pins s σ H Q I (hw _ _ _ q)⟩
theorem pw_weak {X : Cx} {e : Expr} {t t' : TT} (h : PW X e t) (hw : ∀ σ H Q, t' σ H Q → t σ H Q) : PW X e t' := ⟨fun wh pins s σ H Q I q => h.run wh pins s σ H Q I (hw _ _ _ q)⟩
theorem pa_weak {X : Cx} {es : List Expr} {t t' : TA} (h : PA X es t) (hw : ∀ σ H Q, t' σ H Q → t σ H Q) : PA X es t' := ⟨fun pos pins s σ H Q I q => h.run pos pins s σ H Q I (hw _ _ _ q)⟩
theorem ps_weak {X : Cx} {st : Stmt} {t t' : TS} (h : PS X st t) (hw : ∀ E σ H, t' E σ H → t E σ H) : PS X st t' := ⟨fun pins s σ H E I q => h.run pins s σ H E I (hw _ _ _ q)⟩
theorem pss_weak {X : Cx} {st : List Stmt} {t t' : TS} (h : PSs X st t) (hw : ∀ E σ H, t' E σ H → t E σ H) : PSs X st t' := ⟨fun pins s σ H E I q => h.run pins s σ H E I (hw _ _ _ q)⟩
theorem pg_weak {X : Cx} {e : Expr} {t t' : TG} (h : PG X e t) (hw : ∀ v σ H Q, t' v σ H Q → t v σ H Q) : PG X e t' := ⟨fun pins s σ H v u Q I r q => h.run pins s σ H v u Q I r (hw _ _ _ _ q)⟩
/-! ### expressions -/
section
variable {X : Cx} {T : List (Addr × Str)} {a b c e : Expr} {es : List Expr} {pos : Pos}
def eVar (i : Nat) : DEnv → Option D := fun ρ => match ρ[i]? with
  | some (some d) => some d
  | _ => none
theorem dv (i : Nat) {x : Str} {pos : Pos} (hN : X.N[i]? = some x := by rfl) (hv : Vis X.env.scope x := by first | exact Or.inl rfl | exact Or.inr (Or.inl rfl) | exact Or.inr (Or.inr rfl)) (hd : (x == ("__debug__" : Str)) = false := by decide)
    (hcd : (x == ("__classdict__" : Str)) = false := by decide) : PE X (.Name x pos) (tD T (eVar i)) := by
  refine pe_weak (pe_var hN hv hd hcd) fun σ H Q ⟨ρ, d, t, en, f, q⟩ => ?_
  unfold eVar at f
  split at f
  · rename_i d' hd'
    cases f
    obtain ⟨v, h1, h2⟩ := en.2 i _ hd'
    exact ⟨v, h1, q v H (.refl _ _) h2⟩
  · cases f
def eC (d : D) : DEnv → Option D := fun _ => some d
theorem de_int {i : Int} {j : Nat} : PE X (.Constant (.int i) j pos) (tD T (eC (.int i))) := pe_weak pe_int fun σ H Q ⟨ρ, d, t, en, f, q⟩ => by cases f; exact q _ H (.refl _ _) (.int i)
theorem de_bl {b : Bool} {j : Nat} : PE X (.Constant (.bool b) j pos) (tD T (eC (.bool b))) := pe_weak pe_bl fun σ H Q ⟨ρ, d, t, en, f, q⟩ => by cases f; exact q _ H (.refl _ _) (.bl b)
theorem de_non {j : Nat} : PE X (.Constant .none j pos) (tD T (eC .none)) := pe_weak pe_non fun σ H Q ⟨ρ, d, t, en, f, q⟩ => by cases f; exact q _ H (.refl _ _) .non
theorem de_str {x : Str} {j : Nat} : PE X (.Constant (.str x) j pos) (tD T (eC (.str x))) := pe_weak pe_str fun σ H Q ⟨ρ, d, t, en, f, q⟩ => by cases f; exact q _ H (.refl _ _) (.str x)
/-- a module's int, text -/
theorem de_gint {x : Str} {i : Int} (h : ∃ t, X.mg x = some (.int i t)) (hg : Gl X x := by rfl) (hd : (x == ("__debug__" : Str)) = false := by decide) : PE X (.Name x pos) (tD T (eC (.int i))) := by
  obtain ⟨t, h⟩ := h
  exact pe_weak (pe_glob (v := .int i) hg h ⟨t, rfl⟩ hd) fun σ H Q ⟨ρ, d, t, en, f, q⟩ => by cases f; exact q _ H (.refl _ _) (.int i)
theorem de_gstr {x z : Str} (h : ∃ t, X.mg x = some (.str z t)) (hg : Gl X x := by rfl) (hd : (x == ("__debug__" : Str)) = false := by decide) : PE X (.Name x pos) (tD T (eC (.str z))) := by
  obtain ⟨t, h⟩ := h
  exact pe_weak (pe_glob (v := .str z) hg h ⟨t, rfl⟩ hd) fun σ H Q ⟨ρ, d, t, en, f, q⟩ => by cases f; exact q _ H (.refl _ _) (.str z)
/-- a two-place operation over data -/
abbrev Op2 := D → D → Option D
def OpD (r : R2) (g : Op2) : Prop := ∀ (T : List (Addr × Str)) (H : Hp) (v w : V) (x y d : D) (Q : VK), Is H v x → Is H w y → g x y = some d → (∀ u H', Ext T H H' → Is H' u d → Q u H') → r v w H Q
def eBin (g : Op2) (fa fb : DEnv → Option D) : DEnv → Option D := fun ρ => (fa ρ).bind fun x => (fb ρ).bind fun y => g x y
theorem tD_bin {r : R2} {g : Op2} {fa fb : DEnv → Option D} (hg : OpD r g) (σ : St) (H : Hp) (Q : VK) (h : tD T (eBin g fa fb) σ H Q) : tOp r (tD T fa) (tD T fb) σ H Q := by
  obtain ⟨ρ, d, t, en, f, q⟩ := h
  unfold eBin at f
  obtain ⟨x, hx, f⟩ := Option.bind_eq_some_iff.mp f
  obtain ⟨y, hy, f⟩ := Option.bind_eq_some_iff.mp f
  exact ⟨ρ, x, t, en, hx, fun v H1 e1 i1 => ⟨ρ, y, e1.tabs t, en.mono e1.tups, hy, fun w H2 e2 i2 => hg T H2 v w x y d Q (e2.is i1) i2 f fun u H3 e3 i3 => q u H3 ((e1.trans e2).trans e3) i3⟩⟩
theorem de_bin {op : Operator} {r : R2} {g : Op2} {fa fb : DEnv → Option D} (ho : OpR X (binaryOp op) r) (hg : OpD r g) (ha : PE X a (tD T fa)) (hb : PE X b (tD T fb)) : PE X (.BinOp a op b pos) (tD T (eBin g fa fb)) :=
  pe_weak (pe_op ho ha hb) (tD_bin hg)
theorem de_cmp {op : CmpOp} {r : R2} {g : Op2} {fa fb : DEnv → Option D} (ho : OpR X (compareOp op) r) (hg : OpD r g) (ha : PE X a (tD T fa)) (hb : PE X b (tD T fb)) (hm : behindInMarks op b = false) : PE X (.Compare a [op] [b] pos) (tD T (eBin g fa fb)) :=
  pe_weak (pe_cmpR ho ha hb hm) (tD_bin hg)
/-- a value's bool -/
def bOf : D → Option Bool
  | .bool b => some b
  | _ => none
def tOf (f : DEnv → Option D) : DEnv → Option Bool := fun ρ => (f ρ).bind bOf
theorem dt_cmp {op : CmpOp} {r : R2} {g : Op2} {fa fb : DEnv → Option D} (ho : OpR X (compareOp op) r) (hg : OpD r g) (ha : PE X a (tD T fa)) (hb : PE X b (tD T fb)) (hm : behindInMarks op b = false) : PT X (.Compare a [op] [b] pos) (tDT T (tOf (eBin g fa fb))) := by
  refine pt_weak (pt_cmpR ho ha hb hm) fun σ H Q ⟨ρ, k, t, en, f, q⟩ => ?_
  unfold tOf at f
  obtain ⟨x, hx, f⟩ := Option.bind_eq_some_iff.mp f
  cases x <;> try cases f
  exact tD_bin hg σ H _ ⟨ρ, _, t, en, hx, fun v H' e i => ⟨_, i.blE, q H' e⟩⟩
theorem dt_val {f : DEnv → Option D} (h : PE X e (tD T f)) (he : ∀ whole, isTrue e X.env whole = (do let v ← whole; standAt e.pos; holding [v] (truthy v)) := by intro _; rfl) : PT X e (tDT T (tOf f)) := by
  refine pt_weak (pt_val h he) fun σ H Q ⟨ρ, k, t, en, g, q⟩ => ?_
  unfold tOf at g
  obtain ⟨x, hx, g⟩ := Option.bind_eq_some_iff.mp g
  cases x <;> try cases g
  exact ⟨ρ, _, t, en, hx, fun v H' e i => ⟨_, i.blE, q H' e⟩⟩
def tNt (f : DEnv → Option Bool) : DEnv → Option Bool := fun ρ => (f ρ).map not
theorem dt_not {f : DEnv → Option Bool} (h : PT X a (tDT T f)) : PT X (.UnaryOp .Not a pos) (tDT T (tNt f)) := by
  refine pt_weak (pt_not h) fun σ H Q ⟨ρ, k, t, en, g, q⟩ => ?_
  obtain ⟨x, hx, rfl⟩ := Option.map_eq_some_iff.mp g
  exact ⟨ρ, x, t, en, hx, q⟩
def tAn (f g : DEnv → Option Bool) : DEnv → Option Bool := fun ρ => (f ρ).bind fun x => if x = true then g ρ else some false
def tOo (f g : DEnv → Option Bool) : DEnv → Option Bool := fun ρ => (f ρ).bind fun x => if x = true then some true else g ρ
variable {rest : List Expr}
theorem dw_and {f g : DEnv → Option Bool} (ha : PT X a (tDT T f)) (hb : PW X (.BoolOp .And (b :: rest) pos) (tDT T g)) : PW X (.BoolOp .And (a :: b :: rest) pos) (tDT T (tAn f g)) := by
  refine pw_weak (pw_and ha hb) fun σ H Q ⟨ρ, k, t, en, z, q⟩ => ?_
  unfold tAn at z
  obtain ⟨x, hx, z⟩ := Option.bind_eq_some_iff.mp z
  refine ⟨ρ, x, t, en, hx, fun H' e => ?_⟩
  cases x with
  | true =>
    rw [if_pos rfl] at z
    rw [if_pos rfl]
    exact ⟨ρ, k, e.tabs t, en.mono e.tups, z, fun H2 e2 => q H2 (e.trans e2)⟩
  | false =>
    rw [if_neg Bool.false_ne_true] at z
    rw [if_neg Bool.false_ne_true]
    cases z
    exact q H' e
theorem dw_or {f g : DEnv → Option Bool} (ha : PT X a (tDT T f)) (hb : PW X (.BoolOp .Or (b :: rest) pos) (tDT T g)) : PW X (.BoolOp .Or (a :: b :: rest) pos) (tDT T (tOo f g)) := by
  refine pw_weak (pw_or ha hb) fun σ H Q ⟨ρ, k, t, en, z, q⟩ => ?_
  unfold tOo at z
  obtain ⟨x, hx, z⟩ := Option.bind_eq_some_iff.mp z
  refine ⟨ρ, x, t, en, hx, fun H' e => ?_⟩
  cases x with
  | false =>
    rw [if_neg Bool.false_ne_true] at z
    rw [if_neg Bool.false_ne_true]
    exact ⟨ρ, k, e.tabs t, en.mono e.tups, z, fun H2 e2 => q H2 (e.trans e2)⟩
  | true =>
    rw [if_pos rfl] at z
    rw [if_pos rfl]
    cases z
    exact q H' e
/-- and, or as values (of bools) -/
def eAn (f g : DEnv → Option D) : DEnv → Option D := fun ρ => (tOf f ρ).bind fun x => if x = true then g ρ else some (.bool false)
def eOo (f g : DEnv → Option D) : DEnv → Option D := fun ρ => (tOf f ρ).bind fun x => if x = true then some (.bool true) else g ρ
def eNt (f : DEnv → Option D) : DEnv → Option D := fun ρ => (tOf f ρ).map fun x => .bool (!x)
theorem tOf_some {f : DEnv → Option D} {ρ : DEnv} {x : Bool} (h : tOf f ρ = some x) : f ρ = some (.bool x) := by
  unfold tOf at h
  obtain ⟨y, hy, h⟩ := Option.bind_eq_some_iff.mp h
  cases y <;> try cases h
  exact hy
theorem de_and {f g : DEnv → Option D} (ha : PE X a (tD T f)) (hb : PE X (.BoolOp .And (b :: rest) pos) (tD T g)) : PE X (.BoolOp .And (a :: b :: rest) pos) (tD T (eAn f g)) := by
  refine pe_weak (pe_and ha hb) fun σ H Q ⟨ρ, k, t, en, z, q⟩ => ?_
  unfold eAn at z
  obtain ⟨x, hx, z⟩ := Option.bind_eq_some_iff.mp z
  refine ⟨ρ, _, t, en, tOf_some hx, fun v H' e i => ⟨x, i.blE, ?_⟩⟩
  cases x with
  | true =>
    rw [if_pos rfl] at z
    rw [if_pos rfl]
    exact ⟨ρ, k, e.tabs t, en.mono e.tups, z, fun w H2 e2 => q w H2 (e.trans e2)⟩
  | false =>
    rw [if_neg Bool.false_ne_true] at z
    rw [if_neg Bool.false_ne_true]
    cases z
    exact q _ H' e (.bl false)
theorem de_or {f g : DEnv → Option D} (ha : PE X a (tD T f)) (hb : PE X (.BoolOp .Or (b :: rest) pos) (tD T g)) : PE X (.BoolOp .Or (a :: b :: rest) pos) (tD T (eOo f g)) := by
  refine pe_weak (pe_or ha hb) fun σ H Q ⟨ρ, k, t, en, z, q⟩ => ?_
  unfold eOo at z
  obtain ⟨x, hx, z⟩ := Option.bind_eq_some_iff.mp z
  refine ⟨ρ, _, t, en, tOf_some hx, fun v H' e i => ⟨x, i.blE, ?_⟩⟩
  cases x with
  | false =>
    rw [if_neg Bool.false_ne_true] at z
    rw [if_neg Bool.false_ne_true]
    exact ⟨ρ, k, e.tabs t, en.mono e.tups, z, fun w H2 e2 => q w H2 (e.trans e2)⟩
  | true =>
    rw [if_pos rfl] at z
    rw [if_pos rfl]
    cases z
    exact q _ H' e (.bl true)
theorem de_not {f : DEnv → Option D} (ha : PE X a (tD T f)) : PE X (.UnaryOp .Not a pos) (tD T (eNt f)) := by
  refine pe_weak (pe_not ha) fun σ H Q ⟨ρ, k, t, en, z, q⟩ => ?_
  obtain ⟨x, hx, rfl⟩ := Option.map_eq_some_iff.mp z
  exact ⟨ρ, _, t, en, tOf_some hx, fun v H' e i => ⟨x, i.blE, q _ H' e (.bl _)⟩⟩
def eIf (c : DEnv → Option Bool) (f g : DEnv → Option D) : DEnv → Option D := fun ρ => (c ρ).bind fun x => if x = true then f ρ else g ρ
theorem de_if {c : Expr} {fc : DEnv → Option Bool} {f g : DEnv → Option D} (hc : PT X c (tDT T fc)) (ha : PE X a (tD T f)) (hb : PE X b (tD T g)) : PE X (.IfExp c a b pos) (tD T (eIf fc f g)) := by
  refine pe_weak (pe_ifExp hc ha hb) fun σ H Q ⟨ρ, k, t, en, z, q⟩ => ?_
  unfold eIf at z
  obtain ⟨x, hx, z⟩ := Option.bind_eq_some_iff.mp z
  refine ⟨ρ, x, t, en, hx, fun H' e => ?_⟩
  cases x with
  | true =>
    rw [if_pos rfl] at z
    rw [if_pos rfl]
    exact ⟨ρ, k, e.tabs t, en.mono e.tups, z, fun w H2 e2 => q w H2 (e.trans e2)⟩
  | false =>
    rw [if_neg Bool.false_ne_true] at z
    rw [if_neg Bool.false_ne_true]
    exact ⟨ρ, k, e.tabs t, en.mono e.tups, z, fun w H2 e2 => q w H2 (e.trans e2)⟩
/-! arguments, tuples -/
def aNil : DEnv → Option (List D) := fun _ => some []
def aCons (f : DEnv → Option D) (g : DEnv → Option (List D)) : DEnv → Option (List D) := fun ρ => (f ρ).bind fun x => (g ρ).map fun xs => x :: xs
theorem da_nil : PA X [] (tDA T aNil) := pa_weak pa_nil fun σ H Q ⟨ρ, ds, t, en, f, q⟩ => by cases f; exact q [] H (.refl _ _) .nil
theorem da_cons {f : DEnv → Option D} {g : DEnv → Option (List D)} (ha : PE X e (tD T f)) (hr : PA X es (tDA T g)) (hs : starEach (e :: es) X.env = (false, eval e X.env) :: starEach es X.env := by rfl) : PA X (e :: es) (tDA T (aCons f g)) := by
  refine pa_weak (pa_cons ha hr hs) fun σ H Q ⟨ρ, ds, t, en, z, q⟩ => ?_
  unfold aCons at z
  obtain ⟨x, hx, z⟩ := Option.bind_eq_some_iff.mp z
  obtain ⟨xs, hxs, rfl⟩ := Option.map_eq_some_iff.mp z
  exact ⟨ρ, x, t, en, hx, fun v H1 e1 i1 => ⟨ρ, xs, e1.tabs t, en.mono e1.tups, hxs, fun vs H2 e2 i2 => q _ H2 (e1.trans e2) (.cons (e2.is i1) i2)⟩⟩
def eTup (f : DEnv → Option (List D)) : DEnv → Option D := fun ρ => (f ρ).bind fun ds => if ds.length ≤ 1000 then some (.tuple ds) else none
theorem le_line {n : Nat} (h : n ≤ 1000000) : n ≤ sizeLine := Nat.le_trans h (by decide)
theorem de_tup {f : DEnv → Option (List D)} {k : Nat} (h : PA X es (tDA T f)) : PE X (.Tuple es k pos) (tD T (eTup f)) := by
  refine pe_weak (pe_tup h) fun σ H Q ⟨ρ, d, t, en, z, q⟩ => ?_
  unfold eTup at z
  obtain ⟨ds, hds, z⟩ := Option.bind_eq_some_iff.mp z
  split at z
  · rename_i hl
    cases z
    exact ⟨ρ, ds, t, en, hds, fun vs H1 e1 i1 => ⟨le_line (by rw [i1.length]; omega), fun p hp => q _ _ (e1.trans (.new hp)) (.tup upd_same (i1.mono (tups_new hp)))⟩⟩
  · cases z
end
end CR
/-! CrB -/
set_option maxHeartbeats 4000000
namespace CR
open PySem PySem.Spec L2
open PyProof.Rows hiding St
theorem ite_some {α : Type} {c : Prop} [Decidable c] {x d : α} (h : (if c then some x else none) = some d) : c ∧ x = d := by
  by_cases hc : c
  · rw [if_pos hc] at h
    exact ⟨hc, Option.some.inj h⟩
  · rw [if_neg hc] at h
    cases h
/-! ### operators over data -/
section
variable {X : Cx}
def gAdd : Op2
  | .int i, .int j => some (.int (i + j))
  | .str x, .str y => if x.length + y.length ≤ 1000 then some (.str (x ++ y)) else none
  | .tuple xs, .tuple ys => if xs.length + ys.length ≤ 1000 then some (.tuple (xs ++ ys)) else none
  | _, _ => none
def rAddAny (K : PySem.W.Frag) : R2 := fun x y H Q => rI0 (fun i j => .int (i + j)) x y H Q ∨ ((fun x y H Q => ∃ i j, x = .str i ∧ y = .str j ∧ i.length + j.length ≤ sizeLine ∧ Q (.str (i ++ j)) H : R2) x y H Q ∨ rCatA K x y H Q)
theorem op_addAny : OpR X (binaryOp .Add) (rAddAny X.K) := OpR.or op_add (OpR.or op_add_str op_catA)
theorem od_cat {K : PySem.W.Frag} {T : List (Addr × Str)} {H : Hp} {v w : V} {xs ys : List D} {Q : VK} (hv : Is H v (.tuple xs)) (hw : Is H w (.tuple ys)) (hl : xs.length + ys.length ≤ 1000)
    (q : ∀ u H', Ext T H H' → Is H' u (.tuple (xs ++ ys)) → Q u H') : rCatA K v w H Q := by
  obtain ⟨a, vs, rfl, ha, h1⟩ := hv.tupE
  obtain ⟨b, ws, rfl, hb, h2⟩ := hw.tupE
  refine ⟨a, b, vs, ws, rfl, rfl, .of ha, .of hb, le_line (by rw [h1.length, h2.length]; omega), fun e => ?_, fun e1 e2 => ?_, fun _ _ p hp => ?_⟩
  · subst e
    cases h1
    exact q _ H (.refl _ _) hw
  · subst e2
    cases h2
    exact q _ H (.refl _ _) (by rw [List.append_nil]; exact hv)
  · exact q _ _ (.new hp) (.tup upd_same ((h1.append h2).mono (tups_new hp)))
theorem od_add {K : PySem.W.Frag} : OpD (rAddAny K) gAdd := by
  intro T H v w x y d Q hv hw g q
  cases x <;> cases y <;> try cases g
  · rename_i i j
    exact .inl ⟨i, j, hv.intE, hw.intE, q _ H (.refl _ _) (.int _)⟩
  · rename_i i j
    obtain ⟨hl, rfl⟩ := ite_some (c := i.length + j.length ≤ 1000) g
    exact .inr (.inl ⟨i, j, hv.strE, hw.strE, le_line (by omega), q _ H (.refl _ _) (.str _)⟩)
  · rename_i xs ys
    obtain ⟨hl, rfl⟩ := ite_some (c := xs.length + ys.length ≤ 1000) g
    exact .inr (.inr (od_cat hv hw hl q))
def gI2 (f : Int → Int → Int) : Op2
  | .int i, .int j => some (.int (f i j))
  | _, _ => none
def gIC (C : Int → Int → Bool) (f : Int → Int → Int) : Op2
  | .int i, .int j => if C i j = true then some (.int (f i j)) else none
  | _, _ => none
def gB2 (f : Int → Int → Bool) : Op2
  | .int i, .int j => some (.bool (f i j))
  | _, _ => none
theorem od_i2 {f : Int → Int → Int} : OpD (rI0 fun i j => .int (f i j)) (gI2 f) := by
  intro T H v w x y d Q hv hw g q
  cases x <;> cases y <;> try cases g
  exact ⟨_, _, hv.intE, hw.intE, q _ H (.refl _ _) (.int _)⟩
theorem od_ic {C : Int → Int → Prop} {c : Int → Int → Bool} {f : Int → Int → Int} (hc : ∀ i j, c i j = true → C i j) : OpD (rI C fun i j => .int (f i j)) (gIC c f) := by
  intro T H v w x y d Q hv hw g q
  cases x <;> cases y <;> try cases g
  rename_i i j
  obtain ⟨h, rfl⟩ := ite_some (c := c i j = true) g
  exact ⟨_, _, hv.intE, hw.intE, hc _ _ h, q _ H (.refl _ _) (.int _)⟩
theorem od_b2 {f : Int → Int → Bool} : OpD (rI0 fun i j => .bl (f i j)) (gB2 f) := by
  intro T H v w x y d Q hv hw g q
  cases x <;> cases y <;> try cases g
  exact ⟨_, _, hv.intE, hw.intE, q _ H (.refl _ _) (.bl _)⟩
abbrev gSub : Op2 := gI2 fun i j => i - j
def cMul (i j : Int) : Bool := decide (-(2 ^ 64) < i ∧ i < 2 ^ 64) || decide (-(2 ^ 64) < j ∧ j < 2 ^ 64)
abbrev gMul : Op2 := gIC cMul fun i j => i * j
theorem od_mul : OpD (rI CMul fun i j => .int (i * j)) gMul := od_ic fun i j h => by
  unfold cMul at h
  rw [Bool.or_eq_true, decide_eq_true_eq, decide_eq_true_eq] at h
  exact h
def cFd (_ j : Int) : Bool := decide (j ≠ 0 ∧ j.natAbs < 1073741824)
abbrev gFd : Op2 := gIC cFd fun i j => i.fdiv j
theorem od_fd : OpD (rI CDivN fun i j => .int (i.fdiv j)) gFd := od_ic fun i j h => by
  have z : j ≠ 0 ∧ j.natAbs < 1073741824 := of_decide_eq_true h
  exact z
def cMod (_ j : Int) : Bool := decide (j ≠ 0)
abbrev gMod : Op2 := gIC cMod fun i j => i.fmod j
theorem od_mod : OpD (rI (fun _ j => j ≠ 0) fun i j => .int (i.fmod j)) gMod := od_ic fun i j h => by
  have z : j ≠ 0 := of_decide_eq_true h
  exact z
/-- == of data -/
def gEq : Op2 := fun x y => if ((SeqAt.shaped x && SeqAt.shaped y) && (noL x && noL y)) = true then some (.bool (PyData.eqv x y)) else none
def gNe : Op2 := fun x y => if ((SeqAt.shaped x && SeqAt.shaped y) && (noL x && noL y)) = true then some (.bool (!PyData.eqv x y)) else none
theorem od_eq {K : PySem.W.Frag} : OpD (rEqD K) gEq := by
  intro T H v w x y d Q hv hw g q
  obtain ⟨h, rfl⟩ := ite_some g
  rw [Bool.and_eq_true, Bool.and_eq_true, Bool.and_eq_true] at h
  exact ⟨x, y, Is.dp _ _ hv h.2.1, Is.dp _ _ hw h.2.2, h.1.1, h.1.2, q _ H (.refl _ _) (.bl _)⟩
theorem od_ne {K : PySem.W.Frag} : OpD (rNeD K) gNe := by
  intro T H v w x y d Q hv hw g q
  obtain ⟨h, rfl⟩ := ite_some g
  rw [Bool.and_eq_true, Bool.and_eq_true, Bool.and_eq_true] at h
  exact ⟨x, y, Is.dp _ _ hv h.2.1, Is.dp _ _ hw h.2.2, h.1.1, h.1.2, q _ H (.refl _ _) (.bl _)⟩
def isNone : D → Bool
  | .none => true
  | _ => false
theorem isNone_of {H : Hp} {v : V} {x : D} (h : Is H v x) : decide (v = .non) = isNone x := by
  cases h <;> first | rfl | exact decide_eq_false (fun z => by cases z)
def gIsN : Op2
  | x, .none => some (.bool (isNone x))
  | _, _ => none
def gNotN : Op2
  | x, .none => some (.bool (!isNone x))
  | _, _ => none
theorem od_isN : OpD (fun x y H Q => y = .non ∧ Q (.bl (decide (x = .non))) H) gIsN := by
  intro T H v w x y d Q hv hw g q
  have hy : y = .none := by
    cases y <;> first | rfl | (cases x <;> cases g)
  subst hy
  refine ⟨hw.nonE, ?_⟩
  rw [isNone_of hv]
  have g' : some (PyData.bool (isNone x)) = some d := by cases x <;> exact g
  cases g'
  exact q _ H (.refl _ _) (.bl _)
theorem od_notN : OpD (fun x y H Q => y = .non ∧ Q (.bl (!decide (x = .non))) H) gNotN := by
  intro T H v w x y d Q hv hw g q
  have hy : y = .none := by
    cases y <;> first | rfl | (cases x <;> cases g)
  subst hy
  refine ⟨hw.nonE, ?_⟩
  rw [isNone_of hv]
  have g' : some (PyData.bool (!isNone x)) = some d := by cases x <;> exact g
  cases g'
  exact q _ H (.refl _ _) (.bl _)
/-- a text in a tuple of texts -/
def strsOf : List D → Option (List Str)
  | [] => some []
  | .str x :: r => (strsOf r).map fun l => x :: l
  | _ :: _ => none
def gIn : Op2
  | .str x, .tuple ys => (strsOf ys).map fun l => .bool (l.contains x)
  | _, _ => none
theorem strsOf_is {H : Hp} : ∀ {ys : List D} {vs : List V} {l : List Str}, IsAll H vs ys → strsOf ys = some l → vs = l.map V.str
  | [], _, l, h, e => by
    cases h
    cases e
    rfl
  | y :: ys, _, l, h, e => by
    cases h with
    | cons h1 h2 =>
      cases y <;> try cases e
      unfold strsOf at e
      obtain ⟨l', h', rfl⟩ := Option.map_eq_some_iff.mp e
      rw [strsOf_is h2 h', h1.strE]
      rfl
theorem inV_strs (x : Str) : ∀ l : List Str, inV (.str x) (l.map V.str) = l.contains x
  | [] => rfl
  | y :: l => by
    show (eqV (.str y) (.str x) || inV (.str x) (l.map V.str)) = _
    rw [inV_strs x l, List.contains_cons]
    show ((y == x) || _) = _
    rw [show (y == x) = (x == y) from Bool.beq_comm]
theorem od_in {K : PySem.W.Frag} : OpD (rIn K false) gIn := by
  intro T H v w x y d Q hv hw g q
  cases x <;> cases y <;> try cases g
  rename_i x ys
  unfold gIn at g
  obtain ⟨l, hl, rfl⟩ := Option.map_eq_some_iff.mp g
  obtain ⟨a, ws, rfl, ha, h1⟩ := hw.tupE
  have e := strsOf_is h1 hl
  subst e
  refine ⟨a, _, rfl, .inr (.of ha), by rw [hv.strE]; rfl, ?_, ?_⟩
  · rw [List.all_map]
    exact List.all_eq_true.mpr fun _ _ => rfl
  · rw [if_neg Bool.false_ne_true, hv.strE, inV_strs]
    exact q _ H (.refl _ _) (.bl _)
/-- t < u, t > u of tuples of ints -/
def intsOf : List D → Option (List Int)
  | [] => some []
  | .int x :: r => (intsOf r).map fun l => x :: l
  | _ :: _ => none
theorem intsOf_is {H : Hp} : ∀ {ys : List D} {vs : List V} {l : List Int}, IsAll H vs ys → intsOf ys = some l → vs = l.map V.int
  | [], _, l, h, e => by
    cases h
    cases e
    rfl
  | y :: ys, _, l, h, e => by
    cases h with
    | cons h1 h2 =>
      cases y <;> try cases e
      unfold intsOf at e
      obtain ⟨l', h', rfl⟩ := Option.map_eq_some_iff.mp e
      rw [intsOf_is h2 h', h1.intE]
      rfl
def gLtT : Op2
  | .tuple xs, .tuple ys => (intsOf xs).bind fun l => (intsOf ys).map fun m => .bool (HT.lexLt l m)
  | _, _ => none
theorem od_ltT {K : PySem.W.Frag} : OpD (rLtT K) gLtT := by
  intro T H v w x y d Q hv hw g q
  cases x <;> cases y <;> try cases g
  unfold gLtT at g
  obtain ⟨l, hl, g⟩ := Option.bind_eq_some_iff.mp g
  obtain ⟨m, hm, rfl⟩ := Option.map_eq_some_iff.mp g
  obtain ⟨a, vs, rfl, ha, h1⟩ := hv.tupE
  obtain ⟨b, ws, rfl, hb, h2⟩ := hw.tupE
  have e1 := intsOf_is h1 hl
  have e2 := intsOf_is h2 hm
  subst e1 e2
  exact ⟨a, b, l, m, rfl, rfl, .of ha, .of hb, q _ H (.refl _ _) (.bl _)⟩
/-- two pairs of ints -/
def rGt2 (K : PySem.W.Frag) : R2 := fun x y H Q => ∃ (a b : Addr) (i j k l : Int), x = .ref a ∧ y = .ref b ∧ SqT K H a [.int i, .int j] ∧ SqT K H b [.int k, .int l] ∧ Q (.bl (if i = k then decide (l < j) else decide (k < i))) H
theorem op_gt2 (hu : X.A.units < cLine) : OpR X (compareOp .Gt) (rGt2 X.K) := by
  intro pins s σ H x y v u Q I rx ry h
  obtain ⟨a, b, i, j, k, l, rfl, rfl, ha, hb, q⟩ := h
  cases rx
  cases ry
  obtain ⟨its, r1, p1, _⟩ := I.tuple ha
  obtain ⟨its2, r2, p2, _⟩ := I.tuple hb
  have i1 : IntsAre its [i, j] := Vals.ints (ns := [i, j]) r1
  have i2 : IntsAre its2 [k, l] := Vals.ints (ns := [k, l]) r2
  have e1 : its.toArray.size = 2 := by rw [List.size_toArray]; exact i1.length
  have e2 : its2.toArray.size = 2 := by rw [List.size_toArray]; exact i2.length
  have at1 : ∀ m (h1 : m < its.toArray.size), ∃ t, its.toArray[m] = .int ([i, j].getD m 0) t := fun m h1 => PyProof.Rows.IntsAre.int_at i1 _ _ (by simp at h1; simp [h1])
  have at2 : ∀ m (h1 : m < its2.toArray.size), ∃ t, its2.toArray[m] = .int ([k, l].getD m 0) t := fun m h1 => PyProof.Rows.IntsAre.int_at i2 _ _ (by simp at h1; simp [h1])
  have R := Ob.RcOp.tuples_gt (A := X.A) (s := s) (e := fun m => decide ([i, j].getD m 0 = [k, l].getD m 0)) (r := fun m => decide ([k, l].getD m 0 < [i, j].getD m 0)) p1 p2 hu (fun m h1 h2 => by
    obtain ⟨t, et⟩ := at1 m h1
    obtain ⟨t', et'⟩ := at2 m h2
    rw [et, et']
    have z : ([i, j].getD m 0 == [k, l].getD m 0) = decide ([i, j].getD m 0 = [k, l].getD m 0) := by
      by_cases q : [i, j].getD m 0 = [k, l].getD m 0
      · rw [decide_eq_true q]; exact beq_iff_eq.mpr q
      · rw [decide_eq_false q]; exact beq_eq_false_iff_ne.mpr q
    rw [← z]
    exact SeqAt.EqAt.int_int _ _ _ _) (fun m h1 h2 _ => by
    obtain ⟨t, et⟩ := at1 m h1
    obtain ⟨t', et'⟩ := at2 m h2
    rw [et, et']
    exact Ob.RcOp.gt_int _ _ _ _)
  rw [e1, e2] at R
  have e3 : Ob.lexAt (fun m => decide ([i, j].getD m 0 = [k, l].getD m 0)) (fun m => decide ([k, l].getD m 0 < [i, j].getD m 0)) (decide (2 > 2)) 0 (min 2 2) = (if i = k then decide (l < j) else decide (k < i)) := by
    show (if decide (i = k) = true then (if decide (j = l) = true then decide (2 > 2) else decide (l < j)) else decide (k < i)) = _
    by_cases h1 : i = k
    · rw [if_pos (decide_eq_true h1), if_pos h1]
      by_cases h2 : j = l
      · rw [if_pos (decide_eq_true h2)]
        subst h2
        exact (decide_eq_false (by omega)).trans (decide_eq_false (by omega)).symm
      · rw [if_neg (by rw [decide_eq_false h2]; exact Bool.false_ne_true)]
    · rw [if_neg (by rw [decide_eq_false h1]; exact Bool.false_ne_true), if_neg h1]
  rw [e3] at R
  have z : wpAny (model X.prog X.w) X.A (compareOp .Gt (.ref a) (.ref b)) (EP X pins σ Q) X.xe s := R X.prog X.w X.xe (EP X pins σ Q) ⟨.bl _, H, I, rfl, q⟩
  exact z
def gGt2 : Op2
  | .tuple [.int i, .int j], .tuple [.int k, .int l] => some (.bool (if i = k then decide (l < j) else decide (k < i)))
  | _, _ => none
theorem od_gt2 {K : PySem.W.Frag} : OpD (rGt2 K) gGt2 := by
  intro T H v w x y d Q hv hw g q
  unfold gGt2 at g
  split at g
  · cases g
    obtain ⟨a, vs, rfl, ha, h1⟩ := hv.tupE
    obtain ⟨b, ws, rfl, hb, h2⟩ := hw.tupE
    have e1 := IsAll.ints (ns := [_, _]) h1
    have e2 := IsAll.ints (ns := [_, _]) h2
    subst e1 e2
    exact ⟨a, b, _, _, _, _, rfl, rfl, .of ha, .of hb, q _ H (.refl _ _) (.bl _)⟩
  · cases g
/-! tuple * int -/
theorem tuple_mulS (l : Addr) (items : Array Value) (n : Nat) (dd : Option Addr) (sl : Array (Option Value)) (x : Int) (u : Tok) (c0 : (decide (x < -(2 ^ 63)) || decide (x ≥ 2 ^ 63)) = false) (c1 : (items.isEmpty || x == 1) = true) :
    Meets (Builtin.«tuple.__mul__» ⟨[.ref l, .int x u], []⟩) (fun _ R s => s.heap.get? l = some { cls := .type "tuple", dict := dd, data := .seq items n, slots := sl } ∧ R (.ok (.ret (Value.ref l))) s) :=
  .of_wp fun prog w A R s h => by
    obtain ⟨hp, g, d, tk, os⟩ := s
    obtain ⟨hl, h⟩ := h
    have f1 := AutoSeq1.idx_int
    wp_walk using PySem.AutoSeq1.wpAny_loadPart' hl
    repeat (first
      | (refine wpAny_ite_false (decide_eq_false (by rw [c0]; exact Bool.false_ne_true)) ?_; wp_walk using PySem.AutoSeq1.wpAny_loadPart' hl)
      | (refine wpAny_ite_true (decide_eq_true c1) ?_; wp_walk using PySem.AutoSeq1.wpAny_loadPart' hl))
    exact ⟨_, rfl, h⟩
def rRepS (K : PySem.W.Frag) : R2 := fun x y H Q => ∃ l xs, x = .ref l ∧ y = .int 1 ∧ SqT K H l xs ∧ Q (.ref l) H
theorem op_repS : OpR X (binaryOp .Mult) (rRepS X.K) := by
  intro pins s σ H x y v u Q I rx ry h
  obtain ⟨l, xs, rfl, rfl, hT, q⟩ := h
  cases rx
  obtain ⟨t, rfl⟩ := ry
  obtain ⟨its, r, ⟨⟨cls, dd, data, sl⟩, ho, hc, n, hd⟩, hs⟩ := I.tuple hT
  simp only at hc hd
  subst hc hd
  exact wpAny_binaryOp_repeat_ref (T := "tuple") (U := "int") (by decide) ⟨_, ho, rfl⟩ (fun s' => typeIs_int s' 1 t) noFill_tuple_mul F.fills_int_mul F.slot_int_rmul repeat_tuple F.slot_int_index.lookup
    (call_meets F.slot_int_rmul (typeIs_int s 1 t) F.entry_int_rmul (F.args_int_rmul_2 _ _) (int_rmul_tuple 1 t l its.toArray n dd sl)
      ⟨ho, rfl, ⟨_, ho, rfl⟩, call_meets F.slot_tuple_mul ⟨_, ho, rfl⟩ F.entry_tuple_mul (F.args_tuple_mul_2 _ _) (tuple_mulS l its.toArray n dd sl 1 t (by decide) (by simp)) ⟨ho, .ref l, H, I, rfl, q⟩⟩)
def gRep : Op2
  | .tuple xs, .int k => if xs ≠ [] ∧ 1 ≤ k ∧ k ≤ 1000 ∧ xs.length ≤ 1000 then some (.tuple (List.replicate k.toNat xs).flatten) else none
  | _, _ => none
theorem od_rep {K : PySem.W.Frag} : OpD (fun x y H Q => rRepS K x y H Q ∨ rRepT K x y H Q) gRep := by
  intro T H v w x y d Q hv hw g q
  cases x <;> cases y <;> try cases g
  rename_i xs k
  obtain ⟨⟨hne, h1, h2, h3⟩, rfl⟩ := ite_some (c := xs ≠ [] ∧ 1 ≤ k ∧ k ≤ 1000 ∧ xs.length ≤ 1000) g
  obtain ⟨a, vs, rfl, ha, hi⟩ := hv.tupE
  by_cases hk : k = 1
  · subst hk
    refine .inl ⟨a, vs, rfl, hw.intE, .of ha, q _ H (.refl _ _) ?_⟩
    have e : (List.replicate (1 : Int).toNat xs).flatten = xs := by simp [List.replicate]
    rw [e]
    exact hv
  · refine .inr ⟨a, k, vs, rfl, hw.intE, .of ha, fun e => hne ?_, by omega, h2, by rw [hi.length]; exact h3, fun p hp => ?_⟩
    · subst e
      cases hi
      rfl
    · exact q _ _ (.new hp) (.tup upd_same ((hi.flat k.toNat).mono (tups_new hp)))
theorem op_repAny : OpR X (binaryOp .Mult) (fun x y H Q => rRepS X.K x y H Q ∨ rRepT X.K x y H Q) := OpR.or op_repS op_repT
/-! t += u -/
theorem no_tuple_iadd : typeLookup (.type "tuple") (dunderI "add") = pure none := by rw [typeLookup_type, builtinLookup_eq_fast]; kernel_rfl
end
end CR
/-! CrC -/
set_option maxHeartbeats 4000000
namespace CR
open PySem PySem.Spec L2
open PyProof.Rows hiding St
section
variable {X : Cx} {T : List (Addr × Str)} {a b c e : Expr} {es rest : List Expr} {pos : Pos}
/-! ### t += u -/
theorem iop_catA : PIp X .Add (rCatA X.K) := by
  intro pins s σ H x y v u Q I rx ry h
  obtain ⟨a, b, xs, ys, rfl, rfl, ha, hb, hz, q0, q1, q2⟩ := h
  cases rx
  cases ry
  obtain ⟨its, r1, p1, _⟩ := I.tuple ha
  obtain ⟨its2, r2, p2, _⟩ := I.tuple hb
  have hz' : its.length + its2.length ≤ sizeLine := by rw [← r1.length, ← r2.length]; exact hz
  obtain ⟨⟨cls, dd, data, sl⟩, ho, hc, n, hd⟩ := id p1
  obtain ⟨⟨cls2, dd2, data2, sl2⟩, ho2, hc2, n2, hd2⟩ := id p2
  simp only at hc hd hc2 hd2
  subst hc hd hc2 hd2
  have e : its.toArray ++ its2.toArray = (its ++ its2).toArray := by simp
  refine wpAny_inplaceOp_concat ⟨_, ho, rfl⟩ ⟨_, ho2, rfl⟩ no_tuple_iadd noFill_tuple_add seq_tuple_add ?_
  by_cases hx : xs = []
  · subst hx
    cases r1
    exact call_meets PySem.F.slot_tuple_add ⟨_, ho, rfl⟩ PySem.F.entry_tuple_add (PySem.F.args_tuple_add_2 _ _)
      (tuple_addW0 a b ([] : List Value).toArray its2.toArray n n2 dd dd2 sl sl2 (by simp)) ⟨ho, ho2, .ref b, H, I, rfl, q0 rfl⟩
  · have hi : its ≠ [] := fun z => hx (r1.nil_iff.mp z)
    by_cases hy : ys = []
    · have hi2 : its2 = [] := r2.nil_iff.mpr hy
      exact call_meets PySem.F.slot_tuple_add ⟨_, ho, rfl⟩ PySem.F.entry_tuple_add (PySem.F.args_tuple_add_2 _ _)
        (tuple_addW1 a b its.toArray its2.toArray n n2 dd dd2 sl sl2 (by simpa using hi) (by simp [hi2])) ⟨ho, ho2, .ref a, H, I, rfl, q1 hx hy⟩
    · have hi2 : its2 ≠ [] := fun z => hy (r2.nil_iff.mp z)
      refine call_meets PySem.F.slot_tuple_add ⟨_, ho, rfl⟩ PySem.F.entry_tuple_add (PySem.F.args_tuple_add_2 _ _)
        (tuple_addW2 a b its.toArray its2.toArray n n2 dd dd2 sl sl2 (by simpa using hi) (by simpa using hi2) (by rw [List.size_toArray, List.size_toArray]; exact hz')) ⟨ho, ho2, ?_⟩
      rw [e]
      refine ⟨.ref s.heap.objs.size, _, I.laid (t' := s.toks) (o := .tup (xs ++ ys)) (fun b ob q => Heap.get?_push_of_some _ q) (Nat.le_refl _) ?_, rfl, q2 hx hy _ (I.hok.fresh (Nat.le_refl _))⟩
      exact ⟨by rw [List.length_append]; exact hz, _, r1.append r2, IsTup.new _ _⟩
/-! ### items, slices -/
def gIx : Op2
  | .tuple xs, .int i => atI xs i
  | _, _ => none
theorem od_ix {K : PySem.W.Frag} : OpD (rIxT K) gIx := by
  intro T H v w x y d Q hv hw g q
  cases x <;> cases y <;> try cases g
  rename_i xs i
  obtain ⟨a, vs, rfl, ha, h1⟩ := hv.tupE
  have g' : ((ixN xs.length i).bind fun j => xs[j]?) = some d := g
  obtain ⟨j, hj, g'⟩ := Option.bind_eq_some_iff.mp g'
  obtain ⟨u, hu, hi⟩ := h1.get g'
  refine ⟨a, vs, i, u, rfl, hw.intE, .of ha, ?_, q u H (.refl _ _) hi⟩
  show ((ixN vs.length i).bind fun j => vs[j]?) = some u
  rw [h1.length, hj]
  exact hu
theorem de_ix {fa fb : DEnv → Option D} (ha : PE X a (tD T fa)) (hb : PE X b (tD T fb)) (hs : PlainIx b) : PE X (.Subscript a b pos) (tD T (eBin gIx fa fb)) := pe_weak (pe_ix ix_tup ha hb hs) (tD_bin od_ix)
def cutD (xs : List D) (lo hi : Option Int) : List D := (xs.drop (HT.sIx xs.length 0 lo)).take (HT.sIx xs.length xs.length hi - HT.sIx xs.length 0 lo)
def tDO (T : List (Addr × Str)) (f : DEnv → Option (Option Int)) : TO := fun σ H Q => ∃ ρ o, LamX.Tabs T H ∧ EnvIs H σ ρ ∧ f ρ = some o ∧ ∀ H', Ext T H H' → Q o H'
def pNo : DEnv → Option (Option Int) := fun _ => some none
def iOf : D → Option Int
  | .int i => some i
  | _ => none
def pSo (f : DEnv → Option D) : DEnv → Option (Option Int) := fun ρ => ((f ρ).bind iOf).map some
theorem po_weak {o : Option Expr} {t t' : TO} (h : PO X o t) (hw : ∀ σ H Q, t' σ H Q → t σ H Q) : PO X o t' := ⟨fun pins s σ H Q I q => h.run pins s σ H Q I (hw _ _ _ q)⟩
theorem do_none : PO X none (tDO T pNo) := po_weak po_none fun σ H Q ⟨ρ, o, t, en, f, q⟩ => by cases f; exact q H (.refl _ _)
theorem do_some {f : DEnv → Option D} (h : PE X e (tD T f)) : PO X (some e) (tDO T (pSo f)) := by
  refine po_weak (po_some h) fun σ H Q ⟨ρ, o, t, en, z, q⟩ => ?_
  obtain ⟨i, hi, rfl⟩ := Option.map_eq_some_iff.mp z
  obtain ⟨d, hd, z⟩ := Option.bind_eq_some_iff.mp hi
  cases d <;> try cases z
  exact ⟨ρ, _, t, en, hd, fun v H' e i => ⟨_, i.intE, q H' e⟩⟩
def eSl (f : DEnv → Option D) (lo hi : DEnv → Option (Option Int)) : DEnv → Option D := fun ρ => (f ρ).bind fun d => (lo ρ).bind fun l => (hi ρ).bind fun u => match d with
  | .tuple xs => some (.tuple (cutD xs l u))
  | _ => none
theorem cut_is {H : Hp} {vs : List V} {ds : List D} (h : IsAll H vs ds) (lo hi : Option Int) : IsAll H (cutV vs lo hi) (cutD ds lo hi) := by
  unfold cutV cutD
  rw [h.length]
  exact (h.drop _).take _
theorem cut_whole {xs : List D} {lo hi : Option Int} (h : HT.sIx xs.length 0 lo = 0 ∧ HT.sIx xs.length xs.length hi = xs.length) : cutD xs lo hi = xs := by
  unfold cutD
  rw [h.1, h.2, List.drop_zero, Nat.sub_zero, List.take_length]
theorem de_sl {f : DEnv → Option D} {lo hi : DEnv → Option (Option Int)} {l u : Option Expr} {p2 : Pos} (he : PE X e (tD T f)) (hl : PO X l (tDO T lo)) (hu : PO X u (tDO T hi)) : PE X (.Subscript e (.Slice l u none p2) pos) (tD T (eSl f lo hi)) := by
  refine pe_weak (pe_slice sl_tupA he hl hu) fun σ H Q ⟨ρ, d, t, en, z, q⟩ => ?_
  unfold eSl at z
  obtain ⟨x, hx, z⟩ := Option.bind_eq_some_iff.mp z
  obtain ⟨l, hl, z⟩ := Option.bind_eq_some_iff.mp z
  obtain ⟨u, hu, z⟩ := Option.bind_eq_some_iff.mp z
  cases x <;> try cases z
  rename_i xs
  refine ⟨ρ, _, t, en, hx, fun v H1 e1 i1 => ⟨ρ, l, e1.tabs t, en.mono e1.tups, hl, fun H2 e2 => ⟨ρ, u, (e1.trans e2).tabs t, en.mono (e1.trans e2).tups, hu, fun H3 e3 => ?_⟩⟩⟩
  have i3 := (e2.trans e3).is i1
  obtain ⟨a, vs, rfl, ha, hi⟩ := i3.tupE
  have e13 := (e1.trans e2).trans e3
  refine ⟨a, vs, rfl, .of ha, fun hw => ?_, fun hw p hp => ?_⟩
  · refine q _ H3 e13 ?_
    rw [hi.length] at hw
    rw [cut_whole hw]
    exact i3
  · exact q _ _ (e13.trans (.new hp)) (.tup upd_same ((cut_is hi l u).mono (tups_new hp)))
/-! ### built-in functions -/
def gLen : List D → Option D
  | [.tuple ds] => some (.int ds.length)
  | _ => none
def CallD (r : List V → Hp → VK → Prop) (g : List D → Option D) : Prop := ∀ (T : List (Addr × Str)) (H : Hp) (vs : List V) (xs : List D) (d : D) (Q : VK), IsAll H vs xs → g xs = some d → (∀ u H', Ext T H H' → Is H' u d → Q u H') → r vs H Q
def eCB (g : List D → Option D) (f : DEnv → Option (List D)) : DEnv → Option D := fun ρ => (f ρ).bind g
theorem tD_cb {r : List V → Hp → VK → Prop} {g : List D → Option D} {f : DEnv → Option (List D)} (hg : CallD r g) (σ : St) (H : Hp) (Q : VK) (h : tD T (eCB g f) σ H Q) : tCB r (tDA T f) σ H Q := by
  obtain ⟨ρ, d, t, en, z, q⟩ := h
  obtain ⟨xs, hx, z⟩ := Option.bind_eq_some_iff.mp z
  exact ⟨ρ, xs, t, en, hx, fun vs H1 e1 i1 => hg T H1 vs xs d Q i1 z fun u H2 e2 i2 => q u H2 (e1.trans e2) i2⟩
theorem cd_len {K : PySem.W.Frag} : CallD (fun xs H Q => ∃ p ys, xs = [V.ref p] ∧ (SqL K H p ys ∨ SqT K H p ys) ∧ Q (.int ys.length) H) gLen := by
  intro T H vs xs d Q h g q
  unfold gLen at g
  split at g
  · cases g
    cases h with
    | cons h1 h2 =>
      cases h2
      obtain ⟨a, vs, rfl, ha, hi⟩ := h1.tupE
      refine ⟨a, vs, rfl, .inr (.of ha), ?_⟩
      rw [hi.length]
      exact q _ H (.refl _ _) (.int _)
  · cases g
def gMax : List D → Option D
  | [.int i, .int j] => some (.int (if j > i then j else i))
  | _ => none
theorem cd_max : CallD (fun xs H Q => ∃ i j, xs = [V.int i, .int j] ∧ Q (.int (if j > i then j else i)) H) gMax := by
  intro T H vs xs d Q h g q
  unfold gMax at g
  split at g
  · cases g
    cases h with
    | cons h1 h2 =>
      cases h2 with
      | cons h2 h3 =>
        cases h3
        exact ⟨_, _, by rw [h1.intE, h2.intE], q _ H (.refl _ _) (.int _)⟩
  · cases g
theorem de_len {f : DEnv → Option (List D)} {p : Pos} (hm : X.mg "len" = none) (ha : PA X (e :: es) (tDA T f)) (hg : Gl X "len" := by rfl)
    (he : starEach (e :: es) X.env = (false, eval e X.env) :: starEach es X.env := by rfl) (hpl : (backTo pos (starEach es X.env)).any (·.1) = false := by rfl) : PE X (.Call (.Name "len" p) (e :: es) [] pos) (tD T (eCB gLen f)) :=
  pe_weak (pe_callB call_len_seq hg hm PySem.boot_len ha (by decide) (by decide) he hpl) (tD_cb cd_len)
theorem de_max {f : DEnv → Option (List D)} {p : Pos} (hc : X.calm = true) (hm : X.mg "max" = none) (ha : PA X (e :: es) (tDA T f)) (hg : Gl X "max" := by rfl)
    (he : starEach (e :: es) X.env = (false, eval e X.env) :: starEach es X.env := by rfl) (hpl : (backTo pos (starEach es X.env)).any (·.1) = false := by rfl) : PE X (.Call (.Name "max" p) (e :: es) [] pos) (tD T (eCB gMax f)) :=
  pe_weak (pe_callB (call_max2 hc) hg hm (by decide +kernel) ha (by decide) (by decide) he hpl) (tD_cb cd_max)
/-! ### calls of pure defs -/
/-- a def of the module, over data: n parameters in all, the last of them by defaults dds -/
structure PFn (P : Program) (w : World) (K : PySem.W.Frag) (mg : Str → Option Value) (base : Heap) (T : List (Addr × Str)) (k : Nat) (x : Str) (n : Nat) (dds : List D) (m : List D → Option D) : Prop where
  ex : ∃ (f : Addr) (fd : FuncData) (ps : List Str) (ds : List Value) (dvs : List V), FnOk P w K mg base L2.CX0 k f fd ps (spD T n m) ∧ mg x = some (.ref f) ∧ PySem.W.keepIn K (.ref f) = true ∧ Binds K fd ps ds ∧ Vals dvs ds ∧ ∀ H, IsAll H dvs dds
/-- the same, called with the keywords ks, in the parameters' order -/
structure PFk (P : Program) (w : World) (K : PySem.W.Frag) (mg : Str → Option Value) (base : Heap) (T : List (Addr × Str)) (k : Nat) (x : Str) (n : Nat) (ks : List Str) (m : List D → Option D) : Prop where
  ex : ∃ (f : Addr) (fd : FuncData) (ps : List Str), FnOk P w K mg base L2.CX0 k f fd ps (spD T (n + ks.length) m) ∧ mg x = some (.ref f) ∧ PySem.W.keepIn K (.ref f) = true ∧ KBn K fd ps n ks (fun us ws => us ++ ws) (fun vs zs => vs ++ zs)
def eCall (n : Nat) (dds : List D) (m : List D → Option D) (f : DEnv → Option (List D)) : DEnv → Option D := fun ρ => (f ρ).bind fun ds => if (ds ++ dds).length = n then m (ds ++ dds) else none
def eCallK (n j : Nat) (m : List D → Option D) (f g : DEnv → Option (List D)) : DEnv → Option D := fun ρ => (f ρ).bind fun ds => (g ρ).bind fun es => if ds.length = n ∧ es.length = j then m (ds ++ es) else none
variable {k j n : Nat} {x : Str} {m : List D → Option D} {dds : List D} {p : Pos}
theorem ite_get {α : Type} {c : Prop} [Decidable c] {o : Option α} {d : α} (h : (if c then o else none) = some d) : c ∧ o = some d := by
  by_cases hc : c
  · rw [if_pos hc] at h
    exact ⟨hc, h⟩
  · rw [if_neg hc] at h
    cases h
theorem de_call {f : DEnv → Option (List D)} (c : PFn X.prog X.w X.K X.mg X.base T k x n dds m) (hr : Room j X.A) (hk : k ≤ j) (ha : PA X (e :: es) (tDA T f)) (hg : Gl X x := by rfl) (hdb : (x == ("__debug__" : Str)) = false := by decide)
    (he : starEach (e :: es) X.env = (false, eval e X.env) :: starEach es X.env := by rfl) (hpl : (backTo pos (starEach es X.env)).any (·.1) = false := by rfl) : PE X (.Call (.Name x p) (e :: es) [] pos) (tD T (eCall n dds m f)) := by
  obtain ⟨fa, fd, ps, ds, dvs, F, hm, kp, hb, hv, hd⟩ := c.ex
  refine pe_weak (pe_call F (hr.mono hk) hg hm kp hb hv L2.pass0 ha hdb he hpl) fun σ H Q ⟨ρ, d, t, en, z, q⟩ => ?_
  obtain ⟨ds, hds, z⟩ := Option.bind_eq_some_iff.mp z
  obtain ⟨hl, z⟩ := ite_get z
  exact ⟨ρ, ds, t, en, hds, fun vs H1 e1 i1 => ⟨ds ++ dds, d, hl, e1.tabs t, i1.append (hd H1), z, fun v H2 e2 i2 => q v H2 (e1.trans e2) i2⟩⟩
theorem pk_weak {kws : List Keyword} {t t' : TA} (h : PK X kws t) (hw : ∀ σ H Q, t' σ H Q → t σ H Q) : PK X kws t' := ⟨fun pos pins s σ H Q I q => h.run pos pins s σ H Q I (hw _ _ _ q)⟩
theorem dk_nil : PK X [] (tDA T aNil) := pk_weak pk_nil fun σ H Q ⟨ρ, ds, t, en, f, q⟩ => by cases f; exact q [] H (.refl _ _) .nil
theorem dk_cons {nm : Option Str} {kpos : Pos} {kws : List Keyword} {f : DEnv → Option D} {g : DEnv → Option (List D)} (ha : PE X e (tD T f)) (hr : PK X kws (tDA T g)) : PK X (⟨nm, e, kpos⟩ :: kws) (tDA T (aCons f g)) := by
  refine pk_weak (pk_cons ha hr) fun σ H Q ⟨ρ, ds, t, en, z, q⟩ => ?_
  unfold aCons at z
  obtain ⟨x, hx, z⟩ := Option.bind_eq_some_iff.mp z
  obtain ⟨xs, hxs, rfl⟩ := Option.map_eq_some_iff.mp z
  exact ⟨ρ, x, t, en, hx, fun v H1 e1 i1 => ⟨ρ, xs, e1.tabs t, en.mono e1.tups, hxs, fun vs H2 e2 i2 => q _ H2 (e1.trans e2) (.cons (e2.is i1) i2)⟩⟩
theorem de_callK {ks : List Str} {kws : List Keyword} {f g : DEnv → Option (List D)} (c : PFk X.prog X.w X.K X.mg X.base T k x n ks m) (hr : Room j X.A) (hk : k ≤ j) (ha : PA X (e :: es) (tDA T f)) (hkw : PK X kws (tDA T g)) (hg : Gl X x := by rfl)
    (hall : (backToKw pos (keywordEach kws X.env)).all (·.1.isSome) = true := by rfl) (hks : (backToKw pos (keywordEach kws X.env)).filterMap (·.1) = ks := by rfl)
    (hdb : (x == ("__debug__" : Str)) = false := by decide) (he : starEach (e :: es) X.env = (false, eval e X.env) :: starEach es X.env := by rfl)
    (hpl : ((backTo pos (starEach (e :: es) X.env)).any (·.1) || (backToKw pos (keywordEach kws X.env)).any (·.1.isNone)) = false := by rfl) :
    PE X (.Call (.Name x p) (e :: es) kws pos) (tD T (eCallK n ks.length m f g)) := by
  obtain ⟨fa, fd, ps, F, hm, kp, hb⟩ := c.ex
  refine pe_weak (pe_callN F (hr.mono hk) hg hm kp hb L2.pass0 ha hkw hall hks hdb he hpl) fun σ H Q ⟨ρ, d, t, en, z, q⟩ => ?_
  obtain ⟨ds, hds, z⟩ := Option.bind_eq_some_iff.mp z
  obtain ⟨es', hes, z⟩ := Option.bind_eq_some_iff.mp z
  obtain ⟨⟨h1, h2⟩, z⟩ := ite_get z
  refine ⟨ρ, ds, t, en, hds, fun vs H1 e1 i1 => ⟨ρ, es', e1.tabs t, en.mono e1.tups, hes, fun zs H2 e2 i2 => ⟨i1.length.trans h1, i2.length.trans h2, ds ++ es', d, ?_, (e1.trans e2).tabs t, (e2.all i1).append i2, z, fun v H3 e3 i3 => q v H3 ((e1.trans e2).trans e3) i3⟩⟩⟩
  rw [List.length_append, h1, h2]
end
end CR
/-! CrE -/
set_option maxHeartbeats 4000000
namespace CR
open PySem PySem.Spec L2
open PyProof.Rows hiding St
section
variable {X : Cx} {T : List (Addr × Str)} {a b c e : Expr} {es rest : List Expr} {pos : Pos} {st : Stmt} {sts : List Stmt}
/-! ### statements over data -/
def sSeq (F G : Stm) : Stm := fun ρ => (F ρ).bind fun r => match r with
  | .nx ρ' => G ρ'
  | .rt d => some (.rt d)
def sNil : Stm := fun ρ => some (.nx ρ)
theorem ds_nil : PSs X [] (tSD T sNil) := pss_weak pss_nil fun E σ H ⟨ρ, r, t, en, f, q⟩ => by
  cases f
  exact q σ H (.refl _ _) en
theorem ds_cons {F G : Stm} (h1 : PS X st (tSD T F)) (h2 : PSs X sts (tSD T G)) : PSs X (st :: sts) (tSD T (sSeq F G)) := by
  refine pss_weak (pss_cons h1 h2) fun E σ H ⟨ρ, r, t, en, f, q⟩ => ?_
  obtain ⟨r1, hr, f⟩ := Option.bind_eq_some_iff.mp f
  refine ⟨ρ, r1, t, en, hr, ?_⟩
  cases r1 with
  | nx ρ' =>
    intro σ' H' e1 en'
    refine ⟨ρ', r, e1.tabs t, en', f, ?_⟩
    cases r with
    | nx ρ2 => exact fun σ2 H2 e2 en2 => q σ2 H2 (e1.trans e2) en2
    | rt d => exact fun v H2 e2 i2 => q v H2 (e1.trans e2) i2
  | rt d =>
    cases f
    exact q
theorem ds_one {F : Stm} (h1 : PS X st (tSD T F)) : PSs X [st] (tSD T F) := pss_one h1
def sSet (i : Nat) (f : DEnv → Option D) : Stm := fun ρ => (f ρ).map fun d => .nx (ρ.set i (some d))
theorem ds_set {i : Nat} {x : Str} {f : DEnv → Option D} {pos' : Pos} (hN : X.N.Nodup) (he : PE X e (tD T f)) (hi : X.N[i]? = some x := by rfl) (hx : Loc X.env.scope x := by first | exact Or.inl rfl | exact Or.inr rfl)
    (hs : swapsWith e (some (.Name x pos')) pos.line X.env = pure false := by rfl) (hf : X.fn x = true ∨ X.env.scope.names.lookup x = some .local := by first | exact .inl rfl | exact .inr rfl | assumption) :
    PS X (.Assign [.Name x pos'] e pos) (tSD T (sSet i f)) := by
  refine ps_weak (ps_set hN hi hx he hs hf) fun E σ H ⟨ρ, r, t, en, z, q⟩ => ?_
  obtain ⟨d, hd, rfl⟩ := Option.map_eq_some_iff.mp z
  exact ⟨ρ, d, t, en, hd, fun v H' e i' => q _ H' e ((en.mono e.tups).set i i')⟩
def sRet (f : DEnv → Option D) : Stm := fun ρ => (f ρ).map .rt
theorem ds_ret {f : DEnv → Option D} (he : PE X e (tD T f)) : PS X (.Return (some e) pos) (tSD T (sRet f)) := by
  refine ps_weak (ps_ret he) fun E σ H ⟨ρ, r, t, en, z, q⟩ => ?_
  obtain ⟨d, hd, rfl⟩ := Option.map_eq_some_iff.mp z
  exact ⟨ρ, d, t, en, hd, fun v H' e i' => q v H' e i'⟩
def sIf (c : DEnv → Option Bool) (F G : Stm) : Stm := fun ρ => (c ρ).bind fun x => if x = true then F ρ else G ρ
theorem ds_if {c : Expr} {fc : DEnv → Option Bool} {F G : Stm} {p q : List Stmt} (hc : PT X c (tDT T fc)) (ha : PSs X p (tSD T F)) (hb : PSs X q (tSD T G)) : PS X (.If c p q pos) (tSD T (sIf fc F G)) := by
  refine ps_weak (ps_if hc ha hb) fun E σ H ⟨ρ, r, t, en, z, q⟩ => ?_
  obtain ⟨x, hx, z⟩ := Option.bind_eq_some_iff.mp z
  refine ⟨ρ, x, t, en, hx, fun H' e => ?_⟩
  have go : ∀ {F : Stm}, F ρ = some r → tSD T F E σ H' := fun {F} hF => ⟨ρ, r, e.tabs t, en.mono e.tups, hF, by
    cases r with
    | nx ρ2 => exact fun σ2 H2 e2 en2 => q σ2 H2 (e.trans e2) en2
    | rt d => exact fun v H2 e2 i2 => q v H2 (e.trans e2) i2⟩
  cases x with
  | true =>
    rw [if_pos rfl] at z
    exact iteT (go z)
  | false =>
    rw [if_neg Bool.false_ne_true] at z
    exact iteF (go z)
/-- a way that is not taken -/
def sNo : Stm := fun _ => none
theorem ds_no : PSs X sts (tSD T sNo) := pss_weak pss_never fun E σ H ⟨ρ, r, t, en, z, q⟩ => by cases z
/-- name += e (tuples) -/
def gCat : Op2
  | .tuple xs, .tuple ys => if xs.length + ys.length ≤ 1000 then some (.tuple (xs ++ ys)) else none
  | _, _ => none
theorem gCat_some : ∀ {x y d : D}, gCat x y = some d → ∃ xs ys : List D, x = .tuple xs ∧ y = .tuple ys ∧ xs.length + ys.length ≤ 1000 ∧ d = .tuple (xs ++ ys) := by
  intro x y d h
  cases x <;> cases y <;> try cases h
  rename_i xs ys
  obtain ⟨hl, rfl⟩ := ite_some (c := xs.length + ys.length ≤ 1000) h
  exact ⟨xs, ys, rfl, rfl, hl, rfl⟩
def sAug (i : Nat) (f : DEnv → Option D) : Stm := fun ρ => (eVar i ρ).bind fun x => (f ρ).bind fun y => (gCat x y).map fun d => .nx (ρ.set i (some d))
theorem ds_aug {i : Nat} {x : Str} {f : DEnv → Option D} {pos' : Pos} (hN : X.N.Nodup) (he : PE X e (tD T f)) (hi : X.N[i]? = some x := by rfl) (hx : Loc X.env.scope x := by first | exact Or.inl rfl | exact Or.inr rfl)
    (hf : X.fn x = true ∨ X.env.scope.names.lookup x = some .local := by first | exact .inl rfl | exact .inr rfl | assumption) : PS X (.AugAssign (.Name x pos') .Add e pos) (tSD T (sAug i f)) := by
  refine ps_weak (ps_aug hN hi hx he iop_catA hf) fun E σ H ⟨ρ, r, t, en, z, q⟩ => ?_
  obtain ⟨x, hx, z⟩ := Option.bind_eq_some_iff.mp z
  obtain ⟨y, hy, z⟩ := Option.bind_eq_some_iff.mp z
  obtain ⟨d, hd, rfl⟩ := Option.map_eq_some_iff.mp z
  unfold eVar at hx
  split at hx
  · rename_i d' hd'
    cases hx
    obtain ⟨v, h1, h2⟩ := en.2 i _ hd'
    refine ⟨v, h1, ρ, y, t, en, hy, fun w H1 e1 i1 => ?_⟩
    obtain ⟨xs, ys, rfl, rfl, hl, rfl⟩ := gCat_some hd
    exact od_cat (T := T) (e1.is h2) i1 hl fun u H2 e2 i2 => q _ H2 (e1.trans e2) ((en.mono (e1.trans e2).tups).set i i2)
  · cases hx
/-! targets -/
abbrev Tg := D → DEnv → Option DEnv
abbrev Tgs := List D → DEnv → Option DEnv
def gD (U : Tg) : TG := fun v σ H Q => ∃ ρ d ρ', Is H v d ∧ EnvIs H σ ρ ∧ U d ρ = some ρ' ∧ ∀ σ', EnvIs H σ' ρ' → Q σ' H
def gDs (U : Tgs) : TGs := fun vs σ H Q => ∃ ρ ds ρ', IsAll H vs ds ∧ EnvIs H σ ρ ∧ U ds ρ = some ρ' ∧ ∀ σ', EnvIs H σ' ρ' → Q σ' H
def uName (i : Nat) : Tg := fun d ρ => some (ρ.set i (some d))
def uTup (n : Nat) (U : Tgs) : Tg := fun d ρ => match d with
  | .tuple ds => if ds.length = n then U ds ρ else none
  | _ => none
def uNil : Tgs := fun ds ρ => match ds with
  | [] => some ρ
  | _ => none
def uCons (U : Tg) (W : Tgs) : Tgs := fun ds ρ => match ds with
  | d :: r => (U d ρ).bind fun ρ' => W r ρ'
  | [] => none
theorem pgs_weak {ts : List Expr} {t t' : TGs} (h : PGs X ts t) (hw : ∀ v σ H Q, t' v σ H Q → t v σ H Q) : PGs X ts t' := ⟨fun pins s σ H v u Q I r q => h.run pins s σ H v u Q I r (hw _ _ _ _ q)⟩
theorem dg_name {i : Nat} {x : Str} (hN : X.N.Nodup) (hi : X.N[i]? = some x := by rfl) (hx : Loc X.env.scope x := by first | exact Or.inl rfl | exact Or.inr rfl) (hf : X.fn x = true ∨ X.env.scope.names.lookup x = some .local := by first | exact .inl rfl | exact .inr rfl | assumption) :
    PG X (.Name x pos) (gD (uName i)) := pg_weak (pg_name hN hi hx hf) fun v σ H Q ⟨ρ, d, ρ', i1, en, z, q⟩ => by
  cases z
  exact q _ (en.set i i1)
theorem dgs_nil : PGs X [] (gDs uNil) := pgs_weak pgs_nil fun vs σ H Q ⟨ρ, ds, ρ', i1, en, z, q⟩ => by
  cases ds with
  | nil =>
    cases z
    cases i1
    exact ⟨rfl, q _ en⟩
  | cons _ _ => cases z
theorem dgs_cons {U : Tg} {W : Tgs} (h1 : PG X e (gD U)) (h2 : PGs X es (gDs W)) (hs : (assignEach (e :: es) X.env).map (·.2) = assign e X.env :: (assignEach es X.env).map (·.2) := by rfl) : PGs X (e :: es) (gDs (uCons U W)) := by
  refine pgs_weak (pgs_cons h1 h2 hs) fun vs σ H Q ⟨ρ, ds, ρ', i1, en, z, q⟩ => ?_
  cases ds with
  | nil => cases z
  | cons d r =>
    obtain ⟨ρ1, h1, z⟩ := Option.bind_eq_some_iff.mp z
    cases i1 with
    | cons a1 a2 => exact ⟨_, _, rfl, ρ, d, ρ1, a1, en, h1, fun σ1 en1 => ⟨ρ1, r, ρ', a2, en1, z, q⟩⟩
theorem dg_tup {k n : Nat} {U : Tgs} (hc : X.calm = true) (h : PGs X es (gDs U)) (hn : (assignEach es X.env).length = n := by rfl) (hst : (assignEach es X.env).findIdx? (·.1) = none := by rfl) : PG X (.Tuple es k pos) (gD (uTup n U)) := by
  refine pg_weak (pg_tup hc h hn hst) fun v σ H Q ⟨ρ, d, ρ', i1, en, z, q⟩ => ?_
  cases d <;> try cases z
  rename_i ds
  obtain ⟨hl, z⟩ := ite_get (c := ds.length = n) z
  obtain ⟨a, vs, rfl, ha, hi⟩ := i1.tupE
  exact ⟨a, vs, rfl, .of ha, hi.length.trans hl, ρ, ds, ρ', hi, en, z, q⟩
def sAsg (f : DEnv → Option D) (U : Tg) : Stm := fun ρ => (f ρ).bind fun d => (U d ρ).map .nx
theorem ds_asg {tg : Expr} {f : DEnv → Option D} {U : Tg} (he : PE X e (tD T f)) (hg : PG X tg (gD U)) (hs : swapsWithSole [tg] e pos.line X.env = pure false := by rfl) (hw : swappedStores [tg] e X.env = pure none := by rfl)
    (h1 : (assignEach [tg] X.env).map (·.2) = [assign tg X.env] := by rfl) : PS X (.Assign [tg] e pos) (tSD T (sAsg f U)) := by
  refine ps_weak (ps_asg he hg hs hw h1) fun E σ H ⟨ρ, r, t, en, z, q⟩ => ?_
  obtain ⟨d, hd, z⟩ := Option.bind_eq_some_iff.mp z
  obtain ⟨ρ', hr, rfl⟩ := Option.map_eq_some_iff.mp z
  exact ⟨ρ, d, t, en, hd, fun v H1 e1 i1 => ⟨ρ, d, ρ', i1, en.mono e1.tups, hr, fun σ' en' => q σ' H1 e1 en'⟩⟩
/-- x, y = a, b -/
def sPar (i j : Nat) (f : DEnv → Option (List D)) : Stm := fun ρ => (f ρ).bind fun ds => match ds with
  | [x, y] => some (.nx ((ρ.set i (some x)).set j (some y)))
  | _ => none
theorem ds_par {i j : Nat} {x y : Str} {f : DEnv → Option (List D)} {px py pt : Pos} {kt : Nat} {k2 : Nat} {pt2 : Pos} (hc : X.calm = true) (hN : X.N.Nodup) (ha : PA X [a, b] (tDA T f)) (hij : i ≠ j := by decide) (hi : X.N[i]? = some x := by rfl) (hj : X.N[j]? = some y := by rfl)
    (hx : X.env.scope.names.lookup x = some .local := by rfl) (hy : X.env.scope.names.lookup y = some .local := by rfl)
    (hw : swappedStores [.Tuple [.Name x px, .Name y py] kt pt] (.Tuple [a, b] k2 pt2) X.env = pure (some [x, y]) := by rfl)
    (hs : swapsWithSole [.Tuple [.Name x px, .Name y py] kt pt] (.Tuple [a, b] k2 pt2) pos.line X.env = pure false := by rfl) :
    PS X (.Assign [.Tuple [.Name x px, .Name y py] kt pt] (.Tuple [a, b] k2 pt2) pos) (tSD T (sPar i j f)) := by
  refine ps_weak (ps_par hc hN hi hj hij hx hy ha hw hs) fun E σ H ⟨ρ, r, t, en, z, q⟩ => ?_
  obtain ⟨ds, hd, z⟩ := Option.bind_eq_some_iff.mp z
  refine ⟨ρ, ds, t, en, hd, fun vs H1 e1 i1 => ?_⟩
  split at z
  · cases z
    cases i1 with
    | cons a1 i2 =>
      cases i2 with
      | cons a2 i3 =>
        cases i3
        exact ⟨_, _, rfl, q _ H1 e1 (((en.mono e1.tups).set i a1).set j a2)⟩
  · cases z
/-! for x in range(n) -/
def forD (i : Nat) (F : Stm) : Nat → Nat → DEnv → Option DEnv
  | _, 0, ρ => some ρ
  | k, n + 1, ρ => match F (ρ.set i (some (.int (k : Int)))) with
    | some (.nx ρ') => forD i F (k + 1) n ρ'
    | _ => none
def sForR (i : Nat) (f : DEnv → Option (List D)) (F : Stm) : Stm := fun ρ => (f ρ).bind fun ds => match ds with
  | [.int n] => if 0 ≤ n ∧ n ≤ 1000 then (forD i F 0 n.toNat ρ).map .nx else none
  | _ => none
theorem ds_forR {i : Nat} {x : Str} {f : DEnv → Option (List D)} {F : Stm} {body : List Stmt} {px p pos2 : Pos} (hc : X.calm = true) (hN : X.N.Nodup) (hp : PassesOwn (model X.prog X.w) X.A X.env X.xe) (hm : X.mg "range" = none) (ha : PA X [a] (tDA T f)) (hb : PSs X body (tSD T F))
    (hg : Gl X "range" := by rfl) (hi : X.N[i]? = some x := by rfl) (hx : Loc X.env.scope x := by first | exact Or.inl rfl | exact Or.inr rfl) (hf : X.fn x = true ∨ X.env.scope.names.lookup x = some .local := by first | exact .inl rfl | exact .inr rfl | assumption)
    (hst : starEach [a] X.env = [(false, eval a X.env)] := by rfl)
    (hs : ∀ y, foldedSetIterable (.Call (.Name "range" p) [a] [] pos2) X.env y = pure y := by intro _; rfl) : PS X (.For (.Name x px) (.Call (.Name "range" p) [a] [] pos2) body [] pos) (tSD T (sForR i f F)) := by
  refine ps_weak (ps_for hp hc (pi_range1 hg hm ha hst) (pg_name hN hi hx hf) hb hs) fun E σ H ⟨ρ, r, t, en, z, q⟩ => ?_
  obtain ⟨ds, hd, z⟩ := Option.bind_eq_some_iff.mp z
  refine ⟨ρ, ds, t, en, hd, fun vs H1 e1 i1 => ?_⟩
  split at z
  · rename_i n
    obtain ⟨hn, z⟩ := ite_get (c := 0 ≤ n ∧ n ≤ 1000) z
    obtain ⟨ρf, hρ, rfl⟩ := Option.map_eq_some_iff.mp z
    cases i1 with
    | cons a1 i2 =>
      cases i2
      refine ⟨n, by rw [a1.intE], by omega, by omega, ?_⟩
      refine for_range (lo := 0) (n := n.toNat) (fun k σ' H' => ∃ ρ', Ext T H H' ∧ EnvIs H' σ' ρ' ∧ k ≤ n.toNat ∧ forD i F k (n.toNat - k) ρ' = some ρf) ⟨ρ, e1, en.mono e1.tups, Nat.zero_le _, hρ⟩ ?_ ?_
      · rintro k σ' H' hk ⟨ρ', e', en', _, h⟩
        have e2 : n.toNat - k = (n.toNat - (k + 1)) + 1 := by omega
        rw [e2] at h
        unfold forD at h
        split at h
        · rename_i ρ2 hF
          refine ⟨ρ'.set i (some (.int (k : Int))), .nx ρ2, e'.tabs t, ?_, hF, fun σ2 H2 e3 en3 => ⟨ρ2, e'.trans e3, en3, hk, h⟩⟩
          have := en'.set i (v := .int (0 + (k : Int))) (d := .int (k : Int)) (by rw [Int.zero_add]; exact .int _)
          exact this
        · cases h
      · rintro σ' H' ⟨ρ', e', en', _, h⟩
        rw [Nat.sub_self] at h
        cases h
        exact q σ' H' e' en'
  · cases z
/-! ### a pure def -/
def runD (n : Nat) (F : Stm) (ds : List D) : Option D := (F (startD n ds)).map fun r => match r with
  | .rt d => d
  | .nx _ => .none
theorem pure_ok {P : Program} {w : World} {K : PySem.W.Frag} {mg : Str → Option Value} {base : Heap} {x qual : Str} {pa : Arguments} {body : List Stmt} {scope : Scope} {dvs : List V} {kws : List (Str × V)} {f : Addr} {fd : FuncData} {N ps : List Str} {k n : Nat} {F : Stm}
    (Fd : FunD K x qual pa body scope dvs kws f fd) (S : FnScope N ps scope) (hn : n = ps.length)
    (hb : ∀ (cdv : Value) (A : Around) (outer : List Env) (s : Shared) (H : Hp) (E : XK), Room k (A.deeper (envOfC qual scope s.heap.objs.size f cdv)) → PSs (cxOf L2.CX0 P w K mg base N qual scope f cdv A outer s H E).nox body (tSD T F)) :
    FnOk P w K mg base L2.CX0 (k + 1) f fd ps (spD T n (runD N.length F)) := by
  refine Fd.ok S (fun vs H Q E ⟨ds, d, h1, _, h2, _⟩ => by rw [h2.length, h1, hn]) fun cdv A outer s H vs Q E hr h => ?_
  obtain ⟨ds, d, h1, t, h2, h3, q⟩ := h
  refine ⟨_, (hb cdv A outer s H E hr).nox, ?_⟩
  obtain ⟨r, h4, h5⟩ := Option.map_eq_some_iff.mp h3
  refine ⟨startD N.length ds, r, t, EnvIs.start h2, h4, ?_⟩
  cases r with
  | nx ρ' =>
    intro σ' H' e en
    cases h5
    exact q _ H' e .non
  | rt d' =>
    intro v H' e i
    cases h5
    exact q v H' e i
end
end CR
/-! CrT -/
set_option maxHeartbeats 4000000
namespace CR
open PySem PySem.Spec L2
open PyProof.Rows hiding St
/-- a def of the module -/
def FnP (K : PySem.W.Frag) (mg : Str → Option Value) (x : Str) (st : Stmt) (kws : List (Str × V)) (f : Addr) (fd : FuncData) : Prop := FunD K x x (defArgs st) (defBody st) (defScope st) [] kws f fd ∧ mg x = some (.ref f)
theorem FunD.kall {K : PySem.W.Frag} {x qual : Str} {pa : Arguments} {body : List Stmt} {sc : Scope} {kws : List (Str × V)} {f : Addr} {fd : FuncData} {ps ks : List Str} {n : Nat} (F : FunD K x qual pa body sc [] kws f fd)
    (h : ∀ (kV doc pm : Value) (an : Option Addr) (cdv ct : Value) (us ws : List Value), us.length = n → ws.length = ks.length → bindArgs (PySem.W.fnOf x qual pa body sc .none kV doc pm an cdv ct) ⟨us, ks.zip ws⟩ = pure (ps.zip (us ++ ws))) : KBn K fd ps n ks (fun us ws => us ++ ws) (fun vs zs => vs ++ zs) := by
  obtain ⟨oc, od, dV, kV, doc, pm, an, cdv, ct, osl, rfl, lk, hcd, hD, hK⟩ := F.ex
  rcases hD with ⟨_, rfl⟩ | ⟨e, _⟩
  · exact ⟨fun s us ws X h1 h2 => .of_eq (h kV doc pm an cdv ct us ws h1 h2), fun r1 r2 => r1.append r2⟩
  · exact absurd rfl e
section
variable {P : Program} {w : World} {K : PySem.W.Frag} {mg : Str → Option Value} {base : Heap} {T : List (Addr × Str)} {x : Str} {st : Stmt} {kws : List (Str × V)} {f : Addr} {fd : FuncData} {ps : List Str} {k n : Nat} {m : List D → Option D}
theorem pfn_of (F : FnP K mg x st kws f fd) (o : FnOk P w K mg base L2.CX0 k f fd ps (spD T n m)) 
    (h : ∀ (kV doc pm : Value) (an : Option Addr) (cdv ct : Value) (us : List Value), us.length = ps.length → bindArgs (PySem.W.fnOf x x (defArgs st) (defBody st) (defScope st) .none kV doc pm an cdv ct) ⟨us, []⟩ = pure (ps.zip us)) : PFn P w K mg base T k x n [] m :=
  ⟨f, fd, ps, [], [], o, F.2, F.1.kp, FunD.bindsN F.1 h, .nil, fun _ => .nil⟩
theorem pfk_of {ks : List Str} (F : FnP K mg x st kws f fd) (o : FnOk P w K mg base L2.CX0 k f fd ps (spD T (n + ks.length) m))
    (h : ∀ (kV doc pm : Value) (an : Option Addr) (cdv ct : Value) (us ws : List Value), us.length = n → ws.length = ks.length → bindArgs (PySem.W.fnOf x x (defArgs st) (defBody st) (defScope st) .none kV doc pm an cdv ct) ⟨us, ks.zip ws⟩ = pure (ps.zip (us ++ ws))) : PFk P w K mg base T k x n ks m :=
  ⟨f, fd, ps, o, F.2, F.1.kp, FunD.kall F.1 h⟩
/-- one keyword-only default that lacks -/
theorem pfd_of {y : Str} {i : Int} {j : Nat} (F : FnP K mg x st [(y, .int i)] f fd) (o : FnOk P w K mg base L2.CX0 k f fd ps (spD T n m)) (hn : j + 1 = ps.length)
    (h : ∀ (D : Addr) (doc pm : Value) (an : Option Addr) (cdv ct : Value) (us ks : List Value), us.length = j → ks.length = 1 →
      KwChain D ([y].zip ks) (bindArgs (PySem.W.fnOf x x (defArgs st) (defBody st) (defScope st) .none (.ref D) doc pm an cdv ct) ⟨us, []⟩) (ps.zip (us ++ ks))) : PFn P w K mg base T k x n [.int i] m := by
  obtain ⟨ds, h1, h2⟩ := FunD.binds0 F.1 j (by simp) hn h
  exact ⟨f, fd, ps, ds, [.int i], o, F.2, F.1.kp, h2, h1, fun _ => .cons (.int i) .nil⟩
end
/-! ### constants, built-in names -/
structure Tc (mg : Str → Option Value) : Prop where
  n_sum : mg "sum" = none
  n_enumerate : mg "enumerate" = none
  n_dict : mg "dict" = none
  n_len : mg "len" = none
  n_tuple : mg "tuple" = none
  n_sorted : mg "sorted" = none
  n_range : mg "range" = none
  n_max : mg "max" = none
  n_isinstance : mg "isinstance" = none
  n_int : mg "int" = none
  n_list : mg "list" = none
  c_LANES : ∃ t, mg "LANES" = some (.int 2 t)
  c_MIXES : ∃ t, mg "MIXES" = some (.int 1009 t)
  c_SIGNS : ∃ t, mg "SIGNS" = some (.str "abcdefghijklmnopqrstuvwxyz" t)
  c_SIZE : ∃ t, mg "SIZE" = some (.int 4 t)
  c_HALF_AT : ∃ t, mg "HALF_AT" = some (.int 0 t)
  c_LANES_AT : ∃ t, mg "LANES_AT" = some (.int 1 t)
  c_JOININGS_AT : ∃ t, mg "JOININGS_AT" = some (.int 4 t)
  c_STEERS_AT : ∃ t, mg "STEERS_AT" = some (.int 6 t)
  c_PURSE_AT : ∃ t, mg "PURSE_AT" = some (.int 7 t)
  c_INWARD_AT : ∃ t, mg "INWARD_AT" = some (.int 4 t)
  c_BOX_AT : ∃ t, mg "BOX_AT" = some (.int 5 t)
  c_SINCE_AT : ∃ t, mg "SINCE_AT" = some (.int 6 t)
  c_MASKED_AT : ∃ t, mg "MASKED_AT" = some (.int 7 t)
  c_CUT : ∃ t, mg "CUT" = some (.int 4 t)
  c_SUMS : ∃ t, mg "SUMS" = some (.int 10007 t)
  c_MOST : ∃ t, mg "MOST" = some (.int 2 t)
  c_WAIT : ∃ t, mg "WAIT" = some (.int 4 t)
end CR
/-! CrF -/
set_option maxHeartbeats 4000000
namespace CR
open PySem PySem.Spec L2
open PyProof.Rows hiding St
/-! ### enumerate(v, start=k0) over a tuple, over a text -/
def IteT (K : PySem.W.Frag) (k0 : Int) (a : Addr) : It :=
  ⟨fun i H => ∃ (xs : List V) (x : V), SqT K H a xs ∧ xs[i]? = some x, fun i H v H' => ∃ T x, v = .ref T ∧ H T = none ∧ H' = upd H T (.tup [.int (k0 + (i : Nat)), x]) ∧ ∀ xs, SqT K H a xs → xs[i]? = some x, fun i H => ∃ xs : List V, SqT K H a xs ∧ xs.length = i⟩
def IteS (k0 : Int) (z : Str) : It :=
  ⟨fun i _ => i < z.cps.size, fun i H v H' => ∃ T c, v = .ref T ∧ H T = none ∧ H' = upd H T (.tup [.int (k0 + (i : Nat)), .str ⟨#[c]⟩]) ∧ z.cps[i]? = some c, fun i _ => z.cps.size = i⟩
section
variable {P : Program} {w : World} {K : PySem.W.Frag} {elts : List Expr} {kk : Nat} {tpos : Pos}
/-- a turn of enumerate: the pair is a new tuple -/
theorem enum_step {X : Cx} {pins : List (Addr × Obj)} {s : Shared} {σ : St} {H : Hp} {E : Value → Shared → Prop} {e it : Addr} {fp : List Addr} {n i : Nat} {k0 : Int} {Pd : Nat → Value → Prop} {St' : Nat → Heap → Prop} {old : Value} {vx : Value → V → Prop}
    (I : Inv X pins σ H s) (D : Draws X.prog X.w X.A.in1 it fp n Pd St') (he : IsEnum s.heap e it (k0 + (i : Int)) old) (hst : St' i s.heap) (hlt : i < n) (hne : e ≠ it) (hef : e ∉ fp) (hf : ∀ b ∈ [e, it], FpOk X pins H b)
    (hP : ∀ x, Pd i x → ∃ y, RelV y x ∧ vx x y) {tn : Nat → Heap → Prop} (htn : ∀ h' h'', St' (i + 1) h' → Heap.SameBut e h' h'' → (∃ old, IsEnum h'' e it (k0 + ((i + 1 : Nat) : Int)) old) → tn (i + 1) h'')
    {Y : V → Hp → Prop} (hY : ∀ T x y, H T = none → Pd i x → RelV y x → vx x y → Y (.ref T) (upd H T (.tup [.int (k0 + (i : Int)), y]))) :
    wpAny (model X.prog X.w) X.A (pyNext (.ref e)) (fun r s1 => ∃ u, r = some u ∧
      wpAny (model X.prog X.w) X.A (letOwnedTupleGo (.Tuple elts kk tpos) (.ref e) u) (fun _ s2 => ∃ x H', Inv X pins σ H' s2 ∧ RelV x u ∧ Y x H' ∧ tn (i + 1) s2.heap ∧ ∀ b ∈ [e, it], H' b = none) E s1) E s := by
  have hel : e < s.heap.objs.size := Heap.lt_size he
  have hil : it < s.heap.objs.size := by obtain ⟨_, y⟩ := D.live _ _ hst; exact Heap.lt_size y
  refine wpAny_pyNext_enum_itemC D he hst hlt hne hef fun x h' tk hPx ho hs' hT hsz hk => ?_
  obtain ⟨y, ry, hy⟩ := hP x hPx
  refine ⟨_, rfl, wpAny_letOwnedTupleGo_enum (s := { s with heap := h', toks := tk + 1 }) ho fun h'' he' sb => ?_⟩
  have hT2 : h''.get? s.heap.objs.size = some { cls := .type "tuple", data := .seq #[.int (k0 + (i : Int)) tk, x] } := (sb.2 _ (Nat.ne_of_gt hel)).trans hT
  have new : ObjOk X.prog X.w (upd H s.heap.objs.size (.tup [.int (k0 + (i : Int)), y])) h'' s.heap.objs.size (.tup [.int (k0 + (i : Int)), y]) :=
    ⟨by show 2 ≤ sizeLine; decide, [.int (k0 + (i : Int)) tk, x], .cons ⟨_, rfl⟩ (.cons ry .nil), ⟨_, hT2, rfl, _, rfl⟩⟩
  have I1 : Inv X pins σ (upd H s.heap.objs.size (.tup [.int (k0 + (i : Int)), y])) { s with heap := h'', toks := tk + 1 } :=
    I.turnedNew (ch := [e, it]) (fun b ob hb q => (sb.2 b (fun z => hb (by simp [z]))).trans (hk b ob (fun z => hb (by simp [z])) (fun z => hb (by simp [z])) q)) hf (Nat.le_refl _) new
  refine ⟨.ref s.heap.objs.size, _, I1, rfl, hY _ x y (I.hok.fresh (Nat.le_refl _)) hPx ry hy, htn h' h'' hs' sb ⟨x, ?_⟩, fun b hb => ?_⟩
  · have e1 : k0 + ((i + 1 : Nat) : Int) = k0 + (i : Int) + 1 := by omega
    rw [e1]; exact he'
  · have hb' : b < s.heap.objs.size := by
      have e' : b = e ∨ b = it := by simpa using hb
      rcases e' with z | z
      · rw [z]; exact hel
      · rw [z]; exact hil
    rw [upd_ne (Nat.ne_of_lt hb')]
    exact (hf b hb).1
theorem turn_enumT (k0 : Int) (a e it : Addr) :
    Turn P w K (.Tuple elts kk tpos) (IteT K k0 a) [e, it] e (fun i h => (∃ old, IsEnum h e it (k0 + (i : Int)) old) ∧ h.IsTupleIter it a i ∧ e ≠ it ∧ a ≠ it ∧ a ≠ e) where
  mem := by simp
  obj := fun i h st b hb => by
    obtain ⟨⟨old, he⟩, ⟨o, ho, hc, hd⟩, _⟩ := st
    have e' : b = e ∨ b = it := by simpa using hb
    rcases e' with z | z
    · rw [z]; exact ⟨_, he, fun v q => nomatch q⟩
    · rw [z]; exact ⟨o, ho, fun v q => by rw [hd] at q; cases q⟩
  keep := fun i h h' st k => let ⟨⟨old, he⟩, hi, hne⟩ := st; ⟨⟨old, k e (by simp) _ he⟩, hi.at fun o q => k it (by simp) o q, hne⟩
  item := by
    intro X hP hw hK hc i pins s σ H E I hf st hg
    subst hP hw hK
    obtain ⟨⟨old, he⟩, hit, hne, hai, hae⟩ := st
    obtain ⟨xs, x, hq, hx⟩ := hg
    obtain ⟨its, rv, p, hz⟩ := I.tuple hq
    have hlt : i < its.toArray.size := by
      rw [List.size_toArray, ← rv.length]
      exact (List.getElem?_eq_some_iff.mp hx).1
    have DD := Draws.tuple (prog := X.prog) (w := X.w) (A := X.A.in1) (I.ok.hd hc) it a hai its.toArray
    refine enum_step (elts := elts) (kk := kk) (tpos := tpos) (E := E) (Y := fun x H' => (IteT X.K k0 a).yld i H x H') (tn := fun i h => (∃ old, IsEnum h e it (k0 + (i : Int)) old) ∧ h.IsTupleIter it a i ∧ e ≠ it ∧ a ≠ it ∧ a ≠ e) (vx := fun _ y => ∀ xs, SqT X.K H a xs → xs[i]? = some y) I DD he ⟨hit, p⟩ hlt hne (by simp [hne, Ne.symm hae]) hf (fun v hv => ?_)
      (fun h' h'' hs sb ho => ⟨ho, hs.1.at fun o q => (sb.2 it (Ne.symm hne)).trans q, hne, hai, hae⟩) (fun T v y hT hv ry hy => ⟨T, y, rfl, hT, rfl, hy⟩)
    have hv' : its[i]? = some v := by simpa using hv
    refine ⟨x, ?_, fun ys hy => by rw [I.tuple_inj hy hq]; exact hx⟩
    obtain ⟨u, hu, ru⟩ := rv.get hx
    rw [hu] at hv'
    cases hv'
    exact ru
  done := by
    intro X hP hw hK hc i pins s σ H E I hf st hg
    subst hP hw hK
    obtain ⟨⟨old, he⟩, hit, hne, hai, hae⟩ := st
    obtain ⟨xs, hq, hx⟩ := hg
    obtain ⟨its, rv, p, hz⟩ := I.tuple hq
    obtain ⟨f0, f1, f2, f3, f4, f5⟩ := hf it (by simp)
    have hl : its.toArray.size = i := by rw [List.size_toArray, ← rv.length, hx]
    have D := Draws.tuple (prog := X.prog) (w := X.w) (A := X.A.in1) (I.ok.hd hc) it a hai its.toArray
    rw [hl] at D
    exact wpAny_pyNext_enum_endD D he ⟨hit, p⟩ fun h' eb => ⟨rfl, I.turned (t' := s.toks) (fun b o hb q => eb b o hb q) f0 f1 f3 f4 f5⟩
  self := fun A i s Q E st h => let ⟨⟨_, he⟩, _⟩ := st; wpAny_pyIter_enum he h
theorem turn_enumS (k0 : Int) (z : Str) (t : Tok) (e it : Addr) :
    Turn P w K (.Tuple elts kk tpos) (IteS k0 z) [e, it] e (fun i h => (∃ old, IsEnum h e it (k0 + (i : Int)) old) ∧ h.IsStrIter it (strIterType z) z t i ∧ e ≠ it) where
  mem := by simp
  obj := fun i h st b hb => by
    obtain ⟨⟨old, he⟩, ⟨o, ho, hc, hd⟩, _⟩ := st
    have e' : b = e ∨ b = it := by simpa using hb
    rcases e' with z | z
    · rw [z]; exact ⟨_, he, fun v q => nomatch q⟩
    · rw [z]; exact ⟨o, ho, fun v q => by rw [hd] at q; cases q⟩
  keep := fun i h h' st k => let ⟨⟨old, he⟩, ⟨o, ho, r⟩, hne⟩ := st; ⟨⟨old, k e (by simp) _ he⟩, ⟨o, k it (by simp) o ho, r⟩, hne⟩
  item := by
    intro X hP hw hK hc i pins s σ H E I hf st hg
    subst hP hw hK
    obtain ⟨⟨old, he⟩, hit, hne⟩ := st
    have DD := Draws.text (prog := X.prog) (w := X.w) (A := X.A.in1) (I.ok.hd hc) it z t
    refine enum_step (elts := elts) (kk := kk) (tpos := tpos) (E := E) (Y := fun x H' => (IteS k0 z).yld i H x H') (tn := fun i h => (∃ old, IsEnum h e it (k0 + (i : Int)) old) ∧ h.IsStrIter it (strIterType z) z t i ∧ e ≠ it) (vx := fun v y => ∃ c, z.cps[i]? = some c ∧ y = .str ⟨#[c]⟩) I DD he hit hg hne (by simp [hne]) hf (fun v hv => ?_)
      (fun h' h'' hs sb ho => ⟨ho, ?_, hne⟩) (fun T v y hT hv ry hy => ?_)
    · obtain ⟨c, u, hc, rfl⟩ := hv
      exact ⟨.str ⟨#[c]⟩, ⟨u, rfl⟩, c, hc, rfl⟩
    · obtain ⟨o, ho, r⟩ := hs
      exact ⟨o, (sb.2 it (Ne.symm hne)).trans ho, r⟩
    · obtain ⟨c, h1, rfl⟩ := hy
      exact ⟨T, c, rfl, hT, rfl, h1⟩
  done := by
    intro X hP hw hK hc i pins s σ H E I hf st hg
    subst hP hw hK
    obtain ⟨⟨old, he⟩, hit, hne⟩ := st
    obtain ⟨f0, f1, f2, f3, f4, f5⟩ := hf it (by simp)
    have D := Draws.text (prog := X.prog) (w := X.w) (A := X.A.in1) (I.ok.hd hc) it z t
    have hg' : z.cps.size = i := hg
    rw [hg'] at D
    exact wpAny_pyNext_enum_endD D he hit fun h' eb => ⟨rfl, I.turned (t' := s.toks) (fun b o hb q => eb b o hb q) f0 f1 f3 f4 f5⟩
  self := fun A i s Q E st h => let ⟨⟨_, he⟩, _⟩ := st; wpAny_pyIter_enum he h
end
section
variable {X : Cx} {T : List (Addr × Str)} {elts : List Expr} {kk : Nat} {tpos : Pos}
def iEnumD (K : PySem.W.Frag) (k0 : Int) (te : TE) : TI := fun σ H R => tCons te tNil σ H fun vs H1 => ∃ v, vs = [v] ∧ ((∃ a xs, v = .ref a ∧ SqT K H1 a xs ∧ R (IteT K k0 a) H1) ∨ ∃ z, v = .str z ∧ R (IteS k0 z) H1)
theorem callWith_tyK {M : Model} {A : Around} {E : Value → Shared → Prop} {s : Shared} {env : Env} {pos : Pos} {ty : String} {Q : Value → Shared → Prop} {e : Expr} {rest : List Expr} {kws : List Keyword} (hall : (backToKw pos (keywordEach kws env)).all (·.1.isSome) = true)
    (h : wpAny M A (spliced (backTo pos (starEach (e :: rest) env))) (fun vs s₁ => wpAny M A (evalAll ((backToKw pos (keywordEach kws env)).map (·.2)))
      (fun ks s₂ => wpAny M A (call (.type ty) vs (((backToKw pos (keywordEach kws env)).filterMap (·.1)).zip ks)) Q E s₂) E s₁) E s)
    (hplain : ((backTo pos (starEach (e :: rest) env)).any (·.1) || (backToKw pos (keywordEach kws env)).any (·.1.isNone)) = false) (he : starEach (e :: rest) env = (false, eval e env) :: starEach rest env) :
    wpAny M A (callWith pos (.type ty) [] (backTo pos (starEach (e :: rest) env)) (backToKw pos (keywordEach kws env))) Q E s :=
  PySem.W.callWith_of (P := fun _ => True) hplain (fun h _ => ⟨_, .inr (.inl rfl), .of_pure rfl⟩) (evalArgs_kw2 hall (wpAny_mono h (fun vs s1 h1 => wpAny_mono h1 (fun ks s2 h2 => ⟨trivial, h2⟩) fun _ _ z => z) fun _ _ z => z) he)
theorem pi_enumD {e : Expr} {te : TE} {p pos kp kp2 : Pos} {k0 : Int} {jk : Nat} (hm : X.mg "enumerate" = none) (ha : PE X e te) (hk0 : -(2 ^ 63) ≤ k0) (hk1 : k0 < 2 ^ 63) (hg : Gl X "enumerate" := by rfl) (hs : starEach (e :: []) X.env = (false, eval e X.env) :: starEach [] X.env := by rfl)
    (hpl : ((backTo pos (starEach (e :: []) X.env)).any (·.1) || (backToKw pos (keywordEach [⟨some "start", .Constant (.int k0) jk kp2, kp⟩] X.env)).any (·.1.isNone)) = false := by rfl)
    (hall : (backToKw pos (keywordEach [⟨some "start", .Constant (.int k0) jk kp2, kp⟩] X.env)).all (·.1.isSome) = true := by rfl)
    (hks : (backToKw pos (keywordEach [⟨some "start", .Constant (.int k0) jk kp2, kp⟩] X.env)).filterMap (·.1) = [Str.ofString "start"] := by rfl) :
    PI X (.Tuple elts kk tpos) (.Call (.Name "enumerate" p) [e] [⟨some "start", .Constant (.int k0) jk kp2, kp⟩] pos) (iEnumD X.K k0 te) := by
  refine ⟨fun pins s σ H R I h => ?_⟩
  refine wpAny_Call_Name_kw (ld_blt I hg hm boot_enumerate ?_)
  refine callWith_tyK hall ?_ hpl hs
  refine thn ((pa_cons ha pa_nil hs).run pos pins s σ H (fun vs H1 => ∃ v, vs = [v] ∧ ((∃ a xs, v = .ref a ∧ SqT X.K H1 a xs ∧ R (IteT X.K k0 a) H1) ∨ ∃ z, v = .str z ∧ R (IteS k0 z) H1)) I h) fun us s1 ⟨vs, H1, I1, r1, v, ev, q1⟩ => ?_
  refine thn ((pk_cons (nm := some "start") (kpos := kp) (pe_int (i := k0) (j := jk) (pos := kp2)) pk_nil).run pos pins s1 σ H1 (fun zs H2 => zs = [.int k0] ∧ H2 = H1) I1 ⟨rfl, rfl⟩) fun ws s2 ⟨zs, H2, I2, r2, e2, e3⟩ => ?_
  subst e2 e3
  rw [hks]
  subst ev
  cases r2 with
  | cons rk rn =>
    cases rn
    obtain ⟨tk, rfl⟩ := rk
    cases r1 with
    | cons rv rn =>
      cases rn
      show wpAny _ _ (call (.type "enumerate") [_] [(Str.ofString "start", .int k0 tk)]) _ _ _
      rcases q1 with ⟨a, xs, rfl, hq, q⟩ | ⟨z, rfl, q⟩
      · cases rv
        obtain ⟨its, rr, p', hz⟩ := I2.tuple hq
        have hal : a < s2.heap.objs.size := p'.lt
        refine enum_begins_start (begins_tuple a its.toArray) p' hk0 hk1 fun h' he hit hsz hk => wpAny_pyIter_enum he ?_
        have I3 : Inv X pins σ H2 { s2 with heap := h' } := I2.kept (t' := s2.toks) hk
        refine ⟨s2.heap.objs.size + 1, [s2.heap.objs.size + 1, s2.heap.objs.size], _, _, H2, rfl, I3, turn_enumT k0 a (s2.heap.objs.size + 1) s2.heap.objs.size, ⟨⟨.none, ?_⟩, ⟨_, hit, rfl, rfl⟩, Nat.succ_ne_self _, Nat.ne_of_lt hal, Nat.ne_of_lt (Nat.lt_succ_of_lt hal)⟩, fun b hb => ?_, q⟩
        · simpa using he
        · have e' : b = s2.heap.objs.size + 1 ∨ b = s2.heap.objs.size := by simpa using hb
          have hle : s2.heap.objs.size ≤ b := by
            rcases e' with z | z
            · rw [z]; exact Nat.le_add_right _ _
            · rw [z]; exact Nat.le_refl _
          exact I2.fpOk hle (I2.hok.fresh hle)
      · obtain ⟨t, rfl⟩ := rv
        refine enum_begins_start (begins_text z t) trivial hk0 hk1 fun h' he hit hsz hk => wpAny_pyIter_enum he ?_
        have I3 : Inv X pins σ H2 { s2 with heap := h' } := I2.kept (t' := s2.toks) hk
        refine ⟨s2.heap.objs.size + 1, [s2.heap.objs.size + 1, s2.heap.objs.size], _, _, H2, rfl, I3, turn_enumS k0 z t (s2.heap.objs.size + 1) s2.heap.objs.size, ⟨⟨.none, ?_⟩, ⟨_, hit, rfl, rfl⟩, Nat.succ_ne_self _⟩, fun b hb => ?_, q⟩
        · simpa using he
        · have e' : b = s2.heap.objs.size + 1 ∨ b = s2.heap.objs.size := by simpa using hb
          have hle : s2.heap.objs.size ≤ b := by
            rcases e' with z | z
            · rw [z]; exact Nat.le_add_right _ _
            · rw [z]; exact Nat.le_refl _
          exact I2.fpOk hle (I2.hok.fresh hle)
end
end CR
/-! CrG -/
set_option maxHeartbeats 4000000
namespace CR
open PySem PySem.Spec L2
open PyProof.Rows hiding St
/-! ### comprehensions over data -/
theorem tabs_lst {T : List (Addr × Str)} {H : Hp} {p : Addr} {xs ys : List V} (t : LamX.Tabs T H) (h : H p = some (.lst xs)) : LamX.Tabs T (upd H p (.lst ys)) := by
  intro q hq
  obtain ⟨ps, h1, h2, h3⟩ := t q hq
  have n1 : q.1 ≠ p := fun e => by rw [e, h] at h1; cases h1
  refine ⟨ps, by rw [upd_ne n1]; exact h1, h2, fun pos cv hc => ?_⟩
  obtain ⟨c, e1, e2⟩ := h3 pos cv hc
  have n2 : c ≠ p := fun e => by rw [e, h] at e2; cases e2
  exact ⟨c, e1, by rw [upd_ne n2]; exact e2⟩
/-- a list that began after H turns: H still goes on -/
theorem Ext.turn {T : List (Addr × Str)} {H H1 : Hp} (e : Ext T H H1) {p : Addr} {xs ys : List V} (n : H p = none) (h : H1 p = some (.lst xs)) : Ext T H (upd H1 p (.lst ys)) :=
  ⟨fun b o hb hn => by rw [upd_ne (ne_of_none hb n)]; exact e.keep b o hb hn, fun t => tabs_lst (e.tabs t) h⟩
theorem tups_lst {H : Hp} {p : Addr} {xs ys : List V} (h : H p = some (.lst xs)) : Tups H (upd H p (.lst ys)) := ⟨fun a zs hz => by
  have n : a ≠ p := fun e => by rw [e, h] at hz; cases hz
  rw [upd_ne n]
  exact hz, fun a o zs hz => by
  have n : a ≠ p := fun e => by rw [e, h] at hz; cases hz
  rw [upd_ne n]
  exact hz⟩
def lGen (own : List Nat) (U : Tg) (F : DEnv → Option (List D)) (fe : DEnv → Option D) : DEnv → Option (List D) := fun ρ => (F ρ).bind fun ds => if ds.length ≤ 1000 then ds.mapM fun d => (U d (wipeD ρ own)).bind fe else none
/-- the new list, as data -/
def tDL (T : List (Addr × Str)) (F : DEnv → Option (List D)) : TE := fun σ H Q => ∃ ρ ds, LamX.Tabs T H ∧ EnvIs H σ ρ ∧ F ρ = some ds ∧ ∀ p H' vs, Ext T H H' → H' p = some (.lst vs) → IsAll H' vs ds → Q (.ref p) H'
/-- the walked thing, as data -/
def JIs (T : List (Addr × Str)) (H1 : Hp) (J : It) (ds : List D) : Prop := ∀ H2, Ext T H1 H2 → (∀ i d, ds[i]? = some d → J.go i H2 ∧ ∀ x H3, J.yld i H2 x H3 → Ext T H2 H3 ∧ Is H3 x d) ∧ J.stop ds.length H2
def iD (T : List (Addr × Str)) (F : DEnv → Option (List D)) : TI := fun σ H R => ∃ ρ ds, LamX.Tabs T H ∧ EnvIs H σ ρ ∧ F ρ = some ds ∧ ∀ J H1, Ext T H H1 → JIs T H1 J ds → R J H1
theorem pi_weak {X : Cx} {tg e : Expr} {t t' : TI} (h : PI X tg e t) (hw : ∀ σ H Q, t' σ H Q → t σ H Q) : PI X tg e t' := ⟨fun pins s σ H R I q => h.run pins s σ H R I (hw _ _ _ q)⟩
theorem mapM_snoc {α β : Type} {f : α → Option β} : ∀ {l : List α} {r : List β} {i : Nat} {x : α}, l.mapM f = some r → l[i]? = some x → ∃ y, f x = some y ∧ r[i]? = some y
  | [], _, _, _, _, h => by simp at h
  | a :: l, r, i, x, h, hx => by
    rw [List.mapM_cons] at h
    obtain ⟨b, hb, h⟩ := Option.bind_eq_some_iff.mp h
    obtain ⟨bs, hbs, h⟩ := Option.bind_eq_some_iff.mp h
    cases h
    cases i with
    | zero => simp at hx; subst hx; exact ⟨b, hb, rfl⟩
    | succ i => exact mapM_snoc (i := i) hbs (by simpa using hx)
theorem mapM_len {α β : Type} {f : α → Option β} : ∀ {l : List α} {r : List β}, l.mapM f = some r → r.length = l.length
  | [], _, h => by cases h; rfl
  | a :: l, r, h => by
    rw [List.mapM_cons] at h
    obtain ⟨b, hb, h⟩ := Option.bind_eq_some_iff.mp h
    obtain ⟨bs, hbs, h⟩ := Option.bind_eq_some_iff.mp h
    cases h
    simp [mapM_len hbs]
section
variable {X : Cx} {T : List (Addr × Str)}
theorem de_lcG {tg elt iter : Expr} {scope : Scope} {own : List (Str × Nat)} {pos : Pos} {F : DEnv → Option (List D)} {fe : DEnv → Option D} {g : TG} {U : Tg} (hc : X.calm = true) (hN : X.N.Nodup) (hi : PI X tg iter (iD T F)) (ok : BlkOk X.N X.env.scope scope own)
    (hg : ∀ (s : Shared) (H : Hp) (C : Addr) (cl : List (Str × Addr)) (fp : List Addr), PG (X.blk s H scope (compEnvC scope cl C X.env) fp) tg g)
    (hU : ∀ v σ H Q ρ d ρ', Is H v d → EnvIs H σ ρ → U d ρ = some ρ' → (∀ σ', EnvIs H σ' ρ' → wipe σ' (own.map (·.2)) = wipe σ (own.map (·.2)) → Q σ' H) → g v σ H Q)
    (he : ∀ (s : Shared) (H : Hp) (C : Addr) (cl : List (Str × Addr)) (fp : List Addr), PE (X.blk s H scope (compEnvC scope cl C X.env) fp) elt (tD T fe)) (hww : ∀ σ : St, wipe (wipe σ (own.map (·.2))) (own.map (·.2)) = wipe σ (own.map (·.2))) (hs : ∀ x, foldedSetIterable iter X.env x = pure x := by intro _; rfl) :
    PE X (.ListComp elt [⟨tg, iter, [], 0⟩] scope pos) (tDL T (lGen (own.map (·.2)) U F fe)) := by
  refine pe_weak (pe_lc hc hN hi ok hg (fun _ _ _ _ _ => pts_nil) he hs) fun σ H Q ⟨ρ, rs, t, en, z, q⟩ => ?_
  obtain ⟨ds, hds, z⟩ := Option.bind_eq_some_iff.mp z
  obtain ⟨hl, z⟩ := ite_get z
  refine ⟨ρ, ds, t, en, hds, fun J H1 e1 hJ D hD => ?_⟩
  refine ⟨fun i m H2 => m = ds.length - i ∧ i ≤ ds.length ∧ Ext T H1 H2 ∧ ∃ acc, H2 D = some (.lst acc) ∧ IsAll H2 acc (rs.take i), ⟨ds.length, by simp, Nat.zero_le _, .new hD, [], upd_same, by simpa using IsAll.nil⟩, ?_⟩
  rintro i m H2 ⟨rfl, hi', e2, acc, hacc, hall⟩
  obtain ⟨hgo, hstop⟩ := hJ H2 e2
  by_cases hlt : i < ds.length
  · have hx : ds[i]? = some ds[i] := by simp [hlt]
    obtain ⟨go, hy⟩ := hgo i _ hx
    obtain ⟨r, hr, hri⟩ := mapM_snoc z hx
    obtain ⟨ρ', hU1, hfe⟩ := Option.bind_eq_some_iff.mp hr
    refine .inr ⟨go, fun H' => (i + 1 ≤ ds.length ∧ Ext T H1 H' ∧ ∃ acc, H' D = some (.lst acc) ∧ IsAll H' acc (rs.take (i + 1))), fun H' p => ⟨ds.length - (i + 1), by omega, rfl, p⟩, fun x H3 y => ?_⟩
    obtain ⟨e3, ix⟩ := hy x H3 y
    have en3 : EnvIs H3 σ ρ := en.mono ((e1.trans e2).trans e3).tups
    refine hU x _ H3 _ _ _ _ ix (en3.wipe _) hU1 fun σ' en' hw => ⟨hw.trans (hww _), ?_⟩
    simp only [tYes, if_true]
    refine ⟨ρ', r, ((e1.trans e2).trans e3).tabs t, en', hfe, fun v H4 e4 iv => ?_⟩
    have hacc3 : H4 D = some (.lst acc) := (e3.trans e4).keep _ _ hacc fun ps z => by cases z
    refine ⟨acc, hacc3, ?_, hlt, ((e2.trans e3).trans e4).turn hD hacc3, _, upd_same, ?_⟩
    · rw [hall.length]
      have : (rs.take i).length ≤ 1000 := by rw [List.length_take, mapM_len z]; omega
      exact Nat.lt_of_le_of_lt this (by decide)
    · have e5 : rs.take (i + 1) = rs.take i ++ [r] := by
        rw [List.take_add_one, hri]; rfl
      rw [e5]
      exact IsAll.append (((e3.trans e4).all hall).mono (tups_lst hacc3)) (.cons (iv.mono (tups_lst hacc3)) .nil)
  · have e : i = ds.length := by omega
    subst e
    refine .inl ⟨hstop, q D H2 acc (e1.trans e2) hacc ?_⟩
    rwa [List.take_of_length_le (by rw [mapM_len z]; exact Nat.le_refl _)] at hall
/-! the walked things -/
def fItems (f : DEnv → Option D) : DEnv → Option (List D) := fun ρ => (f ρ).bind fun d => match d with
  | .tuple ds => some ds
  | _ => none
theorem pi_tupD {tg e : Expr} {f : DEnv → Option D} (he : PE X e (tD T f)) : PI X tg e (iD T (fItems f)) := by
  refine pi_weak (pi_tup he) fun σ H R ⟨ρ, ds, t, en, z, q⟩ => ?_
  obtain ⟨d, hd, z⟩ := Option.bind_eq_some_iff.mp z
  split at z
  · rename_i ds'
    cases z
    refine ⟨ρ, _, t, en, hd, fun v H1 e1 i1 => ?_⟩
    obtain ⟨a, vs, rfl, ha, hi⟩ := i1.tupE
    refine ⟨a, rfl, ⟨vs, .of ha⟩, q _ H1 e1 fun H2 e2 => ⟨fun i d hd => ?_, vs, .of (e2.tups.1 _ _ ha), by rw [hi.length]; exact Nat.le_refl _⟩⟩
    obtain ⟨v, hv, iv⟩ := hi.get hd
    refine ⟨⟨vs, v, .of (e2.tups.1 _ _ ha), hv⟩, fun x H3 ⟨e3, h3⟩ => ?_⟩
    subst e3
    have := h3 vs (.of (e2.tups.1 _ _ ha))
    rw [hv] at this
    cases this
    exact ⟨.refl _ _, e2.is iv⟩
  · cases z
def fRng (f : DEnv → Option (List D)) : DEnv → Option (List D) := fun ρ => (f ρ).bind fun ds => match ds with
  | [.int n] => if 0 ≤ n ∧ n ≤ 1000 then some ((List.range n.toNat).map fun (i : Nat) => PyData.int (i : Int)) else none
  | _ => none
theorem pi_rngD {tg a : Expr} {f : DEnv → Option (List D)} {p pos : Pos} (hm : X.mg "range" = none) (ha : PA X [a] (tDA T f)) (hg : Gl X "range" := by rfl) (hs : starEach [a] X.env = [(false, eval a X.env)] := by rfl) :
    PI X tg (.Call (.Name "range" p) [a] [] pos) (iD T (fRng f)) := by
  refine pi_weak (pi_range1 hg hm ha hs) fun σ H R ⟨ρ, ds, t, en, z, q⟩ => ?_
  obtain ⟨ds', hd, z⟩ := Option.bind_eq_some_iff.mp z
  refine ⟨ρ, ds', t, en, hd, fun vs H1 e1 i1 => ?_⟩
  split at z
  · rename_i n
    obtain ⟨hn, z⟩ := ite_get (c := 0 ≤ n ∧ n ≤ 1000) z
    cases z
    cases i1 with
    | cons a1 i2 =>
      cases i2
      refine ⟨n, by rw [a1.intE], by omega, by omega, q _ H1 e1 fun H2 e2 => ⟨fun i d hd => ?_, by simp [Itr]; omega⟩⟩
      rw [List.getElem?_map] at hd
      obtain ⟨j, hj, rfl⟩ := Option.map_eq_some_iff.mp hd
      obtain ⟨hlt, rfl⟩ := List.getElem?_eq_some_iff.mp hj
      rw [List.getElem_range] at *
      refine ⟨by simpa [Itr] using hlt, fun x H3 ⟨e3, ex⟩ => ?_⟩
      subst e3
      rw [ex, Int.zero_add]
      exact ⟨.refl _ _, .int _⟩
  · cases z
def enumd : Nat → List D → List D
  | _, [] => []
  | k, d :: ds => .tuple [.int (k : Int), d] :: enumd (k + 1) ds
theorem enumd_get : ∀ {ds : List D} {k i : Nat} {d : D}, (enumd k ds)[i]? = some d → ∃ x, ds[i]? = some x ∧ d = .tuple [.int ((k + i : Nat) : Int), x]
  | [], _, _, _, h => by simp [enumd] at h
  | x :: ds, k, 0, d, h => by
    simp [enumd] at h
    exact ⟨x, rfl, by simp [h]⟩
  | x :: ds, k, i + 1, d, h => by
    obtain ⟨y, h1, h2⟩ := enumd_get (ds := ds) (k := k + 1) (i := i) (by simpa [enumd] using h)
    exact ⟨y, by simpa using h1, by rw [h2]; congr 3; congr 1; omega⟩
theorem enumd_len : ∀ (ds : List D) (k : Nat), (enumd k ds).length = ds.length
  | [], _ => rfl
  | _ :: ds, k => by simp [enumd, enumd_len ds (k + 1)]
def itemsOf : D → Option (List D)
  | .tuple ds => some ds
  | .str z => some (z.cps.toList.map fun c => .str ⟨#[c]⟩)
  | _ => none
def fEnum (f : DEnv → Option D) : DEnv → Option (List D) := fun ρ => (f ρ).bind fun d => (itemsOf d).map (enumd 1)
theorem pi_enumDD {e : Expr} {f : DEnv → Option D} {elts : List Expr} {kk : Nat} {tpos : Pos} {p pos kp kp2 : Pos} {jk : Nat} (hm : X.mg "enumerate" = none) (he : PE X e (tD T f)) (hg : Gl X "enumerate" := by rfl) (hs : starEach (e :: []) X.env = (false, eval e X.env) :: starEach [] X.env := by rfl)
    (hpl : ((backTo pos (starEach (e :: []) X.env)).any (·.1) || (backToKw pos (keywordEach [⟨some "start", .Constant (.int 1) jk kp2, kp⟩] X.env)).any (·.1.isNone)) = false := by rfl)
    (hall : (backToKw pos (keywordEach [⟨some "start", .Constant (.int 1) jk kp2, kp⟩] X.env)).all (·.1.isSome) = true := by rfl)
    (hks : (backToKw pos (keywordEach [⟨some "start", .Constant (.int 1) jk kp2, kp⟩] X.env)).filterMap (·.1) = [Str.ofString "start"] := by rfl) :
    PI X (.Tuple elts kk tpos) (.Call (.Name "enumerate" p) [e] [⟨some "start", .Constant (.int 1) jk kp2, kp⟩] pos) (iD T (fEnum f)) := by
  refine pi_weak (pi_enumD hm he (by decide) (by decide) hg hs hpl hall hks) fun σ H R ⟨ρ, ds, t, en, z, q⟩ => ?_
  obtain ⟨d, hd, z⟩ := Option.bind_eq_some_iff.mp z
  obtain ⟨xs, hx, rfl⟩ := Option.map_eq_some_iff.mp z
  refine ⟨ρ, d, t, en, hd, fun v H1 e1 i1 => ⟨v, rfl, ?_⟩⟩
  have pair : ∀ {H2 : Hp} {Tp : Addr} {i : Nat} {x : V} {dx : D}, H2 Tp = none → Is H2 x dx → Ext T H2 (upd H2 Tp (.tup [.int (1 + (i : Int)), x])) ∧ Is (upd H2 Tp (.tup [.int (1 + (i : Int)), x])) (.ref Tp) (.tuple [.int ((1 + i : Nat) : Int), dx]) := fun {H2 Tp i x dx} hT hx => by
    have e := Ext.new (T := T) (o := .tup [.int (1 + (i : Int)), x]) hT
    have e2 : 1 + (i : Int) = ((1 + i : Nat) : Int) := by omega
    refine ⟨e, .tup upd_same (.cons ?_ (.cons (e.is hx) .nil))⟩
    rw [e2]
    exact .int _
  cases d <;> try cases hx
  · rename_i zz _
    cases i1.strE
    refine .inr ⟨zz, rfl, q _ H1 e1 fun H2 e2 => ⟨fun i d hd => ?_, by rw [enumd_len, List.length_map]; exact rfl⟩⟩
    obtain ⟨x, hx, rfl⟩ := enumd_get hd
    rw [List.getElem?_map] at hx
    obtain ⟨c, hc, rfl⟩ := Option.map_eq_some_iff.mp hx
    refine ⟨(List.getElem?_eq_some_iff.mp hc).1, fun x H3 ⟨Tp, c', ex, hT, e3, hc'⟩ => ?_⟩
    subst ex e3
    have : zz.cps[i]? = some c := by simpa using hc
    rw [this] at hc'
    cases hc'
    exact pair hT (.str _)
  · rename_i ds
    obtain ⟨a, vs, rfl, ha, hi⟩ := i1.tupE
    refine .inl ⟨a, vs, rfl, .of ha, q _ H1 e1 fun H2 e2 => ⟨fun i d hd => ?_, vs, .of (e2.tups.1 _ _ ha), by rw [enumd_len, hi.length]⟩⟩
    obtain ⟨x, hx, rfl⟩ := enumd_get hd
    obtain ⟨v, hv, iv⟩ := hi.get hx
    refine ⟨⟨vs, v, .of (e2.tups.1 _ _ ha), hv⟩, fun y H3 ⟨Tp, u, ex, hT, e3, h3⟩ => ?_⟩
    subst ex e3
    have := h3 vs (.of (e2.tups.1 _ _ ha))
    rw [hv] at this
    cases this
    exact pair hT (e2.is iv)
/-! the three forms -/
theorem wipe1 (i : Nat) (σ : St) : wipe (wipe σ [i]) [i] = wipe σ [i] := by simp [wipe]
theorem set_in {α : Type} (l : List α) {i j : Nat} (a b c : α) (h : i ≠ j) : ((l.set j a).set i b).set j c = (l.set j c).set i b :=
  (List.set_comm b c h).trans (by rw [List.set_set])
theorem wipe2 (i j : Nat) (σ : St) : wipe (wipe σ [i, j]) [i, j] = wipe σ [i, j] := by
  by_cases h : i = j
  · subst h; simp [wipe]
  · simp only [wipe]
    rw [set_in _ _ _ _ h, List.set_set]
theorem uName_g {i : Nat} : ∀ v σ H Q ρ d ρ', Is H v d → EnvIs H σ ρ → uName i d ρ = some ρ' → (∀ σ', EnvIs H σ' ρ' → wipe σ' [i] = wipe σ [i] → Q σ' H) → gName i v σ H Q := fun v σ H Q ρ d ρ' i1 en z q => by
  cases z
  exact q _ (en.set i i1) (by simp [wipe])
theorem uPair_g {K : PySem.W.Frag} {i j : Nat} : ∀ v σ H Q ρ d ρ', Is H v d → EnvIs H σ ρ → uTup 2 (uCons (uName i) (uCons (uName j) uNil)) d ρ = some ρ' → (∀ σ', EnvIs H σ' ρ' → wipe σ' [i, j] = wipe σ [i, j] → Q σ' H) →
    gTup K 2 (gCons (gName i) (gCons (gName j) gNil)) v σ H Q := fun v σ H Q ρ d ρ' i1 en z q => by
  cases d <;> try cases z
  rename_i ds
  obtain ⟨hl, z⟩ := ite_get (c := ds.length = 2) z
  match ds, hl with
  | [a, b], _ =>
    obtain ⟨p, vs, rfl, hp, hi⟩ := i1.tupE
    cases hi with
    | cons h1 h2 =>
      cases h2 with
      | cons h2 h3 =>
        cases h3
        cases z
        refine ⟨p, _, rfl, .of hp, rfl, _, _, rfl, _, _, rfl, rfl, q _ ((en.set i h1).set j h2) ?_⟩
        by_cases h : i = j
        · subst h; simp [wipe]
        · simp only [wipe]
          rw [List.set_set, set_in _ _ _ _ (Ne.symm h), List.set_comm _ _ h]
def lTup (i : Nat) (f : DEnv → Option D) (fe : DEnv → Option D) := lGen [i] (uName i) (fItems f) fe
def lRng (i : Nat) (f : DEnv → Option (List D)) (fe : DEnv → Option D) := lGen [i] (uName i) (fRng f) fe
def lEnum (i j : Nat) (f : DEnv → Option D) (fe : DEnv → Option D) := lGen [i, j] (uTup 2 (uCons (uName i) (uCons (uName j) uNil))) (fEnum f) fe
variable {tg elt e a : Expr} {scope : Scope} {pos p : Pos} {fe : DEnv → Option D}
theorem de_lcTup {i : Nat} {x : Str} {f : DEnv → Option D} {own : List (Str × Nat)} (hc : X.calm = true) (hN : X.N.Nodup) (hi : PE X e (tD T f)) (ok : BlkOk X.N X.env.scope scope own)
    (hg : ∀ (s : Shared) (H : Hp) (C : Addr) (cl : List (Str × Addr)) (fp : List Addr), PG (X.blk s H scope (compEnvC scope cl C X.env) fp) tg (gName i))
    (he : ∀ (s : Shared) (H : Hp) (C : Addr) (cl : List (Str × Addr)) (fp : List Addr), PE (X.blk s H scope (compEnvC scope cl C X.env) fp) elt (tD T fe)) (hs : ∀ x, foldedSetIterable e X.env x = pure x := by intro _; rfl) (ho : own = [(x, i)] := by rfl) :
    PE X (.ListComp elt [⟨tg, e, [], 0⟩] scope pos) (tDL T (lTup i f fe)) := by
  subst ho
  exact de_lcG hc hN (pi_tupD hi) ok hg uName_g he (wipe1 i) hs
theorem de_lcRng {i : Nat} {x : Str} {f : DEnv → Option (List D)} {own : List (Str × Nat)} {pr posr : Pos} (hc : X.calm = true) (hN : X.N.Nodup) (hm : X.mg "range" = none) (hi : PA X [a] (tDA T f)) (ok : BlkOk X.N X.env.scope scope own)
    (hg : ∀ (s : Shared) (H : Hp) (C : Addr) (cl : List (Str × Addr)) (fp : List Addr), PG (X.blk s H scope (compEnvC scope cl C X.env) fp) tg (gName i))
    (he : ∀ (s : Shared) (H : Hp) (C : Addr) (cl : List (Str × Addr)) (fp : List Addr), PE (X.blk s H scope (compEnvC scope cl C X.env) fp) elt (tD T fe)) (hgl : Gl X "range" := by rfl) (hst : starEach [a] X.env = [(false, eval a X.env)] := by rfl)
    (hs : ∀ x, foldedSetIterable (.Call (.Name "range" pr) [a] [] posr) X.env x = pure x := by intro _; rfl) (ho : own = [(x, i)] := by rfl) :
    PE X (.ListComp elt [⟨tg, .Call (.Name "range" pr) [a] [] posr, [], 0⟩] scope pos) (tDL T (lRng i f fe)) := by
  subst ho
  exact de_lcG hc hN (pi_rngD hm hi hgl hst) ok hg uName_g he (wipe1 i) hs
theorem de_lcEnum {i j : Nat} {x y : Str} {f : DEnv → Option D} {own : List (Str × Nat)} {elts : List Expr} {kk : Nat} {tpos pr posr kp kp2 : Pos} {jk : Nat} (hc : X.calm = true) (hN : X.N.Nodup) (hm : X.mg "enumerate" = none) (hi : PE X e (tD T f)) (ok : BlkOk X.N X.env.scope scope own)
    (hg : ∀ (s : Shared) (H : Hp) (C : Addr) (cl : List (Str × Addr)) (fp : List Addr), PG (X.blk s H scope (compEnvC scope cl C X.env) fp) (.Tuple elts kk tpos) (gTup X.K 2 (gCons (gName i) (gCons (gName j) gNil))))
    (he : ∀ (s : Shared) (H : Hp) (C : Addr) (cl : List (Str × Addr)) (fp : List Addr), PE (X.blk s H scope (compEnvC scope cl C X.env) fp) elt (tD T fe)) (hgl : Gl X "enumerate" := by rfl) (hst : starEach (e :: []) X.env = (false, eval e X.env) :: starEach [] X.env := by rfl)
    (hpl : ((backTo posr (starEach (e :: []) X.env)).any (·.1) || (backToKw posr (keywordEach [⟨some "start", .Constant (.int 1) jk kp2, kp⟩] X.env)).any (·.1.isNone)) = false := by rfl)
    (hall : (backToKw posr (keywordEach [⟨some "start", .Constant (.int 1) jk kp2, kp⟩] X.env)).all (·.1.isSome) = true := by rfl)
    (hks : (backToKw posr (keywordEach [⟨some "start", .Constant (.int 1) jk kp2, kp⟩] X.env)).filterMap (·.1) = [Str.ofString "start"] := by rfl)
    (hs : ∀ x, foldedSetIterable (.Call (.Name "enumerate" pr) [e] [⟨some "start", .Constant (.int 1) jk kp2, kp⟩] posr) X.env x = pure x := by intro _; rfl) (ho : own = [(x, i), (y, j)] := by rfl) :
    PE X (.ListComp elt [⟨.Tuple elts kk tpos, .Call (.Name "enumerate" pr) [e] [⟨some "start", .Constant (.int 1) jk kp2, kp⟩] posr, [], 0⟩] scope pos) (tDL T (lEnum i j f fe)) := by
  subst ho
  exact de_lcG hc hN (pi_enumDD hm hi hgl hst hpl hall hks) ok hg uPair_g he (wipe2 i j) hs
/-! tuple([..]), sum([..]) -/
def eTupL (F : DEnv → Option (List D)) : DEnv → Option D := fun ρ => (F ρ).map .tuple
theorem de_tupL {F : DEnv → Option (List D)} (hm : X.mg "tuple" = none) (hl : PE X e (tDL T F)) (hg : Gl X "tuple" := by rfl) (he : starEach (e :: []) X.env = (false, eval e X.env) :: starEach [] X.env := by rfl) (hpl : (backTo pos (starEach [] X.env)).any (·.1) = false := by rfl) :
    PE X (.Call (.Name "tuple" p) [e] [] pos) (tD T (eTupL F)) := by
  refine pe_weak (pe_callTy call_tuple_of hg hm (by decide +kernel) (pa_cons hl pa_nil he) (by decide) (by decide) he hpl) fun σ H Q ⟨ρ, d, t, en, z, q⟩ => ?_
  obtain ⟨ds, hd, rfl⟩ := Option.map_eq_some_iff.mp z
  refine ⟨ρ, ds, t, en, hd, fun p' H1 vs e1 h1 i1 => ?_⟩
  refine ⟨p', vs, rfl, .inl ⟨.of h1, fun l hl => q _ _ (e1.trans (.new hl)) (.tup upd_same (i1.mono (Ext.new (T := T) hl).tups))⟩⟩
def intsL : List D → Option (List Int)
  | [] => some []
  | .int i :: ds => (intsL ds).map (i :: ·)
  | _ => none
theorem intsL_eq : ∀ {ds : List D} {ns : List Int}, intsL ds = some ns → ds = ns.map PyData.int
  | [], _, h => by cases h; rfl
  | d :: ds, ns, h => by
    cases d <;> try cases h
    obtain ⟨ms, h1, rfl⟩ := Option.map_eq_some_iff.mp h
    rw [intsL_eq h1]
    rfl
def eSumL (F : DEnv → Option (List D)) : DEnv → Option D := fun ρ => (F ρ).bind fun ds => (intsL ds).map fun ns => .int ns.sum
theorem de_sumL {F : DEnv → Option (List D)} (hc : X.calm = true) (hm : X.mg "sum" = none) (hl : PE X e (tDL T F)) (hg : Gl X "sum" := by rfl) (he : starEach (e :: []) X.env = (false, eval e X.env) :: starEach [] X.env := by rfl) (hpl : (backTo pos (starEach [] X.env)).any (·.1) = false := by rfl) :
    PE X (.Call (.Name "sum" p) [e] [] pos) (tD T (eSumL F)) := by
  refine pe_weak (pe_callB (cr_sum hc) hg hm (by decide +kernel) (pa_cons hl pa_nil he) (by decide) (by decide) he hpl) fun σ H Q ⟨ρ, d, t, en, z, q⟩ => ?_
  obtain ⟨ds, hd, z⟩ := Option.bind_eq_some_iff.mp z
  obtain ⟨ns, hn, rfl⟩ := Option.map_eq_some_iff.mp z
  refine ⟨ρ, ds, t, en, hd, fun p' H1 vs e1 h1 i1 => ?_⟩
  rw [intsL_eq hn] at i1
  rw [i1.ints] at h1
  exact ⟨p', ns, rfl, .of h1, q _ _ e1 (.int _)⟩
end
end CR
/-! CrH -/
set_option maxHeartbeats 4000000
namespace CR
open PySem PySem.Spec L2
open PyProof.Rows hiding St
section
variable {X : Cx} {T : List (Addr × Str)} {o e : Expr}
/-! ### text.index(sign) -/
def gSidx : D → D → Option D
  | .str a, .str b => match Builtin.Str.occurrences a b 0 a.length 1 with
    | i :: _ => some (.int (i : Nat))
    | [] => none
  | _, _ => none
theorem gSidx_some {x y d : D} (h : gSidx x y = some d) : ∃ (a b : Str) (i : Nat) (rest : List Nat), x = .str a ∧ y = .str b ∧ Builtin.Str.occurrences a b 0 a.length 1 = i :: rest ∧ d = .int (i : Nat) := by
  unfold gSidx at h
  split at h
  · split at h
    · rename_i i rest hoc
      cases h
      exact ⟨_, _, i, rest, rfl, rfl, hoc, rfl⟩
    · cases h
  · cases h
theorem de_sidx {apos pos : Pos} {f g : DEnv → Option D} (ho : PE X o (tD T f)) (he : PE X e (tD T g)) (hs : starEach [e] X.env = [(false, eval e X.env)] := by rfl) (hbase : attributeBase o "index" X.env (eval o X.env) = eval o X.env := by rfl) (hline : (apos.endLine == pos.line) = true := by rfl) :
    PE X (.Call (.Attribute o "index" apos) [e] [] pos) (tD T (eBin gSidx f g)) := by
  refine pe_weak (pe_m1 PySem.F.slot_str_index PySem.F.type_str_index mt_sindex ho he hs hbase hline) fun σ H Q ⟨ρ, d, t, en, z, q⟩ => ?_
  obtain ⟨x, hx, z⟩ := Option.bind_eq_some_iff.mp z
  obtain ⟨y, hy, z⟩ := Option.bind_eq_some_iff.mp z
  refine ⟨ρ, x, t, en, hx, fun v H1 e1 i1 => ?_⟩
  obtain ⟨a, b, i, rest, rfl, rfl, hoc, rfl⟩ := gSidx_some z
  cases i1.strE
  refine ⟨⟨_, rfl⟩, ρ, _, e1.tabs t, en.mono e1.tups, hy, fun w H2 e2 i2 => ?_⟩
  cases i2.strE
  exact ⟨a, b, i, rest, rfl, rfl, hoc, q _ H2 (e1.trans e2) (.int _)⟩
/-! ### while -/
def whD (c : DEnv → Option Bool) (F : Stm) : Nat → Stm
  | 0, _ => none
  | n + 1, ρ => (c ρ).bind fun b => if b = true then (match F ρ with
      | some (.nx ρ') => whD c F n ρ'
      | _ => none) else some (.nx ρ)
theorem ds_while {c : Expr} {body : List Stmt} {fc : DEnv → Option Bool} {F : Stm} {pos : Pos} (n : Nat) (hp : PassesOwn (model X.prog X.w) X.A X.env X.xe) (hc : PT X c (tDT T fc)) (hb : PSs X body (tSD T F)) : PS X (.While c body [] pos) (tSD T (whD fc F n)) := by
  refine ps_weak (ps_while hp hc hb) fun E σ H ⟨ρ, r, t, en, z, q⟩ => ?_
  refine ⟨fun m σ' H' => ∃ ρ', Ext T H H' ∧ EnvIs H' σ' ρ' ∧ whD fc F m ρ' = some r, ⟨n, ρ, .refl _ _, en, z⟩, ?_⟩
  rintro m σ1 H1 ⟨ρ1, e1, en1, z1⟩
  cases m with
  | zero => cases z1
  | succ m =>
    obtain ⟨b, hb, z1⟩ := Option.bind_eq_some_iff.mp z1
    refine ⟨ρ1, b, e1.tabs t, en1, hb, fun H2 e2 => ?_⟩
    cases b with
    | true =>
      rw [if_pos rfl] at z1
      refine iteT ⟨fun σ' H' => ∃ ρ', Ext T H H' ∧ EnvIs H' σ' ρ' ∧ whD fc F m ρ' = some r, fun σ' H' p => ⟨m, Nat.lt_succ_self _, p⟩, ?_⟩
      split at z1
      · rename_i ρ' hF
        exact ⟨ρ1, .nx ρ', (e1.trans e2).tabs t, en1.mono e2.tups, hF, fun σ3 H3 e3 en3 => ⟨ρ', (e1.trans e2).trans e3, en3, z1⟩⟩
      · cases z1
    | false =>
      rw [if_neg Bool.false_ne_true] at z1
      cases z1
      exact iteF (q σ1 H2 (e1.trans e2) (en1.mono e2.tups))
end
end CR
/-! CrX -/
set_option maxHeartbeats 4000000
namespace CR
open PySem PySem.Spec L2
open PyProof.Rows hiding St
/-! ### the program's own exceptions -/
structure RgT (K : PySem.W.Frag) (mg : Str → Option Value) (R : Addr) : Prop where
  g : mg "RingError" = some (.ref R)
  rd : PySem.W.readsIn K R (.type "type") = true
  sg : PySem.W.specialIn K (.ref R) "__getattribute__" = some (some (.builtin "type.__getattribute__"))
  fc : PySem.W.findCls K (.ref R) (.type "type") "__init__" = some (.val (.builtin "ValueError.__init__"))
/-- RingError.__init__(self, ..) -/
theorem pe_rginit {X : Cx} {e : Expr} {es : List Expr} {ta : TA} {p1 p2 pos : Pos} {R : Addr} {pl : Sem Bool} (G : RgT X.K X.mg R) (hg : Gl X "RingError") (ha : PA X (e :: es) ta)
    (hc : eval (.Call (.Attribute (.Name "RingError" p1) "__init__" p2) (e :: es) [] pos) X.env = (do
      let ov ← eval (.Name "RingError" p1) X.env
      standAt p2.atName
      let (f, first) ← holding [ov] (getMethod ov "__init__" pl)
      callWith pos f first (backTo pos (starEach (e :: es) X.env)) (backToKw pos (keywordEach [] X.env))) := by rfl)
    (he : starEach (e :: es) X.env = (false, eval e X.env) :: starEach es X.env := by rfl) (hpl : (backTo pos (starEach es X.env)).any (·.1) = false := by rfl) :
    PE X (.Call (.Attribute (.Name "RingError" p1) "__init__" p2) (e :: es) [] pos) (tVeI X.K ta) := by
  refine ⟨fun pins s σ H Q I h => ?_⟩
  refine PySem.W.methodCall_KW (ld_glob I hg G.g ?_ (by decide)) hc
  refine PySem.W.method_cls I.kIn G.sg (PySem.W.cls_value I.kIn G.rd G.fc (by decide +kernel) ?_)
  show wpAny _ _ (callWith pos (Value.builtin "ValueError.__init__") [] (backTo pos (starEach (e :: es) X.env)) []) _ _ _
  refine PyProof.Rows.callWith_method1 (thn (ha.run pos pins _ σ H _ (I.tok _) h) fun us s1 ⟨vs, H1, I1, r1, a, C, ws, ev, hl, T, ea, q⟩ => ?_) he hpl
  subst ev
  cases r1 with
  | @cons _ u0 _ ur ra rw' =>
    obtain rfl : u0 = Value.ref a := ra
    have hlen : ur.length ≤ sizeLine := by
      rw [← Paired.length rw', sizeLine_eq]
      omega
    exact oinit_ok T I1 ea hlen fun s' J => ⟨.non, H1, J, rfl, q⟩
structure ExT (K : PySem.W.Frag) (mg : Str → Option Value) (x : Str) (C fI : Addr) : Prop where
  oex : OexC K C
  g : mg x = some (.ref C)
  noW : PySem.W.findIn K (.ref C) "word" = some none
  iC : PySem.W.findIn K (.ref C) "__init__" = some (some (.ref fI))
  tI : PySem.W.typeIn K (.ref fI) = some (.type "function")
/-- __init__(self, word) of such a class -/
def spIni (K : PySem.W.Frag) : Sp := fun vs H Q _ => ∃ (a C : Addr) (y : V), vs = [.ref a, y] ∧ OexC K C ∧ PySem.W.findIn K (.ref C) "word" = some none ∧ H a = some (exo a C none) ∧ ∀ dx, H dx = none → dx ≠ a → Q .non (upd (upd H dx (exd dx [("word", y)])) a (exo a C (some dx)))
section
variable {P : Program} {w : World} {K : PySem.W.Frag} {mg : Str → Option Value} {base : Heap} {T : List (Addr × Str)}
theorem sc_ini1 : FnScope ["self", "word"] ["self", "word"] (defScope s_NoPlace_init) := ⟨rfl, rfl, rfl, by decide +kernel, rfl, by decide +kernel, by decide +kernel⟩
theorem sc_ini2 : FnScope ["self", "word"] ["self", "word"] (defScope s_NoStep_init) := ⟨rfl, rfl, rfl, by decide +kernel, rfl, by decide +kernel, by decide +kernel⟩
theorem ok_ini1 {kws : List (Str × V)} {f R : Addr} {fd : FuncData} (G : RgT K mg R) (Fd : FunD K "__init__" "NoPlace.__init__" (defArgs s_NoPlace_init) (defBody s_NoPlace_init) (defScope s_NoPlace_init) [] kws f fd) : FnOk P w K mg base L2.CX0 1 f fd ["self", "word"] (spIni K) :=
  Fd.ok sc_ini1 (fun vs H Q E ⟨a, C, y, h, _⟩ => by rw [h]; rfl) fun cdv A outer s H vs Q E hr ⟨a, C, y, h1, h2, h3, h4, h5⟩ => by
    subst h1
    refine ⟨_, pss_cons (ps_expr (pe_rginit (pl := _) G rfl (pa_cons (pe_var (i := 0) rfl (Or.inl rfl)) (pa_cons pe_str pa_nil)))) (pss_one (ps_ost (pe_var (i := 0) rfl (Or.inl rfl)) (pe_var (i := 1) rfl (Or.inl rfl)))), ?_⟩
    refine ⟨_, rfl, a, C, _, rfl, by decide, h2, h4, ?_⟩
    refine ⟨_, rfl, _, rfl, a, C, rfl, h2, h3, .inl ⟨h4, fun dx n ne => h5 dx n ne⟩⟩
theorem ok_ini2 {kws : List (Str × V)} {f R : Addr} {fd : FuncData} (G : RgT K mg R) (Fd : FunD K "__init__" "NoStep.__init__" (defArgs s_NoStep_init) (defBody s_NoStep_init) (defScope s_NoStep_init) [] kws f fd) : FnOk P w K mg base L2.CX0 1 f fd ["self", "word"] (spIni K) :=
  Fd.ok sc_ini2 (fun vs H Q E ⟨a, C, y, h, _⟩ => by rw [h]; rfl) fun cdv A outer s H vs Q E hr ⟨a, C, y, h1, h2, h3, h4, h5⟩ => by
    subst h1
    refine ⟨_, pss_cons (ps_expr (pe_rginit (pl := _) G rfl (pa_cons (pe_var (i := 0) rfl (Or.inl rfl)) (pa_cons pe_str pa_nil)))) (pss_one (ps_ost (pe_var (i := 0) rfl (Or.inl rfl)) (pe_var (i := 1) rfl (Or.inl rfl)))), ?_⟩
    refine ⟨_, rfl, a, C, _, rfl, by decide, h2, h4, ?_⟩
    refine ⟨_, rfl, _, rfl, a, C, rfl, h2, h3, .inl ⟨h4, fun dx n ne => h5 dx n ne⟩⟩
end
/-- a class of such exceptions, ready to be raised -/
structure PEx (P : Program) (w : World) (K : PySem.W.Frag) (mg : Str → Option Value) (base : Heap) (x : Str) (C : Addr) : Prop where
  ex : ∃ (fI : Addr) (fd : FuncData), ExT K mg x C fI ∧ FnOk P w K mg base L2.CX0 1 fI fd ["self", "word"] (spIni K) ∧ Binds K fd ["self", "word"] []
def xdW (z : Str) : HO := .xd [("word", .str z)]
def tRaiseD (T : List (Addr × Str)) (C : Addr) (z : Str) (W : WX) : TS := fun _ σ H => LamX.Tabs T H ∧ ∀ d H', Ext T H H' → H' d = some (xdW z) → W (.ref C) (some d) σ H'
section
variable {X : Cx} {T : List (Addr × Str)}
theorem takes0 {X : Cx} : Takes X (fun _ _ _ _ => False) := LamX.takes0
theorem ps_raiseD {W : WX} {x z : Str} {C : Addr} {p p2 pos pos2 : Pos} {j : Nat} (hc : X.calm = true) (E : PEx X.prog X.w X.K X.mg X.base x C) (tk : Takes X W) (hr : Room 2 X.A) (hg : Gl X x := by rfl) (hdb : (x == ("__debug__" : Str)) = false := by decide)
    (he : starEach (.Constant (.str z) j p2 :: []) X.env = (false, eval (.Constant (.str z) j p2) X.env) :: starEach [] X.env := by rfl) (hpl : (backTo pos (starEach [] X.env)).any (·.1) = false := by rfl) :
    PS X (.Raise (some (.Call (.Name x p) [.Constant (.str z) j p2] [] pos)) none pos2) (tRaiseD T C z W) := by
  obtain ⟨fI, fd, e, F, b⟩ := E.ex
  refine ps_weak (ps_raise hc tk (pmk_oex e.oex e.iC e.tI F hr b .nil (L2.pass0) hg e.g (pa_cons pe_str pa_nil he) hdb he hpl)) fun D σ H ⟨t, q⟩ => ?_
  refine ⟨(by show 1 ≤ 1000; decide), fun a ha => ⟨a, C, .str z, rfl, e.oex, e.noW, upd_same, fun dx hn ne => ⟨rfl, dx, [("word", .str z)], upd_same, ?_, ?_, ?_⟩⟩⟩
  · rw [upd_ne ne, upd_same]
  · rw [upd_ne ne] at hn; exact hn
  · have hn' : H dx = none := by rw [upd_ne ne] at hn; exact hn
    have e1 : upd (del (upd (upd (upd H a (exo a C none)) dx (exd dx [("word", .str z)])) a (exo a C (some dx))) a) dx (.xd [("word", .str z)]) = upd H dx (xdW z) := by
      funext b
      by_cases h1 : b = dx
      · subst h1; rw [upd_same, upd_same]; rfl
      · rw [upd_ne h1, upd_ne h1]
        by_cases h2 : b = a
        · subst h2; rw [del_same]; exact ha.symm
        · rw [del_ne h2, upd_ne h2, upd_ne h1, upd_ne h2]
    rw [e1]
    exact q dx _ (.new hn') upd_same
/-! a def that may raise one such -/
inductive RX where
  | r (d : D)
  | ex
def spRD (T : List (Addr × Str)) (n : Nat) (C : Addr) (z : Str) (m : List D → Option RX) : Sp := fun vs H Q E => ∃ ds r, ds.length = n ∧ LamX.Tabs T H ∧ IsAll H vs ds ∧ m ds = some r ∧ (match r with
  | .r d => ∀ v H', Ext T H H' → Is H' v d → Q v H'
  | .ex => ∀ dd H', Ext T H H' → H' dd = some (xdW z) → E (.ref C) (some dd) H')
structure PFx (P : Program) (w : World) (K : PySem.W.Frag) (mg : Str → Option Value) (base : Heap) (T : List (Addr × Str)) (k : Nat) (x : Str) (n : Nat) (C : Addr) (z : Str) (m : List D → Option RX) : Prop where
  ex : ∃ (f : Addr) (fd : FuncData) (ps : List Str), FnOk P w K mg base (L2.CX P w) k f fd ps (spRD T n C z m) ∧ mg x = some (.ref f) ∧ PySem.W.keepIn K (.ref f) = true ∧ Binds K fd ps []
inductive ResX where
  | r (r : Res)
  | ex
def tSX (T : List (Addr × Str)) (C : Addr) (z : Str) (W : WX) (F : DEnv → Option ResX) : TS := fun D' σ H => ∃ ρ r, LamX.Tabs T H ∧ EnvIs H σ ρ ∧ F ρ = some r ∧ (match r with
  | .r r => r.to T D' H
  | .ex => ∀ σ' dd H', Ext T H H' → H' dd = some (xdW z) → W (.ref C) (some dd) σ' H')
def gXi (fc : DEnv → Option Bool) (F2 : Stm) : DEnv → Option ResX := fun ρ => (fc ρ).bind fun b => if b = true then some .ex else (F2 ρ).map .r
theorem dx_if {W : WX} {C : Addr} {z : Str} {F2 : Stm} {fc : DEnv → Option Bool} {r : Stmt} {c : Expr} {rest : List Stmt} {p : Pos} (hc : PT X c (tDT T fc)) (hr : PS X r (tRaiseD T C z W)) (h2 : PSs X rest (tSD T F2)) :
    PSs X (.If c [r] [] p :: rest) (tSX T C z W (gXi fc F2)) := by
  refine pss_weak (pss_cons (ps_if hc (pss_one hr) pss_nil) h2) fun D σ H ⟨ρ, r, t, en, z, q⟩ => ?_
  obtain ⟨b, hb, z⟩ := Option.bind_eq_some_iff.mp z
  refine ⟨ρ, b, t, en, hb, fun H' e => ?_⟩
  cases b with
  | true =>
    rw [if_pos rfl] at z
    cases z
    exact iteT ⟨e.tabs t, fun d H2 e2 h2 => q σ d H2 (e.trans e2) h2⟩
  | false =>
    rw [if_neg Bool.false_ne_true] at z
    obtain ⟨r2, hr2, rfl⟩ := Option.map_eq_some_iff.mp z
    refine iteF ⟨ρ, r2, e.tabs t, en.mono e.tups, hr2, ?_⟩
    cases r2 with
    | nx ρ2 => exact fun σ2 H2 e2 en2 => q σ2 H2 (e.trans e2) en2
    | rt d => exact fun v H2 e2 i2 => q v H2 (e.trans e2) i2
def gXc (F1 : Stm) (G : DEnv → Option ResX) : DEnv → Option ResX := fun ρ => (F1 ρ).bind fun r => match r with
  | .nx ρ' => G ρ'
  | .rt d => some (.r (.rt d))
theorem dx_cons {W : WX} {C : Addr} {z : Str} {F1 : Stm} {G : DEnv → Option ResX} {a : Stmt} {rest : List Stmt} (h1 : PS X a (tSD T F1)) (h2 : PSs X rest (tSX T C z W G)) : PSs X (a :: rest) (tSX T C z W (gXc F1 G)) := by
  refine pss_weak (pss_cons h1 h2) fun D σ H ⟨ρ, r, t, en, zz, q⟩ => ?_
  obtain ⟨r1, hr, zz⟩ := Option.bind_eq_some_iff.mp zz
  refine ⟨ρ, r1, t, en, hr, ?_⟩
  cases r1 with
  | nx ρ' =>
    intro σ' H' e1 en'
    refine ⟨ρ', r, e1.tabs t, en', zz, ?_⟩
    cases r with
    | r r =>
      cases r with
      | nx ρ2 => exact fun σ2 H2 e2 en2 => q σ2 H2 (e1.trans e2) en2
      | rt d => exact fun v H2 e2 i2 => q v H2 (e1.trans e2) i2
    | ex => exact fun σ2 dd H2 e2 h2 => q σ2 dd H2 (e1.trans e2) h2
  | rt d =>
    cases zz
    exact q
def runX (n : Nat) (F : DEnv → Option ResX) (ds : List D) : Option RX := (F (startD n ds)).map fun r => match r with
  | .r (.rt d) => .r d
  | .r (.nx _) => .r .none
  | .ex => .ex
theorem raise_ok {P : Program} {w : World} {K : PySem.W.Frag} {mg : Str → Option Value} {base : Heap} {x qual z : Str} {pa : Arguments} {body : List Stmt} {scope : Scope} {dvs : List V} {kws : List (Str × V)} {f C : Addr} {fd : FuncData} {N ps : List Str} {k n : Nat} {F : DEnv → Option ResX}
    (Fd : FunD K x qual pa body scope dvs kws f fd) (S : FnScope N ps scope) (hn : n = ps.length)
    (hb : ∀ (cdv : Value) (A : Around) (outer : List Env) (s : Shared) (H : Hp) (E : XK), Room k (A.deeper (envOfC qual scope s.heap.objs.size f cdv)) → PSs (cxOf (L2.CX P w) P w K mg base N qual scope f cdv A outer s H E) body (tSX T C z (fun cls d _ H => E cls d H) F)) :
    FnOk P w K mg base (L2.CX P w) (k + 1) f fd ps (spRD T n C z (runX N.length F)) := by
  refine Fd.ok S (fun vs H Q E ⟨ds, d, h1, _, h2, _⟩ => by rw [h2.length, h1, hn]) fun cdv A outer s H vs Q E hr h => ?_
  obtain ⟨ds, d, h1, t, h2, h3, q⟩ := h
  refine ⟨_, (hb cdv A outer s H E hr), ?_⟩
  obtain ⟨r, h4, h5⟩ := Option.map_eq_some_iff.mp h3
  refine ⟨startD N.length ds, r, t, EnvIs.start h2, h4, ?_⟩
  cases r with
  | r r =>
    cases r with
    | nx ρ' =>
      intro σ' H' e en
      cases h5
      exact q _ H' e .non
    | rt d' =>
      intro v H' e i
      cases h5
      exact q v H' e i
  | ex =>
    intro σ' dd H' e h
    cases h5
    exact q dd H' e h
/-! y = None; try: y = f(..) except NoPlace: y = None -/
def sTry (i n : Nat) (m : List D → Option RX) (f : DEnv → Option (List D)) : Stm := fun ρ => (f ρ).bind fun ds => if ds.length = n then (m ds).map fun r => match r with
  | .r d => .nx (ρ.set i (some d))
  | .ex => .nx (ρ.set i (some .none)) else none
theorem ds_try {i n k : Nat} {x y c z : Str} {C : Addr} {m : List D → Option RX} {f : DEnv → Option (List D)} {e : Expr} {es : List Expr} {p p1 p2 p3 p4 p5 np pos pos' pos'' : Pos} {j : Nat} {jj : Nat} (hN : X.N.Nodup) (hs : X.stack = X.env :: X.outer) (hf : X.env.frame = some X.env.locals)
    (gC : X.mg c = some (.ref C)) (exm : PySem.W.exmOne X.K (.ref C) (.ref C) = some true) (F : PFx X.prog X.w X.K X.mg X.base T k x n C z m) (hr : Room j X.A) (hk : k ≤ j)
    (ha : ∀ (pn : List (Addr × Obj)) (xe : Value → Shared → Prop), PA (X.tr pn xe) (e :: es) (tDA T f)) (hgc : Gl X c := by rfl) (hg : Gl X x := by rfl) (hi : X.N[i]? = some y := by rfl) (hy : X.env.scope.names.lookup y = some .local := by rfl) (hdc : (c == ("__debug__" : Str)) = false := by decide) (hdb : (x == ("__debug__" : Str)) = false := by decide)
    (he : starEach (e :: es) X.env = (false, eval e X.env) :: starEach es X.env := by rfl) (hpl : (backTo pos (starEach es X.env)).any (·.1) = false := by rfl)
    (hsw : swapsWith (.Call (.Name x p) (e :: es) [] pos) (some (.Name y p1)) p2.line X.env = pure false := by rfl) (hsw2 : swapsWith (.Constant .none jj p4) (some (.Name y p3)) p5.line X.env = pure false := by rfl) :
    PS X (.Try [.Assign [.Name y p1] (.Call (.Name x p) (e :: es) [] pos) p2] [.ExceptHandler (some (.Name c np)) none [.Assign [.Name y p3] (.Constant .none jj p4) p5] pos'] [] [] pos'') (tSD T (sTry i n m f)) := by
  obtain ⟨fa, fd, ps, F, hm, kp, hb⟩ := F.ex
  refine ps_weak (ps_try_only hs hf ⟨hgc, hdc, .inl gC⟩ takes0 (fun W pn xe tk _ => pss_one (ps_set (X := X.tr pn xe) hN hi (Or.inl hy) (pe_callS F (hr.mono hk) hg hm kp hb (fun σ => passAt tk σ) (ha pn xe) hdb he hpl) hsw (.inr hy)))
    (fun a oe cls d pn hz hf => pss_one (ds_set (X := X.suite a ((a, oe) :: pn)) (T := T) (i := i) (f := eC .none) hN de_non hi (Or.inl hy) hsw2 (.inr hy)))) fun D σ H ⟨ρ, r, t, en, z, q⟩ => ?_
  obtain ⟨ds, hd, z⟩ := Option.bind_eq_some_iff.mp z
  obtain ⟨hl, z⟩ := ite_get z
  obtain ⟨r, hr, rfl⟩ := Option.map_eq_some_iff.mp z
  refine ⟨ρ, ds, t, en, hd, fun vs H1 e1 i1 => ⟨ds, r, hl, e1.tabs t, i1, hr, ?_⟩⟩
  cases r with
  | r d => exact fun v H2 e2 i2 => q _ H2 (e1.trans e2) ((en.mono (e1.trans e2).tups).set i i2)
  | ex =>
    intro dd H2 e2 h2
    refine ⟨true, exm, fun _ a ha => ⟨ρ, _, (e1.trans e2).tabs t, en.mono (e1.trans e2).tups, rfl, fun σ3 H3 e3 en3 => q σ3 H3 ((e1.trans e2).trans e3) en3⟩, fun h => by cases h⟩
/-! y = f(..), f may raise, and it goes on out -/
def gXs (i n : Nat) (m : List D → Option RX) (f : DEnv → Option (List D)) : DEnv → Option ResX := fun ρ => (f ρ).bind fun ds => if ds.length = n then (m ds).map fun r => match r with
  | .r d => .r (.nx (ρ.set i (some d)))
  | .ex => .ex else none
theorem dx_set {i n k : Nat} {x y z : Str} {C : Addr} {W : WX} {m : List D → Option RX} {f : DEnv → Option (List D)} {e : Expr} {es : List Expr} {p p1 p2 pos : Pos} {j : Nat} (hN : X.N.Nodup) (tk : Takes X W) (F : PFx X.prog X.w X.K X.mg X.base T k x n C z m) (hr : Room j X.A) (hk : k ≤ j)
    (ha : PA X (e :: es) (tDA T f)) (hg : Gl X x := by rfl) (hi : X.N[i]? = some y := by rfl) (hy : X.env.scope.names.lookup y = some .local := by rfl) (hdb : (x == ("__debug__" : Str)) = false := by decide)
    (he : starEach (e :: es) X.env = (false, eval e X.env) :: starEach es X.env := by rfl) (hpl : (backTo pos (starEach es X.env)).any (·.1) = false := by rfl)
    (hsw : swapsWith (.Call (.Name x p) (e :: es) [] pos) (some (.Name y p1)) p2.line X.env = pure false := by rfl) :
    PS X (.Assign [.Name y p1] (.Call (.Name x p) (e :: es) [] pos) p2) (tSX T C z W (gXs i n m f)) := by
  obtain ⟨fa, fd, ps, F, hm, kp, hb⟩ := F.ex
  refine ps_weak (ps_set hN hi (Or.inl hy) (pe_callS F (hr.mono hk) hg hm kp hb (fun σ => passAt tk σ) ha hdb he hpl) hsw (.inr hy)) fun D σ H ⟨ρ, r, t, en, zz, q⟩ => ?_
  obtain ⟨ds, hd, zz⟩ := Option.bind_eq_some_iff.mp zz
  obtain ⟨hl, zz⟩ := ite_get zz
  obtain ⟨r, hr, rfl⟩ := Option.map_eq_some_iff.mp zz
  refine ⟨ρ, ds, t, en, hd, fun vs H1 e1 i1 => ⟨ds, r, hl, e1.tabs t, i1, hr, ?_⟩⟩
  cases r with
  | r d => exact fun v H2 e2 i2 => q _ H2 (e1.trans e2) ((en.mono (e1.trans e2).tups).set i i2)
  | ex => exact fun dd H2 e2 h2 => q σ dd H2 (e1.trans e2) h2
def gXx (F1 : DEnv → Option ResX) (G : Stm) : DEnv → Option ResX := fun ρ => (F1 ρ).bind fun r => match r with
  | .r (.nx ρ') => (G ρ').map .r
  | .r (.rt d) => some (.r (.rt d))
  | .ex => some .ex
theorem dx_consX {W : WX} {C : Addr} {z : Str} {F1 : DEnv → Option ResX} {G : Stm} {a : Stmt} {rest : List Stmt} (h1 : PS X a (tSX T C z W F1)) (h2 : PSs X rest (tSD T G)) : PSs X (a :: rest) (tSX T C z W (gXx F1 G)) := by
  refine pss_weak (pss_cons h1 h2) fun D σ H ⟨ρ, r, t, en, zz, q⟩ => ?_
  obtain ⟨r1, hr, zz⟩ := Option.bind_eq_some_iff.mp zz
  refine ⟨ρ, r1, t, en, hr, ?_⟩
  cases r1 with
  | r r1 =>
    cases r1 with
    | nx ρ' =>
      obtain ⟨r2, hr2, rfl⟩ := Option.map_eq_some_iff.mp zz
      intro σ' H' e1 en'
      refine ⟨ρ', r2, e1.tabs t, en', hr2, ?_⟩
      cases r2 with
      | nx ρ2 => exact fun σ2 H2 e2 en2 => q σ2 H2 (e1.trans e2) en2
      | rt d => exact fun v H2 e2 i2 => q v H2 (e1.trans e2) i2
    | rt d =>
      cases zz
      exact q
  | ex =>
    cases zz
    exact q
end
end CR
/-! CrP1 -/
set_option maxHeartbeats 4000000
namespace CR
open PySem PySem.Spec L2
open PyProof.Rows hiding St
section
variable {P : Program} {w : World} {K : PySem.W.Frag} {mg : Str → Option Value} {base : Heap} {T : List (Addr × Str)}
abbrev N_is_less : List Str := ["one", "other"]
theorem sc_is_less : FnScope N_is_less ["one", "other"] (defScope s_is_less) := ⟨rfl, rfl, rfl, by decide +kernel, rfl, by decide +kernel, by decide +kernel⟩
def F_is_less : Stm :=
  sRet (eBin (gB2 fun i j => decide (i < j)) (eBin gMul (eBin gIx (eVar 0) (eC (.int 0))) (eBin gIx (eVar 1) (eC (.int 1)))) (eBin gMul (eBin gIx (eVar 1) (eC (.int 0))) (eBin gIx (eVar 0) (eC (.int 1)))))
def m_is_less : List D → Option D := runD 2 F_is_less
theorem ok_is_less {kws : List (Str × V)} {f : Addr} {fd : FuncData} (C : Tc mg)  (Fd : FnP K mg "is_less" s_is_less kws f fd) : FnOk P w K mg base L2.CX0 1 f fd ["one", "other"] (spD T 2 m_is_less) :=
  pure_ok (N := N_is_less) (F := F_is_less) Fd.1 sc_is_less rfl fun cdv A outer s H E hr =>
    ds_one (ds_ret (de_cmp op_lt od_b2 (de_bin op_mul od_mul (de_ix (dv 0) (de_int) (fun _ _ => rfl)) (de_ix (dv 1) (de_int) (fun _ _ => rfl))) (de_bin op_mul od_mul (de_ix (dv 1) (de_int) (fun _ _ => rfl)) (de_ix (dv 0) (de_int) (fun _ _ => rfl))) (nomark _)))
abbrev N_lesser : List Str := ["one", "other"]
theorem sc_lesser : FnScope N_lesser ["one", "other"] (defScope s_lesser) := ⟨rfl, rfl, rfl, by decide +kernel, rfl, by decide +kernel, by decide +kernel⟩
def F_lesser : Stm :=
  sRet (eIf (tOf (eCall 2 [] m_is_less (aCons (eVar 1) (aCons (eVar 0) (aNil))))) (eVar 1) (eVar 0))
def m_lesser : List D → Option D := runD 2 F_lesser
theorem ok_lesser {kws : List (Str × V)} {f : Addr} {fd : FuncData} (C : Tc mg) (c_is_less : PFn P w K mg base T 1 "is_less" 2 [] m_is_less) (Fd : FnP K mg "lesser" s_lesser kws f fd) : FnOk P w K mg base L2.CX0 2 f fd ["one", "other"] (spD T 2 m_lesser) :=
  pure_ok (N := N_lesser) (F := F_lesser) Fd.1 sc_lesser rfl fun cdv A outer s H E hr =>
    ds_one (ds_ret (de_if (dt_val (de_call c_is_less hr (by decide) (da_cons (dv 1) (da_cons (dv 0) (da_nil))))) (dv 1) (dv 0)))
abbrev N_count_on : List Str := ["count", "size", "by"]
theorem sc_count_on : FnScope N_count_on ["count", "size", "by"] (defScope s_count_on) := ⟨rfl, rfl, rfl, by decide +kernel, rfl, by decide +kernel, by decide +kernel⟩
def F_count_on : Stm :=
  sRet (eBin gMod (eBin gAdd (eVar 0) (eVar 2)) (eBin gMul (eC (.int 2)) (eVar 1)))
def m_count_on : List D → Option D := runD 3 F_count_on
theorem ok_count_on {kws : List (Str × V)} {f : Addr} {fd : FuncData} (C : Tc mg)  (Fd : FnP K mg "count_on" s_count_on kws f fd) : FnOk P w K mg base L2.CX0 1 f fd ["count", "size", "by"] (spD T 3 m_count_on) :=
  pure_ok (N := N_count_on) (F := F_count_on) Fd.1 sc_count_on rfl fun cdv A outer s H E hr =>
    ds_one (ds_ret (de_bin op_modN od_mod (de_bin op_addAny od_add (dv 0) (dv 2)) (de_bin op_mul od_mul (de_int) (dv 1))))
abbrev N_count_gap : List Str := ["low", "high", "size"]
theorem sc_count_gap : FnScope N_count_gap ["low", "high", "size"] (defScope s_count_gap) := ⟨rfl, rfl, rfl, by decide +kernel, rfl, by decide +kernel, by decide +kernel⟩
def F_count_gap : Stm :=
  sRet (eBin gMod (eBin gSub (eVar 1) (eVar 0)) (eBin gMul (eC (.int 2)) (eVar 2)))
def m_count_gap : List D → Option D := runD 3 F_count_gap
theorem ok_count_gap {kws : List (Str × V)} {f : Addr} {fd : FuncData} (C : Tc mg)  (Fd : FnP K mg "count_gap" s_count_gap kws f fd) : FnOk P w K mg base L2.CX0 1 f fd ["low", "high", "size"] (spD T 3 m_count_gap) :=
  pure_ok (N := N_count_gap) (F := F_count_gap) Fd.1 sc_count_gap rfl fun cdv A outer s H E hr =>
    ds_one (ds_ret (de_bin op_modN od_mod (de_bin op_sub od_i2 (dv 1) (dv 0)) (de_bin op_mul od_mul (de_int) (dv 2))))
abbrev N_held_in : List Str := ["ring", "size", "made", "done", "things"]
theorem sc_held_in : FnScope N_held_in ["ring"] (defScope s_held_in) := ⟨rfl, rfl, rfl, by decide +kernel, rfl, by decide +kernel, by decide +kernel⟩
def F_held_in : Stm :=
  sSeq (sAsg (eVar 0) (uTup 4 (uCons (uName 1) (uCons (uName 2) (uCons (uName 3) (uCons (uName 4) (uNil))))))) (sRet (eCall 3 [] m_count_gap (aCons (eVar 3) (aCons (eVar 2) (aCons (eVar 1) (aNil))))))
def m_held_in : List D → Option D := runD 5 F_held_in
theorem ok_held_in {kws : List (Str × V)} {f : Addr} {fd : FuncData} (C : Tc mg) (c_count_gap : PFn P w K mg base T 1 "count_gap" 3 [] m_count_gap) (Fd : FnP K mg "held_in" s_held_in kws f fd) : FnOk P w K mg base L2.CX0 2 f fd ["ring"] (spD T 1 m_held_in) :=
  pure_ok (N := N_held_in) (F := F_held_in) Fd.1 sc_held_in rfl fun cdv A outer s H E hr =>
    ds_cons (ds_asg (dv 0) (dg_tup rfl (dgs_cons (dg_name (i := 1) sc_held_in.nd) (dgs_cons (dg_name (i := 2) sc_held_in.nd) (dgs_cons (dg_name (i := 3) sc_held_in.nd) (dgs_cons (dg_name (i := 4) sc_held_in.nd) (dgs_nil))))))) (ds_one (ds_ret (de_call c_count_gap hr (by decide) (da_cons (dv 3) (da_cons (dv 2) (da_cons (dv 1) (da_nil)))))))
abbrev N_laid : List Str := ["things", "place", "thing"]
theorem sc_laid : FnScope N_laid ["things", "place", "thing"] (defScope s_laid) := ⟨rfl, rfl, rfl, by decide +kernel, rfl, by decide +kernel, by decide +kernel⟩
def F_laid : Stm :=
  sRet (eBin gAdd (eBin gAdd (eSl (eVar 0) (pNo) (pSo (eVar 1))) (eTup (aCons (eVar 2) (aNil)))) (eSl (eVar 0) (pSo (eBin gAdd (eVar 1) (eC (.int 1)))) (pNo)))
def m_laid : List D → Option D := runD 3 F_laid
theorem ok_laid {kws : List (Str × V)} {f : Addr} {fd : FuncData} (C : Tc mg)  (Fd : FnP K mg "laid" s_laid kws f fd) : FnOk P w K mg base L2.CX0 1 f fd ["things", "place", "thing"] (spD T 3 m_laid) :=
  pure_ok (N := N_laid) (F := F_laid) Fd.1 sc_laid rfl fun cdv A outer s H E hr =>
    ds_one (ds_ret (de_bin op_addAny od_add (de_bin op_addAny od_add (de_sl (dv 0) (do_none) (do_some (dv 1))) (de_tup (da_cons (dv 2) (da_nil)))) (de_sl (dv 0) (do_some (de_bin op_addAny od_add (dv 1) (de_int))) (do_none))))
abbrev N_turned_at : List Str := ["thing", "at", "newer"]
theorem sc_turned_at : FnScope N_turned_at ["thing", "at", "newer"] (defScope s_turned_at) := ⟨rfl, rfl, rfl, by decide +kernel, rfl, by decide +kernel, by decide +kernel⟩
def F_turned_at : Stm :=
  sRet (eBin gAdd (eBin gAdd (eSl (eVar 0) (pNo) (pSo (eVar 1))) (eTup (aCons (eVar 2) (aNil)))) (eSl (eVar 0) (pSo (eBin gAdd (eVar 1) (eC (.int 1)))) (pNo)))
def m_turned_at : List D → Option D := runD 3 F_turned_at
theorem ok_turned_at {kws : List (Str × V)} {f : Addr} {fd : FuncData} (C : Tc mg)  (Fd : FnP K mg "turned_at" s_turned_at kws f fd) : FnOk P w K mg base L2.CX0 1 f fd ["thing", "at", "newer"] (spD T 3 m_turned_at) :=
  pure_ok (N := N_turned_at) (F := F_turned_at) Fd.1 sc_turned_at rfl fun cdv A outer s H E hr =>
    ds_one (ds_ret (de_bin op_addAny od_add (de_bin op_addAny od_add (de_sl (dv 0) (do_none) (do_some (dv 1))) (de_tup (da_cons (dv 2) (da_nil)))) (de_sl (dv 0) (do_some (de_bin op_addAny od_add (dv 1) (de_int))) (do_none))))
abbrev N_lane_turned : List Str := ["value", "lane", "at", "newer", "lanes"]
theorem sc_lane_turned : FnScope N_lane_turned ["value", "lane", "at", "newer"] (defScope s_lane_turned) := ⟨rfl, rfl, rfl, by decide +kernel, rfl, by decide +kernel, by decide +kernel⟩
def F_lane_turned : Stm :=
  sSeq (sSet 4 (eBin gIx (eVar 0) (eC (.int 1)))) (sRet (eCall 3 [] m_turned_at (aCons (eVar 0) (aCons (eC (.int 1)) (aCons (eCall 3 [] m_turned_at (aCons (eVar 4) (aCons (eVar 1) (aCons (eCall 3 [] m_turned_at (aCons (eBin gIx (eVar 4) (eVar 1)) (aCons (eVar 2) (aCons (eVar 3) (aNil))))) (aNil))))) (aNil))))))
def m_lane_turned : List D → Option D := runD 5 F_lane_turned
theorem ok_lane_turned {kws : List (Str × V)} {f : Addr} {fd : FuncData} (C : Tc mg) (c_turned_at : PFn P w K mg base T 1 "turned_at" 3 [] m_turned_at) (Fd : FnP K mg "lane_turned" s_lane_turned kws f fd) : FnOk P w K mg base L2.CX0 2 f fd ["value", "lane", "at", "newer"] (spD T 4 m_lane_turned) :=
  pure_ok (N := N_lane_turned) (F := F_lane_turned) Fd.1 sc_lane_turned rfl fun cdv A outer s H E hr =>
    ds_cons (ds_set (i := 4) sc_lane_turned.nd (de_ix (dv 0) (de_gint C.c_LANES_AT) (fun _ _ => rfl))) (ds_one (ds_ret (de_call c_turned_at hr (by decide) (da_cons (dv 0) (da_cons (de_gint C.c_LANES_AT) (da_cons (de_call c_turned_at hr (by decide) (da_cons (dv 4) (da_cons (dv 1) (da_cons (de_call c_turned_at hr (by decide) (da_cons (de_ix (dv 4) (dv 1) (fun _ _ => rfl)) (da_cons (dv 2) (da_cons (dv 3) (da_nil))))) (da_nil))))) (da_nil)))))))
abbrev N_owns : List Str := ["rights", "word", "stretch"]
theorem sc_owns : FnScope N_owns ["rights", "word", "stretch"] (defScope s_owns) := ⟨rfl, rfl, rfl, by decide +kernel, rfl, by decide +kernel, by decide +kernel⟩
def F_owns : Stm :=
  sRet (eAn (eBin (gB2 fun i j => decide (i < j)) (eBin gIx (eVar 2) (eC (.int 0))) (eCB gLen (aCons (eVar 0) (aNil)))) (eBin gEq (eBin gIx (eVar 0) (eBin gIx (eVar 2) (eC (.int 0)))) (eVar 1)))
def m_owns : List D → Option D := runD 3 F_owns
theorem ok_owns {kws : List (Str × V)} {f : Addr} {fd : FuncData} (C : Tc mg)  (Fd : FnP K mg "owns" s_owns kws f fd) : FnOk P w K mg base L2.CX0 1 f fd ["rights", "word", "stretch"] (spD T 3 m_owns) :=
  pure_ok (N := N_owns) (F := F_owns) Fd.1 sc_owns rfl fun cdv A outer s H E hr =>
    ds_one (ds_ret (de_and (de_cmp op_lt od_b2 (de_ix (dv 2) (de_int) (fun _ _ => rfl)) (de_len C.n_len (da_cons (dv 0) (da_nil))) (nomark _)) (pe_one (de_cmp (op_eqD hr.units) od_eq (de_ix (dv 0) (de_ix (dv 2) (de_int) (fun _ _ => rfl)) (fun _ _ => rfl)) (dv 1) (nomark _)))))
abbrev N_owns_it : List Str := ["value", "rights", "stretch"]
theorem sc_owns_it : FnScope N_owns_it ["value", "rights", "stretch"] (defScope s_owns_it) := ⟨rfl, rfl, rfl, by decide +kernel, rfl, by decide +kernel, by decide +kernel⟩
def F_owns_it : Stm :=
  sRet (eCall 3 [] m_owns (aCons (eVar 1) (aCons (eBin gIx (eBin gIx (eVar 0) (eC (.int 0))) (eC (.int 1))) (aCons (eVar 2) (aNil)))))
def m_owns_it : List D → Option D := runD 3 F_owns_it
theorem ok_owns_it {kws : List (Str × V)} {f : Addr} {fd : FuncData} (C : Tc mg) (c_owns : PFn P w K mg base T 1 "owns" 3 [] m_owns) (Fd : FnP K mg "owns_it" s_owns_it kws f fd) : FnOk P w K mg base L2.CX0 2 f fd ["value", "rights", "stretch"] (spD T 3 m_owns_it) :=
  pure_ok (N := N_owns_it) (F := F_owns_it) Fd.1 sc_owns_it rfl fun cdv A outer s H E hr =>
    ds_one (ds_ret (de_call c_owns hr (by decide) (da_cons (dv 1) (da_cons (de_ix (de_ix (dv 0) (de_gint C.c_HALF_AT) (fun _ _ => rfl)) (de_int) (fun _ _ => rfl)) (da_cons (dv 2) (da_nil))))))
abbrev N_void_ring : List Str := ["size"]
theorem sc_void_ring : FnScope N_void_ring ["size"] (defScope s_void_ring) := ⟨rfl, rfl, rfl, by decide +kernel, rfl, by decide +kernel, by decide +kernel⟩
def F_void_ring : Stm :=
  sRet (eTup (aCons (eVar 0) (aCons (eC (.int 0)) (aCons (eC (.int 0)) (aCons (eBin gRep (eTup (aCons (eC .none) (aNil))) (eVar 0)) (aNil))))))
def m_void_ring : List D → Option D := runD 1 F_void_ring
theorem ok_void_ring {kws : List (Str × V)} {f : Addr} {fd : FuncData} (C : Tc mg)  (Fd : FnP K mg "void_ring" s_void_ring kws f fd) : FnOk P w K mg base L2.CX0 1 f fd ["size"] (spD T 1 m_void_ring) :=
  pure_ok (N := N_void_ring) (F := F_void_ring) Fd.1 sc_void_ring rfl fun cdv A outer s H E hr =>
    ds_one (ds_ret (de_tup (da_cons (dv 0) (da_cons (de_int) (da_cons (de_int) (da_cons (de_bin op_repAny od_rep (de_tup (da_cons (de_non) (da_nil))) (dv 0)) (da_nil)))))))
abbrev N_void_lane : List Str := ["size"]
theorem sc_void_lane : FnScope N_void_lane ["size"] (defScope s_void_lane) := ⟨rfl, rfl, rfl, by decide +kernel, rfl, by decide +kernel, by decide +kernel⟩
def F_void_lane : Stm :=
  sRet (eTup (aCons (eCall 1 [] m_void_ring (aCons (eVar 0) (aNil))) (aCons (eC (.int 0)) (aCons (eC (.int 0)) (aCons (eTup (aNil)) (aCons (eCall 1 [] m_void_ring (aCons (eVar 0) (aNil))) (aCons (eTup (aNil)) (aCons (eC .none) (aCons (eC (.bool false)) (aNil))))))))))
def m_void_lane : List D → Option D := runD 1 F_void_lane
theorem ok_void_lane {kws : List (Str × V)} {f : Addr} {fd : FuncData} (C : Tc mg) (c_void_ring : PFn P w K mg base T 1 "void_ring" 1 [] m_void_ring) (Fd : FnP K mg "void_lane" s_void_lane kws f fd) : FnOk P w K mg base L2.CX0 2 f fd ["size"] (spD T 1 m_void_lane) :=
  pure_ok (N := N_void_lane) (F := F_void_lane) Fd.1 sc_void_lane rfl fun cdv A outer s H E hr =>
    ds_one (ds_ret (de_tup (da_cons (de_call c_void_ring hr (by decide) (da_cons (dv 0) (da_nil))) (da_cons (de_int) (da_cons (de_int) (da_cons (de_tup (da_nil)) (da_cons (de_call c_void_ring hr (by decide) (da_cons (dv 0) (da_nil))) (da_cons (de_tup (da_nil)) (da_cons (de_non) (da_cons (de_bl) (da_nil)))))))))))
end
end CR
/-! CrN -/
set_option maxHeartbeats 4000000
namespace CR
open PySem PySem.Spec L2
open PyProof.Rows hiding St
/-! ### plain tuples -/
def tupO (its : Array Value) : Obj := { cls := .type "tuple", data := .seq its }
theorem plain_ok {P : Program} {w : World} {H : Hp} {h : Heap} {p : Addr} {its : Array Value} {xs : List V} (e : h.get? p = some (tupO its)) (r : Vals xs its.toList) (hz : xs.length ≤ sizeLine) : ObjOk P w H h p (.frz (tupO its) (.tup xs)) :=
  ⟨e, hz, its.toList, r, ⟨_, e, rfl, 0, by simp [tupO]⟩⟩
section
variable {X : Cx} {T : List (Addr × Str)}
/-- () as a plain tuple -/
theorem de_unitP {k : Nat} {pos : Pos}  : PE X (.Tuple [] k pos) (tD T (eC (.list []))) := by
  refine ⟨fun pins s σ H Q I ⟨ρ, d, t, en, z, q⟩ => ?_⟩
  cases z
  refine wpAny_Tuple_spliced (thn ((pa_nil (X := X)).run pos pins s σ H (fun xs H1 => xs = [] ∧ H1 = H) I ⟨rfl, rfl⟩) fun us s1 ⟨xs, H1, I1, r, e1, e2⟩ => ⟨?_, ?_⟩)
  · subst e1
    cases r
    exact Nat.zero_le _
  · subst e1 e2
    cases r
    have hf : H1 s1.heap.objs.size = none := I1.hok.fresh (Nat.le_refl _)
    refine ⟨.ref s1.heap.objs.size, upd H1 s1.heap.objs.size (.frz (tupO #[]) (.tup [])), I1.laid (t' := s1.toks) (fun b u e => Heap.get?_push_of_some _ e) (Nat.le_refl _) (plain_ok (Heap.get?_push_size _ rfl) .nil (Nat.zero_le _)), rfl, q _ _ (.new hf) (.pl upd_same rfl .nil)⟩
/-- tuple([..]), as a plain tuple -/
theorem call_tupleP : CallR X (.type "tuple") (fun xs H Q => ∃ p ys, xs = [.ref p] ∧ SqL X.K H p ys ∧ ∀ l o, H l = none → o.dict = none → Q (.ref l) (upd H l (.frz o (.tup ys)))) := by
  intro pins s σ H xs us Q I r h
  obtain ⟨p, ys, rfl, hq, q⟩ := h
  obtain ⟨u, rfl, rx⟩ := vals1 r
  cases rx
  obtain ⟨its, r', pl, hz⟩ := I.list hq
  have hlen := r'.length
  refine call_tuple_list pl.isList (fun h' kp => ?_) (by simp only [List.size_toArray] <;> omega)
  have I1 : Inv X pins σ H { s with heap := h' } := I.kept (t' := s.toks) kp
  have I2 : Inv X pins σ (upd H h'.objs.size (.frz (tupO its.toArray) (.tup ys))) { s with heap := h'.push { cls := .type "tuple", data := .seq its.toArray } } :=
    I1.laid (t' := s.toks) (fun b o e => Heap.get?_push_of_some _ e) (Nat.le_refl _) (plain_ok (Heap.get?_push_size _ rfl) (by simpa using r') hz)
  exact ⟨.ref h'.objs.size, _, I2, rfl, q _ _ (I1.hok.fresh (Nat.le_refl _)) rfl⟩
end
/-! ### dicts whose keys are nested tuples -/
abbrev NK := NestedKey
def RN (p : NK × Addr × V) (q : NK × Addr × Value) : Prop := p.1 = q.1 ∧ p.2.1 = q.2.1 ∧ RelV p.2.2 q.2.2
def dN (P : Program) (w : World) (d : Addr) (xs : List (NK × Addr × V)) : HO := .ext fun h => (d == sysModules) = false ∧ ∃ ys : List (NK × Addr × Value), Paired RN xs ys ∧ ∃ o es ep, h.get? d = some o ∧ o.ExactDict ∧ o.data = .dict es ep ∧ es.toList = ys.map (entryOfKey (nestedKind P w))
mutual
def nkOf : D → Option NK
  | .none => some .none
  | .int i => some (.num i)
  | .str x => some (.text x)
  | .tuple ds => (nksOf ds).map .tup
  | _ => none
def nksOf : List D → Option (List NK)
  | [] => some []
  | d :: ds => (nkOf d).bind fun k => (nksOf ds).map (k :: ·)
end
mutual
theorem nkOf_data : ∀ (d : D) (k : NK), nkOf d = some k → k.data = d
  | .none, k, h => by unfold nkOf at h; cases h; rfl
  | .int i, k, h => by unfold nkOf at h; cases h; rfl
  | .str x, k, h => by unfold nkOf at h; cases h; rfl
  | .tuple ds, k, h => by
    unfold nkOf at h
    obtain ⟨ks, h1, rfl⟩ := Option.map_eq_some_iff.mp h
    show PyData.tuple (NestedKey.datas ks) = _
    rw [nksOf_data ds ks h1]
  | .bool _, k, h => by unfold nkOf at h; cases h
  | .list _, k, h => by unfold nkOf at h; cases h
  | .dict _, k, h => by unfold nkOf at h; cases h
theorem nksOf_data : ∀ (ds : List D) (ks : List NK), nksOf ds = some ks → NestedKey.datas ks = ds
  | [], ks, h => by unfold nksOf at h; cases h; rfl
  | d :: ds, ks, h => by
    unfold nksOf at h
    obtain ⟨k, h1, h⟩ := Option.bind_eq_some_iff.mp h
    obtain ⟨ks', h2, rfl⟩ := Option.map_eq_some_iff.mp h
    show NestedKey.data k :: NestedKey.datas ks' = _
    rw [nkOf_data d k h1, nksOf_data ds ks' h2]
end
mutual
theorem nkOf_of : ∀ k : NK, nkOf k.data = some k
  | .none => rfl
  | .num i => rfl
  | .text x => rfl
  | .tup ks => by
    show nkOf (.tuple (NestedKey.datas ks)) = _
    unfold nkOf
    rw [nksOf_of ks]
    rfl
theorem nksOf_of : ∀ ks : List NK, nksOf (NestedKey.datas ks) = some ks
  | [] => rfl
  | k :: ks => by
    show nksOf (k.data :: NestedKey.datas ks) = _
    unfold nksOf
    rw [nkOf_of k, nksOf_of ks]
    rfl
end
section
variable {P : Program} {w : World} {H : Hp} {h : Heap}
mutual
theorem Is.nested (ok : HOk P w H h) : ∀ (k : NK) (v : V) (u : Value), Is H v k.data → RelV v u → NestedIs h k u
  | .none, v, u, i, r => by
    have i' : Is H v .none := i
    cases i'
    cases r
    exact .none
  | .num n, v, u, i, r => by
    have i' : Is H v (.int n) := i
    cases i'
    obtain ⟨t, rfl⟩ := r
    exact .int n t
  | .text x, v, u, i, r => by
    have i' : Is H v (.str x) := i
    cases i'
    obtain ⟨t, rfl⟩ := r
    exact .text x t
  | .tup ks, v, u, i, r => by
    have i' : Is H v (.tuple (NestedKey.datas ks)) := i
    obtain ⟨a, xs, rfl, ha, hi⟩ := i'.tupE
    cases r
    obtain ⟨_, its, rv, ot, hot, hct, nt, hdt⟩ := (show ObjOk P w H h a (.tup xs) from ok a _ ha)
    exact .tup hot hct hdt (by simpa using IsAll.nested ok ks xs its hi rv)
theorem IsAll.nested (ok : HOk P w H h) : ∀ (ks : List NK) (vs : List V) (us : List Value), IsAll H vs (NestedKey.datas ks) → Vals vs us → NestedAll h ks us
  | [], vs, us, i, r => by
    have i' : IsAll H vs [] := i
    cases i'
    cases r
    exact .nil
  | k :: ks, vs, us, i, r => by
    have i' : IsAll H vs (k.data :: NestedKey.datas ks) := i
    cases i' with
    | cons h1 h2 =>
      cases r with
      | cons r1 r2 => exact .cons (Is.nested ok k _ _ h1 r1) (IsAll.nested ok ks _ _ h2 r2)
end
/-- an entry: the key, its tuple, the value, what the value is -/
abbrev En := NK × Addr × V × D
def En.o (x : En) : NK × Addr × V := (x.1, x.2.1, x.2.2.1)
def En.kv (x : En) : NK × D := (x.1, x.2.2.2)
structure EnOk (H : Hp) (x : En) : Prop where
  key : Is H (.ref x.2.1) x.1.data
  dep : x.1.depth ≤ 8
  val : Is H x.2.2.1 x.2.2.2
theorem EnOk.mono {H' : Hp} (t : Tups H H') {x : En} (e : EnOk H x) : EnOk H' x := ⟨e.key.mono t, e.dep, e.val.mono t⟩
/-- at d stands a dict with the keys and values kvs -/
def IsN (P : Program) (w : World) (H : Hp) (d : Addr) (kvs : List (NK × D)) : Prop := ∃ xs : List En, H d = some (dN P w d (xs.map En.o)) ∧ kvs = xs.map En.kv ∧ (∀ x ∈ xs, EnOk H x) ∧ (kvs.map (·.1)).Nodup ∧ kvs.length ≤ 1000
theorem IsN.mono {H' : Hp} {d : Addr} {kvs : List (NK × D)} (i : IsN P w H d kvs) (t : Tups H H') (e : H' d = H d) : IsN P w H' d kvs := by
  obtain ⟨xs, h1, h2, h3, h4, h5⟩ := i
  exact ⟨xs, e.trans h1, h2, fun x hx => (h3 x hx).mono t, h4, h5⟩
def dset (kvs : List (NK × D)) (k : NK) (d : D) : List (NK × D) := if kvs.any (fun p => decide (p.1 = k)) then kvs.map (fun p => if p.1 = k then (p.1, d) else p) else kvs ++ [(k, d)]
def dget (kvs : List (NK × D)) (k : NK) : Option D := (kvs.find? fun p => decide (p.1 = k)).map (·.2)
def eset (xs : List En) (k : NK) (b : Addr) (v : V) (d : D) : List En := if xs.any (fun p => decide (p.1 = k)) then xs.map (fun p => if p.1 = k then (p.1, p.2.1, v, d) else p) else xs ++ [(k, b, v, d)]
theorem eset_kv (xs : List En) (k : NK) (b : Addr) (v : V) (d : D) : (eset xs k b v d).map En.kv = dset (xs.map En.kv) k d := by
  unfold eset dset
  have e : ((xs.map En.kv).any fun p => decide (p.1 = k)) = xs.any fun p => decide (p.1 = k) := by
    rw [List.any_map]
    rfl
  rw [e]
  split
  · rw [List.map_map, List.map_map]
    refine List.map_congr_left fun x _ => ?_
    show En.kv (if x.1 = k then _ else x) = (if (En.kv x).1 = k then _ else En.kv x)
    by_cases h : x.1 = k
    · rw [if_pos h, if_pos (show (En.kv x).1 = k from h)]; rfl
    · rw [if_neg h, if_neg (show ¬ (En.kv x).1 = k from h)]
  · rw [List.map_append]
    rfl
theorem eset_ok {H' : Hp} {xs : List En} {k : NK} {b : Addr} {v : V} {d : D} (h : ∀ x ∈ xs, EnOk H' x) (hk : Is H' (.ref b) k.data) (hd : k.depth ≤ 8) (hv : Is H' v d) : ∀ x ∈ eset xs k b v d, EnOk H' x := by
  intro x hx
  unfold eset at hx
  split at hx
  · obtain ⟨y, hy, rfl⟩ := List.mem_map.mp hx
    by_cases e : y.1 = k
    · rw [if_pos e]
      exact ⟨(h y hy).key, (h y hy).dep, hv⟩
    · rw [if_neg e]
      exact h y hy
  · rcases List.mem_append.mp hx with hx | hx
    · exact h x hx
    · rw [List.mem_singleton.mp hx]
      exact ⟨hk, hd, hv⟩
theorem dset_nodup {kvs : List (NK × D)} {k : NK} {d : D} (h : (kvs.map (·.1)).Nodup) : ((dset kvs k d).map (·.1)).Nodup := by
  unfold dset
  split
  · rw [List.map_map]
    have e : ((fun p : NK × D => p.1) ∘ fun p => if p.1 = k then (p.1, d) else p) = fun p => p.1 := by
      funext p
      show (if p.1 = k then (p.1, d) else p).1 = p.1
      split <;> rfl
    rw [e]
    exact h
  · rename_i hn
    rw [List.map_append, List.nodup_append]
    refine ⟨h, by simp, ?_⟩
    intro a ha b hb e
    subst e
    have hb' : a = k := by simpa using hb
    subst hb'
    obtain ⟨p, hp, rfl⟩ := List.mem_map.mp ha
    exact hn (List.any_eq_true.mpr ⟨p, hp, decide_eq_true rfl⟩)
theorem dset_len (kvs : List (NK × D)) (k : NK) (d : D) : (dset kvs k d).length ≤ kvs.length + 1 := by
  unfold dset
  split
  · rw [List.length_map]; omega
  · rw [List.length_append]; exact Nat.le_refl _
theorem paired_app {α β : Type} {F : α → β → Prop} : ∀ {l₁ : List α} {l₂ : List β} {m₁ : List α} {m₂ : List β}, Paired F l₁ l₂ → Paired F m₁ m₂ → Paired F (l₁ ++ m₁) (l₂ ++ m₂)
  | _, _, _, _, .nil, q => q
  | _, _, _, _, .cons r t, q => .cons r (paired_app t q)
/-- the raw dict and the entries -/
theorem paired_any {k : NK} : ∀ {xs : List (NK × Addr × V)} {ys : List (NK × Addr × Value)}, Paired RN xs ys → (atKey ys k).isSome = xs.any fun p => decide (p.1 = k)
  | _, _, .nil => rfl
  | _, _, .cons (a := x) (b := y) r t => by
    have ih := paired_any (k := k) t
    unfold atKey at ih ⊢
    rw [List.any_cons, ← ih, List.find?_cons]
    rw [show x.1 = y.1 from r.1]
    by_cases h : y.1 = k
    · rw [decide_eq_true h]; rfl
    · rw [decide_eq_false h]; rfl
theorem paired_set {k : NK} {b : Addr} {v : V} {u : Value} {d : D} (r : RelV v u) {xs : List En} {ys : List (NK × Addr × Value)} (p : Paired RN (xs.map En.o) ys) : Paired RN ((eset xs k b v d).map En.o) (storedH ys k b u) := by
  have ha := paired_any (k := k) p
  rw [List.any_map] at ha
  have ha' : (atKey ys k).isSome = xs.any fun p => decide (p.1 = k) := ha
  unfold eset storedH
  rw [ha']
  split
  · rw [List.map_map]
    clear ha ha'
    rename_i hh
    clear hh
    induction xs generalizing ys with
    | nil =>
      cases p
      exact .nil
    | cons x xs ih =>
      cases p with
      | cons r1 t =>
        rename_i y ys
        refine .cons ?_ (ih t)
        show RN (En.o (if x.1 = k then (x.1, x.2.1, v, d) else x)) (putAt k u y)
        unfold putAt
        have e : x.1 = y.1 := r1.1
        by_cases h : x.1 = k
        · rw [if_pos h, if_pos (e ▸ h)]
          exact ⟨r1.1, r1.2.1, r⟩
        · rw [if_neg h, if_neg (e ▸ h)]
          exact r1
  · rw [List.map_append]
    exact paired_app p (.cons ⟨rfl, rfl, r⟩ .nil)
theorem dN_raw {d : Addr} {kvs : List (NK × D)} (ok : HOk P w H h) (i : IsN P w H d kvs) : (d == sysModules) = false ∧ ∃ (xs : List En) (ys : List (NK × Addr × Value)), kvs = xs.map En.kv ∧ (∀ x ∈ xs, EnOk H x) ∧ H d = some (dN P w d (xs.map En.o)) ∧ Paired RN (xs.map En.o) ys ∧ h.DictOfH (nestedKind P w) d ys := by
  obtain ⟨xs, h1, h2, h3, h4, h5⟩ := i
  have z : ObjOk P w H h d (dN P w d (xs.map En.o)) := ok d _ h1
  obtain ⟨⟨hs, ys, hp, o, es, ep, ho, hx, hd, he⟩, _⟩ := z
  refine ⟨hs, xs, ys, h2, h3, h1, hp, o, es, ep, ho, hx, hd, he, ?_, ?_⟩
  · intro y hy
    obtain ⟨j, hj⟩ := List.mem_iff_getElem?.mp hy
    obtain ⟨x, hx', r⟩ := L2.DX.pget hp hj
    rw [List.getElem?_map] at hx'
    obtain ⟨e, he', rfl⟩ := Option.map_eq_some_iff.mp hx'
    have ok1 := h3 e (List.mem_of_getElem? he')
    have q := Is.nested ok e.1 (.ref e.2.1) (.ref e.2.1) ok1.key rfl
    have e1 : e.1 = y.1 := r.1
    have e2 : e.2.1 = y.2.1 := r.2.1
    rw [e1, e2] at q
    exact ⟨q, by rw [← e1]; exact ok1.dep⟩
  · have e : ys.map (·.1) = kvs.map (·.1) := by
      rw [h2, List.map_map]
      clear he h2 h3 h4 h5 hs h1
      generalize xs = xs at hp
      induction xs generalizing ys with
      | nil => cases hp; rfl
      | cons x xs ih =>
        cases hp with
        | cons r t =>
          rw [List.map_cons, List.map_cons, ih _ t]
          rw [← show x.1 = _ from r.1]
          rfl
    rw [e]
    exact h4
theorem dN_ok {H' : Hp} {h' : Heap} {d : Addr} {xs : List En} {ys : List (NK × Addr × Value)} (hs : (d == sysModules) = false) (p : Paired RN (xs.map En.o) ys) (x : h'.DictOfH (nestedKind P w) d ys) : ObjOk P w H' h' d (dN P w d (xs.map En.o)) := by
  obtain ⟨o, es, ep, ho, hx, hd, he, _, _⟩ := x
  exact ⟨⟨hs, ys, p, o, es, ep, ho, hx, hd, he⟩, ⟨o, ho⟩, fun h1 h2 ⟨a, ys, b, o, es, ep, c, r⟩ k => ⟨a, ys, b, o, es, ep, k _ c, r⟩⟩
end
end CR
/-! CrO -/
set_option maxHeartbeats 4000000
namespace CR
open PySem PySem.Spec L2
open PyProof.Rows hiding St
/-! ### dicts with nested keys: the operations -/
def isTupK : NK → Bool
  | .tup _ => true
  | _ => false
def kvOf : List D → Option (List (NK × D))
  | [] => some []
  | .tuple [k, x] :: r => (nkOf k).bind fun n => if (isTupK n = true ∧ n.depth ≤ 8) then (kvOf r).map ((n, x) :: ·) else none
  | _ :: _ => none
def dall (kvs : List (NK × D)) (more : List (NK × D)) : List (NK × D) := more.foldl (fun acc p => dset acc p.1 p.2) kvs
def eall (xs : List En) (zs : List En) : List En := zs.foldl (fun acc e => eset acc e.1 e.2.1 e.2.2.1 e.2.2.2) xs
theorem eall_kv : ∀ (zs xs : List En), (eall xs zs).map En.kv = dall (xs.map En.kv) (zs.map En.kv)
  | [], _ => rfl
  | z :: zs, xs => by
    show (eall (eset xs z.1 z.2.1 z.2.2.1 z.2.2.2) zs).map En.kv = dall (dset (xs.map En.kv) z.1 z.2.2.2) (zs.map En.kv)
    rw [eall_kv zs, eset_kv]
theorem dall_len : ∀ (zs xs : List (NK × D)), (dall xs zs).length ≤ xs.length + zs.length
  | [], _ => Nat.le_refl _
  | z :: zs, xs => by
    show (dall (dset xs z.1 z.2) zs).length ≤ _
    have h1 := dall_len zs (dset xs z.1 z.2)
    have h2 := dset_len xs z.1 z.2
    rw [List.length_cons]
    omega
theorem dall_nodup : ∀ (zs xs : List (NK × D)), (xs.map (·.1)).Nodup → ((dall xs zs).map (·.1)).Nodup
  | [], _, h => h
  | z :: zs, xs, h => dall_nodup zs _ (dset_nodup h)
section
variable {P : Program} {w : World} {H : Hp} {h : Heap}
theorem eall_ok : ∀ (zs xs : List En), (∀ x ∈ xs, EnOk H x) → (∀ x ∈ zs, EnOk H x) → ∀ x ∈ eall xs zs, EnOk H x
  | [], _, h, _ => h
  | z :: zs, xs, h, hz => eall_ok zs _ (eset_ok h (hz z List.mem_cons_self).key (hz z List.mem_cons_self).dep (hz z List.mem_cons_self).val) (fun x hx => hz x (List.mem_cons_of_mem _ hx))
theorem paired_all : ∀ (zs : List (En × Value)) (xs : List En) (ys : List (NK × Addr × Value)), (∀ z ∈ zs, RelV z.1.2.2.1 z.2) → Paired RN (xs.map En.o) ys →
    Paired RN ((eall xs (zs.map (·.1))).map En.o) (storedAllH ys (zs.map fun z => (z.1.1, z.1.2.1, z.2)))
  | [], _, _, _, p => p
  | z :: zs, xs, ys, hr, p => paired_all zs _ _ (fun z hz => hr z (List.mem_cons_of_mem _ hz)) (paired_set (hr z List.mem_cons_self) p)
/-- the pairs of a tuple -/
structure ZOk (P : Program) (w : World) (H : Hp) (h : Heap) (z : Addr × En × Value) : Prop where
  pair : h.IsTuple z.1 #[.ref z.2.1.2.1, z.2.2]
  en : EnOk H z.2.1
  rel : RelV z.2.1.2.2.1 z.2.2
  tup : isTupK z.2.1.1 = true
theorem tupK_ref {k : NK} (hk : isTupK k = true) {v : V} (i : Is H v k.data) : ∃ b, v = .ref b := by
  cases k <;> try cases hk
  rename_i ks
  obtain ⟨a, xs, e, _⟩ := (show Is H v (.tuple (NestedKey.datas ks)) from i).tupE
  exact ⟨a, e⟩
theorem pairs_of (ok : HOk P w H h) : ∀ (ds : List D) (vs : List V) (us : List Value) (kvs : List (NK × D)), IsAll H vs ds → Vals vs us → kvOf ds = some kvs →
    ∃ zs : List (Addr × En × Value), us = zs.map (fun z => Value.ref z.1) ∧ kvs = zs.map (fun z => z.2.1.kv) ∧ ∀ z ∈ zs, ZOk P w H h z
  | [], vs, us, kvs, i, r, k => by
    cases i
    cases r
    cases k
    exact ⟨[], rfl, rfl, fun z hz => absurd hz (by simp)⟩
  | d :: ds, vs, us, kvs, i, r, k => by
    cases i with
    | cons i1 i2 =>
      cases r with
      | cons r1 r2 =>
        unfold kvOf at k
        split at k
        · rename_i heq; cases heq
        · rename_i ky x rr heq
          cases heq
          obtain ⟨n, hn, k⟩ := Option.bind_eq_some_iff.mp k
          obtain ⟨⟨ht, hd⟩, k⟩ := ite_get k
          obtain ⟨kr, hkr, rfl⟩ := Option.map_eq_some_iff.mp k
          obtain ⟨zs, e1, e2, e3⟩ := pairs_of ok ds _ _ _ i2 r2 hkr
          obtain ⟨a, xs, rfl, ha, hi⟩ := i1.tupE
          cases hi with
          | cons hk hi =>
            cases hi with
            | @cons xv _ _ _ hx hi =>
              cases hi
              rw [← nkOf_data _ _ hn] at hk
              obtain ⟨b, rfl⟩ := tupK_ref ht hk
              cases r1
              obtain ⟨_, its, rv, q⟩ := (show ObjOk P w H h a (.tup _) from ok a _ ha)
              cases rv with
              | cons rk rv =>
                cases rk
                cases rv with
                | @cons _ xu _ _ rx rv =>
                  cases rv
                  refine ⟨(a, (n, b, xv, x), xu) :: zs, by rw [e1]; rfl, by rw [e2]; rfl, fun z hz => ?_⟩
                  rcases List.mem_cons.mp hz with rfl | hz
                  · exact ⟨(show h.IsTuple a #[Value.ref b, xu] from q), ⟨hk, hd, hx⟩, rx, ht⟩
                  · exact e3 z hz
        · cases k
theorem is_pl {v : V} {ds : List D} (i : Is H v (.list ds)) : ∃ a o xs, v = .ref a ∧ H a = some (.frz o (.tup xs)) ∧ o.dict = none ∧ IsAll H xs ds := by
  cases i with
  | pl h1 h2 h3 => exact ⟨_, _, _, rfl, h1, h2, h3⟩
end
section
variable {X : Cx}
def rDictN (P : Program) (w : World) : List V → Hp → VK → Prop := fun xs H Q => ∃ v ps kvs, xs = [v] ∧ Is H v (.list ps) ∧ kvOf ps = some kvs ∧ kvs.length ≤ 1000 ∧ ∀ d o, H d = none → IsN P w (upd H d o) d (dall [] kvs) → (∀ ps, o ≠ .tbl ps) → Q (.ref d) (upd H d o)
theorem dN_tbl {P : Program} {w : World} {d : Addr} {xs : List (NK × Addr × V)} : ∀ ps, dN P w d xs ≠ .tbl ps := fun ps z => by
  unfold dN at z
  cases z
theorem cr_dictN (hc : X.calm = true) (hu : X.A.units + 64 < cLine) : CallR X (.type "dict") (rDictN X.prog X.w) := by
  intro pins s σ H xs us Q I r hh
  obtain ⟨v, ps, kvs, rfl, iv, hk, hl, q⟩ := hh
  obtain ⟨a, o, xs, rfl, ha, hod, hi⟩ := is_pl iv
  obtain ⟨u, rfl, rx⟩ := vals1 r
  cases rx
  obtain ⟨ho, hz, its, rv, o', ho', hcls, n, hdat⟩ := (show ObjOk X.prog X.w H s.heap a (.frz o (.tup xs)) from I.hok a _ ha)
  rw [ho] at ho'
  cases ho'
  obtain ⟨zs, e1, e2, e3⟩ := pairs_of I.hok ps xs its kvs hi rv hk
  have hlen : zs.length = kvs.length := by rw [e2, List.length_map]
  have hbig : (s.heap.objs.size == sysModules) = false := by
    have := I.big
    exact beq_eq_false_iff_ne.mpr (Nat.ne_of_gt this)
  refine call_dict_pairsH (knd := nestedKind X.prog X.w) (ps := zs.map fun z => (z.2.1.1, z.2.1.2.1, z.2.2)) (PairArg.tuple a its.toArray (fun j => match zs[j]? with
    | some z => z.1
    | none => 0) (zs.map fun z => (Value.ref z.2.1.2.1, z.2.2))) (I.ok.hd hc) ?_ ⟨⟨o, n, ho, hcls, hod, hdat⟩, ?_, ?_⟩ ?_ ?_ ?_ fun h' tk hd' hkp => ?_
  · show X.A.units + 1 + 1 + 8 < cLine
    omega
  · rw [e1]; simp
  · intro j k v hj
    rw [List.getElem?_map] at hj
    obtain ⟨z, hz', e⟩ := Option.map_eq_some_iff.mp hj
    cases e
    refine ⟨?_, ?_⟩
    · rw [e1]
      simp [hz']
    · simp only [hz']
      exact .inl (e3 z (List.mem_of_getElem? hz')).pair
  · refine ⟨by simp, fun i key v hrel => ?_⟩
    have hrel' : (zs.map fun z => (Value.ref z.2.1.2.1, z.2.2))[i]? = some (key, v) := hrel
    rw [List.getElem?_map] at hrel'
    obtain ⟨z, hz', e⟩ := Option.map_eq_some_iff.mp hrel'
    cases e
    exact ⟨z.2.1.1, z.2.1.2.1, by rw [List.getElem?_map, hz']; rfl, rfl⟩
  · intro h' hk' x hx
    obtain ⟨z, hz', rfl⟩ := List.mem_map.mp hx
    have en := (e3 z hz').en
    have nd := Is.nested I.hok z.2.1.1 (.ref z.2.1.2.1) (.ref z.2.1.2.1) en.key rfl
    refine nestedKind_stays.stays (fun b ob vs m e _ => hk' b ob (Nat.ne_of_lt (Heap.lt_size e)) (by simp) e) (show (nestedKind X.prog X.w).is s.heap z.2.1.1 z.2.1.2.1 from ⟨nd, en.dep⟩)
  · rw [List.length_map, hlen]
    exact le_line (Nat.le_trans hl (by decide))
  · have hp := paired_all (zs.map (·.2)) [] [] (fun z hz' => by
      obtain ⟨y, hy, rfl⟩ := List.mem_map.mp hz'
      exact (e3 y hy).rel) .nil
    rw [List.map_map, List.map_map] at hp
    have hn : H s.heap.objs.size = none := I.hok.fresh (Nat.le_refl _)
    have I2 := I.laid (t' := tk) (a := s.heap.objs.size) (o := dN X.prog X.w s.heap.objs.size ((eall [] (zs.map fun z => z.2.1)).map En.o)) (h' := h') (fun b o e => hkp b o (by simp) e) (Nat.le_refl _) (dN_ok hbig hp hd')
    refine ⟨.ref s.heap.objs.size, _, I2, rfl, q _ _ hn ⟨_, upd_same, ?_, ?_, ?_, ?_⟩ dN_tbl⟩
    · rw [eall_kv, e2]
      simp only [List.map_map, List.map_nil]
      rfl
    · intro x hx
      refine (eall_ok _ _ (fun x hx => absurd hx (by simp)) (fun x hx => ?_) x hx).mono (tups_new hn)
      obtain ⟨z, hz', rfl⟩ := List.mem_map.mp hx
      exact (e3 z hz').en
    · exact dall_nodup _ _ (by simp)
    · have := dall_len kvs []
      simp at this
      omega
/-! get, [] -/
theorem paired_at {k : NK} : ∀ {xs : List En} {ys : List (NK × Addr × Value)}, Paired RN (xs.map En.o) ys → (∀ x ∈ xs, xs.find? (fun p => decide (p.1 = k)) = some x → ∃ u, atKey ys k = some (x.2.1, u) ∧ RelV x.2.2.1 u) ∧ (xs.find? (fun p => decide (p.1 = k)) = none → atKey ys k = none)
  | [], _, p => by
    cases p
    exact ⟨fun x hx => absurd hx (by simp), fun _ => rfl⟩
  | e :: xs, _, p => by
    cases p with
    | @cons _ y _ ys r t =>
      obtain ⟨i1, i2⟩ := paired_at (k := k) t
      have r1 : e.1 = y.1 := r.1
      have ey : atKey (y :: ys) k = if decide (y.1 = k) = true then some y.2 else atKey ys k := by
        unfold atKey
        rw [List.find?_cons]
        split
        · rename_i h; rw [if_pos h]; rfl
        · rename_i h; rw [if_neg (by rw [h]; exact Bool.false_ne_true)]
      rw [ey, ← r1, List.find?_cons]
      by_cases h : e.1 = k
      · rw [decide_eq_true h]
        refine ⟨fun x hx he => ?_, fun he => by cases he⟩
        cases he
        refine ⟨y.2.2, ?_, r.2.2⟩
        rw [if_pos rfl]
        have r2 : e.2.1 = y.2.1 := r.2.1
        rw [r2]
      · rw [decide_eq_false h]
        rw [if_neg Bool.false_ne_true]
        exact ⟨fun x hx he => i1 x (List.mem_of_find?_eq_some he) he, i2⟩
theorem dget_kv (xs : List En) (k : NK) : dget (xs.map En.kv) k = (xs.find? fun p => decide (p.1 = k)).map fun e => e.2.2.2 := by
  unfold dget
  rw [List.find?_map, Option.map_map]
  rfl
def rGetN (P : Program) (w : World) : V → List V → Hp → VK → Prop := fun x xs H Q => ∃ d kvs b k y, x = .ref d ∧ xs = [.ref b, y] ∧ IsN P w H d kvs ∧ Is H (.ref b) k.data ∧ k.depth ≤ 8 ∧ (∀ dx v, dget kvs k = some dx → Is H v dx → Q v H) ∧ (dget kvs k = none → Q y H)
theorem mt_getN (hu : X.A.units + 64 < cLine) : MtR X "dict.get" (rGetN X.prog X.w) := by
  intro pins s σ H x xs v us Q I rx rs hh
  obtain ⟨d, kvs, b, k, y, rfl, rfl, hd, hk, hdep, q1, q2⟩ := hh
  cases rx
  cases rs with
  | cons rb rs =>
    cases rb
    cases rs with
    | @cons _ uy _ _ ry rs =>
      cases rs
      obtain ⟨hsys, es, ys, e1, e2, e3, e4, e5⟩ := dN_raw I.hok hd
      have kis : (nestedKind X.prog X.w).is s.heap k b := ⟨Is.nested I.hok k (.ref b) (.ref b) hk rfl, hdep⟩
      refine getOr_keyed (knd := nestedKind X.prog X.w) (k := k) (by show X.A.units + 1 + 8 < cLine; omega) kis hsys ⟨ys, e5, rfl⟩ ?_
      rw [valueAt_pairsH]
      obtain ⟨p1, p2⟩ := paired_at (k := k) e4
      have eg := dget_kv es k
      rw [← e1] at eg
      cases hf : es.find? (fun p => decide (p.1 = k)) with
      | some e =>
        rw [hf] at eg
        obtain ⟨u, hu', hr⟩ := p1 e (List.mem_of_find?_eq_some hf) hf
        rw [hu']
        exact ⟨_, H, I.tok _, hr, q1 _ _ eg (e2 e (List.mem_of_find?_eq_some hf)).val⟩
      | none =>
        rw [hf] at eg
        rw [p2 hf]
        exact ⟨_, H, I.tok _, ry, q2 eg⟩
def rItN (P : Program) (w : World) : R2 := fun x y H Q => ∃ d kvs b k dx, x = .ref d ∧ y = .ref b ∧ IsN P w H d kvs ∧ Is H (.ref b) k.data ∧ k.depth ≤ 8 ∧ dget kvs k = some dx ∧ ∀ v, Is H v dx → Q v H
theorem ix_N (hu : X.A.units + 64 < cLine) : IxR X (rItN X.prog X.w) := by
  intro value slice pins s σ H x y v u Q I rx ry hh hs
  obtain ⟨d, kvs, b, k, dx, rfl, rfl, hd, hk, hdep, hg, q⟩ := hh
  cases rx
  cases ry
  obtain ⟨hsys, es, ys, e1, e2, e3, e4, e5⟩ := dN_raw I.hok hd
  have kis : (nestedKind X.prog X.w).is s.heap k b := ⟨Is.nested I.hok k (.ref b) (.ref b) hk rfl, hdep⟩
  obtain ⟨p1, p2⟩ := paired_at (k := k) e4
  have eg := dget_kv es k
  rw [← e1, hg] at eg
  cases hf : es.find? (fun p => decide (p.1 = k)) with
  | none => rw [hf] at eg; cases eg
  | some e =>
    rw [hf] at eg
    cases eg
    obtain ⟨u, hu', hr⟩ := p1 e (List.mem_of_find?_eq_some hf) hf
    refine tail_any e5.typeIs PySem.F.slot_dict_getitem.lookup (wpAny_getItem_heap (by show X.A.units + 1 + 8 < cLine; omega) kis e5 hu' ⟨_, H, I.tok _, hr, q _ (e2 e (List.mem_of_find?_eq_some hf)).val⟩) hs
def rPutN (P : Program) (w : World) : TSet := fun o i v H Q => ∃ d kvs b k dv, o = .ref d ∧ i = .ref b ∧ IsN P w H d kvs ∧ Is H (.ref b) k.data ∧ k.depth ≤ 8 ∧ Is H v dv ∧ kvs.length < 1000 ∧ ∀ o', (∀ ps, o' ≠ .tbl ps) → IsN P w (upd H d o') d (dset kvs k dv) → Tups H (upd H d o') → (∀ T, LamX.Tabs T H → LamX.Tabs T (upd H d o')) → Q (upd H d o')
theorem tups_ext {H : Hp} {d : Addr} {P : Program} {w : World} {xs : List (NK × Addr × V)} {o : HO} (h : H d = some (dN P w d xs)) : Tups H (upd H d o) := ⟨fun a ys hy => by
  have n : a ≠ d := fun e => by rw [e, h] at hy; unfold dN at hy; cases hy
  rw [upd_ne n]
  exact hy, fun a ob ys hy => by
  have n : a ≠ d := fun e => by rw [e, h] at hy; unfold dN at hy; cases hy
  rw [upd_ne n]
  exact hy⟩
theorem pset_N (hu : X.A.units + 64 < cLine) : PSet X (rPutN X.prog X.w) := by
  intro pins s σ H o i v ov iv u Q I ro ri rv hh
  obtain ⟨d, kvs, b, k, dv, rfl, rfl, hd, hk, hdep, hv, hl, q⟩ := hh
  cases ro
  cases ri
  obtain ⟨hsys, es, ys, e1, e2, e3, e4, e5⟩ := dN_raw I.hok hd
  have kis : (nestedKind X.prog X.w).is s.heap k b := ⟨Is.nested I.hok k (.ref b) (.ref b) hk rfl, hdep⟩
  have hly : ys.length = kvs.length := by
    rw [← Paired.length e4, List.length_map, e1, List.length_map]
  refine wpAny_setItem_heap (knd := nestedKind X.prog X.w) (by show X.A.units + 1 + 8 < cLine; omega) kis e5 (fun h' hd' hsb => ?_) (by rw [hly]; exact le_line (Nat.le_trans (Nat.le_of_lt hl) (by decide)))
  have hp := paired_set (k := k) (b := b) (d := dv) rv e4
  have ob : ∃ o, h'.get? d = some o := by obtain ⟨o, _, _, ho, _⟩ := hd'; exact ⟨o, ho⟩
  have J := I.write (t' := s.toks + (nestedKind X.prog X.w).draws k) (h' := h') (x := d) (e := d) (o := dN X.prog X.w d ((eset es k b v dv).map En.o)) (by rw [e3]; exact True.intro) (.inl rfl) (fun b o hb e => (hsb.2 b hb).trans e) ob (dN_ok hsys hp hd')
  have tu : Tups H (upd H d (dN X.prog X.w d ((eset es k b v dv).map En.o))) := tups_ext e3
  have tb : ∀ T, LamX.Tabs T H → LamX.Tabs T (upd H d (dN X.prog X.w d ((eset es k b v dv).map En.o))) := fun T t z hz => by
    obtain ⟨ps, h1, h2, h3⟩ := t z hz
    have n1 : z.1 ≠ d := fun e => by
      rw [e, e3] at h1
      exact dN_tbl _ (Option.some.inj h1)
    refine ⟨ps, by rw [upd_ne n1]; exact h1, h2, fun pos cv hc => ?_⟩
    obtain ⟨c, e1', e2'⟩ := h3 pos cv hc
    have n2 : c ≠ d := fun e => by
      rw [e] at e2'
      obtain ⟨⟨oc, vs, t', hoc, hdc, _⟩, _⟩ := (show ObjOk X.prog X.w H s.heap d (LamX.CodeO d z.2) from I.hok d _ e2')
      obtain ⟨o, es', ep, ho, _, hd', _⟩ := e5
      rw [hoc] at ho
      cases ho
      rw [hdc] at hd'
      cases hd'
    exact ⟨c, e1', by rw [upd_ne n2]; exact e2'⟩
  refine ⟨_, J, q _ dN_tbl ⟨_, upd_same, ?_, ?_, ?_, ?_⟩ tu tb⟩
  · rw [eset_kv, e1]
  · exact fun x hx => (eset_ok e2 hk hdep hv x hx).mono tu
  · obtain ⟨_, _, _, _, hn, _⟩ := hd
    exact dset_nodup hn
  · have := dset_len kvs k dv
    omega
end
end CR
/-! CrS -/
set_option maxHeartbeats 4000000
namespace CR
open PySem PySem.Spec L2
open PyProof.Rows hiding St
/-! ### d.items(), sorted by a key lambda -/
mutual
theorem Is.readsK {P : Program} {w : World} {H : Hp} {h : Heap} (ok : HOk P w H h) : ∀ (k : NK) (v : V) (u : Value), Is H v k.data → RelV v u → Reads h u k.data []
  | .none, v, u, i, r => by
    have i' : Is H v .none := i
    cases i'
    cases r
    exact .none
  | .num n, v, u, i, r => by
    have i' : Is H v (.int n) := i
    cases i'
    obtain ⟨t, rfl⟩ := r
    exact .int n t
  | .text x, v, u, i, r => by
    have i' : Is H v (.str x) := i
    cases i'
    obtain ⟨t, rfl⟩ := r
    exact .str x t
  | .tup ks, v, u, i, r => by
    have i' : Is H v (.tuple (NestedKey.datas ks)) := i
    obtain ⟨a, xs, rfl, ha, hi⟩ := i'.tupE
    cases r
    obtain ⟨_, its, rv, ot, hot, hct, nt, hdt⟩ := (show ObjOk P w H h a (.tup xs) from ok a _ ha)
    exact .tuple hot hct hdt (by simpa using IsAll.readsK ok ks xs its hi rv)
theorem IsAll.readsK {P : Program} {w : World} {H : Hp} {h : Heap} (ok : HOk P w H h) : ∀ (ks : List NK) (vs : List V) (us : List Value), IsAll H vs (NestedKey.datas ks) → Vals vs us → ReadsAll h us (NestedKey.datas ks) []
  | [], vs, us, i, r => by
    have i' : IsAll H vs [] := i
    cases i'
    cases r
    exact .nil
  | k :: ks, vs, us, i, r => by
    have i' : IsAll H vs (k.data :: NestedKey.datas ks) := i
    cases i' with
    | cons h1 h2 =>
      cases r with
      | cons r1 r2 => exact ReadsAll.cons (as := []) (bs := []) (Is.readsK ok k _ _ h1 r1) (IsAll.readsK ok ks _ _ h2 r2)
end
section
variable {prog : Program} {w : World} {A : Around} {E : Value → Shared → Prop} {s : Shared}
/-- lambda pair: pair[0], called -/
theorem lam_first {f Tp b c' : Addr} {u ctv pm : Value} {q : Str} {params : Arguments} {scope : Scope} {clos : List (Str × Addr)} {p1 p2 p3 : Pos} {j : Nat} {Q : Value → Shared → Prop} (hroom : A.depth < recursionLimit) (lim : s.heap.NoLimit)
    (hf : s.heap.get? f = some (PySem.W.kla_obj "<lambda>" q params (.Subscript (.Name "pair" p1) (.Constant (.int 0) j p2) p3) scope clos pm c' ctv)) (hcd : s.heap.CodeRec (.ref c') q)
    (hbind : bindArgs (PySem.W.kla_fn "<lambda>" q params (.Subscript (.Name "pair" p1) (.Constant (.int 0) j p2) p3) scope clos pm (.ref c') ctv) ⟨[.ref Tp], []⟩ = pure [(("pair" : Str), Value.ref Tp)])
    (hk : scope.kind = .function) (hl : scope.names.lookup ("pair" : Str) = some .local) (hco : scope.isCoroutine = false) (hgen : scope.isGenerator = false) (hcell : ∀ y ∈ scope.names, y.2 ≠ .cell)
    (hT : s.heap.IsTuple Tp #[.ref b, u]) (h : ∀ h' tk, (∀ b o, s.heap.get? b = some o → h'.get? b = some o) → Q (.ref b) { s with heap := h', toks := tk }) : wpAny (model prog w) A (call (.ref f) [.ref Tp]) Q E s := by
  refine wpAny_call (PySem.W.kla_callFunE hroom hf rfl hco hgen rfl hcd ?_)
  rw [hbind]
  refine wpAny_pure (wpAny_newFunctionEnv hcell (fun y hy => ?_) (fun h₁ hns hsb => ⟨lim.fresh _ hsb, ?_⟩) hk)
  · rw [List.mem_singleton.mp hy]
    exact hl
  have kp : ∀ b o, s.heap.get? b = some o → h₁.get? b = some o := fun b o e => hsb.extBut b o (Nat.ne_of_lt (Heap.lt_size e)) (Heap.get?_push_of_some _ e)
  refine PySem.W.kla_codeExpr (wpAny_Subscript_Constant_late (wpAny_Name (wpAny_loadName_local (m := fun x => [(("pair" : Str), Value.ref Tp)].reverse.lookup x) (v := .ref Tp) hk hl hns (by rfl) ?_) (by decide)))
  refine wpAny_Constant_int ?_
  have hT1 : h₁.IsTuple Tp #[.ref b, u] := hT.at fun o e => kp _ o e
  refine ⟨"tuple", _, PySem.F.slot_tuple_getitem.lookup, hT1.typeIs, PyProof.Rows.getItem_tuple (j := 0) hT1 (by decide) (by decide) rfl rfl ?_⟩
  exact h h₁ _ kp
end
section
variable {X : Cx} {T : List (Addr × Str)}
def rItemsN (P : Program) (w : World) : V → List V → Hp → VK → Prop := fun x xs H Q => ∃ (a : Addr) (kvs : List (NK × D)), x = .ref a ∧ xs = [] ∧ IsN P w H a kvs ∧ ∀ p, H p = none → Q (.ref p) (upd H p (L2.DX.itemsO p a))
theorem isN_raw {P : Program} {w : World} {H : Hp} {h : Heap} {d : Addr} {kvs : List (NK × D)} (ok : HOk P w H h) (i : IsN P w H d kvs) : ∃ (zs : List (En × Value)) (es : Array DictEntry) (ep : Nat), (d == sysModules) = false ∧ DT.Raw h d es ep ∧ kvs = zs.map (fun z => z.1.kv) ∧ (∀ z ∈ zs, EnOk H z.1 ∧ RelV z.1.2.2.1 z.2) ∧ es.size = zs.length ∧ ∀ (j : Nat) (z : En × Value), zs[j]? = some z → ∃ e, es[j]? = some e ∧ e.key = .ref z.1.2.1 ∧ e.val = z.2 := by
  obtain ⟨hs, xs, ys, e1, e2, e3, e4, o, es, ep, ho, hx, hd, he, _⟩ := dN_raw ok i
  have hl : xs.length = ys.length := by
    have := Paired.length e4
    rwa [List.length_map] at this
  have hez : es.size = ys.length := size_of_entries he
  refine ⟨xs.zip (ys.map (·.2.2)), es, ep, hs, ⟨o, ho, hx, hd⟩, ?_, ?_, ?_, ?_⟩
  · rw [e1]
    rw [show (fun z : En × Value => z.1.kv) = En.kv ∘ Prod.fst from rfl, ← List.map_map, List.map_fst_zip (by rw [List.length_map, hl]; exact Nat.le_refl _)]
  · intro z hz
    obtain ⟨j, hj⟩ := List.mem_iff_getElem?.mp hz
    obtain ⟨h1, h2⟩ := List.getElem?_zip_eq_some.mp hj
    refine ⟨e2 _ (List.mem_of_getElem? h1), ?_⟩
    rw [List.getElem?_map] at h2
    obtain ⟨y, hy, e⟩ := Option.map_eq_some_iff.mp h2
    obtain ⟨x, hx', r⟩ := L2.DX.pget e4 hy
    rw [List.getElem?_map, h1] at hx'
    cases hx'
    rw [← e]
    exact r.2.2
  · rw [List.length_zip, List.length_map, hez, hl, Nat.min_self]
  · intro j z hj
    obtain ⟨h1, h2⟩ := List.getElem?_zip_eq_some.mp hj
    rw [List.getElem?_map] at h2
    obtain ⟨y, hy, e⟩ := Option.map_eq_some_iff.mp h2
    obtain ⟨x, hx', r⟩ := L2.DX.pget e4 hy
    rw [List.getElem?_map, h1] at hx'
    cases hx'
    have ee := entry_at he j
    rw [hy] at ee
    refine ⟨_, ee, ?_, e⟩
    show Value.ref y.2.1 = _
    rw [← show z.1.2.1 = y.2.1 from r.2.1]
theorem mt_itemsN : MtR X "dict.items" (rItemsN X.prog X.w) := by
  intro pins s σ H x xs v us Q I rx rxs h
  obtain ⟨a, kvs, rfl, rfl, ha, q⟩ := h
  cases rx
  cases rxs
  obtain ⟨zs, es, ep, hd, hr, _⟩ := isN_raw I.hok ha
  refine DT.callItems (es := es) (ep := ep) hd hr ?_
  have hf : H s.heap.objs.size = none := I.hok.fresh (Nat.le_refl _)
  exact ⟨.ref s.heap.objs.size, upd H s.heap.objs.size (L2.DX.itemsO s.heap.objs.size a), I.laid (t' := s.toks) (fun b u e => Heap.get?_push_of_some _ e) (Nat.le_refl _) (L2.DX.itemsO_ok (Heap.get?_push_size _ rfl)), rfl, q _ hf⟩
/-- the pairs, sorted by their keys -/
def srt (kvs : List (NK × D)) : List (NK × D) := kvs.mergeSort (PySem.W.dataLe false fun p => p.1.data)
def pairD (p : NK × D) : D := .tuple [p.1.data, p.2]
def tSortN (P : Program) (w : World) (T : List (Addr × Str)) (te : TE) : TE := fun σ H Q => tCons te tNil σ H fun vs H1 => ∃ p d kvs, vs = [.ref p] ∧ H1 p = some (L2.DX.itemsO p d) ∧ IsN P w H1 d kvs ∧ PySem.W.AllAlike (kvs.map fun p => p.1.data) ∧ (∀ p ∈ kvs, ∃ a b, p.1 = .tup (a :: b)) ∧ LamX.Tabs T H1 ∧
  ∀ l H2 xs, Ext T H1 H2 → H2 l = some (.lst xs) → IsAll H2 xs ((srt kvs).map pairD) → Q (.ref l) H2
mutual
theorem nk_depth : ∀ k : NK, k.data.depth ≤ k.depth
  | .none => Nat.le_refl _
  | .num _ => Nat.le_refl _
  | .text _ => Nat.le_refl _
  | .tup ks => by
    have := nks_depth ks
    show (PyData.tuple (NestedKey.datas ks)).depth ≤ NestedKey.depthAll ks + 1
    unfold PyData.depth
    omega
theorem nks_depth : ∀ ks : List NK, PyData.depthAll (NestedKey.datas ks) ≤ NestedKey.depthAll ks
  | [] => Nat.le_refl _
  | k :: ks => by
    have h1 := nk_depth k
    have h2 := nks_depth ks
    show PyData.depthAll (k.data :: NestedKey.datas ks) ≤ max k.depth (NestedKey.depthAll ks)
    unfold PyData.depthAll
    omega
end
theorem isAll_map {α : Type} {H : Hp} {f : α → V} {g : α → D} : ∀ {l : List α}, (∀ z ∈ l, Is H (f z) (g z)) → IsAll H (l.map f) (l.map g)
  | [], _ => .nil
  | z :: l, h => .cons (h z List.mem_cons_self) (isAll_map fun y hy => h y (List.mem_cons_of_mem _ hy))
theorem vals_mapsC {α : Type} (f : α → V) (g : α → Value) : ∀ (l : List α), (∀ x ∈ l, RelV (f x) (g x)) → Vals (l.map f) (l.map g)
  | [], _ => .nil
  | x :: l, h => .cons (h x List.mem_cons_self) (vals_mapsC f g l fun y hy => h y (List.mem_cons_of_mem _ hy))
theorem each_eq {α : Type} {f : α → Value} : ∀ {out : List Value} {bs : List α}, PySem.W.EachIs (fun v z => v = f z) out bs → out = bs.map f
  | _, _, .nil => rfl
  | _, _, .cons h t => by rw [h, each_eq t]; rfl
theorem pe_sortN {e : Expr} {te : TE} {params : Arguments} {scope : Scope} {lpos kp p pos p1 p2 p3 : Pos} {j : Nat} {c Pt : Addr} (hc : X.calm = true) (hu : X.A.units + 64 < cLine) (hdp : X.A.depth < recursionLimit) (hm : X.mg "sorted" = none) (he : PE X e te)
    (TB : LamX.TabB X.base X.mg c Pt) (hcode : X.env.code = .ref c) (hmT : (Pt, X.env.qual ++ "<lambda>") ∈ T) (hu' : ∀ p ∈ T, p.1 = Pt → p.2 = X.env.qual ++ "<lambda>") (hdef : defaultsOf params X.env = ([], [])) (hfree : ∀ y ∈ scope.names, y.2 = .free → ∃ c, X.env.cells.lookup y.1 = some c)
    (hbind : ∀ (q : Str) (cl : List (Str × Addr)) (pm cv ctv : Value) (Tp : Addr), bindArgs (PySem.W.kla_fn "<lambda>" q params (.Subscript (.Name "pair" p1) (.Constant (.int 0) j p2) p3) scope cl pm cv ctv) ⟨[.ref Tp], []⟩ = pure [(("pair" : Str), Value.ref Tp)])
    (hk : scope.kind = .function) (hl : scope.names.lookup ("pair" : Str) = some .local) (hco : scope.isCoroutine = false) (hgen : scope.isGenerator = false) (hcell : ∀ y ∈ scope.names, y.2 ≠ .cell) (hg : Gl X "sorted" := by rfl)
    (hs : starEach (e :: []) X.env = (false, eval e X.env) :: starEach [] X.env := by rfl)
    (hbt : backTo pos (starEach (e :: []) X.env) = (false, eval e X.env) :: backTo pos (starEach [] X.env) := by rfl) (hpl : (backTo pos (starEach (e :: []) X.env)).any (·.1) = false := by rfl)
    (hall : (backToKw pos (keywordEach [⟨some "key", .Lambda params (.Subscript (.Name "pair" p1) (.Constant (.int 0) j p2) p3) scope lpos, kp⟩] X.env)).all (·.1.isSome) = true := by rfl)
    (hnone : (backToKw pos (keywordEach [⟨some "key", .Lambda params (.Subscript (.Name "pair" p1) (.Constant (.int 0) j p2) p3) scope lpos, kp⟩] X.env)).any (·.1.isNone) = false := by rfl)
    (hks : (backToKw pos (keywordEach [⟨some "key", .Lambda params (.Subscript (.Name "pair" p1) (.Constant (.int 0) j p2) p3) scope lpos, kp⟩] X.env)).filterMap (·.1) = [Str.ofString "key"] := by rfl) :
    PE X (.Call (.Name "sorted" p) [e] [⟨some "key", .Lambda params (.Subscript (.Name "pair" p1) (.Constant (.int 0) j p2) p3) scope lpos, kp⟩] pos) (tSortN X.prog X.w T te) := by
  refine ⟨fun pins s σ H Q I h => ?_⟩
  refine wpAny_Call_Name_kw (ld_blt I hg hm (show bootBuiltins "sorted" = some (.builtin "sorted") by decide +kernel) ?_ (by decide) (by decide))
  refine PyProof.Rows.callWith_kw (thn ((pa_cons he pa_nil hs).run pos pins s σ H _ I h) fun us s1 ⟨vs, H1, I1, r1, pv, d, kvs, ev, hpv, hN, hal, hne, hT, q⟩ => ?_) hbt hpl hall hnone
  subst ev
  show wpAny _ _ (evalAll ((do let v ← eval (.Lambda params (.Subscript (.Name "pair" p1) (.Constant (.int 0) j p2) p3) scope lpos) X.env; standAt pos; pure v) :: [])) _ _ s1
  refine wpAny_evalAll_cons (wpAny_bind (LamX.lam_make2 I1 TB hcode hmT hu' hT hdef hfree fun f c' pm ctv H2 s2 I2 eN T2 hf hfn hfr hco' => wpAny_bind (wpAny_standAt (wpAny_pure (wpAny_evalAll_nil ?_)))))
  rw [hks]
  obtain ⟨u, rfl, rx⟩ := vals1 r1
  cases rx
  show wpAny _ _ (call (.builtin "sorted") [.ref pv] [(Str.ofString "key", .ref f)]) _ _ _
  have e12 : Ext T H1 H2 := ⟨eN, fun _ => T2⟩
  have hpv2 : H2 pv = some (L2.DX.itemsO pv d) := eN pv _ hpv (fun ps z => by
    have z' : HO.ext _ = HO.tbl ps := z
    cases z')
  have hN2 : IsN X.prog X.w H2 d kvs := by
    obtain ⟨xs, h1, _⟩ := id hN
    exact hN.mono e12.tups (by rw [h1]; exact eN d _ h1 (fun ps z => dN_tbl ps z))
  have view : s2.heap.IsItemsView pv d := (show ObjOk X.prog X.w H2 s2.heap pv (L2.DX.itemsO pv d) from I2.hok pv _ hpv2).1
  obtain ⟨zs, es, ep, hsys, hraw, ek, hz, hsz, hent⟩ := isN_raw I2.hok hN2
  have hh : X.A.handled = none := I2.ok.hd hc
  have hlen : kvs.length ≤ 1000 := by obtain ⟨_, _, _, _, _, h⟩ := hN; exact h
  have hlz : zs.length = kvs.length := by rw [ek, List.length_map]
  have hes : es.size ≤ sizeLine := by rw [hsz, hlz]; exact le_line (Nat.le_trans hlen (by decide))
  refine PyProof.Rows.call_function_entry_kw PyProof.Rows.kind_sorted PyProof.Rows.plain_sorted PyProof.Rows.entry_sorted (PyProof.Rows.ksk_s1 _ _) ?_
  unfold Builtin.«sorted»
  refine wpAny_bind (m := checkCount "sorted" 1 1 _) (wpAny_pure ?_)
  refine wpAny_bind (DT.collectI (A := X.A.in1) (es := es) (ep := ep) hh view hraw hes fun h' tk as hkp hlt hla hG => ?_)
  refine wpAny_bind (wpAny_newList ?_ (by rw [List.length_map, hla]; exact hes))
  have laz : as.length = zs.length := hla.trans hsz
  have nd : as.Nodup := List.Pairwise.imp (fun h => Nat.ne_of_lt h) hG.rise
  have hob : (h'.push { cls := .type "list", data := .seq (as.map Value.ref).toArray }).get? h'.objs.size = some (seqObj "list" (as.map Value.ref).toArray 0) := Heap.get?_push_size _ rfl
  have ne0 : ∀ b o, h'.get? b = some o → b ≠ h'.objs.size := fun b o e => Nat.ne_of_lt (Heap.lt_size e)
  have ka : ∀ b o, h'.get? b = some o → (h'.push { cls := .type "list", data := .seq (as.map Value.ref).toArray }).get? b = some o := fun b o e => Heap.get?_push_of_some _ e
  -- the entries with their pairs' places
  have inz : ∀ z : Addr × En × Value, z ∈ as.zip zs → ∃ i, as[i]? = some z.1 ∧ zs[i]? = some z.2 := fun z hz' => by
    obtain ⟨i, hi⟩ := List.mem_iff_getElem?.mp hz'
    exact ⟨i, List.getElem?_zip_eq_some.mp hi⟩
  have pr : ∀ z : Addr × En × Value, z ∈ as.zip zs → h'.get? z.1 = some { cls := .type "tuple", data := .seq #[.ref z.2.1.2.1, z.2.2] } ∧ s2.heap.objs.size ≤ z.1 ∧ EnOk H2 z.2.1 ∧ RelV z.2.1.2.2.1 z.2.2 := fun z hz' => by
    obtain ⟨i, h1, h2⟩ := inz z hz'
    obtain ⟨en, he1, he2⟩ := hG.pairs i z.1 h1
    obtain ⟨en', h3, h4, h5⟩ := hent i z.2 h2
    rw [he1] at h3
    cases h3
    rw [h4, h5] at he2
    have := hz z.2 (List.mem_of_getElem? h2)
    exact ⟨he2, Nat.le_of_lt (hG.above _ (List.mem_of_getElem? h1)), this.1, this.2⟩
  have ekz : (as.zip zs).map (fun z => z.2.1.kv) = kvs := by
    rw [show (fun z : Addr × En × Value => z.2.1.kv) = (fun z : En × Value => z.1.kv) ∘ Prod.snd from rfl, ← List.map_map, List.map_snd_zip (by rw [laz]; exact Nat.le_refl _), ek]
  have ekd : (as.zip zs).map (fun z => z.2.1.1.data) = kvs.map fun p => p.1.data := by
    rw [← ekz, List.map_map]
    rfl
  have each : PySem.W.EachIs (fun (v : Value) (z : Addr × En × Value) => v = .ref z.1) (as.map Value.ref) (as.zip zs) := by
    refine PySem.W.EachIs.of_zip (by rw [List.length_map, List.length_zip, laz, Nat.min_self]) fun p hp => ?_
    obtain ⟨i, hi⟩ := List.mem_iff_getElem?.mp hp
    obtain ⟨h1, h2⟩ := List.getElem?_zip_eq_some.mp hi
    obtain ⟨h3, h4⟩ := List.getElem?_zip_eq_some.mp h2
    rw [List.getElem?_map, h3] at h1
    exact (Option.some.inj h1).symm
  have kS : ∀ {h4 : Heap}, PySem.W.KeepsBut h'.objs.size (h'.push { cls := .type "list", data := .seq (as.map Value.ref).toArray }) h4 → ∀ b o, s2.heap.get? b = some o → h4.get? b = some o := fun {h4} kb b o e => kb b o (ne0 _ _ (hkp b o e)) (ka _ _ (hkp b o e))
  have crec : s2.heap.CodeRec (.ref c') (X.env.qual ++ "<lambda>") := by
    obtain ⟨⟨oc, vs, t, hoc, hdc, hvc⟩, _⟩ := (show ObjOk X.prog X.w H2 s2.heap c' (LamX.CodeO c' (X.env.qual ++ "<lambda>")) from I2.hok c' _ hco')
    exact ⟨c', oc, vs, t, rfl, hoc, hdc, hvc⟩
  have lim : s2.heap.NoLimit := I2.nolimit
  have hg' : wpAny (model X.prog X.w) X.A.in1 (call (.builtin "list.sort") [.ref h'.objs.size] [(Str.ofString "key", .ref f)]) (fun _ s' => EP X pins σ Q (.ref h'.objs.size) s') X.xe { s2 with heap := h'.push { cls := .type "list", data := .seq (as.map Value.ref).toArray }, toks := tk } := by
    refine PySem.W.list_sort_key_data (β := Addr × En × Value) (R := fun v z => v = .ref z.1) (vs := as.map Value.ref) (bs := as.zip zs) (b := false) (fun z => z.2.1.1.data) hob each ?_ ?_ ?_ ?_ (PyProof.Rows.ksk_l1 _ _) (PyProof.Rows.ksk_t1 f _) ?_ ?_
    · rw [ekd]; exact hal
    · refine .inl fun d hd => ?_
      rw [ekd] at hd
      obtain ⟨p', hp', rfl⟩ := List.mem_map.mp hd
      obtain ⟨a, b, e⟩ := hne p' hp'
      rw [e]
      exact ⟨a.data, NestedKey.datas b, rfl⟩
    · rw [List.length_zip, laz, Nat.min_self, hlz]
      exact le_line (Nat.le_trans hlen (by decide))
    · intro z hz'
      have := (pr z hz').2.2.1.dep
      have := nk_depth z.2.1.1
      show X.A.units + 1 + 1 + _ < cLine
      omega
    · intro v z ev hz' h4 tk4 kb
      subst ev
      obtain ⟨h1, h2, h3, h5⟩ := pr z hz'
      refine lam_first (s := { s2 with heap := h4, toks := tk4 }) (q := X.env.qual ++ "<lambda>") (scope := scope) hdp (lim.keeps (kS kb)) (kS kb _ _ hf) (crec.keeps (kS kb)) (hbind _ _ _ _ _ _) hk hl hco hgen hcell (show h4.IsTuple z.1 #[.ref z.2.1.2.1, z.2.2] from ⟨_, kb _ _ (ne0 _ _ h1) (ka _ _ h1), rfl, _, rfl⟩) fun h6 tk6 k6 => ?_
      exact ⟨h6, tk6, rfl, k6, PyProof.Rows.Reads.keeps (fun b o e => k6 b o (kS kb b o e)) (Is.readsK I2.hok z.2.1.1 (.ref z.2.1.2.1) (.ref z.2.1.2.1) h3.key rfl)⟩
    · intro out cc h5 tk5 kb ho5 hlen5 each5
      have eo := each_eq (f := fun z : Addr × En × Value => Value.ref z.1) each5
      have bsmem : ∀ z, z ∈ (as.zip zs).mergeSort (PySem.W.dataLe false fun z => z.2.1.1.data) → z ∈ as.zip zs := fun z hz' => List.mem_mergeSort.mp hz'
      have emap : ((as.zip zs).mergeSort (PySem.W.dataLe false fun z => z.2.1.1.data)).map (fun z => z.2.1.kv) = srt kvs := by
        have em := List.map_mergeSort (r := PySem.W.dataLe false fun z : Addr × En × Value => z.2.1.1.data) (s := PySem.W.dataLe false fun p : NK × D => p.1.data) (f := fun z : Addr × En × Value => z.2.1.kv) (l := as.zip zs) (fun a _ b _ => rfl)
        rw [ekz] at em
        exact em
      generalize hbs : (as.zip zs).mergeSort (PySem.W.dataLe false fun z => z.2.1.1.data) = bs' at eo bsmem emap
      have hle : s2.heap.objs.size ≤ h'.objs.size := Nat.le_of_lt hlt
      have I3 : Inv X pins σ H2 { s2 with heap := h5, toks := tk5 } := I2.kept (t' := tk5) (kS kb)
      have hn0 : H2 h'.objs.size = none := I2.hok.fresh hle
      have hlo : out.length = bs'.length := by rw [eo, List.length_map]
      have hlb : bs'.length ≤ sizeLine := by
        rw [← hbs, List.length_mergeSort, List.length_zip, laz, Nat.min_self, hlz]
        exact le_line (Nat.le_trans hlen (by decide))
      have rv : Vals (bs'.map fun z => V.ref z.1) out := by
        rw [eo]
        exact vals_mapsC (fun z : Addr × En × Value => V.ref z.1) (fun z => Value.ref z.1) bs' fun _ _ => rfl
      have I4 : Inv X pins σ (upd H2 h'.objs.size (.lst (bs'.map fun z => V.ref z.1))) { s2 with heap := h5, toks := tk5 } :=
        I3.take (h' := h5) (t' := tk5) (fun b ob _ e => e) (I2.fpOk hle hn0) ⟨by rw [List.length_map]; exact hlb, out, cc, rv, ho5⟩
      obtain ⟨H5, I5, g, qt⟩ := L2.DX.takeT (P := fun b vs => ∀ z ∈ as.zip zs, z.1 = b → vs = [V.ref z.2.1.2.1, z.2.1.2.2.1]) I2 as _ I4 nd fun b hb => by
        obtain ⟨i, hi⟩ := List.mem_iff_getElem?.mp hb
        obtain ⟨z2, hz2⟩ : ∃ z2, zs[i]? = some z2 := ⟨_, List.getElem?_eq_getElem (by rw [← laz]; exact (List.getElem?_eq_some_iff.mp hi).1)⟩
        have hm : (b, z2) ∈ as.zip zs := List.mem_of_getElem? (i := i) (List.getElem?_zip_eq_some.mpr ⟨hi, hz2⟩)
        obtain ⟨h1, h2, h3, h4⟩ := pr _ hm
        refine ⟨h2, ?_, [V.ref z2.1.2.1, z2.1.2.2.1], fun z hz' e => ?_, fun H3 => ⟨le_line (show 2 ≤ 1000000 by decide), [Value.ref z2.1.2.1, z2.2], .cons rfl (.cons h4 .nil), ⟨_, kb _ _ (ne0 _ _ h1) (ka _ _ h1), rfl, 0, rfl⟩⟩⟩
        · rw [upd_ne (ne0 _ _ h1)]
          exact I2.hok.fresh h2
        · obtain ⟨i', h5, h6⟩ := inz z hz'
          rw [e] at h5
          have eij : i' = i := (List.getElem?_inj (List.getElem?_eq_some_iff.mp h5).1 nd).mp (h5.trans hi.symm)
          subst eij
          rw [hz2] at h6
          cases h6
          rfl
      have gr : ∀ b o, H2 b = some o → H5 b = some o := fun b o e => g b o (by rw [upd_ne (ne_of_none e hn0)]; exact e)
      have e25 : Ext T H2 H5 := ⟨LamX.ExtN.of gr, fun t => t.ext gr⟩
      refine ⟨.ref h'.objs.size, H5, I5, rfl, q _ H5 _ (e12.trans e25) (g _ _ upd_same) ?_⟩
      rw [← emap, List.map_map]
      refine isAll_map fun z hz' => ?_
      have hzm := bsmem z hz'
      obtain ⟨h1, h2, h3, h4⟩ := pr z hzm
      obtain ⟨i, hi, _⟩ := inz z hzm
      obtain ⟨vs, hvs, hH⟩ := qt z.1 (List.mem_of_getElem? hi)
      rw [hvs z hzm rfl] at hH
      exact .tup hH (.cons (e25.is h3.key) (.cons (e25.is h3.val) .nil))
  refine wpAny_bind (wpAny_holding (wpAny_mono hg' (fun _ s' x => ?_) fun _ _ e => e))
  exact wpAny_pure ⟨_, rfl, x⟩
end
end CR
/-! CrQ -/
set_option maxHeartbeats 4000000
namespace CR
open PySem PySem.Spec L2
open PyProof.Rows hiding St
section
variable {X : Cx} {T : List (Addr × Str)}
/-! ### methods of such dicts -/
def isDN (H : Hp) (x : V) : Prop := ∃ d P w xs, x = .ref d ∧ H d = some (dN P w d xs)
theorem isDN_of {P : Program} {w : World} {H : Hp} {d : Addr} {kvs : List (NK × D)} (i : IsN P w H d kvs) : isDN H (.ref d) := by
  obtain ⟨xs, h1, _⟩ := i
  exact ⟨d, P, w, _, rfl, h1⟩
theorem isDN_is {pins : List (Addr × Obj)} {σ : St} {H : Hp} {s : Shared} {x : V} {v : Value} (I : Inv X pins σ H s) (r : RelV x v) (ty : isDN H x) : s.TypeIs v "dict" ∧ ∀ a, v = .ref a → ∃ ob, s.heap.get? a = some ob ∧ ob.dict = none := by
  obtain ⟨d, P, w, xs, rfl, hd⟩ := ty
  cases r
  obtain ⟨⟨_, ys, _, o, es, ep, ho, hx, _⟩, _⟩ := (show ObjOk X.prog X.w H s.heap d (dN P w d xs) from I.hok d _ hd)
  exact ⟨⟨o, ho, hx.1⟩, fun a e => by cases e; exact ⟨o, ho, hx.2.1⟩⟩
variable {o e : Expr} {es : List Expr} {to : TE} {t : TA} {name : Str} {apos cpos : Pos} {id : String} {r : V → List V → Hp → VK → Prop}
def tBN0 (r : V → List V → Hp → VK → Prop) (to : TE) : TE := fun σ H Q => to σ H fun x H1 => isDN H1 x ∧ r x [] H1 Q
def tBN (r : V → List V → Hp → VK → Prop) (to : TE) (t : TA) : TE := fun σ H Q => to σ H fun x H1 => isDN H1 x ∧ t σ H1 fun xs H2 => r x xs H2 Q
theorem pe_bn0 (slot : Slot "dict" name id) (hty : typeOf (.builtin id) = pure (.type "method_descriptor")) (hm : MtR X id r) (ho : PE X o to)
    (hbase : attributeBase o name X.env (eval o X.env) = eval o X.env := by rfl) (hline : (apos.endLine == cpos.line) = true := by rfl) : PE X (.Call (.Attribute o name apos) [] [] cpos) (tBN0 r to) := by
  refine ⟨fun pins s σ H Q I h => ?_⟩
  refine wpAny_Call_method0_late hbase hline (thn (ho.run pins s σ H _ I h) fun v s1 ⟨x, H1, I1, r1, ty, q1⟩ => ?_)
  obtain ⟨h1, h2⟩ := isDN_is I1 r1 ty
  exact ⟨"dict", id, PySem.F.plainAttrs_dict, slot, hty, h1, h2, Calls.callWith_builtin rfl (PySem.evalArgs_none (hm pins s1 σ H1 x [] v [] Q I1 r1 .nil q1))⟩
theorem pe_bn (slot : Slot "dict" name id) (hty : typeOf (.builtin id) = pure (.type "method_descriptor")) (hm : MtR X id r) (ho : PE X o to) (ha : PA X (e :: es) t)
    (hbase : attributeBase o name X.env (eval o X.env) = eval o X.env := by rfl)
    (hfew : ((backTo cpos (starEach (e :: es) X.env)).all (fun x => !x.1) && (backToKw cpos (keywordEach [] X.env)).all (fun x => x.1.isSome)
      && decide ((e :: es).length + ([] : List Keyword).length + (if ([] : List Keyword).isEmpty then 0 else 1) < 30)) = true := by rfl)
    (hline : (apos.endLine == cpos.line) = true := by rfl) (hs : starEach (e :: es) X.env = (false, eval e X.env) :: starEach es X.env := by rfl) (hplain : (backTo cpos (starEach es X.env)).any (·.1) = false := by rfl) :
    PE X (.Call (.Attribute o name apos) (e :: es) [] cpos) (tBN r to t) := by
  refine ⟨fun pins s σ H Q I h => ?_⟩
  refine wpAny_Call_method_late hbase hfew hline rfl (thn (ho.run pins s σ H _ I h) fun v s1 ⟨x, H1, I1, r1, ty, q1⟩ => ?_)
  obtain ⟨h1, h2⟩ := isDN_is I1 r1 ty
  refine ⟨"dict", id, PySem.F.plainAttrs_dict, slot, hty, h1, h2, ?_⟩
  have hA := ha.run cpos pins s1 σ H1 _ I1 q1
  rw [hs] at hA ⊢
  refine Calls.callWith_builtin (by show (false || (backTo cpos (starEach es X.env)).any (·.1)) = false; rw [hplain] <;> rfl) (Calls.evalArgs_plain ?_)
  exact thn hA fun us s2 ⟨vs, H2, I2, r2, q2⟩ => hm pins s2 σ H2 x vs v us Q I2 r1 r2 q2
/-- dict(e).get(a, b) -/
def gGetN : List D → Option D
  | [.list ps, t, y] => (kvOf ps).bind fun kvs => (nkOf t).bind fun k => if kvs.length ≤ 1000 ∧ isTupK k = true ∧ k.depth ≤ 8 then some ((dget (dall [] kvs) k).getD y) else none
  | _ => none
def eGetN (f g h : DEnv → Option D) : DEnv → Option D := fun ρ => (f ρ).bind fun x => (g ρ).bind fun y => (h ρ).bind fun z => gGetN [x, y, z]
theorem de_getN {f g h : DEnv → Option D} {a b e : Expr} {p1 p2 p3 p4 : Pos} (hc : X.calm = true) (hu : X.A.units + 64 < cLine) (hm : X.mg "dict" = none) (he : PE X e (tD T f)) (ha : PE X a (tD T g)) (hb : PE X b (tD T h)) (hg : Gl X "dict" := by rfl)
    (hs1 : starEach (e :: []) X.env = (false, eval e X.env) :: starEach [] X.env := by rfl) (hpl1 : (backTo p2 (starEach [] X.env)).any (·.1) = false := by rfl)
    (hsb : starEach (b :: []) X.env = (false, eval b X.env) :: starEach [] X.env := by rfl)
    (hbase : attributeBase (.Call (.Name "dict" p1) [e] [] p2) "get" X.env (eval (.Call (.Name "dict" p1) [e] [] p2) X.env) = eval (.Call (.Name "dict" p1) [e] [] p2) X.env := by rfl)
    (hfew : ((backTo p4 (starEach (a :: [b]) X.env)).all (fun x => !x.1) && (backToKw p4 (keywordEach [] X.env)).all (fun x => x.1.isSome)
      && decide ((a :: [b]).length + ([] : List Keyword).length + (if ([] : List Keyword).isEmpty then 0 else 1) < 30)) = true := by rfl)
    (hline : (p3.endLine == p4.line) = true := by rfl) (hs : starEach (a :: [b]) X.env = (false, eval a X.env) :: starEach [b] X.env := by rfl) (hplain : (backTo p4 (starEach [b] X.env)).any (·.1) = false := by rfl) :
    PE X (.Call (.Attribute (.Call (.Name "dict" p1) [e] [] p2) "get" p3) [a, b] [] p4) (tD T (eGetN f g h)) := by
  refine pe_weak (pe_bn PySem.F.slot_dict_get PySem.F.type_dict_get (mt_getN hu) (pe_callTy (cr_dictN hc hu) hg hm (by decide +kernel) (pa_cons he pa_nil hs1) (by decide) (by decide) hs1 hpl1) (pa_cons ha (pa_cons hb pa_nil hsb) hs) hbase hfew hline hs hplain) fun σ H Q ⟨ρ, d, t, en, z, q⟩ => ?_
  obtain ⟨x, hx, z⟩ := Option.bind_eq_some_iff.mp z
  obtain ⟨y, hy, z⟩ := Option.bind_eq_some_iff.mp z
  obtain ⟨y2, hy2, z⟩ := Option.bind_eq_some_iff.mp z
  refine ⟨ρ, x, t, en, hx, fun v H1 e1 i1 => ?_⟩
  unfold gGetN at z
  split at z
  · rename_i ps tt yy heq
    cases heq
    obtain ⟨kvs, hk, z⟩ := Option.bind_eq_some_iff.mp z
    obtain ⟨k, hkk, z⟩ := Option.bind_eq_some_iff.mp z
    obtain ⟨⟨hl, ht, hd⟩, z⟩ := ite_get (d := d) z
    cases z
    refine ⟨v, ps, kvs, rfl, i1, hk, hl, fun dd o hn iN ho => ⟨isDN_of iN, ρ, _, (e1.trans (.new hn)).tabs t, en.mono (e1.trans (Ext.new (T := T) hn)).tups, hy, fun v2 H2 e2 i2 => ⟨ρ, _, ((e1.trans (.new hn)).trans e2).tabs t, en.mono ((e1.trans (Ext.new (T := T) hn)).trans e2).tups, hy2, fun v3 H3 e3 i3 => ?_⟩⟩⟩
    have i2' : Is H2 v2 k.data := by rw [nkOf_data _ _ hkk]; exact i2
    obtain ⟨b, rfl⟩ := tupK_ref ht i2'
    have e23 := e2.trans e3
    have iN3 : IsN X.prog X.w H3 dd (dall [] kvs) := iN.mono e23.tups (by
      obtain ⟨xs, h1, _⟩ := id iN
      rw [h1]
      exact e23.keep dd _ h1 fun ps z => dN_tbl ps z)
    have eAll := (e1.trans (.new hn)).trans e23
    refine ⟨dd, dall [] kvs, b, k, v3, rfl, rfl, iN3, e3.is i2', hd, fun dx v4 hg i4 => ?_, fun hg => ?_⟩
    · exact q _ _ eAll (by rw [hg]; exact i4)
    · exact q _ _ eAll (by rw [hg]; exact i3)
  · cases z
end
end CR
/-! CrP2 -/
set_option maxHeartbeats 4000000
namespace CR
open PySem PySem.Spec L2
open PyProof.Rows hiding St
section
variable {P : Program} {w : World} {K : PySem.W.Frag} {mg : Str → Option Value} {base : Heap} {T : List (Addr × Str)}
abbrev N_mix_of : List Str := ["talk", "signs", "found", "own_word", "card", "word", "other_card", "other_word", "k", "sign"]
theorem sc_mix_of : FnScope N_mix_of ["talk"] (defScope s_mix_of) := ⟨rfl, rfl, rfl, by decide +kernel, rfl, by decide +kernel, by decide +kernel⟩
def F_mix_of : Stm :=
  sSeq (sAsg (eVar 0) (uTup 3 (uCons (uTup 2 (uCons (uName 4) (uCons (uName 5) (uNil)))) (uCons (uTup 2 (uCons (uName 6) (uCons (uName 7) (uNil)))) (uCons (uName 3) (uNil)))))) (sSeq (sSet 1 (eBin gAdd (eBin gAdd (eVar 5) (eVar 7)) (eVar 3))) (sSeq (sSet 2 (eSumL (lEnum 8 9 (eVar 1) (eBin gMul (eVar 8) (eBin gAdd (eBin gSidx (eC (.str "abcdefghijklmnopqrstuvwxyz")) (eVar 9)) (eC (.int 1))))))) (sRet (eBin gMod (eBin gAdd (eBin gAdd (eVar 2) (eVar 4)) (eBin gMul (eC (.int 2)) (eVar 6))) (eC (.int 1009))))))
def m_mix_of : List D → Option D := runD 10 F_mix_of
theorem ok_mix_of {kws : List (Str × V)} {f : Addr}  {fd : FuncData} (C : Tc mg)   (Fd : FnP K mg "mix_of" s_mix_of kws f fd) : FnOk P w K mg base L2.CX0 1 f fd ["talk"] (spD T 1 m_mix_of) :=
  pure_ok (N := N_mix_of) (F := F_mix_of) Fd.1 sc_mix_of rfl fun cdv A outer s H E hr =>
    ds_cons (ds_asg (dv 0) (dg_tup rfl (dgs_cons (dg_tup rfl (dgs_cons (dg_name (i := 4) sc_mix_of.nd) (dgs_cons (dg_name (i := 5) sc_mix_of.nd) (dgs_nil)))) (dgs_cons (dg_tup rfl (dgs_cons (dg_name (i := 6) sc_mix_of.nd) (dgs_cons (dg_name (i := 7) sc_mix_of.nd) (dgs_nil)))) (dgs_cons (dg_name (i := 3) sc_mix_of.nd) (dgs_nil)))))) (ds_cons (ds_set (i := 1) sc_mix_of.nd (de_bin op_addAny od_add (de_bin op_addAny od_add (dv 5) (dv 7)) (dv 3))) (ds_cons (ds_set (i := 2) sc_mix_of.nd (de_sumL rfl C.n_sum (de_lcEnum (own := [("k", 8), ("sign", 9)]) rfl sc_mix_of.nd C.n_enumerate (dv 1) (blkOk_by (own := [("k", 8), ("sign", 9)]) (N := N_mix_of) (sc := defScope s_mix_of) (by decide +kernel)) (fun _ _ _ _ _ => pg_tup rfl (pgs_cons (pg_name (i := 8) sc_mix_of.nd rfl (Or.inl rfl)) (pgs_cons (pg_name (i := 9) sc_mix_of.nd rfl (Or.inl rfl)) pgs_nil))) (fun _ _ _ _ _ => de_bin op_mul od_mul (dv 8) (de_bin op_addAny od_add (de_sidx (de_gstr C.c_SIGNS) (dv 9)) (de_int)))))) (ds_one (ds_ret (de_bin op_modN od_mod (de_bin op_addAny od_add (de_bin op_addAny od_add (dv 2) (dv 4)) (de_bin op_mul od_mul (de_int) (dv 6))) (de_gint C.c_MIXES))))))
abbrev N_common : List Str := ["one", "other"]
theorem sc_common : FnScope N_common ["one", "other"] (defScope s_common) := ⟨rfl, rfl, rfl, by decide +kernel, rfl, by decide +kernel, by decide +kernel⟩
def F_common : Stm :=
  sSeq (whD (tOf (eBin gNe (eVar 1) (eC (.int 0)))) (sPar 0 1 (aCons (eVar 1) (aCons (eBin gMod (eVar 0) (eVar 1)) (aNil)))) 40) (sRet (eVar 0))
def m_common : List D → Option D := runD 2 F_common
theorem ok_common {kws : List (Str × V)} {f : Addr}  {fd : FuncData} (C : Tc mg)   (Fd : FnP K mg "common" s_common kws f fd) : FnOk P w K mg base L2.CX0 1 f fd ["one", "other"] (spD T 2 m_common) :=
  pure_ok (N := N_common) (F := F_common) Fd.1 sc_common rfl fun cdv A outer s H E hr =>
    ds_cons (ds_while 40 PassesOwn.never (dt_cmp (op_neD hr.units) od_ne (dv 1) (de_int) (nomark _)) (ds_one (ds_par (i := 0) (j := 1) rfl sc_common.nd (da_cons (dv 1) (da_cons (de_bin op_modN od_mod (dv 0) (dv 1)) (da_nil)))))) (ds_one (ds_ret (dv 0)))
abbrev N_ratio : List Str := ["over", "under", "by"]
theorem sc_ratio : FnScope N_ratio ["over", "under"] (defScope s_ratio) := ⟨rfl, rfl, rfl, by decide +kernel, rfl, by decide +kernel, by decide +kernel⟩
def F_ratio : Stm :=
  sSeq (sSet 2 (eCall 2 [] m_common (aCons (eVar 0) (aCons (eVar 1) (aNil))))) (sRet (eTup (aCons (eBin gFd (eVar 0) (eVar 2)) (aCons (eBin gFd (eVar 1) (eVar 2)) (aNil)))))
def m_ratio : List D → Option D := runD 3 F_ratio
theorem ok_ratio {kws : List (Str × V)} {f : Addr}  {fd : FuncData} (C : Tc mg) (c_common : PFn P w K mg base T 1 "common" 2 [] m_common)  (Fd : FnP K mg "ratio" s_ratio kws f fd) : FnOk P w K mg base L2.CX0 2 f fd ["over", "under"] (spD T 2 m_ratio) :=
  pure_ok (N := N_ratio) (F := F_ratio) Fd.1 sc_ratio rfl fun cdv A outer s H E hr =>
    ds_cons (ds_set (i := 2) sc_ratio.nd (de_call c_common hr (by decide) (da_cons (dv 0) (da_cons (dv 1) (da_nil))))) (ds_one (ds_ret (de_tup (da_cons (de_bin op_fdivN od_fd (dv 0) (dv 2)) (da_cons (de_bin op_fdivN od_fd (dv 1) (dv 2)) (da_nil))))))
abbrev N_added : List Str := ["one", "other"]
theorem sc_added : FnScope N_added ["one", "other"] (defScope s_added) := ⟨rfl, rfl, rfl, by decide +kernel, rfl, by decide +kernel, by decide +kernel⟩
def F_added : Stm :=
  sRet (eCall 2 [] m_ratio (aCons (eBin gAdd (eBin gMul (eBin gIx (eVar 0) (eC (.int 0))) (eBin gIx (eVar 1) (eC (.int 1)))) (eBin gMul (eBin gIx (eVar 1) (eC (.int 0))) (eBin gIx (eVar 0) (eC (.int 1))))) (aCons (eBin gMul (eBin gIx (eVar 0) (eC (.int 1))) (eBin gIx (eVar 1) (eC (.int 1)))) (aNil))))
def m_added : List D → Option D := runD 2 F_added
theorem ok_added {kws : List (Str × V)} {f : Addr}  {fd : FuncData} (C : Tc mg) (c_ratio : PFn P w K mg base T 2 "ratio" 2 [] m_ratio)  (Fd : FnP K mg "added" s_added kws f fd) : FnOk P w K mg base L2.CX0 3 f fd ["one", "other"] (spD T 2 m_added) :=
  pure_ok (N := N_added) (F := F_added) Fd.1 sc_added rfl fun cdv A outer s H E hr =>
    ds_one (ds_ret (de_call c_ratio hr (by decide) (da_cons (de_bin op_addAny od_add (de_bin op_mul od_mul (de_ix (dv 0) (de_int) (fun _ _ => rfl)) (de_ix (dv 1) (de_int) (fun _ _ => rfl))) (de_bin op_mul od_mul (de_ix (dv 1) (de_int) (fun _ _ => rfl)) (de_ix (dv 0) (de_int) (fun _ _ => rfl)))) (da_cons (de_bin op_mul od_mul (de_ix (dv 0) (de_int) (fun _ _ => rfl)) (de_ix (dv 1) (de_int) (fun _ _ => rfl))) (da_nil)))))
abbrev N_times : List Str := ["one", "other"]
theorem sc_times : FnScope N_times ["one", "other"] (defScope s_times) := ⟨rfl, rfl, rfl, by decide +kernel, rfl, by decide +kernel, by decide +kernel⟩
def F_times : Stm :=
  sRet (eCall 2 [] m_ratio (aCons (eBin gMul (eBin gIx (eVar 0) (eC (.int 0))) (eBin gIx (eVar 1) (eC (.int 0)))) (aCons (eBin gMul (eBin gIx (eVar 0) (eC (.int 1))) (eBin gIx (eVar 1) (eC (.int 1)))) (aNil))))
def m_times : List D → Option D := runD 2 F_times
theorem ok_times {kws : List (Str × V)} {f : Addr}  {fd : FuncData} (C : Tc mg) (c_ratio : PFn P w K mg base T 2 "ratio" 2 [] m_ratio)  (Fd : FnP K mg "times" s_times kws f fd) : FnOk P w K mg base L2.CX0 3 f fd ["one", "other"] (spD T 2 m_times) :=
  pure_ok (N := N_times) (F := F_times) Fd.1 sc_times rfl fun cdv A outer s H E hr =>
    ds_one (ds_ret (de_call c_ratio hr (by decide) (da_cons (de_bin op_mul od_mul (de_ix (dv 0) (de_int) (fun _ _ => rfl)) (de_ix (dv 1) (de_int) (fun _ _ => rfl))) (da_cons (de_bin op_mul od_mul (de_ix (dv 0) (de_int) (fun _ _ => rfl)) (de_ix (dv 1) (de_int) (fun _ _ => rfl))) (da_nil)))))
abbrev N_purse_filled : List Str := ["purse", "ticks", "has", "rate", "most"]
theorem sc_purse_filled : FnScope N_purse_filled ["purse", "ticks"] (defScope s_purse_filled) := ⟨rfl, rfl, rfl, by decide +kernel, rfl, by decide +kernel, by decide +kernel⟩
def F_purse_filled : Stm :=
  sSeq (sAsg (eVar 0) (uTup 3 (uCons (uName 2) (uCons (uName 3) (uCons (uName 4) (uNil)))))) (sRet (eTup (aCons (eCall 2 [] m_lesser (aCons (eCall 2 [] m_added (aCons (eVar 2) (aCons (eCall 2 [] m_times (aCons (eVar 3) (aCons (eTup (aCons (eVar 1) (aCons (eC (.int 1)) (aNil)))) (aNil)))) (aNil)))) (aCons (eVar 4) (aNil)))) (aCons (eVar 3) (aCons (eVar 4) (aNil))))))
def m_purse_filled : List D → Option D := runD 5 F_purse_filled
theorem ok_purse_filled {kws : List (Str × V)} {f : Addr}  {fd : FuncData} (C : Tc mg) (c_times : PFn P w K mg base T 3 "times" 2 [] m_times) (c_added : PFn P w K mg base T 3 "added" 2 [] m_added) (c_lesser : PFn P w K mg base T 2 "lesser" 2 [] m_lesser)  (Fd : FnP K mg "purse_filled" s_purse_filled kws f fd) : FnOk P w K mg base L2.CX0 4 f fd ["purse", "ticks"] (spD T 2 m_purse_filled) :=
  pure_ok (N := N_purse_filled) (F := F_purse_filled) Fd.1 sc_purse_filled rfl fun cdv A outer s H E hr =>
    ds_cons (ds_asg (dv 0) (dg_tup rfl (dgs_cons (dg_name (i := 2) sc_purse_filled.nd) (dgs_cons (dg_name (i := 3) sc_purse_filled.nd) (dgs_cons (dg_name (i := 4) sc_purse_filled.nd) (dgs_nil)))))) (ds_one (ds_ret (de_tup (da_cons (de_call c_lesser hr (by decide) (da_cons (de_call c_added hr (by decide) (da_cons (dv 2) (da_cons (de_call c_times hr (by decide) (da_cons (dv 3) (da_cons (de_tup (da_cons (dv 1) (da_cons (de_int) (da_nil)))) (da_nil)))) (da_nil)))) (da_cons (dv 4) (da_nil)))) (da_cons (dv 3) (da_cons (dv 4) (da_nil)))))))
abbrev N_half_of : List Str := ["half", "purse", "lanes", "size", "k"]
theorem sc_half_of : FnScope N_half_of ["half", "purse", "lanes", "size"] (defScope s_half_of) := ⟨rfl, rfl, rfl, by decide +kernel, rfl, by decide +kernel, by decide +kernel⟩
def F_half_of : Stm :=
  sRet (eTup (aCons (eVar 0) (aCons (eTupL (lRng 4 (aCons (eVar 2) (aNil)) (eCall 1 [] m_void_lane (aCons (eVar 3) (aNil))))) (aCons (eTup (aNil)) (aCons (eTup (aNil)) (aCons (eC (.list [])) (aCons (eTup (aNil)) (aCons (eC (.list [])) (aCons (eVar 1) (aCons (eC (.int 0)) (aNil)))))))))))
def m_half_of : List D → Option D := runD 5 F_half_of
theorem ok_half_of {kws : List (Str × V)} {f : Addr}  {fd : FuncData} (C : Tc mg) (c_void_lane : PFn P w K mg base T 2 "void_lane" 1 [] m_void_lane)  (Fd : FnP K mg "half_of" s_half_of kws f fd) : FnOk P w K mg base L2.CX0 3 f fd ["half", "purse", "lanes", "size"] (spD T 4 m_half_of) :=
  pure_ok (N := N_half_of) (F := F_half_of) Fd.1 sc_half_of rfl fun cdv A outer s H E hr =>
    ds_one (ds_ret (de_tup (da_cons (dv 0) (da_cons (de_tupL C.n_tuple (de_lcRng (own := [("k", 4)]) rfl sc_half_of.nd C.n_range (da_cons (dv 2) (da_nil)) (blkOk_by (own := [("k", 4)]) (N := N_half_of) (sc := defScope s_half_of) (by decide +kernel)) (fun _ _ _ _ _ => pg_name (i := 4) sc_half_of.nd rfl (Or.inl rfl)) (fun _ _ _ _ _ => de_call c_void_lane hr (by decide) (da_cons (dv 3) (da_nil))))) (da_cons (de_tup (da_nil)) (da_cons (de_tup (da_nil)) (da_cons (de_unitP) (da_cons (de_tup (da_nil)) (da_cons (de_unitP) (da_cons (dv 1) (da_cons (de_int) (da_nil))))))))))))
abbrev N_sum_due : List Str := ["piece", "row", "epoch", "talk", "number", "part", "parts", "words", "given", "k", "one"]
theorem sc_sum_due : FnScope N_sum_due ["piece"] (defScope s_sum_due) := ⟨rfl, rfl, rfl, by decide +kernel, rfl, by decide +kernel, by decide +kernel⟩
def F_sum_due : Stm :=
  sSeq (sAsg (eVar 0) (uTup 7 (uCons (uName 2) (uCons (uName 3) (uCons (uName 4) (uCons (uName 5) (uCons (uName 6) (uCons (uName 7) (uCons (uName 8) (uNil)))))))))) (sSeq (sSet 1 (eBin gAdd (eTup (aCons (eVar 2) (aCons (eVar 4) (aCons (eVar 5) (aCons (eVar 6) (aNil)))))) (eVar 7))) (sRet (eBin gMod (eSumL (lEnum 9 10 (eVar 1) (eBin gMul (eVar 9) (eVar 10)))) (eC (.int 10007)))))
def m_sum_due : List D → Option D := runD 11 F_sum_due
theorem ok_sum_due {kws : List (Str × V)} {f : Addr}  {fd : FuncData} (C : Tc mg)   (Fd : FnP K mg "sum_due" s_sum_due kws f fd) : FnOk P w K mg base L2.CX0 1 f fd ["piece"] (spD T 1 m_sum_due) :=
  pure_ok (N := N_sum_due) (F := F_sum_due) Fd.1 sc_sum_due rfl fun cdv A outer s H E hr =>
    ds_cons (ds_asg (dv 0) (dg_tup rfl (dgs_cons (dg_name (i := 2) sc_sum_due.nd) (dgs_cons (dg_name (i := 3) sc_sum_due.nd) (dgs_cons (dg_name (i := 4) sc_sum_due.nd) (dgs_cons (dg_name (i := 5) sc_sum_due.nd) (dgs_cons (dg_name (i := 6) sc_sum_due.nd) (dgs_cons (dg_name (i := 7) sc_sum_due.nd) (dgs_cons (dg_name (i := 8) sc_sum_due.nd) (dgs_nil)))))))))) (ds_cons (ds_set (i := 1) sc_sum_due.nd (de_bin op_addAny od_add (de_tup (da_cons (dv 2) (da_cons (dv 4) (da_cons (dv 5) (da_cons (dv 6) (da_nil)))))) (dv 7))) (ds_one (ds_ret (de_bin op_modN od_mod (de_sumL rfl C.n_sum (de_lcEnum (own := [("k", 9), ("one", 10)]) rfl sc_sum_due.nd C.n_enumerate (dv 1) (blkOk_by (own := [("k", 9), ("one", 10)]) (N := N_sum_due) (sc := defScope s_sum_due) (by decide +kernel)) (fun _ _ _ _ _ => pg_tup rfl (pgs_cons (pg_name (i := 9) sc_sum_due.nd rfl (Or.inl rfl)) (pgs_cons (pg_name (i := 10) sc_sum_due.nd rfl (Or.inl rfl)) pgs_nil))) (fun _ _ _ _ _ => de_bin op_mul od_mul (dv 9) (dv 10)))) (de_gint C.c_SUMS)))))
abbrev N_is_right : List Str := ["piece"]
theorem sc_is_right : FnScope N_is_right ["piece"] (defScope s_is_right) := ⟨rfl, rfl, rfl, by decide +kernel, rfl, by decide +kernel, by decide +kernel⟩
def F_is_right : Stm :=
  sRet (eBin gEq (eBin gIx (eVar 0) (eC (.int 6))) (eCall 1 [] m_sum_due (aCons (eVar 0) (aNil))))
def m_is_right : List D → Option D := runD 1 F_is_right
theorem ok_is_right {kws : List (Str × V)} {f : Addr}  {fd : FuncData} (C : Tc mg) (c_sum_due : PFn P w K mg base T 1 "sum_due" 1 [] m_sum_due)  (Fd : FnP K mg "is_right" s_is_right kws f fd) : FnOk P w K mg base L2.CX0 2 f fd ["piece"] (spD T 1 m_is_right) :=
  pure_ok (N := N_is_right) (F := F_is_right) Fd.1 sc_is_right rfl fun cdv A outer s H E hr =>
    ds_one (ds_ret (de_cmp (op_eqD hr.units) od_eq (de_ix (dv 0) (de_int) (fun _ _ => rfl)) (de_call c_sum_due hr (by decide) (da_cons (dv 0) (da_nil))) (nomark _)))
abbrev N_summed : List Str := ["piece"]
theorem sc_summed : FnScope N_summed ["piece"] (defScope s_summed) := ⟨rfl, rfl, rfl, by decide +kernel, rfl, by decide +kernel, by decide +kernel⟩
def F_summed : Stm :=
  sRet (eBin gAdd (eSl (eVar 0) (pNo) (pSo (eC (.int 6)))) (eTup (aCons (eCall 1 [] m_sum_due (aCons (eVar 0) (aNil))) (aNil))))
def m_summed : List D → Option D := runD 1 F_summed
theorem ok_summed {kws : List (Str × V)} {f : Addr}  {fd : FuncData} (C : Tc mg) (c_sum_due : PFn P w K mg base T 1 "sum_due" 1 [] m_sum_due)  (Fd : FnP K mg "summed" s_summed kws f fd) : FnOk P w K mg base L2.CX0 2 f fd ["piece"] (spD T 1 m_summed) :=
  pure_ok (N := N_summed) (F := F_summed) Fd.1 sc_summed rfl fun cdv A outer s H E hr =>
    ds_one (ds_ret (de_bin op_addAny od_add (de_sl (dv 0) (do_none) (do_some (de_int))) (de_tup (da_cons (de_call c_sum_due hr (by decide) (da_cons (dv 0) (da_nil))) (da_nil)))))
abbrev N_bent : List Str := ["piece", "word", "words"]
theorem sc_bent : FnScope N_bent ["piece", "word"] (defScope s_bent) := ⟨rfl, rfl, rfl, by decide +kernel, rfl, by decide +kernel, by decide +kernel⟩
def F_bent : Stm :=
  sSeq (sSet 2 (eBin gIx (eVar 0) (eC (.int 5)))) (sSeq (sIf (tOf (eBin (gB2 fun i j => decide (j ≤ i)) (eVar 1) (eCB gLen (aCons (eVar 2) (aNil))))) (sRet (eBin gAdd (eSl (eVar 0) (pNo) (pSo (eC (.int 6)))) (eTup (aCons (eBin gMod (eBin gAdd (eBin gIx (eVar 0) (eC (.int 6))) (eC (.int 1))) (eC (.int 10007))) (aNil))))) (sNil)) (sRet (eBin gAdd (eSl (eVar 0) (pNo) (pSo (eC (.int 5)))) (eTup (aCons (eBin gAdd (eBin gAdd (eSl (eVar 2) (pNo) (pSo (eVar 1))) (eTup (aCons (eBin gAdd (eBin gIx (eVar 2) (eVar 1)) (eC (.int 1))) (aNil)))) (eSl (eVar 2) (pSo (eBin gAdd (eVar 1) (eC (.int 1)))) (pNo))) (aCons (eBin gIx (eVar 0) (eC (.int 6))) (aNil)))))))
def m_bent : List D → Option D := runD 3 F_bent
theorem ok_bent {kws : List (Str × V)} {f : Addr}  {fd : FuncData} (C : Tc mg)   (Fd : FnP K mg "bent" s_bent kws f fd) : FnOk P w K mg base L2.CX0 1 f fd ["piece", "word"] (spD T 2 m_bent) :=
  pure_ok (N := N_bent) (F := F_bent) Fd.1 sc_bent rfl fun cdv A outer s H E hr =>
    ds_cons (ds_set (i := 2) sc_bent.nd (de_ix (dv 0) (de_int) (fun _ _ => rfl))) (ds_cons (ds_if (dt_cmp op_ge od_b2 (dv 1) (de_len C.n_len (da_cons (dv 2) (da_nil))) (nomark _)) (ds_one (ds_ret (de_bin op_addAny od_add (de_sl (dv 0) (do_none) (do_some (de_int))) (de_tup (da_cons (de_bin op_modN od_mod (de_bin op_addAny od_add (de_ix (dv 0) (de_int) (fun _ _ => rfl)) (de_int)) (de_gint C.c_SUMS)) (da_nil)))))) (ds_nil)) (ds_one (ds_ret (de_bin op_addAny od_add (de_sl (dv 0) (do_none) (do_some (de_int))) (de_tup (da_cons (de_bin op_addAny od_add (de_bin op_addAny od_add (de_sl (dv 2) (do_none) (do_some (dv 1))) (de_tup (da_cons (de_bin op_addAny od_add (de_ix (dv 2) (dv 1) (fun _ _ => rfl)) (de_int)) (da_nil)))) (de_sl (dv 2) (do_some (de_bin op_addAny od_add (dv 1) (de_int))) (do_none))) (da_cons (de_ix (dv 0) (de_int) (fun _ _ => rfl)) (da_nil))))))))
abbrev N_going_on : List Str := ["joining"]
theorem sc_going_on : FnScope N_going_on ["joining"] (defScope s_going_on) := ⟨rfl, rfl, rfl, by decide +kernel, rfl, by decide +kernel, by decide +kernel⟩
def F_going_on : Stm :=
  sRet (eIf (tAn (tOf (eBin gNotN (eVar 0) (eC .none))) (tOf (eBin (gB2 fun i j => decide (j < i)) (eBin gIx (eVar 0) (eC (.int 3))) (eC (.int 0))))) (eBin gIx (eVar 0) (eC (.int 1))) (eC .none))
def m_going_on : List D → Option D := runD 1 F_going_on
theorem ok_going_on {kws : List (Str × V)} {f : Addr}  {fd : FuncData} (C : Tc mg)   (Fd : FnP K mg "going_on" s_going_on kws f fd) : FnOk P w K mg base L2.CX0 1 f fd ["joining"] (spD T 1 m_going_on) :=
  pure_ok (N := N_going_on) (F := F_going_on) Fd.1 sc_going_on rfl fun cdv A outer s H E hr =>
    ds_one (ds_ret (de_if (PW.pt (dw_and (dt_cmp op_notN od_notN (dv 0) (de_non) (nomark _)) (pw_and1 (dt_cmp op_gt od_b2 (de_ix (dv 0) (de_int) (fun _ _ => rfl)) (de_int) (nomark _))))) (de_ix (dv 0) (de_int) (fun _ _ => rfl)) (de_non)))
abbrev N_does_go_on : List Str := ["joining", "piece", "epoch", "number", "parts", "later", "words"]
theorem sc_does_go_on : FnScope N_does_go_on ["joining", "piece"] (defScope s_does_go_on) := ⟨rfl, rfl, rfl, by decide +kernel, rfl, by decide +kernel, by decide +kernel⟩
def F_does_go_on : Stm :=
  sSeq (sIf (tOf (eBin gIsN (eCall 1 [] m_going_on (aCons (eVar 0) (aNil))) (eC .none))) (sRet (eC (.bool false))) (sNil)) (sSeq (sAsg (eVar 0) (uTup 5 (uCons (uName 2) (uCons (uName 3) (uCons (uName 4) (uCons (uName 5) (uCons (uName 6) (uNil)))))))) (sRet (eBin gEq (eTup (aCons (eBin gIx (eVar 1) (eC (.int 0))) (aCons (eBin gIx (eVar 1) (eC (.int 2))) (aCons (eBin gIx (eVar 1) (eC (.int 4))) (aCons (eBin gIx (eVar 1) (eC (.int 3))) (aNil)))))) (eTup (aCons (eVar 2) (aCons (eVar 3) (aCons (eVar 4) (aCons (eVar 5) (aNil)))))))))
def m_does_go_on : List D → Option D := runD 7 F_does_go_on
theorem ok_does_go_on {kws : List (Str × V)} {f : Addr}  {fd : FuncData} (C : Tc mg) (c_going_on : PFn P w K mg base T 1 "going_on" 1 [] m_going_on)  (Fd : FnP K mg "does_go_on" s_does_go_on kws f fd) : FnOk P w K mg base L2.CX0 2 f fd ["joining", "piece"] (spD T 2 m_does_go_on) :=
  pure_ok (N := N_does_go_on) (F := F_does_go_on) Fd.1 sc_does_go_on rfl fun cdv A outer s H E hr =>
    ds_cons (ds_if (dt_cmp op_isN od_isN (de_call c_going_on hr (by decide) (da_cons (dv 0) (da_nil))) (de_non) (nomark _)) (ds_one (ds_ret (de_bl))) (ds_nil)) (ds_cons (ds_asg (dv 0) (dg_tup rfl (dgs_cons (dg_name (i := 2) sc_does_go_on.nd) (dgs_cons (dg_name (i := 3) sc_does_go_on.nd) (dgs_cons (dg_name (i := 4) sc_does_go_on.nd) (dgs_cons (dg_name (i := 5) sc_does_go_on.nd) (dgs_cons (dg_name (i := 6) sc_does_go_on.nd) (dgs_nil)))))))) (ds_one (ds_ret (de_cmp (op_eqD hr.units) od_eq (de_tup (da_cons (de_ix (dv 1) (de_int) (fun _ _ => rfl)) (da_cons (de_ix (dv 1) (de_int) (fun _ _ => rfl)) (da_cons (de_ix (dv 1) (de_int) (fun _ _ => rfl)) (da_cons (de_ix (dv 1) (de_int) (fun _ _ => rfl)) (da_nil)))))) (de_tup (da_cons (dv 2) (da_cons (dv 3) (da_cons (dv 4) (da_cons (dv 5) (da_nil)))))) (nomark _)))))
abbrev N_does_begin : List Str := ["joining", "piece"]
theorem sc_does_begin : FnScope N_does_begin ["joining", "piece"] (defScope s_does_begin) := ⟨rfl, rfl, rfl, by decide +kernel, rfl, by decide +kernel, by decide +kernel⟩
def F_does_begin : Stm :=
  sRet (eAn (eBin gEq (eBin gIx (eVar 1) (eC (.int 3))) (eC (.int 0))) (eOo (eBin gIsN (eVar 0) (eC .none)) (eBin gGt2 (eTup (aCons (eBin gIx (eVar 1) (eC (.int 0))) (aCons (eBin gIx (eVar 1) (eC (.int 2))) (aNil)))) (eSl (eVar 0) (pNo) (pSo (eC (.int 2)))))))
def m_does_begin : List D → Option D := runD 2 F_does_begin
theorem ok_does_begin {kws : List (Str × V)} {f : Addr}  {fd : FuncData} (C : Tc mg)   (Fd : FnP K mg "does_begin" s_does_begin kws f fd) : FnOk P w K mg base L2.CX0 1 f fd ["joining", "piece"] (spD T 2 m_does_begin) :=
  pure_ok (N := N_does_begin) (F := F_does_begin) Fd.1 sc_does_begin rfl fun cdv A outer s H E hr =>
    ds_one (ds_ret (de_and (de_cmp (op_eqD hr.units) od_eq (de_ix (dv 1) (de_int) (fun _ _ => rfl)) (de_int) (nomark _)) (pe_one (de_or (de_cmp op_isN od_isN (dv 0) (de_non) (nomark _)) (pe_one (de_cmp (op_gt2 hr.units0) od_gt2 (de_tup (da_cons (de_ix (dv 1) (de_int) (fun _ _ => rfl)) (da_cons (de_ix (dv 1) (de_int) (fun _ _ => rfl)) (da_nil)))) (de_sl (dv 0) (do_none) (do_some (de_int))) (nomark _)))))))
abbrev N_with_part : List Str := ["piece", "words", "lost", "epoch", "talk", "number", "part", "parts", "own", "given"]
theorem sc_with_part : FnScope N_with_part ["piece", "words", "lost"] (defScope s_with_part) := ⟨rfl, rfl, rfl, by decide +kernel, rfl, by decide +kernel, by decide +kernel⟩
def F_with_part : Stm :=
  sSeq (sAsg (eVar 0) (uTup 7 (uCons (uName 3) (uCons (uName 4) (uCons (uName 5) (uCons (uName 6) (uCons (uName 7) (uCons (uName 8) (uCons (uName 9) (uNil)))))))))) (sSeq (sAug 1 (eVar 8)) (sSeq (sIf (tOf (eBin gEq (eBin gAdd (eVar 6) (eC (.int 1))) (eVar 7))) (sRet (eTup (aCons (eTup (aCons (eVar 3) (aCons (eVar 5) (aCons (eVar 7) (aCons (eC (.int 0)) (aCons (eTup (aNil)) (aNil))))))) (aCons (eC (.str "whole")) (aCons (eVar 2) (aCons (eTup (aCons (eVar 4) (aCons (eVar 5) (aCons (eVar 1) (aNil))))) (aNil))))))) (sNil)) (sRet (eTup (aCons (eTup (aCons (eVar 3) (aCons (eVar 5) (aCons (eVar 7) (aCons (eBin gAdd (eVar 6) (eC (.int 1))) (aCons (eVar 1) (aNil))))))) (aCons (eIf (tOf (eBin gEq (eVar 6) (eC (.int 0)))) (eC (.str "begun")) (eC (.str "on"))) (aCons (eVar 2) (aCons (eC .none) (aNil)))))))))
def m_with_part : List D → Option D := runD 10 F_with_part
theorem ok_with_part {kws : List (Str × V)} {f : Addr}  {fd : FuncData} (C : Tc mg)   (Fd : FnP K mg "with_part" s_with_part kws f fd) : FnOk P w K mg base L2.CX0 1 f fd ["piece", "words", "lost"] (spD T 3 m_with_part) :=
  pure_ok (N := N_with_part) (F := F_with_part) Fd.1 sc_with_part rfl fun cdv A outer s H E hr =>
    ds_cons (ds_asg (dv 0) (dg_tup rfl (dgs_cons (dg_name (i := 3) sc_with_part.nd) (dgs_cons (dg_name (i := 4) sc_with_part.nd) (dgs_cons (dg_name (i := 5) sc_with_part.nd) (dgs_cons (dg_name (i := 6) sc_with_part.nd) (dgs_cons (dg_name (i := 7) sc_with_part.nd) (dgs_cons (dg_name (i := 8) sc_with_part.nd) (dgs_cons (dg_name (i := 9) sc_with_part.nd) (dgs_nil)))))))))) (ds_cons (ds_aug (i := 1) sc_with_part.nd (dv 8)) (ds_cons (ds_if (dt_cmp (op_eqD hr.units) od_eq (de_bin op_addAny od_add (dv 6) (de_int)) (dv 7) (nomark _)) (ds_one (ds_ret (de_tup (da_cons (de_tup (da_cons (dv 3) (da_cons (dv 5) (da_cons (dv 7) (da_cons (de_int) (da_cons (de_tup (da_nil)) (da_nil))))))) (da_cons (de_str) (da_cons (dv 2) (da_cons (de_tup (da_cons (dv 4) (da_cons (dv 5) (da_cons (dv 1) (da_nil))))) (da_nil)))))))) (ds_nil)) (ds_one (ds_ret (de_tup (da_cons (de_tup (da_cons (dv 3) (da_cons (dv 5) (da_cons (dv 7) (da_cons (de_bin op_addAny od_add (dv 6) (de_int)) (da_cons (dv 1) (da_nil))))))) (da_cons (de_if (dt_cmp (op_eqD hr.units) od_eq (dv 6) (de_int) (nomark _)) (de_str) (de_str)) (da_cons (dv 2) (da_cons (de_non) (da_nil))))))))))
abbrev N_came_of : List Str := ["joining", "piece", "is_elder"]
theorem sc_came_of : FnScope N_came_of ["joining", "piece"] (defScope s_came_of) := ⟨rfl, rfl, rfl, by decide +kernel, rfl, by decide +kernel, by decide +kernel⟩
def F_came_of : Stm :=
  sSeq (sIf (tNt (tOf (eCall 1 [] m_is_right (aCons (eVar 1) (aNil))))) (sRet (eTup (aCons (eVar 0) (aCons (eC (.str "sum")) (aCons (eC .none) (aCons (eC .none) (aNil))))))) (sNil)) (sSeq (sIf (tOf (eCall 2 [] m_does_go_on (aCons (eVar 0) (aCons (eVar 1) (aNil))))) (sRet (eCall 3 [] m_with_part (aCons (eVar 1) (aCons (eBin gIx (eVar 0) (eC (.int 4))) (aCons (eC .none) (aNil)))))) (sNil)) (sSeq (sIf (tOf (eCall 2 [] m_does_begin (aCons (eVar 0) (aCons (eVar 1) (aNil))))) (sRet (eCall 3 [] m_with_part (aCons (eVar 1) (aCons (eTup (aNil)) (aCons (eCall 1 [] m_going_on (aCons (eVar 0) (aNil))) (aNil)))))) (sNil)) (sSeq (sSet 2 (eAn (eBin gNotN (eVar 0) (eC .none)) (eBin gLtT (eTup (aCons (eBin gIx (eVar 1) (eC (.int 0))) (aCons (eBin gIx (eVar 1) (eC (.int 2))) (aNil)))) (eSl (eVar 0) (pNo) (pSo (eC (.int 2))))))) (sRet (eTup (aCons (eVar 0) (aCons (eIf (tOf (eVar 2)) (eC (.str "elder")) (eC (.str "cut"))) (aCons (eC .none) (aCons (eC .none) (aNil))))))))))
def m_came_of : List D → Option D := runD 3 F_came_of
theorem ok_came_of {kws : List (Str × V)} {f : Addr}  {fd : FuncData} (C : Tc mg) (c_does_begin : PFn P w K mg base T 1 "does_begin" 2 [] m_does_begin) (c_going_on : PFn P w K mg base T 1 "going_on" 1 [] m_going_on) (c_with_part : PFn P w K mg base T 1 "with_part" 3 [] m_with_part) (c_does_go_on : PFn P w K mg base T 2 "does_go_on" 2 [] m_does_go_on) (c_is_right : PFn P w K mg base T 2 "is_right" 1 [] m_is_right)  (Fd : FnP K mg "came_of" s_came_of kws f fd) : FnOk P w K mg base L2.CX0 3 f fd ["joining", "piece"] (spD T 2 m_came_of) :=
  pure_ok (N := N_came_of) (F := F_came_of) Fd.1 sc_came_of rfl fun cdv A outer s H E hr =>
    ds_cons (ds_if (dt_not (dt_val (de_call c_is_right hr (by decide) (da_cons (dv 1) (da_nil))))) (ds_one (ds_ret (de_tup (da_cons (dv 0) (da_cons (de_str) (da_cons (de_non) (da_cons (de_non) (da_nil)))))))) (ds_nil)) (ds_cons (ds_if (dt_val (de_call c_does_go_on hr (by decide) (da_cons (dv 0) (da_cons (dv 1) (da_nil))))) (ds_one (ds_ret (de_call c_with_part hr (by decide) (da_cons (dv 1) (da_cons (de_ix (dv 0) (de_int) (fun _ _ => rfl)) (da_cons (de_non) (da_nil))))))) (ds_nil)) (ds_cons (ds_if (dt_val (de_call c_does_begin hr (by decide) (da_cons (dv 0) (da_cons (dv 1) (da_nil))))) (ds_one (ds_ret (de_call c_with_part hr (by decide) (da_cons (dv 1) (da_cons (de_tup (da_nil)) (da_cons (de_call c_going_on hr (by decide) (da_cons (dv 0) (da_nil))) (da_nil))))))) (ds_nil)) (ds_cons (ds_set (i := 2) sc_came_of.nd (de_and (de_cmp op_notN od_notN (dv 0) (de_non) (nomark _)) (pe_one (de_cmp (op_ltT hr.units0) od_ltT (de_tup (da_cons (de_ix (dv 1) (de_int) (fun _ _ => rfl)) (da_cons (de_ix (dv 1) (de_int) (fun _ _ => rfl)) (da_nil)))) (de_sl (dv 0) (do_none) (do_some (de_int))) (nomark _))))) (ds_one (ds_ret (de_tup (da_cons (dv 0) (da_cons (de_if (dt_val (dv 2)) (de_str) (de_str)) (da_cons (de_non) (da_cons (de_non) (da_nil)))))))))))
abbrev N_page_at : List Str := ["memory", "stretch"]
theorem sc_page_at : FnScope N_page_at ["memory", "stretch"] (defScope s_page_at) := ⟨rfl, rfl, rfl, by decide +kernel, rfl, by decide +kernel, by decide +kernel⟩
def F_page_at : Stm :=
  sSeq (sIf (tOf (eBin (gB2 fun i j => decide (j ≤ i)) (eBin gIx (eVar 1) (eC (.int 0))) (eCB gLen (aCons (eVar 0) (aNil))))) (sNo) (sNil)) (sRet (eBin gIx (eVar 0) (eBin gIx (eVar 1) (eC (.int 0)))))
def m_page_at : List D → Option D := runD 2 F_page_at
theorem ok_page_at {kws : List (Str × V)} {f : Addr}  {fd : FuncData} (C : Tc mg)   (Fd : FnP K mg "page_at" s_page_at kws f fd) : FnOk P w K mg base L2.CX0 1 f fd ["memory", "stretch"] (spD T 2 m_page_at) :=
  pure_ok (N := N_page_at) (F := F_page_at) Fd.1 sc_page_at rfl fun cdv A outer s H E hr =>
    ds_cons (ds_if (dt_cmp op_ge od_b2 (de_ix (dv 1) (de_int) (fun _ _ => rfl)) (de_len C.n_len (da_cons (dv 0) (da_nil))) (nomark _)) (ds_no) (ds_nil)) (ds_one (ds_ret (de_ix (dv 0) (de_ix (dv 1) (de_int) (fun _ _ => rfl)) (fun _ _ => rfl))))
abbrev N_words_at : List Str := ["memory", "stretch", "page", "at", "many"]
theorem sc_words_at : FnScope N_words_at ["memory", "stretch"] (defScope s_words_at) := ⟨rfl, rfl, rfl, by decide +kernel, rfl, by decide +kernel, by decide +kernel⟩
def F_words_at : Stm :=
  sSeq (sAsg (eVar 1) (uTup 3 (uCons (uName 2) (uCons (uName 3) (uCons (uName 4) (uNil)))))) (sRet (eSl (eCall 2 [] m_page_at (aCons (eVar 0) (aCons (eVar 1) (aNil)))) (pSo (eVar 3)) (pSo (eBin gAdd (eVar 3) (eVar 4)))))
def m_words_at : List D → Option D := runD 5 F_words_at
theorem ok_words_at {kws : List (Str × V)} {f : Addr}  {fd : FuncData} (C : Tc mg) (c_page_at : PFn P w K mg base T 1 "page_at" 2 [] m_page_at)  (Fd : FnP K mg "words_at" s_words_at kws f fd) : FnOk P w K mg base L2.CX0 2 f fd ["memory", "stretch"] (spD T 2 m_words_at) :=
  pure_ok (N := N_words_at) (F := F_words_at) Fd.1 sc_words_at rfl fun cdv A outer s H E hr =>
    ds_cons (ds_asg (dv 1) (dg_tup rfl (dgs_cons (dg_name (i := 2) sc_words_at.nd) (dgs_cons (dg_name (i := 3) sc_words_at.nd) (dgs_cons (dg_name (i := 4) sc_words_at.nd) (dgs_nil)))))) (ds_one (ds_ret (de_sl (de_call c_page_at hr (by decide) (da_cons (dv 0) (da_cons (dv 1) (da_nil)))) (do_some (dv 3)) (do_some (de_bin op_addAny od_add (dv 3) (dv 4))))))
abbrev N_written : List Str := ["memory", "stretch", "words", "page", "number", "at", "many"]
theorem sc_written : FnScope N_written ["memory", "stretch", "words"] (defScope s_written) := ⟨rfl, rfl, rfl, by decide +kernel, rfl, by decide +kernel, by decide +kernel⟩
def F_written : Stm :=
  sSeq (sAsg (eVar 1) (uTup 3 (uCons (uName 4) (uCons (uName 5) (uCons (uName 6) (uNil)))))) (sSeq (sSet 3 (eCall 2 [] m_page_at (aCons (eVar 0) (aCons (eVar 1) (aNil))))) (sSeq (sIf (tOf (eBin (gB2 fun i j => decide (j < i)) (eCB gLen (aCons (eVar 2) (aNil))) (eVar 6))) (sNo) (sNil)) (sRet (eBin gAdd (eBin gAdd (eSl (eVar 0) (pNo) (pSo (eVar 4))) (eTup (aCons (eBin gAdd (eBin gAdd (eSl (eVar 3) (pNo) (pSo (eVar 5))) (eVar 2)) (eSl (eVar 3) (pSo (eBin gAdd (eVar 5) (eCB gLen (aCons (eVar 2) (aNil))))) (pNo))) (aNil)))) (eSl (eVar 0) (pSo (eBin gAdd (eVar 4) (eC (.int 1)))) (pNo))))))
def m_written : List D → Option D := runD 7 F_written
theorem ok_written {kws : List (Str × V)} {f : Addr}  {fd : FuncData} (C : Tc mg) (c_page_at : PFn P w K mg base T 1 "page_at" 2 [] m_page_at)  (Fd : FnP K mg "written" s_written kws f fd) : FnOk P w K mg base L2.CX0 2 f fd ["memory", "stretch", "words"] (spD T 3 m_written) :=
  pure_ok (N := N_written) (F := F_written) Fd.1 sc_written rfl fun cdv A outer s H E hr =>
    ds_cons (ds_asg (dv 1) (dg_tup rfl (dgs_cons (dg_name (i := 4) sc_written.nd) (dgs_cons (dg_name (i := 5) sc_written.nd) (dgs_cons (dg_name (i := 6) sc_written.nd) (dgs_nil)))))) (ds_cons (ds_set (i := 3) sc_written.nd (de_call c_page_at hr (by decide) (da_cons (dv 0) (da_cons (dv 1) (da_nil))))) (ds_cons (ds_if (dt_cmp op_gt od_b2 (de_len C.n_len (da_cons (dv 2) (da_nil))) (dv 6) (nomark _)) (ds_no) (ds_nil)) (ds_one (ds_ret (de_bin op_addAny od_add (de_bin op_addAny od_add (de_sl (dv 0) (do_none) (do_some (dv 4))) (de_tup (da_cons (de_bin op_addAny od_add (de_bin op_addAny od_add (de_sl (dv 3) (do_none) (do_some (dv 5))) (dv 2)) (de_sl (dv 3) (do_some (de_bin op_addAny od_add (dv 5) (de_len C.n_len (da_cons (dv 2) (da_nil))))) (do_none))) (da_nil)))) (de_sl (dv 0) (do_some (de_bin op_addAny od_add (dv 4) (de_int))) (do_none)))))))
abbrev N_is_due : List Str := ["lane", "clock", "bounds", "many", "since", "masked", "most", "wait"]
theorem sc_is_due : FnScope N_is_due ["lane", "clock", "bounds"] (defScope s_is_due) := ⟨rfl, rfl, rfl, by decide +kernel, rfl, by decide +kernel, by decide +kernel⟩
def F_is_due : Stm :=
  sSeq (sAsg (eVar 0) (uTup 3 (uCons (uName 3) (uCons (uName 4) (uCons (uName 5) (uNil)))))) (sSeq (sAsg (eVar 2) (uTup 2 (uCons (uName 6) (uCons (uName 7) (uNil))))) (sRet (eAn (eNt (eVar 5)) (eAn (eBin (gB2 fun i j => decide (j < i)) (eVar 3) (eC (.int 0))) (eOo (eBin (gB2 fun i j => decide (j ≤ i)) (eVar 3) (eVar 6)) (eBin (gB2 fun i j => decide (j ≤ i)) (eBin gSub (eVar 1) (eVar 4)) (eVar 7)))))))
def m_is_due : List D → Option D := runD 8 F_is_due
theorem ok_is_due {kws : List (Str × V)} {f : Addr}  {fd : FuncData} (C : Tc mg)   (Fd : FnP K mg "is_due" s_is_due kws f fd) : FnOk P w K mg base L2.CX0 1 f fd ["lane", "clock", "bounds"] (spD T 3 m_is_due) :=
  pure_ok (N := N_is_due) (F := F_is_due) Fd.1 sc_is_due rfl fun cdv A outer s H E hr =>
    ds_cons (ds_asg (dv 0) (dg_tup rfl (dgs_cons (dg_name (i := 3) sc_is_due.nd) (dgs_cons (dg_name (i := 4) sc_is_due.nd) (dgs_cons (dg_name (i := 5) sc_is_due.nd) (dgs_nil)))))) (ds_cons (ds_asg (dv 2) (dg_tup rfl (dgs_cons (dg_name (i := 6) sc_is_due.nd) (dgs_cons (dg_name (i := 7) sc_is_due.nd) (dgs_nil))))) (ds_one (ds_ret (de_and (de_not (dv 5)) (de_and (de_cmp op_gt od_b2 (dv 3) (de_int) (nomark _)) (pe_one (de_or (de_cmp op_ge od_b2 (dv 3) (dv 6) (nomark _)) (pe_one (de_cmp op_ge od_b2 (de_bin op_sub od_i2 (dv 1) (dv 4)) (dv 7) (nomark _))))))))))
abbrev N_look_at_lane : List Str := ["value", "lane", "clock", "bounds", "own"]
theorem sc_look_at_lane : FnScope N_look_at_lane ["value", "lane", "clock", "bounds"] (defScope s_look_at_lane) := ⟨rfl, rfl, rfl, by decide +kernel, rfl, by decide +kernel, by decide +kernel⟩
def F_look_at_lane : Stm :=
  sSeq (sSet 4 (eBin gIx (eBin gIx (eVar 0) (eC (.int 1))) (eVar 1))) (sSeq (sIf (tNt (tOf (eCall 3 [] m_is_due (aCons (eTup (aCons (eCB gLen (aCons (eBin gIx (eVar 4) (eC (.int 5))) (aNil))) (aCons (eBin gIx (eVar 4) (eC (.int 6))) (aCons (eBin gIx (eVar 4) (eC (.int 7))) (aNil))))) (aCons (eVar 2) (aCons (eVar 3) (aNil))))))) (sRet (eTup (aCons (eVar 0) (aCons (eTup (aNil)) (aNil))))) (sNil)) (sRet (eTup (aCons (eCall 4 [] m_lane_turned (aCons (eVar 0) (aCons (eVar 1) (aCons (eC (.int 7)) (aCons (eC (.bool true)) (aNil)))))) (aCons (eTup (aCons (eTup (aCons (eC (.str "raised")) (aCons (eBin gIx (eVar 0) (eC (.int 0))) (aCons (eVar 1) (aCons (eVar 2) (aNil)))))) (aNil))) (aNil))))))
def m_look_at_lane : List D → Option D := runD 5 F_look_at_lane
theorem ok_look_at_lane {kws : List (Str × V)} {f : Addr}  {fd : FuncData} (C : Tc mg) (c_lane_turned : PFn P w K mg base T 2 "lane_turned" 4 [] m_lane_turned) (c_is_due : PFn P w K mg base T 1 "is_due" 3 [] m_is_due)  (Fd : FnP K mg "look_at_lane" s_look_at_lane kws f fd) : FnOk P w K mg base L2.CX0 3 f fd ["value", "lane", "clock", "bounds"] (spD T 4 m_look_at_lane) :=
  pure_ok (N := N_look_at_lane) (F := F_look_at_lane) Fd.1 sc_look_at_lane rfl fun cdv A outer s H E hr =>
    ds_cons (ds_set (i := 4) sc_look_at_lane.nd (de_ix (de_ix (dv 0) (de_gint C.c_LANES_AT) (fun _ _ => rfl)) (dv 1) (fun _ _ => rfl))) (ds_cons (ds_if (dt_not (dt_val (de_call c_is_due hr (by decide) (da_cons (de_tup (da_cons (de_len C.n_len (da_cons (de_ix (dv 4) (de_gint C.c_BOX_AT) (fun _ _ => rfl)) (da_nil))) (da_cons (de_ix (dv 4) (de_gint C.c_SINCE_AT) (fun _ _ => rfl)) (da_cons (de_ix (dv 4) (de_gint C.c_MASKED_AT) (fun _ _ => rfl)) (da_nil))))) (da_cons (dv 2) (da_cons (dv 3) (da_nil))))))) (ds_one (ds_ret (de_tup (da_cons (dv 0) (da_cons (de_tup (da_nil)) (da_nil)))))) (ds_nil)) (ds_one (ds_ret (de_tup (da_cons (de_call c_lane_turned hr (by decide) (da_cons (dv 0) (da_cons (dv 1) (da_cons (de_gint C.c_MASKED_AT) (da_cons (de_bl) (da_nil)))))) (da_cons (de_tup (da_cons (de_tup (da_cons (de_str) (da_cons (de_ix (dv 0) (de_gint C.c_HALF_AT) (fun _ _ => rfl)) (da_cons (dv 1) (da_cons (dv 2) (da_nil)))))) (da_nil))) (da_nil)))))))
abbrev N_polled : List Str := ["value", "memory", "lane", "budget", "own", "later", "half", "taken", "left", "one"]
theorem sc_polled : FnScope N_polled ["value", "memory", "lane", "budget"] (defScope s_polled) := ⟨rfl, rfl, rfl, by decide +kernel, rfl, by decide +kernel, by decide +kernel⟩
def F_polled : Stm :=
  sSeq (sSet 4 (eBin gIx (eBin gIx (eVar 0) (eC (.int 1))) (eVar 2))) (sSeq (sPar 7 8 (aCons (eSl (eBin gIx (eVar 4) (eC (.int 5))) (pNo) (pSo (eVar 3))) (aCons (eSl (eBin gIx (eVar 4) (eC (.int 5))) (pSo (eVar 3)) (pNo)) (aNil)))) (sSeq (sSet 5 (eCall 4 [] m_lane_turned (aCons (eVar 0) (aCons (eVar 2) (aCons (eC (.int 5)) (aCons (eVar 8) (aNil))))))) (sSeq (sIf (tOf (eBin gEq (eVar 8) (eTup (aNil)))) (sSet 5 (eCall 4 [] m_lane_turned (aCons (eVar 5) (aCons (eVar 2) (aCons (eC (.int 6)) (aCons (eC .none) (aNil))))))) (sNil)) (sSeq (sSet 6 (eBin gIx (eVar 0) (eC (.int 0)))) (sRet (eTup (aCons (eVar 5) (aCons (eVar 1) (aCons (eTupL (lTup 9 (eVar 7) (eTup (aCons (eC (.str "took")) (aCons (eVar 6) (aCons (eVar 2) (aCons (eVar 9) (aCons (eCall 2 [] m_words_at (aCons (eVar 1) (aCons (eBin gIx (eVar 9) (eC (.int 2))) (aNil)))) (aNil))))))))) (aNil))))))))))
def m_polled : List D → Option D := runD 10 F_polled
theorem ok_polled {kws : List (Str × V)} {f : Addr}  {fd : FuncData} (C : Tc mg) (c_words_at : PFn P w K mg base T 2 "words_at" 2 [] m_words_at) (c_lane_turned : PFn P w K mg base T 2 "lane_turned" 4 [] m_lane_turned)  (Fd : FnP K mg "polled" s_polled kws f fd) : FnOk P w K mg base L2.CX0 3 f fd ["value", "memory", "lane", "budget"] (spD T 4 m_polled) :=
  pure_ok (N := N_polled) (F := F_polled) Fd.1 sc_polled rfl fun cdv A outer s H E hr =>
    ds_cons (ds_set (i := 4) sc_polled.nd (de_ix (de_ix (dv 0) (de_gint C.c_LANES_AT) (fun _ _ => rfl)) (dv 2) (fun _ _ => rfl))) (ds_cons (ds_par (i := 7) (j := 8) rfl sc_polled.nd (da_cons (de_sl (de_ix (dv 4) (de_gint C.c_BOX_AT) (fun _ _ => rfl)) (do_none) (do_some (dv 3))) (da_cons (de_sl (de_ix (dv 4) (de_gint C.c_BOX_AT) (fun _ _ => rfl)) (do_some (dv 3)) (do_none)) (da_nil)))) (ds_cons (ds_set (i := 5) sc_polled.nd (de_call c_lane_turned hr (by decide) (da_cons (dv 0) (da_cons (dv 2) (da_cons (de_gint C.c_BOX_AT) (da_cons (dv 8) (da_nil))))))) (ds_cons (ds_if (dt_cmp (op_eqD hr.units) od_eq (dv 8) (de_tup (da_nil)) (nomark _)) (ds_one (ds_set (i := 5) sc_polled.nd (de_call c_lane_turned hr (by decide) (da_cons (dv 5) (da_cons (dv 2) (da_cons (de_gint C.c_SINCE_AT) (da_cons (de_non) (da_nil)))))))) (ds_nil)) (ds_cons (ds_set (i := 6) sc_polled.nd (de_ix (dv 0) (de_gint C.c_HALF_AT) (fun _ _ => rfl))) (ds_one (ds_ret (de_tup (da_cons (dv 5) (da_cons (dv 1) (da_cons (de_tupL C.n_tuple (de_lcTup (own := [("one", 9)]) rfl sc_polled.nd (dv 7) (blkOk_by (own := [("one", 9)]) (N := N_polled) (sc := defScope s_polled) (by decide +kernel)) (fun _ _ _ _ _ => pg_name (i := 9) sc_polled.nd rfl (Or.inl rfl)) (fun _ _ _ _ _ => de_tup (da_cons (de_str) (da_cons (dv 6) (da_cons (dv 2) (da_cons (dv 9) (da_cons (de_call c_words_at hr (by decide) (da_cons (dv 1) (da_cons (de_ix (dv 9) (de_int) (fun _ _ => rfl)) (da_nil)))) (da_nil))))))))) (da_nil)))))))))))
abbrev N_unmasked : List Str := ["value", "memory", "lane", "clock", "most", "wait", "own", "later", "events"]
theorem sc_unmasked : FnScope N_unmasked ["value", "memory", "lane", "clock", "most", "wait"] (defScope s_unmasked) := ⟨rfl, rfl, rfl, by decide +kernel, rfl, by decide +kernel, by decide +kernel⟩
def F_unmasked : Stm :=
  sSeq (sPar 6 7 (aCons (eBin gIx (eBin gIx (eVar 0) (eC (.int 1))) (eVar 2)) (aCons (eVar 0) (aNil)))) (sSeq (sIf (tOf (eBin gIx (eVar 6) (eC (.int 7)))) (sSeq (sSet 7 (eCall 4 [] m_lane_turned (aCons (eVar 7) (aCons (eVar 2) (aCons (eC (.int 7)) (aCons (eC (.bool false)) (aNil))))))) (sSet 7 (eCall 4 [] m_lane_turned (aCons (eVar 7) (aCons (eVar 2) (aCons (eC (.int 6)) (aCons (eIf (tOf (eBin gEq (eBin gIx (eVar 6) (eC (.int 5))) (eTup (aNil)))) (eC .none) (eVar 3)) (aNil)))))))) (sNil)) (sSeq (sAsg (eCall 4 [] m_look_at_lane (aCons (eVar 7) (aCons (eVar 2) (aCons (eVar 3) (aCons (eTup (aCons (eVar 4) (aCons (eVar 5) (aNil)))) (aNil)))))) (uTup 2 (uCons (uName 7) (uCons (uName 8) (uNil))))) (sRet (eTup (aCons (eVar 7) (aCons (eVar 1) (aCons (eBin gAdd (eTup (aCons (eTup (aCons (eC (.str "unmasked")) (aCons (eBin gIx (eVar 0) (eC (.int 0))) (aCons (eVar 2) (aNil))))) (aNil))) (eVar 8)) (aNil))))))))
def m_unmasked : List D → Option D := runD 9 F_unmasked
theorem ok_unmasked {kws : List (Str × V)} {f : Addr}  {fd : FuncData} (C : Tc mg) (c_look_at_lane : PFn P w K mg base T 3 "look_at_lane" 4 [] m_look_at_lane) (c_lane_turned : PFn P w K mg base T 2 "lane_turned" 4 [] m_lane_turned)  (Fd : FnP K mg "unmasked" s_unmasked kws f fd) : FnOk P w K mg base L2.CX0 4 f fd ["value", "memory", "lane", "clock", "most", "wait"] (spD T 6 m_unmasked) :=
  pure_ok (N := N_unmasked) (F := F_unmasked) Fd.1 sc_unmasked rfl fun cdv A outer s H E hr =>
    ds_cons (ds_par (i := 6) (j := 7) rfl sc_unmasked.nd (da_cons (de_ix (de_ix (dv 0) (de_gint C.c_LANES_AT) (fun _ _ => rfl)) (dv 2) (fun _ _ => rfl)) (da_cons (dv 0) (da_nil)))) (ds_cons (ds_if (dt_val (de_ix (dv 6) (de_gint C.c_MASKED_AT) (fun _ _ => rfl))) (ds_cons (ds_set (i := 7) sc_unmasked.nd (de_call c_lane_turned hr (by decide) (da_cons (dv 7) (da_cons (dv 2) (da_cons (de_gint C.c_MASKED_AT) (da_cons (de_bl) (da_nil))))))) (ds_one (ds_set (i := 7) sc_unmasked.nd (de_call c_lane_turned hr (by decide) (da_cons (dv 7) (da_cons (dv 2) (da_cons (de_gint C.c_SINCE_AT) (da_cons (de_if (dt_cmp (op_eqD hr.units) od_eq (de_ix (dv 6) (de_gint C.c_BOX_AT) (fun _ _ => rfl)) (de_tup (da_nil)) (nomark _)) (de_non) (dv 3)) (da_nil))))))))) (ds_nil)) (ds_cons (ds_asg (de_call c_look_at_lane hr (by decide) (da_cons (dv 7) (da_cons (dv 2) (da_cons (dv 3) (da_cons (de_tup (da_cons (dv 4) (da_cons (dv 5) (da_nil)))) (da_nil)))))) (dg_tup rfl (dgs_cons (dg_name (i := 7) sc_unmasked.nd) (dgs_cons (dg_name (i := 8) sc_unmasked.nd) (dgs_nil))))) (ds_one (ds_ret (de_tup (da_cons (dv 7) (da_cons (dv 1) (da_cons (de_bin op_addAny od_add (de_tup (da_cons (de_tup (da_cons (de_str) (da_cons (de_ix (dv 0) (de_gint C.c_HALF_AT) (fun _ _ => rfl)) (da_cons (dv 2) (da_nil))))) (da_nil))) (dv 8)) (da_nil)))))))))
abbrev N_ticked : List Str := ["value", "memory", "clock", "most", "wait", "lane", "later", "events", "more"]
theorem sc_ticked : FnScope N_ticked ["value", "memory", "clock", "most", "wait"] (defScope s_ticked) := ⟨rfl, rfl, rfl, by decide +kernel, rfl, by decide +kernel, by decide +kernel⟩
def F_ticked : Stm :=
  sSeq (sPar 6 7 (aCons (eCall 3 [] m_turned_at (aCons (eVar 0) (aCons (eC (.int 7)) (aCons (eCall 2 [.int 1] m_purse_filled (aCons (eBin gIx (eVar 0) (eC (.int 7))) (aNil))) (aNil))))) (aCons (eTup (aNil)) (aNil)))) (sSeq (sForR 5 (aCons (eCB gLen (aCons (eBin gIx (eVar 0) (eC (.int 1))) (aNil))) (aNil)) (sSeq (sAsg (eCall 4 [] m_look_at_lane (aCons (eVar 6) (aCons (eVar 5) (aCons (eVar 2) (aCons (eTup (aCons (eVar 3) (aCons (eVar 4) (aNil)))) (aNil)))))) (uTup 2 (uCons (uName 6) (uCons (uName 8) (uNil))))) (sSet 7 (eBin gAdd (eVar 7) (eVar 8))))) (sRet (eTup (aCons (eVar 6) (aCons (eVar 1) (aCons (eVar 7) (aNil)))))))
def m_ticked : List D → Option D := runD 9 F_ticked
theorem ok_ticked {kws : List (Str × V)} {f : Addr}  {fd : FuncData} (C : Tc mg) (c_look_at_lane : PFn P w K mg base T 3 "look_at_lane" 4 [] m_look_at_lane) (c_purse_filled : PFn P w K mg base T 4 "purse_filled" 2 [.int 1] m_purse_filled) (c_turned_at : PFn P w K mg base T 1 "turned_at" 3 [] m_turned_at)  (Fd : FnP K mg "ticked" s_ticked kws f fd) : FnOk P w K mg base L2.CX0 5 f fd ["value", "memory", "clock", "most", "wait"] (spD T 5 m_ticked) :=
  pure_ok (N := N_ticked) (F := F_ticked) Fd.1 sc_ticked rfl fun cdv A outer s H E hr =>
    ds_cons (ds_par (i := 6) (j := 7) rfl sc_ticked.nd (da_cons (de_call c_turned_at hr (by decide) (da_cons (dv 0) (da_cons (de_gint C.c_PURSE_AT) (da_cons (de_call c_purse_filled hr (by decide) (da_cons (de_ix (dv 0) (de_gint C.c_PURSE_AT) (fun _ _ => rfl)) (da_nil))) (da_nil))))) (da_cons (de_tup (da_nil)) (da_nil)))) (ds_cons (ds_forR (i := 5) rfl sc_ticked.nd PassesOwn.never C.n_range (da_cons (de_len C.n_len (da_cons (de_ix (dv 0) (de_gint C.c_LANES_AT) (fun _ _ => rfl)) (da_nil))) (da_nil)) (ds_cons (ds_asg (de_call c_look_at_lane hr (by decide) (da_cons (dv 6) (da_cons (dv 5) (da_cons (dv 2) (da_cons (de_tup (da_cons (dv 3) (da_cons (dv 4) (da_nil)))) (da_nil)))))) (dg_tup rfl (dgs_cons (dg_name (i := 6) sc_ticked.nd) (dgs_cons (dg_name (i := 8) sc_ticked.nd) (dgs_nil))))) (ds_one (ds_set (i := 7) sc_ticked.nd (de_bin op_addAny od_add (dv 7) (dv 8)))))) (ds_one (ds_ret (de_tup (da_cons (dv 6) (da_cons (dv 1) (da_cons (dv 7) (da_nil))))))))
abbrev N_boxed : List Str := ["value", "lane", "completion", "clock", "own", "later"]
theorem sc_boxed : FnScope N_boxed ["value", "lane", "completion", "clock"] (defScope s_boxed) := ⟨rfl, rfl, rfl, by decide +kernel, rfl, by decide +kernel, by decide +kernel⟩
def F_boxed : Stm :=
  sSeq (sSet 4 (eBin gIx (eBin gIx (eVar 0) (eC (.int 1))) (eVar 1))) (sSeq (sSet 5 (eCall 4 [] m_lane_turned (aCons (eVar 0) (aCons (eVar 1) (aCons (eC (.int 5)) (aCons (eBin gAdd (eBin gIx (eVar 4) (eC (.int 5))) (eTup (aCons (eVar 2) (aNil)))) (aNil))))))) (sRet (eIf (tOf (eBin gEq (eBin gIx (eVar 4) (eC (.int 5))) (eTup (aNil)))) (eCall 4 [] m_lane_turned (aCons (eVar 5) (aCons (eVar 1) (aCons (eC (.int 6)) (aCons (eVar 3) (aNil)))))) (eVar 5))))
def m_boxed : List D → Option D := runD 6 F_boxed
theorem ok_boxed {kws : List (Str × V)} {f : Addr}  {fd : FuncData} (C : Tc mg) (c_lane_turned : PFn P w K mg base T 2 "lane_turned" 4 [] m_lane_turned)  (Fd : FnP K mg "boxed" s_boxed kws f fd) : FnOk P w K mg base L2.CX0 3 f fd ["value", "lane", "completion", "clock"] (spD T 4 m_boxed) :=
  pure_ok (N := N_boxed) (F := F_boxed) Fd.1 sc_boxed rfl fun cdv A outer s H E hr =>
    ds_cons (ds_set (i := 4) sc_boxed.nd (de_ix (de_ix (dv 0) (de_gint C.c_LANES_AT) (fun _ _ => rfl)) (dv 1) (fun _ _ => rfl))) (ds_cons (ds_set (i := 5) sc_boxed.nd (de_call c_lane_turned hr (by decide) (da_cons (dv 0) (da_cons (dv 1) (da_cons (de_gint C.c_BOX_AT) (da_cons (de_bin op_addAny od_add (de_ix (dv 4) (de_gint C.c_BOX_AT) (fun _ _ => rfl)) (de_tup (da_cons (dv 2) (da_nil)))) (da_nil))))))) (ds_one (ds_ret (de_if (dt_cmp (op_eqD hr.units) od_eq (de_ix (dv 4) (de_gint C.c_BOX_AT) (fun _ _ => rfl)) (de_tup (da_nil)) (nomark _)) (de_call c_lane_turned hr (by decide) (da_cons (dv 5) (da_cons (dv 1) (da_cons (de_gint C.c_SINCE_AT) (da_cons (dv 3) (da_nil)))))) (dv 5)))))
abbrev N_why_not : List Str := ["value", "rights", "stretch", "words"]
theorem sc_why_not : FnScope N_why_not ["value", "rights", "stretch", "words"] (defScope s_why_not) := ⟨rfl, rfl, rfl, by decide +kernel, rfl, by decide +kernel, by decide +kernel⟩
def F_why_not : Stm :=
  sSeq (sIf (tNt (tOf (eCall 3 [] m_owns_it (aCons (eVar 0) (aCons (eVar 1) (aCons (eVar 2) (aNil))))))) (sRet (eC (.str "fault"))) (sNil)) (sRet (eIf (tOf (eBin (gB2 fun i j => decide (i < j)) (eBin gIx (eVar 2) (eC (.int 2))) (eCB gLen (aCons (eVar 3) (aNil))))) (eC (.str "short")) (eC .none)))
def m_why_not : List D → Option D := runD 4 F_why_not
theorem ok_why_not {kws : List (Str × V)} {f : Addr}  {fd : FuncData} (C : Tc mg) (c_owns_it : PFn P w K mg base T 2 "owns_it" 3 [] m_owns_it)  (Fd : FnP K mg "why_not" s_why_not kws f fd) : FnOk P w K mg base L2.CX0 3 f fd ["value", "rights", "stretch", "words"] (spD T 4 m_why_not) :=
  pure_ok (N := N_why_not) (F := F_why_not) Fd.1 sc_why_not rfl fun cdv A outer s H E hr =>
    ds_cons (ds_if (dt_not (dt_val (de_call c_owns_it hr (by decide) (da_cons (dv 0) (da_cons (dv 1) (da_cons (dv 2) (da_nil))))))) (ds_one (ds_ret (de_str))) (ds_nil)) (ds_one (ds_ret (de_if (dt_cmp op_lt od_b2 (de_ix (dv 2) (de_int) (fun _ _ => rfl)) (de_len C.n_len (da_cons (dv 3) (da_nil))) (nomark _)) (de_str) (de_non))))
abbrev N_by_talk : List Str := ["pairs", "talk", "lacking"]
theorem sc_by_talk : FnScope N_by_talk ["pairs", "talk", "lacking"] (defScope s_by_talk) := ⟨rfl, rfl, rfl, by decide +kernel, rfl, by decide +kernel, by decide +kernel⟩
def F_by_talk : Stm :=
  sRet (eGetN (eVar 0) (eVar 1) (eVar 2))
def m_by_talk : List D → Option D := runD 3 F_by_talk
theorem ok_by_talk {kws : List (Str × V)} {f : Addr}  {fd : FuncData} (C : Tc mg)   (Fd : FnP K mg "by_talk" s_by_talk kws f fd) : FnOk P w K mg base L2.CX0 1 f fd ["pairs", "talk", "lacking"] (spD T 3 m_by_talk) :=
  pure_ok (N := N_by_talk) (F := F_by_talk) Fd.1 sc_by_talk rfl fun cdv A outer s H E hr =>
    ds_one (ds_ret (de_getN rfl hr.units C.n_dict (dv 0) (dv 1) (dv 2)))
abbrev N_lane_of : List Str := ["steering", "talk", "lanes"]
theorem sc_lane_of : FnScope N_lane_of ["steering", "talk", "lanes"] (defScope s_lane_of) := ⟨rfl, rfl, rfl, by decide +kernel, rfl, by decide +kernel, by decide +kernel⟩
def F_lane_of : Stm :=
  sRet (eGetN (eVar 0) (eVar 1) (eBin gMod (eCall 1 [] m_mix_of (aCons (eVar 1) (aNil))) (eVar 2)))
def m_lane_of : List D → Option D := runD 3 F_lane_of
theorem ok_lane_of {kws : List (Str × V)} {f : Addr}  {fd : FuncData} (C : Tc mg) (c_mix_of : PFn P w K mg base T 1 "mix_of" 1 [] m_mix_of)  (Fd : FnP K mg "lane_of" s_lane_of kws f fd) : FnOk P w K mg base L2.CX0 2 f fd ["steering", "talk", "lanes"] (spD T 3 m_lane_of) :=
  pure_ok (N := N_lane_of) (F := F_lane_of) Fd.1 sc_lane_of rfl fun cdv A outer s H E hr =>
    ds_one (ds_ret (de_getN rfl hr.units C.n_dict (dv 0) (dv 1) (de_bin op_modN od_mod (de_call c_mix_of hr (by decide) (da_cons (dv 1) (da_nil))) (dv 2))))
end
end CR
/-! CrP3 -/
set_option maxHeartbeats 4000000
namespace CR
open PySem PySem.Spec L2
open PyProof.Rows hiding St
section
variable {P : Program} {w : World} {K : PySem.W.Frag} {mg : Str → Option Value} {base : Heap} {T : List (Addr × Str)}
abbrev N_put_in : List Str := ["ring", "thing", "size", "made", "done", "things"]
theorem sc_put_in : FnScope N_put_in ["ring", "thing"] (defScope s_put_in) := ⟨rfl, rfl, rfl, by decide +kernel, rfl, by decide +kernel, by decide +kernel⟩
def F_put_in : DEnv → Option ResX :=
  gXc (sAsg (eVar 0) (uTup 4 (uCons (uName 2) (uCons (uName 3) (uCons (uName 4) (uCons (uName 5) (uNil))))))) (gXi (tOf (eBin gEq (eCall 1 [] m_held_in (aCons (eVar 0) (aNil))) (eVar 2))) (sRet (eTup (aCons (eVar 2) (aCons (eCall 3 [.int 1] m_count_on (aCons (eVar 3) (aCons (eVar 2) (aNil)))) (aCons (eVar 4) (aCons (eCall 3 [] m_laid (aCons (eVar 5) (aCons (eBin gMod (eVar 3) (eVar 2)) (aCons (eVar 1) (aNil))))) (aNil))))))))
def m_put_in : List D → Option RX := runX 6 F_put_in
theorem ok_put_in {kws : List (Str × V)} {f : Addr} {C_NoPlace : Addr} {fd : FuncData} (C : Tc mg) (c_held_in : PFn P w K mg base T 2 "held_in" 1 [] m_held_in) (c_laid : PFn P w K mg base T 1 "laid" 3 [] m_laid) (c_count_on : PFn P w K mg base T 1 "count_on" 3 [.int 1] m_count_on) (e_NoPlace : PEx P w K mg base "NoPlace" C_NoPlace) (Fd : FnP K mg "put_in" s_put_in kws f fd) : FnOk P w K mg base (L2.CX P w) 3 f fd ["ring", "thing"] (spRD T 2 C_NoPlace "full" m_put_in) :=
  raise_ok (N := N_put_in) (F := F_put_in) Fd.1 sc_put_in rfl fun cdv A outer s H E hr =>
    dx_cons (ds_asg (dv 0) (dg_tup rfl (dgs_cons (dg_name (i := 2) sc_put_in.nd) (dgs_cons (dg_name (i := 3) sc_put_in.nd) (dgs_cons (dg_name (i := 4) sc_put_in.nd) (dgs_cons (dg_name (i := 5) sc_put_in.nd) (dgs_nil))))))) (dx_if (dt_cmp (op_eqD hr.units) od_eq (de_call c_held_in hr (by decide) (da_cons (dv 0) (da_nil))) (dv 2) (nomark _)) (ps_raiseD rfl e_NoPlace (takes_of rfl rfl rfl rfl) (hr.mono (by decide))) (ds_one (ds_ret (de_tup (da_cons (dv 2) (da_cons (de_call c_count_on hr (by decide) (da_cons (dv 3) (da_cons (dv 2) (da_nil)))) (da_cons (dv 4) (da_cons (de_call c_laid hr (by decide) (da_cons (dv 5) (da_cons (de_bin op_modN od_mod (dv 3) (dv 2)) (da_cons (dv 1) (da_nil))))) (da_nil)))))))))
abbrev N_take_out : List Str := ["ring", "size", "made", "done", "things"]
theorem sc_take_out : FnScope N_take_out ["ring"] (defScope s_take_out) := ⟨rfl, rfl, rfl, by decide +kernel, rfl, by decide +kernel, by decide +kernel⟩
def F_take_out : DEnv → Option ResX :=
  gXc (sAsg (eVar 0) (uTup 4 (uCons (uName 1) (uCons (uName 2) (uCons (uName 3) (uCons (uName 4) (uNil))))))) (gXi (tOf (eBin gEq (eCall 1 [] m_held_in (aCons (eVar 0) (aNil))) (eC (.int 0)))) (sRet (eTup (aCons (eTup (aCons (eVar 1) (aCons (eVar 2) (aCons (eCall 3 [.int 1] m_count_on (aCons (eVar 3) (aCons (eVar 1) (aNil)))) (aCons (eCall 3 [] m_laid (aCons (eVar 4) (aCons (eBin gMod (eVar 3) (eVar 1)) (aCons (eC .none) (aNil))))) (aNil)))))) (aCons (eBin gIx (eVar 4) (eBin gMod (eVar 3) (eVar 1))) (aNil))))))
def m_take_out : List D → Option RX := runX 5 F_take_out
theorem ok_take_out {kws : List (Str × V)} {f : Addr} {C_NoPlace : Addr} {fd : FuncData} (C : Tc mg) (c_held_in : PFn P w K mg base T 2 "held_in" 1 [] m_held_in) (c_laid : PFn P w K mg base T 1 "laid" 3 [] m_laid) (c_count_on : PFn P w K mg base T 1 "count_on" 3 [.int 1] m_count_on) (e_NoPlace : PEx P w K mg base "NoPlace" C_NoPlace) (Fd : FnP K mg "take_out" s_take_out kws f fd) : FnOk P w K mg base (L2.CX P w) 3 f fd ["ring"] (spRD T 1 C_NoPlace "void" m_take_out) :=
  raise_ok (N := N_take_out) (F := F_take_out) Fd.1 sc_take_out rfl fun cdv A outer s H E hr =>
    dx_cons (ds_asg (dv 0) (dg_tup rfl (dgs_cons (dg_name (i := 1) sc_take_out.nd) (dgs_cons (dg_name (i := 2) sc_take_out.nd) (dgs_cons (dg_name (i := 3) sc_take_out.nd) (dgs_cons (dg_name (i := 4) sc_take_out.nd) (dgs_nil))))))) (dx_if (dt_cmp (op_eqD hr.units) od_eq (de_call c_held_in hr (by decide) (da_cons (dv 0) (da_nil))) (de_int) (nomark _)) (ps_raiseD rfl e_NoPlace (takes_of rfl rfl rfl rfl) (hr.mono (by decide))) (ds_one (ds_ret (de_tup (da_cons (de_tup (da_cons (dv 1) (da_cons (dv 2) (da_cons (de_call c_count_on hr (by decide) (da_cons (dv 3) (da_cons (dv 1) (da_nil)))) (da_cons (de_call c_laid hr (by decide) (da_cons (dv 4) (da_cons (de_bin op_modN od_mod (dv 3) (dv 1)) (da_cons (de_non) (da_nil))))) (da_nil)))))) (da_cons (de_ix (dv 4) (de_bin op_modN od_mod (dv 3) (dv 1)) (fun _ _ => rfl)) (da_nil)))))))
abbrev N_oldest_posted : List Str := ["value", "lane", "found", "ring", "stretch"]
theorem sc_oldest_posted : FnScope N_oldest_posted ["value", "lane"] (defScope s_oldest_posted) := ⟨rfl, rfl, rfl, by decide +kernel, rfl, by decide +kernel, by decide +kernel⟩
def F_oldest_posted : Stm :=
  sSeq (sSet 2 (eC .none)) (sSeq (sTry 2 1 m_take_out (aCons (eBin gIx (eBin gIx (eBin gIx (eVar 0) (eC (.int 1))) (eVar 1)) (eC (.int 4))) (aNil))) (sSeq (sIf (tOf (eBin gIsN (eVar 2) (eC .none))) (sRet (eC .none)) (sNil)) (sSeq (sAsg (eVar 2) (uTup 2 (uCons (uName 3) (uCons (uName 4) (uNil))))) (sRet (eTup (aCons (eCall 4 [] m_lane_turned (aCons (eVar 0) (aCons (eVar 1) (aCons (eC (.int 4)) (aCons (eVar 3) (aNil)))))) (aCons (eVar 4) (aNil))))))))
def m_oldest_posted : List D → Option D := runD 5 F_oldest_posted
theorem ok_oldest_posted {kws : List (Str × V)} {f : Addr} {C_NoPlace : Addr} {fd : FuncData} (C : Tc mg) (c_lane_turned : PFn P w K mg base T 2 "lane_turned" 4 [] m_lane_turned) (c_take_out : PFx P w K mg base T 3 "take_out" 1 C_NoPlace "void" m_take_out)  (g_NoPlace : mg "NoPlace" = some (.ref C_NoPlace)) (m_NoPlace : PySem.W.exmOne K (.ref C_NoPlace) (.ref C_NoPlace) = some true) (Fd : FnP K mg "oldest_posted" s_oldest_posted kws f fd) : FnOk P w K mg base L2.CX0 4 f fd ["value", "lane"] (spD T 2 m_oldest_posted) :=
  pure_ok (N := N_oldest_posted) (F := F_oldest_posted) Fd.1 sc_oldest_posted rfl fun cdv A outer s H E hr =>
    ds_cons (ds_set (i := 2) sc_oldest_posted.nd (de_non)) (ds_cons (ds_try (i := 2) sc_oldest_posted.nd rfl rfl g_NoPlace m_NoPlace c_take_out hr (by decide) (fun _ _ => da_cons (de_ix (de_ix (de_ix (dv 0) (de_gint C.c_LANES_AT) (fun _ _ => rfl)) (dv 1) (fun _ _ => rfl)) (de_gint C.c_INWARD_AT) (fun _ _ => rfl)) (da_nil))) (ds_cons (ds_if (dt_cmp op_isN od_isN (dv 2) (de_non) (nomark _)) (ds_one (ds_ret (de_non))) (ds_nil)) (ds_cons (ds_asg (dv 2) (dg_tup rfl (dgs_cons (dg_name (i := 3) sc_oldest_posted.nd) (dgs_cons (dg_name (i := 4) sc_oldest_posted.nd) (dgs_nil))))) (ds_one (ds_ret (de_tup (da_cons (de_call c_lane_turned hr (by decide) (da_cons (dv 0) (da_cons (dv 1) (da_cons (de_gint C.c_INWARD_AT) (da_cons (dv 3) (da_nil)))))) (da_cons (dv 4) (da_nil)))))))))
abbrev N_put_or_full : List Str := ["ring", "thing", "found"]
theorem sc_put_or_full : FnScope N_put_or_full ["ring", "thing"] (defScope s_put_or_full) := ⟨rfl, rfl, rfl, by decide +kernel, rfl, by decide +kernel, by decide +kernel⟩
def F_put_or_full : DEnv → Option ResX :=
  gXc (sSet 2 (eC .none)) (gXc (sTry 2 2 m_put_in (aCons (eVar 0) (aCons (eVar 1) (aNil)))) (gXi (tOf (eBin gIsN (eVar 2) (eC .none))) (sRet (eVar 2))))
def m_put_or_full : List D → Option RX := runX 3 F_put_or_full
theorem ok_put_or_full {kws : List (Str × V)} {f : Addr} {C_NoPlace : Addr} {C_NoStep : Addr} {fd : FuncData} (C : Tc mg) (c_put_in : PFx P w K mg base T 3 "put_in" 2 C_NoPlace "full" m_put_in) (e_NoStep : PEx P w K mg base "NoStep" C_NoStep) (g_NoPlace : mg "NoPlace" = some (.ref C_NoPlace)) (m_NoPlace : PySem.W.exmOne K (.ref C_NoPlace) (.ref C_NoPlace) = some true) (Fd : FnP K mg "put_or_full" s_put_or_full kws f fd) : FnOk P w K mg base (L2.CX P w) 4 f fd ["ring", "thing"] (spRD T 2 C_NoStep "full" m_put_or_full) :=
  raise_ok (N := N_put_or_full) (F := F_put_or_full) Fd.1 sc_put_or_full rfl fun cdv A outer s H E hr =>
    dx_cons (ds_set (i := 2) sc_put_or_full.nd (de_non)) (dx_cons (ds_try (i := 2) sc_put_or_full.nd rfl rfl g_NoPlace m_NoPlace c_put_in hr (by decide) (fun _ _ => da_cons (dv 0) (da_cons (dv 1) (da_nil)))) (dx_if (dt_cmp op_isN od_isN (dv 2) (de_non) (nomark _)) (ps_raiseD rfl e_NoStep (takes_of rfl rfl rfl rfl) (hr.mono (by decide))) (ds_one (ds_ret (dv 2)))))
abbrev N_posts : List Str := ["value", "memory", "lane", "stretch", "ring"]
theorem sc_posts : FnScope N_posts ["value", "memory", "lane", "stretch"] (defScope s_posts) := ⟨rfl, rfl, rfl, by decide +kernel, rfl, by decide +kernel, by decide +kernel⟩
def F_posts : DEnv → Option ResX :=
  gXx (gXs 4 2 m_put_or_full (aCons (eBin gIx (eBin gIx (eBin gIx (eVar 0) (eC (.int 1))) (eVar 2)) (eC (.int 4))) (aCons (eVar 3) (aNil)))) (sRet (eTup (aCons (eCall 4 [] m_lane_turned (aCons (eVar 0) (aCons (eVar 2) (aCons (eC (.int 4)) (aCons (eVar 4) (aNil)))))) (aCons (eVar 1) (aCons (eTup (aCons (eTup (aCons (eC (.str "posted")) (aCons (eBin gIx (eVar 0) (eC (.int 0))) (aCons (eVar 2) (aCons (eVar 3) (aNil)))))) (aNil))) (aNil))))))
def m_posts : List D → Option RX := runX 5 F_posts
theorem ok_posts {kws : List (Str × V)} {f : Addr} {C_NoStep : Addr} {fd : FuncData} (C : Tc mg) (c_put_or_full : PFx P w K mg base T 4 "put_or_full" 2 C_NoStep "full" m_put_or_full) (c_lane_turned : PFn P w K mg base T 2 "lane_turned" 4 [] m_lane_turned)  (Fd : FnP K mg "posts" s_posts kws f fd) : FnOk P w K mg base (L2.CX P w) 5 f fd ["value", "memory", "lane", "stretch"] (spRD T 4 C_NoStep "full" m_posts) :=
  raise_ok (N := N_posts) (F := F_posts) Fd.1 sc_posts rfl fun cdv A outer s H E hr =>
    dx_consX (dx_set (i := 4) sc_posts.nd (takes_of rfl rfl rfl rfl) c_put_or_full hr (by decide) (da_cons (de_ix (de_ix (de_ix (dv 0) (de_gint C.c_LANES_AT) (fun _ _ => rfl)) (dv 2) (fun _ _ => rfl)) (de_gint C.c_INWARD_AT) (fun _ _ => rfl)) (da_cons (dv 3) (da_nil)))) (ds_one (ds_ret (de_tup (da_cons (de_call c_lane_turned hr (by decide) (da_cons (dv 0) (da_cons (dv 2) (da_cons (de_gint C.c_INWARD_AT) (da_cons (dv 4) (da_nil)))))) (da_cons (dv 1) (da_cons (de_tup (da_cons (de_tup (da_cons (de_str) (da_cons (de_ix (dv 0) (de_gint C.c_HALF_AT) (fun _ _ => rfl)) (da_cons (dv 2) (da_cons (dv 3) (da_nil)))))) (da_nil))) (da_nil)))))))
end
end CR
/-! CrW -/
set_option maxHeartbeats 4000000
namespace CR
open PySem PySem.Spec L2
open PyProof.Rows hiding St
/-- a def whose code object is known -/
structure FunC (K : PySem.W.Frag) (x qual : Str) (params : Arguments) (body : List Stmt) (scope : Scope) (dvs : List V) (kws : List (Str × V)) (f : Addr) (fd : FuncData) (c : Addr) : Prop where
  ex : ∃ (oc : Value) (od : Option Addr) (dV kV doc pm : Value) (an : Option Addr) (ct : Value) (osl : Array (Option Value)),
    fd = PySem.W.fnOf x qual params body scope dV kV doc pm an (.ref c) ct ∧ K.lookup f = some ⟨oc, od, .func fd, osl⟩ ∧ PySem.W.codeIn K (.ref c) qual = true
theorem FunC.ok {P : Program} {w : World} {K : PySem.W.Frag} {mg : Str → Option Value} {base : Heap} {x qual : Str} {params : Arguments} {body : List Stmt} {scope : Scope} {dvs : List V} {kws : List (Str × V)} {f c : Addr} {fd : FuncData} {CX : CXT} {N ps : List Str} {k : Nat} {sp : Sp} (F : FunC K x qual params body scope dvs kws f fd c) (S : FnScope N ps scope) (len : ∀ vs H Q E, sp vs H Q E → vs.length = ps.length)
    (hbody : ∀ (A : Around) (outer : List Env) (s : Shared) (H : Hp) (vs : List V) (Q : VK) (E : XK), Room k (A.deeper (envOfC qual scope s.heap.objs.size f (.ref c))) → sp vs H Q E →
      ∃ t, PSs (cxOf CX P w K mg base N qual scope f (.ref c) A outer s H E) body t ∧ t { nx := fun _ H' => Q .non H', rt := Q } (start N vs) H) : FnOk P w K mg base CX (k + 1) f fd ps sp := by
  obtain ⟨oc, od, dV, kV, doc, pm, an, ct, osl, rfl, lk, hcd⟩ := F.ex
  exact fn_of lk hcd S len fun A outer s H vs Q E hr hsp => hbody A outer s H vs Q E hr hsp
def okKeys (r : List (NK × D)) : Bool := (r.all fun p => r.all fun q => PySem.W.alike p.1.data q.1.data) && r.all fun p => match p.1 with
  | .tup (_ :: _) => true
  | _ => false
def m_with_talk : List D → Option D
  | [.list ps, t, y] => (kvOf ps).bind fun kvs => (nkOf t).bind fun k => if (kvs.length < 1000 ∧ isTupK k = true ∧ k.depth ≤ 8) ∧ okKeys (dset (dall [] kvs) k y) = true then some (.list ((srt (dset (dall [] kvs) k y)).map pairD)) else none
  | _ => none
theorem m_with_talk_some {ds : List D} {d : D} (h : m_with_talk ds = some d) : ∃ ps t y kvs k, ds = [.list ps, t, y] ∧ kvOf ps = some kvs ∧ nkOf t = some k ∧ kvs.length < 1000 ∧ isTupK k = true ∧ k.depth ≤ 8 ∧ okKeys (dset (dall [] kvs) k y) = true ∧ d = .list ((srt (dset (dall [] kvs) k y)).map pairD) := by
  unfold m_with_talk at h
  split at h
  · obtain ⟨kvs, hk, h⟩ := Option.bind_eq_some_iff.mp h
    obtain ⟨k, hkk, h⟩ := Option.bind_eq_some_iff.mp h
    obtain ⟨⟨⟨h1, h2, h3⟩, h4⟩, h⟩ := ite_get h
    cases h
    exact ⟨_, _, _, kvs, k, rfl, hk, hkk, h1, h2, h3, h4, rfl⟩
  · cases h
abbrev qWT : Str := "with_talk.<locals>.<lambda>"
abbrev N_with_talk : List Str := ["pairs", "talk", "thing", "found"]
theorem sc_with_talk : FnScope N_with_talk ["pairs", "talk", "thing"] (defScope s_with_talk) := ⟨rfl, rfl, rfl, by decide +kernel, rfl, by decide +kernel, by decide +kernel⟩
section
variable {P : Program} {w : World} {K : PySem.W.Frag} {mg : Str → Option Value} {base : Heap} {T : List (Addr × Str)}
theorem ok_with_talk {kws : List (Str × V)} {f c Pt : Addr} {fd : FuncData} (C : Tc mg) (Fd : FunC K "with_talk" "with_talk" (defArgs s_with_talk) (defBody s_with_talk) (defScope s_with_talk) [] kws f fd c) (TB : LamX.TabB base mg c Pt) (hmT : (Pt, qWT) ∈ T) (hu : ∀ p ∈ T, p.1 = Pt → p.2 = qWT) :
    FnOk P w K mg base L2.CX0 1 f fd ["pairs", "talk", "thing"] (spD T 3 m_with_talk) :=
  Fd.ok sc_with_talk (fun vs H Q E ⟨ds, d, h1, _, h2, _⟩ => by rw [h2.length, h1]; rfl) fun A outer s H vs Q E hr h => by
    obtain ⟨ds, d, h1, t, h2, h3, q⟩ := h
    obtain ⟨ps, tk, y, kvs, k, rfl, hk, hkk, hl, ht, hd, hok, rfl⟩ := m_with_talk_some h3
    have hnd := sc_with_talk.nd
    refine ⟨_, pss_cons (ps_set (i := 3) hnd rfl (Or.inl rfl) (pe_callTy (cr_dictN rfl hr.units) rfl C.n_dict (by decide +kernel) (pa_cons (pe_var (i := 0) rfl (Or.inl rfl)) pa_nil)))
      (pss_cons (ps_asg (pe_var (i := 2) rfl (Or.inl rfl)) (pg_sub (pe_var (i := 3) rfl (Or.inl rfl)) (pe_var (i := 1) rfl (Or.inl rfl)) (pset_N hr.units)))
      (pss_one (ps_ret (pe_callTy call_tupleP rfl C.n_tuple (by decide +kernel) (pa_cons (pe_sortN (T := T) rfl hr.units hr.depth C.n_sorted (pe_bn0 PySem.F.slot_dict_items PySem.F.type_dict_items mt_itemsN (pe_var (i := 3) rfl (Or.inl rfl))) TB rfl hmT hu rfl (fun y hy e => by obtain rfl := List.mem_singleton.mp hy; cases e) (fun _ _ _ _ _ _ => rfl) rfl rfl rfl rfl (by decide +kernel)) pa_nil))))), ?_⟩
    cases h2 with
    | @cons v1 _ _ _ i1 h2 =>
      cases h2 with
      | @cons v2 _ _ _ i2 h2 =>
        cases h2 with
        | @cons v3 _ _ _ i3 h2 =>
          cases h2
          rw [← nkOf_data _ _ hkk] at i2
          obtain ⟨b, rfl⟩ := tupK_ref ht i2
          refine ⟨v1, rfl, v1, ps, kvs, rfl, i1, hk, Nat.le_of_lt hl, fun d o hn iN ho => ?_⟩
          have e1 : Ext T H (upd H d o) := .new hn
          have hlen : (dall [] kvs).length < 1000 := by
            have := dall_len kvs []
            rw [List.length_nil] at this
            omega
          refine ⟨v3, rfl, .ref d, rfl, .ref b, rfl, d, dall [] kvs, b, k, y, rfl, rfl, iN, e1.is i2, hd, e1.is i3, hlen, fun o' ho' iN' _ _ => ?_⟩
          rw [upd_upd] at iN' ⊢
          have e2 : Ext T H (upd H d o') := .new hn
          unfold okKeys at hok
          rw [Bool.and_eq_true, List.all_eq_true, List.all_eq_true] at hok
          refine ⟨.ref d, rfl, isDN_of iN', d, _, rfl, rfl, iN', fun p hp => ⟨p, d, _, rfl, upd_same, iN'.mono (tups_new hp) (upd_ne (ne_of_none (o := o') upd_same hp)), ?_, ?_, (e2.trans (.new hp)).tabs t, fun l H2 xs e3 hl2 i4 => ?_⟩⟩
          · intro x hx z hz
            obtain ⟨x', hx', rfl⟩ := List.mem_map.mp hx
            obtain ⟨z', hz', rfl⟩ := List.mem_map.mp hz
            exact List.all_eq_true.mp (hok.1 x' hx') z' hz'
          · intro x hx
            have := hok.2 x hx
            split at this
            · rename_i a b e
              exact ⟨a, b, e⟩
            · cases this
          · refine ⟨l, xs, rfl, .of hl2, fun l2 ob hn2 hod => q _ _ (((e2.trans (.new hp)).trans e3).trans (.new hn2)) (.pl upd_same hod (i4.mono (tups_new hn2)))⟩
end
end CR
/-! CrP4 -/
set_option maxHeartbeats 4000000
namespace CR
open PySem PySem.Spec L2
open PyProof.Rows hiding St
section
variable {P : Program} {w : World} {K : PySem.W.Frag} {mg : Str → Option Value} {base : Heap} {T : List (Addr × Str)}
abbrev N_takes_whole : List Str := ["value", "memory", "rights", "letter", "times", "found", "why", "place", "later", "clock", "most", "wait", "talk", "number", "words", "half", "lane", "stretch", "events"]
theorem sc_takes_whole : FnScope N_takes_whole ["value", "memory", "rights", "letter", "times"] (defScope s_takes_whole) := ⟨rfl, rfl, rfl, by decide +kernel, rfl, by decide +kernel, by decide +kernel⟩
def F_takes_whole : Stm :=
  sSeq (sAsg (eVar 4) (uTup 3 (uCons (uName 9) (uCons (uName 10) (uCons (uName 11) (uNil)))))) (sSeq (sAsg (eVar 3) (uTup 3 (uCons (uName 12) (uCons (uName 13) (uCons (uName 14) (uNil)))))) (sSeq (sPar 15 16 (aCons (eBin gIx (eVar 0) (eC (.int 0))) (aCons (eCallK 2 (["lanes"] : List Str).length m_lane_of (aCons (eBin gIx (eVar 0) (eC (.int 6))) (aCons (eVar 12) (aNil))) (aCons (eCB gLen (aCons (eBin gIx (eVar 0) (eC (.int 1))) (aNil))) (aNil))) (aNil)))) (sSeq (sSet 5 (eCall 2 [] m_oldest_posted (aCons (eVar 0) (aCons (eVar 16) (aNil))))) (sSeq (sIf (tOf (eBin gIsN (eVar 5) (eC .none))) (sRet (eTup (aCons (eVar 0) (aCons (eVar 1) (aCons (eTup (aCons (eTup (aCons (eC (.str "missed")) (aCons (eVar 15) (aCons (eVar 12) (aCons (eVar 13) (aCons (eC (.str "none")) (aNil))))))) (aNil))) (aNil)))))) (sNil)) (sSeq (sAsg (eVar 5) (uTup 2 (uCons (uName 8) (uCons (uName 17) (uNil))))) (sSeq (sSet 6 (eCall 4 [] m_why_not (aCons (eVar 0) (aCons (eVar 2) (aCons (eVar 17) (aCons (eVar 14) (aNil))))))) (sSeq (sIf (tOf (eBin gNotN (eVar 6) (eC .none))) (sRet (eTup (aCons (eVar 8) (aCons (eVar 1) (aCons (eTup (aCons (eTup (aCons (eC (.str "missed")) (aCons (eVar 15) (aCons (eVar 12) (aCons (eVar 13) (aCons (eVar 6) (aNil))))))) (aCons (eTup (aCons (eC (.str "returned")) (aCons (eVar 15) (aCons (eVar 16) (aCons (eVar 17) (aNil)))))) (aNil)))) (aNil)))))) (sNil)) (sSeq (sSet 7 (eTup (aCons (eBin gIx (eVar 17) (eC (.int 0))) (aCons (eBin gIx (eVar 17) (eC (.int 1))) (aCons (eCB gLen (aCons (eVar 14) (aNil))) (aNil)))))) (sSeq (sSet 8 (eCall 4 [] m_boxed (aCons (eVar 8) (aCons (eVar 16) (aCons (eTup (aCons (eVar 12) (aCons (eVar 13) (aCons (eVar 7) (aCons (eVar 9) (aNil)))))) (aCons (eVar 9) (aNil))))))) (sSeq (sAsg (eCall 4 [] m_look_at_lane (aCons (eVar 8) (aCons (eVar 16) (aCons (eVar 9) (aCons (eTup (aCons (eVar 10) (aCons (eVar 11) (aNil)))) (aNil)))))) (uTup 2 (uCons (uName 8) (uCons (uName 18) (uNil))))) (sRet (eTup (aCons (eVar 8) (aCons (eCall 3 [] m_written (aCons (eVar 1) (aCons (eVar 17) (aCons (eVar 14) (aNil))))) (aCons (eBin gAdd (eTup (aCons (eTup (aCons (eC (.str "filled")) (aCons (eVar 15) (aCons (eVar 16) (aCons (eVar 12) (aCons (eVar 13) (aNil))))))) (aNil))) (eVar 18)) (aNil))))))))))))))))
def m_takes_whole : List D → Option D := runD 19 F_takes_whole
theorem ok_takes_whole {kws : List (Str × V)} {f : Addr}  {fd : FuncData} (C : Tc mg) (c_written : PFn P w K mg base T 2 "written" 3 [] m_written) (c_look_at_lane : PFn P w K mg base T 3 "look_at_lane" 4 [] m_look_at_lane) (c_boxed : PFn P w K mg base T 3 "boxed" 4 [] m_boxed) (c_why_not : PFn P w K mg base T 3 "why_not" 4 [] m_why_not) (c_oldest_posted : PFn P w K mg base T 4 "oldest_posted" 2 [] m_oldest_posted) (c_lane_of : PFk P w K mg base T 2 "lane_of" 2 ["lanes"] m_lane_of)  (Fd : FnP K mg "takes_whole" s_takes_whole kws f fd) : FnOk P w K mg base L2.CX0 5 f fd ["value", "memory", "rights", "letter", "times"] (spD T 5 m_takes_whole) :=
  pure_ok (N := N_takes_whole) (F := F_takes_whole) Fd.1 sc_takes_whole rfl fun cdv A outer s H E hr =>
    ds_cons (ds_asg (dv 4) (dg_tup rfl (dgs_cons (dg_name (i := 9) sc_takes_whole.nd) (dgs_cons (dg_name (i := 10) sc_takes_whole.nd) (dgs_cons (dg_name (i := 11) sc_takes_whole.nd) (dgs_nil)))))) (ds_cons (ds_asg (dv 3) (dg_tup rfl (dgs_cons (dg_name (i := 12) sc_takes_whole.nd) (dgs_cons (dg_name (i := 13) sc_takes_whole.nd) (dgs_cons (dg_name (i := 14) sc_takes_whole.nd) (dgs_nil)))))) (ds_cons (ds_par (i := 15) (j := 16) rfl sc_takes_whole.nd (da_cons (de_ix (dv 0) (de_gint C.c_HALF_AT) (fun _ _ => rfl)) (da_cons (de_callK c_lane_of hr (by decide) (da_cons (de_ix (dv 0) (de_gint C.c_STEERS_AT) (fun _ _ => rfl)) (da_cons (dv 12) (da_nil))) (dk_cons (de_len C.n_len (da_cons (de_ix (dv 0) (de_gint C.c_LANES_AT) (fun _ _ => rfl)) (da_nil))) (dk_nil))) (da_nil)))) (ds_cons (ds_set (i := 5) sc_takes_whole.nd (de_call c_oldest_posted hr (by decide) (da_cons (dv 0) (da_cons (dv 16) (da_nil))))) (ds_cons (ds_if (dt_cmp op_isN od_isN (dv 5) (de_non) (nomark _)) (ds_one (ds_ret (de_tup (da_cons (dv 0) (da_cons (dv 1) (da_cons (de_tup (da_cons (de_tup (da_cons (de_str) (da_cons (dv 15) (da_cons (dv 12) (da_cons (dv 13) (da_cons (de_str) (da_nil))))))) (da_nil))) (da_nil))))))) (ds_nil)) (ds_cons (ds_asg (dv 5) (dg_tup rfl (dgs_cons (dg_name (i := 8) sc_takes_whole.nd) (dgs_cons (dg_name (i := 17) sc_takes_whole.nd) (dgs_nil))))) (ds_cons (ds_set (i := 6) sc_takes_whole.nd (de_call c_why_not hr (by decide) (da_cons (dv 0) (da_cons (dv 2) (da_cons (dv 17) (da_cons (dv 14) (da_nil))))))) (ds_cons (ds_if (dt_cmp op_notN od_notN (dv 6) (de_non) (nomark _)) (ds_one (ds_ret (de_tup (da_cons (dv 8) (da_cons (dv 1) (da_cons (de_tup (da_cons (de_tup (da_cons (de_str) (da_cons (dv 15) (da_cons (dv 12) (da_cons (dv 13) (da_cons (dv 6) (da_nil))))))) (da_cons (de_tup (da_cons (de_str) (da_cons (dv 15) (da_cons (dv 16) (da_cons (dv 17) (da_nil)))))) (da_nil)))) (da_nil))))))) (ds_nil)) (ds_cons (ds_set (i := 7) sc_takes_whole.nd (de_tup (da_cons (de_ix (dv 17) (de_int) (fun _ _ => rfl)) (da_cons (de_ix (dv 17) (de_int) (fun _ _ => rfl)) (da_cons (de_len C.n_len (da_cons (dv 14) (da_nil))) (da_nil)))))) (ds_cons (ds_set (i := 8) sc_takes_whole.nd (de_call c_boxed hr (by decide) (da_cons (dv 8) (da_cons (dv 16) (da_cons (de_tup (da_cons (dv 12) (da_cons (dv 13) (da_cons (dv 7) (da_cons (dv 9) (da_nil)))))) (da_cons (dv 9) (da_nil))))))) (ds_cons (ds_asg (de_call c_look_at_lane hr (by decide) (da_cons (dv 8) (da_cons (dv 16) (da_cons (dv 9) (da_cons (de_tup (da_cons (dv 10) (da_cons (dv 11) (da_nil)))) (da_nil)))))) (dg_tup rfl (dgs_cons (dg_name (i := 8) sc_takes_whole.nd) (dgs_cons (dg_name (i := 18) sc_takes_whole.nd) (dgs_nil))))) (ds_one (ds_ret (de_tup (da_cons (dv 8) (da_cons (de_call c_written hr (by decide) (da_cons (dv 1) (da_cons (dv 17) (da_cons (dv 14) (da_nil))))) (da_cons (de_bin op_addAny od_add (de_tup (da_cons (de_tup (da_cons (de_str) (da_cons (dv 15) (da_cons (dv 16) (da_cons (dv 12) (da_cons (dv 13) (da_nil))))))) (da_nil))) (dv 18)) (da_nil)))))))))))))))))
abbrev N_comes_in : List Str := ["value", "memory", "rights", "piece", "clock", "most", "wait", "half", "talk", "joining", "word", "lost", "letter", "later", "events", "more"]
theorem sc_comes_in : FnScope N_comes_in ["value", "memory", "rights", "piece", "clock", "most", "wait"] (defScope s_comes_in) := ⟨rfl, rfl, rfl, by decide +kernel, rfl, by decide +kernel, by decide +kernel⟩
def F_comes_in : Stm :=
  sSeq (sPar 7 8 (aCons (eBin gIx (eVar 0) (eC (.int 0))) (aCons (eBin gIx (eVar 3) (eC (.int 1))) (aNil)))) (sSeq (sAsg (eCall 2 [] m_came_of (aCons (eCall 3 [] m_by_talk (aCons (eBin gIx (eVar 0) (eC (.int 4))) (aCons (eVar 8) (aCons (eC .none) (aNil))))) (aCons (eVar 3) (aNil)))) (uTup 4 (uCons (uName 9) (uCons (uName 10) (uCons (uName 11) (uCons (uName 12) (uNil))))))) (sSeq (sPar 13 14 (aCons (eCall 3 [] m_turned_at (aCons (eVar 0) (aCons (eC (.int 4)) (aCons (eCall 3 [] m_with_talk (aCons (eBin gIx (eVar 0) (eC (.int 4))) (aCons (eVar 8) (aCons (eVar 9) (aNil))))) (aNil))))) (aCons (eTup (aNil)) (aNil)))) (sSeq (sIf (tOf (eBin gIn (eVar 10) (eTup (aCons (eC (.str "sum")) (aCons (eC (.str "elder")) (aCons (eC (.str "cut")) (aNil))))))) (sSet 14 (eTup (aCons (eTup (aCons (eC (.str "dropped")) (aCons (eVar 7) (aCons (eVar 3) (aCons (eVar 10) (aNil)))))) (aNil)))) (sNil)) (sSeq (sIf (tOf (eBin gNotN (eVar 11) (eC .none))) (sSet 14 (eBin gAdd (eVar 14) (eTup (aCons (eTup (aCons (eC (.str "missed")) (aCons (eVar 7) (aCons (eVar 8) (aCons (eVar 11) (aCons (eC (.str "cut")) (aNil))))))) (aNil))))) (sNil)) (sSeq (sIf (tOf (eBin gIsN (eVar 12) (eC .none))) (sRet (eTup (aCons (eVar 13) (aCons (eVar 1) (aCons (eVar 14) (aNil)))))) (sNil)) (sSeq (sAsg (eCall 5 [] m_takes_whole (aCons (eVar 13) (aCons (eVar 1) (aCons (eVar 2) (aCons (eVar 12) (aCons (eTup (aCons (eVar 4) (aCons (eVar 5) (aCons (eVar 6) (aNil))))) (aNil))))))) (uTup 3 (uCons (uName 13) (uCons (uName 1) (uCons (uName 15) (uNil)))))) (sRet (eTup (aCons (eVar 13) (aCons (eVar 1) (aCons (eBin gAdd (eVar 14) (eVar 15)) (aNil))))))))))))
def m_comes_in : List D → Option D := runD 16 F_comes_in
theorem ok_comes_in {kws : List (Str × V)} {f : Addr}  {fd : FuncData} (C : Tc mg) (c_takes_whole : PFn P w K mg base T 5 "takes_whole" 5 [] m_takes_whole) (c_with_talk : PFn P w K mg base T 1 "with_talk" 3 [] m_with_talk) (c_turned_at : PFn P w K mg base T 1 "turned_at" 3 [] m_turned_at) (c_by_talk : PFn P w K mg base T 1 "by_talk" 3 [] m_by_talk) (c_came_of : PFn P w K mg base T 3 "came_of" 2 [] m_came_of)  (Fd : FnP K mg "comes_in" s_comes_in kws f fd) : FnOk P w K mg base L2.CX0 6 f fd ["value", "memory", "rights", "piece", "clock", "most", "wait"] (spD T 7 m_comes_in) :=
  pure_ok (N := N_comes_in) (F := F_comes_in) Fd.1 sc_comes_in rfl fun cdv A outer s H E hr =>
    ds_cons (ds_par (i := 7) (j := 8) rfl sc_comes_in.nd (da_cons (de_ix (dv 0) (de_gint C.c_HALF_AT) (fun _ _ => rfl)) (da_cons (de_ix (dv 3) (de_int) (fun _ _ => rfl)) (da_nil)))) (ds_cons (ds_asg (de_call c_came_of hr (by decide) (da_cons (de_call c_by_talk hr (by decide) (da_cons (de_ix (dv 0) (de_gint C.c_JOININGS_AT) (fun _ _ => rfl)) (da_cons (dv 8) (da_cons (de_non) (da_nil))))) (da_cons (dv 3) (da_nil)))) (dg_tup rfl (dgs_cons (dg_name (i := 9) sc_comes_in.nd) (dgs_cons (dg_name (i := 10) sc_comes_in.nd) (dgs_cons (dg_name (i := 11) sc_comes_in.nd) (dgs_cons (dg_name (i := 12) sc_comes_in.nd) (dgs_nil))))))) (ds_cons (ds_par (i := 13) (j := 14) rfl sc_comes_in.nd (da_cons (de_call c_turned_at hr (by decide) (da_cons (dv 0) (da_cons (de_gint C.c_JOININGS_AT) (da_cons (de_call c_with_talk hr (by decide) (da_cons (de_ix (dv 0) (de_gint C.c_JOININGS_AT) (fun _ _ => rfl)) (da_cons (dv 8) (da_cons (dv 9) (da_nil))))) (da_nil))))) (da_cons (de_tup (da_nil)) (da_nil)))) (ds_cons (ds_if (dt_cmp op_in_seq od_in (dv 10) (de_tup (da_cons (de_str) (da_cons (de_str) (da_cons (de_str) (da_nil))))) (by rfl)) (ds_one (ds_set (i := 14) sc_comes_in.nd (de_tup (da_cons (de_tup (da_cons (de_str) (da_cons (dv 7) (da_cons (dv 3) (da_cons (dv 10) (da_nil)))))) (da_nil))))) (ds_nil)) (ds_cons (ds_if (dt_cmp op_notN od_notN (dv 11) (de_non) (nomark _)) (ds_one (ds_set (i := 14) sc_comes_in.nd (de_bin op_addAny od_add (dv 14) (de_tup (da_cons (de_tup (da_cons (de_str) (da_cons (dv 7) (da_cons (dv 8) (da_cons (dv 11) (da_cons (de_str) (da_nil))))))) (da_nil)))))) (ds_nil)) (ds_cons (ds_if (dt_cmp op_isN od_isN (dv 12) (de_non) (nomark _)) (ds_one (ds_ret (de_tup (da_cons (dv 13) (da_cons (dv 1) (da_cons (dv 14) (da_nil))))))) (ds_nil)) (ds_cons (ds_asg (de_call c_takes_whole hr (by decide) (da_cons (dv 13) (da_cons (dv 1) (da_cons (dv 2) (da_cons (dv 12) (da_cons (de_tup (da_cons (dv 4) (da_cons (dv 5) (da_cons (dv 6) (da_nil))))) (da_nil))))))) (dg_tup rfl (dgs_cons (dg_name (i := 13) sc_comes_in.nd) (dgs_cons (dg_name (i := 1) sc_comes_in.nd) (dgs_cons (dg_name (i := 15) sc_comes_in.nd) (dgs_nil)))))) (ds_one (ds_ret (de_tup (da_cons (dv 13) (da_cons (dv 1) (da_cons (de_bin op_addAny od_add (dv 14) (dv 15)) (da_nil)))))))))))))
end
end CR
/-! CrR -/
set_option maxHeartbeats 4000000
namespace CR
open PySem PySem.Spec L2
open PyProof.Rows hiding St
/-! y = []; for x in range(a): z = e; y.append(c); return tuple(y) -/
def colD (i k : Nat) (fe fc : DEnv → Option D) : Nat → Nat → DEnv → Option (List D)
  | _, 0, _ => some []
  | m, n + 1, ρ => (fe (ρ.set i (some (.int (m : Int))))).bind fun d => (fc ((ρ.set i (some (.int (m : Int)))).set k (some d))).bind fun c => (colD i k fe fc (m + 1) n ((ρ.set i (some (.int (m : Int)))).set k (some d))).map (c :: ·)
def sCol (i jf k : Nat) (fn : DEnv → Option (List D)) (fe fc : DEnv → Option D) : Stm := fun ρ => (fn (ρ.set jf none)).bind fun ds => match ds with
  | [.int n] => if (0 ≤ n ∧ n ≤ 1000) ∧ jf < ρ.length then (colD i k fe fc 0 n.toNat (ρ.set jf none)).map fun cs => .rt (.tuple cs) else none
  | _ => none
theorem colD_len {i k : Nat} {fe fc : DEnv → Option D} : ∀ {n m : Nat} {ρ : DEnv} {cs : List D}, colD i k fe fc m n ρ = some cs → cs.length = n
  | 0, _, _, _, h => by cases h; rfl
  | n + 1, m, ρ, cs, h => by
    unfold colD at h
    obtain ⟨d, h1, h⟩ := Option.bind_eq_some_iff.mp h
    obtain ⟨c, h2, h⟩ := Option.bind_eq_some_iff.mp h
    obtain ⟨r, h3, rfl⟩ := Option.map_eq_some_iff.mp h
    rw [List.length_cons, colD_len h3]
section
variable {X : Cx} {T : List (Addr × Str)}
theorem ds_col {i jf k : Nat} {x y z : Str} {fn : DEnv → Option (List D)} {fe fc : DEnv → Option D} {a e c : Expr} {p1 p2 p3 px p pos2 pz pe pf pa pc pex pos pt pn pp pr : Pos} (hc : X.calm = true) (hN : X.N.Nodup) (hp : PassesOwn (model X.prog X.w) X.A X.env X.xe) (hm : X.mg "range" = none) (hmt : X.mg "tuple" = none) (ha : PA X [a] (tDA T fn)) (he : PE X e (tD T fe)) (hcc : PE X c (tD T fc))
    (nij : i ≠ jf) (nkj : k ≠ jf) (hg : Gl X "range" := by rfl) (hgt : Gl X "tuple" := by rfl) (hi : X.N[i]? = some x := by rfl) (hj : X.N[jf]? = some y := by rfl) (hk : X.N[k]? = some z := by rfl)
    (hx : X.env.scope.names.lookup x = some .local := by rfl) (hy : X.env.scope.names.lookup y = some .local := by rfl) (hz : X.env.scope.names.lookup z = some .local := by rfl) (hdy : (y == ("__debug__" : Str)) = false := by decide) (hdc : (y == ("__classdict__" : Str)) = false := by decide)
    (hst : starEach [a] X.env = [(false, eval a X.env)] := by rfl)
    (hs : ∀ y, foldedSetIterable (.Call (.Name "range" p) [a] [] pos2) X.env y = pure y := by intro _; rfl)
    (hs1 : swapsWith (.List [] p2) (some (.Name y p1)) p3.line X.env = pure false := by rfl) (hs2 : swapsWith e (some (.Name z pz)) pe.line X.env = pure false := by rfl) (hs3 : swapsWith (.Call (.Attribute (.Name y pf) "append" pa) [c] [] pc) none pex.line X.env = pure false := by rfl)
    (hbase : attributeBase (.Name y pf) "append" X.env (eval (.Name y pf) X.env) = eval (.Name y pf) X.env := by rfl)
    (hfew : ((backTo pc (starEach (c :: []) X.env)).all (fun x => !x.1) && (backToKw pc (keywordEach [] X.env)).all (fun x => x.1.isSome)
      && decide ((c :: []).length + ([] : List Keyword).length + (if ([] : List Keyword).isEmpty then 0 else 1) < 30)) = true := by rfl)
    (hline : (pa.endLine == pc.line) = true := by rfl) (hsc : starEach (c :: []) X.env = (false, eval c X.env) :: starEach [] X.env := by rfl) (hplain : (backTo pc (starEach [] X.env)).any (·.1) = false := by rfl)
    (hst2 : starEach (.Name y pn :: []) X.env = (false, eval (.Name y pn) X.env) :: starEach [] X.env := by rfl) (hpl2 : (backTo pp (starEach [] X.env)).any (·.1) = false := by rfl) :
    PSs X [.Assign [.Name y p1] (.List [] p2) p3, .For (.Name x px) (.Call (.Name "range" p) [a] [] pos2) [.Assign [.Name z pz] e pe, .Expr (.Call (.Attribute (.Name y pf) "append" pa) [c] [] pc) pex] [] pos,
      .Return (some (.Call (.Name "tuple" pt) [.Name y pn] [] pp)) pr] (tSD T (sCol i jf k fn fe fc)) := by
  have pv : ∀ pos, PE X (.Name y pos) (tVar jf) := fun pos => pe_var (i := jf) hj (Or.inl hy) hdy hdc
  refine pss_weak (pss_cons (ps_set hN hj (Or.inl hy) (pe_lst pa_nil) hs1 (.inr hy)) (pss_cons (ps_for hp hc (pi_range1 hg hm ha hst) (pg_name hN hi (Or.inl hx) (.inr hx)) (pss_cons (ps_set hN hk (Or.inl hz) he hs2 (.inr hz)) (pss_one (ps_expr (pe_bm PySem.F.plainAttrs_list PySem.F.slot_list_append PySem.F.type_list_append mt_append (pv _) (pa_cons hcc pa_nil hsc) hbase hfew hline hsc hplain) hs3))) hs)
    (pss_one (ps_ret (pe_callTy call_tuple_of hgt hmt (by decide +kernel) (pa_cons (pv _) pa_nil hst2) (by decide) (by decide) hst2 hpl2))))) fun E σ H ⟨ρ, r, t, en, zz, q⟩ => ?_
  obtain ⟨ds, hd, zz⟩ := Option.bind_eq_some_iff.mp zz
  split at zz
  · rename_i n
    obtain ⟨⟨hn, hjr⟩, zz⟩ := ite_get (c := (0 ≤ n ∧ n ≤ 1000) ∧ jf < ρ.length) zz
    obtain ⟨cs, hcs, rfl⟩ := Option.map_eq_some_iff.mp zz
    refine ⟨Nat.zero_le _, fun l hl => ?_⟩
    have e0 : Ext T H (upd H l (.lst [])) := .new hl
    have en0 : EnvIs (upd H l (.lst [])) (σ.set jf (some (.ref l))) (ρ.set jf none) := (en.mono e0.tups).forget jf _
    have hjl : jf < σ.length := by rw [en.1]; exact hjr
    refine ⟨_, _, e0.tabs t, en0, hd, fun vs H1 e1 i1 => ?_⟩
    cases i1 with
    | cons a1 i2 =>
      cases i2
      have hl1 : H1 l = some (.lst []) := e1.keep l _ upd_same fun ps z => by cases z
      have eH1 : Ext T H H1 := e0.trans e1
      refine ⟨n, by rw [a1.intE], by omega, by omega, ?_⟩
      refine for_range (lo := 0) (n := n.toNat) (fun m σ' H' => ∃ ρ' acc done rest, Ext T H H' ∧ EnvIs H' σ' ρ' ∧ σ'[jf]? = some (some (.ref l)) ∧ H' l = some (.lst acc) ∧ IsAll H' acc done ∧ m ≤ n.toNat ∧ done.length = m ∧ colD i k fe fc m (n.toNat - m) ρ' = some rest ∧ cs = done ++ rest)
        ⟨ρ.set jf none, [], [], cs, eH1, en0.mono e1.tups, List.getElem?_set_self hjl, hl1, .nil, Nat.zero_le _, rfl, hcs, rfl⟩ ?_ ?_
      · rintro m σ' H' hm ⟨ρ', acc, done, rest, eH, en', hjj, hlst, hall, _, hdl, hcol, hcd⟩
        have e2 : n.toNat - m = (n.toNat - (m + 1)) + 1 := by omega
        rw [e2] at hcol
        unfold colD at hcol
        obtain ⟨d, h1, hcol⟩ := Option.bind_eq_some_iff.mp hcol
        obtain ⟨cc, h2, hcol⟩ := Option.bind_eq_some_iff.mp hcol
        obtain ⟨rr, h3, rfl⟩ := Option.map_eq_some_iff.mp hcol
        have en1 : EnvIs H' (σ'.set i (some (.int (0 + (m : Int))))) (ρ'.set i (some (.int (m : Int)))) := en'.set i (by rw [Int.zero_add]; exact .int _)
        have hj1 : (σ'.set i (some (.int (0 + (m : Int)))))[jf]? = some (some (.ref l)) := by rw [List.getElem?_set_ne nij]; exact hjj
        refine ⟨_, d, eH.tabs t, en1, h1, fun v H2 e3 i3 => ?_⟩
        have en2 := (en1.mono e3.tups).set k i3
        have hj2 : ((σ'.set i (some (.int (0 + (m : Int))))).set k (some v))[jf]? = some (some (.ref l)) := by rw [List.getElem?_set_ne nkj]; exact hj1
        have hl2 : H2 l = some (.lst acc) := e3.keep l _ hlst fun ps z => by cases z
        refine ⟨.ref l, hj2, .inl ⟨rfl, acc, .of hl2⟩, _, cc, (eH.trans e3).tabs t, en2, h2, fun v3 H3 e4 i4 => ?_⟩
        have hl3 : H3 l = some (.lst acc) := e4.keep l _ hl2 fun ps z => by cases z
        have hal3 : acc.length < sizeLine := by
          rw [hall.length, hdl]
          exact Nat.lt_of_lt_of_le (show m < 1000 by omega) (le_line (by decide))
        have tl := tups_lst (ys := acc ++ [v3]) hl3
        refine ⟨l, acc, v3, rfl, rfl, hl3, hal3, _, acc ++ [v3], done ++ [cc], rr, ((eH.trans e3).trans e4).turn hl hl3, (en2.mono e4.tups).mono tl, hj2, upd_same, (IsAll.append ((e3.trans e4).all hall) (.cons i4 .nil)).mono tl, hm, by simp [hdl], h3, by rw [hcd]; simp⟩
      · rintro σ' H' ⟨ρ', acc, done, rest, eH, en', hjj, hlst, hall, _, hdl, hcol, hcd⟩
        rw [Nat.sub_self] at hcol
        cases hcol
        rw [List.append_nil] at hcd
        subst hcd
        exact ⟨.ref l, hjj, l, acc, rfl, .inl ⟨.of hlst, fun l2 hl2 => q _ _ (eH.trans (.new hl2)) (.tup upd_same (hall.mono (tups_new hl2)))⟩⟩
  · cases zz
end
end CR
/-! CrP5 -/
set_option maxHeartbeats 4000000
namespace CR
open PySem PySem.Spec L2
open PyProof.Rows hiding St
section
variable {P : Program} {w : World} {K : PySem.W.Frag} {mg : Str → Option Value} {base : Heap} {T : List (Addr × Str)}
abbrev N_pieces_of : List Str := ["letter", "epoch", "cut", "parts", "found", "part", "talk", "number", "words", "own"]
theorem sc_pieces_of : FnScope N_pieces_of ["letter", "epoch", "cut"] (defScope s_pieces_of) := ⟨rfl, rfl, rfl, by decide +kernel, rfl, by decide +kernel, by decide +kernel⟩
def F_pieces_of : Stm :=
  sSeq (sAsg (eVar 0) (uTup 3 (uCons (uName 6) (uCons (uName 7) (uCons (uName 8) (uNil)))))) (sSeq (sSet 3 (eCB gMax (aCons (eC (.int 1)) (aCons (eBin gFd (eBin gSub (eBin gAdd (eCB gLen (aCons (eVar 8) (aNil))) (eVar 2)) (eC (.int 1))) (eVar 2)) (aNil))))) (sCol 5 4 9 (aCons (eVar 3) (aNil)) (eSl (eVar 8) (pSo (eBin gMul (eVar 5) (eVar 2))) (pSo (eBin gAdd (eBin gMul (eVar 5) (eVar 2)) (eVar 2)))) (eCall 1 [] m_summed (aCons (eTup (aCons (eVar 1) (aCons (eVar 6) (aCons (eVar 7) (aCons (eVar 5) (aCons (eVar 3) (aCons (eVar 9) (aCons (eC (.int 0)) (aNil))))))))) (aNil)))))
def m_pieces_of : List D → Option D := runD 10 F_pieces_of
theorem ok_pieces_of {kws : List (Str × V)} {f : Addr}  {fd : FuncData} (C : Tc mg) (c_summed : PFn P w K mg base T 2 "summed" 1 [] m_summed)  (Fd : FnP K mg "pieces_of" s_pieces_of kws f fd) : FnOk P w K mg base L2.CX0 3 f fd ["letter", "epoch", "cut"] (spD T 3 m_pieces_of) :=
  pure_ok (N := N_pieces_of) (F := F_pieces_of) Fd.1 sc_pieces_of rfl fun cdv A outer s H E hr =>
    ds_cons (ds_asg (dv 0) (dg_tup rfl (dgs_cons (dg_name (i := 6) sc_pieces_of.nd) (dgs_cons (dg_name (i := 7) sc_pieces_of.nd) (dgs_cons (dg_name (i := 8) sc_pieces_of.nd) (dgs_nil)))))) (ds_cons (ds_set (i := 3) sc_pieces_of.nd (de_max rfl C.n_max (da_cons (de_int) (da_cons (de_bin op_fdivN od_fd (de_bin op_sub od_i2 (de_bin op_addAny od_add (de_len C.n_len (da_cons (dv 8) (da_nil))) (dv 2)) (de_int)) (dv 2)) (da_nil))))) (ds_col (i := 5) (jf := 4) (k := 9) rfl sc_pieces_of.nd PassesOwn.never C.n_range C.n_tuple (da_cons (dv 3) (da_nil)) (de_sl (dv 8) (do_some (de_bin op_mul od_mul (dv 5) (dv 2))) (do_some (de_bin op_addAny od_add (de_bin op_mul od_mul (dv 5) (dv 2)) (dv 2)))) (de_call c_summed hr (by decide) (da_cons (de_tup (da_cons (dv 1) (da_cons (dv 6) (da_cons (dv 7) (da_cons (dv 5) (da_cons (dv 3) (da_cons (dv 9) (da_cons (de_int) (da_nil))))))))) (da_nil))) (by decide) (by decide)))
end
end CR
/-! CrL -/
set_option maxHeartbeats 4000000
namespace CR
open PySem PySem.Spec L2
open PyProof.Rows hiding St
/-! ### the law's own things: objects that change -/
structure Chg (T : List (Addr × Str)) (S : List Addr) (H H' : Hp) : Prop where
  keep : ∀ b o, H b = some o → b ∉ S → (∀ ps, o ≠ .tbl ps) → H' b = some o
  tabs : LamX.Tabs T H → LamX.Tabs T H'
  tups : Tups H H'
section
variable {T : List (Addr × Str)} {S S' : List Addr} {H H1 H2 : Hp}
theorem Ext.chg (e : Ext T H H1) : Chg T S H H1 := ⟨fun b o h _ n => e.keep b o h n, e.tabs, e.tups⟩
theorem Tups.trans (a : Tups H H1) (b : Tups H1 H2) : Tups H H2 := ⟨fun x xs h => b.1 _ _ (a.1 _ _ h), fun x o xs h => b.2 _ _ _ (a.2 _ _ _ h)⟩
theorem Chg.trans (a : Chg T S H H1) (b : Chg T S H1 H2) : Chg T S H H2 := ⟨fun x o h n t => b.keep x o (a.keep x o h n t) n t, fun t => b.tabs (a.tabs t), a.tups.trans b.tups⟩
theorem Chg.mono (a : Chg T S H H1) (h : ∀ x ∈ S, x ∈ S') : Chg T S' H H1 := ⟨fun x o e n t => a.keep x o e (fun q => n (h x q)) t, a.tabs, a.tups⟩
theorem Chg.refl : Chg T S H H := Ext.chg (.refl _ _)
theorem Chg.is (a : Chg T S H H1) {v : V} {d : D} (i : Is H v d) : Is H1 v d := i.mono a.tups
theorem Chg.all (a : Chg T S H H1) {vs : List V} {ds : List D} (i : IsAll H vs ds) : IsAll H1 vs ds := i.mono a.tups
/-- a dict with text keys is written -/
theorem tabs_dK {p : Addr} {kvs : List (Key × V)} {o : HO} (t : LamX.Tabs T H) (h : H p = some (.dK kvs)) : LamX.Tabs T (upd H p o) := by
  intro q hq
  obtain ⟨ps, h1, h2, h3⟩ := t q hq
  have n1 : q.1 ≠ p := fun e => by rw [e, h] at h1; cases h1
  refine ⟨ps, by rw [upd_ne n1]; exact h1, h2, fun pos cv hc => ?_⟩
  obtain ⟨c, e1, e2⟩ := h3 pos cv hc
  have n2 : c ≠ p := fun e => by rw [e, h] at e2; cases e2
  exact ⟨c, e1, by rw [upd_ne n2]; exact e2⟩
theorem tups_dK {p : Addr} {kvs : List (Key × V)} {o : HO} (h : H p = some (.dK kvs)) : Tups H (upd H p o) := ⟨fun a zs hz => by
  have n : a ≠ p := fun e => by rw [e, h] at hz; cases hz
  rw [upd_ne n]
  exact hz, fun a o zs hz => by
  have n : a ≠ p := fun e => by rw [e, h] at hz; cases hz
  rw [upd_ne n]
  exact hz⟩
theorem Chg.dK {p : Addr} {kvs : List (Key × V)} {o : HO} (h : H p = some (.dK kvs)) (hp : p ∈ S) : Chg T S H (upd H p o) := ⟨fun b u e n _ => by rw [upd_ne (fun z => n (by rw [z]; exact hp))]; exact e, fun t => tabs_dK t h, tups_dK h⟩
theorem Chg.lst {p : Addr} {xs ys : List V} (h : H p = some (.lst xs)) (hp : p ∈ S) : Chg T S H (upd H p (.lst ys)) := ⟨fun b u e n _ => by rw [upd_ne (fun z => n (by rw [z]; exact hp))]; exact e, fun t => tabs_lst t h, tups_lst h⟩
end
theorem rv {X : Cx} (i : Nat) {x : Str} {pos : Pos} (hN : X.N[i]? = some x := by rfl) (hv : Vis X.env.scope x := by first | exact Or.inl rfl | exact Or.inr (Or.inl rfl) | exact Or.inr (Or.inr rfl)) (hd : (x == ("__debug__" : Str)) = false := by decide) (hcd : (x == ("__classdict__" : Str)) = false := by decide) : PE X (.Name x pos) (tVar i) := pe_var hN hv hd hcd
/-! the feed -/
def feedK (c : Addr) (at_ left count : Int) : HO := .dK [(.inr "cells", .ref c), (.inr "at", .int at_), (.inr "left", .int left), (.inr "count", .int count)]
def Feed (H : Hp) (F c : Addr) (ns : List Int) : Prop := ∃ at_ left count, H F = some (feedK c at_ left count) ∧ H c = some (.lst (ns.map V.int))
theorem Feed.chg {T : List (Addr × Str)} {S : List Addr} {H H' : Hp} {F c : Addr} {ns : List Int} (f : Feed H F c ns) (h : Chg T S H H') (hF : F ∉ S) (hc : c ∉ S) : Feed H' F c ns := by
  obtain ⟨a, l, k, h1, h2⟩ := f
  exact ⟨a, l, k, h.keep _ _ h1 hF (fun ps z => by cases z), h.keep _ _ h2 hc (fun ps z => by cases z)⟩
theorem line15 {n : Nat} (h : n ≤ 1000 := by decide) : n ≤ sizeLine := le_line (Nat.le_trans h (by decide))
section
variable {H : Hp} {F c : Addr} {a l k x : Int}
theorem fg_cells (h : H F = some (feedK c a l k)) : DGet H F (.str "cells") (some (.ref c)) := DGet.k (k := .inr "cells") h
theorem fg_at (h : H F = some (feedK c a l k)) : DGet H F (.str "at") (some (.int a)) := DGet.k (k := .inr "at") h
theorem fg_left (h : H F = some (feedK c a l k)) : DGet H F (.str "left") (some (.int l)) := DGet.k (k := .inr "left") h
theorem fg_count (h : H F = some (feedK c a l k)) : DGet H F (.str "count") (some (.int k)) := DGet.k (k := .inr "count") h
theorem fp_at (h : H F = some (feedK c a l k)) : DPut H F (.str "at") (.int x) (upd H F (feedK c x l k)) := DPut.k (k := .inr "at") h (Nat.lt_of_lt_of_le (show 4 < 1000 by decide) (line15 (Nat.le_refl _)))
theorem fp_left (h : H F = some (feedK c a l k)) : DPut H F (.str "left") (.int x) (upd H F (feedK c a x k)) := DPut.k (k := .inr "left") h (Nat.lt_of_lt_of_le (show 4 < 1000 by decide) (line15 (Nat.le_refl _)))
theorem fp_count (h : H F = some (feedK c a l k)) : DPut H F (.str "count") (.int x) (upd H F (feedK c a l x)) := DPut.k (k := .inr "count") h (Nat.lt_of_lt_of_le (show 4 < 1000 by decide) (line15 (Nat.le_refl _)))
end
theorem asg_by {te : TE} {g : TG} {D : Ends} {σ : St} {H : Hp} (R : V → Hp → Prop) (h : ∀ Q : VK, (∀ x H', R x H' → Q x H') → te σ H Q) (k : ∀ x H', R x H' → g x σ H' D.nx) : tAsg te g D σ H := h _ (fun x H' r => k x H' r)
theorem asg_seq {te : TE} {g : TG} {u : TS} {D : Ends} {σ : St} {H : Hp} (R : V → Hp → Prop) (h : ∀ Q : VK, (∀ x H', R x H' → Q x H') → te σ H Q) (k : ∀ x H', R x H' → g x σ H' (u D)) : tSeq (tAsg te g) u D σ H := h _ (fun x H' r => k x H' r)
theorem atI_mod {xs : List V} {i : Int} (h : xs ≠ []) : ∃ v, atI xs (i.fmod (xs.length : Nat)) = some v ∧ v ∈ xs := by
  have hl : 0 < xs.length := List.length_pos_iff.mpr h
  have h1 : 0 ≤ i.fmod (xs.length : Nat) := Int.fmod_nonneg_of_pos _ (by omega)
  have h2 : i.fmod (xs.length : Nat) < (xs.length : Nat) := Int.fmod_lt_of_pos _ (by omega)
  have h3 : (i.fmod (xs.length : Nat)).toNat < xs.length := by omega
  refine ⟨xs[(i.fmod (xs.length : Nat)).toNat], ?_, List.getElem_mem h3⟩
  unfold atI ixN
  rw [if_pos h1, if_pos h2]
  simp [h3]
def spDraw (T : List (Addr × Str)) : Sp := fun vs H Q _ => ∃ F c ns m, vs = [.ref F, .int m] ∧ 1 ≤ m ∧ m ≤ 1000 ∧ Feed H F c ns ∧ LamX.Tabs T H ∧ ∀ r H', 0 ≤ r → r < m → Chg T [F] H H' → Feed H' F c ns → Q (.int r) H'
theorem dec18 : (10 : Int) ^ (18 : Int).toNat = 1000000000000000000 := by decide +kernel
abbrev N__law_draw : List Str := ["_law_feed_here", "_law_many", "_law_at", "_law_cell", "_law_mixed", "_law_figure"]
theorem sc__law_draw : FnScope N__law_draw ["_law_feed_here", "_law_many"] (defScope s__law_draw) := ⟨rfl, rfl, rfl, by decide +kernel, rfl, by decide +kernel, by decide +kernel⟩
section
variable {P : Program} {w : World} {K : PySem.W.Frag} {mg : Str → Option Value} {base : Heap} {T : List (Addr × Str)}
theorem dp_ints {H : Hp} : ∀ ns : List Int, DpAll K H (ns.map V.int) (ns.map PyData.int)
  | [] => .nil
  | n :: ns => .cons (.int n) (dp_ints ns)
theorem shaped_ints (ns : List Int) : SeqAt.shaped (.list (ns.map PyData.int)) = true := by
  have h1 : ∀ ns : List Int, PyData.canLayAll0 (ns.map PyData.int) = true := fun ns => by
    induction ns with
    | nil => rfl
    | cons n ns ih => simp [PyData.canLayAll0, PyData.canLay0, ih]
  have h2 : ∀ ns : List Int, PyData.depthAll (ns.map PyData.int) = 0 := fun ns => by
    induction ns with
    | nil => rfl
    | cons n ns ih => simp [PyData.depthAll, PyData.depth, ih]
  unfold SeqAt.shaped
  simp [PyData.canLay0, PyData.depth, h1, h2]
theorem ok_law_draw {kws : List (Str × V)} {f : Addr} {fd : FuncData} (C : Tc mg) (Fd : FnP K mg "_law_draw" s__law_draw kws f fd) : FnOk P w K mg base L2.CX0 1 f fd ["_law_feed_here", "_law_many"] (spDraw T) :=
  Fd.1.ok sc__law_draw (fun vs H Q E ⟨F, c, ns, m, h, _⟩ => by rw [h]; rfl) fun cdv A outer s H vs Q E hr h => by
    obtain ⟨F, c, ns, m, rfl, hm1, hm2, ⟨at_, left, count, hF, hc⟩, hT, q⟩ := h
    have hnd := sc__law_draw.nd
    have hu := hr.units
    have hu1 : (A.deeper (envOfC (Str.ofString "_law_draw") (defScope s__law_draw) s.heap.objs.size f cdv)).units + 1 < cLine := by omega
    refine ⟨_, pss_cons (ps_dput hu1 (rv 0) pe_str (pe_op op_add (pe_dget hu1 (rv 0) pe_str (fun _ _ => rfl)) (pe_int)) rfl) (pss_cons (ps_if (pt_cmpR op_gt (pe_dget hu1 (rv 0) pe_str (fun _ _ => rfl)) (pe_int) (nomark _)) (pss_cons (ps_set (i := 5) hnd rfl (by first | exact Or.inl rfl | exact Or.inr rfl) (pe_op op_modN (pe_dget hu1 (rv 0) pe_str (fun _ _ => rfl)) (rv 1))) (pss_cons (ps_dput hu1 (rv 0) pe_str (pe_op op_fdivN (pe_dget hu1 (rv 0) pe_str (fun _ _ => rfl)) (rv 1)) rfl) (pss_one (ps_ret (rv 5))))) (pss_nil)) (pss_cons (ps_set (i := 2) hnd rfl (by first | exact Or.inl rfl | exact Or.inr rfl) (pe_dget hu1 (rv 0) pe_str (fun _ _ => rfl))) (pss_cons (ps_dput hu1 (rv 0) pe_str (pe_op op_add (rv 2) (pe_int)) rfl) (pss_cons (ps_set (i := 3) hnd rfl (by first | exact Or.inl rfl | exact Or.inr rfl) (pe_ifExp (pt_cmpR (op_neD hu) (pe_dget hu1 (rv 0) pe_str (fun _ _ => rfl)) (pe_lst (pa_nil)) (nomark _)) (pe_ix (ix_seq) (pe_dget hu1 (rv 0) pe_str (fun _ _ => rfl)) (pe_op op_modN (rv 2) (pe_callB call_len_seq rfl C.n_len PySem.boot_len (pa_cons (pe_dget hu1 (rv 0) pe_str (fun _ _ => rfl)) (pa_nil)))) (fun _ _ => rfl)) (pe_int))) (pss_cons (ps_if (PW.pt (pw_and (pt_cmpR op_ge (rv 3) (pe_op op_pow (pe_int) (pe_int)) (nomark _)) (pw_and1 (pt_cmpR op_lt (rv 2) (pe_callB call_len_seq rfl C.n_len PySem.boot_len (pa_cons (pe_dget hu1 (rv 0) pe_str (fun _ _ => rfl)) (pa_nil))) (nomark _))))) (pss_cons (ps_dput hu1 (rv 0) pe_str (pe_op op_fdivN (rv 3) (rv 1)) rfl) (pss_one (ps_ret (pe_op op_modN (rv 3) (rv 1))))) (pss_nil)) (pss_cons (ps_set (i := 4) hnd rfl (by first | exact Or.inl rfl | exact Or.inr rfl) (pe_op op_modN (pe_op op_add (pe_op op_add (pe_op op_modN (rv 3) (pe_int)) (pe_op op_mul (pe_int) (pe_dget hu1 (rv 0) pe_str (fun _ _ => rfl)))) (pe_int)) (pe_int))) (pss_cons (ps_set (i := 4) hnd rfl (by first | exact Or.inl rfl | exact Or.inr rfl) (pe_op op_modN (pe_op op_add (pe_op op_add (pe_op op_mul (rv 4) (rv 4)) (pe_op op_mul (pe_int) (pe_dget hu1 (rv 0) pe_str (fun _ _ => rfl)))) (pe_int)) (pe_int))) (pss_one (ps_ret (pe_op op_modN (pe_op op_fdivN (pe_op op_modN (pe_op op_add (pe_op op_mul (rv 4) (rv 4)) (pe_op op_mul (pe_int) (rv 4))) (pe_int)) (pe_int)) (rv 1))))))))))), ?_⟩
    have ncF : c ≠ F := fun e => by rw [e, hF] at hc; cases hc
    refine ⟨.ref F, rfl, F, .int count, rfl, fg_count hF, count, 1, rfl, rfl, .ref F, rfl, F, _, rfl, fp_count hF, ?_⟩
    have hF1 : upd H F (feedK c at_ left (count + 1)) F = some (feedK c at_ left (count + 1)) := upd_same
    have hc1 : upd H F (feedK c at_ left (count + 1)) c = some (.lst (ns.map V.int)) := by rw [upd_ne ncF]; exact hc
    have g1 : Chg T [F] H (upd H F (feedK c at_ left (count + 1))) := Chg.dK hF List.mem_cons_self
    generalize hH1 : upd H F (feedK c at_ left (count + 1)) = H1 at hF1 hc1 g1
    refine ⟨.ref F, rfl, F, .int left, rfl, fg_left hF1, left, 0, rfl, rfl, _, rfl, ?_⟩
    by_cases hl : 0 < left
    · rw [decide_eq_true hl]
      refine iteT ⟨.ref F, rfl, F, .int left, rfl, fg_left hF1, .int m, rfl, left, m, rfl, rfl, by omega, ?_⟩
      refine ⟨.ref F, rfl, F, .int left, rfl, fg_left hF1, .int m, rfl, left, m, rfl, rfl, ⟨by omega, by omega⟩, .ref F, rfl, F, _, rfl, fp_left hF1, ?_⟩
      refine ⟨_, rfl, q _ _ ?_ ?_ (g1.trans (Chg.dK hF1 List.mem_cons_self)) ⟨at_, _, _, upd_same, by rw [upd_ne ncF]; exact hc1⟩⟩
      · exact Int.fmod_nonneg_of_pos _ (by omega)
      · exact Int.fmod_lt_of_pos _ (by omega)
    · rw [decide_eq_false hl]
      refine iteF ?_
      refine ⟨.ref F, rfl, F, .int at_, rfl, fg_at hF1, ?_⟩
      refine ⟨.int at_, rfl, at_, 1, rfl, rfl, .ref F, rfl, F, _, rfl, fp_at hF1, ?_⟩
      have hF2 : upd H1 F (feedK c (at_ + 1) left (count + 1)) F = some (feedK c (at_ + 1) left (count + 1)) := upd_same
      have hc2 : upd H1 F (feedK c (at_ + 1) left (count + 1)) c = some (.lst (ns.map V.int)) := by rw [upd_ne ncF]; exact hc1
      have g2 : Chg T [F] H (upd H1 F (feedK c (at_ + 1) left (count + 1))) := g1.trans (Chg.dK hF1 List.mem_cons_self)
      generalize hH2 : upd H1 F (feedK c (at_ + 1) left (count + 1)) = H2 at hF2 hc2 g2
      dsimp only
      refine asg_seq (fun x H3 => ∃ cell : Int, x = .int cell ∧ Chg T [F] H H3 ∧ H3 F = some (feedK c (at_ + 1) left (count + 1)) ∧ H3 c = some (.lst (ns.map V.int))) (fun Q' hQ => ?_) (fun x H3 ⟨cell, ex, g3, hF3, hc3⟩ => ?_)
      · refine ⟨.ref F, rfl, F, .ref c, rfl, fg_cells hF2, Nat.zero_le _, fun p hp => ?_⟩
        have e3 : Ext T H2 (upd H2 p (.lst [])) := .new hp
        have hF3 : upd H2 p (.lst []) F = some (feedK c (at_ + 1) left (count + 1)) := by rw [upd_ne (ne_of_none hF2 hp)]; exact hF2
        have hc3 : upd H2 p (.lst []) c = some (.lst (ns.map V.int)) := by rw [upd_ne (ne_of_none hc2 hp)]; exact hc2
        refine ⟨.list (ns.map PyData.int), .list [], .lst (.of hc3) (dp_ints ns), .lst (.of upd_same) .nil, shaped_ints ns, shaped_ints [], _, rfl, ?_⟩
        cases ns with
        | nil => exact iteF (hQ _ _ ⟨33, rfl, g2.trans e3.chg, hF3, hc3⟩)
        | cons n0 nr =>
          refine iteT ⟨.ref F, rfl, F, .ref c, rfl, fg_cells hF3, .int at_, rfl, .ref F, rfl, F, .ref c, rfl, fg_cells hF3, c, _, rfl, .inl (.of hc3), at_, _, rfl, rfl, ?_, ?_⟩
          · rw [List.length_map, List.length_cons]; omega
          · obtain ⟨v, hv, hm⟩ := atI_mod (xs := (n0 :: nr).map V.int) (i := at_) (by simp)
            obtain ⟨cell, _, rfl⟩ := List.mem_map.mp hm
            exact .inl ⟨c, _, _, _, rfl, rfl, .of hc3, hv, hQ _ _ ⟨cell, rfl, g2.trans e3.chg, hF3, hc3⟩⟩
      · subst ex
        refine ⟨.int cell, rfl, 10, 18, rfl, rfl, ⟨by decide, by decide, by decide⟩, cell, _, rfl, rfl, _, rfl, ?_⟩
        have hm0 : m ≠ 0 := by omega
        have hmb : m.natAbs < 1073741824 := by omega
        have big : 10 ^ (18 : Int).toNat ≤ cell ∨ ¬ (10 ^ (18 : Int).toNat : Int) ≤ cell := Decidable.em _
        have hand : ∀ R : Bool → Hp → Prop, (∀ b, R b H3) → (if decide ((10 : Int) ^ (18 : Int).toNat ≤ cell) = true then (tTest (tOp (rI0 fun i j => V.bl (decide (i < j))) (tVar 2) (tCB (fun xs H_1 Q => ∃ p ys, xs = [V.ref p] ∧ (SqL K H_1 p ys ∨ SqT K H_1 p ys) ∧ Q (V.int ↑ys.length) H_1) (tCons (tDGet (tVar 0) (tC (V.str "cells"))) tNil)))) ((((start N__law_draw [.ref F, .int m]).set 2 (some (.int at_))).set 3 (some (.int cell)))) H3 R else R false H3) := fun R hR => by
          split
          · refine ⟨.int at_, rfl, .ref F, rfl, F, .ref c, rfl, fg_cells hF3, c, _, rfl, .inl (.of hc3), at_, _, rfl, rfl, _, rfl, hR _⟩
          · exact hR _
        refine hand _ fun b => ?_
        cases b with
        | true =>
          refine iteT ⟨.int cell, rfl, .int m, rfl, cell, m, rfl, rfl, ⟨hm0, hmb⟩, .ref F, rfl, F, _, rfl, fp_left hF3, ?_⟩
          refine ⟨.int cell, rfl, .int m, rfl, cell, m, rfl, rfl, hm0, q _ _ (Int.fmod_nonneg_of_pos _ (by omega)) (Int.fmod_lt_of_pos _ (by omega)) (g3.trans (Chg.dK hF3 List.mem_cons_self)) ⟨_, _, _, upd_same, by rw [upd_ne ncF]; exact hc3⟩⟩
        | false =>
          refine iteF ?_
          refine ⟨.int cell, rfl, cell, _, rfl, rfl, (show (1000003579 : Int) ≠ 0 by decide), .ref F, rfl, F, .int (count + 1), rfl, fg_count hF3, _, _, rfl, rfl, .inl (by decide), _, _, rfl, rfl, _, _, rfl, rfl, _, _, rfl, rfl, (show (2147483579 : Int) ≠ 0 by decide), ?_⟩
          dsimp only
          generalize hx : ((cell.fmod 1000003579 + 76213 * (count + 1) + 89).fmod 2147483579 : Int) = mx
          have mx0 : 0 ≤ mx := by rw [← hx]; exact Int.fmod_nonneg_of_pos _ (by decide)
          have mx1 : mx < 2147483579 := by rw [← hx]; exact Int.fmod_lt_of_pos _ (by decide)
          refine ⟨.int mx, rfl, .int mx, rfl, mx, mx, rfl, rfl, .inl ⟨by omega, by omega⟩, .ref F, rfl, F, .int (count + 1), rfl, fg_count hF3, _, _, rfl, rfl, .inl (by decide), _, _, rfl, rfl, _, _, rfl, rfl, _, _, rfl, rfl, (show (2147483549 : Int) ≠ 0 by decide), ?_⟩
          dsimp only
          generalize hy : ((mx * mx + 7308927 * (count + 1) + 59).fmod 2147483549 : Int) = my
          have my0 : 0 ≤ my := by rw [← hy]; exact Int.fmod_nonneg_of_pos _ (by decide)
          have my1 : my < 2147483549 := by rw [← hy]; exact Int.fmod_lt_of_pos _ (by decide)
          refine ⟨.int my, rfl, .int my, rfl, my, my, rfl, rfl, .inl ⟨by omega, by omega⟩, .int my, rfl, _, _, rfl, rfl, .inl (by decide), _, _, rfl, rfl, _, _, rfl, rfl, (show (2147483543 : Int) ≠ 0 by decide), _, _, rfl, rfl, ⟨by decide, by decide⟩, .int m, rfl, _, _, rfl, rfl, hm0, q _ _ (Int.fmod_nonneg_of_pos _ (by omega)) (Int.fmod_lt_of_pos _ (by omega)) g3 ⟨_, _, _, hF3, hc3⟩⟩
end
end CR
/-! CrM -/
set_option maxHeartbeats 4000000
namespace CR
open PySem PySem.Spec L2
open PyProof.Rows hiding St
/-! ### calls, by raw readings -/
structure PLn (P : Program) (w : World) (K : PySem.W.Frag) (mg : Str → Option Value) (base : Heap) (k : Nat) (x : Str) (sp : Sp) : Prop where
  ex : ∃ (f : Addr) (fd : FuncData) (ps : List Str), FnOk P w K mg base L2.CX0 k f fd ps sp ∧ mg x = some (.ref f) ∧ PySem.W.keepIn K (.ref f) = true ∧ Binds K fd ps []
section
variable {X : Cx} {T : List (Addr × Str)} {k j n : Nat} {x : Str} {sp : Sp} {e : Expr} {es : List Expr} {t tk : TA} {p pos : Pos} {dds : List D} {m : List D → Option D}
theorem pa_mon (h : PA X es t) : PA X es (fun σ H Q => ∃ R, t σ H R ∧ ∀ vs H1, R vs H1 → Q vs H1) := ⟨fun pos pins s σ H Q I ⟨R, h1, h2⟩ => thn (h.run pos pins s σ H R I h1) fun us s1 ⟨vs, H1, I1, r1, q1⟩ => ⟨vs, H1, I1, r1, h2 _ _ q1⟩⟩
theorem pk_mon {kws : List Keyword} (h : PK X kws t) : PK X kws (fun σ H Q => ∃ R, t σ H R ∧ ∀ vs H1, R vs H1 → Q vs H1) := ⟨fun pos pins s σ H Q I ⟨R, h1, h2⟩ => thn (h.run pos pins s σ H R I h1) fun us s1 ⟨vs, H1, I1, r1, q1⟩ => ⟨vs, H1, I1, r1, h2 _ _ q1⟩⟩
def tCl (sp : Sp) (t : TA) : TE := fun σ H Q => t σ H fun vs H1 => sp vs H1 Q fun _ _ _ => False
theorem pe_cl (c : PLn X.prog X.w X.K X.mg X.base k x sp) (hr : Room j X.A) (hk : k ≤ j) (ha : PA X (e :: es) t) (hg : Gl X x := by rfl) (hdb : (x == ("__debug__" : Str)) = false := by decide)
    (he : starEach (e :: es) X.env = (false, eval e X.env) :: starEach es X.env := by rfl) (hpl : (backTo pos (starEach es X.env)).any (·.1) = false := by rfl) : PE X (.Call (.Name x p) (e :: es) [] pos) (tCl sp t) := by
  obtain ⟨f, fd, ps, F, hm, kp, hb⟩ := c.ex
  exact pe_weak (pe_call F (hr.mono hk) hg hm kp hb .nil L2.pass0 ha hdb he hpl) fun σ H Q h => by
    simpa [tCl, tCall, List.append_nil] using h
/-- a pure def of the package -/
def tCp (T : List (Addr × Str)) (n : Nat) (dds : List D) (m : List D → Option D) (t : TA) : TE := fun σ H Q => t σ H fun vs H1 => ∃ ds d, IsAll H1 vs ds ∧ LamX.Tabs T H1 ∧ (ds ++ dds).length = n ∧ m (ds ++ dds) = some d ∧ ∀ v H', Ext T H1 H' → Is H' v d → Q v H'
theorem pe_cp (c : PFn X.prog X.w X.K X.mg X.base T k x n dds m) (hr : Room j X.A) (hk : k ≤ j) (ha : PA X (e :: es) t) (hg : Gl X x := by rfl) (hdb : (x == ("__debug__" : Str)) = false := by decide)
    (he : starEach (e :: es) X.env = (false, eval e X.env) :: starEach es X.env := by rfl) (hpl : (backTo pos (starEach es X.env)).any (·.1) = false := by rfl) : PE X (.Call (.Name x p) (e :: es) [] pos) (tCp T n dds m t) := by
  obtain ⟨fa, fd, ps, ds, dvs, F, hm, kp, hb, hv, hd⟩ := c.ex
  refine pe_weak (pe_call F (hr.mono hk) hg hm kp hb hv L2.pass0 (pa_mon ha) hdb he hpl) fun σ H Q h => ⟨_, h, fun vs H1 ⟨es, d, i1, t1, h1, h2, q⟩ => ⟨es ++ dds, d, h1, t1, i1.append (hd H1), h2, q⟩⟩
def tCpk (T : List (Addr × Str)) (n j : Nat) (m : List D → Option D) (t tk : TA) : TE := fun σ H Q => t σ H fun vs H1 => tk σ H1 fun zs H2 => ∃ ds es d, IsAll H2 vs ds ∧ IsAll H2 zs es ∧ ds.length = n ∧ es.length = j ∧ LamX.Tabs T H2 ∧ m (ds ++ es) = some d ∧ ∀ v H', Ext T H2 H' → Is H' v d → Q v H'
theorem pe_cpk {ks : List Str} {kws : List Keyword} (c : PFk X.prog X.w X.K X.mg X.base T k x n ks m) (hr : Room j X.A) (hk : k ≤ j) (ha : PA X (e :: es) t) (hkw : PK X kws tk) (hg : Gl X x := by rfl)
    (hall : (backToKw pos (keywordEach kws X.env)).all (·.1.isSome) = true := by rfl) (hks : (backToKw pos (keywordEach kws X.env)).filterMap (·.1) = ks := by rfl)
    (hdb : (x == ("__debug__" : Str)) = false := by decide) (he : starEach (e :: es) X.env = (false, eval e X.env) :: starEach es X.env := by rfl)
    (hpl : ((backTo pos (starEach (e :: es) X.env)).any (·.1) || (backToKw pos (keywordEach kws X.env)).any (·.1.isNone)) = false := by rfl) :
    PE X (.Call (.Name x p) (e :: es) kws pos) (tCpk T n ks.length m t tk) := by
  obtain ⟨fa, fd, ps, F, hm, kp, hb⟩ := c.ex
  refine pe_weak (pe_callN F (hr.mono hk) hg hm kp hb L2.pass0 (pa_mon ha) (pk_mon hkw) hall hks hdb he hpl) fun σ H Q h => ⟨_, h, fun vs H1 h => ⟨_, h, fun zs H2 ⟨ds, es, d, i1, i2, l1, l2, t1, h2, q⟩ => ⟨i1.length.trans l1, i2.length.trans l2, ds ++ es, d, by rw [List.length_append, l1, l2], t1, i1.append i2, h2, q⟩⟩⟩
theorem dE {f : DEnv → Option D} (h : PE X e (tD T f)) : PE X e (tD T f) := h
theorem dT {f : DEnv → Option Bool} (h : PT X e (tDT T f)) : PT X e (tDT T f) := h
end
/-! data slots -/
theorem EnvIs.nil {H : Hp} : EnvIs H [] [] := ⟨rfl, fun i d h => by simp at h⟩
theorem EnvIs.cons {H : Hp} {v : V} {d : D} {σ : St} {ρ : DEnv} (i : Is H v d) (e : EnvIs H σ ρ) : EnvIs H (some v :: σ) (some d :: ρ) := ⟨by simp [e.1], fun j d' h => by
  cases j with
  | zero => simp at h; subst h; exact ⟨v, rfl, i⟩
  | succ j => exact e.2 j d' (by simpa using h)⟩
theorem EnvIs.skip {H : Hp} {x : Option V} {σ : St} {ρ : DEnv} (e : EnvIs H σ ρ) : EnvIs H (x :: σ) (none :: ρ) := ⟨by simp [e.1], fun j d' h => by
  cases j with
  | zero => simp at h
  | succ j => exact e.2 j d' (by simpa using h)⟩
theorem Feed.ext {T : List (Addr × Str)} {H H' : Hp} {F c : Addr} {ns : List Int} (f : Feed H F c ns) (e : Ext T H H') : Feed H' F c ns := f.chg (S := []) (T := T) e.chg (by simp) (by simp)
theorem Chg.turn {T : List (Addr × Str)} {S : List Addr} {H H1 : Hp} (e : Chg T S H H1) {p : Addr} {xs ys : List V} (n : H p = none) (h : H1 p = some (.lst xs)) : Chg T S H (upd H1 p (.lst ys)) :=
  ⟨fun b o hb hs hn => by rw [upd_ne (ne_of_none hb n)]; exact e.keep b o hb hs hn, fun t => tabs_lst (e.tabs t) h, e.tups.trans (tups_lst h)⟩
theorem atI_ints {is : List Int} {r : Int} (h0 : 0 ≤ r) (h1 : r < (is.length : Nat)) : ∃ z, atI (is.map V.int) r = some (.int z) := by
  have h3 : r.toNat < is.length := by omega
  refine ⟨is[r.toNat], ?_⟩
  unfold atI ixN
  rw [if_pos h0, List.length_map, if_pos h1]
  simp [h3]
theorem is_ints {H : Hp} : ∀ is : List Int, IsAll H (is.map V.int) (is.map PyData.int)
  | [] => .nil
  | i :: is => .cons (.int i) (is_ints is)
theorem Chg.ext {T : List (Addr × Str)} {S : List Addr} {H H1 H2 : Hp} (a : Chg T S H H1) (e : Ext T H1 H2) : Chg T S H H2 := a.trans e.chg
section
variable {P : Program} {w : World} {K : PySem.W.Frag} {mg : Str → Option Value} {base : Heap} {T : List (Addr × Str)}
def spStretch (T : List (Addr × Str)) : Sp := fun vs H Q _ => ∃ F c ns, vs = [.ref F] ∧ Feed H F c ns ∧ LamX.Tabs T H ∧ ∀ v H' p a n, (0 ≤ p ∧ p < 9) ∧ (0 ≤ a ∧ a < 8) ∧ (0 ≤ n ∧ n < 9 - a) → Chg T [F] H H' → Feed H' F c ns → Is H' v (.tuple [.int p, .int a, .int n]) → Q v H'
abbrev N__law_stretch : List Str := ["_law_feed_here", "_law_at"]
theorem sc__law_stretch : FnScope N__law_stretch ["_law_feed_here"] (defScope s__law_stretch) := ⟨rfl, rfl, rfl, by decide +kernel, rfl, by decide +kernel, by decide +kernel⟩
theorem ok_law_stretch {kws : List (Str × V)} {f : Addr} {fd : FuncData} (c__law_draw : PLn P w K mg base 1 "_law_draw" (spDraw T)) (Fd : FnP K mg "_law_stretch" s__law_stretch kws f fd) : FnOk P w K mg base L2.CX0 2 f fd ["_law_feed_here"] (spStretch T) :=
  Fd.1.ok sc__law_stretch (fun vs H Q E ⟨F, c, ns, h, _⟩ => by rw [h]; rfl) fun cdv A outer s H vs Q E hr h => by
    obtain ⟨F, c, ns, rfl, hF, hT, q⟩ := h
    have hnd := sc__law_stretch.nd
    refine ⟨_, pss_cons (ps_set (i := 1) hnd rfl (by first | exact Or.inl rfl | exact Or.inr rfl) (pe_cl c__law_draw hr (by decide) (pa_cons (rv 0) (pa_cons (pe_int) (pa_nil))))) (pss_one (ps_ret (pe_tup (pa_cons (pe_cl c__law_draw hr (by decide) (pa_cons (rv 0) (pa_cons (pe_int) (pa_nil)))) (pa_cons (rv 1) (pa_cons (pe_cl c__law_draw hr (by decide) (pa_cons (rv 0) (pa_cons (pe_op op_sub (pe_int) (rv 1)) (pa_nil)))) (pa_nil))))))), ?_⟩
    refine ⟨.ref F, rfl, F, c, ns, 8, rfl, by decide, by decide, hF, hT, fun a H1 a0 a1 g1 hF1 => ?_⟩
    refine ⟨.ref F, rfl, F, c, ns, 9, rfl, by decide, by decide, hF1, g1.tabs hT, fun p H2 p0 p1 g2 hF2 => ?_⟩
    refine ⟨.int a, rfl, .ref F, rfl, .int a, rfl, 9, a, rfl, rfl, F, c, ns, 9 - a, rfl, by omega, by omega, hF2, g2.tabs (g1.tabs hT), fun n H3 n0 n1 g3 hF3 => ?_⟩
    refine ⟨line15 (show 3 ≤ 1000 by decide), fun l hl => q _ _ p a n ⟨⟨p0, p1⟩, ⟨a0, a1⟩, n0, n1⟩ (((g1.trans g2).trans g3).ext (.new hl)) (hF3.ext (T := T) (.new hl)) (.tup upd_same (.cons (.int _) (.cons (.int _) (.cons (.int _) .nil))))⟩
def spSome (T : List (Addr × Str)) : Sp := fun vs H Q _ => ∃ F c ns m, vs = [.ref F, .int m] ∧ 0 ≤ m ∧ m ≤ 8 ∧ Feed H F c ns ∧ LamX.Tabs T H ∧ ∀ v H' (is : List Int), is.length = m.toNat → Chg T [F] H H' → Feed H' F c ns → Is H' v (.tuple (is.map .int)) → Q v H'
abbrev N__law_some : List Str := ["_law_feed_here", "_law_many", "_law_k"]
theorem sc__law_some : FnScope N__law_some ["_law_feed_here", "_law_many"] (defScope s__law_some) := ⟨rfl, rfl, rfl, by decide +kernel, rfl, by decide +kernel, by decide +kernel⟩
theorem ok_law_some {kws : List (Str × V)} {f : Addr} {fd : FuncData} (C : Tc mg) (c__law_draw : PLn P w K mg base 1 "_law_draw" (spDraw T)) (Fd : FnP K mg "_law_some" s__law_some kws f fd) : FnOk P w K mg base L2.CX0 2 f fd ["_law_feed_here", "_law_many"] (spSome T) :=
  Fd.1.ok sc__law_some (fun vs H Q E ⟨F, c, ns, m, h, _⟩ => by rw [h]; rfl) fun cdv A outer s H vs Q E hr h => by
    obtain ⟨F, c, ns, m, rfl, m0, m1, hF, hT, q⟩ := h
    have hnd := sc__law_some.nd
    refine ⟨_, pss_one (ps_ret (pe_callTy call_tuple_of rfl C.n_tuple (by decide +kernel) (pa_cons (pe_lc (own := [("_law_k", 2)]) (g := gName 2) (tt := tYes) rfl hnd (pi_range1 rfl C.n_range (pa_cons (rv 1) (pa_nil))) (blkOk_by (own := [("_law_k", 2)]) (N := N__law_some) (sc := defScope s__law_some) (by decide +kernel)) (fun _ _ _ _ _ => pg_name (i := 2) hnd rfl (Or.inl rfl)) (fun _ _ _ _ _ => pts_nil) (fun _ _ _ _ _ => pe_ix (r := rIx K) ix_seq (pe_lst (pa_cons (pe_int) (pa_cons (pe_int) (pa_cons (pe_int) (pa_cons (pe_op op_pow (pe_int) (pe_int)) (pa_cons (pe_int) (pa_cons (pe_int) (pa_nil)))))))) (pe_cl c__law_draw hr (by decide) (pa_cons (rv 0) (pa_cons (pe_int) (pa_nil)))) (fun _ _ => rfl))) pa_nil))), ?_⟩
    have hFs : ∃ o, H F = some o := by obtain ⟨a, l, k, h, _⟩ := hF; exact ⟨_, h⟩
    obtain ⟨oF, hFo⟩ := hFs
    refine ⟨.int m, rfl, m, rfl, by omega, by omega, fun D hD => ?_⟩
    refine lc_range (lo := 0) (n := m.toNat) (fun i H' => Chg T [F] H H' ∧ Feed H' F c ns ∧ ∃ is : List Int, is.length = i ∧ H' D = some (.lst (is.map V.int))) ⟨Ext.chg (.new hD), hF.ext (T := T) (.new hD), [], rfl, upd_same⟩ (fun i H' hi ⟨g, hf, is, hl, hd⟩ => ?_) (fun H' ⟨g, hf, is, hl, hd⟩ => ?_)
    · refine ⟨rfl, ?_⟩
      simp only [tYes, if_true]
      refine ⟨10, 6, rfl, rfl, ⟨by decide, by decide, by decide⟩, line15 (show 6 ≤ 1000 by decide), fun p hp => ⟨.ref F, rfl, F, c, ns, 6, rfl, by decide, by decide, hf.ext (T := T) (.new hp), g.tabs hT |> (Ext.new (T := T) hp).tabs, fun r H4 r0 r1 g4 hF4 => ?_⟩⟩
      have npF : p ≠ F := fun e => by
        obtain ⟨a, l, k, h, _⟩ := hf
        rw [e, h] at hp
        cases hp
      have nDF : D ≠ F := fun e => by rw [e, hFo] at hD; cases hD
      have nDp : D ≠ p := ne_of_none hd hp
      have hp4 : H4 p = some (.lst ([0, 1, 7, 10 ^ (6 : Int).toNat, 42, 3].map V.int)) := g4.keep p _ upd_same (by simpa using npF) (fun ps z => by cases z)
      have hd4 : H4 D = some (.lst (is.map V.int)) := g4.keep D _ (by rw [upd_ne nDp]; exact hd) (by simpa using nDF) (fun ps z => by cases z)
      obtain ⟨z, hz⟩ := atI_ints (is := [0, 1, 7, 10 ^ (6 : Int).toNat, 42, 3]) r0 r1
      have gg : Chg T [F] H H4 := (g.ext (.new hp)).trans g4
      exact .inl ⟨p, _, r, _, rfl, rfl, .of hp4, hz, is.map V.int, hd4, Nat.lt_of_lt_of_le (show (is.map V.int).length < 1000 by rw [List.length_map]; omega) (line15 (Nat.le_refl _)), gg.turn hD hd4, hF4.chg (T := T) (S := [D]) (Chg.lst hd4 List.mem_cons_self) (by simpa using Ne.symm nDF) (fun e => by
        have e' : c = D := by simpa using e
        obtain ⟨a, l, k, _, h⟩ := hF
        rw [e', hD] at h
        cases h), is ++ [z], by simp [hl], by rw [upd_same]; simp⟩
    · have e := g
      exact ⟨D, _, rfl, .inl ⟨.of hd, fun l2 hl2 => q _ _ is hl (g.ext (.new hl2)) (hf.ext (T := T) (.new hl2)) (.tup upd_same (is_ints is))⟩⟩
end
end CR
/-! CrV -/
set_option maxHeartbeats 4000000
namespace CR
open PySem PySem.Spec L2
open PyProof.Rows hiding St
/-! ### the law's world -/
section
variable {X : Cx}
def rUpdK : V → List V → Hp → VK → Prop := fun x xs H Q => ∃ d o kvs more, x = .ref d ∧ xs = [.ref o] ∧ d ≠ o ∧ H d = some (.dK kvs) ∧ H o = some (.dK more) ∧ kvs.length + more.length ≤ 1000 ∧ Q .non (upd H d (.dK (mergeK kvs more)))
theorem mt_updateK : MtR X "dict.update" rUpdK := by
  intro pins s σ H x xs v us Q I rx rs hh
  obtain ⟨d, o, kvs, more, rfl, rfl, ne, hd, ho, hl, q⟩ := hh
  cases rx
  obtain rfl := Vals.ref1 rs
  obtain ⟨z1, s1, vs1, r1, d1⟩ := dk_of I.hok hd
  obtain ⟨z2, s2, vs2, r2, d2⟩ := dk_of I.hok ho
  have l1 : vs1.length = kvs.length := (Paired.length r1).symm
  have l2 : vs2.length = more.length := (Paired.length r2).symm
  refine call_meetsIn PySem.F.slot_dict_update d1.typeIs PySem.F.entry_dict_update (PySem.F.args_dict_update_2 _ _) (meets_dict_update (mixKind X.prog X.w) d o ne s2) ⟨vs1, vs2, d1, d2, by rw [l1, l2]; exact line15 hl, fun h' hd' ho' hs => ?_⟩
  have z3 : (mergeK kvs more).length ≤ sizeLine := Nat.le_trans (length_mergeK more kvs) (line15 hl)
  have he : ∃ q, h'.get? d = some q := let ⟨q, _, _, hq, _⟩ := hd'; ⟨q, hq⟩
  exact ⟨.non, _, d_write (t' := s.toks) I (by rw [hd]; exact True.intro) hs he (dk_new z3 s1 (r2.merge r1) hd'), rfl, q⟩
/-- {}, to be a dict with nested keys -/
def tDNewN (P : Program) (w : World) : TE := fun _ H Q => ∀ p o, H p = none → IsN P w (upd H p o) p [] → (∀ ps, o ≠ .tbl ps) → Q (.ref p) (upd H p o)
theorem pe_dnewN {pos : Pos} : PE X (.Dict [] [] pos) (tDNewN X.prog X.w) := ⟨fun pins s σ H Q I h => by
  have hb : (s.heap.objs.size == sysModules) = false := beq_eq_false_iff_ne.mpr (Nat.ne_of_gt I.big)
  have hn := I.hok.fresh (Nat.le_refl s.heap.objs.size)
  refine wpAny_Dict_empty ⟨.ref s.heap.objs.size, _, I.laid (a := s.heap.objs.size) (o := dN X.prog X.w s.heap.objs.size (([] : List En).map En.o)) (t' := s.toks) (fun _ _ q => Heap.get?_push_of_some _ q) (Nat.le_refl _) (dN_ok (ys := []) hb .nil (Heap.DictOfH.new s.heap)), rfl, h _ _ hn ⟨[], upd_same, rfl, fun x hx => absurd hx (by simp), by simp, Nat.zero_le _⟩ dN_tbl⟩⟩
end
theorem tabs_turnK {T : List (Addr × Str)} {H H1 : Hp} (e : Ext T H H1) {p : Addr} {kvs : List (Key × V)} {o : HO} (n : H p = none) (h : H1 p = some (.dK kvs)) : Ext T H (upd H1 p o) :=
  ⟨fun b u hb hn => by rw [upd_ne (ne_of_none hb n)]; exact e.keep b u hb hn, fun t => tabs_dK (e.tabs t) h⟩
structure Wv where
  half : V
  rights : V
  purse : V
  row : V
  numbers : V
  joinings : V
  moves : V
  steers : V
  epoch : V
  clock : V
  stuck : V
  aside : V
  memory : V
  far : V
  numbered : V
  letters : V
  era : V
  lanes : V
  cut : V
  most : V
  wait : V
def wl0 (r : Wv) : List (Key × V) := [(.inr "half", r.half), (.inr "rights", r.rights), (.inr "purse", r.purse), (.inr "row", r.row), (.inr "numbers", r.numbers), (.inr "joinings", r.joinings), (.inr "moves", r.moves), (.inr "steers", r.steers), (.inr "epoch", r.epoch), (.inr "clock", r.clock), (.inr "stuck", r.stuck), (.inr "aside", r.aside), (.inr "memory", r.memory), (.inr "far", r.far), (.inr "numbered", r.numbered), (.inr "letters", r.letters), (.inr "era", r.era), (.inr "lanes", r.lanes), (.inr "cut", r.cut), (.inr "most", r.most), (.inr "wait", r.wait)]
def wl (r : Wv) (value : V) : List (Key × V) := wl0 r ++ [(.inr "value", value)]
section
variable {P : Program} {w : World} {K : PySem.W.Frag} {mg : Str → Option Value} {base : Heap} {T : List (Addr × Str)}
theorem flat_rep {α : Type} (x : α) : ∀ n : Nat, (List.replicate n [x]).flatten = List.replicate n x
  | 0 => rfl
  | n + 1 => by rw [List.replicate_succ, List.flatten_cons, flat_rep x n, List.replicate_succ]; rfl
def voidR (wide : Int) : List D := [.int wide, .int 0, .int 0, .tuple (List.replicate wide.toNat .none)]
theorem void_ring_eq {wide : Int} (h1 : 1 ≤ wide) (h2 : wide ≤ 1000) : m_void_ring [.int wide] = some (.tuple (voidR wide)) := by
  have h : gRep (.tuple [.none]) (.int wide) = some (.tuple (List.replicate wide.toNat .none)) := by
    simp [gRep, flat_rep, h1, h2]
  unfold m_void_ring runD F_void_ring sRet eTup aCons aNil eBin eVar eC startD voidR
  simp [h]
def laneAt (H : Hp) (wide : Int) (v : V) : Prop := ∃ a kvs o rest, v = .ref a ∧ H a = some (.dK kvs) ∧ valV kvs (.inr "out") = some o ∧ Is H o (.tuple (.int wide :: rest))
def spLane (T : List (Addr × Str)) : Sp := fun vs H Q _ => ∃ wide, vs = [.int wide] ∧ 1 ≤ wide ∧ wide ≤ 8 ∧ LamX.Tabs T H ∧ ∀ v H', Ext T H H' → laneAt H' wide v → Q v H'
abbrev N__law_lane : List Str := ["_law_wide", "_law_found"]
theorem sc__law_lane : FnScope N__law_lane ["_law_wide"] (defScope s__law_lane) := ⟨rfl, rfl, rfl, by decide +kernel, rfl, by decide +kernel, by decide +kernel⟩
theorem ok_law_lane {kws : List (Str × V)} {f : Addr} {fd : FuncData} (c_void_ring : PFn P w K mg base T 1 "void_ring" 1 [] m_void_ring) (Fd : FnP K mg "_law_lane" s__law_lane kws f fd) : FnOk P w K mg base L2.CX0 2 f fd ["_law_wide"] (spLane T) :=
  Fd.1.ok sc__law_lane (fun vs H Q E ⟨a, h, _⟩ => by rw [h]; rfl) fun cdv A outer s H vs Q E hr h => by
    obtain ⟨wide, rfl, h1, h2, hT, q⟩ := h
    have hnd := sc__law_lane.nd
    refine ⟨_, pss_cons (ps_set (i := 1) hnd rfl (by first | exact Or.inl rfl | exact Or.inr rfl) (pe_disp (pps_cons pe_str (pe_cp c_void_ring hr (by decide) (pa_cons (rv 0) (pa_nil))) (pps_cons pe_str (pe_int) (pps_cons pe_str (pe_int) (pps_cons pe_str (pe_lst (pa_nil)) (pps_cons pe_str (pe_cp c_void_ring hr (by decide) (pa_cons (rv 0) (pa_nil))) (pps_nil)))))) (by rfl) (by rfl) (fun z => by cases z) (by decide))) (pss_cons (ps_expr (pe_bm PySem.F.plainAttrs_dict PySem.F.slot_dict_update PySem.F.type_dict_update mt_updateK (rv 1) (pa_cons (pe_disp (pps_cons pe_str (pe_lst (pa_nil)) (pps_cons pe_str (pe_non) (pps_cons pe_str (pe_bl) (pps_nil)))) (by rfl) (by rfl) (fun z => by cases z) (by decide)) (pa_nil)))) (pss_one (ps_ret (rv 1)))), ?_⟩
    refine fun p hp => ⟨.int wide, rfl, [.int wide], _, .cons (.int _) .nil, (Ext.new (T := T) hp).tabs hT, rfl, void_ring_eq h1 (by omega), fun o1 H1 e1 i1 => ⟨Nat.zero_le _, fun b1 hb1 => ⟨.int wide, rfl, [.int wide], _, .cons (.int _) .nil, ((e1.trans (.new hb1)).tabs ((Ext.new (T := T) hp).tabs hT)), rfl, void_ring_eq h1 (by omega), fun o2 H2 e2 i2 => ?_⟩⟩⟩
    have eA : Ext T (upd H p (.dK [])) H2 := (e1.trans (.new hb1)).trans e2
    have hp2 : H2 p = some (.dK []) := eA.keep p _ upd_same (fun ps z => by cases z)
    have eB : Ext T H H2 := (Ext.new hp).trans eA
    refine ⟨hp2, [(.inr "out", o1), (.inr "told", .int 0), (.inr "next", .int 0), (.inr "through", .ref b1), (.inr "inward", o2)], rfl, (show 5 ≤ 15 by decide), ?_⟩
    have eC := tabs_turnK (o := .dK (mergeK [] [(.inr "out", o1), (.inr "told", .int 0), (.inr "next", .int 0), (.inr "through", .ref b1), (.inr "inward", o2)])) eB hp hp2
    have hp3 : upd H2 p (.dK (mergeK [] [(.inr "out", o1), (.inr "told", .int 0), (.inr "next", .int 0), (.inr "through", .ref b1), (.inr "inward", o2)])) p = some (.dK [(.inr "out", o1), (.inr "told", .int 0), (.inr "next", .int 0), (.inr "through", .ref b1), (.inr "inward", o2)]) := upd_same
    have io : Is (upd H2 p (.dK (mergeK [] [(.inr "out", o1), (.inr "told", .int 0), (.inr "next", .int 0), (.inr "through", .ref b1), (.inr "inward", o2)]))) o1 (.tuple (voidR wide)) := (((Ext.new (T := T) hb1).trans e2).is i1).mono (tups_dK hp2)
    generalize upd H2 p (.dK (mergeK [] [(.inr "out", o1), (.inr "told", .int 0), (.inr "next", .int 0), (.inr "through", .ref b1), (.inr "inward", o2)])) = H3 at eC hp3 io
    refine ⟨.ref p, rfl, .inr (.inr (.inl ⟨rfl, .inl ⟨_, hp3⟩⟩)), fun p2 hn2 => ⟨Nat.zero_le _, fun b2 hb2 => ?_⟩⟩
    have n2 : p2 ≠ b2 := ne_of_none (o := .dK []) upd_same hb2
    have hq2 : upd (upd H3 p2 (.dK [])) b2 (.lst []) p2 = some (.dK []) := by rw [upd_ne n2, upd_same]
    have eD : Ext T H3 (upd (upd H3 p2 (.dK [])) b2 (.lst [])) := (Ext.new hn2).trans (.new hb2)
    refine ⟨hq2, [(.inr "box", .ref b2), (.inr "since", .non), (.inr "masked", .bl false)], rfl, (show 3 ≤ 15 by decide), ?_⟩
    have eE := tabs_turnK (o := .dK (mergeK [] [(.inr "box", .ref b2), (.inr "since", .non), (.inr "masked", .bl false)])) eD hn2 hq2
    have hp4 := eE.keep p _ hp3 (fun ps z => by cases z)
    have npp : p ≠ p2 := ne_of_none hp3 hn2
    refine ⟨p, p2, _, _, rfl, rfl, npp, hp4, upd_same, (show 5 + 3 ≤ 1000 by decide), ⟨.ref p, rfl, ?_⟩⟩
    refine q _ _ (tabs_turnK (eC.trans eE) hp hp4) ⟨p, _, o1, _, rfl, upd_same, rfl, (eE.is io).mono (tups_dK hp4)⟩
def mem0 : D := .tuple (List.replicate 8 (.tuple (List.replicate 8 (.int 0))))
/-- a new world: the addresses of its parts -/
structure Wa where
  W : Addr
  fa : Addr
  nb : Addr
  lt : Addr
  la : Addr
structure WNew (P : Program) (w : World) (H : Hp) (a : Wa) (r : Wv) (half rights purse : D) (n : Nat) (wide : Int) : Prop where
  at_ : H a.W = some (.dK (wl0 r))
  half : Is H r.half half
  rights : Is H r.rights rights
  purse : Is H r.purse purse
  clock : r.clock = .int 0
  memory : Is H r.memory mem0
  far : r.far = .ref a.fa
  far_ : H a.fa = some (.lst [])
  numbered : r.numbered = .ref a.nb
  numbered_ : IsN P w H a.nb []
  letters : r.letters = .ref a.lt
  letters_ : IsN P w H a.lt []
  era : r.era = .int 0
  lanes : r.lanes = .ref a.la
  lanes_ : ∃ ls, H a.la = some (.lst ls) ∧ ls.length = n ∧ ∀ v ∈ ls, laneAt H wide v
  most : ∃ i : Int, r.most = .int i
  wait : ∃ i : Int, r.wait = .int i
  ne1 : a.fa ≠ a.la
  ne2 : a.nb ≠ a.lt
/-- nothing but a table of code objects may have stood there -/
def Nw (H : Hp) (x : Addr) : Prop := ∀ o, H x = some o → ∃ ps, o = HO.tbl ps
theorem Nw.of {T : List (Addr × Str)} {H H1 : Hp} {x : Addr} (e : Ext T H H1) (n : H1 x = none) : Nw H x := fun o h => by
  cases o with
  | tbl ps => exact ⟨ps, rfl⟩
  | _ =>
    have := e.keep x _ h (fun ps z => by cases z)
    rw [n] at this
    cases this
theorem Nw.ne {H : Hp} {x y : Addr} {o : HO} (n : Nw H x) (h : H y = some o) (t : ∀ ps, o ≠ .tbl ps) : x ≠ y := fun e => by
  obtain ⟨ps, hp⟩ := n o (by rw [e]; exact h)
  exact t ps hp
structure WFresh (H : Hp) (a : Wa) : Prop where
  W : Nw H a.W
  fa : Nw H a.fa
  nb : Nw H a.nb
  lt : Nw H a.lt
  la : Nw H a.la
def spWorld (P : Program) (w : World) (T : List (Addr × Str)) : Sp := fun vs H Q _ => ∃ vh vr vp half rights purse n wide, vs = [vh, vr, vp, .int (n : Nat), .int wide] ∧ Is H vh half ∧ Is H vr (.tuple rights) ∧ rights.length = 8 ∧ Is H vp purse ∧ 1 ≤ n ∧ n ≤ 2 ∧ 1 ≤ wide ∧ wide ≤ 8 ∧ LamX.Tabs T H ∧
  ∀ a r H', Ext T H H' → WFresh H a → WNew P w H' a r half (.tuple rights) purse n wide → Q (.ref a.W) H'
abbrev N__law_world : List Str := ["_law_half", "_law_rights", "_law_shutet", "_law_tracks", "_law_wide", "_law_found", "_law_k"]
theorem sc__law_world : FnScope N__law_world ["_law_half", "_law_rights", "_law_shutet", "_law_tracks", "_law_wide"] (defScope s__law_world) := ⟨rfl, rfl, rfl, by decide +kernel, rfl, by decide +kernel, by decide +kernel⟩
theorem ok_law_world {kws : List (Str × V)} {f : Addr} {fd : FuncData} (C : Tc mg) (c__law_lane : PLn P w K mg base 2 "_law_lane" (spLane T)) (Fd : FnP K mg "_law_world" s__law_world kws f fd) : FnOk P w K mg base L2.CX0 3 f fd ["_law_half", "_law_rights", "_law_shutet", "_law_tracks", "_law_wide"] (spWorld P w T) :=
  Fd.1.ok sc__law_world (fun vs H Q E ⟨_, _, _, _, _, _, _, _, h, _⟩ => by rw [h]; rfl) fun cdv A outer s H vs Q E hr h => by
    obtain ⟨vh, vr, vp, half, rights, purse, n, wide, rfl, ih, ir, hrl, ip, n1, n2, w1, w2, hT, q⟩ := h
    have hnd := sc__law_world.nd
    have hu := hr.units
    refine ⟨_, pss_cons (ps_set (i := 5) hnd rfl (by first | exact Or.inl rfl | exact Or.inr rfl) (pe_disp (pps_cons pe_str (rv 0) (pps_cons pe_str (rv 1) (pps_cons pe_str (rv 2) (pps_cons pe_str (pe_lst (pa_nil)) (pps_cons pe_str (pe_dnewN) (pps_cons pe_str (pe_dnewN) (pps_nil))))))) (by rfl) (by rfl) (fun z => by cases z) (by decide))) (pss_cons (ps_expr (pe_bm PySem.F.plainAttrs_dict PySem.F.slot_dict_update PySem.F.type_dict_update mt_updateK (rv 5) (pa_cons (pe_disp (pps_cons pe_str (pe_tup (pa_nil)) (pps_cons pe_str (pe_tup (pa_nil)) (pps_cons pe_str (pe_int) (pps_cons pe_str (pe_int) (pps_cons pe_str (pe_tup (pa_nil)) (pps_cons pe_str (pe_non) (pps_nil))))))) (by rfl) (by rfl) (fun z => by cases z) (by decide)) (pa_nil)))) (pss_cons (ps_expr (pe_bm PySem.F.plainAttrs_dict PySem.F.slot_dict_update PySem.F.type_dict_update mt_updateK (rv 5) (pa_cons (pe_disp (pps_cons pe_str (pe_op op_repAny (pe_tup (pa_cons (pe_op op_repAny (pe_tup (pa_cons (pe_int) (pa_nil))) (pe_int)) (pa_nil))) (pe_callB call_len_seq rfl C.n_len PySem.boot_len (pa_cons (rv 1) (pa_nil)))) (pps_cons pe_str (pe_lst (pa_nil)) (pps_cons pe_str (pe_dnewN) (pps_cons pe_str (pe_dnewN) (pps_cons pe_str (pe_int) (pps_nil)))))) (by rfl) (by rfl) (fun z => by cases z) (by decide)) (pa_nil)))) (pss_cons (ps_expr (pe_bm PySem.F.plainAttrs_dict PySem.F.slot_dict_update PySem.F.type_dict_update mt_updateK (rv 5) (pa_cons (pe_disp (pps_cons pe_str (pe_lc (own := [("_law_k", 6)]) (g := gName 6) (tt := tYes) rfl hnd (pi_range1 rfl C.n_range (pa_cons (rv 3) (pa_nil))) (blkOk_by (own := [("_law_k", 6)]) (N := N__law_world) (sc := defScope s__law_world) (by decide +kernel)) (fun _ _ _ _ _ => pg_name (i := 6) hnd rfl (Or.inl rfl)) (fun _ _ _ _ _ => pts_nil) (fun _ _ _ _ _ => pe_cl c__law_lane hr (by decide) (pa_cons (rv 4) (pa_nil)))) (pps_cons pe_str (pe_int) (pps_cons pe_str (pe_int) (pps_cons pe_str (pe_int) (pps_nil))))) (by rfl) (by rfl) (fun z => by cases z) (by decide)) (pa_nil)))) (pss_one (ps_ret (rv 5)))))), ?_⟩
    obtain ⟨ra, rxs, rfl, hra, hri⟩ := ir.tupE
    refine fun W hW => ⟨vh, rfl, _, rfl, vp, rfl, Nat.zero_le _, fun b1 hb1 => fun b2 o2 hb2 i2 ho2 => fun b3 o3 hb3 i3 ho3 => ?_⟩
    have e1 : Ext T (upd H W (.dK [])) (upd (upd (upd (upd H W (.dK [])) b1 (.lst [])) b2 o2) b3 o3) := ((Ext.new hb1).trans (.new hb2)).trans (.new hb3)
    generalize upd (upd (upd (upd H W (.dK [])) b1 (.lst [])) b2 o2) b3 o3 = H1 at e1
    have hW1 : H1 W = some (.dK []) := e1.keep W _ upd_same (fun ps z => by cases z)
    have eA : Ext T H H1 := (Ext.new hW).trans e1
    refine ⟨hW1, [(.inr "half", vh), (.inr "rights", .ref ra), (.inr "purse", vp), (.inr "row", .ref b1), (.inr "numbers", .ref b2), (.inr "joinings", .ref b3)], rfl, (show 6 ≤ 15 by decide), ?_⟩
    have eB := tabs_turnK (o := .dK (mergeK [] [(.inr "half", vh), (.inr "rights", .ref ra), (.inr "purse", vp), (.inr "row", .ref b1), (.inr "numbers", .ref b2), (.inr "joinings", .ref b3)])) eA hW hW1
    have hW2 : upd H1 W (.dK (mergeK [] [(.inr "half", vh), (.inr "rights", .ref ra), (.inr "purse", vp), (.inr "row", .ref b1), (.inr "numbers", .ref b2), (.inr "joinings", .ref b3)])) W = some (.dK [(.inr "half", vh), (.inr "rights", .ref ra), (.inr "purse", vp), (.inr "row", .ref b1), (.inr "numbers", .ref b2), (.inr "joinings", .ref b3)]) := upd_same
    generalize upd H1 W (.dK (mergeK [] [(.inr "half", vh), (.inr "rights", .ref ra), (.inr "purse", vp), (.inr "row", .ref b1), (.inr "numbers", .ref b2), (.inr "joinings", .ref b3)])) = H2 at eB hW2
    -- moves ..
    refine ⟨.ref W, rfl, .inr (.inr (.inl ⟨rfl, .inl ⟨_, hW2⟩⟩)), fun p hp => ⟨Nat.zero_le _, fun m1 hm1 => ⟨Nat.zero_le _, fun m2 hm2 => ⟨Nat.zero_le _, fun m3 hm3 => ?_⟩⟩⟩⟩
    have e2 : Ext T (upd H2 p (.dK [])) (upd (upd (upd (upd H2 p (.dK [])) m1 (.tup [])) m2 (.tup [])) m3 (.tup [])) := ((Ext.new hm1).trans (.new hm2)).trans (.new hm3)
    generalize upd (upd (upd (upd H2 p (.dK [])) m1 (.tup [])) m2 (.tup [])) m3 (.tup []) = H3 at e2
    have hp3 : H3 p = some (.dK []) := e2.keep p _ upd_same (fun ps z => by cases z)
    have e23 : Ext T H2 H3 := (Ext.new hp).trans e2
    refine ⟨hp3, [(.inr "moves", .ref m1), (.inr "steers", .ref m2), (.inr "epoch", .int 0), (.inr "clock", .int 0), (.inr "stuck", .ref m3), (.inr "aside", .non)], rfl, (show 6 ≤ 15 by decide), ?_⟩
    have e23' := tabs_turnK (o := .dK (mergeK [] [(.inr "moves", .ref m1), (.inr "steers", .ref m2), (.inr "epoch", .int 0), (.inr "clock", .int 0), (.inr "stuck", .ref m3), (.inr "aside", .non)])) e23 hp hp3
    have hW4 := e23'.keep W _ hW2 (fun ps z => by cases z)
    have nWp : W ≠ p := ne_of_none hW2 hp
    refine ⟨W, p, _, _, rfl, rfl, nWp, hW4, upd_same, (show 6 + 6 ≤ 1000 by decide), ?_⟩
    have eC := tabs_turnK (o := .dK ([(.inr "half", vh), (.inr "rights", .ref ra), (.inr "purse", vp), (.inr "row", .ref b1), (.inr "numbers", .ref b2), (.inr "joinings", .ref b3), (.inr "moves", .ref m1), (.inr "steers", .ref m2), (.inr "epoch", .int 0), (.inr "clock", .int 0), (.inr "stuck", .ref m3), (.inr "aside", .non)])) (eB.trans e23') hW hW4
    have hW5 : upd (upd H3 p (.dK (mergeK [] [(.inr "moves", .ref m1), (.inr "steers", .ref m2), (.inr "epoch", .int 0), (.inr "clock", .int 0), (.inr "stuck", .ref m3), (.inr "aside", .non)]))) W (.dK ([(.inr "half", vh), (.inr "rights", .ref ra), (.inr "purse", vp), (.inr "row", .ref b1), (.inr "numbers", .ref b2), (.inr "joinings", .ref b3), (.inr "moves", .ref m1), (.inr "steers", .ref m2), (.inr "epoch", .int 0), (.inr "clock", .int 0), (.inr "stuck", .ref m3), (.inr "aside", .non)])) W = some (.dK ([(.inr "half", vh), (.inr "rights", .ref ra), (.inr "purse", vp), (.inr "row", .ref b1), (.inr "numbers", .ref b2), (.inr "joinings", .ref b3), (.inr "moves", .ref m1), (.inr "steers", .ref m2), (.inr "epoch", .int 0), (.inr "clock", .int 0), (.inr "stuck", .ref m3), (.inr "aside", .non)])) := upd_same
    show tSeq _ _ _ _ (upd (upd H3 p (.dK (mergeK [] [(.inr "moves", .ref m1), (.inr "steers", .ref m2), (.inr "epoch", .int 0), (.inr "clock", .int 0), (.inr "stuck", .ref m3), (.inr "aside", .non)]))) W (.dK ([(.inr "half", vh), (.inr "rights", .ref ra), (.inr "purse", vp), (.inr "row", .ref b1), (.inr "numbers", .ref b2), (.inr "joinings", .ref b3), (.inr "moves", .ref m1), (.inr "steers", .ref m2), (.inr "epoch", .int 0), (.inr "clock", .int 0), (.inr "stuck", .ref m3), (.inr "aside", .non)])))
    generalize upd (upd H3 p (.dK (mergeK [] [(.inr "moves", .ref m1), (.inr "steers", .ref m2), (.inr "epoch", .int 0), (.inr "clock", .int 0), (.inr "stuck", .ref m3), (.inr "aside", .non)]))) W (.dK ([(.inr "half", vh), (.inr "rights", .ref ra), (.inr "purse", vp), (.inr "row", .ref b1), (.inr "numbers", .ref b2), (.inr "joinings", .ref b3), (.inr "moves", .ref m1), (.inr "steers", .ref m2), (.inr "epoch", .int 0), (.inr "clock", .int 0), (.inr "stuck", .ref m3), (.inr "aside", .non)])) = H5 at eC hW5
    -- memory ..
    refine ⟨.ref W, rfl, .inr (.inr (.inl ⟨rfl, .inl ⟨_, hW5⟩⟩)), fun p hp => ⟨line15 (show 1 ≤ 1000 by decide), fun t1 ht1 => od_rep T _ _ _ (.tuple [.int 0]) (.int 8) (.tuple (List.replicate 8 (.int 0))) _ (.tup upd_same (.cons (.int 0) .nil)) (.int 8) (by rfl) fun u1 H6 e6 i6 => ⟨line15 (show 1 ≤ 1000 by decide), fun t2 ht2 => ?_⟩⟩⟩
    have e56 : Ext T H5 (upd H6 t2 (.tup [u1])) := (((Ext.new hp).trans (.new ht1)).trans e6).trans (.new ht2)
    have ep6 : Ext T (upd H5 p (.dK [])) (upd H6 t2 (.tup [u1])) := ((Ext.new ht1).trans e6).trans (.new ht2)
    have i7 : Is (upd H6 t2 (.tup [u1])) (.ref t2) (.tuple [.tuple (List.replicate 8 (.int 0))]) := .tup upd_same (.cons (i6.mono (tups_new ht2)) .nil)
    generalize upd H6 t2 (.tup [u1]) = H7 at e56 ep6 i7
    refine ⟨.ref ra, rfl, ra, rxs, rfl, .inr (.of ((eC.trans e56).tups.1 _ _ hra)), od_rep T _ _ _ (.tuple [.tuple (List.replicate 8 (.int 0))]) (.int 8) mem0 _ i7 (by rw [hri.length, hrl]; exact .int 8) (by rfl) fun mv H8 e8 i8 => ⟨Nat.zero_le _, fun fa hfa => fun nb onb hnb inb tnb => fun lt olt hlt ilt tlt => ?_⟩⟩
    have e9 : Ext T H8 (upd (upd (upd H8 fa (.lst [])) nb onb) lt olt) := ((Ext.new hfa).trans (.new hnb)).trans (.new hlt)
    have nfn : fa ≠ nb := ne_of_none (o := .lst []) upd_same hnb
    have hfa' : upd (upd H8 fa (.lst [])) nb onb fa = some (.lst []) := by rw [upd_ne nfn, upd_same]
    have nfl : fa ≠ lt := ne_of_none hfa' hlt
    have nnl : nb ≠ lt := ne_of_none (o := onb) upd_same hlt
    have hfa9 : upd (upd (upd H8 fa (.lst [])) nb onb) lt olt fa = some (.lst []) := by rw [upd_ne nfl]; exact hfa'
    have inb9 : IsN P w (upd (upd (upd H8 fa (.lst [])) nb onb) lt olt) nb [] := inb.mono (tups_new hlt) (upd_ne nnl)
    have hnb0 : H8 nb = none := by rw [upd_ne (Ne.symm nfn)] at hnb; exact hnb
    have hlt0 : H8 lt = none := by rw [upd_ne (Ne.symm nnl), upd_ne (Ne.symm nfl)] at hlt; exact hlt
    have ilt9 : IsN P w (upd (upd (upd H8 fa (.lst [])) nb onb) lt olt) lt [] := ilt
    generalize upd (upd (upd H8 fa (.lst [])) nb onb) lt olt = H9 at e9 hfa9 inb9 ilt9
    have e89 : Ext T (upd H5 p (.dK [])) H9 := (ep6.trans e8).trans e9
    have hp9 : H9 p = some (.dK []) := e89.keep p _ upd_same (fun ps z => by cases z)
    have e59 : Ext T H5 H9 := (e56.trans e8).trans e9
    refine ⟨hp9, [(.inr "memory", mv), (.inr "far", .ref fa), (.inr "numbered", .ref nb), (.inr "letters", .ref lt), (.inr "era", .int 0)], rfl, (show 5 ≤ 15 by decide), ?_⟩
    have e59' := tabs_turnK (o := .dK (mergeK [] [(.inr "memory", mv), (.inr "far", .ref fa), (.inr "numbered", .ref nb), (.inr "letters", .ref lt), (.inr "era", .int 0)])) e59 hp hp9
    have hWa := e59'.keep W _ hW5 (fun ps z => by cases z)
    have nWp2 : W ≠ p := ne_of_none hW5 hp
    refine ⟨W, p, _, _, rfl, rfl, nWp2, hWa, upd_same, (show 12 + 5 ≤ 1000 by decide), ?_⟩
    have nfp : fa ≠ p := fun e => by rw [e, hp9] at hfa9; cases hfa9
    have nfW : fa ≠ W := fun e => by rw [e] at hfa9; have := e59.keep W _ hW5 (fun ps z => by cases z); rw [this] at hfa9; cases hfa9
    have hfaA : upd (upd H9 p (.dK (mergeK [] [(.inr "memory", mv), (.inr "far", .ref fa), (.inr "numbered", .ref nb), (.inr "letters", .ref lt), (.inr "era", .int 0)]))) W (.dK [(.inr "half", vh), (.inr "rights", .ref ra), (.inr "purse", vp), (.inr "row", .ref b1), (.inr "numbers", .ref b2), (.inr "joinings", .ref b3), (.inr "moves", .ref m1), (.inr "steers", .ref m2), (.inr "epoch", .int 0), (.inr "clock", .int 0), (.inr "stuck", .ref m3), (.inr "aside", .non), (.inr "memory", mv), (.inr "far", .ref fa), (.inr "numbered", .ref nb), (.inr "letters", .ref lt), (.inr "era", .int 0)]) fa = some (.lst []) := by rw [upd_ne nfW, upd_ne nfp]; exact hfa9
    have eD := tabs_turnK (o := .dK [(.inr "half", vh), (.inr "rights", .ref ra), (.inr "purse", vp), (.inr "row", .ref b1), (.inr "numbers", .ref b2), (.inr "joinings", .ref b3), (.inr "moves", .ref m1), (.inr "steers", .ref m2), (.inr "epoch", .int 0), (.inr "clock", .int 0), (.inr "stuck", .ref m3), (.inr "aside", .non), (.inr "memory", mv), (.inr "far", .ref fa), (.inr "numbered", .ref nb), (.inr "letters", .ref lt), (.inr "era", .int 0)]) (eC.trans e59') hW hWa
    have tuA : Tups H9 (upd (upd H9 p (.dK (mergeK [] [(.inr "memory", mv), (.inr "far", .ref fa), (.inr "numbered", .ref nb), (.inr "letters", .ref lt), (.inr "era", .int 0)]))) W (.dK [(.inr "half", vh), (.inr "rights", .ref ra), (.inr "purse", vp), (.inr "row", .ref b1), (.inr "numbers", .ref b2), (.inr "joinings", .ref b3), (.inr "moves", .ref m1), (.inr "steers", .ref m2), (.inr "epoch", .int 0), (.inr "clock", .int 0), (.inr "stuck", .ref m3), (.inr "aside", .non), (.inr "memory", mv), (.inr "far", .ref fa), (.inr "numbered", .ref nb), (.inr "letters", .ref lt), (.inr "era", .int 0)])) := (tups_dK hp9).trans (tups_dK hWa)
    have nkN : ∀ {x : Addr}, IsN P w H9 x [] → x ≠ p ∧ x ≠ W := fun {x} hx => by
      obtain ⟨xs, h1, _⟩ := hx
      refine ⟨fun e => ?_, fun e => ?_⟩
      · rw [e, hp9] at h1; cases h1
      · rw [e] at h1
        have := e59.keep W _ hW5 (fun ps z => by cases z)
        rw [this] at h1; cases h1
    have inbA : IsN P w (upd (upd H9 p (.dK (mergeK [] [(.inr "memory", mv), (.inr "far", .ref fa), (.inr "numbered", .ref nb), (.inr "letters", .ref lt), (.inr "era", .int 0)]))) W (.dK [(.inr "half", vh), (.inr "rights", .ref ra), (.inr "purse", vp), (.inr "row", .ref b1), (.inr "numbers", .ref b2), (.inr "joinings", .ref b3), (.inr "moves", .ref m1), (.inr "steers", .ref m2), (.inr "epoch", .int 0), (.inr "clock", .int 0), (.inr "stuck", .ref m3), (.inr "aside", .non), (.inr "memory", mv), (.inr "far", .ref fa), (.inr "numbered", .ref nb), (.inr "letters", .ref lt), (.inr "era", .int 0)])) nb [] := inb9.mono tuA (by rw [upd_ne (nkN inb9).2, upd_ne (nkN inb9).1])
    have iltA : IsN P w (upd (upd H9 p (.dK (mergeK [] [(.inr "memory", mv), (.inr "far", .ref fa), (.inr "numbered", .ref nb), (.inr "letters", .ref lt), (.inr "era", .int 0)]))) W (.dK [(.inr "half", vh), (.inr "rights", .ref ra), (.inr "purse", vp), (.inr "row", .ref b1), (.inr "numbers", .ref b2), (.inr "joinings", .ref b3), (.inr "moves", .ref m1), (.inr "steers", .ref m2), (.inr "epoch", .int 0), (.inr "clock", .int 0), (.inr "stuck", .ref m3), (.inr "aside", .non), (.inr "memory", mv), (.inr "far", .ref fa), (.inr "numbered", .ref nb), (.inr "letters", .ref lt), (.inr "era", .int 0)])) lt [] := ilt9.mono tuA (by rw [upd_ne (nkN ilt9).2, upd_ne (nkN ilt9).1])
    have imA : Is (upd (upd H9 p (.dK (mergeK [] [(.inr "memory", mv), (.inr "far", .ref fa), (.inr "numbered", .ref nb), (.inr "letters", .ref lt), (.inr "era", .int 0)]))) W (.dK [(.inr "half", vh), (.inr "rights", .ref ra), (.inr "purse", vp), (.inr "row", .ref b1), (.inr "numbers", .ref b2), (.inr "joinings", .ref b3), (.inr "moves", .ref m1), (.inr "steers", .ref m2), (.inr "epoch", .int 0), (.inr "clock", .int 0), (.inr "stuck", .ref m3), (.inr "aside", .non), (.inr "memory", mv), (.inr "far", .ref fa), (.inr "numbered", .ref nb), (.inr "letters", .ref lt), (.inr "era", .int 0)])) mv mem0 := (e9.is i8).mono tuA
    have hWA : upd (upd H9 p (.dK (mergeK [] [(.inr "memory", mv), (.inr "far", .ref fa), (.inr "numbered", .ref nb), (.inr "letters", .ref lt), (.inr "era", .int 0)]))) W (.dK [(.inr "half", vh), (.inr "rights", .ref ra), (.inr "purse", vp), (.inr "row", .ref b1), (.inr "numbers", .ref b2), (.inr "joinings", .ref b3), (.inr "moves", .ref m1), (.inr "steers", .ref m2), (.inr "epoch", .int 0), (.inr "clock", .int 0), (.inr "stuck", .ref m3), (.inr "aside", .non), (.inr "memory", mv), (.inr "far", .ref fa), (.inr "numbered", .ref nb), (.inr "letters", .ref lt), (.inr "era", .int 0)]) W = some (.dK [(.inr "half", vh), (.inr "rights", .ref ra), (.inr "purse", vp), (.inr "row", .ref b1), (.inr "numbers", .ref b2), (.inr "joinings", .ref b3), (.inr "moves", .ref m1), (.inr "steers", .ref m2), (.inr "epoch", .int 0), (.inr "clock", .int 0), (.inr "stuck", .ref m3), (.inr "aside", .non), (.inr "memory", mv), (.inr "far", .ref fa), (.inr "numbered", .ref nb), (.inr "letters", .ref lt), (.inr "era", .int 0)]) := upd_same
    show tSeq _ _ _ _ (upd (upd H9 p (.dK (mergeK [] [(.inr "memory", mv), (.inr "far", .ref fa), (.inr "numbered", .ref nb), (.inr "letters", .ref lt), (.inr "era", .int 0)]))) W (.dK [(.inr "half", vh), (.inr "rights", .ref ra), (.inr "purse", vp), (.inr "row", .ref b1), (.inr "numbers", .ref b2), (.inr "joinings", .ref b3), (.inr "moves", .ref m1), (.inr "steers", .ref m2), (.inr "epoch", .int 0), (.inr "clock", .int 0), (.inr "stuck", .ref m3), (.inr "aside", .non), (.inr "memory", mv), (.inr "far", .ref fa), (.inr "numbered", .ref nb), (.inr "letters", .ref lt), (.inr "era", .int 0)]))
    generalize upd (upd H9 p (.dK (mergeK [] [(.inr "memory", mv), (.inr "far", .ref fa), (.inr "numbered", .ref nb), (.inr "letters", .ref lt), (.inr "era", .int 0)]))) W (.dK [(.inr "half", vh), (.inr "rights", .ref ra), (.inr "purse", vp), (.inr "row", .ref b1), (.inr "numbers", .ref b2), (.inr "joinings", .ref b3), (.inr "moves", .ref m1), (.inr "steers", .ref m2), (.inr "epoch", .int 0), (.inr "clock", .int 0), (.inr "stuck", .ref m3), (.inr "aside", .non), (.inr "memory", mv), (.inr "far", .ref fa), (.inr "numbered", .ref nb), (.inr "letters", .ref lt), (.inr "era", .int 0)]) = HA at hfaA eD inbA iltA imA hWA
    -- lanes ..
    refine ⟨.ref W, rfl, .inr (.inr (.inl ⟨rfl, .inl ⟨_, hWA⟩⟩)), fun p3 hp3 => ⟨.int n, rfl, n, rfl, by omega, by omega, fun la hla => ?_⟩⟩
    have eP : Ext T HA (upd HA p3 (.dK [])) := .new hp3
    refine lc_range (lo := 0) (n := (n : Int).toNat) (fun i H' => Ext T (upd HA p3 (.dK [])) H' ∧ ∃ ls, H' la = some (.lst ls) ∧ ls.length = i ∧ ∀ v ∈ ls, laneAt H' wide v) ⟨.new hla, [], upd_same, rfl, fun v hv => absurd hv (by simp)⟩ (fun i H' hi ⟨g, ls, hd, hl, hls⟩ => ?_) (fun H' ⟨g, ls, hd, hl, hls⟩ => ?_)
    · refine ⟨rfl, ?_⟩
      simp only [tYes, if_true]
      refine ⟨.int wide, rfl, wide, rfl, w1, w2, (eP.trans g).tabs (eD.tabs hT), fun v H2 g2 hv => ⟨ls, g2.keep la _ hd (fun ps z => by cases z), Nat.lt_of_lt_of_le (show ls.length < 1000 by omega) (line15 (Nat.le_refl _)), ?_⟩⟩
      have hd2 := g2.keep la _ hd (fun ps z => by cases z)
      refine ⟨(g.trans g2).turn hla hd2, ls ++ [v], upd_same, by simp [hl], fun x hx => ?_⟩
      have lm : ∀ {x : V}, laneAt H2 wide x → laneAt (upd H2 la (.lst (ls ++ [v]))) wide x := fun {x} ⟨a, kvs, o, rest, e1, e2, e3, e4⟩ => ⟨a, kvs, o, rest, e1, by rw [upd_ne (fun e => by rw [e, hd2] at e2; cases e2)]; exact e2, e3, e4.mono (tups_lst hd2)⟩
      rcases List.mem_append.mp hx with hx | hx
      · obtain ⟨a, kvs, o, rest, e1, e2, e3, e4⟩ := hls x hx
        exact lm ⟨a, kvs, o, rest, e1, g2.keep a _ e2 (fun ps z => by cases z), e3, g2.is e4⟩
      · rw [List.mem_singleton.mp hx]
        exact lm hv
    · rw [Int.toNat_natCast] at hl
      have hp4 : H' p3 = some (.dK []) := g.keep p3 _ upd_same (fun ps z => by cases z)
      have eAH : Ext T HA H' := eP.trans g
      refine ⟨hp4, [(.inr "lanes", .ref la), (.inr "cut", .int 4), (.inr "most", .int 2), (.inr "wait", .int 4)], rfl, (show 4 ≤ 15 by decide), ?_⟩
      have eE := tabs_turnK (o := .dK (mergeK [] [(.inr "lanes", .ref la), (.inr "cut", .int 4), (.inr "most", .int 2), (.inr "wait", .int 4)])) eAH hp3 hp4
      have hW' := eE.keep W _ hWA (fun ps z => by cases z)
      have nWp3 : W ≠ p3 := ne_of_none hWA hp3
      refine ⟨W, p3, _, _, rfl, rfl, nWp3, hW', upd_same, (show 17 + 4 ≤ 1000 by decide), ⟨.ref W, rfl, ?_⟩⟩
      have hWh := eAH.keep W _ hWA (fun ps z => by cases z)
      have nlp : la ≠ p3 := fun e => by rw [e, hp4] at hd; cases hd
      have nlW : la ≠ W := fun e => by rw [e, hWh] at hd; cases hd
      have tuF : Tups H' (upd (upd H' p3 (.dK (mergeK [] [(.inr "lanes", .ref la), (.inr "cut", .int 4), (.inr "most", .int 2), (.inr "wait", .int 4)]))) W (.dK (mergeK [(.inr "half", vh), (.inr "rights", .ref ra), (.inr "purse", vp), (.inr "row", .ref b1), (.inr "numbers", .ref b2), (.inr "joinings", .ref b3), (.inr "moves", .ref m1), (.inr "steers", .ref m2), (.inr "epoch", .int 0), (.inr "clock", .int 0), (.inr "stuck", .ref m3), (.inr "aside", .non), (.inr "memory", mv), (.inr "far", .ref fa), (.inr "numbered", .ref nb), (.inr "letters", .ref lt), (.inr "era", .int 0)] (mergeK [] [(.inr "lanes", .ref la), (.inr "cut", .int 4), (.inr "most", .int 2), (.inr "wait", .int 4)])))) := (tups_dK hp4).trans (tups_dK hW')
      have at_ : ∀ b, b ≠ p3 → b ≠ W → upd (upd H' p3 (.dK (mergeK [] [(.inr "lanes", .ref la), (.inr "cut", .int 4), (.inr "most", .int 2), (.inr "wait", .int 4)]))) W (.dK (mergeK [(.inr "half", vh), (.inr "rights", .ref ra), (.inr "purse", vp), (.inr "row", .ref b1), (.inr "numbers", .ref b2), (.inr "joinings", .ref b3), (.inr "moves", .ref m1), (.inr "steers", .ref m2), (.inr "epoch", .int 0), (.inr "clock", .int 0), (.inr "stuck", .ref m3), (.inr "aside", .non), (.inr "memory", mv), (.inr "far", .ref fa), (.inr "numbered", .ref nb), (.inr "letters", .ref lt), (.inr "era", .int 0)] (mergeK [] [(.inr "lanes", .ref la), (.inr "cut", .int 4), (.inr "most", .int 2), (.inr "wait", .int 4)]))) b = H' b := fun b h1 h2 => by rw [upd_ne h2, upd_ne h1]
      have fa' : H' fa = some (.lst []) := eAH.keep fa _ hfaA (fun ps z => by cases z)
      have nfp3 : fa ≠ p3 := fun e => by rw [e, hp4] at fa'; cases fa'
      have nfW3 : fa ≠ W := fun e => by rw [e, hWh] at fa'; cases fa'
      have isN' : ∀ {x : Addr}, IsN P w HA x [] → IsN P w (upd (upd H' p3 (.dK (mergeK [] [(.inr "lanes", .ref la), (.inr "cut", .int 4), (.inr "most", .int 2), (.inr "wait", .int 4)]))) W (.dK (mergeK [(.inr "half", vh), (.inr "rights", .ref ra), (.inr "purse", vp), (.inr "row", .ref b1), (.inr "numbers", .ref b2), (.inr "joinings", .ref b3), (.inr "moves", .ref m1), (.inr "steers", .ref m2), (.inr "epoch", .int 0), (.inr "clock", .int 0), (.inr "stuck", .ref m3), (.inr "aside", .non), (.inr "memory", mv), (.inr "far", .ref fa), (.inr "numbered", .ref nb), (.inr "letters", .ref lt), (.inr "era", .int 0)] (mergeK [] [(.inr "lanes", .ref la), (.inr "cut", .int 4), (.inr "most", .int 2), (.inr "wait", .int 4)])))) x [] := fun {x} hx => by
        obtain ⟨xs, h1, _⟩ := id hx
        have h1' := eAH.keep x _ h1 (fun ps z => dN_tbl ps z)
        have n1 : x ≠ p3 := fun e => by rw [e, hp4] at h1'; cases h1'
        have n2 : x ≠ W := fun e => by rw [e, hWh] at h1'; cases h1'
        exact hx.mono (eAH.tups.trans tuF) (by rw [at_ x n1 n2, h1', h1])
      have eFin := tabs_turnK (o := .dK (mergeK [(.inr "half", vh), (.inr "rights", .ref ra), (.inr "purse", vp), (.inr "row", .ref b1), (.inr "numbers", .ref b2), (.inr "joinings", .ref b3), (.inr "moves", .ref m1), (.inr "steers", .ref m2), (.inr "epoch", .int 0), (.inr "clock", .int 0), (.inr "stuck", .ref m3), (.inr "aside", .non), (.inr "memory", mv), (.inr "far", .ref fa), (.inr "numbered", .ref nb), (.inr "letters", .ref lt), (.inr "era", .int 0)] (mergeK [] [(.inr "lanes", .ref la), (.inr "cut", .int 4), (.inr "most", .int 2), (.inr "wait", .int 4)]))) (eD.trans eE) hW hW'
      refine q ⟨W, fa, nb, lt, la⟩ ⟨vh, .ref ra, vp, .ref b1, .ref b2, .ref b3, .ref m1, .ref m2, .int 0, .int 0, .ref m3, .non, mv, .ref fa, .ref nb, .ref lt, .int 0, .ref la, .int 4, .int 2, .int 4⟩ _ eFin ?_ ?_
      · have e58 : Ext T H H8 := (eC.trans e56).trans e8
        have la0 : HA la = none := by
          by_cases e : la = p3
          · exact absurd e nlp
          · rw [upd_ne e] at hla; exact hla
        exact ⟨Nw.of (T := T) (.refl _ _) hW, Nw.of e58 hfa, Nw.of e58 hnb0, Nw.of e58 hlt0, Nw.of eD la0⟩
      · have eIs : ∀ {v d}, Is H v d → Is (upd (upd H' p3 (.dK (mergeK [] [(.inr "lanes", .ref la), (.inr "cut", .int 4), (.inr "most", .int 2), (.inr "wait", .int 4)]))) W (.dK (mergeK [(.inr "half", vh), (.inr "rights", .ref ra), (.inr "purse", vp), (.inr "row", .ref b1), (.inr "numbers", .ref b2), (.inr "joinings", .ref b3), (.inr "moves", .ref m1), (.inr "steers", .ref m2), (.inr "epoch", .int 0), (.inr "clock", .int 0), (.inr "stuck", .ref m3), (.inr "aside", .non), (.inr "memory", mv), (.inr "far", .ref fa), (.inr "numbered", .ref nb), (.inr "letters", .ref lt), (.inr "era", .int 0)] (mergeK [] [(.inr "lanes", .ref la), (.inr "cut", .int 4), (.inr "most", .int 2), (.inr "wait", .int 4)])))) v d := fun h => eFin.is h
        refine ⟨upd_same, eIs ih, eIs ir, eIs ip, rfl, (eAH.is imA).mono tuF, rfl, by rw [at_ fa nfp3 nfW3]; exact fa', rfl, isN' inbA, rfl, isN' iltA, rfl, rfl, ⟨ls, by rw [at_ la nlp nlW]; exact hd, hl, fun v hv => ?_⟩, ⟨2, rfl⟩, ⟨4, rfl⟩, ?_, nnl⟩
        · obtain ⟨a, kvs, o, rest, e1, e2, e3, e4⟩ := hls v hv
          have na1 : a ≠ p3 := fun e => by
            rw [e, hp4] at e2
            cases e2
            have e3' : (none : Option V) = some o := e3
            cases e3'
          have na2 : a ≠ W := fun e => by
            rw [e, hWh] at e2
            cases e2
            have e3' : (none : Option V) = some o := e3
            cases e3'
          exact ⟨a, kvs, o, rest, e1, (at_ a na1 na2).trans e2, e3, e4.mono tuF⟩
        · intro e
          have e' : fa = la := e
          rw [← e', upd_ne (ne_of_none hfaA hp3), hfaA] at hla
          cases hla
end
end CR
/-! CrY -/
set_option maxHeartbeats 4000000
namespace CR
open PySem PySem.Spec L2
open PyProof.Rows hiding St
section
variable {P : Program} {w : World} {K : PySem.W.Frag} {mg : Str → Option Value} {base : Heap} {T : List (Addr × Str)}
theorem sqL_mono {K : PySem.W.Frag} {H H' : Hp} {a : Addr} {xs : List V} (h : SqL K H a xs) (e : Same H H') : SqL K H' a xs := by
  rcases h with (h | ⟨o, h⟩) | h
  · exact .inl (.inl (e _ _ h))
  · exact .inl (.inr ⟨o, e _ _ h⟩)
  · exact .inr h
theorem EnvIs.blank (H : Hp) : ∀ σ : St, EnvIs H σ (List.replicate σ.length none)
  | [] => .nil
  | _ :: σ => .skip (EnvIs.blank H σ)
theorem tD_const {T : List (Addr × Str)} {f : DEnv → Option D} {σ : St} {H : Hp} {Q : VK} (d : D) (t : LamX.Tabs T H) (h : f (List.replicate σ.length none) = some d) (q : ∀ v H', Ext T H H' → Is H' v d → Q v H') : tD T f σ H Q := ⟨_, d, t, .blank H σ, h, q⟩
theorem Nw.chg {T : List (Addr × Str)} {S : List Addr} {H H1 : Hp} {x : Addr} (e : Chg T S H H1) (n : Nw H1 x) (hx : x ∉ S) : Nw H x := fun o h => by
  cases o with
  | tbl ps => exact ⟨ps, rfl⟩
  | _ => exact n _ (e.keep x _ h hx (fun ps z => by cases z))
theorem atI_all {xs : List V} {r : Int} (h0 : 0 ≤ r) (h1 : r < (xs.length : Nat)) : ∃ v, atI xs r = some v ∧ v ∈ xs := by
  have h3 : r.toNat < xs.length := by omega
  refine ⟨xs[r.toNat], ?_, List.getElem_mem h3⟩
  unfold atI ixN
  rw [if_pos h0, if_pos h1]
  simp [h3]
def PURSES : List D := [.tuple [.tuple [.int 2, .int 1], .tuple [.int 1, .int 1], .tuple [.int 4, .int 1]], .tuple [.tuple [.int 1, .int 2], .tuple [.int 1, .int 3], .tuple [.int 3, .int 2]], .tuple [.tuple [.int 8, .int 1], .tuple [.int 1, .int 1], .tuple [.int 8, .int 1]], .tuple [.tuple [.int 0, .int 1], .tuple [.int 1, .int 8], .tuple [.int 1, .int 1]]]
def halfD : D := .tuple [.int 0, .str "ann"]
def spDrawn (P : Program) (w : World) (T : List (Addr × Str)) : Sp := fun vs H Q _ => ∃ F c ns, vs = [.ref F] ∧ Feed H F c ns ∧ LamX.Tabs T H ∧ ∀ a r H' rs pu n wide, Chg T [F] H H' → Feed H' F c ns → WFresh H a → (1 ≤ n ∧ n ≤ 2 ∧ wide ∈ [4, 2, 1, 8]) → pu ∈ PURSES → WNew P w H' a r halfD (.tuple rs) pu n wide → Q (.ref a.W) H'
theorem laneAt.chg {T : List (Addr × Str)} {S : List Addr} {H H' : Hp} {wide : Int} {v : V} (l : laneAt H wide v) (g : Chg T S H H') (hS : ∀ x ∈ S, ∀ kvs, H x = some (.dK kvs) → valV kvs (.inr "out") = none) : laneAt H' wide v := by
  obtain ⟨a, kvs, o, rest, e1, e2, e3, e4⟩ := l
  refine ⟨a, kvs, o, rest, e1, g.keep a _ e2 (fun h => ?_) (fun ps z => by cases z), e3, g.is e4⟩
  rw [hS a h kvs e2] at e3
  cases e3
theorem IsN.chg {T : List (Addr × Str)} {S : List Addr} {P : Program} {w : World} {H H' : Hp} {d : Addr} {kvs : List (NK × D)} (i : IsN P w H d kvs) (g : Chg T S H H') (hd : d ∉ S) : IsN P w H' d kvs := by
  obtain ⟨xs, h1, _⟩ := id i
  exact i.mono g.tups ((g.keep d _ h1 hd (fun ps z => dN_tbl ps z)).trans h1.symm)
theorem feed_out {H : Hp} {F c : Addr} {ns : List Int} (f : Feed H F c ns) : ∀ x ∈ [F], ∀ kvs, H x = some (.dK kvs) → valV kvs (.inr "out") = none := fun x hx kvs h => by
  rw [List.mem_singleton.mp hx] at h
  obtain ⟨a, l, k, h', _⟩ := f
  rw [h'] at h
  cases h
  rfl
section
variable {T : List (Addr × Str)} {P : Program} {w : World} {H H' : Hp} {a : Wa} {r : Wv} {half rights purse : D} {n : Nat} {wide : Int}
theorem WNew.chg {S : List Addr} (W : WNew P w H a r half rights purse n wide) (g : Chg T S H H') (h1 : a.W ∉ S) (h2 : a.fa ∉ S) (h3 : a.nb ∉ S) (h4 : a.lt ∉ S) (h5 : a.la ∉ S) (h6 : ∀ x ∈ S, ∀ kvs, H x = some (.dK kvs) → valV kvs (.inr "out") = none) : WNew P w H' a r half rights purse n wide :=
  { W with
    at_ := g.keep _ _ W.at_ h1 (fun ps z => by cases z)
    half := g.is W.half
    rights := g.is W.rights
    purse := g.is W.purse
    memory := g.is W.memory
    far_ := g.keep _ _ W.far_ h2 (fun ps z => by cases z)
    numbered_ := W.numbered_.chg g h3
    letters_ := W.letters_.chg g h4
    lanes_ := by
      obtain ⟨ls, e1, e2, e3⟩ := W.lanes_
      exact ⟨ls, g.keep _ _ e1 h5 (fun ps z => by cases z), e2, fun v hv => (e3 v hv).chg g h6⟩ }
theorem WNew.neW (W : WNew P w H a r half rights purse n wide) : a.fa ≠ a.W ∧ a.la ≠ a.W ∧ a.nb ≠ a.W ∧ a.lt ≠ a.W := by
  refine ⟨fun e => ?_, fun e => ?_, fun e => ?_, fun e => ?_⟩
  · have h := W.far_; rw [e, W.at_] at h; cases h
  · obtain ⟨ls, h, _⟩ := W.lanes_; rw [e, W.at_] at h; cases h
  · obtain ⟨xs, h, _⟩ := W.numbered_; rw [e, W.at_] at h; cases h
  · obtain ⟨xs, h, _⟩ := W.letters_; rw [e, W.at_] at h; cases h
theorem WNew.set (W : WNew P w H a r half rights purse n wide) (cut most wait : V) (hm : ∃ i : Int, most = .int i) (hw : ∃ i : Int, wait = .int i) : WNew P w (upd H a.W (.dK (wl0 { r with cut := cut, most := most, wait := wait }))) a { r with cut := cut, most := most, wait := wait } half rights purse n wide := by
  have g : Chg [] [a.W] H (upd H a.W (.dK (wl0 { r with cut := cut, most := most, wait := wait }))) := Chg.dK W.at_ List.mem_cons_self
  obtain ⟨n1, n2, n3, n4⟩ := W.neW
  have h6 : ∀ x ∈ [a.W], ∀ kvs, H x = some (.dK kvs) → valV kvs (.inr "out") = none := fun x hx kvs h => by
    rw [List.mem_singleton.mp hx, W.at_] at h
    cases h
    rfl
  exact { at_ := upd_same, half := g.is W.half, rights := g.is W.rights, purse := g.is W.purse, clock := W.clock, memory := g.is W.memory, far := W.far, far_ := g.keep _ _ W.far_ (by simpa using n1) (fun ps z => by cases z),
          numbered := W.numbered, numbered_ := W.numbered_.chg g (by simpa using n3), letters := W.letters, letters_ := W.letters_.chg g (by simpa using n4), era := W.era, lanes := W.lanes,
          lanes_ := (by
            obtain ⟨ls, e1, e2, e3⟩ := W.lanes_
            exact ⟨ls, g.keep _ _ e1 (by simpa using n2) (fun ps z => by cases z), e2, fun v hv => (e3 v hv).chg g h6⟩),
          most := hm, wait := hw, ne1 := W.ne1, ne2 := W.ne2 }
end
def spFeed (K : PySem.W.Frag) (T : List (Addr × Str)) : Sp := fun vs H Q _ => ∃ a ns, vs = [.ref a] ∧ SqL K H a (ns.map V.int) ∧ ns.length ≤ 63 ∧ LamX.Tabs T H ∧ ∀ F c H', Ext T H H' → Feed H' F c ns → Q (.ref F) H'
abbrev N__law_feed : List Str := ["_law_script"]
theorem sc__law_feed : FnScope N__law_feed ["_law_script"] (defScope s__law_feed) := ⟨rfl, rfl, rfl, by decide +kernel, rfl, by decide +kernel, by decide +kernel⟩
theorem ok_law_feed {kws : List (Str × V)} {f : Addr} {fd : FuncData} (C : Tc mg) (Fd : FnP K mg "_law_feed" s__law_feed kws f fd) : FnOk P w K mg base L2.CX0 1 f fd ["_law_script"] (spFeed K T) :=
  Fd.1.ok sc__law_feed (fun vs H Q E ⟨a, ns, h, _⟩ => by rw [h]; rfl) fun cdv A outer s H vs Q E hr h => by
    obtain ⟨a, ns, rfl, hs, hl, hT, q⟩ := h
    have hnd := sc__law_feed.nd
    refine ⟨_, pss_one (ps_ret (pe_disp (pps_cons pe_str (pe_callTy call_list_of rfl C.n_list (by decide +kernel) (pa_cons (pe_slice sl_list (rv 0) (po_none) (po_some (pe_int))) (pa_nil))) (pps_cons pe_str (pe_int) (pps_cons pe_str (pe_int) (pps_cons pe_str (pe_int) (pps_nil))))) (by rfl) (by rfl) (fun z => by cases z) (by decide))), ?_⟩
    have ec : cutV (ns.map V.int) none (some 63) = ns.map V.int := by
      have e2 : HT.sIx (ns.map V.int).length (ns.map V.int).length (some 63) = (ns.map V.int).length := by
        rw [show (63 : Int) = ((63 : Nat) : Int) from rfl, HT.sIx_nat, List.length_map]
        omega
      unfold cutV
      rw [HT.sIx_none, e2]
      simp
      exact List.take_of_length_le (by simp)
    refine fun F hF => ⟨.ref a, rfl, 63, rfl, a, _, rfl, sqL_mono hs (same_upd hF), fun p hp => ⟨p, _, rfl, .inl (.of upd_same), fun c hc => ?_⟩⟩
    rw [ec] at hc ⊢
    have e1 : Ext T (upd H F (.dK [])) (upd (upd (upd H F (.dK [])) p (.lst (ns.map V.int))) c (.lst (ns.map V.int))) := (Ext.new hp).trans (.new hc)
    have hF1 := e1.keep F _ upd_same (fun ps z => by cases z)
    have ncF : c ≠ F := Ne.symm (ne_of_none (o := .dK []) (by rw [upd_ne (ne_of_none (o := .dK []) upd_same hp), upd_same]) hc)
    refine ⟨hF1, [(.inr "cells", .ref c), (.inr "at", .int 0), (.inr "left", .int 0), (.inr "count", .int 0)], rfl, (show 4 ≤ 15 by decide), ?_⟩
    exact q F c _ (tabs_turnK ((Ext.new hF).trans e1) hF hF1) ⟨0, 0, 0, upd_same, by rw [upd_ne ncF, upd_same]⟩
abbrev N__law_drawn : List Str := ["_law_feed_here", "_law_rights", "_law_purses", "_law_shutet", "_law_world_here", "_law_k"]
theorem sc__law_drawn : FnScope N__law_drawn ["_law_feed_here"] (defScope s__law_drawn) := ⟨rfl, rfl, rfl, by decide +kernel, rfl, by decide +kernel, by decide +kernel⟩
theorem ok_law_drawn {kws : List (Str × V)} {f : Addr} {fd : FuncData} (C : Tc mg) (c__law_draw : PLn P w K mg base 1 "_law_draw" (spDraw T)) (c__law_world : PLn P w K mg base 3 "_law_world" (spWorld P w T)) (Fd : FnP K mg "_law_drawn" s__law_drawn kws f fd) : FnOk P w K mg base L2.CX0 4 f fd ["_law_feed_here"] (spDrawn P w T) :=
  Fd.1.ok sc__law_drawn (fun vs H Q E ⟨_, _, _, h, _⟩ => by rw [h]; rfl) fun cdv A outer s H vs Q E hr h => by
    obtain ⟨F, c, ns, rfl, hF, hT, q⟩ := h
    have hnd := sc__law_drawn.nd
    have hu := hr.units
    have hu1 : (A.deeper (envOfC (Str.ofString "_law_drawn") (defScope s__law_drawn) s.heap.objs.size f cdv)).units + 1 < cLine := by omega
    refine ⟨_, pss_cons (ps_set (i := 1) hnd rfl (by first | exact Or.inl rfl | exact Or.inr rfl) (pe_callTy call_tuple_of rfl C.n_tuple (by decide +kernel) (pa_cons (pe_lc (own := [("_law_k", 5)]) (g := gName 5) (tt := tYes) rfl hnd (pi_range1 rfl C.n_range (pa_cons (pe_int) (pa_nil))) (blkOk_by (own := [("_law_k", 5)]) (N := N__law_drawn) (sc := defScope s__law_drawn) (by decide +kernel)) (fun _ _ _ _ _ => pg_name (i := 5) hnd rfl (Or.inl rfl)) (fun _ _ _ _ _ => pts_nil) (fun _ _ _ _ _ => pe_ix (r := rIx K) ix_seq (pe_lst (pa_cons (pe_str) (pa_cons (pe_str) (pa_cons (pe_str) (pa_cons (pe_str) (pa_nil)))))) (pe_cl c__law_draw hr (by decide) (pa_cons (rv 0) (pa_cons (pe_int) (pa_nil)))) (fun _ _ => rfl))) pa_nil))) (pss_cons (ps_set (i := 2) hnd rfl (by first | exact Or.inl rfl | exact Or.inr rfl) (pe_lst (pa_cons (dE (T := T) (de_tup (da_cons (de_tup (da_cons (de_int) (da_cons (de_int) (da_nil)))) (da_cons (de_tup (da_cons (de_int) (da_cons (de_int) (da_nil)))) (da_cons (de_tup (da_cons (de_int) (da_cons (de_int) (da_nil)))) (da_nil)))))) (pa_cons (dE (T := T) (de_tup (da_cons (de_tup (da_cons (de_int) (da_cons (de_int) (da_nil)))) (da_cons (de_tup (da_cons (de_int) (da_cons (de_int) (da_nil)))) (da_cons (de_tup (da_cons (de_int) (da_cons (de_int) (da_nil)))) (da_nil)))))) (pa_cons (dE (T := T) (de_tup (da_cons (de_tup (da_cons (de_int) (da_cons (de_int) (da_nil)))) (da_cons (de_tup (da_cons (de_int) (da_cons (de_int) (da_nil)))) (da_cons (de_tup (da_cons (de_int) (da_cons (de_int) (da_nil)))) (da_nil)))))) (pa_nil)))))) (pss_cons (ps_set (i := 3) hnd rfl (by first | exact Or.inl rfl | exact Or.inr rfl) (pe_ix (r := rIx K) ix_seq (pe_op op_cat (rv 2) (pe_lst (pa_cons (dE (T := T) (de_tup (da_cons (de_tup (da_cons (de_int) (da_cons (de_int) (da_nil)))) (da_cons (de_tup (da_cons (de_int) (da_cons (de_int) (da_nil)))) (da_cons (de_tup (da_cons (de_int) (da_cons (de_int) (da_nil)))) (da_nil)))))) (pa_nil)))) (pe_cl c__law_draw hr (by decide) (pa_cons (rv 0) (pa_cons (pe_int) (pa_nil)))) (fun _ _ => rfl))) (pss_cons (ps_set (i := 4) hnd rfl (by first | exact Or.inl rfl | exact Or.inr rfl) (pe_cl c__law_world hr (by decide) (pa_cons (dE (T := T) (de_tup (da_cons (de_int) (da_cons (de_str) (da_nil))))) (pa_cons (rv 1) (pa_cons (rv 3) (pa_cons (pe_op op_add (pe_int) (pe_cl c__law_draw hr (by decide) (pa_cons (rv 0) (pa_cons (pe_int) (pa_nil))))) (pa_cons (pe_ix (r := rIx K) ix_seq (pe_lst (pa_cons (pe_int) (pa_cons (pe_int) (pa_cons (pe_int) (pa_cons (pe_int) (pa_nil)))))) (pe_cl c__law_draw hr (by decide) (pa_cons (rv 0) (pa_cons (pe_int) (pa_nil)))) (fun _ _ => rfl)) (pa_nil)))))))) (pss_cons (ps_asg (pe_tup (pa_cons (pe_op op_add (pe_int) (pe_cl c__law_draw hr (by decide) (pa_cons (rv 0) (pa_cons (pe_int) (pa_nil))))) (pa_cons (pe_ix (r := rIx K) ix_seq (pe_lst (pa_cons (pe_int) (pa_cons (pe_int) (pa_cons (pe_int) (pa_cons (pe_int) (pa_nil)))))) (pe_cl c__law_draw hr (by decide) (pa_cons (rv 0) (pa_cons (pe_int) (pa_nil)))) (fun _ _ => rfl)) (pa_nil)))) (pg_tup rfl (pgs_cons (pg_sub (rv 4) (pe_str) (set_dict hu1)) (pgs_cons (pg_sub (rv 4) (pe_str) (set_dict hu1)) (pgs_nil))))) (pss_cons (ps_dput hu1 (rv 4) pe_str (pe_ix (r := rIx K) ix_seq (pe_lst (pa_cons (pe_int) (pa_cons (pe_int) (pa_cons (pe_int) (pa_cons (pe_int) (pa_cons (pe_int) (pa_nil))))))) (pe_cl c__law_draw hr (by decide) (pa_cons (rv 0) (pa_cons (pe_int) (pa_nil)))) (fun _ _ => rfl)) rfl) (pss_one (ps_ret (rv 4)))))))), ?_⟩
    obtain ⟨oF, hFo, hFt⟩ : ∃ o, H F = some o ∧ ∀ ps, o ≠ .tbl ps := by obtain ⟨a, l, k, h, _⟩ := hF; exact ⟨_, h, fun ps z => by cases z⟩
    have hcl : H c = some (.lst (ns.map V.int)) := by obtain ⟨_, _, _, _, h⟩ := hF; exact h
    refine asg_seq (fun x H1 => Chg T [F] H H1 ∧ Feed H1 F c ns ∧ ∃ rs, Is H1 x (.tuple rs) ∧ rs.length = 8) (fun Q' hQ => ?_) (fun vr H1 ⟨g1, hF1, rs, ir, hrl⟩ => ?_)
    · refine ⟨8, rfl, by decide, by decide, fun D hD => ?_⟩
      refine lc_range (lo := 0) (n := (8 : Int).toNat) (fun i H' => Chg T [F] H H' ∧ Feed H' F c ns ∧ ∃ xs ds, xs.length = i ∧ H' D = some (.lst xs) ∧ IsAll H' xs ds) ⟨Ext.chg (.new hD), hF.ext (T := T) (.new hD), [], [], rfl, upd_same, .nil⟩ (fun i H' hi ⟨g, hf, xs, ds, hl, hd, ha⟩ => ?_) (fun H' ⟨g, hf, xs, ds, hl, hd, ha⟩ => ?_)
      · refine ⟨rfl, ?_⟩
        simp only [tYes, if_true]
        refine ⟨line15 (show 4 ≤ 1000 by decide), fun p hp => ⟨.ref F, rfl, F, c, ns, 4, rfl, by decide, by decide, hf.ext (T := T) (.new hp), (Ext.new (T := T) hp).tabs (g.tabs hT), fun r H4 r0 r1 g4 hF4 => ?_⟩⟩
        have npF : p ≠ F := fun e => by
          obtain ⟨a, l, k, h, _⟩ := hf
          rw [e, h] at hp
          cases hp
        have nDF : D ≠ F := fun e => by rw [e, hFo] at hD; cases hD
        have nDp : D ≠ p := ne_of_none hd hp
        have hp4 := g4.keep p _ upd_same (by simpa using npF) (fun ps z => by cases z)
        have hd4 := g4.keep D _ (by rw [upd_ne nDp]; exact hd) (by simpa using nDF) (fun ps z => by cases z)
        obtain ⟨v, hv, hm⟩ := atI_all (xs := [V.str "ann", .str "ann", .str "ann", .str "bob"]) r0 r1
        obtain ⟨x, rfl⟩ : ∃ x, v = .str x := by simp at hm; rcases hm with h | h <;> exact ⟨_, h⟩
        have gg : Chg T [F] H H4 := (g.ext (.new hp)).trans g4
        exact .inl ⟨p, _, r, _, rfl, rfl, .of hp4, hv, xs, hd4, Nat.lt_of_lt_of_le (show xs.length < 1000 by have : i < 8 := hi; omega) (line15 (Nat.le_refl _)), gg.turn hD hd4, hF4.chg (T := T) (S := [D]) (Chg.lst hd4 List.mem_cons_self) (by simpa using Ne.symm nDF) (fun e => by
          have e' : c = D := by simpa using e
          rw [e', hD] at hcl
          cases hcl), xs ++ [.str x], ds ++ [.str x], by simp [hl], upd_same, (IsAll.append (((Ext.new (T := T) hp).chg.trans g4).all ha) (.cons (.str x) .nil)).mono (tups_lst hd4)⟩
      · exact ⟨D, _, rfl, .inl ⟨.of hd, fun l2 hl2 => hQ _ _ ⟨g.ext (.new hl2), hf.ext (T := T) (.new hl2), ds, .tup upd_same (ha.mono (tups_new hl2)), by rw [← ha.length, hl]; rfl⟩⟩⟩
    · have T1 := g1.tabs hT
      refine asg_seq (fun x H2 => Chg T [F] H H2 ∧ Feed H2 F c ns ∧ Is H2 vr (.tuple rs) ∧ ∃ l v1 v2 v3, x = .ref l ∧ H2 l = some (.lst [v1, v2, v3]) ∧ IsAll H2 [v1, v2, v3] (PURSES.take 3)) (fun Q' hQ => ?_) (fun vl H2 ⟨g2, hF2, ir2, l, v1, v2, v3, el, hl, hv⟩ => ?_)
      · refine tD_const _ T1 rfl fun v1 Ha ea ia => tD_const _ (ea.tabs T1) rfl fun v2 Hb eb ib => tD_const _ (eb.tabs (ea.tabs T1)) rfl fun v3 Hc ec ic => ⟨line15 (show 3 ≤ 1000 by decide), fun l hl => ?_⟩
        have e := ((ea.trans eb).trans ec).trans (Ext.new hl (T := T) (o := .lst [v1, v2, v3]))
        refine hQ _ _ ⟨g1.ext e, hF1.ext (T := T) e, e.is ir, l, v1, v2, v3, rfl, upd_same, ?_⟩
        exact IsAll.mono (tups_new hl) _ _ (.cons ((eb.trans ec).is ia) (.cons (ec.is ib) (.cons ic .nil)))
      · subst el
        have T2 := g2.tabs hT
        have nlF : l ≠ F := fun e => by
          obtain ⟨_, _, _, h, _⟩ := hF2
          rw [e, h] at hl; cases hl
        refine asg_seq (fun x H3 => Chg T [F] H H3 ∧ Feed H3 F c ns ∧ Is H3 vr (.tuple rs) ∧ ∃ pu ∈ PURSES, Is H3 x pu) (fun Q' hQ => ?_) (fun vp H3 ⟨g3, hF3, ir3, pu, hpu, ipu⟩ => ?_)
        · refine ⟨.ref l, rfl, tD_const _ T2 rfl fun v4 Ha ea ia => ⟨line15 (show 1 ≤ 1000 by decide), fun b hb => ?_⟩⟩
          have hla : Ha l = some (.lst [v1, v2, v3]) := ea.keep l _ hl (fun ps z => by cases z)
          refine ⟨l, b, [v1, v2, v3], [v4], rfl, rfl, by rw [upd_ne (ne_of_none hla hb)]; exact hla, upd_same, line15 (show 4 ≤ 1000 by decide), fun p hp => ?_⟩
          have e := (ea.trans (Ext.new hb (T := T) (o := .lst [v4]))).trans (Ext.new hp (T := T) (o := .lst ([v1, v2, v3] ++ [v4])))
          refine ⟨.ref F, rfl, F, c, ns, 4, rfl, by decide, by decide, hF2.ext (T := T) e, e.tabs T2, fun r H4 r0 r1 g4 hF4 => ?_⟩
          have npF : p ≠ F := fun e' => by
            obtain ⟨_, _, _, h, _⟩ := hF2.ext (T := T) (ea.trans (Ext.new hb (T := T) (o := .lst [v4])))
            rw [e', h] at hp; cases hp
          have hp4 := g4.keep p _ upd_same (by simpa using npF) (fun ps z => by cases z)
          have hall : IsAll H4 ([v1, v2, v3] ++ [v4]) PURSES := g4.all (IsAll.append (e.all hv) (.cons (((Ext.new hb (T := T)).trans (Ext.new hp (T := T))).is ia) .nil))
          obtain ⟨v, hat, hm⟩ := atI_all (xs := [v1, v2, v3] ++ [v4]) r0 r1
          obtain ⟨j, hj⟩ := List.mem_iff_getElem?.mp hm
          obtain ⟨d, hd, id⟩ := hall.getV hj
          exact .inl ⟨p, _, r, v, rfl, rfl, .of hp4, hat, hQ _ _ ⟨(g2.ext e).trans g4, hF4, (e.chg.trans g4).is ir2, d, List.mem_of_getElem? hd, id⟩⟩
        · have T3 := g3.tabs hT
          refine asg_seq (fun x H4 => ∃ a r n wide, x = .ref a.W ∧ Chg T [F] H H4 ∧ Feed H4 F c ns ∧ WFresh H a ∧ (1 ≤ n ∧ n ≤ 2 ∧ wide ∈ [(4 : Int), 2, 1, 8]) ∧ WNew P w H4 a r halfD (.tuple rs) pu n wide ∧ a.W ≠ F ∧ a.fa ≠ F ∧ a.nb ≠ F ∧ a.lt ≠ F ∧ a.la ≠ F) (fun Q' hQ => ?_) (fun vw H4 ⟨a, r, n, wide, ew, g4, hF4, fr, hn, WN, nF1, nF2, nF3, nF4, nF5⟩ => ?_)
          · refine tD_const halfD T3 rfl fun vh Ha ea ih => ⟨vr, rfl, vp, rfl, .ref F, rfl, F, c, ns, 2, rfl, by decide, by decide, hF3.ext (T := T) ea, ea.tabs T3, fun rn Hb rn0 rn1 gb hFb => ⟨1, rn, rfl, rfl, line15 (show 4 ≤ 1000 by decide), fun p hp => ?_⟩⟩
            have ep : Ext T Hb (upd Hb p (.lst [.int 4, .int 2, .int 1, .int 8])) := .new hp
            refine ⟨.ref F, rfl, F, c, ns, 4, rfl, by decide, by decide, hFb.ext (T := T) ep, ep.tabs (gb.tabs (ea.tabs T3)), fun r2 Hc r20 r21 gc hFc => ?_⟩
            have npF : p ≠ F := fun e => by
              obtain ⟨_, _, _, h, _⟩ := hFb
              rw [e, h] at hp; cases hp
            have hpc := gc.keep p _ upd_same (by simpa using npF) (fun ps z => by cases z)
            obtain ⟨v, hat, hm⟩ := atI_all (xs := [V.int 4, .int 2, .int 1, .int 8]) r20 r21
            obtain ⟨wide, hwd, rfl⟩ : ∃ wide : Int, wide ∈ [(4 : Int), 2, 1, 8] ∧ v = .int wide := by
              simp at hm
              rcases hm with h | h | h | h
              · exact ⟨4, by simp, h⟩
              · exact ⟨2, by simp, h⟩
              · exact ⟨1, by simp, h⟩
              · exact ⟨8, by simp, h⟩
            have gAll : Chg T [F] H3 Hc := (((Ext.chg ea).trans gb).ext ep).trans gc
            have hwb : 1 ≤ wide ∧ wide ≤ 8 := by
              simp at hwd
              omega
            refine .inl ⟨p, _, r2, _, rfl, rfl, .of hpc, hat, vh, vr, vp, halfD, rs, pu, (1 + rn).toNat, wide, ?_, ((gb.ext ep).trans gc).is ih, gAll.is ir3, hrl, gAll.is ipu, by omega, by omega, hwb.1, hwb.2, gAll.tabs T3, fun a r H' e fr WN => ?_⟩
            · have e1 : ((1 + rn).toNat : Int) = 1 + rn := Int.toNat_of_nonneg (by omega)
              rw [e1]
            · have gH : Chg T [F] H Hc := g3.trans gAll
              obtain ⟨oFc, hFco, hFct⟩ : ∃ o, Hc F = some o ∧ ∀ ps, o ≠ .tbl ps := by obtain ⟨a, l, k, h, _⟩ := hFc; exact ⟨_, h, fun ps z => by cases z⟩
              have nn : ∀ {x : Addr}, Nw Hc x → x ≠ F := fun hx => hx.ne hFco hFct
              have nh : ∀ {x : Addr}, Nw Hc x → Nw H x := fun hx => hx.chg gH (by simpa using nn hx)
              exact hQ _ _ ⟨a, r, _, wide, rfl, gH.ext e, hFc.ext (T := T) e, ⟨nh fr.W, nh fr.fa, nh fr.nb, nh fr.lt, nh fr.la⟩, ⟨by omega, by omega, hwd⟩, WN, nn fr.W, nn fr.fa, nn fr.nb, nn fr.lt, nn fr.la⟩
          · subst ew
            have T4 := g4.tabs hT
            refine ⟨.ref F, rfl, F, c, ns, 4, rfl, by decide, by decide, hF4, T4, fun r1 Ha r10 r11 ga hFa => ⟨1, r1, rfl, rfl, line15 (show 4 ≤ 1000 by decide), fun p hp => ?_⟩⟩
            have ep : Ext T Ha (upd Ha p (.lst [.int 1, .int 2, .int 3, .int 9])) := .new hp
            refine ⟨.ref F, rfl, F, c, ns, 4, rfl, by decide, by decide, hFa.ext (T := T) ep, ep.tabs (ga.tabs T4), fun r2 Hb r20 r21 gb hFb => ?_⟩
            have npF : p ≠ F := fun e => by
              obtain ⟨_, _, _, h, _⟩ := hFa
              rw [e, h] at hp; cases hp
            have hpb := gb.keep p _ upd_same (by simpa using npF) (fun ps z => by cases z)
            obtain ⟨v, hat, hm⟩ := atI_all (xs := [V.int 1, .int 2, .int 3, .int 9]) r20 r21
            obtain ⟨mo, rfl⟩ : ∃ mo : Int, v = .int mo := by
              simp at hm
              rcases hm with h | h | h | h <;> exact ⟨_, h⟩
            refine .inl ⟨p, _, r2, _, rfl, rfl, .of hpb, hat, line15 (show 2 ≤ 1000 by decide), fun t ht => ?_⟩
            have et : Ext T Hb (upd Hb t (.tup [.int (1 + r1), .int mo])) := .new ht
            have gAll : Chg T [F] H4 (upd Hb t (.tup [.int (1 + r1), .int mo])) := ((ga.ext ep).trans gb).ext et
            have W1 := WN.chg gAll (by simpa using nF1) (by simpa using nF2) (by simpa using nF3) (by simpa using nF4) (by simpa using nF5) (feed_out hF4)
            have hF5 := hFb.ext (T := T) et
            refine ⟨t, _, rfl, .of upd_same, rfl, _, _, rfl, ⟨.ref a.W, rfl, a.W, _, rfl, DPut.k (k := .inr "cut") W1.at_ (Nat.lt_of_lt_of_le (show 21 < 1000 by decide) (line15 (Nat.le_refl _))), _, _, rfl, ⟨.ref a.W, rfl, a.W, _, rfl, DPut.k (k := .inr "most") (kvs := wl0 { r with cut := .int (1 + r1) }) upd_same (Nat.lt_of_lt_of_le (show 21 < 1000 by decide) (line15 (Nat.le_refl _))), rfl, ?_⟩⟩⟩
            rw [upd_upd]
            have W2 : WNew P w (upd (upd Hb t (.tup [.int (1 + r1), .int mo])) a.W (.dK (putK (wl0 { r with cut := .int (1 + r1) }) (.inr "most") (.int mo)))) a { r with cut := .int (1 + r1), most := .int mo } halfD (.tuple rs) pu n wide := W1.set _ _ _ ⟨mo, rfl⟩ W1.wait
            have g6 : Chg T [F, a.W] (upd Hb t (.tup [.int (1 + r1), .int mo])) (upd (upd Hb t (.tup [.int (1 + r1), .int mo])) a.W (.dK (putK (wl0 { r with cut := .int (1 + r1) }) (.inr "most") (.int mo)))) := Chg.dK W1.at_ (by simp)
            have hF6 : Feed (upd (upd Hb t (.tup [.int (1 + r1), .int mo])) a.W (.dK (putK (wl0 { r with cut := .int (1 + r1) }) (.inr "most") (.int mo)))) F c ns := hF5.chg (S := [a.W]) (T := T) (Chg.dK W1.at_ (by simp)) (by simpa using Ne.symm nF1) (fun e => by
              have e' : c = a.W := by simpa using e
              have hx := W1.at_
              rw [← e'] at hx
              obtain ⟨_, _, _, _, h⟩ := hF5
              rw [h] at hx
              cases hx)
            generalize upd (upd Hb t (.tup [.int (1 + r1), .int mo])) a.W (.dK (putK (wl0 { r with cut := .int (1 + r1) }) (.inr "most") (.int mo))) = H6 at W2 g6 hF6
            have T6 : LamX.Tabs T H6 := g6.tabs (gAll.tabs T4)
            refine ⟨line15 (show 5 ≤ 1000 by decide), fun p2 hp2 => ⟨.ref F, rfl, F, c, ns, 5, rfl, by decide, by decide, hF6.ext (T := T) (.new hp2), (Ext.new (T := T) hp2).tabs T6, fun r3 Hd r30 r31 gd hFd => ?_⟩⟩
            have npF2 : p2 ≠ F := fun e => by
              obtain ⟨_, _, _, h, _⟩ := hF6
              rw [e, h] at hp2; cases hp2
            have hpd := gd.keep p2 _ upd_same (by simpa using npF2) (fun ps z => by cases z)
            obtain ⟨v, hat, hm⟩ := atI_all (xs := [V.int 1, .int 2, .int 3, .int 4, .int 12]) r30 r31
            obtain ⟨wa, rfl⟩ : ∃ wa : Int, v = .int wa := by
              simp at hm
              rcases hm with h | h | h | h | h <;> exact ⟨_, h⟩
            have gE : Chg T [F] H6 Hd := (Ext.chg (.new hp2)).trans gd
            have W3 := W2.chg gE (by simpa using nF1) (by simpa using nF2) (by simpa using nF3) (by simpa using nF4) (by simpa using nF5) (feed_out hF6)
            refine .inl ⟨p2, _, r3, _, rfl, rfl, .of hpd, hat, .ref a.W, rfl, a.W, _, rfl, DPut.k (k := .inr "wait") W3.at_ (Nat.lt_of_lt_of_le (show 21 < 1000 by decide) (line15 (Nat.le_refl _))), .ref a.W, rfl, ?_⟩
            have W4 : WNew P w (upd Hd a.W (.dK (putK (wl0 { r with cut := .int (1 + r1), most := .int mo }) (.inr "wait") (.int wa)))) a { r with cut := .int (1 + r1), most := .int mo, wait := .int wa } halfD (.tuple rs) pu n wide := W3.set _ _ _ W3.most ⟨wa, rfl⟩
            have g7 : Chg T [F, a.W] H (upd Hd a.W (.dK (putK (wl0 { r with cut := .int (1 + r1), most := .int mo }) (.inr "wait") (.int wa)))) := ((((g4.trans gAll).mono (by simp)).trans g6).trans (gE.mono (by simp))).trans (Chg.dK W3.at_ (by simp))
            have hF7 : Feed (upd Hd a.W (.dK (putK (wl0 { r with cut := .int (1 + r1), most := .int mo }) (.inr "wait") (.int wa)))) F c ns := hFd.chg (S := [a.W]) (T := T) (Chg.dK W3.at_ (by simp)) (by simpa using Ne.symm nF1) (fun e => by
              have e' : c = a.W := by simpa using e
              have hx := W3.at_
              rw [← e'] at hx
              obtain ⟨_, _, _, _, h⟩ := hFd
              rw [h] at hx
              cases hx)
            -- the world's own place is new
            have g8 : Chg T [F] H (upd Hd a.W (.dK (putK (wl0 { r with cut := .int (1 + r1), most := .int mo }) (.inr "wait") (.int wa)))) := ⟨fun b o h1 h2 h3 => g7.keep b o h1 (fun hb => by
              rcases List.mem_cons.mp hb with e | e
              · exact h2 (by rw [e]; exact List.mem_cons_self)
              · have e' : b = a.W := by simpa using e
                obtain ⟨ps, hps⟩ := fr.W o (by rw [← e']; exact h1)
                exact h3 ps hps) h3, g7.tabs, g7.tups⟩
            exact q a _ _ rs pu n wide g8 hF7 fr hn hpu W4
end
end CR
/-! CrZ -/
set_option maxHeartbeats 4000000
namespace CR
open PySem PySem.Spec L2
open PyProof.Rows hiding St
/-! ### the world while the law goes on -/
structure WS where
  rights : D
  clock : Int
  era : Int
  most : Int
  wait : Int
  value : D
  memory : D
  far : List D
  numbered : List (NK × D)
  letters : List (NK × D)
  n : Nat
structure WAt (P : Program) (w : World) (H : Hp) (a : Wa) (r : Wv) (v : V) (s : WS) : Prop where
  at_ : H a.W = some (.dK (wl r v))
  half : Is H r.half halfD
  rights : Is H r.rights s.rights
  clock : r.clock = .int s.clock
  memory : Is H r.memory s.memory
  far : r.far = .ref a.fa
  far_ : ∃ xs, H a.fa = some (.lst xs) ∧ IsAll H xs s.far
  numbered : r.numbered = .ref a.nb
  numbered_ : IsN P w H a.nb s.numbered
  letters : r.letters = .ref a.lt
  letters_ : IsN P w H a.lt s.letters
  era : r.era = .int s.era
  lanes : r.lanes = .ref a.la
  lanes_ : ∃ ls, H a.la = some (.lst ls) ∧ ls.length = s.n
  most : r.most = .int s.most
  wait : r.wait = .int s.wait
  value : Is H v s.value
  ne1 : a.fa ≠ a.la
  ne2 : a.nb ≠ a.lt
def WOk (P : Program) (w : World) (H : Hp) (a : Wa) (s : WS) : Prop := ∃ r v, WAt P w H a r v s
section
variable {T : List (Addr × Str)} {P : Program} {w : World} {H H' : Hp} {a : Wa} {r : Wv} {v : V} {s : WS}
theorem WAt.chg {S : List Addr} (W : WAt P w H a r v s) (g : Chg T S H H') (h1 : a.W ∉ S) (h2 : a.fa ∉ S) (h3 : a.nb ∉ S) (h4 : a.lt ∉ S) (h5 : a.la ∉ S) : WAt P w H' a r v s :=
  { W with
    at_ := g.keep _ _ W.at_ h1 (fun ps z => by cases z)
    half := g.is W.half
    rights := g.is W.rights
    memory := g.is W.memory
    far_ := by
      obtain ⟨xs, e1, e2⟩ := W.far_
      exact ⟨xs, g.keep _ _ e1 h2 (fun ps z => by cases z), g.all e2⟩
    numbered_ := W.numbered_.chg g h3
    letters_ := W.letters_.chg g h4
    lanes_ := by
      obtain ⟨ls, e1, e2⟩ := W.lanes_
      exact ⟨ls, g.keep _ _ e1 h5 (fun ps z => by cases z), e2⟩
    value := g.is W.value }
theorem WAt.ext (W : WAt P w H a r v s) (e : Ext T H H') : WAt P w H' a r v s := W.chg (S := []) e.chg (by simp) (by simp) (by simp) (by simp) (by simp)
theorem WAt.neW (W : WAt P w H a r v s) : a.fa ≠ a.W ∧ a.la ≠ a.W ∧ a.nb ≠ a.W ∧ a.lt ≠ a.W := by
  refine ⟨fun e => ?_, fun e => ?_, fun e => ?_, fun e => ?_⟩
  · obtain ⟨_, h, _⟩ := W.far_; rw [e, W.at_] at h; cases h
  · obtain ⟨ls, h, _⟩ := W.lanes_; rw [e, W.at_] at h; cases h
  · obtain ⟨xs, h, _⟩ := W.numbered_; rw [e, W.at_] at h; cases h
  · obtain ⟨xs, h, _⟩ := W.letters_; rw [e, W.at_] at h; cases h
theorem WAt.neL (W : WAt P w H a r v s) : a.fa ≠ a.nb ∧ a.fa ≠ a.lt ∧ a.la ≠ a.nb ∧ a.la ≠ a.lt := by
  obtain ⟨_, hf, _⟩ := W.far_
  obtain ⟨_, hl, _⟩ := W.lanes_
  obtain ⟨_, hn, _⟩ := W.numbered_
  obtain ⟨_, ht, _⟩ := W.letters_
  refine ⟨fun e => ?_, fun e => ?_, fun e => ?_, fun e => ?_⟩
  · rw [e, hn] at hf; cases hf
  · rw [e, ht] at hf; cases hf
  · rw [e, hn] at hl; cases hl
  · rw [e, ht] at hl; cases hl
/-- the world's dict is written: what does not stand in it stays -/
theorem WAt.put (W : WAt P w H a r v s) (r' : Wv) (v' : V) (s' : WS) (hf : r'.far = r.far ∧ r'.numbered = r.numbered ∧ r'.letters = r.letters ∧ r'.lanes = r.lanes ∧ r'.half = r.half) (hs : s'.far = s.far ∧ s'.numbered = s.numbered ∧ s'.letters = s.letters ∧ s'.n = s.n)
    (h1 : Is H r'.rights s'.rights) (h2 : r'.clock = .int s'.clock) (h3 : Is H r'.memory s'.memory) (h4 : r'.era = .int s'.era) (h5 : r'.most = .int s'.most) (h6 : r'.wait = .int s'.wait) (h7 : Is H v' s'.value) :
    WAt P w (upd H a.W (.dK (wl r' v'))) a r' v' s' := by
  have g : Chg [] [a.W] H (upd H a.W (.dK (wl r' v'))) := Chg.dK W.at_ List.mem_cons_self
  obtain ⟨n1, n2, n3, n4⟩ := W.neW
  exact { at_ := upd_same, half := by rw [hf.2.2.2.2]; exact g.is W.half, rights := g.is h1, clock := h2, memory := g.is h3, far := hf.1.trans W.far,
          far_ := (by
            obtain ⟨xs, e1, e2⟩ := W.far_
            exact ⟨xs, g.keep _ _ e1 (by simpa using n1) (fun ps z => by cases z), by rw [hs.1]; exact g.all e2⟩),
          numbered := hf.2.1.trans W.numbered, numbered_ := by rw [hs.2.1]; exact W.numbered_.chg g (by simpa using n3), letters := hf.2.2.1.trans W.letters, letters_ := by rw [hs.2.2.1]; exact W.letters_.chg g (by simpa using n4), era := h4, lanes := hf.2.2.2.1.trans W.lanes,
          lanes_ := (by
            obtain ⟨ls, e1, e2⟩ := W.lanes_
            exact ⟨ls, g.keep _ _ e1 (by simpa using n2) (fun ps z => by cases z), by rw [hs.2.2.2]; exact e2⟩),
          most := h5, wait := h6, value := g.is h7, ne1 := W.ne1, ne2 := W.ne2 }
theorem WNew.world {rights purse val : D} {n : Nat} {wide mo wa : Int} (W : WNew P w H a r halfD rights purse n wide) (iv : Is H v val) (hmo : r.most = .int mo) (hwa : r.wait = .int wa) : WAt P w (upd H a.W (.dK (wl r v))) a r v ⟨rights, 0, 0, mo, wa, val, mem0, [], [], [], n⟩ := by
  have g : Chg [] [a.W] H (upd H a.W (.dK (wl r v))) := Chg.dK W.at_ List.mem_cons_self
  obtain ⟨n1, n2, n3, n4⟩ := W.neW
  exact { at_ := upd_same, half := g.is W.half, rights := g.is W.rights, clock := W.clock, memory := g.is W.memory, far := W.far, far_ := ⟨[], g.keep _ _ W.far_ (by simpa using n1) (fun ps z => by cases z), .nil⟩,
          numbered := W.numbered, numbered_ := W.numbered_.chg g (by simpa using n3), letters := W.letters, letters_ := W.letters_.chg g (by simpa using n4), era := W.era, lanes := W.lanes,
          lanes_ := (by
            obtain ⟨ls, e1, e2, e3⟩ := W.lanes_
            exact ⟨ls, g.keep _ _ e1 (by simpa using n2) (fun ps z => by cases z), e2⟩),
          most := hmo, wait := hwa, value := g.is iv, ne1 := W.ne1, ne2 := W.ne2 }
/-! reading -/
theorem wg (W : WAt P w H a r v s) {k : Str} {u : V} (h : valV (wl r v) (.inr k) = some u) : DGet H a.W (.str k) (some u) := by
  rw [← h]
  exact DGet.k (k := .inr k) W.at_
theorem wline : (wl r v).length < sizeLine := Nat.lt_of_lt_of_le (show 22 < 1000 by decide) (line15 (Nat.le_refl _))
end
section
variable {P : Program} {w : World} {K : PySem.W.Frag} {mg : Str → Option Value} {base : Heap} {T : List (Addr × Str)}
abbrev N__law_value : List Str := ["_law_world_here"]
theorem sc__law_value : FnScope N__law_value ["_law_world_here"] (defScope s__law_value) := ⟨rfl, rfl, rfl, by decide +kernel, rfl, by decide +kernel, by decide +kernel⟩
def spValue (P : Program) (w : World) (T : List (Addr × Str)) : Sp := fun vs H Q _ => ∃ a s, vs = [.ref a.W] ∧ WOk P w H a s ∧ ∀ v, Is H v s.value → Q v H
theorem ok_law_value {kws : List (Str × V)} {f : Addr} {fd : FuncData} (Fd : FnP K mg "_law_value" s__law_value kws f fd) : FnOk P w K mg base L2.CX0 1 f fd ["_law_world_here"] (spValue P w T) :=
  Fd.1.ok sc__law_value (fun vs H Q E ⟨_, _, h, _⟩ => by rw [h]; rfl) fun cdv A outer s H vs Q E hr h => by
    obtain ⟨a, s', rfl, ⟨r, v, W⟩, q⟩ := h
    have hu1 : (A.deeper (envOfC (Str.ofString "_law_value") (defScope s__law_value) s.heap.objs.size f cdv)).units + 1 < cLine := by have := hr.units; omega
    exact ⟨_, pss_one (ps_ret (pe_dget hu1 (rv 0) pe_str (fun _ _ => rfl))), ⟨.ref a.W, rfl, a.W, v, rfl, wg W rfl, q v W.value⟩⟩
abbrev N__law_by_program : List Str := ["_law_feed_here", "_law_world_here", "_law_wide", "_law_tracks"]
theorem sc__law_by_program : FnScope N__law_by_program ["_law_feed_here"] (defScope s__law_by_program) := ⟨rfl, rfl, rfl, by decide +kernel, rfl, by decide +kernel, by decide +kernel⟩
def val0 (n : Nat) (wide : Int) (pu : D) : D := .tuple [halfD, .tuple (List.replicate n (.tuple [.tuple (voidR wide), .int 0, .int 0, .tuple [], .tuple (voidR wide), .tuple [], .none, .bool false])), .tuple [], .tuple [], .list [], .tuple [], .list [], pu, .int 0]
theorem half_of_eq {n : Nat} {wide : Int} {pu : D} (h1 : 1 ≤ n) (h2 : n ≤ 2) (h3 : wide ∈ [(4 : Int), 2, 1, 8]) : m_half_of [halfD, pu, .int (n : Nat), .int wide] = some (val0 n wide pu) := by
  have hn : n = 1 ∨ n = 2 := by omega
  simp at h3
  rcases hn with rfl | rfl <;> rcases h3 with rfl | rfl | rfl | rfl <;> rfl
def spByProgram (P : Program) (w : World) (T : List (Addr × Str)) : Sp := fun vs H Q _ => ∃ F c ns, vs = [.ref F] ∧ Feed H F c ns ∧ LamX.Tabs T H ∧ ∀ a r v H' s pu n wide, Chg T [F] H H' → Feed H' F c ns → WFresh H a → (1 ≤ n ∧ n ≤ 2 ∧ wide ∈ [(4 : Int), 2, 1, 8]) → pu ∈ PURSES →
  s.clock = 0 ∧ s.era = 0 ∧ s.value = val0 n wide pu ∧ s.memory = mem0 ∧ s.far = [] ∧ s.numbered = [] ∧ s.letters = [] ∧ s.n = n → WAt P w H' a r v s → Q (.ref a.W) H'
theorem ok_law_by_program {kws : List (Str × V)} {f : Addr} {fd : FuncData} (C : Tc mg) (c__law_drawn : PLn P w K mg base 4 "_law_drawn" (spDrawn P w T)) (c_half_of : PFk P w K mg base T 3 "half_of" 1 ["purse", "lanes", "size"] m_half_of) (Fd : FnP K mg "_law_by_program" s__law_by_program kws f fd) : FnOk P w K mg base L2.CX0 5 f fd ["_law_feed_here"] (spByProgram P w T) :=
  Fd.1.ok sc__law_by_program (fun vs H Q E ⟨_, _, _, h, _⟩ => by rw [h]; rfl) fun cdv A outer s H vs Q E hr h => by
    obtain ⟨F, c, ns, rfl, hF, hT, q⟩ := h
    have hnd := sc__law_by_program.nd
    have hu := hr.units
    have hu1 : (A.deeper (envOfC (Str.ofString "_law_by_program") (defScope s__law_by_program) s.heap.objs.size f cdv)).units + 1 < cLine := by omega
    refine ⟨_, pss_cons (ps_set (i := 1) hnd rfl (by first | exact Or.inl rfl | exact Or.inr rfl) (pe_cl c__law_drawn hr (by decide) (pa_cons (rv 0) (pa_nil)))) (pss_cons (ps_par (i := 2) (j := 3) rfl hnd rfl rfl (by decide) rfl rfl (pa_cons (pe_ix (r := rIx K) ix_seq (pe_dget hu1 (pe_ix (r := rIx K) ix_seq (pe_dget hu1 (rv 1) pe_str (fun _ _ => rfl)) (pe_int) (fun _ _ => rfl)) pe_str (fun _ _ => rfl)) (pe_int) (fun _ _ => rfl)) (pa_cons (pe_callB call_len_seq rfl C.n_len PySem.boot_len (pa_cons (pe_dget hu1 (rv 1) pe_str (fun _ _ => rfl)) (pa_nil))) (pa_nil))) rfl rfl) (pss_cons (ps_dput hu1 (rv 1) pe_str (pe_cpk c_half_of hr (by decide) (pa_cons (pe_dget hu1 (rv 1) pe_str (fun _ _ => rfl)) (pa_nil)) (pk_cons (pe_dget hu1 (rv 1) pe_str (fun _ _ => rfl)) (pk_cons (rv 3) (pk_cons (rv 2) (pk_nil))))) rfl) (pss_one (ps_ret (rv 1))))), ?_⟩
    refine ⟨.ref F, rfl, F, c, ns, rfl, hF, hT, fun a r H1 rs pu n wide g1 hF1 fr hn hpu WN => ?_⟩
    have T1 := g1.tabs hT
    obtain ⟨ls, hla, hll, hls⟩ := WN.lanes_
    have gl : DGet H1 a.W (.str "lanes") (some (.ref a.la)) := by
      rw [← WN.lanes]
      exact DGet.k (k := .inr "lanes") WN.at_
    cases ls with
    | nil =>
      have : n = 0 := hll.symm
      omega
    | cons v0 lr =>
      obtain ⟨la, kvs, o, rest, rfl, e2, e3, e4⟩ := hls v0 List.mem_cons_self
      obtain ⟨oa, ox, rfl, ho, hoi⟩ := e4.tupE
      cases hoi with
      | @cons wv _ _ _ hw hoi =>
        cases hw
        refine ⟨.ref a.W, rfl, a.W, _, rfl, gl, .inl ⟨a.la, _, 0, .ref la, rfl, rfl, .of hla, atI_nat (j := 0) rfl, la, .ref oa, rfl, ?_, .inr (.inl ⟨oa, _, 0, .int wide, rfl, rfl, .of ho, atI_nat (j := 0) rfl, .ref a.W, rfl, a.W, _, rfl, gl, a.la, _, rfl, .inl (.of hla), ?_⟩)⟩⟩
        · rw [← e3]
          exact DGet.k (k := .inr "out") e2
        · rw [hll]
          refine ⟨_, _, rfl, ?_⟩
          refine ⟨.ref a.W, rfl, a.W, r.half, rfl, DGet.k (k := .inr "half") WN.at_, .ref a.W, rfl, a.W, r.purse, rfl, DGet.k (k := .inr "purse") WN.at_, .int n, rfl, .int wide, rfl, [halfD], [pu, .int n, .int wide], val0 n wide pu, .cons WN.half .nil, .cons WN.purse (.cons (.int _) (.cons (.int _) .nil)), rfl, rfl, T1, half_of_eq hn.1 hn.2.1 hn.2.2, fun v H2 e iv => ?_⟩
          have W2 := WN.chg (S := []) (e.chg (S := [])) (by simp) (by simp) (by simp) (by simp) (by simp) (fun x hx => absurd hx (by simp))
          obtain ⟨mo, hmo⟩ := WN.most
          obtain ⟨wa, hwa⟩ := WN.wait
          refine ⟨.ref a.W, rfl, a.W, _, rfl, DPut.k (k := .inr "value") W2.at_ (Nat.lt_of_lt_of_le (show 21 < 1000 by decide) (line15 (Nat.le_refl _))), .ref a.W, rfl, ?_⟩
          have WW := W2.world (v := v) iv hmo hwa
          have g2 : Chg T [F, a.W] H (upd H2 a.W (.dK (putK (wl0 r) (.inr "value") v))) := ((g1.ext e).mono (by simp)).trans (Chg.dK W2.at_ (by simp))
          have hFo : ∃ o, H F = some o ∧ ∀ ps, o ≠ .tbl ps := by obtain ⟨a, l, k, h, _⟩ := hF; exact ⟨_, h, fun ps z => by cases z⟩
          obtain ⟨oF, hFo, hFt⟩ := hFo
          have nF1 : a.W ≠ F := fr.W.ne hFo hFt
          have g3 : Chg T [F] H (upd H2 a.W (.dK (putK (wl0 r) (.inr "value") v))) := ⟨fun b o h1 h2 h3 => g2.keep b o h1 (fun hb => by
            rcases List.mem_cons.mp hb with e | e
            · exact h2 (by rw [e]; exact List.mem_cons_self)
            · have e' : b = a.W := by simpa using e
              obtain ⟨ps, hps⟩ := fr.W o (by rw [← e']; exact h1)
              exact h3 ps hps) h3, g2.tabs, g2.tups⟩
          have hF2 : Feed (upd H2 a.W (.dK (putK (wl0 r) (.inr "value") v))) F c ns := (hF1.ext (T := T) e).chg (S := [a.W]) (T := T) (Chg.dK W2.at_ (by simp)) (by simpa using Ne.symm nF1) (fun e => by
            have e' : c = a.W := by simpa using e
            have hx := W2.at_
            rw [← e'] at hx
            obtain ⟨_, _, _, _, h⟩ := hF1.ext (T := T) ‹Ext T H1 H2›
            rw [h] at hx
            cases hx)
          exact q a r v _ _ pu n wide g3 hF2 fr hn hpu ⟨rfl, rfl, rfl, rfl, rfl, rfl, rfl, rfl⟩ WW
end
end CR
/-! CrU -/
set_option maxHeartbeats 4000000
namespace CR
open PySem PySem.Spec L2
open PyProof.Rows hiding St
/-! ### a letter -/
def TALKS : List D := [.tuple [.tuple [.int 1, .str "bob"], halfD, .str "hi"], .tuple [.tuple [.int 1, .str "bob"], halfD, .str "yo"], .tuple [.tuple [.int 1, .str "cy"], halfD, .str "hi"], .tuple [.tuple [.int 1, .str "cy"], halfD, .str "yo"]]
def tk (d : D) : NK := (nkOf d).getD .none
theorem talk_ok : ∀ d ∈ TALKS, nkOf d = some (tk d) ∧ isTupK (tk d) = true ∧ (tk d).depth ≤ 7 := by
  intro d hd
  simp only [TALKS, List.mem_cons, List.mem_nil_iff, or_false] at hd
  rcases hd with rfl | rfl | rfl | rfl <;> exact ⟨rfl, rfl, by decide⟩
theorem talk_data {d : D} (h : d ∈ TALKS) : (tk d).data = d := nkOf_data _ _ (talk_ok d h).1
def numOf (kvs : List (NK × D)) (k : NK) : Int := match dget kvs k with
  | some (.int i) => i
  | _ => 0
def PiecesOf (t : D) (n : Int) (ws : List Int) (e cut : Int) (ps : List D) : Prop := m_pieces_of [.tuple [t, .int n, .tuple (ws.map .int)], .int e, .int cut] = some (.tuple ps)
structure PieceFine (d : D) : Prop where
  no : noL d = true
  lay : d.canLay0 = true
  dep : d.depth ≤ 20
  bent : ∀ k : Int, 0 ≤ k → k < 3 → ∃ d', m_bent [d, .int k] = some d'
def HasPieces : Prop := ∀ t ∈ TALKS, ∀ (n : Int) (ws : List Int) (e cut : Int), ws.length ≤ 8 → 1 ≤ cut → cut ≤ 4 → ∃ ps, PiecesOf t n ws e cut ps ∧ 1 ≤ ps.length ∧ ps.length ≤ 8 ∧ ∀ d ∈ ps, PieceFine d
def NumsOk (kvs : List (NK × D)) : Prop := ∀ k d, dget kvs k = some d → ∃ i, d = .int i
structure LStep (s s' : WS) (t : D) (n : Int) (ws : List Int) (e cut : Int) (ps : List D) : Prop where
  talk : t ∈ TALKS
  era : e = s.era ∨ e = s.era + 1
  num : n = numOf s.numbered (tk t) ∨ n = numOf s.numbered (tk t) + 1
  words : ws.length ≤ 8
  cut0 : 1 ≤ cut
  cut1 : cut ≤ 4
  pieces : PiecesOf t n ws e cut ps
  p0 : 1 ≤ ps.length
  p1 : ps.length ≤ 8
  fine : ∀ d ∈ ps, PieceFine d
  eq : s' = { s with era := e, numbered := dset s.numbered (tk t) (.int (n + 1)), letters := dset s.letters (.tup [tk t, .num n]) (.tuple (ws.map .int)), far := s.far ++ ps }
def wS (a : Wa) (F : Addr) : List Addr := [F, a.W, a.fa, a.nb, a.lt]
def spLetter (P : Program) (w : World) (T : List (Addr × Str)) : Sp := fun vs H Q _ => ∃ F c ns a s, vs = [.ref F, .ref a.W] ∧ Feed H F c ns ∧ LamX.Tabs T H ∧ WOk P w H a s ∧ (F ≠ a.W ∧ c ≠ a.fa) ∧ NumsOk s.numbered ∧ s.numbered.length < 900 ∧ s.letters.length < 900 ∧ s.far.length ≤ 900 ∧
  ∀ v H' s' t n ws e cut ps, LStep s s' t n ws e cut ps → Chg T (wS a F) H H' → Feed H' F c ns → WOk P w H' a s' → Q v H'
section
variable {T : List (Addr × Str)} {P : Program} {w : World} {H H' : Hp} {a : Wa} {r : Wv} {v : V} {s : WS}
theorem wgHalf (W : WAt P w H a r v s) : DGet H a.W (.str "half") (some r.half) := wg W rfl
theorem wgEra (W : WAt P w H a r v s) : DGet H a.W (.str "era") (some (.int s.era)) := by rw [← W.era]; exact wg W rfl
theorem wgNb (W : WAt P w H a r v s) : DGet H a.W (.str "numbered") (some (.ref a.nb)) := by rw [← W.numbered]; exact wg W rfl
theorem wgLt (W : WAt P w H a r v s) : DGet H a.W (.str "letters") (some (.ref a.lt)) := by rw [← W.letters]; exact wg W rfl
theorem wgFar (W : WAt P w H a r v s) : DGet H a.W (.str "far") (some (.ref a.fa)) := by rw [← W.far]; exact wg W rfl
theorem wgLanes (W : WAt P w H a r v s) : DGet H a.W (.str "lanes") (some (.ref a.la)) := by rw [← W.lanes]; exact wg W rfl
theorem wgClock (W : WAt P w H a r v s) : DGet H a.W (.str "clock") (some (.int s.clock)) := by rw [← W.clock]; exact wg W rfl
theorem wgMost (W : WAt P w H a r v s) : DGet H a.W (.str "most") (some (.int s.most)) := by rw [← W.most]; exact wg W rfl
theorem wgWait (W : WAt P w H a r v s) : DGet H a.W (.str "wait") (some (.int s.wait)) := by rw [← W.wait]; exact wg W rfl
theorem wgRights (W : WAt P w H a r v s) : DGet H a.W (.str "rights") (some r.rights) := wg W rfl
theorem wgMemory (W : WAt P w H a r v s) : DGet H a.W (.str "memory") (some r.memory) := wg W rfl
theorem wgValue (W : WAt P w H a r v s) : DGet H a.W (.str "value") (some v) := wg W rfl
/-- the dict at nb, at lt, the list at fa are written -/
theorem WAt.setN {o' : HO} {kvs : List (NK × D)} (W : WAt P w H a r v s) (i : IsN P w (upd H a.nb o') a.nb kvs) (tu : Tups H (upd H a.nb o')) (tb : ∀ T, LamX.Tabs T H → LamX.Tabs T (upd H a.nb o')) : WAt P w (upd H a.nb o') a r v { s with numbered := kvs } ∧ Chg T [a.nb] H (upd H a.nb o') := by
  have g : Chg T [a.nb] H (upd H a.nb o') := ⟨fun b u e h _ => by rw [upd_ne (by simpa using h)]; exact e, tb T, tu⟩
  obtain ⟨n1, n2, n3, n4⟩ := W.neW
  obtain ⟨m1, m2, m3, m4⟩ := W.neL
  refine ⟨{ W with at_ := g.keep _ _ W.at_ (by simpa using Ne.symm n3) (fun ps z => by cases z), half := g.is W.half, rights := g.is W.rights, memory := g.is W.memory, far_ := ?_, numbered_ := i, letters_ := W.letters_.chg g (by simpa using Ne.symm W.ne2), lanes_ := ?_, value := g.is W.value }, g⟩
  · obtain ⟨xs, e1, e2⟩ := W.far_
    exact ⟨xs, g.keep _ _ e1 (by simpa using m1) (fun ps z => by cases z), g.all e2⟩
  · obtain ⟨ls, e1, e2⟩ := W.lanes_
    exact ⟨ls, g.keep _ _ e1 (by simpa using m3) (fun ps z => by cases z), e2⟩
theorem WAt.setL {o' : HO} {kvs : List (NK × D)} (W : WAt P w H a r v s) (i : IsN P w (upd H a.lt o') a.lt kvs) (tu : Tups H (upd H a.lt o')) (tb : ∀ T, LamX.Tabs T H → LamX.Tabs T (upd H a.lt o')) : WAt P w (upd H a.lt o') a r v { s with letters := kvs } ∧ Chg T [a.lt] H (upd H a.lt o') := by
  have g : Chg T [a.lt] H (upd H a.lt o') := ⟨fun b u e h _ => by rw [upd_ne (by simpa using h)]; exact e, tb T, tu⟩
  obtain ⟨n1, n2, n3, n4⟩ := W.neW
  obtain ⟨m1, m2, m3, m4⟩ := W.neL
  refine ⟨{ W with at_ := g.keep _ _ W.at_ (by simpa using Ne.symm n4) (fun ps z => by cases z), half := g.is W.half, rights := g.is W.rights, memory := g.is W.memory, far_ := ?_, letters_ := i, numbered_ := W.numbered_.chg g (by simpa using W.ne2), lanes_ := ?_, value := g.is W.value }, g⟩
  · obtain ⟨xs, e1, e2⟩ := W.far_
    exact ⟨xs, g.keep _ _ e1 (by simpa using m2) (fun ps z => by cases z), g.all e2⟩
  · obtain ⟨ls, e1, e2⟩ := W.lanes_
    exact ⟨ls, g.keep _ _ e1 (by simpa using m4) (fun ps z => by cases z), e2⟩
theorem WAt.setF {xs ys : List V} {ds : List D} (W : WAt P w H a r v s) (h : H a.fa = some (.lst xs)) (i : IsAll H ys ds) : WAt P w (upd H a.fa (.lst ys)) a r v { s with far := ds } ∧ Chg T [a.fa] H (upd H a.fa (.lst ys)) := by
  have g : Chg T [a.fa] H (upd H a.fa (.lst ys)) := Chg.lst h List.mem_cons_self
  obtain ⟨n1, n2, n3, n4⟩ := W.neW
  obtain ⟨m1, m2, m3, m4⟩ := W.neL
  refine ⟨{ W with at_ := g.keep _ _ W.at_ (by simpa using Ne.symm n1) (fun ps z => by cases z), half := g.is W.half, rights := g.is W.rights, memory := g.is W.memory, far_ := ⟨ys, upd_same, g.all i⟩, letters_ := W.letters_.chg g (by simpa using Ne.symm m2), numbered_ := W.numbered_.chg g (by simpa using Ne.symm m1), lanes_ := ?_, value := g.is W.value }, g⟩
  obtain ⟨ls, e1, e2⟩ := W.lanes_
  exact ⟨ls, g.keep _ _ e1 (by simpa using Ne.symm W.ne1) (fun ps z => by cases z), e2⟩
end
theorem apart {P : Program} {w : World} {H : Hp} {a : Wa} {r : Wv} {v : V} {s : WS} {F c : Addr} {ns : List Int} (f : Feed H F c ns) (W : WAt P w H a r v s) (h1 : F ≠ a.W) (h2 : c ≠ a.fa) : (a.W ≠ F ∧ a.fa ≠ F ∧ a.nb ≠ F ∧ a.lt ≠ F ∧ a.la ≠ F) ∧ (c ≠ a.W ∧ c ≠ a.nb ∧ c ≠ a.lt) := by
  obtain ⟨_, _, _, hF, hc⟩ := f
  obtain ⟨_, hf, _⟩ := W.far_
  obtain ⟨_, hl, _⟩ := W.lanes_
  obtain ⟨_, hn, _⟩ := W.numbered_
  obtain ⟨_, ht, _⟩ := W.letters_
  refine ⟨⟨Ne.symm h1, fun e => ?_, fun e => ?_, fun e => ?_, fun e => ?_⟩, fun e => ?_, fun e => ?_, fun e => ?_⟩
  · rw [e, hF] at hf; cases hf
  · rw [e, hF] at hn; cases hn
  · rw [e, hF] at ht; cases ht
  · rw [e, hF] at hl; cases hl
  · rw [e, W.at_] at hc; cases hc
  · rw [e, hn] at hc; cases hc
  · rw [e, ht] at hc; cases hc
theorem t_pick {K : PySem.W.Frag} {T : List (Addr × Str)} {σ : St} {H : Hp} {Q : VK} {F c : Addr} {ns : List Int} {m : Int} {ds : List D} {t : TA} (ht : ∀ Q : List V → Hp → Prop, (∀ vs H1, Ext T H H1 → IsAll H1 vs ds → Q vs H1) → t σ H Q) (h0 : σ[0]? = some (some (.ref F))) (hF : Feed H F c ns) (hT : LamX.Tabs T H) (hm : m = (ds.length : Nat)) (h1 : 1 ≤ m) (h2 : m ≤ 1000)
    (q : ∀ v H' d, d ∈ ds → Is H' v d → Chg T [F] H H' → Feed H' F c ns → Q v H') : tOp (rIx K) (tLst t) (tCl (spDraw T) (tCons (tVar 0) (tCons (tC (.int m)) tNil))) σ H Q := by
  refine ht _ fun vs H1 e1 i1 => ⟨line15 (by rw [i1.length]; omega), fun p hp => ⟨.ref F, h0, F, c, ns, m, rfl, h1, h2, hF.ext (T := T) (e1.trans (.new hp)), (e1.trans (.new hp)).tabs hT, fun r H4 r0 r1 g4 hF4 => ?_⟩⟩
  have npF : p ≠ F := fun e => by
    obtain ⟨_, _, _, h, _⟩ := hF.ext (T := T) e1
    rw [e, h] at hp; cases hp
  have hp4 := g4.keep p _ upd_same (by simpa using npF) (fun ps z => by cases z)
  obtain ⟨v, hat, hm'⟩ := atI_all (xs := vs) r0 (by rw [i1.length, ← hm]; exact r1)
  obtain ⟨j, hj⟩ := List.mem_iff_getElem?.mp hm'
  obtain ⟨d, hd, id⟩ := (g4.all (i1.mono (tups_new hp))).getV hj
  exact .inl ⟨p, _, r, v, rfl, rfl, .of hp4, hat, q _ _ d (List.mem_of_getElem? hd) id ((Ext.chg (e1.trans (.new hp))).trans g4) hF4⟩
section
variable {P : Program} {w : World} {K : PySem.W.Frag} {mg : Str → Option Value} {base : Heap} {T : List (Addr × Str)}
abbrev N__law_letter : List Str := ["_law_feed_here", "_law_world_here", "_law_talk", "_law_number", "_law_letter_here"]
theorem sc__law_letter : FnScope N__law_letter ["_law_feed_here", "_law_world_here"] (defScope s__law_letter) := ⟨rfl, rfl, rfl, by decide +kernel, rfl, by decide +kernel, by decide +kernel⟩
theorem ok_law_letter {kws : List (Str × V)} {f : Addr} {fd : FuncData} (HP : HasPieces) (C : Tc mg) (c__law_draw : PLn P w K mg base 1 "_law_draw" (spDraw T)) (c__law_some : PLn P w K mg base 2 "_law_some" (spSome T)) (c_pieces_of : PFk P w K mg base T 3 "pieces_of" 1 ["epoch", "cut"] m_pieces_of)
    (Fd : FnP K mg "_law_letter" s__law_letter kws f fd) : FnOk P w K mg base L2.CX0 4 f fd ["_law_feed_here", "_law_world_here"] (spLetter P w T) :=
  Fd.1.ok sc__law_letter (fun vs H Q E ⟨_, _, _, _, _, h, _⟩ => by rw [h]; rfl) fun cdv A outer s H vs Q E hr h => by
    obtain ⟨F, c, ns, a, s0, rfl, hF, hT, ⟨r, v, W⟩, ⟨nFW, ncf⟩, hno, hnl, hll, hfl, q⟩ := h
    have hnd := sc__law_letter.nd
    have hu := hr.units
    have hu1 : (A.deeper (envOfC (Str.ofString "_law_letter") (defScope s__law_letter) s.heap.objs.size f cdv)).units + 1 < cLine := by omega
    refine ⟨_, pss_cons (ps_set (i := 2) hnd rfl (by first | exact Or.inl rfl | exact Or.inr rfl) (pe_tup (pa_cons (pe_ix (r := rIx K) ix_seq (pe_lst (pa_cons (pe_tup (pa_cons (pe_int) (pa_cons (pe_str) (pa_nil)))) (pa_cons (pe_tup (pa_cons (pe_int) (pa_cons (pe_str) (pa_nil)))) (pa_nil)))) (pe_cl c__law_draw hr (by decide) (pa_cons (rv 0) (pa_cons (pe_int) (pa_nil)))) (fun _ _ => rfl)) (pa_cons (pe_dget hu1 (rv 1) pe_str (fun _ _ => rfl)) (pa_cons (pe_ix (r := rIx K) ix_seq (pe_lst (pa_cons (pe_str) (pa_cons (pe_str) (pa_nil)))) (pe_cl c__law_draw hr (by decide) (pa_cons (rv 0) (pa_cons (pe_int) (pa_nil)))) (fun _ _ => rfl)) (pa_nil)))))) (pss_cons (ps_dput hu1 (rv 1) pe_str (pe_op op_add (pe_dget hu1 (rv 1) pe_str (fun _ _ => rfl)) (pe_callTy call_int1 rfl C.n_int (by decide +kernel) (pa_cons (pe_cmpR op_eq (pe_cl c__law_draw hr (by decide) (pa_cons (rv 0) (pa_cons (pe_int) (pa_nil)))) (pe_int) (nomark _)) (pa_nil)))) rfl) (pss_cons (ps_set (i := 3) hnd rfl (by first | exact Or.inl rfl | exact Or.inr rfl) (pe_op op_add (pe_bn PySem.F.slot_dict_get PySem.F.type_dict_get (mt_getN hu) (pe_dget hu1 (rv 1) pe_str (fun _ _ => rfl)) (pa_cons (rv 2) (pa_cons (pe_int) (pa_nil)))) (pe_callTy call_int1 rfl C.n_int (by decide +kernel) (pa_cons (pe_cmpR op_eq (pe_cl c__law_draw hr (by decide) (pa_cons (rv 0) (pa_cons (pe_int) (pa_nil)))) (pe_int) (nomark _)) (pa_nil))))) (pss_cons (ps_asg (pe_op op_add (rv 3) (pe_int)) (pg_sub (pe_dget hu1 (rv 1) pe_str (fun _ _ => rfl)) (rv 2) (pset_N hu))) (pss_cons (ps_set (i := 4) hnd rfl (by first | exact Or.inl rfl | exact Or.inr rfl) (pe_tup (pa_cons (rv 2) (pa_cons (rv 3) (pa_cons (pe_cl c__law_some hr (by decide) (pa_cons (rv 0) (pa_cons (pe_cl c__law_draw hr (by decide) (pa_cons (rv 0) (pa_cons (pe_int) (pa_nil)))) (pa_nil)))) (pa_nil)))))) (pss_cons (ps_asg (pe_ix (r := rIx K) ix_seq (rv 4) (pe_int) (fun _ _ => rfl)) (pg_sub (pe_dget hu1 (rv 1) pe_str (fun _ _ => rfl)) (pe_tup (pa_cons (rv 2) (pa_cons (rv 3) (pa_nil)))) (pset_N hu))) (pss_one (ps_expr (pe_bm PySem.F.plainAttrs_list PySem.F.slot_list_extend PySem.F.type_list_extend mt_extend (pe_dget hu1 (rv 1) pe_str (fun _ _ => rfl)) (pa_cons (pe_callTy call_list_of rfl C.n_list (by decide +kernel) (pa_cons (pe_cpk c_pieces_of hr (by decide) (pa_cons (rv 4) (pa_nil)) (pk_cons (pe_dget hu1 (rv 1) pe_str (fun _ _ => rfl)) (pk_cons (pe_op op_add (pe_int) (pe_cl c__law_draw hr (by decide) (pa_cons (rv 0) (pa_cons (pe_int) (pa_nil))))) (pk_nil)))) (pa_nil))) (pa_nil)))))))))), ?_⟩
    obtain ⟨⟨nW, nfa, nnb, nlt, nla⟩, ncW, ncn, nct⟩ := apart hF W nFW ncf
    have WF : ∀ {H1 H2 : Hp} {r v s}, WAt P w H1 a r v s → Chg T [F] H1 H2 → WAt P w H2 a r v s := fun W g => W.chg g (by simpa using nW) (by simpa using nfa) (by simpa using nnb) (by simpa using nlt) (by simpa using nla)
    refine asg_seq (fun x H1 => ∃ t ∈ TALKS, Is H1 x t ∧ Chg T [F] H H1 ∧ Feed H1 F c ns) (fun Q' hQ => ?_) (fun x H1 ⟨t, ht, it, g1, hF1⟩ => ?_)
    · refine t_pick (ds := [.tuple [.int 1, .str "bob"], .tuple [.int 1, .str "cy"]]) (c := c) (ns := ns) (F := F) (fun Q h => ⟨line15 (show 2 ≤ 1000 by decide), fun t1 ht1 => ⟨line15 (show 2 ≤ 1000 by decide), fun t2 ht2 => ?_⟩⟩) rfl hF hT rfl (by decide) (by decide) (fun v1 H2 d1 hd1 i1 g2 hF2 => ?_)
      · exact h _ _ ((Ext.new ht1).trans (.new ht2)) (.cons ((Is.tup upd_same (.cons (.int 1) (.cons (.str _) .nil))).mono (tups_new ht2)) (.cons (.tup upd_same (.cons (.int 1) (.cons (.str _) .nil))) .nil))
      · have W2 := WF W g2
        refine ⟨.ref a.W, rfl, a.W, r.half, rfl, wgHalf W2, ?_⟩
        refine t_pick (ds := [.str "hi", .str "yo"]) (c := c) (ns := ns) (F := F) (fun Q h => h _ _ (.refl _ _) (.cons (.str _) (.cons (.str _) .nil))) rfl hF2 (g2.tabs hT) rfl (by decide) (by decide) (fun v2 H3 d2 hd2 i2 g3 hF3 => ?_)
        refine ⟨line15 (show 3 ≤ 1000 by decide), fun p hp => hQ _ _ ⟨.tuple [d1, halfD, d2], ?_, ?_, (g2.trans g3).ext (.new hp), hF3.ext (T := T) (.new hp)⟩⟩
        · simp only [List.mem_cons, List.mem_nil_iff, or_false] at hd1 hd2
          rcases hd1 with rfl | rfl <;> rcases hd2 with rfl | rfl <;> simp [TALKS]
        · exact .tup upd_same ((IsAll.cons (g3.is i1) (.cons (g3.is W2.half) (.cons i2 .nil))).mono (tups_new hp))
    · have T1 := g1.tabs hT
      have W1 := WF W g1
      -- era
      refine ⟨.ref a.W, rfl, a.W, _, rfl, wgEra W1, .ref F, rfl, F, c, ns, 9, rfl, by decide, by decide, hF1, T1, fun b H2 b0 b1 g2 hF2 => ⟨by rfl, .inr ⟨_, rfl, _, _, rfl, rfl, ?_⟩⟩⟩
      have W2 := WF W1 g2
      generalize hbit : (if decide (V.int b = V.int 0) = true then (1 : Int) else 0) = bit
      have hbit' : bit = 0 ∨ bit = 1 := by rw [← hbit]; split <;> simp
      refine ⟨.ref a.W, rfl, a.W, _, rfl, DPut.k (k := .inr "era") W2.at_ wline, ?_⟩
      have W3 : WAt P w (upd H2 a.W (.dK (putK (wl r v) (.inr "era") (.int (s0.era + bit))))) a { r with era := .int (s0.era + bit) } v { s0 with era := s0.era + bit } :=
        W2.put { r with era := .int (s0.era + bit) } v { s0 with era := s0.era + bit } ⟨rfl, rfl, rfl, rfl, rfl⟩ ⟨rfl, rfl, rfl, rfl⟩ W2.rights W2.clock W2.memory rfl W2.most W2.wait W2.value
      have g3 : Chg T [a.W] H2 (upd H2 a.W (.dK (putK (wl r v) (.inr "era") (.int (s0.era + bit))))) := Chg.dK W2.at_ List.mem_cons_self
      generalize upd H2 a.W (.dK (putK (wl r v) (.inr "era") (.int (s0.era + bit)))) = H3 at W3 g3
      have hF3 := hF2.chg g3 (by simpa using Ne.symm nW) (by simpa using ncW)
      have mF : ∀ y ∈ [F], y ∈ wS a F := by simp [wS]
      have mW : ∀ y ∈ [a.W], y ∈ wS a F := by simp [wS]
      have G3 : Chg T (wS a F) H H3 := ((g1.trans g2).mono mF).trans (g3.mono mW)
      have it3 : Is H3 x t := (g2.is it) |> g3.is
      rw [← talk_data ht] at it3
      obtain ⟨b, rfl⟩ := tupK_ref (talk_ok t ht).2.1 it3
      have hdep : (tk t).depth ≤ 8 := Nat.le_succ_of_le (talk_ok t ht).2.2
      -- number
      dsimp only
      refine asg_seq (fun y H4 => ∃ n, y = .int n ∧ (n = numOf s0.numbered (tk t) ∨ n = numOf s0.numbered (tk t) + 1) ∧ Chg T [F] H3 H4 ∧ Feed H4 F c ns) (fun Q' hQ => ?_) (fun y H4 ⟨n, ey, hn, g4, hF4⟩ => ?_)
      · have fin : ∀ i : Int, i = numOf s0.numbered (tk t) → ∀ (b5 : Int) (H4 : Hp), Chg T [F] H3 H4 → Feed H4 F c ns → Q' (.int (i + if decide (V.int b5 = V.int 0) = true then 1 else 0)) H4 := fun i hi b5 H4 g4 hF4 => by
          refine hQ _ _ ⟨_, rfl, ?_, g4, hF4⟩
          split
          · exact .inr (by rw [hi])
          · exact .inl (by rw [hi]; omega)
        refine ⟨.ref a.W, rfl, a.W, _, rfl, wgNb W3, isDN_of W3.numbered_, .ref b, rfl, a.nb, _, b, tk t, .int 0, rfl, rfl, W3.numbered_, it3, hdep, fun dx u hg iu => ?_, fun hg => ?_⟩
        · obtain ⟨i, rfl⟩ := hno _ _ hg
          cases iu.intE
          refine ⟨.ref F, rfl, F, c, ns, 5, rfl, by decide, by decide, hF3, G3.tabs hT, fun b5 H4 _ _ g4 hF4 => ⟨by rfl, .inr ⟨_, rfl, i, _, rfl, rfl, fin i ?_ b5 H4 g4 hF4⟩⟩⟩
          have hg' : dget s0.numbered (tk t) = some (.int i) := hg
          unfold numOf
          rw [hg']
        · refine ⟨.ref F, rfl, F, c, ns, 5, rfl, by decide, by decide, hF3, G3.tabs hT, fun b5 H4 _ _ g4 hF4 => ⟨by rfl, .inr ⟨_, rfl, 0, _, rfl, rfl, fin 0 ?_ b5 H4 g4 hF4⟩⟩⟩
          have hg' : dget s0.numbered (tk t) = none := hg
          unfold numOf
          rw [hg']
      · subst ey
        have W4 := WF W3 g4
        refine ⟨.int n, rfl, n, 1, rfl, rfl, .ref a.W, rfl, a.W, _, rfl, wgNb W4, .ref b, rfl, a.nb, _, b, tk t, .int (n + 1), rfl, rfl, W4.numbered_, g4.is it3, hdep, .int _, Nat.lt_of_lt_of_le hnl (by decide), fun o' ho' iN tu tb => ?_⟩
        obtain ⟨W5, g5⟩ := W4.setN (T := T) iN tu tb
        have hF5 := hF4.chg g5 (by simpa using Ne.symm nnb) (by simpa using ncn)
        have it5 := g5.is (g4.is it3)
        generalize upd H4 a.nb o' = H5 at W5 g5 hF5 it5
        have G5 : Chg T (wS a F) H H5 := (G3.trans (g4.mono mF)).trans (g5.mono (by simp [wS]))
        -- letter
        refine ⟨.ref b, rfl, .int n, rfl, .ref F, rfl, .ref F, rfl, F, c, ns, 9, rfl, by decide, by decide, hF5, G5.tabs hT, fun m H6 m0 m1 g6 hF6 => ⟨F, c, ns, m, rfl, m0, by omega, hF6, g6.tabs (G5.tabs hT), fun vw H7 ws hwl g7 hF7 iw => ⟨line15 (show 3 ≤ 1000 by decide), fun p hp => ?_⟩⟩⟩
        have e8 : Ext T H7 (upd H7 p (.tup [.ref b, .int n, vw])) := .new hp
        have W8 := (WF (WF W5 g6) g7).ext e8
        have hF8 := hF7.ext (T := T) e8
        have it8 := e8.is ((g6.trans g7).is it5)
        have iw8 := e8.is iw
        have hp8 : upd H7 p (.tup [.ref b, .int n, vw]) p = some (.tup [.ref b, .int n, vw]) := upd_same
        have G8 : Chg T (wS a F) H (upd H7 p (.tup [.ref b, .int n, vw])) := (G5.trans ((g6.trans g7).mono mF)).ext e8
        generalize upd H7 p (.tup [.ref b, .int n, vw]) = H8 at W8 hF8 it8 iw8 hp8 G8
        -- letters
        refine ⟨.ref p, rfl, .inr (.inl ⟨p, _, 2, vw, rfl, rfl, .of hp8, rfl, .ref a.W, rfl, a.W, _, rfl, wgLt W8, .ref b, rfl, .int n, rfl, line15 (show 2 ≤ 1000 by decide), fun kp hkp => ?_⟩)⟩
        have e9 : Ext T H8 (upd H8 kp (.tup [.ref b, .int n])) := .new hkp
        have W9 := W8.ext e9
        have ik : Is (upd H8 kp (.tup [.ref b, .int n])) (.ref kp) (NestedKey.tup [tk t, .num n]).data := .tup upd_same (.cons (e9.is it8) (.cons (.int n) .nil))
        refine ⟨a.lt, _, kp, .tup [tk t, .num n], .tuple (ws.map .int), rfl, rfl, W9.letters_, ik, ?_, e9.is iw8, Nat.lt_of_lt_of_le hll (by decide), fun o2 ho2 iN2 tu2 tb2 => ?_⟩
        · have := (talk_ok t ht).2.2
          show max (tk t).depth (max 0 0) + 1 ≤ 8
          omega
        obtain ⟨Wa, ga⟩ := W9.setL (T := T) iN2 tu2 tb2
        have hFa := (hF8.ext (T := T) e9).chg ga (by simpa using Ne.symm nlt) (by simpa using nct)
        have hpa := ga.tups.1 _ _ (e9.tups.1 _ _ hp8)
        have ita := ga.is (e9.is it8)
        have iwa := ga.is (e9.is iw8)
        have Ga : Chg T (wS a F) H (upd (upd H8 kp (.tup [.ref b, .int n])) a.lt o2) := (G8.ext e9).trans (ga.mono (by simp [wS]))
        generalize upd (upd H8 kp (.tup [.ref b, .int n])) a.lt o2 = Ha at Wa ga hFa hpa ita iwa Ga
        rw [talk_data ht] at ita
        -- far
        obtain ⟨xs, hfa, hxs⟩ := Wa.far_
        refine ⟨.ref a.W, rfl, a.W, _, rfl, wgFar Wa, .inl ⟨rfl, xs, .of hfa⟩, .ref p, rfl, .ref a.W, rfl, a.W, _, rfl, wgEra Wa, .ref F, rfl, F, c, ns, 4, rfl, by decide, by decide, hFa, Ga.tabs hT, fun dc Hb d0 d1 gb hFb => ⟨1, dc, rfl, rfl, ?_⟩⟩
        have hws : ws.length ≤ 8 := by omega
        obtain ⟨ps, hps, pl0, pl1, pfine⟩ := HP t ht n ws (s0.era + bit) (1 + dc) hws (by omega) (by omega)
        have Wb := WF Wa gb
        refine ⟨[.tuple [t, .int n, .tuple (ws.map .int)]], [.int (s0.era + bit), .int (1 + dc)], .tuple ps, .cons (.tup (gb.tups.1 _ _ hpa) (.cons (gb.is ita) (.cons (.int n) (.cons (gb.is iwa) .nil)))) .nil, .cons (.int _) (.cons (.int _) .nil), rfl, rfl, (Ga.trans (gb.mono mF)).tabs hT, hps, fun pv Hc ec ip => ?_⟩
        obtain ⟨pa, ys, rfl, hpa', hys⟩ := ip.tupE
        refine ⟨pa, ys, rfl, .inr (.of hpa'), fun l hl => ?_⟩
        have e10 := ec.trans (Ext.new hl (T := T) (o := .lst ys))
        have Wd := Wb.ext e10
        have hfd : upd Hc l (.lst ys) a.fa = some (.lst xs) := e10.keep a.fa _ (gb.keep a.fa _ hfa (by simpa using nfa) (fun ps z => by cases z)) (fun ps z => by cases z)
        refine ⟨a.fa, l, xs, ys, rfl, rfl, hfd, upd_same, ?_, ?_⟩
        · rw [hxs.length, hys.length]
          exact line15 (by have : s0.far.length ≤ 900 := hfl; show s0.far.length + ps.length ≤ 1000; omega)
        · have hall : IsAll (upd Hc l (.lst ys)) (xs ++ ys) (s0.far ++ ps) := IsAll.append (e10.all (gb.all hxs)) (hys.mono (tups_new hl))
          obtain ⟨We, ge⟩ := Wd.setF (T := T) hfd hall
          refine q _ _ _ t n ws (s0.era + bit) (1 + dc) ps ⟨ht, by rcases hbit' with h | h <;> rw [h] <;> omega, hn, hws, by omega, by omega, hps, pl0, pl1, pfine, rfl⟩ (((Ga.trans (gb.mono mF)).ext e10).trans (ge.mono (by simp [wS]))) ((hFb.ext (T := T) e10).chg ge (by simpa using Ne.symm nfa) (by simpa using ncf)) ⟨_, _, We⟩
end
end CR
/-! CrPc -/
set_option maxHeartbeats 4000000
namespace CR
open PySem PySem.Spec L2
open PyProof.Rows hiding St
/-! ### a piece -/
theorem seq_by {t u : TS} {D : Ends} {σ : St} {H : Hp} (R : St → Hp → Prop) (h : ∀ D' : Ends, (∀ σ' H', R σ' H' → D'.nx σ' H') → t D' σ H) (k : ∀ σ' H', R σ' H' → u D σ' H') : tSeq t u D σ H := h _ k
structure PStep (s s' : WS) (d : D) : Prop where
  ex : ∃ s1, (s1 = s ∨ ∃ t n ws e cut ps, LStep s s1 t n ws e cut ps) ∧ ∃ q R R', (s1.far = q :: R ∨ ∃ p0, s1.far = p0 :: q :: R) ∧ (R' = R ∨ R' = q :: R) ∧ (d = q ∨ ∃ k : Int, 0 ≤ k ∧ k < 3 ∧ m_bent [q, .int k] = some d) ∧ s' = { s1 with far := R' }
def spPiece (P : Program) (w : World) (T : List (Addr × Str)) : Sp := fun vs H Q _ => ∃ F c ns a s, vs = [.ref F, .ref a.W] ∧ Feed H F c ns ∧ LamX.Tabs T H ∧ WOk P w H a s ∧ (F ≠ a.W ∧ c ≠ a.fa) ∧ NumsOk s.numbered ∧ s.numbered.length < 900 ∧ s.letters.length < 900 ∧ s.far.length ≤ 900 ∧ (∀ d ∈ s.far, PieceFine d) ∧
  ∀ v H' s' d, PStep s s' d → Chg T (wS a F) H H' → Feed H' F c ns → WOk P w H' a s' → Is H' v d → Q v H'
theorem fine_list {ds : List D} (h : ∀ d ∈ ds, PieceFine d) : SeqAt.shaped (.list ds) = true ∧ noLs ds = true := by
  have h1 : ∀ ds : List D, (∀ d ∈ ds, PieceFine d) → PyData.canLayAll0 ds = true ∧ PyData.depthAll ds ≤ 20 ∧ noLs ds = true := fun ds => by
    induction ds with
    | nil => exact fun _ => ⟨rfl, Nat.zero_le _, rfl⟩
    | cons d ds ih =>
      intro h
      obtain ⟨i1, i2, i3⟩ := ih fun x hx => h x (List.mem_cons_of_mem _ hx)
      have hd := h d List.mem_cons_self
      refine ⟨by simp [PyData.canLayAll0, hd.lay, i1], ?_, by unfold noLs; rw [hd.no, i3]; rfl⟩
      have := hd.dep
      unfold PyData.depthAll
      omega
  obtain ⟨a, b, c⟩ := h1 ds h
  refine ⟨?_, c⟩
  unfold SeqAt.shaped
  have e1 : (PyData.list ds).canLay0 = true := by simp [PyData.canLay0, a]
  have e2 : (PyData.list ds).depth ≤ 64 := by
    unfold PyData.depth
    omega
  rw [e1, decide_eq_true e2]
  rfl
theorem dp_list {K : PySem.W.Frag} {H : Hp} {l : Addr} {xs : List V} {ds : List D} (h : H l = some (.lst xs)) (i : IsAll H xs ds) (n : noLs ds = true) : Dp K H (.ref l) (.list ds) := .lst (.of h) (IsAll.dp ds xs i n)
section
variable {P : Program} {w : World} {K : PySem.W.Frag} {mg : Str → Option Value} {base : Heap} {T : List (Addr × Str)}
abbrev N__law_piece : List Str := ["_law_feed_here", "_law_world_here", "_law_way", "_law_piece_here"]
theorem sc__law_piece : FnScope N__law_piece ["_law_feed_here", "_law_world_here"] (defScope s__law_piece) := ⟨rfl, rfl, rfl, by decide +kernel, rfl, by decide +kernel, by decide +kernel⟩
theorem ok_law_piece {kws : List (Str × V)} {f : Addr} {fd : FuncData} (c__law_draw : PLn P w K mg base 1 "_law_draw" (spDraw T)) (c__law_letter : PLn P w K mg base 4 "_law_letter" (spLetter P w T)) (c_bent : PFk P w K mg base T 1 "bent" 1 ["word"] m_bent)
    (Fd : FnP K mg "_law_piece" s__law_piece kws f fd) : FnOk P w K mg base L2.CX0 5 f fd ["_law_feed_here", "_law_world_here"] (spPiece P w T) :=
  Fd.1.ok sc__law_piece (fun vs H Q E ⟨_, _, _, _, _, h, _⟩ => by rw [h]; rfl) fun cdv A outer s H vs Q E hr h => by
    obtain ⟨F, c, ns, a, s0, rfl, hF, hT, ⟨r, v, W⟩, ⟨nFW, ncf⟩, hno, hnl, hll, hfl, hfine, q⟩ := h
    have hnd := sc__law_piece.nd
    have hu := hr.units
    have hu1 : (A.deeper (envOfC (Str.ofString "_law_piece") (defScope s__law_piece) s.heap.objs.size f cdv)).units + 1 < cLine := by omega
    refine ⟨_, pss_cons (ps_if (PW.pt (pw_or (pt_cmpR (op_eqD hu) (pe_dget hu1 (rv 1) pe_str (fun _ _ => rfl)) (pe_lst (pa_nil)) (nomark _)) (pw_or1 (pt_cmpR (op_eqD hu) (pe_cl c__law_draw hr (by decide) (pa_cons (rv 0) (pa_cons (pe_int) (pa_nil)))) (pe_int) (nomark _))))) (pss_one (ps_expr (pe_cl c__law_letter hr (by decide) (pa_cons (rv 0) (pa_cons (rv 1) (pa_nil)))))) (pss_nil)) (pss_cons (ps_par (i := 2) (j := 3) rfl hnd rfl rfl (by decide) rfl rfl (pa_cons (pe_cl c__law_draw hr (by decide) (pa_cons (rv 0) (pa_cons (pe_int) (pa_nil)))) (pa_cons (pe_bm PySem.F.plainAttrs_list PySem.F.slot_list_pop PySem.F.type_list_pop mt_popAt (pe_dget hu1 (rv 1) pe_str (fun _ _ => rfl)) (pa_cons (pe_int) (pa_nil))) (pa_nil))) rfl rfl) (pss_cons (ps_if (PW.pt (pw_and (pt_cmpR (op_eqD hu) (rv 2) (pe_int) (nomark _)) (pw_and1 (pt_cmpR (op_neD hu) (pe_dget hu1 (rv 1) pe_str (fun _ _ => rfl)) (pe_lst (pa_nil)) (nomark _))))) (pss_one (ps_set (i := 3) hnd rfl (by first | exact Or.inl rfl | exact Or.inr rfl) (pe_bm PySem.F.plainAttrs_list PySem.F.slot_list_pop PySem.F.type_list_pop mt_popAt (pe_dget hu1 (rv 1) pe_str (fun _ _ => rfl)) (pa_cons (pe_int) (pa_nil))))) (pss_nil)) (pss_cons (ps_if (pt_cmpR (op_eqD hu) (rv 2) (pe_int) (nomark _)) (pss_one (ps_expr (pe_bm PySem.F.plainAttrs_list PySem.F.slot_list_insert PySem.F.type_list_insert mt_insert (pe_dget hu1 (rv 1) pe_str (fun _ _ => rfl)) (pa_cons (pe_int) (pa_cons (rv 3) (pa_nil)))))) (pss_nil)) (pss_one (ps_ret (pe_ifExp (pt_cmpR (op_eqD hu) (rv 2) (pe_int) (nomark _)) (pe_cpk c_bent hr (by decide) (pa_cons (rv 3) (pa_nil)) (pk_cons (pe_cl c__law_draw hr (by decide) (pa_cons (rv 0) (pa_cons (pe_int) (pa_nil)))) (pk_nil))) (rv 3))))))), ?_⟩
    obtain ⟨⟨nW, nfa, nnb, nlt, nla⟩, ncW, ncn, nct⟩ := apart hF W nFW ncf
    have WF : ∀ {H1 H2 : Hp} {r v s}, WAt P w H1 a r v s → Chg T [F] H1 H2 → WAt P w H2 a r v s := fun W g => W.chg g (by simpa using nW) (by simpa using nfa) (by simpa using nnb) (by simpa using nlt) (by simpa using nla)
    have mF : ∀ y ∈ [F], y ∈ wS a F := by simp [wS]
    have mA : ∀ y ∈ [a.fa], y ∈ wS a F := by simp [wS]
    -- a letter, or none
    refine seq_by (fun σ' H' => σ' = start N__law_piece [.ref F, .ref a.W] ∧ ∃ s1 r v, (s1 = s0 ∨ ∃ t n ws e cut ps, LStep s0 s1 t n ws e cut ps) ∧ s1.far ≠ [] ∧ Chg T (wS a F) H H' ∧ Feed H' F c ns ∧ WAt P w H' a r v s1) (fun D' hD => ?_) (fun σ' H1 ⟨eσ, s1, r1, v1, hs1, hne, g1, hF1, W1⟩ => ?_)
    · obtain ⟨xs, hfa, hxs⟩ := W.far_
      have letter : ∀ H1 r v, Chg T [F] H H1 → Feed H1 F c ns → WAt P w H1 a r v s0 → tSeq (tDrop (tCl (spLetter P w T) (tCons (tVar 0) (tCons (tVar 1) tNil)))) tNext D' (start N__law_piece [.ref F, .ref a.W]) H1 ∧ True := fun H1 r v g hF1 W1 => ⟨by
        refine ⟨.ref F, rfl, .ref a.W, rfl, F, c, ns, a, s0, rfl, hF1, g.tabs hT, ⟨r, v, W1⟩, ⟨nFW, ncf⟩, hno, hnl, hll, hfl, fun v2 H2 s2 t n ws e cut ps hst g2 hF2 ⟨r2, v2', W2⟩ => hD _ _ ⟨rfl, s2, r2, v2', .inr ⟨t, n, ws, e, cut, ps, hst⟩, ?_, (g.mono mF).trans g2, hF2, W2⟩⟩
        rw [hst.eq]
        intro hc
        have h0 : (s0.far ++ ps).length = 0 := by rw [show s0.far ++ ps = [] from hc]; rfl
        rw [List.length_append] at h0
        have := hst.p0
        omega, trivial⟩
      refine ⟨.ref a.W, rfl, a.W, _, rfl, wgFar W, Nat.zero_le _, fun p hp => ?_⟩
      have e1 : Ext T H (upd H p (.lst [])) := .new hp
      have W1 := W.ext e1
      have hfa1 := e1.keep a.fa _ hfa (fun ps z => by cases z)
      obtain ⟨sh, nl⟩ := fine_list hfine
      refine ⟨.list s0.far, .list [], dp_list hfa1 (e1.all hxs) nl, .lst (.of upd_same) .nil, sh, (fine_list (ds := []) (fun d hd => absurd hd (by simp))).1, _, rfl, ?_⟩
      cases hf0 : s0.far with
      | nil =>
        refine iteT (iteT ?_)
        exact (letter _ _ _ e1.chg (hF.ext (T := T) e1) W1).1
      | cons d ds =>
        refine iteF ⟨.ref F, rfl, F, c, ns, 6, rfl, by decide, by decide, hF.ext (T := T) e1, e1.tabs hT, fun b H2 b0 b1 g2 hF2 => ⟨.int b, .int 0, .int b, .int 0, rfl, rfl, _, rfl, ?_⟩⟩
        cases PyData.eqv (.int b) (.int 0) with
        | true => exact iteT ((letter _ _ _ (e1.chg.trans g2) hF2 (WF W1 g2)).1)
        | false => exact iteF (hD _ _ ⟨rfl, s0, _, _, .inl rfl, by rw [hf0]; simp, (e1.chg.trans g2).mono mF, hF2, WF W1 g2⟩)
    · subst eσ
      have hfine1 : ∀ d ∈ s1.far, PieceFine d := by
        rcases hs1 with rfl | ⟨t, n, ws, e, cut, ps, hst⟩
        · exact hfine
        · rw [hst.eq]
          intro d hd
          rcases List.mem_append.mp hd with hd | hd
          · exact hfine d hd
          · exact hst.fine d hd
      have T1 := g1.tabs hT
      obtain ⟨p0, rest, hfr⟩ : ∃ p0 rest, s1.far = p0 :: rest := by
        cases h : s1.far with
        | nil => exact absurd h hne
        | cons p0 rest => exact ⟨p0, rest, rfl⟩
      rw [hfr] at hfine1
      refine ⟨.ref F, rfl, F, c, ns, 9, rfl, by decide, by decide, hF1, T1, fun way H2 w0 w1 g2 hF2 => ?_⟩
      have W2 := WF W1 g2
      obtain ⟨xs, hfa, hxs⟩ := W2.far_
      rw [hfr] at hxs
      cases hxs with
      | @cons y ys _ _ iy hys =>
        refine ⟨.ref a.W, rfl, a.W, _, rfl, wgFar W2, .inl ⟨rfl, _, .of hfa⟩, a.fa, _, 0, 0, y, rfl, rfl, hfa, by decide, by decide, by simp [seqIndex?], rfl, .int way, y, rfl, ?_⟩
        dsimp only [List.eraseIdx]
        obtain ⟨W3, g3⟩ := W2.setF (T := T) hfa (ys := ys) hys
        have hF3 := hF2.chg g3 (by simpa using Ne.symm nfa) (by simpa using ncf)
        have hfa3 : upd H2 a.fa (.lst ys) a.fa = some (.lst ys) := upd_same
        have iy3 := g3.is iy
        have iys3 := g3.all hys
        have G3 : Chg T (wS a F) H (upd H2 a.fa (.lst ys)) := (g1.trans (g2.mono mF)).trans (g3.mono mA)
        generalize upd H2 a.fa (.lst ys) = H3 at W3 hF3 hfa3 iy3 iys3 G3
        -- the first is lost, or not
        refine seq_by (fun σ' H' => ∃ pv d R r v, σ' = [some (.ref F), some (.ref a.W), some (.int way), some pv] ∧ (s1.far = d :: R ∨ ∃ p0, s1.far = p0 :: d :: R) ∧ Is H' pv d ∧ PieceFine d ∧ (∀ x ∈ R, PieceFine x) ∧ Chg T (wS a F) H H' ∧ Feed H' F c ns ∧ WAt P w H' a r v { s1 with far := R }) (fun D' hD => ?_) (fun σ' H4 ⟨pv, d, R, r4, v4, eσ, hdR, ipv, fd4, fR, g4, hF4, W4⟩ => ?_)
        · have frest : ∀ x ∈ rest, PieceFine x := fun x hx => hfine1 x (List.mem_cons_of_mem _ hx)
          refine ⟨.int way, rfl, .int way, .int 0, .int way, .int 0, rfl, rfl, _, rfl, ?_⟩
          cases PyData.eqv (.int way) (.int 0) with
          | false => exact iteF (iteF (hD _ _ ⟨y, p0, rest, _, _, rfl, .inl hfr, iy3, hfine1 p0 List.mem_cons_self, frest, G3, hF3, W3⟩))
          | true =>
            refine iteT ⟨.ref a.W, rfl, a.W, _, rfl, wgFar W3, Nat.zero_le _, fun p hp => ?_⟩
            have e4 : Ext T H3 (upd H3 p (.lst [])) := .new hp
            have hfa4 := e4.keep a.fa _ hfa3 (fun ps z => by cases z)
            obtain ⟨sh, nl⟩ := fine_list frest
            refine ⟨.list rest, .list [], dp_list hfa4 (e4.all iys3) nl, .lst (.of upd_same) .nil, sh, (fine_list (ds := []) (fun d hd => absurd hd (by simp))).1, _, rfl, ?_⟩
            cases iys3 with
            | nil => exact iteF (hD _ _ ⟨y, p0, [], _, _, rfl, .inl hfr, e4.is iy3, hfine1 p0 List.mem_cons_self, frest, G3.ext e4, hF3.ext (T := T) e4, W3.ext e4⟩)
            | @cons y2 ys2 d2 rest2 iy2 iys2 =>
              refine iteT ?_
              have W5 := W3.ext e4
              refine ⟨.ref a.W, rfl, a.W, _, rfl, wgFar W5, .inl ⟨rfl, _, .of hfa4⟩, a.fa, _, 0, 0, y2, rfl, rfl, hfa4, by decide, by decide, by simp [seqIndex?], rfl, ?_⟩
              obtain ⟨W6, g6⟩ := W5.setF (T := T) hfa4 (ys := ys2) (e4.all iys2)
              exact hD _ _ ⟨y2, d2, rest2, _, _, rfl, .inr ⟨p0, hfr⟩, (e4.chg.trans g6).is iy2, frest d2 List.mem_cons_self, fun x hx => frest x (List.mem_cons_of_mem _ hx), (G3.ext e4).trans (g6.mono mA), (hF3.ext (T := T) e4).chg g6 (by simpa using Ne.symm nfa) (by simpa using ncf), W6⟩
        · subst eσ
          try dsimp only
          refine seq_by (fun σ' H' => ∃ R' r v, σ' = [some (.ref F), some (.ref a.W), some (.int way), some pv] ∧ (R' = R ∨ R' = d :: R) ∧ Is H' pv d ∧ Chg T (wS a F) H H' ∧ Feed H' F c ns ∧ WAt P w H' a r v { s1 with far := R' }) (fun D' hD => ?_) (fun σ' H5 ⟨R', r5, v5, eσ, hR', ipv5, g5, hF5, W5⟩ => ?_)
          · refine ⟨.int way, rfl, .int way, .int 2, .int way, .int 2, rfl, rfl, _, rfl, ?_⟩
            cases PyData.eqv (.int way) (.int 2) with
            | false => exact iteF (hD _ _ ⟨R, _, _, rfl, .inl rfl, ipv, g4, hF4, W4⟩)
            | true =>
              obtain ⟨zs, hz, hzs⟩ := W4.far_
              refine iteT ⟨.ref a.W, rfl, a.W, _, rfl, wgFar W4, .inl ⟨rfl, _, .of hz⟩, pv, rfl, a.fa, zs, 0, pv, rfl, rfl, hz, ?_, by decide, by decide, ?_⟩
              · rw [hzs.length]
                have hl : s1.far.length ≤ 910 := by
                  rcases hs1 with rfl | ⟨t, n, ws, e, cut, ps, hst⟩
                  · omega
                  · rw [hst.eq]
                    have := hst.p1
                    show (s0.far ++ ps).length ≤ 910
                    rw [List.length_append]
                    omega
                have hl2 : R.length ≤ s1.far.length := by
                  rcases hdR with h | ⟨_, h⟩ <;> rw [h] <;> simp <;> omega
                exact Nat.lt_of_lt_of_le (show R.length < 1000 by omega) (line15 (Nat.le_refl _))
              · obtain ⟨W6, g6⟩ := W4.setF (T := T) hz (ys := pv :: zs) (.cons ipv hzs)
                exact hD _ _ ⟨d :: R, _, _, rfl, .inr rfl, g6.is ipv, g4.trans (g6.mono mA), hF4.chg g6 (by simpa using Ne.symm nfa) (by simpa using ncf), W6⟩
          · subst eσ
            have T5 := g5.tabs hT
            refine ⟨.int way, rfl, .int way, .int 1, .int way, .int 1, rfl, rfl, _, rfl, ?_⟩
            have fin : ∀ v6 H6 d6, (d6 = d ∨ ∃ k : Int, 0 ≤ k ∧ k < 3 ∧ m_bent [d, .int k] = some d6) → Is H6 v6 d6 → Chg T [F] H5 H6 → Feed H6 F c ns → Q v6 H6 := fun v6 H6 d6 h6 i6 g6 hF6 =>
              q _ _ _ d6 ⟨s1, hs1, d, R, R', hdR, hR', h6, rfl⟩ (g5.trans (g6.mono mF)) hF6 ⟨_, _, WF W5 g6⟩ i6
            cases PyData.eqv (.int way) (.int 1) with
            | false => exact iteF ⟨pv, rfl, fin _ _ d (.inl rfl) ipv5 .refl hF5⟩
            | true =>
              refine iteT ⟨pv, rfl, .ref F, rfl, F, c, ns, 3, rfl, by decide, by decide, hF5, T5, fun k H6 k0 k1 g6 hF6 => ?_⟩
              obtain ⟨d', hd'⟩ := fd4.bent k k0 k1
              exact ⟨[d], [.int k], d', .cons (g6.is ipv5) .nil, .cons (.int k) .nil, rfl, rfl, g6.tabs T5, hd', fun v7 H7 e7 i7 => fin _ _ d' (.inr ⟨k, k0, k1, hd'⟩) i7 (g6.ext e7) (hF6.ext (T := T) e7)⟩
end
end CR
/-! CrAc -/
set_option maxHeartbeats 4000000
namespace CR
open PySem PySem.Spec L2
open PyProof.Rows hiding St
/-! ### an act -/
def MENU : List Str := ["in", "in", "in", "in", "in", "in", "in", "post", "post", "post", "poll", "unmask", "tick"]
inductive AStep (s s' : WS) : D → Prop
  | post (k p a n : Int) : s' = s → 0 ≤ k → k < (s.n : Nat) → (0 ≤ p ∧ p < 9) ∧ (0 ≤ a ∧ a < 8) ∧ (0 ≤ n ∧ n < 9 - a) → AStep s s' (.tuple [.str "post", .int k, .tuple [.int p, .int a, .int n]])
  | inn (d : D) : PStep s s' d → AStep s s' (.tuple [.str "in", d])
  | poll (k b : Int) : s' = s → 0 ≤ k → k < (s.n : Nat) → 0 ≤ b → b < 4 → AStep s s' (.tuple [.str "poll", .int k, .int b])
  | unmask (k : Int) : s' = s → 0 ≤ k → k < (s.n : Nat) → AStep s s' (.tuple [.str "unmask", .int k])
  | tick : s' = s → AStep s s' (.tuple [.str "tick"])
def spAct (P : Program) (w : World) (T : List (Addr × Str)) : Sp := fun vs H Q _ => ∃ F c ns a s me, vs = [.ref F, .ref a.W, .ref me] ∧ Feed H F c ns ∧ LamX.Tabs T H ∧ WOk P w H a s ∧ (F ≠ a.W ∧ c ≠ a.fa) ∧ NumsOk s.numbered ∧ s.numbered.length < 900 ∧ s.letters.length < 900 ∧ s.far.length ≤ 900 ∧ (∀ d ∈ s.far, PieceFine d) ∧ (1 ≤ s.n ∧ s.n ≤ 2) ∧ H me = some (.lst (MENU.map V.str)) ∧
  ∀ v H' s' d, AStep s s' d → Chg T (wS a F) H H' → Feed H' F c ns → WOk P w H' a s' → Is H' v d → Q v H'
theorem vb_eq {u w : Str} {k : D} {b : Bool} (h : gEq (.str u) (.str w) = some (.bool b)) : tOf (eBin gEq (eVar 3) (eC (.str w))) [none, none, none, some (.str u), some k] = some b := by
  show (gEq (.str u) (.str w)).bind bOf = some b
  rw [h]
  rfl
theorem gEqS {u w : Str} {b : Bool} (h1 : SeqAt.shaped (.str u) = true) (h2 : SeqAt.shaped (.str w) = true) (h : PyData.eqv (.str u) (.str w) = b) : gEq (.str u) (.str w) = some (.bool b) := by
  subst h
  unfold gEq
  rw [h1, h2]
  rfl
section
variable {P : Program} {w : World} {K : PySem.W.Frag} {mg : Str → Option Value} {base : Heap} {T : List (Addr × Str)}
abbrev N__law_act : List Str := ["_law_feed_here", "_law_world_here", "_law_menu", "_law_verb", "_law_k"]
theorem sc__law_act : FnScope N__law_act ["_law_feed_here", "_law_world_here", "_law_menu"] (defScope s__law_act) := ⟨rfl, rfl, rfl, by decide +kernel, rfl, by decide +kernel, by decide +kernel⟩
theorem ok_law_act {kws : List (Str × V)} {f : Addr} {fd : FuncData} (C : Tc mg) (c__law_draw : PLn P w K mg base 1 "_law_draw" (spDraw T)) (c__law_stretch : PLn P w K mg base 2 "_law_stretch" (spStretch T)) (c__law_piece : PLn P w K mg base 5 "_law_piece" (spPiece P w T))
    (Fd : FnP K mg "_law_act" s__law_act kws f fd) : FnOk P w K mg base L2.CX0 6 f fd ["_law_feed_here", "_law_world_here", "_law_menu"] (spAct P w T) :=
  Fd.1.ok sc__law_act (fun vs H Q E ⟨_, _, _, _, _, _, h, _⟩ => by rw [h]; rfl) fun cdv A outer s H vs Q E hr h => by
    obtain ⟨F, c, ns, a, s0, me, rfl, hF, hT, ⟨r, v, W⟩, ⟨nFW, ncf⟩, hno, hnl, hll0, hfl, hfine, ⟨sn1, sn2⟩, hme, q⟩ := h
    have hnd := sc__law_act.nd
    have hu := hr.units
    have hu1 : (A.deeper (envOfC (Str.ofString "_law_act") (defScope s__law_act) s.heap.objs.size f cdv)).units + 1 < cLine := by omega
    refine ⟨_, pss_cons (ps_par (i := 3) (j := 4) rfl hnd rfl rfl (by decide) rfl rfl (pa_cons (pe_ix (r := rIx K) ix_seq (rv 2) (pe_cl c__law_draw hr (by decide) (pa_cons (rv 0) (pa_cons (pe_callB call_len_seq rfl C.n_len PySem.boot_len (pa_cons (rv 2) (pa_nil))) (pa_nil)))) (fun _ _ => rfl)) (pa_cons (pe_cl c__law_draw hr (by decide) (pa_cons (rv 0) (pa_cons (pe_callB call_len_seq rfl C.n_len PySem.boot_len (pa_cons (pe_dget hu1 (rv 1) pe_str (fun _ _ => rfl)) (pa_nil))) (pa_nil)))) (pa_nil))) rfl rfl) (pss_cons (ps_if (dT (T := T) (dt_cmp (op_eqD hr.units) od_eq (dv 3) (de_str) (nomark _))) (pss_one (ps_ret (pe_tup (pa_cons (rv 3) (pa_cons (rv 4) (pa_cons (pe_cl c__law_stretch hr (by decide) (pa_cons (rv 0) (pa_nil))) (pa_nil))))))) (pss_nil)) (pss_cons (ps_if (dT (T := T) (dt_cmp (op_eqD hr.units) od_eq (dv 3) (de_str) (nomark _))) (pss_one (ps_ret (pe_tup (pa_cons (rv 3) (pa_cons (pe_cl c__law_piece hr (by decide) (pa_cons (rv 0) (pa_cons (rv 1) (pa_nil)))) (pa_nil)))))) (pss_nil)) (pss_cons (ps_if (dT (T := T) (dt_cmp (op_eqD hr.units) od_eq (dv 3) (de_str) (nomark _))) (pss_one (ps_ret (pe_tup (pa_cons (rv 3) (pa_cons (rv 4) (pa_cons (pe_cl c__law_draw hr (by decide) (pa_cons (rv 0) (pa_cons (pe_int) (pa_nil)))) (pa_nil))))))) (pss_nil)) (pss_one (ps_ret (dE (T := T) (de_if (dt_cmp op_in_seq od_in (dv 3) (de_tup (da_cons (de_str) (da_cons (de_str) (da_nil)))) (by rfl)) (de_tup (da_cons (dv 3) (da_nil))) (de_tup (da_cons (dv 3) (da_cons (dv 4) (da_nil))))))))))), ?_⟩
    obtain ⟨⟨nW, nfa, nnb, nlt, nla⟩, ncW, ncn, nct⟩ := apart hF W nFW ncf
    have WF : ∀ {H1 H2 : Hp} {r v s}, WAt P w H1 a r v s → Chg T [F] H1 H2 → WAt P w H2 a r v s := fun W g => W.chg g (by simpa using nW) (by simpa using nfa) (by simpa using nnb) (by simpa using nlt) (by simpa using nla)
    have mF : ∀ y ∈ [F], y ∈ wS a F := by simp [wS]
    have nme : me ≠ F := fun e => by
      obtain ⟨_, _, _, h, _⟩ := hF
      rw [e, h] at hme; cases hme
    refine ⟨.ref me, rfl, .ref F, rfl, .ref me, rfl, me, MENU.map V.str, rfl, .inl (.of hme), F, c, ns, 13, rfl, by decide, by decide, hF, hT, fun i H1 i0 i1 g1 hF1 => ?_⟩
    have hme1 := g1.keep me _ hme (by simpa using nme) (fun ps z => by cases z)
    obtain ⟨v1, hat, hm⟩ := atI_all (xs := MENU.map V.str) i0 i1
    have hv1 : v1 = .str "in" ∨ v1 = .str "post" ∨ v1 = .str "poll" ∨ v1 = .str "unmask" ∨ v1 = .str "tick" := by
      simp only [MENU, List.map_cons, List.map_nil, List.mem_cons, List.mem_nil_iff, or_false] at hm
      rcases hm with h | h | h | h | h | h | h | h | h | h | h | h | h <;> simp [h]
    have W1 := WF W g1
    have T1 := g1.tabs hT
    obtain ⟨ls, hla, hll⟩ := W1.lanes_
    refine .inl ⟨me, _, i, v1, rfl, rfl, .of hme1, hat, .ref F, rfl, .ref a.W, rfl, a.W, _, rfl, wgLanes W1, a.la, ls, rfl, .inl (.of hla), F, c, ns, (s0.n : Nat), by rw [hll], by omega, by omega, hF1, T1, fun k H2 k0 k1 g2 hF2 => ?_⟩
    have W2 := WF W1 g2
    have T2 := g2.tabs T1
    have G2 := g1.trans g2
    refine ⟨v1, .int k, rfl, ?_⟩
    dsimp only
    rcases hv1 with rfl | rfl | rfl | rfl | rfl
    · have env : ∀ H, EnvIs H [some (.ref F), some (.ref a.W), some (.ref me), some (.str "in"), some (.int k)] [none, none, none, some (.str "in"), some (.int k)] := fun H => .skip (.skip (.skip (.cons (.str _) (.cons (.int k) .nil))))
      refine ⟨_, false, T2, env _, vb_eq (gEqS (by decide +kernel) (by decide +kernel) (by decide +kernel)), fun H3 e3 => iteF ⟨_, true, e3.tabs T2, env _, vb_eq (gEqS (by decide +kernel) (by decide +kernel) (by decide +kernel)), fun H4 e4 => iteT ?_⟩⟩
      have G4 := (G2.ext e3).ext e4
      refine ⟨.str "in", rfl, .ref F, rfl, .ref a.W, rfl, F, c, ns, a, s0, rfl, (hF2.ext (T := T) e3).ext (T := T) e4, G4.tabs hT, ⟨_, _, (W2.ext e3).ext e4⟩, ⟨nFW, ncf⟩, hno, hnl, hll0, hfl, hfine, fun v5 H5 s' d hst g5 hF5 W5 i5 => ⟨line15 (show 2 ≤ 1000 by decide), fun p hp => q _ _ s' _ (.inn d hst) (((G4.mono mF).trans g5).ext (.new hp)) (hF5.ext (T := T) (.new hp)) (by obtain ⟨r, v, W5⟩ := W5; exact ⟨r, v, W5.ext (T := T) (.new hp)⟩) (.tup upd_same ((IsAll.cons (.str _) (.cons i5 .nil)).mono (tups_new hp)))⟩⟩
    · have env : ∀ H, EnvIs H [some (.ref F), some (.ref a.W), some (.ref me), some (.str "post"), some (.int k)] [none, none, none, some (.str "post"), some (.int k)] := fun H => .skip (.skip (.skip (.cons (.str _) (.cons (.int k) .nil))))
      refine ⟨_, true, T2, env _, vb_eq (gEqS (by decide +kernel) (by decide +kernel) (by decide +kernel)), fun H3 e3 => iteT ?_⟩
      refine ⟨.str "post", rfl, .int k, rfl, .ref F, rfl, F, c, ns, rfl, hF2.ext (T := T) e3, e3.tabs T2, fun v5 H5 p a5 n hpan g5 hF5 i5 => ⟨line15 (show 3 ≤ 1000 by decide), fun pp hp => q _ _ s0 _ (.post k p a5 n rfl k0 k1 hpan) ((((G2.ext e3).trans g5).mono mF).ext (.new hp)) (hF5.ext (T := T) (.new hp)) ⟨_, _, (WF (W2.ext e3) g5).ext (T := T) (.new hp)⟩ (.tup upd_same ((IsAll.cons (.str _) (.cons (.int k) (.cons i5 .nil))).mono (tups_new hp)))⟩⟩
    · have env : ∀ H, EnvIs H [some (.ref F), some (.ref a.W), some (.ref me), some (.str "poll"), some (.int k)] [none, none, none, some (.str "poll"), some (.int k)] := fun H => .skip (.skip (.skip (.cons (.str _) (.cons (.int k) .nil))))
      refine ⟨_, false, T2, env _, vb_eq (gEqS (by decide +kernel) (by decide +kernel) (by decide +kernel)), fun H3 e3 => iteF ⟨_, false, e3.tabs T2, env _, vb_eq (gEqS (by decide +kernel) (by decide +kernel) (by decide +kernel)), fun H4 e4 => iteF ⟨_, true, e4.tabs (e3.tabs T2), env _, vb_eq (gEqS (by decide +kernel) (by decide +kernel) (by decide +kernel)), fun H5 e5 => iteT ?_⟩⟩⟩
      have E5 := (e3.trans e4).trans e5
      refine ⟨.str "poll", rfl, .int k, rfl, .ref F, rfl, F, c, ns, 4, rfl, by decide, by decide, hF2.ext (T := T) E5, E5.tabs T2, fun b H6 b0 b1 g6 hF6 => ⟨line15 (show 3 ≤ 1000 by decide), fun pp hp => q _ _ s0 _ (.poll k b rfl k0 k1 b0 b1) ((((G2.ext E5).trans g6).mono mF).ext (.new hp)) (hF6.ext (T := T) (.new hp)) ⟨_, _, (WF (W2.ext E5) g6).ext (T := T) (.new hp)⟩ (.tup upd_same (.cons (.str _) (.cons (.int k) (.cons (.int b) .nil))))⟩⟩
    · have env : ∀ H, EnvIs H [some (.ref F), some (.ref a.W), some (.ref me), some (.str "unmask"), some (.int k)] [none, none, none, some (.str "unmask"), some (.int k)] := fun H => .skip (.skip (.skip (.cons (.str _) (.cons (.int k) .nil))))
      refine ⟨_, false, T2, env _, vb_eq (gEqS (by decide +kernel) (by decide +kernel) (by decide +kernel)), fun H3 e3 => iteF ⟨_, false, e3.tabs T2, env _, vb_eq (gEqS (by decide +kernel) (by decide +kernel) (by decide +kernel)), fun H4 e4 => iteF ⟨_, false, e4.tabs (e3.tabs T2), env _, vb_eq (gEqS (by decide +kernel) (by decide +kernel) (by decide +kernel)), fun H5 e5 => iteF ?_⟩⟩⟩
      have E5 := (e3.trans e4).trans e5
      refine ⟨_, .tuple [.str "unmask", .int k], E5.tabs T2, env _, rfl, fun v6 H6 e6 i6 => q _ _ s0 _ (.unmask k rfl k0 k1) (((G2.ext E5).ext e6).mono mF) (hF2.ext (T := T) (E5.trans e6)) ⟨_, _, W2.ext (E5.trans e6)⟩ i6⟩
    · have env : ∀ H, EnvIs H [some (.ref F), some (.ref a.W), some (.ref me), some (.str "tick"), some (.int k)] [none, none, none, some (.str "tick"), some (.int k)] := fun H => .skip (.skip (.skip (.cons (.str _) (.cons (.int k) .nil))))
      refine ⟨_, false, T2, env _, vb_eq (gEqS (by decide +kernel) (by decide +kernel) (by decide +kernel)), fun H3 e3 => iteF ⟨_, false, e3.tabs T2, env _, vb_eq (gEqS (by decide +kernel) (by decide +kernel) (by decide +kernel)), fun H4 e4 => iteF ⟨_, false, e4.tabs (e3.tabs T2), env _, vb_eq (gEqS (by decide +kernel) (by decide +kernel) (by decide +kernel)), fun H5 e5 => iteF ?_⟩⟩⟩
      have E5 := (e3.trans e4).trans e5
      refine ⟨_, .tuple [.str "tick"], E5.tabs T2, env _, rfl, fun v6 H6 e6 i6 => q _ _ s0 _ (.tick rfl) (((G2.ext E5).ext e6).mono mF) (hF2.ext (T := T) (E5.trans e6)) ⟨_, _, W2.ext (E5.trans e6)⟩ i6⟩
end
end CR
/-! CrPg -/
set_option maxHeartbeats 4000000
namespace CR
open PySem PySem.Spec L2
open PyProof.Rows hiding St
/-! ### an act, to the program -/
section
variable {X : Cx} {T : List (Addr × Str)} {k j n : Nat} {x z : Str} {C : Addr} {W : WX} {e : Expr} {es : List Expr} {t : TA} {p pos : Pos} {m : List D → Option RX}
def tCx (T : List (Addr × Str)) (n : Nat) (C : Addr) (z : Str) (m : List D → Option RX) (W : WX) (t : TA) : TE := tCallS (spRD T n C z m) (WE W) t
theorem pe_cx (F : PFx X.prog X.w X.K X.mg X.base T k x n C z m) (tk : Takes X W) (hr : Room j X.A) (hk : k ≤ j) (ha : PA X (e :: es) t) (hg : Gl X x := by rfl) (hdb : (x == ("__debug__" : Str)) = false := by decide)
    (he : starEach (e :: es) X.env = (false, eval e X.env) :: starEach es X.env := by rfl) (hpl : (backTo pos (starEach es X.env)).any (·.1) = false := by rfl) : PE X (.Call (.Name x p) (e :: es) [] pos) (tCx T n C z m W t) := by
  obtain ⟨fa, fd, ps, F, hm, kp, hb⟩ := F.ex
  exact pe_callS F (hr.mono hk) hg hm kp hb (fun σ => passAt tk σ) ha hdb he hpl
end
inductive PRes (s : WS) : D → RX → Prop
  | post {k st : D} {r : RX} : m_posts [s.value, s.memory, k, st] = some r → PRes s (.tuple [.str "post", k, st]) r
  | inn {p d : D} : m_comes_in [s.value, s.memory, s.rights, p, .int s.clock, .int s.most, .int s.wait] = some d → PRes s (.tuple [.str "in", p]) (.r d)
  | poll {k b d : D} : m_polled [s.value, s.memory, k, b] = some d → PRes s (.tuple [.str "poll", k, b]) (.r d)
  | unmask {k d : D} : m_unmasked [s.value, s.memory, k, .int s.clock, .int s.most, .int s.wait] = some d → PRes s (.tuple [.str "unmask", k]) (.r d)
  | tick {d : D} : m_ticked [s.value, s.memory, .int (s.clock + 1), .int s.most, .int s.wait] = some d → PRes s (.tuple [.str "tick"]) (.r d)
def spProgram (P : Program) (w : World) (T : List (Addr × Str)) (C : Addr) : Sp := fun vs H Q E => ∃ a s va d r, vs = [.ref a.W, va] ∧ LamX.Tabs T H ∧ WOk P w H a s ∧ Is H va d ∧ PRes s d r ∧ (match r with
  | .r d' => ∀ v H', Ext T H H' → Is H' v d' → Q v H'
  | .ex => ∀ dd H', Ext T H H' → H' dd = some (xdW "full") → E (.ref C) (some dd) H')
section
variable {P : Program} {w : World} {K : PySem.W.Frag} {mg : Str → Option Value} {base : Heap} {T : List (Addr × Str)}
abbrev N__law_program : List Str := ["_law_world_here", "_law_act_here", "_law_value_here", "_law_memory", "_law_verb", "_law_cap", "_law_span", "_law_hour"]
theorem sc__law_program : FnScope N__law_program ["_law_world_here", "_law_act_here"] (defScope s__law_program) := ⟨rfl, rfl, rfl, by decide +kernel, rfl, by decide +kernel, by decide +kernel⟩
theorem ok_law_program {kws : List (Str × V)} {f : Addr} {C_NoStep : Addr} {fd : FuncData} (C : Tc mg) (c__law_value : PLn P w K mg base 1 "_law_value" (spValue P w T)) (c_posts : PFx P w K mg base T 5 "posts" 4 C_NoStep "full" m_posts) (c_comes_in : PFk P w K mg base T 6 "comes_in" 4 ["clock", "most", "wait"] m_comes_in) (c_polled : PFn P w K mg base T 3 "polled" 4 [] m_polled) (c_unmasked : PFk P w K mg base T 4 "unmasked" 3 ["clock", "most", "wait"] m_unmasked) (c_ticked : PFk P w K mg base T 5 "ticked" 2 ["clock", "most", "wait"] m_ticked)
    (Fd : FnP K mg "_law_program" s__law_program kws f fd) : FnOk P w K mg base (L2.CX P w) 7 f fd ["_law_world_here", "_law_act_here"] (spProgram P w T C_NoStep) :=
  Fd.1.ok sc__law_program (fun vs H Q E ⟨_, _, _, _, _, h, _⟩ => by rw [h]; rfl) fun cdv A outer s H vs Q E hr h => by
    obtain ⟨a, s0, va, d, r0, rfl, hT, ⟨r, v, W⟩, iva, hp, q⟩ := h
    have hnd := sc__law_program.nd
    have hu := hr.units
    have hu1 : (A.deeper (envOfC (Str.ofString "_law_program") (defScope s__law_program) s.heap.objs.size f cdv)).units + 1 < cLine := by omega
    refine ⟨_, pss_cons (ps_par3 (i := 2) (j := 3) (l := 4) rfl hnd rfl rfl rfl (by decide) (by decide) (by decide) rfl rfl rfl (pa_cons (pe_cl c__law_value hr (by decide) (pa_cons (rv 0) (pa_nil))) (pa_cons (pe_dget hu1 (rv 0) pe_str (fun _ _ => rfl)) (pa_cons (dE (T := T) (de_ix (dv 1) (de_int) (fun _ _ => rfl))) (pa_nil)))) rfl rfl) (pss_cons (ps_par3 (i := 5) (j := 6) (l := 7) rfl hnd rfl rfl rfl (by decide) (by decide) (by decide) rfl rfl rfl (pa_cons (pe_dget hu1 (rv 0) pe_str (fun _ _ => rfl)) (pa_cons (pe_dget hu1 (rv 0) pe_str (fun _ _ => rfl)) (pa_cons (pe_dget hu1 (rv 0) pe_str (fun _ _ => rfl)) (pa_nil)))) rfl rfl) (pss_cons (ps_if (dT (T := T) (dt_cmp (op_eqD hr.units) od_eq (dv 4) (de_str) (nomark _))) (pss_one (ps_ret (pe_cx c_posts (takes_of rfl rfl rfl rfl) hr (by decide) (pa_cons (rv 2) (pa_cons (rv 3) (pa_cons (dE (T := T) (de_ix (dv 1) (de_int) (fun _ _ => rfl))) (pa_cons (dE (T := T) (de_ix (dv 1) (de_int) (fun _ _ => rfl))) (pa_nil)))))))) (pss_nil)) (pss_cons (ps_if (dT (T := T) (dt_cmp (op_eqD hr.units) od_eq (dv 4) (de_str) (nomark _))) (pss_one (ps_ret (pe_cpk c_comes_in hr (by decide) (pa_cons (rv 2) (pa_cons (rv 3) (pa_cons (pe_dget hu1 (rv 0) pe_str (fun _ _ => rfl)) (pa_cons (dE (T := T) (de_ix (dv 1) (de_int) (fun _ _ => rfl))) (pa_nil))))) (pk_cons (rv 7) (pk_cons (rv 5) (pk_cons (rv 6) (pk_nil))))))) (pss_nil)) (pss_cons (ps_if (dT (T := T) (dt_cmp (op_eqD hr.units) od_eq (dv 4) (de_str) (nomark _))) (pss_one (ps_ret (pe_cp c_polled hr (by decide) (pa_cons (rv 2) (pa_cons (rv 3) (pa_cons (dE (T := T) (de_ix (dv 1) (de_int) (fun _ _ => rfl))) (pa_cons (dE (T := T) (de_ix (dv 1) (de_int) (fun _ _ => rfl))) (pa_nil)))))))) (pss_nil)) (pss_cons (ps_if (dT (T := T) (dt_cmp (op_eqD hr.units) od_eq (dv 4) (de_str) (nomark _))) (pss_one (ps_ret (pe_cpk c_unmasked hr (by decide) (pa_cons (rv 2) (pa_cons (rv 3) (pa_cons (dE (T := T) (de_ix (dv 1) (de_int) (fun _ _ => rfl))) (pa_nil)))) (pk_cons (rv 7) (pk_cons (rv 5) (pk_cons (rv 6) (pk_nil))))))) (pss_nil)) (pss_one (ps_ret (pe_cpk c_ticked hr (by decide) (pa_cons (rv 2) (pa_cons (rv 3) (pa_nil))) (pk_cons (dE (T := T) (de_bin op_addAny od_add (dv 7) (de_int))) (pk_cons (rv 5) (pk_cons (rv 6) (pk_nil)))))))))))), ?_⟩
    obtain ⟨u, hu0⟩ : ∃ u : Str, gIx d (.int 0) = some (.str u) := by cases hp <;> exact ⟨_, rfl⟩
    refine ⟨.ref a.W, rfl, a, s0, rfl, ⟨r, v, W⟩, fun v1 i1 => ⟨.ref a.W, rfl, a.W, _, rfl, wgMemory W, [none, some d, none, none, none, none, none, none], .str u, hT, .skip (.cons iva (EnvIs.blank H _)), hu0, fun v3 H1 e1 i3 => ⟨_, _, _, rfl, ?_⟩⟩⟩
    cases i3.strE
    have W1 := W.ext e1
    refine ⟨.ref a.W, rfl, a.W, _, rfl, wgMost W1, .ref a.W, rfl, a.W, _, rfl, wgWait W1, .ref a.W, rfl, a.W, _, rfl, wgClock W1, _, _, _, rfl, ?_⟩
    dsimp only
    have T1 := e1.tabs hT
    have env : ∀ H', Ext T H H' → EnvIs H' [some (.ref a.W), some va, some v1, some r.memory, some (.str u), some (.int s0.most), some (.int s0.wait), some (.int s0.clock)] [none, some d, some s0.value, some s0.memory, some (.str u), some (.int s0.most), some (.int s0.wait), some (.int s0.clock)] := fun H' e => .skip (.cons (e.is iva) (.cons (e.is i1) (.cons (e.is W.memory) (.cons (.str _) (.cons (.int _) (.cons (.int _) (.cons (.int _) .nil)))))))
    have tst : ∀ (x : Str) (b : Bool), gEq (.str u) (.str x) = some (.bool b) → tOf (eBin gEq (eVar 4) (eC (.str x))) [none, some d, some s0.value, some s0.memory, some (.str u), some (.int s0.most), some (.int s0.wait), some (.int s0.clock)] = some b := fun x b h => by
      show (gEq (.str u) (.str x)).bind bOf = some b
      rw [h]
      rfl
    cases hp with
    | @post k st r0 hm =>
      cases (Option.some.inj hu0)
      refine ⟨_, true, T1, env _ e1, tst _ _ (gEqS (by decide +kernel) (by decide +kernel) (by decide +kernel)), fun H2 e2 => iteT ?_⟩
      refine ⟨v1, rfl, r.memory, rfl, _, k, e2.tabs T1, env _ (e1.trans e2), rfl, fun vk H3 e3 ik => ⟨_, st, e3.tabs (e2.tabs T1), env _ ((e1.trans e2).trans e3), rfl, fun vs H4 e4 is => ⟨[s0.value, s0.memory, k, st], r0, rfl, e4.tabs (e3.tabs (e2.tabs T1)), ?_, hm, ?_⟩⟩⟩
      · have E4 := ((e1.trans e2).trans e3).trans e4
        exact .cons (E4.is i1) (.cons (E4.is W.memory) (.cons (e4.is ik) (.cons is .nil)))
      · have E4 := ((e1.trans e2).trans e3).trans e4
        cases r0 with
        | r d' => exact fun v5 H5 e5 i5 => q v5 H5 (E4.trans e5) i5
        | ex => exact fun dd H5 e5 h5 => q dd H5 (E4.trans e5) h5
    | @inn p d' hm =>
      cases (Option.some.inj hu0)
      refine ⟨_, false, T1, env _ e1, tst _ _ (gEqS (by decide +kernel) (by decide +kernel) (by decide +kernel)), fun H2 e2 => iteF ⟨_, true, e2.tabs T1, env _ (e1.trans e2), tst _ _ (gEqS (by decide +kernel) (by decide +kernel) (by decide +kernel)), fun H3 e3 => iteT ?_⟩⟩
      have E3 := (e1.trans e2).trans e3
      refine ⟨v1, rfl, r.memory, rfl, .ref a.W, rfl, a.W, _, rfl, wgRights (W.ext E3), _, p, E3.tabs hT, env _ E3, rfl, fun vp H4 e4 ip => ⟨_, rfl, _, rfl, _, rfl, [s0.value, s0.memory, s0.rights, p], [.int s0.clock, .int s0.most, .int s0.wait], d', ?_, .cons (.int _) (.cons (.int _) (.cons (.int _) .nil)), rfl, rfl, (E3.trans e4).tabs hT, hm, fun v5 H5 e5 i5 => q v5 H5 ((E3.trans e4).trans e5) i5⟩⟩
      have E4 := E3.trans e4
      exact .cons (E4.is i1) (.cons (E4.is W.memory) (.cons (E4.is W.rights) (.cons ip .nil)))
    | @poll k b d' hm =>
      cases (Option.some.inj hu0)
      refine ⟨_, false, T1, env _ e1, tst _ _ (gEqS (by decide +kernel) (by decide +kernel) (by decide +kernel)), fun H2 e2 => iteF ⟨_, false, e2.tabs T1, env _ (e1.trans e2), tst _ _ (gEqS (by decide +kernel) (by decide +kernel) (by decide +kernel)), fun H3 e3 => iteF ⟨_, true, e3.tabs (e2.tabs T1), env _ ((e1.trans e2).trans e3), tst _ _ (gEqS (by decide +kernel) (by decide +kernel) (by decide +kernel)), fun H4 e4 => iteT ?_⟩⟩⟩
      have E4 := ((e1.trans e2).trans e3).trans e4
      refine ⟨v1, rfl, r.memory, rfl, _, k, E4.tabs hT, env _ E4, rfl, fun vk H5 e5 ik => ⟨_, b, (E4.trans e5).tabs hT, env _ (E4.trans e5), rfl, fun vb H6 e6 ib => ⟨[s0.value, s0.memory, k, b], d', ?_, ((E4.trans e5).trans e6).tabs hT, rfl, hm, fun v7 H7 e7 i7 => q v7 H7 (((E4.trans e5).trans e6).trans e7) i7⟩⟩⟩
      have E6 := (E4.trans e5).trans e6
      exact .cons (E6.is i1) (.cons (E6.is W.memory) (.cons (e6.is ik) (.cons ib .nil)))
    | @unmask k d' hm =>
      cases (Option.some.inj hu0)
      refine ⟨_, false, T1, env _ e1, tst _ _ (gEqS (by decide +kernel) (by decide +kernel) (by decide +kernel)), fun H2 e2 => iteF ⟨_, false, e2.tabs T1, env _ (e1.trans e2), tst _ _ (gEqS (by decide +kernel) (by decide +kernel) (by decide +kernel)), fun H3 e3 => iteF ⟨_, false, e3.tabs (e2.tabs T1), env _ ((e1.trans e2).trans e3), tst _ _ (gEqS (by decide +kernel) (by decide +kernel) (by decide +kernel)), fun H4 e4 => iteF ⟨_, true, e4.tabs (e3.tabs (e2.tabs T1)), env _ (((e1.trans e2).trans e3).trans e4), tst _ _ (gEqS (by decide +kernel) (by decide +kernel) (by decide +kernel)), fun H5 e5 => iteT ?_⟩⟩⟩⟩
      have E5 := (((e1.trans e2).trans e3).trans e4).trans e5
      refine ⟨v1, rfl, r.memory, rfl, _, k, E5.tabs hT, env _ E5, rfl, fun vk H6 e6 ik => ⟨_, rfl, _, rfl, _, rfl, [s0.value, s0.memory, k], [.int s0.clock, .int s0.most, .int s0.wait], d', ?_, .cons (.int _) (.cons (.int _) (.cons (.int _) .nil)), rfl, rfl, (E5.trans e6).tabs hT, hm, fun v7 H7 e7 i7 => q v7 H7 ((E5.trans e6).trans e7) i7⟩⟩
      have E6 := E5.trans e6
      exact .cons (E6.is i1) (.cons (E6.is W.memory) (.cons ik .nil))
    | @tick d' hm =>
      cases (Option.some.inj hu0)
      refine ⟨_, false, T1, env _ e1, tst _ _ (gEqS (by decide +kernel) (by decide +kernel) (by decide +kernel)), fun H2 e2 => iteF ⟨_, false, e2.tabs T1, env _ (e1.trans e2), tst _ _ (gEqS (by decide +kernel) (by decide +kernel) (by decide +kernel)), fun H3 e3 => iteF ⟨_, false, e3.tabs (e2.tabs T1), env _ ((e1.trans e2).trans e3), tst _ _ (gEqS (by decide +kernel) (by decide +kernel) (by decide +kernel)), fun H4 e4 => iteF ⟨_, false, e4.tabs (e3.tabs (e2.tabs T1)), env _ (((e1.trans e2).trans e3).trans e4), tst _ _ (gEqS (by decide +kernel) (by decide +kernel) (by decide +kernel)), fun H5 e5 => iteF ?_⟩⟩⟩⟩
      have E5 := (((e1.trans e2).trans e3).trans e4).trans e5
      refine ⟨v1, rfl, r.memory, rfl, _, .int (s0.clock + 1), E5.tabs hT, env _ E5, rfl, fun vk H6 e6 ik => ⟨_, rfl, _, rfl, [s0.value, s0.memory], [.int (s0.clock + 1), .int s0.most, .int s0.wait], d', ?_, .cons ik (.cons (.int _) (.cons (.int _) .nil)), rfl, rfl, (E5.trans e6).tabs hT, hm, fun v7 H7 e7 i7 => q v7 H7 ((E5.trans e6).trans e7) i7⟩⟩
      have E6 := E5.trans e6
      exact .cons (E6.is i1) (.cons (E6.is W.memory) .nil)
end
end CR
/-! CrSx -/
set_option maxHeartbeats 4000000
namespace CR
open PySem PySem.Spec PySem.Calls PyProof.Rows PySem.W
/-! ### isinstance of a caught error that has a dict of its own -/
theorem data_found {K : Frag} {C : Addr} {od : Option Obj} {name : Str} {a g : Value} (hc : (clsIn K C).isSome = true) (ha : findIn K (.ref C) name = some (some a)) (hg : specialIn K a "__get__" = some (some g)) (ht : takesIn K a = some true) : findObj K C od name = some (.bind g a) := by
  obtain ⟨cd, hc⟩ := Option.isSome_iff_exists.mp hc
  unfold findObj
  rw [hc, Option.bind_some, ha, Option.bind_some]
  simp [hg, ht]
theorem class_of_err {prog : Program} {w : World} {A : Around} {E : Value → Shared → Prop} {s : Shared} {K : Frag} {x D : Addr} {ox : Obj} {od : Option Obj} {Q : Option Value → Shared → Prop} (C : L2.ExcC K D) (X : K.In s.heap) (I : InstAt s.heap x ox D od) (h : Q (some (.ref D)) { s with toks := s.toks + 1 }) :
    wpAny (model prog w) A (getAttr? (.ref x) "__class__") Q E s := by
  have hf : findObj K D od "__class__" = some (.bind (.builtin "getset_descriptor.__get__") (.builtin "object.__class__")) := data_found (by obtain ⟨cd, hc, _⟩ := any_some C.hd; rw [hc]; rfl) C.ha C.hn C.ht
  obtain ⟨hp, g, d, t, os⟩ := s
  have look := I.type (M := model prog w)
  have at1 := looks_findIn (M := model prog w) X C.hg
  have at2 := looks_findIn (M := model prog w) X C.hk
  have at3 := looks_find (M := model prog w) X I hf
  have under : Looks (model prog w) hp (isInstance (.ref x) (.type "BaseException")) true := look.andThen (looks_subIn X C.hs)
  have no0 : (false && onTheHeap (Value.builtin "BaseException.__getattribute__")) = false := rfl
  have no1 : (onTheHeap (Value.ref D) && Value.builtin "BaseException.__getattribute__" == Value.builtin "object.__getattribute__") = false := by
    have : (Value.builtin "BaseException.__getattribute__" == Value.builtin "object.__getattribute__") = false := by decide +kernel
    rw [this]
    rfl
  unfold getAttr? getAttrBy? getAttrBy
  refine wpAny_bind (wpAny_mkText (wpAny_bind (wpAny_attempt (wpAny_holding (wpAny_bind (look.at (wpAny_bind (at1.at ?_))))))))
  show wpAny _ _ (if (onTheHeap (Value.ref D) && Value.builtin "BaseException.__getattribute__" == Value.builtin "object.__getattribute__") = true then _ else _) _ _ _
  rw [no1, if_neg Bool.false_ne_true]
  unfold getAttrByItsOwn hookBefore
  refine wpAny_bind ?_
  rw [if_pos (show onTheHeap (Value.ref D) = true from rfl)]
  refine at2.at ?_
  refine wpAny_bind (wpAny_attempt (wpAny_holding ?_))
  unfold callGetattribute
  rw [no0, if_neg Bool.false_ne_true]
  unfold boundAndCalled
  rw [PySem.F.excAttr_ValueError.ga.bind (.ref x)]
  refine wpAny_bind (wpAny_pure ?_)
  show wpAny _ _ (call (.builtin "BaseException.__getattribute__") [.ref x, .str "__class__" t]) _ _ _
  refine wpAny_call (codeAny_call_builtin PySem.F.excAttr_ValueError.ga.plain PySem.F.entry_bexc_ga ?_)
  refine @check_slot (model prog w) _ _ ⟨hp, g, d, t + 1, os⟩ "BaseException.__getattribute__" "BaseException" "__getattribute__" (.ref x) [.str "__class__" t] [] _ (by decide +kernel) (by decide +kernel) under (PySem.F.args_bexc_ga (.ref x) (.str "__class__" t)) ?_
  unfold Builtin.«object.__getattribute__»
  refine wpAny_bind (wpAny_of_eq (a := ((Value.ref x : Value), [Value.str "__class__" t])) (by first | rfl | (simp only [slotArgs]; rfl)) ?_)
  refine wpAny_bind (wpAny_pure (wpAny_bind (look.at (wpAny_bind (at3.at ?_)))))
  show wpAny _ _ (holding [Value.builtin "object.__class__"] (call (.builtin "getset_descriptor.__get__") [.builtin "object.__class__", .ref x, .ref D]) >>= ret) _ _ _
  refine wpAny_bind (wpAny_holding (wpAny_call (class_get (s := ⟨hp, g, d, t + 1, os⟩) (ox := ox) (od := od) X I C.hm ?_)))
  refine wpAny_pure ?_
  show wpAny _ _ (handedOut (.ref D)) _ _ _
  rw [handedOut_of (v := .ref D) rfl]
  first
    | exact wpAny_pure (wpAny_pure h)
    | exact wpAny_pure h
    | exact wpAny_pure (wpAny_bind (wpAny_pure (wpAny_pure h)))
theorem kit_err {K : Frag} {x D : Addr} {ox : Obj} {od : Option Obj} (C : L2.ExcC K D) : KitX K (.ref x) (.ref D) (fun h => InstAt h x ox D od) where
  ty := fun _ _ _ I => I.type
  it := fun _ _ X _ => by
    obtain ⟨cdD, hcD, _⟩ := any_some C.hd
    unfold clsIn at hcD
    split at hcD
    · rename_i c' d' cd' sl' ho
      intro A' Q' E' s' k q
      unfold isType loadHead
      exact wpAny_bind (wpAny_loadPart (k _ _ (X _ _ ho)) (wpAny_pure q))
    · cases hcD
  ne := fun h tp dd its n sl X htp => by
    obtain ⟨cdD, hcD, _⟩ := any_some C.hd
    refine Bool.eq_false_iff.mpr fun q => ?_
    have e : D = tp := Value.ref.inj (beq_iff_eq.mp q)
    subst e
    unfold clsIn at hcD
    split at hcD
    · rename_i c' d' cd' sl' ho
      have z := (X _ _ ho).symm.trans htp
      cases z
    · cases hcD
  ca := fun X I k => class_of_err C X I k
open L2
/-- isinstance(e, c), c a class of the program's, e with a dict of its own -/
def rIsX (K : PySem.W.Frag) (D a : Addr) (cls : Value) (d : Option Addr) : List V → Hp → VK → Prop := fun xs H Q => ∃ (c : Addr) (b : Bool) (dd : Addr) (fs : List (Str × V)), xs = [.ref a, .ref c] ∧ cls = .ref D ∧ kitOne K (.ref D) (.ref c) = some b ∧ d = some dd ∧ H dd = some (.xd fs) ∧ Q (.bl b) H
theorem call_isX {X : Cx} {a D : Addr} {cls : Value} {d : Option Addr} {oe : Obj} {pn : List (Addr × Obj)} (C : ExcC X.K D) (hz : Zc cls d oe) (hf : ∃ vs, oe.data = .fields vs) : CallR (X.suite a ((a, oe) :: pn)) (.builtin "isinstance") (rIsX X.K D a cls d) := by
  intro pins s σ H xs us Q I r h
  obtain ⟨c, b, dd, fs, rfl, ec, e, ed, ea, q⟩ := h
  subst ed ec
  cases r with
  | cons rx rr =>
    cases rr with
    | cons rt rr =>
      cases rr
      cases rx
      cases rt
      obtain ⟨hget, _⟩ := I.pin (a, oe) (List.mem_append.mpr (.inl List.mem_cons_self))
      obtain ⟨vs, hv⟩ := hf
      have hx : ObjOk X.prog X.w H s.heap dd (.xd fs) := I.hok dd _ ea
      obtain ⟨mA, hns, hr⟩ := hx
      obtain ⟨od, ho, hl⟩ := lookIn_ns hns
      have J : InstAt s.heap a oe D (some od) := ⟨hget, hz.1, by unfold notCls; rw [hv] <;> rfl, by rw [hz.2]; exact ho⟩
      exact kia_one (kit_err C) I.kIn J e (fun z => nomatch z) fun tk => ⟨.bl b, H, I.kept (t' := tk) fun _ _ z => z, rfl, q⟩
end CR
/-! CrSd -/
set_option maxHeartbeats 4000000
namespace CR
open PySem PySem.Spec L2
open PyProof.Rows hiding St
/-! ### what the program said -/
structure SaidT (K : PySem.W.Frag) (mg : Str → Option Value) (C : Addr) : Prop where
  cE : ∃ A, mg "CardError" = some (.ref A) ∧ PySem.W.exmOne K (.ref C) (.ref A) = some true
  xc : ExcC K C
  xf : XfC K C
  nw : PySem.W.findIn K (.ref C) "word" = some none
  na : PySem.W.findIn K (.ref C) "at" = some none
  pE : ∃ A, mg "PaperError" = some (.ref A) ∧ PySem.W.kitOne K (.ref C) (.ref A) = some false
  rE : ∃ A, mg "RingError" = some (.ref A) ∧ PySem.W.kitOne K (.ref C) (.ref A) = some true
  tE : ∃ A, mg "TextError" = some (.ref A) ∧ PySem.W.kitOne K (.ref C) (.ref A) = some false
  nP : ∃ A, mg "NoPaper" = some (.ref A)
  nS : mg "NoStep" = some (.ref C)
  iS : PySem.W.kitOne K (.ref C) (.ref C) = some true
abbrev N__law_said : List Str := ["_law_ask", "_law_found", "_law_kinds", "e"]
theorem sc__law_said : FnScope N__law_said ["_law_ask"] (defScope s__law_said) := ⟨rfl, rfl, rfl, by decide +kernel, rfl, by decide +kernel, by decide +kernel⟩
/-- told: the lambda's answer, or the step's word -/
def TTs (T : List (Addr × Str)) (C : Addr) : (XK → Hp → VK → Prop) → Hp → VK → Prop := fun tl H Q => LamX.Tabs T H ∧ ∀ (H0 : Hp) (Q' : VK), Ext T H H0 → (∀ v H1, (∀ p, H1 p = none → Q (.ref p) (upd H1 p (.tup [.str "told", v]))) → Q' v H1) →
  tl (fun cls d H1 => cls = .ref C ∧ ∃ dd, d = some dd ∧ H1 dd = some (xdW "full") ∧ LamX.Tabs T H1 ∧ ∀ p H2, Ext T H1 H2 → H2 p = some (.tup [.str "step", .str "full"]) → Q (.ref p) H2) H0 Q'
theorem takes_len {X : Cx} {W : WX} (tk : Takes X W) : Takes X (fun cls d σ H => σ.length = X.N.length → W cls d σ H) := fun u s' ⟨a, B, sI, pins, σ, H, cls, d, e, I, nb, up, sky, na, os, ag, w⟩ =>
  tk u s' ⟨a, B, sI, pins, σ, H, cls, d, e, I, nb, up, sky, na, os, ag, w I.len⟩
theorem isx {X : Cx} {a D A : Addr} {cls : Value} {d : Option Addr} {oe : Obj} {pn : List (Addr × Obj)} {x : Str} {p p1 p2 pos : Pos} (C : ExcC X.K D) (hz : Zc cls d oe) (hf : ∃ vs, oe.data = .fields vs) (n : X.mg "isinstance" = none) (m : X.mg x = some (.ref A))
    (hN : X.N[3]? = some ("e" : Str) := by rfl) (hv : Vis X.env.scope "e" := by exact Or.inl rfl) (hg : Gl X "isinstance" := by rfl) (hx : Gl X x := by rfl) (hd : (x == ("__debug__" : Str)) = false := by decide)
    (he : starEach [Expr.Name "e" p1, Expr.Name x p2] (X.suite a ((a, oe) :: pn)).env = (false, eval (.Name "e" p1) (X.suite a ((a, oe) :: pn)).env) :: starEach [Expr.Name x p2] (X.suite a ((a, oe) :: pn)).env := by rfl) :
    PE (X.suite a ((a, oe) :: pn)) (.Call (.Name "isinstance" p) [.Name "e" p1, .Name x p2] [] pos) (tCB (rIsX X.K D a cls d) (tCons (tVar 3) (tCons (tC (.ref A)) tNil))) :=
  pe_callB (call_isX C hz hf) hg n PyProof.Rows.boot_isinstance (pa_cons (pe_var hN hv) (pa_cons (pe_glob hx m rfl hd) pa_nil))
theorem said_gives {X : Cx} {g C : Addr} {cdg : Value} {q : Str} {T : List (Addr × Str)} (Tm : Tc X.mg) (S : SaidT X.K X.mg C) (hu : X.A.units + 3 + 64 < cLine) : LamX.GivesTo X N__law_said "_law_said" (defScope s__law_said) g cdg (defBody s__law_said) "_law_ask" q (TTs T C) := by
  intro f c' s H Q tl act hc h
  obtain ⟨AE, gE, eE⟩ := S.cE
  obtain ⟨AP, gP, iP⟩ := S.pE
  obtain ⟨AR, gR, iR⟩ := S.rE
  obtain ⟨AT, gT, iT⟩ := S.tE
  obtain ⟨AN, gN⟩ := S.nP
  have hnd := sc__law_said.nd
  have hus : ∀ (a : Addr) (oe : Obj) (pn : List (Addr × Obj)), ((cxOf C8.CX0 X.prog X.w X.K X.mg X.base N__law_said "_law_said" (defScope s__law_said) g cdg X.A X.stack s H C8.E0).nox.suite a ((a, oe) :: pn)).A.units + 64 < cLine := fun _ _ _ => hu
  have oeq : ∀ (a : Addr) (oe : Obj) (pn : List (Addr × Obj)), OpR ((cxOf C8.CX0 X.prog X.w X.K X.mg X.base N__law_said "_law_said" (defScope s__law_said) g cdg X.A X.stack s H C8.E0).nox.suite a ((a, oe) :: pn)) (compareOp CmpOp.Eq) (rEqD X.K) := fun a oe pn => op_eqD (hus a oe pn)
  refine ⟨_, pss_cons (ps_set (i := 1) hnd rfl (Or.inl rfl) (dE (T := T) (de_tup (da_cons de_str da_nil))))
    (pss_cons (ps_try_as (X := (cxOf C8.CX0 X.prog X.w X.K X.mg X.base N__law_said "_law_said" (defScope s__law_said) g cdg X.A X.stack s H C8.E0).nox) (i := 3) (c := .ref AE)
      (tb := fun W D σ H => ∃ Ech : XK, (∀ cls d σ' H', Ech cls d H' → σ'.length = 4 → W cls d σ' H') ∧ tAsg (tTup (tCons (tC (.str "told")) (tCons (fun σZ HZ Q => σZ[0]? = some (some (V.ref f)) ∧ HZ c' = some (LamX.CodeO c' q) ∧ tl Ech HZ Q) tNil))) (gName 1) D σ H)
      rfl rfl hnd rfl rfl ⟨rfl, by decide, .inl gE⟩ LamX.takes0 (fun W pn xe tk _ => ?_) (fun a oe cls d pn hz hf => pss_cons (ps_set (i := 2) hnd rfl (Or.inl rfl) (pe_lst (pa_cons (isx S.xc hz hf Tm.n_isinstance gP) (pa_cons (isx S.xc hz hf Tm.n_isinstance gR) (pa_cons (isx S.xc hz hf Tm.n_isinstance gT) pa_nil))))) (pss_cons (ps_if (PW.pt (pw_and (pt_cmpR (oeq a oe pn) (rv 2) (pe_lst (pa_cons pe_bl (pa_cons pe_bl (pa_cons pe_bl pa_nil)))) (nomark _)) (pw_and1 (pt_val (isx S.xc hz hf Tm.n_isinstance gN))))) (pss_one (ps_set (i := 1) hnd rfl (Or.inl rfl) (pe_tup (pa_cons pe_str (pa_cons (pe_xf S.xf S.nw hz hf (rv 3)) (pa_cons (pe_xf S.xf S.na hz hf (rv 3)) pa_nil)))))) pss_nil) (pss_one (ps_if (PW.pt (pw_and (pt_cmpR (oeq a oe pn) (rv 2) (pe_lst (pa_cons pe_bl (pa_cons pe_bl (pa_cons pe_bl pa_nil)))) (nomark _)) (pw_and1 (pt_val (isx S.xc hz hf Tm.n_isinstance S.nS))))) (pss_one (ps_set (i := 1) hnd rfl (Or.inl rfl) (pe_tup (pa_cons pe_str (pa_cons (pe_xf S.xf S.nw hz hf (rv 3)) pa_nil))))) pss_nil))))) (pss_one (ps_ret (rv 1)))), ?_⟩
  · refine ⟨fun pins s' σ H' D I h' => ?_⟩
    obtain ⟨Ech, hW, h1⟩ := h'
    exact (pss_one (ps_set (i := 1) hnd rfl (Or.inl rfl) (pe_tup (pa_cons pe_str (pa_cons (act _ pn xe Ech _ _ (takes_len tk) hW) pa_nil))))).run pins s' σ H' D I h1
  · obtain ⟨hT, h⟩ := h
    refine ⟨_, .tuple [.str "other"], hT, EnvIs.blank H _, rfl, fun v0 H0 e0 i0 => ?_⟩
    refine ⟨fun cls d H1 => cls = .ref C ∧ ∃ dd, d = some dd ∧ H1 dd = some (xdW "full") ∧ LamX.Tabs T H1 ∧ ∀ p H2, Ext T H1 H2 → H2 p = some (.tup [.str "step", .str "full"]) → Q (.ref p) H2, fun cls d σ' H1 hE hl => ?_, rfl, e0.keep c' _ hc (fun ps z => LamX.codeO_ne ps z), ?_⟩
    · obtain ⟨rfl, dd, rfl, hd, hT1, q⟩ := hE
      obtain ⟨x0, x1, x2, x3, rfl⟩ : ∃ x0 x1 x2 x3, σ' = [x0, x1, x2, x3] := by
        match σ', hl with
        | [x0, x1, x2, x3], _ => exact ⟨_, _, _, _, rfl⟩
      refine ⟨true, eE, fun _ a ha => ?_, fun z => by cases z⟩
      have hF : ∀ b1 b2 b3 : Bool, SeqAt.shaped (.list [.bool b1, .bool b2, .bool b3]) = true := by decide
      refine ⟨.ref a, rfl, AP, false, dd, _, rfl, rfl, iP, rfl, hd, .ref a, rfl, AR, true, dd, _, rfl, rfl, iR, rfl, hd, .ref a, rfl, AT, false, dd, _, rfl, rfl, iT, rfl, hd, line15 (show 3 ≤ 1000 by decide), fun p hp => ?_⟩
      have e1 : Ext T H1 (upd H1 p (.lst [.bl false, .bl true, .bl false])) := .new hp
      have hd1 := e1.keep dd _ hd (fun ps z => by cases z)
      have dl : ∀ (H2 : Hp) (p : Addr) (b1 b2 b3 : Bool), H2 p = some (.lst [.bl b1, .bl b2, .bl b3]) → Dp X.K H2 (.ref p) (.list [.bool b1, .bool b2, .bool b3]) := fun H2 p b1 b2 b3 h => dp_list h (.cons (.bl _) (.cons (.bl _) (.cons (.bl _) .nil))) rfl
      refine ⟨.ref p, rfl, line15 (show 3 ≤ 1000 by decide), fun p2 hp2 => ?_⟩
      have e2 : Ext T (upd H1 p (.lst [.bl false, .bl true, .bl false])) (upd (upd H1 p (.lst [.bl false, .bl true, .bl false])) p2 (.lst [.bl true, .bl false, .bl false])) := .new hp2
      refine ⟨_, _, dl _ p _ _ _ (e2.keep p _ upd_same (fun ps z => by cases z)), dl _ p2 _ _ _ upd_same, hF _ _ _, hF _ _ _, _, rfl, iteF (iteF ?_)⟩
      refine ⟨.ref p, rfl, line15 (show 3 ≤ 1000 by decide), fun p3 hp3 => ?_⟩
      have e3 : Ext T (upd (upd H1 p (.lst [.bl false, .bl true, .bl false])) p2 (.lst [.bl true, .bl false, .bl false])) (upd (upd (upd H1 p (.lst [.bl false, .bl true, .bl false])) p2 (.lst [.bl true, .bl false, .bl false])) p3 (.lst [.bl false, .bl true, .bl false])) := .new hp3
      refine ⟨_, _, dl _ p _ _ _ ((e2.trans e3).keep p _ upd_same (fun ps z => by cases z)), dl _ p3 _ _ _ upd_same, hF _ _ _, hF _ _ _, _, rfl, iteT ?_⟩
      have hd3 := (e2.trans e3).keep dd _ hd1 (fun ps z => by cases z)
      refine ⟨.ref a, rfl, C, true, dd, _, rfl, rfl, S.iS, rfl, hd3, true, rfl, iteT ?_⟩
      refine ⟨.ref a, rfl, rfl, rfl, dd, _, .str "full", rfl, hd3, rfl, line15 (show 2 ≤ 1000 by decide), fun p4 hp4 => ?_⟩
      exact ⟨_, rfl, q p4 _ (((e1.trans e2).trans e3).trans (.new hp4)) upd_same⟩
    · refine h H0 _ e0 (fun v H1 hv => ⟨line15 (show 2 ≤ 1000 by decide), fun p hp => ⟨_, rfl, hv p hp⟩⟩)
end CR
/-! CrDn -/
set_option maxHeartbeats 4000000
namespace CR
open PySem PySem.Spec L2
open PyProof.Rows hiding St
/-! ### an act done -/
structure PRn (P : Program) (w : World) (K : PySem.W.Frag) (mg : Str → Option Value) (base : Heap) (k : Nat) (x : Str) (sp : Sp) : Prop where
  ex : ∃ (f : Addr) (fd : FuncData) (ps : List Str), FnOk P w K mg base (L2.CX P w) k f fd ps sp ∧ mg x = some (.ref f) ∧ PySem.W.keepIn K (.ref f) = true ∧ Binds K fd ps []
/-- the def that gets the lambda -/
structure SaidP (K : PySem.W.Frag) (mg : Str → Option Value) (g : Addr) (fd : FuncData) : Prop where
  m : mg "_law_said" = some (.ref g)
  kp : PySem.W.keepIn K (.ref g) = true
  lk : ∃ (oc : Value) (od : Option Addr) (dV kV doc pm : Value) (an : Option Addr) (cdv ct : Value) (osl : Array (Option Value)), fd = PySem.W.fnOf "_law_said" "_law_said" (defArgs s__law_said) (defBody s__law_said) (defScope s__law_said) dV kV doc pm an cdv ct ∧ K.lookup g = some ⟨oc, od, .func fd, osl⟩ ∧ PySem.W.codeIn K cdv "_law_said" = true
  b : Binds K fd ["_law_ask"] []
def tickOf (d : D) : Int := match gIx d (.int 0) with
  | some (.str u) => if PyData.eqv (.str u) (.str "tick") = true then 1 else 0
  | _ => 0
inductive DRes (s : WS) (d : D) : WS → D → Prop
  | told {val mem : D} {ev : D} : PRes s d (.r (.tuple [val, mem, ev])) → DRes s d { s with value := val, memory := mem, clock := s.clock + tickOf d } ev
  | no : PRes s d .ex → DRes s d s (.tuple [])
theorem verb_ok {s : WS} {d : D} {r : RX} (h : PRes s d r) : ∃ u : Str, gIx d (.int 0) = some (.str u) ∧ SeqAt.shaped (.str u) = true ∧ PyData.eqv (.str u) (.str "put") = false := by
  cases h <;> exact ⟨_, rfl, by decide +kernel, by decide +kernel⟩
def spDone (P : Program) (w : World) (T : List (Addr × Str)) : Sp := fun vs H Q _ => ∃ a s va d s' ev, vs = [.ref a.W, va] ∧ LamX.Tabs T H ∧ WOk P w H a s ∧ Is H va d ∧ DRes s d s' ev ∧ ∀ v H', Chg T [a.W] H H' → WOk P w H' a s' → Is H' v ev → Q v H'
abbrev qDN : Str := "_law_done.<locals>.<lambda>"
section
variable {P : Program} {w : World} {K : PySem.W.Frag} {mg : Str → Option Value} {base : Heap} {T : List (Addr × Str)}
abbrev N__law_done : List Str := ["_law_world_here", "_law_act_here", "_law_said_here"]
theorem sc__law_done : FnScope N__law_done ["_law_world_here", "_law_act_here"] (defScope s__law_done) := ⟨rfl, rfl, rfl, by decide +kernel, rfl, by decide +kernel, by decide +kernel⟩
theorem ok_law_done {kws : List (Str × V)} {f c Pt g CN : Addr} {fd fg : FuncData} (C : Tc mg) (S : SaidT K mg CN) (G : SaidP K mg g fg) (c__law_program : PRn P w K mg base 7 "_law_program" (spProgram P w T CN))
    (Fd : FunC K "_law_done" "_law_done" (defArgs s__law_done) (defBody s__law_done) (defScope s__law_done) [] kws f fd c) (TB : LamX.TabB base mg c Pt) (hmT : (Pt, qDN) ∈ T) (huT : ∀ p ∈ T, p.1 = Pt → p.2 = qDN) :
    FnOk P w K mg base L2.CX0 10 f fd ["_law_world_here", "_law_act_here"] (spDone P w T) :=
  Fd.ok sc__law_done (fun vs H Q E ⟨_, _, _, _, _, _, h, _⟩ => by rw [h]; rfl) fun A outer s H vs Q E hr h => by
    obtain ⟨a, s0, va, d, s1, ev, rfl, hT, ⟨r, v, W⟩, iva, hd, q⟩ := h
    have hnd := sc__law_done.nd
    have hu := hr.units
    have hu1 : (A.deeper (envOfC (Str.ofString "_law_done") (defScope s__law_done) s.heap.objs.size f (.ref c))).units + 1 < cLine := by omega
    have hu67 : (A.deeper (envOfC (Str.ofString "_law_done") (defScope s__law_done) s.heap.objs.size f (.ref c))).units + 3 + 64 < cLine := by
      have := hr.un
      omega
    obtain ⟨fp, fdp, psp, Fp, mp, kpp, bp⟩ := c__law_program.ex
    obtain ⟨oc, od, dV, kV, doc, pm, an, cdv, ct, osl, rfl, lkg, hcg⟩ := G.lk
    refine ⟨_, pss_cons (ps_set (i := 2) hnd rfl (by first | exact Or.inl rfl | exact Or.inr rfl) (LamX.pe_lamcall (T := T) rfl G.m G.kp lkg hcg G.b sc__law_said rfl (Or.inl rfl) (said_gives (T := T) C S hu67) TB rfl hmT huT (hr.mono (by decide)) (LamX.lamS_by (sc := defScope s__law_done) (by decide +kernel)) rfl (fun _ _ _ _ _ => rfl) (fun A outer s H E f c' hr => pe_callS Fp hr rfl mp kpp bp (fun σ => passAt (takes_of rfl rfl rfl rfl) σ) (pa_cons (rv 0) (pa_cons (rv 1) pa_nil))))) (pss_cons (ps_if (dT (T := T) (dt_cmp (op_neD hr.units) od_ne (de_ix (dv 2) (de_int) (fun _ _ => rfl)) (de_str) (nomark _))) (pss_one (ps_ret (pe_tup (pa_nil)))) (pss_nil)) (pss_cons (ps_asg (dE (T := T) (de_sl (de_ix (dv 2) (de_int) (fun _ _ => rfl)) (do_none) (do_some (de_int)))) (pg_tup rfl (pgs_cons (pg_sub (rv 0) (pe_str) (set_dict hu1)) (pgs_cons (pg_sub (rv 0) (pe_str) (set_dict hu1)) (pgs_nil))))) (pss_cons (ps_dput hu1 (rv 0) pe_str (pe_op op_add (pe_dget hu1 (rv 0) pe_str (fun _ _ => rfl)) (pe_callTy call_int1 rfl C.n_int (by decide +kernel) (pa_cons (dE (T := T) (de_cmp (op_eqD hr.units) od_eq (de_ix (dv 1) (de_int) (fun _ _ => rfl)) (de_str) (nomark _))) (pa_nil)))) rfl) (pss_cons (ps_if (dT (T := T) (dt_cmp (op_eqD hr.units) od_eq (de_ix (dv 1) (de_int) (fun _ _ => rfl)) (de_str) (nomark _))) (pss_one (ps_dput hu1 (rv 0) pe_str (dE (T := T) (de_ix (de_ix (dv 2) (de_int) (fun _ _ => rfl)) (de_int) (fun _ _ => rfl))) rfl)) (pss_nil)) (pss_one (ps_ret (dE (T := T) (de_ix (de_ix (dv 2) (de_int) (fun _ _ => rfl)) (de_int) (fun _ _ => rfl))))))))), ?_⟩
    refine ⟨hT, fun H1 en T1 => ?_⟩
    have e1 : Ext T H H1 := ⟨en, fun _ => T1⟩
    refine ⟨T1, fun H0 Q' e0 hQ' => ?_⟩
    have E0 := e1.trans e0
    have W0 := W.ext E0
    have T0 := e0.tabs T1
    cases hd with
    | no hp =>
      refine ⟨.ref a.W, rfl, va, rfl, a, s0, va, d, .ex, rfl, T0, ⟨r, v, W0⟩, E0.is iva, hp, fun dd H2 e2 h2 => ⟨rfl, dd, rfl, h2, e2.tabs T0, fun p H3 e3 hp3 => ?_⟩⟩
      have E3 := (E0.trans e2).trans e3
      have isaid : Is H3 (.ref p) (.tuple [.str "step", .str "full"]) := .tup hp3 (.cons (.str _) (.cons (.str _) .nil))
      refine ⟨[none, none, some (.tuple [.str "step", .str "full"])], true, E3.tabs hT, .skip (.skip (.cons isaid .nil)), (show (gNe (.str "step") (.str "told")).bind bOf = some true from by decide +kernel), fun H4 e4 => iteT ⟨line15 (show 0 ≤ 1000 by decide), fun p5 hp5 => q _ _ ((E3.trans e4).trans (.new hp5)).chg ⟨_, _, W.ext ((E3.trans e4).trans (.new hp5))⟩ (.tup upd_same .nil)⟩⟩
    | @told val mem ev hp =>
      obtain ⟨u, hu0, hsh, hput⟩ := verb_ok hp
      refine ⟨.ref a.W, rfl, va, rfl, a, s0, va, d, .r (.tuple [val, mem, ev]), rfl, T0, ⟨r, v, W0⟩, E0.is iva, hp, fun v2 H2 e2 i2 => hQ' _ _ fun p hp => ?_⟩
      have E3 : Ext T H (upd H2 p (.tup [.str "told", v2])) := (E0.trans e2).trans (.new hp)
      have isaid : Is (upd H2 p (.tup [.str "told", v2])) (.ref p) (.tuple [.str "told", .tuple [val, mem, ev]]) := .tup upd_same ((IsAll.cons (.str _) (.cons i2 .nil)).mono (tups_new hp))
      generalize upd H2 p (.tup [.str "told", v2]) = H3 at E3 isaid
      have env : ∀ H', Tups H3 H' → EnvIs H' [some (.ref a.W), some va, some (.ref p)] [none, some d, some (.tuple [.str "told", .tuple [val, mem, ev]])] := fun H' t => .skip (.cons ((E3.is iva).mono t) (.cons (isaid.mono t) .nil))
      have T3 := E3.tabs hT
      refine ⟨_, false, T3, env _ (Ext.refl T H3).tups, (show (gNe (.str "told") (.str "told")).bind bOf = some false from by decide +kernel), fun H4 e4 => iteF ⟨_, .tuple [val, mem], e4.tabs T3, env _ e4.tups, rfl, fun v5 H5 e5 i5 => ?_⟩⟩
      obtain ⟨pa, xs, rfl, hpa, hxs⟩ := i5.tupE
      cases hxs with
      | @cons vv _ _ _ iv hxs =>
        cases hxs with
        | @cons vm _ _ _ im hxs =>
          cases hxs
          have E5 := (E3.trans e4).trans e5
          have W5 := W.ext E5
          refine ⟨pa, [vv, vm], rfl, .of hpa, rfl, vv, _, rfl, ⟨.ref a.W, rfl, a.W, _, rfl, DPut.k (k := .inr "value") W5.at_ wline, vm, _, rfl, ⟨.ref a.W, rfl, a.W, _, rfl, DPut.k (k := .inr "memory") (kvs := wl r vv) upd_same wline, rfl, ?_⟩⟩⟩
          rw [upd_upd]
          have W6 : WAt P w (upd H5 a.W (.dK (putK (wl r vv) (.inr "memory") vm))) a { r with memory := vm } vv { s0 with value := val, memory := mem } :=
            W5.put { r with memory := vm } vv { s0 with value := val, memory := mem } ⟨rfl, rfl, rfl, rfl, rfl⟩ ⟨rfl, rfl, rfl, rfl⟩ W5.rights W5.clock im W5.era W5.most W5.wait iv
          have g6 : Chg T [a.W] H5 (upd H5 a.W (.dK (putK (wl r vv) (.inr "memory") vm))) := Chg.dK W5.at_ List.mem_cons_self
          have t6 : Tups H3 (upd H5 a.W (.dK (putK (wl r vv) (.inr "memory") vm))) := ((e4.trans e5).tups).trans g6.tups
          have G6 : Chg T [a.W] H (upd H5 a.W (.dK (putK (wl r vv) (.inr "memory") vm))) := E5.chg.trans g6
          generalize upd H5 a.W (.dK (putK (wl r vv) (.inr "memory") vm)) = H6 at W6 G6 t6
          have T6 := G6.tabs hT
          dsimp only
          refine ⟨.ref a.W, rfl, a.W, _, rfl, wgClock W6, _, .bool (PyData.eqv (.str u) (.str "tick")), T6, env _ t6, ?_, fun v7 H7 e7 i7 => ?_⟩
          · show ((gIx d (.int 0)).bind fun x => (some (PyData.str "tick")).bind fun y => gEq x y) = _
            rw [hu0]
            exact gEqS hsh (by decide +kernel) rfl
          cases i7.blE
          have W7 := W6.ext e7
          refine .inr ⟨_, rfl, _, _, rfl, rfl, .ref a.W, rfl, a.W, _, rfl, DPut.k (k := .inr "clock") W7.at_ wline, ?_⟩
          have htk : (if PyData.eqv (.str u) (.str "tick") = true then (1 : Int) else 0) = tickOf d := by
            unfold tickOf
            rw [hu0]
          rw [htk]
          have W8 : WAt P w (upd H7 a.W (.dK (putK (wl { r with memory := vm } vv) (.inr "clock") (.int (s0.clock + tickOf d))))) a { r with memory := vm, clock := .int (s0.clock + tickOf d) } vv { s0 with value := val, memory := mem, clock := s0.clock + tickOf d } :=
            W7.put { r with memory := vm, clock := .int (s0.clock + tickOf d) } vv { s0 with value := val, memory := mem, clock := s0.clock + tickOf d } ⟨rfl, rfl, rfl, rfl, rfl⟩ ⟨rfl, rfl, rfl, rfl⟩ W7.rights rfl W7.memory W7.era W7.most W7.wait W7.value
          have g8 : Chg T [a.W] H7 (upd H7 a.W (.dK (putK (wl { r with memory := vm } vv) (.inr "clock") (.int (s0.clock + tickOf d))))) := Chg.dK W7.at_ List.mem_cons_self
          have G8 : Chg T [a.W] H (upd H7 a.W (.dK (putK (wl { r with memory := vm } vv) (.inr "clock") (.int (s0.clock + tickOf d))))) := (G6.ext e7).trans g8
          have t8 : Tups H3 (upd H7 a.W (.dK (putK (wl { r with memory := vm } vv) (.inr "clock") (.int (s0.clock + tickOf d))))) := (t6.trans e7.tups).trans g8.tups
          generalize upd H7 a.W (.dK (putK (wl { r with memory := vm } vv) (.inr "clock") (.int (s0.clock + tickOf d)))) = H8 at W8 G8 t8
          refine ⟨_, false, G8.tabs hT, env _ t8, ?_, fun H9 e9 => iteF ⟨_, ev, e9.tabs (G8.tabs hT), env _ (t8.trans e9.tups), rfl, fun v9 Ha ea ia => q v9 Ha ((G8.ext e9).ext ea) ⟨_, _, (W8.ext e9).ext ea⟩ ia⟩⟩
          show (((gIx d (.int 0)).bind fun x => (some (PyData.str "put")).bind fun y => gEq x y)).bind bOf = _
          rw [hu0]
          show (gEq (.str u) (.str "put")).bind bOf = _
          rw [gEqS hsh (by decide +kernel) hput]
          rfl
end
end CR
/-! CrFl -/
set_option maxHeartbeats 4000000
namespace CR
open PySem PySem.Spec L2
open PyProof.Rows hiding St
/-! ### a filled one -/
structure IsF (s : WS) (last : List (NK × D)) (k : Nat) (t : D) (n : Int) (box : List D) (c : D) : Prop where
  talk : t ∈ TALKS
  val : ∃ vs lanes own, s.value = .tuple vs ∧ vs[1]? = some (.tuple lanes) ∧ lanes[k]? = some (.tuple own) ∧ own[5]? = some (.tuple (box ++ [c]))
  c : ∃ place ck w w', c = .tuple [t, .int n, place, ck] ∧ m_words_at [s.memory, place] = some w ∧ dget s.letters (.tup [tk t, .num n]) = some w' ∧ gEq w w' = some (.bool true)
  n0 : 0 ≤ n
  late : ∀ m, dget last (tk t) = some m → ∃ i, m = .int i ∧ i < n
theorem IsAll.at {H : Hp} {vs : List V} {ds : List D} (h : IsAll H vs ds) {j : Nat} {d : D} (e : ds[j]? = some d) : ∃ v, atI vs (j : Nat) = some v ∧ Is H v d := by
  obtain ⟨v, h1, h2⟩ := h.get e
  exact ⟨v, atI_nat h1, h2⟩
theorem IsAll.last {H : Hp} : ∀ {vs : List V} (ds : List D) {d : D}, IsAll H vs (ds ++ [d]) → ∃ v, atI vs (-1) = some v ∧ Is H v d := fun {vs} ds {d} h => by
  have hl := h.length
  obtain ⟨v, h1, h2⟩ := h.get (i := ds.length) (d := d) (by simp)
  refine ⟨v, ?_, h2⟩
  have hl2 : vs.length = ds.length + 1 := by rw [hl, List.length_append]; rfl
  unfold atI ixN
  rw [if_neg (by decide), if_pos (by omega), hl2]
  show vs[(-1 + ((ds.length + 1 : Nat) : Int)).toNat]? = some v
  rw [show (-1 + ((ds.length + 1 : Nat) : Int)).toNat = ds.length by omega]
  exact h1
theorem gEq_data {x y : D} {b : Bool} (h : gEq x y = some (.bool b)) : SeqAt.shaped x = true ∧ SeqAt.shaped y = true ∧ noL x = true ∧ noL y = true ∧ PyData.eqv x y = b := by
  unfold gEq at h
  split at h
  · rename_i hh
    simp only [Bool.and_eq_true] at hh
    exact ⟨hh.1.1, hh.1.2, hh.2.1, hh.2.2, by cases h; rfl⟩
  · cases h
theorem eqv_self {d : D} (h : SeqAt.shaped d = true) : PyData.eqv d d = true := by
  unfold SeqAt.shaped at h
  exact SeqAt.eqv_refl _ (Bool.and_eq_true_iff.mp h).1
theorem talk_sh : ∀ d ∈ TALKS, d.canLay0 = true ∧ d.depth ≤ 5 ∧ noL d = true := by decide +kernel
theorem pair_sh {t : D} (ht : t ∈ TALKS) (n : Int) : SeqAt.shaped (.tuple [t, .int n]) = true ∧ noL (.tuple [t, .int n]) = true := by
  obtain ⟨h1, h2, h3⟩ := talk_sh t ht
  refine ⟨?_, by simp [noL, noLs, h3]⟩
  unfold SeqAt.shaped
  have e1 : (PyData.tuple [t, .int n]).canLay0 = true := by simp [PyData.canLay0, PyData.canLayAll0, h1]
  have e2 : (PyData.tuple [t, .int n]).depth ≤ 64 := by
    simp [PyData.depth, PyData.depthAll]
    omega
  rw [e1, decide_eq_true e2]
  rfl
theorem pair_ne {t : D} (ht : t ∈ TALKS) (n : Int) : gNe (.tuple [t, .int n]) (.tuple [t, .int n]) = some (.bool false) := by
  obtain ⟨h1, h2⟩ := pair_sh ht n
  unfold gNe
  rw [h1, h2, eqv_self h1]
  rfl
def spFilled (P : Program) (w : World) (T : List (Addr × Str)) : Sp := fun vs H Q _ => ∃ a s ve half k t n c box bx bl la bxs xs last, vs = [.ref a.W, ve, .ref bx, .ref la] ∧ LamX.Tabs T H ∧ WOk P w H a s ∧ Is H ve (.tuple [.str "filled", half, .int (k : Nat), t, .int n]) ∧
  H bx = some (.lst bxs) ∧ bxs[k]? = some (.ref bl) ∧ H bl = some (.lst xs) ∧ xs.length < 900 ∧ IsN P w H la last ∧ last.length < 900 ∧ (bl ≠ a.fa ∧ bl ≠ a.la ∧ la ≠ a.nb ∧ la ≠ a.lt) ∧ IsF s last k t n box c ∧
  ∀ H' vc, Chg T [bl, la] H H' → H' bl = some (.lst (xs ++ [vc])) → Is H' vc c → IsN P w H' la (dset last (tk t) (.int n)) → WOk P w H' a s → Q (.bl true) H'
section
variable {P : Program} {w : World} {K : PySem.W.Frag} {mg : Str → Option Value} {base : Heap} {T : List (Addr × Str)}
abbrev N__law_is_filled : List Str := ["_law_world_here", "_law_event", "_law_boxes", "_law_last", "_law_completion", "_law_a", "_law_lane_here", "_law_talk", "_law_number"]
theorem sc__law_is_filled : FnScope N__law_is_filled ["_law_world_here", "_law_event", "_law_boxes", "_law_last"] (defScope s__law_is_filled) := ⟨rfl, rfl, rfl, by decide +kernel, rfl, by decide +kernel, by decide +kernel⟩
theorem ok_law_is_filled {kws : List (Str × V)} {f : Addr} {fd : FuncData} (C : Tc mg) (c_words_at : PFn P w K mg base T 2 "words_at" 2 [] m_words_at) (Fd : FnP K mg "_law_is_filled" s__law_is_filled kws f fd) : FnOk P w K mg base L2.CX0 3 f fd ["_law_world_here", "_law_event", "_law_boxes", "_law_last"] (spFilled P w T) :=
  Fd.1.ok sc__law_is_filled (fun vs H Q E ⟨_, _, _, _, _, _, _, _, _, _, _, _, _, _, _, h, _⟩ => by rw [h]; rfl) fun cdv A outer s H vs Q E hr h => by
    obtain ⟨a, s0, ve, half, k, t, n, cc, box, bx, bl, la, bxs, xs, last, rfl, hT, ⟨r, v, W⟩, ive, hbx, hbl, hxs, hlx, iL, hll, ⟨nfa, nba, nnb, nlt⟩, hF, q⟩ := h
    have hnd := sc__law_is_filled.nd
    have hu := hr.units
    have hu1 : (A.deeper (envOfC (Str.ofString "_law_is_filled") (defScope s__law_is_filled) s.heap.objs.size f cdv)).units + 1 < cLine := by omega
    refine ⟨_, pss_cons (ps_asg (dE (T := T) (de_sl (dv 1) (do_some (de_int)) (do_none))) (pg_tup rfl (pgs_cons (pg_name (i := 5) hnd rfl (by first | exact Or.inl rfl | exact Or.inr rfl)) (pgs_cons (pg_name (i := 6) hnd rfl (by first | exact Or.inl rfl | exact Or.inr rfl)) (pgs_cons (pg_name (i := 7) hnd rfl (by first | exact Or.inl rfl | exact Or.inr rfl)) (pgs_cons (pg_name (i := 8) hnd rfl (by first | exact Or.inl rfl | exact Or.inr rfl)) (pgs_nil))))))) (pss_cons (ps_set (i := 4) hnd rfl (by first | exact Or.inl rfl | exact Or.inr rfl) (pe_ix (r := rIx K) ix_seq (pe_ix (r := rIx K) ix_seq (pe_ix (r := rIx K) ix_seq (pe_ix (r := rIx K) ix_seq (pe_dget hu1 (rv 0) pe_str (fun _ _ => rfl)) (pe_int) (fun _ _ => rfl)) (rv 6) (fun _ _ => rfl)) (pe_int) (fun _ _ => rfl)) (pe_un un_neg (pe_int)) (fun _ _ => rfl))) (pss_cons (ps_if (PW.pt (pw_or (dT (T := T) (dt_cmp (op_neD hr.units) od_ne (de_sl (dv 4) (do_none) (do_some (de_int))) (de_tup (da_cons (dv 7) (da_cons (dv 8) (da_nil)))) (nomark _))) (pw_or1 (pt_cmpR op_le (rv 8) (pe_bn PySem.F.slot_dict_get PySem.F.type_dict_get (mt_getN hu) (rv 3) (pa_cons (rv 7) (pa_cons (pe_un un_neg (pe_int)) (pa_nil)))) (nomark _))))) (pss_one (ps_ret (pe_bl))) (pss_nil)) (pss_cons (ps_asg (rv 8) (pg_sub (rv 3) (rv 7) (pset_N hu))) (pss_cons (ps_expr (pe_bm PySem.F.plainAttrs_list PySem.F.slot_list_append PySem.F.type_list_append mt_append (pe_ix (r := rIx K) ix_seq (rv 2) (rv 6) (fun _ _ => rfl)) (pa_cons (rv 4) (pa_nil)))) (pss_one (ps_ret (pe_cmpR (op_eqD hu) (pe_cp c_words_at hr (by decide) (pa_cons (pe_dget hu1 (rv 0) pe_str (fun _ _ => rfl)) (pa_cons (dE (T := T) (de_ix (dv 4) (de_int) (fun _ _ => rfl))) (pa_nil)))) (pe_ix (ix_N hu) (pe_dget hu1 (rv 0) pe_str (fun _ _ => rfl)) (dE (T := T) (de_tup (da_cons (dv 7) (da_cons (dv 8) (da_nil))))) (fun _ _ => rfl)) (nomark _)))))))), ?_⟩
    obtain ⟨ht, ⟨vd, lanes, own, hv0, hv1, hv2, hv3⟩, ⟨place, ck, wd, wd', ec, hw, hw', heq⟩, n0, late⟩ := hF
    refine ⟨[none, some (.tuple [.str "filled", half, .int (k : Nat), t, .int n]), none, none, none, none, none, none, none], .tuple [half, .int (k : Nat), t, .int n], hT, .skip (.cons ive (EnvIs.blank H _)), rfl, fun v5 H1 e1 i5 => ?_⟩
    obtain ⟨pa, ys, rfl, hpa, hys⟩ := i5.tupE
    cases hys with
    | @cons vh _ _ _ ih hys =>
    cases hys with
    | @cons vk _ _ _ ik hys =>
    cases hys with
    | @cons vt _ _ _ it hys =>
    cases hys with
    | @cons vn _ _ _ iN hys =>
    cases hys
    cases ik.intE
    cases iN.intE
    rw [← talk_data ht] at it
    obtain ⟨b, rfl⟩ := tupK_ref (talk_ok t ht).2.1 it
    have hdep : (tk t).depth ≤ 8 := Nat.le_succ_of_le (talk_ok t ht).2.2
    refine ⟨pa, _, rfl, .of hpa, rfl, _, _, rfl, _, _, rfl, _, _, rfl, _, _, rfl, rfl, ?_⟩
    have W1 := W.ext e1
    -- the completion
    have iv := W1.value
    rw [hv0] at iv
    obtain ⟨pv, xv, rfl, hpv, hxv⟩ := iv.tupE
    obtain ⟨lv, al, il⟩ := hxv.at hv1
    obtain ⟨pl, xl, rfl, hpl, hxl⟩ := il.tupE
    obtain ⟨ov, ao, io⟩ := hxl.at hv2
    obtain ⟨po, xo, rfl, hpo, hxo⟩ := io.tupE
    obtain ⟨bv, ab, ib⟩ := hxo.at hv3
    obtain ⟨pb, xb, rfl, hpb, hxb⟩ := ib.tupE
    obtain ⟨vc, ac, ic⟩ := hxb.last
    refine ⟨.ref a.W, rfl, a.W, _, rfl, wgValue W1, .inr (.inl ⟨pv, xv, 1, .ref pl, rfl, rfl, .of hpv, al, .int (k : Nat), rfl, .inr (.inl ⟨pl, xl, (k : Nat), .ref po, rfl, rfl, .of hpl, ao, .inr (.inl ⟨po, xo, 5, .ref pb, rfl, rfl, .of hpo, ab, 1, rfl, .inr (.inl ⟨pb, xb, -1, vc, rfl, rfl, .of hpb, ac, ?_⟩)⟩)⟩)⟩)⟩
    dsimp only
    have it' : Is H1 (.ref b) t := by rw [← talk_data ht]; exact it
    have env : ∀ H', Tups H1 H' → EnvIs H' [some (.ref a.W), some ve, some (.ref bx), some (.ref la), some vc, some vh, some (.int (k : Nat)), some (.ref b), some (.int n)] [none, none, none, none, some cc, none, none, some t, some (.int n)] := fun H' tt => .skip (.skip (.skip (.skip (.cons (ic.mono tt) (.skip (.skip (.cons (it'.mono tt) (.cons (.int n) .nil))))))))
    have T1 := e1.tabs hT
    subst ec
    refine seq_by (fun σ' H' => σ' = [some (.ref a.W), some ve, some (.ref bx), some (.ref la), some vc, some vh, some (.int (k : Nat)), some (.ref b), some (.int n)] ∧ Ext T H1 H') (fun D' hD => ?_) (fun σ' H2 ⟨eσ, e2⟩ => ?_)
    · refine ⟨_, false, T1, env _ (Ext.refl T H1).tups, ?_, fun H2 e2 => ?_⟩
      · show ((gNe (.tuple [t, .int n]) (.tuple [t, .int n]))).bind bOf = _
        rw [pair_ne ht]
        rfl
      have iL2 : IsN P w H2 la last := (iL.chg (S := []) (e1.chg (S := [])) (by simp)).chg (S := []) (e2.chg (S := [])) (by simp)
      have it2 := e2.is it
      refine ⟨.int n, rfl, .ref la, rfl, isDN_of iL2, .ref b, rfl, 1, rfl, la, last, b, tk t, .int (-1), rfl, rfl, iL2, it2, hdep, fun dx u hg iu => ?_, fun hg => ?_⟩
      · obtain ⟨i, rfl, hi⟩ := late _ hg
        cases iu.intE
        refine ⟨n, i, rfl, rfl, _, rfl, ?_⟩
        rw [decide_eq_false (by omega)]
        exact iteF (hD _ _ ⟨rfl, e2⟩)
      · refine ⟨n, -1, rfl, rfl, _, rfl, ?_⟩
        rw [decide_eq_false (by omega)]
        exact iteF (hD _ _ ⟨rfl, e2⟩)
    · subst eσ
      have iL2 : IsN P w H2 la last := (iL.chg (S := []) (e1.chg (S := [])) (by simp)).chg (S := []) (e2.chg (S := [])) (by simp)
      have it2 := e2.is it
      have E2 := e1.trans e2
      refine ⟨.int n, rfl, .ref la, rfl, .ref b, rfl, la, last, b, tk t, .int n, rfl, rfl, iL2, it2, hdep, .int _, Nat.lt_of_lt_of_le hll (by decide), fun o' ho' iN' tu tb => ?_⟩
      obtain ⟨xsN, hLa, _⟩ := id iL2
      have hbx2 := E2.keep bx _ hbx (fun ps z => by cases z)
      have hbl2 := E2.keep bl _ hxs (fun ps z => by cases z)
      have nbx : bx ≠ la := fun e => by rw [e, hLa] at hbx2; cases hbx2
      have nbl : bl ≠ la := fun e => by rw [e, hLa] at hbl2; cases hbl2
      have g3 : Chg T [la] H2 (upd H2 la o') := ⟨fun b u e h _ => by rw [upd_ne (by simpa using h)]; exact e, tb T, tu⟩
      have hbx3 := g3.keep bx _ hbx2 (by simpa using nbx) (fun ps z => by cases z)
      have hbl3 := g3.keep bl _ hbl2 (by simpa using nbl) (fun ps z => by cases z)
      generalize upd H2 la o' = H3 at iN' g3 hbx3 hbl3
      refine ⟨.ref bx, rfl, .int (k : Nat), rfl, .inl ⟨bx, bxs, (k : Nat), .ref bl, rfl, rfl, .of hbx3, atI_nat hbl, .inl ⟨rfl, xs, .of hbl3⟩, vc, rfl, bl, xs, vc, rfl, rfl, hbl3, Nat.lt_of_lt_of_le hlx (by decide), ?_⟩⟩
      have g4 : Chg T [bl] H3 (upd H3 bl (.lst (xs ++ [vc]))) := Chg.lst hbl3 List.mem_cons_self
      have iN4 := iN'.chg g4 (by simpa using Ne.symm nbl)
      have hbl4 : upd H3 bl (.lst (xs ++ [vc])) bl = some (.lst (xs ++ [vc])) := upd_same
      generalize upd H3 bl (.lst (xs ++ [vc])) = H4 at g4 iN4 hbl4
      have G4 : Chg T [bl, la] H H4 := (E2.chg.trans (g3.mono (by simp))).trans (g4.mono (by simp))
      have G14 : Chg T [bl, la] H1 H4 := (e2.chg.trans (g3.mono (by simp))).trans (g4.mono (by simp))
      obtain ⟨xf, hfa, _⟩ := W.far_
      have W4 : WAt P w H4 a r (.ref pv) s0 := W1.chg G14 (by
          intro h
          rcases List.mem_cons.mp h with e | e
          · have := W.at_; rw [e, hxs] at this; cases this
          · have e' : a.W = la := by simpa using e
            obtain ⟨_, h0, _⟩ := id iL
            have := W.at_; rw [e', h0] at this; cases this) (by
          intro h
          rcases List.mem_cons.mp h with e | e
          · exact nfa e.symm
          · have e' : a.fa = la := by simpa using e
            obtain ⟨_, h0, _⟩ := id iL
            rw [e', h0] at hfa; cases hfa) (by
          intro h
          rcases List.mem_cons.mp h with e | e
          · obtain ⟨_, h0, _⟩ := id W.numbered_
            rw [e, hxs] at h0; cases h0
          · exact nnb (by simpa using Eq.symm (List.mem_singleton.mp e))) (by
          intro h
          rcases List.mem_cons.mp h with e | e
          · obtain ⟨_, h0, _⟩ := id W.letters_
            rw [e, hxs] at h0; cases h0
          · exact nlt (by simpa using Eq.symm (List.mem_singleton.mp e))) (by
          intro h
          rcases List.mem_cons.mp h with e | e
          · exact nba e.symm
          · have e' : a.la = la := by simpa using e
            obtain ⟨_, h0, _⟩ := W.lanes_
            obtain ⟨_, h1, _⟩ := id iL
            rw [e', h1] at h0; cases h0)
      have T4 := G4.tabs hT
      obtain ⟨sh1, sh2, nl1, nl2, hev⟩ := gEq_data heq
      refine ⟨.ref a.W, rfl, a.W, _, rfl, wgMemory W4, _, place, T4, env _ G14.tups, rfl, fun v6 H6 e6 i6 => ⟨[s0.memory, place], wd, .cons (e6.is W4.memory) (.cons i6 .nil), e6.tabs T4, rfl, hw, fun v7 H7 e7 i7 => ?_⟩⟩
      have E7 := e6.trans e7
      have W7 := W4.ext E7
      refine ⟨.ref a.W, rfl, a.W, _, rfl, wgLt W7, _, .tuple [t, .int n], E7.tabs T4, env _ (G14.tups.trans E7.tups), rfl, fun v8 H8 e8 i8 => ?_⟩
      obtain ⟨kb, xk, rfl, hkb, hxk⟩ := id i8.tupE
      have ik : Is H8 (.ref kb) (NestedKey.tup [tk t, .num n]).data := by
        show Is H8 (.ref kb) (.tuple [(tk t).data, .int n])
        rw [talk_data ht]
        exact i8
      refine ⟨a.lt, s0.letters, kb, .tup [tk t, .num n], wd', rfl, rfl, (W7.ext e8).letters_, ik, ?_, hw', fun v9 i9 => ⟨wd, wd', Is.dp _ _ (e8.is i7) nl1, Is.dp _ _ i9 nl2, sh1, sh2, ?_⟩⟩
      · have := (talk_ok t ht).2.2
        show max (tk t).depth (max 0 0) + 1 ≤ 8
        omega
      · rw [hev]
        exact q H8 vc (G4.ext (E7.trans e8)) ((E7.trans e8).keep bl _ hbl4 (fun ps z => by cases z)) ((E7.trans e8).is (ic.mono G14.tups)) (iN4.chg (S := []) ((E7.trans e8).chg (S := [])) (by simp)) ⟨_, _, W4.ext (E7.trans e8)⟩
end
end CR
/-! CrLv -/
set_option maxHeartbeats 4000000
namespace CR
open PySem PySem.Spec L2
open PyProof.Rows hiding St
/-! ### the law's own lists -/
structure LS where
  s : WS
  last : List (NK × D)
  gone : List D
  posted : List D
  boxes : List (List D)
inductive Ev (st : LS) : D → LS → Prop
  | posted (half k p a n : D) : st.posted.length < 900 → Ev st (.tuple [.str "posted", half, k, .tuple [p, a, n]]) { st with posted := st.posted ++ [.tuple [p, a]] }
  | missed (half t n why : D) : st.gone.length < 900 → Ev st (.tuple [.str "missed", half, t, n, why]) { st with gone := st.gone ++ [.tuple [t, n]] }
  | filled (half : D) (k : Nat) (t : D) (n : Int) (box : List D) (p a m ck : D) (xs : List D) : SeqAt.shaped (.list st.gone) = true → noLs st.gone = true → (st.gone.any fun z => PyData.eqv z (.tuple [t, .int n])) = false →
      IsF st.s st.last k t n box (.tuple [t, .int n, .tuple [p, a, m], ck]) → st.boxes[k]? = some xs → xs.length < 900 → st.last.length < 900 → SeqAt.shaped (.list st.posted) = true → noLs st.posted = true → SeqAt.shaped (.tuple [p, a]) = true → noL (.tuple [p, a]) = true →
      (st.posted.any fun z => PyData.eqv z (.tuple [p, a])) = true → Ev st (.tuple [.str "filled", half, .int (k : Nat), t, .int n]) { st with last := dset st.last (tk t) (.int n), boxes := st.boxes.set k (xs ++ [.tuple [t, .int n, .tuple [p, a, m], ck]]) }
  | took (half : D) (k : Nat) (c words : D) (xs : List D) : st.boxes[k]? = some (c :: xs) → SeqAt.shaped (.list [c]) = true → noL c = true → Ev st (.tuple [.str "took", half, .int (k : Nat), c, words]) { st with boxes := st.boxes.set k xs }
  | other (u : Str) (r : List D) : SeqAt.shaped (.str u) = true → PyData.eqv (.str u) (.str "posted") = false → PyData.eqv (.str u) (.str "missed") = false → PyData.eqv (.str u) (.str "filled") = false → PyData.eqv (.str u) (.str "took") = false → Ev st (.tuple (.str u :: r)) st
def Evs : LS → List D → LS → Prop
  | st, [], st' => st = st'
  | st, e :: es, st' => ∃ st1, Ev st e st1 ∧ Evs st1 es st'
theorem Ev.len {st st' : LS} {e : D} (h : Ev st e st') : st'.boxes.length = st.boxes.length ∧ st'.s = st.s := by
  cases h <;> simp
/-- the boxes are the lanes' own -/
structure CmpOk (st : LS) : Prop where
  ex : ∃ vs lanes, st.s.value = .tuple vs ∧ vs[1]? = some (.tuple lanes) ∧ lanes.length = st.boxes.length ∧ ∀ (k : Nat) (ds : List D), st.boxes[k]? = some ds → ∃ own, lanes[k]? = some (.tuple own) ∧ own[5]? = some (.tuple ds)
  sh : SeqAt.shaped (.list (st.boxes.map PyData.tuple)) = true
  no : noLs (st.boxes.map PyData.tuple) = true
  sz : ∀ ds ∈ st.boxes, ds.length < 900
structure Sized (st : LS) : Prop where
  nums : NumsOk st.s.numbered
  nl : st.s.numbered.length < 900
  ll : st.s.letters.length < 900
  fl : st.s.far.length ≤ 900
  fine : ∀ d ∈ st.s.far, PieceFine d
  n1 : 1 ≤ st.s.n
  n2 : st.s.n ≤ 2
  bn : st.boxes.length = st.s.n
def R7 : D := .tuple [.str "ann", .str "ann", .str "ann", .str "ann", .str "ann", .str "ann", .str "ann", .str "bob"]
structure Plain (LI : Nat → LS → Prop) : Prop where
  start : ∀ (s : WS) pu n wide, (1 ≤ n ∧ n ≤ 2 ∧ wide ∈ [(4 : Int), 2, 1, 8]) → pu ∈ PURSES → s.clock = 0 ∧ s.era = 0 ∧ s.value = val0 n wide pu ∧ s.memory = mem0 ∧ s.far = [] ∧ s.numbered = [] ∧ s.letters = [] ∧ s.n = n → s.rights = R7 → LI 0 ⟨s, [], [], [], List.replicate n []⟩
  sized : ∀ i st, LI i st → Sized st
  step : ∀ i st s1 d, i < 56 → LI i st → AStep st.s s1 d → ∃ s2 evs st', DRes s1 d s2 (.tuple evs) ∧ Evs { st with s := s2 } evs st' ∧ CmpOk st' ∧ LI (i + 1) st'
/-! the heap -/
structure LA where
  F : Addr
  c : Addr
  me : Addr
  bx : Addr
  la : Addr
  ga : Addr
  pa : Addr
  a : Wa
  bls : List Addr
def LA.all (A : LA) : List Addr := [A.F, A.a.W, A.a.fa, A.a.nb, A.a.lt, A.a.la, A.c, A.me, A.bx, A.la, A.ga, A.pa] ++ A.bls
structure LH (P : Program) (w : World) (T : List (Addr × Str)) (ns : List Int) (H : Hp) (A : LA) (st : LS) : Prop where
  feed : Feed H A.F A.c ns
  tabs : LamX.Tabs T H
  wok : WOk P w H A.a st.s
  menu : H A.me = some (.lst (MENU.map V.str))
  bx_ : H A.bx = some (.lst (A.bls.map V.ref))
  bl_ : ∀ (k : Nat) (bl : Addr), A.bls[k]? = some bl → ∃ xs ds, H bl = some (.lst xs) ∧ IsAll H xs ds ∧ st.boxes[k]? = some ds
  len : A.bls.length = st.boxes.length
  last : IsN P w H A.la st.last
  gone : ∃ xs, H A.ga = some (.lst xs) ∧ IsAll H xs st.gone
  post : ∃ xs, H A.pa = some (.lst xs) ∧ IsAll H xs st.posted
  nd : A.all.Nodup
section
variable {P : Program} {w : World} {T : List (Addr × Str)} {ns : List Int} {H H' : Hp} {A : LA} {st : LS}
theorem LA.ne {A : LA} (h : A.all.Nodup) {i j : Nat} {x y : Addr} (hij : i ≠ j) (hx : A.all[i]? = some x) (hy : A.all[j]? = some y) : x ≠ y := fun e => by
  subst e
  obtain ⟨hi, ei⟩ := List.getElem?_eq_some_iff.mp hx
  obtain ⟨hj, ej⟩ := List.getElem?_eq_some_iff.mp hy
  rcases Nat.lt_or_gt_of_ne hij with hl | hl
  · exact (List.pairwise_iff_getElem.mp h) i j hi hj hl (ei.trans ej.symm)
  · exact (List.pairwise_iff_getElem.mp h) j i hj hi hl (ej.trans ei.symm)
theorem LA.bl {A : LA} {k : Nat} {bl : Addr} (h : A.bls[k]? = some bl) : A.all[12 + k]? = some bl := by
  unfold LA.all
  rw [List.getElem?_append_right (by simp)]
  simpa using h
/-- what is not written stays -/
theorem LH.chg {S : List Addr} (L : LH P w T ns H A st) (g : Chg T S H H') {s' : WS} (hw : WOk P w H' A.a s') (hf : Feed H' A.F A.c ns) (hS : ∀ i, i ∈ [7, 8, 9, 10, 11] → ∀ x, A.all[i]? = some x → x ∉ S) (hb : ∀ bl ∈ A.bls, bl ∉ S) : LH P w T ns H' A { st with s := s' } :=
  { feed := hf, tabs := g.tabs L.tabs, wok := hw
    menu := g.keep _ _ L.menu (hS 7 (by decide) _ rfl) (fun ps z => by cases z), bx_ := g.keep _ _ L.bx_ (hS 8 (by decide) _ rfl) (fun ps z => by cases z)
    bl_ := fun k bl h => by
      obtain ⟨xs, ds, h1, h2, h3⟩ := L.bl_ k bl h
      exact ⟨xs, ds, g.keep _ _ h1 (hb bl (List.mem_of_getElem? h)) (fun ps z => by cases z), g.all h2, h3⟩
    len := L.len, last := L.last.chg g (hS 9 (by decide) _ rfl)
    gone := by
      obtain ⟨xs, h1, h2⟩ := L.gone
      exact ⟨xs, g.keep _ _ h1 (hS 10 (by decide) _ rfl) (fun ps z => by cases z), g.all h2⟩
    post := by
      obtain ⟨xs, h1, h2⟩ := L.post
      exact ⟨xs, g.keep _ _ h1 (hS 11 (by decide) _ rfl) (fun ps z => by cases z), g.all h2⟩
    nd := L.nd }
theorem WOk.ext {a : Wa} {s : WS} (W : WOk P w H a s) (e : Ext T H H') : WOk P w H' a s := by
  obtain ⟨r, v, W⟩ := W
  exact ⟨r, v, W.ext e⟩
theorem LH.ext (L : LH P w T ns H A st) (e : Ext T H H') : LH P w T ns H' A st := L.chg (S := []) e.chg (L.wok.ext e) (L.feed.ext (T := T) e) (fun _ _ _ _ => by simp) (fun _ _ => by simp)
theorem WOk.lst {a : Wa} {s : WS} {x : Addr} (W : WOk P w H a s) (g : Chg T [x] H H') {xs : List V} (h : H x = some (.lst xs)) (h1 : a.fa ≠ x) (h2 : a.la ≠ x) : WOk P w H' a s := by
  obtain ⟨r, v, W⟩ := W
  refine ⟨r, v, W.chg g ?_ (by simpa using h1) ?_ ?_ (by simpa using h2)⟩
  · intro e
    have e' : a.W = x := by simpa using e
    have := W.at_
    rw [e', h] at this; cases this
  · intro e
    have e' : a.nb = x := by simpa using e
    obtain ⟨_, h0, _⟩ := id W.numbered_
    rw [e', h] at h0; cases h0
  · intro e
    have e' : a.lt = x := by simpa using e
    obtain ⟨_, h0, _⟩ := id W.letters_
    rw [e', h] at h0; cases h0
theorem LH.setG (L : LH P w T ns H A st) {xs : List V} {v : V} {d : D} (h : H A.ga = some (.lst xs)) (hx : IsAll H xs st.gone) (hv : Is H v d) : LH P w T ns (upd H A.ga (.lst (xs ++ [v]))) A { st with gone := st.gone ++ [d] } := by
  have g : Chg T [A.ga] H (upd H A.ga (.lst (xs ++ [v]))) := Chg.lst h List.mem_cons_self
  have ne : ∀ i x, i ≠ 10 → A.all[i]? = some x → x ∉ [A.ga] := fun i x hi hx => by simpa using LA.ne L.nd (j := 10) hi hx rfl
  exact { feed := L.feed.chg g (ne 0 _ (by decide) rfl) (ne 6 _ (by decide) rfl), tabs := g.tabs L.tabs, wok := L.wok.lst g h (LA.ne L.nd (i := 2) (j := 10) (by decide) rfl rfl) (LA.ne L.nd (i := 5) (j := 10) (by decide) rfl rfl)
          menu := g.keep _ _ L.menu (ne 7 _ (by decide) rfl) (fun ps z => by cases z), bx_ := g.keep _ _ L.bx_ (ne 8 _ (by decide) rfl) (fun ps z => by cases z)
          bl_ := fun k bl hk => by
            obtain ⟨xs, ds, h1, h2, h3⟩ := L.bl_ k bl hk
            exact ⟨xs, ds, g.keep _ _ h1 (ne (12 + k) _ (by omega) (LA.bl hk)) (fun ps z => by cases z), g.all h2, h3⟩
          len := L.len, last := L.last.chg g (ne 9 _ (by decide) rfl)
          gone := ⟨_, upd_same, g.all (hx.append (.cons hv .nil))⟩
          post := by
            obtain ⟨xs, h1, h2⟩ := L.post
            exact ⟨xs, g.keep _ _ h1 (ne 11 _ (by decide) rfl) (fun ps z => by cases z), g.all h2⟩
          nd := L.nd }
theorem LH.setP (L : LH P w T ns H A st) {xs : List V} {v : V} {d : D} (h : H A.pa = some (.lst xs)) (hx : IsAll H xs st.posted) (hv : Is H v d) : LH P w T ns (upd H A.pa (.lst (xs ++ [v]))) A { st with posted := st.posted ++ [d] } := by
  have g : Chg T [A.pa] H (upd H A.pa (.lst (xs ++ [v]))) := Chg.lst h List.mem_cons_self
  have ne : ∀ i x, i ≠ 11 → A.all[i]? = some x → x ∉ [A.pa] := fun i x hi hx => by simpa using LA.ne L.nd (j := 11) hi hx rfl
  exact { feed := L.feed.chg g (ne 0 _ (by decide) rfl) (ne 6 _ (by decide) rfl), tabs := g.tabs L.tabs, wok := L.wok.lst g h (LA.ne L.nd (i := 2) (j := 11) (by decide) rfl rfl) (LA.ne L.nd (i := 5) (j := 11) (by decide) rfl rfl)
          menu := g.keep _ _ L.menu (ne 7 _ (by decide) rfl) (fun ps z => by cases z), bx_ := g.keep _ _ L.bx_ (ne 8 _ (by decide) rfl) (fun ps z => by cases z)
          bl_ := fun k bl hk => by
            obtain ⟨xs, ds, h1, h2, h3⟩ := L.bl_ k bl hk
            exact ⟨xs, ds, g.keep _ _ h1 (ne (12 + k) _ (by omega) (LA.bl hk)) (fun ps z => by cases z), g.all h2, h3⟩
          len := L.len, last := L.last.chg g (ne 9 _ (by decide) rfl)
          gone := by
            obtain ⟨xs, h1, h2⟩ := L.gone
            exact ⟨xs, g.keep _ _ h1 (ne 10 _ (by decide) rfl) (fun ps z => by cases z), g.all h2⟩
          post := ⟨_, upd_same, g.all (hx.append (.cons hv .nil))⟩
          nd := L.nd }
/-- a box (and the last numbers) are written -/
theorem LH.setB (L : LH P w T ns H A st) {k : Nat} {bl : Addr} {S : List Addr} {ys : List V} {es : List D} {last' : List (NK × D)} (hk : A.bls[k]? = some bl) (g : Chg T S H H') (hS : ∀ x ∈ S, x = bl ∨ x = A.la) (hw : WOk P w H' A.a st.s) (h : H' bl = some (.lst ys)) (hx : IsAll H' ys es) (hl : IsN P w H' A.la last') :
    LH P w T ns H' A { st with last := last', boxes := st.boxes.set k es } := by
  have ne : ∀ i x, i ≠ 9 → i ≠ 12 + k → A.all[i]? = some x → x ∉ S := fun i x h9 hi hx hm => by
    rcases hS x hm with e | e
    · exact LA.ne L.nd hi hx (LA.bl hk) e
    · exact LA.ne L.nd (j := 9) h9 hx rfl e
  exact { feed := L.feed.chg g (ne 0 _ (by decide) (by omega) rfl) (ne 6 _ (by decide) (by omega) rfl), tabs := g.tabs L.tabs, wok := hw
          menu := g.keep _ _ L.menu (ne 7 _ (by decide) (by omega) rfl) (fun ps z => by cases z), bx_ := g.keep _ _ L.bx_ (ne 8 _ (by decide) (by omega) rfl) (fun ps z => by cases z)
          bl_ := fun j b hj => by
            by_cases e : j = k
            · subst e
              rw [hk] at hj
              cases hj
              have hlt : j < st.boxes.length := by
                rw [← L.len]
                exact (List.getElem?_eq_some_iff.mp hk).1
              exact ⟨ys, es, h, hx, by simp [hlt]⟩
            · obtain ⟨xs, ds, h1, h2, h3⟩ := L.bl_ j b hj
              exact ⟨xs, ds, g.keep _ _ h1 (ne (12 + j) _ (by omega) (by omega) (LA.bl hj)) (fun ps z => by cases z), g.all h2, by
                show (st.boxes.set k es)[j]? = some ds
                rw [List.getElem?_set_ne (fun z => e z.symm)]
                exact h3⟩
          len := by
            show A.bls.length = (st.boxes.set k es).length
            rw [List.length_set]
            exact L.len
          last := hl
          gone := by
            obtain ⟨xs, h1, h2⟩ := L.gone
            exact ⟨xs, g.keep _ _ h1 (ne 10 _ (by decide) (by omega) rfl) (fun ps z => by cases z), g.all h2⟩
          post := by
            obtain ⟨xs, h1, h2⟩ := L.post
            exact ⟨xs, g.keep _ _ h1 (ne 11 _ (by decide) (by omega) rfl) (fun ps z => by cases z), g.all h2⟩
          nd := L.nd }
end
end CR
/-! CrLw -/
set_option maxHeartbeats 4000000
namespace CR
open PySem PySem.Spec L2
open PyProof.Rows hiding St
/-! ### the law -/
theorem nodup_app {l m : List Addr} (h1 : l.Nodup) (h2 : m.Nodup) (h3 : ∀ x ∈ l, x ∉ m) : (l ++ m).Nodup := List.nodup_append.mpr ⟨h1, h2, fun x hx y hy e => h3 x hx (e ▸ hy)⟩
theorem upd_none {H : Hp} {p x : Addr} {o : HO} (h : upd H p o x = none) : H x = none ∧ x ≠ p := by
  by_cases e : x = p
  · rw [e, upd_same] at h; cases h
  · rw [upd_ne e] at h; exact ⟨h, e⟩
theorem gIx_head {x : D} {r : List D} : gIx (.tuple (x :: r)) (.int 0) = some x := atI_nat (j := 0) rfl
theorem ev_tst {u x : Str} {r : List D} {b : Bool} (h : gEq (.str u) (.str x) = some (.bool b)) : tOf (eBin gEq (eBin gIx (eVar 11) (eC (.int 0))) (eC (.str x))) [none, none, none, none, none, none, none, none, none, none, none, some (.tuple (.str u :: r)), none, none, none] = some b := by
  show (((gIx (.tuple (.str u :: r)) (.int 0)).bind fun a => gEq a (.str x))).bind bOf = some b
  rw [gIx_head]
  show (gEq (.str u) (.str x)).bind bOf = some b
  rw [h]
  rfl
def rTupOf (K : PySem.W.Frag) : List V → Hp → VK → Prop := fun xs H Q => ∃ p ys, xs = [V.ref p] ∧ ((SqL K H p ys ∧ ∀ (l : Addr), H l = none → Q (V.ref l) (upd H l (HO.tup ys))) ∨ SqT K H p ys ∧ Q (V.ref p) H)
theorem call_tupOf {X : Cx} : CallR X (.type "tuple") (rTupOf X.K) := call_tuple_of
section
variable {P : Program} {w : World} {K : PySem.W.Frag} {mg : Str → Option Value} {base : Heap} {T : List (Addr × Str)}
abbrev N_law : List Str := ["_law_script", "_law_feed_here", "_law_menu", "_law_turn", "_law_boxes", "_law_lap", "_law_world_here", "_law_last", "_law_gone", "_law_posted", "_law_act_here", "_law_event", "_law_k", "_law_box", "_law_lane_here"]
theorem sc_law : FnScope N_law ["_law_script"] (defScope s_law) := ⟨rfl, rfl, rfl, by decide +kernel, rfl, by decide +kernel, by decide +kernel⟩
def spLaw (K : PySem.W.Frag) (T : List (Addr × Str)) : Sp := fun vs H Q _ => ∃ (a : Addr) (ns : List Int), vs = [.ref a] ∧ SqL K H a (ns.map V.int) ∧ ns.length ≤ 63 ∧ LamX.Tabs T H ∧ ∀ H', Q (.bl true) H'
theorem ok_law {kws : List (Str × V)} {f : Addr} {fd : FuncData} (C : Tc mg) (c__law_feed : PLn P w K mg base 1 "_law_feed" (spFeed K T)) (c__law_by_program : PLn P w K mg base 5 "_law_by_program" (spByProgram P w T)) (c__law_act : PLn P w K mg base 6 "_law_act" (spAct P w T)) (c__law_done : PLn P w K mg base 10 "_law_done" (spDone P w T)) (c__law_is_filled : PLn P w K mg base 3 "_law_is_filled" (spFilled P w T))
    {LI : Nat → LS → Prop} (PL : Plain LI) (Fd : FnP K mg "law" s_law kws f fd) : FnOk P w K mg base L2.CX0 11 f fd ["_law_script"] (spLaw K T) :=
  Fd.1.ok sc_law (fun vs H Q E ⟨_, _, h, _⟩ => by rw [h]; rfl) fun cdv A outer s H vs Q E hr h => by
    obtain ⟨sa, ns, rfl, hsq, hln, hT, q⟩ := h
    have hnd := sc_law.nd
    have hu := hr.units
    have hu1 : (A.deeper (envOfC (Str.ofString "law") (defScope s_law) s.heap.objs.size f cdv)).units + 1 < cLine := by omega
    have hu65 : (A.deeper (envOfC (Str.ofString "law") (defScope s_law) s.heap.objs.size f cdv)).units + 65 < cLine := by
      have := hr.un
      omega
    refine ⟨_, pss_cons (ps_set (i := 1) hnd rfl (by first | exact Or.inl rfl | exact Or.inr rfl) (pe_cl c__law_feed hr (by decide) (pa_cons (rv 0) (pa_nil)))) (pss_cons (ps_set (i := 2) hnd rfl (by first | exact Or.inl rfl | exact Or.inr rfl) (pe_lst (pa_cons (pe_str) (pa_cons (pe_str) (pa_cons (pe_str) (pa_cons (pe_str) (pa_cons (pe_str) (pa_cons (pe_str) (pa_cons (pe_str) (pa_cons (pe_str) (pa_cons (pe_str) (pa_cons (pe_str) (pa_cons (pe_str) (pa_cons (pe_str) (pa_cons (pe_str) (pa_nil)))))))))))))))) (pss_cons (ps_for (passes_of rfl) rfl (pi_range1 rfl C.n_range (pa_cons (pe_int) (pa_nil))) (pg_name (i := 3) hnd rfl (by first | exact Or.inl rfl | exact Or.inr rfl)) (pss_cons (ps_asg (pe_tup (pa_cons (pe_cl c__law_by_program hr (by decide) (pa_cons (rv 1) (pa_nil))) (pa_cons (pe_dnewN) (pa_cons (pe_lst (pa_nil)) (pa_cons (pe_lst (pa_nil)) (pa_nil)))))) (pg_tup rfl (pgs_cons (pg_name (i := 6) hnd rfl (by first | exact Or.inl rfl | exact Or.inr rfl)) (pgs_cons (pg_name (i := 7) hnd rfl (by first | exact Or.inl rfl | exact Or.inr rfl)) (pgs_cons (pg_name (i := 8) hnd rfl (by first | exact Or.inl rfl | exact Or.inr rfl)) (pgs_cons (pg_name (i := 9) hnd rfl (by first | exact Or.inl rfl | exact Or.inr rfl)) (pgs_nil))))))) (pss_cons (ps_dput hu1 (rv 6) pe_str (dE (T := T) (de_bin op_addAny od_add (de_bin op_repAny od_rep (de_tup (da_cons (de_str) (da_nil))) (de_int)) (de_tup (da_cons (de_str) (da_nil))))) rfl) (pss_cons (ps_setLc (own := [("_law_k", 12)]) (g := gName 12) (tt := tYes) (i := 4) rfl hnd rfl rfl rfl (pi_range1 rfl C.n_range (pa_cons (pe_callB call_len_seq rfl C.n_len PySem.boot_len (pa_cons (pe_dget hu1 (rv 6) pe_str (fun _ _ => rfl)) (pa_nil))) (pa_nil))) (blkOk_by (own := [("_law_k", 12)]) (N := N_law) (sc := defScope s_law) (by decide +kernel)) (fun _ _ _ _ _ => pg_name (i := 12) hnd rfl (Or.inl rfl)) (fun _ _ _ _ _ => pts_nil) (fun _ _ _ _ _ => pe_lst (pa_nil))) (pss_one (ps_for (passes_of rfl) rfl (pi_range1 rfl C.n_range (pa_cons (pe_int) (pa_nil))) (pg_name (i := 5) hnd rfl (by first | exact Or.inl rfl | exact Or.inr rfl)) (pss_cons (ps_set (i := 10) hnd rfl (by first | exact Or.inl rfl | exact Or.inr rfl) (pe_cl c__law_act hr (by decide) (pa_cons (rv 1) (pa_cons (rv 6) (pa_cons (rv 2) (pa_nil)))))) (pss_cons (ps_for (passes_of rfl) rfl (pi_tup (pe_cl c__law_done hr (by decide) (pa_cons (rv 6) (pa_cons (rv 10) (pa_nil))))) (pg_name (i := 11) hnd rfl (by first | exact Or.inl rfl | exact Or.inr rfl)) (pss_cons (ps_if (dT (T := T) (dt_cmp (op_eqD hr.units) od_eq (de_ix (dv 11) (de_int) (fun _ _ => rfl)) (de_str) (nomark _))) (pss_one (ps_expr (pe_bm PySem.F.plainAttrs_list PySem.F.slot_list_append PySem.F.type_list_append mt_append (rv 9) (pa_cons (dE (T := T) (de_sl (de_ix (dv 11) (de_int) (fun _ _ => rfl)) (do_none) (do_some (de_int)))) (pa_nil))))) (pss_nil)) (pss_cons (ps_if (dT (T := T) (dt_cmp (op_eqD hr.units) od_eq (de_ix (dv 11) (de_int) (fun _ _ => rfl)) (de_str) (nomark _))) (pss_one (ps_expr (pe_bm PySem.F.plainAttrs_list PySem.F.slot_list_append PySem.F.type_list_append mt_append (rv 8) (pa_cons (dE (T := T) (de_sl (dv 11) (do_some (de_int)) (do_some (de_int)))) (pa_nil))))) (pss_nil)) (pss_cons (ps_if (dT (T := T) (dt_cmp (op_eqD hr.units) od_eq (de_ix (dv 11) (de_int) (fun _ _ => rfl)) (de_str) (nomark _))) (pss_cons (ps_if (PW.pt (pw_or (pt_cmpR (op_inD hu65) (dE (T := T) (de_sl (dv 11) (do_some (de_int)) (do_some (de_int)))) (rv 8) (by rfl)) (pw_or1 (pt_not (pt_val (pe_cl c__law_is_filled hr (by decide) (pa_cons (rv 6) (pa_cons (rv 11) (pa_cons (rv 4) (pa_cons (rv 7) (pa_nil))))))))))) (pss_one (ps_ret (pe_bl))) (pss_nil)) (pss_one (ps_if (pt_cmpR (op_notInD hu65) (pe_slice sl_tup (pe_ix (r := rIx K) ix_seq (pe_ix (r := rIx K) ix_seq (pe_ix (r := rIx K) ix_seq (rv 4) (dE (T := T) (de_ix (dv 11) (de_int) (fun _ _ => rfl))) (fun _ _ => rfl)) (pe_un un_neg (pe_int)) (fun _ _ => rfl)) (pe_int) (fun _ _ => rfl)) (po_none) (po_some (pe_int))) (rv 9) (by rfl)) (pss_one (ps_ret (pe_bl))) (pss_nil)))) (pss_nil)) (pss_cons (ps_if (PW.pt (pw_and (dT (T := T) (dt_cmp (op_eqD hr.units) od_eq (de_ix (dv 11) (de_int) (fun _ _ => rfl)) (de_str) (nomark _))) (pw_and1 (pt_cmpR (op_neD hu) (pe_slice sl_list (pe_ix (r := rIx K) ix_seq (rv 4) (dE (T := T) (de_ix (dv 11) (de_int) (fun _ _ => rfl))) (fun _ _ => rfl)) (po_none) (po_some (pe_int))) (pe_lst (pa_cons (dE (T := T) (de_ix (dv 11) (de_int) (fun _ _ => rfl))) (pa_nil))) (nomark _))))) (pss_one (ps_ret (pe_bl))) (pss_nil)) (pss_one (ps_if (dT (T := T) (dt_cmp (op_eqD hr.units) od_eq (de_ix (dv 11) (de_int) (fun _ _ => rfl)) (de_str) (nomark _))) (pss_one (ps_expr (pe_bm PySem.F.plainAttrs_list PySem.F.slot_list_pop PySem.F.type_list_pop mt_popAt (pe_ix (r := rIx K) ix_seq (rv 4) (dE (T := T) (de_ix (dv 11) (de_int) (fun _ _ => rfl))) (fun _ _ => rfl)) (pa_cons (pe_int) (pa_nil))))) (pss_nil)))))))) (pss_one (ps_if (pt_cmpR (op_neD hu) (pe_lc (own := [("_law_box", 13)]) (g := gName 13) (tt := tYes) rfl hnd (pi_list (rv 4)) (blkOk_by (own := [("_law_box", 13)]) (N := N_law) (sc := defScope s_law) (by decide +kernel)) (fun _ _ _ _ _ => pg_name (i := 13) hnd rfl (Or.inl rfl)) (fun _ _ _ _ _ => pts_nil) (fun _ _ _ _ _ => pe_callTy (T := "tuple") (r := rTupOf K) call_tupOf rfl C.n_tuple (by decide +kernel) (pa_cons (rv 13) (pa_nil)))) (pe_lc (own := [("_law_lane_here", 14)]) (g := gName 14) (tt := tYes) rfl hnd (pi_tup (pe_ix (r := rIx K) ix_seq (pe_dget hu1 (rv 6) pe_str (fun _ _ => rfl)) (pe_int) (fun _ _ => rfl))) (blkOk_by (own := [("_law_lane_here", 14)]) (N := N_law) (sc := defScope s_law) (by decide +kernel)) (fun _ _ _ _ _ => pg_name (i := 14) hnd rfl (Or.inl rfl)) (fun _ _ _ _ _ => pts_nil) (fun _ _ _ _ _ => pe_ix (r := rIx K) ix_seq (rv 14) (pe_int) (fun _ _ => rfl))) (nomark _)) (pss_one (ps_ret (pe_bl))) (pss_nil))))))))))) (pss_one (ps_ret (pe_bl))))), ?_⟩
    refine ⟨.ref sa, rfl, sa, ns, rfl, hsq, hln, hT, fun F c H1 e1 hF => ?_⟩
    have T1 := e1.tabs hT
    refine ⟨line15 (show 13 ≤ 1000 by decide), fun me hme => ?_⟩
    have ncm : c ≠ me := fun e => by
      obtain ⟨_, _, _, _, h⟩ := id hF
      rw [e, hme] at h; cases h
    have e2 : Ext T H1 (upd H1 me (.lst (MENU.map V.str))) := .new hme
    have hm2 : upd H1 me (.lst (MENU.map V.str)) me = some (.lst (MENU.map V.str)) := upd_same
    have hF2 := hF.ext (T := T) e2
    have T2 := e2.tabs T1
    show tSeq _ _ _ _ (upd H1 me (.lst (MENU.map V.str)))
    generalize upd H1 me (.lst (MENU.map V.str)) = H2 at e2 hm2 hF2 T2
    refine ⟨2, rfl, by decide, by decide, for_range (fun i σ H => (∃ x3 x4 x5 x6 x7 x8 x9 x10 x11 x12 x13 x14, σ = [some (.ref sa), some (.ref F), some (.ref me), x3, x4, x5, x6, x7, x8, x9, x10, x11, x12, x13, x14]) ∧ Feed H F c ns ∧ LamX.Tabs T H ∧ H me = some (.lst (MENU.map V.str))) ⟨⟨_, _, _, _, _, _, _, _, _, _, _, _, rfl⟩, hF2, T2, hm2⟩ (fun i σ H3 hi ⟨⟨x3, x4, x5, x6, x7, x8, x9, x10, x11, x12, x13, x14, eσ⟩, hF3, T3, hm3⟩ => ?_) (fun σ H3 ⟨⟨x3, x4, x5, x6, x7, x8, x9, x10, x11, x12, x13, x14, eσ⟩, _⟩ => q H3)⟩
    subst eσ
    refine ⟨.ref F, rfl, F, c, ns, rfl, hF3, T3, fun a r v H4 s0 pu n wide g4 hF4 fr hn hpu hs0 W4 => ?_⟩
    have T4 := g4.tabs T3
    refine fun la o hla iL hol => ⟨line15 (show 0 ≤ 1000 by decide), fun ga hga => ⟨line15 (show 0 ≤ 1000 by decide), fun pa hpa => ⟨line15 (show 4 ≤ 1000 by decide), fun tt htt => ?_⟩⟩⟩
    have e5 : Ext T H4 (upd H4 la o) := .new hla
    have e6 : Ext T (upd H4 la o) (upd (upd H4 la o) ga (.lst [])) := .new hga
    have e7 : Ext T (upd (upd H4 la o) ga (.lst [])) (upd (upd (upd H4 la o) ga (.lst [])) pa (.lst [])) := .new hpa
    have e8 : Ext T (upd (upd (upd H4 la o) ga (.lst [])) pa (.lst [])) (upd (upd (upd (upd H4 la o) ga (.lst [])) pa (.lst [])) tt (.tup [.ref a.W, .ref la, .ref ga, .ref pa])) := .new htt
    refine ⟨tt, _, rfl, .of upd_same, rfl, _, _, rfl, _, _, rfl, _, _, rfl, _, _, rfl, rfl, ?_⟩
    obtain ⟨xL, hLa, _⟩ := id iL
    have hga0 := (upd_none hga).1
    have hga1 := (upd_none hga).2
    have hpa0 := (upd_none (upd_none hpa).1).1
    have hpa1 := (upd_none (upd_none hpa).1).2
    have hpa2 := (upd_none hpa).2
    have E8 : Ext T H4 (upd (upd (upd (upd H4 la o) ga (.lst [])) pa (.lst [])) tt (.tup [.ref a.W, .ref la, .ref ga, .ref pa])) := ((e5.trans e6).trans e7).trans e8
    have hga8 := (e7.trans e8).keep ga _ upd_same (fun ps z => by cases z)
    have hpa8 := e8.keep pa _ upd_same (fun ps z => by cases z)
    have hla8 : (upd (upd (upd (upd H4 la o) ga (.lst [])) pa (.lst [])) tt (.tup [.ref a.W, .ref la, .ref ga, .ref pa])) la ≠ none := by
      have := ((e6.trans e7).trans e8).keep la _ upd_same hol
      rw [this]; simp
    have iL8 : IsN P w (upd (upd (upd (upd H4 la o) ga (.lst [])) pa (.lst [])) tt (.tup [.ref a.W, .ref la, .ref ga, .ref pa])) la [] := iL.chg (S := []) (((e6.trans e7).trans e8).chg (S := [])) (by simp)
    have W8 := W4.ext E8
    generalize upd (upd (upd (upd H4 la o) ga (.lst [])) pa (.lst [])) tt (.tup [.ref a.W, .ref la, .ref ga, .ref pa]) = H8 at E8 hga8 hpa8 hla8 iL8 W8
    have T8 := E8.tabs T4
    dsimp only
    -- rights
    refine ⟨_, R7, T8, EnvIs.blank H8 _, rfl, fun vr H9 e9 ir => ⟨.ref a.W, rfl, a.W, _, rfl, DPut.k (k := .inr "rights") (W8.ext e9).at_ wline, ?_⟩⟩
    have W9 := W8.ext e9
    have W10 : WAt P w (upd H9 a.W (.dK (putK (wl r v) (.inr "rights") vr))) a { r with rights := vr } v { s0 with rights := R7 } :=
      W9.put { r with rights := vr } v { s0 with rights := R7 } ⟨rfl, rfl, rfl, rfl, rfl⟩ ⟨rfl, rfl, rfl, rfl⟩ ir W9.clock W9.memory W9.era W9.most W9.wait W9.value
    have g10 : Chg T [a.W] H9 (upd H9 a.W (.dK (putK (wl r v) (.inr "rights") vr))) := Chg.dK W9.at_ List.mem_cons_self
    have hWs : ∀ x, H9 x ≠ none → (upd H9 a.W (.dK (putK (wl r v) (.inr "rights") vr))) x ≠ none := fun x hx => by
      by_cases e : x = a.W
      · rw [e, upd_same]; simp
      · rw [upd_ne e]; exact hx
    generalize upd H9 a.W (.dK (putK (wl r v) (.inr "rights") vr)) = Ha at W10 g10 hWs
    have Ta := g10.tabs (e9.tabs T8)
    obtain ⟨ls, hla10, hll⟩ := W10.lanes_
    -- boxes
    refine ⟨.ref a.W, rfl, a.W, _, rfl, wgLanes W10, a.la, ls, rfl, .inl (.of hla10), (ls.length : Nat), rfl, by rw [hll]; show -(2 ^ 62 : Int) ≤ ((s0.n : Nat) : Int); omega, by rw [hll, show ({ s0 with rights := R7 } : WS).n = s0.n from rfl, hs0.2.2.2.2.2.2.2]; omega, fun bx hbx => ?_⟩
    refine lc_range (lo := 0) (n := ls.length) (fun i H' => Chg T [] Ha H' ∧ ∃ bls : List Addr, bls.length = i ∧ H' bx = some (.lst (bls.map V.ref)) ∧ (∀ bl ∈ bls, Nw Ha bl ∧ bl ≠ bx ∧ H' bl = some (.lst [])) ∧ bls.Nodup) ⟨Ext.chg (.new hbx), [], rfl, upd_same, fun bl h => absurd h (by simp), List.nodup_nil⟩ (fun i H' hi2 ⟨g, bls, hl, hD, hb, hnd2⟩ => ?_) (fun Hb ⟨gb, bls, hl, hD, hb, hnd2⟩ => ?_)
    · refine ⟨rfl, ?_⟩
      simp only [tYes, if_true]
      refine ⟨line15 (show 0 ≤ 1000 by decide), fun p hp => ⟨bls.map V.ref, by rw [upd_ne (ne_of_none hD hp)]; exact hD, Nat.lt_of_lt_of_le (show (bls.map V.ref).length < 1000 by rw [List.length_map, hl]; have := hs0.2.2.2.2.2.2.2; have h2 : ls.length = s0.n := hll; omega) (line15 (Nat.le_refl _)), (g.ext (.new hp)).turn hbx (by rw [upd_ne (ne_of_none hD hp)]; exact hD), bls ++ [p], by simp [hl], by rw [upd_same]; simp, fun bl hbl => ?_, ?_⟩⟩
      · rcases List.mem_append.mp hbl with h | h
        · obtain ⟨h1, h2, h3⟩ := hb bl h
          refine ⟨h1, h2, ?_⟩
          rw [upd_ne h2, upd_ne (ne_of_none h3 hp)]
          exact h3
        · obtain rfl : bl = p := by simpa using h
          have hne : bl ≠ bx := fun e => by rw [e, hD] at hp; cases hp
          exact ⟨Nw.chg g (fun o h => by rw [hp] at h; cases h) (by simp), hne, by rw [upd_ne hne, upd_same]⟩
      · refine nodup_app hnd2 (by simp) fun x hx h => ?_
        obtain rfl : x = p := by simpa using h
        obtain ⟨_, _, h3⟩ := hb x hx
        rw [hp] at h3; cases h3
    dsimp only
    have hlen : bls.length = n := by rw [hl, hll]; exact hs0.2.2.2.2.2.2.2
    -- all the addresses differ
    obtain ⟨f1, f2, f3, hF3d, hF3c⟩ := id hF3
    obtain ⟨f4, f5, f6, hFd, hFc⟩ := id hF4
    have hWd := W4.at_
    obtain ⟨xfa, hfa4, _⟩ := W4.far_
    obtain ⟨xla, haa4, _⟩ := W4.lanes_
    obtain ⟨xnb, hnb4, _⟩ := id W4.numbered_
    obtain ⟨xlt, hlt4, _⟩ := id W4.letters_
    have nFm : me ≠ F := fun e => by rw [e, hF3d] at hm3; cases hm3
    have hm4 := g4.keep me _ hm3 (by simpa using nFm) (fun ps z => by cases z)
    have n8 : [F, a.W, a.fa, a.nb, a.lt, a.la, c, me].Nodup := by
      simp only [List.nodup_cons, List.mem_cons, List.mem_nil_iff, or_false, not_or, not_false_eq_true, List.nodup_nil, and_true]
      exact ⟨⟨(fun e => fr.W.ne hF3d (fun ps z => by cases z) e.symm), (fun e => by have h1 := hFd; rw [e] at h1; have h2 := h1.symm.trans hfa4; cases h2), (fun e => by have h1 := hFd; rw [e] at h1; have h2 := h1.symm.trans hnb4; cases h2), (fun e => by have h1 := hFd; rw [e] at h1; have h2 := h1.symm.trans hlt4; cases h2), (fun e => by have h1 := hFd; rw [e] at h1; have h2 := h1.symm.trans haa4; cases h2), (fun e => by have h1 := hFd; rw [e] at h1; have h2 := h1.symm.trans hFc; cases h2), (fun e => by have h1 := hFd; rw [e] at h1; have h2 := h1.symm.trans hm4; cases h2)⟩, ⟨(fun e => by have h1 := hWd; rw [e] at h1; have h2 := h1.symm.trans hfa4; cases h2), (fun e => by have h1 := hWd; rw [e] at h1; have h2 := h1.symm.trans hnb4; cases h2), (fun e => by have h1 := hWd; rw [e] at h1; have h2 := h1.symm.trans hlt4; cases h2), (fun e => by have h1 := hWd; rw [e] at h1; have h2 := h1.symm.trans haa4; cases h2), (fun e => by have h1 := hWd; rw [e] at h1; have h2 := h1.symm.trans hFc; cases h2), (fun e => by have h1 := hWd; rw [e] at h1; have h2 := h1.symm.trans hm4; cases h2)⟩, ⟨(fun e => by have h1 := hfa4; rw [e] at h1; have h2 := h1.symm.trans hnb4; cases h2), (fun e => by have h1 := hfa4; rw [e] at h1; have h2 := h1.symm.trans hlt4; cases h2), W4.ne1, fr.fa.ne hF3c (fun ps z => by cases z), fr.fa.ne hm3 (fun ps z => by cases z)⟩, ⟨W4.ne2, (fun e => by have h1 := hnb4; rw [e] at h1; have h2 := h1.symm.trans haa4; cases h2), (fun e => by have h1 := hnb4; rw [e] at h1; have h2 := h1.symm.trans hFc; cases h2), (fun e => by have h1 := hnb4; rw [e] at h1; have h2 := h1.symm.trans hm4; cases h2)⟩, ⟨(fun e => by have h1 := hlt4; rw [e] at h1; have h2 := h1.symm.trans haa4; cases h2), (fun e => by have h1 := hlt4; rw [e] at h1; have h2 := h1.symm.trans hFc; cases h2), (fun e => by have h1 := hlt4; rw [e] at h1; have h2 := h1.symm.trans hm4; cases h2)⟩, ⟨fr.la.ne hF3c (fun ps z => by cases z), fr.la.ne hm3 (fun ps z => by cases z)⟩, ncm⟩
    have ex : ∀ x, x ∈ [F, a.W, a.fa, a.nb, a.lt, a.la, c, me, la, ga, pa] → ∃ o, Ha x = some o ∧ ∀ ps, o ≠ .tbl ps := by
      have k1 : ∀ x o, H4 x = some o → (∀ ps, o ≠ .tbl ps) → x ≠ a.W → ∃ o, Ha x = some o ∧ ∀ ps, o ≠ .tbl ps := fun x o h t n => ⟨o, g10.keep x o ((E8.trans e9).keep x o h t) (by simpa using n) t, t⟩
      have k2 : ∀ x o, H8 x = some o → (∀ ps, o ≠ .tbl ps) → x ≠ a.W → ∃ o, Ha x = some o ∧ ∀ ps, o ≠ .tbl ps := fun x o h t n => ⟨o, g10.keep x o (e9.keep x o h t) (by simpa using n) t, t⟩
      have nw : ∀ x, H4 x = none → x ≠ a.W := fun x h e => by rw [e, hWd] at h; cases h
      have n8' := n8
      simp only [List.nodup_cons, List.mem_cons, List.mem_nil_iff, or_false, not_or, not_false_eq_true, List.nodup_nil, and_true] at n8'
      obtain ⟨⟨m1, _⟩, ⟨m2, m3, m4, m5, m6, m7⟩, _⟩ := n8'
      intro x hx
      simp only [List.mem_cons, List.mem_nil_iff, or_false] at hx
      rcases hx with rfl | rfl | rfl | rfl | rfl | rfl | rfl | rfl | rfl | rfl | rfl
      · exact k1 _ _ hFd (fun ps z => by cases z) m1
      · exact ⟨_, W10.at_, fun ps z => by cases z⟩
      · exact k1 _ _ hfa4 (fun ps z => by cases z) (Ne.symm m2)
      · exact k1 _ _ hnb4 (fun ps z => dN_tbl ps z) (Ne.symm m3)
      · exact k1 _ _ hlt4 (fun ps z => dN_tbl ps z) (Ne.symm m4)
      · exact k1 _ _ haa4 (fun ps z => by cases z) (Ne.symm m5)
      · exact k1 _ _ hFc (fun ps z => by cases z) (Ne.symm m6)
      · exact k1 _ _ hm4 (fun ps z => by cases z) (Ne.symm m7)
      · obtain ⟨xl8, hl8, _⟩ := id iL8
        exact k2 _ _ hl8 (fun ps z => dN_tbl ps z) (nw _ hla)
      · exact k2 _ _ hga8 (fun ps z => by cases z) (nw _ hga0)
      · exact k2 _ _ hpa8 (fun ps z => by cases z) (nw _ hpa0)
    have ex4 : ∀ x, x ∈ [F, a.W, a.fa, a.nb, a.lt, a.la, c, me] → H4 x ≠ none := by
      intro x hx
      simp only [List.mem_cons, List.mem_nil_iff, or_false] at hx
      rcases hx with rfl | rfl | rfl | rfl | rfl | rfl | rfl | rfl
      · rw [hFd]; simp
      · rw [hWd]; simp
      · rw [hfa4]; simp
      · rw [hnb4]; simp
      · rw [hlt4]; simp
      · rw [haa4]; simp
      · rw [hFc]; simp
      · rw [hm4]; simp
    have nbx : ∀ x, x ∈ [F, a.W, a.fa, a.nb, a.lt, a.la, c, me, la, ga, pa] → x ≠ bx := fun x hx e => by
      obtain ⟨o, h, _⟩ := ex x hx
      rw [e, hbx] at h; cases h
    have nbl : ∀ x, x ∈ [F, a.W, a.fa, a.nb, a.lt, a.la, c, me, la, ga, pa] → x ∉ bls := fun x hx hm => by
      obtain ⟨o, h, t⟩ := ex x hx
      exact (hb x hm).1.ne h t rfl
    have nd : (LA.mk F c me bx la ga pa a bls).all.Nodup := by
      show ([F, a.W, a.fa, a.nb, a.lt, a.la, c, me] ++ ([bx, la, ga, pa] ++ bls)).Nodup
      refine nodup_app n8 (nodup_app ?_ hnd2 ?_) ?_
      · simp only [List.nodup_cons, List.mem_cons, List.mem_nil_iff, or_false, not_or, not_false_eq_true, List.nodup_nil, and_true]
        exact ⟨⟨Ne.symm (nbx la (by simp)), Ne.symm (nbx ga (by simp)), Ne.symm (nbx pa (by simp))⟩, ⟨Ne.symm hga1, Ne.symm hpa1⟩, Ne.symm hpa2⟩
      · intro x hx hm
        simp only [List.mem_cons, List.mem_nil_iff, or_false] at hx
        rcases hx with rfl | rfl | rfl | rfl
        · exact (hb _ hm).2.1 rfl
        · exact nbl _ (by simp) hm
        · exact nbl _ (by simp) hm
        · exact nbl _ (by simp) hm
      · intro x hx hm
        have hx' : x ∈ [F, a.W, a.fa, a.nb, a.lt, a.la, c, me, la, ga, pa] := by
          simp only [List.mem_cons, List.mem_nil_iff, or_false] at hx ⊢
          rcases hx with h | h | h | h | h | h | h | h <;> simp [h]
        rcases List.mem_append.mp hm with h | h
        · simp only [List.mem_cons, List.mem_nil_iff, or_false] at h
          rcases h with h | h | h | h
          · exact nbx x hx' h
          · exact ex4 x hx (by rw [h]; exact hla)
          · exact ex4 x hx (by rw [h]; exact hga0)
          · exact ex4 x hx (by rw [h]; exact hpa0)
        · exact nbl x hx' h
    have hf10 : Feed Ha F c ns := (hF4.ext (T := T) (E8.trans e9)).chg g10 (by
      have := LA.ne nd (i := 0) (j := 1) (by decide) rfl rfl
      simpa using this) (by
      have := LA.ne nd (i := 6) (j := 1) (by decide) rfl rfl
      simpa using this)
    have L0 : LH P w T ns Hb (LA.mk F c me bx la ga pa a bls) ⟨{ s0 with rights := R7 }, [], [], [], List.replicate n []⟩ :=
      { feed := hf10.chg gb (by simp) (by simp), tabs := gb.tabs Ta
        wok := ⟨_, _, W10.chg gb (by simp) (by simp) (by simp) (by simp) (by simp)⟩
        menu := gb.keep _ _ (g10.keep _ _ ((E8.trans e9).keep _ _ hm4 (fun ps z => by cases z)) (by
          have := LA.ne nd (i := 7) (j := 1) (by decide) rfl rfl
          simpa using this) (fun ps z => by cases z)) (by simp) (fun ps z => by cases z)
        bx_ := hD
        bl_ := fun k bl hk => ⟨[], [], (hb bl (List.mem_of_getElem? hk)).2.2, .nil, by
          have := (List.getElem?_eq_some_iff.mp hk).1
          have h2 : k < n := by rw [← hlen]; exact this
          show (List.replicate n ([] : List D))[k]? = some []
          simp [h2]⟩
        len := by
          show bls.length = (List.replicate n ([] : List D)).length
          rw [List.length_replicate]; exact hlen
        last := ((iL8.chg (S := []) (e9.chg (S := [])) (by simp)).chg g10 (by
          have := LA.ne nd (i := 9) (j := 1) (by decide) rfl rfl
          simpa using this)).chg gb (by simp)
        gone := ⟨[], gb.keep _ _ (g10.keep _ _ (e9.keep _ _ hga8 (fun ps z => by cases z)) (by
          have := LA.ne nd (i := 10) (j := 1) (by decide) rfl rfl
          simpa using this) (fun ps z => by cases z)) (by simp) (fun ps z => by cases z), .nil⟩
        post := ⟨[], gb.keep _ _ (g10.keep _ _ (e9.keep _ _ hpa8 (fun ps z => by cases z)) (by
          have := LA.ne nd (i := 11) (j := 1) (by decide) rfl rfl
          simpa using this) (fun ps z => by cases z)) (by simp) (fun ps z => by cases z), .nil⟩
        nd := nd }
    have I0 : LI 0 ⟨{ s0 with rights := R7 }, [], [], [], List.replicate n []⟩ := PL.start _ pu n wide hn hpu hs0 rfl
    generalize (⟨{ s0 with rights := R7 }, [], [], [], List.replicate n []⟩ : LS) = st0 at L0 I0
    -- the laps
    refine ⟨56, rfl, by decide, by decide, for_range (fun j σ H => ∃ st x3 x5 x10 x11 x12 x13 x14, σ = [some (.ref sa), some (.ref F), some (.ref me), x3, some (.ref bx), x5, some (.ref a.W), some (.ref la), some (.ref ga), some (.ref pa), x10, x11, x12, x13, x14] ∧ LH P w T ns H (LA.mk F c me bx la ga pa a bls) st ∧ LI j st) ⟨_, _, _, _, _, _, _, _, rfl, L0, I0⟩ (fun j σ Hc hj ⟨st, x3, x5, x10, x11, x12, x13, x14, eσ, L, I⟩ => ?_) (fun σ Hc ⟨st, x3, x5, x10, x11, x12, x13, x14, eσ, L, I⟩ => ⟨⟨_, _, _, _, _, _, _, _, _, _, _, _, eσ⟩, L.feed, L.tabs, L.menu⟩)⟩
    subst eσ
    obtain ⟨nums, nl, ll, fl, fine, n1, n2, bn⟩ := PL.sized _ _ I
    refine ⟨.ref F, rfl, .ref a.W, rfl, .ref me, rfl, F, c, ns, a, st.s, me, rfl, L.feed, L.tabs, L.wok, ⟨LA.ne nd (i := 0) (j := 1) (by decide) rfl rfl, LA.ne nd (i := 6) (j := 2) (by decide) rfl rfl⟩, nums, nl, ll, fl, fine, ⟨n1, n2⟩, L.menu, fun va Hd s1 d hst gd hFd Wd iva => ?_⟩
    obtain ⟨s2, evs, st', hdr, hev, hcmp, hI'⟩ := PL.step _ _ _ _ hj I hst
    have Ld : LH P w T ns Hd (LA.mk F c me bx la ga pa a bls) { st with s := s1 } := L.chg gd Wd hFd (fun i hi x hx => by
        intro hm
        simp only [wS, List.mem_cons, List.mem_nil_iff, or_false] at hm
        simp only [List.mem_cons, List.mem_nil_iff, or_false] at hi
        rcases hm with e | e | e | e | e
        · exact LA.ne nd (j := 0) (by omega) hx rfl e
        · exact LA.ne nd (j := 1) (by omega) hx rfl e
        · exact LA.ne nd (j := 2) (by omega) hx rfl e
        · exact LA.ne nd (j := 3) (by omega) hx rfl e
        · exact LA.ne nd (j := 4) (by omega) hx rfl e) (fun bl hbl hm => by
        obtain ⟨k, hk⟩ := List.mem_iff_getElem?.mp hbl
        have hx := LA.bl (A := LA.mk F c me bx la ga pa a bls) hk
        simp only [wS, List.mem_cons, List.mem_nil_iff, or_false] at hm
        rcases hm with e | e | e | e | e
        · exact LA.ne nd (j := 0) (by omega) hx rfl e
        · exact LA.ne nd (j := 1) (by omega) hx rfl e
        · exact LA.ne nd (j := 2) (by omega) hx rfl e
        · exact LA.ne nd (j := 3) (by omega) hx rfl e
        · exact LA.ne nd (j := 4) (by omega) hx rfl e)
    dsimp only
    -- the events
    refine seq_by (fun σ' H' => ∃ x3 x5 x10 x11 x12 x13 x14, σ' = [some (.ref sa), some (.ref F), some (.ref me), x3, some (.ref bx), x5, some (.ref a.W), some (.ref la), some (.ref ga), some (.ref pa), x10, x11, x12, x13, x14] ∧ LH P w T ns H' (LA.mk F c me bx la ga pa a bls) st') (fun D' hD' => ?_) (fun σ' He ⟨x3, x5, x10, x11, x12, x13, x14, eσ, Le⟩ => ?_)
    · refine ⟨.ref a.W, rfl, va, rfl, a, s1, va, d, s2, .tuple evs, rfl, Ld.tabs, Wd, iva, hdr, fun v5 H5 g5 W5 i5 => ?_⟩
      have L5 : LH P w T ns H5 (LA.mk F c me bx la ga pa a bls) { st with s := s2 } := Ld.chg g5 W5 (Ld.feed.chg g5 (by
          have := LA.ne nd (i := 0) (j := 1) (by decide) rfl rfl
          simpa using this) (by
          have := LA.ne nd (i := 6) (j := 1) (by decide) rfl rfl
          simpa using this)) (fun i hi x hx => by
          have := LA.ne nd (i := i) (j := 1) (by
            intro e
            subst e
            simp at hi) hx rfl
          simpa using this) (fun bl hbl => by
          obtain ⟨k, hk⟩ := List.mem_iff_getElem?.mp hbl
          have := LA.ne nd (i := 12 + k) (j := 1) (by omega) (LA.bl (A := LA.mk F c me bx la ga pa a bls) hk) rfl
          simpa using this)
      obtain ⟨pe, xe, rfl, hpe, hxe⟩ := i5.tupE
      refine ⟨pe, rfl, ⟨xe, .of hpe⟩, for_tup (fun m σ H => ∃ stm x3 x5 x10 x11 x12 x13 x14, σ = [some (.ref sa), some (.ref F), some (.ref me), x3, some (.ref bx), x5, some (.ref a.W), some (.ref la), some (.ref ga), some (.ref pa), x10, x11, x12, x13, x14] ∧ LH P w T ns H (LA.mk F c me bx la ga pa a bls) stm ∧ H pe = some (.tup xe) ∧ IsAll H xe evs ∧ Evs stm (evs.drop m) st') ⟨_, _, _, _, _, _, _, _, rfl, L5, hpe, hxe, hev⟩ (fun m σ H _ ⟨_, _, _, _, _, _, _, _, _, _, hp, _, _⟩ => .of hp) (fun m ve σ H6 hve ⟨stm, x3, x5, x10, x11, x12, x13, x14, eσ, L6, hp6, ix6, hev6⟩ => ?_) (fun σ H6 ⟨stm, x3, x5, x10, x11, x12, x13, x14, eσ, L6, hp6, ix6, hev6⟩ => ?_)⟩
      rotate_left
      · rw [ix6.length, List.drop_length] at hev6
        cases (show stm = st' from hev6)
        exact hD' _ _ ⟨_, _, _, _, _, _, _, eσ, L6⟩
      subst eσ
      obtain ⟨ev, hevm, ie⟩ := ix6.getV hve
      have hdrop : evs.drop m = ev :: evs.drop (m + 1) := by
        obtain ⟨hlt, hget⟩ := List.getElem?_eq_some_iff.mp hevm
        rw [List.drop_eq_getElem_cons hlt, hget]
      rw [hdrop] at hev6
      obtain ⟨st1, hE, hrest⟩ := hev6
      have fin : ∀ H', LH P w T ns H' (LA.mk F c me bx la ga pa a bls) st1 → Tups H6 H' → ∃ stm y3 y5 y10 y11 y12 y13 y14, [some (V.ref sa), some (.ref F), some (.ref me), x3, some (.ref bx), x5, some (.ref a.W), some (.ref la), some (.ref ga), some (.ref pa), x10, some ve, x12, x13, x14] = [some (.ref sa), some (.ref F), some (.ref me), y3, some (.ref bx), y5, some (.ref a.W), some (.ref la), some (.ref ga), some (.ref pa), y10, y11, y12, y13, y14] ∧ LH P w T ns H' (LA.mk F c me bx la ga pa a bls) stm ∧ H' pe = some (.tup xe) ∧ IsAll H' xe evs ∧ Evs stm (evs.drop (m + 1)) st' :=
        fun H' L t => ⟨st1, _, _, _, _, _, _, _, rfl, L, t.1 _ _ hp6, ix6.mono t, hrest⟩
      have t6 : Tups H6 H6 := (Ext.refl T H6).tups
      have env : ∀ H', Tups H6 H' → EnvIs H' [some (.ref sa), some (.ref F), some (.ref me), x3, some (.ref bx), x5, some (.ref a.W), some (.ref la), some (.ref ga), some (.ref pa), x10, some ve, x12, x13, x14] [none, none, none, none, none, none, none, none, none, none, none, some ev, none, none, none] := fun H' t => .skip (.skip (.skip (.skip (.skip (.skip (.skip (.skip (.skip (.skip (.skip (.cons (ie.mono t) (.skip (.skip (.skip .nil))))))))))))))
      cases hE with
      | posted half kk p aa nn hpl =>
        refine ⟨_, true, L6.tabs, env _ t6, ev_tst (gEqS (by decide +kernel) (by decide +kernel) (by decide +kernel)), fun H7 e7 => iteT ?_⟩
        have L7 := L6.ext e7
        have t7 := t6.trans e7.tups
        obtain ⟨xp, hxp, ixp⟩ := L7.post
        refine ⟨.ref pa, rfl, .inl ⟨rfl, xp, .of hxp⟩, _, .tuple [p, aa], L7.tabs, env _ t7, rfl, fun vp H8 e8 ip => ⟨pa, xp, vp, rfl, rfl, e8.keep _ _ hxp (fun ps z => by cases z), Nat.lt_of_lt_of_le (by rw [ixp.length]; exact hpl) (by decide), ?_⟩⟩
        have L8 := L7.ext e8
        have t8 := t7.trans e8.tups
        have Lx := L8.setP (e8.keep _ _ hxp (fun ps z => by cases z)) (e8.all ixp) ip
        have tx := t8.trans (Chg.lst (T := T) (S := [pa]) (ys := xp ++ [vp]) (e8.keep _ _ hxp (fun ps z => by cases z)) List.mem_cons_self).tups
        generalize upd H8 pa (.lst (xp ++ [vp])) = H9 at Lx tx
        have L9 := Lx
        have t9 := tx
        refine ⟨_, false, L9.tabs, env _ t9, ev_tst (gEqS (by decide +kernel) (by decide +kernel) (by decide +kernel)), fun H10 e10 => iteF ?_⟩
        have L10 := L9.ext e10
        have t10 := t9.trans e10.tups
        refine ⟨_, false, L10.tabs, env _ t10, ev_tst (gEqS (by decide +kernel) (by decide +kernel) (by decide +kernel)), fun H11 e11 => iteF ?_⟩
        have L11 := L10.ext e11
        have t11 := t10.trans e11.tups
        refine ⟨_, false, L11.tabs, env _ t11, ev_tst (gEqS (by decide +kernel) (by decide +kernel) (by decide +kernel)), fun H12 e12 => iteF (iteF ?_)⟩
        have L12 := L11.ext e12
        have t12 := t11.trans e12.tups
        refine ⟨_, false, L12.tabs, env _ t12, ev_tst (gEqS (by decide +kernel) (by decide +kernel) (by decide +kernel)), fun H13 e13 => iteF ?_⟩
        have L13 := L12.ext e13
        have t13 := t12.trans e13.tups
        exact fin _ L13 t13
      | missed half t nn why hpl =>
        refine ⟨_, false, L6.tabs, env _ t6, ev_tst (gEqS (by decide +kernel) (by decide +kernel) (by decide +kernel)), fun H7 e7 => iteF ?_⟩
        have L7 := L6.ext e7
        have t7 := t6.trans e7.tups
        refine ⟨_, true, L7.tabs, env _ t7, ev_tst (gEqS (by decide +kernel) (by decide +kernel) (by decide +kernel)), fun H8 e8 => iteT ?_⟩
        have L8 := L7.ext e8
        have t8 := t7.trans e8.tups
        obtain ⟨xp, hxp, ixp⟩ := L8.gone
        refine ⟨.ref ga, rfl, .inl ⟨rfl, xp, .of hxp⟩, _, .tuple [t, nn], L8.tabs, env _ t8, rfl, fun vp H9 e9 ip => ⟨ga, xp, vp, rfl, rfl, e9.keep _ _ hxp (fun ps z => by cases z), Nat.lt_of_lt_of_le (by rw [ixp.length]; exact hpl) (by decide), ?_⟩⟩
        have L9 := L8.ext e9
        have t9 := t8.trans e9.tups
        have Lx := L9.setG (e9.keep _ _ hxp (fun ps z => by cases z)) (e9.all ixp) ip
        have tx := t9.trans (Chg.lst (T := T) (S := [ga]) (ys := xp ++ [vp]) (e9.keep _ _ hxp (fun ps z => by cases z)) List.mem_cons_self).tups
        generalize upd H9 ga (.lst (xp ++ [vp])) = H10 at Lx tx
        have L10 := Lx
        have t10 := tx
        refine ⟨_, false, L10.tabs, env _ t10, ev_tst (gEqS (by decide +kernel) (by decide +kernel) (by decide +kernel)), fun H11 e11 => iteF ?_⟩
        have L11 := L10.ext e11
        have t11 := t10.trans e11.tups
        refine ⟨_, false, L11.tabs, env _ t11, ev_tst (gEqS (by decide +kernel) (by decide +kernel) (by decide +kernel)), fun H12 e12 => iteF (iteF ?_)⟩
        have L12 := L11.ext e12
        have t12 := t11.trans e12.tups
        refine ⟨_, false, L12.tabs, env _ t12, ev_tst (gEqS (by decide +kernel) (by decide +kernel) (by decide +kernel)), fun H13 e13 => iteF ?_⟩
        have L13 := L12.ext e13
        have t13 := t12.trans e13.tups
        exact fin _ L13 t13
      | filled half kk t nn box p aa mm ck xs0 sg ng ag hF hk hxl hll sp np spa npa apo =>
        refine ⟨_, false, L6.tabs, env _ t6, ev_tst (gEqS (by decide +kernel) (by decide +kernel) (by decide +kernel)), fun H7 e7 => iteF ?_⟩
        have L7 := L6.ext e7
        have t7 := t6.trans e7.tups
        refine ⟨_, false, L7.tabs, env _ t7, ev_tst (gEqS (by decide +kernel) (by decide +kernel) (by decide +kernel)), fun H8 e8 => iteF ?_⟩
        have L8 := L7.ext e8
        have t8 := t7.trans e8.tups
        refine ⟨_, true, L8.tabs, env _ t8, ev_tst (gEqS (by decide +kernel) (by decide +kernel) (by decide +kernel)), fun H9 e9 => iteT ?_⟩
        have L9 := L8.ext e9
        have t9 := t8.trans e9.tups
        obtain ⟨xg, hxg, ixg⟩ := L9.gone
        obtain ⟨bl, hbl⟩ : ∃ bl, bls[kk]? = some bl := ⟨bls[kk]'(by
          have h1 := (List.getElem?_eq_some_iff.mp hk).1
          have h2 : bls.length = stm.boxes.length := L9.len
          omega), List.getElem?_eq_getElem _⟩
        refine seq_by (fun σ' H' => σ' = [some (.ref sa), some (.ref F), some (.ref me), x3, some (.ref bx), x5, some (.ref a.W), some (.ref la), some (.ref ga), some (.ref pa), x10, some ve, x12, x13, x14] ∧ Tups H6 H' ∧ LH P w T ns H' (LA.mk F c me bx la ga pa a bls) { stm with last := dset stm.last (tk t) (.int nn), boxes := stm.boxes.set kk (xs0 ++ [.tuple [t, .int nn, .tuple [p, aa, mm], ck]]) } ∧ ∃ ys vc, H' bl = some (.lst (ys ++ [vc])) ∧ Is H' vc (.tuple [t, .int nn, .tuple [p, aa, mm], ck])) (fun D2 hD2 => ?_) (fun σ' H20 ⟨eσ2, t20, L20, ys, vc, hys, ivc⟩ => ?_)
        · refine ⟨_, .tuple [t, .int nn], L9.tabs, env _ t9, rfl, fun vp H10 e10 ip => ⟨.ref ga, rfl, .tuple [t, .int nn], stm.gone, Is.dp _ _ ip (pair_sh hF.talk nn).2, dp_list (e10.keep _ _ hxg (fun ps z => by cases z)) (e10.all ixg) ng, (pair_sh hF.talk nn).1, sg, _, rfl, ?_⟩⟩
          rw [ag]
          refine iteF ?_
          have L10 := L9.ext e10
          have t10 := t9.trans e10.tups
          obtain ⟨xb, db, hxb, ixb, hdb⟩ := L10.bl_ kk bl hbl
          have edb : db = xs0 := Option.some.inj (hdb.symm.trans hk)
          subst edb
          have nb : ∀ i x, i ≠ 12 + kk → (LA.mk F c me bx la ga pa a bls).all[i]? = some x → bl ≠ x := fun i x hi hx => LA.ne nd (i := 12 + kk) (by omega) (LA.bl (A := LA.mk F c me bx la ga pa a bls) hbl) hx
          refine ⟨.ref a.W, rfl, ve, rfl, .ref bx, rfl, .ref la, rfl, a, stm.s, ve, half, kk, t, nn, _, box, bx, bl, la, _, xb, stm.last, rfl, L10.tabs, L10.wok, ie.mono t10, L10.bx_, by rw [List.getElem?_map, hbl]; rfl, hxb, by rw [ixb.length]; exact hxl, L10.last, hll, ⟨nb 2 _ (by omega) rfl, nb 5 _ (by omega) rfl, LA.ne nd (i := 9) (j := 3) (by decide) rfl rfl, LA.ne nd (i := 9) (j := 4) (by decide) rfl rfl⟩, hF, fun H9 vc g9 hb9 ic9 iL9 W9 => ⟨true, rfl, iteF ?_⟩⟩
          refine hD2 _ _ ⟨rfl, t10.trans g9.tups, L10.setB hbl g9 (fun x hx => by simpa using hx) W9 hb9 ((g9.all ixb).append (.cons ic9 .nil)) iL9, xb, vc, hb9, ic9⟩
        · subst eσ2
          refine ⟨.ref bx, rfl, _, .int (kk : Nat), L20.tabs, env _ t20, rfl, fun vk H21 e21 ik => ?_⟩
          cases ik.intE
          have L21 := L20.ext e21
          obtain ⟨pc, xc, rfl, hpc, hxc⟩ := (e21.is ivc).tupE
          have hlast : atI (ys ++ [V.ref pc]) (-1) = some (V.ref pc) := by
            unfold atI ixN
            rw [if_neg (by decide), if_pos (by rw [show (ys ++ [V.ref pc]).length = ys.length + 1 by simp]; omega)]
            show (ys ++ [V.ref pc])[(-1 + (((ys ++ [V.ref pc]).length : Nat) : Int)).toNat]? = _
            rw [show (-1 + (((ys ++ [V.ref pc]).length : Nat) : Int)).toNat = ys.length by rw [List.length_append, List.length_singleton]; omega]
            simp
          obtain ⟨vp, hvp, ivp⟩ := hxc.at (j := 2) rfl
          obtain ⟨pp, xpp, rfl, hpp, hxpp⟩ := ivp.tupE
          cases hxpp with
          | @cons v1 _ _ _ i1 hxpp =>
          cases hxpp with
          | @cons v2 _ _ _ i2 hxpp =>
          cases hxpp with
          | @cons v3 _ _ _ i3 hxpp =>
          cases hxpp
          obtain ⟨xq, hxq, ixq⟩ := L21.post
          refine .inl ⟨bx, _, (kk : Nat), .ref bl, rfl, rfl, .of L21.bx_, atI_nat (by rw [List.getElem?_map, hbl]; rfl), 1, rfl, .inl ⟨bl, ys ++ [.ref pc], -1, .ref pc, rfl, rfl, .of (e21.keep _ _ hys (fun ps z => by cases z)), hlast, .inr (.inl ⟨pc, xc, 2, .ref pp, rfl, rfl, .of hpc, hvp, 2, rfl, pp, [v1, v2, v3], rfl, .of hpp, (show ¬ (HT.sIx 3 0 none = 0 ∧ HT.sIx 3 3 (some 2) = 3) by decide), fun p9 hp9 => ?_⟩)⟩⟩
          have e22 : Ext T H21 (upd H21 p9 (.tup [v1, v2])) := .new hp9
          have i22 : Is (upd H21 p9 (.tup [v1, v2])) (.ref p9) (.tuple [p, aa]) := .tup upd_same ((IsAll.cons i1 (.cons i2 .nil)).mono e22.tups)
          refine ⟨.ref pa, rfl, .tuple [p, aa], stm.posted, Is.dp _ _ i22 npa, dp_list (e22.keep _ _ hxq (fun ps z => by cases z)) (e22.all ixq) np, spa, sp, _, rfl, ?_⟩
          rw [apo]
          refine iteF ?_
          have L23 := L21.ext e22
          have t23 := (t20.trans e21.tups).trans e22.tups
          show tSeq _ _ _ _ (upd H21 p9 (.tup [v1, v2]))
          generalize upd H21 p9 (.tup [v1, v2]) = H23 at L23 t23
          refine ⟨_, false, L23.tabs, env _ t23, ev_tst (gEqS (by decide +kernel) (by decide +kernel) (by decide +kernel)), fun H24 e24 => iteF (iteF ?_)⟩
          have L24 := L23.ext e24
          have t24 := t23.trans e24.tups
          refine ⟨_, false, L24.tabs, env _ t24, ev_tst (gEqS (by decide +kernel) (by decide +kernel) (by decide +kernel)), fun H25 e25 => iteF ?_⟩
          have L25 := L24.ext e25
          have t25 := t24.trans e25.tups
          exact fin _ L25 t25
      | took half kk cc words xs0 hk sc1 nc1 =>
        refine ⟨_, false, L6.tabs, env _ t6, ev_tst (gEqS (by decide +kernel) (by decide +kernel) (by decide +kernel)), fun H7 e7 => iteF ?_⟩
        have L7 := L6.ext e7
        have t7 := t6.trans e7.tups
        refine ⟨_, false, L7.tabs, env _ t7, ev_tst (gEqS (by decide +kernel) (by decide +kernel) (by decide +kernel)), fun H8 e8 => iteF ?_⟩
        have L8 := L7.ext e8
        have t8 := t7.trans e8.tups
        refine ⟨_, false, L8.tabs, env _ t8, ev_tst (gEqS (by decide +kernel) (by decide +kernel) (by decide +kernel)), fun H9 e9 => iteF ?_⟩
        have L9 := L8.ext e9
        have t9 := t8.trans e9.tups
        obtain ⟨bl, hbl⟩ : ∃ bl, bls[kk]? = some bl := ⟨bls[kk]'(by
          have h1 := (List.getElem?_eq_some_iff.mp hk).1
          have h2 : bls.length = stm.boxes.length := L9.len
          omega), List.getElem?_eq_getElem _⟩
        obtain ⟨xb, db, hxb, ixb, hdb⟩ := L9.bl_ kk bl hbl
        have edb : db = cc :: xs0 := Option.some.inj (hdb.symm.trans hk)
        subst edb
        cases ixb with
        | @cons vc xb _ _ ic ixb =>
        dsimp only [tNext]
        refine seq_by (fun σ' H' => σ' = [some (.ref sa), some (.ref F), some (.ref me), x3, some (.ref bx), x5, some (.ref a.W), some (.ref la), some (.ref ga), some (.ref pa), x10, some ve, x12, x13, x14] ∧ Ext T H9 H') (fun D2 hD2 => ?_) (fun σ' H20 ⟨eσ2, e20⟩ => ?_)
        · refine ⟨_, true, L9.tabs, env _ t9, ev_tst (gEqS (by decide +kernel) (by decide +kernel) (by decide +kernel)), fun H10 e10 => iteT ?_⟩
          have L10 := L9.ext e10
          have t10 := t9.trans e10.tups
          refine ⟨.ref bx, rfl, _, .int (kk : Nat), L10.tabs, env _ t10, rfl, fun vk H11 e11 ik => ?_⟩
          cases ik.intE
          have L11 := L10.ext e11
          have t11 := t10.trans e11.tups
          have hxb2 := (e10.trans e11).keep _ _ hxb (fun ps z => by cases z)
          refine .inl ⟨bx, _, (kk : Nat), .ref bl, rfl, rfl, .of L11.bx_, atI_nat (by rw [List.getElem?_map, hbl]; rfl), 1, rfl, bl, vc :: xb, rfl, .of hxb2, fun p8 hp8 => ?_⟩
          have ecut : cutV (vc :: xb) none (some 1) = [vc] := by
            unfold cutV HT.sIx
            simp
          rw [ecut]
          have e30 : Ext T H11 (upd H11 p8 (.lst [vc])) := .new hp8
          refine ⟨_, cc, (L11.ext e30).tabs, env _ (t11.trans e30.tups), rfl, fun v9 H31 e31 i9 => ⟨line15 (show 1 ≤ 1000 by decide), fun p9 hp9 => ?_⟩⟩
          have e32 : Ext T H31 (upd H31 p9 (.lst [v9])) := .new hp9
          have nlc : noLs [cc] = true := by simp [noLs, nc1]
          refine ⟨.list [cc], .list [cc], dp_list ((e31.trans e32).keep _ _ upd_same (fun ps z => by cases z)) (.cons ((((e10.trans e11).trans e30).trans (e31.trans e32)).is ic) .nil) nlc, dp_list upd_same (.cons (e32.is i9) .nil) nlc, sc1, sc1, _, rfl, ?_⟩
          rw [eqv_self sc1]
          exact iteF (hD2 _ _ ⟨rfl, (e10.trans e11).trans (e30.trans (e31.trans e32))⟩)
        · subst eσ2
          have L20 := L9.ext e20
          have t20 := t9.trans e20.tups
          refine ⟨_, true, L20.tabs, env _ t20, ev_tst (gEqS (by decide +kernel) (by decide +kernel) (by decide +kernel)), fun H21 e21 => iteT ?_⟩
          have L21 := L20.ext e21
          have t21 := t20.trans e21.tups
          refine ⟨.ref bx, rfl, _, .int (kk : Nat), L21.tabs, env _ t21, rfl, fun vk H22 e22 ik => ?_⟩
          cases ik.intE
          have L22 := L21.ext e22
          have t22 := t21.trans e22.tups
          have hxb2 := ((e20.trans e21).trans e22).keep _ _ hxb (fun ps z => by cases z)
          refine .inl ⟨bx, _, (kk : Nat), .ref bl, rfl, rfl, .of L22.bx_, atI_nat (by rw [List.getElem?_map, hbl]; rfl), .inl ⟨rfl, _, .of hxb2⟩, bl, _, 0, 0, vc, rfl, rfl, hxb2, by decide, by decide, by simp [seqIndex?], rfl, ?_⟩
          dsimp only [List.eraseIdx]
          have g9 : Chg T [bl] H22 (upd H22 bl (.lst xb)) := Chg.lst hxb2 List.mem_cons_self
          have nb : ∀ i x, i ≠ 12 + kk → (LA.mk F c me bx la ga pa a bls).all[i]? = some x → x ≠ bl := fun i x hi hx => LA.ne nd (j := 12 + kk) (by omega) hx (LA.bl (A := LA.mk F c me bx la ga pa a bls) hbl)
          have Lx := L22.setB (last' := stm.last) hbl g9 (fun x hx => .inl (by simpa using hx)) (L22.wok.lst g9 hxb2 (nb 2 _ (by omega) rfl) (nb 5 _ (by omega) rfl)) upd_same (g9.all (((e20.trans e21).trans e22).all ixb)) (L22.last.chg g9 (by simpa using nb 9 _ (by omega) rfl))
          exact fin _ Lx (t22.trans g9.tups)
      | other u ru hsu n1 n2 n3 n4 =>
        refine ⟨_, false, L6.tabs, env _ t6, ev_tst (gEqS hsu (by decide +kernel) n1), fun H7 e7 => iteF ?_⟩
        have L7 := L6.ext e7
        have t7 := t6.trans e7.tups
        refine ⟨_, false, L7.tabs, env _ t7, ev_tst (gEqS hsu (by decide +kernel) n2), fun H8 e8 => iteF ?_⟩
        have L8 := L7.ext e8
        have t8 := t7.trans e8.tups
        refine ⟨_, false, L8.tabs, env _ t8, ev_tst (gEqS hsu (by decide +kernel) n3), fun H9 e9 => iteF ?_⟩
        have L9 := L8.ext e9
        have t9 := t8.trans e9.tups
        refine ⟨_, false, L9.tabs, env _ t9, ev_tst (gEqS hsu (by decide +kernel) n4), fun H10 e10 => iteF (iteF ?_)⟩
        have L10 := L9.ext e10
        have t10 := t9.trans e10.tups
        refine ⟨_, false, L10.tabs, env _ t10, ev_tst (gEqS hsu (by decide +kernel) n4), fun H11 e11 => iteF ?_⟩
        have L11 := L10.ext e11
        have t11 := t10.trans e11.tups
        exact fin _ L11 t11
    · subst eσ
      obtain ⟨vs, lanes, hv0, hv1, hll, hmir⟩ := hcmp.ex
      have bn' : st'.boxes.length ≤ 2 := by
        have h1 := (PL.sized _ _ hI').bn
        have h2 := (PL.sized _ _ hI').n2
        omega
      have fin : ∀ H', Chg T [] He H' → LH P w T ns H' (LA.mk F c me bx la ga pa a bls) st' := fun H' g => by
        obtain ⟨r, v, W⟩ := Le.wok
        exact Le.chg g ⟨r, v, W.chg g (by simp) (by simp) (by simp) (by simp) (by simp)⟩ (Le.feed.chg g (by simp) (by simp)) (fun _ _ _ _ => by simp) (fun _ _ => by simp)
      refine ⟨.ref bx, rfl, bx, rfl, ⟨_, .of Le.bx_⟩, fun D1 hD1 => lc_list (fun m H' => Chg T [] He H' ∧ ∃ ws, H' D1 = some (.lst ws) ∧ IsAll H' ws ((st'.boxes.take m).map PyData.tuple)) ⟨Ext.chg (.new hD1), [], upd_same, .nil⟩ (fun m H' _ ⟨g, _⟩ => .of (g.keep bx _ Le.bx_ (by simp) (fun ps z => by cases z))) (fun m x H' hx ⟨g, ws, hw, iw⟩ => ?_) (fun Hf ⟨g, ws, hw, iw⟩ => ?_)⟩
      · obtain ⟨bl, hbl, rfl⟩ : ∃ bl, bls[m]? = some bl ∧ x = .ref bl := by
          rw [List.getElem?_map] at hx
          cases h : bls[m]? with
          | none => rw [h] at hx; cases hx
          | some bl => rw [h] at hx; exact ⟨bl, rfl, (Option.some.inj hx).symm⟩
        obtain ⟨xb, db, hxb, ixb, hdb⟩ := (fin H' g).bl_ m bl hbl
        refine ⟨rfl, ?_⟩
        simp only [tYes, if_true]
        refine ⟨.ref bl, rfl, bl, xb, rfl, .inl ⟨.of hxb, fun l hl => ⟨ws, by rw [upd_ne (ne_of_none hw hl)]; exact hw, Nat.lt_of_lt_of_le (show ws.length < 1000 by rw [iw.length, List.length_map, List.length_take]; omega) (line15 (Nat.le_refl _)), (g.ext (.new hl)).turn hD1 (by rw [upd_ne (ne_of_none hw hl)]; exact hw), ws ++ [.ref l], upd_same, ?_⟩⟩⟩
        have e1 : Ext T H' (upd H' l (.tup xb)) := .new hl
        have g2 : Chg T [D1] (upd H' l (.tup xb)) (upd (upd H' l (.tup xb)) D1 (.lst (ws ++ [.ref l]))) := Chg.lst (by rw [upd_ne (ne_of_none hw hl)]; exact hw) List.mem_cons_self
        rw [List.take_succ, hdb, List.map_append]
        exact g2.all ((e1.all iw).append (.cons (.tup upd_same (e1.all ixb)) .nil))
      · have hfull : st'.boxes.take (bls.map V.ref).length = st'.boxes := by
          rw [List.length_map, show bls.length = st'.boxes.length from Le.len, List.take_length]
        rw [hfull] at iw
        have Lf := fin Hf g
        obtain ⟨r, v, W⟩ := Lf.wok
        have iv := W.value
        rw [hv0] at iv
        obtain ⟨pv, xv, rfl, hpv, hxv⟩ := iv.tupE
        obtain ⟨lv, al, il⟩ := hxv.at hv1
        obtain ⟨pl, xl, rfl, hpl, hxl⟩ := il.tupE
        refine ⟨.ref a.W, rfl, a.W, _, rfl, wgValue W, .inr (.inl ⟨pv, xv, 1, .ref pl, rfl, rfl, .of hpv, al, pl, rfl, ⟨xl, .of hpl⟩, fun D2 hD2 => lc_tup (fun m H' => Chg T [] Hf H' ∧ ∃ ws, H' D2 = some (.lst ws) ∧ IsAll H' ws ((st'.boxes.take m).map PyData.tuple)) ⟨Ext.chg (.new hD2), [], upd_same, .nil⟩ (fun m H' _ ⟨g, _⟩ => .of (g.keep pl _ hpl (by simp) (fun ps z => by cases z))) (fun m x H' hx ⟨g2, ws2, hw2, iw2⟩ => ?_) (fun Hg ⟨g2, ws2, hw2, iw2⟩ => ?_)⟩)⟩
        · obtain ⟨dl, hdl, ix⟩ := hxl.getV hx
          have hm : m < st'.boxes.length := by
            rw [← hll]
            exact (List.getElem?_eq_some_iff.mp hdl).1
          obtain ⟨own, ho1, ho2⟩ := hmir m _ (List.getElem?_eq_getElem hm)
          rw [hdl] at ho1
          cases ho1
          obtain ⟨po, xo, rfl, hpo, hxo⟩ := (g2.is ix).tupE
          obtain ⟨bv, ab, ib⟩ := hxo.at ho2
          refine ⟨rfl, ?_⟩
          simp only [tYes, if_true]
          refine ⟨.ref po, rfl, .inr (.inl ⟨po, xo, 5, bv, rfl, rfl, .of hpo, ab, ws2, hw2, Nat.lt_of_lt_of_le (show ws2.length < 1000 by rw [iw2.length, List.length_map, List.length_take]; omega) (line15 (Nat.le_refl _)), g2.turn hD2 hw2, ws2 ++ [bv], upd_same, ?_⟩)⟩
          have g3 : Chg T [D2] H' (upd H' D2 (.lst (ws2 ++ [bv]))) := Chg.lst hw2 List.mem_cons_self
          rw [List.take_succ, List.getElem?_eq_getElem hm, List.map_append]
          exact g3.all (iw2.append (.cons ib .nil))
        · have hfull2 : st'.boxes.take xl.length = st'.boxes := by
            rw [hxl.length, hll, List.take_length]
          rw [hfull2] at iw2
          refine ⟨.list (st'.boxes.map PyData.tuple), .list (st'.boxes.map PyData.tuple), dp_list (g2.keep _ _ hw (by simp) (fun ps z => by cases z)) (g2.all iw) hcmp.no, dp_list hw2 iw2 hcmp.no, hcmp.sh, hcmp.sh, _, rfl, ?_⟩
          rw [eqv_self hcmp.sh]
          exact iteF ⟨st', _, _, _, _, _, _, _, rfl, fin _ (g.trans g2), hI'⟩
end
end CR
/-! PlA -/
set_option maxHeartbeats 4000000
namespace CR
open PySem PySem.Spec L2
open PyProof.Rows hiding St
/-! ### pieces, plainly -/
def weigh (k : Int) : List Int → List Int
  | [] => []
  | x :: xs => (k * x) :: weigh (k + 1) xs
def SD (e n i p : Int) (ws : List Int) : Int := (weigh 1 (e :: n :: i :: p :: ws)).sum.fmod 10007
def pcD (e : Int) (t : D) (n i p : Int) (ws : List Int) (s : Int) : D := .tuple [.int e, t, .int n, .int i, .int p, .tuple (ws.map .int), .int s]
def pcR (e : Int) (t : D) (n i p : Int) (ws : List Int) : D := pcD e t n i p ws (SD e n i p ws)
def nParts (len cut : Nat) : Nat := max 1 ((len + cut - 1) / cut)
def chunk (ws : List Int) (cut i : Nat) : List Int := (ws.drop (i * cut)).take cut
def piecesL (e : Int) (t : D) (n : Int) (ws : List Int) (cut : Nat) : List D := (List.range (nParts ws.length cut)).map fun (i : Nat) => pcR e t n ((i : Nat) : Int) (nParts ws.length cut : Nat) (chunk ws cut i)
theorem pieces_eq (e : Int) (t : D) (n : Int) (ws : List Int) (cut : Nat) (h : ws.length ≤ 8) (h1 : 1 ≤ cut) (h2 : cut ≤ 4) : m_pieces_of [.tuple [t, .int n, .tuple (ws.map .int)], .int e, .int (cut : Nat)] = some (.tuple (piecesL e t n ws cut)) := by
  have hc : cut = 1 ∨ cut = 2 ∨ cut = 3 ∨ cut = 4 := by omega
  match ws, h with
  | [], _ => rcases hc with rfl | rfl | rfl | rfl <;> kernel_rfl
  | [a], _ => rcases hc with rfl | rfl | rfl | rfl <;> kernel_rfl
  | [a, b], _ => rcases hc with rfl | rfl | rfl | rfl <;> kernel_rfl
  | [a, b, c], _ => rcases hc with rfl | rfl | rfl | rfl <;> kernel_rfl
  | [a, b, c, d], _ => rcases hc with rfl | rfl | rfl | rfl <;> kernel_rfl
  | [a, b, c, d, f], _ => rcases hc with rfl | rfl | rfl | rfl <;> kernel_rfl
  | [a, b, c, d, f, g], _ => rcases hc with rfl | rfl | rfl | rfl <;> kernel_rfl
  | [a, b, c, d, f, g, i], _ => rcases hc with rfl | rfl | rfl | rfl <;> kernel_rfl
  | [a, b, c, d, f, g, i, j], _ => rcases hc with rfl | rfl | rfl | rfl <;> kernel_rfl
  | _ :: _ :: _ :: _ :: _ :: _ :: _ :: _ :: _ :: _, h => simp at h
/-! what a bent one is -/
def bentD (e : Int) (t : D) (n i p : Int) (ws : List Int) (s : Int) (k : Nat) : D := if k < ws.length then pcD e t n i p (ws.set k (ws.getD k 0 + 1)) s else pcD e t n i p ws ((s + 1).fmod 10007)
theorem bent_eq (e : Int) (t : D) (n i p : Int) (ws : List Int) (s : Int) (k : Nat) (h : ws.length ≤ 4) (hk : k < 3) : m_bent [pcD e t n i p ws s, .int (k : Nat)] = some (bentD e t n i p ws s k) := by
  have hc : k = 0 ∨ k = 1 ∨ k = 2 := by omega
  match ws, h with
  | [], _ => rcases hc with rfl | rfl | rfl <;> kernel_rfl
  | [a], _ => rcases hc with rfl | rfl | rfl <;> kernel_rfl
  | [a, b], _ => rcases hc with rfl | rfl | rfl <;> kernel_rfl
  | [a, b, c], _ => rcases hc with rfl | rfl | rfl <;> kernel_rfl
  | [a, b, c, d], _ => rcases hc with rfl | rfl | rfl <;> kernel_rfl
  | _ :: _ :: _ :: _ :: _ :: _, h => simp at h
theorem right_eq (e : Int) (t : D) (n i p : Int) (ws : List Int) (s : Int) (h : ws.length ≤ 4) : m_is_right [pcD e t n i p ws s] = some (.bool (PyData.eqv (.int s) (.int (SD e n i p ws)))) := by
  match ws, h with
  | [], _ => kernel_rfl
  | [a], _ => kernel_rfl
  | [a, b], _ => kernel_rfl
  | [a, b, c], _ => kernel_rfl
  | [a, b, c, d], _ => kernel_rfl
  | _ :: _ :: _ :: _ :: _ :: _, h => simp at h
theorem eqv_int (a b : Int) : PyData.eqv (.int a) (.int b) = decide (a = b) := by
  simp only [PyData.eqv]
  by_cases h : a = b
  · simp [h]
  · simp [h]
theorem right_ok (e : Int) (t : D) (n i p : Int) (ws : List Int) (h : ws.length ≤ 4) : m_is_right [pcR e t n i p ws] = some (.bool true) := by
  unfold pcR
  rw [right_eq _ _ _ _ _ _ _ h, eqv_int]
  simp
theorem weigh_set (j : Int) : ∀ (ws : List Int) (k : Nat), k < ws.length → (weigh j (ws.set k (ws.getD k 0 + 1))).sum = (weigh j ws).sum + (j + k)
  | [], k, h => by simp at h
  | x :: xs, 0, _ => by
    simp [weigh, Int.mul_add]
    omega
  | x :: xs, k + 1, h => by
    have := weigh_set (j + 1) xs k (by simpa using h)
    simp only [List.set_cons_succ, List.getD_cons_succ, weigh, List.sum_cons]
    rw [this]
    push_cast
    omega
theorem fmod_em (a : Int) : a.fmod 10007 = a % 10007 := Int.fmod_eq_emod_of_nonneg a (by decide)
theorem SD_em (e n i p : Int) (ws : List Int) : SD e n i p ws = (1 * e + (2 * n + (3 * i + (4 * p + (weigh 5 ws).sum)))) % 10007 := by
  unfold SD
  rw [fmod_em]
  rfl
theorem bent_wrong (e : Int) (t : D) (n i p : Int) (ws : List Int) (k : Nat) (h : ws.length ≤ 4) (hk : k < 3) : ∃ ws' s', bentD e t n i p ws (SD e n i p ws) k = pcD e t n i p ws' s' ∧ ws'.length ≤ 4 ∧ m_is_right [pcD e t n i p ws' s'] = some (.bool false) := by
  unfold bentD
  split
  · rename_i hl
    refine ⟨_, _, rfl, by simpa using h, ?_⟩
    rw [right_eq _ _ _ _ _ _ _ (by simpa using h), eqv_int]
    have : SD e n i p ws ≠ SD e n i p (ws.set k (ws.getD k 0 + 1)) := by
      rw [SD_em, SD_em, weigh_set 5 ws k hl]
      omega
    rw [decide_eq_false this]
  · refine ⟨_, _, rfl, h, ?_⟩
    rw [right_eq _ _ _ _ _ _ _ h, eqv_int]
    have : (SD e n i p ws + 1).fmod 10007 ≠ SD e n i p ws := by
      rw [fmod_em, SD_em]
      omega
    simp [this]
/-! pieces are fine -/
theorem ints_fine : ∀ ws : List Int, PyData.canLayAll0 (ws.map .int) = true ∧ PyData.depthAll (ws.map .int) ≤ 1 ∧ noLs (ws.map .int) = true
  | [] => ⟨rfl, Nat.zero_le _, rfl⟩
  | x :: xs => by
    obtain ⟨h1, h2, h3⟩ := ints_fine xs
    refine ⟨by simp [PyData.canLayAll0, PyData.canLay0, h1], ?_, by simp [noLs, noL, h3]⟩
    simp only [List.map_cons, PyData.depthAll, PyData.depth]
    omega
theorem pc_fine {e : Int} {t : D} (ht : t ∈ TALKS) {n i p : Int} {ws : List Int} {s : Int} : noL (pcD e t n i p ws s) = true ∧ (pcD e t n i p ws s).canLay0 = true ∧ (pcD e t n i p ws s).depth ≤ 20 := by
  obtain ⟨h1, h2, h3⟩ := talk_sh t ht
  obtain ⟨w1, w2, w3⟩ := ints_fine ws
  unfold pcD
  refine ⟨by simp [noL, noLs, h3, w3], by simp [PyData.canLay0, PyData.canLayAll0, h1, w1], ?_⟩
  simp only [PyData.depthAll, PyData.depth]
  omega
theorem chunk_le (ws : List Int) (cut i : Nat) (h : cut ≤ 4) : (chunk ws cut i).length ≤ 4 := by
  unfold chunk
  rw [List.length_take]
  omega
theorem parts_le {len cut : Nat} (h : len ≤ 8) (h1 : 1 ≤ cut) : 1 ≤ nParts len cut ∧ nParts len cut ≤ 8 := by
  unfold nParts
  refine ⟨Nat.le_max_left _ _, Nat.max_le.mpr ⟨by omega, ?_⟩⟩
  have h3 : (len + cut - 1) / cut < 9 := by
    rw [Nat.div_lt_iff_lt_mul (by omega)]
    have : 8 * 1 ≤ 8 * cut := Nat.mul_le_mul_left 8 h1
    omega
  omega
theorem hasPieces : HasPieces := fun t ht n ws e cut hl h1 h2 => by
  obtain ⟨c, rfl⟩ : ∃ c : Nat, cut = (c : Int) := ⟨cut.toNat, by omega⟩
  have hp := parts_le (len := ws.length) (cut := c) hl (by omega)
  refine ⟨piecesL e t n ws c, pieces_eq e t n ws c hl (by omega) (by omega), by simpa [piecesL] using hp.1, by simpa [piecesL] using hp.2, fun d hd => ?_⟩
  obtain ⟨i, hi, rfl⟩ := List.mem_map.mp hd
  obtain ⟨f1, f2, f3⟩ := pc_fine (e := e) ht (n := n) (i := (i : Nat)) (p := (nParts ws.length c : Nat)) (ws := chunk ws c i) (s := SD e n (i : Nat) (nParts ws.length c : Nat) (chunk ws c i))
  refine ⟨f1, f2, f3, fun k k0 k1 => ?_⟩
  obtain ⟨k, rfl⟩ : ∃ m : Nat, k = (m : Int) := ⟨k.toNat, by omega⟩
  exact ⟨_, bent_eq e t n i _ _ _ k (chunk_le ws c i (by omega)) (by omega)⟩
end CR
/-! PlB -/
set_option maxHeartbeats 4000000
namespace CR
open PySem PySem.Spec L2
open PyProof.Rows hiding St
/-! ### a def's value, step by step -/
section
variable {F G : Stm} {ρ ρ' : DEnv} {d : D} {r : Option Res} {n i : Nat} {ds : List D} {c : DEnv → Option Bool} {f : DEnv → Option D} {b : Bool}
theorem run_rt (h : F (startD n ds) = some (.rt d)) : runD n F ds = some d := by
  unfold runD
  rw [h]
  rfl
theorem seq_nx (h1 : F ρ = some (.nx ρ')) (h2 : G ρ' = r) : sSeq F G ρ = r := by
  unfold sSeq
  rw [h1]
  exact h2
theorem seq_rt (h1 : F ρ = some (.rt d)) : sSeq F G ρ = some (.rt d) := by
  unfold sSeq
  rw [h1]
  rfl
theorem if_t (h : c ρ = some b) (hb : b = true) (k : F ρ = r) : sIf c F G ρ = r := by
  subst hb
  unfold sIf
  rw [h]
  exact k
theorem if_f (h : c ρ = some b) (hb : b = false) (k : G ρ = r) : sIf c F G ρ = r := by
  subst hb
  unfold sIf
  rw [h]
  exact k
theorem ret_ (h : f ρ = some d) : sRet f ρ = some (.rt d) := by
  unfold sRet
  rw [h]
  rfl
theorem set_ (h : f ρ = some d) : sSet i f ρ = some (.nx (ρ.set i (some d))) := by
  unfold sSet
  rw [h]
  rfl
theorem ac_ {g : DEnv → Option (List D)} (h1 : f ρ = some d) (h2 : g ρ = some ds) : aCons f g ρ = some (d :: ds) := by
  unfold aCons
  rw [h1, h2]
  rfl
theorem an_ : aNil ρ = some [] := rfl
theorem call_ {m : List D → Option D} {g : DEnv → Option (List D)} (h : g ρ = some ds) (hn : ds.length = n) : eCall n [] m g ρ = m ds := by
  unfold eCall
  rw [h]
  show (if (ds ++ []).length = n then m (ds ++ []) else none) = m ds
  rw [List.append_nil, if_pos hn]
theorem tup_ {g : DEnv → Option (List D)} (h : g ρ = some ds) (hn : ds.length ≤ 1000 := by simp) : eTup g ρ = some (.tuple ds) := by
  unfold eTup
  rw [h]
  exact if_pos hn
theorem ife_ {g : DEnv → Option D} {x : D} (h : c ρ = some b) (k : (if b = true then f ρ else g ρ) = some x) : eIf c f g ρ = some x := by
  unfold eIf
  rw [h]
  exact k
theorem an2_ {g : DEnv → Option D} {x : D} (h : tOf f ρ = some b) (k : (if b = true then g ρ else some (.bool false)) = some x) : eAn f g ρ = some x := by
  unfold eAn
  rw [h]
  exact k
theorem nil_ : sNil ρ = some (.nx ρ) := rfl
end
/-! ### joinings -/
structure Jn where
  e : Int
  n : Int
  p : Int
  later : Int
  ws : List Int
def jD : Option Jn → D
  | none => .none
  | some j => .tuple [.int j.e, .int j.n, .int j.p, .int j.later, .tuple (j.ws.map .int)]
def goesD : Option Jn → D
  | none => .none
  | some j => if 0 < j.later then .int j.n else .none
theorem going_eq (j : Option Jn) : m_going_on [jD j] = some (goesD j) := by
  cases j with
  | none => kernel_rfl
  | some j =>
    unfold goesD
    by_cases h : 0 < j.later
    · simp only [h, if_true]
      have e : (decide (0 < j.later)) = true := decide_eq_true h
      have k : m_going_on [jD (some j)] = if decide (0 < j.later) = true then some (.int j.n) else some .none := by
        have hb : tAn (tOf (eBin gNotN (eVar 0) (eC .none))) (tOf (eBin (gB2 fun i j => decide (j < i)) (eBin gIx (eVar 0) (eC (.int 3))) (eC (.int 0)))) (startD 1 [jD (some j)]) = some (decide (0 < j.later)) := by kernel_rfl
        unfold m_going_on
        refine (run_rt (ret_ (d := if decide (0 < j.later) = true then .int j.n else .none) ?_)).trans (by split <;> rfl)
        unfold eIf
        rw [hb]
        by_cases q : 0 < j.later
        · rw [decide_eq_true q]; kernel_rfl
        · rw [decide_eq_false q]; kernel_rfl
      rw [k, if_pos e]
    · simp only [h, if_false]
      have hb : tAn (tOf (eBin gNotN (eVar 0) (eC .none))) (tOf (eBin (gB2 fun i j => decide (j < i)) (eBin gIx (eVar 0) (eC (.int 3))) (eC (.int 0)))) (startD 1 [jD (some j)]) = some (decide (0 < j.later)) := by kernel_rfl
      unfold m_going_on
      refine run_rt (ret_ ?_)
      unfold eIf
      rw [hb, decide_eq_false h]
      kernel_rfl
def goB (j : Option Jn) (e n i p : Int) : Bool := match j with
  | none => false
  | some j => decide (0 < j.later) && (decide (e = j.e) && (decide (n = j.n) && (decide (p = j.p) && decide (i = j.later))))
theorem goes_eq (j : Option Jn) (e : Int) (t : D) (n i p : Int) (ws : List Int) (s : Int) : m_does_go_on [jD j, pcD e t n i p ws s] = some (.bool (goB j e n i p)) := by
  unfold m_does_go_on
  have ht : tOf (eBin gIsN (eCall 1 [] m_going_on (aCons (eVar 0) (aNil))) (eC .none)) (startD 7 [jD j, pcD e t n i p ws s]) = ((m_going_on [jD j]).bind fun x => gIsN x .none).bind bOf := by kernel_rfl
  rw [going_eq] at ht
  cases j with
  | none => exact run_rt (seq_rt (if_t (ht.trans (by kernel_rfl)) rfl (ret_ (by kernel_rfl))))
  | some j =>
    by_cases h : 0 < j.later
    · have e1 : goesD (some j) = .int j.n := if_pos h
      rw [e1] at ht
      refine run_rt (seq_nx (if_f (ht.trans (by kernel_rfl)) rfl nil_) (seq_nx (ρ' := [some (jD (some j)), some (pcD e t n i p ws s), some (.int j.e), some (.int j.n), some (.int j.p), some (.int j.later), some (.tuple (j.ws.map .int))]) (by kernel_rfl) (ret_ ?_)))
      have : goB (some j) e n i p = PyData.eqv (.tuple [.int e, .int n, .int p, .int i]) (.tuple [.int j.e, .int j.n, .int j.p, .int j.later]) := by
        unfold goB
        simp only [PyData.eqv, PyData.eqvAll, decide_eq_true h, Bool.true_and, Bool.and_true]
        congr 1 <;> (try congr 1) <;> (try congr 1) <;> exact (by rw [Bool.eq_iff_iff]; simp)
      rw [this]
      kernel_rfl
    · have e1 : goesD (some j) = .none := if_neg h
      have e2 : goB (some j) e n i p = false := by unfold goB; simp [h]
      rw [e1] at ht
      rw [e2]
      exact run_rt (seq_rt (if_t (ht.trans (by kernel_rfl)) rfl (ret_ (by kernel_rfl))))
def beB (j : Option Jn) (e n i : Int) : Bool := decide (i = 0) && match j with
  | none => true
  | some j => if e = j.e then decide (j.n < n) else decide (j.e < e)
theorem begins_eq (j : Option Jn) (e : Int) (t : D) (n i p : Int) (ws : List Int) (s : Int) : m_does_begin [jD j, pcD e t n i p ws s] = some (.bool (beB j e n i)) := by
  unfold m_does_begin
  refine run_rt (ret_ ?_)
  have h1 : tOf (eBin gEq (eBin gIx (eVar 1) (eC (.int 3))) (eC (.int 0))) (startD 2 [jD j, pcD e t n i p ws s]) = some (PyData.eqv (.int i) (.int 0)) := by cases j <;> kernel_rfl
  rw [eqv_int] at h1
  unfold eAn
  rw [h1]
  unfold beB
  by_cases h : i = 0
  · rw [decide_eq_true h]
    cases j with
    | none => kernel_rfl
    | some j => kernel_rfl
  · rw [decide_eq_false h]
    cases j <;> rfl
def wpD (e : Int) (t : D) (n i p : Int) (words : List Int) (lost : D) : D := if i + 1 = p then .tuple [jD (some ⟨e, n, p, 0, []⟩), .str "whole", lost, .tuple [t, .int n, .tuple (words.map .int)]] else .tuple [jD (some ⟨e, n, p, i + 1, words⟩), .str (if i = 0 then "begun" else "on"), lost, .none]
theorem with_part_eq (e : Int) (t : D) (n i p : Int) (own : List Int) (s : Int) (ws : List Int) (lost : D) (hl : ws.length + own.length ≤ 1000) : m_with_part [pcD e t n i p own s, .tuple (ws.map .int), lost] = some (wpD e t n i p (ws ++ own) lost) := by
  unfold m_with_part
  refine run_rt (seq_nx (ρ' := [some (pcD e t n i p own s), some (.tuple (ws.map .int)), some lost, some (.int e), some t, some (.int n), some (.int i), some (.int p), some (.tuple (own.map .int)), some (.int s)]) (by kernel_rfl) (seq_nx (ρ' := [some (pcD e t n i p own s), some (.tuple ((ws ++ own).map .int)), some lost, some (.int e), some t, some (.int n), some (.int i), some (.int p), some (.tuple (own.map .int)), some (.int s)]) ?_ ?_))
  · show ((gCat (.tuple (ws.map .int)) (.tuple (own.map .int))).map fun d => Res.nx _) = _
    have hg : gCat (.tuple (ws.map .int)) (.tuple (own.map .int)) = some (.tuple ((ws ++ own).map .int)) := by
      rw [List.map_append]
      exact if_pos (by rw [List.length_map, List.length_map]; exact hl)
    rw [hg]
    rfl
  · generalize ws ++ own = words
    have h1 : tOf (eBin gEq (eBin gAdd (eVar 6) (eC (.int 1))) (eVar 7)) [some (pcD e t n i p own s), some (.tuple (words.map .int)), some lost, some (.int e), some t, some (.int n), some (.int i), some (.int p), some (.tuple (own.map .int)), some (.int s)] = some (PyData.eqv (.int (i + 1)) (.int p)) := by kernel_rfl
    rw [eqv_int] at h1
    unfold wpD
    by_cases h : i + 1 = p
    · rw [if_pos h]
      exact seq_rt (if_t h1 (decide_eq_true h) (ret_ (by kernel_rfl)))
    · rw [if_neg h]
      refine seq_nx (if_f h1 (decide_eq_false h) nil_) (ret_ ?_)
      have h2 : tOf (eBin gEq (eVar 6) (eC (.int 0))) [some (pcD e t n i p own s), some (.tuple (words.map .int)), some lost, some (.int e), some t, some (.int n), some (.int i), some (.int p), some (.tuple (own.map .int)), some (.int s)] = some (PyData.eqv (.int i) (.int 0)) := by kernel_rfl
      rw [eqv_int] at h2
      by_cases q : i = 0
      · rw [if_pos q]
        rw [decide_eq_true q] at h2
        have h3 : eIf (tOf (eBin gEq (eVar 6) (eC (.int 0)))) (eC (.str "begun")) (eC (.str "on")) [some (pcD e t n i p own s), some (.tuple (words.map .int)), some lost, some (.int e), some t, some (.int n), some (.int i), some (.int p), some (.tuple (own.map .int)), some (.int s)] = some (.str "begun") := by
          unfold eIf; rw [h2]; rfl
        unfold eTup aCons
        rw [h3]
        kernel_rfl
      · rw [if_neg q]
        rw [decide_eq_false q] at h2
        have h3 : eIf (tOf (eBin gEq (eVar 6) (eC (.int 0)))) (eC (.str "begun")) (eC (.str "on")) [some (pcD e t n i p own s), some (.tuple (words.map .int)), some lost, some (.int e), some t, some (.int n), some (.int i), some (.int p), some (.tuple (own.map .int)), some (.int s)] = some (.str "on") := by
          unfold eIf; rw [h2]; rfl
        unfold eTup aCons
        rw [h3]
        kernel_rfl
/-! ### what comes of a piece -/
theorem came_wrong (j : Option Jn) (d : D) (h : m_is_right [d] = some (.bool false)) : m_came_of [jD j, d] = some (.tuple [jD j, .str "sum", .none, .none]) := by
  unfold m_came_of
  have h1 : tNt (tOf (eCall 1 [] m_is_right (aCons (eVar 1) (aNil)))) (startD 3 [jD j, d]) = ((m_is_right [d]).bind bOf).map not := by kernel_rfl
  rw [h] at h1
  exact run_rt (seq_rt (if_t h1 rfl (ret_ (by kernel_rfl))))
def ltB (j : Option Jn) (e n : Int) : Bool := match j with
  | none => false
  | some j => HT.lexLt [e, n] [j.e, j.n]
def cameD (j : Option Jn) (e : Int) (t : D) (n i p : Int) (ws : List Int) : D :=
  if goB j e n i p = true then wpD e t n i p ((j.map (·.ws)).getD [] ++ ws) .none
  else if beB j e n i = true then wpD e t n i p ws (goesD j)
  else .tuple [jD j, .str (if ltB j e n = true then "elder" else "cut"), .none, .none]
theorem came_right (j : Option Jn) (e : Int) (t : D) (n i p : Int) (ws : List Int) (hw : ws.length ≤ 4) (hj : ∀ x, j = some x → x.ws.length ≤ 900) : m_came_of [jD j, pcR e t n i p ws] = some (cameD j e t n i p ws) := by
  unfold m_came_of
  have h1 : tNt (tOf (eCall 1 [] m_is_right (aCons (eVar 1) (aNil)))) (startD 3 [jD j, pcR e t n i p ws]) = ((m_is_right [pcR e t n i p ws]).bind bOf).map not := by kernel_rfl
  rw [right_ok _ _ _ _ _ _ hw] at h1
  have h2 : tOf (eCall 2 [] m_does_go_on (aCons (eVar 0) (aCons (eVar 1) (aNil)))) (startD 3 [jD j, pcR e t n i p ws]) = (m_does_go_on [jD j, pcR e t n i p ws]).bind bOf := by kernel_rfl
  rw [show m_does_go_on [jD j, pcR e t n i p ws] = some (.bool (goB j e n i p)) from goes_eq j e t n i p ws _] at h2
  have h3 : tOf (eCall 2 [] m_does_begin (aCons (eVar 0) (aCons (eVar 1) (aNil)))) (startD 3 [jD j, pcR e t n i p ws]) = (m_does_begin [jD j, pcR e t n i p ws]).bind bOf := by kernel_rfl
  rw [show m_does_begin [jD j, pcR e t n i p ws] = some (.bool (beB j e n i)) from begins_eq j e t n i p ws _] at h3
  unfold cameD
  refine run_rt (seq_nx (if_f h1 rfl nil_) ?_)
  by_cases g : goB j e n i p = true
  · rw [if_pos g]
    cases j with
    | none => cases g
    | some j =>
      refine seq_rt (if_t h2 g (ret_ ?_))
      have h4 : eCall 3 [] m_with_part (aCons (eVar 1) (aCons (eBin gIx (eVar 0) (eC (.int 4))) (aCons (eC .none) (aNil)))) (startD 3 [jD (some j), pcR e t n i p ws]) = m_with_part [pcR e t n i p ws, .tuple (j.ws.map .int), .none] := by kernel_rfl
      rw [h4]
      exact with_part_eq e t n i p ws _ j.ws .none (by have := hj j rfl; omega)
  · rw [if_neg g]
    refine seq_nx (if_f h2 (by simpa using g) nil_) ?_
    by_cases b : beB j e n i = true
    · rw [if_pos b]
      refine seq_rt (if_t h3 b (ret_ ?_))
      have h4 := call_ (n := 3) (m := m_with_part) (ac_ (f := eVar 1) (ρ := startD 3 [jD j, pcR e t n i p ws]) (d := pcR e t n i p ws) (by kernel_rfl) (ac_ (f := eTup (aNil)) (d := .tuple ([].map .int)) (by kernel_rfl) (ac_ (f := eCall 1 [] m_going_on (aCons (eVar 0) (aNil))) ((call_ (ds := [jD j]) (by kernel_rfl) rfl).trans (going_eq j)) an_))) rfl
      rw [h4]
      exact with_part_eq e t n i p ws _ [] (goesD j) (by simp; omega)
    · rw [if_neg b]
      refine seq_nx (if_f h3 (by simpa using b) nil_) ?_
      have h5 : eAn (eBin gNotN (eVar 0) (eC .none)) (eBin gLtT (eTup (aCons (eBin gIx (eVar 1) (eC (.int 0))) (aCons (eBin gIx (eVar 1) (eC (.int 2))) (aNil)))) (eSl (eVar 0) (pNo) (pSo (eC (.int 2))))) (startD 3 [jD j, pcR e t n i p ws]) = some (.bool (ltB j e n)) := by
        cases j <;> kernel_rfl
      refine seq_nx (set_ h5) (ret_ (tup_ (ac_ (d := jD j) (by kernel_rfl) (ac_ (d := .str (if ltB j e n = true then "elder" else "cut")) (ife_ (b := ltB j e n) (by kernel_rfl) ?_) (ac_ (d := .none) (by kernel_rfl) (ac_ (d := .none) (by kernel_rfl) an_))))))
      cases ltB j e n <;> rfl
end CR
/-! PlC -/
set_option maxHeartbeats 4000000
namespace CR
open PySem PySem.Spec L2
open PyProof.Rows hiding St
/-! ### a thing in a tuple turned -/
theorem cut_to (xs : List D) (k : Nat) (h : k ≤ xs.length) : cutD xs none (some (k : Int)) = xs.take k := by
  unfold cutD
  rw [HT.sIx_nat, HT.sIx_none]
  simp [Nat.min_eq_left h]
theorem cut_from (xs : List D) (k : Nat) (h : k ≤ xs.length) : cutD xs (some (k : Int)) none = xs.drop k := by
  unfold cutD
  rw [HT.sIx_nat, HT.sIx_none, Nat.min_eq_left h]
  rw [List.take_of_length_le]
  rw [List.length_drop]
  omega
theorem cut_mid (xs : List D) (a b : Nat) (h : a ≤ b) (hb : b ≤ xs.length) : cutD xs (some (a : Int)) (some (b : Int)) = (xs.drop a).take (b - a) := by
  unfold cutD
  rw [HT.sIx_nat, HT.sIx_nat, Nat.min_eq_left (Nat.le_trans h hb), Nat.min_eq_left hb]
theorem set_cut : ∀ (xs : List D) (k : Nat) (y : D), k < xs.length → xs.take k ++ [y] ++ xs.drop (k + 1) = xs.set k y
  | [], k, y, h => by simp at h
  | x :: xs, 0, y, _ => by simp
  | x :: xs, k + 1, y, h => by
    have := set_cut xs k y (by simpa using h)
    simp only [List.take_succ_cons, List.drop_succ_cons, List.set_cons_succ, List.cons_append]
    rw [← this]
theorem gAdd_tup {xs ys : List D} (h : xs.length + ys.length ≤ 1000) : gAdd (.tuple xs) (.tuple ys) = some (.tuple (xs ++ ys)) := if_pos h
theorem bin_ {g : Op2} {f1 f2 : DEnv → Option D} {ρ : DEnv} {x y : D} {r : Option D} (h1 : f1 ρ = some x) (h2 : f2 ρ = some y) (h : g x y = r) : eBin g f1 f2 ρ = r := by
  unfold eBin
  rw [h1, h2]
  exact h
theorem sl_ {f : DEnv → Option D} {lo hi : DEnv → Option (Option Int)} {ρ : DEnv} {xs : List D} {l u : Option Int} (h1 : f ρ = some (.tuple xs)) (h2 : lo ρ = some l) (h3 : hi ρ = some u) : eSl f lo hi ρ = some (.tuple (cutD xs l u)) := by
  unfold eSl
  rw [h1, h2, h3]
  rfl
theorem ps_ {f : DEnv → Option D} {ρ : DEnv} {i : Int} (h : f ρ = some (.int i)) : pSo f ρ = some (some i) := by
  unfold pSo
  rw [h]
  rfl
theorem laid_eq (xs : List D) (k : Nat) (y : D) (h : k < xs.length) (hl : xs.length ≤ 900) : m_laid [.tuple xs, .int (k : Nat), y] = some (.tuple (xs.set k y)) := by
  unfold m_laid
  refine run_rt (ret_ ?_)
  refine (bin_ (bin_ (sl_ (xs := xs) (u := some (k : Int)) rfl rfl (ps_ rfl)) (tup_ (ds := [y]) rfl) (gAdd_tup (by rw [cut_to _ _ (Nat.le_of_lt h)]; simp; omega))) (sl_ (xs := xs) (l := some ((k + 1 : Nat) : Int)) rfl (ps_ (bin_ (x := .int (k : Int)) (y := .int 1) rfl rfl rfl)) rfl) (gAdd_tup ?_)).trans ?_
  · rw [cut_to _ _ (Nat.le_of_lt h), cut_from _ _ h]
    simp
    omega
  · rw [cut_to _ _ (Nat.le_of_lt h), cut_from _ _ h, set_cut xs k y h]
theorem turned_eq (xs : List D) (k : Nat) (y : D) (h : k < xs.length) (hl : xs.length ≤ 900) : m_turned_at [.tuple xs, .int (k : Nat), y] = some (.tuple (xs.set k y)) := laid_eq xs k y h hl
theorem ix_eq {xs : List D} {k : Nat} {d : D} (h : xs[k]? = some d) : gIx (.tuple xs) (.int (k : Nat)) = some d := atI_nat h
end CR
/-! PlD -/
set_option maxHeartbeats 4000000
namespace CR
open PySem PySem.Spec L2
open PyProof.Rows hiding St
/-! ### rings -/
section
variable {F1 : Stm} {F2 : Stm} {G : DEnv → Option ResX} {ρ ρ' : DEnv} {r : Option ResX} {rr : Res} {fc : DEnv → Option Bool} {b : Bool} {n : Nat} {ds : List D} {d : D} {X1 : DEnv → Option ResX}
theorem xc_nx (h1 : F1 ρ = some (.nx ρ')) (h2 : G ρ' = r) : gXc F1 G ρ = r := by
  unfold gXc
  rw [h1]
  exact h2
theorem xi_t (h : fc ρ = some b) (hb : b = true) : gXi fc F2 ρ = some .ex := by
  subst hb
  unfold gXi
  rw [h]
  rfl
theorem xi_f (h : fc ρ = some b) (hb : b = false) (k : F2 ρ = some rr) : gXi fc F2 ρ = some (.r rr) := by
  subst hb
  unfold gXi
  rw [h]
  show (F2 ρ).map ResX.r = _
  rw [k]
  rfl
theorem xx_nx (h1 : X1 ρ = some (.r (.nx ρ'))) (k : F2 ρ' = some rr) : gXx X1 F2 ρ = some (.r rr) := by
  unfold gXx
  rw [h1]
  show (F2 ρ').map ResX.r = _
  rw [k]
  rfl
theorem xx_ex (h1 : X1 ρ = some .ex) : gXx X1 F2 ρ = some .ex := by
  unfold gXx
  rw [h1]
  rfl
theorem runX_rt {F : DEnv → Option ResX} (h : F (startD n ds) = some (.r (.rt d))) : runX n F ds = some (.r d) := by
  unfold runX
  rw [h]
  rfl
theorem runX_ex {F : DEnv → Option ResX} (h : F (startD n ds) = some .ex) : runX n F ds = some .ex := by
  unfold runX
  rw [h]
  rfl
theorem try_r {i j : Nat} {m : List D → Option RX} {g : DEnv → Option (List D)} (h : g ρ = some ds) (hn : ds.length = n) (hm : m ds = some (.r d)) : sTry i n m g ρ = some (.nx (ρ.set i (some d))) := by
  unfold sTry
  rw [h]
  show (if ds.length = n then _ else _) = _
  rw [if_pos hn, hm]
  rfl
theorem try_ex {i j : Nat} {m : List D → Option RX} {g : DEnv → Option (List D)} (h : g ρ = some ds) (hn : ds.length = n) (hm : m ds = some .ex) : sTry i n m g ρ = some (.nx (ρ.set i (some .none))) := by
  unfold sTry
  rw [h]
  show (if ds.length = n then _ else _) = _
  rw [if_pos hn, hm]
  rfl
theorem xs_r {i j : Nat} {m : List D → Option RX} {g : DEnv → Option (List D)} (h : g ρ = some ds) (hn : ds.length = n) (hm : m ds = some (.r d)) : gXs i n m g ρ = some (.r (.nx (ρ.set i (some d)))) := by
  unfold gXs
  rw [h]
  show (if ds.length = n then _ else _) = _
  rw [if_pos hn, hm]
  rfl
theorem xs_ex {i j : Nat} {m : List D → Option RX} {g : DEnv → Option (List D)} (h : g ρ = some ds) (hn : ds.length = n) (hm : m ds = some .ex) : gXs i n m g ρ = some .ex := by
  unfold gXs
  rw [h]
  show (if ds.length = n then _ else _) = _
  rw [if_pos hn, hm]
  rfl
end
def SZ : List Nat := [1, 2, 4, 8]
def ringD (sz made done : Nat) (things : List D) : D := .tuple [.int (sz : Nat), .int (made : Nat), .int (done : Nat), .tuple things]
def held (sz made done : Nat) : Nat := (made + 2 * sz - done) % (2 * sz)
theorem fmodN (a b : Nat) (h : 0 < b) : ((a : Nat) : Int).fmod (b : Nat) = ((a % b : Nat) : Int) := by
  rw [Int.fmod_eq_emod_of_nonneg _ (by omega)]
  rfl
theorem held_eq {sz made done : Nat} {things : List D} (hs : sz ∈ SZ) (h1 : made < 2 * sz) (h2 : done < 2 * sz) : m_held_in [ringD sz made done things] = some (.int ((held sz made done : Nat) : Int)) := by
  have e : m_held_in [ringD sz made done things] = some (.int ((((made : Nat) : Int) - ((done : Nat) : Int)).fmod (2 * ((sz : Nat) : Int)))) := by
    simp only [SZ, List.mem_cons, List.mem_nil_iff, or_false] at hs
    rcases hs with rfl | rfl | rfl | rfl <;> kernel_rfl
  rw [e]
  congr 2
  unfold held
  rw [Int.fmod_eq_emod_of_nonneg _ (by omega)]
  simp only [SZ, List.mem_cons, List.mem_nil_iff, or_false] at hs
  rcases hs with rfl | rfl | rfl | rfl <;> omega
theorem count_on_eq {sz made : Nat} (hs : sz ∈ SZ) : m_count_on [.int (made : Nat), .int (sz : Nat), .int 1] = some (.int (((made + 1) % (2 * sz) : Nat) : Int)) := by
  have e : m_count_on [.int (made : Nat), .int (sz : Nat), .int 1] = some (.int ((((made : Nat) : Int) + 1).fmod (2 * ((sz : Nat) : Int)))) := by
    simp only [SZ, List.mem_cons, List.mem_nil_iff, or_false] at hs
    rcases hs with rfl | rfl | rfl | rfl <;> kernel_rfl
  rw [e]
  rw [Int.fmod_eq_emod_of_nonneg _ (by omega)]
  rfl
theorem take_ex {sz made done : Nat} {things : List D} (hs : sz ∈ SZ) (h1 : made < 2 * sz) (h2 : done < 2 * sz) (hh : held sz made done = 0) : m_take_out [ringD sz made done things] = some .ex := by
  unfold m_take_out
  refine runX_ex (xc_nx (ρ' := [some (ringD sz made done things), some (.int (sz : Nat)), some (.int (made : Nat)), some (.int (done : Nat)), some (.tuple things)]) (by kernel_rfl) (xi_t (b := true) ?_ rfl))
  have : tOf (eBin gEq (eCall 1 [] m_held_in (aCons (eVar 0) (aNil))) (eC (.int 0))) [some (ringD sz made done things), some (.int (sz : Nat)), some (.int (made : Nat)), some (.int (done : Nat)), some (.tuple things)] = ((m_held_in [ringD sz made done things]).bind fun x => gEq x (.int 0)).bind bOf := by kernel_rfl
  rw [this, held_eq hs h1 h2, hh]
  kernel_rfl
theorem gEq_int (a b : Int) : gEq (.int a) (.int b) = some (.bool (decide (a = b))) := by
  have : gEq (.int a) (.int b) = some (.bool (PyData.eqv (.int a) (.int b))) := by kernel_rfl
  rw [this, eqv_int]
theorem call1_ {n : Nat} {m : List D → Option D} {g : DEnv → Option (List D)} {ρ : DEnv} {ds : List D} {x : D} (h : g ρ = some ds) (hn : ds.length = n) : eCall (n + 1) [x] m g ρ = m (ds ++ [x]) := by
  unfold eCall
  rw [h]
  show (if (ds ++ [x]).length = n + 1 then m (ds ++ [x]) else none) = m (ds ++ [x])
  rw [if_pos (by simp [hn])]
theorem sz_pos {sz : Nat} (hs : sz ∈ SZ) : 0 < sz ∧ sz ≤ 8 := by
  simp only [SZ, List.mem_cons, List.mem_nil_iff, or_false] at hs
  rcases hs with rfl | rfl | rfl | rfl <;> omega
theorem mod_eq {a b : Nat} (h : 0 < b) : gMod (.int (a : Nat)) (.int (b : Nat)) = some (.int ((a % b : Nat) : Int)) := by
  show (if cMod (a : Int) (b : Int) = true then _ else _) = _
  rw [if_pos (by unfold cMod; exact decide_eq_true (by omega))]
  show some (PyData.int (((a : Nat) : Int).fmod (b : Nat))) = _
  rw [fmodN a b h]
theorem take_ok {sz made done : Nat} {things : List D} {x : D} (hs : sz ∈ SZ) (h1 : made < 2 * sz) (h2 : done < 2 * sz) (hl : things.length = sz) (hh : held sz made done ≠ 0) (hx : things[done % sz]? = some x) :
    m_take_out [ringD sz made done things] = some (.r (.tuple [ringD sz made ((done + 1) % (2 * sz)) (things.set (done % sz) .none), x])) := by
  obtain ⟨p1, p2⟩ := sz_pos hs
  unfold m_take_out
  refine runX_rt (xc_nx (ρ' := [some (ringD sz made done things), some (.int (sz : Nat)), some (.int (made : Nat)), some (.int (done : Nat)), some (.tuple things)]) (by kernel_rfl) (xi_f (b := false) ?_ rfl ?_))
  · have : tOf (eBin gEq (eCall 1 [] m_held_in (aCons (eVar 0) (aNil))) (eC (.int 0))) [some (ringD sz made done things), some (.int (sz : Nat)), some (.int (made : Nat)), some (.int (done : Nat)), some (.tuple things)] = ((m_held_in [ringD sz made done things]).bind fun x => gEq x (.int 0)).bind bOf := by kernel_rfl
    rw [this, held_eq hs h1 h2]
    show ((gEq (.int ((held sz made done : Nat) : Int)) (.int 0))).bind bOf = _
    rw [gEq_int, decide_eq_false (by omega)]
    rfl
  · refine ret_ (tup_ (ac_ (d := ringD sz made ((done + 1) % (2 * sz)) (things.set (done % sz) .none)) (tup_ (ac_ (d := .int (sz : Nat)) rfl (ac_ (d := .int (made : Nat)) rfl (ac_ (d := .int (((done + 1) % (2 * sz) : Nat) : Int)) ((call1_ (n := 2) (ds := [.int (done : Nat), .int (sz : Nat)]) (ac_ rfl (ac_ rfl an_)) rfl).trans (count_on_eq hs)) (ac_ (d := .tuple (things.set (done % sz) .none)) ((call_ (ds := [.tuple things, .int ((done % sz : Nat) : Int), .none]) (ac_ rfl (ac_ (bin_ (x := .int (done : Nat)) (y := .int (sz : Nat)) rfl rfl (mod_eq p1)) (ac_ rfl an_))) rfl).trans (laid_eq _ _ _ (by rw [hl]; exact Nat.mod_lt _ p1) (by omega))) an_))))) (ac_ (d := x) (bin_ (x := .tuple things) (y := .int ((done % sz : Nat) : Int)) rfl (bin_ (x := .int (done : Nat)) (y := .int (sz : Nat)) rfl rfl (mod_eq p1)) (ix_eq hx)) an_)))
theorem put_ex {sz made done : Nat} {things : List D} {x : D} (hs : sz ∈ SZ) (h1 : made < 2 * sz) (h2 : done < 2 * sz) (hh : held sz made done = sz) : m_put_in [ringD sz made done things, x] = some .ex := by
  unfold m_put_in
  refine runX_ex (xc_nx (ρ' := [some (ringD sz made done things), some x, some (.int (sz : Nat)), some (.int (made : Nat)), some (.int (done : Nat)), some (.tuple things)]) (by kernel_rfl) (xi_t (b := true) ?_ rfl))
  have : tOf (eBin gEq (eCall 1 [] m_held_in (aCons (eVar 0) (aNil))) (eVar 2)) [some (ringD sz made done things), some x, some (.int (sz : Nat)), some (.int (made : Nat)), some (.int (done : Nat)), some (.tuple things)] = ((m_held_in [ringD sz made done things]).bind fun y => gEq y (.int (sz : Nat))).bind bOf := by kernel_rfl
  rw [this, held_eq hs h1 h2]
  show ((gEq (.int ((held sz made done : Nat) : Int)) (.int (sz : Nat)))).bind bOf = _
  rw [gEq_int, decide_eq_true (by omega)]
  rfl
theorem put_ok {sz made done : Nat} {things : List D} {x : D} (hs : sz ∈ SZ) (h1 : made < 2 * sz) (h2 : done < 2 * sz) (hl : things.length = sz) (hh : held sz made done ≠ sz) :
    m_put_in [ringD sz made done things, x] = some (.r (ringD sz ((made + 1) % (2 * sz)) done (things.set (made % sz) x))) := by
  obtain ⟨p1, p2⟩ := sz_pos hs
  unfold m_put_in
  refine runX_rt (xc_nx (ρ' := [some (ringD sz made done things), some x, some (.int (sz : Nat)), some (.int (made : Nat)), some (.int (done : Nat)), some (.tuple things)]) (by kernel_rfl) (xi_f (b := false) ?_ rfl ?_))
  · have : tOf (eBin gEq (eCall 1 [] m_held_in (aCons (eVar 0) (aNil))) (eVar 2)) [some (ringD sz made done things), some x, some (.int (sz : Nat)), some (.int (made : Nat)), some (.int (done : Nat)), some (.tuple things)] = ((m_held_in [ringD sz made done things]).bind fun y => gEq y (.int (sz : Nat))).bind bOf := by kernel_rfl
    rw [this, held_eq hs h1 h2]
    show ((gEq (.int ((held sz made done : Nat) : Int)) (.int (sz : Nat)))).bind bOf = _
    rw [gEq_int, decide_eq_false (by omega)]
    rfl
  · exact ret_ (tup_ (ac_ (d := .int (sz : Nat)) rfl (ac_ (d := .int (((made + 1) % (2 * sz) : Nat) : Int)) ((call1_ (n := 2) (ds := [.int (made : Nat), .int (sz : Nat)]) (ac_ rfl (ac_ rfl an_)) rfl).trans (count_on_eq hs)) (ac_ (d := .int (done : Nat)) rfl (ac_ (d := .tuple (things.set (made % sz) x)) ((call_ (ds := [.tuple things, .int ((made % sz : Nat) : Int), x]) (ac_ rfl (ac_ (bin_ (x := .int (made : Nat)) (y := .int (sz : Nat)) rfl rfl (mod_eq p1)) (ac_ rfl an_))) rfl).trans (laid_eq _ _ _ (by rw [hl]; exact Nat.mod_lt _ p1) (by omega))) an_)))))
end CR
/-! PlE -/
set_option maxHeartbeats 4000000
namespace CR
open PySem PySem.Spec L2
open PyProof.Rows hiding St
/-! ### the value -/
structure Ln where
  sz : Nat
  made : Nat
  done : Nat
  things : List D
  box : List D
  since : D
  masked : Bool
def ownL (l : Ln) : List D := [.tuple (voidR (l.sz : Nat)), .int 0, .int 0, .tuple [], ringD l.sz l.made l.done l.things, .tuple l.box, l.since, .bool l.masked]
def lnD (l : Ln) : D := .tuple (ownL l)
structure Vl where
  lanes : List Ln
  js : D
  purse : D
def vlL (v : Vl) : List D := [halfD, .tuple (v.lanes.map lnD), .tuple [], .tuple [], v.js, .tuple [], .list [], v.purse, .int 0]
def vlD (v : Vl) : D := .tuple (vlL v)
def Vl.setL (v : Vl) (k : Nat) (l : Ln) : Vl := { v with lanes := v.lanes.set k l }
theorem lanes_ix {v : Vl} {k : Nat} {l : Ln} (h : v.lanes[k]? = some l) : gIx (.tuple (v.lanes.map lnD)) (.int (k : Nat)) = some (lnD l) := ix_eq (by rw [List.getElem?_map, h]; rfl)
theorem set_map {k : Nat} {l' : Ln} (ls : List Ln) : (ls.map lnD).set k (lnD l') = (ls.set k l').map lnD := by rw [List.map_set]
theorem lane_turned_eq {v : Vl} {k at_ : Nat} {l l' : Ln} {y : D} (h : v.lanes[k]? = some l) (h2 : v.lanes.length ≤ 2) (ha : at_ < 8) (e : (ownL l).set at_ y = ownL l') : m_lane_turned [vlD v, .int (k : Nat), .int (at_ : Nat), y] = some (vlD (v.setL k l')) := by
  have hk := (List.getElem?_eq_some_iff.mp h).1
  unfold m_lane_turned
  refine run_rt (seq_nx (set_ (d := .tuple (v.lanes.map lnD)) (bin_ (x := vlD v) (y := .int 1) rfl rfl rfl)) (ret_ ?_))
  have h0 : (startD 5 [vlD v, .int (k : Nat), .int (at_ : Nat), y]).set 4 (some (.tuple (v.lanes.map lnD))) = [some (vlD v), some (.int (k : Nat)), some (.int (at_ : Nat)), some y, some (.tuple (v.lanes.map lnD))] := rfl
  rw [h0]
  have e1 : (vlL v).set 1 (.tuple ((v.lanes.set k l').map lnD)) = vlL (v.setL k l') := rfl
  refine (call_ (ds := [vlD v, .int (1 : Nat), .tuple ((v.lanes.set k l').map lnD)]) (ac_ rfl (ac_ rfl (ac_ ?_ an_))) rfl).trans ((turned_eq (vlL v) 1 _ (by show 1 < 9; omega) (by show 9 ≤ 900; omega)).trans (by rw [e1]; rfl))
  refine (call_ (ds := [.tuple (v.lanes.map lnD), .int (k : Nat), lnD l']) (ac_ rfl (ac_ rfl (ac_ ?_ an_))) rfl).trans ((turned_eq _ k _ (by rw [List.length_map]; exact hk) (by rw [List.length_map]; omega)).trans (by rw [set_map]))
  refine (call_ (ds := [lnD l, .int (at_ : Nat), y]) (ac_ (bin_ (x := .tuple (v.lanes.map lnD)) (y := .int (k : Nat)) rfl rfl (lanes_ix h)) (ac_ rfl (ac_ rfl an_))) rfl).trans ((turned_eq (ownL l) at_ y ha (by show 8 ≤ 900; omega)).trans (by rw [e]; rfl))
/-! the oldest posted -/
theorem oldest_none {v : Vl} {k : Nat} {l : Ln} (h : v.lanes[k]? = some l) (hs : l.sz ∈ SZ) (h1 : l.made < 2 * l.sz) (h2 : l.done < 2 * l.sz) (hh : held l.sz l.made l.done = 0) : m_oldest_posted [vlD v, .int (k : Nat)] = some .none := by
  unfold m_oldest_posted
  have hr : (aCons (eBin gIx (eBin gIx (eBin gIx (eVar 0) (eC (.int 1))) (eVar 1)) (eC (.int 4))) (aNil)) ((startD 5 [vlD v, .int (k : Nat)]).set 2 (some .none)) = some [ringD l.sz l.made l.done l.things] :=
    ac_ (bin_ (x := lnD l) (y := .int 4) (bin_ (x := .tuple (v.lanes.map lnD)) (y := .int (k : Nat)) (bin_ (x := vlD v) (y := .int 1) rfl rfl rfl) rfl (lanes_ix h)) rfl rfl) an_
  exact run_rt (seq_nx (set_ (d := .none) rfl) (seq_nx (try_ex (j := 0) hr rfl (take_ex hs h1 h2 hh)) (seq_rt (if_t (b := true) (by kernel_rfl) rfl (ret_ (by kernel_rfl))))))
def Ln.took (l : Ln) : Ln := { l with done := (l.done + 1) % (2 * l.sz), things := l.things.set (l.done % l.sz) .none }
theorem oldest_some {v : Vl} {k : Nat} {l : Ln} {x : D} (h : v.lanes[k]? = some l) (h0 : v.lanes.length ≤ 2) (hs : l.sz ∈ SZ) (h1 : l.made < 2 * l.sz) (h2 : l.done < 2 * l.sz) (hl : l.things.length = l.sz) (hh : held l.sz l.made l.done ≠ 0) (hx : l.things[l.done % l.sz]? = some x) :
    m_oldest_posted [vlD v, .int (k : Nat)] = some (.tuple [vlD (v.setL k l.took), x]) := by
  unfold m_oldest_posted
  have hr : (aCons (eBin gIx (eBin gIx (eBin gIx (eVar 0) (eC (.int 1))) (eVar 1)) (eC (.int 4))) (aNil)) ((startD 5 [vlD v, .int (k : Nat)]).set 2 (some .none)) = some [ringD l.sz l.made l.done l.things] :=
    ac_ (bin_ (x := lnD l) (y := .int 4) (bin_ (x := .tuple (v.lanes.map lnD)) (y := .int (k : Nat)) (bin_ (x := vlD v) (y := .int 1) rfl rfl rfl) rfl (lanes_ix h)) rfl rfl) an_
  refine run_rt (seq_nx (set_ (d := .none) rfl) (seq_nx (try_r (j := 0) hr rfl (take_ok hs h1 h2 hl hh hx)) (seq_nx (if_f (b := false) (by kernel_rfl) rfl nil_) (seq_nx (ρ' := [some (vlD v), some (.int (k : Nat)), some (.tuple [ringD l.sz l.made ((l.done + 1) % (2 * l.sz)) (l.things.set (l.done % l.sz) .none), x]), some (ringD l.sz l.made ((l.done + 1) % (2 * l.sz)) (l.things.set (l.done % l.sz) .none)), some x]) (by kernel_rfl) (ret_ (tup_ (ac_ ((call_ (ds := [vlD v, .int (k : Nat), .int (4 : Nat), ringD l.sz l.made ((l.done + 1) % (2 * l.sz)) (l.things.set (l.done % l.sz) .none)]) (ac_ rfl (ac_ rfl (ac_ rfl (ac_ rfl an_)))) rfl).trans (lane_turned_eq (l' := l.took) h h0 (by omega) rfl)) (ac_ rfl an_))))))))
/-! a stretch posted -/
def Ln.put (l : Ln) (x : D) : Ln := { l with made := (l.made + 1) % (2 * l.sz), things := l.things.set (l.made % l.sz) x }
theorem posts_ok {v : Vl} {k : Nat} {l : Ln} {x mem : D} (h : v.lanes[k]? = some l) (h0 : v.lanes.length ≤ 2) (hs : l.sz ∈ SZ) (h1 : l.made < 2 * l.sz) (h2 : l.done < 2 * l.sz) (hl : l.things.length = l.sz) (hh : held l.sz l.made l.done ≠ l.sz) :
    m_posts [vlD v, mem, .int (k : Nat), x] = some (.r (.tuple [vlD (v.setL k (l.put x)), mem, .tuple [.tuple [.str "posted", halfD, .int (k : Nat), x]]])) := by
  have hp : m_put_or_full [ringD l.sz l.made l.done l.things, x] = some (.r (ringD l.sz ((l.made + 1) % (2 * l.sz)) l.done (l.things.set (l.made % l.sz) x))) := by
    unfold m_put_or_full
    exact runX_rt (xc_nx (set_ (d := .none) rfl) (xc_nx (try_r (j := 0) (ds := [ringD l.sz l.made l.done l.things, x]) (ac_ rfl (ac_ rfl an_)) rfl (put_ok hs h1 h2 hl hh)) (xi_f (b := false) (by kernel_rfl) rfl (ret_ rfl))))
  unfold m_posts
  have hr : (aCons (eBin gIx (eBin gIx (eBin gIx (eVar 0) (eC (.int 1))) (eVar 2)) (eC (.int 4))) (aCons (eVar 3) (aNil))) (startD 5 [vlD v, mem, .int (k : Nat), x]) = some [ringD l.sz l.made l.done l.things, x] :=
    ac_ (bin_ (x := lnD l) (y := .int 4) (bin_ (x := .tuple (v.lanes.map lnD)) (y := .int (k : Nat)) (bin_ (x := vlD v) (y := .int 1) rfl rfl rfl) rfl (lanes_ix h)) rfl rfl) (ac_ rfl an_)
  exact runX_rt (xx_nx (xs_r (j := 0) hr rfl hp) (ret_ (tup_ (ac_ ((call_ (ds := [vlD v, .int (k : Nat), .int (4 : Nat), ringD l.sz ((l.made + 1) % (2 * l.sz)) l.done (l.things.set (l.made % l.sz) x)]) (ac_ rfl (ac_ rfl (ac_ rfl (ac_ rfl an_)))) rfl).trans (lane_turned_eq (l' := l.put x) h h0 (by omega) rfl)) (ac_ rfl (ac_ (d := .tuple [.tuple [.str "posted", halfD, .int (k : Nat), x]]) (by kernel_rfl) an_))))))
theorem posts_ex {v : Vl} {k : Nat} {l : Ln} {x mem : D} (h : v.lanes[k]? = some l) (hs : l.sz ∈ SZ) (h1 : l.made < 2 * l.sz) (h2 : l.done < 2 * l.sz) (hh : held l.sz l.made l.done = l.sz) : m_posts [vlD v, mem, .int (k : Nat), x] = some .ex := by
  have hp : m_put_or_full [ringD l.sz l.made l.done l.things, x] = some .ex := by
    unfold m_put_or_full
    exact runX_ex (xc_nx (set_ (d := .none) rfl) (xc_nx (try_ex (j := 0) (ds := [ringD l.sz l.made l.done l.things, x]) (ac_ rfl (ac_ rfl an_)) rfl (put_ex hs h1 h2 hh)) (xi_t (b := true) (by kernel_rfl) rfl)))
  unfold m_posts
  have hr : (aCons (eBin gIx (eBin gIx (eBin gIx (eVar 0) (eC (.int 1))) (eVar 2)) (eC (.int 4))) (aCons (eVar 3) (aNil))) (startD 5 [vlD v, mem, .int (k : Nat), x]) = some [ringD l.sz l.made l.done l.things, x] :=
    ac_ (bin_ (x := lnD l) (y := .int 4) (bin_ (x := .tuple (v.lanes.map lnD)) (y := .int (k : Nat)) (bin_ (x := vlD v) (y := .int 1) rfl rfl rfl) rfl (lanes_ix h)) rfl rfl) (ac_ rfl an_)
  exact runX_ex (xx_ex (xs_ex (j := 0) hr rfl hp))
end CR
/-! PlF -/
set_option maxHeartbeats 4000000
namespace CR
open PySem PySem.Spec L2
open PyProof.Rows hiding St
/-! ### wakes -/
theorem is_due_ex (many : Nat) (since : D) (masked : Bool) (clock most wait : Int) (h : 0 < many → ∃ s, since = .int s) : ∃ b, m_is_due [.tuple [.int (many : Nat), since, .bool masked], .int clock, .tuple [.int most, .int wait]] = some (.bool b) := by
  have go : ∀ b, eAn (eNt (eVar 5)) (eAn (eBin (gB2 fun i j => decide (j < i)) (eVar 3) (eC (.int 0))) (eOo (eBin (gB2 fun i j => decide (j ≤ i)) (eVar 3) (eVar 6)) (eBin (gB2 fun i j => decide (j ≤ i)) (eBin gSub (eVar 1) (eVar 4)) (eVar 7)))) [some (.tuple [.int (many : Nat), since, .bool masked]), some (.int clock), some (.tuple [.int most, .int wait]), some (.int (many : Nat)), some since, some (.bool masked), some (.int most), some (.int wait)] = some (.bool b) →
      m_is_due [.tuple [.int (many : Nat), since, .bool masked], .int clock, .tuple [.int most, .int wait]] = some (.bool b) := fun b hb => by
    unfold m_is_due
    exact run_rt (seq_nx (ρ' := [some (.tuple [.int (many : Nat), since, .bool masked]), some (.int clock), some (.tuple [.int most, .int wait]), some (.int (many : Nat)), some since, some (.bool masked), none, none]) (by kernel_rfl) (seq_nx (ρ' := [some (.tuple [.int (many : Nat), since, .bool masked]), some (.int clock), some (.tuple [.int most, .int wait]), some (.int (many : Nat)), some since, some (.bool masked), some (.int most), some (.int wait)]) (by kernel_rfl) (ret_ hb)))
  cases masked with
  | true => exact ⟨false, go _ (by kernel_rfl)⟩
  | false =>
    by_cases hm : 0 < many
    · obtain ⟨s, rfl⟩ := h hm
      have t1 : tOf (eBin (gB2 fun i j => decide (j < i)) (eVar 3) (eC (.int 0))) [some (.tuple [.int (many : Nat), .int s, .bool false]), some (.int clock), some (.tuple [.int most, .int wait]), some (.int (many : Nat)), some (.int s), some (.bool false), some (.int most), some (.int wait)] = some (decide ((0 : Int) < (many : Nat))) := by kernel_rfl
      have t2 : tOf (eBin (gB2 fun i j => decide (j ≤ i)) (eVar 3) (eVar 6)) [some (.tuple [.int (many : Nat), .int s, .bool false]), some (.int clock), some (.tuple [.int most, .int wait]), some (.int (many : Nat)), some (.int s), some (.bool false), some (.int most), some (.int wait)] = some (decide (most ≤ (many : Nat))) := by kernel_rfl
      rw [decide_eq_true (by omega)] at t1
      by_cases hq : most ≤ (many : Nat)
      · rw [decide_eq_true hq] at t2
        exact ⟨true, go _ (an2_ (b := true) (by kernel_rfl) (an2_ t1 (by unfold eOo; rw [if_pos rfl, t2]; rfl)))⟩
      · rw [decide_eq_false hq] at t2
        exact ⟨decide (wait ≤ clock - s), go _ (an2_ (b := true) (by kernel_rfl) (an2_ t1 (by unfold eOo; rw [if_pos rfl, t2]; kernel_rfl)))⟩
    · have e : many = 0 := by omega
      subst e
      exact ⟨false, go _ (by kernel_rfl)⟩
theorem setL_self {v : Vl} {k : Nat} {l : Ln} (h : v.lanes[k]? = some l) : v.setL k l = v := by
  unfold Vl.setL
  obtain ⟨hk, he⟩ := List.getElem?_eq_some_iff.mp h
  have : v.lanes.set k l = v.lanes := by
    rw [← he]
    exact List.set_getElem_self hk
  rw [this]
theorem look_ex {v : Vl} {k : Nat} {l : Ln} {clock most wait : Int} (h : v.lanes[k]? = some l) (h0 : v.lanes.length ≤ 2) (hs : l.box ≠ [] → ∃ s, l.since = .int s) :
    ∃ m' evs, m_look_at_lane [vlD v, .int (k : Nat), .int clock, .tuple [.int most, .int wait]] = some (.tuple [vlD (v.setL k { l with masked := m' }), .tuple evs]) ∧ (evs = [] ∨ evs = [.tuple [.str "raised", halfD, .int (k : Nat), .int clock]]) := by
  obtain ⟨b, hb⟩ := is_due_ex l.box.length l.since l.masked clock most wait (fun hp => hs (by intro e; rw [e] at hp; simp at hp))
  have hset : sSet 4 (eBin gIx (eBin gIx (eVar 0) (eC (.int 1))) (eVar 1)) (startD 5 [vlD v, .int (k : Nat), .int clock, .tuple [.int most, .int wait]]) = some (.nx [some (vlD v), some (.int (k : Nat)), some (.int clock), some (.tuple [.int most, .int wait]), some (lnD l)]) :=
    set_ (d := lnD l) (bin_ (x := .tuple (v.lanes.map lnD)) (y := .int (k : Nat)) (bin_ (x := vlD v) (y := .int 1) rfl rfl rfl) rfl (lanes_ix h))
  have ht : tNt (tOf (eCall 3 [] m_is_due (aCons (eTup (aCons (eCB gLen (aCons (eBin gIx (eVar 4) (eC (.int 5))) (aNil))) (aCons (eBin gIx (eVar 4) (eC (.int 6))) (aCons (eBin gIx (eVar 4) (eC (.int 7))) (aNil))))) (aCons (eVar 2) (aCons (eVar 3) (aNil)))))) [some (vlD v), some (.int (k : Nat)), some (.int clock), some (.tuple [.int most, .int wait]), some (lnD l)] = some (!b) := by
    have : tNt (tOf (eCall 3 [] m_is_due (aCons (eTup (aCons (eCB gLen (aCons (eBin gIx (eVar 4) (eC (.int 5))) (aNil))) (aCons (eBin gIx (eVar 4) (eC (.int 6))) (aCons (eBin gIx (eVar 4) (eC (.int 7))) (aNil))))) (aCons (eVar 2) (aCons (eVar 3) (aNil)))))) [some (vlD v), some (.int (k : Nat)), some (.int clock), some (.tuple [.int most, .int wait]), some (lnD l)] = ((m_is_due [.tuple [.int (l.box.length : Nat), l.since, .bool l.masked], .int clock, .tuple [.int most, .int wait]]).bind bOf).map not := by kernel_rfl
    rw [this, hb]
    rfl
  unfold m_look_at_lane
  cases b with
  | false =>
    refine ⟨l.masked, [], run_rt (seq_nx hset (seq_rt (if_t ht rfl (ret_ (tup_ (ac_ (d := vlD (v.setL k l)) ?_ (ac_ (d := .tuple []) (by kernel_rfl) an_))))))), .inl rfl⟩
    rw [setL_self h]
    rfl
  | true =>
    refine ⟨true, [.tuple [.str "raised", halfD, .int (k : Nat), .int clock]], run_rt (seq_nx hset (seq_nx (if_f ht rfl nil_) (ret_ (tup_ (ac_ ((call_ (ds := [vlD v, .int (k : Nat), .int (7 : Nat), .bool true]) (ac_ rfl (ac_ rfl (ac_ rfl (ac_ rfl an_)))) rfl).trans (lane_turned_eq (l' := { l with masked := true }) h h0 (by omega) rfl)) (ac_ (d := .tuple [.tuple [.str "raised", halfD, .int (k : Nat), .int clock]]) (by kernel_rfl) an_)))))), .inr rfl⟩
/-! ### a box gets one more -/
def Ln.boxed (l : Ln) (c : D) (clock : Int) : Ln := { l with box := l.box ++ [c], since := if l.box = [] then .int clock else l.since }
theorem tup_nil {ds : List D} (hne : ds ≠ []) (h1 : SeqAt.shaped (.tuple ds) = true) (h2 : noL (.tuple ds) = true) : gEq (.tuple ds) (.tuple []) = some (.bool false) := by
  cases ds with
  | nil => exact absurd rfl hne
  | cons d ds =>
    unfold gEq
    rw [h1, h2]
    rfl
theorem boxed_eq {v : Vl} {k : Nat} {l : Ln} {c : D} {clock : Int} (h : v.lanes[k]? = some l) (h0 : v.lanes.length ≤ 2) (h1 : SeqAt.shaped (.tuple l.box) = true) (h2 : noL (.tuple l.box) = true) (hb : l.box.length < 900) : m_boxed [vlD v, .int (k : Nat), c, .int clock] = some (vlD (v.setL k (l.boxed c clock))) := by
  unfold m_boxed
  have s1 : sSet 4 (eBin gIx (eBin gIx (eVar 0) (eC (.int 1))) (eVar 1)) (startD 6 [vlD v, .int (k : Nat), c, .int clock]) = some (.nx [some (vlD v), some (.int (k : Nat)), some c, some (.int clock), some (lnD l), none]) :=
    set_ (d := lnD l) (bin_ (x := .tuple (v.lanes.map lnD)) (y := .int (k : Nat)) (bin_ (x := vlD v) (y := .int 1) rfl rfl rfl) rfl (lanes_ix h))
  have h0' : (v.setL k { l with box := l.box ++ [c] }).lanes.length ≤ 2 := by
    show (v.lanes.set k _).length ≤ 2
    rw [List.length_set]; exact h0
  have hk : (v.setL k { l with box := l.box ++ [c] }).lanes[k]? = some { l with box := l.box ++ [c] } := by
    have := (List.getElem?_eq_some_iff.mp h).1
    show (v.lanes.set k _)[k]? = _
    simp [this]
  refine run_rt (seq_nx s1 (seq_nx (set_ (d := vlD (v.setL k { l with box := l.box ++ [c] })) ((call_ (ds := [vlD v, .int (k : Nat), .int (5 : Nat), .tuple (l.box ++ [c])]) (ac_ rfl (ac_ rfl (ac_ rfl (ac_ (bin_ (x := .tuple l.box) (y := .tuple [c]) (bin_ (x := lnD l) (y := .int 5) rfl rfl rfl) (tup_ (ac_ rfl an_)) (gAdd_tup (by simp; omega))) an_)))) rfl).trans (lane_turned_eq (l' := { l with box := l.box ++ [c] }) h h0 (by omega) rfl))) (ret_ ?_)))
  have ht : tOf (eBin gEq (eBin gIx (eVar 4) (eC (.int 5))) (eTup (aNil))) [some (vlD v), some (.int (k : Nat)), some c, some (.int clock), some (lnD l), some (vlD (v.setL k { l with box := l.box ++ [c] }))] = (gEq (.tuple l.box) (.tuple [])).bind bOf := by kernel_rfl
  by_cases hb0 : l.box = []
  · have e1 : l.boxed c clock = { l with box := l.box ++ [c], since := .int clock } := by unfold Ln.boxed; rw [if_pos hb0]
    rw [e1]
    have ht2 : tOf (eBin gEq (eBin gIx (eVar 4) (eC (.int 5))) (eTup (aNil))) [some (vlD v), some (.int (k : Nat)), some c, some (.int clock), some (lnD l), some (vlD (v.setL k { l with box := l.box ++ [c] }))] = some true := by
      rw [ht, hb0]
      kernel_rfl
    refine ife_ ht2 ((call_ (ds := [vlD (v.setL k { l with box := l.box ++ [c] }), .int (k : Nat), .int (6 : Nat), .int clock]) (ac_ rfl (ac_ rfl (ac_ rfl (ac_ rfl an_)))) rfl).trans ((lane_turned_eq (l' := { l with box := l.box ++ [c], since := .int clock }) hk h0' (by omega) rfl).trans ?_))
    congr 2
    unfold Vl.setL
    simp [List.set_set]
  · have e1 : l.boxed c clock = { l with box := l.box ++ [c] } := by unfold Ln.boxed; rw [if_neg hb0]
    rw [e1]
    rw [tup_nil hb0 h1 h2] at ht
    exact ife_ (b := false) ht rfl
end CR
/-! PlG -/
set_option maxHeartbeats 4000000
namespace CR
open PySem PySem.Spec L2
open PyProof.Rows hiding St
/-! ### rights, memory -/
def whyD (p m : Nat) (words : List D) : D := if p < 7 then (if m < words.length then .str "short" else .none) else .str "fault"
theorem why_eq {v : Vl} {p a m : Nat} {words : List D} (hp : p < 9) : m_why_not [vlD v, R7, .tuple [.int (p : Nat), .int (a : Nat), .int (m : Nat)], .tuple words] = some (whyD p m words) := by
  have hc : p = 0 ∨ p = 1 ∨ p = 2 ∨ p = 3 ∨ p = 4 ∨ p = 5 ∨ p = 6 ∨ p = 7 ∨ p = 8 := by omega
  have low : ∀ q : Nat, q < 7 → tNt (tOf (eCall 3 [] m_owns_it (aCons (eVar 0) (aCons (eVar 1) (aCons (eVar 2) (aNil)))))) [some (vlD v), some R7, some (.tuple [.int (q : Nat), .int (a : Nat), .int (m : Nat)]), some (.tuple words)] = some false →
      m_why_not [vlD v, R7, .tuple [.int (q : Nat), .int (a : Nat), .int (m : Nat)], .tuple words] = some (whyD q m words) := fun q hq ht => by
    unfold m_why_not
    refine run_rt (seq_nx (if_f ht rfl nil_) (ret_ ?_))
    have h2 : tOf (eBin (gB2 fun i j => decide (i < j)) (eBin gIx (eVar 2) (eC (.int 2))) (eCB gLen (aCons (eVar 3) (aNil)))) [some (vlD v), some R7, some (.tuple [.int (q : Nat), .int (a : Nat), .int (m : Nat)]), some (.tuple words)] = some (decide (((m : Nat) : Int) < (words.length : Nat))) := by kernel_rfl
    unfold whyD
    rw [if_pos hq]
    by_cases h : m < words.length
    · rw [if_pos h]
      rw [decide_eq_true (by omega)] at h2
      exact ife_ h2 rfl
    · rw [if_neg h]
      rw [decide_eq_false (by omega)] at h2
      exact ife_ h2 rfl
  rcases hc with rfl | rfl | rfl | rfl | rfl | rfl | rfl | rfl | rfl
  · exact low 0 (by omega) (by kernel_rfl)
  · exact low 1 (by omega) (by kernel_rfl)
  · exact low 2 (by omega) (by kernel_rfl)
  · exact low 3 (by omega) (by kernel_rfl)
  · exact low 4 (by omega) (by kernel_rfl)
  · exact low 5 (by omega) (by kernel_rfl)
  · exact low 6 (by omega) (by kernel_rfl)
  · kernel_rfl
  · kernel_rfl
def pgD (pg : List Int) : D := .tuple (pg.map .int)
def memD (m : List (List Int)) : D := .tuple (m.map pgD)
theorem page_eq {mem : List (List Int)} {p : Nat} {pg : List Int} {a m : D} (h : mem[p]? = some pg) : m_page_at [memD mem, .tuple [.int (p : Nat), a, m]] = some (pgD pg) := by
  have hk := (List.getElem?_eq_some_iff.mp h).1
  unfold m_page_at
  have ht : tOf (eBin (gB2 fun i j => decide (j ≤ i)) (eBin gIx (eVar 1) (eC (.int 0))) (eCB gLen (aCons (eVar 0) (aNil)))) [some (memD mem), some (.tuple [.int (p : Nat), a, m])] = some (decide ((((mem.map pgD).length : Nat) : Int) ≤ (p : Nat))) := by kernel_rfl
  rw [decide_eq_false (by rw [List.length_map]; omega)] at ht
  exact run_rt (seq_nx (if_f ht rfl nil_) (ret_ (bin_ (x := memD mem) (y := .int (p : Nat)) rfl (bin_ (x := .tuple [.int (p : Nat), a, m]) (y := .int 0) rfl rfl rfl) (ix_eq (by rw [List.getElem?_map, h]; rfl)))))
theorem words_eq {mem : List (List Int)} {p a n : Nat} {pg : List Int} (h : mem[p]? = some pg) (hl : a + n ≤ pg.length) : m_words_at [memD mem, .tuple [.int (p : Nat), .int (a : Nat), .int (n : Nat)]] = some (.tuple (((pg.drop a).take n).map .int)) := by
  unfold m_words_at
  refine run_rt (seq_nx (ρ' := [some (memD mem), some (.tuple [.int (p : Nat), .int (a : Nat), .int (n : Nat)]), some (.int (p : Nat)), some (.int (a : Nat)), some (.int (n : Nat))]) (by kernel_rfl) (ret_ ?_))
  refine (sl_ (xs := pg.map .int) (l := some ((a : Nat) : Int)) (u := some (((a + n : Nat) : Nat) : Int)) ((call_ (ds := [memD mem, .tuple [.int (p : Nat), .int (a : Nat), .int (n : Nat)]]) (ac_ rfl (ac_ rfl an_)) rfl).trans (page_eq h)) (ps_ rfl) (ps_ (bin_ (x := .int (a : Nat)) (y := .int (n : Nat)) rfl rfl rfl))).trans ?_
  rw [cut_mid _ _ _ (by omega) (by rw [List.length_map]; exact hl)]
  rw [List.map_take, List.map_drop]
  congr 3
  omega
def wr (pg : List Int) (a : Nat) (ws : List Int) : List Int := pg.take a ++ ws ++ pg.drop (a + ws.length)
theorem written_eq {mem : List (List Int)} {p a m : Nat} {pg : List Int} {ws : List Int} (h : mem[p]? = some pg) (hp : pg.length ≤ 100) (hl : a + ws.length ≤ pg.length) (hm : ws.length ≤ m) (hmem : mem.length ≤ 100) : m_written [memD mem, .tuple [.int (p : Nat), .int (a : Nat), .int (m : Nat)], .tuple (ws.map .int)] = some (memD (mem.set p (wr pg a ws))) := by
  have hk := (List.getElem?_eq_some_iff.mp h).1
  unfold m_written
  refine run_rt (seq_nx (ρ' := [some (memD mem), some (.tuple [.int (p : Nat), .int (a : Nat), .int (m : Nat)]), some (.tuple (ws.map .int)), none, some (.int (p : Nat)), some (.int (a : Nat)), some (.int (m : Nat))]) (by kernel_rfl) (seq_nx (set_ (d := pgD pg) ((call_ (ds := [memD mem, .tuple [.int (p : Nat), .int (a : Nat), .int (m : Nat)]]) (ac_ rfl (ac_ rfl an_)) rfl).trans (page_eq h))) ?_))
  have h0 : ([some (memD mem), some (PyData.tuple [.int (p : Nat), .int (a : Nat), .int (m : Nat)]), some (.tuple (ws.map .int)), none, some (.int (p : Nat)), some (.int (a : Nat)), some (.int (m : Nat))] : DEnv).set 3 (some (pgD pg)) = [some (memD mem), some (.tuple [.int (p : Nat), .int (a : Nat), .int (m : Nat)]), some (.tuple (ws.map .int)), some (pgD pg), some (.int (p : Nat)), some (.int (a : Nat)), some (.int (m : Nat))] := rfl
  rw [h0]
  have ht : tOf (eBin (gB2 fun i j => decide (j < i)) (eCB gLen (aCons (eVar 2) (aNil))) (eVar 6)) [some (memD mem), some (.tuple [.int (p : Nat), .int (a : Nat), .int (m : Nat)]), some (.tuple (ws.map .int)), some (pgD pg), some (.int (p : Nat)), some (.int (a : Nat)), some (.int (m : Nat))] = some (decide (((m : Nat) : Int) < ((ws.map PyData.int).length : Nat))) := by kernel_rfl
  rw [decide_eq_false (by rw [List.length_map]; omega)] at ht
  refine seq_nx (if_f ht rfl nil_) (ret_ ?_)
  have hpage : wr pg a ws = wr pg a ws := rfl
  have e1 : cutD (pg.map PyData.int) none (some ((a : Nat) : Int)) ++ ws.map PyData.int ++ cutD (pg.map PyData.int) (some (((a + ws.length : Nat)) : Int)) none = (wr pg a ws).map PyData.int := by
    rw [cut_to _ _ (by rw [List.length_map]; omega), cut_from _ _ (by rw [List.length_map]; omega)]
    unfold wr
    rw [List.map_append, List.map_append, List.map_take, List.map_drop]
  have hlen : (wr pg a ws).length ≤ 200 := by
    unfold wr
    simp only [List.length_append, List.length_take, List.length_drop]
    omega
  refine (bin_ (x := .tuple (cutD (mem.map pgD) none (some ((p : Nat) : Int)) ++ [pgD (wr pg a ws)])) (bin_ (sl_ (xs := mem.map pgD) (u := some ((p : Nat) : Int)) rfl rfl (ps_ rfl)) (tup_ (ds := [pgD (wr pg a ws)]) (ac_ ?_ an_)) (gAdd_tup (by rw [cut_to _ _ (by rw [List.length_map]; omega)]; simp; omega))) (sl_ (xs := mem.map pgD) (l := some ((p + 1 : Nat) : Int)) rfl (ps_ (bin_ (x := .int (p : Nat)) (y := .int 1) rfl rfl rfl)) rfl) (gAdd_tup ?_)).trans ?_
  · have hb : eBin gAdd (eSl (eVar 3) (pNo) (pSo (eVar 5))) (eVar 2) [some (memD mem), some (.tuple [.int (p : Nat), .int (a : Nat), .int (m : Nat)]), some (.tuple (ws.map .int)), some (pgD pg), some (.int (p : Nat)), some (.int (a : Nat)), some (.int (m : Nat))] = some (.tuple (cutD (pg.map PyData.int) none (some ((a : Nat) : Int)) ++ ws.map PyData.int)) :=
      bin_ (sl_ (xs := pg.map .int) (u := some ((a : Nat) : Int)) rfl rfl (ps_ rfl)) (y := .tuple (ws.map .int)) rfl (gAdd_tup (by rw [cut_to _ _ (by rw [List.length_map]; omega)]; simp; omega))
    refine (bin_ hb (sl_ (xs := pg.map .int) (l := some (((a + ws.length : Nat)) : Int)) rfl (ps_ (bin_ (x := .int (a : Nat)) (y := .int (ws.length : Nat)) rfl ?_ rfl)) rfl) (gAdd_tup ?_)).trans ?_
    · have : eCB gLen (aCons (eVar 2) (aNil)) [some (memD mem), some (.tuple [.int (p : Nat), .int (a : Nat), .int (m : Nat)]), some (.tuple (ws.map .int)), some (pgD pg), some (.int (p : Nat)), some (.int (a : Nat)), some (.int (m : Nat))] = some (.int (((ws.map PyData.int).length : Nat) : Int)) := by kernel_rfl
      rw [this, List.length_map]
    · rw [cut_to _ _ (by rw [List.length_map]; omega), cut_from _ _ (by rw [List.length_map]; omega)]
      simp
      omega
    · rw [e1]
      rfl
  · rw [cut_to _ _ (by rw [List.length_map]; omega), cut_from _ _ (by rw [List.length_map]; omega)]
    simp
    omega
  · rw [cut_to _ _ (by rw [List.length_map]; omega), cut_from _ _ (by rw [List.length_map]; omega), set_cut _ _ _ (by rw [List.length_map]; exact hk)]
    unfold memD
    rw [List.map_set]
theorem wr_read (pg : List Int) (a : Nat) (ws : List Int) (h : a + ws.length ≤ pg.length) : ((wr pg a ws).drop a).take ws.length = ws ∧ (wr pg a ws).length = pg.length := by
  unfold wr
  constructor
  · rw [List.append_assoc, List.drop_append_of_le_length (by rw [List.length_take]; omega)]
    have : (pg.take a).drop a = [] := by
      apply List.drop_eq_nil_of_le
      rw [List.length_take]; omega
    rw [this, List.nil_append, List.take_left]
  · simp only [List.length_append, List.length_take, List.length_drop]
    omega
end CR
/-! PlH -/
set_option maxHeartbeats 4000000
namespace CR
open PySem PySem.Spec L2
open PyProof.Rows hiding St
/-! ### polled -/
theorem cut_toA (xs : List D) (k : Nat) : cutD xs none (some (k : Int)) = xs.take k := by
  by_cases h : k ≤ xs.length
  · exact cut_to xs k h
  · unfold cutD
    rw [HT.sIx_nat, HT.sIx_none, Nat.min_eq_right (by omega)]
    simp [List.take_of_length_le (Nat.le_of_lt (Nat.lt_of_not_le h))]
theorem cut_fromA (xs : List D) (k : Nat) : cutD xs (some (k : Int)) none = xs.drop k := by
  by_cases h : k ≤ xs.length
  · exact cut_from xs k h
  · unfold cutD
    rw [HT.sIx_nat, HT.sIx_none, Nat.min_eq_right (by omega)]
    simp [List.drop_eq_nil_of_le (Nat.le_of_lt (Nat.lt_of_not_le h))]
theorem mapM_all {f : D → Option D} {g : D → D} : ∀ {ds : List D}, (∀ d ∈ ds, f d = some (g d)) → ds.mapM f = some (ds.map g)
  | [], _ => rfl
  | d :: ds, h => by
    rw [List.mapM_cons, h d List.mem_cons_self, mapM_all fun x hx => h x (List.mem_cons_of_mem _ hx)]
    rfl
def readW (mem c : D) : D := ((gIx c (.int 2)).bind fun pl => m_words_at [mem, pl]).getD .none
def tookD (k : Nat) (mem c : D) : D := .tuple [.str "took", halfD, .int (k : Nat), c, readW mem c]
def Ln.polled (l : Ln) (b : Nat) : Ln := { l with box := l.box.drop b, since := if l.box.drop b = [] then .none else l.since }
theorem polled_eq {v : Vl} {k b : Nat} {l : Ln} {mem : D} (h : v.lanes[k]? = some l) (h0 : v.lanes.length ≤ 2) (hl : l.box.length < 900) (hs : ∀ j, SeqAt.shaped (.tuple (l.box.drop j)) = true ∧ noL (.tuple (l.box.drop j)) = true)
    (hr : ∀ c ∈ l.box, ∃ pl w, gIx c (.int 2) = some pl ∧ m_words_at [mem, pl] = some w) : m_polled [vlD v, mem, .int (k : Nat), .int (b : Nat)] = some (.tuple [vlD (v.setL k (l.polled b)), mem, .tuple ((l.box.take b).map (tookD k mem))]) := by
  have h0' : (v.setL k { l with box := l.box.drop b }).lanes.length ≤ 2 := by
    show (v.lanes.set k _).length ≤ 2
    rw [List.length_set]; exact h0
  have hk : (v.setL k { l with box := l.box.drop b }).lanes[k]? = some { l with box := l.box.drop b } := by
    have := (List.getElem?_eq_some_iff.mp h).1
    show (v.lanes.set k _)[k]? = _
    simp [this]
  unfold m_polled
  have s1 : sSet 4 (eBin gIx (eBin gIx (eVar 0) (eC (.int 1))) (eVar 2)) (startD 10 [vlD v, mem, .int (k : Nat), .int (b : Nat)]) = some (.nx [some (vlD v), some mem, some (.int (k : Nat)), some (.int (b : Nat)), some (lnD l), none, none, none, none, none]) :=
    set_ (d := lnD l) (bin_ (x := .tuple (v.lanes.map lnD)) (y := .int (k : Nat)) (bin_ (x := vlD v) (y := .int 1) rfl rfl rfl) rfl (lanes_ix h))
  have s2 : sPar 7 8 (aCons (eSl (eBin gIx (eVar 4) (eC (.int 5))) (pNo) (pSo (eVar 3))) (aCons (eSl (eBin gIx (eVar 4) (eC (.int 5))) (pSo (eVar 3)) (pNo)) (aNil))) [some (vlD v), some mem, some (.int (k : Nat)), some (.int (b : Nat)), some (lnD l), none, none, none, none, none] = some (.nx [some (vlD v), some mem, some (.int (k : Nat)), some (.int (b : Nat)), some (lnD l), none, none, some (.tuple (l.box.take b)), some (.tuple (l.box.drop b)), none]) := by
    unfold sPar
    rw [ac_ (d := .tuple (l.box.take b)) ((sl_ (xs := l.box) (u := some ((b : Nat) : Int)) (bin_ (x := lnD l) (y := .int 5) rfl rfl rfl) rfl (ps_ rfl)).trans (by rw [cut_toA])) (ac_ (d := .tuple (l.box.drop b)) ((sl_ (xs := l.box) (l := some ((b : Nat) : Int)) (bin_ (x := lnD l) (y := .int 5) rfl rfl rfl) (ps_ rfl) rfl).trans (by rw [cut_fromA])) an_)]
    rfl
  refine run_rt (seq_nx s1 (seq_nx s2 (seq_nx (set_ (d := vlD (v.setL k { l with box := l.box.drop b })) ((call_ (ds := [vlD v, .int (k : Nat), .int (5 : Nat), .tuple (l.box.drop b)]) (ac_ rfl (ac_ rfl (ac_ rfl (ac_ rfl an_)))) rfl).trans (lane_turned_eq (l' := { l with box := l.box.drop b }) h h0 (by omega) rfl))) (seq_nx (ρ' := [some (vlD v), some mem, some (.int (k : Nat)), some (.int (b : Nat)), some (lnD l), some (vlD (v.setL k (l.polled b))), none, some (.tuple (l.box.take b)), some (.tuple (l.box.drop b)), none]) ?_ (seq_nx (set_ (d := halfD) rfl) (ret_ (tup_ (ac_ rfl (ac_ rfl (ac_ (d := .tuple ((l.box.take b).map (tookD k mem))) ?_ an_))))))))))
  · have ht : tOf (eBin gEq (eVar 8) (eTup (aNil))) [some (vlD v), some mem, some (.int (k : Nat)), some (.int (b : Nat)), some (lnD l), some (vlD (v.setL k { l with box := l.box.drop b })), none, some (.tuple (l.box.take b)), some (.tuple (l.box.drop b)), none] = (gEq (.tuple (l.box.drop b)) (.tuple [])).bind bOf := by kernel_rfl
    by_cases hb : l.box.drop b = []
    · have e1 : l.polled b = { l with box := l.box.drop b, since := .none } := by unfold Ln.polled; rw [if_pos hb]
      have ht2 : tOf (eBin gEq (eVar 8) (eTup (aNil))) [some (vlD v), some mem, some (.int (k : Nat)), some (.int (b : Nat)), some (lnD l), some (vlD (v.setL k { l with box := l.box.drop b })), none, some (.tuple (l.box.take b)), some (.tuple (l.box.drop b)), none] = some true := by
        rw [ht, hb]
        kernel_rfl
      refine if_t ht2 rfl ((set_ ((call_ (ds := [vlD (v.setL k { l with box := l.box.drop b }), .int (k : Nat), .int (6 : Nat), .none]) (ac_ rfl (ac_ rfl (ac_ rfl (ac_ rfl an_)))) rfl).trans (lane_turned_eq (l' := { l with box := l.box.drop b, since := .none }) hk h0' (by omega) rfl))).trans ?_)
      rw [e1]
      unfold Vl.setL
      simp [List.set_set]
    · have e1 : l.polled b = { l with box := l.box.drop b } := by unfold Ln.polled; rw [if_neg hb]
      rw [tup_nil hb (hs b).1 (hs b).2] at ht
      rw [e1]
      exact if_f (b := false) ht rfl rfl
  · have hm : lTup 9 (eVar 7) (eTup (aCons (eC (.str "took")) (aCons (eVar 6) (aCons (eVar 2) (aCons (eVar 9) (aCons (eCall 2 [] m_words_at (aCons (eVar 1) (aCons (eBin gIx (eVar 9) (eC (.int 2))) (aNil)))) (aNil))))))) [some (vlD v), some mem, some (.int (k : Nat)), some (.int (b : Nat)), some (lnD l), some (vlD (v.setL k (l.polled b))), some halfD, some (.tuple (l.box.take b)), some (.tuple (l.box.drop b)), none] = some ((l.box.take b).map (tookD k mem)) := by
      unfold lTup lGen
      show (if (l.box.take b).length ≤ 1000 then _ else none) = _
      rw [if_pos (by rw [List.length_take]; omega)]
      refine mapM_all fun c hc => ?_
      obtain ⟨pl, w, e1, e2⟩ := hr c (List.mem_of_mem_take hc)
      have er : readW mem c = w := by unfold readW; rw [e1]; show (m_words_at [mem, pl]).getD .none = w; rw [e2]; rfl
      show (eTup _ [some (vlD v), some mem, some (.int (k : Nat)), some (.int (b : Nat)), some (lnD l), some (vlD (v.setL k (l.polled b))), some halfD, some (.tuple (l.box.take b)), some (.tuple (l.box.drop b)), some c]) = _
      unfold tookD
      rw [er]
      exact tup_ (ac_ rfl (ac_ rfl (ac_ rfl (ac_ rfl (ac_ ((call_ (ds := [mem, pl]) (ac_ rfl (ac_ (bin_ (x := c) (y := .int 2) rfl rfl e1) an_)) rfl).trans e2) an_)))))
    unfold eTupL
    show Option.map PyData.tuple (lTup 9 (eVar 7) _ [some (vlD v), some mem, some (.int (k : Nat)), some (.int (b : Nat)), some (lnD l), some (vlD (v.setL k (l.polled b))), some halfD, some (.tuple (l.box.take b)), some (.tuple (l.box.drop b)), none]) = _
    rw [hm]
    rfl
end CR
/-! PlI -/
set_option maxHeartbeats 4000000
namespace CR
open PySem PySem.Spec L2
open PyProof.Rows hiding St
/-! ### unmasked -/
def Ln.un (l : Ln) (clock : Int) : Ln := if l.masked = true then { l with masked := false, since := if l.box = [] then .none else .int clock } else l
theorem getL {v : Vl} {k : Nat} {l l' : Ln} (h : v.lanes[k]? = some l) : (v.setL k l').lanes[k]? = some l' := by
  have := (List.getElem?_eq_some_iff.mp h).1
  show (v.lanes.set k _)[k]? = _
  simp [this]
theorem lenL {v : Vl} {k : Nat} {l' : Ln} : (v.setL k l').lanes.length = v.lanes.length := by
  show (v.lanes.set k _).length = _
  rw [List.length_set]
theorem setL_setL {v : Vl} {k : Nat} {l l' : Ln} : (v.setL k l).setL k l' = v.setL k l' := by
  unfold Vl.setL
  simp [List.set_set]
theorem unmasked_ex {v : Vl} {k : Nat} {l : Ln} {mem : D} {clock most wait : Int} (h : v.lanes[k]? = some l) (h0 : v.lanes.length ≤ 2) (hs : l.box ≠ [] → ∃ s, l.since = .int s) (f1 : SeqAt.shaped (.tuple l.box) = true) (f2 : noL (.tuple l.box) = true) :
    ∃ m' evs, m_unmasked [vlD v, mem, .int (k : Nat), .int clock, .int most, .int wait] = some (.tuple [vlD (v.setL k { l.un clock with masked := m' }), mem, .tuple (.tuple [.str "unmasked", halfD, .int (k : Nat)] :: evs)]) ∧ (evs = [] ∨ evs = [.tuple [.str "raised", halfD, .int (k : Nat), .int clock]]) := by
  have hk : (v.setL k (l.un clock)).lanes[k]? = some (l.un clock) := getL h
  have hbx : (l.un clock).box = l.box := by unfold Ln.un; split <;> rfl
  have hsi : (l.un clock).box ≠ [] → ∃ s, (l.un clock).since = .int s := fun hne => by
    rw [hbx] at hne
    unfold Ln.un
    by_cases hm : l.masked = true
    · rw [if_pos hm]
      exact ⟨clock, if_neg hne⟩
    · rw [if_neg hm]
      exact hs hne
  obtain ⟨m', evs, hlook, hev⟩ := look_ex (clock := clock) (most := most) (wait := wait) hk (by rw [lenL]; exact h0) hsi
  rw [setL_setL] at hlook
  refine ⟨m', evs, ?_, hev⟩
  have hel : evs.length ≤ 1 := by rcases hev with e | e <;> rw [e] <;> simp
  unfold m_unmasked
  have s1 : sPar 6 7 (aCons (eBin gIx (eBin gIx (eVar 0) (eC (.int 1))) (eVar 2)) (aCons (eVar 0) (aNil))) (startD 9 [vlD v, mem, .int (k : Nat), .int clock, .int most, .int wait]) = some (.nx [some (vlD v), some mem, some (.int (k : Nat)), some (.int clock), some (.int most), some (.int wait), some (lnD l), some (vlD v), none]) := by
    unfold sPar
    rw [ac_ (d := lnD l) (bin_ (x := .tuple (v.lanes.map lnD)) (y := .int (k : Nat)) (bin_ (x := vlD v) (y := .int 1) rfl rfl rfl) rfl (lanes_ix h)) (ac_ (d := vlD v) rfl an_)]
    rfl
  refine run_rt (seq_nx s1 (seq_nx (ρ' := [some (vlD v), some mem, some (.int (k : Nat)), some (.int clock), some (.int most), some (.int wait), some (lnD l), some (vlD (v.setL k (l.un clock))), none]) ?_ (seq_nx (ρ' := [some (vlD v), some mem, some (.int (k : Nat)), some (.int clock), some (.int most), some (.int wait), some (lnD l), some (vlD (v.setL k { l.un clock with masked := m' })), some (.tuple evs)]) ?_ (ret_ (tup_ (ac_ rfl (ac_ rfl (ac_ (d := .tuple (.tuple [.str "unmasked", halfD, .int (k : Nat)] :: evs)) ?_ an_))))))))
  · have ht : tOf (eBin gIx (eVar 6) (eC (.int 7))) [some (vlD v), some mem, some (.int (k : Nat)), some (.int clock), some (.int most), some (.int wait), some (lnD l), some (vlD v), none] = some l.masked := by kernel_rfl
    cases hm : l.masked with
    | false =>
      have e1 : l.un clock = l := by unfold Ln.un; rw [hm]; rfl
      rw [e1, setL_self h]
      exact if_f ht hm rfl
    | true =>
      have e1 : l.un clock = { l with masked := false, since := if l.box = [] then .none else .int clock } := by unfold Ln.un; rw [if_pos hm]
      refine if_t ht hm (seq_nx (set_ (d := vlD (v.setL k { l with masked := false })) ((call_ (ds := [vlD v, .int (k : Nat), .int (7 : Nat), .bool false]) (ac_ rfl (ac_ rfl (ac_ rfl (ac_ rfl an_)))) rfl).trans (lane_turned_eq (l' := { l with masked := false }) h h0 (by omega) rfl))) ((set_ (d := vlD (v.setL k (l.un clock))) ((call_ (ds := [vlD (v.setL k { l with masked := false }), .int (k : Nat), .int (6 : Nat), if l.box = [] then .none else .int clock]) (ac_ rfl (ac_ rfl (ac_ rfl (ac_ ?_ an_)))) rfl).trans ((lane_turned_eq (l' := { l with masked := false, since := if l.box = [] then .none else .int clock }) (getL h) (by rw [lenL]; exact h0) (by omega) rfl).trans (by rw [setL_setL, e1])))).trans rfl))
      have ht2 : tOf (eBin gEq (eBin gIx (eVar 6) (eC (.int 5))) (eTup (aNil))) [some (vlD v), some mem, some (.int (k : Nat)), some (.int clock), some (.int most), some (.int wait), some (lnD l), some (vlD (v.setL k { l with masked := false })), none] = (gEq (.tuple l.box) (.tuple [])).bind bOf := by kernel_rfl
      by_cases hb : l.box = []
      · have ht3 : (gEq (.tuple l.box) (.tuple [])).bind bOf = some true := by rw [hb]; kernel_rfl
        rw [if_pos hb]
        exact ife_ (ht2.trans ht3) rfl
      · rw [tup_nil hb f1 f2] at ht2
        rw [if_neg hb]
        exact ife_ (b := false) ht2 rfl
  · unfold sAsg
    rw [(call_ (n := 4) (m := m_look_at_lane) (ρ := [some (vlD v), some mem, some (.int (k : Nat)), some (.int clock), some (.int most), some (.int wait), some (lnD l), some (vlD (v.setL k (l.un clock))), none]) (g := aCons (eVar 7) (aCons (eVar 2) (aCons (eVar 3) (aCons (eTup (aCons (eVar 4) (aCons (eVar 5) (aNil)))) (aNil))))) (ds := [vlD (v.setL k (l.un clock)), .int (k : Nat), .int clock, .tuple [.int most, .int wait]]) (ac_ rfl (ac_ rfl (ac_ rfl (ac_ (tup_ (ac_ rfl (ac_ rfl an_))) an_)))) rfl).trans hlook]
    rfl
  · exact bin_ (x := .tuple [.tuple [.str "unmasked", halfD, .int (k : Nat)]]) (y := .tuple evs) (by kernel_rfl) rfl (gAdd_tup (by simp; omega))
/-! ### a tick -/
def PS : List D := [.tuple [.tuple [.int 2, .int 1], .tuple [.int 1, .int 1], .tuple [.int 4, .int 1]], .tuple [.tuple [.int 3, .int 1], .tuple [.int 1, .int 1], .tuple [.int 4, .int 1]], .tuple [.tuple [.int 4, .int 1], .tuple [.int 1, .int 1], .tuple [.int 4, .int 1]],
  .tuple [.tuple [.int 1, .int 2], .tuple [.int 1, .int 3], .tuple [.int 3, .int 2]], .tuple [.tuple [.int 5, .int 6], .tuple [.int 1, .int 3], .tuple [.int 3, .int 2]], .tuple [.tuple [.int 7, .int 6], .tuple [.int 1, .int 3], .tuple [.int 3, .int 2]], .tuple [.tuple [.int 3, .int 2], .tuple [.int 1, .int 3], .tuple [.int 3, .int 2]],
  .tuple [.tuple [.int 8, .int 1], .tuple [.int 1, .int 1], .tuple [.int 8, .int 1]],
  .tuple [.tuple [.int 0, .int 1], .tuple [.int 1, .int 8], .tuple [.int 1, .int 1]], .tuple [.tuple [.int 1, .int 8], .tuple [.int 1, .int 8], .tuple [.int 1, .int 1]], .tuple [.tuple [.int 1, .int 4], .tuple [.int 1, .int 8], .tuple [.int 1, .int 1]], .tuple [.tuple [.int 3, .int 8], .tuple [.int 1, .int 8], .tuple [.int 1, .int 1]],
  .tuple [.tuple [.int 1, .int 2], .tuple [.int 1, .int 8], .tuple [.int 1, .int 1]], .tuple [.tuple [.int 5, .int 8], .tuple [.int 1, .int 8], .tuple [.int 1, .int 1]], .tuple [.tuple [.int 3, .int 4], .tuple [.int 1, .int 8], .tuple [.int 1, .int 1]], .tuple [.tuple [.int 7, .int 8], .tuple [.int 1, .int 8], .tuple [.int 1, .int 1]], .tuple [.tuple [.int 1, .int 1], .tuple [.int 1, .int 8], .tuple [.int 1, .int 1]]]
theorem purses_in : ∀ p ∈ PURSES, p ∈ PS := by
  intro p hp
  simp only [PURSES, List.mem_cons, List.mem_nil_iff, or_false] at hp
  rcases hp with rfl | rfl | rfl | rfl <;> simp [PS]
def pNext (i : Nat) : Nat := [1, 2, 2, 4, 5, 6, 6, 7, 9, 10, 11, 12, 13, 14, 15, 16, 16].getD i 0
theorem purse_next : ∀ p ∈ PS, ∃ p', p' ∈ PS ∧ m_purse_filled [p, .int 1] = some p' := by
  intro p hp
  obtain ⟨i, hi⟩ := List.mem_iff_getElem?.mp hp
  have hlt : i < 17 := (List.getElem?_eq_some_iff.mp hi).1
  have hc : i = 0 ∨ i = 1 ∨ i = 2 ∨ i = 3 ∨ i = 4 ∨ i = 5 ∨ i = 6 ∨ i = 7 ∨ i = 8 ∨ i = 9 ∨ i = 10 ∨ i = 11 ∨ i = 12 ∨ i = 13 ∨ i = 14 ∨ i = 15 ∨ i = 16 := by omega
  rcases hc with rfl | rfl | rfl | rfl | rfl | rfl | rfl | rfl | rfl | rfl | rfl | rfl | rfl | rfl | rfl | rfl | rfl <;> cases hi
  · exact ⟨_, List.mem_of_getElem? (i := 1) rfl, by kernel_rfl⟩
  · exact ⟨_, List.mem_of_getElem? (i := 2) rfl, by kernel_rfl⟩
  · exact ⟨_, List.mem_of_getElem? (i := 2) rfl, by kernel_rfl⟩
  · exact ⟨_, List.mem_of_getElem? (i := 4) rfl, by kernel_rfl⟩
  · exact ⟨_, List.mem_of_getElem? (i := 5) rfl, by kernel_rfl⟩
  · exact ⟨_, List.mem_of_getElem? (i := 6) rfl, by kernel_rfl⟩
  · exact ⟨_, List.mem_of_getElem? (i := 6) rfl, by kernel_rfl⟩
  · exact ⟨_, List.mem_of_getElem? (i := 7) rfl, by kernel_rfl⟩
  · exact ⟨_, List.mem_of_getElem? (i := 9) rfl, by kernel_rfl⟩
  · exact ⟨_, List.mem_of_getElem? (i := 10) rfl, by kernel_rfl⟩
  · exact ⟨_, List.mem_of_getElem? (i := 11) rfl, by kernel_rfl⟩
  · exact ⟨_, List.mem_of_getElem? (i := 12) rfl, by kernel_rfl⟩
  · exact ⟨_, List.mem_of_getElem? (i := 13) rfl, by kernel_rfl⟩
  · exact ⟨_, List.mem_of_getElem? (i := 14) rfl, by kernel_rfl⟩
  · exact ⟨_, List.mem_of_getElem? (i := 15) rfl, by kernel_rfl⟩
  · exact ⟨_, List.mem_of_getElem? (i := 16) rfl, by kernel_rfl⟩
  · exact ⟨_, List.mem_of_getElem? (i := 16) rfl, by kernel_rfl⟩
end CR
/-! PlJ -/
set_option maxHeartbeats 4000000
namespace CR
open PySem PySem.Spec L2
open PyProof.Rows hiding St
/-! ### a tick, whole -/
def tickBody : Stm := sSeq (sAsg (eCall 4 [] m_look_at_lane (aCons (eVar 6) (aCons (eVar 5) (aCons (eVar 2) (aCons (eTup (aCons (eVar 3) (aCons (eVar 4) (aNil)))) (aNil)))))) (uTup 2 (uCons (uName 6) (uCons (uName 8) (uNil))))) (sSet 7 (eBin gAdd (eVar 7) (eVar 8)))
def Raised (clock : Int) (evs : List D) : Prop := ∀ e ∈ evs, ∃ k : Nat, e = .tuple [.str "raised", halfD, .int (k : Nat), .int clock]
theorem tick_body {v0 mem x8 : D} {v : Vl} {k : Nat} {l : Ln} {clock most wait : Int} {evs : List D} {x5 : Option D} {y8 : Option D} (h : v.lanes[k]? = some l) (h0 : v.lanes.length ≤ 2) (hs : l.box ≠ [] → ∃ s, l.since = .int s) (hr : Raised clock evs) (he : evs.length ≤ 10) :
    ∃ m' evs' z8, tickBody [some v0, some mem, some (.int clock), some (.int most), some (.int wait), some (.int (k : Nat)), some (vlD v), some (.tuple evs), y8] = some (.nx [some v0, some mem, some (.int clock), some (.int most), some (.int wait), some (.int (k : Nat)), some (vlD (v.setL k { l with masked := m' })), some (.tuple evs'), z8]) ∧ Raised clock evs' ∧ evs'.length ≤ evs.length + 1 := by
  obtain ⟨m', more, hlook, hev⟩ := look_ex (clock := clock) (most := most) (wait := wait) h h0 hs
  have hm : more.length ≤ 1 := by rcases hev with e | e <;> rw [e] <;> simp
  refine ⟨m', evs ++ more, some (.tuple more), ?_, ?_, by rw [List.length_append]; omega⟩
  · unfold tickBody
    refine seq_nx (ρ' := [some v0, some mem, some (.int clock), some (.int most), some (.int wait), some (.int (k : Nat)), some (vlD (v.setL k { l with masked := m' })), some (.tuple evs), some (.tuple more)]) ?_ ((set_ (d := .tuple (evs ++ more)) (bin_ (x := .tuple evs) (y := .tuple more) rfl rfl (gAdd_tup (by omega)))).trans rfl)
    unfold sAsg
    rw [(call_ (n := 4) (m := m_look_at_lane) (ρ := [some v0, some mem, some (.int clock), some (.int most), some (.int wait), some (.int (k : Nat)), some (vlD v), some (.tuple evs), y8]) (g := aCons (eVar 6) (aCons (eVar 5) (aCons (eVar 2) (aCons (eTup (aCons (eVar 3) (aCons (eVar 4) (aNil)))) (aNil))))) (ds := [vlD v, .int (k : Nat), .int clock, .tuple [.int most, .int wait]]) (ac_ rfl (ac_ rfl (ac_ rfl (ac_ (tup_ (ac_ rfl (ac_ rfl an_))) an_)))) rfl).trans hlook]
    rfl
  · intro e hm2
    rcases List.mem_append.mp hm2 with q | q
    · exact hr e q
    · rcases hev with rfl | rfl
      · simp at q
      · exact ⟨k, by simpa using q⟩
theorem ticked_ex {v : Vl} {mem : D} {clock most wait : Int} (h0 : 1 ≤ v.lanes.length) (h1 : v.lanes.length ≤ 2) (hs : ∀ (k : Nat) (l : Ln), v.lanes[k]? = some l → l.box ≠ [] → ∃ s, l.since = .int s) (hp : v.purse ∈ PS) :
    ∃ v' evs, m_ticked [vlD v, mem, .int clock, .int most, .int wait] = some (.tuple [vlD v', mem, .tuple evs]) ∧ Raised clock evs ∧ v'.js = v.js ∧ v'.purse ∈ PS ∧ v'.lanes.length = v.lanes.length ∧ ∀ (k : Nat) (l : Ln), v.lanes[k]? = some l → ∃ m', v'.lanes[k]? = some { l with masked := m' } := by
  obtain ⟨p', hp', hpe⟩ := purse_next _ hp
  have s1 : sPar 6 7 (aCons (eCall 3 [] m_turned_at (aCons (eVar 0) (aCons (eC (.int 7)) (aCons (eCall 2 [.int 1] m_purse_filled (aCons (eBin gIx (eVar 0) (eC (.int 7))) (aNil))) (aNil))))) (aCons (eTup (aNil)) (aNil))) (startD 9 [vlD v, mem, .int clock, .int most, .int wait]) = some (.nx [some (vlD v), some mem, some (.int clock), some (.int most), some (.int wait), none, some (vlD { v with purse := p' }), some (.tuple []), none]) := by
    unfold sPar
    rw [ac_ (d := vlD { v with purse := p' }) ((call_ (n := 3) (m := m_turned_at) (ds := [vlD v, .int (7 : Nat), p']) (ac_ rfl (ac_ rfl (ac_ ((call1_ (n := 1) (ds := [v.purse]) (ac_ (bin_ (x := vlD v) (y := .int 7) rfl rfl rfl) an_) rfl).trans hpe) an_))) rfl).trans ((turned_eq (vlL v) 7 p' (by show 7 < 9; omega) (by show 9 ≤ 900; omega)).trans rfl)) (ac_ (d := .tuple []) rfl an_)]
    rfl
  have hn : (aCons (eCB gLen (aCons (eBin gIx (eVar 0) (eC (.int 1))) (aNil))) (aNil)) [some (vlD v), some mem, some (.int clock), some (.int most), some (.int wait), none, some (vlD { v with purse := p' }), some (.tuple []), none] = some [.int ((v.lanes.length : Nat) : Int)] := by
    have : (aCons (eCB gLen (aCons (eBin gIx (eVar 0) (eC (.int 1))) (aNil))) (aNil)) [some (vlD v), some mem, some (.int clock), some (.int most), some (.int wait), none, some (vlD { v with purse := p' }), some (.tuple []), none] = some [.int (((v.lanes.map lnD).length : Nat) : Int)] := by kernel_rfl
    rw [this, List.length_map]
  have go : ∀ (v' : Vl) (evs : List D) (x5 x8 : Option D), forD 5 tickBody 0 v.lanes.length [some (vlD v), some mem, some (.int clock), some (.int most), some (.int wait), none, some (vlD { v with purse := p' }), some (.tuple []), none] = some [some (vlD v), some mem, some (.int clock), some (.int most), some (.int wait), x5, some (vlD v'), some (.tuple evs), x8] →
      m_ticked [vlD v, mem, .int clock, .int most, .int wait] = some (.tuple [vlD v', mem, .tuple evs]) := fun v' evs x5 x8 hf => by
    unfold m_ticked
    refine run_rt (seq_nx s1 (seq_nx (ρ' := [some (vlD v), some mem, some (.int clock), some (.int most), some (.int wait), x5, some (vlD v'), some (.tuple evs), x8]) ?_ (ret_ (tup_ (ac_ rfl (ac_ rfl (ac_ rfl an_)))))))
    show sForR 5 _ tickBody _ = _
    unfold sForR
    rw [hn]
    show (if (0 : Int) ≤ (v.lanes.length : Nat) ∧ ((v.lanes.length : Nat) : Int) ≤ 1000 then (forD 5 tickBody 0 ((v.lanes.length : Nat) : Int).toNat _).map Res.nx else none) = _
    rw [if_pos ⟨by omega, by omega⟩, Int.toNat_natCast, hf]
    rfl
  have hc : v.lanes.length = 1 ∨ v.lanes.length = 2 := by omega
  have hl0 := List.getElem?_eq_getElem (l := v.lanes) (i := 0) (by omega)
  generalize v.lanes[0]'(by omega) = l0 at hl0
  obtain ⟨m0, ev0, z0, hb0, hr0, hle0⟩ := tick_body (v0 := vlD v) (mem := mem) (x8 := .none) (v := { v with purse := p' }) (k := 0) (most := most) (wait := wait) (clock := clock) (evs := []) (x5 := none) (y8 := none) hl0 h1 (hs 0 l0 hl0) (fun e h => by simp at h) (by simp)
  rcases hc with hc | hc
  · refine ⟨Vl.setL { v with purse := p' } 0 { l0 with masked := m0 }, ev0, go _ ev0 (some (.int (0 : Nat))) z0 ?_, hr0, rfl, hp', lenL, fun k l hk => ?_⟩
    · exact (by rw [hc]; show (match tickBody [some (vlD v), some mem, some (.int clock), some (.int most), some (.int wait), some (.int ((0 : Nat) : Int)), some (vlD { v with purse := p' }), some (.tuple []), none] with
        | some (.nx ρ') => forD 5 tickBody 1 0 ρ'
        | _ => none) = _; rw [hb0]; rfl)
    · have hk0 : k = 0 := by
        have := (List.getElem?_eq_some_iff.mp hk).1
        omega
      subst hk0
      rw [hl0] at hk
      cases hk
      exact ⟨m0, getL (v := { v with purse := p' }) hl0⟩
  · have hl1 := List.getElem?_eq_getElem (l := v.lanes) (i := 1) (by omega)
    generalize v.lanes[1]'(by omega) = l1 at hl1
    have hl1' : (Vl.setL { v with purse := p' } 0 { l0 with masked := m0 }).lanes[1]? = some l1 := by
      show (v.lanes.set 0 _)[1]? = _
      rw [List.getElem?_set_ne (by decide)]
      exact hl1
    obtain ⟨m1, ev1, z1, hb1, hr1, hle1⟩ := tick_body (v0 := vlD v) (mem := mem) (x8 := .none) (v := Vl.setL { v with purse := p' } 0 { l0 with masked := m0 }) (k := 1) (most := most) (wait := wait) (clock := clock) (evs := ev0) (x5 := none) (y8 := z0) hl1' (by rw [lenL]; exact h1) (hs 1 l1 hl1) hr0 (by have : ([] : List D).length = 0 := rfl; omega)
    refine ⟨Vl.setL (Vl.setL { v with purse := p' } 0 { l0 with masked := m0 }) 1 { l1 with masked := m1 }, ev1, go _ ev1 (some (.int (1 : Nat))) z1 ?_, hr1, rfl, hp', lenL.trans lenL, fun k l hk => ?_⟩
    · exact (by rw [hc]; show (match tickBody [some (vlD v), some mem, some (.int clock), some (.int most), some (.int wait), some (.int ((0 : Nat) : Int)), some (vlD { v with purse := p' }), some (.tuple []), none] with
        | some (.nx ρ') => forD 5 tickBody 1 1 ρ'
        | _ => none) = _; rw [hb0]; show (match tickBody [some (vlD v), some mem, some (.int clock), some (.int most), some (.int wait), some (.int ((1 : Nat) : Int)), some (vlD (Vl.setL { v with purse := p' } 0 { l0 with masked := m0 })), some (.tuple ev0), z0] with
        | some (.nx ρ') => forD 5 tickBody 2 0 ρ'
        | _ => none) = _; rw [hb1]; rfl)
    · have hk1 : k = 0 ∨ k = 1 := by
        have := (List.getElem?_eq_some_iff.mp hk).1
        omega
      rcases hk1 with rfl | rfl
      · rw [hl0] at hk
        cases hk
        refine ⟨m0, ?_⟩
        show ((v.lanes.set 0 _).set 1 _)[0]? = _
        rw [List.getElem?_set_ne (by decide)]
        exact getL (v := { v with purse := p' }) hl0
      · rw [hl1] at hk
        cases hk
        exact ⟨m1, getL hl1'⟩
end CR
/-! PlK -/
set_option maxHeartbeats 4000000
namespace CR
open PySem PySem.Spec L2
open PyProof.Rows hiding St
/-! ### pairs by talk -/
structure KOk (kvs : List (NK × D)) : Prop where
  nd : (kvs.map (·.1)).Nodup
  ks : ∀ p ∈ kvs, ∃ t ∈ TALKS, p.1 = tk t
  len : kvs.length ≤ 900
def jsD (kvs : List (NK × D)) : D := .list (kvs.map pairD)
theorem kvOf_pairs : ∀ {kvs : List (NK × D)}, (∀ p ∈ kvs, ∃ t ∈ TALKS, p.1 = tk t) → kvOf (kvs.map pairD) = some kvs
  | [], _ => rfl
  | p :: kvs, h => by
    obtain ⟨t, ht, e⟩ := h p List.mem_cons_self
    have := kvOf_pairs fun q hq => h q (List.mem_cons_of_mem _ hq)
    obtain ⟨k1, k2, k3⟩ := talk_ok t ht
    show (nkOf p.1.data).bind _ = _
    rw [nkOf_of]
    show (if (isTupK p.1 = true ∧ p.1.depth ≤ 8) then (kvOf (kvs.map pairD)).map ((p.1, p.2) :: ·) else none) = _
    rw [if_pos ⟨by rw [e]; exact k2, by rw [e]; omega⟩, this]
    rfl
theorem dset_new {kvs : List (NK × D)} {k : NK} {d : D} (h : k ∉ kvs.map (·.1)) : dset kvs k d = kvs ++ [(k, d)] := by
  unfold dset
  rw [if_neg]
  intro hc
  obtain ⟨p, hp, e⟩ := List.any_eq_true.mp hc
  exact h (List.mem_map.mpr ⟨p, hp, of_decide_eq_true e⟩)
theorem dall_self : ∀ (zs xs : List (NK × D)), ((xs ++ zs).map (·.1)).Nodup → dall xs zs = xs ++ zs
  | [], xs, _ => by simp [dall]
  | z :: zs, xs, h => by
    show dall (dset xs z.1 z.2) zs = _
    have hn : z.1 ∉ xs.map (·.1) := by
      intro hm
      rw [List.map_append, List.map_cons] at h
      exact (List.nodup_append.mp h).2.2 _ hm _ List.mem_cons_self rfl
    rw [dset_new hn, dall_self zs (xs ++ [(z.1, z.2)]) (by simpa using h)]
    simp
theorem dget_cons (p : NK × D) (kvs : List (NK × D)) (k : NK) : dget (p :: kvs) k = if p.1 = k then some p.2 else dget kvs k := by
  unfold dget
  rw [List.find?_cons]
  by_cases h : p.1 = k
  · simp [h]
  · simp [h]
theorem dget_some {kvs : List (NK × D)} (h : (kvs.map (·.1)).Nodup) {k : NK} {d : D} : dget kvs k = some d ↔ (k, d) ∈ kvs := by
  induction kvs with
  | nil => simp [dget]
  | cons p kvs ih =>
    rw [List.map_cons, List.nodup_cons] at h
    rw [dget_cons, List.mem_cons]
    by_cases e : p.1 = k
    · rw [if_pos e]
      constructor
      · intro q
        left
        cases q
        rw [← e]
      · intro q
        rcases q with q | q
        · rw [← q]
        · exact absurd (List.mem_map.mpr ⟨(k, d), q, e.symm⟩) h.1
    · rw [if_neg e, ih h.2]
      constructor
      · exact .inr
      · intro q
        rcases q with q | q
        · exact absurd (by rw [← q]) e
        · exact q
theorem dget_perm {kvs ls : List (NK × D)} (h : (kvs.map (·.1)).Nodup) (p : List.Perm ls kvs) (k : NK) : dget ls k = dget kvs k := by
  have h2 : (ls.map (·.1)).Nodup := (p.map _).nodup_iff.mpr h
  cases e : dget kvs k with
  | some d => rw [dget_some h] at e; rw [dget_some h2]; exact p.mem_iff.mpr e
  | none =>
    cases e2 : dget ls k with
    | none => rfl
    | some d =>
      rw [dget_some h2] at e2
      have := (dget_some h).mpr (p.mem_iff.mp e2)
      rw [e] at this
      cases this
theorem dget_map (k k' : NK) (d : D) : ∀ kvs : List (NK × D), dget (kvs.map fun p => if p.1 = k then (p.1, d) else p) k' = if k = k' then (dget kvs k').map (fun _ => d) else dget kvs k'
  | [] => by simp [dget]
  | p :: kvs => by
    rw [List.map_cons, dget_cons, dget_cons, dget_map k k' d kvs]
    by_cases e : p.1 = k
    · rw [if_pos e]
      by_cases e2 : k = k'
      · simp [e, e2]
      · have e3 : p.1 ≠ k' := fun z => e2 (e.symm.trans z)
        simp [e2, e3]
    · rw [if_neg e]
      by_cases e2 : k = k'
      · have e3 : p.1 ≠ k' := fun z => e (z.trans e2.symm)
        simp [e2, e3]
      · simp [e2]
theorem dget_app (k k' : NK) (d : D) : ∀ kvs : List (NK × D), dget (kvs ++ [(k, d)]) k' = match dget kvs k' with
    | some x => some x
    | none => if k = k' then some d else none
  | [] => by simp [dget_cons, dget]
  | p :: kvs => by
    rw [List.cons_append, dget_cons, dget_cons, dget_app k k' d kvs]
    by_cases e : p.1 = k'
    · simp [e]
    · simp [e]
theorem dget_any (k : NK) : ∀ kvs : List (NK × D), (kvs.any fun p => decide (p.1 = k)) = (dget kvs k).isSome
  | [] => rfl
  | p :: kvs => by
    rw [List.any_cons, dget_cons, dget_any k kvs]
    by_cases e : p.1 = k <;> simp [e]
theorem dget_dset (kvs : List (NK × D)) (k k' : NK) (d : D) : dget (dset kvs k d) k' = if k = k' then some d else dget kvs k' := by
  unfold dset
  rw [dget_any]
  cases h : dget kvs k with
  | some x =>
    simp only [Option.isSome_some, if_true]
    rw [dget_map]
    by_cases e : k = k'
    · subst e
      simp [h]
    · simp [e]
  | none =>
    simp only [Option.isSome_none, Bool.false_eq_true, if_false]
    rw [dget_app]
    by_cases e : k = k'
    · subst e
      simp [h]
    · simp only [e, if_false]
      cases dget kvs k' <;> rfl
theorem by_talk_eq {kvs : List (NK × D)} (h : KOk kvs) {t : D} (ht : t ∈ TALKS) (y : D) : m_by_talk [jsD kvs, t, y] = some ((dget kvs (tk t)).getD y) := by
  obtain ⟨k1, k2, k3⟩ := talk_ok t ht
  have : m_by_talk [jsD kvs, t, y] = (gGetN [jsD kvs, t, y]) := by
    unfold m_by_talk
    have e : eGetN (eVar 0) (eVar 1) (eVar 2) (startD 3 [jsD kvs, t, y]) = gGetN [jsD kvs, t, y] := rfl
    cases hg : gGetN [jsD kvs, t, y] with
    | some d => exact run_rt (ret_ (e.trans hg))
    | none =>
      unfold runD F_by_talk sRet
      rw [e, hg]
      rfl
  rw [this]
  show (kvOf (kvs.map pairD)).bind _ = _
  rw [kvOf_pairs h.ks]
  show (nkOf t).bind _ = _
  rw [k1]
  show (if kvs.length ≤ 1000 ∧ isTupK (tk t) = true ∧ (tk t).depth ≤ 8 then some ((dget (dall [] kvs) (tk t)).getD y) else none) = _
  rw [if_pos ⟨by have := h.len; omega, k2, by omega⟩, dall_self kvs [] (by simpa using h.nd)]
  rfl
theorem keys_alike : ∀ t ∈ TALKS, ∀ u ∈ TALKS, PySem.W.alike (tk t).data (tk u).data = true := by decide +kernel
theorem key_tup : ∀ t ∈ TALKS, (match tk t with
  | .tup (_ :: _) => true
  | _ => false) = true := by decide +kernel
theorem dset_keys {kvs : List (NK × D)} {k : NK} {d : D} {p : NK × D} (h : p ∈ dset kvs k d) : p.1 = k ∨ ∃ q ∈ kvs, q.1 = p.1 := by
  unfold dset at h
  split at h
  · obtain ⟨q, hq, rfl⟩ := List.mem_map.mp h
    right
    exact ⟨q, hq, by split <;> rfl⟩
  · rcases List.mem_append.mp h with h | h
    · exact .inr ⟨p, h, rfl⟩
    · left
      have : p = (k, d) := by simpa using h
      rw [this]
theorem with_talk_eq {kvs : List (NK × D)} (h : KOk kvs) {t : D} (ht : t ∈ TALKS) (y : D) (hl : kvs.length < 900) : ∃ kvs', KOk kvs' ∧ m_with_talk [jsD kvs, t, y] = some (jsD kvs') ∧ (∀ k, dget kvs' k = if tk t = k then some y else dget kvs k) ∧ kvs'.length ≤ kvs.length + 1 := by
  obtain ⟨k1, k2, k3⟩ := talk_ok t ht
  have hp : List.Perm (srt (dset kvs (tk t) y)) (dset kvs (tk t) y) := List.mergeSort_perm _ _
  have hnd := dset_nodup (k := tk t) (d := y) h.nd
  have hks : ∀ p ∈ dset kvs (tk t) y, ∃ u ∈ TALKS, p.1 = tk u := fun p hm => by
    rcases dset_keys hm with e | ⟨q, hq, e⟩
    · exact ⟨t, ht, e⟩
    · obtain ⟨u, hu, e2⟩ := h.ks q hq
      exact ⟨u, hu, e.symm.trans e2⟩
  have hlen := dset_len kvs (tk t) y
  refine ⟨srt (dset kvs (tk t) y), ⟨(hp.map _).nodup_iff.mpr hnd, fun p hm => hks p (hp.mem_iff.mp hm), by rw [hp.length_eq]; omega⟩, ?_, fun k => ?_, by rw [hp.length_eq]; exact hlen⟩
  · show (kvOf (kvs.map pairD)).bind _ = _
    rw [kvOf_pairs h.ks]
    show (nkOf t).bind _ = _
    rw [k1]
    show (if (kvs.length < 1000 ∧ isTupK (tk t) = true ∧ (tk t).depth ≤ 8) ∧ okKeys (dset (dall [] kvs) (tk t) y) = true then some (PyData.list ((srt (dset (dall [] kvs) (tk t) y)).map pairD)) else none) = _
    have e : dall [] kvs = kvs := (dall_self kvs [] (by simpa using h.nd)).trans (by simp)
    rw [e]
    rw [if_pos]
    · rfl
    · refine ⟨⟨by omega, k2, by omega⟩, ?_⟩
      unfold okKeys
      rw [Bool.and_eq_true]
      refine ⟨List.all_eq_true.mpr fun p hp1 => List.all_eq_true.mpr fun q hq1 => ?_, List.all_eq_true.mpr fun p hp1 => ?_⟩
      · obtain ⟨u, hu, e1⟩ := hks p hp1
        obtain ⟨u2, hu2, e2⟩ := hks q hq1
        rw [e1, e2]
        exact keys_alike u hu u2 hu2
      · obtain ⟨u, hu, e1⟩ := hks p hp1
        have := key_tup u hu
        rw [e1]
        exact this
  · rw [dget_perm hnd hp, dget_dset]
end CR
/-! PlL -/
set_option maxHeartbeats 4000000
namespace CR
open PySem PySem.Spec L2
open PyProof.Rows hiding St
theorem lane_of_ex {t : D} (ht : t ∈ TALKS) {n : Nat} (h1 : 1 ≤ n) (h2 : n ≤ 2) : ∃ k : Nat, k < n ∧ m_lane_of [.list [], t, .int (n : Nat)] = some (.int (k : Nat)) := by
  have hn : n = 1 ∨ n = 2 := by omega
  simp only [TALKS, List.mem_cons, List.mem_nil_iff, or_false] at ht
  rcases hn with rfl | rfl
  · refine ⟨0, by omega, ?_⟩
    rcases ht with rfl | rfl | rfl | rfl <;> kernel_rfl
  · rcases ht with rfl | rfl | rfl | rfl
    · exact ⟨1, by omega, by kernel_rfl⟩
    · exact ⟨0, by omega, by kernel_rfl⟩
    · exact ⟨0, by omega, by kernel_rfl⟩
    · exact ⟨0, by omega, by kernel_rfl⟩
end CR
/-! PlM -/
set_option maxHeartbeats 4000000
namespace CR
open PySem PySem.Spec L2
open PyProof.Rows hiding St
/-! ### a whole letter -/
theorem callK_ {n j : Nat} {m : List D → Option D} {f g : DEnv → Option (List D)} {ρ : DEnv} {ds es : List D} (h1 : f ρ = some ds) (h2 : g ρ = some es) (hn : ds.length = n) (hj : es.length = j) : eCallK n j m f g ρ = m (ds ++ es) := by
  unfold eCallK
  rw [h1, h2]
  show (if ds.length = n ∧ es.length = j then m (ds ++ es) else none) = _
  rw [if_pos ⟨hn, hj⟩]
def letD (t : D) (n : Int) (ws : List Int) : D := .tuple [t, .int n, .tuple (ws.map .int)]
def TW (v mem L Tm : D) (clock most wait : Int) (t : D) (n : Int) (ws : List Int) (x5 x6 x7 x8 x16 x17 x18 : Option D) : DEnv := [some v, some mem, some R7, some L, some Tm, x5, x6, x7, x8, some (.int clock), some (.int most), some (.int wait), some t, some (.int n), some (.tuple (ws.map .int)), some halfD, x16, x17, x18]
theorem tw_start {v : Vl} {mem t : D} {n clock most wait : Int} {ws : List Int} {k : Nat} {F : Stm} {r : Option Res} (hk : m_lane_of [.list [], t, .int (v.lanes.length : Nat)] = some (.int (k : Nat)))
    (h : F (TW (vlD v) mem (letD t n ws) (.tuple [.int clock, .int most, .int wait]) clock most wait t n ws none none none none (some (.int (k : Nat))) none none) = r) :
    sSeq (sAsg (eVar 4) (uTup 3 (uCons (uName 9) (uCons (uName 10) (uCons (uName 11) (uNil)))))) (sSeq (sAsg (eVar 3) (uTup 3 (uCons (uName 12) (uCons (uName 13) (uCons (uName 14) (uNil)))))) (sSeq (sPar 15 16 (aCons (eBin gIx (eVar 0) (eC (.int 0))) (aCons (eCallK 2 (["lanes"] : List Str).length m_lane_of (aCons (eBin gIx (eVar 0) (eC (.int 6))) (aCons (eVar 12) (aNil))) (aCons (eCB gLen (aCons (eBin gIx (eVar 0) (eC (.int 1))) (aNil))) (aNil))) (aNil)))) F))
      (startD 19 [vlD v, mem, R7, letD t n ws, .tuple [.int clock, .int most, .int wait]]) = r := by
  refine seq_nx (ρ' := [some (vlD v), some mem, some R7, some (letD t n ws), some (.tuple [.int clock, .int most, .int wait]), none, none, none, none, some (.int clock), some (.int most), some (.int wait), none, none, none, none, none, none, none]) (by kernel_rfl) (seq_nx (ρ' := [some (vlD v), some mem, some R7, some (letD t n ws), some (.tuple [.int clock, .int most, .int wait]), none, none, none, none, some (.int clock), some (.int most), some (.int wait), some t, some (.int n), some (.tuple (ws.map .int)), none, none, none, none]) (by kernel_rfl) (seq_nx (ρ' := TW (vlD v) mem (letD t n ws) (.tuple [.int clock, .int most, .int wait]) clock most wait t n ws none none none none (some (.int (k : Nat))) none none) ?_ h))
  unfold sPar
  have hlen : (aCons (eCB gLen (aCons (eBin gIx (eVar 0) (eC (.int 1))) (aNil))) (aNil)) [some (vlD v), some mem, some R7, some (letD t n ws), some (.tuple [.int clock, .int most, .int wait]), none, none, none, none, some (.int clock), some (.int most), some (.int wait), some t, some (.int n), some (.tuple (ws.map .int)), none, none, none, none] = some [.int (((v.lanes.map lnD).length : Nat) : Int)] := by kernel_rfl
  rw [List.length_map] at hlen
  rw [ac_ (d := halfD) rfl (ac_ (d := .int (k : Nat)) ((callK_ (n := 2) (j := (["lanes"] : List Str).length) (f := aCons (eBin gIx (eVar 0) (eC (.int 6))) (aCons (eVar 12) (aNil))) (ds := [.list [], t]) (ac_ rfl (ac_ rfl an_)) hlen rfl rfl).trans hk) an_)]
  rfl
theorem whole_none {v : Vl} {mem t : D} {n clock most wait : Int} {ws : List Int} {k : Nat} (hk : m_lane_of [.list [], t, .int (v.lanes.length : Nat)] = some (.int (k : Nat))) (ho : m_oldest_posted [vlD v, .int (k : Nat)] = some .none) :
    m_takes_whole [vlD v, mem, R7, letD t n ws, .tuple [.int clock, .int most, .int wait]] = some (.tuple [vlD v, mem, .tuple [.tuple [.str "missed", halfD, t, .int n, .str "none"]]]) := by
  unfold m_takes_whole
  refine run_rt (tw_start hk (seq_nx (set_ (d := .none) ((call_ (ds := [vlD v, .int (k : Nat)]) (ac_ rfl (ac_ rfl an_)) rfl).trans ho)) (seq_rt (if_t (b := true) ?_ rfl (ret_ ?_)))))
  · kernel_rfl
  · kernel_rfl
theorem whole_why {v v1 : Vl} {mem t : D} {s : Str} {n clock most wait : Int} {p a m : Nat} {ws : List Int} {k : Nat} (hk : m_lane_of [.list [], t, .int (v.lanes.length : Nat)] = some (.int (k : Nat))) (ho : m_oldest_posted [vlD v, .int (k : Nat)] = some (.tuple [vlD v1, .tuple [.int (p : Nat), .int (a : Nat), .int (m : Nat)]])) (hp : p < 9) (hy : whyD p m (ws.map .int) = .str s) :
    m_takes_whole [vlD v, mem, R7, letD t n ws, .tuple [.int clock, .int most, .int wait]] = some (.tuple [vlD v1, mem, .tuple [.tuple [.str "missed", halfD, t, .int n, .str s], .tuple [.str "returned", halfD, .int (k : Nat), .tuple [.int (p : Nat), .int (a : Nat), .int (m : Nat)]]]]) := by
  unfold m_takes_whole
  refine run_rt (tw_start hk (seq_nx (set_ (d := .tuple [vlD v1, .tuple [.int (p : Nat), .int (a : Nat), .int (m : Nat)]]) ((call_ (ds := [vlD v, .int (k : Nat)]) (ac_ rfl (ac_ rfl an_)) rfl).trans ho)) (seq_nx (if_f (b := false) (by kernel_rfl) rfl nil_) (seq_nx (ρ' := TW (vlD v) mem (letD t n ws) (.tuple [.int clock, .int most, .int wait]) clock most wait t n ws (some (.tuple [vlD v1, .tuple [.int (p : Nat), .int (a : Nat), .int (m : Nat)]])) none none (some (vlD v1)) (some (.int (k : Nat))) (some (.tuple [.int (p : Nat), .int (a : Nat), .int (m : Nat)])) none) (by kernel_rfl) (seq_nx (set_ (d := .str s) ((call_ (ds := [vlD v, R7, .tuple [.int (p : Nat), .int (a : Nat), .int (m : Nat)], .tuple (ws.map .int)]) (ac_ rfl (ac_ rfl (ac_ rfl (ac_ rfl an_)))) rfl).trans ((why_eq hp).trans (by rw [hy])))) (seq_rt (if_t (b := true) (by kernel_rfl) rfl (ret_ (by kernel_rfl)))))))))
theorem whole_fill {v v1 v2 v3 : Vl} {mem mem' t : D} {n clock most wait : Int} {p a m : Nat} {ws : List Int} {k : Nat} {evs : List D} (hk : m_lane_of [.list [], t, .int (v.lanes.length : Nat)] = some (.int (k : Nat))) (ho : m_oldest_posted [vlD v, .int (k : Nat)] = some (.tuple [vlD v1, .tuple [.int (p : Nat), .int (a : Nat), .int (m : Nat)]])) (hp : p < 9) (hy : whyD p m (ws.map .int) = .none)
    (hb : m_boxed [vlD v1, .int (k : Nat), .tuple [t, .int n, .tuple [.int (p : Nat), .int (a : Nat), .int (ws.length : Nat)], .int clock], .int clock] = some (vlD v2)) (hl : m_look_at_lane [vlD v2, .int (k : Nat), .int clock, .tuple [.int most, .int wait]] = some (.tuple [vlD v3, .tuple evs]))
    (hw : m_written [mem, .tuple [.int (p : Nat), .int (a : Nat), .int (m : Nat)], .tuple (ws.map .int)] = some mem') (he : evs.length ≤ 900) :
    m_takes_whole [vlD v, mem, R7, letD t n ws, .tuple [.int clock, .int most, .int wait]] = some (.tuple [vlD v3, mem', .tuple (.tuple [.str "filled", halfD, .int (k : Nat), t, .int n] :: evs)]) := by
  unfold m_takes_whole
  refine run_rt (tw_start hk (seq_nx (set_ (d := .tuple [vlD v1, .tuple [.int (p : Nat), .int (a : Nat), .int (m : Nat)]]) ((call_ (ds := [vlD v, .int (k : Nat)]) (ac_ rfl (ac_ rfl an_)) rfl).trans ho)) (seq_nx (if_f (b := false) (by kernel_rfl) rfl nil_) (seq_nx (ρ' := TW (vlD v) mem (letD t n ws) (.tuple [.int clock, .int most, .int wait]) clock most wait t n ws (some (.tuple [vlD v1, .tuple [.int (p : Nat), .int (a : Nat), .int (m : Nat)]])) none none (some (vlD v1)) (some (.int (k : Nat))) (some (.tuple [.int (p : Nat), .int (a : Nat), .int (m : Nat)])) none) (by kernel_rfl) (seq_nx (set_ (d := .none) ((call_ (ds := [vlD v, R7, .tuple [.int (p : Nat), .int (a : Nat), .int (m : Nat)], .tuple (ws.map .int)]) (ac_ rfl (ac_ rfl (ac_ rfl (ac_ rfl an_)))) rfl).trans ((why_eq hp).trans (by rw [hy])))) (seq_nx (if_f (b := false) (by kernel_rfl) rfl nil_)
    (seq_nx (ρ' := TW (vlD v) mem (letD t n ws) (.tuple [.int clock, .int most, .int wait]) clock most wait t n ws (some (.tuple [vlD v1, .tuple [.int (p : Nat), .int (a : Nat), .int (m : Nat)]])) (some .none) (some (.tuple [.int (p : Nat), .int (a : Nat), .int (ws.length : Nat)])) (some (vlD v1)) (some (.int (k : Nat))) (some (.tuple [.int (p : Nat), .int (a : Nat), .int (m : Nat)])) none) ?_
    (seq_nx (set_ (d := vlD v2) ((call_ (ds := [vlD v1, .int (k : Nat), .tuple [t, .int n, .tuple [.int (p : Nat), .int (a : Nat), .int (ws.length : Nat)], .int clock], .int clock]) (ac_ rfl (ac_ rfl (ac_ (tup_ (ac_ rfl (ac_ rfl (ac_ rfl (ac_ rfl an_))))) (ac_ rfl an_)))) rfl).trans hb))
    (seq_nx (ρ' := TW (vlD v) mem (letD t n ws) (.tuple [.int clock, .int most, .int wait]) clock most wait t n ws (some (.tuple [vlD v1, .tuple [.int (p : Nat), .int (a : Nat), .int (m : Nat)]])) (some .none) (some (.tuple [.int (p : Nat), .int (a : Nat), .int (ws.length : Nat)])) (some (vlD v3)) (some (.int (k : Nat))) (some (.tuple [.int (p : Nat), .int (a : Nat), .int (m : Nat)])) (some (.tuple evs))) ?_ (ret_ (tup_ (ac_ rfl (ac_ ((call_ (ds := [mem, .tuple [.int (p : Nat), .int (a : Nat), .int (m : Nat)], .tuple (ws.map .int)]) (ac_ rfl (ac_ rfl (ac_ rfl an_))) rfl).trans hw) (ac_ (d := .tuple (.tuple [.str "filled", halfD, .int (k : Nat), t, .int n] :: evs)) (bin_ (x := .tuple [.tuple [.str "filled", halfD, .int (k : Nat), t, .int n]]) (y := .tuple evs) (by kernel_rfl) rfl (gAdd_tup (by simp; omega))) an_))))))))))))))
  · have e : eCB gLen (aCons (eVar 14) (aNil)) ((TW (vlD v) mem (letD t n ws) (.tuple [.int clock, .int most, .int wait]) clock most wait t n ws (some (.tuple [vlD v1, .tuple [.int (p : Nat), .int (a : Nat), .int (m : Nat)]])) none none (some (vlD v1)) (some (.int (k : Nat))) (some (.tuple [.int (p : Nat), .int (a : Nat), .int (m : Nat)])) none).set 6 (some .none)) = some (.int (((ws.map PyData.int).length : Nat) : Int)) := by kernel_rfl
    rw [List.length_map] at e
    exact (set_ (tup_ (ac_ (d := .int (p : Nat)) (by kernel_rfl) (ac_ (d := .int (a : Nat)) (by kernel_rfl) (ac_ e an_))))).trans rfl
  · unfold sAsg
    rw [(call_ (n := 4) (m := m_look_at_lane) (g := aCons (eVar 8) (aCons (eVar 16) (aCons (eVar 9) (aCons (eTup (aCons (eVar 10) (aCons (eVar 11) (aNil)))) (aNil))))) (ds := [vlD v2, .int (k : Nat), .int clock, .tuple [.int most, .int wait]]) (ac_ rfl (ac_ rfl (ac_ rfl (ac_ (tup_ (ac_ rfl (ac_ rfl an_))) an_)))) rfl).trans hl]
    rfl
end CR
/-! PlN -/
set_option maxHeartbeats 4000000
namespace CR
open PySem PySem.Spec L2
open PyProof.Rows hiding St
/-! ### a piece comes in -/
def CI (v mem piece : D) (clock most wait : Int) (t : D) (x1 x9 x10 x11 x12 x13 x14 x15 : Option D) : DEnv := [some v, x1, some R7, some piece, some (.int clock), some (.int most), some (.int wait), some halfD, some t, x9, x10, x11, x12, x13, x14, x15]
def dropL (t piece : D) (w : Str) (lost : D) : List D :=
  (if w = "sum" ∨ w = "elder" ∨ w = "cut" then [.tuple [.str "dropped", halfD, piece, .str w]] else []) ++ (match lost with
    | .none => []
    | d => [.tuple [.str "missed", halfD, t, d, .str "cut"]])
theorem ci_start {v v2 : Vl} {mem piece t js j2 lost let_ : D} {w : Str} {j : Option Jn} {clock most wait : Int} {F : Stm} {r : Option Res} (hp : gIx piece (.int 1) = some t) (hj : m_by_talk [v.js, t, .none] = some (jD j)) (hc : m_came_of [jD j, piece] = some (.tuple [j2, .str w, lost, let_])) (hw : m_with_talk [v.js, t, j2] = some js) (hl : vlD { v with js := js } = vlD v2)
    (h : F (CI (vlD v) mem piece clock most wait t (some mem) (some j2) (some (.str w)) (some lost) (some let_) (some (vlD v2)) (some (.tuple [])) none) = r) :
    sSeq (sPar 7 8 (aCons (eBin gIx (eVar 0) (eC (.int 0))) (aCons (eBin gIx (eVar 3) (eC (.int 1))) (aNil)))) (sSeq (sAsg (eCall 2 [] m_came_of (aCons (eCall 3 [] m_by_talk (aCons (eBin gIx (eVar 0) (eC (.int 4))) (aCons (eVar 8) (aCons (eC .none) (aNil))))) (aCons (eVar 3) (aNil)))) (uTup 4 (uCons (uName 9) (uCons (uName 10) (uCons (uName 11) (uCons (uName 12) (uNil))))))) (sSeq (sPar 13 14 (aCons (eCall 3 [] m_turned_at (aCons (eVar 0) (aCons (eC (.int 4)) (aCons (eCall 3 [] m_with_talk (aCons (eBin gIx (eVar 0) (eC (.int 4))) (aCons (eVar 8) (aCons (eVar 9) (aNil))))) (aNil))))) (aCons (eTup (aNil)) (aNil)))) F))
      (startD 16 [vlD v, mem, R7, piece, .int clock, .int most, .int wait]) = r := by
  refine seq_nx (ρ' := [some (vlD v), some mem, some R7, some piece, some (.int clock), some (.int most), some (.int wait), some halfD, some t, none, none, none, none, none, none, none]) ?_ (seq_nx (ρ' := [some (vlD v), some mem, some R7, some piece, some (.int clock), some (.int most), some (.int wait), some halfD, some t, some j2, some (.str w), some lost, some let_, none, none, none]) ?_ (seq_nx (ρ' := CI (vlD v) mem piece clock most wait t (some mem) (some j2) (some (.str w)) (some lost) (some let_) (some (vlD v2)) (some (.tuple [])) none) ?_ h))
  · unfold sPar
    rw [ac_ (d := halfD) rfl (ac_ (d := t) (bin_ (x := piece) (y := .int 1) rfl rfl hp) an_)]
    rfl
  · unfold sAsg
    rw [(call_ (n := 2) (m := m_came_of) (ds := [jD j, piece]) (ac_ ((call_ (n := 3) (m := m_by_talk) (ds := [v.js, t, .none]) (ac_ (bin_ (x := vlD v) (y := .int 4) rfl rfl rfl) (ac_ rfl (ac_ rfl an_))) rfl).trans hj) (ac_ rfl an_)) rfl).trans hc]
    rfl
  · unfold sPar
    rw [ac_ (d := vlD v2) ((call_ (n := 3) (m := m_turned_at) (ds := [vlD v, .int (4 : Nat), js]) (ac_ rfl (ac_ rfl (ac_ ((call_ (n := 3) (m := m_with_talk) (ds := [v.js, t, j2]) (ac_ (bin_ (x := vlD v) (y := .int 4) rfl rfl rfl) (ac_ rfl (ac_ rfl an_))) rfl).trans hw) an_))) rfl).trans ((turned_eq (vlL v) 4 js (by show 4 < 9; omega) (by show 9 ≤ 900; omega)).trans (by rw [← hl]; rfl))) (ac_ (d := .tuple []) rfl an_)]
    rfl
def dropE (piece : D) (w : Str) : D := .tuple [.str "dropped", halfD, piece, .str w]
def lostE (t : D) (n : Int) : D := .tuple [.str "missed", halfD, t, .int n, .str "cut"]
inductive D1 (piece : D) : Str → List D → Prop
  | sum : D1 piece "sum" [dropE piece "sum"]
  | elder : D1 piece "elder" [dropE piece "elder"]
  | cut : D1 piece "cut" [dropE piece "cut"]
  | whole : D1 piece "whole" []
  | begun : D1 piece "begun" []
  | on : D1 piece "on" []
inductive D2 (t : D) : D → List D → Prop
  | none : D2 t .none []
  | lost (n : Int) : D2 t (.int n) [lostE t n]
theorem ci_d1 {v v2 mem piece t j2 lost let_ : D} {w : Str} {clock most wait : Int} {d1 : List D} {F : Stm} {r : Option Res} (h1 : D1 piece w d1) (h : F (CI v mem piece clock most wait t (some mem) (some j2) (some (.str w)) (some lost) (some let_) (some v2) (some (.tuple d1)) none) = r) :
    sSeq (sIf (tOf (eBin gIn (eVar 10) (eTup (aCons (eC (.str "sum")) (aCons (eC (.str "elder")) (aCons (eC (.str "cut")) (aNil))))))) (sSet 14 (eTup (aCons (eTup (aCons (eC (.str "dropped")) (aCons (eVar 7) (aCons (eVar 3) (aCons (eVar 10) (aNil)))))) (aNil)))) (sNil)) F (CI v mem piece clock most wait t (some mem) (some j2) (some (.str w)) (some lost) (some let_) (some v2) (some (.tuple [])) none) = r := by
  cases h1 with
  | sum => exact seq_nx (if_t (b := true) (by kernel_rfl) rfl (by kernel_rfl)) h
  | elder => exact seq_nx (if_t (b := true) (by kernel_rfl) rfl (by kernel_rfl)) h
  | cut => exact seq_nx (if_t (b := true) (by kernel_rfl) rfl (by kernel_rfl)) h
  | whole => exact seq_nx (if_f (b := false) (by kernel_rfl) rfl nil_) h
  | begun => exact seq_nx (if_f (b := false) (by kernel_rfl) rfl nil_) h
  | on => exact seq_nx (if_f (b := false) (by kernel_rfl) rfl nil_) h
theorem ci_d2 {v v2 mem piece t j2 lost let_ : D} {w : Str} {clock most wait : Int} {d1 d2 : List D} {F : Stm} {r : Option Res} (h1 : d1.length ≤ 1) (h2 : D2 t lost d2) (h : F (CI v mem piece clock most wait t (some mem) (some j2) (some (.str w)) (some lost) (some let_) (some v2) (some (.tuple (d1 ++ d2))) none) = r) :
    sSeq (sIf (tOf (eBin gNotN (eVar 11) (eC .none))) (sSet 14 (eBin gAdd (eVar 14) (eTup (aCons (eTup (aCons (eC (.str "missed")) (aCons (eVar 7) (aCons (eVar 8) (aCons (eVar 11) (aCons (eC (.str "cut")) (aNil))))))) (aNil))))) (sNil)) F (CI v mem piece clock most wait t (some mem) (some j2) (some (.str w)) (some lost) (some let_) (some v2) (some (.tuple d1)) none) = r := by
  cases h2 with
  | none => rw [List.append_nil] at h; exact seq_nx (if_f (b := false) (by kernel_rfl) rfl nil_) h
  | lost n => exact seq_nx (if_t (b := true) (by kernel_rfl) rfl (set_ (d := .tuple (d1 ++ [lostE t n])) (bin_ (x := .tuple d1) (y := .tuple [lostE t n]) rfl (by kernel_rfl) (gAdd_tup (by simp; omega))))) h
theorem D1.len {piece : D} {w : Str} {d1 : List D} (h : D1 piece w d1) : d1.length ≤ 1 := by cases h <;> simp
/-- no letter is whole -/
theorem comes_none {v v2 : Vl} {mem piece t js j2 lost : D} {w : Str} {j : Option Jn} {clock most wait : Int} {d1 d2 : List D} (hp : gIx piece (.int 1) = some t) (hj : m_by_talk [v.js, t, .none] = some (jD j)) (hc : m_came_of [jD j, piece] = some (.tuple [j2, .str w, lost, .none])) (hw : m_with_talk [v.js, t, j2] = some js) (hl : vlD { v with js := js } = vlD v2) (h1 : D1 piece w d1) (h2 : D2 t lost d2) :
    m_comes_in [vlD v, mem, R7, piece, .int clock, .int most, .int wait] = some (.tuple [vlD v2, mem, .tuple (d1 ++ d2)]) := by
  unfold m_comes_in
  refine run_rt (ci_start hp hj hc hw hl (ci_d1 h1 (ci_d2 h1.len h2 (seq_rt (if_t (b := true) (by kernel_rfl) rfl (ret_ (by kernel_rfl)))))))
/-- a whole letter -/
theorem comes_whole {v v2 v3 : Vl} {mem mem' piece t js j2 lost : D} {n : Int} {ws : List Int} {w : Str} {j : Option Jn} {clock most wait : Int} {d1 d2 evs : List D} (hp : gIx piece (.int 1) = some t) (hj : m_by_talk [v.js, t, .none] = some (jD j)) (hc : m_came_of [jD j, piece] = some (.tuple [j2, .str w, lost, letD t n ws])) (hw : m_with_talk [v.js, t, j2] = some js) (hl : vlD { v with js := js } = vlD v2) (h1 : D1 piece w d1) (h2 : D2 t lost d2)
    (ht : m_takes_whole [vlD v2, mem, R7, letD t n ws, .tuple [.int clock, .int most, .int wait]] = some (.tuple [vlD v3, mem', .tuple evs])) (he : (d1 ++ d2).length + evs.length ≤ 1000) :
    m_comes_in [vlD v, mem, R7, piece, .int clock, .int most, .int wait] = some (.tuple [vlD v3, mem', .tuple (d1 ++ d2 ++ evs)]) := by
  unfold m_comes_in
  refine run_rt (ci_start hp hj hc hw hl (ci_d1 h1 (ci_d2 h1.len h2 (seq_nx (if_f (b := false) (by kernel_rfl) rfl nil_) (seq_nx (ρ' := CI (vlD v) mem piece clock most wait t (some mem') (some j2) (some (.str w)) (some lost) (some (letD t n ws)) (some (vlD v3)) (some (.tuple (d1 ++ d2))) (some (.tuple evs))) ?_ (ret_ (tup_ (ac_ rfl (ac_ rfl (ac_ (bin_ (x := .tuple (d1 ++ d2)) (y := .tuple evs) rfl rfl (gAdd_tup he)) an_))))))))))
  unfold sAsg
  rw [(call_ (n := 5) (m := m_takes_whole) (ds := [vlD v2, mem, R7, letD t n ws, .tuple [.int clock, .int most, .int wait]]) (ac_ rfl (ac_ rfl (ac_ rfl (ac_ rfl (ac_ (tup_ (ac_ rfl (ac_ rfl (ac_ rfl an_)))) an_))))) rfl).trans ht]
  rfl
end CR
/-! PlO -/
set_option maxHeartbeats 4000000
namespace CR
open PySem PySem.Spec L2
open PyProof.Rows hiding St
/-! ### the invariant -/
structure Gv where
  ws : List Int
  e : Int
  cut : Nat
abbrev Reg := D → Int → Option Gv
structure RegOk (G : Reg) (s : WS) : Prop where
  lets : ∀ t ∈ TALKS, ∀ n, dget s.letters (.tup [tk t, .num n]) = (G t n).map fun g => .tuple (g.ws.map .int)
  nums : NumsOk s.numbered
  num : ∀ t ∈ TALKS, ∀ n g, G t n = some g → 0 ≤ n ∧ n < numOf s.numbered (tk t)
  num0 : ∀ t ∈ TALKS, 0 ≤ numOf s.numbered (tk t)
  era : ∀ t n g, G t n = some g → g.e ≤ s.era ∧ g.ws.length ≤ 8 ∧ 1 ≤ g.cut ∧ g.cut ≤ 4
  up : ∀ t n n' g g', G t n = some g → G t n' = some g' → n < n' → g.e ≤ g'.e
  far : ∀ d ∈ s.far, ∃ t ∈ TALKS, ∃ n g i, G t n = some g ∧ i < nParts g.ws.length g.cut ∧ d = pcR g.e t n (i : Nat) (nParts g.ws.length g.cut : Nat) (chunk g.ws g.cut i)
def StrOk (posted : List D) (x : D) : Prop := ∃ p a m : Nat, x = .tuple [.int (p : Nat), .int (a : Nat), .int (m : Nat)] ∧ p < 9 ∧ a < 8 ∧ a + m ≤ 8 ∧ PyData.tuple [.int (p : Nat), .int (a : Nat)] ∈ posted
structure LaneOk (posted : List D) (l : Ln) : Prop where
  sz : l.sz ∈ SZ
  made : l.made < 2 * l.sz
  done : l.done < 2 * l.sz
  len : l.things.length = l.sz
  held : held l.sz l.made l.done ≤ l.sz
  ring : ∀ j, j < CR.held l.sz l.made l.done → ∃ x, l.things[(l.done + j) % l.sz]? = some x ∧ StrOk posted x
  box : ∀ c ∈ l.box, ∃ t ∈ TALKS, ∃ (n ck : Int) (p a m : Nat), c = .tuple [t, .int n, .tuple [.int (p : Nat), .int (a : Nat), .int (m : Nat)], .int ck] ∧ p < 8 ∧ a + m ≤ 8
  since : l.box ≠ [] → ∃ s, l.since = .int s
structure JnOk (G : Reg) (t : D) (j : Jn) : Prop where
  ex : ∃ g, G t j.n = some g ∧ j.e = g.e ∧ j.p = (nParts g.ws.length g.cut : Nat) ∧ ∃ m : Nat, j.later = (m : Nat) ∧ m < nParts g.ws.length g.cut ∧ (0 < m → j.ws = g.ws.take (m * g.cut))
  short : j.ws.length ≤ 8
def Below (j : Option Jn) (n : Int) : Prop := ∃ x, j = some x ∧ n ≤ x.n ∧ (0 < x.later → n < x.n)
structure LInv (i : Nat) (st : LS) (G : Reg) (v : Vl) (mem : List (List Int)) (kvs : List (NK × D)) (J : D → Option Jn) : Prop where
  value : st.s.value = vlD v
  memory : st.s.memory = memD mem
  mem8 : mem.length = 8 ∧ ∀ pg ∈ mem, pg.length = 8
  rights : st.s.rights = R7
  n : st.s.n = v.lanes.length ∧ 1 ≤ v.lanes.length ∧ v.lanes.length ≤ 2
  purse : v.purse ∈ PS
  lanes : ∀ (k : Nat) (l : Ln), v.lanes[k]? = some l → LaneOk st.posted l
  boxes : st.boxes = v.lanes.map (·.box)
  boxn : ∀ b ∈ st.boxes, b.length ≤ i
  js : v.js = jsD kvs ∧ KOk kvs ∧ kvs.length ≤ i
  joins : ∀ t ∈ TALKS, (dget kvs (tk t)).getD .none = jD (J t)
  jok : ∀ t ∈ TALKS, ∀ j, J t = some j → JnOk G t j
  reg : RegOk G st.s
  last : ∀ t ∈ TALKS, ∀ m, dget st.last (tk t) = some m → ∃ n, m = .int n ∧ Below (J t) n
  gone : ∀ d ∈ st.gone, ∃ t ∈ TALKS, ∃ n, d = .tuple [t, .int n] ∧ Below (J t) n
  post : ∀ d ∈ st.posted, ∃ p a : Nat, d = .tuple [.int (p : Nat), .int (a : Nat)]
  sz : st.gone.length ≤ 2 * i ∧ st.posted.length ≤ i ∧ st.s.far.length ≤ 2 * i ∧ st.s.numbered.length ≤ i ∧ st.s.letters.length ≤ i ∧ st.last.length ≤ i
def LI (i : Nat) (st : LS) : Prop := i ≤ 56 ∧ ∃ G v mem kvs J, LInv (8 * i) st G v mem kvs J
end CR
/-! PlP -/
set_option maxHeartbeats 4000000
namespace CR
open PySem PySem.Spec L2
open PyProof.Rows hiding St
def ln0 (sz : Nat) : Ln := ⟨sz, 0, 0, List.replicate sz .none, [], .none, false⟩
theorem li_sized (i : Nat) (st : LS) (h : LI i st) : Sized st := by
  obtain ⟨hi, G, v, mem, kvs, J, I⟩ := h
  obtain ⟨s1, s2, s3, s4, s5, s6⟩ := I.sz
  refine ⟨I.reg.nums, by omega, by omega, by omega, fun d hd => ?_, by have := I.n; omega, by have := I.n; omega, by rw [I.boxes, List.length_map]; exact I.n.1.symm⟩
  obtain ⟨t, ht, n, g, k, hg, hk, rfl⟩ := I.reg.far d hd
  obtain ⟨f1, f2, f3⟩ := pc_fine (e := g.e) ht (n := n) (i := (k : Nat)) (p := (nParts g.ws.length g.cut : Nat)) (ws := chunk g.ws g.cut k) (s := SD g.e n (k : Nat) (nParts g.ws.length g.cut : Nat) (chunk g.ws g.cut k))
  refine ⟨f1, f2, f3, fun q k0 k1 => ?_⟩
  obtain ⟨q, rfl⟩ : ∃ m : Nat, q = (m : Int) := ⟨q.toNat, by omega⟩
  exact ⟨_, bent_eq g.e t n k _ _ _ q (chunk_le g.ws g.cut k (I.reg.era t n g hg).2.2.2) (by omega)⟩
theorem val0_eq {n sz : Nat} {pu : D} (hs : sz ∈ SZ) : val0 n (sz : Nat) pu = vlD ⟨List.replicate n (ln0 sz), jsD [], pu⟩ := by
  unfold val0 vlD vlL jsD
  rw [List.map_replicate]
  have e : lnD (ln0 sz) = .tuple [.tuple (voidR (sz : Nat)), .int 0, .int 0, .tuple [], .tuple (voidR (sz : Nat)), .tuple [], .none, .bool false] := by
    simp only [SZ, List.mem_cons, List.mem_nil_iff, or_false] at hs
    rcases hs with rfl | rfl | rfl | rfl <;> rfl
  rw [e]
  rfl
theorem li_start (s : WS) (pu : D) (n : Nat) (wide : Int) (hn : 1 ≤ n ∧ n ≤ 2 ∧ wide ∈ [(4 : Int), 2, 1, 8]) (hp : pu ∈ PURSES) (hs : s.clock = 0 ∧ s.era = 0 ∧ s.value = val0 n wide pu ∧ s.memory = mem0 ∧ s.far = [] ∧ s.numbered = [] ∧ s.letters = [] ∧ s.n = n) (hr : s.rights = R7) : LI 0 ⟨s, [], [], [], List.replicate n []⟩ := by
  obtain ⟨h1, h2, h3, h4, h5, h6, h7, h8⟩ := hs
  obtain ⟨sz, hsz, rfl⟩ : ∃ sz : Nat, sz ∈ SZ ∧ wide = (sz : Nat) := by
    have := hn.2.2
    simp only [List.mem_cons, List.mem_nil_iff, or_false] at this
    rcases this with rfl | rfl | rfl | rfl
    · exact ⟨4, by decide, rfl⟩
    · exact ⟨2, by decide, rfl⟩
    · exact ⟨1, by decide, rfl⟩
    · exact ⟨8, by decide, rfl⟩
  refine ⟨by omega, fun _ _ => none, ⟨List.replicate n (ln0 sz), jsD [], pu⟩, List.replicate 8 (List.replicate 8 0), [], fun _ => none, ?_⟩
  obtain ⟨p1, p2⟩ := sz_pos hsz
  exact {
    value := h3.trans (val0_eq hsz)
    memory := h4.trans rfl
    mem8 := ⟨by simp, fun pg h => by rw [List.mem_replicate] at h; rw [h.2]; simp⟩
    rights := hr
    n := ⟨by rw [h8]; simp, by simp; omega, by simp; omega⟩
    purse := purses_in _ hp
    lanes := fun k l h => by
      have hm := List.mem_of_getElem? h
      rw [List.mem_replicate] at hm
      rw [hm.2]
      exact ⟨hsz, by show 0 < 2 * sz; omega, by show 0 < 2 * sz; omega, by simp [ln0], by show held sz 0 0 ≤ sz; unfold held; simp, fun j hj => by
        exfalso
        have : held sz 0 0 = 0 := by unfold held; simp
        rw [show held (ln0 sz).sz (ln0 sz).made (ln0 sz).done = held sz 0 0 from rfl, this] at hj
        omega, fun c hc => by simp [ln0] at hc, fun hne => absurd rfl hne⟩
    boxes := by simp [ln0]
    boxn := fun b h => by rw [List.mem_replicate] at h; rw [h.2]; simp
    js := ⟨rfl, ⟨by simp, fun p h => by simp at h, by simp⟩, by simp⟩
    joins := fun t ht => rfl
    jok := fun t ht j h => by cases h
    reg := ⟨fun t ht m => (by rw [h7]; rfl), fun k d h => (by rw [h6] at h; cases h), fun t ht m g h => (by cases h), fun t ht => (by rw [h6]; exact Int.le_refl 0), fun t m g h => (by cases h), fun t m m' g g' h => (by cases h), fun d h => (by rw [h5] at h; simp at h)⟩
    last := fun t ht m h => by cases h
    gone := fun d h => by simp at h
    post := fun d h => by simp at h
    sz := by rw [h5, h6, h7]; simp }
end CR
/-! PlQ -/
set_option maxHeartbeats 4000000
namespace CR
open PySem PySem.Spec L2
open PyProof.Rows hiding St
def F0 (b : Nat) (d : D) : Prop := noL d = true ∧ d.canLay0 = true ∧ d.depth ≤ b
theorem f0_all {b : Nat} : ∀ {ds : List D}, (∀ d ∈ ds, F0 b d) → PyData.canLayAll0 ds = true ∧ PyData.depthAll ds ≤ b + 1 ∧ noLs ds = true
  | [], _ => ⟨rfl, Nat.zero_le _, rfl⟩
  | d :: ds, h => by
    obtain ⟨i1, i2, i3⟩ := f0_all fun x hx => h x (List.mem_cons_of_mem _ hx)
    obtain ⟨h1, h2, h3⟩ := h d List.mem_cons_self
    refine ⟨by simp [PyData.canLayAll0, h2, i1], ?_, by unfold noLs; rw [h1, i3]; rfl⟩
    unfold PyData.depthAll
    omega
theorem f0_tup {b : Nat} {ds : List D} (h : ∀ d ∈ ds, F0 b d) : F0 (b + 3) (.tuple ds) := by
  obtain ⟨a, b, c⟩ := f0_all h
  refine ⟨by simpa [noL] using c, by simp [PyData.canLay0, a], ?_⟩
  unfold PyData.depth
  omega
theorem f0_sh {b : Nat} {d : D} (h : F0 b d) (hb : b ≤ 64) : SeqAt.shaped d = true ∧ noL d = true := by
  refine ⟨?_, h.1⟩
  unfold SeqAt.shaped
  rw [h.2.1, decide_eq_true (Nat.le_trans h.2.2 hb)]
  rfl
theorem f0_item {t : D} (ht : t ∈ TALKS) (n ck p a m : Int) : F0 12 (.tuple [t, .int n, .tuple [.int p, .int a, .int m], .int ck]) := by
  obtain ⟨h1, h2, h3⟩ := talk_sh t ht
  refine ⟨by simp [noL, noLs, h3], by simp [PyData.canLay0, PyData.canLayAll0, h1], ?_⟩
  simp only [PyData.depth, PyData.depthAll]
  omega
theorem box_f0 {posted : List D} {l : Ln} (h : LaneOk posted l) : ∀ c ∈ l.box, F0 12 c := fun c hc => by
  obtain ⟨t, ht, n, ck, p, a, m, rfl, _⟩ := h.box c hc
  exact f0_item ht n ck p a m
theorem li_cmp {i : Nat} {st : LS} {G : Reg} {v : Vl} {mem : List (List Int)} {kvs : List (NK × D)} {J : D → Option Jn} (I : LInv i st G v mem kvs J) (hi : i ≤ 500) : CmpOk st := by
  have hf : ∀ b ∈ st.boxes, ∀ c ∈ b, F0 12 c := fun b hb => by
    rw [I.boxes] at hb
    obtain ⟨l, hl, rfl⟩ := List.mem_map.mp hb
    obtain ⟨k, hk⟩ := List.mem_iff_getElem?.mp hl
    exact box_f0 (I.lanes k l hk)
  have h2 : ∀ d ∈ st.boxes.map PyData.tuple, F0 15 d := fun d hd => by
    obtain ⟨b, hb, rfl⟩ := List.mem_map.mp hd
    exact f0_tup (hf b hb)
  obtain ⟨a1, a2, a3⟩ := f0_all h2
  refine ⟨⟨vlL v, v.lanes.map lnD, I.value, rfl, by rw [I.boxes, List.length_map, List.length_map], fun k ds hk => ?_⟩, ?_, a3, fun ds hd => by have := I.boxn ds hd; omega⟩
  · rw [I.boxes, List.getElem?_map] at hk
    cases hl : v.lanes[k]? with
    | none => rw [hl] at hk; cases hk
    | some l =>
      rw [hl] at hk
      cases hk
      exact ⟨ownL l, by rw [List.getElem?_map, hl]; rfl, rfl⟩
  · unfold SeqAt.shaped
    have e1 : (PyData.list (st.boxes.map PyData.tuple)).canLay0 = true := by simp only [PyData.canLay0, a1]
    have e2 : (PyData.list (st.boxes.map PyData.tuple)).depth ≤ 64 := by
      unfold PyData.depth
      omega
    rw [e1, decide_eq_true e2]
    rfl
end CR
/-! PlR -/
set_option maxHeartbeats 4000000
namespace CR
open PySem PySem.Spec L2
open PyProof.Rows hiding St
theorem LInv.le {i j : Nat} {st : LS} {G : Reg} {v : Vl} {mem : List (List Int)} {kvs : List (NK × D)} {J : D → Option Jn} (I : LInv i st G v mem kvs J) (h : i ≤ j) : LInv j st G v mem kvs J :=
  { I with boxn := fun b hb => Nat.le_trans (I.boxn b hb) h, js := ⟨I.js.1, I.js.2.1, Nat.le_trans I.js.2.2 h⟩, sz := by obtain ⟨a, b, c, d, e, f⟩ := I.sz; omega }
theorem held_put {sz made done : Nat} (hs : sz ∈ SZ) (h1 : made < 2 * sz) (h2 : done < 2 * sz) (hh : held sz made done ≠ sz) (hle : held sz made done ≤ sz) : held sz ((made + 1) % (2 * sz)) done = held sz made done + 1 := by
  unfold held at *
  simp only [SZ, List.mem_cons, List.mem_nil_iff, or_false] at hs
  rcases hs with rfl | rfl | rfl | rfl <;> omega
theorem held_take {sz made done : Nat} (hs : sz ∈ SZ) (h1 : made < 2 * sz) (h2 : done < 2 * sz) (hh : held sz made done ≠ 0) : held sz made ((done + 1) % (2 * sz)) + 1 = held sz made done := by
  unfold held at *
  simp only [SZ, List.mem_cons, List.mem_nil_iff, or_false] at hs
  rcases hs with rfl | rfl | rfl | rfl <;> omega
theorem ring_last {sz made done : Nat} (hs : sz ∈ SZ) (h1 : made < 2 * sz) (h2 : done < 2 * sz) : (done + held sz made done) % sz = made % sz := by
  unfold held
  simp only [SZ, List.mem_cons, List.mem_nil_iff, or_false] at hs
  rcases hs with rfl | rfl | rfl | rfl <;> omega
theorem ring_ne {sz made done j : Nat} (hs : sz ∈ SZ) (h1 : made < 2 * sz) (h2 : done < 2 * sz) (hj : j < held sz made done) (hle : held sz made done < sz) : (done + j) % sz ≠ made % sz := by
  unfold held at *
  simp only [SZ, List.mem_cons, List.mem_nil_iff, or_false] at hs
  rcases hs with rfl | rfl | rfl | rfl <;> omega
theorem StrOk.sub {posted posted' : List D} {x : D} (h : StrOk posted x) (hs : ∀ d ∈ posted, d ∈ posted') : StrOk posted' x := by
  obtain ⟨p, a, m, e, h1, h2, h3, h4⟩ := h
  exact ⟨p, a, m, e, h1, h2, h3, hs _ h4⟩
theorem LaneOk.put {posted posted' : List D} {l : Ln} {x : D} (h : LaneOk posted l) (hh : CR.held l.sz l.made l.done ≠ l.sz) (hx : StrOk posted' x) (hs : ∀ d ∈ posted, d ∈ posted') : LaneOk posted' (l.put x) := by
  obtain ⟨p1, p2⟩ := sz_pos h.sz
  have hp := held_put h.sz h.made h.done hh h.held
  refine ⟨h.sz, Nat.mod_lt _ (by omega), h.done, by show (l.things.set _ x).length = l.sz; rw [List.length_set]; exact h.len, by show CR.held l.sz ((l.made + 1) % (2 * l.sz)) l.done ≤ l.sz; have := h.held; omega, fun j hj => ?_, h.box, h.since⟩
  have hj' : j < CR.held l.sz l.made l.done + 1 := by rw [← hp]; exact hj
  show ∃ y, (l.things.set (l.made % l.sz) x)[(l.done + j) % l.sz]? = some y ∧ StrOk posted' y
  by_cases e : j = CR.held l.sz l.made l.done
  · subst e
    rw [ring_last h.sz h.made h.done]
    exact ⟨x, by rw [List.getElem?_set_self (by rw [h.len]; exact Nat.mod_lt _ p1)], hx⟩
  · have hlt : j < CR.held l.sz l.made l.done := by omega
    rw [List.getElem?_set_ne (fun z => ring_ne h.sz h.made h.done hlt (by have := h.held; omega) z.symm)]
    obtain ⟨y, h1, h2⟩ := h.ring j hlt
    exact ⟨y, h1, h2.sub hs⟩
theorem ring_take {sz made done j : Nat} (hs : sz ∈ SZ) (h1 : made < 2 * sz) (h2 : done < 2 * sz) (hj : j + 1 < held sz made done) (hle : held sz made done ≤ sz) : ((done + 1) % (2 * sz) + j) % sz = (done + (j + 1)) % sz ∧ (done + (j + 1)) % sz ≠ done % sz := by
  unfold held at *
  simp only [SZ, List.mem_cons, List.mem_nil_iff, or_false] at hs
  rcases hs with rfl | rfl | rfl | rfl <;> omega
theorem LaneOk.took {posted : List D} {l : Ln} (h : LaneOk posted l) (hh : CR.held l.sz l.made l.done ≠ 0) : LaneOk posted l.took := by
  obtain ⟨p1, p2⟩ := sz_pos h.sz
  have hp := held_take h.sz h.made h.done hh
  refine ⟨h.sz, h.made, Nat.mod_lt _ (by omega), by show (l.things.set _ _).length = l.sz; rw [List.length_set]; exact h.len, by show CR.held l.sz l.made ((l.done + 1) % (2 * l.sz)) ≤ l.sz; have := h.held; omega, fun j hj => ?_, h.box, h.since⟩
  have hj' : j + 1 < CR.held l.sz l.made l.done := by
    have : j < CR.held l.sz l.made ((l.done + 1) % (2 * l.sz)) := hj
    omega
  obtain ⟨e1, e2⟩ := ring_take h.sz h.made h.done hj' h.held
  show ∃ y, (l.things.set (l.done % l.sz) .none)[((l.done + 1) % (2 * l.sz) + j) % l.sz]? = some y ∧ StrOk posted y
  rw [e1, List.getElem?_set_ne (fun z => e2 z.symm)]
  exact h.ring (j + 1) hj'
end CR
/-! PlS -/
set_option maxHeartbeats 4000000
namespace CR
open PySem PySem.Spec L2
open PyProof.Rows hiding St
/-! ### the invariant under a change of the value -/
structure SameS (s s' : WS) : Prop where
  rights : s'.rights = s.rights
  n : s'.n = s.n
  letters : s'.letters = s.letters
  numbered : s'.numbered = s.numbered
  era : s'.era = s.era
  far : s'.far = s.far
theorem RegOk.of {G : Reg} {s s' : WS} (R : RegOk G s) (S : SameS s s') : RegOk G s' :=
  { lets := by rw [S.letters]; exact R.lets
    nums := by rw [S.numbered]; exact R.nums
    num := by rw [S.numbered]; exact R.num
    num0 := by rw [S.numbered]; exact R.num0
    era := by rw [S.era]; exact R.era
    up := R.up
    far := by rw [S.far]; exact R.far }
section
variable {i : Nat} {st : LS} {G : Reg} {v : Vl} {mem : List (List Int)} {kvs : List (NK × D)} {J : D → Option Jn}
theorem LInv.lanesTo (I : LInv i st G v mem kvs J) {v' : Vl} {s' : WS} {bs : List (List D)} {mem' : List (List Int)} (S : SameS st.s s') (hv : s'.value = vlD v') (hm : s'.memory = memD mem') (hm8 : mem'.length = 8 ∧ ∀ pg ∈ mem', pg.length = 8)
    (js : v'.js = v.js) (hp : v'.purse ∈ PS) (hlen : v'.lanes.length = v.lanes.length) (hL : ∀ (k : Nat) (l : Ln), v'.lanes[k]? = some l → LaneOk st.posted l) (hb : bs = v'.lanes.map (·.box)) (hbn : ∀ b ∈ bs, b.length ≤ i) : LInv i { st with s := s', boxes := bs } G v' mem' kvs J :=
  { value := hv, memory := hm, mem8 := hm8
    rights := S.rights.trans I.rights
    n := by rw [hlen]; exact ⟨S.n.trans I.n.1, I.n.2⟩
    purse := hp, lanes := hL, boxes := hb, boxn := hbn
    js := by rw [js]; exact I.js
    joins := I.joins, jok := I.jok
    reg := I.reg.of S
    last := I.last, gone := I.gone, post := I.post
    sz := by
      obtain ⟨a, b, c, d, e, f⟩ := I.sz
      refine ⟨a, b, ?_, ?_, ?_, f⟩
      · show s'.far.length ≤ _; rw [S.far]; exact c
      · show s'.numbered.length ≤ _; rw [S.numbered]; exact d
      · show s'.letters.length ≤ _; rw [S.letters]; exact e }
theorem setB {v : Vl} {k : Nat} {l' : Ln} : (v.lanes.map (·.box)).set k l'.box = (v.setL k l').lanes.map (·.box) := by
  show _ = (v.lanes.set k l').map (·.box)
  rw [List.map_set]
theorem LInv.same (I : LInv i st G v mem kvs J) {k : Nat} {l : Ln} (hl : v.lanes[k]? = some l) : st.boxes.set k l.box = st.boxes := by
  have : st.boxes[k]? = some l.box := by rw [I.boxes, List.getElem?_map, hl]; rfl
  obtain ⟨h1, h2⟩ := List.getElem?_eq_some_iff.mp this
  rw [← h2, List.set_getElem_self]
theorem mem_set {α : Type} {xs : List α} {k : Nat} {y x : α} (h : x ∈ xs.set k y) : x ∈ xs ∨ x = y := List.mem_or_eq_of_mem_set h
theorem lanes_set {posted : List D} {v : Vl} {k : Nat} {l l' : Ln} (hl : v.lanes[k]? = some l) (hL : ∀ (q : Nat) (m : Ln), v.lanes[q]? = some m → LaneOk posted m) (L' : LaneOk posted l') : ∀ (q : Nat) (m : Ln), (v.setL k l').lanes[q]? = some m → LaneOk posted m := fun q m hq => by
  by_cases e : q = k
  · subst e
    rw [getL hl] at hq
    cases hq
    exact L'
  · have hq' : v.lanes[q]? = some m := by
      have : (v.lanes.set k l')[q]? = some m := hq
      rwa [List.getElem?_set_ne (fun z => e z.symm)] at this
    exact hL q m hq'
theorem LInv.setLane (I : LInv i st G v mem kvs J) {k : Nat} {l l' : Ln} {s' : WS} {mem' : List (List Int)} (hl : v.lanes[k]? = some l) (L' : LaneOk st.posted l') (S : SameS st.s s') (hv : s'.value = vlD (v.setL k l')) (hm : s'.memory = memD mem') (hm8 : mem'.length = 8 ∧ ∀ pg ∈ mem', pg.length = 8) (hb : l'.box.length ≤ i) :
    LInv i { st with s := s', boxes := st.boxes.set k l'.box } G (v.setL k l') mem' kvs J :=
  I.lanesTo S hv hm hm8 rfl I.purse lenL (lanes_set hl I.lanes L') (by rw [I.boxes]; exact setB) fun b hb' => by
    rcases mem_set hb' with h | h
    · exact I.boxn b h
    · rw [h]; exact hb
theorem LaneOk.mask {posted : List D} {l : Ln} (L : LaneOk posted l) (m : Bool) : LaneOk posted { l with masked := m } := { sz := L.sz, made := L.made, done := L.done, len := L.len, held := L.held, ring := L.ring, box := L.box, since := L.since }
theorem LaneOk.drop {posted : List D} {l : Ln} (L : LaneOk posted l) (b : Nat) : LaneOk posted (l.polled b) :=
  { sz := L.sz, made := L.made, done := L.done, len := L.len, held := L.held, ring := L.ring
    box := fun c hc => L.box c (List.mem_of_mem_drop hc)
    since := fun hne => by
      show ∃ s, (if l.box.drop b = [] then PyData.none else l.since) = .int s
      have hne' : l.box.drop b ≠ [] := hne
      rw [if_neg hne']
      exact L.since fun e => hne' (by rw [e]; simp) }
theorem LaneOk.un {posted : List D} {l : Ln} (L : LaneOk posted l) (c : Int) (m : Bool) : LaneOk posted { l.un c with masked := m } := by
  refine LaneOk.mask ?_ m
  unfold Ln.un
  split
  · exact { sz := L.sz, made := L.made, done := L.done, len := L.len, held := L.held, ring := L.ring, box := L.box, since := fun hne => ⟨c, if_neg hne⟩ }
  · exact L
theorem LaneOk.boxed {posted : List D} {l : Ln} (L : LaneOk posted l) {t : D} (ht : t ∈ TALKS) (n : Int) (p a m : Nat) (ck : Int) (hp : p < 8) (ha : a + m ≤ 8) : LaneOk posted (l.boxed (.tuple [t, .int n, .tuple [.int (p : Nat), .int (a : Nat), .int (m : Nat)], .int ck]) ck) :=
  { sz := L.sz, made := L.made, done := L.done, len := L.len, held := L.held, ring := L.ring
    box := fun c hc => by
      rcases List.mem_append.mp hc with h | h
      · exact L.box c h
      · exact ⟨t, ht, n, ck, p, a, m, by simpa using h, hp, ha⟩
    since := fun _ => by
      show ∃ s, (if l.box = [] then PyData.int ck else l.since) = .int s
      split
      · exact ⟨_, rfl⟩
      · rename_i h
        exact L.since h }
def Goal (i : Nat) (st : LS) (s1 : WS) (d : D) : Prop := ∃ s2 evs st', DRes s1 d s2 (.tuple evs) ∧ Evs { st with s := s2 } evs st' ∧ CmpOk st' ∧ LI (i + 1) st'
theorem done_of {i m : Nat} {st : LS} (I : LInv m st G v mem kvs J) (hi : i < 56) (hm : m ≤ 8 * (i + 1)) : CmpOk st ∧ LI (i + 1) st := ⟨li_cmp I (by omega), by omega, G, v, mem, kvs, J, I.le hm⟩
theorem LInv.postTo (I : LInv i st G v mem kvs J) {k : Nat} {l : Ln} {s' : WS} {p a n : Nat} (hl : v.lanes[k]? = some l) (hh : held l.sz l.made l.done ≠ l.sz) (hp : p < 9) (ha : a < 8) (hn : a + n ≤ 8) (S : SameS st.s s') (hv : s'.value = vlD (v.setL k (l.put (.tuple [.int (p : Nat), .int (a : Nat), .int (n : Nat)])))) (hm : s'.memory = st.s.memory) :
    LInv (i + 1) { st with s := s', posted := st.posted ++ [.tuple [.int (p : Nat), .int (a : Nat)]] } G (v.setL k (l.put (.tuple [.int (p : Nat), .int (a : Nat), .int (n : Nat)]))) mem kvs J := by
  have L := I.lanes k l hl
  have hx : StrOk (st.posted ++ [.tuple [.int (p : Nat), .int (a : Nat)]]) (.tuple [.int (p : Nat), .int (a : Nat), .int (n : Nat)]) := ⟨p, a, n, rfl, hp, ha, hn, List.mem_append_right _ List.mem_cons_self⟩
  have hsub : ∀ d ∈ st.posted, d ∈ st.posted ++ [PyData.tuple [.int (p : Nat), .int (a : Nat)]] := fun d h => List.mem_append_left _ h
  have I0 : LInv (i + 1) { st with posted := st.posted ++ [.tuple [.int (p : Nat), .int (a : Nat)]] } G v mem kvs J :=
    { I.le (Nat.le_succ i) with
      lanes := fun q m hq => by
        have M := I.lanes q m hq
        exact { sz := M.sz, made := M.made, done := M.done, len := M.len, held := M.held, box := M.box, since := M.since, ring := fun j hj => (M.ring j hj).elim fun y h => ⟨y, h.1, h.2.sub hsub⟩ }
      post := fun d hd => by
        rcases List.mem_append.mp hd with h | h
        · exact I.post d h
        · exact ⟨p, a, by simpa using h⟩
      sz := by
        obtain ⟨q1, q2, q3, q4, q5, q6⟩ := I.sz
        refine ⟨by show st.gone.length ≤ _; omega, by show (st.posted ++ _).length ≤ _; rw [List.length_append, List.length_singleton]; omega, by show st.s.far.length ≤ _; omega, by show st.s.numbered.length ≤ _; omega, by show st.s.letters.length ≤ _; omega, by show st.last.length ≤ _; omega⟩ }
  have I1 := I0.setLane (s' := s') hl (L.put hh hx hsub) S hv (hm.trans I.memory) I.mem8 (I0.boxn _ (by rw [I0.boxes]; exact List.mem_map.mpr ⟨l, List.mem_of_getElem? hl, rfl⟩))
  have e : (l.put (.tuple [.int (p : Nat), .int (a : Nat), .int (n : Nat)])).box = l.box := rfl
  rw [e, I0.same hl] at I1
  exact I1
theorem step_post (I : LInv (8 * i) st G v mem kvs J) (hi : i < 56) (k : Nat) (p a n : Nat) (hk : k < v.lanes.length) (hp : p < 9) (ha : a < 8) (hn : a + n ≤ 8) : Goal i st st.s (.tuple [.str "post", .int (k : Nat), .tuple [.int (p : Nat), .int (a : Nat), .int (n : Nat)]]) := by
  have hl := List.getElem?_eq_getElem hk
  generalize v.lanes[k] = l at hl
  have L := I.lanes k l hl
  by_cases hh : held l.sz l.made l.done = l.sz
  · have h := done_of I hi (by omega)
    exact ⟨st.s, [], st, .no (.post (by rw [I.value]; exact posts_ex hl L.sz L.made L.done hh)), rfl, h.1, h.2⟩
  · have I' := I.postTo (s' := { st.s with value := vlD (v.setL k (l.put (.tuple [.int (p : Nat), .int (a : Nat), .int (n : Nat)]))), memory := st.s.memory, clock := st.s.clock + tickOf (.tuple [.str "post", .int (k : Nat), .tuple [.int (p : Nat), .int (a : Nat), .int (n : Nat)]]) }) hl hh hp ha hn ⟨rfl, rfl, rfl, rfl, rfl, rfl⟩ rfl rfl
    have h := done_of I' hi (by omega)
    exact ⟨_, [.tuple [.str "posted", halfD, .int (k : Nat), .tuple [.int (p : Nat), .int (a : Nat), .int (n : Nat)]]], _, .told (.post (by rw [I.value]; exact posts_ok hl I.n.2.2 L.sz L.made L.done L.len hh)), ⟨_, .posted halfD (.int (k : Nat)) (.int (p : Nat)) (.int (a : Nat)) (.int (n : Nat)) (by have := I.sz; show st.posted.length < 900; omega), rfl⟩, h.1, h.2⟩
end
end CR
/-! PlT -/
set_option maxHeartbeats 4000000
namespace CR
open PySem PySem.Spec L2
open PyProof.Rows hiding St
/-! ### poll, unmask, tick -/
theorem f0_lst {b : Nat} {ds : List D} (h : ∀ d ∈ ds, F0 b d) (hb : b ≤ 40) : SeqAt.shaped (.list ds) = true ∧ noLs ds = true := by
  obtain ⟨a1, a2, a3⟩ := f0_all h
  refine ⟨?_, a3⟩
  unfold SeqAt.shaped
  have e1 : (PyData.list ds).canLay0 = true := by simp only [PyData.canLay0, a1]
  have e2 : (PyData.list ds).depth ≤ 64 := by
    unfold PyData.depth
    omega
  rw [e1, decide_eq_true e2]
  rfl
theorem evs_took {k : Nat} {mem : D} : ∀ (xs ys : List D) (st : LS), st.boxes[k]? = some (xs ++ ys) → (∀ c ∈ xs, F0 12 c) → Evs st (xs.map (tookD k mem)) { st with boxes := st.boxes.set k ys }
  | [], ys, st, h, _ => by
    show st = _
    have : st.boxes.set k ys = st.boxes := by
      obtain ⟨h1, h2⟩ := List.getElem?_eq_some_iff.mp h
      have h3 : ys = st.boxes[k] := h2.symm
      rw [h3, List.set_getElem_self]
    rw [this]
  | c :: xs, ys, st, h, hf => by
    have f := hf c List.mem_cons_self
    have hk := (List.getElem?_eq_some_iff.mp h).1
    refine ⟨{ st with boxes := st.boxes.set k (xs ++ ys) }, .took halfD k c (readW mem c) (xs ++ ys) h (f0_lst (b := 12) (fun d hd => by rw [List.mem_singleton.mp hd]; exact f) (by omega)).1 f.1, ?_⟩
    have h2 := evs_took (mem := mem) xs ys { st with boxes := st.boxes.set k (xs ++ ys) } (by show (st.boxes.set k _)[k]? = _; simp [hk]) (fun x hx => hf x (List.mem_cons_of_mem _ hx))
    have e : (st.boxes.set k (xs ++ ys)).set k ys = st.boxes.set k ys := List.set_set ..
    have e2 : ({ ({ st with boxes := st.boxes.set k (xs ++ ys) } : LS) with boxes := (st.boxes.set k (xs ++ ys)).set k ys } : LS) = { st with boxes := st.boxes.set k ys } := by rw [e]
    exact e2 ▸ h2
theorem evs_other {st : LS} : ∀ {es : List D}, (∀ e ∈ es, Ev st e st) → Evs st es st
  | [], _ => rfl
  | e :: es, h => ⟨st, h e List.mem_cons_self, evs_other fun x hx => h x (List.mem_cons_of_mem _ hx)⟩
theorem evs_app {st1 st2 : LS} : ∀ {es fs : List D} {st : LS}, Evs st es st1 → Evs st1 fs st2 → Evs st (es ++ fs) st2
  | [], fs, st, h, h2 => by
    have e : st = st1 := h
    rw [e]; exact h2
  | e :: es, fs, st, ⟨s, h1, h2⟩, h3 => ⟨s, h1, evs_app h2 h3⟩
theorem ev_raised (st : LS) (r : List D) : Ev st (.tuple (.str "raised" :: r)) st := .other "raised" r (by decide +kernel) (by decide +kernel) (by decide +kernel) (by decide +kernel) (by decide +kernel)
theorem ev_unmasked (st : LS) (r : List D) : Ev st (.tuple (.str "unmasked" :: r)) st := .other "unmasked" r (by decide +kernel) (by decide +kernel) (by decide +kernel) (by decide +kernel) (by decide +kernel)
theorem ev_dropped (st : LS) (r : List D) : Ev st (.tuple (.str "dropped" :: r)) st := .other "dropped" r (by decide +kernel) (by decide +kernel) (by decide +kernel) (by decide +kernel) (by decide +kernel)
theorem ev_returned (st : LS) (r : List D) : Ev st (.tuple (.str "returned" :: r)) st := .other "returned" r (by decide +kernel) (by decide +kernel) (by decide +kernel) (by decide +kernel) (by decide +kernel)
section
variable {i : Nat} {st : LS} {G : Reg} {v : Vl} {mem : List (List Int)} {kvs : List (NK × D)} {J : D → Option Jn}
theorem LInv.boxAt (I : LInv i st G v mem kvs J) {k : Nat} {l : Ln} (hl : v.lanes[k]? = some l) : st.boxes[k]? = some l.box ∧ l.box.length ≤ i := by
  have h : st.boxes[k]? = some l.box := by rw [I.boxes, List.getElem?_map, hl]; rfl
  exact ⟨h, I.boxn _ (List.mem_of_getElem? h)⟩
theorem step_poll (I : LInv (8 * i) st G v mem kvs J) (hi : i < 56) (k b : Nat) (hk : k < v.lanes.length) : Goal i st st.s (.tuple [.str "poll", .int (k : Nat), .int (b : Nat)]) := by
  have hl := List.getElem?_eq_getElem hk
  generalize v.lanes[k] = l at hl
  have L := I.lanes k l hl
  have hf := box_f0 L
  obtain ⟨hb1, hb2⟩ := I.boxAt hl
  have hp := polled_eq (b := b) (mem := st.s.memory) hl I.n.2.2 (by omega) (fun j => f0_sh (f0_tup fun c hc => hf c (List.mem_of_mem_drop hc)) (by omega)) (fun c hc => by
    obtain ⟨t, ht, n, ck, p, a, m, rfl, h1, h2⟩ := L.box c hc
    have hpl : p < mem.length := by rw [I.mem8.1]; exact h1
    have hpg := List.getElem?_eq_getElem hpl
    exact ⟨_, _, rfl, (by rw [I.memory] : m_words_at [st.s.memory, _] = m_words_at [memD mem, _]).trans (words_eq hpg (by rw [I.mem8.2 _ (List.getElem_mem hpl)]; exact h2))⟩)
  have I' := I.setLane (s' := { st.s with value := vlD (v.setL k (l.polled b)), memory := st.s.memory, clock := st.s.clock + tickOf (.tuple [.str "poll", .int (k : Nat), .int (b : Nat)]) }) hl (L.drop b) ⟨rfl, rfl, rfl, rfl, rfl, rfl⟩ rfl I.memory I.mem8 (by show (l.box.drop b).length ≤ _; rw [List.length_drop]; omega)
  have h := done_of I' hi (by omega)
  refine ⟨_, _, _, .told (.poll (by rw [I.value]; exact hp)), evs_took (l.box.take b) (l.box.drop b) _ ?_ (fun c hc => hf c (List.mem_of_mem_take hc)), h.1, h.2⟩
  rw [List.take_append_drop]
  exact hb1
theorem un_box (l : Ln) (c : Int) : (l.un c).box = l.box := by unfold Ln.un; split <;> rfl
theorem step_unmask (I : LInv (8 * i) st G v mem kvs J) (hi : i < 56) (k : Nat) (hk : k < v.lanes.length) : Goal i st st.s (.tuple [.str "unmask", .int (k : Nat)]) := by
  have hl := List.getElem?_eq_getElem hk
  generalize v.lanes[k] = l at hl
  have L := I.lanes k l hl
  have hf := box_f0 L
  obtain ⟨hb1, hb2⟩ := I.boxAt hl
  have hsh := f0_sh (f0_tup hf) (by omega)
  obtain ⟨m', evs, hu, hev⟩ := unmasked_ex (mem := st.s.memory) (clock := st.s.clock) (most := st.s.most) (wait := st.s.wait) hl I.n.2.2 L.since hsh.1 hsh.2
  have I' := I.setLane (l' := { l.un st.s.clock with masked := m' }) (s' := { st.s with value := vlD (v.setL k { l.un st.s.clock with masked := m' }), memory := st.s.memory, clock := st.s.clock + tickOf (.tuple [.str "unmask", .int (k : Nat)]) }) hl (L.un st.s.clock m') ⟨rfl, rfl, rfl, rfl, rfl, rfl⟩ rfl I.memory I.mem8 (by show (l.un st.s.clock).box.length ≤ _; rw [un_box]; exact hb2)
  have e : ({ l.un st.s.clock with masked := m' } : Ln).box = l.box := un_box l st.s.clock
  rw [e, I.same hl] at I'
  have h := done_of I' hi (by omega)
  refine ⟨_, _, _, .told (.unmask (by rw [I.value]; exact hu)), evs_other fun x hx => ?_, h.1, h.2⟩
  rcases List.mem_cons.mp hx with rfl | hx
  · exact ev_unmasked _ _
  · rcases hev with rfl | rfl
    · simp at hx
    · rw [List.mem_singleton.mp hx]
      exact ev_raised _ _
theorem step_tick (I : LInv (8 * i) st G v mem kvs J) (hi : i < 56) : Goal i st st.s (.tuple [.str "tick"]) := by
  obtain ⟨v', evs, ht, hr, js, hp, hlen, hL⟩ := ticked_ex (mem := st.s.memory) (clock := st.s.clock + 1) (most := st.s.most) (wait := st.s.wait) I.n.2.1 I.n.2.2 (fun k l h => (I.lanes k l h).since) I.purse
  have hm : ∀ (k : Nat) (l' : Ln), v'.lanes[k]? = some l' → ∃ l m', v.lanes[k]? = some l ∧ l' = { l with masked := m' } := fun k l' h => by
    have hk := (List.getElem?_eq_some_iff.mp h).1
    rw [hlen] at hk
    have hl := List.getElem?_eq_getElem hk
    obtain ⟨m', h2⟩ := hL k _ hl
    rw [h] at h2
    cases h2
    exact ⟨_, m', hl, rfl⟩
  have hb : st.boxes = v'.lanes.map (·.box) := by
    rw [I.boxes]
    apply List.ext_getElem?
    intro k
    rw [List.getElem?_map, List.getElem?_map]
    cases h : v'.lanes[k]? with
    | none =>
      rw [List.getElem?_eq_none_iff, hlen, ← List.getElem?_eq_none_iff] at h
      rw [h]
    | some l' =>
      obtain ⟨l, m', h1, rfl⟩ := hm k l' h
      rw [h1]
      rfl
  have I' := I.lanesTo (v' := v') (bs := st.boxes) (mem' := mem) (s' := { st.s with value := vlD v', memory := st.s.memory, clock := st.s.clock + tickOf (.tuple [.str "tick"]) }) ⟨rfl, rfl, rfl, rfl, rfl, rfl⟩ rfl I.memory I.mem8 js hp hlen (fun k l' h => by
    obtain ⟨l, m', h1, rfl⟩ := hm k l' h
    exact (I.lanes k l h1).mask m') hb I.boxn
  have h := done_of I' hi (by omega)
  refine ⟨_, _, _, .told (.tick (by rw [I.value]; exact ht)), evs_other fun x hx => ?_, h.1, h.2⟩
  obtain ⟨k, rfl⟩ := hr x hx
  exact ev_raised _ _
end
end CR
/-! PlU -/
set_option maxHeartbeats 4000000
namespace CR
open PySem PySem.Spec L2
open PyProof.Rows hiding St
/-! ### a letter more, pieces taken -/
theorem tk_inj {t u : D} (ht : t ∈ TALKS) (hu : u ∈ TALKS) (h : tk t = tk u) : t = u := by rw [← talk_data ht, ← talk_data hu, h]
theorem dset_len' (kvs : List (NK × D)) (k : NK) (d : D) : (dset kvs k d).length ≤ kvs.length + 1 := by
  unfold dset
  split
  · rw [List.length_map]; omega
  · rw [List.length_append]; exact Nat.le_refl _
open Classical in
noncomputable def setR (G : Reg) (t : D) (n : Int) (g : Gv) : Reg := fun t' n' => if t' = t ∧ n' = n then some g else G t' n'
theorem setR_at (G : Reg) (t : D) (n : Int) (g : Gv) : setR G t n g t n = some g := by unfold setR; rw [if_pos ⟨rfl, rfl⟩]
theorem setR_old {G : Reg} {t : D} {n : Int} {g : Gv} {t' : D} {n' : Int} (h : ¬(t' = t ∧ n' = n)) : setR G t n g t' n' = G t' n' := by unfold setR; rw [if_neg h]
theorem numOf_dset (kvs : List (NK × D)) (k k' : NK) (n : Int) : numOf (dset kvs k (.int n)) k' = if k = k' then n else numOf kvs k' := by
  unfold numOf
  rw [dget_dset]
  by_cases h : k = k' <;> simp [h]
section
variable {i : Nat} {st : LS} {G : Reg} {v : Vl} {mem : List (List Int)} {kvs : List (NK × D)} {J : D → Option Jn}
theorem RegOk.letter {s s1 : WS} (R : RegOk G s) {t : D} {n : Int} {ws : List Int} {e cut : Int} {ps : List D} (h : LStep s s1 t n ws e cut ps) : ∃ G', (∀ t' n' g, G t' n' = some g → G' t' n' = some g) ∧ RegOk G' s1 := by
  obtain ⟨c, rfl⟩ : ∃ c : Nat, cut = (c : Int) := ⟨cut.toNat, by have := h.cut0; omega⟩
  have hc0 : 1 ≤ c := by have := h.cut0; omega
  have hc1 : c ≤ 4 := by have := h.cut1; omega
  have hps : ps = piecesL e t n ws c := by
    have h1 := h.pieces
    unfold PiecesOf at h1
    rw [pieces_eq e t n ws c h.words hc0 hc1] at h1
    cases h1
    rfl
  have hn : numOf s.numbered (tk t) ≤ n := by rcases h.num with e | e <;> omega
  have he : s.era ≤ e := by rcases h.era with e | e <;> omega
  have ht := h.talk
  have fresh : ∀ n' g, G t n' = some g → n' < n := fun n' g hg => by
    have := (R.num t ht n' g hg).2
    omega
  have up : ∀ t' n' g, G t' n' = some g → setR G t n ⟨ws, e, c⟩ t' n' = some g := fun t' n' g hg => by
    rw [setR_old]
    · exact hg
    · rintro ⟨rfl, rfl⟩
      have := fresh n' g hg
      omega
  refine ⟨setR G t n ⟨ws, e, c⟩, up, ?_⟩
  rw [h.eq]
  refine ⟨fun t' ht' n' => ?_, fun k d hd => ?_, fun t' ht' n' g hg => ?_, fun t' ht' => ?_, fun t' n' g hg => ?_, fun t' n1 n2 g1 g2 h1 h2 hlt => ?_, fun d hd => ?_⟩
  · show dget (dset s.letters (.tup [tk t, .num n]) (.tuple (ws.map .int))) (.tup [tk t', .num n']) = _
    rw [dget_dset]
    by_cases q : t' = t ∧ n' = n
    · obtain ⟨rfl, rfl⟩ := q
      rw [if_pos rfl, setR_at]
      rfl
    · rw [setR_old q, if_neg]
      · exact R.lets t' ht' n'
      · intro z
        injection z with z
        injection z with z1 z2
        injection z2 with z2 _
        injection z2 with z2
        exact q ⟨tk_inj ht' ht z1.symm, z2.symm⟩
  · have hd' : dget (dset s.numbered (tk t) (.int (n + 1))) k = some d := hd
    rw [dget_dset] at hd'
    split at hd'
    · cases hd'; exact ⟨_, rfl⟩
    · exact R.nums k d hd'
  · show 0 ≤ n' ∧ n' < numOf (dset s.numbered (tk t) (.int (n + 1))) (tk t')
    rw [numOf_dset]
    have n0 := R.num0 t ht
    by_cases q : t' = t ∧ n' = n
    · obtain ⟨rfl, rfl⟩ := q
      rw [if_pos rfl]
      omega
    · rw [setR_old q] at hg
      have h1 := R.num t' ht' n' g hg
      by_cases z : tk t = tk t'
      · rw [if_pos z]
        rw [← z] at h1
        omega
      · rw [if_neg z]
        exact h1
  · show 0 ≤ numOf (dset s.numbered (tk t) (.int (n + 1))) (tk t')
    rw [numOf_dset]
    have n0 := R.num0 t ht
    split
    · omega
    · exact R.num0 t' ht'
  · show g.e ≤ e ∧ _
    by_cases q : t' = t ∧ n' = n
    · obtain ⟨rfl, rfl⟩ := q
      rw [setR_at] at hg
      cases hg
      exact ⟨Int.le_refl _, h.words, hc0, hc1⟩
    · rw [setR_old q] at hg
      have h1 := R.era t' n' g hg
      exact ⟨by omega, h1.2⟩
  · by_cases q1 : t' = t ∧ n1 = n
    · obtain ⟨rfl, rfl⟩ := q1
      rw [setR_old (by rintro ⟨_, rfl⟩; omega)] at h2
      have := fresh n2 g2 h2
      omega
    · rw [setR_old q1] at h1
      by_cases q2 : t' = t ∧ n2 = n
      · obtain ⟨rfl, rfl⟩ := q2
        rw [setR_at] at h2
        cases h2
        have := (R.era t' n1 g1 h1).1
        show g1.e ≤ e
        omega
      · rw [setR_old q2] at h2
        exact R.up t' n1 n2 g1 g2 h1 h2 hlt
  · have hd' : d ∈ s.far ++ ps := hd
    rcases List.mem_append.mp hd' with hd' | hd'
    · obtain ⟨t', ht', n', g, k, h1, h2, h3⟩ := R.far d hd'
      exact ⟨t', ht', n', g, k, up t' n' g h1, h2, h3⟩
    · rw [hps] at hd'
      obtain ⟨k, hk, rfl⟩ := List.mem_map.mp hd'
      exact ⟨t, ht, n, ⟨ws, e, c⟩, k, setR_at _ _ _ _, List.mem_range.mp hk, rfl⟩
theorem JnOk.up {G G' : Reg} {t : D} {j : Jn} (h : ∀ t' n' g, G t' n' = some g → G' t' n' = some g) (k : JnOk G t j) : JnOk G' t j := by
  obtain ⟨g, h1, h2⟩ := k.ex
  exact ⟨⟨g, h t j.n g h1, h2⟩, k.short⟩
theorem LInv.letter (I : LInv i st G v mem kvs J) {s1 : WS} {t : D} {n : Int} {ws : List Int} {e cut : Int} {ps : List D} (h : LStep st.s s1 t n ws e cut ps) : ∃ G', LInv (i + 4) { st with s := s1 } G' v mem kvs J := by
  obtain ⟨G', up, R⟩ := I.reg.letter h
  have p1 := h.p1
  have eq := h.eq
  subst eq
  refine ⟨G', { value := I.value, memory := I.memory, mem8 := I.mem8, rights := I.rights, n := I.n, purse := I.purse, lanes := I.lanes, boxes := I.boxes, boxn := fun b hb => Nat.le_trans (I.boxn b hb) (Nat.le_add_right _ _), js := ⟨I.js.1, I.js.2.1, Nat.le_trans I.js.2.2 (Nat.le_add_right _ _)⟩, joins := I.joins, jok := fun t ht j hj => (I.jok t ht j hj).up up, reg := R, last := I.last, gone := I.gone, post := I.post, sz := ?_ }⟩
  obtain ⟨q1, q2, q3, q4, q5, q6⟩ := I.sz
  have d1 := dset_len' st.s.numbered (tk t) (.int (n + 1))
  have d2 := dset_len' st.s.letters (.tup [tk t, .num n]) (.tuple (ws.map .int))
  refine ⟨by show st.gone.length ≤ _; omega, by show st.posted.length ≤ _; omega, by show (st.s.far ++ ps).length ≤ _; rw [List.length_append]; omega, by show (dset _ _ _).length ≤ _; omega, by show (dset _ _ _).length ≤ _; omega, by show st.last.length ≤ _; omega⟩
theorem LInv.farTo (I : LInv i st G v mem kvs J) {R : List D} (h : ∀ d ∈ R, d ∈ st.s.far) (hl : R.length ≤ st.s.far.length) : LInv i { st with s := { st.s with far := R } } G v mem kvs J :=
  { value := I.value, memory := I.memory, mem8 := I.mem8, rights := I.rights, n := I.n, purse := I.purse, lanes := I.lanes, boxes := I.boxes, boxn := I.boxn, js := I.js, joins := I.joins, jok := I.jok
    reg := { lets := I.reg.lets, nums := I.reg.nums, num := I.reg.num, num0 := I.reg.num0, era := I.reg.era, up := I.reg.up, far := fun d hd => I.reg.far d (h d hd) }
    last := I.last, gone := I.gone, post := I.post
    sz := by
      obtain ⟨q1, q2, q3, q4, q5, q6⟩ := I.sz
      exact ⟨q1, q2, Nat.le_trans hl q3, q4, q5, q6⟩ }
/-- a piece that comes is of a letter that is known -/
structure PcOf (G : Reg) (t : D) (n : Int) (g : Gv) (k : Nat) (d : D) : Prop where
  talk : t ∈ TALKS
  has : G t n = some g
  lt : k < nParts g.ws.length g.cut
  d : d = pcR g.e t n (k : Nat) (nParts g.ws.length g.cut : Nat) (chunk g.ws g.cut k) ∨ ∃ w : Nat, w < 3 ∧ d = bentD g.e t n (k : Nat) (nParts g.ws.length g.cut : Nat) (chunk g.ws g.cut k) (SD g.e n (k : Nat) (nParts g.ws.length g.cut : Nat) (chunk g.ws g.cut k)) w
theorem LInv.piece (I : LInv i st G v mem kvs J) {s' : WS} {d : D} (h : PStep st.s s' d) : ∃ G' t n g k, LInv (i + 4) { st with s := s' } G' v mem kvs J ∧ PcOf G' t n g k d := by
  obtain ⟨s1, h1, q, R, R', hf, hR, hd, rfl⟩ := h.ex
  obtain ⟨G', I1⟩ : ∃ G', LInv (i + 4) { st with s := s1 } G' v mem kvs J := by
    rcases h1 with rfl | ⟨t, n, ws, e, cut, ps, h1⟩
    · exact ⟨G, I.le (Nat.le_add_right _ _)⟩
    · exact I.letter h1
  have hq : q ∈ s1.far := by
    rcases hf with e | ⟨p0, e⟩ <;> rw [e] <;> simp
  have hsub : ∀ d ∈ R', d ∈ s1.far := fun d hd => by
    rcases hf with e | ⟨p0, e⟩ <;> rw [e] <;> rcases hR with rfl | rfl <;> simp at hd ⊢ <;> simp [hd] <;> (rcases hd with h | h <;> simp [h])
  have hlen : R'.length ≤ s1.far.length := by
    rcases hf with e | ⟨p0, e⟩ <;> rw [e] <;> rcases hR with rfl | rfl <;> simp <;> omega
  obtain ⟨t, ht, n, g, k, e1, e2, e3⟩ := I1.reg.far q hq
  refine ⟨G', t, n, g, k, I1.farTo hsub hlen, ht, e1, e2, ?_⟩
  rcases hd with rfl | ⟨w, w0, w1, hw⟩
  · exact .inl e3
  · right
    obtain ⟨w, rfl⟩ : ∃ m : Nat, w = (m : Int) := ⟨w.toNat, by omega⟩
    refine ⟨w, by omega, ?_⟩
    rw [e3] at hw
    have := bent_eq g.e t n (k : Nat) (nParts g.ws.length g.cut : Nat) (chunk g.ws g.cut k) (SD g.e n (k : Nat) (nParts g.ws.length g.cut : Nat) (chunk g.ws g.cut k)) w (chunk_le _ _ _ (I1.reg.era t n g e1).2.2.2) (by omega)
    exact Option.some.inj (hw.symm.trans this)
/-! ### what comes of a piece, by the invariant -/
theorem parts_all {len cut : Nat} (h : 1 ≤ cut) (hl : len ≤ 8) (hc : cut ≤ 4) : len ≤ nParts len cut * cut := by
  unfold nParts
  have hc : cut = 1 ∨ cut = 2 ∨ cut = 3 ∨ cut = 4 := by omega
  rcases hc with rfl | rfl | rfl | rfl <;> omega
inductive LostOk (n : Int) : D → Prop
  | none : LostOk n .none
  | lost (x : Int) : x < n → LostOk n (.int x)
inductive Came (G : Reg) (t : D) (n : Int) (g : Gv) (j : Option Jn) : D → Prop
  | drop (w : Str) (piece : D) (d1 : List D) : D1 piece w d1 → (w = "elder" ∨ w = "cut") → Came G t n g j (.tuple [jD j, .str w, .none, .none])
  | on (w : Str) (j' : Jn) (lost : D) : (w = "begun" ∨ w = "on") → JnOk G t j' → j'.n = n → (∀ m, Below j m → m < n) → LostOk n lost → (∀ x, lost = .int x → ∃ y, j = some y ∧ y.n = x) → Came G t n g j (.tuple [jD (some j'), .str w, lost, .none])
  | whole (j' : Jn) (lost : D) : JnOk G t j' → j'.n = n → j'.later = 0 → (∀ m, Below j m → m < n) → LostOk n lost → (∀ x, lost = .int x → ∃ y, j = some y ∧ y.n = x) → Came G t n g j (.tuple [jD (some j'), .str "whole", lost, letD t n g.ws])
theorem came_wp {s : WS} (R : RegOk G s) {t : D} {n : Int} {g : Gv} {k : Nat} {j : Option Jn} {lost : D} (ht : t ∈ TALKS) (hg : G t n = some g) (hk : k < nParts g.ws.length g.cut) (hB : ∀ m, Below j m → m < n) (hL : LostOk n lost) (hL2 : ∀ x, lost = .int x → ∃ y, j = some y ∧ y.n = x) :
    Came G t n g j (wpD g.e t n (k : Nat) (nParts g.ws.length g.cut : Nat) (g.ws.take ((k + 1) * g.cut)) lost) := by
  obtain ⟨r1, r2, r3, r4⟩ := R.era t n g hg
  unfold wpD
  by_cases h : ((k : Nat) : Int) + 1 = (nParts g.ws.length g.cut : Nat)
  · rw [if_pos h]
    have e : g.ws.take ((k + 1) * g.cut) = g.ws := by
      apply List.take_of_length_le
      have := parts_all r3 r2 r4
      rw [show k + 1 = nParts g.ws.length g.cut by omega]
      exact this
    rw [e]
    exact .whole ⟨g.e, n, (nParts g.ws.length g.cut : Nat), 0, []⟩ lost ⟨⟨g, hg, rfl, rfl, 0, rfl, by omega, fun h => by omega⟩, by simp⟩ rfl rfl hB hL hL2
  · rw [if_neg h]
    refine .on _ ⟨g.e, n, (nParts g.ws.length g.cut : Nat), ((k : Nat) : Int) + 1, g.ws.take ((k + 1) * g.cut)⟩ lost ?_ ⟨⟨g, hg, rfl, rfl, k + 1, rfl, by omega, fun _ => rfl⟩, by show (g.ws.take _).length ≤ 8; rw [List.length_take]; omega⟩ rfl hB hL hL2
    by_cases q : ((k : Nat) : Int) = 0
    · rw [if_pos q]; exact .inl rfl
    · rw [if_neg q]; exact .inr rfl
theorem came_cases {s : WS} (R : RegOk G s) {t : D} {n : Int} {g : Gv} {k : Nat} {j : Option Jn} (piece : D) (ht : t ∈ TALKS) (hg : G t n = some g) (hk : k < nParts g.ws.length g.cut) (hj : ∀ y, j = some y → JnOk G t y) :
    Came G t n g j (cameD j g.e t n (k : Nat) (nParts g.ws.length g.cut : Nat) (chunk g.ws g.cut k)) := by
  unfold cameD
  by_cases h1 : goB j g.e n (k : Nat) (nParts g.ws.length g.cut : Nat) = true
  · rw [if_pos h1]
    cases j with
    | none => cases h1
    | some y =>
      obtain ⟨g0, e0, e1, e2, m, e3, e4, e5⟩ := (hj y rfl).ex
      unfold goB at h1
      simp only [Bool.and_eq_true, decide_eq_true_eq] at h1
      obtain ⟨a0, a1, a2, a3, a4⟩ := h1
      rw [← a2, hg] at e0
      cases e0
      have hkm : k = m := by omega
      subst hkm
      have e : ((some y).map (·.ws)).getD [] ++ chunk g.ws g.cut k = g.ws.take ((k + 1) * g.cut) := by
        show y.ws ++ _ = _
        rw [e5 (by omega), Nat.add_mul, Nat.one_mul, List.take_add]
        rfl
      rw [e]
      refine came_wp R ht hg hk (fun m hm => ?_) .none (fun x hx => by cases hx)
      obtain ⟨x, hx, hm1, hm2⟩ := hm
      cases hx
      have := hm2 a0
      omega
  · rw [if_neg h1]
    by_cases h2 : beB j g.e n (k : Nat) = true
    · rw [if_pos h2]
      unfold beB at h2
      rw [Bool.and_eq_true, decide_eq_true_eq] at h2
      obtain ⟨a0, a1⟩ := h2
      have hk0 : k = 0 := by omega
      subst hk0
      have e : chunk g.ws g.cut 0 = g.ws.take ((0 + 1) * g.cut) := by unfold chunk; simp
      rw [e]
      have lt : ∀ y, j = some y → y.n < n := fun y hy => by
        subst hy
        obtain ⟨g0, e0, e1, _⟩ := (hj y rfl).ex
        have a1' : (if g.e = y.e then decide (y.n < n) else decide (y.e < g.e)) = true := a1
        by_cases q : g.e = y.e
        · rw [if_pos q] at a1'
          exact of_decide_eq_true a1'
        · rw [if_neg q] at a1'
          have a2 := of_decide_eq_true a1'
          rcases Int.lt_trichotomy y.n n with z | z | z
          · exact z
          · rw [← z, e0] at hg
            cases hg
            exact absurd e1.symm q
          · have := R.up t n y.n g g0 hg e0 z
            omega
      refine came_wp R ht hg hk (fun m hm => ?_) ?_ (fun x hx => ?_)
      · obtain ⟨x, hx, hm1, hm2⟩ := hm
        have := lt x hx
        omega
      · cases j with
        | none => exact .none
        | some y =>
          unfold goesD
          dsimp only
          split
          · exact .lost _ (lt y rfl)
          · exact .none
      · cases j with
        | none => cases hx
        | some y =>
          refine ⟨y, rfl, ?_⟩
          unfold goesD at hx
          dsimp only at hx
          split at hx
          · cases hx; rfl
          · cases hx
    · rw [if_neg h2]
      by_cases q : ltB j g.e n = true
      · rw [if_pos q]; exact .drop "elder" piece _ .elder (.inl rfl)
      · rw [if_neg q]; exact .drop "cut" piece _ .cut (.inr rfl)
end
end CR
/-! PlV -/
set_option maxHeartbeats 4000000
namespace CR
open PySem PySem.Spec L2
open PyProof.Rows hiding St
/-! ### joinings, what is gone, what is last -/
open Classical in
noncomputable def setJ (J : D → Option Jn) (t : D) (j : Option Jn) : D → Option Jn := fun t' => if t' = t then j else J t'
theorem setJ_at (J : D → Option Jn) (t : D) (j : Option Jn) : setJ J t j t = j := by unfold setJ; rw [if_pos rfl]
theorem setJ_ne {J : D → Option Jn} {t t' : D} {j : Option Jn} (h : t' ≠ t) : setJ J t j t' = J t' := by unfold setJ; rw [if_neg h]
section
variable {i : Nat} {st : LS} {G : Reg} {v : Vl} {mem : List (List Int)} {kvs : List (NK × D)} {J : D → Option Jn}
theorem LInv.join (I : LInv i st G v mem kvs J) {t : D} (ht : t ∈ TALKS) {j' : Option Jn} {kvs' : List (NK × D)} (hk : KOk kvs') (hd : ∀ k, dget kvs' k = if tk t = k then some (jD j') else dget kvs k) (hlen : kvs'.length ≤ kvs.length + 1) (hj : ∀ j, j' = some j → JnOk G t j) (hb : ∀ m, Below (J t) m → Below j' m)
    {s' : WS} (S : SameS st.s s') (hv : s'.value = vlD { v with js := jsD kvs' }) (hm : s'.memory = st.s.memory) : LInv (i + 1) { st with s := s' } G { v with js := jsD kvs' } mem kvs' (setJ J t j') :=
  { value := hv, memory := hm.trans I.memory, mem8 := I.mem8
    rights := S.rights.trans I.rights
    n := ⟨S.n.trans I.n.1, I.n.2⟩
    purse := I.purse, lanes := I.lanes, boxes := I.boxes, boxn := fun b hb => Nat.le_succ_of_le (I.boxn b hb)
    js := ⟨rfl, hk, by have := I.js.2.2; omega⟩
    joins := fun u hu => by
      rw [hd]
      by_cases e : u = t
      · subst e
        rw [if_pos rfl, setJ_at]
        rfl
      · rw [if_neg fun z => e (tk_inj hu ht z.symm), setJ_ne e]
        exact I.joins u hu
    jok := fun u hu j hj' => by
      by_cases e : u = t
      · subst e
        rw [setJ_at] at hj'
        exact hj j hj'
      · rw [setJ_ne e] at hj'
        exact I.jok u hu j hj'
    reg := I.reg.of S
    last := fun u hu m hm => by
      obtain ⟨n, e1, e2⟩ := I.last u hu m hm
      refine ⟨n, e1, ?_⟩
      by_cases e : u = t
      · subst e
        rw [setJ_at]
        exact hb n e2
      · rw [setJ_ne e]
        exact e2
    gone := fun d hd => by
      obtain ⟨u, hu, n, e1, e2⟩ := I.gone d hd
      refine ⟨u, hu, n, e1, ?_⟩
      by_cases e : u = t
      · subst e
        rw [setJ_at]
        exact hb n e2
      · rw [setJ_ne e]
        exact e2
    post := I.post
    sz := by
      obtain ⟨a, b, c, d, e, f⟩ := I.sz
      refine ⟨by show st.gone.length ≤ _; omega, by show st.posted.length ≤ _; omega, ?_, ?_, ?_, by show st.last.length ≤ _; omega⟩
      · show s'.far.length ≤ _; rw [S.far]; omega
      · show s'.numbered.length ≤ _; rw [S.numbered]; omega
      · show s'.letters.length ≤ _; rw [S.letters]; omega }
theorem LInv.goneTo (I : LInv i st G v mem kvs J) {t : D} (ht : t ∈ TALKS) {x : Int} (hB : Below (J t) x) : LInv (i + 1) { st with gone := st.gone ++ [.tuple [t, .int x]] } G v mem kvs J :=
  { I.le (Nat.le_succ i) with
    gone := fun d hd => by
      rcases List.mem_append.mp hd with h | h
      · exact I.gone d h
      · exact ⟨t, ht, x, by simpa using h, hB⟩
    sz := by
      obtain ⟨q1, q2, q3, q4, q5, q6⟩ := I.sz
      refine ⟨by show (st.gone ++ _).length ≤ _; rw [List.length_append, List.length_singleton]; omega, by show st.posted.length ≤ _; omega, by show st.s.far.length ≤ _; omega, by show st.s.numbered.length ≤ _; omega, by show st.s.letters.length ≤ _; omega, by show st.last.length ≤ _; omega⟩ }
theorem LInv.lastTo (I : LInv i st G v mem kvs J) {t : D} (ht : t ∈ TALKS) {x : Int} (hB : Below (J t) x) : LInv (i + 1) { st with last := dset st.last (tk t) (.int x) } G v mem kvs J :=
  { I.le (Nat.le_succ i) with
    last := fun u hu m hm => by
      have hm' : dget (dset st.last (tk t) (.int x)) (tk u) = some m := hm
      rw [dget_dset] at hm'
      by_cases e : tk t = tk u
      · rw [if_pos e] at hm'
        cases hm'
        have e2 := tk_inj ht hu e
        subst e2
        exact ⟨x, rfl, hB⟩
      · rw [if_neg e] at hm'
        exact I.last u hu m hm'
    sz := by
      obtain ⟨q1, q2, q3, q4, q5, q6⟩ := I.sz
      have := dset_len' st.last (tk t) (.int x)
      refine ⟨by show st.gone.length ≤ _; omega, by show st.posted.length ≤ _; omega, by show st.s.far.length ≤ _; omega, by show st.s.numbered.length ≤ _; omega, by show st.s.letters.length ≤ _; omega, by show (dset _ _ _).length ≤ _; omega⟩ }
/-! ### a filled one, plainly -/
theorem talk_eqv : ∀ t ∈ TALKS, ∀ u ∈ TALKS, PyData.eqv t u = true → tk t = tk u := by decide +kernel
theorem ints_sh (ws : List Int) : SeqAt.shaped (.tuple (ws.map .int)) = true ∧ noL (.tuple (ws.map .int)) = true := by
  obtain ⟨w1, w2, w3⟩ := ints_fine ws
  refine ⟨?_, by simpa [noL] using w3⟩
  unfold SeqAt.shaped
  have e1 : (PyData.tuple (ws.map .int)).canLay0 = true := by simp [PyData.canLay0, w1]
  have e2 : (PyData.tuple (ws.map .int)).depth ≤ 64 := by
    unfold PyData.depth
    omega
  rw [e1, decide_eq_true e2]
  rfl
theorem f0_pair {t : D} (ht : t ∈ TALKS) (n : Int) : F0 10 (.tuple [t, .int n]) := by
  obtain ⟨h1, h2, h3⟩ := talk_sh t ht
  refine ⟨by simp [noL, noLs, h3], by simp [PyData.canLay0, PyData.canLayAll0, h1], ?_⟩
  simp only [PyData.depth, PyData.depthAll]
  omega
theorem f0_pa (p a : Nat) : F0 10 (.tuple [.int (p : Nat), .int (a : Nat)]) := ⟨rfl, rfl, by simp [PyData.depth, PyData.depthAll]⟩
theorem gone_f0 (I : LInv i st G v mem kvs J) : ∀ d ∈ st.gone, F0 10 d := fun d hd => by
  obtain ⟨t, ht, n, rfl, _⟩ := I.gone d hd
  exact f0_pair ht n
theorem post_f0 (I : LInv i st G v mem kvs J) : ∀ d ∈ st.posted, F0 10 d := fun d hd => by
  obtain ⟨p, a, rfl⟩ := I.post d hd
  exact f0_pa p a
theorem not_gone {gone : List D} {t : D} (ht : t ∈ TALKS) {n : Int} (h : ∀ d ∈ gone, ∃ u ∈ TALKS, ∃ m, d = .tuple [u, .int m] ∧ (u = t → m < n)) : (gone.any fun z => PyData.eqv z (.tuple [t, .int n])) = false := by
  rw [List.any_eq_false]
  intro d hd hc
  obtain ⟨u, hu, m, rfl, hm⟩ := h d hd
  have e : PyData.eqv (.tuple [u, .int m]) (.tuple [t, .int n]) = (PyData.eqv u t && (PyData.eqv (.int m) (.int n) && true)) := rfl
  rw [e, eqv_int, Bool.and_true, Bool.and_eq_true] at hc
  have e2 := tk_inj hu ht (talk_eqv u hu t ht hc.1)
  have e3 : m = n := of_decide_eq_true hc.2
  have := hm e2
  omega
theorem was_posted {posted : List D} {p a : Nat} (h : PyData.tuple [.int (p : Nat), .int (a : Nat)] ∈ posted) : (posted.any fun z => PyData.eqv z (.tuple [.int (p : Nat), .int (a : Nat)])) = true :=
  List.any_eq_true.mpr ⟨_, h, eqv_self (f0_sh (f0_pa p a) (by omega)).1⟩
end
end CR
/-! PlW -/
set_option maxHeartbeats 4000000
namespace CR
open PySem PySem.Spec L2
open PyProof.Rows hiding St
/-! ### a whole letter, by the invariant -/
section
variable {i m : Nat} {st : LS} {G : Reg} {v : Vl} {mem : List (List Int)} {kvs : List (NK × D)} {J : D → Option Jn}
theorem LInv.sTo (I : LInv i st G v mem kvs J) {s' : WS} (S : SameS st.s s') (hv : s'.value = vlD v) (hm : s'.memory = memD mem) : LInv i { st with s := s' } G v mem kvs J :=
  I.lanesTo (bs := st.boxes) S hv hm I.mem8 rfl I.purse rfl I.lanes I.boxes I.boxn
theorem why_cases (p m : Nat) (ws : List D) : (∃ s, whyD p m ws = .str s) ∨ (whyD p m ws = .none ∧ p < 7 ∧ ws.length ≤ m) := by
  unfold whyD
  by_cases h : p < 7
  · rw [if_pos h]
    by_cases q : m < ws.length
    · rw [if_pos q]; exact .inl ⟨_, rfl⟩
    · rw [if_neg q]; exact .inr ⟨rfl, h, by omega⟩
  · rw [if_neg h]; exact .inl ⟨_, rfl⟩
theorem whole_step (I : LInv m st G v mem kvs J) {t : D} (ht : t ∈ TALKS) {n : Int} {g : Gv} (hg : G t n = some g) (hJ : ∃ j, J t = some j ∧ j.n = n ∧ j.later = 0) (hlt : ∀ x, dget st.last (tk t) = some x → ∃ i, x = .int i ∧ i < n) (hgone : ∀ d ∈ st.gone, ∃ u ∈ TALKS, ∃ y, d = .tuple [u, .int y] ∧ (u = t → y < n)) (clock most wait : Int) (hm : m ≤ 448) (hgl : st.gone.length < 900) :
    ∃ v3 mem' evs, m_takes_whole [vlD v, memD mem, R7, letD t n g.ws, .tuple [.int clock, .int most, .int wait]] = some (.tuple [vlD v3, memD mem', .tuple evs]) ∧ evs.length ≤ 2 ∧ ∀ s', SameS st.s s' → s'.value = vlD v3 → s'.memory = memD mem' → ∃ st', Evs { st with s := s' } evs st' ∧ LInv (m + 2) st' G v3 mem' kvs J := by
  obtain ⟨k, hk, hlane⟩ := lane_of_ex ht I.n.2.1 I.n.2.2
  have hl := List.getElem?_eq_getElem hk
  generalize v.lanes[k] = l at hl
  have L := I.lanes k l hl
  obtain ⟨hb1, hb2⟩ := I.boxAt hl
  obtain ⟨j, hj1, hj2, hj3⟩ := hJ
  have hB : Below (J t) n := ⟨j, hj1, by omega, fun h => by omega⟩
  by_cases hh : held l.sz l.made l.done = 0
  · refine ⟨v, mem, _, whole_none hlane (oldest_none hl L.sz L.made L.done hh), by simp, fun s' S hv hm' => ⟨_, ⟨_, .missed halfD t (.int n) (.str "none") hgl, rfl⟩, ?_⟩⟩
    exact ((I.sTo S hv hm').goneTo ht hB).le (by omega)
  · obtain ⟨x, hx, p, a, mm, rfl, hp, ha, ham, hpost⟩ := L.ring 0 (by omega)
    rw [Nat.add_zero] at hx
    have ho := oldest_some hl I.n.2.2 L.sz L.made L.done L.len hh hx
    have Lt := L.took hh
    rcases why_cases p mm (g.ws.map .int) with ⟨s, hy⟩ | ⟨hy, hp7, hlen⟩
    · refine ⟨_, mem, _, whole_why hlane ho hp hy, by simp, fun s' S hv hm' => ⟨_, ⟨_, .missed halfD t (.int n) (.str s) hgl, ⟨_, ev_returned _ _, rfl⟩⟩, ?_⟩⟩
      have I2 := I.setLane hl Lt S hv hm' I.mem8 hb2
      have e : l.took.box = l.box := rfl
      rw [e, I.same hl] at I2
      exact (I2.goneTo ht hB).le (by omega)
    · rw [List.length_map] at hlen
      have hfb := box_f0 Lt
      have hsh := f0_sh (f0_tup hfb) (by omega)
      have hl1 : (v.setL k l.took).lanes[k]? = some l.took := getL hl
      have hbx := boxed_eq (c := .tuple [t, .int n, .tuple [.int (p : Nat), .int (a : Nat), .int (g.ws.length : Nat)], .int clock]) (clock := clock) hl1 (by rw [lenL]; exact I.n.2.2) hsh.1 hsh.2 (by show l.box.length < 900; omega)
      have Lb := Lt.boxed ht n p a g.ws.length clock (by omega) (by omega)
      have hl2 : ((v.setL k l.took).setL k (l.took.boxed (.tuple [t, .int n, .tuple [.int (p : Nat), .int (a : Nat), .int (g.ws.length : Nat)], .int clock]) clock)).lanes[k]? = some (l.took.boxed (.tuple [t, .int n, .tuple [.int (p : Nat), .int (a : Nat), .int (g.ws.length : Nat)], .int clock]) clock) := getL hl1
      obtain ⟨mk, evs, hlook, hev⟩ := look_ex (clock := clock) (most := most) (wait := wait) hl2 (by rw [lenL, lenL]; exact I.n.2.2) Lb.since
      have hpl : p < mem.length := by rw [I.mem8.1]; omega
      have hpg := List.getElem?_eq_getElem hpl
      have hpg8 := I.mem8.2 _ (List.getElem_mem hpl)
      generalize mem[p] = pg at hpg hpg8
      have hw := written_eq (a := a) (m := mm) (ws := g.ws) hpg (by omega) (by omega) hlen (by rw [I.mem8.1]; omega)
      have hel : evs.length ≤ 1 := by rcases hev with e | e <;> rw [e] <;> simp
      refine ⟨_, _, _, whole_fill hlane ho hp hy hbx hlook hw (by omega), by rw [List.length_cons]; omega, fun s' S hv hm' => ?_⟩
      obtain ⟨wr1, wr2⟩ := wr_read pg a g.ws (by omega)
      have hm8 : (mem.set p (wr pg a g.ws)).length = 8 ∧ ∀ q ∈ mem.set p (wr pg a g.ws), q.length = 8 := ⟨by rw [List.length_set]; exact I.mem8.1, fun q hq => by
        rcases mem_set hq with h | h
        · exact I.mem8.2 q h
        · rw [h, wr2]; exact hpg8⟩
      have e3 : ((v.setL k l.took).setL k (l.took.boxed (.tuple [t, .int n, .tuple [.int (p : Nat), .int (a : Nat), .int (g.ws.length : Nat)], .int clock]) clock)).setL k { l.took.boxed (.tuple [t, .int n, .tuple [.int (p : Nat), .int (a : Nat), .int (g.ws.length : Nat)], .int clock]) clock with masked := mk } = v.setL k { l.took.boxed (.tuple [t, .int n, .tuple [.int (p : Nat), .int (a : Nat), .int (g.ws.length : Nat)], .int clock]) clock with masked := mk } := by rw [setL_setL, setL_setL]
      rw [e3] at hv ⊢
      have I2 := (I.le (Nat.le_succ m)).setLane (l' := { l.took.boxed (.tuple [t, .int n, .tuple [.int (p : Nat), .int (a : Nat), .int (g.ws.length : Nat)], .int clock]) clock with masked := mk }) hl (Lb.mask mk) S hv hm' hm8 (by show (l.box ++ [_]).length ≤ _; rw [List.length_append, List.length_singleton]; omega)
      have I3 := I2.lastTo ht hB
      have hsz := I.sz
      refine ⟨_, ⟨_, .filled halfD k t n l.box (.int (p : Nat)) (.int (a : Nat)) (.int (g.ws.length : Nat)) (.int clock) l.box (f0_lst (gone_f0 I) (by omega)).1 (f0_lst (gone_f0 I) (by omega)).2 (not_gone ht hgone) ?_ hb1 (by omega) (by show st.last.length < 900; omega) (f0_lst (post_f0 I) (by omega)).1 (f0_lst (post_f0 I) (by omega)).2 (f0_sh (f0_pa p a) (by omega)).1 (f0_pa p a).1 (was_posted hpost), evs_other fun x hx => ?_⟩, I3⟩
      · refine ⟨ht, ⟨vlL _, _, ownL { l.took.boxed (.tuple [t, .int n, .tuple [.int (p : Nat), .int (a : Nat), .int (g.ws.length : Nat)], .int clock]) clock with masked := mk }, hv, rfl, ?_, rfl⟩, ⟨.tuple [.int (p : Nat), .int (a : Nat), .int (g.ws.length : Nat)], .int clock, .tuple (g.ws.map .int), .tuple (g.ws.map .int), rfl, ?_, ?_, ?_⟩, (I.reg.num t ht n g hg).1, hlt⟩
        · show ((v.lanes.set k _).map lnD)[k]? = _
          rw [List.getElem?_map]
          have := getL (v := v) (l' := { l.took.boxed (.tuple [t, .int n, .tuple [.int (p : Nat), .int (a : Nat), .int (g.ws.length : Nat)], .int clock]) clock with masked := mk }) hl
          have h2 : (v.lanes.set k { l.took.boxed (.tuple [t, .int n, .tuple [.int (p : Nat), .int (a : Nat), .int (g.ws.length : Nat)], .int clock]) clock with masked := mk })[k]? = some { l.took.boxed (.tuple [t, .int n, .tuple [.int (p : Nat), .int (a : Nat), .int (g.ws.length : Nat)], .int clock]) clock with masked := mk } := this
          rw [h2]
          rfl
        · show m_words_at [s'.memory, _] = _
          rw [hm']
          have hset : (mem.set p (wr pg a g.ws))[p]? = some (wr pg a g.ws) := by rw [List.getElem?_set_self hpl]
          rw [words_eq hset (by rw [wr2]; omega), wr1]
        · show dget s'.letters _ = _
          rw [S.letters, I.reg.lets t ht n, hg]
          rfl
        · obtain ⟨q1, q2⟩ := ints_sh g.ws
          unfold gEq
          rw [q1, q2, eqv_self q1]
          rfl
      · rcases hev with rfl | rfl
        · simp at hx
        · rw [List.mem_singleton.mp hx]
          exact ev_raised _ _
/-! ### what is lost -/
inductive Lost (t : D) (n : Int) : D → List D → List D → Prop
  | none : Lost t n .none [] []
  | lost (x : Int) : x < n → Lost t n (.int x) [lostE t x] [.tuple [t, .int x]]
theorem lost_of {t : D} {n : Int} {lost : D} (h : LostOk n lost) : ∃ d2 gs, Lost t n lost d2 gs := by
  cases h with
  | none => exact ⟨_, _, .none⟩
  | lost x h => exact ⟨_, _, .lost x h⟩
theorem Lost.d2 {t : D} {n : Int} {lost : D} {d2 gs : List D} (h : Lost t n lost d2 gs) : D2 t lost d2 := by
  cases h with
  | none => exact .none
  | lost x h => exact .lost x
theorem Lost.len {t : D} {n : Int} {lost : D} {d2 gs : List D} (h : Lost t n lost d2 gs) : d2.length ≤ 1 ∧ gs.length ≤ 1 := by
  cases h <;> simp
theorem Lost.evs {t : D} {n : Int} {lost : D} {d2 gs : List D} (h : Lost t n lost d2 gs) (hg : st.gone.length < 900) : Evs st d2 { st with gone := st.gone ++ gs } := by
  cases h with
  | none =>
    show st = _
    rw [List.append_nil]
  | lost x h => exact ⟨_, .missed halfD t (.int x) (.str "cut") hg, rfl⟩
theorem Lost.inv {t : D} {n : Int} {lost : D} {d2 gs : List D} (h : Lost t n lost d2 gs) (I : LInv i st G v mem kvs J) (ht : t ∈ TALKS) {j : Jn} (hJ : J t = some j) (hn : j.n = n) : LInv (i + 1) { st with gone := st.gone ++ gs } G v mem kvs J := by
  cases h with
  | none =>
    rw [List.append_nil]
    exact I.le (Nat.le_succ i)
  | lost x h => exact I.goneTo ht ⟨j, hJ, by omega, fun _ => by omega⟩
theorem Lost.memb {t : D} {n : Int} {lost : D} {d2 gs : List D} (h : Lost t n lost d2 gs) : ∀ d ∈ gs, ∃ y, d = .tuple [t, .int y] ∧ y < n := by
  cases h with
  | none => exact fun d hd => by simp at hd
  | lost x h => exact fun d hd => ⟨x, by simpa using hd, h⟩
end
end CR
/-! PlX -/
set_option maxHeartbeats 4000000
namespace CR
open PySem PySem.Spec L2
open PyProof.Rows hiding St
/-! ### a piece comes in, by the invariant -/
section
variable {i m : Nat} {st : LS} {G : Reg} {v : Vl} {mem : List (List Int)} {kvs : List (NK × D)} {J : D → Option Jn}
theorem LInv.byTalk (I : LInv i st G v mem kvs J) {t : D} (ht : t ∈ TALKS) : m_by_talk [v.js, t, .none] = some (jD (J t)) := by
  rw [I.js.1, by_talk_eq I.js.2.1 ht, I.joins t ht]
/-- nothing is taken -/
theorem in_drop {s1 : WS} {t d : D} {w : Str} (I : LInv (8 * i + 4) { st with s := s1 } G v mem kvs J) (hi : i < 56) (ht : t ∈ TALKS) (hp : gIx d (.int 1) = some t) (hc : m_came_of [jD (J t), d] = some (.tuple [jD (J t), .str w, .none, .none])) (h1 : D1 d w [dropE d w]) : Goal i st s1 (.tuple [.str "in", d]) := by
  obtain ⟨kvs', hk, hw, hd, hlen⟩ := with_talk_eq I.js.2.1 ht (jD (J t)) (by have := I.js.2.2; omega)
  rw [← I.js.1] at hw
  have hm := comes_none (mem := s1.memory) (clock := s1.clock) (most := s1.most) (wait := s1.wait) (v2 := { v with js := jsD kvs' }) hp (I.byTalk ht) hc hw rfl h1 .none
  have I2 := I.join ht (j' := J t) hk hd hlen (fun j hj => I.jok t ht j hj) (fun m h => h) (s' := { s1 with value := vlD { v with js := jsD kvs' }, memory := s1.memory, clock := s1.clock + tickOf (.tuple [.str "in", d]) }) ⟨rfl, rfl, rfl, rfl, rfl, rfl⟩ rfl rfl
  have h := done_of I2 hi (by omega)
  refine ⟨_, [dropE d w] ++ [], _, .told (.inn (by rw [show s1.value = vlD v from I.value, show s1.rights = R7 from I.rights]; exact hm)), evs_other (fun e he => by rw [List.mem_singleton.mp he]; exact ev_dropped _ _), h.1, h.2⟩
theorem below_on {jo : Option Jn} {j' : Jn} {n : Int} (hn : j'.n = n) (hB : ∀ m, Below jo m → m < n) : ∀ m, Below jo m → Below (some j') m := fun m h => by
  have := hB m h
  exact ⟨j', rfl, by omega, fun _ => by omega⟩
theorem step_in {s1 : WS} {d : D} (I0 : LInv (8 * i) st G v mem kvs J) (hi : i < 56) (h : PStep st.s s1 d) : Goal i st s1 (.tuple [.str "in", d]) := by
  obtain ⟨G', t, n, g, k, I, P⟩ := I0.piece h
  have ht := P.talk
  have hcut := (I.reg.era t n g P.has).2.2.2
  have hch := chunk_le g.ws g.cut k hcut
  rcases P.d with rfl | ⟨w, hw, rfl⟩
  · have hcame := came_right (J t) g.e t n (k : Nat) (nParts g.ws.length g.cut : Nat) (chunk g.ws g.cut k) hch (fun x hx => by have := (I.jok t ht x hx).short; omega)
    have cases_ := came_cases I.reg (pcR g.e t n (k : Nat) (nParts g.ws.length g.cut : Nat) (chunk g.ws g.cut k)) ht P.has P.lt (fun y hy => I.jok t ht y hy)
    generalize hcd : cameD (J t) g.e t n (k : Nat) (nParts g.ws.length g.cut : Nat) (chunk g.ws g.cut k) = cd at hcame cases_
    have hix : gIx (pcR g.e t n (k : Nat) (nParts g.ws.length g.cut : Nat) (chunk g.ws g.cut k)) (.int 1) = some t := rfl
    generalize pcR g.e t n (k : Nat) (nParts g.ws.length g.cut : Nat) (chunk g.ws g.cut k) = d at hcame hix
    cases cases_ with
    | drop w piece d1 h1 hw =>
      refine in_drop I hi ht hix hcame ?_
      rcases hw with rfl | rfl
      · exact .elder
      · exact .cut
    | on w j' lost hw hj hn hB hL hL2 =>
      obtain ⟨d2, gs, hlo⟩ := lost_of (t := t) hL
      obtain ⟨kvs', hk, hwt, hd, hlen⟩ := with_talk_eq I.js.2.1 ht (jD (some j')) (by have := I.js.2.2; omega)
      rw [← I.js.1] at hwt
      have h1 : D1 d w [] := by
        rcases hw with rfl | rfl
        · exact .begun
        · exact .on
      have hm := comes_none (mem := s1.memory) (clock := s1.clock) (most := s1.most) (wait := s1.wait) (v2 := { v with js := jsD kvs' }) hix (I.byTalk ht) hcame hwt rfl h1 hlo.d2
      have I2 := I.join ht (j' := some j') hk hd hlen (fun j e => by cases e; exact hj) (below_on hn hB) (s' := { s1 with value := vlD { v with js := jsD kvs' }, memory := s1.memory, clock := s1.clock + tickOf (.tuple [.str "in", d]) }) ⟨rfl, rfl, rfl, rfl, rfl, rfl⟩ rfl rfl
      have I3 := hlo.inv I2 ht (setJ_at _ _ _) hn
      have h := done_of I3 hi (by omega)
      have hsz := I.sz
      refine ⟨_, _, _, .told (.inn (by rw [show s1.value = vlD v from I.value, show s1.rights = R7 from I.rights]; exact hm)), hlo.evs (by show st.gone.length < 900; have := hsz.1; dsimp only at this; omega), h.1, h.2⟩
    | whole j' lost hj hn hl0 hB hL hL2 =>
      obtain ⟨d2, gs, hlo⟩ := lost_of (t := t) hL
      obtain ⟨kvs', hk, hwt, hd, hlen⟩ := with_talk_eq I.js.2.1 ht (jD (some j')) (by have := I.js.2.2; omega)
      rw [← I.js.1] at hwt
      have I2 := I.join ht (j' := some j') hk hd hlen (fun j e => by cases e; exact hj) (below_on hn hB) (s' := { s1 with value := vlD { v with js := jsD kvs' } }) ⟨rfl, rfl, rfl, rfl, rfl, rfl⟩ rfl rfl
      have I3 := hlo.inv I2 ht (setJ_at _ _ _) hn
      have hsz := I.sz
      have hg0 : st.gone.length ≤ 2 * (8 * i) := I0.sz.1
      have hll := hlo.len
      obtain ⟨v3, mem', evs, htw, hel, hfin⟩ := whole_step I3 ht P.has ⟨j', setJ_at _ _ _, hn, hl0⟩ (fun x hx => by
        obtain ⟨y, e1, e2⟩ := I.last t ht x hx
        exact ⟨y, e1, hB y e2⟩) (fun q hq => by
        have hq' : q ∈ st.gone ++ gs := hq
        rcases List.mem_append.mp hq' with hq' | hq'
        · obtain ⟨u, hu, y, e1, e2⟩ := I.gone q hq'
          exact ⟨u, hu, y, e1, fun e => hB y (e ▸ e2)⟩
        · obtain ⟨y, e1, e2⟩ := hlo.memb q hq'
          exact ⟨t, ht, y, e1, fun _ => e2⟩) s1.clock s1.most s1.wait (by omega) (by show (st.gone ++ gs).length < 900; rw [List.length_append]; omega)
      have hm := comes_whole (mem := s1.memory) (mem' := memD mem') (clock := s1.clock) (most := s1.most) (wait := s1.wait) (v2 := { v with js := jsD kvs' }) (v3 := v3) hix (I.byTalk ht) hcame hwt rfl .whole hlo.d2 (by rw [show s1.memory = memD mem from I.memory]; exact htw) (by rw [List.nil_append]; omega)
      obtain ⟨st', he, I4⟩ := hfin { s1 with value := vlD v3, memory := memD mem', clock := s1.clock + tickOf (.tuple [.str "in", d]) } ⟨rfl, rfl, rfl, rfl, rfl, rfl⟩ rfl rfl
      have h := done_of I4 hi (by omega)
      refine ⟨_, _, _, .told (.inn (by rw [show s1.value = vlD v from I.value, show s1.rights = R7 from I.rights]; exact hm)), ?_, h.1, h.2⟩
      rw [List.nil_append]
      exact evs_app (hlo.evs (by show st.gone.length < 900; omega)) he
  · obtain ⟨ws', s', e, hl, hr⟩ := bent_wrong g.e t n (k : Nat) (nParts g.ws.length g.cut : Nat) (chunk g.ws g.cut k) w hch hw
    rw [e]
    exact in_drop I hi ht rfl (came_wrong _ _ hr) .sum
theorem li_step (i : Nat) (st : LS) (s1 : WS) (d : D) (hi : i < 56) (h : LI i st) (a : AStep st.s s1 d) : ∃ s2 evs st', DRes s1 d s2 (.tuple evs) ∧ Evs { st with s := s2 } evs st' ∧ CmpOk st' ∧ LI (i + 1) st' := by
  obtain ⟨_, G, v, mem, kvs, J, I⟩ := h
  have hn : st.s.n = v.lanes.length := I.n.1
  cases a with
  | post k p a n hs k0 k1 hh =>
    subst hs
    obtain ⟨⟨p0, p1⟩, ⟨a0, a1⟩, n0, n1⟩ := hh
    obtain ⟨k, rfl⟩ : ∃ m : Nat, k = (m : Int) := ⟨k.toNat, by omega⟩
    obtain ⟨p, rfl⟩ : ∃ m : Nat, p = (m : Int) := ⟨p.toNat, by omega⟩
    obtain ⟨a, rfl⟩ : ∃ m : Nat, a = (m : Int) := ⟨a.toNat, by omega⟩
    obtain ⟨n, rfl⟩ : ∃ m : Nat, n = (m : Int) := ⟨n.toNat, by omega⟩
    exact step_post I hi k p a n (by omega) (by omega) (by omega) (by omega)
  | inn d hp => exact step_in I hi hp
  | poll k b hs k0 k1 b0 b1 =>
    subst hs
    obtain ⟨k, rfl⟩ : ∃ m : Nat, k = (m : Int) := ⟨k.toNat, by omega⟩
    obtain ⟨b, rfl⟩ : ∃ m : Nat, b = (m : Int) := ⟨b.toNat, by omega⟩
    exact step_poll I hi k b (by omega)
  | unmask k hs k0 k1 =>
    subst hs
    obtain ⟨k, rfl⟩ : ∃ m : Nat, k = (m : Int) := ⟨k.toNat, by omega⟩
    exact step_unmask I hi k (by omega)
  | tick hs =>
    subst hs
    exact step_tick I hi
theorem plain : Plain LI := ⟨fun s pu n wide h1 h2 h3 h4 => li_start s pu n wide h1 h2 h3 h4, li_sized, fun i st s1 d hi h a => li_step i st s1 d hi h a⟩
end
end CR
/-! CrEnd -/
set_option maxHeartbeats 4000000
namespace CR
open PySem PySem.Spec L2
open PyProof.Rows hiding St
/-! ### what the head says, for each def -/
section
variable {K : PySem.W.Frag} {C : Addr}
theorem rgB_ok {mg : Str → Option Value} (g : mg "RingError" = some (.ref C)) (h : rgB K C = true) : RgT K mg C := by
  unfold rgB at h
  simp only [Bool.and_eq_true, decide_eq_true_eq] at h
  obtain ⟨h1, h2, h3⟩ := h
  refine ⟨g, h1, h2, ?_⟩
  split at h3
  · rename_i n q
    rw [q, of_decide_eq_true h3]
  · cases h3
theorem exB_ok {mg : Str → Option Value} {x : Str} (g : mg x = some (.ref (He.ga K x))) (h : exB K x = true) : ExT K mg x (He.ga K x) (He.ma K (He.ga K x) "__init__") := by
  unfold exB at h
  simp only [Bool.and_eq_true, decide_eq_true_eq] at h
  obtain ⟨h1, h2, h3, h4⟩ := h
  exact ⟨oexB_ok h1, g, h2, h3, h4⟩
end
abbrev PR : Program := PySem.Challenge.rw_cardrings_k51_whole_once_in_order.prog
structure Env (K : PySem.W.Frag) (mg : Str → Option Value) (base : Heap) : Prop where
  d : He.SaysD fa fn K
  more : ex K = true
  kin : K.In base
  ns : base.Ns mainGlobals mg
  tb : ∀ p ∈ tf, LamX.TabB base mg (He.cT K p).1 (He.cT K p).2
def t1 : He.Defn := ("with_talk", none)
def t2 : He.Defn := ("_law_done", none)
def TT (K : PySem.W.Frag) : List (Addr × Str) := [((He.cT K t1).2, qWT), ((He.cT K t2).2, qDN)]
theorem FunD.toC {K : PySem.W.Frag} {x qual : Str} {pa : Arguments} {body : List Stmt} {sc : Scope} {kws : List (Str × V)} {p : Str × Option Str} {fd : FuncData} (F : FunD K x qual pa body sc [] kws (He.fAd K p) fd) : FunC K x qual pa body sc [] kws (He.fAd K p) fd (He.codeOf K p) := by
  obtain ⟨oc, od, dV, kV, doc, pm, an, cdv, ct, osl, rfl, lk, hc, _, _⟩ := F.ex
  obtain ⟨c, rfl⟩ := He.codeIn_ref hc
  have e : He.codeOf K p = c := He.codeOf_eq lk rfl
  rw [e]
  exact ⟨oc, od, dV, kV, doc, pm, an, ct, osl, rfl, lk, hc⟩
section
variable {w : World} {K : PySem.W.Frag} {mg : Str → Option Value} {base : Heap}
theorem Env.glo (E : Env K mg base) {x : Str} (i : Nat) (h : fa[i]? = some (.glo x)) : mg x = some (.ref (He.ga K x)) := He.glo_ok E.kin E.ns (E.d.fact i h)
theorem Env.free (E : Env K mg base) {x : Str} (i : Nat) (h : fa[i]? = some (.free x)) : mg x = none := He.free_ok E.kin E.ns (E.d.fact i h)
theorem Env.int (E : Env K mg base) {x : Str} {n : Int} (i : Nat) (h : fa[i]? = some (.int x n)) : ∃ t, mg x = some (.int n t) := He.int_ok E.kin E.ns (E.d.fact i h)
theorem Env.str (E : Env K mg base) {x z : Str} (i : Nat) (h : fa[i]? = some (.str x z)) : ∃ t, mg x = some (.str z t) := He.str_ok E.kin E.ns (E.d.fact i h)
theorem tc (E : Env K mg base) : Tc mg := { n_sum := E.free 73 rfl, n_enumerate := E.free 74 rfl, n_dict := E.free 75 rfl, n_len := E.free 76 rfl, n_tuple := E.free 77 rfl, n_sorted := E.free 78 rfl, n_range := E.free 79 rfl, n_max := E.free 80 rfl, n_isinstance := E.free 81 rfl, n_int := E.free 82 rfl, n_list := E.free 83 rfl, c_LANES := E.int 84 rfl, c_MIXES := E.int 85 rfl, c_SIGNS := E.str 86 rfl, c_SIZE := E.int 87 rfl, c_HALF_AT := E.int 88 rfl, c_LANES_AT := E.int 89 rfl, c_JOININGS_AT := E.int 90 rfl, c_STEERS_AT := E.int 91 rfl, c_PURSE_AT := E.int 92 rfl, c_INWARD_AT := E.int 93 rfl, c_BOX_AT := E.int 94 rfl, c_SINCE_AT := E.int 95 rfl, c_MASKED_AT := E.int 96 rfl, c_CUT := E.int 97 rfl, c_SUMS := E.int 98 rfl, c_MOST := E.int 99 rfl, c_WAIT := E.int 100 rfl }
theorem exAll (E : Env K mg base) : rgB K (He.ga K "RingError") = true ∧ exB K "NoPlace" = true ∧ exB K "NoStep" = true ∧ sdB K = true ∧ exA K = true ∧ exT K = true := by
  have h := E.more
  unfold ex at h
  simpa only [Bool.and_eq_true] using h
theorem rgT (E : Env K mg base) : RgT K mg (He.ga K "RingError") := rgB_ok (E.glo 68 rfl) (exAll E).1
theorem exPlace (E : Env K mg base) : PySem.W.exmOne K (.ref (He.ga K "NoPlace")) (.ref (He.ga K "NoPlace")) = some true := of_decide_eq_true (exAll E).2.2.2.2.1
theorem apart12 (E : Env K mg base) : (He.cT K t1).2 ≠ (He.cT K t2).2 := fun z => by
  have h := (exAll E).2.2.2.2.2
  unfold exT at h
  rw [decide_eq_true (show (He.cT K ("with_talk", none)).2 = (He.cT K ("_law_done", none)).2 from z)] at h
  cases h
theorem pex_NoPlace (E : Env K mg base) : PEx PR w K mg base "NoPlace" (He.ga K "NoPlace") := by
  obtain ⟨fd, F⟩ := E.d.def_ 66 (d := d_NoPlace_init) rfl
  exact ⟨He.ma K (He.ga K "NoPlace") "__init__", fd, exB_ok (E.glo 71 rfl) (exAll E).2.1, ok_ini1 (rgT E) F, FunD.bindsN F fun kV doc pm an cdv ct us hl => match us, hl with | [_, _], _ => rfl⟩
theorem pex_NoStep (E : Env K mg base) : PEx PR w K mg base "NoStep" (He.ga K "NoStep") := by
  obtain ⟨fd, F⟩ := E.d.def_ 67 (d := d_NoStep_init) rfl
  exact ⟨He.ma K (He.ga K "NoStep") "__init__", fd, exB_ok (E.glo 72 rfl) (exAll E).2.2.1, ok_ini2 (rgT E) F, FunD.bindsN F fun kV doc pm an cdv ct us hl => match us, hl with | [_, _], _ => rfl⟩
theorem saidT (E : Env K mg base) : SaidT K mg (He.ga K "NoStep") := by
  have h := (exAll E).2.2.2.1
  have hw := (exAll E).2.2.1
  unfold sdB at h
  unfold exB at hw
  simp only [Bool.and_eq_true, decide_eq_true_eq] at h hw
  obtain ⟨h1, h2, h3, h4, h5, h6, h7, h8⟩ := h
  exact ⟨⟨_, E.glo 66 rfl, h1⟩, excB_ok (xfB_ok h2) h3, xfB_ok h2, hw.2.1, h4, ⟨_, E.glo 67 rfl, h5⟩, ⟨_, E.glo 68 rfl, h6⟩, ⟨_, E.glo 69 rfl, h7⟩, ⟨_, E.glo 70 rfl⟩, E.glo 72 rfl, h8⟩
theorem saidP (E : Env K mg base) : ∃ fd, SaidP K mg (He.ga K "_law_said") fd := by
  obtain ⟨fd, F⟩ := E.d.def_ 53 (d := d__law_said) rfl
  obtain ⟨oc, od, dV, kV, doc, pm, an, cdv, ct, osl, e, lk, hc, _, _⟩ := F.ex
  exact ⟨fd, E.glo 53 rfl, F.kp, ⟨oc, od, dV, kV, doc, pm, an, cdv, ct, osl, e, lk, hc⟩, FunD.bindsN F fun kV doc pm an cdv ct us hl => match us, hl with | [_], _ => rfl⟩
theorem only1 (E : Env K mg base) : ∀ p ∈ TT K, p.1 = (He.cT K t1).2 → p.2 = qWT := fun p hp e => by
  rcases List.mem_cons.mp hp with rfl | hp
  · rfl
  · rw [List.mem_singleton.mp hp] at e
    exact absurd e.symm (apart12 E)
theorem only2 (E : Env K mg base) : ∀ p ∈ TT K, p.1 = (He.cT K t2).2 → p.2 = qDN := fun p hp e => by
  rcases List.mem_cons.mp hp with rfl | hp
  · exact absurd e (apart12 E)
  · rw [List.mem_singleton.mp hp]
theorem f_is_less (E : Env K mg base) : ∃ fd, FnP K mg "is_less" s_is_less (d_is_less.kws K) (He.ga K "is_less") fd := by
  obtain ⟨fd, F⟩ := E.d.def_ 6 (d := d_is_less) rfl
  exact ⟨fd, F, E.glo 6 rfl⟩
theorem f_lesser (E : Env K mg base) : ∃ fd, FnP K mg "lesser" s_lesser (d_lesser.kws K) (He.ga K "lesser") fd := by
  obtain ⟨fd, F⟩ := E.d.def_ 7 (d := d_lesser) rfl
  exact ⟨fd, F, E.glo 7 rfl⟩
theorem f_count_on (E : Env K mg base) : ∃ fd, FnP K mg "count_on" s_count_on (d_count_on.kws K) (He.ga K "count_on") fd := by
  obtain ⟨fd, F⟩ := E.d.def_ 10 (d := d_count_on) rfl
  exact ⟨fd, F, E.glo 10 rfl⟩
theorem f_count_gap (E : Env K mg base) : ∃ fd, FnP K mg "count_gap" s_count_gap (d_count_gap.kws K) (He.ga K "count_gap") fd := by
  obtain ⟨fd, F⟩ := E.d.def_ 11 (d := d_count_gap) rfl
  exact ⟨fd, F, E.glo 11 rfl⟩
theorem f_held_in (E : Env K mg base) : ∃ fd, FnP K mg "held_in" s_held_in (d_held_in.kws K) (He.ga K "held_in") fd := by
  obtain ⟨fd, F⟩ := E.d.def_ 13 (d := d_held_in) rfl
  exact ⟨fd, F, E.glo 13 rfl⟩
theorem f_laid (E : Env K mg base) : ∃ fd, FnP K mg "laid" s_laid (d_laid.kws K) (He.ga K "laid") fd := by
  obtain ⟨fd, F⟩ := E.d.def_ 14 (d := d_laid) rfl
  exact ⟨fd, F, E.glo 14 rfl⟩
theorem f_turned_at (E : Env K mg base) : ∃ fd, FnP K mg "turned_at" s_turned_at (d_turned_at.kws K) (He.ga K "turned_at") fd := by
  obtain ⟨fd, F⟩ := E.d.def_ 19 (d := d_turned_at) rfl
  exact ⟨fd, F, E.glo 19 rfl⟩
theorem f_lane_turned (E : Env K mg base) : ∃ fd, FnP K mg "lane_turned" s_lane_turned (d_lane_turned.kws K) (He.ga K "lane_turned") fd := by
  obtain ⟨fd, F⟩ := E.d.def_ 20 (d := d_lane_turned) rfl
  exact ⟨fd, F, E.glo 20 rfl⟩
theorem f_owns (E : Env K mg base) : ∃ fd, FnP K mg "owns" s_owns (d_owns.kws K) (He.ga K "owns") fd := by
  obtain ⟨fd, F⟩ := E.d.def_ 9 (d := d_owns) rfl
  exact ⟨fd, F, E.glo 9 rfl⟩
theorem f_owns_it (E : Env K mg base) : ∃ fd, FnP K mg "owns_it" s_owns_it (d_owns_it.kws K) (He.ga K "owns_it") fd := by
  obtain ⟨fd, F⟩ := E.d.def_ 23 (d := d_owns_it) rfl
  exact ⟨fd, F, E.glo 23 rfl⟩
theorem f_void_ring (E : Env K mg base) : ∃ fd, FnP K mg "void_ring" s_void_ring (d_void_ring.kws K) (He.ga K "void_ring") fd := by
  obtain ⟨fd, F⟩ := E.d.def_ 12 (d := d_void_ring) rfl
  exact ⟨fd, F, E.glo 12 rfl⟩
theorem f_void_lane (E : Env K mg base) : ∃ fd, FnP K mg "void_lane" s_void_lane (d_void_lane.kws K) (He.ga K "void_lane") fd := by
  obtain ⟨fd, F⟩ := E.d.def_ 17 (d := d_void_lane) rfl
  exact ⟨fd, F, E.glo 17 rfl⟩
theorem f_mix_of (E : Env K mg base) : ∃ fd, FnP K mg "mix_of" s_mix_of (d_mix_of.kws K) (He.ga K "mix_of") fd := by
  obtain ⟨fd, F⟩ := E.d.def_ 0 (d := d_mix_of) rfl
  exact ⟨fd, F, E.glo 0 rfl⟩
theorem f_common (E : Env K mg base) : ∃ fd, FnP K mg "common" s_common (d_common.kws K) (He.ga K "common") fd := by
  obtain ⟨fd, F⟩ := E.d.def_ 2 (d := d_common) rfl
  exact ⟨fd, F, E.glo 2 rfl⟩
theorem f_ratio (E : Env K mg base) : ∃ fd, FnP K mg "ratio" s_ratio (d_ratio.kws K) (He.ga K "ratio") fd := by
  obtain ⟨fd, F⟩ := E.d.def_ 3 (d := d_ratio) rfl
  exact ⟨fd, F, E.glo 3 rfl⟩
theorem f_added (E : Env K mg base) : ∃ fd, FnP K mg "added" s_added (d_added.kws K) (He.ga K "added") fd := by
  obtain ⟨fd, F⟩ := E.d.def_ 4 (d := d_added) rfl
  exact ⟨fd, F, E.glo 4 rfl⟩
theorem f_times (E : Env K mg base) : ∃ fd, FnP K mg "times" s_times (d_times.kws K) (He.ga K "times") fd := by
  obtain ⟨fd, F⟩ := E.d.def_ 5 (d := d_times) rfl
  exact ⟨fd, F, E.glo 5 rfl⟩
theorem f_purse_filled (E : Env K mg base) : ∃ fd, FnP K mg "purse_filled" s_purse_filled (d_purse_filled.kws K) (He.ga K "purse_filled") fd := by
  obtain ⟨fd, F⟩ := E.d.def_ 8 (d := d_purse_filled) rfl
  exact ⟨fd, F, E.glo 8 rfl⟩
theorem f_half_of (E : Env K mg base) : ∃ fd, FnP K mg "half_of" s_half_of (d_half_of.kws K) (He.ga K "half_of") fd := by
  obtain ⟨fd, F⟩ := E.d.def_ 18 (d := d_half_of) rfl
  exact ⟨fd, F, E.glo 18 rfl⟩
theorem f_sum_due (E : Env K mg base) : ∃ fd, FnP K mg "sum_due" s_sum_due (d_sum_due.kws K) (He.ga K "sum_due") fd := by
  obtain ⟨fd, F⟩ := E.d.def_ 24 (d := d_sum_due) rfl
  exact ⟨fd, F, E.glo 24 rfl⟩
theorem f_is_right (E : Env K mg base) : ∃ fd, FnP K mg "is_right" s_is_right (d_is_right.kws K) (He.ga K "is_right") fd := by
  obtain ⟨fd, F⟩ := E.d.def_ 25 (d := d_is_right) rfl
  exact ⟨fd, F, E.glo 25 rfl⟩
theorem f_summed (E : Env K mg base) : ∃ fd, FnP K mg "summed" s_summed (d_summed.kws K) (He.ga K "summed") fd := by
  obtain ⟨fd, F⟩ := E.d.def_ 26 (d := d_summed) rfl
  exact ⟨fd, F, E.glo 26 rfl⟩
theorem f_bent (E : Env K mg base) : ∃ fd, FnP K mg "bent" s_bent (d_bent.kws K) (He.ga K "bent") fd := by
  obtain ⟨fd, F⟩ := E.d.def_ 27 (d := d_bent) rfl
  exact ⟨fd, F, E.glo 27 rfl⟩
theorem f_going_on (E : Env K mg base) : ∃ fd, FnP K mg "going_on" s_going_on (d_going_on.kws K) (He.ga K "going_on") fd := by
  obtain ⟨fd, F⟩ := E.d.def_ 29 (d := d_going_on) rfl
  exact ⟨fd, F, E.glo 29 rfl⟩
theorem f_does_go_on (E : Env K mg base) : ∃ fd, FnP K mg "does_go_on" s_does_go_on (d_does_go_on.kws K) (He.ga K "does_go_on") fd := by
  obtain ⟨fd, F⟩ := E.d.def_ 30 (d := d_does_go_on) rfl
  exact ⟨fd, F, E.glo 30 rfl⟩
theorem f_does_begin (E : Env K mg base) : ∃ fd, FnP K mg "does_begin" s_does_begin (d_does_begin.kws K) (He.ga K "does_begin") fd := by
  obtain ⟨fd, F⟩ := E.d.def_ 31 (d := d_does_begin) rfl
  exact ⟨fd, F, E.glo 31 rfl⟩
theorem f_with_part (E : Env K mg base) : ∃ fd, FnP K mg "with_part" s_with_part (d_with_part.kws K) (He.ga K "with_part") fd := by
  obtain ⟨fd, F⟩ := E.d.def_ 32 (d := d_with_part) rfl
  exact ⟨fd, F, E.glo 32 rfl⟩
theorem f_came_of (E : Env K mg base) : ∃ fd, FnP K mg "came_of" s_came_of (d_came_of.kws K) (He.ga K "came_of") fd := by
  obtain ⟨fd, F⟩ := E.d.def_ 33 (d := d_came_of) rfl
  exact ⟨fd, F, E.glo 33 rfl⟩
theorem f_page_at (E : Env K mg base) : ∃ fd, FnP K mg "page_at" s_page_at (d_page_at.kws K) (He.ga K "page_at") fd := by
  obtain ⟨fd, F⟩ := E.d.def_ 34 (d := d_page_at) rfl
  exact ⟨fd, F, E.glo 34 rfl⟩
theorem f_words_at (E : Env K mg base) : ∃ fd, FnP K mg "words_at" s_words_at (d_words_at.kws K) (He.ga K "words_at") fd := by
  obtain ⟨fd, F⟩ := E.d.def_ 35 (d := d_words_at) rfl
  exact ⟨fd, F, E.glo 35 rfl⟩
theorem f_written (E : Env K mg base) : ∃ fd, FnP K mg "written" s_written (d_written.kws K) (He.ga K "written") fd := by
  obtain ⟨fd, F⟩ := E.d.def_ 36 (d := d_written) rfl
  exact ⟨fd, F, E.glo 36 rfl⟩
theorem f_is_due (E : Env K mg base) : ∃ fd, FnP K mg "is_due" s_is_due (d_is_due.kws K) (He.ga K "is_due") fd := by
  obtain ⟨fd, F⟩ := E.d.def_ 37 (d := d_is_due) rfl
  exact ⟨fd, F, E.glo 37 rfl⟩
theorem f_look_at_lane (E : Env K mg base) : ∃ fd, FnP K mg "look_at_lane" s_look_at_lane (d_look_at_lane.kws K) (He.ga K "look_at_lane") fd := by
  obtain ⟨fd, F⟩ := E.d.def_ 38 (d := d_look_at_lane) rfl
  exact ⟨fd, F, E.glo 38 rfl⟩
theorem f_polled (E : Env K mg base) : ∃ fd, FnP K mg "polled" s_polled (d_polled.kws K) (He.ga K "polled") fd := by
  obtain ⟨fd, F⟩ := E.d.def_ 39 (d := d_polled) rfl
  exact ⟨fd, F, E.glo 39 rfl⟩
theorem f_unmasked (E : Env K mg base) : ∃ fd, FnP K mg "unmasked" s_unmasked (d_unmasked.kws K) (He.ga K "unmasked") fd := by
  obtain ⟨fd, F⟩ := E.d.def_ 40 (d := d_unmasked) rfl
  exact ⟨fd, F, E.glo 40 rfl⟩
theorem f_ticked (E : Env K mg base) : ∃ fd, FnP K mg "ticked" s_ticked (d_ticked.kws K) (He.ga K "ticked") fd := by
  obtain ⟨fd, F⟩ := E.d.def_ 41 (d := d_ticked) rfl
  exact ⟨fd, F, E.glo 41 rfl⟩
theorem f_boxed (E : Env K mg base) : ∃ fd, FnP K mg "boxed" s_boxed (d_boxed.kws K) (He.ga K "boxed") fd := by
  obtain ⟨fd, F⟩ := E.d.def_ 43 (d := d_boxed) rfl
  exact ⟨fd, F, E.glo 43 rfl⟩
theorem f_why_not (E : Env K mg base) : ∃ fd, FnP K mg "why_not" s_why_not (d_why_not.kws K) (He.ga K "why_not") fd := by
  obtain ⟨fd, F⟩ := E.d.def_ 44 (d := d_why_not) rfl
  exact ⟨fd, F, E.glo 44 rfl⟩
theorem f_by_talk (E : Env K mg base) : ∃ fd, FnP K mg "by_talk" s_by_talk (d_by_talk.kws K) (He.ga K "by_talk") fd := by
  obtain ⟨fd, F⟩ := E.d.def_ 21 (d := d_by_talk) rfl
  exact ⟨fd, F, E.glo 21 rfl⟩
theorem f_lane_of (E : Env K mg base) : ∃ fd, FnP K mg "lane_of" s_lane_of (d_lane_of.kws K) (He.ga K "lane_of") fd := by
  obtain ⟨fd, F⟩ := E.d.def_ 1 (d := d_lane_of) rfl
  exact ⟨fd, F, E.glo 1 rfl⟩
theorem f_put_in (E : Env K mg base) : ∃ fd, FnP K mg "put_in" s_put_in (d_put_in.kws K) (He.ga K "put_in") fd := by
  obtain ⟨fd, F⟩ := E.d.def_ 15 (d := d_put_in) rfl
  exact ⟨fd, F, E.glo 15 rfl⟩
theorem f_take_out (E : Env K mg base) : ∃ fd, FnP K mg "take_out" s_take_out (d_take_out.kws K) (He.ga K "take_out") fd := by
  obtain ⟨fd, F⟩ := E.d.def_ 16 (d := d_take_out) rfl
  exact ⟨fd, F, E.glo 16 rfl⟩
theorem f_oldest_posted (E : Env K mg base) : ∃ fd, FnP K mg "oldest_posted" s_oldest_posted (d_oldest_posted.kws K) (He.ga K "oldest_posted") fd := by
  obtain ⟨fd, F⟩ := E.d.def_ 42 (d := d_oldest_posted) rfl
  exact ⟨fd, F, E.glo 42 rfl⟩
theorem f_put_or_full (E : Env K mg base) : ∃ fd, FnP K mg "put_or_full" s_put_or_full (d_put_or_full.kws K) (He.ga K "put_or_full") fd := by
  obtain ⟨fd, F⟩ := E.d.def_ 47 (d := d_put_or_full) rfl
  exact ⟨fd, F, E.glo 47 rfl⟩
theorem f_posts (E : Env K mg base) : ∃ fd, FnP K mg "posts" s_posts (d_posts.kws K) (He.ga K "posts") fd := by
  obtain ⟨fd, F⟩ := E.d.def_ 48 (d := d_posts) rfl
  exact ⟨fd, F, E.glo 48 rfl⟩
theorem f_with_talk (E : Env K mg base) : ∃ fd, FnP K mg "with_talk" s_with_talk (d_with_talk.kws K) (He.ga K "with_talk") fd := by
  obtain ⟨fd, F⟩ := E.d.def_ 22 (d := d_with_talk) rfl
  exact ⟨fd, F, E.glo 22 rfl⟩
theorem f_takes_whole (E : Env K mg base) : ∃ fd, FnP K mg "takes_whole" s_takes_whole (d_takes_whole.kws K) (He.ga K "takes_whole") fd := by
  obtain ⟨fd, F⟩ := E.d.def_ 45 (d := d_takes_whole) rfl
  exact ⟨fd, F, E.glo 45 rfl⟩
theorem f_comes_in (E : Env K mg base) : ∃ fd, FnP K mg "comes_in" s_comes_in (d_comes_in.kws K) (He.ga K "comes_in") fd := by
  obtain ⟨fd, F⟩ := E.d.def_ 46 (d := d_comes_in) rfl
  exact ⟨fd, F, E.glo 46 rfl⟩
theorem f_pieces_of (E : Env K mg base) : ∃ fd, FnP K mg "pieces_of" s_pieces_of (d_pieces_of.kws K) (He.ga K "pieces_of") fd := by
  obtain ⟨fd, F⟩ := E.d.def_ 28 (d := d_pieces_of) rfl
  exact ⟨fd, F, E.glo 28 rfl⟩
theorem f__law_draw (E : Env K mg base) : ∃ fd, FnP K mg "_law_draw" s__law_draw (d__law_draw.kws K) (He.ga K "_law_draw") fd := by
  obtain ⟨fd, F⟩ := E.d.def_ 50 (d := d__law_draw) rfl
  exact ⟨fd, F, E.glo 50 rfl⟩
theorem f__law_stretch (E : Env K mg base) : ∃ fd, FnP K mg "_law_stretch" s__law_stretch (d__law_stretch.kws K) (He.ga K "_law_stretch") fd := by
  obtain ⟨fd, F⟩ := E.d.def_ 54 (d := d__law_stretch) rfl
  exact ⟨fd, F, E.glo 54 rfl⟩
theorem f__law_some (E : Env K mg base) : ∃ fd, FnP K mg "_law_some" s__law_some (d__law_some.kws K) (He.ga K "_law_some") fd := by
  obtain ⟨fd, F⟩ := E.d.def_ 55 (d := d__law_some) rfl
  exact ⟨fd, F, E.glo 55 rfl⟩
theorem f__law_lane (E : Env K mg base) : ∃ fd, FnP K mg "_law_lane" s__law_lane (d__law_lane.kws K) (He.ga K "_law_lane") fd := by
  obtain ⟨fd, F⟩ := E.d.def_ 51 (d := d__law_lane) rfl
  exact ⟨fd, F, E.glo 51 rfl⟩
theorem f__law_world (E : Env K mg base) : ∃ fd, FnP K mg "_law_world" s__law_world (d__law_world.kws K) (He.ga K "_law_world") fd := by
  obtain ⟨fd, F⟩ := E.d.def_ 52 (d := d__law_world) rfl
  exact ⟨fd, F, E.glo 52 rfl⟩
theorem f__law_feed (E : Env K mg base) : ∃ fd, FnP K mg "_law_feed" s__law_feed (d__law_feed.kws K) (He.ga K "_law_feed") fd := by
  obtain ⟨fd, F⟩ := E.d.def_ 49 (d := d__law_feed) rfl
  exact ⟨fd, F, E.glo 49 rfl⟩
theorem f__law_drawn (E : Env K mg base) : ∃ fd, FnP K mg "_law_drawn" s__law_drawn (d__law_drawn.kws K) (He.ga K "_law_drawn") fd := by
  obtain ⟨fd, F⟩ := E.d.def_ 56 (d := d__law_drawn) rfl
  exact ⟨fd, F, E.glo 56 rfl⟩
theorem f__law_value (E : Env K mg base) : ∃ fd, FnP K mg "_law_value" s__law_value (d__law_value.kws K) (He.ga K "_law_value") fd := by
  obtain ⟨fd, F⟩ := E.d.def_ 61 (d := d__law_value) rfl
  exact ⟨fd, F, E.glo 61 rfl⟩
theorem f__law_by_program (E : Env K mg base) : ∃ fd, FnP K mg "_law_by_program" s__law_by_program (d__law_by_program.kws K) (He.ga K "_law_by_program") fd := by
  obtain ⟨fd, F⟩ := E.d.def_ 62 (d := d__law_by_program) rfl
  exact ⟨fd, F, E.glo 62 rfl⟩
theorem f__law_letter (E : Env K mg base) : ∃ fd, FnP K mg "_law_letter" s__law_letter (d__law_letter.kws K) (He.ga K "_law_letter") fd := by
  obtain ⟨fd, F⟩ := E.d.def_ 57 (d := d__law_letter) rfl
  exact ⟨fd, F, E.glo 57 rfl⟩
theorem f__law_piece (E : Env K mg base) : ∃ fd, FnP K mg "_law_piece" s__law_piece (d__law_piece.kws K) (He.ga K "_law_piece") fd := by
  obtain ⟨fd, F⟩ := E.d.def_ 58 (d := d__law_piece) rfl
  exact ⟨fd, F, E.glo 58 rfl⟩
theorem f__law_act (E : Env K mg base) : ∃ fd, FnP K mg "_law_act" s__law_act (d__law_act.kws K) (He.ga K "_law_act") fd := by
  obtain ⟨fd, F⟩ := E.d.def_ 60 (d := d__law_act) rfl
  exact ⟨fd, F, E.glo 60 rfl⟩
theorem f__law_program (E : Env K mg base) : ∃ fd, FnP K mg "_law_program" s__law_program (d__law_program.kws K) (He.ga K "_law_program") fd := by
  obtain ⟨fd, F⟩ := E.d.def_ 59 (d := d__law_program) rfl
  exact ⟨fd, F, E.glo 59 rfl⟩
theorem f__law_done (E : Env K mg base) : ∃ fd, FnP K mg "_law_done" s__law_done (d__law_done.kws K) (He.ga K "_law_done") fd := by
  obtain ⟨fd, F⟩ := E.d.def_ 63 (d := d__law_done) rfl
  exact ⟨fd, F, E.glo 63 rfl⟩
theorem f__law_is_filled (E : Env K mg base) : ∃ fd, FnP K mg "_law_is_filled" s__law_is_filled (d__law_is_filled.kws K) (He.ga K "_law_is_filled") fd := by
  obtain ⟨fd, F⟩ := E.d.def_ 64 (d := d__law_is_filled) rfl
  exact ⟨fd, F, E.glo 64 rfl⟩
theorem f_law (E : Env K mg base) : ∃ fd, FnP K mg "law" s_law (d_law.kws K) (He.ga K "law") fd := by
  obtain ⟨fd, F⟩ := E.d.def_ 65 (d := d_law) rfl
  exact ⟨fd, F, E.glo 65 rfl⟩
theorem p__law_feed (E : Env K mg base) : PLn PR w K mg base 1 "_law_feed" (spFeed K (TT K)) := by
  obtain ⟨fd, Fd⟩ := f__law_feed E
  exact ⟨_, fd, _, ok_law_feed (tc E) Fd, Fd.2, Fd.1.kp, FunD.bindsN Fd.1 (fun kV doc pm an cdv ct us hl => match us, hl with | [_], _ => rfl)⟩
theorem p__law_draw (E : Env K mg base) : PLn PR w K mg base 1 "_law_draw" (spDraw (TT K)) := by
  obtain ⟨fd, Fd⟩ := f__law_draw E
  exact ⟨_, fd, _, ok_law_draw (tc E) Fd, Fd.2, Fd.1.kp, FunD.bindsN Fd.1 (fun kV doc pm an cdv ct us hl => match us, hl with | [_, _], _ => rfl)⟩
theorem p_void_ring (E : Env K mg base) : PFn PR w K mg base (TT K) 1 "void_ring" 1 [] m_void_ring := by
  obtain ⟨fd, Fd⟩ := f_void_ring E
  exact pfn_of Fd (ok_void_ring (tc E) Fd) (fun kV doc pm an cdv ct us hl => match us, hl with | [_], _ => rfl)
theorem p__law_lane (E : Env K mg base) : PLn PR w K mg base 2 "_law_lane" (spLane (TT K)) := by
  obtain ⟨fd, Fd⟩ := f__law_lane E
  exact ⟨_, fd, _, ok_law_lane (p_void_ring E) Fd, Fd.2, Fd.1.kp, FunD.bindsN Fd.1 (fun kV doc pm an cdv ct us hl => match us, hl with | [_], _ => rfl)⟩
theorem p__law_world (E : Env K mg base) : PLn PR w K mg base 3 "_law_world" (spWorld PR w (TT K)) := by
  obtain ⟨fd, Fd⟩ := f__law_world E
  exact ⟨_, fd, _, ok_law_world (tc E) (p__law_lane E) Fd, Fd.2, Fd.1.kp, FunD.bindsN Fd.1 (fun kV doc pm an cdv ct us hl => match us, hl with | [_, _, _, _, _], _ => rfl)⟩
theorem p__law_drawn (E : Env K mg base) : PLn PR w K mg base 4 "_law_drawn" (spDrawn PR w (TT K)) := by
  obtain ⟨fd, Fd⟩ := f__law_drawn E
  exact ⟨_, fd, _, ok_law_drawn (tc E) (p__law_draw E) (p__law_world E) Fd, Fd.2, Fd.1.kp, FunD.bindsN Fd.1 (fun kV doc pm an cdv ct us hl => match us, hl with | [_], _ => rfl)⟩
theorem p_void_lane (E : Env K mg base) : PFn PR w K mg base (TT K) 2 "void_lane" 1 [] m_void_lane := by
  obtain ⟨fd, Fd⟩ := f_void_lane E
  exact pfn_of Fd (ok_void_lane (tc E) (p_void_ring E) Fd) (fun kV doc pm an cdv ct us hl => match us, hl with | [_], _ => rfl)
theorem p_half_of (E : Env K mg base) : PFk PR w K mg base (TT K) 3 "half_of" 1 ["purse", "lanes", "size"] m_half_of := by
  obtain ⟨fd, Fd⟩ := f_half_of E
  exact pfk_of Fd (ok_half_of (tc E) (p_void_lane E) Fd) (fun kV doc pm an cdv ct us ws h1 h2 => match us, ws, h1, h2 with | [_], [_, _, _], _, _ => rfl)
theorem p__law_by_program (E : Env K mg base) : PLn PR w K mg base 5 "_law_by_program" (spByProgram PR w (TT K)) := by
  obtain ⟨fd, Fd⟩ := f__law_by_program E
  exact ⟨_, fd, _, ok_law_by_program (tc E) (p__law_drawn E) (p_half_of E) Fd, Fd.2, Fd.1.kp, FunD.bindsN Fd.1 (fun kV doc pm an cdv ct us hl => match us, hl with | [_], _ => rfl)⟩
theorem p__law_stretch (E : Env K mg base) : PLn PR w K mg base 2 "_law_stretch" (spStretch (TT K)) := by
  obtain ⟨fd, Fd⟩ := f__law_stretch E
  exact ⟨_, fd, _, ok_law_stretch (p__law_draw E) Fd, Fd.2, Fd.1.kp, FunD.bindsN Fd.1 (fun kV doc pm an cdv ct us hl => match us, hl with | [_], _ => rfl)⟩
theorem p__law_some (E : Env K mg base) : PLn PR w K mg base 2 "_law_some" (spSome (TT K)) := by
  obtain ⟨fd, Fd⟩ := f__law_some E
  exact ⟨_, fd, _, ok_law_some (tc E) (p__law_draw E) Fd, Fd.2, Fd.1.kp, FunD.bindsN Fd.1 (fun kV doc pm an cdv ct us hl => match us, hl with | [_, _], _ => rfl)⟩
theorem p_sum_due (E : Env K mg base) : PFn PR w K mg base (TT K) 1 "sum_due" 1 [] m_sum_due := by
  obtain ⟨fd, Fd⟩ := f_sum_due E
  exact pfn_of Fd (ok_sum_due (tc E) Fd) (fun kV doc pm an cdv ct us hl => match us, hl with | [_], _ => rfl)
theorem p_summed (E : Env K mg base) : PFn PR w K mg base (TT K) 2 "summed" 1 [] m_summed := by
  obtain ⟨fd, Fd⟩ := f_summed E
  exact pfn_of Fd (ok_summed (tc E) (p_sum_due E) Fd) (fun kV doc pm an cdv ct us hl => match us, hl with | [_], _ => rfl)
theorem p_pieces_of (E : Env K mg base) : PFk PR w K mg base (TT K) 3 "pieces_of" 1 ["epoch", "cut"] m_pieces_of := by
  obtain ⟨fd, Fd⟩ := f_pieces_of E
  exact pfk_of Fd (ok_pieces_of (tc E) (p_summed E) Fd) (fun kV doc pm an cdv ct us ws h1 h2 => match us, ws, h1, h2 with | [_], [_, _], _, _ => rfl)
theorem p__law_letter (E : Env K mg base) : PLn PR w K mg base 4 "_law_letter" (spLetter PR w (TT K)) := by
  obtain ⟨fd, Fd⟩ := f__law_letter E
  exact ⟨_, fd, _, ok_law_letter hasPieces (tc E) (p__law_draw E) (p__law_some E) (p_pieces_of E) Fd, Fd.2, Fd.1.kp, FunD.bindsN Fd.1 (fun kV doc pm an cdv ct us hl => match us, hl with | [_, _], _ => rfl)⟩
theorem p_bent (E : Env K mg base) : PFk PR w K mg base (TT K) 1 "bent" 1 ["word"] m_bent := by
  obtain ⟨fd, Fd⟩ := f_bent E
  exact pfk_of Fd (ok_bent (tc E) Fd) (fun kV doc pm an cdv ct us ws h1 h2 => match us, ws, h1, h2 with | [_], [_], _, _ => rfl)
theorem p__law_piece (E : Env K mg base) : PLn PR w K mg base 5 "_law_piece" (spPiece PR w (TT K)) := by
  obtain ⟨fd, Fd⟩ := f__law_piece E
  exact ⟨_, fd, _, ok_law_piece (p__law_draw E) (p__law_letter E) (p_bent E) Fd, Fd.2, Fd.1.kp, FunD.bindsN Fd.1 (fun kV doc pm an cdv ct us hl => match us, hl with | [_, _], _ => rfl)⟩
theorem p__law_act (E : Env K mg base) : PLn PR w K mg base 6 "_law_act" (spAct PR w (TT K)) := by
  obtain ⟨fd, Fd⟩ := f__law_act E
  exact ⟨_, fd, _, ok_law_act (tc E) (p__law_draw E) (p__law_stretch E) (p__law_piece E) Fd, Fd.2, Fd.1.kp, FunD.bindsN Fd.1 (fun kV doc pm an cdv ct us hl => match us, hl with | [_, _, _], _ => rfl)⟩
theorem p__law_value (E : Env K mg base) : PLn PR w K mg base 1 "_law_value" (spValue PR w (TT K)) := by
  obtain ⟨fd, Fd⟩ := f__law_value E
  exact ⟨_, fd, _, ok_law_value Fd, Fd.2, Fd.1.kp, FunD.bindsN Fd.1 (fun kV doc pm an cdv ct us hl => match us, hl with | [_], _ => rfl)⟩
theorem p_count_gap (E : Env K mg base) : PFn PR w K mg base (TT K) 1 "count_gap" 3 [] m_count_gap := by
  obtain ⟨fd, Fd⟩ := f_count_gap E
  exact pfn_of Fd (ok_count_gap (tc E) Fd) (fun kV doc pm an cdv ct us hl => match us, hl with | [_, _, _], _ => rfl)
theorem p_held_in (E : Env K mg base) : PFn PR w K mg base (TT K) 2 "held_in" 1 [] m_held_in := by
  obtain ⟨fd, Fd⟩ := f_held_in E
  exact pfn_of Fd (ok_held_in (tc E) (p_count_gap E) Fd) (fun kV doc pm an cdv ct us hl => match us, hl with | [_], _ => rfl)
theorem p_laid (E : Env K mg base) : PFn PR w K mg base (TT K) 1 "laid" 3 [] m_laid := by
  obtain ⟨fd, Fd⟩ := f_laid E
  exact pfn_of Fd (ok_laid (tc E) Fd) (fun kV doc pm an cdv ct us hl => match us, hl with | [_, _, _], _ => rfl)
theorem p_count_on (E : Env K mg base) : PFn PR w K mg base (TT K) 1 "count_on" 3 [.int 1] m_count_on := by
  obtain ⟨fd, Fd⟩ := f_count_on E
  exact pfd_of Fd (ok_count_on (tc E) Fd) rfl (fun D doc pm an cdv ct us ks h1 h2 => match us, ks, h1, h2 with | [_, _], [_], _, _ => ⟨_, _, _, _, _, _, rfl, rfl, rfl⟩)
theorem p_put_in (E : Env K mg base) : PFx PR w K mg base (TT K) 3 "put_in" 2 (He.ga K "NoPlace") "full" m_put_in := by
  obtain ⟨fd, Fd⟩ := f_put_in E
  exact ⟨_, fd, _, ok_put_in (tc E) (p_held_in E) (p_laid E) (p_count_on E) (pex_NoPlace E) Fd, Fd.2, Fd.1.kp, FunD.bindsN Fd.1 (fun kV doc pm an cdv ct us hl => match us, hl with | [_, _], _ => rfl)⟩
theorem p_put_or_full (E : Env K mg base) : PFx PR w K mg base (TT K) 4 "put_or_full" 2 (He.ga K "NoStep") "full" m_put_or_full := by
  obtain ⟨fd, Fd⟩ := f_put_or_full E
  exact ⟨_, fd, _, ok_put_or_full (tc E) (p_put_in E) (pex_NoStep E) (E.glo 71 rfl) (exPlace E) Fd, Fd.2, Fd.1.kp, FunD.bindsN Fd.1 (fun kV doc pm an cdv ct us hl => match us, hl with | [_, _], _ => rfl)⟩
theorem p_turned_at (E : Env K mg base) : PFn PR w K mg base (TT K) 1 "turned_at" 3 [] m_turned_at := by
  obtain ⟨fd, Fd⟩ := f_turned_at E
  exact pfn_of Fd (ok_turned_at (tc E) Fd) (fun kV doc pm an cdv ct us hl => match us, hl with | [_, _, _], _ => rfl)
theorem p_lane_turned (E : Env K mg base) : PFn PR w K mg base (TT K) 2 "lane_turned" 4 [] m_lane_turned := by
  obtain ⟨fd, Fd⟩ := f_lane_turned E
  exact pfn_of Fd (ok_lane_turned (tc E) (p_turned_at E) Fd) (fun kV doc pm an cdv ct us hl => match us, hl with | [_, _, _, _], _ => rfl)
theorem p_posts (E : Env K mg base) : PFx PR w K mg base (TT K) 5 "posts" 4 (He.ga K "NoStep") "full" m_posts := by
  obtain ⟨fd, Fd⟩ := f_posts E
  exact ⟨_, fd, _, ok_posts (tc E) (p_put_or_full E) (p_lane_turned E) Fd, Fd.2, Fd.1.kp, FunD.bindsN Fd.1 (fun kV doc pm an cdv ct us hl => match us, hl with | [_, _, _, _], _ => rfl)⟩
theorem p_page_at (E : Env K mg base) : PFn PR w K mg base (TT K) 1 "page_at" 2 [] m_page_at := by
  obtain ⟨fd, Fd⟩ := f_page_at E
  exact pfn_of Fd (ok_page_at (tc E) Fd) (fun kV doc pm an cdv ct us hl => match us, hl with | [_, _], _ => rfl)
theorem p_written (E : Env K mg base) : PFn PR w K mg base (TT K) 2 "written" 3 [] m_written := by
  obtain ⟨fd, Fd⟩ := f_written E
  exact pfn_of Fd (ok_written (tc E) (p_page_at E) Fd) (fun kV doc pm an cdv ct us hl => match us, hl with | [_, _, _], _ => rfl)
theorem p_is_due (E : Env K mg base) : PFn PR w K mg base (TT K) 1 "is_due" 3 [] m_is_due := by
  obtain ⟨fd, Fd⟩ := f_is_due E
  exact pfn_of Fd (ok_is_due (tc E) Fd) (fun kV doc pm an cdv ct us hl => match us, hl with | [_, _, _], _ => rfl)
theorem p_look_at_lane (E : Env K mg base) : PFn PR w K mg base (TT K) 3 "look_at_lane" 4 [] m_look_at_lane := by
  obtain ⟨fd, Fd⟩ := f_look_at_lane E
  exact pfn_of Fd (ok_look_at_lane (tc E) (p_lane_turned E) (p_is_due E) Fd) (fun kV doc pm an cdv ct us hl => match us, hl with | [_, _, _, _], _ => rfl)
theorem p_boxed (E : Env K mg base) : PFn PR w K mg base (TT K) 3 "boxed" 4 [] m_boxed := by
  obtain ⟨fd, Fd⟩ := f_boxed E
  exact pfn_of Fd (ok_boxed (tc E) (p_lane_turned E) Fd) (fun kV doc pm an cdv ct us hl => match us, hl with | [_, _, _, _], _ => rfl)
theorem p_owns (E : Env K mg base) : PFn PR w K mg base (TT K) 1 "owns" 3 [] m_owns := by
  obtain ⟨fd, Fd⟩ := f_owns E
  exact pfn_of Fd (ok_owns (tc E) Fd) (fun kV doc pm an cdv ct us hl => match us, hl with | [_, _, _], _ => rfl)
theorem p_owns_it (E : Env K mg base) : PFn PR w K mg base (TT K) 2 "owns_it" 3 [] m_owns_it := by
  obtain ⟨fd, Fd⟩ := f_owns_it E
  exact pfn_of Fd (ok_owns_it (tc E) (p_owns E) Fd) (fun kV doc pm an cdv ct us hl => match us, hl with | [_, _, _], _ => rfl)
theorem p_why_not (E : Env K mg base) : PFn PR w K mg base (TT K) 3 "why_not" 4 [] m_why_not := by
  obtain ⟨fd, Fd⟩ := f_why_not E
  exact pfn_of Fd (ok_why_not (tc E) (p_owns_it E) Fd) (fun kV doc pm an cdv ct us hl => match us, hl with | [_, _, _, _], _ => rfl)
theorem p_take_out (E : Env K mg base) : PFx PR w K mg base (TT K) 3 "take_out" 1 (He.ga K "NoPlace") "void" m_take_out := by
  obtain ⟨fd, Fd⟩ := f_take_out E
  exact ⟨_, fd, _, ok_take_out (tc E) (p_held_in E) (p_laid E) (p_count_on E) (pex_NoPlace E) Fd, Fd.2, Fd.1.kp, FunD.bindsN Fd.1 (fun kV doc pm an cdv ct us hl => match us, hl with | [_], _ => rfl)⟩
theorem p_oldest_posted (E : Env K mg base) : PFn PR w K mg base (TT K) 4 "oldest_posted" 2 [] m_oldest_posted := by
  obtain ⟨fd, Fd⟩ := f_oldest_posted E
  exact pfn_of Fd (ok_oldest_posted (tc E) (p_lane_turned E) (p_take_out E) (E.glo 71 rfl) (exPlace E) Fd) (fun kV doc pm an cdv ct us hl => match us, hl with | [_, _], _ => rfl)
theorem p_mix_of (E : Env K mg base) : PFn PR w K mg base (TT K) 1 "mix_of" 1 [] m_mix_of := by
  obtain ⟨fd, Fd⟩ := f_mix_of E
  exact pfn_of Fd (ok_mix_of (tc E) Fd) (fun kV doc pm an cdv ct us hl => match us, hl with | [_], _ => rfl)
theorem p_lane_of (E : Env K mg base) : PFk PR w K mg base (TT K) 2 "lane_of" 2 ["lanes"] m_lane_of := by
  obtain ⟨fd, Fd⟩ := f_lane_of E
  exact pfk_of Fd (ok_lane_of (tc E) (p_mix_of E) Fd) (fun kV doc pm an cdv ct us ws h1 h2 => match us, ws, h1, h2 with | [_, _], [_], _, _ => rfl)
theorem p_takes_whole (E : Env K mg base) : PFn PR w K mg base (TT K) 5 "takes_whole" 5 [] m_takes_whole := by
  obtain ⟨fd, Fd⟩ := f_takes_whole E
  exact pfn_of Fd (ok_takes_whole (tc E) (p_written E) (p_look_at_lane E) (p_boxed E) (p_why_not E) (p_oldest_posted E) (p_lane_of E) Fd) (fun kV doc pm an cdv ct us hl => match us, hl with | [_, _, _, _, _], _ => rfl)
theorem p_with_talk (E : Env K mg base) : PFn PR w K mg base (TT K) 1 "with_talk" 3 [] m_with_talk := by
  obtain ⟨fd, Fd⟩ := f_with_talk E
  exact pfn_of Fd (ok_with_talk (tc E) (FunD.toC (p := ("with_talk", none)) Fd.1) (E.tb t1 (by simp [tf, t1])) (by simp [TT]) (only1 E)) (fun kV doc pm an cdv ct us hl => match us, hl with | [_, _, _], _ => rfl)
theorem p_by_talk (E : Env K mg base) : PFn PR w K mg base (TT K) 1 "by_talk" 3 [] m_by_talk := by
  obtain ⟨fd, Fd⟩ := f_by_talk E
  exact pfn_of Fd (ok_by_talk (tc E) Fd) (fun kV doc pm an cdv ct us hl => match us, hl with | [_, _, _], _ => rfl)
theorem p_does_begin (E : Env K mg base) : PFn PR w K mg base (TT K) 1 "does_begin" 2 [] m_does_begin := by
  obtain ⟨fd, Fd⟩ := f_does_begin E
  exact pfn_of Fd (ok_does_begin (tc E) Fd) (fun kV doc pm an cdv ct us hl => match us, hl with | [_, _], _ => rfl)
theorem p_going_on (E : Env K mg base) : PFn PR w K mg base (TT K) 1 "going_on" 1 [] m_going_on := by
  obtain ⟨fd, Fd⟩ := f_going_on E
  exact pfn_of Fd (ok_going_on (tc E) Fd) (fun kV doc pm an cdv ct us hl => match us, hl with | [_], _ => rfl)
theorem p_with_part (E : Env K mg base) : PFn PR w K mg base (TT K) 1 "with_part" 3 [] m_with_part := by
  obtain ⟨fd, Fd⟩ := f_with_part E
  exact pfn_of Fd (ok_with_part (tc E) Fd) (fun kV doc pm an cdv ct us hl => match us, hl with | [_, _, _], _ => rfl)
theorem p_does_go_on (E : Env K mg base) : PFn PR w K mg base (TT K) 2 "does_go_on" 2 [] m_does_go_on := by
  obtain ⟨fd, Fd⟩ := f_does_go_on E
  exact pfn_of Fd (ok_does_go_on (tc E) (p_going_on E) Fd) (fun kV doc pm an cdv ct us hl => match us, hl with | [_, _], _ => rfl)
theorem p_is_right (E : Env K mg base) : PFn PR w K mg base (TT K) 2 "is_right" 1 [] m_is_right := by
  obtain ⟨fd, Fd⟩ := f_is_right E
  exact pfn_of Fd (ok_is_right (tc E) (p_sum_due E) Fd) (fun kV doc pm an cdv ct us hl => match us, hl with | [_], _ => rfl)
theorem p_came_of (E : Env K mg base) : PFn PR w K mg base (TT K) 3 "came_of" 2 [] m_came_of := by
  obtain ⟨fd, Fd⟩ := f_came_of E
  exact pfn_of Fd (ok_came_of (tc E) (p_does_begin E) (p_going_on E) (p_with_part E) (p_does_go_on E) (p_is_right E) Fd) (fun kV doc pm an cdv ct us hl => match us, hl with | [_, _], _ => rfl)
theorem p_comes_in (E : Env K mg base) : PFk PR w K mg base (TT K) 6 "comes_in" 4 ["clock", "most", "wait"] m_comes_in := by
  obtain ⟨fd, Fd⟩ := f_comes_in E
  exact pfk_of Fd (ok_comes_in (tc E) (p_takes_whole E) (p_with_talk E) (p_turned_at E) (p_by_talk E) (p_came_of E) Fd) (fun kV doc pm an cdv ct us ws h1 h2 => match us, ws, h1, h2 with | [_, _, _, _], [_, _, _], _, _ => rfl)
theorem p_words_at (E : Env K mg base) : PFn PR w K mg base (TT K) 2 "words_at" 2 [] m_words_at := by
  obtain ⟨fd, Fd⟩ := f_words_at E
  exact pfn_of Fd (ok_words_at (tc E) (p_page_at E) Fd) (fun kV doc pm an cdv ct us hl => match us, hl with | [_, _], _ => rfl)
theorem p_polled (E : Env K mg base) : PFn PR w K mg base (TT K) 3 "polled" 4 [] m_polled := by
  obtain ⟨fd, Fd⟩ := f_polled E
  exact pfn_of Fd (ok_polled (tc E) (p_words_at E) (p_lane_turned E) Fd) (fun kV doc pm an cdv ct us hl => match us, hl with | [_, _, _, _], _ => rfl)
theorem p_unmasked (E : Env K mg base) : PFk PR w K mg base (TT K) 4 "unmasked" 3 ["clock", "most", "wait"] m_unmasked := by
  obtain ⟨fd, Fd⟩ := f_unmasked E
  exact pfk_of Fd (ok_unmasked (tc E) (p_look_at_lane E) (p_lane_turned E) Fd) (fun kV doc pm an cdv ct us ws h1 h2 => match us, ws, h1, h2 with | [_, _, _], [_, _, _], _, _ => rfl)
theorem p_common (E : Env K mg base) : PFn PR w K mg base (TT K) 1 "common" 2 [] m_common := by
  obtain ⟨fd, Fd⟩ := f_common E
  exact pfn_of Fd (ok_common (tc E) Fd) (fun kV doc pm an cdv ct us hl => match us, hl with | [_, _], _ => rfl)
theorem p_ratio (E : Env K mg base) : PFn PR w K mg base (TT K) 2 "ratio" 2 [] m_ratio := by
  obtain ⟨fd, Fd⟩ := f_ratio E
  exact pfn_of Fd (ok_ratio (tc E) (p_common E) Fd) (fun kV doc pm an cdv ct us hl => match us, hl with | [_, _], _ => rfl)
theorem p_times (E : Env K mg base) : PFn PR w K mg base (TT K) 3 "times" 2 [] m_times := by
  obtain ⟨fd, Fd⟩ := f_times E
  exact pfn_of Fd (ok_times (tc E) (p_ratio E) Fd) (fun kV doc pm an cdv ct us hl => match us, hl with | [_, _], _ => rfl)
theorem p_added (E : Env K mg base) : PFn PR w K mg base (TT K) 3 "added" 2 [] m_added := by
  obtain ⟨fd, Fd⟩ := f_added E
  exact pfn_of Fd (ok_added (tc E) (p_ratio E) Fd) (fun kV doc pm an cdv ct us hl => match us, hl with | [_, _], _ => rfl)
theorem p_is_less (E : Env K mg base) : PFn PR w K mg base (TT K) 1 "is_less" 2 [] m_is_less := by
  obtain ⟨fd, Fd⟩ := f_is_less E
  exact pfn_of Fd (ok_is_less (tc E) Fd) (fun kV doc pm an cdv ct us hl => match us, hl with | [_, _], _ => rfl)
theorem p_lesser (E : Env K mg base) : PFn PR w K mg base (TT K) 2 "lesser" 2 [] m_lesser := by
  obtain ⟨fd, Fd⟩ := f_lesser E
  exact pfn_of Fd (ok_lesser (tc E) (p_is_less E) Fd) (fun kV doc pm an cdv ct us hl => match us, hl with | [_, _], _ => rfl)
theorem p_purse_filled (E : Env K mg base) : PFn PR w K mg base (TT K) 4 "purse_filled" 2 [.int 1] m_purse_filled := by
  obtain ⟨fd, Fd⟩ := f_purse_filled E
  exact pfd_of Fd (ok_purse_filled (tc E) (p_times E) (p_added E) (p_lesser E) Fd) rfl (fun D doc pm an cdv ct us ks h1 h2 => match us, ks, h1, h2 with | [_], [_], _, _ => ⟨_, _, _, _, _, _, rfl, rfl, rfl⟩)
theorem p_ticked (E : Env K mg base) : PFk PR w K mg base (TT K) 5 "ticked" 2 ["clock", "most", "wait"] m_ticked := by
  obtain ⟨fd, Fd⟩ := f_ticked E
  exact pfk_of Fd (ok_ticked (tc E) (p_look_at_lane E) (p_purse_filled E) (p_turned_at E) Fd) (fun kV doc pm an cdv ct us ws h1 h2 => match us, ws, h1, h2 with | [_, _], [_, _, _], _, _ => rfl)
theorem p__law_program (E : Env K mg base) : PRn PR w K mg base 7 "_law_program" (spProgram PR w (TT K) (He.ga K "NoStep")) := by
  obtain ⟨fd, Fd⟩ := f__law_program E
  exact ⟨_, fd, _, ok_law_program (tc E) (p__law_value E) (p_posts E) (p_comes_in E) (p_polled E) (p_unmasked E) (p_ticked E) Fd, Fd.2, Fd.1.kp, FunD.bindsN Fd.1 (fun kV doc pm an cdv ct us hl => match us, hl with | [_, _], _ => rfl)⟩
theorem p__law_done (E : Env K mg base) : PLn PR w K mg base 10 "_law_done" (spDone PR w (TT K)) := by
  obtain ⟨fd, Fd⟩ := f__law_done E
  obtain ⟨fg, G⟩ := saidP E
  exact ⟨_, fd, _, ok_law_done (tc E) (saidT E) G (p__law_program E) (FunD.toC (p := ("_law_done", none)) Fd.1) (E.tb t2 (by simp [tf, t2])) (by simp [TT]) (only2 E), Fd.2, Fd.1.kp, FunD.bindsN Fd.1 (fun kV doc pm an cdv ct us hl => match us, hl with | [_, _], _ => rfl)⟩
theorem p__law_is_filled (E : Env K mg base) : PLn PR w K mg base 3 "_law_is_filled" (spFilled PR w (TT K)) := by
  obtain ⟨fd, Fd⟩ := f__law_is_filled E
  exact ⟨_, fd, _, ok_law_is_filled (tc E) (p_words_at E) Fd, Fd.2, Fd.1.kp, FunD.bindsN Fd.1 (fun kV doc pm an cdv ct us hl => match us, hl with | [_, _, _, _], _ => rfl)⟩
theorem q_law (E : Env K mg base) {fd : FuncData} (Fd : FnP K mg "law" s_law (d_law.kws K) (He.ga K "law") fd) : FnOk PR w K mg base L2.CX0 11 (He.ga K "law") fd ["_law_script"] (spLaw K (TT K)) := ok_law (tc E) (p__law_feed E) (p__law_by_program E) (p__law_act E) (p__law_done E) (p__law_is_filled E) plain Fd
end
end CR
/-! CrFin -/
set_option maxHeartbeats 4000000
namespace CR
open PySem PySem.Spec L2
open PyProof.Rows hiding St
/-! ### the law at the head's heap -/
theorem law_at {w : World} {K : PySem.W.Frag} {mg : Str → Option Value} {a0 : Addr} {h : Heap} (KX : K.In h) (c : He.SaysX fa fn [] tf ex w h K) (G : h.Ns mainGlobals mg) (hmg : mg "law" = some (.ref a0)) : LamX.LawAtS PySem.Challenge.rw_cardrings_k51_whole_once_in_order w K L2.CX0 11 63 "_law_script" mg a0 h := by
  have g : mg "law" = some (.ref (He.ga K "law")) := He.glo_ok KX G (c.t.d.fact 65 (f := .glo "law") rfl)
  have e : He.ga K "law" = a0 := by
    have := g.symm.trans hmg
    injection this with this
    injection this
  subst e
  obtain ⟨fd, F⟩ := c.t.d.defs (d := d_law) (by simp [fn, fnA, fnB])
  have b := FunD.bindsA (ps := ["_law_script"]) F fun _ _ _ _ _ _ us hl => match us, hl with | [_], _ => rfl
  refine ⟨fd, tf.map (He.cT K), spLaw K (TT K), ?_, ?_, ?_, fun s v => b s [v] rfl, fun H a ns hl _ hT hS => ⟨a, ns, rfl, hS, hl, ?_, fun _ => rfl⟩, fun base kb nb tb => ?_⟩
  · intro p hp
    obtain ⟨q, hq, rfl⟩ := List.mem_map.mp hp
    exact c.empty q hq
  · intro p hp
    obtain ⟨q, hq, rfl⟩ := List.mem_map.mp hp
    exact c.out q hq
  · intro p hp
    obtain ⟨q, hq, rfl⟩ := List.mem_map.mp hp
    exact PySem.W.codeHd_of_K KX (c.hd q hq)
  · intro p hp
    rcases List.mem_cons.mp hp with rfl | hp
    · exact LamX.TabS.nil (hT _ (List.mem_map.mpr ⟨t1, by simp [tf, t1], rfl⟩))
    · rw [List.mem_singleton.mp hp]
      exact LamX.TabS.nil (hT _ (List.mem_map.mpr ⟨t2, by simp [tf, t2], rfl⟩))
  · have E : Env K mg base := ⟨c.t.d, c.more, kb, nb, fun p hp => tb _ (List.mem_map.mpr ⟨p, hp, rfl⟩)⟩
    exact q_law E ⟨F, g⟩
end CR
open PySem PySem.W PySem.Calls PyProof.Rows
theorem PySem.Challenge.cw_cardrings_k51_whole_once_in_order_holds : PySem.Challenge.rw_cardrings_k51_whole_once_in_order.Holds := by
  w_on; o_law
  refine HandSHeadRun.head_any (r := OpenLaw.row PySem.Challenge.rw_cardrings_k51_whole_once_in_order) (q := view (OpenLaw.row PySem.Challenge.rw_cardrings_k51_whole_once_in_order).prog [105]) (H := CR.hk) (ob := CR.ob) (M := 6000) (loose := CR.nms) (d := HandSHeadRun.topDef (OpenLaw.row PySem.Challenge.rw_cardrings_k51_whole_once_in_order).prog 105) (kwd := []) CR.ob_eq
    (by kernel_rfl) (fun s => by kernel_rfl) CR.run (by kernel_rfl) (by kernel_rfl) (by kernel_rfl) (by rfl) (by first | assumption | decide +kernel) (by decide +kernel) ⟨rfl, rfl, rfl, rfl, rfl, by decide +kernel⟩ ?hw ?hc
  case hw => w_witness2
  case hc =>
    refine LamX.walk_ofTsE (l := PySem.Challenge.rw_cardrings_k51_whole_once_in_order) (n := 63) (k := 11) (x := "_law_script") (CX := fun _ => L2.CX0) rfl (by decide) (by kernel_rfl) ⟨rfl, by decide, by decide⟩ ?F (fun _ _ _ _ _ z => z)
    intro w mg a0 h Y G hmg0
    obtain ⟨K, c, KX⟩ := Y
    have hmg : mg ("law" : PySem.Str) = some (.ref a0) := by
      have e : (HandSHeadRun.topDef (OpenLaw.row PySem.Challenge.rw_cardrings_k51_whole_once_in_order).prog 105).name = ("law" : PySem.Str) := by kernel_rfl
      rw [← e]
      exact hmg0
    exact ⟨K, KX, CR.law_at KX c G hmg⟩
