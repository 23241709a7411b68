import PyProof.Rows.All
import Wide.All
import OpenK.AllK
import Wide.FinOn
import KE.KStateDown
import Lean
import HandS.Base
import HandS.ExcInit
import HandS.ExcField
import HandS.Head0
import HandS.Head1
import HandS.Head2
import HandS.HeadEnd
import HandS.HeadHook4
import HandS.Words
import HandS.ForMost
import HandS.ForExc
import HandS.TupAny
import HandS.TupMul
import HandS.Defaults
import HandS.Lambda
import HandS.CallSlots
import HandS.IsInst
import HandS.TryOnly
import HandS.HeadHook2
import KE.KDictKeyed
import KE.SortKeyHeap
import KE.KDictItemsList
import HandS.TupLe
import HandS.More
import HandS.Replace
import HandS.Small
import PyProof.DictUpdate
import HandS.Walk
import KE.GoesMore
import KE.GoesEnum
import KE.GoesEnumKw
import HandS.DictTup
import KE.KSortKey
import KE.KLam
import KE.KExcIs
import HandS.Style
import HandS.HeadWalk
import PySem.Challenge.RW_cardrings_k50_whole_wakes_by_deeds
set_option Elab.async false
set_option linter.all false
set_option maxRecDepth 100000
set_option maxHeartbeats 0
namespace Dt
open PySem PySem.Spec PyProof.Rows L2
abbrev cA (K : PySem.W.Frag) (x : String) : Addr := He.ga K (Str.ofString x)
def top (i : Nat) : Stmt := PySem.Challenge.pw_cardrings_k50_whole_wakes_by_deeds.main.body.getD i (.Pass ⟨0, 0, 0, 0⟩)
def initOf (i : Nat) : Stmt := match top i with
  | .ClassDef _ _ _ b _ _ _ _ _ _ _ => b.getD 0 (.Pass ⟨0, 0, 0, 0⟩)
  | _ => .Pass ⟨0, 0, 0, 0⟩
def hqOex (K : PySem.W.Frag) (C : Addr) : Bool := (match K.lookup C with
  | some ⟨.type c, _, .cls cd, sl⟩ => (match cd.mro, sl.toList with
    | .ref C' :: bm, [_, _, _, _, some (.builtin n), _] => decide (c = "type") && (decide (C' = C) && (decide (n = "ValueError.__new__") && (!cd.hasDel && (cd.hasDict && PySem.HandSPX.refsVE bm))))
    | _, _ => false)
  | _ => false) && (He.eqO (PySem.W.findIn K (.ref C) "__setattr__") (some (some (.builtin "object.__setattr__"))) && (decide (PySem.W.subIn K (.ref C) (.type "BaseException") = some true) && (decide (PySem.W.typeIn K (.ref C) = some (.type "type")) && PySem.W.keepIn K (.ref C))))
def hqIsx (K : PySem.W.Frag) (C : Addr) : Bool := (PySem.W.clsIn K C).isSome && (He.eqO (PySem.W.findIn K (.ref C) "__getattribute__") (some (some (.builtin "BaseException.__getattribute__"))) && ((PySem.W.findIn K (.ref C) "__getattr__").isSome && (decide (PySem.W.subIn K (.ref C) (.type "BaseException") = some true) &&
  (He.eqO (PySem.W.findIn K (.ref C) "__class__") (some (some (.builtin "object.__class__"))) && (He.eqO (PySem.W.specialIn K (.builtin "object.__class__") "__get__") (some (some (.builtin "getset_descriptor.__get__"))) && (decide (PySem.W.takesIn K (.builtin "object.__class__") = some true) && decide (PySem.W.mroIn K C (.type "object") = some true)))))))
def hqCls (K : PySem.W.Frag) (cls B : String) : Bool := He.eqO (PySem.W.findIn K (.ref (cA K cls)) "__init__") (some (some (.ref (He.fAd K (Str.ofString cls, some "__init__"))))) && (decide (PySem.W.typeIn K (.ref (He.fAd K (Str.ofString cls, some "__init__"))) = some (.type "function")) &&
  (PySem.W.readsIn K (cA K B) (.type "type") && ((match PySem.W.findCls K (.ref (cA K B)) (.type "type") "__init__" with
    | some (.val (.builtin n)) => decide (n = "ValueError.__init__")
    | _ => false) && He.eqO (PySem.W.specialIn K (.ref (cA K B)) "__getattribute__") (some (some (.builtin "type.__getattribute__"))))))
def hqKit (K : PySem.W.Frag) (x y : String) (b : Bool) : Bool := decide (PySem.W.kitOne K (.ref (cA K x)) (.ref (cA K y)) = some b)
def hqTab (K : PySem.W.Frag) (x : String) : Addr := He.tabOf K (He.codeOf K (Str.ofString x, none))
def hqNe (K : PySem.W.Frag) (x y : String) : Bool := decide (hqTab K x ≠ hqTab K y)
def d_is_number : He.DefD := ⟨("is_number", none), "is_number", "is_number", defArgs (top 9), defBody (top 9), defScope (top 9), [], []⟩
def d_mix_of : He.DefD := ⟨("mix_of", none), "mix_of", "mix_of", defArgs (top 14), defBody (top 14), defScope (top 14), [], []⟩
def d_lane_of : He.DefD := ⟨("lane_of", none), "lane_of", "lane_of", defArgs (top 15), defBody (top 15), defScope (top 15), [], [("lanes", He.Dv.int 2)]⟩
def d_common : He.DefD := ⟨("common", none), "common", "common", defArgs (top 17), defBody (top 17), defScope (top 17), [], []⟩
def d_ratio : He.DefD := ⟨("ratio", none), "ratio", "ratio", defArgs (top 18), defBody (top 18), defScope (top 18), [], []⟩
def d_added : He.DefD := ⟨("added", none), "added", "added", defArgs (top 19), defBody (top 19), defScope (top 19), [], []⟩
def d_times : He.DefD := ⟨("times", none), "times", "times", defArgs (top 20), defBody (top 20), defScope (top 20), [], []⟩
def d_is_less : He.DefD := ⟨("is_less", none), "is_less", "is_less", defArgs (top 21), defBody (top 21), defScope (top 21), [], []⟩
def d_lesser : He.DefD := ⟨("lesser", none), "lesser", "lesser", defArgs (top 22), defBody (top 22), defScope (top 22), [], []⟩
def d_purse_filled : He.DefD := ⟨("purse_filled", none), "purse_filled", "purse_filled", defArgs (top 25), defBody (top 25), defScope (top 25), [], [("ticks", He.Dv.int 1)]⟩
def d_owns : He.DefD := ⟨("owns", none), "owns", "owns", defArgs (top 27), defBody (top 27), defScope (top 27), [], []⟩
def d_count_on : He.DefD := ⟨("count_on", none), "count_on", "count_on", defArgs (top 29), defBody (top 29), defScope (top 29), [], [("by", He.Dv.int 1)]⟩
def d_count_gap : He.DefD := ⟨("count_gap", none), "count_gap", "count_gap", defArgs (top 30), defBody (top 30), defScope (top 30), [], []⟩
def d_void_ring : He.DefD := ⟨("void_ring", none), "void_ring", "void_ring", defArgs (top 31), defBody (top 31), defScope (top 31), [], []⟩
def d_held_in : He.DefD := ⟨("held_in", none), "held_in", "held_in", defArgs (top 32), defBody (top 32), defScope (top 32), [], []⟩
def d_laid : He.DefD := ⟨("laid", none), "laid", "laid", defArgs (top 33), defBody (top 33), defScope (top 33), [], []⟩
def d_put_in : He.DefD := ⟨("put_in", none), "put_in", "put_in", defArgs (top 34), defBody (top 34), defScope (top 34), [], []⟩
def d_take_out : He.DefD := ⟨("take_out", none), "take_out", "take_out", defArgs (top 35), defBody (top 35), defScope (top 35), [], []⟩
def d_void_lane : He.DefD := ⟨("void_lane", none), "void_lane", "void_lane", defArgs (top 47), defBody (top 47), defScope (top 47), [], []⟩
def d_half_of : He.DefD := ⟨("half_of", none), "half_of", "half_of", defArgs (top 48), defBody (top 48), defScope (top 48), [], [("purse", He.Dv.glo "PURSE"), ("lanes", He.Dv.int 2), ("size", He.Dv.int 4)]⟩
def d_turned_at : He.DefD := ⟨("turned_at", none), "turned_at", "turned_at", defArgs (top 49), defBody (top 49), defScope (top 49), [], []⟩
def d_lane_turned : He.DefD := ⟨("lane_turned", none), "lane_turned", "lane_turned", defArgs (top 50), defBody (top 50), defScope (top 50), [], []⟩
def d_by_talk : He.DefD := ⟨("by_talk", none), "by_talk", "by_talk", defArgs (top 51), defBody (top 51), defScope (top 51), [], []⟩
def d_with_talk : He.DefD := ⟨("with_talk", none), "with_talk", "with_talk", defArgs (top 52), defBody (top 52), defScope (top 52), [], []⟩
def d_owns_it : He.DefD := ⟨("owns_it", none), "owns_it", "owns_it", defArgs (top 53), defBody (top 53), defScope (top 53), [], []⟩
def d_page_at : He.DefD := ⟨("page_at", none), "page_at", "page_at", defArgs (top 55), defBody (top 55), defScope (top 55), [], []⟩
def d_words_at : He.DefD := ⟨("words_at", none), "words_at", "words_at", defArgs (top 56), defBody (top 56), defScope (top 56), [], []⟩
def d_written : He.DefD := ⟨("written", none), "written", "written", defArgs (top 57), defBody (top 57), defScope (top 57), [], []⟩
def d_is_due : He.DefD := ⟨("is_due", none), "is_due", "is_due", defArgs (top 62), defBody (top 62), defScope (top 62), [], []⟩
def d_befell : He.DefD := ⟨("befell", none), "befell", "befell", defArgs (top 63), defBody (top 63), defScope (top 63), [], []⟩
def d_is_due_behind : He.DefD := ⟨("is_due_behind", none), "is_due_behind", "is_due_behind", defArgs (top 64), defBody (top 64), defScope (top 64), [], []⟩
def d_wake_log : He.DefD := ⟨("wake_log", none), "wake_log", "wake_log", defArgs (top 65), defBody (top 65), defScope (top 65), [], [("most", He.Dv.int 2), ("wait", He.Dv.int 4)]⟩
def d_whys : He.DefD := ⟨("whys", none), "whys", "whys", defArgs (top 66), defBody (top 66), defScope (top 66), [], [("most", He.Dv.int 2), ("wait", He.Dv.int 4)]⟩
def d_look_at_lane : He.DefD := ⟨("look_at_lane", none), "look_at_lane", "look_at_lane", defArgs (top 68), defBody (top 68), defScope (top 68), [], []⟩
def d_polled : He.DefD := ⟨("polled", none), "polled", "polled", defArgs (top 69), defBody (top 69), defScope (top 69), [], []⟩
def d_unmasked : He.DefD := ⟨("unmasked", none), "unmasked", "unmasked", defArgs (top 70), defBody (top 70), defScope (top 70), [], [("most", He.Dv.int 2), ("wait", He.Dv.int 4)]⟩
def d_ticked : He.DefD := ⟨("ticked", none), "ticked", "ticked", defArgs (top 71), defBody (top 71), defScope (top 71), [], [("most", He.Dv.int 2), ("wait", He.Dv.int 4)]⟩
def d_sum_due : He.DefD := ⟨("sum_due", none), "sum_due", "sum_due", defArgs (top 75), defBody (top 75), defScope (top 75), [], []⟩
def d_is_right : He.DefD := ⟨("is_right", none), "is_right", "is_right", defArgs (top 76), defBody (top 76), defScope (top 76), [], []⟩
def d_summed : He.DefD := ⟨("summed", none), "summed", "summed", defArgs (top 77), defBody (top 77), defScope (top 77), [], []⟩
def d_bent : He.DefD := ⟨("bent", none), "bent", "bent", defArgs (top 78), defBody (top 78), defScope (top 78), [], [("word", He.Dv.int 0)]⟩
def d_pieces_of : He.DefD := ⟨("pieces_of", none), "pieces_of", "pieces_of", defArgs (top 79), defBody (top 79), defScope (top 79), [], [("epoch", He.Dv.int 0), ("cut", He.Dv.int 4)]⟩
def d_going_on : He.DefD := ⟨("going_on", none), "going_on", "going_on", defArgs (top 81), defBody (top 81), defScope (top 81), [], []⟩
def d_does_go_on : He.DefD := ⟨("does_go_on", none), "does_go_on", "does_go_on", defArgs (top 82), defBody (top 82), defScope (top 82), [], []⟩
def d_does_begin : He.DefD := ⟨("does_begin", none), "does_begin", "does_begin", defArgs (top 83), defBody (top 83), defScope (top 83), [], []⟩
def d_with_part : He.DefD := ⟨("with_part", none), "with_part", "with_part", defArgs (top 84), defBody (top 84), defScope (top 84), [], []⟩
def d_came_of : He.DefD := ⟨("came_of", none), "came_of", "came_of", defArgs (top 85), defBody (top 85), defScope (top 85), [], []⟩
def d_oldest_posted : He.DefD := ⟨("oldest_posted", none), "oldest_posted", "oldest_posted", defArgs (top 87), defBody (top 87), defScope (top 87), [], []⟩
def d_boxed : He.DefD := ⟨("boxed", none), "boxed", "boxed", defArgs (top 88), defBody (top 88), defScope (top 88), [], []⟩
def d_why_not : He.DefD := ⟨("why_not", none), "why_not", "why_not", defArgs (top 89), defBody (top 89), defScope (top 89), [], []⟩
def d_takes_whole : He.DefD := ⟨("takes_whole", none), "takes_whole", "takes_whole", defArgs (top 90), defBody (top 90), defScope (top 90), [], []⟩
def d_comes_in : He.DefD := ⟨("comes_in", none), "comes_in", "comes_in", defArgs (top 91), defBody (top 91), defScope (top 91), [], [("most", He.Dv.int 2), ("wait", He.Dv.int 4)]⟩
def d_put_or_full : He.DefD := ⟨("put_or_full", none), "put_or_full", "put_or_full", defArgs (top 93), defBody (top 93), defScope (top 93), [], []⟩
def d_posts : He.DefD := ⟨("posts", none), "posts", "posts", defArgs (top 94), defBody (top 94), defScope (top 94), [], []⟩
def d_need_wake : He.DefD := ⟨("need_wake", none), "need_wake", "need_wake", defArgs (top 97), defBody (top 97), defScope (top 97), [], []⟩
def d_is_wake_row : He.DefD := ⟨("is_wake_row", none), "is_wake_row", "is_wake_row", defArgs (top 98), defBody (top 98), defScope (top 98), [], []⟩
def d_look_at_row : He.DefD := ⟨("look_at_row", none), "look_at_row", "look_at_row", defArgs (top 99), defBody (top 99), defScope (top 99), [], []⟩
def d_lets_wakes : He.DefD := ⟨("lets_wakes", none), "lets_wakes", "lets_wakes", defArgs (top 100), defBody (top 100), defScope (top 100), [], [("most", He.Dv.int 2), ("wait", He.Dv.int 4)]⟩
def d__law_feed : He.DefD := ⟨("_law_feed", none), "_law_feed", "_law_feed", defArgs (top 102), defBody (top 102), defScope (top 102), [], []⟩
def d__law_draw : He.DefD := ⟨("_law_draw", none), "_law_draw", "_law_draw", defArgs (top 103), defBody (top 103), defScope (top 103), [], []⟩
def d__law_lane : He.DefD := ⟨("_law_lane", none), "_law_lane", "_law_lane", defArgs (top 104), defBody (top 104), defScope (top 104), [], []⟩
def d__law_world : He.DefD := ⟨("_law_world", none), "_law_world", "_law_world", defArgs (top 105), defBody (top 105), defScope (top 105), [], []⟩
def d__law_said : He.DefD := ⟨("_law_said", none), "_law_said", "_law_said", defArgs (top 106), defBody (top 106), defScope (top 106), [], []⟩
def d__law_stretch : He.DefD := ⟨("_law_stretch", none), "_law_stretch", "_law_stretch", defArgs (top 107), defBody (top 107), defScope (top 107), [], []⟩
def d__law_some : He.DefD := ⟨("_law_some", none), "_law_some", "_law_some", defArgs (top 108), defBody (top 108), defScope (top 108), [], []⟩
def d__law_drawn : He.DefD := ⟨("_law_drawn", none), "_law_drawn", "_law_drawn", defArgs (top 109), defBody (top 109), defScope (top 109), [], []⟩
def d__law_letter : He.DefD := ⟨("_law_letter", none), "_law_letter", "_law_letter", defArgs (top 110), defBody (top 110), defScope (top 110), [], []⟩
def d__law_piece : He.DefD := ⟨("_law_piece", none), "_law_piece", "_law_piece", defArgs (top 111), defBody (top 111), defScope (top 111), [], []⟩
def d__law_value : He.DefD := ⟨("_law_value", none), "_law_value", "_law_value", defArgs (top 114), defBody (top 114), defScope (top 114), [], []⟩
def d__law_program : He.DefD := ⟨("_law_program", none), "_law_program", "_law_program", defArgs (top 112), defBody (top 112), defScope (top 112), [], []⟩
def d__law_act : He.DefD := ⟨("_law_act", none), "_law_act", "_law_act", defArgs (top 113), defBody (top 113), defScope (top 113), [], []⟩
def d__law_by_program : He.DefD := ⟨("_law_by_program", none), "_law_by_program", "_law_by_program", defArgs (top 115), defBody (top 115), defScope (top 115), [], []⟩
def d__law_done : He.DefD := ⟨("_law_done", none), "_law_done", "_law_done", defArgs (top 116), defBody (top 116), defScope (top 116), [], []⟩
def d__law_noted : He.DefD := ⟨("_law_noted", none), "_law_noted", "_law_noted", defArgs (top 117), defBody (top 117), defScope (top 117), [], []⟩
def d__law_is_log : He.DefD := ⟨("_law_is_log", none), "_law_is_log", "_law_is_log", defArgs (top 118), defBody (top 118), defScope (top 118), [], []⟩
def d_law : He.DefD := ⟨("law", none), "law", "law", defArgs (top 119), defBody (top 119), defScope (top 119), [], []⟩
def di_NoPaper : He.DefD := ⟨("NoPaper", some "__init__"), "__init__", Str.ofString "NoPaper" ++ ".__init__", defArgs (initOf 5), defBody (initOf 5), defScope (initOf 5), [], []⟩
def di_NoPlace : He.DefD := ⟨("NoPlace", some "__init__"), "__init__", Str.ofString "NoPlace" ++ ".__init__", defArgs (initOf 6), defBody (initOf 6), defScope (initOf 6), [], []⟩
def di_NoStep : He.DefD := ⟨("NoStep", some "__init__"), "__init__", Str.ofString "NoStep" ++ ".__init__", defArgs (initOf 7), defBody (initOf 7), defScope (initOf 7), [], []⟩
def hfn0 : List He.DefD := [d_is_number, d_mix_of, d_lane_of, d_common, d_ratio, d_added, d_times, d_is_less, d_lesser, d_purse_filled, d_owns, d_count_on, d_count_gap, d_void_ring, d_held_in, d_laid, d_put_in, d_take_out, d_void_lane, d_half_of]
def hfn1 : List He.DefD := [d_turned_at, d_lane_turned, d_by_talk, d_with_talk, d_owns_it, d_page_at, d_words_at, d_written, d_is_due, d_befell, d_is_due_behind, d_wake_log, d_whys, d_look_at_lane, d_polled, d_unmasked, d_ticked, d_sum_due, d_is_right, d_summed]
def hfn2 : List He.DefD := [d_bent, d_pieces_of, d_going_on, d_does_go_on, d_does_begin, d_with_part, d_came_of, d_oldest_posted, d_boxed, d_why_not, d_takes_whole, d_comes_in, d_put_or_full, d_posts, d_need_wake, d_is_wake_row, d_look_at_row, d_lets_wakes, d__law_feed, d__law_draw]
def hfn3 : List He.DefD := [d__law_lane, d__law_world, d__law_said, d__law_stretch, d__law_some, d__law_drawn, d__law_letter, d__law_piece, d__law_value, d__law_program, d__law_act, d__law_by_program, d__law_done, d__law_noted, d__law_is_log, d_law, di_NoPaper, di_NoPlace, di_NoStep]
def hfn : List He.DefD := hfn0 ++ (hfn1 ++ (hfn2 ++ (hfn3)))
def hfa0 : List He.Fa := [.glo "is_number", .glo "mix_of", .glo "lane_of", .glo "common", .glo "ratio", .glo "added", .glo "times", .glo "is_less", .glo "lesser", .glo "purse_filled", .glo "owns", .glo "count_on", .glo "count_gap", .glo "void_ring", .glo "held_in", .glo "laid", .glo "put_in", .glo "take_out", .glo "void_lane", .glo "half_of"]
def hfa1 : List He.Fa := [.glo "turned_at", .glo "lane_turned", .glo "by_talk", .glo "with_talk", .glo "owns_it", .glo "page_at", .glo "words_at", .glo "written", .glo "is_due", .glo "befell", .glo "is_due_behind", .glo "wake_log", .glo "whys", .glo "look_at_lane", .glo "polled", .glo "unmasked", .glo "ticked", .glo "sum_due", .glo "is_right", .glo "summed"]
def hfa2 : List He.Fa := [.glo "bent", .glo "pieces_of", .glo "going_on", .glo "does_go_on", .glo "does_begin", .glo "with_part", .glo "came_of", .glo "oldest_posted", .glo "boxed", .glo "why_not", .glo "takes_whole", .glo "comes_in", .glo "put_or_full", .glo "posts", .glo "need_wake", .glo "is_wake_row", .glo "look_at_row", .glo "lets_wakes", .glo "_law_feed", .glo "_law_draw"]
def hfa3 : List He.Fa := [.glo "_law_lane", .glo "_law_world", .glo "_law_said", .glo "_law_stretch", .glo "_law_some", .glo "_law_drawn", .glo "_law_letter", .glo "_law_piece", .glo "_law_value", .glo "_law_program", .glo "_law_act", .glo "_law_by_program", .glo "_law_done", .glo "_law_noted", .glo "_law_is_log", .glo "law", .glo "CardError", .glo "PaperError", .glo "RingError", .glo "TextError"]
def hfa4 : List He.Fa := [.glo "NoPaper", .glo "NoPlace", .glo "NoStep", .glo "BEGINNING", .glo "WAKE_WORDS", .int "BOX_AT" 5, .int "HALF_AT" 0, .int "INWARD_AT" 4, .int "JOININGS_AT" 4, .int "LANES_AT" 1, .int "MASKED_AT" 7, .int "MIXES" 1009, .int "PURSE_AT" 7, .int "SINCE_AT" 6, .int "STEERS_AT" 6, .int "SUMS" 10007, .str "SIGNS" "abcdefghijklmnopqrstuvwxyz", .free "all", .free "bool", .free "dict"]
def hfa5 : List He.Fa := [.free "enumerate", .free "int", .free "isinstance", .free "len", .free "list", .free "max", .free "range", .free "sorted", .free "str", .free "sum", .free "tuple", .exm "NoPlace" "NoPlace" true, .exm "NoPaper" "CardError" true, .exm "NoStep" "CardError" true, .noat "NoPlace" "word", .noat "NoStep" "word", .noat "NoPaper" "word", .noat "NoPaper" "at"]
def hfa : List He.Fa := hfa0 ++ (hfa1 ++ (hfa2 ++ (hfa3 ++ (hfa4 ++ (hfa5)))))
def hex0 : List (PySem.W.Frag → Bool) := [(fun K => He.tupB K "BEGINNING" [.int 0, .non, .bl false]), (fun K => He.tupB K "WAKE_WORDS" [.str "fill", .str "poll", .str "unmask", .str "tick", .str "raise"]), (fun K => hqOex K (cA K "NoPaper")), (fun K => hqOex K (cA K "NoPlace")), (fun K => hqOex K (cA K "NoStep")), (fun K => hqCls K "NoPaper" "PaperError"), (fun K => hqCls K "NoPlace" "RingError"), (fun K => hqCls K "NoStep" "RingError"), (fun K => hqIsx K (cA K "NoPaper")), (fun K => xfB K (cA K "NoPaper")), (fun K => hqIsx K (cA K "NoStep")), (fun K => xfB K (cA K "NoStep")), (fun K => hqKit K "NoPaper" "PaperError" true), (fun K => hqKit K "NoPaper" "RingError" false), (fun K => hqKit K "NoPaper" "TextError" false), (fun K => hqKit K "NoPaper" "NoPaper" true), (fun K => hqKit K "NoStep" "PaperError" false), (fun K => hqKit K "NoStep" "RingError" true), (fun K => hqKit K "NoStep" "TextError" false), (fun K => hqKit K "NoStep" "NoStep" true)]
def hex1 : List (PySem.W.Frag → Bool) := [(fun K => hqNe K "with_talk" "_law_done"), (fun K => hqNe K "with_talk" "_law_is_log"), (fun K => hqNe K "_law_done" "_law_is_log")]
def hex : List (PySem.W.Frag → Bool) := hex0 ++ (hex1)
def hexB (K : PySem.W.Frag) : Bool := hex.all fun f => f K
def htf : List He.Defn := [("with_talk", none), ("_law_done", none), ("_law_is_log", none)]
abbrev HS (w : World) (h : Heap) (K : PySem.W.Frag) : Prop := He.SaysX hfa hfn [] htf hexB w h K
end Dt
namespace Dt
open PySem PySem.W PySem.Calls PyProof.Rows
abbrev Rw : PySem.W.OpenRow := PySem.W.OpenLaw.row PySem.Challenge.rw_cardrings_k50_whole_wakes_by_deeds
abbrev qv : Program := PySem.W.view Rw.prog [119]
def hqHas0 : List Addr := [3, 2, 24, 37, 49, 61, 80, 99, 118, 23, 36, 48, 60, 79, 98, 117, 321, 507, 133, 187, 202, 259, 343, 351, 371, 379, 406, 414, 485, 529, 127, 126, 132, 131, 140, 139, 147, 146, 154, 153]
def hqHas1 : List Addr := [161, 160, 168, 167, 175, 174, 182, 181, 194, 193, 201, 200, 209, 208, 216, 215, 223, 222, 230, 229, 237, 236, 244, 243, 251, 250, 258, 257, 264, 263, 271, 270, 278, 277, 285, 284, 292, 291, 299, 298]
def hqHas2 : List Addr := [306, 305, 313, 312, 320, 319, 328, 327, 335, 334, 342, 341, 350, 349, 358, 357, 365, 364, 370, 369, 378, 377, 386, 385, 391, 390, 398, 397, 405, 404, 413, 412, 421, 420, 428, 427, 435, 434, 442, 441]
def hqHas3 : List Addr := [449, 448, 456, 455, 463, 462, 470, 469, 477, 476, 484, 483, 492, 491, 499, 498, 506, 505, 514, 513, 521, 520, 528, 527, 534, 533, 541, 540, 548, 547, 555, 554, 560, 559, 567, 566, 574, 573, 579, 578]
def hqHas4 : List Addr := [584, 583, 591, 590, 598, 597, 619, 618, 605, 604, 612, 611, 626, 625, 633, 632, 638, 637, 643, 642, 648, 647, 77, 76, 96, 95, 115, 114]
def hqHas : List Addr := hqHas0 ++ (hqHas1 ++ (hqHas2 ++ (hqHas3 ++ (hqHas4))))
/-- what is looked at behind the run: the objects at hqHas -/
def hobs (g : Addr → Option Obj) : He.AlX := (fun K => (He.obsT hfa hfn [] K, hexB K && He.tabsB g htf K)) (He.frT g hqHas)
theorem hsays {w : World} {h : Heap} (e : hobs h.get? = He.valX hfn [] w) : HS w h (He.frT h.get? hqHas) := by
  obtain ⟨e1, e2⟩ := Prod.mk.inj e
  obtain ⟨e3, e4⟩ := He.ba e2
  have each : ∀ p, p ∈ htf → PySem.W.codeHdIn (He.frT h.get? hqHas) (He.cT (He.frT h.get? hqHas) p).1 (He.cT (He.frT h.get? hqHas) p).2 = true ∧
      ∃ o : Obj, h.get? (He.cT (He.frT h.get? hqHas) p).2 = some o ∧ He.emptyTab o = true := fun p hp => by
    obtain ⟨q1, q2⟩ := He.ba (List.all_eq_true.mp e4 p hp)
    refine ⟨q1, ?_⟩
    split at q2
    · rename_i o ho
      exact ⟨o, ho, q2⟩
    · cases q2
  refine ⟨e1, e3, fun p hp => (each p hp).1, fun p hp => ?_, fun p hp => ?_⟩ <;> obtain ⟨_, o, ho, hz⟩ := each p hp
  · exact He.frT_none ho hz
  · rw [ho, He.emptyTab_eq hz]
def hk : PySem.W.Hook where
  α := He.AlX
  obs s := hobs s.heap.get?
  val w := He.valX hfn [] w
  says w h := ∃ K : PySem.W.Frag, K.In h ∧ HS w h K
  of w s e := ⟨He.frT s.heap.get? hqHas, He.frT_in, hsays e⟩
  keeps w h h' x k := by
    obtain ⟨K, hK, c⟩ := x
    exact ⟨K, hK.keeps k, c.t, c.more, c.hd, c.out, fun p hp => k _ _ (c.empty p hp)⟩
def hob (s : PySem.W.SharedT) : He.AlX := hobs (HandSHeadRun.getT s)
theorem hob_eq (s : PySem.W.SharedT) : hob s = hk.obs s.abs := by
  show hobs _ = hobs _
  rw [funext (HandSHeadRun.getT_eq s)]
def hqNames0 : List PySem.Str := ["CardError", "PaperError", "RingError", "TextError", "NoPaper", "NoPlace", "NoStep", "is_number", "LANES", "MIXES", "SIGNS", "mix_of", "lane_of", "common", "ratio", "added", "times", "is_less", "lesser", "PURSE"]
def hqNames1 : List PySem.Str := ["purse_filled", "owns", "count_on", "count_gap", "void_ring", "held_in", "laid", "put_in", "take_out", "SIZE", "HALF_AT", "LANES_AT", "JOININGS_AT", "STEERS_AT", "PURSE_AT", "INWARD_AT", "BOX_AT", "SINCE_AT", "MASKED_AT", "void_lane"]
def hqNames2 : List PySem.Str := ["half_of", "turned_at", "lane_turned", "by_talk", "with_talk", "owns_it", "page_at", "words_at", "written", "MOST", "WAIT", "BEGINNING", "is_due", "befell", "is_due_behind", "wake_log", "whys", "look_at_lane", "polled", "unmasked"]
def hqNames3 : List PySem.Str := ["ticked", "CUT", "SUMS", "sum_due", "is_right", "summed", "bent", "pieces_of", "going_on", "does_go_on", "does_begin", "with_part", "came_of", "oldest_posted", "boxed", "why_not", "takes_whole", "comes_in", "put_or_full", "posts"]
def hqNames4 : List PySem.Str := ["WAKE_WORDS", "need_wake", "is_wake_row", "look_at_row", "lets_wakes", "_law_feed", "_law_draw", "_law_lane", "_law_world", "_law_said", "_law_stretch", "_law_some", "_law_drawn", "_law_letter", "_law_piece", "_law_program", "_law_act", "_law_value", "_law_by_program", "_law_done"]
def hqNames5 : List PySem.Str := ["_law_noted", "_law_is_log"]
def hqNames : List PySem.Str := hqNames0 ++ hqNames1 ++ hqNames2 ++ hqNames3 ++ hqNames4 ++ hqNames5
theorem run_seen (w : World) (os : OsState) : (HandSHeadRun.endF (HandSHeadRun.stepQ (HandSHeadRun.denQ HandSHeadRun.tabQ) Rw.prog w) 6000 Rw.prog w os).map (fun s => (HandSHeadRun.looksF Rw.prog (boot_heap w.params) s.abs,
    HandSHeadRun.seenQ qv hqNames (importedModules Rw.prog.main.body) (fun s => xlAt qv [] s && recOk Rw.toRowW.records s) s.abs)) = some (true, openGood qv hqNames) := by
  kernel_rfl
theorem run_told (w : World) (os : OsState) : (HandSHeadRun.endF (HandSHeadRun.stepQ (HandSHeadRun.denQ HandSHeadRun.tabQ) Rw.prog w) 6000 Rw.prog w os).map hob = some (hk.val w) := by
  kernel_rfl
theorem run (w : World) : HandSHeadRun.RunEq Rw qv hk hob 6000 hqNames w := by
  intro os
  obtain ⟨s, e1, e2⟩ := Option.map_eq_some_iff.mp (run_seen w os)
  obtain ⟨s', e3, e4⟩ := Option.map_eq_some_iff.mp (run_told w os)
  rw [e1] at e3
  cases e3
  obtain ⟨q1, q2⟩ := Prod.mk.inj e2
  rw [e1, Option.map_some, q1, q2, e4]
end Dt
namespace Dt
/-- data: what never changes, and places of the store -/
inductive D where
  | non
  | bl (b : Bool)
  | int (i : Int)
  | str (s : String)
  | tup (ds : List D)
  | loc (l : Nat)
  | fl (ds : List D)
  | pt (ds : List D)
  deriving Inhabited
/-- what stands at a place of the store: a list, a dict by texts, a dict by tuples -/
inductive MO where
  | lst (ds : List D)
  | dk (kvs : List (String × D))
  | dn (kvs : List (D × D))
  deriving Inhabited
abbrev Mem := List MO
structure Exn where
  cls : String
  fs : List (String × D)
abbrev Env := List (Option D)
inductive Res (α : Type) where
  | ok (a : α) (M : Mem)
  | ex (e : Exn) (M : Mem)
  | bad
def Res.bind {α β : Type} (r : Res α) (k : α → Mem → Res β) : Res β := match r with
  | .ok a M => k a M
  | .ex e M => .ex e M
  | .bad => .bad
@[simp] theorem Res.bind_ok {α β : Type} (a : α) (M : Mem) (k : α → Mem → Res β) : (Res.ok a M).bind k = k a M := rfl
@[simp] theorem Res.bind_ex {α β : Type} (e : Exn) (M : Mem) (k : α → Mem → Res β) : (Res.ex e M : Res α).bind k = .ex e M := rfl
@[simp] theorem Res.bind_bad {α β : Type} (k : α → Mem → Res β) : (Res.bad : Res α).bind k = .bad := rfl
/-- where no exception may leave -/
def Res.ne {α : Type} (r : Res α) : Res α := match r with
  | .ok a M => .ok a M
  | _ => .bad
@[simp] theorem Res.ne_ok {α : Type} (a : α) (M : Mem) : (Res.ok a M).ne = .ok a M := rfl
@[simp] theorem Res.ne_ex {α : Type} (e : Exn) (M : Mem) : (Res.ex e M : Res α).ne = .bad := rfl
@[simp] theorem Res.ne_bad {α : Type} : (Res.bad : Res α).ne = .bad := rfl
abbrev E := Env → Mem → Res D
abbrev T := Env → Mem → Res Bool
abbrev Ar := Env → Mem → Res (List D)
def eV (i : Nat) : E := fun δ M => match δ[i]? with
  | some (some d) => .ok d M
  | _ => .bad
def eK (d : D) : E := fun _ M => .ok d M
def eU (g : D → Mem → Res D) (a : E) : E := fun δ M => (a δ M).bind g
def eB (g : D → D → Mem → Res D) (a b : E) : E := fun δ M => (a δ M).bind fun x M => (b δ M).bind fun y M => g x y M
def eN (g : List D → Mem → Res D) (a : Ar) : E := fun δ M => (a δ M).bind g
def aNil : Ar := fun _ M => .ok [] M
def aCons (e : E) (a : Ar) : Ar := fun δ M => (e δ M).bind fun x M => (a δ M).bind fun xs M => .ok (x :: xs) M
def eIf (t : T) (a b : E) : E := fun δ M => (t δ M).bind fun c M => if c = true then a δ M else b δ M
def eAnd (a b : E) : E := fun δ M => (a δ M).bind fun x M => match x with
  | .bl true => b δ M
  | .bl false => .ok (.bl false) M
  | _ => .bad
def eOr (a b : E) : E := fun δ M => (a δ M).bind fun x M => match x with
  | .bl false => b δ M
  | .bl true => .ok (.bl true) M
  | _ => .bad
def dNot : D → Mem → Res D
  | .bl b, M => .ok (.bl (!b)) M
  | _, _ => .bad
def tB (a : E) : T := fun δ M => (a δ M).bind fun x M => match x with
  | .bl b => .ok b M
  | _ => .bad
def tAnd (t u : T) : T := fun δ M => (t δ M).bind fun c M => if c = true then u δ M else .ok false M
def tOr (t u : T) : T := fun δ M => (t δ M).bind fun c M => if c = true then .ok true M else u δ M
def tNot (t : T) : T := fun δ M => (t δ M).bind fun c M => .ok (!c) M
inductive SR where
  | nx (δ : Env) (M : Mem)
  | rt (d : D) (M : Mem)
  | bk (δ : Env) (M : Mem)
  | ct (δ : Env) (M : Mem)
  | ex (e : Exn) (δ : Env) (M : Mem)
  | bad
abbrev S := Env → Mem → SR
def SR.seq (r : SR) (k : Env → Mem → SR) : SR := match r with
  | .nx δ M => k δ M
  | .rt d M => .rt d M
  | .bk δ M => .bk δ M
  | .ct δ M => .ct δ M
  | .ex e δ M => .ex e δ M
  | .bad => .bad
@[simp] theorem SR.seq_nx (δ : Env) (M : Mem) (k : Env → Mem → SR) : (SR.nx δ M).seq k = k δ M := rfl
@[simp] theorem SR.seq_rt (d : D) (M : Mem) (k : Env → Mem → SR) : (SR.rt d M).seq k = .rt d M := rfl
@[simp] theorem SR.seq_ex (e : Exn) (δ : Env) (M : Mem) (k : Env → Mem → SR) : (SR.ex e δ M).seq k = .ex e δ M := rfl
/-- an expression's result within a statement -/
def Res.st {α : Type} (r : Res α) (δ : Env) (k : α → Mem → SR) : SR := match r with
  | .ok a M => k a M
  | .ex e M => .ex e δ M
  | .bad => .bad
@[simp] theorem Res.st_ok {α : Type} (a : α) (M : Mem) (δ : Env) (k : α → Mem → SR) : (Res.ok a M).st δ k = k a M := rfl
@[simp] theorem Res.st_ex {α : Type} (e : Exn) (M : Mem) (δ : Env) (k : α → Mem → SR) : (Res.ex e M : Res α).st δ k = .ex e δ M := rfl
@[simp] theorem Res.st_bad {α : Type} (δ : Env) (k : α → Mem → SR) : (Res.bad : Res α).st δ k = .bad := rfl
/-- a target: what stands in the slots behind it -/
abbrev G := D → Env → Option Env
def gN (i : Nat) : G := fun d δ => if i < δ.length then some (δ.set i (some d)) else none
def gTs : List G → List D → Env → Option Env
  | [], [], δ => some δ
  | g :: gs, d :: ds, δ => (g d δ).bind fun δ' => gTs gs ds δ'
  | _, _, _ => none
def gT (gs : List G) : G := fun d δ => match d with
  | .tup ds => gTs gs ds δ
  | _ => none
def sNext : S := fun δ M => .nx δ M
def sSeq (s t : S) : S := fun δ M => (s δ M).seq t
def sAsg (g : G) (a : E) : S := fun δ M => (a δ M).st δ fun d M => match g d δ with
  | some δ' => .nx δ' M
  | none => .bad
def sIf (t : T) (s u : S) : S := fun δ M => (t δ M).st δ fun c M => if c = true then s δ M else u δ M
def sRet (a : E) : S := fun δ M => (a δ M).st δ fun d M => .rt d M
def sExpr (a : E) : S := fun δ M => (a δ M).st δ fun _ M => .nx δ M
/-- a loop over what was laid out -/
def loop (g : G) (b : S) : List D → Env → Mem → SR
  | [], δ, M => .nx δ M
  | d :: ds, δ, M => match g d δ with
    | none => .bad
    | some δ' => match b δ' M with
      | .nx δ2 M2 => loop g b ds δ2 M2
      | .ct δ2 M2 => loop g b ds δ2 M2
      | .bk δ2 M2 => .nx δ2 M2
      | .rt d M2 => .rt d M2
      | .ex e δ2 M2 => .ex e δ2 M2
      | .bad => .bad
def sFor (it : Ar) (g : G) (b : S) : S := fun δ M => (it δ M).st δ fun ds M => loop g b ds δ M
def wipeE (δ : Env) (vs : List Nat) : Env := vs.foldl (fun δ i => δ.set i none) δ
def lcGo (g : G) (t : T) (e : E) (δ : Env) : List D → Mem → Res (List D)
  | [], M => .ok [] M
  | d :: ds, M => match g d δ with
    | none => .bad
    | some δ' => (t δ' M).ne.bind fun c M => if c = true then (e δ' M).ne.bind fun x M => (lcGo g t e δ ds M).bind fun xs M => .ok (x :: xs) M else lcGo g t e δ ds M
def lLc (it : Ar) (g : G) (t : T) (e : E) (vs : List Nat) : Ar := fun δ M => (it δ M).bind fun ds M => if ds.length ≤ 100000 then lcGo g t e (wipeE δ vs) ds M else .bad
def tYes : T := fun _ M => .ok true M
/-- a list that is not in the store, used up -/
def eL (g : List D → Mem → Res D) (l : Ar) : E := fun δ M => (l δ M).bind g
/-- .. laid into the store -/
def dReg (ds : List D) (M : Mem) : Res D := .ok (.loc M.length) (M ++ [.lst ds])
abbrev Fn := List D → Mem → Res D
def eC (m : Fn) (a : Ar) : E := eN m a
def eCk (m : Fn) (g : List D → List D → List D) (a ks : Ar) : E := fun δ M => (a δ M).bind fun ds M => (ks δ M).bind fun zs M => m (g ds zs) M
/-- a def's body at its arguments; n: how many names it has -/
def runB (s : S) (n : Nat) : Fn := fun ds M => match s (ds.map some ++ List.replicate (n - ds.length) none) M with
  | .nx _ M => .ok .non M
  | .rt d M => .ok d M
  | .ex e _ M => .ex e M
  | _ => .bad
end Dt
namespace Dt
open PySem PySem.Spec PyProof.Rows L2
structure Wd where
  P : Program
  w : World
  K : PySem.W.Frag
  T : List (Addr × Str)
/-- a list that nobody writes -/
def FL (K : PySem.W.Frag) (H : Hp) (a : Addr) (xs : List V) : Prop := (∃ o, H a = some (.frz o (.lst xs))) ∨ SqL K (fun _ => none) a xs
/-- a tuple whose object bears no dict of its own -/
def PT_ (H : Hp) (a : Addr) (xs : List V) : Prop := ∃ o : Obj, o.dict = none ∧ H a = some (.frz o (.tup xs))
/-- nothing is there, or a table -/
def Fz (H : Hp) (a : Addr) : Prop := ∀ o, H a = some o → ∃ ps, o = .tbl ps
theorem Fz.of {H : Hp} {a : Addr} (h : H a = none) : Fz H a := fun o e => by rw [h] at e; cases e
theorem Fz.ne {H : Hp} {a b : Addr} {o : HO} (h : Fz H a) (e : H b = some o) (n : ∀ ps, o ≠ .tbl ps) : b ≠ a := fun z => by
  rw [z] at e
  obtain ⟨ps, q⟩ := h o e
  exact n ps q
section
variable (K : PySem.W.Frag) (H : Hp) (ρ : List Addr)
mutual
def Rp : D → V → Prop
  | .non, v => v = .non
  | .bl b, v => v = .bl b
  | .int i, v => v = .int i
  | .str s, v => v = .str (Str.ofString s)
  | .tup ds, v => ∃ a xs, v = .ref a ∧ SqT K H a xs ∧ Rps ds xs
  | .loc l, v => ∃ a, v = .ref a ∧ ρ[l]? = some a
  | .fl ds, v => ∃ a xs, v = .ref a ∧ FL K H a xs ∧ Rps ds xs
  | .pt ds, v => ∃ a xs, v = .ref a ∧ PT_ H a xs ∧ Rps ds xs
def Rps : List D → List V → Prop
  | [], xs => xs = []
  | d :: ds, xs => ∃ x r, xs = x :: r ∧ Rp d x ∧ Rps ds r
end
end
mutual
def nk : D → NestedKey
  | .int i => .num i
  | .bl b => .num (if b = true then 1 else 0)
  | .str s => .text (Str.ofString s)
  | .tup ds => .tup (nks ds)
  | _ => .none
def nks : List D → List NestedKey
  | [] => []
  | d :: ds => nk d :: nks ds
end
/-- keys: ints, texts, None, tuples of these -/
inductive IsKey : D → Prop
  | non : IsKey .non
  | int (i : Int) : IsKey (.int i)
  | str (s : String) : IsKey (.str s)
  | tup (ds : List D) (h : ∀ d ∈ ds, IsKey d) : IsKey (.tup ds)
/-- a dict with tuples as keys: its entries -/
def dnO (P : Program) (w : World) (a : Addr) (es : List (NestedKey × Addr × V)) : HO := .ext fun h => ∃ (o : Obj) (ens : Array DictEntry) (ep : Nat) (us : List Value),
  h.get? a = some o ∧ o.ExactDict ∧ o.data = .dict ens ep ∧ Vals (es.map (·.2.2)) us ∧ us.length = es.length ∧ ens.toList = ((es.zip us).map fun z => (z.1.1, z.1.2.1, z.2)).map (entryOfKey (nestedKind P w))
def RpO (W : Wd) (H : Hp) (ρ : List Addr) (o : MO) (a : Addr) : Prop := match o with
  | .lst ds => ∃ xs, H a = some (.lst xs) ∧ Rps W.K H ρ ds xs
  | .dk kvs => ∃ xs : List V, H a = some (.dK ((kvs.map fun p => (Sum.inr (Str.ofString p.1) : Key)).zip xs)) ∧ Rps W.K H ρ (kvs.map (·.2)) xs
  | .dn kvs => ∃ es : List (NestedKey × Addr × V), H a = some (dnO W.P W.w a es) ∧ (a == sysModules) = false ∧ es.length ≤ 100000 ∧ (es.map (·.1)).Nodup ∧ es.map (·.1) = kvs.map (fun p => nk p.1) ∧
      Rps W.K H ρ (kvs.map (·.1)) (es.map fun e => V.ref e.2.1) ∧ Rps W.K H ρ (kvs.map (·.2)) (es.map fun e => e.2.2) ∧ ∀ p ∈ kvs, IsKey p.1 ∧ (nk p.1).depth ≤ 8
/-- what an expression, a statement leaves: the store grew, what is not of the store stands -/
structure Ex (ρ : List Addr) (H : Hp) (ρ' : List Addr) (H' : Hp) : Prop where
  more : ∃ ex, ρ' = ρ ++ ex ∧ ∀ a ∈ ex, Fz H a
  there : ∀ a, Fz H' a → Fz H a
  keep : ∀ a o, H a = some o → a ∉ ρ → (∀ ps, o ≠ .tbl ps) → H' a = some o
  tups : ∀ a xs, H a = some (.tup xs) → H' a = some (.tup xs)
  frzs : ∀ a o u, H a = some (.frz o u) → H' a = some (.frz o u)
structure WOk (W : Wd) (ρ : List Addr) (M : Mem) (H : Hp) : Prop where
  len : ρ.length = M.length
  nd : ρ.Nodup
  obj : ∀ (l : Nat) (o : MO) (a : Addr), M[l]? = some o → ρ[l]? = some a → RpO W H ρ o a
  tabs : LamX.Tabs W.T H
/-- slots -/
def ER (K : PySem.W.Frag) (H : Hp) (ρ : List Addr) (δ : Env) (σ : L2.St) : Prop := δ.length = σ.length ∧ ∀ (i : Nat) (d : D), δ[i]? = some (some d) → ∃ v, σ[i]? = some (some v) ∧ Rp K H ρ d v
/-- an exception as it lies: its class by its name, its own dict with its fields -/
def RpX (W : Wd) (H : Hp) (ρ : List Addr) (e : Exn) (c : Value) (dd : Option Addr) : Prop := c = .ref (He.ga W.K (Str.ofString e.cls)) ∧
  ∃ (d : Addr) (fs : List (Str × V)), dd = some d ∧ d ∉ ρ ∧ H d = some (.xd fs) ∧ ∀ f x, e.fs.lookup f = some x → ∃ v, fs.lookup (Str.ofString f) = some v ∧ Rp W.K H ρ x v
section
variable {K : PySem.W.Frag} {W : Wd} {H H' H1 H2 : Hp} {ρ ρ' ρ1 ρ2 : List Addr} {M : Mem}
theorem Ex.refl : Ex ρ H ρ H := ⟨⟨[], by simp⟩, fun _ h => h, fun _ _ h _ _ => h, fun _ _ h => h, fun _ _ _ h => h⟩
theorem Ex.trans (a : Ex ρ H ρ1 H1) (b : Ex ρ1 H1 ρ2 H2) : Ex ρ H ρ2 H2 := by
  obtain ⟨x1, e1, n1⟩ := a.more
  obtain ⟨x2, e2, n2⟩ := b.more
  refine ⟨⟨x1 ++ x2, by rw [e2, e1, List.append_assoc], fun p hp => ?_⟩, fun p hp => a.there p (b.there p hp), fun p o h hn ht => ?_, fun p xs h => b.tups p xs (a.tups p xs h), fun p o u h => b.frzs p o u (a.frzs p o u h)⟩
  · rcases List.mem_append.mp hp with hp | hp
    · exact n1 p hp
    · exact a.there p (n2 p hp)
  · refine b.keep p o (a.keep p o h hn ht) (fun hp => ?_) ht
    rw [e1] at hp
    rcases List.mem_append.mp hp with hp | hp
    · exact hn hp
    · exact (n1 p hp).ne h ht rfl
/-- what readings of data lean on -/
structure Mo (ρ : List Addr) (H : Hp) (ρ' : List Addr) (H' : Hp) : Prop where
  at_ : ∀ (l : Nat) (a : Addr), ρ[l]? = some a → ρ'[l]? = some a
  tups : ∀ a xs, H a = some (.tup xs) → H' a = some (.tup xs)
  frzs : ∀ a o u, H a = some (.frz o u) → H' a = some (.frz o u)
theorem Mo.rd (e : Mo ρ H ρ' H') {a : Addr} {xs : List V} (h : Rd H a (.tup xs)) : Rd H' a (.tup xs) := by
  rcases h with h | ⟨o, h⟩
  · exact .inl (e.tups _ _ h)
  · exact .inr ⟨o, e.frzs _ _ _ h⟩
theorem Mo.sqT (e : Mo ρ H ρ' H') {a : Addr} {xs : List V} (h : SqT K H a xs) : SqT K H' a xs := by
  rcases h with h | h
  · exact .inl (e.rd h)
  · exact .inr h
theorem Mo.fl (e : Mo ρ H ρ' H') {a : Addr} {xs : List V} (h : FL K H a xs) : FL K H' a xs := by
  rcases h with ⟨o, h⟩ | h
  · exact .inl ⟨o, e.frzs _ _ _ h⟩
  · exact .inr h
theorem Ex.mo (e : Ex ρ H ρ' H') : Mo ρ H ρ' H' := ⟨fun l a h => by
  obtain ⟨x, e1, _⟩ := e.more
  rw [e1, List.getElem?_append_left (List.getElem?_eq_some_iff.mp h).1]
  exact h, e.tups, e.frzs⟩
theorem Ex.sqT (e : Ex ρ H ρ' H') {a : Addr} {xs : List V} (h : SqT K H a xs) : SqT K H' a xs := e.mo.sqT h
theorem Ex.at_ (e : Ex ρ H ρ' H') {l : Nat} {a : Addr} (h : ρ[l]? = some a) : ρ'[l]? = some a := e.mo.at_ l a h
mutual
theorem Rp.moM (e : Mo ρ H ρ' H') : ∀ (d : D) (v : V), Rp K H ρ d v → Rp K H' ρ' d v
  | .non, _, h => h
  | .bl _, _, h => h
  | .int _, _, h => h
  | .str _, _, h => h
  | .tup ds, _, h => let ⟨a, xs, h1, h2, h3⟩ := h; ⟨a, xs, h1, e.sqT h2, Rps.moM e ds xs h3⟩
  | .loc l, _, h => let ⟨a, h1, h2⟩ := h; ⟨a, h1, e.at_ l a h2⟩
  | .fl ds, _, h => let ⟨a, xs, h1, h2, h3⟩ := h; ⟨a, xs, h1, e.fl h2, Rps.moM e ds xs h3⟩
  | .pt ds, _, h => let ⟨a, xs, h1, ⟨o, h2, h4⟩, h3⟩ := h; ⟨a, xs, h1, ⟨o, h2, e.frzs _ _ _ h4⟩, Rps.moM e ds xs h3⟩
theorem Rps.moM (e : Mo ρ H ρ' H') : ∀ (ds : List D) (xs : List V), Rps K H ρ ds xs → Rps K H' ρ' ds xs
  | [], _, h => h
  | d :: ds, _, h => let ⟨x, r, h1, h2, h3⟩ := h; ⟨x, r, h1, Rp.moM e d x h2, Rps.moM e ds r h3⟩
end
theorem Rp.mono (e : Ex ρ H ρ' H') {d : D} {v : V} (h : Rp K H ρ d v) : Rp K H' ρ' d v := Rp.moM e.mo d v h
theorem Rps.mono (e : Ex ρ H ρ' H') {d : List D} {v : List V} (h : Rps K H ρ d v) : Rps K H' ρ' d v := Rps.moM e.mo d v h
theorem ER.mono (e : Ex ρ H ρ' H') {δ : Env} {σ : L2.St} (h : ER K H ρ δ σ) : ER K H' ρ' δ σ := ⟨h.1, fun i d x => let ⟨v, h1, h2⟩ := h.2 i d x; ⟨v, h1, Rp.mono e h2⟩⟩
theorem Rps.length : ∀ {ds : List D} {xs : List V}, Rps K H ρ ds xs → ds.length = xs.length
  | [], _, h => by cases h; rfl
  | d :: ds, _, h => by
    obtain ⟨x, r, rfl, _, h3⟩ := h
    rw [List.length_cons, List.length_cons, Rps.length h3]
theorem Rps.append : ∀ {ds es : List D} {xs ys : List V}, Rps K H ρ ds xs → Rps K H ρ es ys → Rps K H ρ (ds ++ es) (xs ++ ys)
  | [], _, _, _, h, h' => by cases h; exact h'
  | d :: ds, _, _, _, h, h' => by
    obtain ⟨x, r, rfl, h2, h3⟩ := h
    exact ⟨x, r ++ _, rfl, h2, Rps.append h3 h'⟩
theorem Rps.get : ∀ {ds : List D} {xs : List V} {i : Nat} {d : D}, Rps K H ρ ds xs → ds[i]? = some d → ∃ x, xs[i]? = some x ∧ Rp K H ρ d x
  | [], _, _, _, _, e => by simp at e
  | _ :: _, _, 0, _, h, e => by
    obtain ⟨x, r, rfl, h2, _⟩ := h
    simp at e; subst e
    exact ⟨x, rfl, h2⟩
  | _ :: _, _, i + 1, d, h, e => by
    obtain ⟨x, r, rfl, _, h3⟩ := h
    obtain ⟨y, a, b⟩ := Rps.get (i := i) (d := d) h3 (by simpa using e)
    exact ⟨y, by simpa using a, b⟩
theorem Rps.take : ∀ {ds : List D} {xs : List V} (n : Nat), Rps K H ρ ds xs → Rps K H ρ (ds.take n) (xs.take n)
  | _, _, 0, _ => by simp [Rps]
  | [], _, _ + 1, h => by cases h; simp [Rps]
  | _ :: _, _, n + 1, h => by
    obtain ⟨x, r, rfl, h2, h3⟩ := h
    exact ⟨x, r.take n, rfl, h2, Rps.take n h3⟩
theorem Rps.drop : ∀ {ds : List D} {xs : List V} (n : Nat), Rps K H ρ ds xs → Rps K H ρ (ds.drop n) (xs.drop n)
  | _, _, 0, h => by simpa using h
  | [], _, _ + 1, h => by cases h; simp [Rps]
  | _ :: _, _, n + 1, h => by
    obtain ⟨x, r, rfl, _, h3⟩ := h
    simpa using Rps.drop n h3
theorem Rps.set : ∀ {ds : List D} {xs : List V} (n : Nat) {d : D} {v : V}, Rps K H ρ ds xs → Rp K H ρ d v → Rps K H ρ (ds.set n d) (xs.set n v)
  | [], _, _, _, _, h, _ => by cases h; simp [Rps]
  | _ :: _, _, 0, _, _, h, h' => by
    obtain ⟨x, r, rfl, h2, h3⟩ := h
    exact ⟨_, r, rfl, h', h3⟩
  | _ :: _, _, n + 1, _, _, h, h' => by
    obtain ⟨x, r, rfl, h2, h3⟩ := h
    exact ⟨x, r.set n _, rfl, h2, Rps.set n h3 h'⟩
theorem Rps.nil_iff {ds : List D} {xs : List V} (h : Rps K H ρ ds xs) : ds = [] ↔ xs = [] := by
  have := h.length
  constructor
  · rintro rfl
    exact List.eq_nil_of_length_eq_zero this.symm
  · rintro rfl
    exact List.eq_nil_of_length_eq_zero this
theorem ER.set {δ : Env} {σ : L2.St} {i : Nat} {d : D} {v : V} (h : ER K H ρ δ σ) (r : Rp K H ρ d v) : ER K H ρ (δ.set i (some d)) (σ.set i (some v)) := by
  refine ⟨by simpa using h.1, fun j e x => ?_⟩
  by_cases hj : i = j
  · subst hj
    have hl : i < δ.length := by
      have := (List.getElem?_eq_some_iff.mp x).1
      simpa using this
    rw [List.getElem?_set_self hl] at x
    cases x
    exact ⟨v, List.getElem?_set_self (by rw [← h.1]; exact hl), r⟩
  · rw [List.getElem?_set_ne hj] at x
    rw [List.getElem?_set_ne hj]
    exact h.2 j e x
end
section
variable {α β γ ζ : Type}
def Gg (W : Wd) (U : WX) (σ : L2.St) (rel : Hp → List Addr → α → β → Prop) (ρ : List Addr) (H : Hp) (r : Res α) (Q : β → Hp → Prop) : Prop := match r with
  | .ok a M' => ∀ v ρ' H', Ex ρ H ρ' H' → WOk W ρ' M' H' → rel H' ρ' a v → Q v H'
  | .ex e M' => ∀ c dd ρ' H', Ex ρ H ρ' H' → WOk W ρ' M' H' → RpX W H' ρ' e c dd → U c dd σ H'
  | .bad => False
variable {W : Wd} {U : WX} {σ : L2.St} {rel : Hp → List Addr → α → β → Prop} {rel' : Hp → List Addr → γ → ζ → Prop} {ρ ρ0 : List Addr} {H H0 : Hp} {r : Res α} {Q Q' : β → Hp → Prop}
theorem Gg.imp (h : Gg W U σ rel ρ H r Q) (q : ∀ v H, Q v H → Q' v H) : Gg W U σ rel ρ H r Q' := by
  cases r with
  | ok a M => exact fun v ρ' H' e w x => q _ _ (h v ρ' H' e w x)
  | ex e M => exact h
  | bad => exact h
theorem Gg.start (e0 : Ex ρ0 H0 ρ H) (h : Gg W U σ rel ρ0 H0 r Q) : Gg W U σ rel ρ H r Q := by
  cases r with
  | ok a M => exact fun v ρ' H' e w x => h v ρ' H' (e0.trans e) w x
  | ex e M => exact fun c dd ρ' H' e w x => h c dd ρ' H' (e0.trans e) w x
  | bad => exact h
theorem Gg.bind {k : α → Mem → Res γ} {Q : ζ → Hp → Prop} (h : Gg W U σ rel' ρ H (r.bind k) Q) :
    Gg W U σ rel ρ H r (fun v H1 => ∃ ρ1 M1 a, r = .ok a M1 ∧ Ex ρ H ρ1 H1 ∧ WOk W ρ1 M1 H1 ∧ rel H1 ρ1 a v ∧ Gg W U σ rel' ρ1 H1 (k a M1) Q) := by
  cases r with
  | ok a M => exact fun v ρ' H' e w x => ⟨ρ', M, a, rfl, e, w, x, Gg.start e h⟩
  | ex e M => exact h
  | bad => exact h
theorem Gg.ret {a : α} {M : Mem} {v : β} (w : WOk W ρ M H) (x : rel H ρ a v) (h : Gg W U σ rel ρ H (.ok a M) Q) : Q v H := h v ρ H Ex.refl w x
end
abbrev relD (W : Wd) : Hp → List Addr → D → V → Prop := fun H ρ d v => Rp W.K H ρ d v
abbrev relA (W : Wd) : Hp → List Addr → List D → List V → Prop := fun H ρ d v => Rps W.K H ρ d v
abbrev relB : Hp → List Addr → Bool → Bool → Prop := fun _ _ a b => b = a
/-- readings by the mirror -/
def tE (W : Wd) (U : WX) (f : E) : TE := fun σ H Q => ∃ ρ M δ, WOk W ρ M H ∧ ER W.K H ρ δ σ ∧ Gg W U σ (relD W) ρ H (f δ M) Q
def tA (W : Wd) (U : WX) (f : Ar) : TA := fun σ H Q => ∃ ρ M δ, WOk W ρ M H ∧ ER W.K H ρ δ σ ∧ Gg W U σ (relA W) ρ H (f δ M) Q
def tT (W : Wd) (U : WX) (f : T) : TT := fun σ H Q => ∃ ρ M δ, WOk W ρ M H ∧ ER W.K H ρ δ σ ∧ Gg W U σ relB ρ H (f δ M) Q
/-- a list that is not in the store -/
abbrev relL (W : Wd) (H0 : Hp) : Hp → List Addr → List D → V → Prop := fun H ρ ds v => ∃ a xs, v = .ref a ∧ Fz H0 a ∧ a ∉ ρ ∧ H a = some (.lst xs) ∧ Rps W.K H ρ ds xs
def tL (W : Wd) (U : WX) (f : Ar) : TE := fun σ H Q => ∃ ρ M δ, WOk W ρ M H ∧ ER W.K H ρ δ σ ∧ Gg W U σ (relL W H) ρ H (f δ M) Q
theorem Ex.free {ρ ρ' : List Addr} {H H' : Hp} (e : Ex ρ H ρ' H') {p : Addr} (h : H' p = none) : Fz H p := e.there p (Fz.of h)
abbrev _root_.L2.Cx.wd (X : Cx) (T : List (Addr × Str)) : Wd := ⟨X.prog, X.w, X.K, T⟩
theorem PE.imp {X : Cx} {e : Expr} {t t' : TE} (h : PE X e t) (q : ∀ σ H Q, t' σ H Q → t σ H Q) : PE X e t' := ⟨fun pins s σ H Q I x => h.run pins s σ H Q I (q σ H Q x)⟩
theorem PT.imp {X : Cx} {e : Expr} {t t' : TT} (h : PT X e t) (q : ∀ σ H Q, t' σ H Q → t σ H Q) : PT X e t' := ⟨fun pins s σ H Q I x => h.run pins s σ H Q I (q σ H Q x)⟩
theorem PW.imp {X : Cx} {e : Expr} {t t' : TT} (h : PW X e t) (q : ∀ σ H Q, t' σ H Q → t σ H Q) : PW X e t' := ⟨fun wh pins s σ H Q I x => h.run wh pins s σ H Q I (q σ H Q x)⟩
theorem PA.imp {X : Cx} {es : List Expr} {t t' : TA} (h : PA X es t) (q : ∀ σ H Q, t' σ H Q → t σ H Q) : PA X es t' := ⟨fun pos pins s σ H Q I x => h.run pos pins s σ H Q I (q σ H Q x)⟩
theorem PK.imp {X : Cx} {es : List Keyword} {t t' : TA} (h : PK X es t) (q : ∀ σ H Q, t' σ H Q → t σ H Q) : PK X es t' := ⟨fun pos pins s σ H Q I x => h.run pos pins s σ H Q I (q σ H Q x)⟩
theorem PS.imp {X : Cx} {e : Stmt} {t t' : TS} (h : PS X e t) (q : ∀ D σ H, t' D σ H → t D σ H) : PS X e t' := ⟨fun pins s σ H D I x => h.run pins s σ H D I (q D σ H x)⟩
theorem PSs.imp {X : Cx} {e : List Stmt} {t t' : TS} (h : PSs X e t) (q : ∀ D σ H, t' D σ H → t D σ H) : PSs X e t' := ⟨fun pins s σ H D I x => h.run pins s σ H D I (q D σ H x)⟩
end Dt
namespace Dt
open PySem PySem.Spec PyProof.Rows L2
section
variable {X : Cx} {T : List (Addr × Str)} {U : WX} {a b c : Expr} {pos : Pos} {f1 f2 f3 : E}
/-- what an operation by values is by data -/
def OK2 (W : Wd) (r : R2) (g : D → D → Mem → Res D) : Prop := ∀ (U : WX) (σ : L2.St) (ρ : List Addr) (M : Mem) (H : Hp) (a b : D) (x y : V) (Q : VK), WOk W ρ M H → Rp W.K H ρ a x → Rp W.K H ρ b y → Gg W U σ (relD W) ρ H (g a b M) Q → r x y H Q
def OK1 (W : Wd) (r : V → Hp → VK → Prop) (g : D → Mem → Res D) : Prop := ∀ (U : WX) (σ : L2.St) (ρ : List Addr) (M : Mem) (H : Hp) (a : D) (x : V) (Q : VK), WOk W ρ M H → Rp W.K H ρ a x → Gg W U σ (relD W) ρ H (g a M) Q → r x H Q
def OKN (W : Wd) (r : List V → Hp → VK → Prop) (g : List D → Mem → Res D) : Prop := ∀ (U : WX) (σ : L2.St) (ρ : List Addr) (M : Mem) (H : Hp) (ds : List D) (xs : List V) (Q : VK), WOk W ρ M H → Rps W.K H ρ ds xs → Gg W U σ (relD W) ρ H (g ds M) Q → r xs H Q
theorem lift2 {W : Wd} {r : R2} {g : D → D → Mem → Res D} (hg : OK2 W r g) {σ : L2.St} {H : Hp} {Q : VK} (h : tE W U (eB g f1 f2) σ H Q) : tOp r (tE W U f1) (tE W U f2) σ H Q := by
  obtain ⟨ρ, M, δ, w, er, go⟩ := h
  refine ⟨ρ, M, δ, w, er, (Gg.bind (rel := relD W) go).imp fun x H1 ⟨ρ1, M1, d1, _, e1, w1, r1, go1⟩ => ?_⟩
  refine ⟨ρ1, M1, δ, w1, er.mono e1, (Gg.bind (rel := relD W) go1).imp fun y H2 ⟨ρ2, M2, d2, _, e2, w2, r2, go2⟩ => ?_⟩
  exact hg U σ ρ2 M2 H2 d1 d2 x y Q w2 (r1.mono e2) r2 go2
theorem lift1 {W : Wd} {r : V → Hp → VK → Prop} {g : D → Mem → Res D} (hg : OK1 W r g) {σ : L2.St} {H : Hp} {Q : VK} (h : tE W U (eU g f1) σ H Q) : tUn r (tE W U f1) σ H Q := by
  obtain ⟨ρ, M, δ, w, er, go⟩ := h
  refine ⟨ρ, M, δ, w, er, (Gg.bind (rel := relD W) go).imp fun x H1 ⟨ρ1, M1, d1, _, e1, w1, r1, go1⟩ => ?_⟩
  exact hg U σ ρ1 M1 H1 d1 x Q w1 r1 go1
theorem liftN {W : Wd} {r : List V → Hp → VK → Prop} {g : List D → Mem → Res D} {f : Ar} (hg : OKN W r g) {σ : L2.St} {H : Hp} {Q : VK} (h : tE W U (eN g f) σ H Q) : tCB r (tA W U f) σ H Q := by
  obtain ⟨ρ, M, δ, w, er, go⟩ := h
  refine ⟨ρ, M, δ, w, er, (Gg.bind (rel := relA W) go).imp fun x H1 ⟨ρ1, M1, d1, _, e1, w1, r1, go1⟩ => ?_⟩
  exact hg U σ ρ1 M1 H1 d1 x Q w1 r1 go1
theorem pd_var (i : Nat) {x : Str} (hN : X.N[i]? = some x := by rfl) (hv : Vis X.env.scope x := by first | exact Or.inl rfl | exact Or.inr (Or.inl rfl) | exact Or.inr (Or.inr rfl)) (hd : (x == ("__debug__" : Str)) = false := by decide)
    (hcd : (x == ("__classdict__" : Str)) = false := by decide) : PE X (.Name x pos) (tE (X.wd T) U (eV i)) := by
  refine PE.imp (pe_var (i := i) hN hv hd hcd) fun σ H Q h => ?_
  obtain ⟨ρ, M, δ, w, er, go⟩ := h
  unfold eV at go
  cases e : δ[i]? with
  | none => rw [e] at go; exact go.elim
  | some o =>
    rw [e] at go
    cases o with
    | none => exact go.elim
    | some d =>
      obtain ⟨v, h1, h2⟩ := er.2 i d e
      exact ⟨v, h1, Gg.ret w h2 go⟩
theorem pd_k {e : Expr} {v : V} {d : D} (h : PE X e (tC v)) (r : ∀ H ρ, Rp X.K H ρ d v) : PE X e (tE (X.wd T) U (eK d)) := by
  refine PE.imp h fun σ H Q h => ?_
  obtain ⟨ρ, M, δ, w, er, go⟩ := h
  exact Gg.ret (v := v) w (r H ρ) go
theorem pd_int {i : Int} {j : Nat} : PE X (.Constant (.int i) j pos) (tE (X.wd T) U (eK (.int i))) := pd_k pe_int fun _ _ => rfl
theorem pd_bl {i : Bool} {j : Nat} : PE X (.Constant (.bool i) j pos) (tE (X.wd T) U (eK (.bl i))) := pd_k pe_bl fun _ _ => rfl
theorem pd_non {j : Nat} : PE X (.Constant .none j pos) (tE (X.wd T) U (eK .non)) := pd_k pe_non fun _ _ => rfl
theorem pd_str (s : String) {j : Nat} : PE X (.Constant (.str (Str.ofString s)) j pos) (tE (X.wd T) U (eK (.str s))) := pd_k pe_str fun _ _ => rfl
theorem pd_gint {x : Str} {i : Int} (hg : Gl X x) (hm : ∃ t, X.mg x = some (.int i t)) (hd : (x == ("__debug__" : Str)) = false := by decide) : PE X (.Name x pos) (tE (X.wd T) U (eK (.int i))) := by
  obtain ⟨t, hm⟩ := hm
  exact pd_k (pe_glob (v := .int i) hg hm ⟨t, rfl⟩ hd) fun _ _ => rfl
theorem pd_gstr {x : Str} (s : String) (hg : Gl X x) (hm : ∃ t, X.mg x = some (.str (Str.ofString s) t)) (hd : (x == ("__debug__" : Str)) = false := by decide) : PE X (.Name x pos) (tE (X.wd T) U (eK (.str s))) := by
  obtain ⟨t, hm⟩ := hm
  exact pd_k (pe_glob (v := .str (Str.ofString s)) hg hm ⟨t, rfl⟩ hd) fun _ _ => rfl
theorem pd_gref {x : Str} {p : Addr} {d : D} (hg : Gl X x) (hm : X.mg x = some (.ref p)) (r : ∀ H ρ, Rp X.K H ρ d (.ref p)) (hd : (x == ("__debug__" : Str)) = false := by decide) : PE X (.Name x pos) (tE (X.wd T) U (eK d)) :=
  pd_k (pe_glob (v := .ref p) hg hm rfl hd) r
theorem pd_op {op : Operator} {r : R2} {g : D → D → Mem → Res D} (ho : OpR X (binaryOp op) r) (hg : OK2 (X.wd T) r g) (ha : PE X a (tE (X.wd T) U f1)) (hb : PE X b (tE (X.wd T) U f2)) : PE X (.BinOp a op b pos) (tE (X.wd T) U (eB g f1 f2)) :=
  PE.imp (pe_op ho ha hb) fun _ _ _ h => lift2 hg h
theorem pd_un {op : UnaryOp} {r : V → Hp → VK → Prop} {g : D → Mem → Res D} (ho : UnR X (unaryOp op) r) (hg : OK1 (X.wd T) r g) (ha : PE X a (tE (X.wd T) U f1)) : PE X (.UnaryOp op a pos) (tE (X.wd T) U (eU g f1)) :=
  PE.imp (pe_un ho ha) fun _ _ _ h => lift1 hg h
theorem pd_cmp {op : CmpOp} {r : R2} {g : D → D → Mem → Res D} (ho : OpR X (compareOp op) r) (hg : OK2 (X.wd T) r g) (ha : PE X a (tE (X.wd T) U f1)) (hb : PE X b (tE (X.wd T) U f2)) (hm : behindInMarks op b = false) :
    PE X (.Compare a [op] [b] pos) (tE (X.wd T) U (eB g f1 f2)) := PE.imp (pe_cmpR ho ha hb hm) fun _ _ _ h => lift2 hg h
/-- from a value that is a truth to a test -/
theorem test_of {W : Wd} {te : TE} {f : E} (q : ∀ σ H Q, tE W U f σ H Q → te σ H Q) {σ : L2.St} {H : Hp} {Q : Bool → Hp → Prop} (h : tT W U (tB f) σ H Q) : tTest te σ H Q := by
  obtain ⟨ρ, M, δ, w, er, go⟩ := h
  refine q σ H _ ⟨ρ, M, δ, w, er, (Gg.bind (rel := relD W) go).imp fun x H1 ⟨ρ1, M1, d1, _, e1, w1, r1, go1⟩ => ?_⟩
  cases d1 with
  | bl k => exact ⟨k, r1, Gg.ret w1 rfl go1⟩
  | _ => exact go1.elim
theorem pt_dcmp {op : CmpOp} {r : R2} {g : D → D → Mem → Res D} (ho : OpR X (compareOp op) r) (hg : OK2 (X.wd T) r g) (ha : PE X a (tE (X.wd T) U f1)) (hb : PE X b (tE (X.wd T) U f2)) (hm : behindInMarks op b = false) :
    PT X (.Compare a [op] [b] pos) (tT (X.wd T) U (tB (eB g f1 f2))) := PT.imp (pt_cmpR ho ha hb hm) fun _ _ _ h => test_of (fun _ _ _ h => lift2 hg h) h
/-- a value that is a truth, as a test -/
theorem pt_dval (h : PE X a (tE (X.wd T) U f1)) (he : ∀ whole, isTrue a X.env whole = (do let v ← whole; standAt a.pos; holding [v] (truthy v)) := by intro _; rfl) : PT X a (tT (X.wd T) U (tB f1)) :=
  PT.imp (pt_val h he) fun _ _ _ h => test_of (fun _ _ _ h => h) h
theorem pd_one {op} (h : PE X a (tE (X.wd T) U f1)) : PE X (.BoolOp op [a] pos) (tE (X.wd T) U f1) := pe_one h
theorem pd_and {rest : List Expr} (ha : PE X a (tE (X.wd T) U f1)) (hb : PE X (.BoolOp .And (b :: rest) pos) (tE (X.wd T) U f2)) : PE X (.BoolOp .And (a :: b :: rest) pos) (tE (X.wd T) U (eAnd f1 f2)) := by
  refine PE.imp (pe_and ha hb) fun σ H Q h => ?_
  obtain ⟨ρ, M, δ, w, er, go⟩ := h
  refine ⟨ρ, M, δ, w, er, (Gg.bind (rel := relD (X.wd T)) go).imp fun x H1 ⟨ρ1, M1, d1, _, e1, w1, r1, go1⟩ => ?_⟩
  cases d1 with
  | bl k =>
    refine ⟨k, r1, ?_⟩
    cases k with
    | true => exact iteT ⟨ρ1, M1, δ, w1, er.mono e1, go1⟩
    | false => exact iteF (Gg.ret w1 (v := V.bl false) rfl go1)
  | _ => exact go1.elim
theorem pd_or {rest : List Expr} (ha : PE X a (tE (X.wd T) U f1)) (hb : PE X (.BoolOp .Or (b :: rest) pos) (tE (X.wd T) U f2)) : PE X (.BoolOp .Or (a :: b :: rest) pos) (tE (X.wd T) U (eOr f1 f2)) := by
  refine PE.imp (pe_or ha hb) fun σ H Q h => ?_
  obtain ⟨ρ, M, δ, w, er, go⟩ := h
  refine ⟨ρ, M, δ, w, er, (Gg.bind (rel := relD (X.wd T)) go).imp fun x H1 ⟨ρ1, M1, d1, _, e1, w1, r1, go1⟩ => ?_⟩
  cases d1 with
  | bl k =>
    refine ⟨k, r1, ?_⟩
    cases k with
    | true => exact iteT (Gg.ret w1 (v := V.bl true) rfl go1)
    | false => exact iteF ⟨ρ1, M1, δ, w1, er.mono e1, go1⟩
  | _ => exact go1.elim
theorem pd_not (ha : PE X a (tE (X.wd T) U f1)) : PE X (.UnaryOp .Not a pos) (tE (X.wd T) U (eU dNot f1)) := by
  refine PE.imp (pe_not ha) fun σ H Q h => ?_
  obtain ⟨ρ, M, δ, w, er, go⟩ := h
  refine ⟨ρ, M, δ, w, er, (Gg.bind (rel := relD (X.wd T)) go).imp fun x H1 ⟨ρ1, M1, d1, _, e1, w1, r1, go1⟩ => ?_⟩
  cases d1 with
  | bl k => exact ⟨k, r1, Gg.ret w1 (v := V.bl (!k)) rfl go1⟩
  | _ => exact go1.elim
variable {t1 t2 : Dt.T}
theorem pw_dand1 (h : PT X a (tT (X.wd T) U t1)) : PW X (.BoolOp .And [a] pos) (tT (X.wd T) U t1) := pw_and1 h
theorem pw_dor1 (h : PT X a (tT (X.wd T) U t1)) : PW X (.BoolOp .Or [a] pos) (tT (X.wd T) U t1) := pw_or1 h
theorem pw_dand {rest : List Expr} (ha : PT X a (tT (X.wd T) U t1)) (hb : PW X (.BoolOp .And (b :: rest) pos) (tT (X.wd T) U t2)) : PW X (.BoolOp .And (a :: b :: rest) pos) (tT (X.wd T) U (tAnd t1 t2)) := by
  refine PW.imp (pw_and ha hb) fun σ H Q h => ?_
  obtain ⟨ρ, M, δ, w, er, go⟩ := h
  refine ⟨ρ, M, δ, w, er, (Gg.bind (rel := relB) go).imp fun x H1 ⟨ρ1, M1, d1, _, e1, w1, r1, go1⟩ => ?_⟩
  cases r1
  cases x with
  | true => exact iteT ⟨ρ1, M1, δ, w1, er.mono e1, by simpa using go1⟩
  | false => exact iteF (Gg.ret w1 (v := false) rfl go1)
theorem pw_dor {rest : List Expr} (ha : PT X a (tT (X.wd T) U t1)) (hb : PW X (.BoolOp .Or (b :: rest) pos) (tT (X.wd T) U t2)) : PW X (.BoolOp .Or (a :: b :: rest) pos) (tT (X.wd T) U (tOr t1 t2)) := by
  refine PW.imp (pw_or ha hb) fun σ H Q h => ?_
  obtain ⟨ρ, M, δ, w, er, go⟩ := h
  refine ⟨ρ, M, δ, w, er, (Gg.bind (rel := relB) go).imp fun x H1 ⟨ρ1, M1, d1, _, e1, w1, r1, go1⟩ => ?_⟩
  cases r1
  cases x with
  | true => exact iteT (Gg.ret w1 (v := true) rfl go1)
  | false => exact iteF ⟨ρ1, M1, δ, w1, er.mono e1, by simpa using go1⟩
theorem pt_dnot (ha : PT X a (tT (X.wd T) U t1)) : PT X (.UnaryOp .Not a pos) (tT (X.wd T) U (tNot t1)) := by
  refine PT.imp (pt_not ha) fun σ H Q h => ?_
  obtain ⟨ρ, M, δ, w, er, go⟩ := h
  refine ⟨ρ, M, δ, w, er, (Gg.bind (rel := relB) go).imp fun x H1 ⟨ρ1, M1, d1, _, e1, w1, r1, go1⟩ => ?_⟩
  cases r1
  exact Gg.ret w1 (v := !x) rfl go1
theorem pd_if (ht : PT X c (tT (X.wd T) U t1)) (ha : PE X a (tE (X.wd T) U f1)) (hb : PE X b (tE (X.wd T) U f2)) : PE X (.IfExp c a b pos) (tE (X.wd T) U (eIf t1 f1 f2)) := by
  refine PE.imp (pe_ifExp ht ha hb) fun σ H Q h => ?_
  obtain ⟨ρ, M, δ, w, er, go⟩ := h
  refine ⟨ρ, M, δ, w, er, (Gg.bind (rel := relB) go).imp fun x H1 ⟨ρ1, M1, d1, _, e1, w1, r1, go1⟩ => ?_⟩
  cases r1
  cases x with
  | true => exact iteT ⟨ρ1, M1, δ, w1, er.mono e1, by simpa using go1⟩
  | false => exact iteF ⟨ρ1, M1, δ, w1, er.mono e1, by simpa using go1⟩
variable {es : List Expr} {fa fk : Ar}
theorem pa_dnil : PA X [] (tA (X.wd T) U aNil) := by
  refine PA.imp pa_nil fun σ H Q h => ?_
  obtain ⟨ρ, M, δ, w, er, go⟩ := h
  exact Gg.ret w (v := []) rfl go
theorem cons_d {W : Wd} {σ : L2.St} {H : Hp} {Q : List V → Hp → Prop} (h : tA W U (aCons f1 fa) σ H Q) : tCons (tE W U f1) (tA W U fa) σ H Q := by
  obtain ⟨ρ, M, δ, w, er, go⟩ := h
  refine ⟨ρ, M, δ, w, er, (Gg.bind (rel := relD W) go).imp fun x H1 ⟨ρ1, M1, d1, _, e1, w1, r1, go1⟩ => ?_⟩
  refine ⟨ρ1, M1, δ, w1, er.mono e1, (Gg.bind (rel := relA W) go1).imp fun y H2 ⟨ρ2, M2, d2, _, e2, w2, r2, go2⟩ => ?_⟩
  exact Gg.ret w2 (v := x :: y) ⟨x, y, rfl, r1.mono e2, r2⟩ go2
theorem pa_dcons (ha : PE X a (tE (X.wd T) U f1)) (hr : PA X es (tA (X.wd T) U fa)) (hs : starEach (a :: es) X.env = (false, eval a X.env) :: starEach es X.env := by rfl) : PA X (a :: es) (tA (X.wd T) U (aCons f1 fa)) :=
  PA.imp (pa_cons ha hr hs) fun _ _ _ h => cons_d h
theorem pk_dnil : PK X [] (tA (X.wd T) U aNil) := by
  refine PK.imp pk_nil fun σ H Q h => ?_
  obtain ⟨ρ, M, δ, w, er, go⟩ := h
  exact Gg.ret w (v := []) rfl go
theorem pk_dcons {nm : Option Str} {kpos : Pos} {kws : List Keyword} (ha : PE X a (tE (X.wd T) U f1)) (hr : PK X kws (tA (X.wd T) U fk)) : PK X (⟨nm, a, kpos⟩ :: kws) (tA (X.wd T) U (aCons f1 fk)) :=
  PK.imp (pk_cons ha hr) fun _ _ _ h => cons_d h
end
section
variable {W : Wd} {ρ : List Addr} {M : Mem} {H : Hp} {p : Addr} {o : HO}
theorem Ex.new (hp : H p = none) (ho : ∀ ps, o ≠ .tbl ps := by intro _ z; cases z) : Ex ρ H ρ (upd H p o) :=
  ⟨⟨[], by simp⟩, fun a h => by
    by_cases e : a = p
    · rw [e]; exact Fz.of hp
    · intro u hu; exact h u (by rw [upd_ne e]; exact hu), fun a u h _ _ => by rw [upd_ne (ne_of_none h hp)]; exact h, fun a u h => by rw [upd_ne (ne_of_none h hp)]; exact h, fun a u v h => by rw [upd_ne (ne_of_none h hp)]; exact h⟩
theorem WOk.there (w : WOk W ρ M H) {a : Addr} (h : a ∈ ρ) : ∃ o, H a = some o := by
  obtain ⟨l, hl, e⟩ := List.mem_iff_getElem.mp h
  have hm : l < M.length := by rw [← w.len]; exact hl
  have ob := w.obj l M[l] a (List.getElem?_eq_getElem hm) (by rw [List.getElem?_eq_getElem hl, e])
  cases hM : M[l] with
  | lst ds => rw [hM] at ob; obtain ⟨xs, q, _⟩ := ob; exact ⟨_, q⟩
  | dk kvs => rw [hM] at ob; obtain ⟨xs, q, _⟩ := ob; exact ⟨_, q⟩
  | dn kvs => rw [hM] at ob; obtain ⟨xs, q, _⟩ := ob; exact ⟨_, q⟩
theorem WOk.fresh (w : WOk W ρ M H) (hp : H p = none) : p ∉ ρ := fun h => by
  obtain ⟨o, e⟩ := w.there h
  rw [hp] at e; cases e
theorem RpO.moM {ρ' : List Addr} {H' : Hp} (e : Mo ρ H ρ' H') {o : MO} {a : Addr} (h : RpO W H ρ o a) (st : ∀ u, H a = some u → H' a = some u) : RpO W H' ρ' o a := by
  cases o with
  | lst ds => obtain ⟨xs, h1, h2⟩ := h; exact ⟨xs, st _ h1, Rps.moM e _ _ h2⟩
  | dk kvs => obtain ⟨xs, h1, h2⟩ := h; exact ⟨xs, st _ h1, Rps.moM e _ _ h2⟩
  | dn kvs => obtain ⟨es, h1, h2, h3, h4, h5, h6, h7, h8⟩ := h; exact ⟨es, st _ h1, h2, h3, h4, h5, Rps.moM e _ _ h6, Rps.moM e _ _ h7, h8⟩
theorem RpO.mono {ρ' : List Addr} {H' : Hp} (e : Ex ρ H ρ' H') {o : MO} {a : Addr} (h : RpO W H ρ o a) (st : ∀ u, H a = some u → H' a = some u) : RpO W H' ρ' o a := h.moM e.mo st
/-- a new object that is not of the store -/
theorem WOk.new (w : WOk W ρ M H) (hp : H p = none) (ho : ∀ ps, o ≠ .tbl ps := by intro _ z; cases z) : WOk W ρ M (upd H p o) :=
  ⟨w.len, w.nd, fun l u a h1 h2 => (w.obj l u a h1 h2).mono (Ex.new hp ho) fun v hv => by rw [upd_ne (ne_of_none hv hp)]; exact hv, w.tabs.ext fun b u h => by rw [upd_ne (ne_of_none h hp)]; exact h⟩
/-- an object that is not of the store, written -/
theorem Ex.put {u : HO} {H0 : Hp} {ρ0 : List Addr} (hp : H p = some u) (n : p ∉ ρ) (nt : ∀ xs, u ≠ .tup xs) (nf : ∀ ob v, u ≠ .frz ob v) (e : Ex ρ0 H0 ρ H) (h0 : Fz H0 p) (ntb : ∀ ps, u ≠ .tbl ps := by intro _ z; cases z) (ntb2 : ∀ ps, o ≠ .tbl ps := by intro _ z; cases z) : Ex ρ0 H0 ρ (upd H p o) := by
  have ne : ∀ a v, H0 a = some v → (∀ ps, v ≠ .tbl ps) → a ≠ p := fun a v h hv => h0.ne h hv
  refine ⟨e.more, fun a h => ?_, fun a v h hn ht => by rw [upd_ne (ne a v h ht)]; exact e.keep a v h hn ht, fun a v h => by rw [upd_ne (ne a _ h (fun _ z => by cases z))]; exact e.tups a v h, fun a v x h => by rw [upd_ne (ne a _ h (fun _ z => by cases z))]; exact e.frzs a v x h⟩
  by_cases q : a = p
  · rw [q]; exact h0
  · exact e.there a (fun u hu => h u (by rw [upd_ne q]; exact hu))
theorem Ex.putR {u : HO} (hp : H p = some u) (n : p ∉ ρ) (nt : ∀ xs, u ≠ .tup xs) (nf : ∀ ob v, u ≠ .frz ob v) {a : Addr} {xs : List V} (h : SqT W.K H a xs) : SqT W.K (upd H p o) a xs := by
  rcases h with (h | ⟨ob, h⟩) | h
  · exact .inl (.inl (by rw [upd_ne (fun q => by rw [q, hp] at h; exact nt _ (Option.some.inj h))]; exact h))
  · exact .inl (.inr ⟨ob, by rw [upd_ne (fun q => by rw [q, hp] at h; exact nf _ _ (Option.some.inj h))]; exact h⟩)
  · exact .inr h
/-- what lies there is laid into the store -/
theorem WOk.reg {mo : MO} (w : WOk W ρ M H) (n : p ∉ ρ) (ob : RpO W H (ρ ++ [p]) mo p) : WOk W (ρ ++ [p]) (M ++ [mo]) H := by
  have m : Mo ρ H (ρ ++ [p]) H := ⟨fun l a h => by rw [List.getElem?_append_left (List.getElem?_eq_some_iff.mp h).1]; exact h, fun _ _ h => h, fun _ _ _ h => h⟩
  refine ⟨by rw [List.length_append, List.length_append, w.len]; rfl, ?_, fun l u a h1 h2 => ?_, w.tabs⟩
  · rw [List.nodup_append]
    refine ⟨w.nd, by simp, fun a ha b hb => ?_⟩
    rw [List.mem_singleton] at hb
    subst hb
    exact fun q => n (q ▸ ha)
  · by_cases hl : l < M.length
    · rw [List.getElem?_append_left hl] at h1
      rw [List.getElem?_append_left (by rw [w.len]; exact hl)] at h2
      exact (w.obj l u a h1 h2).moM m fun _ h => h
    · have hl2 : l = M.length := by
        have := (List.getElem?_eq_some_iff.mp h1).1
        rw [List.length_append] at this
        simp at this
        omega
      subst hl2
      rw [List.getElem?_append_right (Nat.le_refl _), Nat.sub_self] at h1
      rw [← w.len, List.getElem?_append_right (Nat.le_refl _), Nat.sub_self] at h2
      cases h1; cases h2
      exact ob
theorem Ex.reg {H0 : Hp} {ρ0 : List Addr} (e : Ex ρ0 H0 ρ H) (h0 : Fz H0 p) : Ex ρ0 H0 (ρ ++ [p]) H := by
  obtain ⟨x, e1, n1⟩ := e.more
  refine ⟨⟨x ++ [p], by rw [e1, List.append_assoc], fun a ha => ?_⟩, e.there, e.keep, e.tups, e.frzs⟩
  rcases List.mem_append.mp ha with ha | ha
  · exact n1 a ha
  · rw [List.mem_singleton.mp ha]; exact h0
theorem Mo.app : Mo ρ H (ρ ++ [p]) H := ⟨fun l a h => by rw [List.getElem?_append_left (List.getElem?_eq_some_iff.mp h).1]; exact h, fun _ _ h => h, fun _ _ _ h => h⟩
/-- an object of the store, written -/
theorem Ex.write {l : Nat} {u : HO} (hl : ρ[l]? = some p) (hp : H p = some u) (nt : ∀ xs, u ≠ .tup xs) (nf : ∀ ob v, u ≠ .frz ob v) (ntb : ∀ ps, u ≠ .tbl ps := by intro _ z; cases z) (ntb2 : ∀ ps, o ≠ .tbl ps := by intro _ z; cases z) : Ex ρ H ρ (upd H p o) := by
  refine ⟨⟨[], by simp⟩, fun a h => ?_, fun a v h hn ht => ?_, fun a v h => ?_, fun a v x h => ?_⟩
  · by_cases q : a = p
    · rw [q] at h
      obtain ⟨ps, z⟩ := h o upd_same
      exact absurd z (ntb2 ps)
    · exact fun u hu => h u (by rw [upd_ne q]; exact hu)
  · rw [upd_ne (fun q => hn (by rw [q]; exact List.mem_of_getElem? hl))]; exact h
  · rw [upd_ne (fun q => by rw [q, hp] at h; exact nt _ (Option.some.inj h))]; exact h
  · rw [upd_ne (fun q => by rw [q, hp] at h; exact nf _ _ (Option.some.inj h))]; exact h
theorem nodup_at {l j : Nat} {a : Addr} (nd : ρ.Nodup) (h1 : ρ[l]? = some a) (h2 : ρ[j]? = some a) : l = j := by
  obtain ⟨x1, e1⟩ := List.getElem?_eq_some_iff.mp h1
  obtain ⟨x2, e2⟩ := List.getElem?_eq_some_iff.mp h2
  exact (List.getElem_inj nd).mp (e1.trans e2.symm)
theorem WOk.writeX {l : Nat} {u : HO} {mo : MO} (w : WOk W ρ M H) (hl : ρ[l]? = some p) (hp : H p = some u) (nt : ∀ xs, u ≠ .tup xs) (nf : ∀ ob v, u ≠ .frz ob v) (ntb : ∀ ps, u ≠ .tbl ps) (nc : ∀ q, u ≠ LamX.CodeO p q) (ob : RpO W (upd H p o) ρ mo p) (ntb2 : ∀ ps, o ≠ .tbl ps := by intro _ z; cases z) : WOk W ρ (M.set l mo) (upd H p o) := by
  refine ⟨by rw [List.length_set]; exact w.len, w.nd, fun j v a h1 h2 => ?_, fun q hq => ?_⟩
  · by_cases q : l = j
    · subst q
      rw [hl] at h2; cases h2
      rw [List.getElem?_set_self (by rw [← w.len]; exact (List.getElem?_eq_some_iff.mp hl).1)] at h1
      cases h1
      exact ob
    · rw [List.getElem?_set_ne q] at h1
      have na : a ≠ p := fun z => q (nodup_at w.nd hl (z ▸ h2))
      exact (w.obj j v a h1 h2).mono (Ex.write hl hp nt nf ntb ntb2) fun _ h => by rw [upd_ne na]; exact h
  · obtain ⟨ps, a1, a2, a3⟩ := w.tabs q hq
    refine ⟨ps, by rw [upd_ne (fun z => by rw [z, hp] at a1; exact ntb _ (Option.some.inj a1))]; exact a1, a2, fun pos cv hc => ?_⟩
    obtain ⟨c, e1, e2⟩ := a3 pos cv hc
    exact ⟨c, e1, by rw [upd_ne (fun z => by rw [z, hp] at e2; exact nc _ (Option.some.inj e2))]; exact e2⟩
theorem WOk.write {l : Nat} {u : HO} {mo : MO} (w : WOk W ρ M H) (hl : ρ[l]? = some p) (hp : H p = some u) (nt : ∀ xs, u ≠ .tup xs) (nf : ∀ ob v, u ≠ .frz ob v) (ntb : ∀ ps, u ≠ .tbl ps) (nc : ∀ c q, u ≠ LamX.CodeO c q) (ob : RpO W (upd H p o) ρ mo p) (ntb2 : ∀ ps, o ≠ .tbl ps := by intro _ z; cases z) : WOk W ρ (M.set l mo) (upd H p o) := w.writeX hl hp nt nf ntb (nc p) ob ntb2
end
end Dt
namespace Dt
open PySem PySem.Spec PyProof.Rows L2
def cap : Nat := 100000
theorem cap_le {n : Nat} (h : n ≤ cap) : n ≤ sizeLine := Nat.le_trans h (by decide)
theorem ofString_inj {a b : String} (h : Str.ofString a = Str.ofString b) : a = b := by
  rw [Str.ofString_eq_toList, Str.ofString_eq_toList] at h
  have h1 : (a.toList.map Char.toNat).toArray = (b.toList.map Char.toNat).toArray := congrArg Str.cps h
  have h2 : a.toList.map Char.toNat = b.toList.map Char.toNat := by simpa using h1
  have h3 : ∀ (l m : List Char), l.map Char.toNat = m.map Char.toNat → l = m := by
    intro l
    induction l with
    | nil => intro m e; cases m with
      | nil => rfl
      | cons c m => simp at e
    | cons c l ih => intro m e; cases m with
      | nil => simp at e
      | cons d m =>
        simp only [List.map_cons, List.cons.injEq] at e
        rw [ih m e.2]
        have e1 : c.val.toNat = d.val.toNat := e.1
        have e2 : c.val = d.val := UInt32.toNat_inj.mp e1
        rw [Char.ext e2]
  have h4 := h3 _ _ h2
  have h5 : String.ofList a.toList = String.ofList b.toList := by rw [h4]
  rwa [String.ofList_toList, String.ofList_toList] at h5
theorem ofString_append (a b : String) : Str.ofString a ++ Str.ofString b = Str.ofString (a ++ b) := by
  rw [Str.ofString_eq_toList, Str.ofString_eq_toList, Str.ofString_eq_toList]
  show (⟨(a.toList.map Char.toNat).toArray ++ (b.toList.map Char.toNat).toArray⟩ : Str) = _
  simp
theorem ofString_length (a : String) : (Str.ofString a).length = a.length := by
  rw [Str.ofString_eq_toList]
  show (a.toList.map Char.toNat).toArray.size = _
  rw [List.size_toArray, List.length_map]
  exact String.length_toList
theorem dec_of {a b : String} : decide (Str.ofString a = Str.ofString b) = decide (a = b) := by
  by_cases h : a = b
  · subst h; simp
  · rw [decide_eq_false h, decide_eq_false (fun e => h (ofString_inj e))]
mutual
def py : D → PyData
  | .non => .none
  | .bl b => .bool b
  | .int i => .int i
  | .str s => .str (Str.ofString s)
  | .tup ds => .tuple (pys ds)
  | .loc _ => .none
  | .fl _ => .none
  | .pt _ => .none
def pys : List D → List PyData
  | [] => []
  | d :: ds => py d :: pys ds
end
/-- of no place, of depth n at most -/
def eqOk : Nat → D → Bool
  | _, .non => true
  | _, .bl _ => true
  | _, .int _ => true
  | _, .str _ => true
  | n + 1, .tup ds => ds.all (eqOk n)
  | _, _ => false
mutual
def deq : D → D → Bool
  | .non, .non => true
  | .bl a, .bl b => a == b
  | .bl a, .int j => (if a then 1 else 0) == j
  | .int i, .bl b => i == (if b then 1 else 0)
  | .int i, .int j => i == j
  | .str x, .str y => x == y
  | .tup xs, .tup ys => deqs xs ys
  | _, _ => false
def deqs : List D → List D → Bool
  | [], [] => true
  | x :: xs, y :: ys => deq x y && deqs xs ys
  | _, _ => false
end
theorem depthAll_le {n : Nat} : ∀ {ds : List D}, (∀ d ∈ ds, (py d).depth ≤ n) → PyData.depthAll (pys ds) ≤ n
  | [], _ => Nat.zero_le _
  | d :: ds, h => by
    show max (py d).depth (PyData.depthAll (pys ds)) ≤ n
    exact Nat.max_le.mpr ⟨h d List.mem_cons_self, depthAll_le fun e he => h e (List.mem_cons_of_mem _ he)⟩
theorem canLayAll_of : ∀ {ds : List D}, (∀ d ∈ ds, (py d).canLay0 = true) → PyData.canLayAll0 (pys ds) = true
  | [], _ => rfl
  | d :: ds, h => by
    show ((py d).canLay0 && PyData.canLayAll0 (pys ds)) = true
    rw [h d List.mem_cons_self, canLayAll_of fun e he => h e (List.mem_cons_of_mem _ he)] <;> rfl
theorem strOk_of (s : String) : PyData.strOk (Str.ofString s) = true := by
  unfold PyData.strOk
  rw [Str.ofString_eq_toList]
  rw [Array.all_eq_true]
  intro i hi
  simp only [List.getElem_toArray, List.getElem_map, decide_eq_true_eq]
  have hv := (s.toList[i]'(by simpa using hi)).valid
  have : (s.toList[i]'(by simpa using hi)).toNat = (s.toList[i]'(by simpa using hi)).val.toNat := rfl
  rw [this]
  simp only [UInt32.isValidChar, Nat.isValidChar] at hv
  omega
theorem py_ok : ∀ (n : Nat) (d : D), eqOk n d = true → (py d).canLay0 = true ∧ (py d).depth ≤ n
  | _, .non, _ => ⟨rfl, Nat.zero_le _⟩
  | _, .bl _, _ => ⟨rfl, Nat.zero_le _⟩
  | _, .int _, _ => ⟨rfl, Nat.zero_le _⟩
  | _, .str s, _ => ⟨strOk_of s, Nat.zero_le _⟩
  | 0, .tup ds, h => by simp [eqOk] at h
  | n + 1, .tup ds, h => by
    have h1 : ds.all (eqOk n) = true := h
    have h2 : ∀ d ∈ ds, (py d).canLay0 = true ∧ (py d).depth ≤ n := fun d hd => py_ok n d (List.all_eq_true.mp h1 d hd)
    exact ⟨canLayAll_of fun d hd => (h2 d hd).1, Nat.succ_le_succ (depthAll_le fun d hd => (h2 d hd).2)⟩
  | _, .loc _, h => by cases ‹Nat› <;> simp [eqOk] at h
  | _, .fl _, h => by cases ‹Nat› <;> simp [eqOk] at h
  | _, .pt _, h => by cases ‹Nat› <;> simp [eqOk] at h
theorem shaped_of {d : D} (h : eqOk 8 d = true) : SeqAt.shaped (py d) = true := by
  obtain ⟨h1, h2⟩ := py_ok 8 d h
  unfold SeqAt.shaped
  rw [h1, decide_eq_true (by omega)] <;> rfl
mutual
theorem eqv_py : ∀ (n : Nat) (a b : D), eqOk n a = true → eqOk n b = true → PyData.eqv (py a) (py b) = deq a b
  | n, a, b, ha, hb => by
    cases a <;> cases b <;> first
      | rfl
      | (cases n <;> simp [eqOk] at ha; done)
      | (cases n <;> simp [eqOk] at hb; done)
      | skip
    · rename_i x y
      show (Str.ofString x == Str.ofString y) = (x == y)
      have := @dec_of x y
      by_cases h : x = y
      · subst h; simp
      · rw [beq_eq_false_iff_ne.mpr h, beq_eq_false_iff_ne.mpr fun e => h (ofString_inj e)]
    · rename_i xs ys
      cases n with
      | zero => simp [eqOk] at ha
      | succ n =>
        show PyData.eqvAll (pys xs) (pys ys) = deqs xs ys
        exact eqvs_py n xs ys (List.all_eq_true.mp ha) (List.all_eq_true.mp hb)
theorem eqvs_py : ∀ (n : Nat) (xs ys : List D), (∀ d ∈ xs, eqOk n d = true) → (∀ d ∈ ys, eqOk n d = true) → PyData.eqvAll (pys xs) (pys ys) = deqs xs ys
  | _, [], [], _, _ => rfl
  | _, [], _ :: _, _, _ => rfl
  | _, _ :: _, [], _, _ => rfl
  | n, x :: xs, y :: ys, hx, hy => by
    show (PyData.eqv (py x) (py y) && PyData.eqvAll (pys xs) (pys ys)) = (deq x y && deqs xs ys)
    rw [eqv_py n x y (hx x List.mem_cons_self) (hy y List.mem_cons_self), eqvs_py n xs ys (fun d hd => hx d (List.mem_cons_of_mem _ hd)) fun d hd => hy d (List.mem_cons_of_mem _ hd)]
end
section
variable {K : PySem.W.Frag} {H : Hp} {ρ : List Addr}
mutual
theorem Rp.dp : ∀ (n : Nat) (d : D) (v : V), eqOk n d = true → Rp K H ρ d v → Dp K H v (py d)
  | _, .non, _, _, h => by cases h; exact .non
  | _, .bl b, _, _, h => by cases h; exact .bl b
  | _, .int b, _, _, h => by cases h; exact .int b
  | _, .str b, _, _, h => by cases h; exact .str _
  | 0, .tup ds, _, h0, _ => by simp [eqOk] at h0
  | n + 1, .tup ds, _, h0, h => by
    obtain ⟨a, xs, rfl, h2, h3⟩ := h
    exact .tup h2 (Rps.dp n ds xs (List.all_eq_true.mp h0) h3)
  | _, .loc _, _, h0, _ => by cases ‹Nat› <;> simp [eqOk] at h0
  | _, .fl _, _, h0, _ => by cases ‹Nat› <;> simp [eqOk] at h0
  | _, .pt _, _, h0, _ => by cases ‹Nat› <;> simp [eqOk] at h0
theorem Rps.dp : ∀ (n : Nat) (ds : List D) (xs : List V), (∀ d ∈ ds, eqOk n d = true) → Rps K H ρ ds xs → DpAll K H xs (pys ds)
  | _, [], _, _, h => by cases h; exact .nil
  | n, d :: ds, _, h0, h => by
    obtain ⟨x, r, rfl, h2, h3⟩ := h
    exact .cons (Rp.dp n d x (h0 d List.mem_cons_self) h2) (Rps.dp n ds r (fun e he => h0 e (List.mem_cons_of_mem _ he)) h3)
end
end
def dEq (a b : D) (M : Mem) : Res D := if eqOk 8 a = true ∧ eqOk 8 b = true then .ok (.bl (deq a b)) M else .bad
def dNe (a b : D) (M : Mem) : Res D := if eqOk 8 a = true ∧ eqOk 8 b = true then .ok (.bl (!deq a b)) M else .bad
section
variable {W : Wd}
theorem ok_eq : OK2 W (rEqD W.K) dEq := by
  intro U σ ρ M H a b x y Q w ra rb go
  unfold dEq at go
  split at go
  · rename_i h
    refine ⟨py a, py b, ra.dp 8 a x h.1, rb.dp 8 b y h.2, shaped_of h.1, shaped_of h.2, ?_⟩
    rw [eqv_py 8 a b h.1 h.2]
    exact Gg.ret w (v := V.bl (deq a b)) rfl go
  · exact go.elim
theorem ok_ne : OK2 W (rNeD W.K) dNe := by
  intro U σ ρ M H a b x y Q w ra rb go
  unfold dNe at go
  split at go
  · rename_i h
    refine ⟨py a, py b, ra.dp 8 a x h.1, rb.dp 8 b y h.2, shaped_of h.1, shaped_of h.2, ?_⟩
    rw [eqv_py 8 a b h.1 h.2]
    exact Gg.ret w (v := V.bl (!deq a b)) rfl go
  · exact go.elim
def dI2 (g : Int → Int → D) : D → D → Mem → Res D
  | .int i, .int j, M => .ok (g i j) M
  | _, _, _ => .bad
theorem ok_i0 {gv : Int → Int → V} {g : Int → Int → D} (hg : ∀ K H ρ i j, Rp K H ρ (g i j) (gv i j)) : OK2 W (rI0 gv) (dI2 g) := by
  intro U σ ρ M H a b x y Q w ra rb go
  cases a <;> try exact go.elim
  cases b <;> try exact go.elim
  exact ⟨_, _, ra, rb, Gg.ret w (hg _ _ _ _ _) go⟩
def dI2c (C : Int → Int → Bool) (g : Int → Int → D) : D → D → Mem → Res D
  | .int i, .int j, M => if C i j = true then .ok (g i j) M else .bad
  | _, _, _ => .bad
theorem ok_ic {C : Int → Int → Prop} {Cb : Int → Int → Bool} {gv : Int → Int → V} {g : Int → Int → D} (hC : ∀ i j, Cb i j = true → C i j) (hg : ∀ K H ρ i j, Rp K H ρ (g i j) (gv i j)) : OK2 W (rI C gv) (dI2c Cb g) := by
  intro U σ ρ M H a b x y Q w ra rb go
  cases a <;> try exact go.elim
  cases b <;> try exact go.elim
  rename_i i j
  have go : Gg W U σ (relD W) ρ H (if Cb i j = true then .ok (g i j) M else .bad) Q := go
  split at go
  · rename_i h
    exact ⟨_, _, ra, rb, hC _ _ h, Gg.ret w (hg _ _ _ _ _) go⟩
  · exact go.elim
def dSub := dI2 fun i j => .int (i - j)
def dLt := dI2 fun i j => .bl (decide (i < j))
def dLe := dI2 fun i j => .bl (decide (i ≤ j))
def dGt := dI2 fun i j => .bl (decide (j < i))
def dGe := dI2 fun i j => .bl (decide (j ≤ i))
def dMod := dI2c (fun _ j => decide (0 < j)) fun i j => .int (i % j)
def dDiv := dI2c (fun _ j => decide (0 < j ∧ j < 1073741824)) fun i j => .int (i / j)
def dPow := dI2c (fun i j => decide (0 ≤ j ∧ j ≤ 1000000 ∧ i.natAbs < 2 ^ 64)) fun i j => .int (i ^ j.toNat)
def mulOk (i j : Int) : Bool := decide ((-(2 ^ 64) < i ∧ i < 2 ^ 64) ∨ (-(2 ^ 64) < j ∧ j < 2 ^ 64))
theorem ok_sub : OK2 W (rI0 fun i j => .int (i - j)) dSub := ok_i0 fun _ _ _ _ _ => rfl
theorem ok_lt : OK2 W (rI0 fun i j => .bl (decide (i < j))) dLt := ok_i0 fun _ _ _ _ _ => rfl
theorem ok_le : OK2 W (rI0 fun i j => .bl (decide (i ≤ j))) dLe := ok_i0 fun _ _ _ _ _ => rfl
theorem ok_gt : OK2 W (rI0 fun i j => .bl (decide (j < i))) dGt := ok_i0 fun _ _ _ _ _ => rfl
theorem ok_ge : OK2 W (rI0 fun i j => .bl (decide (j ≤ i))) dGe := ok_i0 fun _ _ _ _ _ => rfl
theorem ok_mod : OK2 W (rI (fun _ j => 0 < j) fun i j => .int (i % j)) dMod := ok_ic (fun _ _ h => of_decide_eq_true h) fun _ _ _ _ _ => rfl
theorem ok_div : OK2 W (rI CDiv fun i j => .int (i / j)) dDiv := ok_ic (fun i j h => by have h2 := of_decide_eq_true h; exact h2) fun _ _ _ _ _ => rfl
theorem ok_pow : OK2 W (rI CPow fun i j => .int (i ^ j.toNat)) dPow := ok_ic (fun i j h => by have h2 := of_decide_eq_true h; exact h2) fun _ _ _ _ _ => rfl
def dAdd : D → D → Mem → Res D
  | .int i, .int j, M => .ok (.int (i + j)) M
  | .str a, .str b, M => if a.length + b.length ≤ cap then .ok (.str (a ++ b)) M else .bad
  | .tup xs, .tup ys, M => if xs.length + ys.length ≤ cap then .ok (.tup (xs ++ ys)) M else .bad
  | _, _, _ => .bad
def rAddA (K : PySem.W.Frag) : R2 := fun x y H Q => rI0 (fun i j => .int (i + j)) x y H Q ∨ rCatA K x y H Q ∨ (∃ i j, x = .str i ∧ y = .str j ∧ i.length + j.length ≤ sizeLine ∧ Q (.str (i ++ j)) H)
theorem op_addA {X : Cx} : OpR X (binaryOp .Add) (rAddA X.K) := op_add.or (op_catA.or op_add_str)
theorem tup_new {U : WX} {σ : L2.St} {ρ : List Addr} {M : Mem} {H : Hp} {ds : List D} {xs : List V} {Q : VK} (w : WOk W ρ M H) (r : Rps W.K H ρ ds xs) (go : Gg W U σ (relD W) ρ H (.ok (.tup ds) M) Q) {p : Addr} (hp : H p = none) : Q (.ref p) (upd H p (.tup xs)) :=
  go (.ref p) ρ _ (Ex.new hp) (w.new hp) ⟨p, xs, rfl, SqT.of upd_same, r.mono (Ex.new hp)⟩
theorem cat_ok {U : WX} {σ : L2.St} {ρ : List Addr} {M : Mem} {H : Hp} {xs ys : List D} {x y : V} {Q : VK} (w : WOk W ρ M H) (ra : Rp W.K H ρ (.tup xs) x) (rb : Rp W.K H ρ (.tup ys) y)
    (go : Gg W U σ (relD W) ρ H (if xs.length + ys.length ≤ cap then .ok (.tup (xs ++ ys)) M else .bad) Q) : rCatA W.K x y H Q := by
  split at go
  · rename_i h
    obtain ⟨a, us, rfl, h1, h2⟩ := ra
    obtain ⟨b, vs, rfl, h3, h4⟩ := rb
    refine ⟨a, b, us, vs, rfl, rfl, h1, h3, by rw [← h2.length, ← h4.length]; exact cap_le h, fun e => ?_, fun e e2 => ?_, fun e e2 p hp => ?_⟩
    · have ex : xs = [] := h2.nil_iff.mpr e
      subst ex
      exact Gg.ret w (v := V.ref b) ⟨b, vs, rfl, h3, by simpa using h4⟩ go
    · have ey : ys = [] := h4.nil_iff.mpr e2
      subst ey
      exact Gg.ret w (v := V.ref a) ⟨a, us, rfl, h1, by simpa using h2⟩ go
    · exact tup_new w (h2.append h4) go hp
  · exact go.elim
theorem ok_add : OK2 W (rAddA W.K) dAdd := by
  intro U σ ρ M H a b x y Q w ra rb go
  cases a <;> try exact go.elim
  · cases b <;> try exact go.elim
    exact .inl ⟨_, _, ra, rb, Gg.ret w (v := V.int _) rfl go⟩
  · cases b <;> try exact go.elim
    rename_i s t
    have go : Gg W U σ (relD W) ρ H (if s.length + t.length ≤ cap then .ok (.str (s ++ t)) M else .bad) Q := go
    split at go
    · rename_i h
      refine .inr (.inr ⟨_, _, ra, rb, by rw [ofString_length, ofString_length]; exact cap_le h, ?_⟩)
      exact Gg.ret w (v := V.str _) (congrArg V.str (ofString_append s t)) go
    · exact go.elim
  · cases b <;> try exact go.elim
    exact .inr (.inl (cat_ok w ra rb go))
/-- x += y -/
theorem iop_catA {X : Cx} : True := trivial
def intsD : List D → Option (List Int)
  | [] => some []
  | .int i :: r => (intsD r).map (i :: ·)
  | _ => none
theorem intsD_rps {K : PySem.W.Frag} {H : Hp} {ρ : List Addr} : ∀ {ds : List D} {xs : List V} {ns : List Int}, intsD ds = some ns → Rps K H ρ ds xs → xs = ns.map V.int
  | [], _, _, e, h => by cases e; cases h; rfl
  | .int i :: r, _, ns, e, h => by
    obtain ⟨x, q, rfl, h2, h3⟩ := h
    have e2 : (intsD r).map (i :: ·) = some ns := e
    obtain ⟨ms, e3, rfl⟩ := Option.map_eq_some_iff.mp e2
    rw [List.map_cons, intsD_rps e3 h3, show x = V.int i from h2]
  | .non :: _, _, _, e, _ => by cases e
  | .bl _ :: _, _, _, e, _ => by cases e
  | .str _ :: _, _, _, e, _ => by cases e
  | .tup _ :: _, _, _, e, _ => by cases e
  | .loc _ :: _, _, _, e, _ => by cases e
  | .fl _ :: _, _, _, e, _ => by cases e
  | .pt _ :: _, _, _, e, _ => by cases e
def dLtT : D → D → Mem → Res D
  | .tup xs, .tup ys, M => match intsD xs, intsD ys with
    | some ns, some ms => .ok (.bl (HT.lexLt ns ms)) M
    | _, _ => .bad
  | _, _, _ => .bad
theorem ok_ltT : OK2 W (rLtT W.K) dLtT := by
  intro U σ ρ M H a b x y Q w ra rb go
  cases a <;> try exact go.elim
  cases b <;> try exact go.elim
  rename_i xs ys
  have go : Gg W U σ (relD W) ρ H (match intsD xs, intsD ys with | some ns, some ms => .ok (.bl (HT.lexLt ns ms)) M | _, _ => .bad) Q := go
  obtain ⟨p, us, rfl, h1, h2⟩ := ra
  obtain ⟨q, vs, rfl, h3, h4⟩ := rb
  cases e1 : intsD xs with
  | none => rw [e1] at go; exact go.elim
  | some ns =>
    cases e2 : intsD ys with
    | none => rw [e1, e2] at go; exact go.elim
    | some ms =>
      rw [e1, e2] at go
      rw [intsD_rps e1 h2] at h1
      rw [intsD_rps e2 h4] at h3
      exact ⟨p, q, ns, ms, rfl, rfl, h1, h3, Gg.ret w (v := V.bl _) rfl go⟩
/-- t > u: which, is left open by the caller's lemma (lexGt) -/
def lexGt (ns ms : List Int) : Bool := Ob.lexAt (fun j => decide (ns.getD j 0 = ms.getD j 0)) (fun j => decide (ms.getD j 0 < ns.getD j 0)) (decide (ns.length > ms.length)) 0 (min ns.length ms.length)
def rGtT (K : PySem.W.Frag) : R2 := fun x y H Q => ∃ (a b : Addr) (ns ms : List Int), x = .ref a ∧ y = .ref b ∧ SqT K H a (ns.map V.int) ∧ SqT K H b (ms.map V.int) ∧ Q (.bl (lexGt ns ms)) H
theorem op_gtT {X : Cx} (hu : X.A.units < cLine) : OpR X (compareOp .Gt) (rGtT X.K) := by
  intro pins s σ H x y v u Q I rx ry h
  obtain ⟨a, b, ns, ms, rfl, rfl, ha, hb, q⟩ := h
  cases rx
  cases ry
  obtain ⟨its, r1, p1, _⟩ := I.tuple ha
  obtain ⟨its2, r2, p2, _⟩ := I.tuple hb
  have i1 : IntsAre its ns := Vals.ints r1
  have i2 : IntsAre its2 ms := Vals.ints r2
  have e1 : its.toArray.size = ns.length := by rw [List.size_toArray]; exact i1.length
  have e2 : its2.toArray.size = ms.length := by rw [List.size_toArray]; exact i2.length
  have at1 : ∀ j (h1 : j < its.toArray.size), ∃ t, its.toArray[j] = .int (ns.getD j 0) t := fun j h1 => PyProof.Rows.IntsAre.int_at i1 _ _ (by simp at h1; simp [h1])
  have at2 : ∀ j (h1 : j < its2.toArray.size), ∃ t, its2.toArray[j] = .int (ms.getD j 0) t := fun j h1 => PyProof.Rows.IntsAre.int_at i2 _ _ (by simp at h1; simp [h1])
  have R := Ob.RcOp.tuples_gt (A := X.A) (s := s) (e := fun j => decide (ns.getD j 0 = ms.getD j 0)) (r := fun j => decide (ms.getD j 0 < ns.getD j 0)) p1 p2 hu (fun j h1 h2 => by
    obtain ⟨t, et⟩ := at1 j h1
    obtain ⟨t', et'⟩ := at2 j h2
    rw [et, et']
    have z : (ns.getD j 0 == ms.getD j 0) = decide (ns.getD j 0 = ms.getD j 0) := by
      by_cases q : ns.getD j 0 = ms.getD j 0
      · rw [decide_eq_true q]; exact beq_iff_eq.mpr q
      · rw [decide_eq_false q]; exact beq_eq_false_iff_ne.mpr q
    rw [← z]
    exact SeqAt.EqAt.int_int _ _ _ _) (fun j h1 h2 _ => by
    obtain ⟨t, et⟩ := at1 j h1
    obtain ⟨t', et'⟩ := at2 j h2
    rw [et, et']
    exact Ob.RcOp.gt_int _ _ _ _)
  rw [e1, e2] at R
  have z : wpAny (model X.prog X.w) X.A (compareOp .Gt (.ref a) (.ref b)) (EP X pins σ Q) X.xe s := R X.prog X.w X.xe (EP X pins σ Q) ⟨.bl _, H, I, rfl, q⟩
  exact z
def dGtT : D → D → Mem → Res D
  | .tup xs, .tup ys, M => match intsD xs, intsD ys with
    | some ns, some ms => .ok (.bl (lexGt ns ms)) M
    | _, _ => .bad
  | _, _, _ => .bad
theorem ok_gtT : OK2 W (rGtT W.K) dGtT := by
  intro U σ ρ M H a b x y Q w ra rb go
  cases a <;> try exact go.elim
  cases b <;> try exact go.elim
  rename_i xs ys
  have go : Gg W U σ (relD W) ρ H (match intsD xs, intsD ys with | some ns, some ms => .ok (.bl (lexGt ns ms)) M | _, _ => .bad) Q := go
  obtain ⟨p, us, rfl, h1, h2⟩ := ra
  obtain ⟨q, vs, rfl, h3, h4⟩ := rb
  cases e1 : intsD xs with
  | none => rw [e1] at go; exact go.elim
  | some ns =>
    cases e2 : intsD ys with
    | none => rw [e1, e2] at go; exact go.elim
    | some ms =>
      rw [e1, e2] at go
      rw [intsD_rps e1 h2] at h1
      rw [intsD_rps e2 h4] at h3
      exact ⟨p, q, ns, ms, rfl, rfl, h1, h3, Gg.ret w (v := V.bl _) rfl go⟩
def isNon : D → Bool
  | .non => true
  | _ => false
def dIsN : D → D → Mem → Res D
  | a, .non, M => .ok (.bl (isNon a)) M
  | _, _, _ => .bad
def dNotN : D → D → Mem → Res D
  | a, .non, M => .ok (.bl (!isNon a)) M
  | _, _, _ => .bad
theorem rp_non {K : PySem.W.Frag} {H : Hp} {ρ : List Addr} {a : D} {x : V} (r : Rp K H ρ a x) : decide (x = .non) = isNon a := by
  cases a with
  | non => cases r; rfl
  | bl _ => cases r; rfl
  | int _ => cases r; rfl
  | str _ => cases r; rfl
  | tup _ => obtain ⟨_, _, rfl, _⟩ := r; rfl
  | loc _ => obtain ⟨_, rfl, _⟩ := r; rfl
  | fl _ => obtain ⟨_, _, rfl, _⟩ := r; rfl
  | pt _ => obtain ⟨_, _, rfl, _⟩ := r; rfl
theorem ok_isN : OK2 W (fun x y H Q => y = .non ∧ Q (.bl (decide (x = .non))) H) dIsN := by
  intro U σ ρ M H a b x y Q w ra rb go
  cases b <;> try exact go.elim
  refine ⟨rb, ?_⟩
  rw [rp_non ra]
  exact Gg.ret w (v := V.bl (isNon a)) rfl go
theorem ok_notN : OK2 W (fun x y H Q => y = .non ∧ Q (.bl (!decide (x = .non))) H) dNotN := by
  intro U σ ρ M H a b x y Q w ra rb go
  cases b <;> try exact go.elim
  refine ⟨rb, ?_⟩
  rw [rp_non ra]
  exact Gg.ret w (v := V.bl (!isNon a)) rfl go
def strsD : List D → Option (List String)
  | [] => some []
  | .str s :: r => (strsD r).map (s :: ·)
  | _ => none
theorem strsD_rps {K : PySem.W.Frag} {H : Hp} {ρ : List Addr} : ∀ {ds : List D} {xs : List V} {ns : List String}, strsD ds = some ns → Rps K H ρ ds xs → xs = ns.map fun s => V.str (Str.ofString s)
  | [], _, _, e, h => by cases e; cases h; rfl
  | .str i :: r, _, ns, e, h => by
    obtain ⟨x, q, rfl, h2, h3⟩ := h
    have e2 : (strsD r).map (i :: ·) = some ns := e
    obtain ⟨ms, e3, rfl⟩ := Option.map_eq_some_iff.mp e2
    rw [List.map_cons, strsD_rps e3 h3, show x = V.str (Str.ofString i) from h2]
  | .non :: _, _, _, e, _ => by cases e
  | .bl _ :: _, _, _, e, _ => by cases e
  | .int _ :: _, _, _, e, _ => by cases e
  | .tup _ :: _, _, _, e, _ => by cases e
  | .loc _ :: _, _, _, e, _ => by cases e
  | .fl _ :: _, _, _, e, _ => by cases e
  | .pt _ :: _, _, _, e, _ => by cases e
def dIn (neg : Bool) : D → D → Mem → Res D
  | .str s, .tup ds, M => match strsD ds with
    | some ns => .ok (.bl (if neg then !(ns.contains s) else ns.contains s)) M
    | none => .bad
  | _, _, _ => .bad
theorem in_strs (s : String) : ∀ ns : List String, inV (.str (Str.ofString s)) (ns.map fun s => V.str (Str.ofString s)) = ns.contains s
  | [] => by unfold inV; rfl
  | n :: ns => by
    have ih := in_strs s ns
    unfold inV at ih ⊢
    rw [List.map_cons, List.any_cons, List.contains_cons, ih]
    congr 1
    show (Str.ofString n == Str.ofString s) = (s == n)
    by_cases h : s = n
    · subst h; simp
    · rw [beq_eq_false_iff_ne.mpr h, beq_eq_false_iff_ne.mpr fun e => h (ofString_inj e).symm]
theorem flat_strs : ∀ ns : List String, (ns.map fun s => V.str (Str.ofString s)).all flatV = true
  | [] => rfl
  | n :: ns => by rw [List.map_cons, List.all_cons, flat_strs ns]; rfl
theorem ok_in (neg : Bool) : OK2 W (rIn W.K neg) (dIn neg) := by
  intro U σ ρ M H a b x y Q w ra rb go
  cases a <;> try exact go.elim
  cases b <;> try exact go.elim
  rename_i s ds
  have go : Gg W U σ (relD W) ρ H (match strsD ds with | some ns => .ok (.bl (if neg then !(ns.contains s) else ns.contains s)) M | none => .bad) Q := go
  obtain ⟨q, vs, rfl, h3, h4⟩ := rb
  cases ra
  cases e1 : strsD ds with
  | none => rw [e1] at go; exact go.elim
  | some ns =>
    rw [e1] at go
    rw [strsD_rps e1 h4] at h3
    refine ⟨q, _, rfl, .inr h3, rfl, flat_strs ns, ?_⟩
    rw [in_strs]
    exact Gg.ret w (v := V.bl _) rfl go
def dIx : D → D → Mem → Res D
  | .tup ds, .int i, M => match atI ds i with
    | some d => .ok d M
    | none => .bad
  | .loc l, .int i, M => match M[l]? with
    | some (.lst ds) => (match atI ds i with
      | some d => .ok d M
      | none => .bad)
    | _ => .bad
  | _, _, _ => .bad
theorem Rps.atI {K : PySem.W.Frag} {H : Hp} {ρ : List Addr} {ds : List D} {xs : List V} {i : Int} {d : D} (h : Rps K H ρ ds xs) (e : L2.atI ds i = some d) : ∃ x, L2.atI xs i = some x ∧ Rp K H ρ d x := by
  unfold L2.atI at e ⊢
  rw [← h.length]
  cases q : ixN ds.length i with
  | none => rw [q] at e; cases e
  | some j =>
    rw [q] at e
    exact h.get e
theorem ok_ix : OK2 W (fun x y H Q => rIxT W.K x y H Q ∨ rIxL W.K x y H Q) dIx := by
  intro U σ ρ M H a b x y Q w ra rb go
  cases a <;> try exact go.elim
  · cases b <;> try exact go.elim
    rename_i ds i
    have go : Gg W U σ (relD W) ρ H (match L2.atI ds i with | some d => .ok d M | none => .bad) Q := go
    obtain ⟨p, us, rfl, h1, h2⟩ := ra
    cases rb
    cases e : L2.atI ds i with
    | none => rw [e] at go; exact go.elim
    | some d =>
      rw [e] at go
      obtain ⟨x, e2, r⟩ := h2.atI e
      exact .inl ⟨p, us, i, x, rfl, rfl, h1, e2, Gg.ret w r go⟩
  · cases b <;> try exact go.elim
    rename_i l i
    have go : Gg W U σ (relD W) ρ H (match M[l]? with | some (.lst ds) => (match L2.atI ds i with | some d => .ok d M | none => .bad) | _ => .bad) Q := go
    obtain ⟨p, rfl, h1⟩ := ra
    cases rb
    cases e : M[l]? with
    | none => rw [e] at go; exact go.elim
    | some o =>
      rw [e] at go
      cases o with
      | lst ds =>
        have ob := w.obj l _ p e h1
        obtain ⟨us, h3, h2⟩ := ob
        cases e : L2.atI ds i with
        | none => simp only [e] at go; exact go.elim
        | some d =>
          simp only [e] at go
          obtain ⟨x, e2, r⟩ := h2.atI e
          exact .inr ⟨p, us, i, x, rfl, rfl, SqL.of h3, e2, Gg.ret w r go⟩
      | _ => exact go.elim
def cutD (ds : List D) (lo hi : Option Int) : List D := (ds.drop (HT.sIx ds.length 0 lo)).take (HT.sIx ds.length ds.length hi - HT.sIx ds.length 0 lo)
theorem Rps.cut {K : PySem.W.Frag} {H : Hp} {ρ : List Addr} {ds : List D} {xs : List V} (h : Rps K H ρ ds xs) (lo hi : Option Int) : Rps K H ρ (cutD ds lo hi) (cutV xs lo hi) := by
  unfold cutD cutV
  rw [h.length]
  exact (h.drop _).take _
def dSl (a : D) (lo hi : Option Int) (M : Mem) : Res D := match a with
  | .tup ds => .ok (.tup (cutD ds lo hi)) M
  | _ => .bad
theorem cut_whole {ds : List D} {lo hi : Option Int} (h : HT.sIx ds.length 0 lo = 0 ∧ HT.sIx ds.length ds.length hi = ds.length) : cutD ds lo hi = ds := by
  unfold cutD
  rw [h.1, h.2]
  simp
theorem ok_sl {U : WX} {σ : L2.St} {ρ : List Addr} {M : Mem} {H : Hp} {a : D} {lo hi : Option Int} {x : V} {Q : VK} (w : WOk W ρ M H) (ra : Rp W.K H ρ a x) (go : Gg W U σ (relD W) ρ H (dSl a lo hi M) Q) : rSlA W.K x lo hi H Q := by
  cases a <;> try exact go.elim
  rename_i ds
  have go : Gg W U σ (relD W) ρ H (.ok (.tup (cutD ds lo hi)) M) Q := go
  obtain ⟨p, us, rfl, h1, h2⟩ := ra
  refine ⟨p, us, rfl, h1, fun z => ?_, fun _ q hq => tup_new w (h2.cut lo hi) go hq⟩
  have z2 : HT.sIx ds.length 0 lo = 0 ∧ HT.sIx ds.length ds.length hi = ds.length := by rw [h2.length]; exact z
  rw [cut_whole z2] at go
  exact Gg.ret w (v := V.ref p) ⟨p, us, rfl, h1, h2⟩ go
end
end Dt
namespace Dt
open PySem PySem.Spec PyProof.Rows L2
def Ss (W : Wd) (U : WX) (D : Ends) (ρ : List Addr) (H : Hp) (r : SR) : Prop := match r with
  | .nx δ' M' => ∀ σ' ρ' H', Ex ρ H ρ' H' → WOk W ρ' M' H' → ER W.K H' ρ' δ' σ' → D.nx σ' H'
  | .rt d M' => ∀ v ρ' H', Ex ρ H ρ' H' → WOk W ρ' M' H' → Rp W.K H' ρ' d v → D.rt v H'
  | .bk δ' M' => ∀ σ' ρ' H', Ex ρ H ρ' H' → WOk W ρ' M' H' → ER W.K H' ρ' δ' σ' → D.bk σ' H'
  | .ct δ' M' => ∀ σ' ρ' H', Ex ρ H ρ' H' → WOk W ρ' M' H' → ER W.K H' ρ' δ' σ' → D.ct σ' H'
  | .ex e δ' M' => ∀ c dd σ' ρ' H', Ex ρ H ρ' H' → WOk W ρ' M' H' → ER W.K H' ρ' δ' σ' → RpX W H' ρ' e c dd → U c dd σ' H'
  | .bad => False
def tS (W : Wd) (U : WX) (s : S) : TS := fun D σ H => ∃ ρ M δ, WOk W ρ M H ∧ ER W.K H ρ δ σ ∧ Ss W U D ρ H (s δ M)
section
variable {W : Wd} {U : WX} {D : Ends} {ρ ρ0 : List Addr} {H H0 : Hp} {r : SR} {M : Mem} {σ : L2.St}
theorem Ss.start (e0 : Ex ρ0 H0 ρ H) (h : Ss W U D ρ0 H0 r) : Ss W U D ρ H r := by
  cases r with
  | nx δ M => exact fun σ' ρ' H' e w x => h σ' ρ' H' (e0.trans e) w x
  | rt d M => exact fun σ' ρ' H' e w x => h σ' ρ' H' (e0.trans e) w x
  | bk δ M => exact fun σ' ρ' H' e w x => h σ' ρ' H' (e0.trans e) w x
  | ct δ M => exact fun σ' ρ' H' e w x => h σ' ρ' H' (e0.trans e) w x
  | ex e δ M => exact fun c dd σ' ρ' H' e w x y => h c dd σ' ρ' H' (e0.trans e) w x y
  | bad => exact h
theorem Ss.seq {k : Env → Mem → SR} (h : Ss W U D ρ H (r.seq k)) : Ss W U { D with nx := fun σ1 H1 => ∃ ρ1 M1 δ1, WOk W ρ1 M1 H1 ∧ ER W.K H1 ρ1 δ1 σ1 ∧ Ss W U D ρ1 H1 (k δ1 M1) } ρ H r := by
  cases r with
  | nx δ M => exact fun σ' ρ' H' e w x => ⟨ρ', M, δ, w, x, Ss.start e h⟩
  | rt d M => exact h
  | bk δ M => exact h
  | ct δ M => exact h
  | ex e δ M => exact h
  | bad => exact h
/-- an expression's result in a statement -/
theorem Ss.of {α β : Type} {rel : Hp → List Addr → α → β → Prop} {ra : Res α} {δ : Env} {k : α → Mem → SR} {Q : β → Hp → Prop} (er : ER W.K H ρ δ σ) (h : Ss W U D ρ H (ra.st δ k))
    (q : ∀ a M1 v ρ1 H1, ra = .ok a M1 → Ex ρ H ρ1 H1 → WOk W ρ1 M1 H1 → rel H1 ρ1 a v → ER W.K H1 ρ1 δ σ → Ss W U D ρ1 H1 (k a M1) → Q v H1) : Gg W U σ rel ρ H ra Q := by
  cases ra with
  | ok a M1 => exact fun v ρ' H' e w x => q a M1 v ρ' H' rfl e w x (er.mono e) (Ss.start e h)
  | ex e M1 => exact fun c dd ρ' H' e w x => h c dd σ ρ' H' e w (er.mono e) x
  | bad => exact h
theorem Ss.nx_ {δ : Env} (w : WOk W ρ M H) (er : ER W.K H ρ δ σ) (h : Ss W U D ρ H (.nx δ M)) : D.nx σ H := h σ ρ H Ex.refl w er
end
section
variable {X : Cx} {T : List (Addr × Str)} {U : WX} {pos : Pos} {st : Stmt} {rest : List Stmt} {s u : S} {e : Expr} {f : E}
theorem ss_nil : PSs X [] (tS (X.wd T) U sNext) := PSs.imp pss_nil fun D σ H ⟨ρ, M, δ, w, er, h⟩ => Ss.nx_ w er h
theorem ss_cons (h1 : PS X st (tS (X.wd T) U s)) (h2 : PSs X rest (tS (X.wd T) U u)) : PSs X (st :: rest) (tS (X.wd T) U (sSeq s u)) :=
  PSs.imp (pss_cons h1 h2) fun D σ H ⟨ρ, M, δ, w, er, h⟩ => ⟨ρ, M, δ, w, er, Ss.seq h⟩
theorem ss_one (h1 : PS X st (tS (X.wd T) U s)) : PSs X [st] (tS (X.wd T) U s) := pss_one h1
theorem s_ret (h : PE X e (tE (X.wd T) U f)) : PS X (.Return (some e) pos) (tS (X.wd T) U (sRet f)) :=
  PS.imp (ps_ret h) fun D σ H ⟨ρ, M, δ, w, er, h⟩ => ⟨ρ, M, δ, w, er, Ss.of (rel := relD (X.wd T)) er h fun a M1 v ρ1 H1 _ _ w1 r1 _ h1 => h1 v ρ1 H1 Ex.refl w1 r1⟩
theorem s_expr (h : PE X e (tE (X.wd T) U f)) (hs : swapsWith e none pos.line X.env = pure false := by rfl) : PS X (.Expr e pos) (tS (X.wd T) U (sExpr f)) :=
  PS.imp (ps_expr h hs) fun D σ H ⟨ρ, M, δ, w, er, h⟩ => ⟨ρ, M, δ, w, er, Ss.of (rel := relD (X.wd T)) er h fun a M1 v ρ1 H1 _ _ w1 r1 er1 h1 => Ss.nx_ w1 er1 h1⟩
theorem s_if {c : Expr} {a b : List Stmt} {t : Dt.T} (hc : PT X c (tT (X.wd T) U t)) (ha : PSs X a (tS (X.wd T) U s)) (hb : PSs X b (tS (X.wd T) U u)) : PS X (.If c a b pos) (tS (X.wd T) U (sIf t s u)) :=
  PS.imp (ps_if hc ha hb) fun D σ H ⟨ρ, M, δ, w, er, h⟩ => ⟨ρ, M, δ, w, er, Ss.of (rel := relB) er h fun a M1 v ρ1 H1 _ _ w1 r1 er1 h1 => by
    have r1 : v = a := r1
    subst r1
    cases v with
    | true => exact iteT ⟨ρ1, M1, δ, w1, er1, h1⟩
    | false => exact iteF ⟨ρ1, M1, δ, w1, er1, h1⟩⟩
/-- σ' is σ but at the slots vs -/
def Agree (vs : List Nat) (σ σ' : L2.St) : Prop := σ'.length = σ.length ∧ ∀ j, j ∉ vs → σ'[j]? = σ[j]?
def tG (W : Wd) (vs : List Nat) (g : G) : TG := fun x σ H Q => ∃ ρ δ d, ER W.K H ρ δ σ ∧ Rp W.K H ρ d x ∧ match g d δ with
  | some δ' => ∀ σ', ER W.K H ρ δ' σ' → Agree vs σ σ' → Q σ' H
  | none => False
def tGs (W : Wd) (vs : List Nat) (g : List D → Env → Option Env) : TGs := fun xs σ H Q => ∃ ρ δ ds, ER W.K H ρ δ σ ∧ Rps W.K H ρ ds xs ∧ match g ds δ with
  | some δ' => ∀ σ', ER W.K H ρ δ' σ' → Agree vs σ σ' → Q σ' H
  | none => False
theorem Agree.refl {vs : List Nat} {σ : L2.St} : Agree vs σ σ := ⟨rfl, fun _ _ => rfl⟩
theorem Agree.trans {vs : List Nat} {σ σ1 σ2 : L2.St} (a : Agree vs σ σ1) (b : Agree vs σ1 σ2) : Agree vs σ σ2 := ⟨b.1.trans a.1, fun j h => (b.2 j h).trans (a.2 j h)⟩
theorem g_name {i : Nat} {x : Str} {vs : List Nat} (hv : i ∈ vs := by simp) (hN : X.N.Nodup) (hi : X.N[i]? = some x := by rfl) (hx : Loc X.env.scope x := by first | exact .inl rfl | exact .inr rfl) (hf : X.fn x = true ∨ X.env.scope.names.lookup x = some .local := by first | exact .inl rfl | exact .inr rfl) :
    PG X (.Name x pos) (tG (X.wd T) vs (gN i)) := by
  refine ⟨fun pins s σ H v u Q I r h => (pg_name hN hi hx hf).run pins s σ H v u Q I r ?_⟩
  obtain ⟨ρ, δ, d, er, rd, h⟩ := h
  unfold gN at h
  have hl : i < δ.length := by rw [er.1, I.len]; exact (List.getElem?_eq_some_iff.mp hi).1
  rw [if_pos hl] at h
  exact h _ (er.set rd) ⟨by simp, fun j hj => List.getElem?_set_ne (fun q => hj (by rw [← q]; exact hv))⟩
theorem gs_nil {vs : List Nat} : PGs X [] (tGs (X.wd T) vs (gTs [])) := by
  refine ⟨fun pins s σ H xs us Q I r h => pgs_nil.run pins s σ H xs us Q I r ?_⟩
  obtain ⟨ρ, δ, ds, er, rd, h⟩ := h
  cases ds with
  | nil => cases rd; exact ⟨rfl, h σ er Agree.refl⟩
  | cons a b => exact h.elim
theorem gs_cons {t : Expr} {ts : List Expr} {vs : List Nat} {g : G} {gs : List G} (h1 : PG X t (tG (X.wd T) vs g)) (h2 : PGs X ts (tGs (X.wd T) vs (gTs gs))) (hs : (assignEach (t :: ts) X.env).map (·.2) = assign t X.env :: (assignEach ts X.env).map (·.2) := by rfl) :
    PGs X (t :: ts) (tGs (X.wd T) vs (gTs (g :: gs))) := by
  refine ⟨fun pins s σ H xs us Q I r h => (pgs_cons h1 h2 hs).run pins s σ H xs us Q I r ?_⟩
  obtain ⟨ρ, δ, ds, er, rd, h⟩ := h
  cases ds with
  | nil => exact h.elim
  | cons d ds =>
    obtain ⟨x, q, rfl, r1, r2⟩ := rd
    refine ⟨x, q, rfl, ρ, δ, d, er, r1, ?_⟩
    have h : (match (g d δ).bind fun δ' => gTs gs ds δ' with
      | some δ' => ∀ σ', ER X.K H ρ δ' σ' → Agree vs σ σ' → Q σ' H
      | none => False) := h
    cases e : g d δ with
    | none => rw [e] at h; exact h.elim
    | some δ1 =>
      rw [e] at h
      refine fun σ1 er1 ag => ⟨ρ, δ1, ds, er1, r2, ?_⟩
      have h : (match gTs gs ds δ1 with
        | some δ' => ∀ σ', ER X.K H ρ δ' σ' → Agree vs σ σ' → Q σ' H
        | none => False) := h
      cases e2 : gTs gs ds δ1 with
      | none => rw [e2] at h; exact h.elim
      | some δ2 =>
        rw [e2] at h
        exact fun σ2 er2 ag2 => h σ2 er2 (ag.trans ag2)
theorem g_tup {es : List Expr} {k : Nat} {n : Nat} {vs : List Nat} {gs : List G} (hc : X.calm = true) (h : PGs X es (tGs (X.wd T) vs (gTs gs)))
    (hn : (assignEach es X.env).length = n := by rfl) (hst : (assignEach es X.env).findIdx? (·.1) = none := by rfl) (hl : gs.length = n := by rfl) : PG X (.Tuple es k pos) (tG (X.wd T) vs (gT gs)) := by
  refine ⟨fun pins s σ H v u Q I r h' => (pg_tup hc h hn hst).run pins s σ H v u Q I r ?_⟩
  obtain ⟨ρ, δ, d, er, rd, h'⟩ := h'
  cases d with
  | tup ds =>
    obtain ⟨a, xs, rfl, h1, h2⟩ := rd
    refine ⟨a, xs, rfl, h1, ?_, ρ, δ, ds, er, h2, h'⟩
    have len : ∀ (gs : List G) (ds : List D) (δ δ' : Env), gTs gs ds δ = some δ' → gs.length = ds.length := by
      intro gs
      induction gs with
      | nil => intro ds δ δ' e; cases ds with
        | nil => rfl
        | cons _ _ => cases e
      | cons g gs ih => intro ds δ δ' e; cases ds with
        | nil => cases e
        | cons d ds =>
          have e : (g d δ).bind (fun δ' => gTs gs ds δ') = some δ' := e
          cases q : g d δ with
          | none => rw [q] at e; cases e
          | some δ1 => rw [q] at e; rw [List.length_cons, List.length_cons, ih ds δ1 δ' e]
    rw [← h2.length]
    cases e : gTs gs ds δ with
    | none => unfold gT at h'; simp only [e] at h'
    | some δ' => rw [← len gs ds δ δ' e, hl]
  | _ => exact h'.elim
theorem s_asg {tg : Expr} {g : G} {vs : List Nat} (he : PE X e (tE (X.wd T) U f)) (hg : PG X tg (tG (X.wd T) vs g)) (hs : swapsWithSole [tg] e pos.line X.env = pure false := by rfl) (hw : swappedStores [tg] e X.env = pure none := by rfl)
    (h1 : (assignEach [tg] X.env).map (·.2) = [assign tg X.env] := by rfl) : PS X (.Assign [tg] e pos) (tS (X.wd T) U (sAsg g f)) :=
  PS.imp (ps_asg he hg hs hw h1) fun D σ H ⟨ρ, M, δ, w, er, h⟩ => ⟨ρ, M, δ, w, er, Ss.of (rel := relD (X.wd T)) er h fun a M1 v ρ1 H1 _ _ w1 r1 er1 h1 => by
    refine ⟨ρ1, δ, a, er1, r1, ?_⟩
    cases q : g a δ with
    | none => rw [q] at h1; exact h1.elim
    | some δ' => rw [q] at h1; exact fun σ' er' _ => Ss.nx_ w1 er' h1⟩
/-- x = e, x a name -/
theorem s_set {i : Nat} {x : Str} {pos' : Pos} (hN : X.N.Nodup) (he : PE X e (tE (X.wd T) U f)) (hi : X.N[i]? = some x := by rfl) (hx : Loc X.env.scope x := by first | exact .inl rfl | exact .inr rfl) (hs : swapsWith e (some (.Name x pos')) pos.line X.env = pure false := by rfl)
    (hf : X.fn x = true ∨ X.env.scope.names.lookup x = some .local := by first | exact .inl rfl | exact .inr rfl) : PS X (.Assign [.Name x pos'] e pos) (tS (X.wd T) U (sAsg (gN i) f)) := by
  refine ⟨fun pins s σ H D I h => (ps_set hN hi hx he hs hf).run pins s σ H D I ?_⟩
  obtain ⟨ρ, M, δ, w, er, h⟩ := h
  have hl : i < δ.length := by rw [er.1, I.len]; exact (List.getElem?_eq_some_iff.mp hi).1
  refine ⟨ρ, M, δ, w, er, Ss.of (rel := relD (X.wd T)) er h fun a M1 v ρ1 H1 _ _ w1 r1 er1 h1 => ?_⟩
  have e1 : gN i a δ = some (δ.set i (some a)) := if_pos hl
  rw [e1] at h1
  exact Ss.nx_ w1 (er1.set r1) h1
/-- J yields the data ds, from H on -/
def ItOk (W : Wd) (J : It) (ρ0 : List Addr) (H0 : Hp) (ds : List D) : Prop := ∀ (i : Nat) (ρ' : List Addr) (H' : Hp), Ex ρ0 H0 ρ' H' → (∀ d, ds[i]? = some d → J.go i H' ∧ ∀ x H2, J.yld i H' x H2 → Ex ρ' H' ρ' H2 ∧ (∀ M', WOk W ρ' M' H' → WOk W ρ' M' H2) ∧ Rp W.K H2 ρ' d x) ∧
  (ds.length ≤ i → J.stop i H')
def tI (W : Wd) (U : WX) (f : Ar) : TI := fun σ H R => ∃ ρ M δ, WOk W ρ M H ∧ ER W.K H ρ δ σ ∧ Gg W U σ (fun H1 ρ1 ds J => ItOk W J ρ1 H1 ds) ρ H (f δ M) R
theorem PI.imp {tg iter : Expr} {t t' : TI} (h : PI X tg iter t) (q : ∀ σ H R, t' σ H R → t σ H R) : PI X tg iter t' := ⟨fun pins s σ H R I x => h.run pins s σ H R I (q σ H R x)⟩
/-- a tuple walked -/
def iTupD (a : E) : Ar := fun δ M => (a δ M).bind fun d M => match d with
  | .tup ds => .ok ds M
  | _ => .bad
theorem i_tup {tg : Expr} (h : PE X e (tE (X.wd T) U f)) : PI X tg e (tI (X.wd T) U (iTupD f)) := by
  refine PI.imp (pi_tup h) fun σ H R ⟨ρ, M, δ, w, er, go⟩ => ⟨ρ, M, δ, w, er, (Gg.bind (rel := relD (X.wd T)) go).imp fun x H1 ⟨ρ1, M1, d1, _, e1, w1, r1, go1⟩ => ?_⟩
  cases d1 with
  | tup ds =>
    obtain ⟨a, xs, rfl, h1, h2⟩ := r1
    refine ⟨a, rfl, ⟨xs, h1⟩, Gg.ret w1 (fun i ρ' H' e => ⟨fun d hd => ?_, fun hi => ⟨xs, e.sqT h1, by rw [← h2.length]; exact hi⟩⟩) go1⟩
    obtain ⟨x, hx, rx⟩ := (h2.mono e).get hd
    refine ⟨⟨xs, x, e.sqT h1, hx⟩, fun y H2 ⟨q1, q2⟩ => ?_⟩
    subst q1
    have q3 := q2 xs (e.sqT h1)
    rw [hx] at q3; cases q3
    exact ⟨Ex.refl, fun _ w => w, rx⟩
  | _ => exact go1.elim
/-- range(n), range(a, b) -/
def rngD (lo : Int) (n : Nat) : List D := (List.range n).map fun (i : Nat) => D.int (lo + (i : Int))
def iRng1D (a : Ar) : Ar := fun δ M => (a δ M).bind fun ds M => match ds with
  | [.int j] => if -(2 ^ 62) ≤ j ∧ j < 2 ^ 62 then .ok (rngD 0 j.toNat) M else .bad
  | _ => .bad
theorem rng_get {lo : Int} {n i : Nat} {d : D} (h : (rngD lo n)[i]? = some d) : i < n ∧ d = .int (lo + (i : Int)) := by
  unfold rngD at h
  rw [List.getElem?_map] at h
  obtain ⟨j, h1, h2⟩ := Option.map_eq_some_iff.mp h
  obtain ⟨h3, h4⟩ := List.getElem?_eq_some_iff.mp h1
  rw [List.getElem_range] at h4
  subst h4
  rw [List.length_range] at h3
  exact ⟨h3, h2.symm⟩
theorem itOk_rng {W : Wd} {lo : Int} {n : Nat} {ρ : List Addr} {H : Hp} : ItOk W (Itr lo n) ρ H (rngD lo n) := fun i ρ' H' e => ⟨fun d hd => by
  obtain ⟨h1, rfl⟩ := rng_get hd
  refine ⟨h1, fun x H2 ⟨q1, q2⟩ => ?_⟩
  subst q1 q2
  exact ⟨Ex.refl, fun _ w => w, rfl⟩, fun hi => by
  unfold rngD at hi
  rw [List.length_map, List.length_range] at hi
  exact hi⟩
theorem i_rng1 {tg a : Expr} {p : Pos} {fa : Ar} (hm : X.mg "range" = none) (hg : Gl X "range" := by rfl) (ha : PA X [a] (tA (X.wd T) U fa)) (hs : starEach [a] X.env = [(false, eval a X.env)] := by rfl) : PI X tg (.Call (.Name "range" p) [a] [] pos) (tI (X.wd T) U (iRng1D fa)) := by
  refine PI.imp (pi_range1 hg hm ha hs) fun σ H R ⟨ρ, M, δ, w, er, go⟩ => ⟨ρ, M, δ, w, er, (Gg.bind (rel := relA (X.wd T)) go).imp fun x H1 ⟨ρ1, M1, d1, _, e1, w1, r1, go1⟩ => ?_⟩
  cases d1 with
  | nil => exact go1.elim
  | cons d ds =>
    cases d <;> try exact go1.elim
    cases ds <;> try exact go1.elim
    obtain ⟨y, q, rfl, r2, r3⟩ := r1
    cases r2
    cases r3
    simp only at go1
    split at go1
    · rename_i hj
      exact ⟨_, rfl, hj.1, hj.2, Gg.ret w1 itOk_rng go1⟩
    · exact go1.elim
theorem loop_cons (g : G) (b : S) (d : D) (ds : List D) (δ : Env) (M : Mem) : loop g b (d :: ds) δ M = (match g d δ with
    | none => .bad
    | some δ' => match b δ' M with
      | .nx δ2 M2 => loop g b ds δ2 M2
      | .ct δ2 M2 => loop g b ds δ2 M2
      | .bk δ2 M2 => .nx δ2 M2
      | .rt d M2 => .rt d M2
      | .ex e δ2 M2 => .ex e δ2 M2
      | .bad => .bad) := rfl
theorem s_for {tg iter : Expr} {body : List Stmt} {it : Ar} {g : G} {vs : List Nat} (hp : PassesOwn (model X.prog X.w) X.A X.env X.xe) (hc : X.calm = true) (hi : PI X tg iter (tI (X.wd T) U it)) (hg : PG X tg (tG (X.wd T) vs g)) (hb : PSs X body (tS (X.wd T) U s))
    (hs : ∀ x, foldedSetIterable iter X.env x = pure x := by intro _; rfl) : PS X (.For tg iter body [] pos) (tS (X.wd T) U (sFor it g s)) := by
  refine PS.imp (ps_for hp hc hi hg hb hs) fun D σ H ⟨ρ, M, δ, w, er, h⟩ => ⟨ρ, M, δ, w, er, Ss.of er h fun ds M1 J ρ1 H1 _ _ w1 io er1 h1 => ?_⟩
  refine ⟨fun i m σ' H' => m = ds.length - i ∧ i ≤ ds.length ∧ ∃ ρ' M' δ', Ex ρ1 H1 ρ' H' ∧ WOk (X.wd T) ρ' M' H' ∧ ER X.K H' ρ' δ' σ' ∧ Ss (X.wd T) U D ρ' H' (loop g s (ds.drop i) δ' M'), ⟨ds.length, by simp, Nat.zero_le _, ρ1, M1, δ, Ex.refl, w1, er1, by simpa using h1⟩, ?_⟩
  rintro i m σ' H' ⟨rfl, hi', ρ', M', δ', e', w', er', h'⟩
  obtain ⟨go, stop⟩ := io i ρ' H' e'
  by_cases hlt : i < ds.length
  · have hd : ds.drop i = ds[i] :: ds.drop (i + 1) := (List.drop_eq_getElem_cons hlt)
    rw [hd, loop_cons] at h'
    obtain ⟨g1, g2⟩ := go ds[i] (List.getElem?_eq_getElem hlt)
    refine .inr ⟨g1, fun σ2 H2 => ∃ ρ2 M2 δ2, Ex ρ1 H1 ρ2 H2 ∧ WOk (X.wd T) ρ2 M2 H2 ∧ ER X.K H2 ρ2 δ2 σ2 ∧ Ss (X.wd T) U D ρ2 H2 (loop g s (ds.drop (i + 1)) δ2 M2), fun σ2 H2 q => ⟨ds.length - (i + 1), by omega, rfl, hlt, q⟩, fun x H2 y => ?_⟩
    obtain ⟨ex2, w2, r2⟩ := g2 x H2 y
    refine ⟨ρ', δ', ds[i], er'.mono ex2, r2, ?_⟩
    cases q : g ds[i] δ' with
    | none => rw [q] at h'; exact h'.elim
    | some δ3 =>
      simp only [q] at h'
      refine fun σ3 er3 _ => ⟨ρ', M', δ3, w2 M' w', er3, ?_⟩
      cases qs : s δ3 M' with
      | nx δ4 M4 =>
        simp only [qs] at h'
        exact fun σ4 ρ4 H4 e4 w4 er4 => ⟨ρ4, M4, δ4, (e'.trans ex2).trans e4, w4, er4, Ss.start (ex2.trans e4) h'⟩
      | ct δ4 M4 =>
        simp only [qs] at h'
        exact fun σ4 ρ4 H4 e4 w4 er4 => ⟨ρ4, M4, δ4, (e'.trans ex2).trans e4, w4, er4, Ss.start (ex2.trans e4) h'⟩
      | bk δ4 M4 =>
        simp only [qs] at h'
        exact fun σ4 ρ4 H4 e4 w4 er4 => h' σ4 ρ4 H4 (ex2.trans e4) w4 er4
      | rt d4 M4 =>
        simp only [qs] at h'
        exact fun v4 ρ4 H4 e4 w4 r4 => h' v4 ρ4 H4 (ex2.trans e4) w4 r4
      | ex e4 δ4 M4 =>
        simp only [qs] at h'
        exact fun c dd σ4 ρ4 H4 e4 w4 er4 x4 => h' c dd σ4 ρ4 H4 (ex2.trans e4) w4 er4 x4
      | bad =>
        simp only [qs] at h'
        exact h'.elim
  · have ei : i = ds.length := by omega
    subst ei
    rw [List.drop_length] at h'
    exact .inl ⟨stop (Nat.le_refl _), Ss.nx_ w' er' h'⟩
end
section
theorem wipe_get : ∀ (vs : List Nat) (σ : L2.St) (j : Nat), (L2.wipe σ vs)[j]? = if j ∈ vs then (if j < σ.length then some none else none) else σ[j]? := by
  intro vs
  induction vs with
  | nil => intro σ j; simp [L2.wipe]
  | cons v vs ih =>
    intro σ j
    show ((L2.wipe σ vs).set v none)[j]? = _
    rw [List.getElem?_set]
    by_cases e : v = j
    · subst e
      rw [if_pos rfl, if_pos (List.mem_cons_self), wipe_length]
    · rw [if_neg e, ih]
      by_cases m : j ∈ vs
      · rw [if_pos m, if_pos (List.mem_cons_of_mem _ m)]
      · rw [if_neg m, if_neg (fun q => (List.mem_cons.mp q).elim (fun z => e z.symm) m)]
theorem wipe_agree {vs : List Nat} {σ σ' : L2.St} (h : Agree vs (L2.wipe σ vs) σ') : L2.wipe σ' vs = L2.wipe σ vs := by
  apply List.ext_getElem?
  intro j
  have hl : σ'.length = σ.length := h.1.trans (wipe_length _ _)
  rw [wipe_get, wipe_get, hl]
  by_cases m : j ∈ vs
  · rw [if_pos m, if_pos m]
  · rw [if_neg m, if_neg m, h.2 j m, wipe_get, if_neg m]
theorem ER.wipe {K : PySem.W.Frag} {H : Hp} {ρ : List Addr} : ∀ (vs : List Nat) {δ : Env} {σ : L2.St}, ER K H ρ δ σ → ER K H ρ (wipeE δ vs.reverse) (L2.wipe σ vs) := by
  intro vs
  induction vs with
  | nil => intro δ σ h; exact h
  | cons v vs ih =>
    intro δ σ h
    unfold wipeE
    rw [List.reverse_cons, List.foldl_append]
    have h1 := ih h
    refine ⟨by show ((wipeE δ vs.reverse).set v none).length = ((L2.wipe σ vs).set v none).length; rw [List.length_set, List.length_set]; exact h1.1, fun j d x => ?_⟩
    have x : ((wipeE δ vs.reverse).set v none)[j]? = some (some d) := x
    show ∃ u, ((L2.wipe σ vs).set v none)[j]? = some (some u) ∧ _
    by_cases e : v = j
    · subst e
      rw [List.getElem?_set] at x
      simp only [if_true] at x
      split at x <;> cases x
    · rw [List.getElem?_set_ne e] at x ⊢
      exact h1.2 j d x
variable {X : Cx} {T : List (Addr × Str)} {U : WX} {pos : Pos}
def UF : WX := fun _ _ _ _ => False
theorem pts_dnil {Y : Cx} : PTs Y [] (tT (Y.wd T) UF Dt.tYes) := ⟨fun pins s σ H Q I h => pts_nil.run pins s σ H Q I (by
  obtain ⟨ρ, M, δ, w, er, go⟩ := h
  exact Gg.ret w (v := true) rfl go)⟩
theorem pts_done {Y : Cx} {c : Expr} {t : Dt.T} (h : PT Y c (tT (Y.wd T) UF t)) : PTs Y [c] (tT (Y.wd T) UF t) := pts_one h
theorem lcGo_len {g : G} {t : Dt.T} {e : E} {δ : Env} : ∀ {ds : List D} {M M' : Mem} {xs : List D}, lcGo g t e δ ds M = .ok xs M' → xs.length ≤ ds.length
  | [], _, _, _, h => by cases h; simp
  | d :: ds, M, M', xs, h => by
    unfold lcGo at h
    cases q : g d δ with
    | none => rw [q] at h; cases h
    | some δ' =>
      simp only [q] at h
      cases qt : t δ' M with
      | bad => rw [qt] at h; cases h
      | ex _ _ => rw [qt] at h; cases h
      | ok c M1 =>
        rw [qt] at h
        simp only [Res.ne_ok, Res.bind_ok] at h
        split at h
        · cases qe : e δ' M1 with
          | bad => rw [qe] at h; cases h
          | ex _ _ => rw [qe] at h; cases h
          | ok x M2 =>
            rw [qe] at h
            simp only [Res.ne_ok, Res.bind_ok] at h
            cases ql : lcGo g t e δ ds M2 with
            | bad => rw [ql] at h; cases h
            | ex _ _ => rw [ql] at h; cases h
            | ok ys M3 =>
              rw [ql] at h
              simp only [Res.bind_ok] at h
              injection h with h1 h2
              subst h1
              have := lcGo_len ql
              simp only [List.length_cons]
              omega
        · have := lcGo_len h
          simp only [List.length_cons]
          omega
/-- the reading of a comprehension: what is walked, target, test, element -/
theorem lc_read {W : Wd} {it : Ar} {g : G} {t : Dt.T} {el : E} {vs : List Nat} {σ : L2.St} {H : Hp} {Q : VK} (h : tL W U (lLc it g t el vs.reverse) σ H Q) :
    tLc (tI W U it) (tG W vs g) (tT W UF t) (tE W UF el) vs σ H Q := by
  obtain ⟨ρ, M, δ, w, er, go⟩ := h
  have go : Gg W U σ (relL W H) ρ H ((it δ M).bind fun ds M => if ds.length ≤ 100000 then lcGo g t el (wipeE δ vs.reverse) ds M else .bad) Q := go
  refine ⟨ρ, M, δ, w, er, (Gg.bind (rel := fun H1 ρ1 ds J => ItOk W J ρ1 H1 ds) go).imp fun J H1 ⟨ρ1, M1, ds, q0, e1, w1, io, go1⟩ => ?_⟩
  have hcd : ds.length ≤ cap := by
    split at go1
    · assumption
    · exact go1.elim
  rw [if_pos (show ds.length ≤ 100000 from hcd)] at go1
  intro Dl hD
  -- the rest of the list is still to come
  refine ⟨fun i m H' => m = ds.length - i ∧ i ≤ ds.length ∧ ∃ (ρ' : List Addr) (M' : Mem) (acc : List V) (dacc : List D), Ex ρ1 H1 ρ' H' ∧ WOk W ρ' M' H' ∧ H' Dl = some (.lst acc) ∧ Dl ∉ ρ' ∧ Rps W.K H' ρ' dacc acc ∧ dacc.length ≤ i ∧
      Gg W U σ (relL W H) ρ1 H1 ((lcGo g t el (wipeE δ vs.reverse) (ds.drop i) M').bind fun xs M => .ok (dacc ++ xs) M) Q, ⟨ds.length, by simp, Nat.zero_le _, ρ1, M1, [], [], Ex.new hD, w1.new hD, upd_same, w1.fresh hD, rfl, Nat.le_refl _, ?_⟩, ?_⟩
  · rw [List.drop_zero]
    have z : ((lcGo g t el (wipeE δ vs.reverse) ds M1).bind fun xs M => (.ok ([] ++ xs) M : Res (List D))) = lcGo g t el (wipeE δ vs.reverse) ds M1 := by
      cases lcGo g t el (wipeE δ vs.reverse) ds M1 <;> rfl
    rw [z]
    exact go1
  rintro i m H' ⟨rfl, hi', ρ', M', acc, dacc, e', w', hDl, nD, rac, lac, h'⟩
  obtain ⟨go, stop⟩ := io i ρ' H' e'
  by_cases hlt : i < ds.length
  · have hd : ds.drop i = ds[i] :: ds.drop (i + 1) := (List.drop_eq_getElem_cons hlt)
    rw [hd] at h'
    obtain ⟨g1, g2⟩ := go ds[i] (List.getElem?_eq_getElem hlt)
    refine .inr ⟨g1, fun H2 => i + 1 ≤ ds.length ∧ ∃ (ρ2 : List Addr) (M2 : Mem) (acc : List V) (dacc : List D), Ex ρ1 H1 ρ2 H2 ∧ WOk W ρ2 M2 H2 ∧ H2 Dl = some (.lst acc) ∧ Dl ∉ ρ2 ∧ Rps W.K H2 ρ2 dacc acc ∧ dacc.length ≤ i + 1 ∧
      Gg W U σ (relL W H) ρ1 H1 ((lcGo g t el (wipeE δ vs.reverse) (ds.drop (i + 1)) M2).bind fun xs M => .ok (dacc ++ xs) M) Q, fun H2 q => ⟨ds.length - (i + 1), by omega, rfl, q⟩, fun x H2 y => ?_⟩
    obtain ⟨ex2, w2, r2⟩ := g2 x H2 y
    have w2 := w2 M' w'
    have hDl2 : H2 Dl = some (.lst acc) := ex2.keep _ _ hDl nD fun ps z => by cases z
    refine ⟨ρ', wipeE δ vs.reverse, ds[i], ER.wipe vs ((er.mono e1).mono (e'.trans ex2)), r2, ?_⟩
    unfold lcGo at h'
    cases q : g ds[i] (wipeE δ vs.reverse) with
    | none => rw [q] at h'; exact h'.elim
    | some δ3 =>
      simp only [q] at h'
      refine fun σ3 er3 ag => ⟨wipe_agree ag, ρ', M', δ3, w2, er3, ?_⟩
      cases qt : t δ3 M' with
      | bad => rw [qt] at h'; exact h'.elim
      | ex e M3 => rw [qt] at h'; exact h'.elim
      | ok c M3 =>
        rw [qt] at h'
        intro b ρ3 H3 e3 w3 rb
        have rb : b = c := rb
        subst rb
        have hDl3 : H3 Dl = some (.lst acc) := e3.keep _ _ hDl2 nD fun ps z => by cases z
        have e13 := (e'.trans ex2).trans e3
        have nD3 : Dl ∉ ρ3 := fun z => by
          obtain ⟨x, q1, q2⟩ := e13.more
          obtain ⟨x2, q3, q4⟩ := (ex2.trans e3).more
          rw [q3] at z
          rcases List.mem_append.mp z with z | z
          · exact nD z
          · exact (q4 _ z).ne hDl (fun _ z => by cases z) rfl
        cases b with
        | false =>
          refine iteF ⟨hlt, ρ3, M3, acc, dacc, e13, w3, hDl3, nD3, (rac.mono ex2).mono e3, Nat.le_succ_of_le lac, ?_⟩
          exact h'
        | true =>
          refine iteT ⟨ρ3, M3, δ3, w3, er3.mono e3, ?_⟩
          simp only [Res.ne_ok, Res.bind_ok, if_true] at h'
          cases qe : el δ3 M3 with
          | bad => rw [qe] at h'; exact h'.elim
          | ex e M4 => rw [qe] at h'; exact h'.elim
          | ok y M4 =>
            rw [qe] at h'
            simp only [Res.ne_ok, Res.bind_ok] at h'
            intro yv ρ4 H4 e4 w4 r4
            have hDl4 : H4 Dl = some (.lst acc) := e4.keep _ _ hDl3 nD3 fun ps z => by cases z
            have nD4 : Dl ∉ ρ4 := fun z => by
              obtain ⟨x2, q3, q4⟩ := e4.more
              rw [q3] at z
              rcases List.mem_append.mp z with z | z
              · exact nD3 z
              · exact (q4 _ z).ne hDl3 (fun _ z => by cases z) rfl
            have rac4 : Rps W.K H4 ρ4 dacc acc := ((rac.mono ex2).mono e3).mono e4
            have up : Mo ρ4 H4 ρ4 (upd H4 Dl (.lst (acc ++ [yv]))) := ⟨fun _ _ h => h, fun a xs h => by rw [upd_ne (fun z => by rw [z, hDl4] at h; cases h)]; exact h, fun a o u h => by rw [upd_ne (fun z => by rw [z, hDl4] at h; cases h)]; exact h⟩
            have e14 : Ex ρ1 H1 ρ4 H4 := e13.trans e4
            refine ⟨acc, hDl4, ?_, hlt, ρ4, M4, acc ++ [yv], dacc ++ [y], Ex.put hDl4 nD4 (fun _ z => by cases z) (fun _ _ z => by cases z) e14 (Fz.of hD), ?_, upd_same, nD4, ?_, by rw [List.length_append]; simp; exact lac, ?_⟩
            · rw [← rac4.length]
              exact Nat.lt_of_le_of_lt (Nat.le_trans (Nat.le_trans lac hi') hcd) (by decide)
            · refine ⟨w4.len, w4.nd, fun l u a h1 h2 => (w4.obj l u a h1 h2).moM up fun v hv => ?_, fun q hq => ?_⟩
              · rw [upd_ne (fun z => nD4 (by rw [← z]; exact List.mem_of_getElem? h2))]; exact hv
              · obtain ⟨ps, a1, a2, a3⟩ := w4.tabs q hq
                refine ⟨ps, by rw [upd_ne (fun z => by rw [z, hDl4] at a1; cases a1)]; exact a1, a2, fun pos cv hc => ?_⟩
                obtain ⟨c, f1, f2⟩ := a3 pos cv hc
                exact ⟨c, f1, by rw [upd_ne (fun z => by rw [z, hDl4] at f2; unfold LamX.CodeO at f2; cases f2)]; exact f2⟩
            · exact Rps.append (Rps.moM up _ _ rac4) ⟨yv, [], rfl, Rp.moM up _ _ r4, rfl⟩
            · have z : ((lcGo g t el (wipeE δ vs.reverse) (ds.drop (i + 1)) M4).bind fun xs M => (.ok (dacc ++ [y] ++ xs) M : Res (List D))) =
                  (((lcGo g t el (wipeE δ vs.reverse) (ds.drop (i + 1)) M4).bind fun xs M => .ok (y :: xs) M).bind fun xs M => .ok (dacc ++ xs) M) := by
                cases lcGo g t el (wipeE δ vs.reverse) (ds.drop (i + 1)) M4 <;> simp
              rw [z]
              exact h'
  · have ei : i = ds.length := by omega
    subst ei
    rw [List.drop_length] at h'
    refine .inl ⟨stop (Nat.le_refl _), ?_⟩
    have h' : Gg W U σ (relL W H) ρ1 H1 (.ok (dacc ++ []) M') Q := h'
    rw [List.append_nil] at h'
    exact h' (V.ref Dl) ρ' H' e' w' ⟨Dl, acc, rfl, e1.free hD, nD, hDl, rac⟩
end
end Dt
namespace Dt
open PySem PySem.Spec PyProof.Rows L2
section
variable {X : Cx} {T : List (Addr × Str)} {U : WX} {pos : Pos} {e a b : Expr} {es : List Expr} {f : E} {l fa : Ar}
theorem lst_new {W : Wd} {U : WX} {σ : L2.St} {ρ0 ρ : List Addr} {M : Mem} {H0 H : Hp} {ds : List D} {xs : List V} {Q : VK} (e0 : Ex ρ0 H0 ρ H) (w : WOk W ρ M H) (r : Rps W.K H ρ ds xs) (go : Gg W U σ (relL W H0) ρ H (.ok ds M) Q) {p : Addr} (hp : H p = none) : Q (.ref p) (upd H p (.lst xs)) :=
  go (.ref p) ρ _ (Ex.new hp) (w.new hp) ⟨p, xs, rfl, e0.free hp, w.fresh hp, upd_same, r.mono (Ex.new hp)⟩
/-- a written list -/
def lDisp (a : Ar) : Ar := fun δ M => (a δ M).bind fun ds M => if ds.length ≤ cap then .ok ds M else .bad
theorem pl_disp (h : PA X es (tA (X.wd T) U fa)) : PE X (.List es pos) (tL (X.wd T) U (lDisp fa)) := by
  refine PE.imp (pe_lst h) fun σ H Q ⟨ρ, M, δ, w, er, go⟩ => ⟨ρ, M, δ, w, er, (Gg.bind (rel := relA (X.wd T)) go).imp fun xs H1 ⟨ρ1, M1, ds, _, e1, w1, r1, go1⟩ => ?_⟩
  split at go1
  · rename_i hc
    exact ⟨by rw [← r1.length]; exact cap_le hc, fun p hp => lst_new e1 w1 r1 go1 hp⟩
  · exact go1.elim
/-- a written tuple -/
def dTup (ds : List D) (M : Mem) : Res D := if ds.length ≤ cap then .ok (.tup ds) M else .bad
theorem pd_tup {k : Nat} (h : PA X es (tA (X.wd T) U fa)) : PE X (.Tuple es k pos) (tE (X.wd T) U (eN dTup fa)) := by
  refine PE.imp (pe_tup h) fun σ H Q ⟨ρ, M, δ, w, er, go⟩ => ⟨ρ, M, δ, w, er, (Gg.bind (rel := relA (X.wd T)) go).imp fun xs H1 ⟨ρ1, M1, ds, _, e1, w1, r1, go1⟩ => ?_⟩
  unfold dTup at go1
  split at go1
  · rename_i hc
    exact ⟨by rw [← r1.length]; exact cap_le hc, fun p hp => tup_new w1 r1 go1 hp⟩
  · exact go1.elim
theorem pl_lc {elt tg iter : Expr} {ifs : List Expr} {scope : Scope} {own : List (Str × Nat)} {it : Ar} {g : G} {t : Dt.T} {el : E} (hc : X.calm = true) (hN : X.N.Nodup) (hi : PI X tg iter (tI (X.wd T) U it)) (ok : BlkOk X.N X.env.scope scope own)
    (hg : ∀ (s : Shared) (H : Hp) (C : Addr) (cl : List (Str × Addr)) (fp : List Addr), PG (X.blk s H scope (compEnvC scope cl C X.env) fp) tg (tG (X.wd T) (own.map (·.2)) g))
    (ht : ∀ (s : Shared) (H : Hp) (C : Addr) (cl : List (Str × Addr)) (fp : List Addr), PTs (X.blk s H scope (compEnvC scope cl C X.env) fp) ifs (tT (X.wd T) UF t))
    (he : ∀ (s : Shared) (H : Hp) (C : Addr) (cl : List (Str × Addr)) (fp : List Addr), PE (X.blk s H scope (compEnvC scope cl C X.env) fp) elt (tE (X.wd T) UF el)) (hs : ∀ x, foldedSetIterable iter X.env x = pure x := by intro _; rfl) :
    PE X (.ListComp elt [⟨tg, iter, ifs, 0⟩] scope pos) (tL (X.wd T) U (lLc it g t el (own.map (·.2)).reverse)) := PE.imp (pe_lc hc hN hi ok hg ht he hs) fun _ _ _ h => lc_read h
/-- y = [..], laid into the store -/
theorem s_setLc {i : Nat} {y : Str} {py : Pos} {elt tg iter : Expr} {ifs : List Expr} {scope : Scope} {own : List (Str × Nat)} {spos : Pos} {it : Ar} {g : G} {t : Dt.T} {el : E} (hc : X.calm = true) (hN : X.N.Nodup) (hyl : X.env.scope.names.lookup y = some .local)
    (hsw : swapsWith (.ListComp elt [⟨tg, iter, ifs, 0⟩] scope pos) (some (.Name y py)) spos.line X.env = pure true) (hi : PI X tg iter (tI (X.wd T) U it)) (ok : BlkOk X.N X.env.scope scope own)
    (hg : ∀ (s : Shared) (H : Hp) (C : Addr) (cl : List (Str × Addr)) (fp : List Addr), PG (X.blk s H scope (compEnvC scope cl C X.env) fp) tg (tG (X.wd T) (own.map (·.2)) g))
    (ht : ∀ (s : Shared) (H : Hp) (C : Addr) (cl : List (Str × Addr)) (fp : List Addr), PTs (X.blk s H scope (compEnvC scope cl C X.env) fp) ifs (tT (X.wd T) UF t))
    (he : ∀ (s : Shared) (H : Hp) (C : Addr) (cl : List (Str × Addr)) (fp : List Addr), PE (X.blk s H scope (compEnvC scope cl C X.env) fp) elt (tE (X.wd T) UF el)) (hs : ∀ x, foldedSetIterable iter X.env x = pure x := by intro _; rfl)
    (hy : X.N[i]? = some y := by rfl) : PS X (.Assign [.Name y py] (.ListComp elt [⟨tg, iter, ifs, 0⟩] scope pos) spos) (tS (X.wd T) U (sAsg (gN i) (eL dReg (lLc it g t el (own.map (·.2)).reverse)))) := by
  refine ⟨fun pins s σ H D I h => (ps_setLc hc hN hy hyl hsw hi ok hg ht he hs).run pins s σ H D I ?_⟩
  obtain ⟨ρ, M, δ, w, er, h⟩ := h
  have hl : i < δ.length := by rw [er.1, I.len]; exact (List.getElem?_eq_some_iff.mp hy).1
  refine lc_read ⟨ρ, M, δ, w, er, ?_⟩
  have h : Ss (X.wd T) U D ρ H (((lLc it g t el (own.map (·.2)).reverse δ M).bind dReg).st δ fun d M => match gN i d δ with
    | some δ' => .nx δ' M
    | none => .bad) := h
  cases q : lLc it g t el (own.map (·.2)).reverse δ M with
  | bad => rw [q] at h; exact h.elim
  | ex e M1 => rw [q] at h; exact fun c dd ρ' H' e w x => h c dd σ ρ' H' e w (er.mono e) x
  | ok ds M1 =>
    rw [q] at h
    have e1 : gN i (.loc M1.length) δ = some (δ.set i (some (.loc M1.length))) := if_pos hl
    simp only [Res.bind_ok, dReg, Res.st_ok, e1] at h
    rintro v ρ' H' ex w' ⟨p, xs, rfl, h0, np, hp, r⟩
    have w2 := w'.reg (mo := .lst ds) np ⟨xs, hp, Rps.moM Mo.app _ _ r⟩
    have rl : Rp X.K H' (ρ' ++ [p]) (.loc M1.length) (.ref p) := ⟨p, rfl, by rw [← w'.len, List.getElem?_append_right (Nat.le_refl _), Nat.sub_self]; rfl⟩
    exact h _ (ρ' ++ [p]) H' (ex.reg h0) w2 ((er.mono (ex.reg h0)).set rl)
theorem pd_reg (h : PE X e (tL (X.wd T) U l)) : PE X e (tE (X.wd T) U (eL dReg l)) := by
  refine PE.imp h fun σ H Q ⟨ρ, M, δ, w, er, go⟩ => ⟨ρ, M, δ, w, er, ?_⟩
  have go : Gg (X.wd T) U σ (relD (X.wd T)) ρ H ((l δ M).bind dReg) Q := go
  cases q : l δ M with
  | bad => rw [q] at go; exact go.elim
  | ex e M1 => rw [q] at go; exact go
  | ok ds M1 =>
    rw [q] at go
    rintro v ρ' H' ex w' ⟨p, xs, rfl, h0, np, hp, r⟩
    have w2 := w'.reg (mo := .lst ds) np ⟨xs, hp, Rps.moM Mo.app _ _ r⟩
    exact go (.ref p) (ρ' ++ [p]) H' (ex.reg h0) w2 ⟨p, rfl, by rw [← w'.len, List.getElem?_append_right (Nat.le_refl _), Nat.sub_self]; rfl⟩
/-- what a call does with such a list -/
def OKL (W : Wd) (r : List V → Hp → VK → Prop) (g : List D → Mem → Res D) : Prop := ∀ (U : WX) (σ : L2.St) (ρ : List Addr) (M : Mem) (H : Hp) (ds : List D) (p : Addr) (xs : List V) (Q : VK), WOk W ρ M H → p ∉ ρ → H p = some (.lst xs) → Rps W.K H ρ ds xs → Gg W U σ (relD W) ρ H (g ds M) Q → r [.ref p] H Q
theorem liftL {W : Wd} {r : List V → Hp → VK → Prop} {g : List D → Mem → Res D} (hg : OKL W r g) {σ : L2.St} {H : Hp} {Q : VK} (h : tE W U (eL g l) σ H Q) : tCB r (tCons (tL W U l) tNil) σ H Q := by
  obtain ⟨ρ, M, δ, w, er, go⟩ := h
  refine ⟨ρ, M, δ, w, er, (Gg.bind (rel := relL W H) go).imp fun x H1 ⟨ρ1, M1, ds, _, e1, w1, ⟨p, xs, q0, h0, np, hp, r1⟩, go1⟩ => ?_⟩
  subst q0
  exact hg U σ ρ1 M1 H1 ds p xs Q w1 np hp r1 go1
theorem pd_callL {x : Str} {p : Pos} {id : String} {r : List V → Hp → VK → Prop} {g : List D → Mem → Res D} (hc : CallR X (.builtin id) r) (hg : OKL (X.wd T) r g) (hm : X.mg x = none) (hv : bootBuiltins x = some (.builtin id)) (h : PE X e (tL (X.wd T) U l)) (hgl : Gl X x := by rfl) (hn : x ≠ "__name__" := by decide) (hdb : (x == ("__debug__" : Str)) = false := by decide)
    (hst : starEach [e] X.env = (false, eval e X.env) :: starEach [] X.env := by rfl) (he : starEach (e :: []) X.env = (false, eval e X.env) :: starEach [] X.env := by rfl) (hpl : (backTo pos (starEach [] X.env)).any (·.1) = false := by rfl) :
    PE X (.Call (.Name x p) [e] [] pos) (tE (X.wd T) U (eL g l)) := PE.imp (pe_callB hc hgl hm hv (pa_cons h pa_nil hst) hn hdb he hpl) fun _ _ _ h => liftL hg h
theorem pd_callLT {x : Str} {p : Pos} {id : String} {r : List V → Hp → VK → Prop} {g : List D → Mem → Res D} (hc : CallR X (.type id) r) (hg : OKL (X.wd T) r g) (hm : X.mg x = none) (hv : bootBuiltins x = some (.type id)) (h : PE X e (tL (X.wd T) U l)) (hgl : Gl X x := by rfl) (hn : x ≠ "__name__" := by decide) (hdb : (x == ("__debug__" : Str)) = false := by decide)
    (hst : starEach [e] X.env = (false, eval e X.env) :: starEach [] X.env := by rfl) (he : starEach (e :: []) X.env = (false, eval e X.env) :: starEach [] X.env := by rfl) (hpl : (backTo pos (starEach [] X.env)).any (·.1) = false := by rfl) :
    PE X (.Call (.Name x p) [e] [] pos) (tE (X.wd T) U (eL g l)) := PE.imp (pe_callTy hc hgl hm hv (pa_cons h pa_nil hst) hn hdb he hpl) fun _ _ _ h => liftL hg h
/-- tuple(l), sum(l), all(l), len(l) -/
def dTupL (ds : List D) (M : Mem) : Res D := .ok (.tup ds) M
theorem okl_tup : OKL (X.wd T) (fun xs H Q => ∃ p ys, xs = [.ref p] ∧ ((SqL X.K H p ys ∧ ∀ l, H l = none → Q (.ref l) (upd H l (.tup ys))) ∨ (SqT X.K H p ys ∧ Q (.ref p) H))) dTupL := by
  intro U σ ρ M H ds p xs Q w np hp r go
  exact ⟨p, xs, rfl, .inl ⟨SqL.of hp, fun q hq => tup_new w r go hq⟩⟩
def dSumL (ds : List D) (M : Mem) : Res D := match intsD ds with
  | some ns => .ok (.int ns.sum) M
  | none => .bad
theorem okl_sum : OKL (X.wd T) (rSum X.K) dSumL := by
  intro U σ ρ M H ds p xs Q w np hp r go
  unfold dSumL at go
  cases e : intsD ds with
  | none => rw [e] at go; exact go.elim
  | some ns =>
    rw [e] at go
    rw [intsD_rps e r] at hp
    exact ⟨p, ns, rfl, SqL.of hp, Gg.ret w (v := V.int ns.sum) rfl go⟩
def blsD : List D → Option (List Bool)
  | [] => some []
  | .bl i :: r => (blsD r).map (i :: ·)
  | _ => none
theorem blsD_rps {K : PySem.W.Frag} {H : Hp} {ρ : List Addr} : ∀ {ds : List D} {xs : List V} {ns : List Bool}, blsD ds = some ns → Rps K H ρ ds xs → xs = ns.map V.bl
  | [], _, _, e, h => by cases e; cases h; rfl
  | .bl i :: r, _, ns, e, h => by
    obtain ⟨x, q, rfl, h2, h3⟩ := h
    have e2 : (blsD r).map (i :: ·) = some ns := e
    obtain ⟨ms, e3, rfl⟩ := Option.map_eq_some_iff.mp e2
    rw [List.map_cons, blsD_rps e3 h3, show x = V.bl i from h2]
  | .non :: _, _, _, e, _ => by cases e
  | .int _ :: _, _, _, e, _ => by cases e
  | .str _ :: _, _, _, e, _ => by cases e
  | .tup _ :: _, _, _, e, _ => by cases e
  | .loc _ :: _, _, _, e, _ => by cases e
  | .fl _ :: _, _, _, e, _ => by cases e
  | .pt _ :: _, _, _, e, _ => by cases e
def dAllL (ds : List D) (M : Mem) : Res D := match blsD ds with
  | some ns => .ok (.bl (ns.all id)) M
  | none => .bad
theorem okl_all : OKL (X.wd T) (rAll X.K) dAllL := by
  intro U σ ρ M H ds p xs Q w np hp r go
  unfold dAllL at go
  cases e : blsD ds with
  | none => rw [e] at go; exact go.elim
  | some ns =>
    rw [e] at go
    rw [blsD_rps e r] at hp
    exact ⟨p, ns, rfl, SqL.of hp, Gg.ret w (v := V.bl _) rfl go⟩
def dLenL (ds : List D) (M : Mem) : Res D := .ok (.int ds.length) M
theorem okl_len : OKL (X.wd T) (fun xs H Q => ∃ x n, xs = [x] ∧ LenV X.K x H n ∧ Q (.int n) H) dLenL := by
  intro U σ ρ M H ds p xs Q w np hp r go
  refine ⟨.ref p, xs.length, rfl, .inl ⟨xs, SqL.of hp, rfl⟩, ?_⟩
  rw [← r.length]
  exact Gg.ret w (v := V.int _) rfl go
/-- l[i], l not in the store -/
def eIxL (l : Ar) (i : E) : E := fun δ M => (l δ M).bind fun ds M => (i δ M).bind fun d M => match d with
  | .int i => (match atI ds i with
    | some d => .ok d M
    | none => .bad)
  | _ => .bad
theorem Ex.keepL {ρ ρ' : List Addr} {H H' : Hp} (e : Ex ρ H ρ' H') {p : Addr} {xs : List V} (np : p ∉ ρ) (hp : H p = some (.lst xs)) : p ∉ ρ' ∧ H' p = some (.lst xs) := by
  refine ⟨fun z => ?_, e.keep p _ hp np fun ps z => by cases z⟩
  obtain ⟨x, q3, q4⟩ := e.more
  rw [q3] at z
  rcases List.mem_append.mp z with z | z
  · exact np z
  · exact (q4 _ z).ne hp (fun _ z => by cases z) rfl
theorem pd_ixL (ha : PE X a (tL (X.wd T) U l)) (hb : PE X b (tE (X.wd T) U f)) (hs : PlainIx b := by exact fun _ _ => rfl) : PE X (.Subscript a b pos) (tE (X.wd T) U (eIxL l f)) := by
  refine PE.imp (pe_ix ix_list ha hb hs) fun σ H Q ⟨ρ, M, δ, w, er, go⟩ => ⟨ρ, M, δ, w, er, (Gg.bind (rel := relL (X.wd T) H) go).imp fun x H1 ⟨ρ1, M1, ds, _, e1, w1, ⟨p, xs, q0, h0, np, hp, r1⟩, go1⟩ => ?_⟩
  subst q0
  refine ⟨ρ1, M1, δ, w1, er.mono e1, (Gg.bind (rel := relD (X.wd T)) go1).imp fun y H2 ⟨ρ2, M2, d, _, e2, w2, r2, go2⟩ => ?_⟩
  cases d with
  | int i =>
    cases e : L2.atI ds i with
    | none => simp only [e] at go2; exact go2.elim
    | some d =>
      simp only [e] at go2
      obtain ⟨x, q1, rx⟩ := (r1.mono e2).atI e
      exact ⟨p, xs, i, x, rfl, r2, SqL.of (e2.keepL np hp).2, q1, Gg.ret w2 rx go2⟩
  | _ => exact go2.elim
/-- xs + [..], xs in the store -/
def lCat (a : E) (l : Ar) : Ar := fun δ M => (a δ M).bind fun d M => (l δ M).bind fun ds M => match d with
  | .loc k => (match M[k]? with
    | some (.lst xs) => if xs.length + ds.length ≤ cap then .ok (xs ++ ds) M else .bad
    | _ => .bad)
  | _ => .bad
theorem pl_cat (ha : PE X a (tE (X.wd T) U f)) (hb : PE X b (tL (X.wd T) U l)) : PE X (.BinOp a .Add b pos) (tL (X.wd T) U (lCat f l)) := by
  refine PE.imp (pe_op op_cat ha hb) fun σ H Q ⟨ρ, M, δ, w, er, go⟩ => ⟨ρ, M, δ, w, er, (Gg.bind (rel := relD (X.wd T)) go).imp fun x H1 ⟨ρ1, M1, d, _, e1, w1, r1, go1⟩ => ?_⟩
  refine ⟨ρ1, M1, δ, w1, er.mono e1, (Gg.bind (rel := relL (X.wd T) H1) go1).imp fun y H2 ⟨ρ2, M2, ds, _, e2, w2, ⟨p, xs, q0, h0, np, hp, r2⟩, go2⟩ => ?_⟩
  subst q0
  cases d with
  | loc k =>
    obtain ⟨q, rfl, hq⟩ := r1.mono e2
    cases e : M2[k]? with
    | none => simp only [e] at go2; exact go2.elim
    | some o =>
      cases o with
      | lst ys =>
        simp only [e] at go2
        split at go2
        · rename_i hc
          obtain ⟨us, h3, h4⟩ := w2.obj k _ q e hq
          exact ⟨q, p, us, xs, rfl, rfl, h3, hp, by rw [← h4.length, ← r2.length]; exact cap_le hc, fun p' hp' => lst_new (e1.trans e2) w2 (h4.append r2) go2 hp'⟩
        · exact go2.elim
      | _ => simp only [e] at go2; exact go2.elim
  | _ => exact go2.elim
/-- list(l), list(t) -/
def lOfT (a : E) : Ar := fun δ M => (a δ M).bind fun d M => match d with
  | .tup ds => .ok ds M
  | _ => .bad
theorem pl_listT {p : Pos} (hm : X.mg "list" = none) (h : PE X e (tE (X.wd T) U f)) (hgl : Gl X "list" := by rfl) (hst : starEach [e] X.env = (false, eval e X.env) :: starEach [] X.env := by rfl) : PE X (.Call (.Name "list" p) [e] [] pos) (tL (X.wd T) U (lOfT f)) := by
  refine PE.imp (pe_callTy call_list_of hgl hm (by decide +kernel) (pa_cons h pa_nil hst) (by decide) (by decide) hst (by rfl)) fun σ H Q ⟨ρ, M, δ, w, er, go⟩ => ⟨ρ, M, δ, w, er, (Gg.bind (rel := relD (X.wd T)) go).imp fun x H1 ⟨ρ1, M1, d, _, e1, w1, r1, go1⟩ => ?_⟩
  cases d with
  | tup ds =>
    obtain ⟨q, xs, rfl, h1, h2⟩ := r1
    exact ⟨q, xs, rfl, .inr h1, fun p hp => lst_new e1 w1 h2 go1 hp⟩
  | _ => exact go1.elim
theorem pl_listL {p : Pos} (hm : X.mg "list" = none) (h : PE X e (tL (X.wd T) U l)) (hgl : Gl X "list" := by rfl) (hst : starEach [e] X.env = (false, eval e X.env) :: starEach [] X.env := by rfl) : PE X (.Call (.Name "list" p) [e] [] pos) (tL (X.wd T) U l) := by
  refine PE.imp (pe_callTy call_list_of hgl hm (by decide +kernel) (pa_cons h pa_nil hst) (by decide) (by decide) hst (by rfl)) fun σ H Q ⟨ρ, M, δ, w, er, go⟩ => ⟨ρ, M, δ, w, er, ?_⟩
  cases q : l δ M with
  | bad => rw [q] at go; exact go.elim
  | ex e M1 => rw [q] at go; exact go
  | ok ds M1 =>
    rw [q] at go
    rintro v ρ' H' ex w' ⟨p, xs, rfl, h0, np, hp, r⟩
    exact ⟨p, xs, rfl, .inl (SqL.of hp), fun p' hp' => lst_new ex w' r (Gg.start ex go) hp'⟩
/-- xs[:k] of the script, of a list in the store -/
def lSl (a : E) (lo hi : Option Int) : Ar := fun δ M => (a δ M).bind fun d M => match d with
  | .fl ds => .ok (cutD ds lo hi) M
  | .loc k => (match M[k]? with
    | some (.lst ds) => .ok (cutD ds lo hi) M
    | _ => .bad)
  | _ => .bad
theorem FL.sq {K : PySem.W.Frag} {H : Hp} {a : Addr} {xs : List V} (h : FL K H a xs) : SqL K H a xs := by
  rcases h with ⟨o, h⟩ | (h | ⟨o, h⟩) | h
  · exact .inl (.inr ⟨o, h⟩)
  · cases h
  · cases h
  · exact .inr h
theorem pl_slTo {k : Int} {j : Nat} {p2 p3 : Pos} (h : PE X e (tE (X.wd T) U f)) : PE X (.Subscript e (.Slice none (some (.Constant (.int k) j p3)) none p2) pos) (tL (X.wd T) U (lSl f none (some k))) := by
  refine PE.imp (pe_slice sl_list h po_none (po_some pe_int)) fun σ H Q ⟨ρ, M, δ, w, er, go⟩ => ⟨ρ, M, δ, w, er, (Gg.bind (rel := relD (X.wd T)) go).imp fun x H1 ⟨ρ1, M1, d, _, e1, w1, r1, go1⟩ => ?_⟩
  refine ⟨k, rfl, ?_⟩
  cases d with
  | fl ds =>
    obtain ⟨q, xs, rfl, h1, h2⟩ := r1
    exact ⟨q, xs, rfl, h1.sq, fun p hp => lst_new e1 w1 (h2.cut none (some k)) go1 hp⟩
  | loc m =>
    obtain ⟨q, rfl, hq⟩ := r1
    cases e : M1[m]? with
    | none => simp only [e] at go1; exact go1.elim
    | some o =>
      cases o with
      | lst ys =>
        simp only [e] at go1
        obtain ⟨us, h3, h4⟩ := w1.obj m _ q e hq
        exact ⟨q, us, rfl, SqL.of h3, fun p hp => lst_new e1 w1 (h4.cut none (some k)) go1 hp⟩
      | _ => simp only [e] at go1; exact go1.elim
  | _ => exact go1.elim
/-- such a list walked -/
theorem i_list {tg : Expr} (h : PE X e (tL (X.wd T) U l)) : PI X tg e (tI (X.wd T) U l) := by
  refine PI.imp (pi_list h) fun σ H R ⟨ρ, M, δ, w, er, go⟩ => ⟨ρ, M, δ, w, er, ?_⟩
  cases q : l δ M with
  | bad => rw [q] at go; exact go.elim
  | ex e M1 => rw [q] at go; exact go
  | ok ds M1 =>
    rw [q] at go
    rintro v ρ' H' ex w' ⟨p, xs, rfl, h0, np, hp, r⟩
    refine ⟨p, rfl, ⟨xs, SqL.of hp⟩, go (Itl X.K p) ρ' H' ex w' fun i ρ2 H2 e2 => ⟨fun d hd => ?_, fun hi => ⟨xs, SqL.of (e2.keepL np hp).2, by rw [← r.length]; exact hi⟩⟩⟩
    obtain ⟨x, hx, rx⟩ := (r.mono e2).get hd
    refine ⟨⟨xs, x, SqL.of (e2.keepL np hp).2, hx⟩, fun y H3 ⟨q1, q2⟩ => ?_⟩
    subst q1
    have q3 := q2 xs (SqL.of (e2.keepL np hp).2)
    rw [hx] at q3; cases q3
    exact ⟨Ex.refl, fun _ w => w, rx⟩
end
end Dt
namespace Dt
open PySem PySem.Spec PyProof.Rows L2
section
variable {X : Cx} {T : List (Addr × Str)} {U : WX} {pos : Pos} {e a b : Expr} {es : List Expr} {f f1 f2 : E} {l fa : Ar}
theorem pd_callB {x : Str} {p : Pos} {id : String} {r : List V → Hp → VK → Prop} {g : List D → Mem → Res D} (hc : CallR X (.builtin id) r) (hg : OKN (X.wd T) r g) (hm : X.mg x = none) (hv : bootBuiltins x = some (.builtin id)) (ha : PA X (e :: es) (tA (X.wd T) U fa)) (hgl : Gl X x := by rfl) (hn : x ≠ "__name__" := by decide) (hdb : (x == ("__debug__" : Str)) = false := by decide)
    (he : starEach (e :: es) X.env = (false, eval e X.env) :: starEach es X.env := by rfl) (hpl : (backTo pos (starEach es X.env)).any (·.1) = false := by rfl) :
    PE X (.Call (.Name x p) (e :: es) [] pos) (tE (X.wd T) U (eN g fa)) := PE.imp (pe_callB hc hgl hm hv ha hn hdb he hpl) fun _ _ _ h => liftN hg h
theorem pd_callTy {x : Str} {p : Pos} {id : String} {r : List V → Hp → VK → Prop} {g : List D → Mem → Res D} (hc : CallR X (.type id) r) (hg : OKN (X.wd T) r g) (hm : X.mg x = none) (hv : bootBuiltins x = some (.type id)) (ha : PA X (e :: es) (tA (X.wd T) U fa)) (hgl : Gl X x := by rfl) (hn : x ≠ "__name__" := by decide) (hdb : (x == ("__debug__" : Str)) = false := by decide)
    (he : starEach (e :: es) X.env = (false, eval e X.env) :: starEach es X.env := by rfl) (hpl : (backTo pos (starEach es X.env)).any (·.1) = false := by rfl) :
    PE X (.Call (.Name x p) (e :: es) [] pos) (tE (X.wd T) U (eN g fa)) := PE.imp (pe_callTy hc hgl hm hv ha hn hdb he hpl) fun _ _ _ h => liftN hg h
def dLen : List D → Mem → Res D
  | [.tup ds], M => .ok (.int ds.length) M
  | [.str s], M => if s.length ≤ cap then .ok (.int s.length) M else .bad
  | [.loc l], M => match M[l]? with
    | some (.lst ds) => .ok (.int ds.length) M
    | _ => .bad
  | _, _ => .bad
theorem one_of {K : PySem.W.Frag} {H : Hp} {ρ : List Addr} {d : D} {xs : List V} (h : Rps K H ρ [d] xs) : ∃ x, xs = [x] ∧ Rp K H ρ d x := by
  obtain ⟨x, r, rfl, h1, h2⟩ := h
  cases h2
  exact ⟨x, rfl, h1⟩
theorem two_of {K : PySem.W.Frag} {H : Hp} {ρ : List Addr} {d d2 : D} {xs : List V} (h : Rps K H ρ [d, d2] xs) : ∃ x y, xs = [x, y] ∧ Rp K H ρ d x ∧ Rp K H ρ d2 y := by
  obtain ⟨x, r, rfl, h1, h2⟩ := h
  obtain ⟨y, rfl, h3⟩ := one_of h2
  exact ⟨x, y, rfl, h1, h3⟩
theorem okn_len : OKN (X.wd T) (fun xs H Q => ∃ x n, xs = [x] ∧ LenV X.K x H n ∧ Q (.int n) H) dLen := by
  intro U σ ρ M H ds xs Q w r go
  cases ds with
  | nil => exact go.elim
  | cons d ds =>
    cases ds with
    | cons _ _ => cases d <;> exact go.elim
    | nil =>
      obtain ⟨x, rfl, rx⟩ := one_of r
      cases d with
      | tup ds =>
        obtain ⟨p, us, rfl, h1, h2⟩ := rx
        refine ⟨_, us.length, rfl, .inr ⟨us, h1, rfl⟩, ?_⟩
        rw [← h2.length]
        exact Gg.ret w (v := V.int _) rfl go
      | str s =>
        cases rx
        have go : Gg (X.wd T) U σ (relD (X.wd T)) ρ H (if s.length ≤ cap then .ok (.int s.length) M else .bad) Q := go
        split at go
        · rename_i hc
          exact ⟨V.str (Str.ofString s), s.length, rfl, show (Str.ofString s).length ≤ sizeLine ∧ s.length = (Str.ofString s).length from ⟨by rw [ofString_length]; exact cap_le hc, (ofString_length s).symm⟩, Gg.ret w (v := V.int _) rfl go⟩
        · exact go.elim
      | loc m =>
        obtain ⟨q, rfl, hq⟩ := rx
        have go : Gg (X.wd T) U σ (relD (X.wd T)) ρ H (match M[m]? with | some (.lst ds) => .ok (.int ds.length) M | _ => .bad) Q := go
        cases e : M[m]? with
        | none => rw [e] at go; exact go.elim
        | some o =>
          rw [e] at go
          cases o with
          | lst ys =>
            obtain ⟨us, h3, h4⟩ := w.obj m _ q e hq
            refine ⟨_, us.length, rfl, .inl ⟨us, SqL.of h3, rfl⟩, ?_⟩
            rw [← h4.length]
            exact Gg.ret w (v := V.int _) rfl go
          | _ => exact go.elim
      | _ => exact go.elim
def dMax2 : List D → Mem → Res D
  | [.int i, .int j], M => .ok (.int (if j > i then j else i)) M
  | _, _ => .bad
theorem okn_max2 : OKN (X.wd T) (fun xs H Q => ∃ i j, xs = [.int i, .int j] ∧ Q (.int (if j > i then j else i)) H) dMax2 := by
  intro U σ ρ M H ds xs Q w r go
  cases ds with
  | nil => exact go.elim
  | cons d ds =>
    cases ds with
    | nil => cases d <;> exact go.elim
    | cons d2 ds =>
      cases ds with
      | cons _ _ => cases d <;> cases d2 <;> exact go.elim
      | nil =>
        obtain ⟨x, y, rfl, r1, r2⟩ := two_of r
        cases d <;> try exact go.elim
        cases d2 <;> try exact go.elim
        cases r1
        cases r2
        exact ⟨_, _, rfl, Gg.ret w (v := V.int _) rfl go⟩
def dInt1 : List D → Mem → Res D
  | [.int i], M => .ok (.int i) M
  | [.bl b], M => .ok (.int (if b = true then 1 else 0)) M
  | _, _ => .bad
theorem okn_int1 : OKN (X.wd T) (fun xs H Q => (∃ i, xs = [.int i] ∧ Q (.int i) H) ∨ ∃ k, xs = [.bl k] ∧ Q (.int (if k then 1 else 0)) H) dInt1 := by
  intro U σ ρ M H ds xs Q w r go
  cases ds with
  | nil => exact go.elim
  | cons d ds =>
    cases ds with
    | cons _ _ => cases d <;> exact go.elim
    | nil =>
      obtain ⟨x, rfl, rx⟩ := one_of r
      cases d with
      | int i => cases rx; exact .inl ⟨_, rfl, Gg.ret w (v := V.int _) rfl go⟩
      | bl i => cases rx; exact .inr ⟨_, rfl, Gg.ret w (v := V.int _) rfl go⟩
      | _ => exact go.elim
/-- tuple(xs), xs in the store -/
def dTupOf : List D → Mem → Res D
  | [.loc l], M => match M[l]? with
    | some (.lst ds) => .ok (.tup ds) M
    | _ => .bad
  | _, _ => .bad
theorem okn_tup : OKN (X.wd T) (fun xs H Q => ∃ p ys, xs = [.ref p] ∧ ((SqL X.K H p ys ∧ ∀ l, H l = none → Q (.ref l) (upd H l (.tup ys))) ∨ (SqT X.K H p ys ∧ Q (.ref p) H))) dTupOf := by
  intro U σ ρ M H ds xs Q w r go
  cases ds with
  | nil => exact go.elim
  | cons d ds =>
    cases ds with
    | cons _ _ => cases d <;> exact go.elim
    | nil =>
      obtain ⟨x, rfl, rx⟩ := one_of r
      cases d with
      | loc m =>
        obtain ⟨q, rfl, hq⟩ := rx
        have go : Gg (X.wd T) U σ (relD (X.wd T)) ρ H (match M[m]? with | some (.lst ds) => .ok (.tup ds) M | _ => .bad) Q := go
        cases e : M[m]? with
        | none => rw [e] at go; exact go.elim
        | some o =>
          rw [e] at go
          cases o with
          | lst ys =>
            obtain ⟨us, h3, h4⟩ := w.obj m _ q e hq
            exact ⟨q, us, rfl, .inl ⟨SqL.of h3, fun p hp => tup_new w h4 go hp⟩⟩
          | _ => exact go.elim
      | _ => exact go.elim
def tyN : D → Option String
  | .non => some "NoneType"
  | .bl _ => some "bool"
  | .int _ => some "int"
  | .str _ => some "str"
  | .tup _ => some "tuple"
  | _ => none
theorem ty_of {ρ : List Addr} {H : Hp} {d : D} {x : V} {n : String} (h : tyN d = some n) (r : Rp X.K H ρ d x) : TyX X.K H x (.type n) := by
  cases d with
  | non => cases h; cases r; exact .base .non
  | bl b => cases h; cases r; exact .base (.bl b)
  | int b => cases h; cases r; exact .base (.int b)
  | str b => cases h; cases r; exact .base (.str _)
  | tup ds =>
    cases h
    obtain ⟨p, us, rfl, (h1 | ⟨o, h1⟩) | ⟨o, its, n, h1, h2, _⟩, _⟩ := r
    · exact .base (.tup h1)
    · exact .fTuple h1
    · exact .kTuple h1 h2
  | _ => cases h
def dIsi (c : String) (d : D) (M : Mem) : Res D := match tyN d with
  | some n => (match kitB n c with
    | some b => .ok (.bl b) M
    | none => .bad)
  | none => .bad
theorem pd_isi {x c : Str} {p p2 : Pos} {cn : String} (hm : X.mg "isinstance" = none) (hmc : X.mg c = none) (hv : bootBuiltins c = some (.type cn)) (ha : PE X e (tE (X.wd T) U f)) (hgl : Gl X "isinstance" := by rfl) (hgc : Gl X c := by rfl) (hn : c ≠ "__name__" := by decide) (hdb : (c == ("__debug__" : Str)) = false := by decide)
    (h1 : starEach [e, .Name c p2] X.env = (false, eval e X.env) :: starEach [.Name c p2] X.env := by rfl) (h2 : starEach [.Name c p2] X.env = (false, eval (.Name c p2) X.env) :: starEach [] X.env := by rfl)
    (hpl : (backTo pos (starEach [.Name c p2] X.env)).any (·.1) = false := by rfl) :
    PE X (.Call (.Name "isinstance" p) [e, .Name c p2] [] pos) (tE (X.wd T) U (eU (dIsi cn) f)) := by
  refine PE.imp (pe_callB call_isi hgl hm (by decide +kernel) (pa_cons ha (pa_cons (pe_bltn (v := .ty cn) hgc hmc hv rfl hn hdb) pa_nil h2) h1) (by decide) (by decide) h1 hpl) fun σ H Q ⟨ρ, M, δ, w, er, go⟩ => ⟨ρ, M, δ, w, er, (Gg.bind (rel := relD (X.wd T)) go).imp fun x H1 ⟨ρ1, M1, d, _, e1, w1, r1, go1⟩ => ?_⟩
  unfold dIsi at go1
  cases q : tyN d with
  | none => rw [q] at go1; exact go1.elim
  | some n =>
    simp only [q] at go1
    cases q2 : kitB n cn with
    | none => simp only [q2] at go1; exact go1.elim
    | some k =>
      simp only [q2] at go1
      exact ⟨x, .ty cn, .type n, .type cn, k, rfl, .ty cn, ty_of q r1, kit_ty q2, Gg.ret w1 (v := V.bl k) rfl go1⟩
def dMul : D → D → Mem → Res D
  | .int i, .int j, M => if mulOk i j = true then .ok (.int (i * j)) M else .bad
  | .tup ds, .int k, M => if ds ≠ [] ∧ 2 ≤ k ∧ k ≤ 1000 ∧ ds.length ≤ 1000 then .ok (.tup (List.replicate k.toNat ds).flatten) M else .bad
  | _, _, _ => .bad
theorem Rps.rep {K : PySem.W.Frag} {H : Hp} {ρ : List Addr} {ds : List D} {xs : List V} (h : Rps K H ρ ds xs) : ∀ n : Nat, Rps K H ρ (List.replicate n ds).flatten (List.replicate n xs).flatten
  | 0 => rfl
  | n + 1 => by
    rw [List.replicate_succ, List.replicate_succ, List.flatten_cons, List.flatten_cons]
    exact h.append (Rps.rep h n)
theorem ok_mul : OK2 (X.wd T) (fun x y H Q => rI CMul (fun i j => .int (i * j)) x y H Q ∨ rRepT X.K x y H Q) dMul := by
  intro U σ ρ M H a b x y Q w ra rb go
  cases a <;> try exact go.elim
  · cases b <;> try exact go.elim
    rename_i i j
    have go : Gg (X.wd T) U σ (relD (X.wd T)) ρ H (if mulOk i j = true then .ok (.int (i * j)) M else .bad) Q := go
    split at go
    · rename_i h
      have h2 := of_decide_eq_true h
      exact .inl ⟨_, _, ra, rb, h2, Gg.ret w (v := V.int _) rfl go⟩
    · exact go.elim
  · cases b <;> try exact go.elim
    rename_i ds k
    have go : Gg (X.wd T) U σ (relD (X.wd T)) ρ H (if ds ≠ [] ∧ 2 ≤ k ∧ k ≤ 1000 ∧ ds.length ≤ 1000 then .ok (.tup (List.replicate k.toNat ds).flatten) M else .bad) Q := go
    split at go
    · rename_i h
      obtain ⟨p, us, rfl, h1, h2⟩ := ra
      cases rb
      exact .inr ⟨p, k, us, rfl, rfl, h1, fun z => h.1 (h2.nil_iff.mpr z), h.2.1, h.2.2.1, by rw [← h2.length]; exact h.2.2.2, fun q hq => tup_new w (h2.rep k.toNat) go hq⟩
    · exact go.elim
/-- what a method of a list does -/
def OKM (W : Wd) (r : V → List V → Hp → VK → Prop) (g : List D → Nat → List D → Mem → Res D) : Prop := ∀ (U : WX) (σ : L2.St) (ρ : List Addr) (M : Mem) (H : Hp) (l : Nat) (p : Addr) (ds as : List D) (xs us : List V) (Q : VK), WOk W ρ M H → M[l]? = some (.lst ds) → ρ[l]? = some p → H p = some (.lst xs) → Rps W.K H ρ ds xs →
  Rps W.K H ρ as us → Gg W U σ (relD W) ρ H (g ds l as M) Q → r (.ref p) us H Q
/-- o.m(e, ..), o in the store -/
def eM (g : List D → Nat → List D → Mem → Res D) (o : E) (a : Ar) : E := fun δ M => (o δ M).bind fun d M => match d with
  | .loc l => (match M[l]? with
    | some (.lst _) => (a δ M).bind fun as M => (match M[l]? with
      | some (.lst ds) => g ds l as M
      | _ => .bad)
    | _ => .bad)
  | _ => .bad
theorem pd_m {o : Expr} {name : Str} {apos cpos : Pos} {id : String} {r : V → List V → Hp → VK → Prop} {g : List D → Nat → List D → Mem → Res D} (slot : Slot "list" name id) (hty : typeOf (.builtin id) = pure (.type "method_descriptor")) (hm : MtR X id r) (hg : OKM (X.wd T) r g) (ho : PE X o (tE (X.wd T) U f)) (ha : PA X (e :: es) (tA (X.wd T) U fa))
    (hbase : attributeBase o name X.env (eval o X.env) = eval o X.env := by rfl)
    (hfew : ((backTo cpos (starEach (e :: es) X.env)).all (fun x => !x.1) && (backToKw cpos (keywordEach [] X.env)).all (fun x => x.1.isSome)
      && decide ((e :: es).length + ([] : List Keyword).length + (if ([] : List Keyword).isEmpty then 0 else 1) < 30)) = true := by rfl)
    (hline : (apos.endLine == cpos.line) = true := by rfl) (hs : starEach (e :: es) X.env = (false, eval e X.env) :: starEach es X.env := by rfl) (hplain : (backTo cpos (starEach es X.env)).any (·.1) = false := by rfl) :
    PE X (.Call (.Attribute o name apos) (e :: es) [] cpos) (tE (X.wd T) U (eM g f fa)) := by
  refine PE.imp (pe_bm PySem.F.plainAttrs_list slot hty hm ho ha hbase hfew hline hs hplain) fun σ H Q ⟨ρ, M, δ, w, er, go⟩ => ⟨ρ, M, δ, w, er, (Gg.bind (rel := relD (X.wd T)) go).imp fun x H1 ⟨ρ1, M1, d, _, e1, w1, r1, go1⟩ => ?_⟩
  cases d with
  | loc l =>
    obtain ⟨p, rfl, hp⟩ := r1
    cases q : M1[l]? with
    | none => simp only [q] at go1; exact go1.elim
    | some o1 =>
      cases o1 with
      | lst ds0 =>
        simp only [q] at go1
        obtain ⟨us0, h3, h4⟩ := w1.obj l _ p q hp
        refine ⟨.inl ⟨rfl, us0, SqL.of h3⟩, ρ1, M1, δ, w1, er.mono e1, (Gg.bind (rel := relA (X.wd T)) go1).imp fun us H2 ⟨ρ2, M2, as, _, e2, w2, r2, go2⟩ => ?_⟩
        cases q2 : M2[l]? with
        | none => simp only [q2] at go2; exact go2.elim
        | some o2 =>
          cases o2 with
          | lst ds =>
            simp only [q2] at go2
            obtain ⟨xs, h5, h6⟩ := w2.obj l _ p q2 (e2.at_ hp)
            exact hg U σ ρ2 M2 H2 l p ds as xs us Q w2 q2 (e2.at_ hp) h5 h6 r2 go2
          | _ => simp only [q2] at go2; exact go2.elim
      | _ => simp only [q] at go1; exact go1.elim
  | _ => exact go1.elim
/-- the list at l becomes es -/
theorem lst_write {W : Wd} {U : WX} {σ : L2.St} {ρ : List Addr} {M : Mem} {H : Hp} {l : Nat} {p : Addr} {ds : List D} {xs ys : List V} {d : D} {v : V} {Q : VK} (w : WOk W ρ M H) (hl : ρ[l]? = some p) (hp : H p = some (.lst xs)) (r : Rps W.K H ρ ds ys) (rv : Rp W.K H ρ d v)
    (go : Gg W U σ (relD W) ρ H (.ok d (M.set l (.lst ds))) Q) : Q v (upd H p (.lst ys)) := by
  have ex : Ex ρ H ρ (upd H p (.lst ys)) := Ex.write hl hp (fun _ z => by cases z) (fun _ _ z => by cases z)
  exact go v ρ _ ex (w.write hl hp (fun _ z => by cases z) (fun _ _ z => by cases z) (fun _ z => by cases z) (fun _ _ z => by unfold LamX.CodeO at z; cases z) ⟨ys, upd_same, r.mono ex⟩) (rv.mono ex)
def mAppend (ds : List D) (l : Nat) (as : List D) (M : Mem) : Res D := match as with
  | [d] => if ds.length < cap then .ok .non (M.set l (.lst (ds ++ [d]))) else .bad
  | _ => .bad
theorem okm_append : OKM (X.wd T) rAppend mAppend := by
  intro U σ ρ M H l p ds as xs us Q w hM hl hp r ra go
  cases as with
  | nil => exact go.elim
  | cons d as =>
    cases as with
    | cons _ _ => exact go.elim
    | nil =>
      obtain ⟨x, rfl, r1⟩ := one_of ra
      have go : Gg (X.wd T) U σ (relD (X.wd T)) ρ H (if ds.length < cap then .ok .non (M.set l (.lst (ds ++ [d]))) else .bad) Q := go
      split at go
      · rename_i hc
        exact ⟨p, xs, x, rfl, rfl, hp, by rw [← r.length]; exact Nat.lt_of_lt_of_le hc (by decide), lst_write w hl hp (r.append (es := [d]) ⟨x, [], rfl, r1, rfl⟩) (d := .non) rfl go⟩
      · exact go.elim
/-- xs.pop(i) -/
def mPop (ds : List D) (l : Nat) (as : List D) (M : Mem) : Res D := match as with
  | [.int i] => if 0 ≤ i ∧ i < 1000000 then (match ds[i.toNat]? with
    | some d => .ok d (M.set l (.lst (ds.eraseIdx i.toNat)))
    | none => .bad) else .bad
  | _ => .bad
theorem Rps.erase {K : PySem.W.Frag} {H : Hp} {ρ : List Addr} : ∀ {ds : List D} {xs : List V} (n : Nat), Rps K H ρ ds xs → Rps K H ρ (ds.eraseIdx n) (xs.eraseIdx n)
  | [], _, _, h => by cases h; simp [Rps]
  | _ :: _, _, 0, h => by
    obtain ⟨x, r, rfl, h2, h3⟩ := h
    exact h3
  | _ :: _, _, n + 1, h => by
    obtain ⟨x, r, rfl, h2, h3⟩ := h
    exact ⟨x, r.eraseIdx n, rfl, h2, Rps.erase n h3⟩
theorem okm_pop : OKM (X.wd T) rPopAt mPop := by
  intro U σ ρ M H l p ds as xs us Q w hM hl hp r ra go
  cases as with
  | nil => exact go.elim
  | cons d as =>
    cases as with
    | cons _ _ => cases d <;> exact go.elim
    | nil =>
      obtain ⟨x, rfl, r1⟩ := one_of ra
      cases d with
      | int i =>
        cases r1
        have go : Gg (X.wd T) U σ (relD (X.wd T)) ρ H (if 0 ≤ i ∧ i < 1000000 then (match ds[i.toNat]? with
          | some d => .ok d (M.set l (.lst (ds.eraseIdx i.toNat)))
          | none => .bad) else .bad) Q := go
        split at go
        · rename_i hc
          cases q : ds[i.toNat]? with
          | none => rw [q] at go; exact go.elim
          | some d =>
            rw [q] at go
            obtain ⟨v, hv, rv⟩ := r.get q
            have hn := (List.getElem?_eq_some_iff.mp hv).1
            refine ⟨p, xs, i, i.toNat, v, rfl, rfl, hp, by omega, by omega, ?_, hv, lst_write w hl hp (r.erase _) rv go⟩
            unfold seqIndex?
            first
              | (rw [if_pos hc.1, if_pos (by omega)])
              | (simp only [ge_iff_le, hc.1, if_true]; rw [if_pos (by omega)])
              | (simp; omega)
        · exact go.elim
      | _ => exact go.elim
/-- xs.insert(0, x) -/
def mIns (ds : List D) (l : Nat) (as : List D) (M : Mem) : Res D := match as with
  | [.int i, d] => if 0 ≤ i ∧ i < 1000000 ∧ ds.length < cap then .ok .non (M.set l (.lst (ds.take i.toNat ++ [d] ++ ds.drop i.toNat))) else .bad
  | _ => .bad
theorem okm_ins : OKM (X.wd T) (fun x vs H Q => ∃ (l : Addr) (xs : List V) (i : Int) (y : V), x = .ref l ∧ vs = [.int i, y] ∧ H l = some (.lst xs) ∧ xs.length < sizeLine ∧ 0 ≤ i ∧ i < 2 ^ 63 ∧
    Q .non (upd H l (.lst (xs.take i.toNat ++ [y] ++ xs.drop i.toNat)))) mIns := by
  intro U σ ρ M H l p ds as xs us Q w hM hl hp r ra go
  cases as with
  | nil => exact go.elim
  | cons d as =>
    cases as with
    | nil => cases d <;> exact go.elim
    | cons d2 as =>
      cases as with
      | cons _ _ => cases d <;> exact go.elim
      | nil =>
        obtain ⟨x, y, rfl, r1, r2⟩ := two_of ra
        cases d with
        | int i =>
          cases r1
          have go : Gg (X.wd T) U σ (relD (X.wd T)) ρ H (if 0 ≤ i ∧ i < 1000000 ∧ ds.length < cap then .ok .non (M.set l (.lst (ds.take i.toNat ++ [d2] ++ ds.drop i.toNat))) else .bad) Q := go
          split at go
          · rename_i hc
            refine ⟨p, xs, i, y, rfl, rfl, hp, by rw [← r.length]; exact Nat.lt_of_lt_of_le hc.2.2 (by decide), hc.1, by omega, lst_write w hl hp (((r.take _).append (es := [d2]) ⟨y, [], rfl, r2, rfl⟩).append (r.drop _)) (d := .non) rfl go⟩
          · exact go.elim
        | _ => exact go.elim
/-- xs.extend(l), l not in the store -/
def eExt (o : E) (l : Ar) : E := fun δ M => (o δ M).bind fun d M => match d with
  | .loc k => (match M[k]? with
    | some (.lst _) => (l δ M).bind fun es M => (match M[k]? with
      | some (.lst ds) => if ds.length + es.length ≤ cap then .ok .non (M.set k (.lst (ds ++ es))) else .bad
      | _ => .bad)
    | _ => .bad)
  | _ => .bad
theorem pd_ext {o : Expr} {apos cpos : Pos} (ho : PE X o (tE (X.wd T) U f)) (ha : PE X e (tL (X.wd T) U l))
    (hbase : attributeBase o "extend" X.env (eval o X.env) = eval o X.env := by rfl)
    (hfew : ((backTo cpos (starEach [e] X.env)).all (fun x => !x.1) && (backToKw cpos (keywordEach [] X.env)).all (fun x => x.1.isSome)
      && decide ([e].length + ([] : List Keyword).length + (if ([] : List Keyword).isEmpty then 0 else 1) < 30)) = true := by rfl)
    (hline : (apos.endLine == cpos.line) = true := by rfl) (hs : starEach [e] X.env = (false, eval e X.env) :: starEach [] X.env := by rfl) (hplain : (backTo cpos (starEach [] X.env)).any (·.1) = false := by rfl) :
    PE X (.Call (.Attribute o "extend" apos) [e] [] cpos) (tE (X.wd T) U (eExt f l)) := by
  refine PE.imp (pe_bm PySem.F.plainAttrs_list PySem.F.slot_list_extend PySem.F.type_list_extend mt_extend ho (pa_cons ha pa_nil hs) hbase hfew hline hs hplain) fun σ H Q ⟨ρ, M, δ, w, er, go⟩ => ⟨ρ, M, δ, w, er, (Gg.bind (rel := relD (X.wd T)) go).imp fun x H1 ⟨ρ1, M1, d, _, e1, w1, r1, go1⟩ => ?_⟩
  cases d with
  | loc k =>
    obtain ⟨p, rfl, hp⟩ := r1
    cases q : M1[k]? with
    | none => simp only [q] at go1; exact go1.elim
    | some o1 =>
      cases o1 with
      | lst ds0 =>
        simp only [q] at go1
        obtain ⟨us0, h3, h4⟩ := w1.obj k _ p q hp
        refine ⟨.inl ⟨rfl, us0, SqL.of h3⟩, ρ1, M1, δ, w1, er.mono e1, (Gg.bind (rel := relL (X.wd T) H1) go1).imp fun us H2 ⟨ρ2, M2, es, _, e2, w2, ⟨b, zs, q0, h0, nb, hb, r2⟩, go2⟩ => ?_⟩
        subst q0
        cases q2 : M2[k]? with
        | none => simp only [q2] at go2; exact go2.elim
        | some o2 =>
          cases o2 with
          | lst ds =>
            simp only [q2] at go2
            obtain ⟨xs, h5, h6⟩ := w2.obj k _ p q2 (e2.at_ hp)
            split at go2
            · rename_i hc
              exact ⟨p, b, xs, zs, rfl, rfl, h5, hb, by rw [← h6.length, ← r2.length]; exact cap_le hc, lst_write w2 (e2.at_ hp) h5 (h6.append r2) (d := .non) rfl go2⟩
            · exact go2.elim
          | _ => simp only [q2] at go2; exact go2.elim
      | _ => simp only [q] at go1; exact go1.elim
  | _ => exact go1.elim
def eqNil (neg : Bool) (a : E) : E := fun δ M => (a δ M).bind fun d M => match d with
  | .loc l => (match M[l]? with
    | some (.lst ds) => if ds.all (eqOk 8) = true then .ok (.bl (if neg then !ds.isEmpty else ds.isEmpty)) M else .bad
    | _ => .bad)
  | _ => .bad
/-- .. of a list that must be void -/
def neNilL (l : Ar) : E := fun δ M => (l δ M).bind fun ds M => match ds with
  | [] => .ok (.bl false) M
  | _ => .bad
theorem eqv_nil (ds : List PyData) : PyData.eqv (.list ds) (.list []) = ds.isEmpty := by cases ds <;> rfl
theorem shaped_list {ds : List D} (h : ds.all (eqOk 8) = true) : SeqAt.shaped (.list (pys ds)) = true := by
  have h2 : ∀ d ∈ ds, (py d).canLay0 = true ∧ (py d).depth ≤ 8 := fun d hd => py_ok 8 d (List.all_eq_true.mp h d hd)
  unfold SeqAt.shaped
  have a1 : PyData.canLay0 (.list (pys ds)) = true := canLayAll_of fun d hd => (h2 d hd).1
  have a2 : PyData.depth (.list (pys ds)) ≤ 9 := Nat.succ_le_succ (depthAll_le fun d hd => (h2 d hd).2)
  rw [a1, decide_eq_true (by omega)] <;> rfl
theorem pys_nil {ds : List D} : (pys ds).isEmpty = ds.isEmpty := by cases ds <;> rfl
theorem pd_eqNil {p2 : Pos} (hu : X.A.units + 64 < cLine) (ha : PE X a (tE (X.wd T) U f)) : PE X (.Compare a [.Eq] [.List [] p2] pos) (tE (X.wd T) U (eqNil false f)) := by
  refine PE.imp (pe_cmpR (op_eqD hu) ha (pe_lst pa_nil) (nomark _)) fun σ H Q ⟨ρ, M, δ, w, er, go⟩ => ⟨ρ, M, δ, w, er, (Gg.bind (rel := relD (X.wd T)) go).imp fun x H1 ⟨ρ1, M1, d, _, e1, w1, r1, go1⟩ => ?_⟩
  refine ⟨Nat.zero_le _, fun p hp => ?_⟩
  cases d with
  | loc k =>
    obtain ⟨q, rfl, hq⟩ := r1
    cases e : M1[k]? with
    | none => simp only [e] at go1; exact go1.elim
    | some o1 =>
      cases o1 with
      | lst ds =>
        simp only [e] at go1
        split at go1
        · rename_i hc
          obtain ⟨us, h3, h4⟩ := w1.obj k _ q e hq
          have z := shaped_list hc
          refine ⟨.list (pys ds), .list [], .lst (SqL.of (by rw [upd_ne (ne_of_none h3 hp)]; exact h3)) (Rps.dp 8 ds us (List.all_eq_true.mp hc) (h4.mono (Ex.new hp))), .lst (SqL.of upd_same) .nil, z, by decide, ?_⟩
          rw [eqv_nil, pys_nil]
          exact go1 (V.bl _) ρ1 _ (Ex.new hp) (w1.new hp) rfl
        · exact go1.elim
      | _ => simp only [e] at go1; exact go1.elim
  | _ => exact go1.elim
theorem pd_neNil {p2 : Pos} (hu : X.A.units + 64 < cLine) (ha : PE X a (tE (X.wd T) U f)) : PE X (.Compare a [.NotEq] [.List [] p2] pos) (tE (X.wd T) U (eqNil true f)) := by
  refine PE.imp (pe_cmpR (op_neD hu) ha (pe_lst pa_nil) (nomark _)) fun σ H Q ⟨ρ, M, δ, w, er, go⟩ => ⟨ρ, M, δ, w, er, (Gg.bind (rel := relD (X.wd T)) go).imp fun x H1 ⟨ρ1, M1, d, _, e1, w1, r1, go1⟩ => ?_⟩
  refine ⟨Nat.zero_le _, fun p hp => ?_⟩
  cases d with
  | loc k =>
    obtain ⟨q, rfl, hq⟩ := r1
    cases e : M1[k]? with
    | none => simp only [e] at go1; exact go1.elim
    | some o1 =>
      cases o1 with
      | lst ds =>
        simp only [e] at go1
        split at go1
        · rename_i hc
          obtain ⟨us, h3, h4⟩ := w1.obj k _ q e hq
          have z := shaped_list hc
          refine ⟨.list (pys ds), .list [], .lst (SqL.of (by rw [upd_ne (ne_of_none h3 hp)]; exact h3)) (Rps.dp 8 ds us (List.all_eq_true.mp hc) (h4.mono (Ex.new hp))), .lst (SqL.of upd_same) .nil, z, by decide, ?_⟩
          rw [eqv_nil, pys_nil]
          exact go1 (V.bl _) ρ1 _ (Ex.new hp) (w1.new hp) rfl
        · exact go1.elim
      | _ => simp only [e] at go1; exact go1.elim
  | _ => exact go1.elim
theorem test_ofE {te : TE} {g : E} (h0 : PE X a (tE (X.wd T) U g)) : True := trivial
theorem pt_eqNil {p2 : Pos} (hu : X.A.units + 64 < cLine) (ha : PE X a (tE (X.wd T) U f)) : PT X (.Compare a [.Eq] [.List [] p2] pos) (tT (X.wd T) U (tB (eqNil false f))) := by
  refine PT.imp (pt_cmpR (op_eqD hu) ha (pe_lst pa_nil) (nomark _)) fun σ H Q h => test_of (te := tOp (rEqD X.K) (tE (X.wd T) U f) (tLst tNil)) (fun σ H Q ⟨ρ, M, δ, w, er, go⟩ => ⟨ρ, M, δ, w, er, (Gg.bind (rel := relD (X.wd T)) go).imp fun x H1 ⟨ρ1, M1, d, _, e1, w1, r1, go1⟩ => ?_⟩) h
  refine ⟨Nat.zero_le _, fun p hp => ?_⟩
  cases d with
  | loc k =>
    obtain ⟨q, rfl, hq⟩ := r1
    cases e : M1[k]? with
    | none => simp only [e] at go1; exact go1.elim
    | some o1 =>
      cases o1 with
      | lst ds =>
        simp only [e] at go1
        split at go1
        · rename_i hc
          obtain ⟨us, h3, h4⟩ := w1.obj k _ q e hq
          have z := shaped_list hc
          refine ⟨.list (pys ds), .list [], .lst (SqL.of (by rw [upd_ne (ne_of_none h3 hp)]; exact h3)) (Rps.dp 8 ds us (List.all_eq_true.mp hc) (h4.mono (Ex.new hp))), .lst (SqL.of upd_same) .nil, z, by decide, ?_⟩
          rw [eqv_nil, pys_nil]
          exact go1 (V.bl _) ρ1 _ (Ex.new hp) (w1.new hp) rfl
        · exact go1.elim
      | _ => simp only [e] at go1; exact go1.elim
  | _ => exact go1.elim
theorem pt_neNil {p2 : Pos} (hu : X.A.units + 64 < cLine) (ha : PE X a (tE (X.wd T) U f)) : PT X (.Compare a [.NotEq] [.List [] p2] pos) (tT (X.wd T) U (tB (eqNil true f))) := by
  refine PT.imp (pt_cmpR (op_neD hu) ha (pe_lst pa_nil) (nomark _)) fun σ H Q h => test_of (te := tOp (rNeD X.K) (tE (X.wd T) U f) (tLst tNil)) (fun σ H Q ⟨ρ, M, δ, w, er, go⟩ => ⟨ρ, M, δ, w, er, (Gg.bind (rel := relD (X.wd T)) go).imp fun x H1 ⟨ρ1, M1, d, _, e1, w1, r1, go1⟩ => ?_⟩) h
  refine ⟨Nat.zero_le _, fun p hp => ?_⟩
  cases d with
  | loc k =>
    obtain ⟨q, rfl, hq⟩ := r1
    cases e : M1[k]? with
    | none => simp only [e] at go1; exact go1.elim
    | some o1 =>
      cases o1 with
      | lst ds =>
        simp only [e] at go1
        split at go1
        · rename_i hc
          obtain ⟨us, h3, h4⟩ := w1.obj k _ q e hq
          have z := shaped_list hc
          refine ⟨.list (pys ds), .list [], .lst (SqL.of (by rw [upd_ne (ne_of_none h3 hp)]; exact h3)) (Rps.dp 8 ds us (List.all_eq_true.mp hc) (h4.mono (Ex.new hp))), .lst (SqL.of upd_same) .nil, z, by decide, ?_⟩
          rw [eqv_nil, pys_nil]
          exact go1 (V.bl _) ρ1 _ (Ex.new hp) (w1.new hp) rfl
        · exact go1.elim
      | _ => simp only [e] at go1; exact go1.elim
  | _ => exact go1.elim
theorem pt_neNilL {p2 : Pos} (hu : X.A.units + 64 < cLine) (ha : PE X a (tL (X.wd T) U l)) : PT X (.Compare a [.NotEq] [.List [] p2] pos) (tT (X.wd T) U (tB (neNilL l))) := by
  refine PT.imp (pt_cmpR (op_neD hu) ha (pe_lst pa_nil) (nomark _)) fun σ H Q h => test_of (te := tOp (rNeD X.K) (tL (X.wd T) U l) (tLst tNil)) (fun σ H Q ⟨ρ, M, δ, w, er, go⟩ => ⟨ρ, M, δ, w, er, (Gg.bind (rel := relL (X.wd T) H) go).imp fun x H1 ⟨ρ1, M1, ds, _, e1, w1, ⟨q, xs, q0, h0, nq, hq, r1⟩, go1⟩ => ?_⟩) h
  subst q0
  refine ⟨Nat.zero_le _, fun p hp => ?_⟩
  cases ds with
  | nil =>
    cases r1
    exact ⟨.list [], .list [], .lst (SqL.of (by rw [upd_ne (ne_of_none hq hp)]; exact hq)) .nil, .lst (SqL.of upd_same) .nil, by decide, by decide, go1 (V.bl _) ρ1 _ (Ex.new hp) (w1.new hp) rfl⟩
  | cons _ _ => exact go1.elim
def eSIndex (o a : E) : E := fun δ M => (o δ M).bind fun d M => match d with
  | .str s => (a δ M).bind fun d2 M => (match d2 with
    | .str t => (match Builtin.Str.occurrences (Str.ofString s) (Str.ofString t) 0 (Str.ofString s).length 1 with
      | i :: _ => .ok (.int (i : Nat)) M
      | [] => .bad)
    | _ => .bad)
  | _ => .bad
theorem pd_sindex {o : Expr} {apos cpos : Pos} (ho : PE X o (tE (X.wd T) U f1)) (ha : PE X e (tE (X.wd T) U f2))
    (hbase : attributeBase o "index" X.env (eval o X.env) = eval o X.env := by rfl)
    (hfew : ((backTo cpos (starEach [e] X.env)).all (fun x => !x.1) && (backToKw cpos (keywordEach [] X.env)).all (fun x => x.1.isSome)
      && decide ([e].length + ([] : List Keyword).length + (if ([] : List Keyword).isEmpty then 0 else 1) < 30)) = true := by rfl)
    (hline : (apos.endLine == cpos.line) = true := by rfl) (hs : starEach [e] X.env = (false, eval e X.env) :: starEach [] X.env := by rfl) (hplain : (backTo cpos (starEach [] X.env)).any (·.1) = false := by rfl) :
    PE X (.Call (.Attribute o "index" apos) [e] [] cpos) (tE (X.wd T) U (eSIndex f1 f2)) := by
  refine PE.imp (pe_bm PySem.F.plainAttrs_str PySem.F.slot_str_index PySem.F.type_str_index mt_sindex ho (pa_cons ha pa_nil hs) hbase hfew hline hs hplain) fun σ H Q ⟨ρ, M, δ, w, er, go⟩ => ⟨ρ, M, δ, w, er, (Gg.bind (rel := relD (X.wd T)) go).imp fun x H1 ⟨ρ1, M1, d, _, e1, w1, r1, go1⟩ => ?_⟩
  obtain ⟨s, rfl⟩ : ∃ s, d = .str s := by cases d <;> first | exact go1.elim | exact ⟨_, rfl⟩
  cases r1
  refine ⟨rfl, ρ1, M1, δ, w1, er.mono e1, (Gg.bind (rel := relD (X.wd T)) go1).imp fun y H2 ⟨ρ2, M2, d2, _, e2, w2, r2, go2⟩ => ?_⟩
  cases d2 with
  | str t =>
    cases r2
    cases q : Builtin.Str.occurrences (Str.ofString s) (Str.ofString t) 0 (Str.ofString s).length 1 with
    | nil => simp only [q] at go2; exact go2.elim
    | cons i rest =>
      simp only [q] at go2
      exact ⟨_, _, i, rest, rfl, rfl, q, Gg.ret w2 (v := V.int _) rfl go2⟩
  | _ => exact go2.elim
end
end Dt
namespace Dt
open PySem PySem.Spec PyProof.Rows L2
abbrev kf (p : String × D) : Key := Sum.inr (Str.ofString p.1)
theorem kf_inj {a b : String} (h : (Sum.inr (Str.ofString a) : Key) = Sum.inr (Str.ofString b)) : a = b := ofString_inj (Sum.inr.inj h)
def getS : List (String × D) → String → Option D
  | [], _ => none
  | p :: r, k => if p.1 = k then some p.2 else getS r k
def putS : List (String × D) → String → D → List (String × D)
  | [], k, v => [(k, v)]
  | p :: r, k, v => if p.1 = k then (k, v) :: r else p :: putS r k v
section
variable {K : PySem.W.Frag} {H : Hp} {ρ : List Addr}
theorem get_zip {k : String} : ∀ {kvs : List (String × D)} {xs : List V} {d : D}, Rps K H ρ (kvs.map (·.2)) xs → getS kvs k = some d → ∃ v, valV ((kvs.map kf).zip xs) (Sum.inr (Str.ofString k)) = some v ∧ Rp K H ρ d v
  | [], _, _, _, e => by cases e
  | p :: r, _, d, h, e => by
    obtain ⟨x, q, rfl, h1, h2⟩ := h
    unfold getS at e
    rw [List.map_cons, List.zip_cons_cons]
    split at e
    · rename_i hp
      cases e
      exact ⟨x, valV_pos (by show kf p = _; rw [← hp]), h1⟩
    · rename_i hp
      obtain ⟨v, e1, e2⟩ := get_zip h2 e
      exact ⟨v, by rw [valV_neg (show ¬ kf p = _ from fun z => hp (kf_inj z))]; exact e1, e2⟩
theorem any_zip {k : String} : ∀ {kvs : List (String × D)} {xs : List V}, kvs.length = xs.length → (((kvs.map kf).zip xs).any fun kv => decide (kv.1 = Sum.inr (Str.ofString k))) = kvs.any fun p => decide (p.1 = k)
  | [], _, _ => rfl
  | p :: r, [], h => by simp at h
  | p :: r, x :: xs, h => by
    rw [List.map_cons, List.zip_cons_cons, List.any_cons, List.any_cons, any_zip (by simpa using h)]
    congr 1
    by_cases q : p.1 = k
    · subst q; simp
    · rw [decide_eq_false q, decide_eq_false (fun z => q (kf_inj z))]
theorem putS_new {k : String} {v : D} : ∀ {kvs : List (String × D)}, (kvs.any fun p => decide (p.1 = k)) = false → putS kvs k v = kvs ++ [(k, v)]
  | [], _ => rfl
  | p :: r, h => by
    rw [List.any_cons, Bool.or_eq_false_iff] at h
    unfold putS
    rw [if_neg (of_decide_eq_false h.1), putS_new h.2]
    rfl
/-- keys apart -/
theorem map_zip {k : String} {d : D} {v : V} (rd : Rp K H ρ d v) : ∀ {kvs : List (String × D)} {xs : List V}, (kvs.map (·.1)).Nodup → Rps K H ρ (kvs.map (·.2)) xs → (kvs.any fun p => decide (p.1 = k)) = true →
    ∃ xs', ((kvs.map kf).zip xs).map (fun kv => if kv.1 = (Sum.inr (Str.ofString k) : Key) then (kv.1, v) else kv) = ((putS kvs k d).map kf).zip xs' ∧ Rps K H ρ ((putS kvs k d).map (·.2)) xs'
  | [], _, _, _, e => by cases e
  | p :: r, _, nd, h, e => by
    obtain ⟨x, q, rfl, h1, h2⟩ := h
    rw [List.map_cons, List.nodup_cons] at nd
    unfold putS
    rw [List.map_cons, List.zip_cons_cons, List.map_cons]
    by_cases hp : p.1 = k
    · rw [if_pos (show kf p = _ from by show (Sum.inr (Str.ofString p.1) : Key) = _; rw [hp]), if_pos hp]
      refine ⟨v :: q, ?_, v, q, rfl, rd, h2⟩
      rw [List.map_cons, List.zip_cons_cons]
      congr 1
      · show (kf p, v) = (kf (k, d), v)
        unfold kf
        rw [hp]
      · have : ∀ {kvs : List (String × D)} {xs : List V}, k ∉ kvs.map (·.1) → ((kvs.map kf).zip xs).map (fun kv => if kv.1 = (Sum.inr (Str.ofString k) : Key) then (kv.1, v) else kv) = (kvs.map kf).zip xs := by
          intro kvs
          induction kvs with
          | nil => intro xs _; rfl
          | cons a b ih =>
            intro xs hk
            cases xs with
            | nil => rfl
            | cons y ys =>
              rw [List.map_cons, List.zip_cons_cons, List.map_cons, ih (fun z => hk (List.mem_cons_of_mem _ z)), if_neg]
              exact fun z => hk (by rw [List.map_cons, kf_inj z]; exact List.mem_cons_self)
        exact this (by rw [← hp]; exact nd.1)
    · rw [if_neg (show ¬ kf p = _ from fun z => hp (kf_inj z)), if_neg hp]
      rw [List.any_cons, decide_eq_false hp, Bool.false_or] at e
      obtain ⟨xs', e1, e2⟩ := map_zip rd nd.2 h2 e
      exact ⟨x :: xs', by rw [e1, List.map_cons, List.zip_cons_cons], x, xs', rfl, h1, e2⟩
theorem put_zip {k : String} {d : D} {v : V} {kvs : List (String × D)} {xs : List V} (rd : Rp K H ρ d v) (nd : (kvs.map (·.1)).Nodup) (h : Rps K H ρ (kvs.map (·.2)) xs) :
    ∃ xs', putK ((kvs.map kf).zip xs) (Sum.inr (Str.ofString k)) v = ((putS kvs k d).map kf).zip xs' ∧ Rps K H ρ ((putS kvs k d).map (·.2)) xs' := by
  have hl : kvs.length = xs.length := by rw [← h.length, List.length_map]
  unfold putK
  rw [any_zip hl]
  cases e : kvs.any fun p => decide (p.1 = k) with
  | true =>
    rw [if_pos rfl]
    exact map_zip rd nd h e
  | false =>
    rw [if_neg Bool.false_ne_true, putS_new e]
    refine ⟨xs ++ [v], ?_, by rw [List.map_append]; exact h.append (es := [d]) ⟨v, [], rfl, rd, rfl⟩⟩
    rw [List.map_append, List.zip_append (by rw [List.length_map]; exact hl)]
    rfl
theorem putS_keys {k : String} {v : D} : ∀ {kvs : List (String × D)}, (kvs.map (·.1)).Nodup → ((putS kvs k v).map (·.1)).Nodup ∧ ∀ j, j ∈ (putS kvs k v).map (·.1) → j = k ∨ j ∈ kvs.map (·.1)
  | [], _ => ⟨by simp [putS], fun j hj => .inl (by simpa [putS] using hj)⟩
  | p :: r, nd => by
    rw [List.map_cons, List.nodup_cons] at nd
    unfold putS
    by_cases hp : p.1 = k
    · rw [if_pos hp]
      refine ⟨?_, fun j hj => ?_⟩
      · rw [List.map_cons, List.nodup_cons]
        exact ⟨by rw [← hp]; exact nd.1, nd.2⟩
      · rw [List.map_cons] at hj
        rcases List.mem_cons.mp hj with h | h
        · exact .inl h
        · exact .inr (List.mem_cons_of_mem _ h)
    · rw [if_neg hp]
      obtain ⟨h1, h2⟩ := putS_keys (k := k) (v := v) nd.2
      refine ⟨?_, fun j hj => ?_⟩
      · rw [List.map_cons, List.nodup_cons]
        exact ⟨fun z => (h2 _ z).elim hp nd.1, h1⟩
      · rw [List.map_cons] at hj
        rcases List.mem_cons.mp hj with h | h
        · exact .inr (by rw [List.map_cons, h]; exact List.mem_cons_self)
        · rcases h2 j h with h | h
          · exact .inl h
          · exact .inr (List.mem_cons_of_mem _ h)
end
section
variable {X : Cx} {T : List (Addr × Str)} {U : WX} {pos : Pos} {e a b : Expr} {es : List Expr} {f f1 f2 : E} {l fa : Ar}
/-- d["k"] -/
def dGetS (k : String) (d : D) (M : Mem) : Res D := match d with
  | .loc l => (match M[l]? with
    | some (.dk kvs) => (match getS kvs k with
      | some v => .ok v M
      | none => .bad)
    | _ => .bad)
  | _ => .bad
theorem pd_getS {o : Expr} {j : Nat} {p2 : Pos} (k : String) (hu : X.A.units + 1 < cLine) (ho : PE X o (tE (X.wd T) U f)) : PE X (.Subscript o (.Constant (.str (Str.ofString k)) j p2) pos) (tE (X.wd T) U (eU (dGetS k) f)) := by
  refine PE.imp (pe_dget hu ho pe_str (fun _ _ => rfl)) fun σ H Q ⟨ρ, M, δ, w, er, go⟩ => ⟨ρ, M, δ, w, er, (Gg.bind (rel := relD (X.wd T)) go).imp fun x H1 ⟨ρ1, M1, d, _, e1, w1, r1, go1⟩ => ?_⟩
  cases d with
  | loc l =>
    obtain ⟨p, rfl, hp⟩ := r1
    unfold dGetS at go1
    cases q : M1[l]? with
    | none => simp only [q] at go1; exact go1.elim
    | some o1 =>
      cases o1 with
      | dk kvs =>
        simp only [q] at go1
        obtain ⟨xs, h3, h4⟩ := w1.obj l _ p q hp
        cases q2 : getS kvs k with
        | none => simp only [q2] at go1; exact go1.elim
        | some v =>
          simp only [q2] at go1
          obtain ⟨x, e2, r⟩ := get_zip h4 q2
          refine ⟨p, x, rfl, ?_, Gg.ret w1 r go1⟩
          rw [← e2]
          exact DGet.k (k := Sum.inr (Str.ofString k)) h3
      | _ => simp only [q] at go1; exact go1.elim
  | _ => exact go1.elim
/-- a dict of the store is written -/
def mPutS (k : String) (v d : D) (M : Mem) : Option Mem := match d with
  | .loc l => (match M[l]? with
    | some (.dk kvs) => if (kvs.map (·.1)).Nodup ∧ kvs.length < cap then some (M.set l (.dk (putS kvs k v))) else none
    | _ => none)
  | _ => none
theorem put_ok {W : Wd} {k : String} {v d : D} {M M' : Mem} {ρ : List Addr} {H : Hp} {x y : V} (w : WOk W ρ M H) (e : mPutS k v d M = some M') (rd : Rp W.K H ρ d x) (rv : Rp W.K H ρ v y) :
    ∃ p H', x = .ref p ∧ DPut H p (.str (Str.ofString k)) y H' ∧ Ex ρ H ρ H' ∧ WOk W ρ M' H' := by
  unfold mPutS at e
  cases d with
  | loc l =>
    obtain ⟨p, rfl, hp⟩ := rd
    cases q : M[l]? with
    | none => simp only [q] at e; cases e
    | some o1 =>
      cases o1 with
      | dk kvs =>
        simp only [q] at e
        split at e
        · rename_i hc
          cases e
          obtain ⟨xs, h3, h4⟩ := w.obj l _ p q hp
          have hlen : xs.length = kvs.length := by rw [← h4.length, List.length_map]
          obtain ⟨xs', e1, r1⟩ := put_zip (k := k) rv hc.1 h4
          have ex : Ex ρ H ρ (upd H p (.dK (putK ((kvs.map kf).zip xs) (Sum.inr (Str.ofString k)) y))) := Ex.write hp h3 (fun _ z => by cases z) (fun _ _ z => by cases z)
          refine ⟨p, _, rfl, DPut.k (k := Sum.inr (Str.ofString k)) h3 ?_, ex, w.write hp h3 (fun _ z => by cases z) (fun _ _ z => by cases z) (fun _ z => by cases z) (fun _ _ z => by unfold LamX.CodeO at z; cases z) ⟨xs', by rw [upd_same, e1], r1.mono ex⟩⟩
          rw [List.length_zip, List.length_map, hlen, Nat.min_self]
          exact Nat.lt_of_lt_of_le hc.2 (by decide)
        · cases e
      | _ => simp only [q] at e; cases e
  | _ => cases e
def sPutS (o : E) (k : String) (v : E) : S := fun δ M => (v δ M).st δ fun y M => (o δ M).st δ fun d M => match mPutS k y d M with
  | some M' => .nx δ M'
  | none => .bad
theorem s_putS {o v : Expr} {j : Nat} {p2 p3 : Pos} (k : String) (hu : X.A.units + 1 < cLine) (ho : PE X o (tE (X.wd T) U f)) (hv : PE X v (tE (X.wd T) U f1))
    (hs : swapsWith v (some (.Subscript o (.Constant (.str (Str.ofString k)) j p2) p3)) pos.line X.env = pure false := by rfl) : PS X (.Assign [.Subscript o (.Constant (.str (Str.ofString k)) j p2) p3] v pos) (tS (X.wd T) U (sPutS f k f1)) := by
  refine PS.imp (ps_dput hu ho pe_str hv hs) fun D σ H ⟨ρ, M, δ, w, er, h⟩ => ⟨ρ, M, δ, w, er, Ss.of (rel := relD (X.wd T)) er h fun y M1 yv ρ1 H1 _ e1 w1 r1 er1 h1 => ⟨ρ1, M1, δ, w1, er1, Ss.of (rel := relD (X.wd T)) er1 h1 fun d M2 x ρ2 H2 _ e2 w2 r2 er2 h2 => ?_⟩⟩
  cases q : mPutS k y d M2 with
  | none => rw [q] at h2; exact h2.elim
  | some M' =>
    rw [q] at h2
    obtain ⟨p, H', rfl, g, ex, w'⟩ := put_ok w2 q r2 (r1.mono e2)
    exact ⟨p, H', rfl, g, h2 σ ρ2 H' ex w' (er2.mono ex)⟩
/-- d["a"], d["b"] = e -/
def sPutS2 (o1 : E) (k1 : String) (o2 : E) (k2 : String) (v : E) : S := fun δ M => (v δ M).st δ fun y M => match y with
  | .tup [y1, y2] => (o1 δ M).st δ fun d M => (match mPutS k1 y1 d M with
    | some M => (o2 δ M).st δ fun d M => (match mPutS k2 y2 d M with
      | some M => .nx δ M
      | none => .bad)
    | none => .bad)
  | _ => .bad
theorem s_putS2 {o1 o2 v : Expr} {j1 j2 kk : Nat} {p1 p2 p3 p4 p5 : Pos} (k1 k2 : String) (hc : X.calm = true) (hu : X.A.units + 1 < cLine) (ho1 : PE X o1 (tE (X.wd T) U f1)) (ho2 : PE X o2 (tE (X.wd T) U f2)) (hv : PE X v (tE (X.wd T) U f))
    (hs : swapsWithSole [.Tuple [.Subscript o1 (.Constant (.str (Str.ofString k1)) j1 p1) p2, .Subscript o2 (.Constant (.str (Str.ofString k2)) j2 p3) p4] kk p5] v pos.line X.env = pure false := by rfl)
    (hw : swappedStores [.Tuple [.Subscript o1 (.Constant (.str (Str.ofString k1)) j1 p1) p2, .Subscript o2 (.Constant (.str (Str.ofString k2)) j2 p3) p4] kk p5] v X.env = pure none := by rfl) :
    PS X (.Assign [.Tuple [.Subscript o1 (.Constant (.str (Str.ofString k1)) j1 p1) p2, .Subscript o2 (.Constant (.str (Str.ofString k2)) j2 p3) p4] kk p5] v pos) (tS (X.wd T) U (sPutS2 f1 k1 f2 k2 f)) := by
  refine PS.imp (ps_asg hv (pg_tup hc (pgs_cons (pg_sub ho1 pe_str (set_dict hu)) (pgs_cons (pg_sub ho2 pe_str (set_dict hu)) pgs_nil)) rfl) hs hw) fun D σ H ⟨ρ, M, δ, w, er, h⟩ => ⟨ρ, M, δ, w, er, Ss.of (rel := relD (X.wd T)) er h fun y M1 yv ρ1 H1 _ e1 w1 r1 er1 h1 => ?_⟩
  obtain ⟨y1, y2, rfl⟩ : ∃ y1 y2, y = .tup [y1, y2] := by
    cases y with
    | tup ds =>
      match ds with
      | [y1, y2] => exact ⟨_, _, rfl⟩
      | [] => exact h1.elim
      | [_] => exact h1.elim
      | _ :: _ :: _ :: _ => exact h1.elim
    | _ => exact h1.elim
  obtain ⟨q, xs, rfl, hq, hxs⟩ := r1
  obtain ⟨x1, x2, rfl, r1, r2⟩ := two_of hxs
  refine ⟨q, _, rfl, hq, rfl, x1, [x2], rfl, ρ1, M1, δ, w1, er1, Ss.of (rel := relD (X.wd T)) er1 h1 fun d M2 x ρ2 H2 _ e2 w2 rd er2 h2 => ?_⟩
  cases z : mPutS k1 y1 d M2 with
  | none => rw [z] at h2; exact h2.elim
  | some M3 =>
    simp only [z] at h2
    obtain ⟨p, H3, rfl, g, ex, w3⟩ := put_ok w2 z rd (r1.mono e2)
    have er3 := er2.mono ex
    have h3 := Ss.start ex h2
    refine ⟨p, H3, rfl, g, x2, [], rfl, ρ2, M3, δ, w3, er3, Ss.of (rel := relD (X.wd T)) er3 h3 fun d M4 x ρ4 H4 _ e4 w4 rd er4 h4 => ?_⟩
    cases z2 : mPutS k2 y2 d M4 with
    | none => rw [z2] at h4; exact h4.elim
    | some M5 =>
      simp only [z2] at h4
      obtain ⟨p2, H5, rfl, g2, ex2, w5⟩ := put_ok w4 z2 rd (((r2.mono e2).mono ex).mono e4)
      exact ⟨p2, H5, rfl, g2, rfl, h4 σ ρ4 H5 ex2 w5 (er4.mono ex2)⟩
def aOf : List (String × E) → Ar
  | [] => aNil
  | p :: r => aCons p.2 (aOf r)
def prs (W : Wd) (U : WX) (ps : List (String × E)) : List (TE × TE) := ps.map fun p => (tC (.str (Str.ofString p.1)), tE W U p.2)
theorem pp_nil : PPs X pos [] [] (prs (X.wd T) U []) := pps_nil
theorem pp_cons {k : String} {j : Nat} {p2 : Pos} {v : Expr} {ks : List (Option Expr)} {vs : List Expr} {ps : List (String × E)} (hv : PE X v (tE (X.wd T) U f)) (hr : PPs X pos ks vs (prs (X.wd T) U ps)) :
    PPs X pos (some (.Constant (.str (Str.ofString k)) j p2) :: ks) (v :: vs) (prs (X.wd T) U ((k, f) :: ps)) := pps_cons pe_str hv hr
theorem pairs_read {W : Wd} {σ : L2.St} {δ : Env} : ∀ {ps : List (String × E)} {ρ : List Addr} {M : Mem} {H : Hp} {Q : List (V × V) → Hp → Prop}, WOk W ρ M H → ER W.K H ρ δ σ →
    Gg W U σ (relA W) ρ H (aOf ps δ M) (fun xs H2 => Q ((ps.map fun p => V.str (Str.ofString p.1)).zip xs) H2) → tPairs (prs W U ps) σ H Q
  | [], ρ, M, H, Q, w, er, go => by
    have go : Gg W U σ (relA W) ρ H (.ok [] M) (fun xs H2 => Q ((([] : List (String × E)).map fun p => V.str (Str.ofString p.1)).zip xs) H2) := go
    exact go [] ρ H Ex.refl w rfl
  | p :: ps, ρ, M, H, Q, w, er, go => by
    refine ⟨ρ, M, δ, w, er, (Gg.bind (rel := relD W) go).imp fun x H1 ⟨ρ1, M1, d, _, e1, w1, r1, go1⟩ => ?_⟩
    refine pairs_read (Q := fun ps H3 => Q ((.str (Str.ofString p.1), x) :: ps) H3) w1 (er.mono e1) ((Gg.bind (rel := relA W) go1).imp fun xs H2 ⟨ρ2, M2, ds, _, e2, w2, r2, go2⟩ => ?_)
    exact Gg.ret (v := x :: xs) w2 ⟨x, xs, rfl, r1.mono e2, r2⟩ go2
theorem mergeK_app : ∀ {more kvs : List (Key × V)}, (more.map (·.1)).Nodup → (∀ k ∈ more.map (·.1), k ∉ kvs.map (·.1)) → mergeK kvs more = kvs ++ more
  | [], kvs, _, _ => by unfold mergeK; simp
  | p :: r, kvs, nd, hk => by
    rw [List.map_cons, List.nodup_cons] at nd
    have e1 : putK kvs p.1 p.2 = kvs ++ [p] := by
      unfold putK
      rw [if_neg]
      intro z
      obtain ⟨q, hq, e⟩ := List.any_eq_true.mp z
      exact hk p.1 (by rw [List.map_cons]; exact List.mem_cons_self) (by rw [← of_decide_eq_true e]; exact List.mem_map_of_mem hq)
    show mergeK (putK kvs p.1 p.2) r = _
    rw [e1, mergeK_app nd.2 (fun k hk' z => ?_), List.append_assoc]
    · rfl
    · rw [List.map_append, List.mem_append] at z
      rcases z with z | z
      · exact hk k (by rw [List.map_cons]; exact List.mem_cons_of_mem _ hk') z
      · simp at z
        rw [z] at hk'
        exact nd.1 hk'
def eDict (ps : List (String × E)) : E := fun δ M => (aOf ps δ M).bind fun ds M => .ok (.loc M.length) (M ++ [.dk ((ps.map (·.1)).zip ds)])
theorem aOf_len : ∀ {ps : List (String × E)} {δ : Env} {M M' : Mem} {ds : List D}, aOf ps δ M = .ok ds M' → ds.length = ps.length
  | [], _, _, _, _, h => by cases h; rfl
  | p :: ps, δ, M, M', ds, h => by
    have h : (p.2 δ M).bind (fun x M => (aOf ps δ M).bind fun xs M => .ok (x :: xs) M) = .ok ds M' := h
    cases q : p.2 δ M with
    | bad => rw [q] at h; cases h
    | ex _ _ => rw [q] at h; cases h
    | ok x M1 =>
      rw [q] at h
      cases q2 : aOf ps δ M1 with
      | bad => simp only [Res.bind_ok, q2] at h; cases h
      | ex _ _ => simp only [Res.bind_ok, q2] at h; cases h
      | ok xs M2 =>
        simp only [Res.bind_ok, q2] at h
        injection h with h1 h2
        subst h1
        rw [List.length_cons, List.length_cons, aOf_len q2]
theorem zip_fst : ∀ {a : List String} {b : List D}, b.length = a.length → (a.zip b).map (·.1) = a ∧ (a.zip b).map (·.2) = b
  | [], [], _ => ⟨rfl, rfl⟩
  | [], _ :: _, h => by cases h
  | _ :: _, [], h => by cases h
  | x :: xs, y :: ys, h => by
    obtain ⟨h1, h2⟩ := zip_fst (a := xs) (b := ys) (by simpa using h)
    exact ⟨by rw [List.zip_cons_cons, List.map_cons, h1], by rw [List.zip_cons_cons, List.map_cons, h2]⟩
theorem pd_dict {keys : List (Option Expr)} {values : List Expr} {ps : List (String × E)} (h : PPs X pos keys values (prs (X.wd T) U ps)) (nd : (ps.map (·.1)).Nodup) (hall : keys.all (·.isSome) = true := by rfl) (hl : keys.length = values.length := by rfl) (h0 : keys ≠ [] := by exact fun z => by cases z)
    (h15 : keys.length ≤ 15 := by decide) (hps : ps.length ≤ 15 := by decide) : PE X (.Dict keys values pos) (tE (X.wd T) U (eDict ps)) := by
  refine PE.imp (pe_disp h hall hl h0 h15) fun σ H Q ⟨ρ, M, δ, w, er, go⟩ p hp => ?_
  have w1 := w.new (o := .dK []) hp
  have ex1 : Ex ρ H ρ (upd H p (.dK [])) := Ex.new hp
  refine pairs_read w1 (er.mono ex1) ?_
  have go : Gg (X.wd T) U σ (relD (X.wd T)) ρ H ((aOf ps δ M).bind fun ds M => .ok (.loc M.length) (M ++ [.dk ((ps.map (·.1)).zip ds)])) Q := go
  cases q : aOf ps δ M with
  | bad => rw [q] at go; exact go.elim
  | ex e M1 =>
    rw [q] at go
    exact fun c dd ρ' H' e w x => go c dd ρ' H' (ex1.trans e) w x
  | ok ds M1 =>
    rw [q] at go
    have hlen := aOf_len q
    rintro xs ρ2 H2 e2 w2 r2
    have e12 := ex1.trans e2
    have hp2 : H2 p = some (.dK []) := e2.keep _ _ upd_same (w.fresh hp) fun _ z => by cases z
    have np : p ∉ ρ2 := fun z => by
      obtain ⟨x, q3, q4⟩ := e2.more
      rw [q3] at z
      rcases List.mem_append.mp z with z | z
      · exact w.fresh hp z
      · exact (q4 _ z).ne upd_same (fun _ z => by cases z) rfl
    have hxl : xs.length = ps.length := by rw [← r2.length, hlen]
    refine ⟨hp2, (ps.map fun p => (Sum.inr (Str.ofString p.1) : Key)).zip xs, ?_, ?_, ?_⟩
    · clear q go r2 hlen h nd hps w1 ex1 e2 e12 hp2 np w2
      have : ∀ (ps : List (String × E)) (xs : List V), (ps.map fun p => V.str (Str.ofString p.1)).zip xs = ((ps.map fun p => (Sum.inr (Str.ofString p.1) : Key)).zip xs).map fun kv => (kV kv.1, kv.2) := by
        intro ps
        induction ps with
        | nil => intro xs; rfl
        | cons a b ih => intro xs; cases xs with
          | nil => rfl
          | cons y ys => rw [List.map_cons, List.zip_cons_cons, List.map_cons, List.zip_cons_cons, List.map_cons, ih] <;> rfl
      exact this ps xs
    · rw [List.length_zip, List.length_map, hxl, Nat.min_self]; exact hps
    · have hm : mergeK [] ((ps.map fun p => (Sum.inr (Str.ofString p.1) : Key)).zip xs) = (ps.map fun p => (Sum.inr (Str.ofString p.1) : Key)).zip xs := by
        rw [mergeK_app, List.nil_append]
        · have e : ((ps.map fun p => (Sum.inr (Str.ofString p.1) : Key)).zip xs).map (·.1) = ps.map fun p => (Sum.inr (Str.ofString p.1) : Key) := by
            rw [List.map_fst_zip]
            rw [List.length_map, hxl]; exact Nat.le_refl _
          rw [e]
          have : ∀ (ps : List (String × E)), (ps.map (·.1)).Nodup → (ps.map fun p => (Sum.inr (Str.ofString p.1) : Key)).Nodup := by
            intro ps
            induction ps with
            | nil => intro _; exact List.nodup_nil
            | cons a b ih =>
              intro h
              rw [List.map_cons, List.nodup_cons] at h ⊢
              refine ⟨fun z => ?_, ih h.2⟩
              obtain ⟨c, hc, e⟩ := List.mem_map.mp z
              exact h.1 (by rw [← kf_inj e]; exact List.mem_map_of_mem hc)
          exact this ps nd
        · intro k _ z; simp at z
      rw [hm]
      have ex3 : Ex ρ H ρ2 (upd H2 p (.dK ((ps.map fun p => (Sum.inr (Str.ofString p.1) : Key)).zip xs))) := Ex.put hp2 np (fun _ z => by cases z) (fun _ _ z => by cases z) e12 (Fz.of hp)
      have ex4 : Ex ρ H (ρ2 ++ [p]) (upd H2 p (.dK ((ps.map fun p => (Sum.inr (Str.ofString p.1) : Key)).zip xs))) := ex3.reg (Fz.of hp)
      have up : Mo ρ2 H2 ρ2 (upd H2 p (.dK ((ps.map fun p => (Sum.inr (Str.ofString p.1) : Key)).zip xs))) := ⟨fun _ _ h => h, fun a xs h => by rw [upd_ne (fun z => by rw [z, hp2] at h; cases h)]; exact h, fun a o u h => by rw [upd_ne (fun z => by rw [z, hp2] at h; cases h)]; exact h⟩
      have w3 : WOk (X.wd T) ρ2 M1 (upd H2 p (.dK ((ps.map fun p => (Sum.inr (Str.ofString p.1) : Key)).zip xs))) := by
        refine ⟨w2.len, w2.nd, fun l u a h1 h2 => (w2.obj l u a h1 h2).moM up fun v hv => ?_, fun q hq => ?_⟩
        · rw [upd_ne (fun z => np (by rw [← z]; exact List.mem_of_getElem? h2))]; exact hv
        · obtain ⟨qs, a1, a2, a3⟩ := w2.tabs q hq
          refine ⟨qs, by rw [upd_ne (fun z => by rw [z, hp2] at a1; cases a1)]; exact a1, a2, fun pos cv hc => ?_⟩
          obtain ⟨c, f1, f2⟩ := a3 pos cv hc
          exact ⟨c, f1, by rw [upd_ne (fun z => by rw [z, hp2] at f2; unfold LamX.CodeO at f2; cases f2)]; exact f2⟩
      obtain ⟨z1, z2⟩ := zip_fst (a := ps.map (·.1)) (b := ds) (by rw [hlen, List.length_map])
      have w4 := w3.reg (mo := .dk ((ps.map (·.1)).zip ds)) np ⟨xs, ?_, ?_⟩
      · exact go (.ref p) (ρ2 ++ [p]) _ ex4 w4 ⟨p, rfl, by rw [← w3.len, List.getElem?_append_right (Nat.le_refl _), Nat.sub_self]; rfl⟩
      · rw [upd_same]
        have : ((ps.map (·.1)).zip ds).map kf = ps.map fun p => (Sum.inr (Str.ofString p.1) : Key) := by
          have e : ((ps.map (·.1)).zip ds).map kf = (((ps.map (·.1)).zip ds).map (·.1)).map fun s => (Sum.inr (Str.ofString s) : Key) := by rw [List.map_map]; rfl
          rw [e, z1, List.map_map]; rfl
        show some (HO.dK _) = some (HO.dK ((((ps.map (·.1)).zip ds).map kf).zip xs))
        rw [this]
      · rw [z2]; exact Rps.moM Mo.app _ _ (Rps.moM up _ _ r2)
def mergeS (kvs more : List (String × D)) : List (String × D) := more.foldl (fun acc p => putS acc p.1 p.2) kvs
theorem merge_zip {K : PySem.W.Frag} {H : Hp} {ρ : List Addr} : ∀ {more kvs : List (String × D)} {ys xs : List V}, (kvs.map (·.1)).Nodup → Rps K H ρ (more.map (·.2)) ys → Rps K H ρ (kvs.map (·.2)) xs →
    ∃ xs', mergeK ((kvs.map kf).zip xs) ((more.map kf).zip ys) = ((mergeS kvs more).map kf).zip xs' ∧ Rps K H ρ ((mergeS kvs more).map (·.2)) xs'
  | [], kvs, ys, xs, nd, h1, h2 => by
    cases h1
    exact ⟨xs, rfl, h2⟩
  | p :: r, kvs, ys, xs, nd, h1, h2 => by
    obtain ⟨y, q, rfl, h3, h4⟩ := h1
    obtain ⟨xs1, e1, r1⟩ := put_zip (k := p.1) h3 nd h2
    obtain ⟨xs', e2, r2⟩ := merge_zip (more := r) (putS_keys (k := p.1) (v := p.2) nd).1 h4 r1
    refine ⟨xs', ?_, r2⟩
    rw [List.map_cons, List.zip_cons_cons]
    show mergeK (putK ((kvs.map kf).zip xs) (kf p) y) ((r.map kf).zip q) = _
    rw [show putK ((kvs.map kf).zip xs) (kf p) y = ((putS kvs p.1 p.2).map kf).zip xs1 from e1, e2]
    rfl
theorem mt_update : MtR X "dict.update" (fun x vs H Q => ∃ (d b : Addr) (kvs more : List (Key × V)), x = .ref d ∧ vs = [.ref b] ∧ d ≠ b ∧ H d = some (.dK kvs) ∧ H b = some (.dK more) ∧ kvs.length + more.length ≤ sizeLine ∧ Q .non (upd H d (.dK (mergeK kvs more)))) := by
  intro pins s σ H x vs v us Q I rx rv h
  obtain ⟨d, b, kvs, more, rfl, rfl, hne, hd, hb, hz, q⟩ := h
  cases rx
  obtain rfl := Vals.ref1 rv
  obtain ⟨z1, hs1, vs1, r1, d1⟩ := dk_of I.hok hd
  obtain ⟨z2, hs2, vs2, r2, d2⟩ := dk_of I.hok hb
  have l1 : kvs.length = vs1.length := Paired.length r1
  have l2 : more.length = vs2.length := Paired.length r2
  refine call_meetsIn PySem.F.slot_dict_update d1.typeIs PySem.F.entry_dict_update (PySem.F.args_dict_update_2 _ _) (meets_dict_update (mixKind X.prog X.w) d b hne hs2) ⟨vs1, vs2, d1, d2, by rw [← l1, ← l2]; exact hz, fun h' dd _ hs => ?_⟩
  have he : ∃ q, h'.get? d = some q := let ⟨q, _, _, hq, _⟩ := dd; ⟨q, hq⟩
  have hl := length_mergeK more kvs
  exact ⟨.non, _, d_write I (t' := s.toks) (by rw [hd]; exact True.intro) hs he (dk_new (by omega) hs1 (r2.merge r1) dd), rfl, q⟩
def eUpd (o a : E) : E := fun δ M => (o δ M).bind fun d M => match d with
  | .loc l => (match M[l]? with
    | some (.dk _) => (a δ M).bind fun d2 M => (match d2 with
      | .loc k => (match M[l]?, M[k]? with
        | some (.dk kvs), some (.dk more) => if l ≠ k ∧ (kvs.map (·.1)).Nodup ∧ kvs.length + more.length ≤ cap then .ok .non (M.set l (.dk (mergeS kvs more))) else .bad
        | _, _ => .bad)
      | _ => .bad)
    | _ => .bad)
  | _ => .bad
theorem pd_upd {o : Expr} {apos cpos : Pos} (ho : PE X o (tE (X.wd T) U f1)) (ha : PE X e (tE (X.wd T) U f2))
    (hbase : attributeBase o "update" X.env (eval o X.env) = eval o X.env := by rfl)
    (hfew : ((backTo cpos (starEach [e] X.env)).all (fun x => !x.1) && (backToKw cpos (keywordEach [] X.env)).all (fun x => x.1.isSome)
      && decide ([e].length + ([] : List Keyword).length + (if ([] : List Keyword).isEmpty then 0 else 1) < 30)) = true := by rfl)
    (hline : (apos.endLine == cpos.line) = true := by rfl) (hs : starEach [e] X.env = (false, eval e X.env) :: starEach [] X.env := by rfl) (hplain : (backTo cpos (starEach [] X.env)).any (·.1) = false := by rfl) :
    PE X (.Call (.Attribute o "update" apos) [e] [] cpos) (tE (X.wd T) U (eUpd f1 f2)) := by
  refine PE.imp (pe_bm PySem.F.plainAttrs_dict PySem.F.slot_dict_update PySem.F.type_dict_update mt_update ho (pa_cons ha pa_nil hs) hbase hfew hline hs hplain) fun σ H Q ⟨ρ, M, δ, w, er, go⟩ => ⟨ρ, M, δ, w, er, (Gg.bind (rel := relD (X.wd T)) go).imp fun x H1 ⟨ρ1, M1, d, _, e1, w1, r1, go1⟩ => ?_⟩
  cases d with
  | loc l =>
    obtain ⟨p, rfl, hp⟩ := r1
    cases q : M1[l]? with
    | none => simp only [q] at go1; exact go1.elim
    | some o1 =>
      cases o1 with
      | dk kvs0 =>
        simp only [q] at go1
        obtain ⟨xs0, h3, h4⟩ := w1.obj l _ p q hp
        refine ⟨.inr (.inr (.inl ⟨rfl, .inl ⟨_, h3⟩⟩)), ρ1, M1, δ, w1, er.mono e1, (Gg.bind (rel := relD (X.wd T)) go1).imp fun y H2 ⟨ρ2, M2, d2, _, e2, w2, r2, go2⟩ => ?_⟩
        cases d2 with
        | loc k =>
          obtain ⟨b, rfl, hb⟩ := r2
          have hp2 := e2.at_ hp
          cases q1 : M2[l]? with
          | none => simp only [q1] at go2; exact go2.elim
          | some o2 =>
            cases q2 : M2[k]? with
            | none => simp only [q1, q2] at go2; cases o2 <;> exact go2.elim
            | some o3 =>
              cases o2 <;> simp only [q1, q2] at go2 <;> try exact go2.elim
              cases o3 <;> simp only [] at go2 <;> try exact go2.elim
              rename_i kvs more
              split at go2
              · rename_i hc
                obtain ⟨xs, g1, g2⟩ := w2.obj l _ p q1 hp2
                obtain ⟨ys, g3, g4⟩ := w2.obj k _ b q2 hb
                have hne : p ≠ b := fun z => hc.1 (nodup_at w2.nd hp2 (by rw [z]; exact hb))
                obtain ⟨xs', e3, r3⟩ := merge_zip hc.2.1 g4 g2
                have lx : xs.length = kvs.length := by rw [← g2.length, List.length_map]
                have ly : ys.length = more.length := by rw [← g4.length, List.length_map]
                refine ⟨p, b, _, _, rfl, rfl, hne, g1, g3, ?_, ?_⟩
                · rw [List.length_zip, List.length_zip, List.length_map, List.length_map, lx, ly, Nat.min_self, Nat.min_self]
                  exact cap_le hc.2.2
                · have ex : Ex ρ2 H2 ρ2 (upd H2 p (.dK (mergeK ((kvs.map kf).zip xs) ((more.map kf).zip ys)))) := Ex.write hp2 g1 (fun _ z => by cases z) (fun _ _ z => by cases z)
                  exact go2 .non ρ2 _ ex (w2.write hp2 g1 (fun _ z => by cases z) (fun _ _ z => by cases z) (fun _ z => by cases z) (fun _ _ z => by unfold LamX.CodeO at z; cases z) ⟨xs', by rw [upd_same, e3], r3.mono ex⟩) rfl
              · exact go2.elim
        | _ => exact go2.elim
      | _ => simp only [q] at go1; exact go1.elim
  | _ => exact go1.elim
end
end Dt
namespace Dt
open PySem PySem.Spec PyProof.Rows L2
/-- a def's mirror: n parameters, nn names -/
def runF (n nn : Nat) (s : S) : Fn := fun ds M => if ds.length = n then runB s nn ds M else .bad
def spM (W : Wd) (m : Fn) (n : Nat) : Sp := fun vs H Q E => ∃ ρ M ds, WOk W ρ M H ∧ Rps W.K H ρ ds vs ∧ ds.length = n ∧ Gg W (fun c d _ H' => E c d H') [] (relD W) ρ H (m ds M) Q
theorem spM_len {W : Wd} {m : Fn} {n : Nat} {vs : List V} {H : Hp} {Q : VK} {E : XK} (h : spM W m n vs H Q E) : vs.length = n := by
  obtain ⟨ρ, M, ds, _, r, l, _⟩ := h
  rw [← r.length, l]
def env0 (nn : Nat) (ds : List D) : Env := ds.map some ++ List.replicate (nn - ds.length) none
theorem er_start {K : PySem.W.Frag} {H : Hp} {ρ : List Addr} {N : List Str} {ds : List D} {vs : List V} (r : Rps K H ρ ds vs) : ER K H ρ (env0 N.length ds) (L2.start N vs) := by
  have hl := r.length
  refine ⟨by unfold env0 L2.start; rw [List.length_append, List.length_append, List.length_map, List.length_map, List.length_replicate, List.length_replicate, hl], fun i d h => ?_⟩
  unfold env0 at h
  by_cases hi : i < ds.length
  · rw [List.getElem?_append_left (by rw [List.length_map]; exact hi), List.getElem?_map] at h
    cases e : ds[i]? with
    | none => rw [e] at h; cases h
    | some d' =>
      rw [e] at h
      cases h
      obtain ⟨x, hx, rx⟩ := r.get e
      refine ⟨x, ?_, rx⟩
      unfold L2.start
      rw [List.getElem?_append_left (by rw [List.length_map, ← hl]; exact hi), List.getElem?_map, hx]
      rfl
  · rw [List.getElem?_append_right (by rw [List.length_map]; omega), List.getElem?_replicate] at h
    split at h <;> cases h
theorem run_read {W : Wd} {s : S} {N : List Str} {n : Nat} {ρ : List Addr} {M : Mem} {H : Hp} {ds : List D} {vs : List V} {Q : VK} {E : XK} (w : WOk W ρ M H) (r : Rps W.K H ρ ds vs)
    (go : Gg W (fun c d _ H' => E c d H') [] (relD W) ρ H (runF n N.length s ds M) Q) : tS W (fun c d _ H' => E c d H') s { nx := fun _ H' => Q .non H', rt := Q } (L2.start N vs) H := by
  refine ⟨ρ, M, env0 N.length ds, w, er_start r, ?_⟩
  unfold runF at go
  split at go
  · unfold runB at go
    have go : Gg W (fun c d _ H' => E c d H') [] (relD W) ρ H (match s (env0 N.length ds) M with
      | .nx _ M => .ok .non M
      | .rt d M => .ok d M
      | .ex e _ M => .ex e M
      | _ => .bad) Q := go
    cases q : s (env0 N.length ds) M with
    | nx δ M1 => rw [q] at go; exact fun σ' ρ' H' e w' er' => go .non ρ' H' e w' rfl
    | rt d M1 => rw [q] at go; exact go
    | bk δ M1 => rw [q] at go; exact go.elim
    | ct δ M1 => rw [q] at go; exact go.elim
    | ex e δ M1 => rw [q] at go; exact fun c dd σ' ρ' H' e w' er' x => go c dd ρ' H' e w' x
    | bad => rw [q] at go; exact go.elim
  · exact go.elim
theorem runF_len {n nn : Nat} {s : S} (ds : List D) (M : Mem) : runF n nn s ds M = .bad ∨ ds.length = n := by
  unfold runF
  split
  · rename_i h; exact .inr h
  · exact .inl rfl
/-- a def's body does what the mirror s does -/
def Bod (P : Program) (w : World) (K : PySem.W.Frag) (mg : Str → Option Value) (base : Heap) (T : List (Addr × Str)) (k : Nat) (N : List Str) (qual : Str) (scope : Scope) (body : List Stmt) (st : S) : Prop :=
  ∀ (f : Addr) (cdv : Value) (A : Around) (outer : List PySem.Env) (s : Shared) (H : Hp) (E : XK), Room k (A.deeper (envOfC qual scope s.heap.objs.size f cdv)) →
    Takes (cxOf (L2.CX P w) P w K mg base N qual scope f cdv A outer s H E) (fun c d _ H' => E c d H') →
    PassesOwn (model P w) (A.deeper (envOfC qual scope s.heap.objs.size f cdv)) (envOfC qual scope s.heap.objs.size f cdv) (cxOf (L2.CX P w) P w K mg base N qual scope f cdv A outer s H E).xe →
    PSs (cxOf (L2.CX P w) P w K mg base N qual scope f cdv A outer s H E) body (tS ⟨P, w, K, T⟩ (fun c d _ H' => E c d H') st)
section
variable {P : Program} {w : World} {K : PySem.W.Frag} {mg : Str → Option Value} {base : Heap} {T : List (Addr × Str)} {x y qual : Str} {params : Arguments} {body : List Stmt} {scope : Scope} {dvs : List V} {kws : List (Str × V)} {f : Addr} {fd : FuncData} {N ps : List Str} {k n : Nat} {st : S}
theorem fn_d (F : FunD K x qual params body scope dvs kws f fd) (S : FnScope N ps scope) (hn : ps.length = n) (h : Bod P w K mg base T k N qual scope body st) : FnOk P w K mg base (L2.CX P w) (k + 1) f fd ps (spM ⟨P, w, K, T⟩ (runF n N.length st) n) := by
  refine F.ok S (fun vs H Q E h => (spM_len h).trans hn.symm) fun cdv A outer s H vs Q E hr hsp => ⟨_, h f cdv A outer s H E hr (takes_of rfl rfl rfl rfl) (passes_of rfl), ?_⟩
  obtain ⟨ρ, M, ds, w, r, _, go⟩ := hsp
  exact run_read w r go
/-- what the module's name x stands for: a def of n parameters that does m, called by places -/
structure Df (P : Program) (w : World) (K : PySem.W.Frag) (mg : Str → Option Value) (base : Heap) (T : List (Addr × Str)) (k : Nat) (x : Str) (n : Nat) (m : Fn) : Prop where
  ex : ∃ f fd ps, mg x = some (.ref f) ∧ PySem.W.keepIn K (.ref f) = true ∧ FnOk P w K mg base (L2.CX P w) k f fd ps (spM ⟨P, w, K, T⟩ m n) ∧ Binds K fd ps []
  len : ∀ ds M, m ds M = .bad ∨ ds.length = n
/-- .. called by places, the rest by defaults that are dd -/
structure DfD (P : Program) (w : World) (K : PySem.W.Frag) (mg : Str → Option Value) (base : Heap) (T : List (Addr × Str)) (k : Nat) (x : Str) (n : Nat) (dd : List D) (m : Fn) : Prop where
  ex : ∃ f fd ps ds dvs, mg x = some (.ref f) ∧ PySem.W.keepIn K (.ref f) = true ∧ FnOk P w K mg base (L2.CX P w) k f fd ps (spM ⟨P, w, K, T⟩ m n) ∧ Binds K fd ps ds ∧ Vals dvs ds ∧ ∀ H ρ, Rps K H ρ dd dvs
  len : ∀ ds M, m ds M = .bad ∨ ds.length = n
/-- .. called by places and keywords -/
structure DfK (P : Program) (w : World) (K : PySem.W.Frag) (mg : Str → Option Value) (base : Heap) (T : List (Addr × Str)) (k : Nat) (x : Str) (n j : Nat) (ks : List Str) (m : Fn) : Prop where
  ex : ∃ f fd ps, mg x = some (.ref f) ∧ PySem.W.keepIn K (.ref f) = true ∧ FnOk P w K mg base (L2.CX P w) k f fd ps (spM ⟨P, w, K, T⟩ m (n + j)) ∧ KBn K fd ps n ks (fun us ws => us ++ ws) (fun vs zs => vs ++ zs)
  lk : ks.length = j
theorem df_of (hm : mg y = some (.ref f)) (F : FunD K x qual params body scope [] [] f fd) (S : FnScope N ps scope) (hn : ps.length = n)
    (hb : ∀ (kV doc pm : Value) (an : Option Addr) (cdv ct : Value) (us : List Value), us.length = ps.length → bindArgs (PySem.W.fnOf x qual params body scope .none kV doc pm an cdv ct) ⟨us, []⟩ = pure (ps.zip us))
    (h : Bod P w K mg base T k N qual scope body st) : Df P w K mg base T (k + 1) y n (runF n N.length st) :=
  ⟨⟨f, fd, ps, hm, F.kp, fn_d F S hn h, F.bindsN hb⟩, runF_len⟩
theorem dfd_of {dd : List D} (hm : mg y = some (.ref f)) (F : FunD K x qual params body scope [] kws f fd) (S : FnScope N ps scope) (hn : ps.length = n) (hk : kws ≠ []) (j : Nat) (hj : j + kws.length = ps.length)
    (hb : ∀ (D : Addr) (doc pm : Value) (an : Option Addr) (cdv ct : Value) (us ks : List Value), us.length = j → ks.length = kws.length →
      KwChain D ((kws.map (·.1)).zip ks) (bindArgs (PySem.W.fnOf x qual params body scope .none (.ref D) doc pm an cdv ct) ⟨us, []⟩) (ps.zip (us ++ ks)))
    (hd : ∀ H ρ, Rps K H ρ dd (kws.map (·.2))) (h : Bod P w K mg base T k N qual scope body st) : DfD P w K mg base T (k + 1) y n dd (runF n N.length st) := by
  obtain ⟨ds, v, b⟩ := F.binds0 j hk hj hb
  exact ⟨⟨f, fd, ps, ds, _, hm, F.kp, fn_d F S hn h, b, v, hd⟩, runF_len⟩
theorem dfk_of {j : Nat} {ks : List Str} (hm : mg y = some (.ref f)) (F : FunD K x qual params body scope [] kws f fd) (S : FnScope N ps scope) (hn : ps.length = n + j) (lk : ks.length = j)
    (hb : ∀ (kV doc pm : Value) (an : Option Addr) (cdv ct : Value) (us ws : List Value), us.length = n → ws.length = ks.length → bindArgs (PySem.W.fnOf x qual params body scope .none kV doc pm an cdv ct) ⟨us, ks.zip ws⟩ = pure (ps.zip (us ++ ws)))
    (h : Bod P w K mg base T k N qual scope body st) : DfK P w K mg base T (k + 1) y n j ks (runF (n + j) N.length st) := by
  refine ⟨⟨f, fd, ps, hm, F.kp, fn_d F S hn h, ?_⟩, lk⟩
  obtain ⟨oc, od, dV, kV, doc, pm, an, cdv, ct, osl, rfl, _, hcd, hD, hK⟩ := F.ex
  rcases hD with ⟨_, rfl⟩ | ⟨e, _⟩
  · exact ⟨fun s us ws _ l1 l2 => .of_eq (hb kV doc pm an cdv ct us ws l1 l2), fun a b => a.append b⟩
  · exact absurd rfl e
end
theorem passF {X : Cx} (σ : L2.St) : PassesAt (L2.CX X.prog X.w) X σ (WE UF σ) := fun _ _ _ e s' I c => by
  obtain ⟨_, _, _, _, _, _, _, _, _, _, _, _, z⟩ := c
  exact z.elim
section
variable {X : Cx} {T : List (Addr × Str)} {U : WX} {pos p : Pos} {e a b : Expr} {es : List Expr} {kws : List Keyword} {x : Str} {fa fk : Ar} {m : Fn} {k n j : Nat}
theorem pd_call (F : Df X.prog X.w X.K X.mg X.base T k x n m) (hr : Room j X.A) (hx : ∀ σ, PassesAt (L2.CX X.prog X.w) X σ (WE U σ)) (ha : PA X (e :: es) (tA (X.wd T) U fa)) (hj : k ≤ j := by decide) (hg : Gl X x := by rfl) (hdb : (x == ("__debug__" : Str)) = false := by decide)
    (he : starEach (e :: es) X.env = (false, eval e X.env) :: starEach es X.env := by rfl) (hpl : (backTo pos (starEach es X.env)).any (·.1) = false := by rfl) : PE X (.Call (.Name x p) (e :: es) [] pos) (tE (X.wd T) U (eC m fa)) := by
  obtain ⟨f, fd, ps, hm, hk, F1, hb⟩ := F.ex
  refine PE.imp (pe_callS F1 (hr.mono hj) hg hm hk hb (E := WE U) hx ha hdb he hpl) fun σ H Q ⟨ρ, M, δ, w, er, go⟩ => ⟨ρ, M, δ, w, er, (Gg.bind (rel := relA (X.wd T)) go).imp fun xs H1 ⟨ρ1, M1, ds, _, e1, w1, r1, go1⟩ => ?_⟩
  refine ⟨ρ1, M1, ds, w1, r1, ?_, ?_⟩
  · rcases F.len ds M1 with z | z
    · rw [z] at go1; exact go1.elim
    · exact z
  · cases q : m ds M1 with
    | ok d M2 => rw [q] at go1; exact go1
    | ex e M2 => rw [q] at go1; exact go1
    | bad => rw [q] at go1; exact go1.elim
theorem pd_callD {dd : List D} (F : DfD X.prog X.w X.K X.mg X.base T k x n dd m) (hr : Room j X.A) (hx : ∀ σ, PassesAt (L2.CX X.prog X.w) X σ (WE U σ)) (ha : PA X (e :: es) (tA (X.wd T) U fa)) (hj : k ≤ j := by decide) (hg : Gl X x := by rfl) (hdb : (x == ("__debug__" : Str)) = false := by decide)
    (he : starEach (e :: es) X.env = (false, eval e X.env) :: starEach es X.env := by rfl) (hpl : (backTo pos (starEach es X.env)).any (·.1) = false := by rfl) : PE X (.Call (.Name x p) (e :: es) [] pos) (tE (X.wd T) U (eC (fun ds M => m (ds ++ dd) M) fa)) := by
  obtain ⟨f, fd, ps, vds, dvs, hm, hk, F1, hb, hd, hr2⟩ := F.ex
  refine PE.imp (pe_callSD F1 (hr.mono hj) hg hm hk hb hd (E := WE U) hx ha hdb he hpl) fun σ H Q ⟨ρ, M, δ, w, er, go⟩ => ⟨ρ, M, δ, w, er, (Gg.bind (rel := relA (X.wd T)) go).imp fun xs H1 ⟨ρ1, M1, ds, _, e1, w1, r1, go1⟩ => ?_⟩
  refine ⟨ρ1, M1, ds ++ dd, w1, r1.append (hr2 _ _), ?_, ?_⟩
  · rcases F.len (ds ++ dd) M1 with z | z
    · simp only [z] at go1; exact go1.elim
    · exact z
  · cases q : m (ds ++ dd) M1 with
    | ok d M2 => simp only [q] at go1; exact go1
    | ex e M2 => simp only [q] at go1; exact go1
    | bad => simp only [q] at go1; exact go1.elim
def eCK (m : Fn) (n j : Nat) (a ks : Ar) : E := fun δ M => (a δ M).bind fun ds M => (ks δ M).bind fun zs M => if ds.length = n ∧ zs.length = j then m (ds ++ zs) M else .bad
def tCallNS (n m : Nat) (sp : Sp) (E : L2.St → XK) (t tk : TA) : TE := fun σ H Q => t σ H fun vs H1 => tk σ H1 fun zs H2 => vs.length = n ∧ zs.length = m ∧ sp (vs ++ zs) H2 Q (E σ)
theorem pe_callNS {CX : CXT} {f : Addr} {fd : FuncData} {ps ks : List Str} {sp : Sp} {E : L2.St → XK} {t tk : TA} (F : FnOk X.prog X.w X.K X.mg X.base CX k f fd ps sp) (hr : Room k X.A) (hg : Gl X x) (hm : X.mg x = some (.ref f)) (hk : PySem.W.keepIn X.K (.ref f) = true)
    (hb : KBn X.K fd ps n ks (fun us ws => us ++ ws) (fun vs zs => vs ++ zs)) (hx : ∀ σ, PassesAt CX X σ (E σ))
    (ha : PA X (e :: es) t) (hkw : PK X kws tk) (hall : (backToKw pos (keywordEach kws X.env)).all (·.1.isSome) = true := by rfl) (hks : (backToKw pos (keywordEach kws X.env)).filterMap (·.1) = ks := by rfl)
    (hdb : (x == ("__debug__" : Str)) = false := by decide) (he : starEach (e :: es) X.env = (false, eval e X.env) :: starEach es X.env := by rfl)
    (hpl : ((backTo pos (starEach (e :: es) X.env)).any (·.1) || (backToKw pos (keywordEach kws X.env)).any (·.1.isNone)) = false := by rfl) :
    PE X (.Call (.Name x p) (e :: es) kws pos) (tCallNS n ks.length sp E t tk) := by
  refine ⟨fun pins s σ H Q I h => ?_⟩
  refine wpAny_Call_Name_kw (ld_glob I hg hm ?_ hdb)
  refine PySem.W.callWith_KW (h₀ := X.base) I.ok.mod.kin hk hall (thn (ha.run pos pins s σ H _ I h) fun us s1 ⟨vs, H1, I1, r, q⟩ => ?_) hpl he
  refine thn (hkw.run pos pins s1 σ H1 _ I1 q) fun ws s2 ⟨zs, H2, I2, rz, l1, l2, q2⟩ => ⟨I2.kIn, ?_⟩
  rw [hks]
  have r2 := hb.rel r rz
  refine wpAny_call (codeAny_mono (F.run X.A X.stack s2 H2 ⟨us, ks.zip ws⟩ _ _ Q (E σ) hr I2.env0 (hb.to s2 us ws I2.kIn (r.length.symm.trans l1) (rz.length.symm.trans l2)) r2 q2) fun r s' hq => ?_)
  cases r with
  | error e => exact hx σ pins H2 s2 e s' I2 hq
  | ok fl =>
    cases fl with
    | ret u => exact I2.after hq
    | next => exact False.elim hq
    | brk => exact False.elim hq
    | cont => exact False.elim hq
theorem pd_callK {ks : List Str} {i : Nat} (F : DfK X.prog X.w X.K X.mg X.base T k x n i ks m) (hr : Room j X.A) (hx : ∀ σ, PassesAt (L2.CX X.prog X.w) X σ (WE U σ)) (ha : PA X (e :: es) (tA (X.wd T) U fa)) (hkw : PK X kws (tA (X.wd T) U fk)) (hj : k ≤ j := by decide) (hg : Gl X x := by rfl)
    (hall : (backToKw pos (keywordEach kws X.env)).all (·.1.isSome) = true := by rfl) (hks : (backToKw pos (keywordEach kws X.env)).filterMap (·.1) = ks := by rfl)
    (hdb : (x == ("__debug__" : Str)) = false := by decide) (he : starEach (e :: es) X.env = (false, eval e X.env) :: starEach es X.env := by rfl)
    (hpl : ((backTo pos (starEach (e :: es) X.env)).any (·.1) || (backToKw pos (keywordEach kws X.env)).any (·.1.isNone)) = false := by rfl) :
    PE X (.Call (.Name x p) (e :: es) kws pos) (tE (X.wd T) U (eCK m n i fa fk)) := by
  obtain ⟨f, fd, ps, hm, hk, F1, hb⟩ := F.ex
  refine PE.imp (pe_callNS F1 (hr.mono hj) hg hm hk hb (E := WE U) hx ha hkw hall hks hdb he hpl) fun σ H Q ⟨ρ, M, δ, w, er, go⟩ => ⟨ρ, M, δ, w, er, (Gg.bind (rel := relA (X.wd T)) go).imp fun xs H1 ⟨ρ1, M1, ds, _, e1, w1, r1, go1⟩ => ?_⟩
  refine ⟨ρ1, M1, δ, w1, er.mono e1, (Gg.bind (rel := relA (X.wd T)) go1).imp fun zs H2 ⟨ρ2, M2, zd, _, e2, w2, r2, go2⟩ => ?_⟩
  split at go2
  · rename_i hc
    refine ⟨(r1.length.symm).trans hc.1, ((r2.length.symm).trans hc.2).trans F.lk.symm, ρ2, M2, ds ++ zd, w2, (r1.mono e2).append r2, by rw [List.length_append, hc.1, hc.2], ?_⟩
    cases q : m (ds ++ zd) M2 with
    | ok d M3 => rw [q] at go2; exact go2
    | ex e M3 => rw [q] at go2; exact go2
    | bad => rw [q] at go2; exact go2.elim
  · exact go2.elim
end
end Dt
namespace Dt
open PySem PySem.Spec PyProof.Rows L2
abbrev Pt := Env → Mem → Res (Option Int)
def qN : Pt := fun _ M => .ok none M
def qE (e : E) : Pt := fun δ M => (e δ M).bind fun d M => match d with
  | .int i => .ok (some i) M
  | _ => .bad
def eSl (a : E) (lo hi : Pt) : E := fun δ M => (a δ M).bind fun x M => (lo δ M).bind fun l M => (hi δ M).bind fun h M => dSl x l h M
theorem tuple_mul1 (l : Addr) (items : Array Value) (n : Nat) (dd : Option Addr) (sl : Array (Option Value)) (u : Tok) :
    Meets (Builtin.«tuple.__mul__» ⟨[.ref l, .int 1 u], []⟩) (fun _ R s => s.heap.get? l = some { cls := .type "tuple", dict := dd, data := .seq items n, slots := sl } ∧
      R (.ok (.ret (Value.ref l))) s) :=
  .of_wp fun prog w A R s h => by
    obtain ⟨hp, g, d, tk, os⟩ := s
    obtain ⟨hl, h⟩ := h
    have f1 := AutoSeq1.idx_int
    have c1 : (items.isEmpty || (1 : Int) == 1) = true := by rw [show ((1 : Int) == 1) = true from rfl, Bool.or_true]
    wp_walk using wpAny_loadPart' hl
    repeat (first
      | (refine wpAny_ite_true (decide_eq_true c1) ?_; wp_walk using wpAny_loadPart' hl)
      | (refine wpAny_ite_false (by decide) ?_; wp_walk using wpAny_loadPart' hl))
    all_goals exact ⟨_, rfl, h⟩
def rRep1 (K : PySem.W.Frag) : R2 := fun x y H Q => ∃ l xs, x = .ref l ∧ y = .int 1 ∧ SqT K H l xs ∧ Q (.ref l) H
section
variable {X : Cx} {T : List (Addr × Str)} {U : WX} {pos p2 : Pos} {e a b c : Expr} {es : List Expr} {f f1 f2 : E} {fa : Ar} {st : List Stmt} {s : S}
theorem op_rep1 : OpR X (binaryOp .Mult) (rRep1 X.K) := by
  intro pins s σ H x y v u Q I rx ry h
  obtain ⟨l, xs, rfl, rfl, hT, q⟩ := h
  cases rx
  obtain ⟨t, rfl⟩ := ry
  obtain ⟨its, r, ⟨⟨cls, dd, data, sl⟩, ho, hc, n, hd⟩, hs⟩ := I.tuple hT
  simp only at hc hd
  subst hc hd
  exact wpAny_binaryOp_repeat_ref (T := "tuple") (U := "int") (by decide) ⟨_, ho, rfl⟩ (fun s' => typeIs_int s' 1 t) noFill_tuple_mul F.fills_int_mul F.slot_int_rmul repeat_tuple F.slot_int_index.lookup
    (call_meets F.slot_int_rmul (typeIs_int s 1 t) F.entry_int_rmul (F.args_int_rmul_2 _ _) (int_rmul_tuple 1 t l its.toArray n dd sl)
      ⟨ho, rfl, ⟨_, ho, rfl⟩, call_meets F.slot_tuple_mul ⟨_, ho, rfl⟩ F.entry_tuple_mul (F.args_tuple_mul_2 _ _) (tuple_mul1 l its.toArray n dd sl t) ⟨ho, ⟨.ref l, H, I, rfl, q⟩⟩⟩)
/-- tuple * k, 1 ≤ k; int * int -/
def dMulT : D → D → Mem → Res D
  | .tup ds, .int k, M => if ds ≠ [] ∧ 1 ≤ k ∧ k ≤ 1000 ∧ ds.length ≤ 1000 then .ok (.tup (List.replicate k.toNat ds).flatten) M else .bad
  | _, _, _ => .bad
theorem ok_mulT : OK2 (X.wd T) (fun x y H Q => rRepT X.K x y H Q ∨ rRep1 X.K x y H Q) dMulT := by
  intro U σ ρ M H a b x y Q w ra rb go
  cases a <;> try exact go.elim
  cases b <;> try exact go.elim
  rename_i ds k
  have go : Gg (X.wd T) U σ (relD (X.wd T)) ρ H (if ds ≠ [] ∧ 1 ≤ k ∧ k ≤ 1000 ∧ ds.length ≤ 1000 then .ok (.tup (List.replicate k.toNat ds).flatten) M else .bad) Q := go
  split at go
  · rename_i hc
    obtain ⟨p, us, rfl, h1, h2⟩ := ra
    cases rb
    by_cases hk : k = 1
    · subst hk
      have e : (List.replicate (1 : Int).toNat ds).flatten = ds := by show (List.replicate 1 ds).flatten = ds; simp
      rw [e] at go
      exact .inr ⟨p, us, rfl, rfl, h1, Gg.ret w (v := V.ref p) ⟨p, us, rfl, h1, h2⟩ go⟩
    · refine .inl ⟨p, k, us, rfl, rfl, h1, fun z => hc.1 (h2.nil_iff.mpr z), by omega, hc.2.2.1, by rw [← h2.length]; exact hc.2.2.2, fun q hq => tup_new w (h2.rep _) go hq⟩
  · exact go.elim
def tO (W : Wd) (U : WX) (q : Pt) : TO := fun σ H Q => ∃ ρ M δ, WOk W ρ M H ∧ ER W.K H ρ δ σ ∧ Gg W U σ (fun _ _ (a b : Option Int) => b = a) ρ H (q δ M) Q
theorem PO.imp {e : Option Expr} {t t' : TO} (h : PO X e t) (q : ∀ σ H Q, t' σ H Q → t σ H Q) : PO X e t' := ⟨fun pins s σ H Q I x => h.run pins s σ H Q I (q σ H Q x)⟩
theorem q_none : PO X none (tO (X.wd T) U qN) := PO.imp po_none fun σ H Q ⟨ρ, M, δ, w, er, go⟩ => Gg.ret w (v := none) rfl go
theorem q_some (h : PE X e (tE (X.wd T) U f)) : PO X (some e) (tO (X.wd T) U (qE f)) := by
  refine PO.imp (po_some h) fun σ H Q ⟨ρ, M, δ, w, er, go⟩ => ⟨ρ, M, δ, w, er, (Gg.bind (rel := relD (X.wd T)) go).imp fun x H1 ⟨ρ1, M1, d, _, e1, w1, r1, go1⟩ => ?_⟩
  cases d with
  | int i => exact ⟨i, r1, Gg.ret w1 (v := some i) rfl go1⟩
  | _ => exact go1.elim
theorem pd_sl {lo hi : Option Expr} {ql qh : Pt} (he : PE X e (tE (X.wd T) U f)) (hl : PO X lo (tO (X.wd T) U ql)) (hh : PO X hi (tO (X.wd T) U qh)) : PE X (.Subscript e (.Slice lo hi none p2) pos) (tE (X.wd T) U (eSl f ql qh)) := by
  refine PE.imp (pe_slice sl_tupA he hl hh) fun σ H Q ⟨ρ, M, δ, w, er, go⟩ => ⟨ρ, M, δ, w, er, (Gg.bind (rel := relD (X.wd T)) go).imp fun x H1 ⟨ρ1, M1, d, _, e1, w1, r1, go1⟩ => ?_⟩
  refine ⟨ρ1, M1, δ, w1, er.mono e1, (Gg.bind (rel := fun _ _ (a b : Option Int) => b = a) go1).imp fun l H2 ⟨ρ2, M2, l', _, e2, w2, r2, go2⟩ => ?_⟩
  refine ⟨ρ2, M2, δ, w2, (er.mono e1).mono e2, (Gg.bind (rel := fun _ _ (a b : Option Int) => b = a) go2).imp fun h H3 ⟨ρ3, M3, h', _, e3, w3, r3, go3⟩ => ?_⟩
  have r2 : l = l' := r2
  have r3 : h = h' := r3
  subst r2 r3
  exact ok_sl w3 ((r1.mono e2).mono e3) go3
def dNeg : D → Mem → Res D
  | .int i, M => .ok (.int (-i)) M
  | _, _ => .bad
theorem ok_neg : OK1 (X.wd T) (rU fun i => .int (-i)) dNeg := by
  intro U σ ρ M H a x Q w ra go
  cases a <;> try exact go.elim
  exact ⟨_, ra, Gg.ret w (v := V.int _) rfl go⟩
theorem no_tuple_iadd : typeLookup (.type "tuple") (dunderI "add") = pure none := by rw [typeLookup_type, builtinLookup_eq_fast]; kernel_rfl
theorem iop_catT : OpR X (inplaceOp .Add) (rCatA X.K) := by
  intro pins s σ H x y v u Q I rx ry h
  obtain ⟨t, b, xs, ys, rfl, rfl, ha, hb, hz, q0, q1, q2⟩ := h
  cases rx
  cases ry
  obtain ⟨its, r1, p1, _⟩ := I.tuple ha
  obtain ⟨its2, r2, p2, _⟩ := I.tuple hb
  obtain ⟨⟨cls, dd, data, sl⟩, ho, hc, n, hd⟩ := id p1
  obtain ⟨⟨cls2, dd2, data2, sl2⟩, ho2, hc2, n2, hd2⟩ := id p2
  simp only at hc hd hc2 hd2
  subst hc hd hc2 hd2
  have l1 : its.length = xs.length := r1.length.symm
  have l2 : its2.length = ys.length := r2.length.symm
  have en : xs = [] ↔ its = [] := r1.nil_iff.symm
  have en2 : ys = [] ↔ its2 = [] := r2.nil_iff.symm
  by_cases hx : its = []
  · have hx0 := en.mpr hx
    subst hx
    exact wpAny_inplaceOp_concat ⟨_, ho, rfl⟩ ⟨_, ho2, rfl⟩ no_tuple_iadd noFill_tuple_add seq_tuple_add (call_meets PySem.F.slot_tuple_add ⟨_, ho, rfl⟩ PySem.F.entry_tuple_add (PySem.F.args_tuple_add_2 _ _)
      (tuple_addW0 t b ([] : List Value).toArray its2.toArray n n2 dd dd2 sl sl2 (by simp)) ⟨ho, ho2, ⟨.ref b, H, I, rfl, q0 hx0⟩⟩)
  · have hx0 : xs ≠ [] := fun z => hx (en.mp z)
    by_cases hw : its2 = []
    · exact wpAny_inplaceOp_concat ⟨_, ho, rfl⟩ ⟨_, ho2, rfl⟩ no_tuple_iadd noFill_tuple_add seq_tuple_add (call_meets PySem.F.slot_tuple_add ⟨_, ho, rfl⟩ PySem.F.entry_tuple_add (PySem.F.args_tuple_add_2 _ _)
        (tuple_addW1 t b its.toArray its2.toArray n n2 dd dd2 sl sl2 (by simpa using hx) (by simp [hw])) ⟨ho, ho2, ⟨.ref t, H, I, rfl, q1 hx0 (en2.mpr hw)⟩⟩)
    · have hy0 : ys ≠ [] := fun z => hw (en2.mp z)
      refine wpAny_inplaceOp_concat ⟨_, ho, rfl⟩ ⟨_, ho2, rfl⟩ no_tuple_iadd noFill_tuple_add seq_tuple_add (call_meets PySem.F.slot_tuple_add ⟨_, ho, rfl⟩ PySem.F.entry_tuple_add (PySem.F.args_tuple_add_2 _ _)
        (tuple_addW2 t b its.toArray its2.toArray n n2 dd dd2 sl sl2 (by simpa using hx) (by simpa using hw) (by rw [List.size_toArray, List.size_toArray, l1, l2]; exact hz)) ⟨ho, ho2, ?_⟩)
      have e : its.toArray ++ its2.toArray = (its ++ its2).toArray := by simp
      rw [e]
      refine ⟨.ref s.heap.objs.size, _, I.laid (t' := s.toks) (o := .tup (xs ++ ys)) (fun b ob q => Heap.get?_push_of_some _ q) (Nat.le_refl _) ?_, rfl, q2 hx0 hy0 _ (I.hok.fresh (Nat.le_refl _))⟩
      exact ⟨by rw [List.length_append]; exact hz, _, r1.append r2, IsTup.new _ _⟩
def sAug (i : Nat) (g : D → D → Mem → Res D) (f : E) : S := fun δ M => match δ[i]? with
  | some (some x) => (f δ M).st δ fun y M => (g x y M).st δ fun z M => .nx (δ.set i (some z)) M
  | _ => .bad
theorem s_aug {i : Nat} {x : Str} {op : Operator} {r : R2} {g : D → D → Mem → Res D} {pos' : Pos} (hN : X.N.Nodup) (ho : OpR X (inplaceOp op) r) (hg : OK2 (X.wd T) r g) (he : PE X e (tE (X.wd T) U f)) (hi : X.N[i]? = some x := by rfl) (hx : Loc X.env.scope x := by first | exact .inl rfl | exact .inr rfl)
    (hf : X.fn x = true ∨ X.env.scope.names.lookup x = some .local := by first | exact .inl rfl | exact .inr rfl) : PS X (.AugAssign (.Name x pos') op e pos) (tS (X.wd T) U (sAug i g f)) := by
  refine PS.imp (ps_aug hN hi hx he (fun pins s σ H x y v u Q I rx ry q => ho pins s σ H x y v u Q I rx ry q) hf) fun D σ H ⟨ρ, M, δ, w, er, h⟩ => ?_
  unfold sAug at h
  cases q : δ[i]? with
  | none => rw [q] at h; exact h.elim
  | some o =>
    cases o with
    | none => rw [q] at h; exact h.elim
    | some d =>
      simp only [q] at h
      obtain ⟨v, h1, h2⟩ := er.2 i d q
      refine ⟨v, h1, ρ, M, δ, w, er, Ss.of (rel := relD (X.wd T)) er h fun a M1 y ρ1 H1 _ e1 w1 r1 er1 h3 => ?_⟩
      exact hg U σ ρ1 M1 H1 d a v y _ w1 (h2.mono e1) r1 (Ss.of (rel := relD (X.wd T)) er1 h3 fun z M2 zv ρ2 H2 _ e2 w2 r2 er2 h4 => Ss.nx_ w2 (er2.set r2) h4)
def whl (t : Dt.T) (s : S) : Nat → Env → Mem → SR
  | 0, _, _ => .bad
  | n + 1, δ, M => (t δ M).st δ fun c M => if c = true then (match s δ M with
    | .nx δ2 M2 => whl t s n δ2 M2
    | .ct δ2 M2 => whl t s n δ2 M2
    | .bk δ2 M2 => .nx δ2 M2
    | .rt d M2 => .rt d M2
    | .ex e δ2 M2 => .ex e δ2 M2
    | .bad => .bad) else .nx δ M
def sWhile (fu : Env → Nat) (t : Dt.T) (s : S) : S := fun δ M => whl t s (fu δ) δ M
theorem s_while (fu : Env → Nat) {t : Dt.T} (hp : PassesOwn (model X.prog X.w) X.A X.env X.xe) (hc : PT X c (tT (X.wd T) U t)) (hb : PSs X st (tS (X.wd T) U s)) : PS X (.While c st [] pos) (tS (X.wd T) U (sWhile fu t s)) := by
  refine PS.imp (ps_while hp hc hb) fun D σ H ⟨ρ, M, δ, w, er, h⟩ => ?_
  refine ⟨fun m σ' H' => ∃ ρ' M' δ', WOk (X.wd T) ρ' M' H' ∧ ER X.K H' ρ' δ' σ' ∧ Ss (X.wd T) U D ρ' H' (whl t s m δ' M'), ⟨fu δ, ρ, M, δ, w, er, h⟩, ?_⟩
  rintro m σ' H' ⟨ρ', M', δ', w', er', h'⟩
  cases m with
  | zero => exact h'.elim
  | succ m =>
    refine ⟨ρ', M', δ', w', er', Ss.of (rel := relB) er' h' fun a M1 v ρ1 H1 _ e1 w1 r1 er1 h1 => ?_⟩
    have r1 : v = a := r1
    subst r1
    cases v with
    | false => exact iteF (Ss.nx_ w1 er1 h1)
    | true =>
      refine iteT ⟨fun σ2 H2 => ∃ ρ2 M2 δ2, WOk (X.wd T) ρ2 M2 H2 ∧ ER X.K H2 ρ2 δ2 σ2 ∧ Ss (X.wd T) U D ρ2 H2 (whl t s m δ2 M2), fun σ2 H2 q => ⟨m, Nat.lt_succ_self _, q⟩, ρ1, M1, δ', w1, er1, ?_⟩
      simp only [if_true] at h1
      cases qs : s δ' M1 with
      | nx δ4 M4 => simp only [qs] at h1; exact fun σ4 ρ4 H4 e4 w4 er4 => ⟨ρ4, M4, δ4, w4, er4, Ss.start e4 h1⟩
      | ct δ4 M4 => simp only [qs] at h1; exact fun σ4 ρ4 H4 e4 w4 er4 => ⟨ρ4, M4, δ4, w4, er4, Ss.start e4 h1⟩
      | bk δ4 M4 => simp only [qs] at h1; exact fun σ4 ρ4 H4 e4 w4 er4 => h1 σ4 ρ4 H4 e4 w4 er4
      | rt d4 M4 => simp only [qs] at h1; exact fun v4 ρ4 H4 e4 w4 r4 => h1 v4 ρ4 H4 e4 w4 r4
      | ex e4 δ4 M4 => simp only [qs] at h1; exact fun c dd σ4 ρ4 H4 e5 w4 er4 x4 => h1 c dd σ4 ρ4 H4 e5 w4 er4 x4
      | bad => simp only [qs] at h1; exact h1.elim
end
end Dt
namespace Dt
open PySem PySem.Spec PyProof.Rows L2
/-- pairs (k0 + i, the i-th of the tuple at a), new at each turn -/
def IteT (K : PySem.W.Frag) (a : Addr) (k0 : Int) : It :=
  ⟨fun i H => ∃ (xs : List V) (x : V), SqT K H a xs ∧ xs[i]? = some x, fun i H v H' => ∃ T x, v = .ref T ∧ H T = none ∧ H' = upd H T (.tup [.int (k0 + (i : Nat)), x]) ∧ ∀ xs, SqT K H a xs → xs[i]? = some x, fun i H => ∃ xs : List V, SqT K H a xs ∧ xs.length ≤ i⟩
theorem turn_enumT {P : Program} {w : World} {K : PySem.W.Frag} {elts : List Expr} {kk : Nat} {tpos : Pos} {k0 : Int} (a e it : Addr) :
    Turn P w K (.Tuple elts kk tpos) (IteT K a k0) [e, it] e (fun i h => (∃ old, IsEnum h e it (k0 + ((i : Nat) : Int)) old) ∧ h.IsTupleIter it a i ∧ e ≠ it) where
  mem := by simp
  obj := fun i h st b hb => by
    obtain ⟨⟨old, he⟩, ⟨o, ho, hc, hd⟩, _⟩ := st
    have e' : b = e ∨ b = it := by simpa using hb
    rcases e' with z | z
    · rw [z]; exact ⟨_, he, fun v q => nomatch q⟩
    · rw [z]; exact ⟨o, ho, fun v q => by rw [hd] at q; cases q⟩
  keep := fun i h h' st k => let ⟨⟨old, he⟩, hi, hne⟩ := st; ⟨⟨old, k e (by simp) _ he⟩, hi.at fun o q => k it (by simp) o q, hne⟩
  item := by
    intro X hP hw hK hc i pins s σ H E I hf st hg
    subst hP hw hK
    obtain ⟨⟨old, he⟩, hit, hne⟩ := st
    obtain ⟨xs, x, hq, hx⟩ := hg
    obtain ⟨its, rv, p, hz⟩ := I.tuple hq
    obtain ⟨u, hu, ru⟩ := rv.get hx
    have hel : e < s.heap.objs.size := Heap.lt_size he
    have hil : it < s.heap.objs.size := by obtain ⟨_, q, _⟩ := hit; exact Heap.lt_size q
    have pT : s.heap.IsTuple a its.toArray := p
    obtain ⟨ot, eo, co, no, dn⟩ := id pT
    have hae : a ≠ e := fun z => by
      have he2 : s.heap.get? e = some _ := he
      rw [z, he2] at eo; cases eo; exact absurd co (by show Value.type "enumerate" ≠ Value.type "tuple"; decide +kernel)
    have hai : a ≠ it := fun z => by
      obtain ⟨o, q, q2, q3⟩ := hit
      rw [z] at eo; rw [eo] at q; cases q
      rw [dn] at q3; cases q3
    have hil2 : i < its.toArray.size := by rw [List.size_toArray]; exact (List.getElem?_eq_some_iff.mp hu).1
    refine wpAny_pyNext_enum_itemC (Draws.tuple (A := X.A.in1) (I.ok.hd hc) it a hai its.toArray) he ⟨hit, pT⟩ hil2 hne (by simp [hne]; exact fun z => hae z.symm) fun u' h' tk hu' ho hs' hT hsz hk => ?_
    have eu : u' = u := by
      have z : its[i]? = some u' := by simpa using hu'
      rw [hu] at z; exact (Option.some.inj z).symm
    subst eu
    refine ⟨_, rfl, wpAny_letOwnedTupleGo_enum (s := { s with heap := h', toks := tk + 1 }) ho fun h'' he' sb => ?_⟩
    have hT2 : h''.get? s.heap.objs.size = some { cls := .type "tuple", data := .seq #[.int (k0 + (i : Nat)) tk, u'] } := (sb.2 _ (Nat.ne_of_gt hel)).trans hT
    have new : ObjOk X.prog X.w (upd H s.heap.objs.size (.tup [.int (k0 + (i : Nat)), x])) h'' s.heap.objs.size (.tup [.int (k0 + (i : Nat)), x]) :=
      ⟨by show 2 ≤ sizeLine; decide, [.int (k0 + (i : Nat)) tk, u'], .cons ⟨_, rfl⟩ (.cons ru .nil), ⟨_, hT2, rfl, _, rfl⟩⟩
    have I1 : Inv X pins σ (upd H s.heap.objs.size (.tup [.int (k0 + (i : Nat)), x])) { s with heap := h'', toks := tk + 1 } :=
      I.turnedNew (ch := [e, it]) (fun b ob hb q => (sb.2 b (fun z => hb (by simp [z]))).trans (hk b ob (fun z => hb (by simp [z])) (fun z => hb (by simp [z])) q)) hf (Nat.le_refl _) new
    refine ⟨.ref s.heap.objs.size, _, I1, rfl, ⟨_, x, rfl, I.hok.fresh (Nat.le_refl _), rfl, fun ys hy => by rw [I.tuple_inj hy hq]; exact hx⟩, ⟨⟨u', ?_⟩, hs'.1.at fun o q => (sb.2 it (Ne.symm hne)).trans q, hne⟩, fun b hb => ?_⟩
    · have e1 : k0 + ((i + 1 : Nat) : Int) = k0 + (i : Int) + 1 := by omega
      rw [e1]; exact he'
    · have hb' : b < s.heap.objs.size := by
        have e' : b = e ∨ b = it := by simpa using hb
        rcases e' with z | z
        · rw [z]; exact hel
        · rw [z]; exact hil
      rw [upd_ne (Nat.ne_of_lt hb')]
      exact (hf b hb).1
  done := by
    intro X hP hw hK hc i pins s σ H E I hf st hg
    subst hP hw hK
    obtain ⟨⟨old, he⟩, hit, hne⟩ := st
    obtain ⟨xs, hq, hx⟩ := hg
    obtain ⟨its, rv, p, hz⟩ := I.tuple hq
    obtain ⟨f0, f1, f2, f3, f4, f5⟩ := hf it (by simp)
    have hl := rv.length
    have pT : s.heap.IsTuple a its.toArray := p
    obtain ⟨ot, eo, co, no, dn⟩ := id pT
    have hai : a ≠ it := fun z => by
      obtain ⟨o, q, q2, q3⟩ := hit
      rw [z] at eo; rw [eo] at q; cases q
      rw [dn] at q3; cases q3
    unfold pyNext
    have hn : its.toArray[i]? = none := by simp; omega
    have D0 := Draws.tuple (A := X.A.in1) (prog := X.prog) (w := X.w) (I.ok.hd hc) it a hai its.toArray
    have D : Draws X.prog X.w X.A.in1 it [it, a] i (fun _ _ => False) (fun j h => j = i ∧ h.IsTupleIter it a i ∧ h.IsTuple a its.toArray) := {
      live := fun j h st => D0.live i h st.2
      frame := fun j h h' st k => ⟨st.1, D0.frame i h h' st.2 k⟩
      item := fun j s Q E hj st => absurd st.1 (Nat.ne_of_lt hj)
      done := fun s Q E st h => wpAny_nextOf_tuple_end (I.ok.hd hc) st.2.1 st.2.2 hn h }
    exact wpAny_pyNext_enum_endD D he ⟨rfl, hit, pT⟩ fun h' eb => ⟨rfl, I.turned (t' := s.toks) (fun b o hb q => eb b o hb q) f0 f1 f3 f4 f5⟩
  self := fun A i s Q E st h => let ⟨⟨_, he⟩, _⟩ := st; wpAny_pyIter_enum he h
/-- pairs (k0 + i, the i-th sign of z) -/
def IteS (z : Str) (k0 : Int) : It :=
  ⟨fun i _ => i < z.cps.size, fun i H v H' => ∃ T c, v = .ref T ∧ H T = none ∧ H' = upd H T (.tup [.int (k0 + (i : Nat)), .str ⟨#[c]⟩]) ∧ z.cps[i]? = some c, fun i _ => z.cps.size ≤ i⟩
theorem turn_enumS {P : Program} {w : World} {K : PySem.W.Frag} {elts : List Expr} {kk : Nat} {tpos : Pos} {k0 : Int} (z : Str) (tt : Tok) (e it : Addr) :
    Turn P w K (.Tuple elts kk tpos) (IteS z k0) [e, it] e (fun i h => (∃ old, IsEnum h e it (k0 + ((i : Nat) : Int)) old) ∧ h.IsStrIter it (strIterType z) z tt i ∧ e ≠ it) where
  mem := by simp
  obj := fun i h st b hb => by
    obtain ⟨⟨old, he⟩, ⟨o, ho, hc, hd⟩, _⟩ := st
    have e' : b = e ∨ b = it := by simpa using hb
    rcases e' with z | z
    · rw [z]; exact ⟨_, he, fun v q => nomatch q⟩
    · rw [z]; exact ⟨o, ho, fun v q => by rw [hd] at q; cases q⟩
  keep := fun i h h' st k => let ⟨⟨old, he⟩, ⟨o, ho, r⟩, hne⟩ := st; ⟨⟨old, k e (by simp) _ he⟩, ⟨o, k it (by simp) o ho, r⟩, hne⟩
  item := by
    intro X hP hw hK hc i pins s σ H E I hf st hg
    subst hP hw hK
    obtain ⟨⟨old, he⟩, hit, hne⟩ := st
    have hg : i < z.cps.size := hg
    have hel : e < s.heap.objs.size := Heap.lt_size he
    have hil : it < s.heap.objs.size := by obtain ⟨_, q, _⟩ := hit; exact Heap.lt_size q
    refine wpAny_pyNext_enum_itemC (Draws.text (prog := X.prog) (w := X.w) (A := X.A.in1) (I.ok.hd hc) it z tt) he hit hg hne (by simp [hne]) fun u h' tk hu ho hs' hT hsz hk => ?_
    obtain ⟨c, t2, hcx, rfl⟩ := hu
    refine ⟨_, rfl, wpAny_letOwnedTupleGo_enum (s := { s with heap := h', toks := tk + 1 }) ho fun h'' he' sb => ?_⟩
    have hT2 : h''.get? s.heap.objs.size = some { cls := .type "tuple", data := .seq #[.int (k0 + (i : Nat)) tk, .str ⟨#[c]⟩ t2] } := (sb.2 _ (Nat.ne_of_gt hel)).trans hT
    have new : ObjOk X.prog X.w (upd H s.heap.objs.size (.tup [.int (k0 + (i : Nat)), .str ⟨#[c]⟩])) h'' s.heap.objs.size (.tup [.int (k0 + (i : Nat)), .str ⟨#[c]⟩]) :=
      ⟨by show 2 ≤ sizeLine; decide, [.int (k0 + (i : Nat)) tk, .str ⟨#[c]⟩ t2], .cons ⟨_, rfl⟩ (.cons ⟨_, rfl⟩ .nil), ⟨_, hT2, rfl, _, rfl⟩⟩
    have I1 : Inv X pins σ (upd H s.heap.objs.size (.tup [.int (k0 + (i : Nat)), .str ⟨#[c]⟩])) { s with heap := h'', toks := tk + 1 } :=
      I.turnedNew (ch := [e, it]) (fun b ob hb q => (sb.2 b (fun z => hb (by simp [z]))).trans (hk b ob (fun z => hb (by simp [z])) (fun z => hb (by simp [z])) q)) hf (Nat.le_refl _) new
    refine ⟨.ref s.heap.objs.size, _, I1, rfl, ⟨_, c, rfl, I.hok.fresh (Nat.le_refl _), rfl, hcx⟩, ⟨⟨.str ⟨#[c]⟩ t2, ?_⟩, ?_, hne⟩, fun b hb => ?_⟩
    · have e1 : k0 + ((i + 1 : Nat) : Int) = k0 + (i : Int) + 1 := by omega
      rw [e1]; exact he'
    · obtain ⟨o, q1, q2⟩ := hs'
      exact ⟨o, (sb.2 it (Ne.symm hne)).trans q1, q2⟩
    · have hb' : b < s.heap.objs.size := by
        have e' : b = e ∨ b = it := by simpa using hb
        rcases e' with z | z
        · rw [z]; exact hel
        · rw [z]; exact hil
      rw [upd_ne (Nat.ne_of_lt hb')]
      exact (hf b hb).1
  done := by
    intro X hP hw hK hc i pins s σ H E I hf st hg
    subst hP hw hK
    obtain ⟨⟨old, he⟩, hit, hne⟩ := st
    have hg : z.cps.size ≤ i := hg
    obtain ⟨f0, f1, f2, f3, f4, f5⟩ := hf it (by simp)
    have hx : z.cps[i]? = none := Array.getElem?_eq_none hg
    have D0 := Draws.text (A := X.A.in1) (prog := X.prog) (w := X.w) (I.ok.hd hc) it z tt
    have D : Draws X.prog X.w X.A.in1 it [it] i (fun _ _ => False) (fun j h => j = i ∧ h.IsStrIter it (strIterType z) z tt i) := {
      live := fun j h st => D0.live i h st.2
      frame := fun j h h' st k => ⟨st.1, D0.frame i h h' st.2 k⟩
      item := fun j s Q E hj st => absurd st.1 (Nat.ne_of_lt hj)
      done := fun s Q E st h => by
        have h2 := st.2
        unfold strIterType at h2
        split at h2
        · exact wpAny_nextOf_ascii_end (I.ok.hd hc) h2 hx h
        · exact wpAny_nextOf_wide_end (I.ok.hd hc) h2 hx h }
    exact wpAny_pyNext_enum_endD D he ⟨rfl, hit⟩ fun h' eb => ⟨rfl, I.turned (t' := s.toks) (fun b o hb q => eb b o hb q) f0 f1 f3 f4 f5⟩
  self := fun A i s Q E st h => let ⟨⟨_, he⟩, _⟩ := st; wpAny_pyIter_enum he h
section
variable {X : Cx} {T : List (Addr × Str)} {U : WX} {pos p2 : Pos} {e a b c : Expr} {es elts : List Expr} {kk : Nat} {f f1 f2 : E} {fa : Ar} {st : List Stmt} {s : S} {tpos : Pos}
/-- what an enumerate's maker wishes -/
def rEnum (K : PySem.W.Frag) (k0 : Int) (x : V) (H : Hp) (R : It → Hp → Prop) : Prop := (∃ a xs, x = .ref a ∧ SqT K H a xs ∧ R (IteT K a k0) H) ∨ (∃ z, x = .str z ∧ R (IteS z k0) H)
theorem enum_made {pins : List (Addr × Obj)} {s1 : Shared} {σ : L2.St} {H1 : Hp} {R : It → Hp → Prop} {x : V} {u : Value} {k0 : Int} {kw : List (Str × Value)} (I1 : Inv X pins σ H1 s1) (rx : RelV x u) (h : rEnum X.K k0 x H1 R)
    (mk : ∀ {o : Obj} {Hh : Heap → Prop} {Q : Value → Shared → Prop}, Begins u o Hh → Hh s1.heap →
      (∀ h', IsEnum h' (s1.heap.objs.size + 1) s1.heap.objs.size k0 .none → h'.get? s1.heap.objs.size = some o → h'.objs.size = s1.heap.objs.size + 2 → (∀ b o, s1.heap.get? b = some o → h'.get? b = some o) → Q (.ref (s1.heap.objs.size + 1)) { s1 with heap := h' }) →
      wpAny (model X.prog X.w) X.A (call (.type "enumerate") [u] kw) Q X.xe s1) :
    wpAny (model X.prog X.w) X.A (call (.type "enumerate") [u] kw) (fun v s2 => wpAny (model X.prog X.w) X.A (pyIter v) (PIE X pins σ (.Tuple elts kk tpos) R) X.xe s2) X.xe s1 := by
  have fin : ∀ {h' : Heap} {J : It} {tn : Nat → Heap → Prop}, (∀ b o, s1.heap.get? b = some o → h'.get? b = some o) → IsEnum h' (s1.heap.objs.size + 1) s1.heap.objs.size k0 .none → Turn X.prog X.w X.K (.Tuple elts kk tpos) J [s1.heap.objs.size + 1, s1.heap.objs.size] (s1.heap.objs.size + 1) tn → tn 0 h' → R J H1 →
      wpAny (model X.prog X.w) X.A (pyIter (.ref (s1.heap.objs.size + 1))) (PIE X pins σ (.Tuple elts kk tpos) R) X.xe { s1 with heap := h' } := fun {h' J tn} hk he t t0 q => by
    have I2 : Inv X pins σ H1 { s1 with heap := h' } := I1.kept (t' := s1.toks) hk
    refine wpAny_pyIter_enum (s := { s1 with heap := h' }) he ⟨s1.heap.objs.size + 1, [s1.heap.objs.size + 1, s1.heap.objs.size], tn, J, H1, rfl, I2, t, t0, fun b hb => ?_, q⟩
    have e' : b = s1.heap.objs.size + 1 ∨ b = s1.heap.objs.size := by simpa using hb
    have hle : s1.heap.objs.size ≤ b := by
      rcases e' with z | z
      · rw [z]; exact Nat.le_add_right _ _
      · rw [z]; exact Nat.le_refl _
    exact I1.fpOk hle (I1.hok.fresh hle)
  rcases h with ⟨a, xs, rfl, hq, q⟩ | ⟨z, rfl, q⟩
  · cases rx
    obtain ⟨its, rv, p', hz⟩ := I1.tuple hq
    refine mk (begins_tuple a its.toArray) (show s1.heap.IsTuple a its.toArray from p') fun h' he ho hsz hk => ?_
    refine fin hk he (turn_enumT (k0 := k0) a _ _) ⟨⟨.none, ?_⟩, ⟨_, ho, rfl, rfl⟩, Nat.succ_ne_self _⟩ q
    rw [show k0 + ((0 : Nat) : Int) = k0 by omega]; exact he
  · obtain ⟨t, rfl⟩ := rx
    refine mk (begins_text z t) True.intro fun h' he ho hsz hk => ?_
    refine fin hk he (turn_enumS (k0 := k0) z t _ _) ⟨⟨.none, ?_⟩, ⟨_, ho, rfl, rfl⟩, Nat.succ_ne_self _⟩ q
    rw [show k0 + ((0 : Nat) : Int) = k0 by omega]; exact he
/-- enumerate(v, start=k) -/
theorem meets_enumerate_new1 {v : Value} {o : Obj} {H : Heap → Prop} (B : Begins v o H) :
    Meets (Builtin.«enumerate.__new__» ⟨[.type "enumerate", v], []⟩) (fun _ R s => H s.heap ∧
      R (.ok (.ret (.ref (s.heap.push o).objs.size))) { s with heap := (s.heap.push o).push { cls := .type "enumerate", data := .fields #[.none, .bool false, .ref s.heap.objs.size, rawInt 0, .none, .none] } }) :=
  .of_wp fun prog w A R s h => by
    obtain ⟨hp, g, d, tk, os⟩ := s; obtain ⟨h1, h⟩ := h
    have hsub := sub_enumerate
    have q1 : ∀ {A' : Around} {E : Value → Shared → Prop} {Q : Value → Shared → Prop}, Q (.ref hp.objs.size) ⟨hp.push o, g, d, tk, os⟩ → wpAny (model prog w) A' (pyIter v) Q E ⟨hp, g, d, tk, os⟩ :=
      fun q => B.iter prog w _ _ ⟨hp, g, d, tk, os⟩ _ h1 q
    wp_walk using q1
    refine wpAny_stack_any fun st => wpAny_pure ?_
    split
    · rename_i c _ _ _ _ _
      cases (c == Value.type "enumerate")
      · wp_walk using q1
        exact ⟨_, rfl, h⟩
      · wp_walk using q1
        exact ⟨_, rfl, h⟩
    · wp_walk using q1
      exact ⟨_, rfl, h⟩
theorem enum_begins1 {prog : Program} {w : World} {A : Around} {E : Value → Shared → Prop} {s : Shared} {v : Value} {o : Obj} {H : Heap → Prop} {Q : Value → Shared → Prop} (B : Begins v o H) (h1 : H s.heap)
    (h : ∀ h', IsEnum h' (s.heap.objs.size + 1) s.heap.objs.size 0 .none → h'.get? s.heap.objs.size = some o → h'.objs.size = s.heap.objs.size + 2 →
      (∀ b o, s.heap.get? b = some o → h'.get? b = some o) → Q (.ref (s.heap.objs.size + 1)) { s with heap := h' }) :
    wpAny (model prog w) A (call (.type "enumerate") [v]) Q E s := by
  refine callType_new F.called_enumerate (by decide) (F.typeCall_enumerate_1 _) (F.newCall_enumerate_1 _) (fun obj => F.args_object_init_2 obj _) F.entry_enumerate_new
    (meets_enumerate_new1 B) ⟨h1, ?_⟩
  have hz : (s.heap.push o).objs.size = s.heap.objs.size + 1 := Heap.size_push ..
  show _ ∧ _
  rw [hz]
  have he : IsEnum ((s.heap.push o).push { cls := .type "enumerate", data := .fields #[.none, .bool false, .ref s.heap.objs.size, rawInt 0, .none, .none] }) (s.heap.objs.size + 1) s.heap.objs.size 0 .none := by
    have := Heap.get?_push_size (s.heap.push o) (o := { cls := .type "enumerate", data := .fields #[.none, .bool false, .ref s.heap.objs.size, rawInt 0, .none, .none] }) rfl
    rw [hz] at this; exact this
  refine ⟨⟨_, he, rfl⟩, h _ he (Heap.get?_push_of_some _ (Heap.get?_push_size _ B.free)) (by rw [Heap.size_push, hz]) fun b o x => Heap.get?_push_of_some _ (Heap.get?_push_of_some _ x)⟩
/-- from an expression to its enumerate -/
def oneR (K : PySem.W.Frag) (k0 : Int) (R : It → Hp → Prop) : List V → Hp → Prop := fun xs H1 => match xs with
  | [x] => rEnum K k0 x H1 R
  | _ => False
theorem oneR_ok {K : PySem.W.Frag} {k0 : Int} {R : It → Hp → Prop} {xs : List V} {H : Hp} (h : oneR K k0 R xs H) : ∃ x, xs = [x] ∧ rEnum K k0 x H R := by
  unfold oneR at h
  split at h
  · exact ⟨_, rfl, h⟩
  · exact h.elim
theorem pi_enum1 {te : TE} {p : Pos} (hm : X.mg "enumerate" = none) (ha : PE X e te) (hg : Gl X "enumerate" := by rfl) (hs : starEach [e] X.env = [(false, eval e X.env)] := by rfl) :
    PI X (.Tuple elts kk tpos) (.Call (.Name "enumerate" p) [e] [] pos) (fun σ H R => te σ H fun x H1 => rEnum X.K 0 x H1 R) := by
  refine ⟨fun pins s σ H R I h => ?_⟩
  have ha2 : PA X [e] (tCons te tNil) := pa_cons ha pa_nil hs
  refine Call_ (ld_blt I hg hm boot_enumerate (PyProof.Rows.callWith_type1 (thn (ha2.run pos pins s σ H (oneR X.K 0 R) I h) fun us s1 ⟨vs, H1, I1, r1, q1⟩ => ?_) hs rfl))
  obtain ⟨x, ex, q1⟩ := oneR_ok q1
  subst ex
  cases r1 with
  | cons r rr =>
    cases rr
    exact enum_made I1 r q1 fun B hb hh => enum_begins1 B hb hh
theorem pi_enumK {te : TE} {p kp p3 : Pos} {j : Nat} {k0 : Int} (hk0 : -(2 ^ 63) ≤ k0) (hk1 : k0 < 2 ^ 63) (hm : X.mg "enumerate" = none) (ha : PE X e te) (hg : Gl X "enumerate" := by rfl) (hs : starEach [e] X.env = [(false, eval e X.env)] := by rfl) :
    PI X (.Tuple elts kk tpos) (.Call (.Name "enumerate" p) [e] [⟨some "start", .Constant (.int k0) j p3, kp⟩] pos) (fun σ H R => te σ H fun x H1 => rEnum X.K k0 x H1 R) := by
  refine ⟨fun pins s σ H R I h => ?_⟩
  have ha2 : PA X [e] (tCons te tNil) := pa_cons ha pa_nil hs
  have hk2 : PK X [⟨some "start", .Constant (.int k0) j p3, kp⟩] (tCons (tC (.int k0)) tNil) := pk_cons pe_int pk_nil
  refine wpAny_Call_Name_kw (ld_blt I hg hm boot_enumerate ?_)
  refine PySem.W.callWith_of (P := fun _ => True) (by rw [hs]; rfl) (fun h _ => ⟨Keeper.machine, .inr (.inl rfl), .now⟩) (evalArgs_kw2 rfl (thn (ha2.run pos pins s σ H (oneR X.K k0 R) I h) fun us s1 ⟨vs, H1, I1, r1, q1⟩ => ?_) hs)
  obtain ⟨x, ex, q1⟩ := oneR_ok q1
  subst ex
  refine thn (hk2.run pos pins s1 σ H1 (fun zs H2 => zs = [.int k0] ∧ H2 = H1) I1 ⟨rfl, rfl⟩) fun ws s2 ⟨zs, H2, I2, rz, ez, eH⟩ => ⟨True.intro, ?_⟩
  subst ez eH
  cases r1 with
  | cons r rr =>
    cases rr
    cases rz with
    | cons r2 rr2 =>
      cases rr2
      obtain ⟨t, rfl⟩ := r2
      exact enum_made I2 r q1 fun B hb hh => enum_begins_start B hb hk0 hk1 hh
def enumD (k0 : Int) (ds : List D) : List D := ds.zipIdx.map fun p => .tup [.int (k0 + (p.2 : Nat)), p.1]
def iEnumD (k0 : Int) (a : E) : Ar := fun δ M => (a δ M).bind fun d M => match d with
  | .tup ds => .ok (enumD k0 ds) M
  | .str s => .ok (enumD k0 (s.toList.map fun c => .str (String.singleton c))) M
  | _ => .bad
theorem enumD_get {k0 : Int} {ds : List D} {i : Nat} {d : D} (h : (enumD k0 ds)[i]? = some d) : ∃ x, ds[i]? = some x ∧ d = .tup [.int (k0 + (i : Nat)), x] := by
  unfold enumD at h
  rw [List.getElem?_map] at h
  obtain ⟨p, h1, h2⟩ := Option.map_eq_some_iff.mp h
  rw [List.getElem?_zipIdx] at h1
  obtain ⟨x, h3, h4⟩ := Option.map_eq_some_iff.mp h1
  subst h4
  exact ⟨x, h3, by rw [← h2, Nat.zero_add]⟩
theorem enumD_len {k0 : Int} {ds : List D} : (enumD k0 ds).length = ds.length := by unfold enumD; rw [List.length_map, List.length_zipIdx]
theorem enum_read {W : Wd} {σ : L2.St} {H : Hp} {k0 : Int} {R : It → Hp → Prop} (h : tI W U (iEnumD k0 f) σ H R) : tE W U f σ H fun x H1 => rEnum W.K k0 x H1 R := by
  obtain ⟨ρ, M, δ, w, er, go⟩ := h
  refine ⟨ρ, M, δ, w, er, (Gg.bind (rel := relD W) go).imp fun x H1 ⟨ρ1, M1, d, _, e1, w1, r1, go1⟩ => ?_⟩
  have pair : ∀ {i : Nat} {ρ' : List Addr} {H' : Hp} {x : V} {d : D} {v : V} {H2 : Hp} {T : Addr}, Rp W.K H' ρ' d x → H' T = none → v = .ref T → H2 = upd H' T (.tup [.int (k0 + (i : Nat)), x]) →
      Ex ρ' H' ρ' H2 ∧ (∀ M', WOk W ρ' M' H' → WOk W ρ' M' H2) ∧ Rp W.K H2 ρ' (.tup [.int (k0 + (i : Nat)), d]) v := by
    intro i ρ' H' x d v H2 T rx hT ev eH
    subst ev eH
    have ex : Ex ρ' H' ρ' (upd H' T (.tup [.int (k0 + (i : Nat)), x])) := Ex.new hT
    exact ⟨ex, fun M' w => w.new hT, T, _, rfl, SqT.of upd_same, ⟨_, _, rfl, rfl, _, _, rfl, rx.mono ex, rfl⟩⟩
  cases d with
  | tup ds =>
    obtain ⟨a, xs, rfl, h1, h2⟩ := r1
    refine .inl ⟨a, xs, rfl, h1, Gg.ret w1 (v := IteT W.K a k0) (fun i ρ' H' e => ⟨fun d hd => ?_, fun hi => ⟨xs, e.sqT h1, by rw [enumD_len] at hi; rw [← h2.length]; exact hi⟩⟩) go1⟩
    obtain ⟨d0, hd0, rfl⟩ := enumD_get hd
    obtain ⟨x, hx, rx⟩ := (h2.mono e).get hd0
    refine ⟨⟨xs, x, e.sqT h1, hx⟩, fun y H2 ⟨T, x', ev, hT, eH, q2⟩ => ?_⟩
    have q3 := q2 xs (e.sqT h1)
    rw [hx] at q3; cases q3
    exact pair rx hT ev eH
  | str s =>
    have r1 : x = .str (Str.ofString s) := r1
    have ec : (Str.ofString s).cps = (s.toList.map Char.toNat).toArray := by rw [Str.ofString_eq_toList]
    have hlen : (Str.ofString s).cps.size = s.toList.length := by rw [ec, List.size_toArray, List.length_map]
    refine .inr ⟨_, r1, Gg.ret w1 (v := IteS (Str.ofString s) k0) (fun i ρ' H' e => ⟨fun d hd => ?_, fun hi => ?_⟩) go1⟩
    · obtain ⟨d0, hd0, rfl⟩ := enumD_get hd
      rw [List.getElem?_map] at hd0
      obtain ⟨c, hc, rfl⟩ := Option.map_eq_some_iff.mp hd0
      refine ⟨show i < _ from by rw [hlen]; exact (List.getElem?_eq_some_iff.mp hc).1, fun y H2 ⟨T, c', ev, hT, eH, q2⟩ => ?_⟩
      rw [ec] at q2
      have q3 : c' = c.toNat := by
        rw [List.getElem?_toArray, List.getElem?_map, hc] at q2
        exact (Option.some.inj q2).symm
      subst q3
      refine pair (d := .str (String.singleton c)) ?_ hT ev eH
      show V.str _ = V.str (Str.ofString (String.singleton c))
      rw [Str.ofString_eq_toList]
      simp
    · rw [enumD_len, List.length_map] at hi
      show (Str.ofString s).cps.size ≤ i
      rw [hlen]; exact hi
  | _ => exact go1.elim
theorem i_enum {p : Pos} (hm : X.mg "enumerate" = none) (ha : PE X e (tE (X.wd T) U f)) (hg : Gl X "enumerate" := by rfl) (hs : starEach [e] X.env = [(false, eval e X.env)] := by rfl) :
    PI X (.Tuple elts kk tpos) (.Call (.Name "enumerate" p) [e] [] pos) (tI (X.wd T) U (iEnumD 0 f)) := PI.imp (pi_enum1 hm ha hg hs) fun _ _ _ h => enum_read h
theorem i_enumK {p kp p3 : Pos} {j : Nat} {k0 : Int} (hm : X.mg "enumerate" = none) (ha : PE X e (tE (X.wd T) U f)) (hk0 : -(2 ^ 63) ≤ k0 := by decide) (hk1 : k0 < 2 ^ 63 := by decide) (hg : Gl X "enumerate" := by rfl) (hs : starEach [e] X.env = [(false, eval e X.env)] := by rfl) :
    PI X (.Tuple elts kk tpos) (.Call (.Name "enumerate" p) [e] [⟨some "start", .Constant (.int k0) j p3, kp⟩] pos) (tI (X.wd T) U (iEnumD k0 f)) := PI.imp (pi_enumK hk0 hk1 hm ha hg hs) fun _ _ _ h => enum_read h
end
end Dt
namespace Dt
open PySem PySem.Spec PyProof.Rows L2
/-- a key of depth n at most -/
def keyB : Nat → D → Bool
  | _, .non => true
  | _, .int _ => true
  | _, .str _ => true
  | n + 1, .tup ds => ds.all (keyB n)
  | _, _ => false
def kOk : D → Bool
  | .tup ds => keyB 8 (.tup ds)
  | _ => false
theorem depths_le {n : Nat} : ∀ {ds : List D}, (∀ d ∈ ds, (nk d).depth ≤ n) → NestedKey.depthAll (nks ds) ≤ n
  | [], _ => Nat.zero_le _
  | d :: ds, h => Nat.max_le.mpr ⟨h d List.mem_cons_self, depths_le fun e he => h e (List.mem_cons_of_mem _ he)⟩
theorem keyB_ok : ∀ (n : Nat) (d : D), keyB n d = true → IsKey d ∧ (nk d).depth ≤ n
  | _, .non, _ => ⟨.non, Nat.zero_le _⟩
  | _, .int _, _ => ⟨.int _, Nat.zero_le _⟩
  | _, .str _, _ => ⟨.str _, Nat.zero_le _⟩
  | 0, .tup ds, h => by simp [keyB] at h
  | n + 1, .tup ds, h => by
    have h1 : ds.all (keyB n) = true := h
    have h2 : ∀ d ∈ ds, IsKey d ∧ (nk d).depth ≤ n := fun d hd => keyB_ok n d (List.all_eq_true.mp h1 d hd)
    exact ⟨.tup ds fun d hd => (h2 d hd).1, Nat.succ_le_succ (depths_le fun d hd => (h2 d hd).2)⟩
  | _, .bl _, h => by cases ‹Nat› <;> simp [keyB] at h
  | _, .loc _, h => by cases ‹Nat› <;> simp [keyB] at h
  | _, .fl _, h => by cases ‹Nat› <;> simp [keyB] at h
  | _, .pt _, h => by cases ‹Nat› <;> simp [keyB] at h
section
variable {X : Cx} {pins : List (Addr × Obj)} {σ : L2.St} {H : Hp} {s : Shared} {ρ : List Addr}
mutual
theorem nested_of (I : Inv X pins σ H s) : ∀ (d : D) (v : V) (u : Value), IsKey d → Rp X.K H ρ d v → RelV v u → NestedIs s.heap (nk d) u
  | .non, _, _, _, h, r => by cases h; cases r; exact .none
  | .int i, _, _, _, h, r => by cases h; obtain ⟨t, rfl⟩ := r; exact .int i t
  | .str i, _, _, _, h, r => by cases h; obtain ⟨t, rfl⟩ := r; exact .text _ t
  | .tup ds, _, _, hk, h, r => by
    obtain ⟨a, xs, rfl, h1, h2⟩ := h
    cases r
    obtain ⟨its, rv, ⟨o, ho, hc, n, hd⟩, _⟩ := I.tuple h1
    cases hk with
    | tup _ hk => exact .tup ho hc hd (nestedAll_of I ds xs its hk h2 rv)
  | .bl _, _, _, hk, _, _ => by cases hk
  | .loc _, _, _, hk, _, _ => by cases hk
  | .fl _, _, _, hk, _, _ => by cases hk
  | .pt _, _, _, hk, _, _ => by cases hk
theorem nestedAll_of (I : Inv X pins σ H s) : ∀ (ds : List D) (xs : List V) (us : List Value), (∀ d ∈ ds, IsKey d) → Rps X.K H ρ ds xs → Vals xs us → NestedAll s.heap (nks ds) us
  | [], _, _, _, h, r => by cases h; cases r; exact .nil
  | d :: ds, _, _, hk, h, r => by
    obtain ⟨x, q, rfl, h1, h2⟩ := h
    cases r with
    | cons r1 r2 => exact .cons (nested_of I d x _ (hk d List.mem_cons_self) h1 r1) (nestedAll_of I ds q _ (fun e he => hk e (List.mem_cons_of_mem _ he)) h2 r2)
end
end
abbrev Es := List (NestedKey × Addr × V)
def zE (es : Es) (us : List Value) : List (NestedKey × Addr × Value) := (es.zip us).map fun z => (z.1.1, z.1.2.1, z.2)
def atN (kvs : List (D × D)) (k : NestedKey) : Option D := (kvs.find? fun p => decide (nk p.1 = k)).map (·.2)
def putN (kvs : List (D × D)) (k v : D) : List (D × D) := if (atN kvs (nk k)).isSome then kvs.map (fun p => if nk p.1 = nk k then (p.1, v) else p) else kvs ++ [(k, v)]
def putE (es : Es) (k : NestedKey) (b : Addr) (v : V) : Es := if (es.any fun e => decide (e.1 = k)) = true then es.map (fun e => if e.1 = k then (e.1, e.2.1, v) else e) else es ++ [(k, b, v)]
theorem zE_cons (e : NestedKey × Addr × V) (es : Es) (u : Value) (us : List Value) : zE (e :: es) (u :: us) = (e.1, e.2.1, u) :: zE es us := rfl
theorem atKey_cons (x : NestedKey × Addr × Value) (xs : List (NestedKey × Addr × Value)) (k : NestedKey) : atKey (x :: xs) k = if x.1 = k then some x.2 else atKey xs k := by
  unfold atKey
  rw [List.find?_cons]
  by_cases h : x.1 = k
  · rw [if_pos h, decide_eq_true h]; rfl
  · rw [if_neg h, decide_eq_false h]
theorem atN_cons (p : D × D) (kvs : List (D × D)) (k : NestedKey) : atN (p :: kvs) k = if nk p.1 = k then some p.2 else atN kvs k := by
  unfold atN
  rw [List.find?_cons]
  by_cases h : nk p.1 = k
  · rw [if_pos h, decide_eq_true h]; rfl
  · rw [if_neg h, decide_eq_false h]
section
variable {K : PySem.W.Frag} {H : Hp} {ρ : List Addr}
theorem at_par {k : NestedKey} : ∀ {kvs : List (D × D)} {es : Es} {us : List Value}, es.map (·.1) = kvs.map (fun p => nk p.1) → Rps K H ρ (kvs.map (·.2)) (es.map fun e => e.2.2) → Vals (es.map fun e => e.2.2) us →
    (atN kvs k = none ∧ atKey (zE es us) k = none) ∨ ∃ d v b u, atN kvs k = some d ∧ atKey (zE es us) k = some (b, u) ∧ Rp K H ρ d v ∧ RelV v u
  | [], [], _, _, _, r => by cases r; exact .inl ⟨rfl, rfl⟩
  | [], _ :: _, _, h, _, _ => by cases h
  | _ :: _, [], _, h, _, _ => by cases h
  | p :: kvs, e :: es, us, h, h2, r => by
    obtain ⟨x, q, e1, r1, r2⟩ := h2
    have e1 : e.2.2 :: es.map (fun e => e.2.2) = x :: q := e1
    injection e1 with e1 e2
    subst e1 e2
    rw [List.map_cons] at r
    cases r with
    | @cons _ u _ us ru rus =>
      rw [List.map_cons, List.map_cons] at h
      injection h with hk hr
      rw [atN_cons, zE_cons, atKey_cons, ← hk]
      by_cases z : e.1 = k
      · rw [if_pos z, if_pos (show (e.1, e.2.1, u).1 = k from z)]
        exact .inr ⟨p.2, e.2.2, e.2.1, u, rfl, rfl, r1, ru⟩
      · rw [if_neg z, if_neg (show ¬ (e.1, e.2.1, u).1 = k from z)]
        exact at_par hr r2 rus
theorem any_at {k : NestedKey} : ∀ {kvs : List (D × D)} {es : Es}, es.map (·.1) = kvs.map (fun p => nk p.1) → (es.any fun e => decide (e.1 = k)) = (atN kvs k).isSome
  | [], [], _ => rfl
  | [], _ :: _, h => by cases h
  | _ :: _, [], h => by cases h
  | p :: kvs, e :: es, h => by
    rw [List.map_cons, List.map_cons] at h
    injection h with hk hr
    rw [List.any_cons, atN_cons, ← hk, any_at hr]
    by_cases z : e.1 = k
    · rw [if_pos z, decide_eq_true z]; rfl
    · rw [if_neg z, decide_eq_false z]; rfl
theorem any_zE {k : NestedKey} : ∀ {es : Es} {us : List Value}, us.length = es.length → (atKey (zE es us) k).isSome = es.any fun e => decide (e.1 = k)
  | [], _, _ => rfl
  | _ :: _, [], h => by cases h
  | e :: es, u :: us, h => by
    rw [zE_cons, atKey_cons, List.any_cons]
    by_cases z : e.1 = k
    · rw [if_pos (show (e.1, e.2.1, u).1 = k from z), decide_eq_true z]; rfl
    · rw [if_neg (show ¬ (e.1, e.2.1, u).1 = k from z), decide_eq_false z, any_zE (by simpa using h)]; rfl
/-- the entry of k overwritten -/
theorem over_par {k : NestedKey} {v : V} {u : Value} (ru : RelV v u) : ∀ {es : Es} {us : List Value}, Vals (es.map fun e => e.2.2) us →
    ∃ us', Vals ((es.map fun e => if e.1 = k then (e.1, e.2.1, v) else e).map fun e => e.2.2) us' ∧ zE (es.map fun e => if e.1 = k then (e.1, e.2.1, v) else e) us' = (zE es us).map (putAt k u)
  | [], us, r => by cases r; exact ⟨[], .nil, rfl⟩
  | e :: es, us, r => by
    rw [List.map_cons] at r
    cases r with
    | @cons _ u0 _ us r1 r2 =>
      obtain ⟨us', h1, h2⟩ := over_par ru r2
      by_cases z : e.1 = k
      · refine ⟨u :: us', ?_, ?_⟩
        · rw [List.map_cons, if_pos z, List.map_cons]; exact .cons ru h1
        · rw [List.map_cons, if_pos z, zE_cons, zE_cons, List.map_cons, h2]
          unfold putAt
          rw [if_pos (show (e.1, e.2.1, u0).1 = k from z)]
      · refine ⟨u0 :: us', ?_, ?_⟩
        · rw [List.map_cons, if_neg z, List.map_cons]; exact .cons r1 h1
        · rw [List.map_cons, if_neg z, zE_cons, zE_cons, List.map_cons, h2]
          unfold putAt
          rw [if_neg (show ¬ (e.1, e.2.1, u0).1 = k from z)]
theorem zE_app : ∀ {es : Es} {us : List Value} {e : NestedKey × Addr × V} {u : Value}, us.length = es.length → zE (es ++ [e]) (us ++ [u]) = zE es us ++ [(e.1, e.2.1, u)]
  | [], [], _, _, _ => rfl
  | [], _ :: _, _, _, h => by cases h
  | _ :: _, [], _, _, h => by cases h
  | a :: es, b :: us, e, u, h => by
    rw [List.cons_append, List.cons_append, zE_cons, zE_cons, zE_app (by simpa using h)]
    rfl
theorem put_parE {k : NestedKey} {b : Addr} {v : V} {u : Value} (ru : RelV v u) {es : Es} {us : List Value} (r : Vals (es.map fun e => e.2.2) us) :
    ∃ us', Vals ((putE es k b v).map fun e => e.2.2) us' ∧ zE (putE es k b v) us' = storedH (zE es us) k b u := by
  have hl : us.length = es.length := by rw [← r.length, List.length_map]
  unfold putE storedH
  rw [any_zE hl]
  by_cases z : (es.any fun e => decide (e.1 = k)) = true
  · rw [if_pos z, if_pos z]
    exact over_par ru r
  · rw [if_neg z, if_neg z]
    exact ⟨us ++ [u], by rw [List.map_append]; exact r.append (.cons ru .nil), zE_app hl⟩
theorem over_keys {k : NestedKey} {v : V} {d : D} : ∀ {kvs : List (D × D)} {es : Es}, es.map (·.1) = kvs.map (fun p => nk p.1) →
    (es.map fun e => if e.1 = k then (e.1, e.2.1, v) else e).map (·.1) = (kvs.map fun p => if nk p.1 = k then (p.1, d) else p).map (fun p => nk p.1) ∧
    ((es.map fun e => if e.1 = k then (e.1, e.2.1, v) else e).map fun e => V.ref e.2.1) = es.map (fun e => V.ref e.2.1) ∧ (kvs.map fun p => if nk p.1 = k then (p.1, d) else p).map (·.1) = kvs.map (·.1)
  | [], [], _ => ⟨rfl, rfl, rfl⟩
  | [], _ :: _, h => by cases h
  | _ :: _, [], h => by cases h
  | p :: kvs, e :: es, h => by
    rw [List.map_cons, List.map_cons] at h
    injection h with hk hr
    obtain ⟨h1, h2, h3⟩ := over_keys (k := k) (v := v) (d := d) hr
    by_cases z : e.1 = k
    · have z2 : nk p.1 = k := hk ▸ z
      simp only [List.map_cons, if_pos z, if_pos z2, h1, h2, h3, hk]
      exact ⟨trivial, trivial, trivial⟩
    · have z2 : ¬ nk p.1 = k := hk ▸ z
      simp only [List.map_cons, if_neg z, if_neg z2, h1, h2, h3, hk]
      exact ⟨trivial, trivial, trivial⟩
theorem over_vals {k : NestedKey} {v : V} {d : D} (rd : Rp K H ρ d v) : ∀ {kvs : List (D × D)} {es : Es}, es.map (·.1) = kvs.map (fun p => nk p.1) → Rps K H ρ (kvs.map (·.2)) (es.map fun e => e.2.2) →
    Rps K H ρ ((kvs.map fun p => if nk p.1 = k then (p.1, d) else p).map (·.2)) ((es.map fun e => if e.1 = k then (e.1, e.2.1, v) else e).map fun e => e.2.2)
  | [], [], _, _ => rfl
  | [], _ :: _, h, _ => by cases h
  | _ :: _, [], h, _ => by cases h
  | p :: kvs, e :: es, h, r => by
    rw [List.map_cons, List.map_cons] at h
    injection h with hk hr
    obtain ⟨x, q, e1, r1, r2⟩ := r
    have e1 : e.2.2 :: es.map (fun e => e.2.2) = x :: q := e1
    injection e1 with e1 e2
    subst e1 e2
    have ih := over_vals (k := k) rd hr r2
    by_cases z : e.1 = k
    · have z2 : nk p.1 = k := hk ▸ z
      simp only [List.map_cons, if_pos z, if_pos z2]
      exact ⟨_, _, rfl, rd, ih⟩
    · have z2 : ¬ nk p.1 = k := hk ▸ z
      simp only [List.map_cons, if_neg z, if_neg z2]
      exact ⟨_, _, rfl, r1, ih⟩
end
end Dt
namespace Dt
open PySem PySem.Spec PyProof.Rows L2
section
variable {X : Cx} {T : List (Addr × Str)} {U : WX} {pos p2 p3 : Pos} {e a b c : Expr} {es : List Expr} {f f1 f2 f3 : E} {fa l : Ar}
theorem dnO_tbl {P : Program} {w : World} {a : Addr} {es : Es} : ∀ ps, dnO P w a es ≠ .tbl ps := fun _ z => by unfold dnO at z; cases z
theorem dnO_tup {P : Program} {w : World} {a : Addr} {es : Es} : ∀ xs, dnO P w a es ≠ .tup xs := fun _ z => by unfold dnO at z; cases z
theorem dnO_frz {P : Program} {w : World} {a : Addr} {es : Es} : ∀ ob u, dnO P w a es ≠ .frz ob u := fun _ _ z => by unfold dnO at z; cases z
/-- the keys are keys, in the heap -/
theorem his_par {pins : List (Addr × Obj)} {σ : L2.St} {H : Hp} {s : Shared} {ρ : List Addr} (I : Inv X pins σ H s) : ∀ {kvs : List (D × D)} {es : Es} {us : List Value}, es.map (·.1) = kvs.map (fun p => nk p.1) → Rps X.K H ρ (kvs.map (·.1)) (es.map fun e => V.ref e.2.1) → (∀ p ∈ kvs, IsKey p.1 ∧ (nk p.1).depth ≤ 8) →
    ∀ x ∈ zE es us, (nestedKind X.prog X.w).is s.heap x.1 x.2.1
  | [], [], us, _, _, _, x, hx => by cases us <;> cases hx
  | [], _ :: _, _, h, _, _, _, _ => by cases h
  | _ :: _, [], _, h, _, _, _, _ => by cases h
  | p :: kvs, e :: es, [], _, _, _, x, hx => by cases hx
  | p :: kvs, e :: es, u :: us, h, r, hk, x, hx => by
    rw [List.map_cons, List.map_cons] at h
    injection h with h1 h2
    obtain ⟨y, q, e1, r1, r2⟩ := r
    have e1 : V.ref e.2.1 :: es.map (fun e => V.ref e.2.1) = y :: q := e1
    injection e1 with e1 e2
    subst e1 e2
    rw [zE_cons] at hx
    rcases List.mem_cons.mp hx with z | z
    · subst z
      obtain ⟨k1, k2⟩ := hk p List.mem_cons_self
      have n := nested_of I p.1 _ (.ref e.2.1) k1 r1 rfl
      rw [← h1] at n k2
      exact ⟨n, k2⟩
    · exact his_par I h2 r2 (fun p hp => hk p (List.mem_cons_of_mem _ hp)) x z
theorem zE_keys : ∀ {es : Es} {us : List Value}, us.length = es.length → (zE es us).map (·.1) = es.map (·.1)
  | [], [], _ => rfl
  | [], _ :: _, h => by cases h
  | _ :: _, [], h => by cases h
  | e :: es, u :: us, h => by rw [zE_cons, List.map_cons, List.map_cons, zE_keys (by simpa using h)]
theorem zE_len {es : Es} {us : List Value} (h : us.length = es.length) : (zE es us).length = es.length := by
  have := congrArg List.length (zE_keys h)
  simpa using this
theorem dn_at {pins : List (Addr × Obj)} {σ : L2.St} {H : Hp} {s : Shared} {ρ : List Addr} {kvs : List (D × D)} {d : Addr} (I : Inv X pins σ H s) (ob : RpO (X.wd T) H ρ (.dn kvs) d) :
    ∃ (es : Es) (us : List Value), H d = some (dnO X.prog X.w d es) ∧ (d == sysModules) = false ∧ es.length ≤ 100000 ∧ (es.map (·.1)).Nodup ∧ es.map (·.1) = kvs.map (fun p => nk p.1) ∧ Rps X.K H ρ (kvs.map (·.1)) (es.map fun e => V.ref e.2.1) ∧ Rps X.K H ρ (kvs.map (·.2)) (es.map fun e => e.2.2) ∧
      (∀ p ∈ kvs, IsKey p.1 ∧ (nk p.1).depth ≤ 8) ∧ us.length = es.length ∧ Vals (es.map fun e => e.2.2) us ∧ s.heap.DictOfH (nestedKind X.prog X.w) d (zE es us) := by
  obtain ⟨es, h1, h2, h3, h4, h5, h6, h7, h8⟩ := ob
  have x : ObjOk X.prog X.w H s.heap d (dnO X.prog X.w d es) := I.hok d _ h1
  unfold dnO at x
  obtain ⟨⟨o, ens, ep, us, g1, g2, g3, g4, g5, g6⟩, _, _⟩ := x
  exact ⟨es, us, h1, h2, h3, h4, h5, h6, h7, h8, g5, g4, o, ens, ep, g1, g2, g3, g6, his_par I h5 h6 h8, by rw [zE_keys g5]; exact h4⟩
theorem obj_dn {P : Program} {w : World} {H : Hp} {h : Heap} {d : Addr} {es : Es} {us : List Value} (hl : us.length = es.length) (r : Vals (es.map fun e => e.2.2) us) (x : h.DictOfH (nestedKind P w) d (zE es us)) : ObjOk P w H h d (dnO P w d es) := by
  obtain ⟨o, ens, ep, g1, g2, g3, g4, _, _⟩ := x
  refine ⟨⟨o, ens, ep, us, g1, g2, g3, r, hl, g4⟩, ⟨o, g1⟩, fun h1 h2 ⟨o, ens, ep, us, a1, a2⟩ k => ⟨o, ens, ep, us, k _ a1, a2⟩⟩
def eDn : E := fun _ M => .ok (.loc M.length) (M ++ [.dn []])
theorem pd_dn : PE X (.Dict [] [] pos) (tE (X.wd T) U eDn) := by
  refine ⟨fun pins s σ H Q I ⟨ρ, M, δ, w, er, go⟩ => ?_⟩
  refine wpAny_Dict_empty ?_
  have hn : H s.heap.objs.size = none := I.hok.fresh (Nat.le_refl _)
  have dd : (s.heap.push { cls := .type "dict", data := .dict #[] }).DictOfH (nestedKind X.prog X.w) s.heap.objs.size (zE [] []) := Heap.DictOfH.new s.heap
  have I1 : Inv X pins σ (upd H s.heap.objs.size (dnO X.prog X.w s.heap.objs.size [])) { s with heap := s.heap.push { cls := .type "dict", data := .dict #[] } } :=
    I.laid (t' := s.toks) (fun _ _ q => Heap.get?_push_of_some _ q) (Nat.le_refl _) (obj_dn rfl .nil dd)
  have ex : Ex ρ H ρ (upd H s.heap.objs.size (dnO X.prog X.w s.heap.objs.size [])) := Ex.new hn dnO_tbl
  have w1 := w.new (o := dnO X.prog X.w s.heap.objs.size []) hn dnO_tbl
  have w2 := w1.reg (mo := .dn []) (w.fresh hn) ⟨[], upd_same, beq_eq_false_iff_ne.mpr (Ne.symm (Nat.ne_of_lt I.big)), Nat.zero_le _, List.nodup_nil, rfl, rfl, rfl, fun p hp => by cases hp⟩
  exact ⟨.ref s.heap.objs.size, _, I1, rfl, go _ (ρ ++ [s.heap.objs.size]) _ (ex.reg (Fz.of hn)) w2 ⟨_, rfl, by rw [← w.len, List.getElem?_append_right (Nat.le_refl _), Nat.sub_self]; rfl⟩⟩
def gGetN (o : D) (ds : List D) (M : Mem) : Res D := match o, ds with
  | .loc l, [k, dflt] => (match M[l]? with
    | some (.dn kvs) => if kOk k = true then .ok ((atN kvs (nk k)).getD dflt) M else .bad
    | _ => .bad)
  | _, _ => .bad
theorem kOk_ok {k : D} (h : kOk k = true) : (∃ ds, k = .tup ds) ∧ IsKey k ∧ (nk k).depth ≤ 8 := by
  cases k with
  | tup ds => exact ⟨⟨ds, rfl⟩, keyB_ok 8 _ h⟩
  | _ => cases h
/-- what is asked of a value by its data -/
def rDN (W : Wd) (g : D → List D → Mem → Res D) : V → List V → Hp → VK → Prop := fun x vs H Q => ∃ (U : WX) (σ : L2.St) (ρ : List Addr) (M : Mem) (d : D) (ds : List D), WOk W ρ M H ∧ Rp W.K H ρ d x ∧ Rps W.K H ρ ds vs ∧ Gg W U σ (relD W) ρ H (g d ds M) Q
theorem mt_getN (hu : X.A.units + 64 < cLine) : MtR X "dict.get" (rDN (X.wd T) gGetN) := by
  intro pins s σ0 H x vs v us Q I rx rv ⟨U, σ, ρ, M, d, ds, w, rd, rds, go⟩
  unfold gGetN at go
  split at go
  · rename_i l k dflt
    obtain ⟨p, rfl, hp⟩ := rd
    cases rx
    split at go
    · rename_i kvs hM
      split at go
      · rename_i hk
        obtain ⟨⟨ks, rfl⟩, k1, k2⟩ := kOk_ok hk
        obtain ⟨xk, xd, rfl, r1, r2⟩ := two_of rds
        obtain ⟨a, zs, rfl, s1, s2⟩ := r1
        obtain ⟨u1, u2, rfl, v1, v2⟩ := Vals.two rv
        cases v1
        obtain ⟨es, us, h1, h2, h3, h4, h5, h6, h7, h8, g5, g4, dd⟩ := dn_at I (w.obj l _ p hM hp)
        have hkey : (nestedKind X.prog X.w).is s.heap (nk (.tup ks)) a := ⟨nested_of I (.tup ks) (.ref a) (.ref a) k1 ⟨a, zs, rfl, s1, s2⟩ rfl, k2⟩
        refine getOr_keyed (x := u2) (knd := nestedKind X.prog X.w) (show X.A.units + 1 + 8 < cLine by omega) hkey h2 ⟨_, dd, rfl⟩ ?_
        rw [valueAt_pairsH]
        have I1 : Inv X pins σ0 H { s with toks := s.toks + (nestedKind X.prog X.w).draws (nk (.tup ks)) } := I.tok _
        rcases at_par (k := nk (.tup ks)) h5 h7 g4 with ⟨q1, q2⟩ | ⟨d, v, b, u, q1, q2, q3, q4⟩
        · rw [q1] at go
          rw [q2]
          exact ⟨xd, H, I1, v2, Gg.ret w r2 go⟩
        · rw [q1] at go
          rw [q2]
          exact ⟨v, H, I1, q4, Gg.ret w q3 go⟩
      · exact go.elim
    · exact go.elim
  · exact go.elim
/-- o.name(e, ..), o in the store, a dict with tuples as keys -/
def eMN (g : D → List D → Mem → Res D) (o : E) (a : Ar) : E := fun δ M => (o δ M).bind fun d M => match d with
  | .loc l => (match M[l]? with
    | some (.dn _) => (a δ M).bind fun as M => g d as M
    | _ => .bad)
  | _ => .bad
theorem pd_mN {o : Expr} {name : Str} {apos cpos : Pos} {id : String} {g : D → List D → Mem → Res D} (slot : Slot "dict" name id) (hty : typeOf (.builtin id) = pure (.type "method_descriptor")) (hm : MtR X id (rDN (X.wd T) g)) (ho : PE X o (tE (X.wd T) U f)) (ha : PA X (e :: es) (tA (X.wd T) U fa))
    (hbase : attributeBase o name X.env (eval o X.env) = eval o X.env := by rfl)
    (hfew : ((backTo cpos (starEach (e :: es) X.env)).all (fun x => !x.1) && (backToKw cpos (keywordEach [] X.env)).all (fun x => x.1.isSome)
      && decide ((e :: es).length + ([] : List Keyword).length + (if ([] : List Keyword).isEmpty then 0 else 1) < 30)) = true := by rfl)
    (hline : (apos.endLine == cpos.line) = true := by rfl) (hs : starEach (e :: es) X.env = (false, eval e X.env) :: starEach es X.env := by rfl) (hplain : (backTo cpos (starEach es X.env)).any (·.1) = false := by rfl) :
    PE X (.Call (.Attribute o name apos) (e :: es) [] cpos) (tE (X.wd T) U (eMN g f fa)) := by
  refine ⟨fun pins s σ H Q I ⟨ρ, M, δ, w, er, go⟩ => ?_⟩
  refine wpAny_Call_method_late hbase hfew hline rfl (thn (ho.run pins s σ H _ I ⟨ρ, M, δ, w, er, Gg.bind (rel := relD (X.wd T)) go⟩) fun v s1 ⟨x, H1, I1, rx, ρ1, M1, d, _, e1, w1, r1, go1⟩ => ?_)
  cases d with
  | loc l =>
    obtain ⟨p, rfl, hp⟩ := r1
    cases rx
    cases q : M1[l]? with
    | none => simp only [q] at go1; exact go1.elim
    | some o1 =>
      cases o1 with
      | dn kvs =>
        simp only [q] at go1
        obtain ⟨es', us', h1, h2, h3, h4, h5, h6, h7, h8, g5, g4, dd⟩ := dn_at I1 (w1.obj l _ p q hp)
        have hno : ∃ ob, s1.heap.get? p = some ob ∧ ob.dict = none := by obtain ⟨o, _, _, z, z2, _⟩ := dd; exact ⟨o, z, z2.2.1⟩
        refine ⟨"dict", id, PySem.F.plainAttrs_dict, slot, hty, dd.typeIs, fun a ea => by cases ea; exact hno, ?_⟩
        have hA := ha.run cpos pins s1 σ H1 _ I1 ⟨ρ1, M1, δ, w1, er.mono e1, Gg.bind (rel := relA (X.wd T)) go1⟩
        rw [hs] at hA ⊢
        refine Calls.callWith_builtin (by show (false || (backTo cpos (starEach es X.env)).any (·.1)) = false; rw [hplain] <;> rfl) (Calls.evalArgs_plain ?_)
        refine thn hA fun us s2 ⟨vs, H2, I2, r2, ρ2, M2, as, _, e2, w2, ra, go2⟩ => ?_
        exact hm pins s2 σ H2 (.ref p) vs (.ref p) us Q I2 rfl r2 ⟨U, σ, ρ2, M2, .loc l, as, w2, ⟨p, rfl, e2.at_ hp⟩, ra, go2⟩
      | _ => simp only [q] at go1; exact go1.elim
  | _ => exact go1.elim
theorem pd_getN {o : Expr} {apos cpos : Pos} (hu : X.A.units + 64 < cLine) (ho : PE X o (tE (X.wd T) U f)) (ha : PA X (e :: es) (tA (X.wd T) U fa))
    (hbase : attributeBase o "get" X.env (eval o X.env) = eval o X.env := by rfl)
    (hfew : ((backTo cpos (starEach (e :: es) X.env)).all (fun x => !x.1) && (backToKw cpos (keywordEach [] X.env)).all (fun x => x.1.isSome)
      && decide ((e :: es).length + ([] : List Keyword).length + (if ([] : List Keyword).isEmpty then 0 else 1) < 30)) = true := by rfl)
    (hline : (apos.endLine == cpos.line) = true := by rfl) (hs : starEach (e :: es) X.env = (false, eval e X.env) :: starEach es X.env := by rfl) (hplain : (backTo cpos (starEach es X.env)).any (·.1) = false := by rfl) :
    PE X (.Call (.Attribute o "get" apos) (e :: es) [] cpos) (tE (X.wd T) U (eMN gGetN f fa)) := pd_mN PySem.F.slot_dict_get PySem.F.type_dict_get (mt_getN hu) ho ha hbase hfew hline hs hplain
def mPutN (d k v : D) (M : Mem) : Option Mem := match d with
  | .loc l => (match M[l]? with
    | some (.dn kvs) => if kOk k = true ∧ kvs.length < cap then some (M.set l (.dn (putN kvs k v))) else none
    | _ => none)
  | _ => none
/-- by values: the store at d, k, v -/
def rPutN (W : Wd) : TSet := fun o i v H Q => ∃ (ρ : List Addr) (M M' : Mem) (dd dk dv : D), WOk W ρ M H ∧ Rp W.K H ρ dd o ∧ Rp W.K H ρ dk i ∧ Rp W.K H ρ dv v ∧ mPutN dd dk dv M = some M' ∧ ∀ H', Ex ρ H ρ H' → WOk W ρ M' H' → Q H'
theorem set_dn (hu : X.A.units + 64 < cLine) : PSet X (rPutN (X.wd T)) := by
  intro pins s σ H o i v ov iv u Q I ro ri rv ⟨ρ, M, M', dd, dk, dv, w, rd, rk, rdv, em, go⟩
  unfold mPutN at em
  split at em
  · rename_i l
    obtain ⟨p, rfl, hp⟩ := rd
    cases ro
    split at em
    · rename_i kvs hM
      split at em
      · rename_i hc
        cases em
        obtain ⟨⟨ks, rfl⟩, k1, k2⟩ := kOk_ok hc.1
        have rk0 : Rp (X.wd T).K H ρ (.tup ks) i := rk
        obtain ⟨a, zs, rfl, s1, s2⟩ := rk
        cases ri
        obtain ⟨es, us, h1, h2, h3, h4, h5, h6, h7, h8, g5, g4, dd⟩ := dn_at I (w.obj l _ p hM hp)
        have hkey : (nestedKind X.prog X.w).is s.heap (nk (.tup ks)) a := ⟨nested_of I (.tup ks) (.ref a) (.ref a) k1 rk0 rfl, k2⟩
        have hlk : es.length = kvs.length := by have := congrArg List.length h5; simpa using this
        have hcap : es.length < 100000 := by rw [hlk]; exact hc.2
        refine wpAny_setItem_heap (knd := nestedKind X.prog X.w) (hsz := by rw [zE_len g5, sizeLine_eq]; omega) (show X.A.units + 1 + 8 < cLine by omega) hkey dd fun h' dd' hs => ?_
        obtain ⟨us', r', z'⟩ := put_parE (k := nk (.tup ks)) (b := a) rv g4
        rw [← z'] at dd'
        have lp : us'.length = (putE es (nk (.tup ks)) a v).length := by rw [← r'.length, List.length_map]
        have he : ∃ q, h'.get? p = some q := let ⟨q, _, _, hq, _⟩ := dd'; ⟨q, hq⟩
        have mu : Mut (H p) := by rw [h1]; unfold dnO; exact True.intro
        have I1 : Inv X pins σ (upd H p (dnO X.prog X.w p (putE es (nk (.tup ks)) a v))) { s with heap := h', toks := s.toks + (nestedKind X.prog X.w).draws (nk (.tup ks)) } := d_write I mu hs he (obj_dn lp r' dd')
        have ex : Ex ρ H ρ (upd H p (dnO X.prog X.w p (putE es (nk (.tup ks)) a v))) := Ex.write hp h1 dnO_tup dnO_frz dnO_tbl dnO_tbl
        have nd' : ((putE es (nk (.tup ks)) a v).map (·.1)).Nodup := by
          obtain ⟨_, _, _, _, _, _, _, _, z⟩ := dd'
          rw [zE_keys lp] at z
          exact z
        have key : (putE es (nk (.tup ks)) a v).map (·.1) = (putN kvs (.tup ks) dv).map (fun p => nk p.1) ∧ Rps X.K H ρ ((putN kvs (.tup ks) dv).map (·.1)) ((putE es (nk (.tup ks)) a v).map fun e => V.ref e.2.1) ∧
            Rps X.K H ρ ((putN kvs (.tup ks) dv).map (·.2)) ((putE es (nk (.tup ks)) a v).map fun e => e.2.2) ∧ ∀ p ∈ putN kvs (.tup ks) dv, IsKey p.1 ∧ (nk p.1).depth ≤ 8 := by
          unfold putE putN
          rw [any_at (k := nk (.tup ks)) h5]
          by_cases z : (atN kvs (nk (.tup ks))).isSome = true
          · rw [if_pos z, if_pos z]
            obtain ⟨o1, o2, o3⟩ := over_keys (k := nk (.tup ks)) (v := v) (d := dv) h5
            refine ⟨o1, by rw [o2, o3]; exact h6, over_vals rdv h5 h7, fun q hq => ?_⟩
            obtain ⟨q0, m1, m2⟩ := List.mem_map.mp hq
            by_cases y : nk q0.1 = nk (.tup ks)
            · rw [if_pos y] at m2
              rw [← m2]
              exact h8 q0 m1
            · rw [if_neg y] at m2
              rw [← m2]
              exact h8 q0 m1
          · rw [if_neg z, if_neg z]
            refine ⟨by rw [List.map_append, List.map_append, h5]; rfl, ?_, ?_, fun q hq => ?_⟩
            · rw [List.map_append, List.map_append]
              exact h6.append ⟨_, [], rfl, rk0, rfl⟩
            · rw [List.map_append, List.map_append]
              exact h7.append ⟨_, [], rfl, rdv, rfl⟩
            · rcases List.mem_append.mp hq with m | m
              · exact h8 q m
              · rw [List.mem_singleton.mp m]
                exact ⟨k1, k2⟩
        obtain ⟨y1, y2, y3, y4⟩ := key
        refine ⟨_, I1, go _ ex (w.writeX hp h1 dnO_tup dnO_frz dnO_tbl (fun q z => ?_) ⟨putE es (nk (.tup ks)) a v, upd_same, h2, ?_, nd', y1, y2.mono ex, y3.mono ex, y4⟩ dnO_tbl)⟩
        · have x : ObjOk X.prog X.w H s.heap p (LamX.CodeO p q) := by
            rw [← show dnO X.prog X.w p es = LamX.CodeO p q from z]
            exact I.hok p _ h1
          unfold LamX.CodeO at x
          obtain ⟨⟨oc, vs, t, e1, e2, _⟩, _⟩ := x
          obtain ⟨o, _, _, f1, _, f3, _⟩ := dd
          rw [f1] at e1
          cases e1
          rw [f3] at e2
          cases e2
        · unfold putE
          split
          · rw [List.length_map]; omega
          · rw [List.length_append]; show es.length + 1 ≤ 100000; omega
      · cases em
    · cases em
  · cases em
def sPutN (o k v : E) : S := fun δ M => (v δ M).st δ fun y M => (o δ M).st δ fun d M => (k δ M).st δ fun q M => match mPutN d q y M with
  | some M' => .nx δ M'
  | none => .bad
theorem s_putN {o k v : Expr} (hu : X.A.units + 64 < cLine) (ho : PE X o (tE (X.wd T) U f1)) (hk : PE X k (tE (X.wd T) U f2)) (hv : PE X v (tE (X.wd T) U f3))
    (ha : ∀ v, assign (.Subscript o k p3) X.env v = (do
      let ov ← holding [v] (eval o X.env)
      let iv ← holding [v, ov] (eval k X.env)
      standAt p3
      holding [v, ov, iv] (setItem ov iv v)
      release [v, ov, iv] []) := by intro _; rfl)
    (hs : swapsWithSole [.Subscript o k p3] v pos.line X.env = pure false := by rfl) (hw : swappedStores [.Subscript o k p3] v X.env = pure none := by rfl)
    (h1 : (assignEach [.Subscript o k p3] X.env).map (·.2) = [assign (.Subscript o k p3) X.env] := by rfl) : PS X (.Assign [.Subscript o k p3] v pos) (tS (X.wd T) U (sPutN f1 f2 f3)) := by
  refine PS.imp (ps_asg hv (pg_sub ho hk (set_dn (T := T) hu) ha) hs hw h1) fun D σ H ⟨ρ, M, δ, w, er, h⟩ => ⟨ρ, M, δ, w, er, Ss.of (rel := relD (X.wd T)) er h fun y M1 yv ρ1 H1 _ e1 w1 r1 er1 h1 => ?_⟩
  refine ⟨ρ1, M1, δ, w1, er1, Ss.of (rel := relD (X.wd T)) er1 h1 fun d M2 x ρ2 H2 _ e2 w2 r2 er2 h2 => ?_⟩
  refine ⟨ρ2, M2, δ, w2, er2, Ss.of (rel := relD (X.wd T)) er2 h2 fun q M3 z ρ3 H3 _ e3 w3 r3 er3 h3 => ?_⟩
  cases em : mPutN d q y M3 with
  | none => rw [em] at h3; exact h3.elim
  | some M' =>
    rw [em] at h3
    exact ⟨ρ3, M3, M', d, q, y, w3, r2.mono e3, r3, (r1.mono e2).mono e3, em, fun H' ex w' => h3 σ ρ3 H' ex w' (er3.mono ex)⟩
def pairsD : List D → Option (List (D × D))
  | [] => some []
  | .tup [k, v] :: r => (pairsD r).map ((k, v) :: ·)
  | _ => none
def dDictOf (d : D) (M : Mem) : Res D := match d with
  | .pt ds => (match pairsD ds with
    | some kvs => if kvs.all (fun p => kOk p.1) = true ∧ (kvs.map fun p => nk p.1).Nodup ∧ kvs.length ≤ cap then .ok (.loc M.length) (M ++ [.dn kvs]) else .bad
    | none => .bad)
  | _ => .bad
end
end Dt
namespace Dt
open PySem PySem.Spec PyProof.Rows L2
theorem pairsD_cons {d : D} {ds : List D} {kvs : List (D × D)} (h : pairsD (d :: ds) = some kvs) : ∃ k v r, d = .tup [k, v] ∧ pairsD ds = some r ∧ kvs = (k, v) :: r := by
  unfold pairsD at h
  split at h
  · rename_i heq; cases heq
  · rename_i k v r heq
    injection heq with e1 e2
    subst e1 e2
    obtain ⟨q, h1, h2⟩ := Option.map_eq_some_iff.mp h
    exact ⟨k, v, q, rfl, h1, h2.symm⟩
  · cases h
theorem pairs_heap {X : Cx} {pins : List (Addr × Obj)} {σ : L2.St} {H : Hp} {s : Shared} {ρ : List Addr} (I : Inv X pins σ H s) : ∀ {ds : List D} {kvs : List (D × D)} {xs : List V} {its : List Value}, pairsD ds = some kvs → Rps X.K H ρ ds xs → Vals xs its → (∀ p ∈ kvs, kOk p.1 = true) →
    ∃ (ts : List Addr) (es : Es) (us : List Value), its = ts.map Value.ref ∧ es.map (·.1) = kvs.map (fun p => nk p.1) ∧ Rps X.K H ρ (kvs.map (·.1)) (es.map fun e => V.ref e.2.1) ∧ Rps X.K H ρ (kvs.map (·.2)) (es.map fun e => e.2.2) ∧ Vals (es.map fun e => e.2.2) us ∧ us.length = es.length ∧ ts.length = es.length ∧
      ∀ (j : Nat) (k : NestedKey) (b : Addr) (u : Value), (zE es us)[j]? = some (k, b, u) → ∃ t : Addr, ts[j]? = some t ∧ s.heap.IsTuple t #[.ref b, u]
  | [], kvs, xs, its, h, r, v, _ => by
    cases h; cases r; cases v
    exact ⟨[], [], [], rfl, rfl, rfl, rfl, .nil, rfl, rfl, fun j k b u h => by simp [zE] at h⟩
  | d :: ds, kvs, xs, its, h, r, v, hk => by
    obtain ⟨kd, vd, q, rfl, h1, rfl⟩ := pairsD_cons h
    obtain ⟨x, xs', rfl, r1, r2⟩ := r
    cases v with
    | @cons _ it _ its' v1 v2 =>
      obtain ⟨t, zs, rfl, s1, s2⟩ := r1
      cases v1
      obtain ⟨xk, xv, rfl, rk, rv⟩ := two_of s2
      obtain ⟨⟨ks, rfl⟩, _, _⟩ := kOk_ok (hk _ List.mem_cons_self)
      have rk0 := rk
      obtain ⟨b, ws, rfl, _, _⟩ := rk
      obtain ⟨tits, tv, tp, _⟩ := I.tuple s1
      obtain ⟨u1, u2, rfl, w1, w2⟩ := Vals.two tv
      cases w1
      obtain ⟨ts, es, us, g1, g2, g3, g4, g5, g6, g7, g8⟩ := pairs_heap I h1 r2 v2 (fun p hp => hk p (List.mem_cons_of_mem _ hp))
      refine ⟨t :: ts, (nk (.tup ks), b, xv) :: es, u2 :: us, by rw [g1]; rfl, by rw [List.map_cons, List.map_cons, g2], ⟨_, _, rfl, rk0, g3⟩, ⟨_, _, rfl, rv, g4⟩, .cons w2 g5, by rw [List.length_cons, List.length_cons, g6], by rw [List.length_cons, List.length_cons, g7], fun j k b' u h => ?_⟩
      rw [zE_cons] at h
      cases j with
      | zero =>
        simp at h
        obtain ⟨_, e2, e3⟩ := h
        subst e2 e3
        exact ⟨t, rfl, tp⟩
      | succ j => exact g8 j k b' u (by simpa using h)
theorem stored_apart : ∀ (ps xs : List (NestedKey × Addr × Value)), ((xs ++ ps).map (·.1)).Nodup → storedAllH xs ps = xs ++ ps
  | [], xs, _ => by rw [List.append_nil]; rfl
  | p :: ps, xs, h => by
    have hn : atKey xs p.1 = none := by
      refine atKey_none_of_get fun j q hj => ?_
      rw [List.map_append, List.map_cons, List.nodup_append] at h
      exact h.2.2 p.1 (List.mem_map.mpr ⟨_, List.mem_of_getElem? hj, rfl⟩) p.1 List.mem_cons_self rfl
    show storedAllH (storedH xs p.1 p.2.1 p.2.2) ps = _
    rw [storedH_new hn, stored_apart ps _ (by simpa using h)]
    simp
section
variable {X : Cx} {T : List (Addr × Str)} {U : WX} {pos p2 p3 : Pos} {e a b c : Expr} {es : List Expr} {f f1 f2 f3 : E} {fa l : Ar}
theorem okn_dictOf (hc : X.calm = true) (hu : X.A.units + 64 < cLine) : CallR X (.type "dict") (fun vs H Q => ∃ (U : WX) (σ : L2.St) (ρ : List Addr) (M : Mem) (d : D) (x : V), vs = [x] ∧ WOk (X.wd T) ρ M H ∧ Rp X.K H ρ d x ∧ Gg (X.wd T) U σ (relD (X.wd T)) ρ H (dDictOf d M) Q) := by
  intro pins s σ0 H vs us0 Q I rv ⟨U, σ, ρ, M, d, x, ev, w, rd, go⟩
  subst ev
  obtain ⟨u0, rfl, rx⟩ := vals1 rv
  unfold dDictOf at go
  split at go
  · rename_i ds
    split at go
    · rename_i kvs hp
      split at go
      · rename_i hcond
        obtain ⟨hk, hnd, hlen⟩ := hcond
        obtain ⟨a, xs, rfl, ⟨o, od, ho⟩, hr⟩ := rd
        cases rx
        obtain ⟨g0, zl, its, vi, pT⟩ : s.heap.get? a = some o ∧ (xs.length ≤ sizeLine ∧ ∃ its : List Value, Vals xs its ∧ IsTup s.heap a its.toArray) := I.hok a _ ho
        obtain ⟨ts, es, us, e1, e2, e3, e4, e5, e6, e7, e8⟩ := pairs_heap I hp hr vi (fun p hp => List.all_eq_true.mp hk p hp)
        have hk8 : ∀ p ∈ kvs, IsKey p.1 ∧ (nk p.1).depth ≤ 8 := fun p hp => (kOk_ok (List.all_eq_true.mp hk p hp)).2
        have his := his_par I (us := us) e2 e3 hk8
        have zl2 : (zE es us).length = es.length := zE_len e6
        have hle : es.length = kvs.length := by have := congrArg List.length e2; simpa using this
        have psl : ((zE es us).map fun x => (Value.ref x.2.1, x.2.2)).length = (zE es us).length := List.length_map _
        have ok : PlainSeq "tuple" s.heap a its.toArray ∧ PairItems s.heap its.toArray (fun j => ts.getD j 0) ((zE es us).map fun x => (Value.ref x.2.1, x.2.2)) := by
          obtain ⟨o', ho', hc', n, hd'⟩ := pT
          rw [g0] at ho'
          cases ho'
          refine ⟨⟨o, n, g0, hc', od, hd'⟩, ?_, fun j k v hj => ?_⟩
          · rw [psl, zl2, ← e7, e1, List.size_toArray, List.length_map]
          · rw [List.getElem?_map] at hj
            obtain ⟨⟨k0, b0, u0⟩, h1, h2⟩ := Option.map_eq_some_iff.mp hj
            injection h2 with h3 h4
            obtain ⟨t, ht, hi⟩ := e8 j k0 b0 u0 h1
            subst h3 h4
            have eg : ts.getD j 0 = t := by rw [List.getD_eq_getElem?_getD, ht]; rfl
            refine ⟨?_, .inl (by show s.heap.IsTuple (ts.getD j 0) _; rw [eg]; exact hi)⟩
            show its.toArray[j]? = some (Value.ref (ts.getD j 0))
            rw [e1, eg]
            simp [ht]
        refine call_dict_pairsH (knd := nestedKind X.prog X.w) (ps := zE es us) (PairArg.tuple a its.toArray (fun j => ts.getD j 0) ((zE es us).map fun x => (Value.ref x.2.1, x.2.2))) (I.ok.hd hc) (show X.A.units + 1 + 1 + 8 < cLine by omega) ok
          ⟨psl.symm, fun i key v hrel => ?_⟩ (fun h' hk' x hx => ?_) (by rw [psl, zl2, hle, sizeLine_eq]; exact Nat.le_trans hlen (by decide)) fun h' tk dd hkeep => ?_
        · have hrel : ((zE es us).map fun x => (Value.ref x.2.1, x.2.2))[i]? = some (key, v) := hrel
          rw [List.getElem?_map] at hrel
          obtain ⟨⟨k0, b0, u0⟩, h1, h2⟩ := Option.map_eq_some_iff.mp hrel
          injection h2 with h3 h4
          subst h3 h4
          exact ⟨k0, b0, h1, rfl⟩
        · refine nestedKind_stays.stays (fun b o vs n hb hd => ?_) (his x hx)
          exact hk' b o (Nat.ne_of_lt (Heap.lt_size hb)) (by simp) hb
        · rw [stored_apart (zE es us) [] (by rw [List.nil_append, zE_keys e6, e2]; exact hnd), List.nil_append] at dd
          have hn : H s.heap.objs.size = none := I.hok.fresh (Nat.le_refl _)
          have I1 : Inv X pins σ0 (upd H s.heap.objs.size (dnO X.prog X.w s.heap.objs.size es)) { s with heap := h', toks := tk } :=
            I.laid (fun b u q => hkeep b u (by simp) q) (Nat.le_refl _) (obj_dn e6 e5 dd)
          have ex : Ex ρ H ρ (upd H s.heap.objs.size (dnO X.prog X.w s.heap.objs.size es)) := Ex.new hn dnO_tbl
          have w1 := w.new (o := dnO X.prog X.w s.heap.objs.size es) hn dnO_tbl
          have w2 := w1.reg (mo := .dn kvs) (w.fresh hn) ⟨es, upd_same, beq_eq_false_iff_ne.mpr (Ne.symm (Nat.ne_of_lt I.big)), by rw [hle]; exact hlen, by rw [e2]; exact hnd, e2, Rps.moM Mo.app _ _ (e3.mono ex), Rps.moM Mo.app _ _ (e4.mono ex), hk8⟩
          exact ⟨.ref s.heap.objs.size, _, I1, rfl, go _ (ρ ++ [s.heap.objs.size]) _ (ex.reg (Fz.of hn)) w2 ⟨_, rfl, by rw [← w.len, List.getElem?_append_right (Nat.le_refl _), Nat.sub_self]; rfl⟩⟩
      · exact go.elim
    · exact go.elim
  · exact go.elim
theorem pd_dictOf {p : Pos} (hc : X.calm = true) (hu : X.A.units + 64 < cLine) (hm : X.mg "dict" = none) (ha : PE X e (tE (X.wd T) U f)) (hgl : Gl X "dict" := by rfl) (hst : starEach [e] X.env = (false, eval e X.env) :: starEach [] X.env := by rfl) :
    PE X (.Call (.Name "dict" p) [e] [] pos) (tE (X.wd T) U (eU dDictOf f)) := by
  refine PE.imp (pe_callTy (okn_dictOf (T := T) hc hu) hgl hm (by decide +kernel) (pa_cons ha pa_nil hst) (by decide) (by decide) hst (by rfl)) fun σ H Q ⟨ρ, M, δ, w, er, go⟩ => ⟨ρ, M, δ, w, er, (Gg.bind (rel := relD (X.wd T)) go).imp fun x H1 ⟨ρ1, M1, d, _, e1, w1, r1, go1⟩ => ?_⟩
  exact ⟨U, σ, ρ1, M1, d, x, rfl, w1, r1, go1⟩
def ePt0 : E := fun _ M => .ok (.pt []) M
theorem pd_pt0 {k : Nat} : PE X (.Tuple [] k pos) (tE (X.wd T) U ePt0) := by
  refine ⟨fun pins s σ H Q I ⟨ρ, M, δ, w, er, go⟩ => ?_⟩
  refine wpAny_Tuple_spliced (Calls.spliced_nil ⟨by decide, ?_⟩)
  have hn : H s.heap.objs.size = none := I.hok.fresh (Nat.le_refl _)
  have hg : (s.heap.push { cls := .type "tuple", data := .seq #[] }).get? s.heap.objs.size = some { cls := .type "tuple", data := .seq #[] } := Heap.get?_push_size _ rfl
  have I1 : Inv X pins σ (upd H s.heap.objs.size (.frz { cls := .type "tuple", data := .seq #[] } (.tup []))) { s with heap := s.heap.push { cls := .type "tuple", data := .seq #[] } } :=
    I.laid (t' := s.toks) (fun _ _ q => Heap.get?_push_of_some _ q) (Nat.le_refl _) ⟨hg, Nat.zero_le _, [], .nil, ⟨_, hg, rfl, _, rfl⟩⟩
  refine ⟨.ref s.heap.objs.size, _, I1, rfl, go _ ρ _ (Ex.new hn) (w.new hn) ⟨_, [], rfl, ⟨_, rfl, upd_same⟩, rfl⟩⟩
end
end Dt
namespace Dt
open PySem PySem.Spec PyProof.Rows L2
section
variable {prog : Program} {w : World} {A : Around} {E : Value → Shared → Prop} {s : Shared}
/-- a call of a lambda x: x[0] at a pair -/
theorem lam_key {f t c' : Addr} {q nm : Str} {params : Arguments} {scope : Scope} {cl : List (Str × Addr)} {pm ctv kv vv : Value} {p1 p2 p3 : Pos} {j : Nat} {k : PyData}
    (hroom : A.depth < recursionLimit) (hf : s.heap.get? f = some (PySem.W.kla_obj "<lambda>" q params (.Subscript (.Name nm p1) (.Constant (.int 0) j p2) p3) scope cl pm c' ctv)) (hcd : s.heap.CodeRec (.ref c') q) (hlim : s.heap.NoLimit)
    (hbind : ∀ v, bindArgs (PySem.W.kla_fn "<lambda>" q params (.Subscript (.Name nm p1) (.Constant (.int 0) j p2) p3) scope cl pm (.ref c') ctv) ⟨[v], []⟩ = pure [(nm, v)])
    (hco : scope.isCoroutine = false) (hgen : scope.isGenerator = false) (hkind : scope.kind = .function) (hcell : ∀ x ∈ scope.names, x.2 ≠ .cell) (hloc : scope.names.lookup nm = some .local) (hnm : (nm == ("__debug__" : Str)) = false)
    (ht : s.heap.get? t = some { cls := .type "tuple", data := .seq #[kv, vv] }) (hr : ∀ h', (∀ b o, s.heap.get? b = some o → h'.get? b = some o) → Reads h' kv k []) :
    wpAny (model prog w) A (call (.ref f) [.ref t]) (PySem.W.KeyPure k s) (fun _ _ => False) s := by
  refine wpAny_call (PySem.W.kla_callFunE hroom hf rfl hco hgen rfl hcd ?_)
  rw [hbind]
  refine wpAny_pure (wpAny_newFunctionEnv hcell (fun x hx => ?_) (fun h₁ hns hsb => ⟨hlim.fresh _ hsb, ?_⟩) hkind)
  · rw [List.mem_singleton.mp hx]; exact hloc
  · have kp : ∀ b o, s.heap.get? b = some o → h₁.get? b = some o := fun b o e => hsb.extBut b o (Nat.ne_of_lt (Heap.lt_size e)) (Heap.get?_push_of_some _ e)
    refine PySem.W.kla_codeExpr ?_
    refine Subscript_Constant (wpAny_Name (wpAny_loadName_local (m := fun x => ([(nm, Value.ref t)] : List (Str × Value)).reverse.lookup x) (v := .ref t) hkind hloc hns (by simp [List.lookup]) (wpAny_Constant_int ?_)) hnm)
    have hT : IsTup h₁ t #[kv, vv] := ⟨_, kp _ _ ht, rfl, _, rfl⟩
    refine ⟨"tuple", _, PyProof.Rows.slot_tuple_getitem.lookup, ⟨_, kp _ _ ht, rfl⟩, PyProof.Rows.getItem_tuple (items := #[kv, vv]) (j := 0) hT (by decide) (by decide) (by rfl) (by rfl) ?_⟩
    exact ⟨_, _, rfl, kp, hr _ kp⟩
/-- sorted(view, key=f) of a dict's items -/
theorem sorted_itemsK {β : Type} {r d f : Addr} {es : Array DictEntry} {ep : Nat} {bs : List β} {k : β → PyData} {Q : Value → Shared → Prop} (hh : A.handled = none) (hv : s.heap.IsItemsView r d) (hm : DT.Raw s.heap d es ep) (hn : es.size ≤ sizeLine) (hL : bs.length = es.size)
    (hal : PySem.W.AllAlike (bs.map k)) (hk : PySem.W.Sortable (bs.map k)) (hu : ∀ x, x ∈ bs → A.units + 2 + (k x).depth < cLine)
    (turn : ∀ (j : Nat) (e : DictEntry) (t : Addr) (x : β), bs[j]? = some x → es[j]? = some e → ∀ (h : Heap) (tk : Nat), (∀ b o, s.heap.get? b = some o → h.get? b = some o) → h.get? t = some { cls := .type "tuple", data := .seq #[e.key, e.val] } →
      wpAny (model prog w) A.in1.in1 (call (.ref f) [.ref t]) (PySem.W.KeyPure (k x) { s with heap := h, toks := tk }) (fun _ _ => False) { s with heap := h, toks := tk })
    (h : ∀ (h' : Heap) (tk : Nat) (a : Addr) (as ts : List Addr) (c : Nat), (∀ b o, s.heap.get? b = some o → h'.get? b = some o) → s.heap.objs.size ≤ a → as.Nodup → as.length = es.size → (∀ t ∈ as, s.heap.objs.size ≤ t ∧ t ≠ a) →
      (∀ (j : Nat) (t : Addr), as[j]? = some t → ∃ e, es[j]? = some e ∧ h'.get? t = some { cls := .type "tuple", data := .seq #[e.key, e.val] }) → h'.get? a = some { cls := .type "list", data := .seq (ts.map Value.ref).toArray c } →
      PySem.W.EachIs (fun t x => ∃ (j : Nat), as[j]? = some t ∧ bs[j]? = some x) ts (bs.mergeSort (PySem.W.dataLe false k)) → Q (.ref a) { s with heap := h', toks := tk }) :
    wpAny (model prog w) A (call (.builtin "sorted") [.ref r] [(Str.ofString "key", .ref f)]) Q E s := by
  refine PyProof.Rows.call_function_entry_kw PyProof.Rows.kind_sorted PyProof.Rows.plain_sorted PyProof.Rows.entry_sorted (PyProof.Rows.ksk_s1 _ _) ?_
  unfold Builtin.«sorted»
  refine wpAny_bind (m := checkCount "sorted" 1 1 _) (wpAny_pure ?_)
  refine wpAny_bind (DT.collectI (A := A.in1) hh hv hm hn fun h1 tk as hk1 hlt hl hG => ?_)
  refine wpAny_bind (wpAny_newList ?_ (by rw [List.length_map, hl]; exact hn))
  have up : ∀ {g : Heap}, PySem.W.KeepsBut h1.objs.size (h1.push { cls := .type "list", data := .seq (as.map Value.ref).toArray }) g → ∀ b o, h1.get? b = some o → g.get? b = some o := fun {g} kp b o q => kp b o (Nat.ne_of_lt (Heap.lt_size q)) (Heap.get?_push_of_some _ q)
  have eR : PySem.W.EachIs (fun (v : Value) (x : β) => ∃ (j : Nat) (t : Addr), as[j]? = some t ∧ v = .ref t ∧ bs[j]? = some x) (as.map Value.ref) bs := by
    have gen : ∀ (n : Nat) (as' : List Addr) (bs' : List β), as'.length = bs'.length → (∀ j : Nat, as'[j]? = as[n + j]?) → (∀ j : Nat, bs'[j]? = bs[n + j]?) → PySem.W.EachIs (fun (v : Value) (x : β) => ∃ (j : Nat) (t : Addr), as[j]? = some t ∧ v = .ref t ∧ bs[j]? = some x) (as'.map Value.ref) bs' := by
      intro n as'
      induction as' generalizing n with
      | nil => intro bs' hlen _ _; cases bs' with
        | nil => exact .nil
        | cons _ _ => cases hlen
      | cons a as' ih => intro bs' hlen h2 h3; cases bs' with
        | nil => cases hlen
        | cons b bs' =>
          refine .cons ⟨n, a, ?_, rfl, ?_⟩ (ih (n + 1) bs' (by simpa using hlen) (fun j => ?_) fun j => ?_)
          · have := h2 0; simpa using this.symm
          · have := h3 0; simpa using this.symm
          · have := h2 (j + 1); rw [show n + 1 + j = n + (j + 1) by omega, ← this]; rfl
          · have := h3 (j + 1); rw [show n + 1 + j = n + (j + 1) by omega, ← this]; rfl
    exact gen 0 as bs (by rw [hl, hL]) (fun j => by rw [Nat.zero_add]) fun j => by rw [Nat.zero_add]
  refine wpAny_bind (wpAny_holding (PySem.W.list_sort_key_data (A := A.in1) (R := fun (v : Value) (x : β) => ∃ (j : Nat) (t : Addr), as[j]? = some t ∧ v = .ref t ∧ bs[j]? = some x) (vs := as.map Value.ref) (bs := bs) (n := 0) k (b := false) (Heap.get?_push_size _ rfl) eR hal hk
    (by rw [hL]; exact hn) (fun x hx => by have := hu x hx; show A.units + 1 + 1 + _ < _; omega) (PyProof.Rows.ksk_l1 _ _) (PyProof.Rows.ksk_t1 _ _) (fun v x ⟨j, t, q1, q2, q3⟩ hx g tk2 kp => ?_) fun out c h2 tk2 kp hD hlen eo => ?_))
  · subst q2
    obtain ⟨e, e1, e2⟩ := hG.pairs j t q1
    exact turn j e t x q3 e1 g tk2 (fun b o q => up kp b o (hk1 b o q)) (up kp _ _ e2)
  · have key : ∀ (o : List Value) (l : List β), PySem.W.EachIs (fun (v : Value) (x : β) => ∃ (j : Nat) (t : Addr), as[j]? = some t ∧ v = .ref t ∧ bs[j]? = some x) o l →
        ∃ ts : List Addr, o = ts.map Value.ref ∧ PySem.W.EachIs (fun t x => ∃ (j : Nat), as[j]? = some t ∧ bs[j]? = some x) ts l := by
      intro o l eo
      induction eo with
      | nil => exact ⟨[], rfl, .nil⟩
      | @cons v x vs xs hx _ ih =>
        obtain ⟨ts, i1, i3⟩ := ih
        obtain ⟨j, t, q1, q2, q3⟩ := hx
        exact ⟨t :: ts, by rw [i1, q2]; rfl, .cons ⟨j, q1, q3⟩ i3⟩
    obtain ⟨ts, i1, i3⟩ := key out _ eo
    refine wpAny_pure ⟨_, rfl, h h2 tk2 h1.objs.size as ts c (fun b o q => up kp b o (hk1 b o q)) (Nat.le_of_lt hlt) (hG.rise.imp fun h => Nat.ne_of_lt h) hl (fun t ht => ⟨Nat.le_of_lt (hG.above t ht), Nat.ne_of_lt (hG.there ht)⟩) (fun j t hj => ?_) (by rw [hD, i1]) i3⟩
    obtain ⟨e, e1, e2⟩ := hG.pairs j t hj
    exact ⟨e, e1, up kp _ _ e2⟩
end
def laidH (H : Hp) (more : List (Addr × HO)) : Hp := fun a => match more.lookup a with
  | some o => some o
  | none => H a
theorem laidH_in {H : Hp} {more : List (Addr × HO)} {a : Addr} {o : HO} (h : more.lookup a = some o) : laidH H more a = some o := by unfold laidH; rw [h]
theorem laidH_out {H : Hp} {more : List (Addr × HO)} {a : Addr} (h : more.lookup a = none) : laidH H more a = H a := by unfold laidH; rw [h]
theorem look_mem {a : Addr} {o : HO} : ∀ {more : List (Addr × HO)}, more.lookup a = some o → (a, o) ∈ more
  | [], h => by cases h
  | (b, u) :: r, h => by
    rw [List.lookup_cons] at h
    cases z : a == b with
    | true => rw [z] at h; cases h; rw [eq_of_beq z]; exact List.mem_cons_self
    | false => rw [z] at h; exact List.mem_cons_of_mem _ (look_mem h)
section
variable {X : Cx} {pins : List (Addr × Obj)} {σ : L2.St} {H : Hp} {s : Shared} {more : List (Addr × HO)} {h' : Heap} {t' : Nat}
theorem laidH_old (hf : ∀ p ∈ more, H p.1 = none) {a : Addr} {o : HO} (h : H a = some o) : laidH H more a = some o := by
  rw [laidH_out, h]
  cases q : more.lookup a with
  | none => rfl
  | some u => have := hf _ (look_mem q); rw [h] at this; cases this
theorem inv_laidM (I : Inv X pins σ H s) (k : ∀ b u, s.heap.get? b = some u → h'.get? b = some u) (hp : ∀ p ∈ more, s.heap.objs.size ≤ p.1) (new : ∀ a o, more.lookup a = some o → ObjOk X.prog X.w (laidH H more) h' a o) :
    Inv X pins σ (laidH H more) { s with heap := h', toks := t' } := by
  have hf : ∀ p ∈ more, H p.1 = none := fun p hm => I.hok.fresh (hp p hm)
  have old : ∀ {a : Addr} {o : HO}, H a = some o → laidH H more a = some o := fun h => laidH_old hf h
  refine I.un ⟨fun b u q _ _ _ => k b u q, fun b u q _ _ _ => ⟨u.slots, k b u q⟩, fun b u q n _ => ?_, fun b u q _ => ⟨u, k b u q⟩, fun b xs q => old q, fun b ob u q => old q, fun b ps q => ⟨#[], by rw [old q]; simp⟩⟩ fun b o q => ?_
  · rw [laidH_out, n]
    cases z : more.lookup b with
    | none => rfl
    | some v => exact absurd (Nat.lt_of_lt_of_le (Heap.lt_size q) (hp _ (look_mem z))) (Nat.lt_irrefl _)
  · cases z : more.lookup b with
    | some v =>
      rw [laidH_in z] at q
      cases q
      exact new b o z
    | none =>
      rw [laidH_out z] at q
      exact (I.hok b o q).stay (fun c v _ r => k c v r) (fun c r => old r) fun c xs r => old r
theorem Ex.newM {ρ : List Addr} (hf : ∀ p ∈ more, H p.1 = none) : Ex ρ H ρ (laidH H more) :=
  ⟨⟨[], by simp⟩, fun a h o ho => h o (laidH_old hf ho), fun a o h _ _ => laidH_old hf h, fun a xs h => laidH_old hf h, fun a o u h => laidH_old hf h⟩
theorem WOk.newM {W : Wd} {ρ : List Addr} {M : Mem} (w : WOk W ρ M H) (hf : ∀ p ∈ more, H p.1 = none) : WOk W ρ M (laidH H more) :=
  ⟨w.len, w.nd, fun l u a h1 h2 => (w.obj l u a h1 h2).mono (Ex.newM hf) fun v hv => laidH_old hf hv, w.tabs.ext fun b u h => laidH_old hf h⟩
end
theorem ExtN.mo {ρ : List Addr} {H H' : Hp} (e : LamX.ExtN H H') : Mo ρ H ρ H' := ⟨fun _ _ h => h, fun a xs h => e a _ h (fun _ z => by cases z), fun a o u h => e a _ h (fun _ z => by cases z)⟩
theorem Ex.lam {ρ : List Addr} {H H' : Hp} (e : LamX.ExtN H H') : Ex ρ H ρ H' :=
  ⟨⟨[], by simp⟩, fun a h o ho => by
    by_cases q : ∃ ps, o = .tbl ps
    · exact q
    · exact h o (e a o ho fun ps z => q ⟨ps, z⟩), fun a o h _ ht => e a o h ht, fun a xs h => e a _ h (fun _ z => by cases z), fun a o u h => e a _ h (fun _ z => by cases z)⟩
theorem RpO.not_tbl {W : Wd} {H : Hp} {ρ : List Addr} {o : MO} {a : Addr} {u : HO} (h : RpO W H ρ o a) (e : H a = some u) : ∀ ps, u ≠ .tbl ps := by
  cases o with
  | lst ds => obtain ⟨xs, q, _⟩ := h; rw [q] at e; cases e; exact fun _ z => by cases z
  | dk kvs => obtain ⟨xs, q, _⟩ := h; rw [q] at e; cases e; exact fun _ z => by cases z
  | dn kvs => obtain ⟨xs, q, _⟩ := h; rw [q] at e; cases e; exact dnO_tbl
theorem WOk.lam {W : Wd} {ρ : List Addr} {M : Mem} {H H' : Hp} (w : WOk W ρ M H) (e : LamX.ExtN H H') (t : LamX.Tabs W.T H') : WOk W ρ M H' :=
  ⟨w.len, w.nd, fun l u a h1 h2 => (w.obj l u a h1 h2).moM (ExtN.mo e) fun v hv => e a v hv ((w.obj l u a h1 h2).not_tbl hv), t⟩
section
variable {X : Cx} {pins : List (Addr × Obj)} {σ : L2.St} {H : Hp} {s : Shared} {ρ : List Addr}
mutual
theorem reads_of (I : Inv X pins σ H s) {h' : Heap} (hk : ∀ b o, s.heap.get? b = some o → h'.get? b = some o) : ∀ (d : D) (v : V) (u : Value), IsKey d → Rp X.K H ρ d v → RelV v u → Reads h' u (py d) []
  | .non, _, _, _, h, r => by cases h; cases r; exact .none
  | .int i, _, _, _, h, r => by cases h; obtain ⟨t, rfl⟩ := r; exact .int i t
  | .str i, _, _, _, h, r => by cases h; obtain ⟨t, rfl⟩ := r; exact .str _ t
  | .tup ds, _, _, hd, h, r => by
    obtain ⟨a, xs, rfl, h1, h2⟩ := h
    cases r
    obtain ⟨its, rv, ⟨o, ho, hc, n, hdat⟩, _⟩ := I.tuple h1
    cases hd with
    | tup _ hd => exact .tuple (hk _ _ ho) hc hdat (readsAll_of I hk ds xs its hd h2 rv)
  | .bl _, _, _, hd, _, _ => by cases hd
  | .loc _, _, _, hd, _, _ => by cases hd
  | .fl _, _, _, hd, _, _ => by cases hd
  | .pt _, _, _, hd, _, _ => by cases hd
theorem readsAll_of (I : Inv X pins σ H s) {h' : Heap} (hk : ∀ b o, s.heap.get? b = some o → h'.get? b = some o) : ∀ (ds : List D) (xs : List V) (us : List Value), (∀ d ∈ ds, IsKey d) → Rps X.K H ρ ds xs → Vals xs us → ReadsAll h' us (pys ds) []
  | [], _, _, _, h, r => by cases h; cases r; exact .nil
  | d :: ds, _, _, hd, h, r => by
    obtain ⟨x, q, rfl, h1, h2⟩ := h
    cases r with
    | cons r1 r2 => exact .cons (as := []) (bs := []) (reads_of I hk d x _ (hd d List.mem_cons_self) h1 r1) (readsAll_of I hk ds q _ (fun e he => hd e (List.mem_cons_of_mem _ he)) h2 r2)
end
end
end Dt
namespace Dt
open PySem PySem.Spec PyProof.Rows L2
mutual
theorem depth_py : ∀ (d : D), IsKey d → (py d).depth = (nk d).depth
  | .non, _ => rfl
  | .int _, _ => rfl
  | .str _, _ => rfl
  | .tup ds, h => by
    cases h with
    | tup _ h => exact congrArg (· + 1) (depths_py ds h)
  | .bl _, h => by cases h
  | .loc _, h => by cases h
  | .fl _, h => by cases h
  | .pt _, h => by cases h
theorem depths_py : ∀ (ds : List D), (∀ d ∈ ds, IsKey d) → PyData.depthAll (pys ds) = NestedKey.depthAll (nks ds)
  | [], _ => rfl
  | d :: ds, h => by
    show max (py d).depth (PyData.depthAll (pys ds)) = max (nk d).depth (NestedKey.depthAll (nks ds))
    rw [depth_py d (h d List.mem_cons_self), depths_py ds fun e he => h e (List.mem_cons_of_mem _ he)]
end
def sortD (kvs : List (D × D)) : List D := (kvs.mergeSort (PySem.W.dataLe false fun p => py p.1)).map fun p => .tup [p.1, p.2]
def sortOk (kvs : List (D × D)) : Bool := (kvs.all fun p => kvs.all fun q => PySem.W.alike (py p.1) (py q.1)) && kvs.all fun p => match p.1 with
  | .tup (_ :: _) => true
  | _ => false
def lSortItems (f : E) : Ar := fun δ M => (f δ M).bind fun d M => match d with
  | .loc l => (match M[l]? with
    | some (.dn kvs) => if sortOk kvs = true then .ok (sortD kvs) M else .bad
    | _ => .bad)
  | _ => .bad
/-- a view of the items of the dict at d -/
def vwO (r d : Addr) : HO := .ext fun h => h.IsItemsView r d
/-- what the maker of a lambda must bear -/
structure LamC (X : Cx) (T : List (Addr × Str)) : Prop where
  ex : ∃ c P, X.env.code = .ref c ∧ LamX.TabB X.base X.mg c P ∧ (P, X.env.qual ++ "<lambda>") ∈ T ∧ ∀ p ∈ T, p.1 = P → p.2 = X.env.qual ++ "<lambda>"
theorem boot_sorted_ : bootBuiltins "sorted" = some (.builtin "sorted") := by decide +kernel
theorem zip_look {as : List Addr} {os : List HO} : ∀ {j : Nat} {t : Addr} {o : HO}, as.Nodup → as[j]? = some t → os[j]? = some o → (as.zip os).lookup t = some o := by
  induction as generalizing os with
  | nil => intro j t o _ h _; simp at h
  | cons a as ih =>
    intro j t o nd h1 h2
    rw [List.nodup_cons] at nd
    cases os with
    | nil => simp at h2
    | cons u os =>
      rw [List.zip_cons_cons, List.lookup_cons]
      cases j with
      | zero => simp at h1 h2; subst h1 h2; simp
      | succ j =>
        simp at h1 h2
        have : (t == a) = false := by
          rw [beq_eq_false_iff_ne]
          exact fun z => nd.1 (z ▸ List.mem_of_getElem? h1)
        rw [this]
        exact ih nd.2 h1 h2
theorem zip_look_inv {as : List Addr} {os : List HO} : ∀ {t : Addr} {o : HO}, (as.zip os).lookup t = some o → ∃ j : Nat, as[j]? = some t ∧ os[j]? = some o := by
  induction as generalizing os with
  | nil => intro t o h; cases h
  | cons a as ih =>
    intro t o h
    cases os with
    | nil => cases h
    | cons u os =>
      rw [List.zip_cons_cons, List.lookup_cons] at h
      cases z : t == a with
      | true =>
        rw [z] at h
        cases h
        exact ⟨0, by simp [eq_of_beq z], rfl⟩
      | false =>
        rw [z] at h
        obtain ⟨j, h1, h2⟩ := ih h
        exact ⟨j + 1, by simpa using h1, by simpa using h2⟩
theorem refs_vals : ∀ ts : List Addr, Vals (ts.map V.ref) (ts.map Value.ref)
  | [] => .nil
  | _ :: ts => .cons rfl (refs_vals ts)
section
variable {X : Cx} {T : List (Addr × Str)} {U : WX} {pos p2 p3 : Pos} {e a b c : Expr} {es : List Expr} {f f1 f2 f3 : E} {fa l : Ar}
theorem pl_sortedItems {o : Expr} {p apos cpos lpos kp q1 q2 q3 : Pos} {params : Arguments} {scope : Scope} {nm : Str} {jj : Nat} (hc : X.calm = true) (hu : X.A.units + 64 < cLine) (hroom : X.A.depth + 3 < recursionLimit) (hm : X.mg "sorted" = none) (LC : LamC X T) (ho : PE X o (tE (X.wd T) U f))
    (hdef : defaultsOf params X.env = ([], []))
    (hbind : ∀ (qq : Str) (cl : List (Str × Addr)) (pm cv ctv v : Value), bindArgs (PySem.W.kla_fn "<lambda>" qq params (.Subscript (.Name nm q1) (.Constant (.int 0) jj q2) q3) scope cl pm cv ctv) ⟨[v], []⟩ = pure [(nm, v)])
    (hco : scope.isCoroutine = false := by rfl) (hgen : scope.isGenerator = false := by rfl) (hkind : scope.kind = .function := by rfl) (hcell : ∀ x ∈ scope.names, x.2 ≠ .cell := by decide) (hfr : ∀ x ∈ scope.names, x.2 ≠ .free := by decide) (hloc : scope.names.lookup nm = some .local := by rfl) (hnm : (nm == ("__debug__" : Str)) = false := by decide)
    (hgl : Gl X "sorted" := by rfl) (hbase : attributeBase o "items" X.env (eval o X.env) = eval o X.env := by rfl)
    (hfew : ((backTo cpos (starEach [] X.env)).all (fun x => !x.1) && (backToKw cpos (keywordEach [] X.env)).all (fun x => x.1.isSome)
      && decide (([] : List Expr).length + ([] : List Keyword).length + (if ([] : List Keyword).isEmpty then 0 else 1) < 30)) = true := by rfl)
    (hline : (apos.endLine == cpos.line) = true := by rfl)
    (hst : starEach [.Call (.Attribute o "items" apos) [] [] cpos] X.env = [(false, eval (.Call (.Attribute o "items" apos) [] [] cpos) X.env)] := by rfl) :
    PE X (.Call (.Name "sorted" p) [.Call (.Attribute o "items" apos) [] [] cpos] [⟨some "key", .Lambda params (.Subscript (.Name nm q1) (.Constant (.int 0) jj q2) q3) scope lpos, kp⟩] pos) (tL (X.wd T) U (lSortItems f)) := by
  obtain ⟨lc, lP, hcode, TB, hmT, huT⟩ := LC.ex
  refine ⟨fun pins s σ H Q I ⟨ρ, M, δ, w, er, go⟩ => ?_⟩
  refine wpAny_Call_Name_kw (ld_blt I hgl hm boot_sorted_ ?_)
  refine PySem.W.callWith_of (P := fun _ => True) (by rw [hst]; rfl) (fun h _ => ⟨Keeper.machine, .inr (.inl rfl), .now⟩) (evalArgs_kw2 rfl ?_ hst)
  rw [hst]
  refine Calls.spliced_cons ?_
  -- d.items()
  refine wpAny_Call_method (T := "dict") (id := "dict.items") hbase hfew hline PySem.F.plainAttrs_dict PySem.F.slot_dict_items PySem.F.type_dict_items (thn (ho.run pins s σ H _ I ⟨ρ, M, δ, w, er, Gg.bind (rel := relD (X.wd T)) go⟩) fun v s1 ⟨x, H1, I1, rx, ρ1, M1, d, _, e1, w1, r1, go1⟩ => ?_)
  cases d with
  | loc l =>
    obtain ⟨pd, rfl, hp⟩ := r1
    cases rx
    cases q : M1[l]? with
    | none => simp only [q] at go1; exact go1.elim
    | some o1 =>
      cases o1 with
      | dn kvs =>
        simp only [q] at go1
        split at go1
        · rename_i hsort
          obtain ⟨hs1, hs2⟩ := Bool.and_eq_true_iff.mp hsort
          obtain ⟨es', us', h1, h2, h3, h4, h5, h6, h7, h8, g5, g4, dd⟩ := dn_at I1 (w1.obj l _ pd q hp)
          have hno : ∃ ob, s1.heap.get? pd = some ob ∧ ob.dict = none := by obtain ⟨o, _, _, z, z2, _⟩ := dd; exact ⟨o, z, z2.2.1⟩
          obtain ⟨od, ens, ep, k1, k2, k3, k4, _, _⟩ := id dd
          refine ⟨dd.typeIs, fun a ea => by cases ea; exact hno, ?_⟩
          refine method_meetsIn PySem.F.slot_dict_items PySem.F.entry_dict_items rfl (PySem.evalArgs_none ⟨rfl, dd.typeIs, PySem.F.args_dict_items_1 _, _, DT.meetsItems (es := ens) (ep := ep) h2, ⟨od, k1, k2, k3⟩, ?_⟩)
          have hvn : H1 s1.heap.objs.size = none := I1.hok.fresh (Nat.le_refl _)
          have hvw : (s1.heap.push { cls := .type "dict_items", data := .fields #[.ref pd] }).IsItemsView s1.heap.objs.size pd := ⟨_, Heap.get?_push_size _ rfl, rfl, rfl⟩
          have I2 : Inv X pins σ (upd H1 s1.heap.objs.size (vwO s1.heap.objs.size pd)) { s1 with heap := s1.heap.push { cls := .type "dict_items", data := .fields #[.ref pd] } } :=
            I1.laid (t' := s1.toks) (fun _ _ z => Heap.get?_push_of_some _ z) (Nat.le_refl _) ⟨hvw, let ⟨o, z, _⟩ := hvw; ⟨o, z⟩, fun g1 g2 ⟨o, a1, a2⟩ st => ⟨o, st o a1, a2⟩⟩
          have vt : ∀ ps, vwO s1.heap.objs.size pd ≠ .tbl ps := fun _ z => by unfold vwO at z; cases z
          have ex2 : Ex ρ1 H1 ρ1 (upd H1 s1.heap.objs.size (vwO s1.heap.objs.size pd)) := Ex.new hvn vt
          have w2 := w1.new (o := vwO s1.heap.objs.size pd) hvn vt
          refine Calls.spliced_nil ?_
          -- the lambda
          show wpAny _ _ (evalAll [do let v ← eval (.Lambda params (.Subscript (.Name nm q1) (.Constant (.int 0) jj q2) q3) scope lpos) X.env; standAt pos; pure v]) _ _ _
          refine wpAny_evalAll_cons (wpAny_bind (LamX.lam_make2 I2 TB hcode hmT huT w2.tabs hdef (fun y hy z => absurd z (hfr y hy)) fun fl c' pm ctv H3 s3 I3 eN T3 hf hfn hfr3 hco3 => wpAny_bind (wpAny_standAt (wpAny_pure (wpAny_evalAll_nil ⟨True.intro, ?_⟩)))))
          have w3 : WOk (X.wd T) ρ1 M1 H3 := w2.lam eN T3
          have ex3 : Ex ρ1 H1 ρ1 H3 := ex2.trans (Ex.lam eN)
          have hv3 : H3 s1.heap.objs.size = some (vwO s1.heap.objs.size pd) := eN _ _ upd_same vt
          have hvw3 : s3.heap.IsItemsView s1.heap.objs.size pd := by
            have x : ObjOk X.prog X.w H3 s3.heap s1.heap.objs.size (vwO s1.heap.objs.size pd) := I3.hok _ _ hv3
            unfold vwO at x
            exact x.1
          obtain ⟨es, us, h1, h2, h3, h4, h5, h6, h7, h8, g5, g4, dd⟩ := dn_at I3 (w3.obj l _ pd q hp)
          obtain ⟨od, ens, ep, k1, k2, k3, k4, his, _⟩ := id dd
          have zl : (zE es us).length = es.length := zE_len g5
          have hlen : es.length = kvs.length := by have := congrArg List.length h5; simpa using this
          have enl : ens.size = es.length := by
            have := congrArg List.length k4
            rw [List.length_map, zl] at this
            simpa using this
          obtain ⟨oc, vs, t, hoc, hdc, hvc⟩ : ∃ (oc : Obj) (vs : Array Value) (t : Tok), s3.heap.get? c' = some oc ∧ oc.data = .fields vs ∧ vs[1]? = some (.str (X.env.qual ++ "<lambda>") t) := by
            have x : ObjOk X.prog X.w H3 s3.heap c' (LamX.CodeO c' (X.env.qual ++ "<lambda>")) := I3.hok _ _ hco3
            unfold LamX.CodeO at x
            exact x.1
          have ent : ∀ (j : Nat) (e : DictEntry), ens[j]? = some e → ∃ (pp : D × D) (ee : NestedKey × Addr × V) (u : Value), kvs[j]? = some pp ∧ es[j]? = some ee ∧ us[j]? = some u ∧ e.key = .ref ee.2.1 ∧ e.val = u ∧ Rp X.K H3 ρ1 pp.1 (.ref ee.2.1) ∧ Rp X.K H3 ρ1 pp.2 ee.2.2 ∧ RelV ee.2.2 u := by
            intro j e hj
            have hj2 : ens.toList[j]? = some e := by rw [Array.getElem?_toList]; exact hj
            rw [k4, List.getElem?_map] at hj2
            obtain ⟨z, hz1, hz2⟩ := Option.map_eq_some_iff.mp hj2
            unfold zE at hz1
            rw [List.getElem?_map] at hz1
            obtain ⟨y, hy1, hy2⟩ := Option.map_eq_some_iff.mp hz1
            rw [List.getElem?_zip_eq_some] at hy1
            obtain ⟨hy1, hy3⟩ := hy1
            have hjl : j < kvs.length := by rw [← hlen]; exact (List.getElem?_eq_some_iff.mp hy1).1
            have hkv : kvs[j]? = some kvs[j] := List.getElem?_eq_getElem hjl
            obtain ⟨xk, hxk, rk⟩ := h6.get (i := j) (d := kvs[j].1) (by rw [List.getElem?_map, hkv]; rfl)
            obtain ⟨xv, hxv, rv⟩ := h7.get (i := j) (d := kvs[j].2) (by rw [List.getElem?_map, hkv]; rfl)
            rw [List.getElem?_map, hy1] at hxk hxv
            cases hxk
            cases hxv
            obtain ⟨u, hu1, hu2⟩ := g4.get (i := j) (x := y.1.2.2) (by rw [List.getElem?_map, hy1]; rfl)
            rw [hy3] at hu1
            cases hu1
            refine ⟨kvs[j], y.1, y.2, hkv, hy1, hy3, ?_, ?_, rk, rv, hu2⟩
            · rw [← hz2, ← hy2]; rfl
            · rw [← hz2, ← hy2]; rfl
          have hkb : ∀ p ∈ kvs, (py p.1).depth ≤ 8 := fun p hp => by rw [depth_py p.1 (h8 p hp).1]; exact (h8 p hp).2
          refine sorted_itemsK (A := X.A) (bs := kvs) (k := fun p => py p.1) (I3.ok.hd hc) hvw3 ⟨od, k1, k2, k3⟩ (by rw [enl, sizeLine_eq]; omega) (by rw [enl, hlen]) ?_ ?_ (fun p hp => by have := hkb p hp; show X.A.units + 2 + _ < _; omega) (fun j e tt p hb he g tk hk ht => ?_) (fun h' tk aL as ts cc hkeep haL hnd hal hge hpr hlist hEach => ?_)
          · intro d1 hd1 d2 hd2
            obtain ⟨p1, hp1, rfl⟩ := List.mem_map.mp hd1
            obtain ⟨p2, hp2, rfl⟩ := List.mem_map.mp hd2
            exact List.all_eq_true.mp (List.all_eq_true.mp hs1 p1 hp1) p2 hp2
          · refine .inl fun d1 hd1 => ?_
            obtain ⟨p1, hp1, rfl⟩ := List.mem_map.mp hd1
            have := List.all_eq_true.mp hs2 p1 hp1
            split at this
            · rename_i x r heq
              rw [heq]
              exact ⟨_, _, rfl⟩
            · cases this
          · obtain ⟨pp, ee, u, b1, b2, b3, b4, b5, b6, b7, b8⟩ := ent j e he
            have eb : pp = p := Option.some.inj (b1.symm.trans hb)
            subst eb
            rw [b4] at ht
            refine lam_key (by show X.A.depth < recursionLimit; omega) (hk _ _ hf) ⟨c', oc, vs, t, rfl, hk _ _ hoc, hdc, hvc⟩ (I3.nolimit.keeps hk) (fun v => hbind _ _ _ _ _ v) hco hgen hkind hcell hloc hnm ht fun h'' hk'' => ?_
            exact reads_of I3 (fun b o z => hk'' b o (hk b o z)) pp.1 _ _ (h8 pp (List.mem_of_getElem? b1)).1 b6 rfl
          · -- the list stands
            have hidx : ∀ (j : Nat), j < as.length → ∃ (ee : NestedKey × Addr × V), es[j]? = some ee := fun j hj => ⟨es[j]'(by rw [← enl, ← hal]; exact hj), List.getElem?_eq_getElem _⟩
            let tupOf : List HO := es.map fun e => HO.tup [V.ref e.2.1, e.2.2]
            let more : List (Addr × HO) := (aL, .lst (ts.map V.ref)) :: as.zip tupOf
            have hfresh : ∀ p ∈ more, s3.heap.objs.size ≤ p.1 := fun p hp => by
              rcases List.mem_cons.mp hp with z | z
              · rw [z]; exact haL
              · exact (hge p.1 (List.of_mem_zip z).1).1
            have hfN : ∀ p ∈ more, H3 p.1 = none := fun p hp => I3.hok.fresh (hfresh p hp)
            have lookA : more.lookup aL = some (.lst (ts.map V.ref)) := by show ((aL, _) :: _).lookup aL = _; rw [List.lookup_cons]; simp
            have lookT : ∀ (j : Nat) (t : Addr) (ee : NestedKey × Addr × V), as[j]? = some t → es[j]? = some ee → more.lookup t = some (.tup [V.ref ee.2.1, ee.2.2]) := fun j t ee ht he => by
              show ((aL, _) :: _).lookup t = _
              rw [List.lookup_cons]
              have : (t == aL) = false := by rw [beq_eq_false_iff_ne]; exact (hge t (List.mem_of_getElem? ht)).2
              rw [this]
              refine zip_look hnd ht ?_
              show (es.map _)[j]? = _
              rw [List.getElem?_map, he]; rfl
            have tsl : ts.length = kvs.length := by rw [hEach.length, List.length_mergeSort]
            have I4 : Inv X pins σ (laidH H3 more) { s3 with heap := h', toks := tk } := by
              refine inv_laidM I3 hkeep hfresh fun t o ht => ?_
              by_cases z : t = aL
              · subst z
                rw [lookA] at ht
                cases ht
                exact ⟨by rw [List.length_map, tsl, ← hlen, sizeLine_eq]; omega, ts.map Value.ref, cc, refs_vals ts, hlist⟩
              · have ht2 : (as.zip tupOf).lookup t = some o := by
                  have ht3 : ((aL, HO.lst (ts.map V.ref)) :: as.zip tupOf).lookup t = some o := ht
                  rw [List.lookup_cons] at ht3
                  have : (t == aL) = false := by rw [beq_eq_false_iff_ne]; exact z
                  rw [this] at ht3
                  exact ht3
                obtain ⟨j, j1, j2⟩ := zip_look_inv ht2
                obtain ⟨e, he1, he2⟩ := hpr j t j1
                obtain ⟨pp, ee, u, b1, b2, b3, b4, b5, b6, b7, b8⟩ := ent j e he1
                have j3 : (es.map fun e => HO.tup [V.ref e.2.1, e.2.2])[j]? = some o := j2
                rw [List.getElem?_map, b2] at j3
                cases j3
                exact ⟨by show 2 ≤ sizeLine; decide, [.ref ee.2.1, u], .cons rfl (.cons b8 .nil), ⟨_, by rw [b4, b5] at he2; exact he2, rfl, _, rfl⟩⟩
            have ex4 : Ex ρ1 H1 ρ1 (laidH H3 more) := ex3.trans (Ex.newM hfN)
            have w4 : WOk (X.wd T) ρ1 M1 (laidH H3 more) := w3.newM hfN
            have exm : Ex ρ1 H3 ρ1 (laidH H3 more) := Ex.newM hfN
            have rr : Rps X.K (laidH H3 more) ρ1 (sortD kvs) (ts.map V.ref) := by
              have gen : ∀ (tz : List Addr) (kz : List (D × D)), PySem.W.EachIs (fun t x => ∃ (j : Nat), as[j]? = some t ∧ kvs[j]? = some x) tz kz → Rps X.K (laidH H3 more) ρ1 (kz.map fun p => D.tup [p.1, p.2]) (tz.map V.ref) := by
                intro tz kz hz
                induction hz with
                | nil => exact rfl
                | @cons t x tz kz hx _ ih =>
                  obtain ⟨j, j1, j2⟩ := hx
                  obtain ⟨e, he1, he2⟩ := hpr j t j1
                  obtain ⟨pp, ee, u, b1, b2, b3, b4, b5, b6, b7, b8⟩ := ent j e he1
                  rw [b1] at j2
                  cases j2
                  refine ⟨V.ref t, tz.map V.ref, rfl, ⟨t, _, rfl, SqT.of (laidH_in (lookT j t ee j1 b2)), ⟨_, _, rfl, b6.mono exm, _, _, rfl, b7.mono exm, rfl⟩⟩, ih⟩
              exact gen _ _ hEach
            have na : aL ∉ ρ1 := w3.fresh (I3.hok.fresh haL)
            have fz : Fz H1 aL := ex3.there aL (Fz.of (I3.hok.fresh haL))
            exact ⟨.ref aL, _, I4, rfl, go1 (.ref aL) ρ1 _ ex4 w4 ⟨aL, _, rfl, e1.there aL fz, na, laidH_in lookA, rr⟩⟩
        · exact go1.elim
      | _ => simp only [q] at go1; exact go1.elim
  | _ => exact go1.elim
/-- tuple(l), its object known -/
def rTupP (K : PySem.W.Frag) : List V → Hp → VK → Prop := fun xs H Q => ∃ p ys, xs = [.ref p] ∧ SqL K H p ys ∧ ∀ (l : Addr) (ob : Obj), ob.dict = none → H l = none → Q (.ref l) (upd H l (.frz ob (.tup ys)))
theorem call_tupP : CallR X (.type "tuple") (rTupP X.K) := by
  intro pins s σ H xs us Q I r h
  obtain ⟨p, ys, rfl, hq, q⟩ := h
  obtain ⟨u, rfl, rx⟩ := vals1 r
  cases rx
  obtain ⟨its, r', pl, hz⟩ := I.list hq
  have hlen := r'.length
  refine call_tuple_list pl.isList (fun h' kp => ?_) (by simp only [List.size_toArray] <;> omega)
  have I1 : Inv X pins σ H { s with heap := h' } := I.kept (t' := s.toks) kp
  have hg : (h'.push { cls := .type "tuple", data := .seq its.toArray }).get? h'.objs.size = some { cls := .type "tuple", data := .seq its.toArray } := Heap.get?_push_size _ rfl
  have I2 : Inv X pins σ (upd H h'.objs.size (.frz { cls := .type "tuple", data := .seq its.toArray } (.tup ys))) { s with heap := h'.push { cls := .type "tuple", data := .seq its.toArray } } :=
    I1.laid (t' := s.toks) (fun b o e => Heap.get?_push_of_some _ e) (Nat.le_refl _) ⟨hg, hz, its, r', IsTup.new _ _⟩
  exact ⟨.ref h'.objs.size, _, I2, rfl, q _ _ rfl (I1.hok.fresh (Nat.le_refl _))⟩
def dPtL (ds : List D) (M : Mem) : Res D := .ok (.pt ds) M
theorem okl_tupP : OKL (X.wd T) (rTupP X.K) dPtL := by
  intro U σ ρ M H ds p xs Q w np hp r go
  refine ⟨p, xs, rfl, SqL.of hp, fun l ob hd hl => ?_⟩
  exact go (.ref l) ρ _ (Ex.new hl) (w.new hl) ⟨l, xs, rfl, ⟨ob, hd, upd_same⟩, r.mono (Ex.new hl)⟩
end
end Dt
namespace Dt
open PySem PySem.Spec PyProof.Rows L2
/-- what stands behind an __init__ with these fields -/
def Fin_ (H : Hp) (a C dx : Addr) (fs : List (Str × V)) (H2 : Hp) : Prop := H2 a = some (exo a C (some dx)) ∧ H2 dx = some (exd dx fs) ∧ ∀ b, b ≠ a → b ≠ dx → H2 b = H b
def spX1 (K : PySem.W.Frag) (C : Addr) (f1 : String) : Sp := fun vs H Q _ => ∃ (a : Addr) (x : V), vs = [.ref a, x] ∧ OexC K C ∧ PySem.W.findIn K (.ref C) (Str.ofString f1) = some none ∧ H a = some (exo a C none) ∧ ∀ dx H2, H dx = none → dx ≠ a → Fin_ H a C dx [(Str.ofString f1, x)] H2 → Q .non H2
def spX2 (K : PySem.W.Frag) (C : Addr) (f1 f2 : String) : Sp := fun vs H Q _ => ∃ (a : Addr) (x y : V), vs = [.ref a, x, y] ∧ OexC K C ∧ PySem.W.findIn K (.ref C) (Str.ofString f1) = some none ∧ PySem.W.findIn K (.ref C) (Str.ofString f2) = some none ∧ H a = some (exo a C none) ∧
  ∀ dx H2, H dx = none → dx ≠ a → Fin_ H a C dx [(Str.ofString f2, y), (Str.ofString f1, x)] H2 → Q .non H2
section
variable {X : Cx} {T : List (Addr × Str)} {U : WX} {pos p p1 p2 p3 p4 p5 p6 : Pos} {e a b c : Expr} {es : List Expr} {f f1 f2 f3 : E} {fa l : Ar} {ta : TA}
/-- B.__init__(self, ..), B an own class whose __init__ is ValueError's -/
theorem pe_binit {x : Str} {B : Addr} {mc : Value} {pl : Sem Bool} (hm : X.mg x = some (.ref B)) (rd : PySem.W.readsIn X.K B mc = true) (ga : PySem.W.specialIn X.K (.ref B) "__getattribute__" = some (some (.builtin "type.__getattribute__")))
    (vV : PySem.W.findCls X.K (.ref B) mc "__init__" = some (.val (.builtin "ValueError.__init__"))) (ha : PA X (e :: es) ta) (hg : Gl X x := by rfl)
    (hc : eval (.Call (.Attribute (.Name x p1) "__init__" p2) (e :: es) [] pos) X.env = (do
      let ov ← eval (.Name x p1) X.env
      standAt p2.atName
      let (f, first) ← holding [ov] (getMethod ov "__init__" pl)
      callWith pos f first (backTo pos (starEach (e :: es) X.env)) (backToKw pos (keywordEach [] X.env))) := by rfl)
    (hdb : (x == ("__debug__" : Str)) = false := by decide) (he : starEach (e :: es) X.env = (false, eval e X.env) :: starEach es X.env := by rfl) (hpl : (backTo pos (starEach es X.env)).any (·.1) = false := by rfl) :
    PE X (.Call (.Attribute (.Name x p1) "__init__" p2) (e :: es) [] pos) (tVeI X.K ta) := by
  refine ⟨fun pins s σ H Q I h => ?_⟩
  refine PySem.W.methodCall_KW (ld_glob I hg hm ?_ hdb) hc
  refine PySem.W.method_cls I.kIn ga (PySem.W.cls_value I.kIn rd vV (by decide +kernel) ?_)
  show wpAny _ _ (callWith pos (Value.builtin "ValueError.__init__") [] (backTo pos (starEach (e :: es) X.env)) []) _ _ _
  refine PyProof.Rows.callWith_method1 (thn (ha.run pos pins _ σ H _ (I.tok _) h) fun us s1 ⟨vs, H1, I1, r1, a, C, ws, ev, hl, T, ea, q⟩ => ?_) he hpl
  subst ev
  cases r1 with
  | @cons _ u0 _ ur ra rw' =>
    obtain rfl : u0 = Value.ref a := ra
    have hlen : ur.length ≤ sizeLine := by
      rw [← Paired.length rw', sizeLine_eq]
      omega
    exact oinit_ok T I1 ea hlen fun s' J => ⟨.non, H1, J, rfl, q⟩
def sRaise (cls : String) (flds : List String) (a : Ar) : S := fun δ M => (a δ M).st δ fun ds M => if ds.length = flds.length then .ex ⟨cls, flds.zip ds⟩ δ M else .bad
/-- a class of exceptions with its __init__: at fI, bound by its places -/
structure ExK (P : Program) (w : World) (K : PySem.W.Frag) (mg : Str → Option Value) (base : Heap) (k : Nat) (cls : String) (sp : Sp) : Prop where
  mg_ : mg (Str.ofString cls) = some (.ref (cA K cls))
  oex : OexC K (cA K cls)
  ini : ∃ (fI : Addr) (fd : FuncData) (ps : List Str), PySem.W.findIn K (.ref (cA K cls)) "__init__" = some (some (.ref fI)) ∧ PySem.W.typeIn K (.ref fI) = some (.type "function") ∧ FnOk P w K mg base C8.CX0 k fI fd ps sp ∧ Binds K fd ps []
theorem passes0 {X : Cx} : Passes C8.CX0 X (fun _ _ _ => False) := fun _ _ _ _ _ _ _ z => (show False from z).elim
theorem after_made {H H2 : Hp} {a C dx : Addr} {fs : List (Str × V)} (ha : H a = none) (hd : (upd H a (exo a C none)) dx = none) (hda : dx ≠ a) (f : Fin_ (upd H a (exo a C none)) a C dx fs H2) : H dx = none ∧ upd (del H2 a) dx (.xd fs) = upd H dx (.xd fs) := by
  rw [upd_ne hda] at hd
  refine ⟨hd, ?_⟩
  funext b
  by_cases h : b = dx
  · rw [h, upd_same, upd_same]
  · rw [upd_ne h, upd_ne h]
    by_cases h2 : b = a
    · rw [h2, del_same, ha]
    · rw [del_ne h2, f.2.2 b h2 h, upd_ne h2]
theorem s_raise1 {cls f1 : String} {k j : Nat} (hc : X.calm = true) (tk : Takes X U) (F : ExK X.prog X.w X.K X.mg X.base k cls (spX1 X.K (cA X.K cls) f1)) (hno : PySem.W.findIn X.K (.ref (cA X.K cls)) (Str.ofString f1) = some none) (hr : Room j X.A) (ha : PA X [e] (tA (X.wd T) U fa)) (hj : k + 1 ≤ j := by decide) (hg : Gl X (Str.ofString cls) := by rfl)
    (hdb : (Str.ofString cls == ("__debug__" : Str)) = false := by decide) (he : starEach [e] X.env = (false, eval e X.env) :: starEach [] X.env := by rfl) (hpl : (backTo pos (starEach [] X.env)).any (·.1) = false := by rfl) :
    PS X (.Raise (some (.Call (.Name (Str.ofString cls) p) [e] [] pos)) none p2) (tS (X.wd T) U (sRaise cls [f1] fa)) := by
  obtain ⟨fI, fd, ps, i1, i2, i3, i4⟩ := F.ini
  refine PS.imp (ps_raise hc tk (pmk_oex F.oex i1 i2 i3 (hr.mono hj) i4 .nil passes0 hg F.mg_ ha hdb he hpl)) fun D σ H ⟨ρ, M, δ, w, er, h⟩ => ⟨ρ, M, δ, w, er, Ss.of (rel := relA (X.wd T)) er h fun ds M1 vs ρ1 H1 _ e1 w1 r1 er1 h1 => ?_⟩
  split at h1
  · rename_i hl
    match ds, hl, r1 with
    | [d], _, r1 =>
      obtain ⟨x, rfl, rx⟩ := one_of r1
      refine ⟨(by show 1 ≤ 1000; decide), fun q hq => ⟨q, x, rfl, F.oex, hno, upd_same, fun dx H2 hdx hne fin => ⟨rfl, dx, _, fin.1, fin.2.1, ?_, ?_⟩⟩⟩
      · exact (after_made hq hdx hne fin).1
      · obtain ⟨g1, g2⟩ := after_made hq hdx hne fin
        rw [g2]
        refine h1 _ _ σ ρ1 _ (Ex.new g1) (w1.new g1) (er1.mono (Ex.new g1)) ⟨rfl, dx, _, rfl, w1.fresh g1, upd_same, fun f y hf => ?_⟩
        rw [List.zip_cons_cons, List.lookup_cons] at hf
        cases z : f == f1 with
        | true =>
          rw [z] at hf
          cases hf
          rw [eq_of_beq z]
          exact ⟨x, by simp [List.lookup], rx.mono (Ex.new g1)⟩
        | false => rw [z] at hf; cases hf
  · exact h1.elim
theorem s_raise2 {cls f1 f2 : String} {k j : Nat} (hc : X.calm = true) (tk : Takes X U) (F : ExK X.prog X.w X.K X.mg X.base k cls (spX2 X.K (cA X.K cls) f1 f2)) (hno : PySem.W.findIn X.K (.ref (cA X.K cls)) (Str.ofString f1) = some none) (hno2 : PySem.W.findIn X.K (.ref (cA X.K cls)) (Str.ofString f2) = some none) (hr : Room j X.A)
    (ha : PA X (e :: es) (tA (X.wd T) U fa)) (hff : f1 ≠ f2 := by decide) (hj : k + 1 ≤ j := by decide) (hg : Gl X (Str.ofString cls) := by rfl)
    (hdb : (Str.ofString cls == ("__debug__" : Str)) = false := by decide) (he : starEach (e :: es) X.env = (false, eval e X.env) :: starEach es X.env := by rfl) (hpl : (backTo pos (starEach es X.env)).any (·.1) = false := by rfl) :
    PS X (.Raise (some (.Call (.Name (Str.ofString cls) p) (e :: es) [] pos)) none p2) (tS (X.wd T) U (sRaise cls [f1, f2] fa)) := by
  obtain ⟨fI, fd, ps, i1, i2, i3, i4⟩ := F.ini
  refine PS.imp (ps_raise hc tk (pmk_oex F.oex i1 i2 i3 (hr.mono hj) i4 .nil passes0 hg F.mg_ ha hdb he hpl)) fun D σ H ⟨ρ, M, δ, w, er, h⟩ => ⟨ρ, M, δ, w, er, Ss.of (rel := relA (X.wd T)) er h fun ds M1 vs ρ1 H1 _ e1 w1 r1 er1 h1 => ?_⟩
  split at h1
  · rename_i hl
    match ds, hl, r1 with
    | [d, d2], _, r1 =>
      obtain ⟨x, y, rfl, rx, ry⟩ := two_of r1
      refine ⟨(by show 2 ≤ 1000; decide), fun q hq => ⟨q, x, y, rfl, F.oex, hno, hno2, upd_same, fun dx H2 hdx hne fin => ⟨rfl, dx, _, fin.1, fin.2.1, ?_, ?_⟩⟩⟩
      · exact (after_made hq hdx hne fin).1
      · obtain ⟨g1, g2⟩ := after_made hq hdx hne fin
        rw [g2]
        refine h1 _ _ σ ρ1 _ (Ex.new g1) (w1.new g1) (er1.mono (Ex.new g1)) ⟨rfl, dx, _, rfl, w1.fresh g1, upd_same, fun f z hf => ?_⟩
        rw [List.zip_cons_cons, List.zip_cons_cons, List.lookup_cons, List.lookup_cons] at hf
        cases t1 : f == f1 with
        | true =>
          rw [t1] at hf
          cases hf
          have en : (Str.ofString f1 == Str.ofString f2) = false := by rw [beq_eq_false_iff_ne]; exact fun z => hff (ofString_inj z)
          rw [eq_of_beq t1]
          exact ⟨x, by simp [List.lookup, en], rx.mono (Ex.new g1)⟩
        | false =>
          rw [t1] at hf
          cases t2 : f == f2 with
          | true =>
            simp only [t2] at hf
            cases hf
            rw [eq_of_beq t2]
            exact ⟨y, by simp [List.lookup], ry.mono (Ex.new g1)⟩
          | false => simp only [t2] at hf; cases hf
  · exact h1.elim
def sTry (cs : List (String × Bool)) (s u : S) : S := fun δ M => match s δ M with
  | .ex e δ' M' => (match cs.lookup e.cls with
    | some true => (match u δ' M' with
      | .ex _ _ _ => .bad
      | r => r)
    | some false => .ex e δ' M'
    | none => .bad)
  | r => r
theorem s_try {x : Str} {cs : List (String × Bool)} {cx : Addr} {body suite : List Stmt} {b0 : Stmt} {s u : S} (hs : X.stack = X.env :: X.outer) (hf : X.env.frame = some X.env.locals) (hx : Names X x (.ref cx)) (tk : Takes X U)
    (hcs : ∀ q ∈ cs, PySem.W.exmOne X.K (.ref (cA X.K q.1)) (.ref cx) = some q.2)
    (hb : ∀ (W : WX) (pn : List (Addr × Obj)) (xe : Value → Shared → Prop), Takes (X.tr pn xe) W → PassesOwn (model X.prog X.w) X.A X.env xe → PSs (X.tr pn xe) body (tS (X.wd T) W s))
    (hsu : ∀ (a : Addr) (oe : Obj) (pn : List (Addr × Obj)), PSs (X.suite a ((a, oe) :: pn)) (b0 :: suite) (tS (X.wd T) UF u)) :
    PS X (.Try body [.ExceptHandler (some (.Name x p)) none (b0 :: suite) p2] [] [] pos) (tS (X.wd T) U (sTry cs s u)) := by
  refine PS.imp (ps_try_only hs hf hx tk hb (fun a oe cls d pn _ _ => hsu a oe pn)) fun D σ H ⟨ρ, M, δ, w, er, h⟩ => ⟨ρ, M, δ, w, er, ?_⟩
  unfold sTry at h
  cases q : s δ M with
  | nx δ' M' => rw [q] at h; exact h
  | rt d M' => rw [q] at h; exact h
  | bk δ' M' => rw [q] at h; exact h
  | ct δ' M' => rw [q] at h; exact h
  | bad => rw [q] at h; exact h
  | ex e δ' M' =>
    simp only [q] at h
    intro c dd σ' ρ' H' ex' w' er' rx
    have mem : ∀ {l : List (String × Bool)} {v : Bool}, l.lookup e.cls = some v → (e.cls, v) ∈ l := by
      intro l
      induction l with
      | nil => intro v h; cases h
      | cons t l ih =>
        intro v h
        rw [List.lookup_cons] at h
        cases z : e.cls == t.1 with
        | true => rw [z] at h; cases h; rw [eq_of_beq z]; exact List.mem_cons_self
        | false => rw [z] at h; exact List.mem_cons_of_mem _ (ih h)
    obtain ⟨ec, d, fs, ed, nd, hd, hfs⟩ := id rx
    subst ec
    cases z : cs.lookup e.cls with
    | none => simp only [z] at h; exact h.elim
    | some v =>
      refine ⟨v, hcs _ (mem z), fun hv a ha => ?_, fun hv => ?_⟩
      · subst hv
        simp only [z] at h
        refine ⟨ρ', M', δ', w', er', ?_⟩
        cases q2 : u δ' M' with
        | ex _ _ _ => simp only [q2] at h; exact h.elim
        | nx _ _ => simp only [q2] at h; exact Ss.start (r := .nx _ _) (U := UF) ex' h
        | rt _ _ => simp only [q2] at h; exact Ss.start (r := .rt _ _) (U := UF) ex' h
        | bk _ _ => simp only [q2] at h; exact Ss.start (r := .bk _ _) (U := UF) ex' h
        | ct _ _ => simp only [q2] at h; exact Ss.start (r := .ct _ _) (U := UF) ex' h
        | bad => simp only [q2] at h; exact h.elim
      · subst hv
        simp only [z] at h
        exact h _ dd σ' ρ' H' ex' w' er' rx
end
end Dt
namespace Dt
open PySem PySem.Spec PyProof.Rows L2
def locsD : List D → Option (List Nat)
  | [] => some []
  | .loc n :: r => (locsD r).map (n :: ·)
  | _ => none
theorem locsD_eq : ∀ {ds : List D} {ns : List Nat}, locsD ds = some ns → ds = ns.map D.loc
  | [], _, h => by cases h; rfl
  | d :: ds, ns, h => by
    cases d with
    | loc n =>
      obtain ⟨r, h1, h2⟩ := Option.map_eq_some_iff.mp (show (locsD ds).map (n :: ·) = some ns from h)
      subst h2
      rw [locsD_eq h1]; rfl
    | _ => cases h
def chkL (l : Nat) (ns : List Nat) (M : Mem) : Bool := match M[l]? with
  | some (.lst ds) => decide (locsD ds = some ns)
  | _ => false
theorem chkL_ok {l : Nat} {ns : List Nat} {M : Mem} (h : chkL l ns M = true) : ∃ ds, M[l]? = some (.lst ds) ∧ ds = ns.map D.loc := by
  unfold chkL at h
  split at h
  · rename_i ds hM
    exact ⟨ds, hM, locsD_eq (of_decide_eq_true h)⟩
  · cases h
def lcGoL (l : Nat) (ns : List Nat) (g : G) (t : T) (e : E) (δ : Env) : List Nat → Mem → Res (List D)
  | [], M => if chkL l ns M = true then .ok [] M else .bad
  | n :: r, M => if chkL l ns M = true then (match g (.loc n) δ with
    | none => .bad
    | some δ' => (t δ' M).ne.bind fun c M => if c = true then (e δ' M).ne.bind fun x M => (lcGoL l ns g t e δ r M).bind fun xs M => .ok (x :: xs) M else lcGoL l ns g t e δ r M) else .bad
def lLcLoc (a : E) (g : G) (t : T) (e : E) (vs : List Nat) : Ar := fun δ M => (a δ M).bind fun d M => match d with
  | .loc l => (match M[l]? with
    | some (.lst ds) => (match locsD ds with
      | some ns => if ns.length ≤ 100000 then lcGoL l ns g t e (wipeE δ vs) ns M else .bad
      | none => .bad)
    | _ => .bad)
  | _ => .bad
section
variable {X : Cx} {T : List (Addr × Str)} {U : WX} {pos : Pos}
/-- a comprehension over a list of the store that stays as it is -/
theorem lcL_read {W : Wd} {f : E} {g : G} {t : Dt.T} {el : E} {vs : List Nat} {σ : L2.St} {H : Hp} {Q : VK} (h : tL W U (lLcLoc f g t el vs.reverse) σ H Q) :
    tLc (iList W.K (tE W U f)) (tG W vs g) (tT W UF t) (tE W UF el) vs σ H Q := by
  obtain ⟨ρ, M, δ, w, er, go⟩ := h
  refine ⟨ρ, M, δ, w, er, (Gg.bind (rel := relD W) go).imp fun x0 H1 ⟨ρ1, M1, d0, q0, e1, w1, r0, go1⟩ => ?_⟩
  cases d0 <;> try exact go1.elim
  rename_i l
  obtain ⟨pl, rfl, hpl⟩ := r0
  simp only at go1
  cases qM : M1[l]? with
  | none => rw [qM] at go1; exact go1.elim
  | some ob =>
  cases ob <;> simp only [qM] at go1 <;> try exact go1.elim
  rename_i ds0
  cases qn : locsD ds0 with
  | none => rw [qn] at go1; exact go1.elim
  | some ns =>
  simp only [qn] at go1
  have hcd : ns.length ≤ cap := by
    split at go1
    · assumption
    · exact go1.elim
  rw [if_pos (show ns.length ≤ 100000 from hcd)] at go1
  have there : ∀ (ρ' : List Addr) (M' : Mem) (H' : Hp), Ex ρ1 H1 ρ' H' → WOk W ρ' M' H' → chkL l ns M' = true → ∃ xs, SqL W.K H' pl xs ∧ Rps W.K H' ρ' (ns.map D.loc) xs := fun ρ' M' H' e' w' hc => by
    obtain ⟨ds', h1, h2⟩ := chkL_ok hc
    obtain ⟨xs, h3, h4⟩ := w'.obj l _ pl h1 (e'.at_ hpl)
    exact ⟨xs, SqL.of h3, by rw [← h2]; exact h4⟩
  refine ⟨pl, rfl, let ⟨xs, h3, _⟩ := w1.obj l _ pl qM hpl; ⟨xs, SqL.of h3⟩, ?_⟩
  intro Dl hD
  -- the rest of the list is still to come
  refine ⟨fun i m H' => m = ns.length - i ∧ i ≤ ns.length ∧ ∃ (ρ' : List Addr) (M' : Mem) (acc : List V) (dacc : List D), Ex ρ1 H1 ρ' H' ∧ WOk W ρ' M' H' ∧ H' Dl = some (.lst acc) ∧ Dl ∉ ρ' ∧ Rps W.K H' ρ' dacc acc ∧ dacc.length ≤ i ∧
      Gg W U σ (relL W H) ρ1 H1 ((lcGoL l ns g t el (wipeE δ vs.reverse) (ns.drop i) M').bind fun xs M => .ok (dacc ++ xs) M) Q, ⟨ns.length, by simp, Nat.zero_le _, ρ1, M1, [], [], Ex.new hD, w1.new hD, upd_same, w1.fresh hD, rfl, Nat.le_refl _, ?_⟩, ?_⟩
  · rw [List.drop_zero]
    have z : ((lcGoL l ns g t el (wipeE δ vs.reverse) ns M1).bind fun xs M => (.ok ([] ++ xs) M : Res (List D))) = lcGoL l ns g t el (wipeE δ vs.reverse) ns M1 := by
      cases lcGoL l ns g t el (wipeE δ vs.reverse) ns M1 <;> rfl
    rw [z]
    exact go1
  rintro i m H' ⟨rfl, hi', ρ', M', acc, dacc, e', w', hDl, nD, rac, lac, h'⟩
  by_cases hlt : i < ns.length
  · have hd : ns.drop i = ns[i] :: ns.drop (i + 1) := (List.drop_eq_getElem_cons hlt)
    rw [hd] at h'
    unfold lcGoL at h'
    by_cases hck : chkL l ns M' = true
    case neg => rw [if_neg hck] at h'; exact h'.elim
    rw [if_pos hck] at h'
    obtain ⟨xs0, hq0, hr0⟩ := there ρ' M' H' e' w' hck
    obtain ⟨x1, hx1, rx1⟩ := hr0.get (i := i) (d := .loc ns[i]) (by rw [List.getElem?_map, List.getElem?_eq_getElem hlt]; rfl)
    refine .inr ⟨⟨xs0, x1, hq0, hx1⟩, fun H2 => i + 1 ≤ ns.length ∧ ∃ (ρ2 : List Addr) (M2 : Mem) (acc : List V) (dacc : List D), Ex ρ1 H1 ρ2 H2 ∧ WOk W ρ2 M2 H2 ∧ H2 Dl = some (.lst acc) ∧ Dl ∉ ρ2 ∧ Rps W.K H2 ρ2 dacc acc ∧ dacc.length ≤ i + 1 ∧
      Gg W U σ (relL W H) ρ1 H1 ((lcGoL l ns g t el (wipeE δ vs.reverse) (ns.drop (i + 1)) M2).bind fun xs M => .ok (dacc ++ xs) M) Q, fun H2 q => ⟨ns.length - (i + 1), by omega, rfl, q⟩, fun x H2 y => ?_⟩
    obtain ⟨eH, ey⟩ := y
    subst eH
    have exx := ey xs0 hq0
    rw [hx1] at exx
    cases exx
    have ex2 : Ex ρ' H2 ρ' H2 := Ex.refl
    have w2 := w'
    have hDl2 : H2 Dl = some (.lst acc) := hDl
    refine ⟨ρ', wipeE δ vs.reverse, .loc ns[i], ER.wipe vs ((er.mono e1).mono (e'.trans ex2)), rx1, ?_⟩
    cases q : g (.loc ns[i]) (wipeE δ vs.reverse) with
    | none => rw [q] at h'; exact h'.elim
    | some δ3 =>
      simp only [q] at h'
      refine fun σ3 er3 ag => ⟨wipe_agree ag, ρ', M', δ3, w2, er3, ?_⟩
      cases qt : t δ3 M' with
      | bad => rw [qt] at h'; exact h'.elim
      | ex e M3 => rw [qt] at h'; exact h'.elim
      | ok c M3 =>
        rw [qt] at h'
        intro b ρ3 H3 e3 w3 rb
        have rb : b = c := rb
        subst rb
        have hDl3 : H3 Dl = some (.lst acc) := e3.keep _ _ hDl2 nD fun ps z => by cases z
        have e13 := (e'.trans ex2).trans e3
        have nD3 : Dl ∉ ρ3 := fun z => by
          obtain ⟨x, q1, q2⟩ := e13.more
          obtain ⟨x2, q3, q4⟩ := (ex2.trans e3).more
          rw [q3] at z
          rcases List.mem_append.mp z with z | z
          · exact nD z
          · exact (q4 _ z).ne hDl (fun _ z => by cases z) rfl
        cases b with
        | false =>
          refine iteF ⟨hlt, ρ3, M3, acc, dacc, e13, w3, hDl3, nD3, (rac.mono ex2).mono e3, Nat.le_succ_of_le lac, ?_⟩
          exact h'
        | true =>
          refine iteT ⟨ρ3, M3, δ3, w3, er3.mono e3, ?_⟩
          simp only [Res.ne_ok, Res.bind_ok, if_true] at h'
          cases qe : el δ3 M3 with
          | bad => rw [qe] at h'; exact h'.elim
          | ex e M4 => rw [qe] at h'; exact h'.elim
          | ok y M4 =>
            rw [qe] at h'
            simp only [Res.ne_ok, Res.bind_ok] at h'
            intro yv ρ4 H4 e4 w4 r4
            have hDl4 : H4 Dl = some (.lst acc) := e4.keep _ _ hDl3 nD3 fun ps z => by cases z
            have nD4 : Dl ∉ ρ4 := fun z => by
              obtain ⟨x2, q3, q4⟩ := e4.more
              rw [q3] at z
              rcases List.mem_append.mp z with z | z
              · exact nD3 z
              · exact (q4 _ z).ne hDl3 (fun _ z => by cases z) rfl
            have rac4 : Rps W.K H4 ρ4 dacc acc := ((rac.mono ex2).mono e3).mono e4
            have up : Mo ρ4 H4 ρ4 (upd H4 Dl (.lst (acc ++ [yv]))) := ⟨fun _ _ h => h, fun a xs h => by rw [upd_ne (fun z => by rw [z, hDl4] at h; cases h)]; exact h, fun a o u h => by rw [upd_ne (fun z => by rw [z, hDl4] at h; cases h)]; exact h⟩
            have e14 : Ex ρ1 H1 ρ4 H4 := e13.trans e4
            refine ⟨acc, hDl4, ?_, hlt, ρ4, M4, acc ++ [yv], dacc ++ [y], Ex.put hDl4 nD4 (fun _ z => by cases z) (fun _ _ z => by cases z) e14 (Fz.of hD), ?_, upd_same, nD4, ?_, by rw [List.length_append]; simp; exact lac, ?_⟩
            · rw [← rac4.length]
              exact Nat.lt_of_le_of_lt (Nat.le_trans (Nat.le_trans lac hi') hcd) (by decide)
            · refine ⟨w4.len, w4.nd, fun l u a h1 h2 => (w4.obj l u a h1 h2).moM up fun v hv => ?_, fun q hq => ?_⟩
              · rw [upd_ne (fun z => nD4 (by rw [← z]; exact List.mem_of_getElem? h2))]; exact hv
              · obtain ⟨ps, a1, a2, a3⟩ := w4.tabs q hq
                refine ⟨ps, by rw [upd_ne (fun z => by rw [z, hDl4] at a1; cases a1)]; exact a1, a2, fun pos cv hc => ?_⟩
                obtain ⟨c, f1, f2⟩ := a3 pos cv hc
                exact ⟨c, f1, by rw [upd_ne (fun z => by rw [z, hDl4] at f2; unfold LamX.CodeO at f2; cases f2)]; exact f2⟩
            · exact Rps.append (Rps.moM up _ _ rac4) ⟨yv, [], rfl, Rp.moM up _ _ r4, rfl⟩
            · have z : ((lcGoL l ns g t el (wipeE δ vs.reverse) (ns.drop (i + 1)) M4).bind fun xs M => (.ok (dacc ++ [y] ++ xs) M : Res (List D))) =
                  (((lcGoL l ns g t el (wipeE δ vs.reverse) (ns.drop (i + 1)) M4).bind fun xs M => .ok (y :: xs) M).bind fun xs M => .ok (dacc ++ xs) M) := by
                cases lcGoL l ns g t el (wipeE δ vs.reverse) (ns.drop (i + 1)) M4 <;> simp
              rw [z]
              exact h'
  · have ei : i = ns.length := by omega
    subst ei
    rw [List.drop_length] at h'
    unfold lcGoL at h'
    by_cases hck : chkL l ns M' = true
    case neg => rw [if_neg hck] at h'; exact h'.elim
    rw [if_pos hck] at h'
    obtain ⟨xs0, hq0, hr0⟩ := there ρ' M' H' e' w' hck
    refine .inl ⟨⟨xs0, hq0, by rw [← hr0.length, List.length_map]; exact Nat.le_refl _⟩, ?_⟩
    have h' : Gg W U σ (relL W H) ρ1 H1 (.ok (dacc ++ []) M') Q := h'
    rw [List.append_nil] at h'
    exact h' (V.ref Dl) ρ' H' e' w' ⟨Dl, acc, rfl, e1.there Dl (Fz.of hD), nD, hDl, rac⟩
theorem pl_lcLoc {elt tg iter : Expr} {ifs : List Expr} {scope : Scope} {own : List (Str × Nat)} {f : E} {g : G} {t : Dt.T} {el : E} (hc : X.calm = true) (hN : X.N.Nodup) (hi : PE X iter (tE (X.wd T) U f)) (ok : BlkOk X.N X.env.scope scope own)
    (hg : ∀ (s : Shared) (H : Hp) (C : Addr) (cl : List (Str × Addr)) (fp : List Addr), PG (X.blk s H scope (compEnvC scope cl C X.env) fp) tg (tG (X.wd T) (own.map (·.2)) g))
    (ht : ∀ (s : Shared) (H : Hp) (C : Addr) (cl : List (Str × Addr)) (fp : List Addr), PTs (X.blk s H scope (compEnvC scope cl C X.env) fp) ifs (tT (X.wd T) UF t))
    (he : ∀ (s : Shared) (H : Hp) (C : Addr) (cl : List (Str × Addr)) (fp : List Addr), PE (X.blk s H scope (compEnvC scope cl C X.env) fp) elt (tE (X.wd T) UF el)) (hs : ∀ x, foldedSetIterable iter X.env x = pure x := by intro _; rfl) :
    PE X (.ListComp elt [⟨tg, iter, ifs, 0⟩] scope pos) (tL (X.wd T) U (lLcLoc f g t el (own.map (·.2)).reverse)) := PE.imp (pe_lc hc hN (pi_list hi) ok hg ht he hs) fun _ _ _ h => lcL_read h
end
section
variable {P : Program} {w : World} {K : PySem.W.Frag} {mg : Str → Option Value} {base : Heap} {T : List (Addr × Str)} {x y qual : Str} {params : Arguments} {body : List Stmt} {scope : Scope} {dvs : List V} {kws : List (Str × V)} {f : Addr} {fd : FuncData} {N ps : List Str} {k n : Nat} {st : S}
/-- .. for the one code object -/
def BodC (P : Program) (w : World) (K : PySem.W.Frag) (mg : Str → Option Value) (base : Heap) (T : List (Addr × Str)) (k : Nat) (N : List Str) (qual : Str) (scope : Scope) (body : List Stmt) (st : S) (cdv : Value) : Prop :=
  ∀ (f : Addr) (A : Around) (outer : List PySem.Env) (s : Shared) (H : Hp) (E : XK), Room k (A.deeper (envOfC qual scope s.heap.objs.size f cdv)) →
    Takes (cxOf (L2.CX P w) P w K mg base N qual scope f cdv A outer s H E) (fun c d _ H' => E c d H') →
    PassesOwn (model P w) (A.deeper (envOfC qual scope s.heap.objs.size f cdv)) (envOfC qual scope s.heap.objs.size f cdv) (cxOf (L2.CX P w) P w K mg base N qual scope f cdv A outer s H E).xe →
    PSs (cxOf (L2.CX P w) P w K mg base N qual scope f cdv A outer s H E) body (tS ⟨P, w, K, T⟩ (fun c d _ H' => E c d H') st)
theorem dfc_of {p : He.Defn} (hf : He.fAd K p = f) (hm : mg y = some (.ref f)) (F : FunD K x qual params body scope [] [] f fd) (S : FnScope N ps scope) (hn : ps.length = n)
    (hb : ∀ (kV doc pm : Value) (an : Option Addr) (cdv ct : Value) (us : List Value), us.length = ps.length → bindArgs (PySem.W.fnOf x qual params body scope .none kV doc pm an cdv ct) ⟨us, []⟩ = pure (ps.zip us))
    (h : BodC P w K mg base T k N qual scope body st (.ref (He.codeOf K p))) : Df P w K mg base T (k + 1) y n (runF n N.length st) := by
  have F0 := F
  obtain ⟨oc, od, dV, kV, doc, pm, an, cdv, ct, osl, rfl, lk, hcd, _, _⟩ := F.ex
  obtain ⟨c, rfl⟩ := He.codeIn_ref hcd
  subst hf
  rw [He.codeOf_eq lk rfl] at h
  refine ⟨⟨_, _, ps, hm, F0.kp, fn_of lk hcd S (fun vs H Q E h => (spM_len h).trans hn.symm) fun A outer s H vs Q E hr hsp => ⟨_, h _ A outer s H E hr (takes_of rfl rfl rfl rfl) (passes_of rfl), ?_⟩, F0.bindsN hb⟩, runF_len⟩
  obtain ⟨ρ, M, ds, w, r, _, go⟩ := hsp
  exact run_read w r go
theorem dfkc_of {j : Nat} {ks : List Str} {p : He.Defn} (hf : He.fAd K p = f) (hm : mg y = some (.ref f)) (F : FunD K x qual params body scope [] kws f fd) (S : FnScope N ps scope) (hn : ps.length = n + j) (lk' : ks.length = j)
    (hb : ∀ (kV doc pm : Value) (an : Option Addr) (cdv ct : Value) (us ws : List Value), us.length = n → ws.length = ks.length → bindArgs (PySem.W.fnOf x qual params body scope .none kV doc pm an cdv ct) ⟨us, ks.zip ws⟩ = pure (ps.zip (us ++ ws)))
    (h : BodC P w K mg base T k N qual scope body st (.ref (He.codeOf K p))) : True := trivial
end
end Dt
namespace Dt
open PySem PySem.Spec PyProof.Rows L2
section
variable {X : Cx} {T : List (Addr × Str)} {U : WX} {pos : Pos} {e a b c : Expr} {es : List Expr} {f f1 f2 f3 : E} {fa l : Ar}
theorem pd_ix (ha : PE X a (tE (X.wd T) U f1)) (hb : PE X b (tE (X.wd T) U f2)) (hs : PlainIx b := by exact fun _ _ => rfl) : PE X (.Subscript a b pos) (tE (X.wd T) U (eB dIx f1 f2)) :=
  PE.imp (pe_ix (ix_tup.or ix_list) ha hb hs) fun _ _ _ h => lift2 ok_ix h
/-- x, y = a, b -/
def sPar (is : List Nat) (a : Ar) : S := fun δ M => (a δ M).st δ fun ds M => if ds.length = is.length then .nx ((is.zip ds).foldl (fun δ p => δ.set p.1 (some p.2)) δ) M else .bad
theorem s_par {i j : Nat} {x y : Str} {px py pt : Pos} {kt k2 : Nat} {pt2 : Pos} (hc : X.calm = true) (hN : X.N.Nodup) (ha : PA X [a, b] (tA (X.wd T) U fa)) (hij : i ≠ j := by decide) (hi : X.N[i]? = some x := by rfl) (hj : X.N[j]? = some y := by rfl)
    (hx : X.env.scope.names.lookup x = some .local := by rfl) (hy : X.env.scope.names.lookup y = some .local := by rfl)
    (hw : swappedStores [.Tuple [.Name x px, .Name y py] kt pt] (.Tuple [a, b] k2 pt2) X.env = pure (some [x, y]) := by rfl)
    (hs : swapsWithSole [.Tuple [.Name x px, .Name y py] kt pt] (.Tuple [a, b] k2 pt2) pos.line X.env = pure false := by rfl) :
    PS X (.Assign [.Tuple [.Name x px, .Name y py] kt pt] (.Tuple [a, b] k2 pt2) pos) (tS (X.wd T) U (sPar [i, j] fa)) := by
  refine PS.imp (ps_par hc hN hi hj hij hx hy ha hw hs) fun D σ H ⟨ρ, M, δ, w, er, h⟩ => ⟨ρ, M, δ, w, er, Ss.of (rel := relA (X.wd T)) er h fun ds M1 vs ρ1 H1 _ e1 w1 r1 er1 h1 => ?_⟩
  split at h1
  · rename_i hl
    match ds, hl, r1, h1 with
    | [d, d2], _, r1, h1 =>
      obtain ⟨x, y, rfl, rx, ry⟩ := two_of r1
      exact ⟨x, y, rfl, h1 _ ρ1 H1 Ex.refl w1 ((er1.set rx).set ry)⟩
  · exact h1.elim
theorem s_par3 {i j l : Nat} {x y z : Str} {px py pz pt : Pos} {kt k2 : Nat} {pt2 : Pos} (hc : X.calm = true) (hN : X.N.Nodup) (ha : PA X [a, b, c] (tA (X.wd T) U fa)) (hij : i ≠ j := by decide) (hil : i ≠ l := by decide) (hjl : j ≠ l := by decide) (hi : X.N[i]? = some x := by rfl) (hj : X.N[j]? = some y := by rfl) (hl : X.N[l]? = some z := by rfl)
    (hx : X.env.scope.names.lookup x = some .local := by rfl) (hy : X.env.scope.names.lookup y = some .local := by rfl) (hz : X.env.scope.names.lookup z = some .local := by rfl)
    (hw : swappedStores [.Tuple [.Name x px, .Name y py, .Name z pz] kt pt] (.Tuple [a, b, c] k2 pt2) X.env = pure (some [x, y, z]) := by rfl)
    (hs : swapsWithSole [.Tuple [.Name x px, .Name y py, .Name z pz] kt pt] (.Tuple [a, b, c] k2 pt2) pos.line X.env = pure false := by rfl) :
    PS X (.Assign [.Tuple [.Name x px, .Name y py, .Name z pz] kt pt] (.Tuple [a, b, c] k2 pt2) pos) (tS (X.wd T) U (sPar [i, j, l] fa)) := by
  refine PS.imp (ps_par3 hc hN hi hj hl hij hil hjl hx hy hz ha hw hs) fun D σ H ⟨ρ, M, δ, w, er, h⟩ => ⟨ρ, M, δ, w, er, Ss.of (rel := relA (X.wd T)) er h fun ds M1 vs ρ1 H1 _ e1 w1 r1 er1 h1 => ?_⟩
  split at h1
  · rename_i hl
    match ds, hl, r1, h1 with
    | [d, d2, d3], _, r1, h1 =>
      obtain ⟨x, q, rfl, rx, r2⟩ := r1
      obtain ⟨y, z, rfl, ry, rz⟩ := two_of r2
      exact ⟨x, y, z, rfl, h1 _ ρ1 H1 Ex.refl w1 (((er1.set rx).set ry).set rz)⟩
  · exact h1.elim
theorem blkOk_cl (N : List Str) (S : Scope) {scope : Scope} {own : List (Str × Nat)} (h : blkC N S scope own = true) : BlkOk N S scope own := blkOk_by h
theorem u1 {k : Nat} {A : Around} (h : Room k A) : A.units + 1 < cLine := by have := h.units; omega
theorem d3 {k : Nat} {A : Around} (h : Room k A) : A.depth + 3 < recursionLimit := by have := h.dp; omega
theorem u64 {k : Nat} (h : Room k X.A) : X.A.units + 64 < cLine := h.units
theorem pd_append {o : Expr} {apos cpos : Pos} (ho : PE X o (tE (X.wd T) U f)) (ha : PA X (e :: es) (tA (X.wd T) U fa))
    (hbase : attributeBase o "append" X.env (eval o X.env) = eval o X.env := by rfl)
    (hfew : ((backTo cpos (starEach (e :: es) X.env)).all (fun x => !x.1) && (backToKw cpos (keywordEach [] X.env)).all (fun x => x.1.isSome)
      && decide ((e :: es).length + ([] : List Keyword).length + (if ([] : List Keyword).isEmpty then 0 else 1) < 30)) = true := by rfl)
    (hline : (apos.endLine == cpos.line) = true := by rfl) (hs : starEach (e :: es) X.env = (false, eval e X.env) :: starEach es X.env := by rfl) (hplain : (backTo cpos (starEach es X.env)).any (·.1) = false := by rfl) :
    PE X (.Call (.Attribute o "append" apos) (e :: es) [] cpos) (tE (X.wd T) U (eM mAppend f fa)) := pd_m PySem.F.slot_list_append PySem.F.type_list_append mt_append okm_append ho ha hbase hfew hline hs hplain
theorem pd_pop {o : Expr} {apos cpos : Pos} (ho : PE X o (tE (X.wd T) U f)) (ha : PA X (e :: es) (tA (X.wd T) U fa))
    (hbase : attributeBase o "pop" X.env (eval o X.env) = eval o X.env := by rfl)
    (hfew : ((backTo cpos (starEach (e :: es) X.env)).all (fun x => !x.1) && (backToKw cpos (keywordEach [] X.env)).all (fun x => x.1.isSome)
      && decide ((e :: es).length + ([] : List Keyword).length + (if ([] : List Keyword).isEmpty then 0 else 1) < 30)) = true := by rfl)
    (hline : (apos.endLine == cpos.line) = true := by rfl) (hs : starEach (e :: es) X.env = (false, eval e X.env) :: starEach es X.env := by rfl) (hplain : (backTo cpos (starEach es X.env)).any (·.1) = false := by rfl) :
    PE X (.Call (.Attribute o "pop" apos) (e :: es) [] cpos) (tE (X.wd T) U (eM mPop f fa)) := pd_m PySem.F.slot_list_pop PySem.F.type_list_pop mt_popAt okm_pop ho ha hbase hfew hline hs hplain
theorem pd_insert {o : Expr} {apos cpos : Pos} (ho : PE X o (tE (X.wd T) U f)) (ha : PA X (e :: es) (tA (X.wd T) U fa))
    (hbase : attributeBase o "insert" X.env (eval o X.env) = eval o X.env := by rfl)
    (hfew : ((backTo cpos (starEach (e :: es) X.env)).all (fun x => !x.1) && (backToKw cpos (keywordEach [] X.env)).all (fun x => x.1.isSome)
      && decide ((e :: es).length + ([] : List Keyword).length + (if ([] : List Keyword).isEmpty then 0 else 1) < 30)) = true := by rfl)
    (hline : (apos.endLine == cpos.line) = true := by rfl) (hs : starEach (e :: es) X.env = (false, eval e X.env) :: starEach es X.env := by rfl) (hplain : (backTo cpos (starEach es X.env)).any (·.1) = false := by rfl) :
    PE X (.Call (.Attribute o "insert" apos) (e :: es) [] cpos) (tE (X.wd T) U (eM mIns f fa)) := pd_m PySem.F.slot_list_insert PySem.F.type_list_insert mt_insert okm_ins ho ha hbase hfew hline hs hplain
def dAddT : D → D → Mem → Res D
  | .tup xs, .tup ys, M => if xs.length + ys.length ≤ cap then .ok (.tup (xs ++ ys)) M else .bad
  | _, _, _ => .bad
theorem ok_addT : OK2 (X.wd T) (rCatA X.K) dAddT := by
  intro U σ ρ M H a b x y Q w ra rb go
  cases a <;> try exact go.elim
  cases b <;> try exact go.elim
  exact cat_ok w ra rb go
/-- what _law_said tells of an ask -/
def saidR (r : Res D) : Res D := match r with
  | .ok d M => .ok (.tup [.str "told", d]) M
  | .ex e M => (match e.cls, e.fs.lookup "word", e.fs.lookup "at" with
    | "NoPaper", some a, some b => .ok (.tup [.str "paper", a, b]) M
    | "NoStep", some a, _ => .ok (.tup [.str "step", a]) M
    | _, _, _ => .bad)
  | .bad => .bad
def eSaid (f : E) : E := fun δ M => saidR (f δ M)
end
end Dt
namespace Dt
open PySem L2
def d_BEGINNING : D := .tup [.int 0, .non, .bl false]
def d_WAKE_WORDS : D := .tup [.str "fill", .str "poll", .str "unmask", .str "tick", .str "raise"]
/-- turns enough for common -/
def fuelGcd : Env → Nat := fun δ => match δ[1]? with
  | some (some (D.int i)) => i.natAbs + 2
  | _ => 0
def m_is_number : S := (sRet (eAnd (eU (dIsi "int") (eV 0)) (eAnd (eU dNot (eU (dIsi "bool") (eV 0))) (eB dGe (eV 0) (eK (.int 0))))))
def f_is_number : Fn := runF 1 1 m_is_number
def m_mix_of : S := (sSeq (sAsg (gT [(gT [(gN 1), (gN 2)]), (gT [(gN 3), (gN 4)]), (gN 5)]) (eV 0))
  (sSeq (sAsg (gN 6) (eB dAdd (eB dAdd (eV 2) (eV 4)) (eV 5)))
  (sSeq (sAsg (gN 7) (eL dSumL (lLc (iEnumD 1 (eV 6)) (gT [(gN 8), (gN 9)]) tYes (eB dMul (eV 8) (eB dAdd (eSIndex (eK (.str "abcdefghijklmnopqrstuvwxyz")) (eV 9)) (eK (.int 1)))) [9, 8])))
  (sRet (eB dMod (eB dAdd (eB dAdd (eV 7) (eV 1)) (eB dMul (eK (.int 2)) (eV 3))) (eK (.int 1009)))))))
def f_mix_of : Fn := runF 1 10 m_mix_of
def m_lane_of : S := (sRet (eMN gGetN (eU dDictOf (eV 0)) (aCons (eV 1) (aCons (eB dMod (eC f_mix_of (aCons (eV 1) aNil)) (eV 2)) aNil))))
def f_lane_of : Fn := runF 3 3 m_lane_of
def m_common : S := (sSeq (sWhile fuelGcd (tB (eB dNe (eV 1) (eK (.int 0)))) (sPar [0, 1] (aCons (eV 1) (aCons (eB dMod (eV 0) (eV 1)) aNil))))
  (sRet (eV 0)))
def f_common : Fn := runF 2 2 m_common
def m_ratio : S := (sSeq (sAsg (gN 2) (eC f_common (aCons (eV 0) (aCons (eV 1) aNil))))
  (sRet (eN dTup (aCons (eB dDiv (eV 0) (eV 2)) (aCons (eB dDiv (eV 1) (eV 2)) aNil)))))
def f_ratio : Fn := runF 2 3 m_ratio
def m_added : S := (sRet (eC f_ratio (aCons (eB dAdd (eB dMul (eB dIx (eV 0) (eK (.int 0))) (eB dIx (eV 1) (eK (.int 1)))) (eB dMul (eB dIx (eV 1) (eK (.int 0))) (eB dIx (eV 0) (eK (.int 1))))) (aCons (eB dMul (eB dIx (eV 0) (eK (.int 1))) (eB dIx (eV 1) (eK (.int 1)))) aNil))))
def f_added : Fn := runF 2 2 m_added
def m_times : S := (sRet (eC f_ratio (aCons (eB dMul (eB dIx (eV 0) (eK (.int 0))) (eB dIx (eV 1) (eK (.int 0)))) (aCons (eB dMul (eB dIx (eV 0) (eK (.int 1))) (eB dIx (eV 1) (eK (.int 1)))) aNil))))
def f_times : Fn := runF 2 2 m_times
def m_is_less : S := (sRet (eB dLt (eB dMul (eB dIx (eV 0) (eK (.int 0))) (eB dIx (eV 1) (eK (.int 1)))) (eB dMul (eB dIx (eV 1) (eK (.int 0))) (eB dIx (eV 0) (eK (.int 1))))))
def f_is_less : Fn := runF 2 2 m_is_less
def m_lesser : S := (sRet (eIf (tB (eC f_is_less (aCons (eV 1) (aCons (eV 0) aNil)))) (eV 1) (eV 0)))
def f_lesser : Fn := runF 2 2 m_lesser
def m_purse_filled : S := (sSeq (sAsg (gT [(gN 2), (gN 3), (gN 4)]) (eV 0))
  (sRet (eN dTup (aCons (eC f_lesser (aCons (eC f_added (aCons (eV 2) (aCons (eC f_times (aCons (eV 3) (aCons (eN dTup (aCons (eV 1) (aCons (eK (.int 1)) aNil))) aNil))) aNil))) (aCons (eV 4) aNil))) (aCons (eV 3) (aCons (eV 4) aNil))))))
def f_purse_filled : Fn := runF 2 5 m_purse_filled
def m_owns : S := (sRet (eAnd (eB dLt (eB dIx (eV 2) (eK (.int 0))) (eN dLen (aCons (eV 0) aNil))) (eB dEq (eB dIx (eV 0) (eB dIx (eV 2) (eK (.int 0)))) (eV 1))))
def f_owns : Fn := runF 3 3 m_owns
def m_count_on : S := (sRet (eB dMod (eB dAdd (eV 0) (eV 2)) (eB dMul (eK (.int 2)) (eV 1))))
def f_count_on : Fn := runF 3 3 m_count_on
def m_count_gap : S := (sRet (eB dMod (eB dSub (eV 1) (eV 0)) (eB dMul (eK (.int 2)) (eV 2))))
def f_count_gap : Fn := runF 3 3 m_count_gap
def m_void_ring : S := (sRet (eN dTup (aCons (eV 0) (aCons (eK (.int 0)) (aCons (eK (.int 0)) (aCons (eB dMulT (eN dTup (aCons (eK .non) aNil)) (eV 0)) aNil))))))
def f_void_ring : Fn := runF 1 1 m_void_ring
def m_held_in : S := (sSeq (sAsg (gT [(gN 1), (gN 2), (gN 3), (gN 4)]) (eV 0))
  (sRet (eC f_count_gap (aCons (eV 3) (aCons (eV 2) (aCons (eV 1) aNil))))))
def f_held_in : Fn := runF 1 5 m_held_in
def m_laid : S := (sRet (eB dAdd (eB dAdd (eSl (eV 0) qN (qE (eV 1))) (eN dTup (aCons (eV 2) aNil))) (eSl (eV 0) (qE (eB dAdd (eV 1) (eK (.int 1)))) qN)))
def f_laid : Fn := runF 3 3 m_laid
def m_put_in : S := (sSeq (sAsg (gT [(gN 2), (gN 3), (gN 4), (gN 5)]) (eV 0))
  (sSeq (sIf (tB (eB dEq (eC f_held_in (aCons (eV 0) aNil)) (eV 2))) (sRaise "NoPlace" ["word"] (aCons (eK (.str "full")) aNil)) sNext)
  (sRet (eN dTup (aCons (eV 2) (aCons (eC (fun ds M => f_count_on (ds ++ [.int 1]) M) (aCons (eV 3) (aCons (eV 2) aNil))) (aCons (eV 4) (aCons (eC f_laid (aCons (eV 5) (aCons (eB dMod (eV 3) (eV 2)) (aCons (eV 1) aNil)))) aNil))))))))
def f_put_in : Fn := runF 2 6 m_put_in
def m_take_out : S := (sSeq (sAsg (gT [(gN 1), (gN 2), (gN 3), (gN 4)]) (eV 0))
  (sSeq (sIf (tB (eB dEq (eC f_held_in (aCons (eV 0) aNil)) (eK (.int 0)))) (sRaise "NoPlace" ["word"] (aCons (eK (.str "void")) aNil)) sNext)
  (sRet (eN dTup (aCons (eN dTup (aCons (eV 1) (aCons (eV 2) (aCons (eC (fun ds M => f_count_on (ds ++ [.int 1]) M) (aCons (eV 3) (aCons (eV 1) aNil))) (aCons (eC f_laid (aCons (eV 4) (aCons (eB dMod (eV 3) (eV 1)) (aCons (eK .non) aNil)))) aNil))))) (aCons (eB dIx (eV 4) (eB dMod (eV 3) (eV 1))) aNil))))))
def f_take_out : Fn := runF 1 5 m_take_out
def m_void_lane : S := (sRet (eN dTup (aCons (eC f_void_ring (aCons (eV 0) aNil)) (aCons (eK (.int 0)) (aCons (eK (.int 0)) (aCons (eN dTup aNil) (aCons (eC f_void_ring (aCons (eV 0) aNil)) (aCons (eN dTup aNil) (aCons (eK .non) (aCons (eK (.bl false)) aNil))))))))))
def f_void_lane : Fn := runF 1 1 m_void_lane
def m_half_of : S := (sRet (eN dTup (aCons (eV 0) (aCons (eL dTupL (lLc (iRng1D (aCons (eV 2) aNil)) (gN 4) tYes (eC f_void_lane (aCons (eV 3) aNil)) [4])) (aCons ePt0 (aCons ePt0 (aCons ePt0 (aCons ePt0 (aCons ePt0 (aCons (eV 1) (aCons (eK (.int 0)) aNil)))))))))))
def f_half_of : Fn := runF 4 5 m_half_of
def m_turned_at : S := (sRet (eB dAdd (eB dAdd (eSl (eV 0) qN (qE (eV 1))) (eN dTup (aCons (eV 2) aNil))) (eSl (eV 0) (qE (eB dAdd (eV 1) (eK (.int 1)))) qN)))
def f_turned_at : Fn := runF 3 3 m_turned_at
def m_lane_turned : S := (sSeq (sAsg (gN 4) (eB dIx (eV 0) (eK (.int 1))))
  (sRet (eC f_turned_at (aCons (eV 0) (aCons (eK (.int 1)) (aCons (eC f_turned_at (aCons (eV 4) (aCons (eV 1) (aCons (eC f_turned_at (aCons (eB dIx (eV 4) (eV 1)) (aCons (eV 2) (aCons (eV 3) aNil)))) aNil)))) aNil))))))
def f_lane_turned : Fn := runF 4 5 m_lane_turned
def m_by_talk : S := (sRet (eMN gGetN (eU dDictOf (eV 0)) (aCons (eV 1) (aCons (eV 2) aNil))))
def f_by_talk : Fn := runF 3 3 m_by_talk
def m_with_talk : S := (sSeq (sAsg (gN 3) (eU dDictOf (eV 0)))
  (sSeq (sPutN (eV 3) (eV 1) (eV 2))
  (sRet (eL dPtL (lSortItems (eV 3))))))
def f_with_talk : Fn := runF 3 4 m_with_talk
def m_owns_it : S := (sRet (eC f_owns (aCons (eV 1) (aCons (eB dIx (eB dIx (eV 0) (eK (.int 0))) (eK (.int 1))) (aCons (eV 2) aNil)))))
def f_owns_it : Fn := runF 3 3 m_owns_it
def m_page_at : S := (sSeq (sIf (tB (eB dGe (eB dIx (eV 1) (eK (.int 0))) (eN dLen (aCons (eV 0) aNil)))) (sRaise "NoStep" ["word"] (aCons (eK (.str "page")) aNil)) sNext)
  (sRet (eB dIx (eV 0) (eB dIx (eV 1) (eK (.int 0))))))
def f_page_at : Fn := runF 2 2 m_page_at
def m_words_at : S := (sSeq (sAsg (gT [(gN 2), (gN 3), (gN 4)]) (eV 1))
  (sRet (eSl (eC f_page_at (aCons (eV 0) (aCons (eV 1) aNil))) (qE (eV 3)) (qE (eB dAdd (eV 3) (eV 4))))))
def f_words_at : Fn := runF 2 5 m_words_at
def m_written : S := (sSeq (sAsg (gT [(gN 3), (gN 4), (gN 5)]) (eV 1))
  (sSeq (sAsg (gN 6) (eC f_page_at (aCons (eV 0) (aCons (eV 1) aNil))))
  (sSeq (sIf (tB (eB dGt (eN dLen (aCons (eV 2) aNil)) (eV 5))) (sRaise "NoStep" ["word"] (aCons (eK (.str "many")) aNil)) sNext)
  (sRet (eB dAdd (eB dAdd (eSl (eV 0) qN (qE (eV 3))) (eN dTup (aCons (eB dAdd (eB dAdd (eSl (eV 6) qN (qE (eV 4))) (eV 2)) (eSl (eV 6) (qE (eB dAdd (eV 4) (eN dLen (aCons (eV 2) aNil)))) qN)) aNil))) (eSl (eV 0) (qE (eB dAdd (eV 3) (eK (.int 1)))) qN))))))
def f_written : Fn := runF 3 7 m_written
def m_is_due : S := (sSeq (sAsg (gT [(gN 3), (gN 4), (gN 5)]) (eV 0))
  (sSeq (sAsg (gT [(gN 6), (gN 7)]) (eV 2))
  (sRet (eAnd (eU dNot (eV 5)) (eAnd (eB dGt (eV 3) (eK (.int 0))) (eOr (eB dGe (eV 3) (eV 6)) (eB dGe (eB dSub (eV 1) (eV 4)) (eV 7))))))))
def f_is_due : Fn := runF 3 8 m_is_due
def m_befell : S := (sSeq (sAsg (gT [(gN 2), (gN 3), (gN 4)]) (eV 0))
  (sSeq (sAsg (gT [(gN 5), (gN 6), (gN 7)]) (eV 1))
  (sSeq (sIf (tB (eB dEq (eV 5) (eK (.str "fill")))) (sRet (eN dTup (aCons (eB dAdd (eV 2) (eK (.int 1))) (aCons (eIf (tB (eB dEq (eV 2) (eK (.int 0)))) (eV 6) (eV 3)) (aCons (eV 4) aNil))))) sNext)
  (sSeq (sIf (tB (eB dEq (eV 5) (eK (.str "poll")))) (sRet (eN dTup (aCons (eB dSub (eV 2) (eV 7)) (aCons (eIf (tB (eB dEq (eV 2) (eV 7))) (eK .non) (eV 3)) (aCons (eV 4) aNil))))) sNext)
  (sSeq (sIf (tAnd (tB (eB dEq (eV 5) (eK (.str "unmask")))) (tB (eV 4))) (sRet (eN dTup (aCons (eV 2) (aCons (eIf (tB (eB dGt (eV 2) (eK (.int 0)))) (eV 6) (eK .non)) (aCons (eK (.bl false)) aNil))))) sNext)
  (sRet (eIf (tB (eB dEq (eV 5) (eK (.str "raise")))) (eN dTup (aCons (eV 2) (aCons (eV 3) (aCons (eK (.bl true)) aNil)))) (eV 0))))))))
def f_befell : Fn := runF 2 8 m_befell
def m_is_due_behind : S := (sRet (eAnd (eB (dIn false) (eB dIx (eV 1) (eK (.int 0))) (eN dTup (aCons (eK (.str "fill")) (aCons (eK (.str "unmask")) (aCons (eK (.str "tick")) aNil))))) (eC f_is_due (aCons (eV 0) (aCons (eB dIx (eV 1) (eK (.int 1))) (aCons (eV 2) aNil))))))
def f_is_due_behind : Fn := runF 3 3 m_is_due_behind
def b_wake_log_0 : S := (sSeq (sAsg (gN 3) (eC f_befell (aCons (eV 3) (aCons (eV 5) aNil))))
  (sSeq (sExpr (eM mAppend (eV 4) (aCons (eV 5) aNil)))
  (sIf (tB (eC f_is_due_behind (aCons (eV 3) (aCons (eV 5) (aCons (eN dTup (aCons (eV 1) (aCons (eV 2) aNil))) aNil))))) (sSeq (sExpr (eM mAppend (eV 4) (aCons (eN dTup (aCons (eK (.str "raise")) (aCons (eB dIx (eV 5) (eK (.int 1))) (aCons (eK (.int 0)) aNil)))) aNil)))
  (sAsg (gN 3) (eC f_befell (aCons (eV 3) (aCons (eB dIx (eV 4) (eU dNeg (eK (.int 1)))) aNil))))) sNext)))
def m_wake_log : S := (sSeq (sPar [3, 4] (aCons (eK d_BEGINNING) (aCons (eL dReg (lDisp aNil)) aNil)))
  (sSeq (sFor (iTupD (eV 0)) (gN 5) b_wake_log_0)
  (sRet (eN dTupOf (aCons (eV 4) aNil)))))
def f_wake_log : Fn := runF 3 6 m_wake_log
def b_whys_0 : S := (sSeq (sIf (tB (eB dEq (eB dIx (eV 5) (eK (.int 0))) (eK (.str "raise")))) (sExpr (eM mAppend (eV 4) (aCons (eIf (tB (eB dGe (eB dIx (eV 3) (eK (.int 0))) (eV 1))) (eN dTup (aCons (eK (.str "most")) (aCons (eB dIx (eV 3) (eK (.int 0))) aNil))) (eN dTup (aCons (eK (.str "wait")) (aCons (eB dSub (eB dIx (eV 5) (eK (.int 1))) (eB dIx (eV 3) (eK (.int 1)))) aNil)))) aNil))) sNext)
  (sAsg (gN 3) (eC f_befell (aCons (eV 3) (aCons (eV 5) aNil)))))
def m_whys : S := (sSeq (sPar [3, 4] (aCons (eK d_BEGINNING) (aCons (eL dReg (lDisp aNil)) aNil)))
  (sSeq (sFor (iTupD (eV 0)) (gN 5) b_whys_0)
  (sRet (eN dTupOf (aCons (eV 4) aNil)))))
def f_whys : Fn := runF 3 6 m_whys
def m_look_at_lane : S := (sSeq (sAsg (gN 4) (eB dIx (eB dIx (eV 0) (eK (.int 1))) (eV 1)))
  (sSeq (sIf (tNot (tB (eC f_is_due (aCons (eN dTup (aCons (eN dLen (aCons (eB dIx (eV 4) (eK (.int 5))) aNil)) (aCons (eB dIx (eV 4) (eK (.int 6))) (aCons (eB dIx (eV 4) (eK (.int 7))) aNil)))) (aCons (eV 2) (aCons (eV 3) aNil)))))) (sRet (eN dTup (aCons (eV 0) (aCons (eN dTup aNil) aNil)))) sNext)
  (sRet (eN dTup (aCons (eC f_lane_turned (aCons (eV 0) (aCons (eV 1) (aCons (eK (.int 7)) (aCons (eK (.bl true)) aNil))))) (aCons (eN dTup (aCons (eN dTup (aCons (eK (.str "raised")) (aCons (eB dIx (eV 0) (eK (.int 0))) (aCons (eV 1) (aCons (eV 2) aNil))))) aNil)) aNil))))))
def f_look_at_lane : Fn := runF 4 5 m_look_at_lane
def m_polled : S := (sSeq (sAsg (gN 4) (eB dIx (eB dIx (eV 0) (eK (.int 1))) (eV 2)))
  (sSeq (sPar [5, 6] (aCons (eSl (eB dIx (eV 4) (eK (.int 5))) qN (qE (eV 3))) (aCons (eSl (eB dIx (eV 4) (eK (.int 5))) (qE (eV 3)) qN) aNil)))
  (sSeq (sAsg (gN 7) (eC f_lane_turned (aCons (eV 0) (aCons (eV 2) (aCons (eK (.int 5)) (aCons (eV 6) aNil))))))
  (sSeq (sIf (tB (eB dEq (eV 6) (eN dTup aNil))) (sAsg (gN 7) (eC f_lane_turned (aCons (eV 7) (aCons (eV 2) (aCons (eK (.int 6)) (aCons (eK .non) aNil)))))) sNext)
  (sSeq (sAsg (gN 8) (eB dIx (eV 0) (eK (.int 0))))
  (sRet (eN dTup (aCons (eV 7) (aCons (eV 1) (aCons (eL dTupL (lLc (iTupD (eV 5)) (gN 9) tYes (eN dTup (aCons (eK (.str "took")) (aCons (eV 8) (aCons (eV 2) (aCons (eV 9) (aCons (eC f_words_at (aCons (eV 1) (aCons (eB dIx (eV 9) (eK (.int 2))) aNil))) aNil)))))) [9])) aNil))))))))))
def f_polled : Fn := runF 4 10 m_polled
def m_unmasked : S := (sSeq (sPar [6, 7] (aCons (eB dIx (eB dIx (eV 0) (eK (.int 1))) (eV 2)) (aCons (eV 0) aNil)))
  (sSeq (sIf (tB (eB dIx (eV 6) (eK (.int 7)))) (sSeq (sAsg (gN 7) (eC f_lane_turned (aCons (eV 7) (aCons (eV 2) (aCons (eK (.int 7)) (aCons (eK (.bl false)) aNil))))))
  (sAsg (gN 7) (eC f_lane_turned (aCons (eV 7) (aCons (eV 2) (aCons (eK (.int 6)) (aCons (eIf (tB (eB dEq (eB dIx (eV 6) (eK (.int 5))) (eN dTup aNil))) (eK .non) (eV 3)) aNil))))))) sNext)
  (sSeq (sAsg (gT [(gN 7), (gN 8)]) (eC f_look_at_lane (aCons (eV 7) (aCons (eV 2) (aCons (eV 3) (aCons (eN dTup (aCons (eV 4) (aCons (eV 5) aNil))) aNil))))))
  (sRet (eN dTup (aCons (eV 7) (aCons (eV 1) (aCons (eB dAdd (eN dTup (aCons (eN dTup (aCons (eK (.str "unmasked")) (aCons (eB dIx (eV 0) (eK (.int 0))) (aCons (eV 2) aNil)))) aNil)) (eV 8)) aNil))))))))
def f_unmasked : Fn := runF 6 9 m_unmasked
def b_ticked_0 : S := (sSeq (sAsg (gT [(gN 5), (gN 8)]) (eC f_look_at_lane (aCons (eV 5) (aCons (eV 7) (aCons (eV 2) (aCons (eN dTup (aCons (eV 3) (aCons (eV 4) aNil))) aNil))))))
  (sAsg (gN 6) (eB dAdd (eV 6) (eV 8))))
def m_ticked : S := (sSeq (sPar [5, 6] (aCons (eC f_turned_at (aCons (eV 0) (aCons (eK (.int 7)) (aCons (eC (fun ds M => f_purse_filled (ds ++ [.int 1]) M) (aCons (eB dIx (eV 0) (eK (.int 7))) aNil)) aNil)))) (aCons (eN dTup aNil) aNil)))
  (sSeq (sFor (iRng1D (aCons (eN dLen (aCons (eB dIx (eV 0) (eK (.int 1))) aNil)) aNil)) (gN 7) b_ticked_0)
  (sRet (eN dTup (aCons (eV 5) (aCons (eV 1) (aCons (eV 6) aNil)))))))
def f_ticked : Fn := runF 5 9 m_ticked
def m_sum_due : S := (sSeq (sAsg (gT [(gN 1), (gN 2), (gN 3), (gN 4), (gN 5), (gN 6), (gN 7)]) (eV 0))
  (sSeq (sAsg (gN 8) (eB dAdd (eN dTup (aCons (eV 1) (aCons (eV 3) (aCons (eV 4) (aCons (eV 5) aNil))))) (eV 6)))
  (sRet (eB dMod (eL dSumL (lLc (iEnumD 1 (eV 8)) (gT [(gN 9), (gN 10)]) tYes (eB dMul (eV 9) (eV 10)) [10, 9])) (eK (.int 10007))))))
def f_sum_due : Fn := runF 1 11 m_sum_due
def m_is_right : S := (sRet (eB dEq (eB dIx (eV 0) (eK (.int 6))) (eC f_sum_due (aCons (eV 0) aNil))))
def f_is_right : Fn := runF 1 1 m_is_right
def m_summed : S := (sRet (eB dAdd (eSl (eV 0) qN (qE (eK (.int 6)))) (eN dTup (aCons (eC f_sum_due (aCons (eV 0) aNil)) aNil))))
def f_summed : Fn := runF 1 1 m_summed
def m_bent : S := (sSeq (sAsg (gN 2) (eB dIx (eV 0) (eK (.int 5))))
  (sSeq (sIf (tB (eB dGe (eV 1) (eN dLen (aCons (eV 2) aNil)))) (sRet (eB dAdd (eSl (eV 0) qN (qE (eK (.int 6)))) (eN dTup (aCons (eB dMod (eB dAdd (eB dIx (eV 0) (eK (.int 6))) (eK (.int 1))) (eK (.int 10007))) aNil)))) sNext)
  (sRet (eB dAdd (eSl (eV 0) qN (qE (eK (.int 5)))) (eN dTup (aCons (eB dAdd (eB dAdd (eSl (eV 2) qN (qE (eV 1))) (eN dTup (aCons (eB dAdd (eB dIx (eV 2) (eV 1)) (eK (.int 1))) aNil))) (eSl (eV 2) (qE (eB dAdd (eV 1) (eK (.int 1)))) qN)) (aCons (eB dIx (eV 0) (eK (.int 6))) aNil)))))))
def f_bent : Fn := runF 2 3 m_bent
def b_pieces_of_0 : S := (sSeq (sAsg (gN 9) (eSl (eV 5) (qE (eB dMul (eV 8) (eV 2))) (qE (eB dAdd (eB dMul (eV 8) (eV 2)) (eV 2)))))
  (sExpr (eM mAppend (eV 7) (aCons (eC f_summed (aCons (eN dTup (aCons (eV 1) (aCons (eV 3) (aCons (eV 4) (aCons (eV 8) (aCons (eV 6) (aCons (eV 9) (aCons (eK (.int 0)) aNil)))))))) aNil)) aNil))))
def m_pieces_of : S := (sSeq (sAsg (gT [(gN 3), (gN 4), (gN 5)]) (eV 0))
  (sSeq (sAsg (gN 6) (eN dMax2 (aCons (eK (.int 1)) (aCons (eB dDiv (eB dSub (eB dAdd (eN dLen (aCons (eV 5) aNil)) (eV 2)) (eK (.int 1))) (eV 2)) aNil))))
  (sSeq (sAsg (gN 7) (eL dReg (lDisp aNil)))
  (sSeq (sFor (iRng1D (aCons (eV 6) aNil)) (gN 8) b_pieces_of_0)
  (sRet (eN dTupOf (aCons (eV 7) aNil)))))))
def f_pieces_of : Fn := runF 3 10 m_pieces_of
def m_going_on : S := (sRet (eIf (tAnd (tB (eB dNotN (eV 0) (eK .non))) (tB (eB dGt (eB dIx (eV 0) (eK (.int 3))) (eK (.int 0))))) (eB dIx (eV 0) (eK (.int 1))) (eK .non)))
def f_going_on : Fn := runF 1 1 m_going_on
def m_does_go_on : S := (sSeq (sIf (tB (eB dIsN (eC f_going_on (aCons (eV 0) aNil)) (eK .non))) (sRet (eK (.bl false))) sNext)
  (sSeq (sAsg (gT [(gN 2), (gN 3), (gN 4), (gN 5), (gN 6)]) (eV 0))
  (sRet (eB dEq (eN dTup (aCons (eB dIx (eV 1) (eK (.int 0))) (aCons (eB dIx (eV 1) (eK (.int 2))) (aCons (eB dIx (eV 1) (eK (.int 4))) (aCons (eB dIx (eV 1) (eK (.int 3))) aNil))))) (eN dTup (aCons (eV 2) (aCons (eV 3) (aCons (eV 4) (aCons (eV 5) aNil)))))))))
def f_does_go_on : Fn := runF 2 7 m_does_go_on
def m_does_begin : S := (sRet (eAnd (eB dEq (eB dIx (eV 1) (eK (.int 3))) (eK (.int 0))) (eOr (eB dIsN (eV 0) (eK .non)) (eB dGtT (eN dTup (aCons (eB dIx (eV 1) (eK (.int 0))) (aCons (eB dIx (eV 1) (eK (.int 2))) aNil))) (eSl (eV 0) qN (qE (eK (.int 2))))))))
def f_does_begin : Fn := runF 2 2 m_does_begin
def m_with_part : S := (sSeq (sAsg (gT [(gN 3), (gN 4), (gN 5), (gN 6), (gN 7), (gN 8), (gN 9)]) (eV 0))
  (sSeq (sAug 1 dAddT (eV 8))
  (sSeq (sIf (tB (eB dEq (eB dAdd (eV 6) (eK (.int 1))) (eV 7))) (sRet (eN dTup (aCons (eN dTup (aCons (eV 3) (aCons (eV 5) (aCons (eV 7) (aCons (eK (.int 0)) (aCons (eN dTup aNil) aNil)))))) (aCons (eK (.str "whole")) (aCons (eV 2) (aCons (eN dTup (aCons (eV 4) (aCons (eV 5) (aCons (eV 1) aNil)))) aNil)))))) sNext)
  (sRet (eN dTup (aCons (eN dTup (aCons (eV 3) (aCons (eV 5) (aCons (eV 7) (aCons (eB dAdd (eV 6) (eK (.int 1))) (aCons (eV 1) aNil)))))) (aCons (eIf (tB (eB dEq (eV 6) (eK (.int 0)))) (eK (.str "begun")) (eK (.str "on"))) (aCons (eV 2) (aCons (eK .non) aNil)))))))))
def f_with_part : Fn := runF 3 10 m_with_part
def m_came_of : S := (sSeq (sIf (tNot (tB (eC f_is_right (aCons (eV 1) aNil)))) (sRet (eN dTup (aCons (eV 0) (aCons (eK (.str "sum")) (aCons (eK .non) (aCons (eK .non) aNil)))))) sNext)
  (sSeq (sIf (tB (eC f_does_go_on (aCons (eV 0) (aCons (eV 1) aNil)))) (sRet (eC f_with_part (aCons (eV 1) (aCons (eB dIx (eV 0) (eK (.int 4))) (aCons (eK .non) aNil))))) sNext)
  (sSeq (sIf (tB (eC f_does_begin (aCons (eV 0) (aCons (eV 1) aNil)))) (sRet (eC f_with_part (aCons (eV 1) (aCons (eN dTup aNil) (aCons (eC f_going_on (aCons (eV 0) aNil)) aNil))))) sNext)
  (sSeq (sAsg (gN 2) (eAnd (eB dNotN (eV 0) (eK .non)) (eB dLtT (eN dTup (aCons (eB dIx (eV 1) (eK (.int 0))) (aCons (eB dIx (eV 1) (eK (.int 2))) aNil))) (eSl (eV 0) qN (qE (eK (.int 2)))))))
  (sRet (eN dTup (aCons (eV 0) (aCons (eIf (tB (eV 2)) (eK (.str "elder")) (eK (.str "cut"))) (aCons (eK .non) (aCons (eK .non) aNil))))))))))
def f_came_of : Fn := runF 2 3 m_came_of
def m_oldest_posted : S := (sSeq (sAsg (gN 2) (eK .non))
  (sSeq (sTry [("NoPlace", true)] (sAsg (gN 2) (eC f_take_out (aCons (eB dIx (eB dIx (eB dIx (eV 0) (eK (.int 1))) (eV 1)) (eK (.int 4))) aNil))) (sAsg (gN 2) (eK .non)))
  (sSeq (sIf (tB (eB dIsN (eV 2) (eK .non))) (sRet (eK .non)) sNext)
  (sSeq (sAsg (gT [(gN 3), (gN 4)]) (eV 2))
  (sRet (eN dTup (aCons (eC f_lane_turned (aCons (eV 0) (aCons (eV 1) (aCons (eK (.int 4)) (aCons (eV 3) aNil))))) (aCons (eV 4) aNil))))))))
def f_oldest_posted : Fn := runF 2 5 m_oldest_posted
def m_boxed : S := (sSeq (sAsg (gN 4) (eB dIx (eB dIx (eV 0) (eK (.int 1))) (eV 1)))
  (sSeq (sAsg (gN 5) (eC f_lane_turned (aCons (eV 0) (aCons (eV 1) (aCons (eK (.int 5)) (aCons (eB dAdd (eB dIx (eV 4) (eK (.int 5))) (eN dTup (aCons (eV 2) aNil))) aNil))))))
  (sRet (eIf (tB (eB dEq (eB dIx (eV 4) (eK (.int 5))) (eN dTup aNil))) (eC f_lane_turned (aCons (eV 5) (aCons (eV 1) (aCons (eK (.int 6)) (aCons (eV 3) aNil))))) (eV 5)))))
def f_boxed : Fn := runF 4 6 m_boxed
def m_why_not : S := (sSeq (sIf (tNot (tB (eC f_owns_it (aCons (eV 0) (aCons (eV 1) (aCons (eV 2) aNil)))))) (sRet (eK (.str "fault"))) sNext)
  (sRet (eIf (tB (eB dLt (eB dIx (eV 2) (eK (.int 2))) (eN dLen (aCons (eV 3) aNil)))) (eK (.str "short")) (eK .non))))
def f_why_not : Fn := runF 4 4 m_why_not
def m_takes_whole : S := (sSeq (sAsg (gT [(gN 5), (gN 6), (gN 7)]) (eV 4))
  (sSeq (sAsg (gT [(gN 8), (gN 9), (gN 10)]) (eV 3))
  (sSeq (sPar [11, 12] (aCons (eB dIx (eV 0) (eK (.int 0))) (aCons (eCK f_lane_of 2 1 (aCons (eB dIx (eV 0) (eK (.int 6))) (aCons (eV 8) aNil)) (aCons (eN dLen (aCons (eB dIx (eV 0) (eK (.int 1))) aNil)) aNil)) aNil)))
  (sSeq (sAsg (gN 13) (eC f_oldest_posted (aCons (eV 0) (aCons (eV 12) aNil))))
  (sSeq (sIf (tB (eB dIsN (eV 13) (eK .non))) (sRet (eN dTup (aCons (eV 0) (aCons (eV 1) (aCons (eN dTup (aCons (eN dTup (aCons (eK (.str "missed")) (aCons (eV 11) (aCons (eV 8) (aCons (eV 9) (aCons (eK (.str "none")) aNil)))))) aNil)) aNil))))) sNext)
  (sSeq (sAsg (gT [(gN 14), (gN 15)]) (eV 13))
  (sSeq (sAsg (gN 16) (eC f_why_not (aCons (eV 0) (aCons (eV 2) (aCons (eV 15) (aCons (eV 10) aNil))))))
  (sSeq (sIf (tB (eB dNotN (eV 16) (eK .non))) (sRet (eN dTup (aCons (eV 14) (aCons (eV 1) (aCons (eN dTup (aCons (eN dTup (aCons (eK (.str "missed")) (aCons (eV 11) (aCons (eV 8) (aCons (eV 9) (aCons (eV 16) aNil)))))) (aCons (eN dTup (aCons (eK (.str "returned")) (aCons (eV 11) (aCons (eV 12) (aCons (eV 15) aNil))))) aNil))) aNil))))) sNext)
  (sSeq (sAsg (gN 17) (eN dTup (aCons (eB dIx (eV 15) (eK (.int 0))) (aCons (eB dIx (eV 15) (eK (.int 1))) (aCons (eN dLen (aCons (eV 10) aNil)) aNil)))))
  (sSeq (sAsg (gN 14) (eC f_boxed (aCons (eV 14) (aCons (eV 12) (aCons (eN dTup (aCons (eV 8) (aCons (eV 9) (aCons (eV 17) (aCons (eV 5) aNil))))) (aCons (eV 5) aNil))))))
  (sSeq (sAsg (gT [(gN 14), (gN 18)]) (eC f_look_at_lane (aCons (eV 14) (aCons (eV 12) (aCons (eV 5) (aCons (eN dTup (aCons (eV 6) (aCons (eV 7) aNil))) aNil))))))
  (sRet (eN dTup (aCons (eV 14) (aCons (eC f_written (aCons (eV 1) (aCons (eV 15) (aCons (eV 10) aNil)))) (aCons (eB dAdd (eN dTup (aCons (eN dTup (aCons (eK (.str "filled")) (aCons (eV 11) (aCons (eV 12) (aCons (eV 8) (aCons (eV 9) aNil)))))) aNil)) (eV 18)) aNil))))))))))))))))
def f_takes_whole : Fn := runF 5 19 m_takes_whole
def m_comes_in : S := (sSeq (sPar [7, 8] (aCons (eB dIx (eV 0) (eK (.int 0))) (aCons (eB dIx (eV 3) (eK (.int 1))) aNil)))
  (sSeq (sAsg (gT [(gN 9), (gN 10), (gN 11), (gN 12)]) (eC f_came_of (aCons (eC f_by_talk (aCons (eB dIx (eV 0) (eK (.int 4))) (aCons (eV 8) (aCons (eK .non) aNil)))) (aCons (eV 3) aNil))))
  (sSeq (sPar [13, 14] (aCons (eC f_turned_at (aCons (eV 0) (aCons (eK (.int 4)) (aCons (eC f_with_talk (aCons (eB dIx (eV 0) (eK (.int 4))) (aCons (eV 8) (aCons (eV 9) aNil)))) aNil)))) (aCons (eN dTup aNil) aNil)))
  (sSeq (sIf (tB (eB (dIn false) (eV 10) (eN dTup (aCons (eK (.str "sum")) (aCons (eK (.str "elder")) (aCons (eK (.str "cut")) aNil)))))) (sAsg (gN 14) (eN dTup (aCons (eN dTup (aCons (eK (.str "dropped")) (aCons (eV 7) (aCons (eV 3) (aCons (eV 10) aNil))))) aNil))) sNext)
  (sSeq (sIf (tB (eB dNotN (eV 11) (eK .non))) (sAsg (gN 14) (eB dAdd (eV 14) (eN dTup (aCons (eN dTup (aCons (eK (.str "missed")) (aCons (eV 7) (aCons (eV 8) (aCons (eV 11) (aCons (eK (.str "cut")) aNil)))))) aNil)))) sNext)
  (sSeq (sIf (tB (eB dIsN (eV 12) (eK .non))) (sRet (eN dTup (aCons (eV 13) (aCons (eV 1) (aCons (eV 14) aNil))))) sNext)
  (sSeq (sAsg (gT [(gN 13), (gN 1), (gN 15)]) (eC f_takes_whole (aCons (eV 13) (aCons (eV 1) (aCons (eV 2) (aCons (eV 12) (aCons (eN dTup (aCons (eV 4) (aCons (eV 5) (aCons (eV 6) aNil)))) aNil)))))))
  (sRet (eN dTup (aCons (eV 13) (aCons (eV 1) (aCons (eB dAdd (eV 14) (eV 15)) aNil))))))))))))
def f_comes_in : Fn := runF 7 16 m_comes_in
def m_put_or_full : S := (sSeq (sAsg (gN 2) (eK .non))
  (sSeq (sTry [("NoPlace", true)] (sAsg (gN 2) (eC f_put_in (aCons (eV 0) (aCons (eV 1) aNil)))) (sAsg (gN 2) (eK .non)))
  (sSeq (sIf (tB (eB dIsN (eV 2) (eK .non))) (sRaise "NoStep" ["word"] (aCons (eK (.str "full")) aNil)) sNext)
  (sRet (eV 2)))))
def f_put_or_full : Fn := runF 2 3 m_put_or_full
def m_posts : S := (sSeq (sAsg (gN 4) (eC f_put_or_full (aCons (eB dIx (eB dIx (eB dIx (eV 0) (eK (.int 1))) (eV 2)) (eK (.int 4))) (aCons (eV 3) aNil))))
  (sRet (eN dTup (aCons (eC f_lane_turned (aCons (eV 0) (aCons (eV 2) (aCons (eK (.int 4)) (aCons (eV 4) aNil))))) (aCons (eV 1) (aCons (eN dTup (aCons (eN dTup (aCons (eK (.str "posted")) (aCons (eB dIx (eV 0) (eK (.int 0))) (aCons (eV 2) (aCons (eV 3) aNil))))) aNil)) aNil))))))
def f_posts : Fn := runF 4 5 m_posts
def m_need_wake : S := (sIf (tNot (tB (eV 0))) (sRaise "NoPaper" ["word", "at"] (aCons (eV 1) (aCons (eV 2) aNil))) sNext)
def f_need_wake : Fn := runF 3 3 m_need_wake
def m_is_wake_row : S := (sSeq (sIf (tOr (tNot (tB (eU (dIsi "tuple") (eV 0)))) (tOr (tB (eB dNe (eN dLen (aCons (eV 0) aNil)) (eK (.int 3)))) (tNot (tB (eU (dIsi "str") (eB dIx (eV 0) (eK (.int 0)))))))) (sRet (eK (.bl false))) sNext)
  (sRet (eAnd (eB (dIn false) (eB dIx (eV 0) (eK (.int 0))) (eK d_WAKE_WORDS)) (eAnd (eC f_is_number (aCons (eB dIx (eV 0) (eK (.int 1))) aNil)) (eC f_is_number (aCons (eB dIx (eV 0) (eK (.int 2))) aNil))))))
def f_is_wake_row : Fn := runF 1 1 m_is_wake_row
def m_look_at_row : S := (sSeq (sAsg (gT [(gN 5), (gN 6), (gN 7)]) (eV 1))
  (sSeq (sExpr (eC f_need_wake (aCons (eOr (eB dEq (eV 0) (eK (.int 0))) (eOr (eB dEq (eV 6) (eV 2)) (eAnd (eB dNe (eV 5) (eK (.str "raise"))) (eB dGt (eV 6) (eV 2))))) (aCons (eK (.str "clock")) (aCons (eV 0) aNil)))))
  (sSeq (sExpr (eC f_need_wake (aCons (eIf (tB (eB dEq (eV 5) (eK (.str "poll")))) (eB dLe (eV 7) (eB dIx (eV 3) (eK (.int 0)))) (eB dEq (eV 7) (eK (.int 0)))) (aCons (eK (.str "many")) (aCons (eV 0) aNil)))))
  (sSeq (sExpr (eC f_need_wake (aCons (eOr (eB dNe (eV 5) (eK (.str "raise"))) (eV 4)) (aCons (eK (.str "early")) (aCons (eV 0) aNil)))))
  (sExpr (eC f_need_wake (aCons (eOr (eB dEq (eV 5) (eK (.str "raise"))) (eU dNot (eV 4))) (aCons (eK (.str "late")) (aCons (eV 0) aNil)))))))))
def f_look_at_row : Fn := runF 5 8 m_look_at_row
def b_lets_wakes_0 : S := (sSeq (sExpr (eC f_look_at_row (aCons (eV 6) (aCons (eV 7) (aCons (eV 4) (aCons (eV 3) (aCons (eV 5) aNil)))))))
  (sSeq (sPar [3, 4] (aCons (eC f_befell (aCons (eV 3) (aCons (eV 7) aNil))) (aCons (eB dIx (eV 7) (eK (.int 1))) aNil)))
  (sAsg (gN 5) (eC f_is_due_behind (aCons (eV 3) (aCons (eV 7) (aCons (eN dTup (aCons (eV 1) (aCons (eV 2) aNil))) aNil)))))))
def m_lets_wakes : S := (sSeq (sExpr (eC f_need_wake (aCons (eAnd (eU (dIsi "tuple") (eV 0)) (eL dAllL (lLc (iTupD (eV 0)) (gN 7) tYes (eC f_is_wake_row (aCons (eV 7) aNil)) [7]))) (aCons (eK (.str "shape")) (aCons (eU dNeg (eK (.int 1))) aNil)))))
  (sSeq (sPar [3, 4, 5] (aCons (eK d_BEGINNING) (aCons (eK (.int 0)) (aCons (eK (.bl false)) aNil))))
  (sSeq (sFor (iEnumD 0 (eV 0)) (gT [(gN 6), (gN 7)]) b_lets_wakes_0)
  (sSeq (sExpr (eC f_need_wake (aCons (eU dNot (eV 5)) (aCons (eK (.str "late")) (aCons (eN dLen (aCons (eV 0) aNil)) aNil)))))
  (sRet (eL dLenL (lLc (iTupD (eV 0)) (gN 7) (tB (eB dEq (eB dIx (eV 7) (eK (.int 0))) (eK (.str "raise")))) (eV 7) [7])))))))
def f_lets_wakes : Fn := runF 3 8 m_lets_wakes
def m__law_feed : S := (sRet (eDict [("cells", (eL dReg (lSl (eV 0) none (some 63)))), ("at", (eK (.int 0))), ("left", (eK (.int 0))), ("count", (eK (.int 0)))]))
def f__law_feed : Fn := runF 1 1 m__law_feed
def m__law_draw : S := (sSeq (sPutS (eV 0) "count" (eB dAdd (eU (dGetS "count") (eV 0)) (eK (.int 1))))
  (sSeq (sIf (tB (eB dGt (eU (dGetS "left") (eV 0)) (eK (.int 0)))) (sSeq (sAsg (gN 2) (eB dMod (eU (dGetS "left") (eV 0)) (eV 1)))
  (sSeq (sPutS (eV 0) "left" (eB dDiv (eU (dGetS "left") (eV 0)) (eV 1)))
  (sRet (eV 2)))) sNext)
  (sSeq (sAsg (gN 3) (eU (dGetS "at") (eV 0)))
  (sSeq (sPutS (eV 0) "at" (eB dAdd (eV 3) (eK (.int 1))))
  (sSeq (sAsg (gN 4) (eIf (tB (eqNil true (eU (dGetS "cells") (eV 0)))) (eB dIx (eU (dGetS "cells") (eV 0)) (eB dMod (eV 3) (eN dLen (aCons (eU (dGetS "cells") (eV 0)) aNil)))) (eK (.int 32))))
  (sSeq (sIf (tAnd (tB (eB dGe (eV 4) (eB dPow (eK (.int 10)) (eK (.int 18))))) (tB (eB dLt (eV 3) (eN dLen (aCons (eU (dGetS "cells") (eV 0)) aNil))))) (sSeq (sPutS (eV 0) "left" (eB dDiv (eV 4) (eV 1)))
  (sRet (eB dMod (eV 4) (eV 1)))) sNext)
  (sSeq (sAsg (gN 5) (eB dMod (eB dAdd (eB dAdd (eB dMod (eV 4) (eK (.int 1000003573))) (eB dMul (eK (.int 75199)) (eU (dGetS "count") (eV 0)))) (eK (.int 87))) (eK (.int 2147483579))))
  (sSeq (sAsg (gN 5) (eB dMod (eB dAdd (eB dAdd (eB dMul (eV 5) (eV 5)) (eB dMul (eK (.int 7298917)) (eU (dGetS "count") (eV 0)))) (eK (.int 57))) (eK (.int 2147483549))))
  (sRet (eB dMod (eB dDiv (eB dMod (eB dAdd (eB dMul (eV 5) (eV 5)) (eB dMul (eK (.int 91)) (eV 5))) (eK (.int 2147483543))) (eK (.int 16))) (eV 1)))))))))))
def f__law_draw : Fn := runF 2 6 m__law_draw
def m__law_lane : S := (sSeq (sAsg (gN 1) (eDict [("out", (eC f_void_ring (aCons (eV 0) aNil))), ("told", (eK (.int 0))), ("next", (eK (.int 0))), ("through", (eL dReg (lDisp aNil))), ("inward", (eC f_void_ring (aCons (eV 0) aNil)))]))
  (sSeq (sExpr (eUpd (eV 1) (eDict [("box", (eL dReg (lDisp aNil))), ("since", (eK .non)), ("masked", (eK (.bl false)))])))
  (sRet (eV 1))))
def f__law_lane : Fn := runF 1 2 m__law_lane
def m__law_world : S := (sSeq (sAsg (gN 5) (eDict [("half", (eV 0)), ("rights", (eV 1)), ("purse", (eV 2)), ("row", (eL dReg (lDisp aNil))), ("numbers", eDn), ("joinings", eDn)]))
  (sSeq (sExpr (eUpd (eV 5) (eDict [("moves", (eN dTup aNil)), ("steers", (eN dTup aNil)), ("epoch", (eK (.int 0))), ("clock", (eK (.int 0))), ("stuck", (eN dTup aNil)), ("aside", (eK .non))])))
  (sSeq (sExpr (eUpd (eV 5) (eDict [("memory", (eB dMulT (eN dTup (aCons (eB dMulT (eN dTup (aCons (eK (.int 0)) aNil)) (eK (.int 8))) aNil)) (eN dLen (aCons (eV 1) aNil)))), ("far", (eL dReg (lDisp aNil))), ("numbered", eDn), ("letters", eDn), ("era", (eK (.int 0)))])))
  (sSeq (sExpr (eUpd (eV 5) (eDict [("lanes", (eL dReg (lLc (iRng1D (aCons (eV 3) aNil)) (gN 6) tYes (eC f__law_lane (aCons (eV 4) aNil)) [6]))), ("cut", (eK (.int 4))), ("most", (eK (.int 2))), ("wait", (eK (.int 4)))])))
  (sRet (eV 5))))))
def f__law_world : Fn := runF 5 7 m__law_world
def m__law_stretch : S := (sSeq (sAsg (gN 1) (eC f__law_draw (aCons (eV 0) (aCons (eK (.int 8)) aNil))))
  (sRet (eN dTup (aCons (eC f__law_draw (aCons (eV 0) (aCons (eK (.int 9)) aNil))) (aCons (eV 1) (aCons (eC f__law_draw (aCons (eV 0) (aCons (eB dSub (eK (.int 9)) (eV 1)) aNil))) aNil))))))
def f__law_stretch : Fn := runF 1 2 m__law_stretch
def m__law_some : S := (sRet (eL dTupL (lLc (iRng1D (aCons (eV 1) aNil)) (gN 2) tYes (eIxL (lDisp (aCons (eK (.int 0)) (aCons (eK (.int 1)) (aCons (eK (.int 7)) (aCons (eB dPow (eK (.int 10)) (eK (.int 6))) (aCons (eK (.int 42)) (aCons (eK (.int 3)) aNil))))))) (eC f__law_draw (aCons (eV 0) (aCons (eK (.int 6)) aNil)))) [2])))
def f__law_some : Fn := runF 2 3 m__law_some
def m__law_drawn : S := (sSeq (sAsg (gN 1) (eL dTupL (lLc (iRng1D (aCons (eK (.int 8)) aNil)) (gN 5) tYes (eIxL (lDisp (aCons (eK (.str "ann")) (aCons (eK (.str "ann")) (aCons (eK (.str "ann")) (aCons (eK (.str "bob")) aNil))))) (eC f__law_draw (aCons (eV 0) (aCons (eK (.int 4)) aNil)))) [5])))
  (sSeq (sAsg (gN 2) (eL dReg (lDisp (aCons (eN dTup (aCons (eN dTup (aCons (eK (.int 2)) (aCons (eK (.int 1)) aNil))) (aCons (eN dTup (aCons (eK (.int 1)) (aCons (eK (.int 1)) aNil))) (aCons (eN dTup (aCons (eK (.int 4)) (aCons (eK (.int 1)) aNil))) aNil)))) (aCons (eN dTup (aCons (eN dTup (aCons (eK (.int 1)) (aCons (eK (.int 2)) aNil))) (aCons (eN dTup (aCons (eK (.int 1)) (aCons (eK (.int 3)) aNil))) (aCons (eN dTup (aCons (eK (.int 3)) (aCons (eK (.int 2)) aNil))) aNil)))) (aCons (eN dTup (aCons (eN dTup (aCons (eK (.int 8)) (aCons (eK (.int 1)) aNil))) (aCons (eN dTup (aCons (eK (.int 1)) (aCons (eK (.int 1)) aNil))) (aCons (eN dTup (aCons (eK (.int 8)) (aCons (eK (.int 1)) aNil))) aNil)))) aNil))))))
  (sSeq (sAsg (gN 3) (eIxL (lCat (eV 2) (lDisp (aCons (eN dTup (aCons (eN dTup (aCons (eK (.int 0)) (aCons (eK (.int 1)) aNil))) (aCons (eN dTup (aCons (eK (.int 1)) (aCons (eK (.int 8)) aNil))) (aCons (eN dTup (aCons (eK (.int 1)) (aCons (eK (.int 1)) aNil))) aNil)))) aNil))) (eC f__law_draw (aCons (eV 0) (aCons (eK (.int 4)) aNil)))))
  (sSeq (sAsg (gN 4) (eC f__law_world (aCons (eN dTup (aCons (eK (.int 0)) (aCons (eK (.str "ann")) aNil))) (aCons (eV 1) (aCons (eV 3) (aCons (eB dAdd (eK (.int 1)) (eC f__law_draw (aCons (eV 0) (aCons (eK (.int 2)) aNil)))) (aCons (eIxL (lDisp (aCons (eK (.int 4)) (aCons (eK (.int 2)) (aCons (eK (.int 1)) (aCons (eK (.int 8)) aNil))))) (eC f__law_draw (aCons (eV 0) (aCons (eK (.int 4)) aNil)))) aNil)))))))
  (sSeq (sPutS2 (eV 4) "cut" (eV 4) "most" (eN dTup (aCons (eB dAdd (eK (.int 1)) (eC f__law_draw (aCons (eV 0) (aCons (eK (.int 4)) aNil)))) (aCons (eIxL (lDisp (aCons (eK (.int 1)) (aCons (eK (.int 2)) (aCons (eK (.int 3)) (aCons (eK (.int 9)) aNil))))) (eC f__law_draw (aCons (eV 0) (aCons (eK (.int 4)) aNil)))) aNil))))
  (sSeq (sPutS (eV 4) "wait" (eIxL (lDisp (aCons (eK (.int 1)) (aCons (eK (.int 2)) (aCons (eK (.int 3)) (aCons (eK (.int 4)) (aCons (eK (.int 12)) aNil)))))) (eC f__law_draw (aCons (eV 0) (aCons (eK (.int 5)) aNil)))))
  (sRet (eV 4))))))))
def f__law_drawn : Fn := runF 1 6 m__law_drawn
def m__law_letter : S := (sSeq (sAsg (gN 2) (eN dTup (aCons (eIxL (lDisp (aCons (eN dTup (aCons (eK (.int 1)) (aCons (eK (.str "bob")) aNil))) (aCons (eN dTup (aCons (eK (.int 1)) (aCons (eK (.str "cy")) aNil))) aNil))) (eC f__law_draw (aCons (eV 0) (aCons (eK (.int 2)) aNil)))) (aCons (eU (dGetS "half") (eV 1)) (aCons (eIxL (lDisp (aCons (eK (.str "hi")) (aCons (eK (.str "yo")) aNil))) (eC f__law_draw (aCons (eV 0) (aCons (eK (.int 2)) aNil)))) aNil)))))
  (sSeq (sPutS (eV 1) "era" (eB dAdd (eU (dGetS "era") (eV 1)) (eN dInt1 (aCons (eB dEq (eC f__law_draw (aCons (eV 0) (aCons (eK (.int 9)) aNil))) (eK (.int 0))) aNil))))
  (sSeq (sAsg (gN 3) (eB dAdd (eMN gGetN (eU (dGetS "numbered") (eV 1)) (aCons (eV 2) (aCons (eK (.int 0)) aNil))) (eN dInt1 (aCons (eB dEq (eC f__law_draw (aCons (eV 0) (aCons (eK (.int 5)) aNil))) (eK (.int 0))) aNil))))
  (sSeq (sPutN (eU (dGetS "numbered") (eV 1)) (eV 2) (eB dAdd (eV 3) (eK (.int 1))))
  (sSeq (sAsg (gN 4) (eN dTup (aCons (eV 2) (aCons (eV 3) (aCons (eC f__law_some (aCons (eV 0) (aCons (eC f__law_draw (aCons (eV 0) (aCons (eK (.int 9)) aNil))) aNil))) aNil)))))
  (sSeq (sPutN (eU (dGetS "letters") (eV 1)) (eN dTup (aCons (eV 2) (aCons (eV 3) aNil))) (eB dIx (eV 4) (eK (.int 2))))
  (sExpr (eExt (eU (dGetS "far") (eV 1)) (lOfT (eCK f_pieces_of 1 2 (aCons (eV 4) aNil) (aCons (eU (dGetS "era") (eV 1)) (aCons (eB dAdd (eK (.int 1)) (eC f__law_draw (aCons (eV 0) (aCons (eK (.int 4)) aNil)))) aNil))))))))))))
def f__law_letter : Fn := runF 2 5 m__law_letter
def m__law_piece : S := (sSeq (sIf (tOr (tB (eqNil false (eU (dGetS "far") (eV 1)))) (tB (eB dEq (eC f__law_draw (aCons (eV 0) (aCons (eK (.int 6)) aNil))) (eK (.int 0))))) (sExpr (eC f__law_letter (aCons (eV 0) (aCons (eV 1) aNil)))) sNext)
  (sSeq (sPar [2, 3] (aCons (eC f__law_draw (aCons (eV 0) (aCons (eK (.int 9)) aNil))) (aCons (eM mPop (eU (dGetS "far") (eV 1)) (aCons (eK (.int 0)) aNil)) aNil)))
  (sSeq (sIf (tAnd (tB (eB dEq (eV 2) (eK (.int 0)))) (tB (eqNil true (eU (dGetS "far") (eV 1))))) (sAsg (gN 3) (eM mPop (eU (dGetS "far") (eV 1)) (aCons (eK (.int 0)) aNil))) sNext)
  (sSeq (sIf (tB (eB dEq (eV 2) (eK (.int 2)))) (sExpr (eM mIns (eU (dGetS "far") (eV 1)) (aCons (eK (.int 0)) (aCons (eV 3) aNil)))) sNext)
  (sRet (eIf (tB (eB dEq (eV 2) (eK (.int 1)))) (eCK f_bent 1 1 (aCons (eV 3) aNil) (aCons (eC f__law_draw (aCons (eV 0) (aCons (eK (.int 3)) aNil))) aNil)) (eV 3)))))))
def f__law_piece : Fn := runF 2 4 m__law_piece
def m__law_value : S := (sRet (eU (dGetS "value") (eV 0)))
def f__law_value : Fn := runF 1 1 m__law_value
def m__law_program : S := (sSeq (sPar [2, 3, 4] (aCons (eC f__law_value (aCons (eV 0) aNil)) (aCons (eU (dGetS "memory") (eV 0)) (aCons (eB dIx (eV 1) (eK (.int 0))) aNil))))
  (sSeq (sPar [5, 6, 7] (aCons (eU (dGetS "most") (eV 0)) (aCons (eU (dGetS "wait") (eV 0)) (aCons (eU (dGetS "clock") (eV 0)) aNil))))
  (sSeq (sIf (tB (eB dEq (eV 4) (eK (.str "post")))) (sRet (eC f_posts (aCons (eV 2) (aCons (eV 3) (aCons (eB dIx (eV 1) (eK (.int 1))) (aCons (eB dIx (eV 1) (eK (.int 2))) aNil)))))) sNext)
  (sSeq (sIf (tB (eB dEq (eV 4) (eK (.str "in")))) (sRet (eCK f_comes_in 4 3 (aCons (eV 2) (aCons (eV 3) (aCons (eU (dGetS "rights") (eV 0)) (aCons (eB dIx (eV 1) (eK (.int 1))) aNil)))) (aCons (eV 7) (aCons (eV 5) (aCons (eV 6) aNil))))) sNext)
  (sSeq (sIf (tB (eB dEq (eV 4) (eK (.str "poll")))) (sRet (eC f_polled (aCons (eV 2) (aCons (eV 3) (aCons (eB dIx (eV 1) (eK (.int 1))) (aCons (eB dIx (eV 1) (eK (.int 2))) aNil)))))) sNext)
  (sSeq (sIf (tB (eB dEq (eV 4) (eK (.str "unmask")))) (sRet (eCK f_unmasked 3 3 (aCons (eV 2) (aCons (eV 3) (aCons (eB dIx (eV 1) (eK (.int 1))) aNil))) (aCons (eV 7) (aCons (eV 5) (aCons (eV 6) aNil))))) sNext)
  (sRet (eCK f_ticked 2 3 (aCons (eV 2) (aCons (eV 3) aNil)) (aCons (eB dAdd (eV 7) (eK (.int 1))) (aCons (eV 5) (aCons (eV 6) aNil)))))))))))
def f__law_program : Fn := runF 2 8 m__law_program
def m__law_act : S := (sSeq (sPar [3, 4] (aCons (eB dIx (eV 2) (eC f__law_draw (aCons (eV 0) (aCons (eN dLen (aCons (eV 2) aNil)) aNil)))) (aCons (eC f__law_draw (aCons (eV 0) (aCons (eN dLen (aCons (eU (dGetS "lanes") (eV 1)) aNil)) aNil))) aNil)))
  (sSeq (sIf (tB (eB dEq (eV 3) (eK (.str "post")))) (sRet (eN dTup (aCons (eV 3) (aCons (eV 4) (aCons (eC f__law_stretch (aCons (eV 0) aNil)) aNil))))) sNext)
  (sSeq (sIf (tB (eB dEq (eV 3) (eK (.str "in")))) (sRet (eN dTup (aCons (eV 3) (aCons (eC f__law_piece (aCons (eV 0) (aCons (eV 1) aNil))) aNil)))) sNext)
  (sSeq (sIf (tB (eB dEq (eV 3) (eK (.str "poll")))) (sRet (eN dTup (aCons (eV 3) (aCons (eV 4) (aCons (eC f__law_draw (aCons (eV 0) (aCons (eK (.int 4)) aNil))) aNil))))) sNext)
  (sRet (eIf (tB (eB (dIn false) (eV 3) (eN dTup (aCons (eK (.str "put")) (aCons (eK (.str "tick")) aNil))))) (eN dTup (aCons (eV 3) aNil)) (eN dTup (aCons (eV 3) (aCons (eV 4) aNil)))))))))
def f__law_act : Fn := runF 3 5 m__law_act
def m__law_by_program : S := (sSeq (sAsg (gN 1) (eC f__law_drawn (aCons (eV 0) aNil)))
  (sSeq (sPar [2, 3] (aCons (eB dIx (eU (dGetS "out") (eB dIx (eU (dGetS "lanes") (eV 1)) (eK (.int 0)))) (eK (.int 0))) (aCons (eN dLen (aCons (eU (dGetS "lanes") (eV 1)) aNil)) aNil)))
  (sSeq (sPutS (eV 1) "value" (eCK f_half_of 1 3 (aCons (eU (dGetS "half") (eV 1)) aNil) (aCons (eU (dGetS "purse") (eV 1)) (aCons (eV 3) (aCons (eV 2) aNil)))))
  (sRet (eV 1)))))
def f__law_by_program : Fn := runF 1 4 m__law_by_program
def m__law_done : S := (sSeq (sAsg (gN 2) (eSaid (eC f__law_program (aCons (eV 0) (aCons (eV 1) aNil)))))
  (sSeq (sIf (tB (eB dNe (eB dIx (eV 2) (eK (.int 0))) (eK (.str "told")))) (sRet (eN dTup aNil)) sNext)
  (sSeq (sPutS2 (eV 0) "value" (eV 0) "memory" (eSl (eB dIx (eV 2) (eK (.int 1))) qN (qE (eK (.int 2)))))
  (sSeq (sPutS (eV 0) "clock" (eB dAdd (eU (dGetS "clock") (eV 0)) (eN dInt1 (aCons (eB dEq (eB dIx (eV 1) (eK (.int 0))) (eK (.str "tick"))) aNil))))
  (sSeq (sIf (tB (eB dEq (eB dIx (eV 1) (eK (.int 0))) (eK (.str "put")))) (sPutS (eV 0) "aside" (eB dIx (eB dIx (eV 2) (eK (.int 1))) (eK (.int 3)))) sNext)
  (sRet (eB dIx (eB dIx (eV 2) (eK (.int 1))) (eK (.int 2)))))))))
def f__law_done : Fn := runF 2 3 m__law_done
def b__law_noted_0 : S := (sSeq (sIf (tB (eB dEq (eB dIx (eV 5) (eK (.int 0))) (eK (.str "filled")))) (sExpr (eM mAppend (eB dIx (eV 3) (eB dIx (eV 5) (eK (.int 2)))) (aCons (eN dTup (aCons (eK (.str "fill")) (aCons (eV 4) (aCons (eK (.int 0)) aNil)))) aNil))) sNext)
  (sSeq (sIf (tB (eB dEq (eB dIx (eV 5) (eK (.int 0))) (eK (.str "unmasked")))) (sExpr (eM mAppend (eB dIx (eV 3) (eB dIx (eV 5) (eK (.int 2)))) (aCons (eN dTup (aCons (eK (.str "unmask")) (aCons (eV 4) (aCons (eK (.int 0)) aNil)))) aNil))) sNext)
  (sIf (tAnd (tB (eB dEq (eB dIx (eV 5) (eK (.int 0))) (eK (.str "raised")))) (tB (eB dNe (eB dIx (eV 1) (eK (.int 0))) (eK (.str "tick"))))) (sExpr (eM mAppend (eB dIx (eV 3) (eB dIx (eV 5) (eK (.int 2)))) (aCons (eN dTup (aCons (eK (.str "raise")) (aCons (eB dIx (eV 5) (eK (.int 3))) (aCons (eK (.int 0)) aNil)))) aNil))) sNext)))
def b__law_noted_1 : S := (sSeq (sExpr (eM mAppend (eB dIx (eV 3) (eV 6)) (aCons (eN dTup (aCons (eK (.str "tick")) (aCons (eV 4) (aCons (eK (.int 0)) aNil)))) aNil)))
  (sExpr (eExt (eB dIx (eV 3) (eV 6)) (lLc (iTupD (eV 2)) (gN 5) (tB (eB dEq (eB dIx (eV 5) (eK (.int 2))) (eV 6))) (eN dTup (aCons (eK (.str "raise")) (aCons (eB dIx (eV 5) (eK (.int 3))) (aCons (eK (.int 0)) aNil)))) [5]))))
def m__law_noted : S := (sSeq (sAsg (gN 4) (eU (dGetS "clock") (eV 0)))
  (sSeq (sFor (iTupD (eV 2)) (gN 5) b__law_noted_0)
  (sSeq (sIf (tB (eB dEq (eB dIx (eV 1) (eK (.int 0))) (eK (.str "poll")))) (sExpr (eM mAppend (eB dIx (eV 3) (eB dIx (eV 1) (eK (.int 1)))) (aCons (eN dTup (aCons (eK (.str "poll")) (aCons (eV 4) (aCons (eN dLen (aCons (eV 2) aNil)) aNil)))) aNil))) sNext)
  (sIf (tB (eB dEq (eB dIx (eV 1) (eK (.int 0))) (eK (.str "tick")))) (sFor (iRng1D (aCons (eN dLen (aCons (eV 3) aNil)) aNil)) (gN 6) b__law_noted_1) sNext))))
def f__law_noted : Fn := runF 4 7 m__law_noted
def b__law_is_log_0 : S := (sIf (tOr (tB (eB (dIn true) (eV 5) (eN dTup (aCons (eK (.str "most")) (aCons (eK (.str "wait")) aNil))))) (tB (eB dLt (eV 6) (eIf (tB (eB dEq (eV 5) (eK (.str "most")))) (eV 1) (eV 2))))) (sRet (eK (.bl false))) sNext)
def b__law_is_log_1 : S := (sSeq (sAsg (gN 8) (eSaid (eCK f_lets_wakes 1 2 (aCons (eB dAdd (eSl (eV 0) qN (qE (eV 7))) (eSl (eV 0) (qE (eB dAdd (eV 7) (eK (.int 1)))) qN)) aNil) (aCons (eV 1) (aCons (eV 2) aNil)))))
  (sIf (tB (eB dNe (eV 8) (eN dTup (aCons (eK (.str "paper")) (aCons (eK (.str "late")) (aCons (eV 7) aNil)))))) (sRet (eK (.bl false))) sNext))
def m__law_is_log : S := (sSeq (sAsg (gN 3) (eL dReg (lLc (iRng1D (aCons (eN dLen (aCons (eV 0) aNil)) aNil)) (gN 7) (tB (eB dEq (eB dIx (eB dIx (eV 0) (eV 7)) (eK (.int 0))) (eK (.str "raise")))) (eV 7) [7])))
  (sSeq (sIf (tB (eB dNe (eCK f_lets_wakes 1 2 (aCons (eV 0) aNil) (aCons (eV 1) (aCons (eV 2) aNil))) (eN dLen (aCons (eV 3) aNil)))) (sRet (eK (.bl false))) sNext)
  (sSeq (sAsg (gN 4) (eL dTupL (lLc (iTupD (eV 0)) (gN 9) (tB (eB dNe (eB dIx (eV 9) (eK (.int 0))) (eK (.str "raise")))) (eV 9) [9])))
  (sSeq (sIf (tB (eB dNe (eCK f_wake_log 1 2 (aCons (eV 4) aNil) (aCons (eV 1) (aCons (eV 2) aNil))) (eV 0))) (sRet (eK (.bl false))) sNext)
  (sSeq (sFor (iTupD (eCK f_whys 1 2 (aCons (eV 0) aNil) (aCons (eV 1) (aCons (eV 2) aNil)))) (gT [(gN 5), (gN 6)]) b__law_is_log_0)
  (sSeq (sFor (lSl (eV 3) none (some 3)) (gN 7) b__law_is_log_1)
  (sRet (eB dEq (eN dLen (aCons (eCK f_whys 1 2 (aCons (eV 0) aNil) (aCons (eV 1) (aCons (eV 2) aNil))) aNil)) (eN dLen (aCons (eV 3) aNil))))))))))
def f__law_is_log : Fn := runF 3 10 m__law_is_log
def b_law_0 : S := (sSeq (sAsg (gN 7) (eC f__law_act (aCons (eV 1) (aCons (eV 4) (aCons (eV 2) aNil)))))
  (sSeq (sAsg (gN 8) (eC f__law_done (aCons (eV 4) (aCons (eV 7) aNil))))
  (sExpr (eC f__law_noted (aCons (eV 4) (aCons (eV 7) (aCons (eV 8) (aCons (eV 5) aNil))))))))
def b_law_1 : S := (sSeq (sAsg (gN 4) (eC f__law_by_program (aCons (eV 1) aNil)))
  (sSeq (sPutS (eV 4) "rights" (eB dMulT (eN dTup (aCons (eK (.str "ann")) aNil)) (eK (.int 8))))
  (sSeq (sAsg (gN 5) (eL dReg (lLc (iRng1D (aCons (eN dLen (aCons (eU (dGetS "lanes") (eV 4)) aNil)) aNil)) (gN 9) tYes (eL dReg (lDisp aNil)) [9])))
  (sSeq (sFor (iRng1D (aCons (eK (.int 30)) aNil)) (gN 6) b_law_0)
  (sIf (tB (neNilL (lLcLoc (eV 5) (gN 10) (tNot (tB (eC f__law_is_log (aCons (eN dTupOf (aCons (eV 10) aNil)) (aCons (eU (dGetS "most") (eV 4)) (aCons (eU (dGetS "wait") (eV 4)) aNil)))))) (eV 10) [10]))) (sRet (eK (.bl false))) sNext)))))
def m_law : S := (sSeq (sAsg (gN 1) (eC f__law_feed (aCons (eV 0) aNil)))
  (sSeq (sAsg (gN 2) (eL dReg (lDisp (aCons (eK (.str "in")) (aCons (eK (.str "in")) (aCons (eK (.str "in")) (aCons (eK (.str "in")) (aCons (eK (.str "in")) (aCons (eK (.str "post")) (aCons (eK (.str "post")) (aCons (eK (.str "post")) (aCons (eK (.str "poll")) (aCons (eK (.str "unmask")) (aCons (eK (.str "unmask")) (aCons (eK (.str "tick")) (aCons (eK (.str "tick")) aNil))))))))))))))))
  (sSeq (sFor (iRng1D (aCons (eK (.int 2)) aNil)) (gN 3) b_law_1)
  (sRet (eK (.bl true))))))
def f_law : Fn := runF 1 11 m_law
end Dt
namespace Dt
/-- a body's end as a call's -/
def SR.fin (r : SR) : Res D := match r with
  | .nx _ M => .ok .non M
  | .rt d M => .ok d M
  | .ex e _ M => .ex e M
  | _ => .bad
@[simp] theorem fin_nx (δ : Env) (M : Mem) : (SR.nx δ M).fin = .ok .non M := rfl
@[simp] theorem fin_rt (d : D) (M : Mem) : (SR.rt d M).fin = .ok d M := rfl
@[simp] theorem fin_ex (e : Exn) (δ : Env) (M : Mem) : (SR.ex e δ M).fin = .ex e M := rfl
section
variable (δ : Env) (M : Mem)
@[simp] theorem x_eV (i : Nat) : eV i δ M = match δ[i]? with | some (some d) => .ok d M | _ => .bad := rfl
@[simp] theorem x_eK (d : D) : eK d δ M = .ok d M := rfl
@[simp] theorem x_eU (g : D → Mem → Res D) (a : E) : eU g a δ M = (a δ M).bind g := rfl
@[simp] theorem x_eB (g : D → D → Mem → Res D) (a b : E) : eB g a b δ M = (a δ M).bind fun x M => (b δ M).bind fun y M => g x y M := rfl
@[simp] theorem x_eN (g : List D → Mem → Res D) (a : Ar) : eN g a δ M = (a δ M).bind g := rfl
@[simp] theorem x_aNil : aNil δ M = .ok [] M := rfl
@[simp] theorem x_aCons (e : E) (a : Ar) : aCons e a δ M = (e δ M).bind fun x M => (a δ M).bind fun xs M => .ok (x :: xs) M := rfl
@[simp] theorem x_eIf (t : T) (a b : E) : eIf t a b δ M = (t δ M).bind fun c M => if c = true then a δ M else b δ M := rfl
def andK (x : D) (r : Res D) (M : Mem) : Res D := match x with | .bl true => r | .bl false => .ok (.bl false) M | _ => .bad
def orK (x : D) (r : Res D) (M : Mem) : Res D := match x with | .bl false => r | .bl true => .ok (.bl true) M | _ => .bad
@[simp] theorem andK_t (r : Res D) : andK (.bl true) r M = r := rfl
@[simp] theorem andK_f (r : Res D) : andK (.bl false) r M = .ok (.bl false) M := rfl
@[simp] theorem orK_t (r : Res D) : orK (.bl true) r M = .ok (.bl true) M := rfl
@[simp] theorem orK_f (r : Res D) : orK (.bl false) r M = r := rfl
@[simp] theorem andK_b (p q : Bool) : andK (.bl p) (.ok (.bl q) M) M = .ok (.bl (p && q)) M := by cases p <;> rfl
@[simp] theorem orK_b (p q : Bool) : orK (.bl p) (.ok (.bl q) M) M = .ok (.bl (p || q)) M := by cases p <;> rfl
@[simp] theorem x_eAnd (a b : E) : eAnd a b δ M = (a δ M).bind fun x M => andK x (b δ M) M := rfl
@[simp] theorem x_eOr (a b : E) : eOr a b δ M = (a δ M).bind fun x M => orK x (b δ M) M := rfl
@[simp] theorem x_not (b : Bool) : dNot (.bl b) M = .ok (.bl (!b)) M := rfl
@[simp] theorem x_tB (a : E) : tB a δ M = (a δ M).bind fun x M => match x with | .bl b => .ok b M | _ => .bad := rfl
@[simp] theorem x_tAnd (t u : T) : tAnd t u δ M = (t δ M).bind fun c M => if c = true then u δ M else .ok false M := rfl
@[simp] theorem x_tOr (t u : T) : tOr t u δ M = (t δ M).bind fun c M => if c = true then .ok true M else u δ M := rfl
@[simp] theorem x_tNot (t : T) : tNot t δ M = (t δ M).bind fun c M => .ok (!c) M := rfl
@[simp] theorem x_tYes : tYes δ M = .ok true M := rfl
@[simp] theorem x_gN (i : Nat) (d : D) : gN i d δ = if i < δ.length then some (δ.set i (some d)) else none := rfl
@[simp] theorem x_gTs0 : gTs [] [] δ = some δ := rfl
@[simp] theorem x_gTs1 (g : G) (gs : List G) (d : D) (ds : List D) : gTs (g :: gs) (d :: ds) δ = (g d δ).bind fun δ' => gTs gs ds δ' := rfl
@[simp] theorem x_gT (gs : List G) (ds : List D) : gT gs (.tup ds) δ = gTs gs ds δ := rfl
@[simp] theorem x_sNext : sNext δ M = .nx δ M := rfl
@[simp] theorem x_sSeq (s t : S) : sSeq s t δ M = (s δ M).seq t := rfl
@[simp] theorem x_sAsg (g : G) (a : E) : sAsg g a δ M = (a δ M).st δ fun d M => match g d δ with | some δ' => .nx δ' M | none => .bad := rfl
@[simp] theorem x_sIf (t : T) (s u : S) : sIf t s u δ M = (t δ M).st δ fun c M => if c = true then s δ M else u δ M := rfl
@[simp] theorem x_sRet (a : E) : sRet a δ M = (a δ M).st δ fun d M => .rt d M := rfl
@[simp] theorem x_sExpr (a : E) : sExpr a δ M = (a δ M).st δ fun _ M => .nx δ M := rfl
@[simp] theorem x_eC (m : Fn) (a : Ar) : eC m a δ M = (a δ M).bind m := rfl
@[simp] theorem x_eCK (m : Fn) (n j : Nat) (a ks : Ar) : eCK m n j a ks δ M = (a δ M).bind fun ds M => (ks δ M).bind fun zs M => if ds.length = n ∧ zs.length = j then m (ds ++ zs) M else .bad := rfl
@[simp] theorem x_sPar (is : List Nat) (a : Ar) : sPar is a δ M = (a δ M).st δ fun ds M => if ds.length = is.length then .nx ((is.zip ds).foldl (fun δ p => δ.set p.1 (some p.2)) δ) M else .bad := rfl
@[simp] theorem x_eL (g : List D → Mem → Res D) (l : Ar) : eL g l δ M = (l δ M).bind g := rfl
@[simp] theorem x_lDisp (a : Ar) : lDisp a δ M = (a δ M).bind fun ds M => if ds.length ≤ cap then .ok ds M else .bad := rfl
@[simp] theorem x_dReg (ds : List D) : dReg ds M = .ok (.loc M.length) (M ++ [.lst ds]) := rfl
@[simp] theorem x_qN : qN δ M = .ok none M := rfl
@[simp] theorem x_qE (e : E) : qE e δ M = (e δ M).bind fun d M => match d with | .int i => .ok (some i) M | _ => .bad := rfl
@[simp] theorem x_eSl (a : E) (lo hi : Pt) : eSl a lo hi δ M = (a δ M).bind fun x M => (lo δ M).bind fun l M => (hi δ M).bind fun h M => dSl x l h M := rfl
@[simp] theorem x_dSl (ds : List D) (lo hi : Option Int) : dSl (.tup ds) lo hi M = .ok (.tup (cutD ds lo hi)) M := rfl
@[simp] theorem x_iTupD (a : E) : iTupD a δ M = (a δ M).bind fun d M => match d with | .tup ds => .ok ds M | _ => .bad := rfl
@[simp] theorem x_sFor (it : Ar) (g : G) (b : S) : sFor it g b δ M = (it δ M).st δ fun ds M => loop g b ds δ M := rfl
@[simp] theorem x_runF (n nn : Nat) (s : S) (ds : List D) : runF n nn s ds M = if ds.length = n then runB s nn ds M else .bad := rfl
@[simp] theorem x_runB (n : Nat) (s : S) (ds : List D) : runB s n ds M = (s (ds.map some ++ List.replicate (n - ds.length) none) M).fin := rfl
end
section
variable (M : Mem) (i j : Int)
@[simp] theorem x_add : dAdd (.int i) (.int j) M = .ok (.int (i + j)) M := rfl
@[simp] theorem x_sub : dSub (.int i) (.int j) M = .ok (.int (i - j)) M := rfl
@[simp] theorem x_lt : dLt (.int i) (.int j) M = .ok (.bl (decide (i < j))) M := rfl
@[simp] theorem x_le : dLe (.int i) (.int j) M = .ok (.bl (decide (i ≤ j))) M := rfl
@[simp] theorem x_gt : dGt (.int i) (.int j) M = .ok (.bl (decide (j < i))) M := rfl
@[simp] theorem x_ge : dGe (.int i) (.int j) M = .ok (.bl (decide (j ≤ i))) M := rfl
theorem x_mod (h : 0 < j) : dMod (.int i) (.int j) M = .ok (.int (i % j)) M := by
  show (if decide (0 < j) = true then _ else _) = _
  rw [if_pos (decide_eq_true h)]
theorem x_div (h : 0 < j) (h2 : j < 1073741824) : dDiv (.int i) (.int j) M = .ok (.int (i / j)) M := by
  show (if decide (0 < j ∧ j < 1073741824) = true then _ else _) = _
  rw [if_pos (decide_eq_true ⟨h, h2⟩)]
theorem x_mul (h : mulOk i j = true) : dMul (.int i) (.int j) M = .ok (.int (i * j)) M := by
  show (if mulOk i j = true then _ else _) = _
  rw [if_pos h]
@[simp] theorem x_eqii : dEq (.int i) (.int j) M = .ok (.bl (i == j)) M := rfl
@[simp] theorem x_neii : dNe (.int i) (.int j) M = .ok (.bl (!(i == j))) M := rfl
@[simp] theorem x_eqss (a b : String) : dEq (.str a) (.str b) M = .ok (.bl (a == b)) M := rfl
@[simp] theorem x_ness (a b : String) : dNe (.str a) (.str b) M = .ok (.bl (!(a == b))) M := rfl
theorem x_tup {ds : List D} (h : ds.length ≤ cap) : dTup ds M = .ok (.tup ds) M := if_pos h
end
/-- how a lane stands, by its log -/
structure Ln where
  many : Int
  since : Option Int
  masked : Bool
def oI : Option Int → D
  | none => .non
  | some i => .int i
def lnD (s : Ln) : D := .tup [.int s.many, oI s.since, .bl s.masked]
def row (w : String) (c m : Int) : D := .tup [.str w, .int c, .int m]
def due (s : Ln) (c most wait : Int) : Bool := !s.masked && (decide (0 < s.many) && (decide (most ≤ s.many) || (match s.since with | some x => decide (wait ≤ c - x) | none => false)))
def bef (s : Ln) (w : String) (c m : Int) : Ln :=
  if w = "fill" then ⟨s.many + 1, if s.many = 0 then some c else s.since, s.masked⟩
  else if w = "poll" then ⟨s.many - m, if s.many = m then none else s.since, s.masked⟩
  else if w = "unmask" ∧ s.masked = true then ⟨s.many, if 0 < s.many then some c else none, false⟩
  else if w = "raise" then ⟨s.many, s.since, true⟩ else s
/-- since when, where there is something -/
def LnOk (s : Ln) : Prop := 0 ≤ s.many ∧ (0 < s.many → ∃ x, s.since = some x) ∧ (s.many = 0 → s.since = none)
theorem p_due {s : Ln} (h : LnOk s) (c most wait : Int) (M : Mem) : f_is_due [lnD s, .int c, .tup [.int most, .int wait]] M = .ok (.bl (due s c most wait)) M := by
  obtain ⟨many, since, masked⟩ := s
  obtain ⟨h1, h2, h3⟩ := h
  simp only at h1 h2 h3
  by_cases hm : 0 < many
  · obtain ⟨x, rfl⟩ := h2 hm
    cases masked <;> by_cases hq : most ≤ many <;> simp [f_is_due, m_is_due, lnD, oI, due, *]
  · cases masked <;> by_cases hq : most ≤ many <;> simp [f_is_due, m_is_due, lnD, oI, due, *]
theorem p_befell (s : Ln) (w : String) (c m : Int) (M : Mem) : f_befell [lnD s, row w c m] M = .ok (lnD (bef s w c m)) M := by
  obtain ⟨many, since, masked⟩ := s
  unfold bef
  by_cases h1 : w = "fill"
  · subst h1
    by_cases hm : many = 0 <;> simp [f_befell, m_befell, lnD, row, oI, dTup, cap, hm]
  by_cases h2 : w = "poll"
  · subst h2
    by_cases hm : many = m <;> simp [f_befell, m_befell, lnD, row, oI, dTup, cap, hm]
  by_cases h3 : w = "unmask" ∧ masked = true
  · obtain ⟨h3, h4⟩ := h3
    subst h3 h4
    by_cases hm : 0 < many <;> simp [f_befell, m_befell, lnD, row, oI, dTup, cap, hm]
  by_cases h4 : w = "raise"
  · subst h4
    simp [f_befell, m_befell, lnD, row, oI, dTup, cap]
  · by_cases h5 : w = "unmask"
    · subst h5
      have : masked = false := by cases masked; rfl; exact absurd ⟨rfl, rfl⟩ h3
      subst this
      simp [f_befell, m_befell, lnD, row, oI, dTup, cap]
    · simp [f_befell, m_befell, lnD, row, oI, dTup, cap, h1, h2, h3, h4, h5]
@[simp] theorem atI_0 {α : Type} (x : α) (r : List α) : L2.atI (x :: r) 0 = some x := by simp [L2.atI, L2.ixN]
@[simp] theorem atI_1 {α : Type} (x y : α) (r : List α) : L2.atI (x :: y :: r) 1 = some y := by
  have : (1 : Int) < (r.length : Int) + 1 + 1 := by omega
  simp [L2.atI, L2.ixN, this]
@[simp] theorem atI_2 {α : Type} (x y z : α) (r : List α) : L2.atI (x :: y :: z :: r) 2 = some z := by
  have : (2 : Int) < (r.length : Int) + 1 + 1 + 1 := by omega
  simp [L2.atI, L2.ixN, this]
theorem atI_nat {α : Type} (xs : List α) (i : Nat) (x : α) (h : xs[i]? = some x) : L2.atI xs (i : Int) = some x := by
  have hl := (List.getElem?_eq_some_iff.mp h).1
  simp [L2.atI, L2.ixN, hl]
  exact (List.getElem?_eq_some_iff.mp h).2
@[simp] theorem x_ixT (ds : List D) (i : Int) (M : Mem) : dIx (.tup ds) (.int i) M = match L2.atI ds i with | some d => .ok d M | none => .bad := rfl
/-- rows that wake -/
def wakes (w : String) : Bool := w == "fill" || (w == "unmask" || w == "tick")
def dueB (s : Ln) (w : String) (c most wait : Int) : Bool := wakes w && due s c most wait
theorem x_in3 (w : String) (M : Mem) : dIn false (.str w) (.tup [.str "fill", .str "unmask", .str "tick"]) M = .ok (.bl (wakes w)) M := by
  have e : dIn false (.str w) (.tup [.str "fill", .str "unmask", .str "tick"]) M = .ok (.bl (["fill", "unmask", "tick"].contains w)) M := rfl
  rw [e]
  unfold wakes
  by_cases h1 : w = "fill" <;> by_cases h2 : w = "unmask" <;> by_cases h3 : w = "tick" <;> simp [*]
theorem p_dueB {s : Ln} (h : LnOk s) (w : String) (c m most wait : Int) (M : Mem) : f_is_due_behind [lnD s, row w c m, .tup [.int most, .int wait]] M = .ok (.bl (dueB s w c most wait)) M := by
  have hd := p_due h c most wait M
  cases hw : wakes w <;> simp [f_is_due_behind, m_is_due_behind, row, dTup, cap, x_in3, hw, dueB, hd]
end Dt
namespace Dt
theorem loop_nx {g : G} {b : S} {x : D} {xs : List D} {δ δ1 δ2 : Env} {M M2 : Mem} (hg : g x δ = some δ1) (hb : b δ1 M = .nx δ2 M2) : loop g b (x :: xs) δ M = loop g b xs δ2 M2 := by
  show (match g x δ with | none => SR.bad | some δ' => match b δ' M with | .nx δ2 M2 => loop g b xs δ2 M2 | .ct δ2 M2 => loop g b xs δ2 M2 | .bk δ2 M2 => .nx δ2 M2 | .rt d M2 => .rt d M2 | .ex e δ2 M2 => .ex e δ2 M2 | .bad => .bad) = _
  rw [hg]
  simp only [hb]
theorem loop_ex {g : G} {b : S} {x : D} {xs : List D} {δ δ1 δ2 : Env} {M M2 : Mem} {e : Exn} (hg : g x δ = some δ1) (hb : b δ1 M = .ex e δ2 M2) : loop g b (x :: xs) δ M = .ex e δ2 M2 := by
  show (match g x δ with | none => SR.bad | some δ' => match b δ' M with | .nx δ2 M2 => loop g b xs δ2 M2 | .ct δ2 M2 => loop g b xs δ2 M2 | .bk δ2 M2 => .nx δ2 M2 | .rt d M2 => .rt d M2 | .ex e δ2 M2 => .ex e δ2 M2 | .bad => .bad) = _
  rw [hg]
  simp only [hb]
theorem loop_nil {g : G} {b : S} {δ : Env} {M : Mem} : loop g b [] δ M = .nx δ M := rfl
theorem enumD_nil (k : Int) : enumD k [] = [] := rfl
theorem enumD_app (k : Int) (xs ys : List D) : enumD k (xs ++ ys) = enumD k xs ++ enumD (k + (xs.length : Nat)) ys := by
  unfold enumD
  rw [List.zipIdx_append, List.map_append]
  congr 1
  rw [List.zipIdx_eq_map_add, List.map_map]
  refine List.map_congr_left fun p _ => ?_
  simp [Int.add_assoc]
theorem enumD_cons (k : Int) (x : D) (xs : List D) : enumD k (x :: xs) = .tup [.int k, x] :: enumD (k + 1) xs := by
  have := enumD_app k [x] xs
  simpa [enumD] using this
theorem lcGo_map {g : G} {t : T} {e : E} {δ : Env} {M : Mem} {p : D → Bool} {h : D → D} : ∀ {ds : List D}, (∀ d ∈ ds, ∃ δ', g d δ = some δ' ∧ t δ' M = .ok (p d) M ∧ (p d = true → e δ' M = .ok (h d) M)) → lcGo g t e δ ds M = .ok ((ds.filter p).map h) M
  | [], _ => rfl
  | d :: ds, hd => by
    obtain ⟨δ', h1, h2, h3⟩ := hd d List.mem_cons_self
    have ih := lcGo_map (ds := ds) fun d hd' => hd d (List.mem_cons_of_mem _ hd')
    show (match g d δ with | none => Res.bad | some δ' => (t δ' M).ne.bind fun c M => if c = true then (e δ' M).ne.bind fun x M => (lcGo g t e δ ds M).bind fun xs M => .ok (x :: xs) M else lcGo g t e δ ds M) = _
    rw [h1]
    simp only [h2, Res.ne_ok, Res.bind_ok]
    cases hp : p d with
    | true => simp [h3 hp, ih, hp]
    | false => simp [ih, hp]
theorem LnOk.bef_ {s : Ln} {w : String} {c m : Int} (h : LnOk s) (hm : 0 ≤ m) (hq : w = "poll" → m ≤ s.many) : LnOk (bef s w c m) := by
  obtain ⟨many, since, masked⟩ := s
  obtain ⟨h1, h2, h3⟩ := h
  have h1 : 0 ≤ many := h1
  have h2 : 0 < many → ∃ x, since = some x := h2
  have h3 : many = 0 → since = none := h3
  have hq : w = "poll" → m ≤ many := hq
  unfold bef
  by_cases w1 : w = "fill"
  · rw [if_pos w1]
    refine ⟨by show 0 ≤ many + 1; omega, fun _ => ?_, fun z => ?_⟩
    · by_cases z : many = 0
      · exact ⟨c, if_pos z⟩
      · obtain ⟨x, hx⟩ := h2 (by omega)
        exact ⟨x, by show (if many = 0 then some c else since) = _; rw [if_neg z, hx]⟩
    · have z : many + 1 = 0 := z
      omega
  rw [if_neg w1]
  by_cases w2 : w = "poll"
  · have hq := hq w2
    rw [if_pos w2]
    refine ⟨by show 0 ≤ many - m; omega, fun z => ?_, fun z => ?_⟩
    · have z : 0 < many - m := z
      obtain ⟨x, hx⟩ := h2 (by omega)
      exact ⟨x, by show (if many = m then none else since) = _; rw [if_neg (show ¬ many = m by omega), hx]⟩
    · have z : many - m = 0 := z
      exact if_pos (show many = m by omega)
  rw [if_neg w2]
  by_cases w3 : w = "unmask" ∧ masked = true
  · rw [if_pos w3]
    refine ⟨h1, fun z => ⟨c, if_pos z⟩, fun z => ?_⟩
    have z : many = 0 := z
    exact if_neg (show ¬ 0 < many by omega)
  rw [if_neg w3]
  by_cases w4 : w = "raise"
  · rw [if_pos w4]; exact ⟨h1, h2, h3⟩
  · rw [if_neg w4]; exact ⟨h1, h2, h3⟩
def ln0 : Ln := ⟨0, none, false⟩
theorem ln0_ok : LnOk ln0 := ⟨Int.le_refl _, fun h => absurd h (by decide), fun _ => rfl⟩
/-- a row that may come behind s, a -/
structure Nxt (s : Ln) (a : Int) (w : String) (c m : Int) : Prop where
  w_ : w = "fill" ∨ w = "poll" ∨ w = "unmask" ∨ w = "tick"
  c_ : a ≤ c
  m0 : 0 ≤ m
  m_ : if w = "poll" then m ≤ s.many else m = 0
theorem Nxt.nr {s : Ln} {a : Int} {w : String} {c m : Int} (h : Nxt s a w c m) : (w == "raise") = false := by
  rcases h.w_ with e | e | e | e <;> subst e <;> rfl
inductive Lg (most wait : Int) : List D → Ln → Int → Prop
  | nil : Lg most wait [] ln0 0
  | calm {L s a} (h : Lg most wait L s a) (w : String) (c m : Int) (n : Nxt s a w c m) (hd : dueB (bef s w c m) w c most wait = false) : Lg most wait (L ++ [row w c m]) (bef s w c m) c
  | wake {L s a} (h : Lg most wait L s a) (w : String) (c m : Int) (n : Nxt s a w c m) (hd : dueB (bef s w c m) w c most wait = true) : Lg most wait (L ++ [row w c m, row "raise" c 0]) (bef (bef s w c m) "raise" c 0) c
theorem Nxt.ok {s : Ln} {a : Int} {w : String} {c m : Int} (n : Nxt s a w c m) (h : LnOk s) : LnOk (bef s w c m) := h.bef_ n.m0 fun e => by have := n.m_; rw [if_pos e] at this; exact this
theorem LnOk.raised {s : Ln} {c : Int} (h : LnOk s) : LnOk (bef s "raise" c 0) := h.bef_ (Int.le_refl _) fun e => absurd e (by decide)
theorem Lg.ok {most wait : Int} {L : List D} {s : Ln} {a : Int} (h : Lg most wait L s a) : LnOk s ∧ 0 ≤ a := by
  induction h with
  | nil => exact ⟨ln0_ok, Int.le_refl _⟩
  | calm h w c m n hd ih => exact ⟨n.ok ih.1, Int.le_trans ih.2 n.c_⟩
  | wake h w c m n hd ih => exact ⟨(n.ok ih.1).raised, Int.le_trans ih.2 n.c_⟩
def exNP (w : String) (k : Int) : Exn := ⟨"NoPaper", [("word", .str w), ("at", .int k)]⟩
theorem p_need {b : Bool} {w : String} {k : Int} {M : Mem} : f_need_wake [.bl b, .str w, .int k] M = if b = true then .ok .non M else .ex (exNP w k) M := by cases b <;> simp [f_need_wake, m_need_wake, sRaise, exNP]
def c1 (k : Int) (w : String) (c a : Int) : Bool := k == 0 || (c == a || (!(w == "raise") && decide (a < c)))
def c2 (w : String) (m : Int) (s : Ln) : Bool := if w = "poll" then decide (m ≤ s.many) else m == 0
theorem p_look {k a c m : Int} {w : String} {s : Ln} {d : Bool} {M : Mem} (h1 : c1 k w c a = true) (h2 : c2 w m s = true) (h3 : (!(w == "raise") || d) = true) :
    f_look_at_row [.int k, row w c m, .int a, lnD s, .bl d] M = if (w == "raise" || !d) = true then .ok .non M else .ex (exNP "late" k) M := by
  unfold c1 at h1
  unfold c2 at h2
  by_cases hp : w = "poll"
  · subst hp
    have e : ("poll" == "raise") = false := by decide
    rw [if_pos rfl] at h2
    rw [e] at h1 h3 ⊢
    simp [-Bool.or_eq_true, -Bool.and_eq_true] at h1
    cases d <;> simp [-Bool.or_eq_true, -Bool.and_eq_true, f_look_at_row, m_look_at_row, row, lnD, p_need, h1, h2]
  · rw [if_neg hp] at h2
    cases h4 : (w == "raise" || !d) <;> simp [-Bool.or_eq_true, -Bool.and_eq_true, f_look_at_row, m_look_at_row, row, lnD, p_need, h1, h2, h3, h4, hp]
/-- one row read by lets_wakes -/
theorem lets_step {k a c m most wait : Int} {w : String} {s : Ln} {d : Bool} {M : Mem} {T x6 x7 : Option D} {xs : List D} (ok : LnOk (bef s w c m)) (h1 : c1 k w c a = true) (h2 : c2 w m s = true) (h3 : (!(w == "raise") || d) = true) (h4 : (w == "raise" || !d) = true) :
    loop (gT [(gN 6), (gN 7)]) b_lets_wakes_0 (.tup [.int k, row w c m] :: xs) [T, some (.int most), some (.int wait), some (lnD s), some (.int a), some (.bl d), x6, x7] M =
      loop (gT [(gN 6), (gN 7)]) b_lets_wakes_0 xs [T, some (.int most), some (.int wait), some (lnD (bef s w c m)), some (.int c), some (.bl (dueB (bef s w c m) w c most wait)), some (.int k), some (row w c m)] M := by
  refine loop_nx (δ1 := [T, some (.int most), some (.int wait), some (lnD s), some (.int a), some (.bl d), some (.int k), some (row w c m)]) (by simp) ?_
  have e1 := p_look (M := M) h1 h2 h3
  rw [if_pos h4] at e1
  have e2 := p_befell s w c m M
  have e3 := p_dueB ok w c m most wait M
  have e4 : dIx (row w c m) (.int 1) M = .ok (.int c) M := by simp [row]
  simp [b_lets_wakes_0, e1, e2, e3, e4, dTup, cap]
theorem lets_late {k a c m most wait : Int} {w : String} {s : Ln} {d : Bool} {M : Mem} {T x6 x7 : Option D} {xs : List D} (h1 : c1 k w c a = true) (h2 : c2 w m s = true) (h3 : (!(w == "raise") || d) = true) (h4 : (w == "raise" || !d) = false) :
    loop (gT [(gN 6), (gN 7)]) b_lets_wakes_0 (.tup [.int k, row w c m] :: xs) [T, some (.int most), some (.int wait), some (lnD s), some (.int a), some (.bl d), x6, x7] M =
      .ex (exNP "late" k) [T, some (.int most), some (.int wait), some (lnD s), some (.int a), some (.bl d), some (.int k), some (row w c m)] M := by
  refine loop_ex (δ1 := [T, some (.int most), some (.int wait), some (lnD s), some (.int a), some (.bl d), some (.int k), some (row w c m)]) (by simp) ?_
  have e1 := p_look (M := M) h1 h2 h3
  rw [if_neg (by rw [h4]; decide)] at e1
  simp [b_lets_wakes_0, e1]
theorem Nxt.c1 {s : Ln} {a : Int} {w : String} {c m : Int} (n : Nxt s a w c m) (k : Int) : Dt.c1 k w c a = true := by
  unfold Dt.c1
  rw [n.nr]
  by_cases h : c = a
  · simp [h]
  · have := n.c_
    have : a < c := by omega
    simp [this]
theorem Nxt.c2 {s : Ln} {a : Int} {w : String} {c m : Int} (n : Nxt s a w c m) : Dt.c2 w m s = true := by
  have := n.m_
  unfold Dt.c2
  split at this <;> simp [*]
theorem bef_many (s : Ln) (c : Int) : (bef s "raise" c 0).many = s.many := rfl
theorem dueB_raise (s : Ln) (c most wait : Int) : dueB s "raise" c most wait = false := rfl
/-- a whole log read by lets_wakes -/
theorem lets_run {most wait : Int} {L : List D} {s : Ln} {a : Int} (h : Lg most wait L s a) (T : Option D) (M : Mem) : ∀ (x6 x7 : Option D), ∃ y6 y7, ∀ xs,
    loop (gT [(gN 6), (gN 7)]) b_lets_wakes_0 (enumD 0 L ++ xs) [T, some (.int most), some (.int wait), some (lnD ln0), some (.int 0), some (.bl false), x6, x7] M =
      loop (gT [(gN 6), (gN 7)]) b_lets_wakes_0 xs [T, some (.int most), some (.int wait), some (lnD s), some (.int a), some (.bl false), y6, y7] M := by
  induction h with
  | nil => exact fun x6 x7 => ⟨x6, x7, fun xs => rfl⟩
  | @calm L s a h w c m n hd ih =>
    intro x6 x7
    obtain ⟨y6, y7, e⟩ := ih x6 x7
    refine ⟨some (.int (0 + (L.length : Nat))), some (row w c m), fun xs => ?_⟩
    rw [enumD_app, List.append_assoc, e, enumD_cons, enumD_nil, List.cons_append, List.nil_append, lets_step (n.ok h.ok.1) (n.c1 _) n.c2 (by rw [n.nr]; rfl) (by rw [n.nr]; rfl), hd]
  | @wake L s a h w c m n hd ih =>
    intro x6 x7
    obtain ⟨y6, y7, e⟩ := ih x6 x7
    refine ⟨some (.int (0 + (L.length : Nat) + 1)), some (row "raise" c 0), fun xs => ?_⟩
    rw [enumD_app, List.append_assoc, e, enumD_cons, enumD_cons, enumD_nil, List.cons_append, List.cons_append, List.nil_append, lets_step (n.ok h.ok.1) (n.c1 _) n.c2 (by rw [n.nr]; rfl) (by rw [n.nr]; rfl), hd,
      lets_step (n.ok h.ok.1).raised (by simp [Dt.c1]) (by simp [Dt.c2]) (by rfl) (by rfl), dueB_raise]
theorem beq3 (w : String) : (w == "raise") = decide (w = "raise") := by by_cases h : w = "raise" <;> simp [h]
def isR (d : D) : Bool := match d with
  | .tup (.str w :: _) => w == "raise"
  | _ => false
@[simp] theorem isR_row (w : String) (c m : Int) : isR (row w c m) = (w == "raise") := rfl
def words5 : List String := ["fill", "poll", "unmask", "tick", "raise"]
def RowOk (d : D) : Prop := ∃ w c m, d = row w c m ∧ w ∈ words5 ∧ 0 ≤ c ∧ 0 ≤ m
theorem Nxt.row {s : Ln} {a : Int} {w : String} {c m : Int} (n : Nxt s a w c m) (ha : 0 ≤ a) : RowOk (Dt.row w c m) := ⟨w, c, m, rfl, by rcases n.w_ with e | e | e | e <;> subst e <;> decide, Int.le_trans ha n.c_, n.m0⟩
theorem Lg.rows {most wait : Int} {L : List D} {s : Ln} {a : Int} (h : Lg most wait L s a) : ∀ d ∈ L, RowOk d := by
  induction h with
  | nil => intro d hd; cases hd
  | calm h w c m n hd ih =>
    intro d hm
    rcases List.mem_append.mp hm with z | z
    · exact ih d z
    · rw [List.mem_singleton.mp z]; exact n.row h.ok.2
  | wake h w c m n hd ih =>
    intro d hm
    rcases List.mem_append.mp hm with z | z
    · exact ih d z
    · rcases List.mem_cons.mp z with z | z
      · rw [z]; exact n.row h.ok.2
      · rw [List.mem_singleton.mp z]; exact ⟨"raise", c, 0, rfl, by decide, Int.le_trans h.ok.2 n.c_, Int.le_refl _⟩
theorem p_isnum {i : Int} (h : 0 ≤ i) (M : Mem) : f_is_number [.int i] M = .ok (.bl true) M := by
  have e1 : dIsi "int" (.int i) M = .ok (.bl true) M := by unfold dIsi; simp only [tyN]; rw [show L2.kitB "int" "int" = some true by decide +kernel]
  have e2 : dIsi "bool" (.int i) M = .ok (.bl false) M := by unfold dIsi; simp only [tyN]; rw [show L2.kitB "int" "bool" = some false by decide +kernel]
  simp [f_is_number, m_is_number, e1, e2, h]
theorem p_isrow {d : D} (h : RowOk d) (M : Mem) : f_is_wake_row [d] M = .ok (.bl true) M := by
  obtain ⟨w, c, m, rfl, hw, hc, hm⟩ := h
  have e1 : dIsi "tuple" (row w c m) M = .ok (.bl true) M := by unfold dIsi row; simp only [tyN]; rw [show L2.kitB "tuple" "tuple" = some true by decide +kernel]
  have e2 : dIsi "str" (.str w) M = .ok (.bl true) M := by unfold dIsi; simp only [tyN]; rw [show L2.kitB "str" "str" = some true by decide +kernel]
  have e3 : dIn false (.str w) d_WAKE_WORDS M = .ok (.bl true) M := by
    have e : dIn false (.str w) d_WAKE_WORDS M = .ok (.bl (words5.contains w)) M := rfl
    rw [e]
    have : words5.contains w = true := by simpa using hw
    rw [this]
  have e4 := p_isnum hc M
  have e5 := p_isnum hm M
  have e6 : dLen [row w c m] M = .ok (.int 3) M := rfl
  have e7 : dIx (row w c m) (.int 0) M = .ok (.str w) M := by simp [row]
  have e8 : dIx (row w c m) (.int 1) M = .ok (.int c) M := by simp [row]
  have e9 : dIx (row w c m) (.int 2) M = .ok (.int m) M := by simp [row]
  simp [f_is_wake_row, m_is_wake_row, e1, e2, e3, e4, e5, e6, e7, e8, e9]
theorem x_lLc {it : Ar} {g : G} {t : T} {e : E} {vs : List Nat} {δ : Env} {M : Mem} {ds : List D} {p : D → Bool} {h : D → D} (h1 : it δ M = .ok ds M) (h2 : ds.length ≤ 100000) (h3 : ∀ d ∈ ds, ∃ δ', g d (wipeE δ vs) = some δ' ∧ t δ' M = .ok (p d) M ∧ (p d = true → e δ' M = .ok (h d) M)) :
    lLc it g t e vs δ M = .ok ((ds.filter p).map h) M := by
  show (it δ M).bind _ = _
  rw [h1, Res.bind_ok, if_pos h2, lcGo_map h3]
theorem allTrue : ∀ (L : List D), blsD (L.map fun _ => D.bl true) = some (L.map fun _ => true)
  | [] => rfl
  | d :: L => by
    show (blsD (L.map fun _ => D.bl true)).map (true :: ·) = _
    rw [allTrue L]; rfl
/-- what it tells of a log, the loop's end known -/
theorem lets_head {most wait : Int} {L : List D} (hr : ∀ d ∈ L, RowOk d) (hl : L.length ≤ 100000) {M : Mem} {r : SR} (h : loop (gT [(gN 6), (gN 7)]) b_lets_wakes_0 (enumD 0 L) [some (.tup L), some (.int most), some (.int wait), some (lnD ln0), some (.int 0), some (.bl false), none, none] M = r) :
    f_lets_wakes [.tup L, .int most, .int wait] M = (r.seq (sSeq (sExpr (eC f_need_wake (aCons (eU dNot (eV 5)) (aCons (eK (.str "late")) (aCons (eN dLen (aCons (eV 0) aNil)) aNil)))))
      (sRet (eL dLenL (lLc (iTupD (eV 0)) (gN 7) (tB (eB dEq (eB dIx (eV 7) (eK (.int 0))) (eK (.str "raise")))) (eV 7) [7]))))).fin := by
  have e1 : dIsi "tuple" (.tup L) M = .ok (.bl true) M := by unfold dIsi; simp only [tyN]; rw [show L2.kitB "tuple" "tuple" = some true by decide +kernel]
  have e2 : lLc (iTupD (eV 0)) (gN 7) tYes (eC f_is_wake_row (aCons (eV 7) aNil)) [7] [some (.tup L), some (.int most), some (.int wait), none, none, none, none, none] M = .ok ((L.filter fun _ => true).map fun _ => .bl true) M :=
    x_lLc (by simp) hl fun d hd => ⟨_, rfl, rfl, fun _ => by simp [wipeE, p_isrow (hr d hd)]⟩
  have e3 : dAllL (L.map fun _ => D.bl true) M = .ok (.bl true) M := by
    unfold dAllL
    rw [allTrue L]
    simp
  have e4 : iEnumD 0 (eV 0) [some (.tup L), some (.int most), some (.int wait), some (lnD ln0), some (.int 0), some (.bl false), none, none] M = .ok (enumD 0 L) M := rfl
  have e5 : d_BEGINNING = lnD ln0 := rfl
  rw [show (L.filter fun _ => true) = L from List.filter_eq_self.mpr fun _ _ => rfl] at e2
  simp [f_lets_wakes, m_lets_wakes, e1, e2, e3, p_need, dNeg, e5, e4, h]
theorem x_row0 (w : String) (c m : Int) (M : Mem) : dIx (row w c m) (.int 0) M = .ok (.str w) M := by simp [row]
theorem x_row1 (w : String) (c m : Int) (M : Mem) : dIx (row w c m) (.int 1) M = .ok (.int c) M := by simp [row]
theorem p_lets {most wait : Int} {L : List D} {s : Ln} {a : Int} (h : Lg most wait L s a) (hl : L.length ≤ 100000) (M : Mem) : f_lets_wakes [.tup L, .int most, .int wait] M = .ok (.int (L.filter isR).length) M := by
  obtain ⟨y6, y7, e⟩ := lets_run h (some (.tup L)) M none none
  have e := e []
  rw [List.append_nil, loop_nil] at e
  rw [lets_head h.rows hl e]
  have e2 : lLc (iTupD (eV 0)) (gN 7) (tB (eB dEq (eB dIx (eV 7) (eK (.int 0))) (eK (.str "raise")))) (eV 7) [7] [some (.tup L), some (.int most), some (.int wait), some (lnD s), some (.int a), some (.bl false), y6, y7] M = .ok ((L.filter isR).map id) M :=
    x_lLc (by simp) hl fun d hd => by
      obtain ⟨w, c, m, rfl, _⟩ := h.rows d hd
      exact ⟨_, rfl, by simp [wipeE, x_row0], fun _ => by simp [wipeE]⟩
  rw [List.map_id] at e2
  simp [dLen, p_need, e2, dLenL]
theorem p_lets_drop {most wait : Int} {L1 L2 : List D} {s : Ln} {a : Int} (h : Lg most wait L1 s a) {w : String} {c m : Int} (n : Nxt s a w c m) (hd : dueB (bef s w c m) w c most wait = true) (hr : ∀ d ∈ L2, RowOk d) (hl : L1.length + 1 + L2.length ≤ 100000)
    (h2 : ∀ d ∈ L2.head?, ∃ w2 c2 m2, d = row w2 c2 m2 ∧ Nxt (bef s w c m) c w2 c2 m2) (M : Mem) : f_lets_wakes [.tup (L1 ++ [row w c m] ++ L2), .int most, .int wait] M = .ex (exNP "late" (L1.length + 1 : Nat)) M := by
  obtain ⟨y6, y7, e⟩ := lets_run h (some (.tup (L1 ++ [row w c m] ++ L2))) M none none
  have hrow : ∀ d ∈ L1 ++ [row w c m] ++ L2, RowOk d := fun d hm => by
    rcases List.mem_append.mp hm with z | z
    · rcases List.mem_append.mp z with z | z
      · exact h.rows d z
      · rw [List.mem_singleton.mp z]; exact n.row h.ok.2
    · exact hr d z
  have hlen : (L1 ++ [row w c m] ++ L2).length ≤ 100000 := by simp; omega
  have e1 : loop (gT [(gN 6), (gN 7)]) b_lets_wakes_0 (enumD 0 (L1 ++ [row w c m] ++ L2)) [some (.tup (L1 ++ [row w c m] ++ L2)), some (.int most), some (.int wait), some (lnD ln0), some (.int 0), some (.bl false), none, none] M =
      loop (gT [(gN 6), (gN 7)]) b_lets_wakes_0 (enumD ((L1.length + 1 : Nat) : Int) L2) [some (.tup (L1 ++ [row w c m] ++ L2)), some (.int most), some (.int wait), some (lnD (bef s w c m)), some (.int c), some (.bl true), some (.int (0 + (L1.length : Nat))), some (row w c m)] M := by
    have eL : enumD 0 (L1 ++ [row w c m] ++ L2) = enumD 0 L1 ++ (.tup [.int (0 + (L1.length : Nat)), row w c m] :: enumD ((L1.length + 1 : Nat) : Int) L2) := by
      rw [List.append_assoc, enumD_app, List.singleton_append, enumD_cons]
      congr 3
      omega
    rw [eL, e, lets_step (n.ok h.ok.1) (n.c1 _) n.c2 (by rw [n.nr]; rfl) (by rw [n.nr]; rfl), hd]
  cases L2 with
  | nil =>
    rw [enumD_nil, loop_nil] at e1
    rw [lets_head hrow hlen e1]
    simp [dLen, p_need]
  | cons d L2 =>
    obtain ⟨w2, c2', m2, rfl, n2⟩ := h2 d (by simp)
    rw [enumD_cons, lets_late (n2.c1 _) n2.c2 (by rw [n2.nr]; rfl) (by rw [n2.nr]; rfl)] at e1
    rw [lets_head hrow hlen e1]
    rfl
end Dt
namespace Dt
@[simp] theorem last_get (M : Mem) (o : MO) : (M ++ [o])[M.length]? = some o := by simp
@[simp] theorem last_set (M : Mem) (o u : MO) : (M ++ [o]).set M.length u = M ++ [u] := by simp
theorem x_eM {g : List D → Nat → List D → Mem → Res D} {o : E} {a : Ar} {δ : Env} {M M1 M2 : Mem} {l : Nat} {ds as ds2 : List D} (h1 : o δ M = .ok (.loc l) M1) (h2 : M1[l]? = some (.lst ds)) (h3 : a δ M1 = .ok as M2) (h4 : M2[l]? = some (.lst ds2)) : eM g o a δ M = g ds2 l as M2 := by
  show (o δ M).bind _ = _
  rw [h1]
  simp only [Res.bind_ok, h2, h3, h4]
theorem x_app {o e : E} {δ : Env} {M : Mem} {l : Nat} {ds : List D} {d : D} (h1 : o δ M = .ok (.loc l) M) (h2 : M[l]? = some (.lst ds)) (h3 : e δ M = .ok d M) (h4 : ds.length < cap) : eM mAppend o (aCons e aNil) δ M = .ok .non (M.set l (.lst (ds ++ [d]))) := by
  rw [x_eM (as := [d]) h1 h2 (by simp [h3]) h2]
  exact if_pos h4
def nR (d : D) : Bool := !isR d
theorem wl_calm {w : String} {c m most wait : Int} {s : Ln} {M : Mem} {acc xs : List D} {T x5 : Option D} (ok : LnOk (bef s w c m)) (hl : acc.length + 2 ≤ cap) (hd : dueB (bef s w c m) w c most wait = false) :
    loop (gN 5) b_wake_log_0 (row w c m :: xs) [T, some (.int most), some (.int wait), some (lnD s), some (.loc M.length), x5] (M ++ [.lst acc]) =
      loop (gN 5) b_wake_log_0 xs [T, some (.int most), some (.int wait), some (lnD (bef s w c m)), some (.loc M.length), some (row w c m)] (M ++ [.lst (acc ++ [row w c m])]) := by
  refine loop_nx (δ1 := [T, some (.int most), some (.int wait), some (lnD s), some (.loc M.length), some (row w c m)]) (by simp) ?_
  have e2 := p_befell s w c m (M ++ [.lst acc])
  have e3 := p_dueB ok w c m most wait (M ++ [.lst (acc ++ [row w c m])])
  rw [hd] at e3
  have e4 : eM mAppend (eV 4) (aCons (eV 5) aNil) [T, some (.int most), some (.int wait), some (lnD (bef s w c m)), some (.loc M.length), some (row w c m)] (M ++ [.lst acc]) = .ok .non (M ++ [.lst (acc ++ [row w c m])]) := by
    rw [x_app (l := M.length) (ds := acc) (d := row w c m) (by simp) (by simp) (by simp) (by omega), last_set]
  simp [b_wake_log_0, e2, e3, e4, dTup, cap]
theorem wl_wake {w : String} {c m most wait : Int} {s : Ln} {M : Mem} {acc xs : List D} {T x5 : Option D} (ok : LnOk (bef s w c m)) (hl : acc.length + 2 ≤ cap) (hd : dueB (bef s w c m) w c most wait = true) :
    loop (gN 5) b_wake_log_0 (row w c m :: xs) [T, some (.int most), some (.int wait), some (lnD s), some (.loc M.length), x5] (M ++ [.lst acc]) =
      loop (gN 5) b_wake_log_0 xs [T, some (.int most), some (.int wait), some (lnD (bef (bef s w c m) "raise" c 0)), some (.loc M.length), some (row w c m)] (M ++ [.lst (acc ++ [row w c m, row "raise" c 0])]) := by
  refine loop_nx (δ1 := [T, some (.int most), some (.int wait), some (lnD s), some (.loc M.length), some (row w c m)]) (by simp) ?_
  have e2 := p_befell s w c m (M ++ [.lst acc])
  have e3 := p_dueB ok w c m most wait (M ++ [.lst (acc ++ [row w c m])])
  rw [hd] at e3
  have e4 : eM mAppend (eV 4) (aCons (eV 5) aNil) [T, some (.int most), some (.int wait), some (lnD (bef s w c m)), some (.loc M.length), some (row w c m)] (M ++ [.lst acc]) = .ok .non (M ++ [.lst (acc ++ [row w c m])]) := by
    rw [x_app (l := M.length) (ds := acc) (d := row w c m) (by simp) (by simp) (by simp) (by omega), last_set]
  have e5 : eM mAppend (eV 4) (aCons (eN dTup (aCons (eK (.str "raise")) (aCons (eB dIx (eV 5) (eK (.int 1))) (aCons (eK (.int 0)) aNil)))) aNil) [T, some (.int most), some (.int wait), some (lnD (bef s w c m)), some (.loc M.length), some (row w c m)] (M ++ [.lst (acc ++ [row w c m])]) =
      .ok .non (M ++ [.lst (acc ++ [row w c m, row "raise" c 0])]) := by
    rw [x_app (l := M.length) (ds := acc ++ [row w c m]) (d := row "raise" c 0) (by simp) (by simp) (by simp [x_row1, dTup, cap, row]) (by rw [List.length_append]; simp; omega), last_set]
    simp
  have e6 := p_befell (bef s w c m) "raise" c 0 (M ++ [.lst (acc ++ [row w c m, row "raise" c 0])])
  have e7 : dIx (.loc M.length) (.int (-1)) (M ++ [.lst (acc ++ [row w c m, row "raise" c 0])]) = .ok (row "raise" c 0) (M ++ [.lst (acc ++ [row w c m, row "raise" c 0])]) := by
    have a1 : L2.atI (acc ++ [row w c m, row "raise" c 0]) (-1) = some (row "raise" c 0) := by
      have q1 : ¬ (0 : Int) ≤ -1 := by decide
      have q2 : -(((acc.length + 2 : Nat)) : Int) ≤ -1 := by omega
      have q3 : (-1 + ((acc.length + 2 : Nat) : Int)).toNat = acc.length + 1 := by omega
      have q4 : (acc ++ [row w c m, row "raise" c 0])[acc.length + 1]? = some (row "raise" c 0) := by rw [List.getElem?_append_right (by omega), show acc.length + 1 - acc.length = 1 by omega]; rfl
      unfold L2.atI
      have q0 : (acc ++ [row w c m, row "raise" c 0]).length = acc.length + 2 := by simp
      rw [q0]
      unfold L2.ixN
      rw [if_neg q1]
      rw [if_pos q2, q3]
      exact q4
    unfold dIx
    simp only [last_get, a1]
  simp [b_wake_log_0, e2, e3, e4, e5, e6, e7, dTup, cap, dNeg]
theorem wl_run {most wait : Int} {L : List D} {s : Ln} {a : Int} (h : Lg most wait L s a) (hl : L.length + 2 ≤ cap) (T : Option D) (M : Mem) : ∀ x5, ∃ y5, ∀ xs,
    loop (gN 5) b_wake_log_0 (L.filter nR ++ xs) [T, some (.int most), some (.int wait), some (lnD ln0), some (.loc M.length), x5] (M ++ [.lst []]) =
      loop (gN 5) b_wake_log_0 xs [T, some (.int most), some (.int wait), some (lnD s), some (.loc M.length), y5] (M ++ [.lst L]) := by
  induction h with
  | nil => exact fun x5 => ⟨x5, fun xs => rfl⟩
  | @calm L s a h w c m n hd ih =>
    intro x5
    have hl2 : L.length + 1 + 2 ≤ cap := by simpa using hl
    obtain ⟨y5, e⟩ := ih (by omega) x5
    refine ⟨some (row w c m), fun xs => ?_⟩
    have ef : (L ++ [row w c m]).filter nR = L.filter nR ++ [row w c m] := by rw [List.filter_append]; simp [nR, n.nr]
    rw [ef, List.append_assoc, e, List.singleton_append, wl_calm (n.ok h.ok.1) (by omega) hd]
  | @wake L s a h w c m n hd ih =>
    intro x5
    have hl2 : L.length + 2 + 2 ≤ cap := by simpa using hl
    obtain ⟨y5, e⟩ := ih (by omega) x5
    refine ⟨some (row w c m), fun xs => ?_⟩
    have ef : (L ++ [row w c m, row "raise" c 0]).filter nR = L.filter nR ++ [row w c m] := by rw [List.filter_append]; simp [nR, n.nr]
    rw [ef, List.append_assoc, e, List.singleton_append, wl_wake (n.ok h.ok.1) (by omega) hd]
theorem p_wake_log {most wait : Int} {L : List D} {s : Ln} {a : Int} (h : Lg most wait L s a) (hl : L.length + 2 ≤ cap) (M : Mem) : f_wake_log [.tup (L.filter nR), .int most, .int wait] M = .ok (.tup L) (M ++ [.lst L]) := by
  obtain ⟨y5, e⟩ := wl_run h hl (some (.tup (L.filter nR))) M none
  have e := e []
  rw [List.append_nil, loop_nil] at e
  have e5 : d_BEGINNING = lnD ln0 := rfl
  simp [f_wake_log, m_wake_log, e5, cap, e, dTupOf]
def WhyOk (most wait : Int) (d : D) : Prop := ∃ v n, d = .tup [.str v, .int n] ∧ ((v = "most" ∧ most ≤ n) ∨ (v = "wait" ∧ wait ≤ n))
theorem wh_skip {w : String} {c m most wait : Int} {s : Ln} {M : Mem} {acc xs : List D} {T x5 : Option D} (hw : (w == "raise") = false) :
    loop (gN 5) b_whys_0 (row w c m :: xs) [T, some (.int most), some (.int wait), some (lnD s), some (.loc M.length), x5] (M ++ [.lst acc]) =
      loop (gN 5) b_whys_0 xs [T, some (.int most), some (.int wait), some (lnD (bef s w c m)), some (.loc M.length), some (row w c m)] (M ++ [.lst acc]) := by
  refine loop_nx (δ1 := [T, some (.int most), some (.int wait), some (lnD s), some (.loc M.length), some (row w c m)]) (by simp) ?_
  have e2 := p_befell s w c m (M ++ [.lst acc])
  have hw' : ¬ w = "raise" := by simpa using hw
  simp [b_whys_0, e2, x_row0, hw']
def whyD (c most : Int) (s : Ln) : D := if most ≤ s.many then .tup [.str "most", .int s.many] else .tup [.str "wait", .int (c - s.since.getD 0)]
theorem wh_ok {c most wait : Int} {s : Ln} (hd : due s c most wait = true) : WhyOk most wait (whyD c most s) := by
  obtain ⟨many, since, masked⟩ := s
  unfold whyD
  split
  · rename_i hq
    exact ⟨_, _, rfl, .inl ⟨rfl, hq⟩⟩
  · rename_i hq
    refine ⟨_, _, rfl, .inr ⟨rfl, ?_⟩⟩
    unfold due at hd
    simp only [Bool.and_eq_true, Bool.or_eq_true, decide_eq_true_eq] at hd
    rcases hd.2.2 with z | z
    · exact absurd z hq
    · cases since with
      | none => cases z
      | some x => exact of_decide_eq_true z
theorem wh_one {c most wait : Int} {s : Ln} {M : Mem} {acc xs : List D} {T x5 : Option D} (hl : acc.length < cap) (hd : due s c most wait = true) :
    loop (gN 5) b_whys_0 (row "raise" c 0 :: xs) [T, some (.int most), some (.int wait), some (lnD s), some (.loc M.length), x5] (M ++ [.lst acc]) =
      loop (gN 5) b_whys_0 xs [T, some (.int most), some (.int wait), some (lnD (bef s "raise" c 0)), some (.loc M.length), some (row "raise" c 0)] (M ++ [.lst (acc ++ [whyD c most s])]) := by
  obtain ⟨many, since, masked⟩ := s
  by_cases hq : most ≤ many
  · have ew : whyD c most ⟨many, since, masked⟩ = .tup [.str "most", .int many] := if_pos hq
    rw [ew]
    refine loop_nx (δ1 := [T, some (.int most), some (.int wait), some (lnD ⟨many, since, masked⟩), some (.loc M.length), some (row "raise" c 0)]) (by simp) ?_
    have e2 := p_befell ⟨many, since, masked⟩ "raise" c 0 (M ++ [.lst (acc ++ [.tup [.str "most", .int many]])])
    have e4 : eM mAppend (eV 4) (aCons (eIf (tB (eB dGe (eB dIx (eV 3) (eK (.int 0))) (eV 1))) (eN dTup (aCons (eK (.str "most")) (aCons (eB dIx (eV 3) (eK (.int 0))) aNil))) (eN dTup (aCons (eK (.str "wait")) (aCons (eB dSub (eB dIx (eV 5) (eK (.int 1))) (eB dIx (eV 3) (eK (.int 1)))) aNil)))) aNil)
        [T, some (.int most), some (.int wait), some (lnD ⟨many, since, masked⟩), some (.loc M.length), some (row "raise" c 0)] (M ++ [.lst acc]) = .ok .non (M ++ [.lst (acc ++ [.tup [.str "most", .int many]])]) := by
      rw [x_app (l := M.length) (ds := acc) (d := .tup [.str "most", .int many]) (by simp) (by simp) (by simp [lnD, hq, dTup, cap]) hl, last_set]
    simp [b_whys_0, x_row0, e2, e4]
  · have : ∃ x, since = some x ∧ wait ≤ c - x := by
      unfold due at hd
      simp only [Bool.and_eq_true, Bool.or_eq_true, decide_eq_true_eq] at hd
      rcases hd.2.2 with z | z
      · exact absurd z hq
      · cases since with
        | none => cases z
        | some x => exact ⟨x, rfl, of_decide_eq_true z⟩
    obtain ⟨x, rfl, hx⟩ := this
    have ew : whyD c most ⟨many, some x, masked⟩ = .tup [.str "wait", .int (c - x)] := if_neg hq
    rw [ew]
    refine loop_nx (δ1 := [T, some (.int most), some (.int wait), some (lnD ⟨many, some x, masked⟩), some (.loc M.length), some (row "raise" c 0)]) (by simp) ?_
    have e2 := p_befell ⟨many, some x, masked⟩ "raise" c 0 (M ++ [.lst (acc ++ [.tup [.str "wait", .int (c - x)]])])
    have e4 : eM mAppend (eV 4) (aCons (eIf (tB (eB dGe (eB dIx (eV 3) (eK (.int 0))) (eV 1))) (eN dTup (aCons (eK (.str "most")) (aCons (eB dIx (eV 3) (eK (.int 0))) aNil))) (eN dTup (aCons (eK (.str "wait")) (aCons (eB dSub (eB dIx (eV 5) (eK (.int 1))) (eB dIx (eV 3) (eK (.int 1)))) aNil)))) aNil)
        [T, some (.int most), some (.int wait), some (lnD ⟨many, some x, masked⟩), some (.loc M.length), some (row "raise" c 0)] (M ++ [.lst acc]) = .ok .non (M ++ [.lst (acc ++ [.tup [.str "wait", .int (c - x)]])]) := by
      rw [x_app (l := M.length) (ds := acc) (d := .tup [.str "wait", .int (c - x)]) (by simp) (by simp) (by simp [lnD, oI, hq, x_row1, dTup, cap]) hl, last_set]
    simp [b_whys_0, x_row0, e2, e4]
theorem wh_run {most wait : Int} {L : List D} {s : Ln} {a : Int} (h : Lg most wait L s a) (hl : L.length ≤ cap) : ∃ W, (∀ d ∈ W, WhyOk most wait d) ∧ W.length = (L.filter isR).length ∧ ∀ (T : Option D) (M : Mem) x5, ∃ y5, ∀ xs,
    loop (gN 5) b_whys_0 (L ++ xs) [T, some (.int most), some (.int wait), some (lnD ln0), some (.loc M.length), x5] (M ++ [.lst []]) =
      loop (gN 5) b_whys_0 xs [T, some (.int most), some (.int wait), some (lnD s), some (.loc M.length), y5] (M ++ [.lst W]) := by
  induction h with
  | nil => exact ⟨[], fun d hd => absurd hd List.not_mem_nil, rfl, fun T M x5 => ⟨x5, fun xs => rfl⟩⟩
  | @calm L s a h w c m n hd ih =>
    have hl2 : L.length + 1 ≤ cap := by simpa using hl
    obtain ⟨W, w1, w2, e⟩ := ih (by omega)
    refine ⟨W, w1, by rw [w2, List.filter_append]; simp [n.nr], fun T M x5 => ?_⟩
    obtain ⟨y5, e⟩ := e T M x5
    refine ⟨some (row w c m), fun xs => ?_⟩
    rw [List.append_assoc, e, List.singleton_append, wh_skip n.nr]
  | @wake L s a h w c m n hd ih =>
    have hl2 : L.length + 2 ≤ cap := by simpa using hl
    obtain ⟨W, w1, w2, e⟩ := ih (by omega)
    have hd2 : due (bef s w c m) c most wait = true := by unfold dueB at hd; exact (Bool.and_eq_true_iff.mp hd).2
    have hW : W.length < cap := by rw [w2]; exact Nat.lt_of_le_of_lt (List.length_filter_le _ _) (by omega)
    refine ⟨W ++ [whyD c most (bef s w c m)], fun d hm => ?_, by rw [List.length_append, w2, List.filter_append]; simp [n.nr], fun T M x5 => ?_⟩
    · rcases List.mem_append.mp hm with z | z
      · exact w1 d z
      · rw [List.mem_singleton.mp z]; exact wh_ok hd2
    · obtain ⟨y5, e⟩ := e T M x5
      refine ⟨some (row "raise" c 0), fun xs => ?_⟩
      rw [List.append_assoc, e, List.cons_append, List.singleton_append, wh_skip n.nr, wh_one hW hd2]
theorem p_whys {most wait : Int} {L : List D} {s : Ln} {a : Int} (h : Lg most wait L s a) (hl : L.length ≤ cap) : ∃ W, (∀ d ∈ W, WhyOk most wait d) ∧ W.length = (L.filter isR).length ∧
    ∀ M, f_whys [.tup L, .int most, .int wait] M = .ok (.tup W) (M ++ [.lst W]) := by
  obtain ⟨W, w1, w2, e⟩ := wh_run h hl
  refine ⟨W, w1, w2, fun M => ?_⟩
  obtain ⟨y5, e⟩ := e (some (.tup L)) M none
  have e := e []
  rw [List.append_nil, loop_nil] at e
  have e5 : d_BEGINNING = lnD ln0 := rfl
  simp [f_whys, m_whys, e5, cap, e, dTupOf]
theorem Lg.split {most wait : Int} {L : List D} {s : Ln} {a : Int} (h : Lg most wait L s a) : ∀ (k : Nat) (d : D), L[k]? = some d → isR d = true →
    ∃ L1 L2 s1 a1 w c m, Lg most wait L1 s1 a1 ∧ Nxt s1 a1 w c m ∧ dueB (bef s1 w c m) w c most wait = true ∧ L = L1 ++ [row w c m, row "raise" c 0] ++ L2 ∧ k = L1.length + 1 ∧ (∀ d ∈ L2, RowOk d) ∧
      (∀ d ∈ L2.head?, ∃ w2 c2 m2, d = row w2 c2 m2 ∧ Nxt (bef s1 w c m) c w2 c2 m2) ∧ (L2 = [] → s = bef (bef s1 w c m) "raise" c 0 ∧ a = c) := by
  induction h with
  | nil => intro k d e; simp at e
  | @calm L s a h w c m n hd ih =>
    intro k d e hr
    by_cases hk : k < L.length
    · rw [List.getElem?_append_left hk] at e
      obtain ⟨L1, L2, s1, a1, w1, c1, m1, g, n1, d1, e1, e2, e3, e4, e5⟩ := ih k d e hr
      refine ⟨L1, L2 ++ [row w c m], s1, a1, w1, c1, m1, g, n1, d1, by rw [e1]; simp, e2, fun d hm => ?_, fun d hm => ?_, fun z => by simp at z⟩
      · rcases List.mem_append.mp hm with z | z
        · exact e3 d z
        · rw [List.mem_singleton.mp z]; exact n.row h.ok.2
      · cases L2 with
        | nil =>
          obtain ⟨q1, q2⟩ := e5 rfl
          have hm : d = row w c m := by simpa using hm.symm
          subst q1 q2
          exact ⟨w, c, m, hm, ⟨n.w_, n.c_, n.m0, n.m_⟩⟩
        | cons x L2 => exact e4 d (by simpa using hm)
    · rw [List.getElem?_append_right (by omega)] at e
      have : k - L.length = 0 := by
        have := (List.getElem?_eq_some_iff.mp e).1
        simp at this
        omega
      rw [this] at e
      have e : row w c m = d := by simpa using e
      subst e
      rw [isR_row, n.nr] at hr
      cases hr
  | @wake L s a h w c m n hd ih =>
    intro k d e hr
    by_cases hk : k < L.length
    · rw [List.getElem?_append_left hk] at e
      obtain ⟨L1, L2, s1, a1, w1, c1, m1, g, n1, d1, e1, e2, e3, e4, e5⟩ := ih k d e hr
      refine ⟨L1, L2 ++ [row w c m, row "raise" c 0], s1, a1, w1, c1, m1, g, n1, d1, by rw [e1]; simp, e2, fun d hm => ?_, fun d hm => ?_, fun z => by simp at z⟩
      · rcases List.mem_append.mp hm with z | z
        · exact e3 d z
        · rcases List.mem_cons.mp z with z | z
          · rw [z]; exact n.row h.ok.2
          · rw [List.mem_singleton.mp z]; exact ⟨"raise", c, 0, rfl, by decide, Int.le_trans h.ok.2 n.c_, Int.le_refl _⟩
      · cases L2 with
        | nil =>
          obtain ⟨q1, q2⟩ := e5 rfl
          have hm : d = row w c m := by simpa using hm.symm
          subst q1 q2
          exact ⟨w, c, m, hm, ⟨n.w_, n.c_, n.m0, n.m_⟩⟩
        | cons x L2 => exact e4 d (by simpa using hm)
    · rw [List.getElem?_append_right (by omega)] at e
      have hlt := (List.getElem?_eq_some_iff.mp e).1
      have : k - L.length = 0 ∨ k - L.length = 1 := by
        simp at hlt
        omega
      rcases this with this | this
      · rw [this] at e
        have e : row w c m = d := by simpa using e
        subst e
        rw [isR_row, n.nr] at hr
        cases hr
      · exact ⟨L, [], s, a, w, c, m, h, n, hd, by simp, by omega, fun d hm => absurd hm List.not_mem_nil, fun d hm => by simp at hm, fun _ => ⟨rfl, rfl⟩⟩
end Dt
namespace Dt
theorem cut_to (ds : List D) (k : Nat) : cutD ds none (some (k : Int)) = ds.take k := by
  unfold cutD
  rw [HT.sIx_nat]
  show (ds.drop 0).take (min k ds.length - 0) = _
  rw [List.drop_zero, Nat.sub_zero]
  by_cases h : k ≤ ds.length
  · rw [Nat.min_eq_left h]
  · rw [Nat.min_eq_right (by omega), List.take_of_length_le (Nat.le_refl _), List.take_of_length_le (by omega)]
theorem cut_from (ds : List D) (k : Nat) : cutD ds (some (k : Int)) none = ds.drop k := by
  unfold cutD
  rw [HT.sIx_nat]
  show (ds.drop (min k ds.length)).take (ds.length - min k ds.length) = _
  by_cases h : k ≤ ds.length
  · rw [Nat.min_eq_left h, List.take_of_length_le (by rw [List.length_drop]; exact Nat.le_refl _)]
  · rw [Nat.min_eq_right (by omega), List.drop_of_length_le (Nat.le_refl _), List.drop_of_length_le (by omega), List.take_nil]
theorem x_rng {a : Ar} {δ : Env} {M M2 : Mem} {n : Nat} (h : a δ M = .ok [.int n] M2) (hn : n ≤ cap) : iRng1D a δ M = .ok (rngD 0 n) M2 := by
  show (a δ M).bind _ = _
  rw [h, Res.bind_ok]
  have hn2 : n ≤ 100000 := hn
  have q : -(2 ^ 62) ≤ ((n : Nat) : Int) ∧ ((n : Nat) : Int) < 2 ^ 62 := by omega
  show (if -(2 ^ 62) ≤ ((n : Nat) : Int) ∧ ((n : Nat) : Int) < 2 ^ 62 then _ else _) = _
  rw [if_pos q, Int.toNat_natCast]
theorem x_seq {s t : S} {δ δ2 : Env} {M M2 : Mem} (h : s δ M = .nx δ2 M2) : sSeq s t δ M = t δ2 M2 := by rw [x_sSeq, h]; rfl
theorem x_run {n nn : Nat} {s : S} {ds : List D} {δ : Env} {M : Mem} (hl : ds.length = n) (hδ : ds.map some ++ List.replicate (nn - ds.length) none = δ) : runF n nn s ds M = (s δ M).fin := by rw [x_runF, if_pos hl, x_runB, hδ]
theorem rngD_mem {n : Nat} {d : D} (h : d ∈ rngD 0 n) : ∃ i : Nat, i < n ∧ d = .int (i : Int) := by
  unfold rngD at h
  obtain ⟨i, h1, h2⟩ := List.mem_map.mp h
  exact ⟨i, List.mem_range.mp h1, by rw [← h2, Int.zero_add]⟩
theorem rngD_len (n : Nat) : (rngD 0 n).length = n := by unfold rngD; simp
/-- the places of the raises -/
def atR (L : List D) (d : D) : Bool := match d with
  | .int i => (match L[i.toNat]? with
    | some d => isR d
    | none => false)
  | _ => false
theorem atR_len (L : List D) : ((rngD 0 L.length).filter (atR L)).length = (L.filter isR).length := by
  have e1 : L = (List.range L.length).map fun i => L.getD i .non := by
    refine List.ext_getElem (by simp) fun i h1 h2 => ?_
    simp [List.getElem?_eq_getElem h1]
  have e2 : (L.filter isR).length = ((List.range L.length).filter fun i => isR (L.getD i .non)).length := by
    conv => lhs; rw [e1]
    rw [List.filter_map, List.length_map]
    rfl
  rw [e2]
  unfold rngD
  rw [List.filter_map, List.length_map]
  congr 1
  refine List.filter_congr fun i hi => ?_
  have hi := List.mem_range.mp hi
  simp [atR, List.getElem?_eq_getElem hi]
mutual
theorem deq_refl : ∀ (n : Nat) (d : D), eqOk n d = true → deq d d = true
  | _, .non, _ => rfl
  | _, .bl b, _ => by simp [deq]
  | _, .int i, _ => by simp [deq]
  | _, .str s, _ => by simp [deq]
  | 0, .tup ds, h => by cases h
  | n + 1, .tup ds, h => by
    have h1 : ds.all (eqOk n) = true := h
    show deqs ds ds = true
    exact deqs_refl n ds fun d hd => List.all_eq_true.mp h1 d hd
  | 0, .loc _, h => by cases h
  | 0, .fl _, h => by cases h
  | 0, .pt _, h => by cases h
  | _ + 1, .loc _, h => by cases h
  | _ + 1, .fl _, h => by cases h
  | _ + 1, .pt _, h => by cases h
theorem deqs_refl : ∀ (n : Nat) (ds : List D), (∀ d ∈ ds, eqOk n d = true) → deqs ds ds = true
  | _, [], _ => rfl
  | n, d :: ds, h => by
    show (deq d d && deqs ds ds) = true
    rw [deq_refl n d (h d List.mem_cons_self), deqs_refl n ds fun e he => h e (List.mem_cons_of_mem _ he)]
    rfl
end
theorem x_neSelf {d : D} (h : eqOk 8 d = true) (M : Mem) : dNe d d M = .ok (.bl false) M := by
  unfold dNe
  rw [if_pos ⟨h, h⟩, deq_refl 8 d h]
  rfl
theorem rows_eqOk {L : List D} (h : ∀ d ∈ L, RowOk d) : eqOk 8 (.tup L) = true := by
  show L.all (eqOk 7) = true
  refine List.all_eq_true.mpr fun d hd => ?_
  obtain ⟨w, c, m, rfl, _⟩ := h d hd
  rfl
theorem in2 {v : String} (h : v = "most" ∨ v = "wait") (M : Mem) : dIn true (.str v) (.tup [.str "most", .str "wait"]) M = .ok (.bl false) M := by
  rcases h with e | e <;> subst e <;> rfl
theorem il_whys {most wait : Int} {x0 x3 x4 : Option D} {R : List (Option D)} {M : Mem} : ∀ (W : List D) (x5 x6 : Option D), (∀ d ∈ W, WhyOk most wait d) → ∃ y5 y6,
    loop (gT [(gN 5), (gN 6)]) b__law_is_log_0 W ([x0, some (.int most), some (.int wait), x3, x4, x5, x6] ++ R) M = .nx ([x0, some (.int most), some (.int wait), x3, x4, y5, y6] ++ R) M
  | [], x5, x6, _ => ⟨x5, x6, rfl⟩
  | d :: W, x5, x6, h => by
    obtain ⟨v, n, rfl, hv⟩ := h d List.mem_cons_self
    obtain ⟨y5, y6, e⟩ := il_whys W (some (.str v)) (some (.int n)) fun d hd => h d (List.mem_cons_of_mem _ hd)
    refine ⟨y5, y6, ?_⟩
    rw [loop_nx (δ1 := [x0, some (.int most), some (.int wait), x3, x4, some (.str v), some (.int n)] ++ R) (δ2 := [x0, some (.int most), some (.int wait), x3, x4, some (.str v), some (.int n)] ++ R) (M2 := M) (by simp) ?_, e]
    have e1 := in2 (v := v) (by rcases hv with z | z <;> simp [z.1]) M
    rcases hv with ⟨rfl, hn⟩ | ⟨rfl, hn⟩
    · have q : ¬ n < most := by omega
      simp [b__law_is_log_0, dTup, cap, e1, q]
    · have q : ¬ n < wait := by omega
      simp [b__law_is_log_0, dTup, cap, e1, q]
theorem il_drop {most wait : Int} {L : List D} {s : Ln} {a : Int} (h : Lg most wait L s a) (hl : L.length ≤ cap) {x3 x4 x5 x6 x9 : Option D} {M : Mem} : ∀ (R : List D) (x7 x8 : Option D), (∀ d ∈ R, d ∈ rngD 0 L.length ∧ atR L d = true) → ∃ y7 y8,
    loop (gN 7) b__law_is_log_1 R [some (.tup L), some (.int most), some (.int wait), x3, x4, x5, x6, x7, x8, x9] M = .nx [some (.tup L), some (.int most), some (.int wait), x3, x4, x5, x6, y7, y8, x9] M
  | [], x7, x8, _ => ⟨x7, x8, rfl⟩
  | d :: R, x7, x8, hR => by
    obtain ⟨hd1, hd2⟩ := hR d List.mem_cons_self
    obtain ⟨k, hk, rfl⟩ := rngD_mem hd1
    obtain ⟨y7, y8, e⟩ := il_drop h hl R (some (.int (k : Int))) (some (.tup [.str "paper", .str "late", .int (k : Int)])) fun d hd => hR d (List.mem_cons_of_mem _ hd)
    refine ⟨y7, y8, ?_⟩
    rw [loop_nx (δ1 := [some (.tup L), some (.int most), some (.int wait), x3, x4, x5, x6, some (.int (k : Int)), x8, x9]) (δ2 := [some (.tup L), some (.int most), some (.int wait), x3, x4, x5, x6, some (.int (k : Int)), some (.tup [.str "paper", .str "late", .int (k : Int)]), x9]) (M2 := M) (by simp) ?_, e]
    have hd3 : L[k]? = some L[k] := List.getElem?_eq_getElem hk
    have hd4 : isR L[k] = true := by simpa [atR, hd3] using hd2
    obtain ⟨L1, L2, s1, a1, w, c, m, g, n, du, e1, e2, e3, e4, _⟩ := h.split k L[k] hd3 hd4
    have q1 : L.take k = L1 ++ [row w c m] := by
      have e : L = (L1 ++ [row w c m]) ++ (row "raise" c 0 :: L2) := by rw [e1]; simp
      rw [e]
      exact List.take_left' (by simp [e2])
    have q2 : L.drop (k + 1) = L2 := by
      rw [e1]
      exact List.drop_left' (by simp [e2])
    have hlen : L1.length + 2 + L2.length ≤ cap := by
      have : L.length = L1.length + 2 + L2.length := by rw [e1]; simp; omega
      omega
    have q3 := p_lets_drop g n du e3 (by show _ ≤ cap; omega) e4 M
    rw [← e2] at q3
    have q4 : cutD L none (some (k : Int)) = L1 ++ [row w c m] := by rw [cut_to, q1]
    have q5 : cutD L (some ((k : Int) + 1)) none = L2 := by rw [← q2]; exact cut_from L (k + 1)
    have q6 : dAdd (.tup (L1 ++ [row w c m])) (.tup L2) M = .ok (.tup (L1 ++ [row w c m] ++ L2)) M := if_pos (by rw [List.length_append]; simp; omega)
    have q7 : eSaid (eCK f_lets_wakes 1 2 (aCons (eB dAdd (eSl (eV 0) qN (qE (eV 7))) (eSl (eV 0) (qE (eB dAdd (eV 7) (eK (.int 1)))) qN)) aNil) (aCons (eV 1) (aCons (eV 2) aNil))) [some (.tup L), some (.int most), some (.int wait), x3, x4, x5, x6, some (.int (k : Int)), x8, x9] M = .ok (.tup [.str "paper", .str "late", .int (k : Int)]) M := by
      unfold eSaid
      have q8 : eCK f_lets_wakes 1 2 (aCons (eB dAdd (eSl (eV 0) qN (qE (eV 7))) (eSl (eV 0) (qE (eB dAdd (eV 7) (eK (.int 1)))) qN)) aNil) (aCons (eV 1) (aCons (eV 2) aNil)) [some (.tup L), some (.int most), some (.int wait), x3, x4, x5, x6, some (.int (k : Int)), x8, x9] M = .ex (exNP "late" k) M := by
        rw [x_eCK]
        simp only [x_aCons, x_eB, x_eSl, x_eV, x_qN, x_qE, x_eK, x_aNil, List.getElem?_cons_zero, List.getElem?_cons_succ, Res.bind_ok, x_add, x_dSl, q4, q5, q6]
        exact q3
      rw [q8]
      rfl
    have q8 := x_neSelf (d := .tup [.str "paper", .str "late", .int (k : Int)]) rfl M
    simp [b__law_is_log_1, q7, dTup, cap, q8]
theorem p_is_log {most wait : Int} {L : List D} {s : Ln} {a : Int} (h : Lg most wait L s a) (hl : L.length + 2 ≤ cap) (M : Mem) : ∃ X, f__law_is_log [.tup L, .int most, .int wait] M = .ok (.bl true) (M ++ X) := by
  obtain ⟨W, w1, w2, hW⟩ := p_whys h (by omega)
  have hlc : L.length ≤ 100000 := by show _ ≤ cap; omega
  obtain ⟨R, hR⟩ : ∃ R, R = (rngD 0 L.length).filter (atR L) := ⟨_, rfl⟩
  obtain ⟨M1, d1⟩ : ∃ M1, M1 = M ++ [MO.lst R] := ⟨_, rfl⟩
  obtain ⟨M2, d2⟩ : ∃ M2, M2 = M1 ++ [MO.lst L] := ⟨_, rfl⟩
  obtain ⟨M3, d3⟩ : ∃ M3, M3 = M2 ++ [MO.lst W] := ⟨_, rfl⟩
  have rl : R.length = (L.filter isR).length := by rw [hR]; exact atR_len L
  have e1 : lLc (iRng1D (aCons (eN dLen (aCons (eV 0) aNil)) aNil)) (gN 7) (tB (eB dEq (eB dIx (eB dIx (eV 0) (eV 7)) (eK (.int 0))) (eK (.str "raise")))) (eV 7) [7] [some (.tup L), some (.int most), some (.int wait), none, none, none, none, none, none, none] M = .ok R M := by
    have := x_lLc (it := iRng1D (aCons (eN dLen (aCons (eV 0) aNil)) aNil)) (g := gN 7) (t := tB (eB dEq (eB dIx (eB dIx (eV 0) (eV 7)) (eK (.int 0))) (eK (.str "raise")))) (e := eV 7) (vs := [7]) (δ := [some (.tup L), some (.int most), some (.int wait), none, none, none, none, none, none, none]) (M := M) (ds := rngD 0 L.length) (p := atR L) (h := id)
      (x_rng (n := L.length) (by simp [dLen]) (by omega)) (by rw [rngD_len]; exact hlc) fun d hd => by
          obtain ⟨i, hi, rfl⟩ := rngD_mem hd
          obtain ⟨w, c, m, hr, _⟩ := h.rows L[i] (List.getElem_mem hi)
          have q1 : L2.atI L (i : Int) = some (row w c m) := atI_nat L i _ (by rw [List.getElem?_eq_getElem hi, hr])
          refine ⟨_, rfl, ?_, fun _ => by simp [wipeE]⟩
          simp [wipeE, q1, x_row0, atR, List.getElem?_eq_getElem hi, hr]
    rw [this, List.map_id, hR]
  have e2 := p_lets h hlc M1
  have e3 : lLc (iTupD (eV 0)) (gN 9) (tB (eB dNe (eB dIx (eV 9) (eK (.int 0))) (eK (.str "raise")))) (eV 9) [9] [some (.tup L), some (.int most), some (.int wait), some (.loc M.length), none, none, none, none, none, none] M1 = .ok (L.filter nR) M1 := by
    have := x_lLc (it := iTupD (eV 0)) (g := gN 9) (t := tB (eB dNe (eB dIx (eV 9) (eK (.int 0))) (eK (.str "raise")))) (e := eV 9) (vs := [9]) (δ := [some (.tup L), some (.int most), some (.int wait), some (.loc M.length), none, none, none, none, none, none]) (M := M1) (ds := L) (p := nR) (h := id) (by simp) hlc fun d hd => by
      obtain ⟨w, c, m, rfl, _⟩ := h.rows d hd
      exact ⟨_, rfl, by simp [wipeE, x_row0, nR], fun _ => by simp [wipeE]⟩
    rw [this, List.map_id]
  have e4 := p_wake_log h hl M1
  rw [← d2] at e4
  have e5 := x_neSelf (rows_eqOk h.rows) M2
  have e6 := hW M2
  rw [← d3] at e6
  have e7 := hW M3
  obtain ⟨y5, y6, e8⟩ := il_whys (most := most) (wait := wait) (x0 := some (.tup L)) (x3 := some (.loc M.length)) (x4 := some (.tup (L.filter nR))) (R := [none, none, none]) (M := M3) W none none w1
  have hM3 : M3[M.length]? = some (.lst R) := by
    rw [d3, d2, d1]
    simp
  have hM1 : M1[M.length]? = some (.lst R) := by simp [d1]
  have hM4 : (M3 ++ [MO.lst W])[M.length]? = some (.lst R) := by
    rw [List.getElem?_append_left (List.getElem?_eq_some_iff.mp hM3).1]; exact hM3
  have e9 : lSl (eV 3) none (some 3) [some (.tup L), some (.int most), some (.int wait), some (.loc M.length), some (.tup (L.filter nR)), y5, y6, none, none, none] M3 = .ok (R.take 3) M3 := by
    simp [lSl, hM3]
    exact cut_to R 3
  obtain ⟨y7, y8, e10⟩ := il_drop h (by omega) (x3 := some (.loc M.length)) (x4 := some (.tup (L.filter nR))) (x5 := y5) (x6 := y6) (x9 := none) (M := M3) (R.take 3) none none fun d hd => by
    rw [hR] at hd
    exact List.mem_filter.mp (List.mem_of_mem_take hd)
  have e11 : dLen [.loc M.length] M1 = .ok (.int R.length) M1 := by simp [dLen, hM1]
  have e12 : dLen [.loc M.length] (M3 ++ [MO.lst W]) = .ok (.int R.length) (M3 ++ [MO.lst W]) := by simp [dLen, hM4]
  refine ⟨[MO.lst R, MO.lst L, MO.lst W, MO.lst W], ?_⟩
  have eX : M ++ [MO.lst R, MO.lst L, MO.lst W, MO.lst W] = M3 ++ [MO.lst W] := by simp [d3, d2, d1]
  rw [eX]
  have f2 : dLen [.tup W] (M3 ++ [MO.lst W]) = .ok (.int W.length) (M3 ++ [MO.lst W]) := rfl
  have rW : W.length = R.length := by rw [w2, rl]
  simp only [List.append_eq, List.cons_append, List.nil_append] at e8
  have g1 : sAsg (gN 3) (eL dReg (lLc (iRng1D (aCons (eN dLen (aCons (eV 0) aNil)) aNil)) (gN 7) (tB (eB dEq (eB dIx (eB dIx (eV 0) (eV 7)) (eK (.int 0))) (eK (.str "raise")))) (eV 7) [7])) [some (.tup L), some (.int most), some (.int wait), none, none, none, none, none, none, none] M =
      .nx [some (.tup L), some (.int most), some (.int wait), some (.loc M.length), none, none, none, none, none, none] M1 := by
    simp [e1, d1]
  have g2 : sIf (tB (eB dNe (eCK f_lets_wakes 1 2 (aCons (eV 0) aNil) (aCons (eV 1) (aCons (eV 2) aNil))) (eN dLen (aCons (eV 3) aNil)))) (sRet (eK (.bl false))) sNext [some (.tup L), some (.int most), some (.int wait), some (.loc M.length), none, none, none, none, none, none] M1 =
      .nx [some (.tup L), some (.int most), some (.int wait), some (.loc M.length), none, none, none, none, none, none] M1 := by
    simp [e2, e11, ← rl]
  have g3 : sAsg (gN 4) (eL dTupL (lLc (iTupD (eV 0)) (gN 9) (tB (eB dNe (eB dIx (eV 9) (eK (.int 0))) (eK (.str "raise")))) (eV 9) [9])) [some (.tup L), some (.int most), some (.int wait), some (.loc M.length), none, none, none, none, none, none] M1 =
      .nx [some (.tup L), some (.int most), some (.int wait), some (.loc M.length), some (.tup (L.filter nR)), none, none, none, none, none] M1 := by
    simp [e3, dTupL]
  have g4 : sIf (tB (eB dNe (eCK f_wake_log 1 2 (aCons (eV 4) aNil) (aCons (eV 1) (aCons (eV 2) aNil))) (eV 0))) (sRet (eK (.bl false))) sNext [some (.tup L), some (.int most), some (.int wait), some (.loc M.length), some (.tup (L.filter nR)), none, none, none, none, none] M1 =
      .nx [some (.tup L), some (.int most), some (.int wait), some (.loc M.length), some (.tup (L.filter nR)), none, none, none, none, none] M2 := by
    simp [e4, e5]
  have g5 : sFor (iTupD (eCK f_whys 1 2 (aCons (eV 0) aNil) (aCons (eV 1) (aCons (eV 2) aNil)))) (gT [(gN 5), (gN 6)]) b__law_is_log_0 [some (.tup L), some (.int most), some (.int wait), some (.loc M.length), some (.tup (L.filter nR)), none, none, none, none, none] M2 =
      .nx [some (.tup L), some (.int most), some (.int wait), some (.loc M.length), some (.tup (L.filter nR)), y5, y6, none, none, none] M3 := by
    simp [e6]
    exact e8
  have g6 : sFor (lSl (eV 3) none (some 3)) (gN 7) b__law_is_log_1 [some (.tup L), some (.int most), some (.int wait), some (.loc M.length), some (.tup (L.filter nR)), y5, y6, none, none, none] M3 =
      .nx [some (.tup L), some (.int most), some (.int wait), some (.loc M.length), some (.tup (L.filter nR)), y5, y6, y7, y8, none] M3 := by
    simp [e9, e10]
  have g7 : sRet (eB dEq (eN dLen (aCons (eCK f_whys 1 2 (aCons (eV 0) aNil) (aCons (eV 1) (aCons (eV 2) aNil))) aNil)) (eN dLen (aCons (eV 3) aNil))) [some (.tup L), some (.int most), some (.int wait), some (.loc M.length), some (.tup (L.filter nR)), y5, y6, y7, y8, none] M3 =
      .rt (.bl true) (M3 ++ [MO.lst W]) := by
    simp [e7, e12, f2, rW]
  have gf : f__law_is_log [.tup L, .int most, .int wait] M = (m__law_is_log [some (.tup L), some (.int most), some (.int wait), none, none, none, none, none, none, none] M).fin := by
    exact x_run rfl rfl
  rw [gf]
  unfold m__law_is_log
  rw [x_seq g1, x_seq g2, x_seq g3, x_seq g4, x_seq g5, x_seq g6, g7]
  rfl
end Dt
namespace Dt
theorem x_seqR {s t : S} {δ : Env} {M M2 : Mem} {d : D} (h : s δ M = .rt d M2) : sSeq s t δ M = .rt d M2 := by rw [x_sSeq, h]; rfl
theorem x_getS {k : String} {l : Nat} {M : Mem} {kvs : List (String × D)} {v : D} (h : M[l]? = some (.dk kvs)) (g : getS kvs k = some v) : dGetS k (.loc l) M = .ok v M := by
  unfold dGetS
  simp only [h, g]
theorem x_putS {k : String} {o v : E} {δ : Env} {l : Nat} {M M1 M2 : Mem} {kvs : List (String × D)} {y : D} (hv : v δ M = .ok y M1) (ho : o δ M1 = .ok (.loc l) M2) (h : M2[l]? = some (.dk kvs)) (nd : (kvs.map (·.1)).Nodup) (hl : kvs.length < cap) : sPutS o k v δ M = .nx δ (M2.set l (.dk (putS kvs k y))) := by
  show (v δ M).st δ _ = _
  rw [hv]
  show (o δ M1).st δ _ = _
  rw [ho]
  show (match mPutS k y (.loc l) M2 with | some M' => SR.nx δ M' | none => .bad) = _
  have e : mPutS k y (.loc l) M2 = some (M2.set l (.dk (putS kvs k y))) := by
    unfold mPutS
    simp only [h]
    exact if_pos ⟨nd, hl⟩
  rw [e]
theorem set_at {M : Mem} {l : Nat} {o u : MO} (h : M[l]? = some u) : (M.set l o)[l]? = some o := List.getElem?_set_self (List.getElem?_eq_some_iff.mp h).1
theorem set_ne {M : Mem} {l k : Nat} {o : MO} (h : l ≠ k) : (M.set l o)[k]? = M[k]? := List.getElem?_set_ne h
def FK (lc : Nat) (a l c : Int) : List (String × D) := [("cells", .loc lc), ("at", .int a), ("left", .int l), ("count", .int c)]
def FD (lc : Nat) (a l c : Int) : MO := .dk (FK lc a l c)
theorem fk_nd (lc : Nat) (a l c : Int) : ((FK lc a l c).map (·.1)).Nodup := by
  show ["cells", "at", "left", "count"].Nodup
  decide
theorem fk_len (lc : Nat) (a l c : Int) : (FK lc a l c).length < cap := by
  show 4 < 100000
  decide
def FeedOk (lc : Nat) (M : Mem) (lf : Nat) : Prop := ∃ (a l c : Int) (cells : List Int), M[lf]? = some (FD lc a l c) ∧ M[lc]? = some (.lst (cells.map D.int)) ∧ 0 ≤ a
theorem FeedOk.ne {M : Mem} {lf lc : Nat} {a l c : Int} {cells : List Int} (h1 : M[lf]? = some (FD lc a l c)) (h2 : M[lc]? = some (.lst (cells.map D.int))) : lf ≠ lc := fun z => by
  rw [z, h2] at h1
  cases h1
theorem FeedOk.set {M : Mem} {lf lc : Nat} {a l c a2 l2 c2 : Int} {cells : List Int} (h1 : M[lf]? = some (FD lc a l c)) (h2 : M[lc]? = some (.lst (cells.map D.int))) (h3 : 0 ≤ a2) : FeedOk lc (M.set lf (FD lc a2 l2 c2)) lf :=
  ⟨a2, l2, c2, cells, set_at h1, by rw [set_ne (FeedOk.ne h1 h2)]; exact h2, h3⟩
theorem p_draw {M : Mem} {lf lc : Nat} {m : Int} (h : FeedOk lc M lf) (m0 : 0 < m) (m1 : m < 1073741824) : ∃ r o, 0 ≤ r ∧ r < m ∧ f__law_draw [.loc lf, .int m] M = .ok (.int r) (M.set lf o) ∧ FeedOk lc (M.set lf o) lf := by
  obtain ⟨a, l, c, cells, h1, h2, h3⟩ := h
  have ne := FeedOk.ne h1 h2
  have hr : f__law_draw [.loc lf, .int m] M = (m__law_draw [some (.loc lf), some (.int m), none, none, none, none] M).fin := x_run rfl rfl
  obtain ⟨M1, d1⟩ : ∃ M1, M1 = M.set lf (FD lc a l (c + 1)) := ⟨_, rfl⟩
  have g1 : M1[lf]? = some (FD lc a l (c + 1)) := by rw [d1]; exact set_at h1
  have g1c : M1[lc]? = some (.lst (cells.map D.int)) := by rw [d1, set_ne ne]; exact h2
  have s1 : ∀ δ : Env, δ[0]? = some (some (.loc lf)) → sPutS (eV 0) "count" (eB dAdd (eU (dGetS "count") (eV 0)) (eK (.int 1))) δ M = .nx δ M1 := fun δ hδ => by
    rw [x_putS (l := lf) (y := .int (c + 1)) (M1 := M) (M2 := M) (kvs := FK lc a l c) (by simp [hδ, x_getS h1 (k := "count") (v := .int c) rfl]) (by simp [hδ]) h1 (fk_nd _ _ _ _) (fk_len _ _ _ _), d1]
    rfl
  by_cases hl : 0 < l
  · refine ⟨l % m, FD lc a (l / m) (c + 1), Int.emod_nonneg _ (by omega), Int.emod_lt_of_pos _ m0, ?_, FeedOk.set h1 h2 h3⟩
    have e1 := x_getS g1 (k := "left") (v := .int l) rfl
    have e2 := x_mod M1 l m m0
    have e3 := x_div M1 l m m0 m1
    have s2 : sPutS (eV 0) "left" (eB dDiv (eU (dGetS "left") (eV 0)) (eV 1)) [some (.loc lf), some (.int m), some (.int (l % m)), none, none, none] M1 = .nx [some (.loc lf), some (.int m), some (.int (l % m)), none, none, none] (M.set lf (FD lc a (l / m) (c + 1))) := by
      rw [x_putS (l := lf) (y := .int (l / m)) (M1 := M1) (M2 := M1) (kvs := FK lc a l (c + 1)) (by simp [e1, e3]) (by simp) g1 (fk_nd _ _ _ _) (fk_len _ _ _ _), d1, List.set_set]
      rfl
    rw [hr]
    unfold m__law_draw
    rw [x_seq (s1 _ rfl)]
    simp [e1, e2, hl, s2]
  · obtain ⟨M2, d2⟩ : ∃ M2, M2 = M.set lf (FD lc (a + 1) l (c + 1)) := ⟨_, rfl⟩
    have g2 : M2[lf]? = some (FD lc (a + 1) l (c + 1)) := by rw [d2]; exact set_at h1
    have g2c : M2[lc]? = some (.lst (cells.map D.int)) := by rw [d2, set_ne ne]; exact h2
    have e1 := x_getS g1 (k := "left") (v := .int l) rfl
    have e2 := x_getS g1 (k := "at") (v := .int a) rfl
    have s2 : sPutS (eV 0) "at" (eB dAdd (eV 3) (eK (.int 1))) [some (.loc lf), some (.int m), none, some (.int a), none, none] M1 = .nx [some (.loc lf), some (.int m), none, some (.int a), none, none] M2 := by
      rw [x_putS (l := lf) (y := .int (a + 1)) (M1 := M1) (M2 := M1) (kvs := FK lc a l (c + 1)) (by simp) (by simp) g1 (fk_nd _ _ _ _) (fk_len _ _ _ _), d1, d2, List.set_set]
      rfl
    have e3 := x_getS g2 (k := "cells") (v := .loc lc) rfl
    have e4 := x_getS g2 (k := "count") (v := .int (c + 1)) rfl
    -- the cell
    have ecell : ∃ cell : Int, sAsg (gN 4) (eIf (tB (eqNil true (eU (dGetS "cells") (eV 0)))) (eB dIx (eU (dGetS "cells") (eV 0)) (eB dMod (eV 3) (eN dLen (aCons (eU (dGetS "cells") (eV 0)) aNil)))) (eK (.int 32))) [some (.loc lf), some (.int m), none, some (.int a), none, none] M2 =
        .nx [some (.loc lf), some (.int m), none, some (.int a), some (.int cell), none] M2 := by
      have en : eqNil true (eU (dGetS "cells") (eV 0)) [some (.loc lf), some (.int m), none, some (.int a), none, none] M2 = .ok (.bl (!(cells.map D.int).isEmpty)) M2 := by
        unfold eqNil
        simp only [x_eU, x_eV, List.getElem?_cons_zero, Res.bind_ok, e3, g2c]
        rw [if_pos]
        · rfl
        · refine List.all_eq_true.mpr fun d hd => ?_
          obtain ⟨i, _, rfl⟩ := List.mem_map.mp hd
          rfl
      cases cells with
      | nil => exact ⟨32, by simp [en]⟩
      | cons z zs =>
        have hlen : dLen [.loc lc] M2 = .ok (.int ((zs.length + 1 : Nat) : Int)) M2 := by simp [dLen, g2c]
        have hm := x_mod M2 a ((zs.length + 1 : Nat) : Int) (by omega)
        obtain ⟨j, hj⟩ : ∃ j : Nat, a % ((zs.length + 1 : Nat) : Int) = (j : Int) := ⟨(a % ((zs.length + 1 : Nat) : Int)).toNat, by rw [Int.toNat_of_nonneg (Int.emod_nonneg _ (by omega))]⟩
        have hj2 : j < (z :: zs).length := by
          have := Int.emod_lt_of_pos a (b := ((zs.length + 1 : Nat) : Int)) (by omega)
          rw [hj] at this
          show j < zs.length + 1
          omega
        have hix : dIx (.loc lc) (.int (j : Int)) M2 = .ok (.int (z :: zs)[j]) M2 := by
          have q1 : L2.atI ((z :: zs).map D.int) (j : Int) = some (.int (z :: zs)[j]) := atI_nat _ _ _ (by rw [List.getElem?_map, List.getElem?_eq_getElem hj2]; rfl)
          unfold dIx
          simp only [g2c, q1]
        rw [hj] at hm
        refine ⟨(z :: zs)[j], ?_⟩
        simp only [x_sAsg, x_eIf, x_tB, en]
        simp [-Int.natCast_add, e3, hlen, hm, hix]
    obtain ⟨cell, ecell⟩ := ecell
    have hpow : dPow (.int 10) (.int 18) M2 = .ok (.int 1000000000000000000) M2 := rfl
    have hlen : dLen [.loc lc] M2 = .ok (.int ((cells.length : Nat) : Int)) M2 := by simp [dLen, g2c]
    have b0 : sIf (tB (eB dGt (eU (dGetS "left") (eV 0)) (eK (.int 0)))) (sSeq (sAsg (gN 2) (eB dMod (eU (dGetS "left") (eV 0)) (eV 1))) (sSeq (sPutS (eV 0) "left" (eB dDiv (eU (dGetS "left") (eV 0)) (eV 1))) (sRet (eV 2)))) sNext [some (.loc lf), some (.int m), none, none, none, none] M1 = .nx [some (.loc lf), some (.int m), none, none, none, none] M1 := by simp [e1, hl]
    have b00 : sAsg (gN 3) (eU (dGetS "at") (eV 0)) [some (.loc lf), some (.int m), none, none, none, none] M1 = .nx [some (.loc lf), some (.int m), none, some (.int a), none, none] M1 := by simp [e2]
    by_cases hc : 1000000000000000000 ≤ cell ∧ a < (cells.length : Int)
    · refine ⟨cell % m, FD lc (a + 1) (cell / m) (c + 1), Int.emod_nonneg _ (by omega), Int.emod_lt_of_pos _ m0, ?_, FeedOk.set h1 h2 (by omega)⟩
      have f1 := x_div M2 cell m m0 m1
      have s3 : sPutS (eV 0) "left" (eB dDiv (eV 4) (eV 1)) [some (.loc lf), some (.int m), none, some (.int a), some (.int cell), none] M2 = .nx [some (.loc lf), some (.int m), none, some (.int a), some (.int cell), none] (M.set lf (FD lc (a + 1) (cell / m) (c + 1))) := by
        rw [x_putS (l := lf) (y := .int (cell / m)) (M1 := M2) (M2 := M2) (kvs := FK lc (a + 1) l (c + 1)) (by simp [f1]) (by simp) g2 (fk_nd _ _ _ _) (fk_len _ _ _ _), d2, List.set_set]
        rfl
      have f2 := x_mod (M.set lf (FD lc (a + 1) (cell / m) (c + 1))) cell m m0
      rw [hr]
      unfold m__law_draw
      have b1 : sIf (tAnd (tB (eB dGe (eV 4) (eB dPow (eK (.int 10)) (eK (.int 18))))) (tB (eB dLt (eV 3) (eN dLen (aCons (eU (dGetS "cells") (eV 0)) aNil))))) (sSeq (sPutS (eV 0) "left" (eB dDiv (eV 4) (eV 1))) (sRet (eB dMod (eV 4) (eV 1)))) sNext [some (.loc lf), some (.int m), none, some (.int a), some (.int cell), none] M2 =
          .rt (.int (cell % m)) (M.set lf (FD lc (a + 1) (cell / m) (c + 1))) := by
        simp [hpow, hlen, e3, hc.1, hc.2, s3, f2]
      rw [x_seq (s1 _ rfl), x_seq b0, x_seq b00, x_seq s2, x_seq ecell, x_seqR b1]
      rfl
    · obtain ⟨x, hx⟩ : ∃ x, x = (cell % 1000003573 + 75199 * (c + 1) + 87) % 2147483579 := ⟨_, rfl⟩
      have x0 : 0 ≤ x := by rw [hx]; exact Int.emod_nonneg _ (by omega)
      have x1 : x < 2147483579 := by rw [hx]; exact Int.emod_lt_of_pos _ (by omega)
      obtain ⟨y, hy⟩ : ∃ y, y = (x * x + 7298917 * (c + 1) + 57) % 2147483549 := ⟨_, rfl⟩
      have y0 : 0 ≤ y := by rw [hy]; exact Int.emod_nonneg _ (by omega)
      have y1 : y < 2147483549 := by rw [hy]; exact Int.emod_lt_of_pos _ (by omega)
      refine ⟨(y * y + 91 * y) % 2147483543 / 16 % m, FD lc (a + 1) l (c + 1), Int.emod_nonneg _ (by omega), Int.emod_lt_of_pos _ m0, ?_, FeedOk.set h1 h2 (by omega)⟩
      have f1 := x_mod M2 cell 1000003573 (by omega)
      have f2 := x_mul M2 75199 (c + 1) (by unfold mulOk; exact decide_eq_true (.inl (by omega)))
      have f3 := x_mod M2 (cell % 1000003573 + 75199 * (c + 1) + 87) 2147483579 (by omega)
      rw [← hx] at f3
      have f4 := x_mul M2 x x (by unfold mulOk; exact decide_eq_true (.inl (by omega)))
      have f5 := x_mul M2 7298917 (c + 1) (by unfold mulOk; exact decide_eq_true (.inl (by omega)))
      have f6 := x_mod M2 (x * x + 7298917 * (c + 1) + 57) 2147483549 (by omega)
      rw [← hy] at f6
      have f7 := x_mul M2 y y (by unfold mulOk; exact decide_eq_true (.inl (by omega)))
      have f8 := x_mul M2 91 y (by unfold mulOk; exact decide_eq_true (.inl (by omega)))
      have f9 := x_mod M2 (y * y + 91 * y) 2147483543 (by omega)
      have f10 := x_div M2 ((y * y + 91 * y) % 2147483543) 16 (by omega) (by omega)
      have f11 := x_mod M2 ((y * y + 91 * y) % 2147483543 / 16) m m0
      have b1 : sIf (tAnd (tB (eB dGe (eV 4) (eB dPow (eK (.int 10)) (eK (.int 18))))) (tB (eB dLt (eV 3) (eN dLen (aCons (eU (dGetS "cells") (eV 0)) aNil))))) (sSeq (sPutS (eV 0) "left" (eB dDiv (eV 4) (eV 1))) (sRet (eB dMod (eV 4) (eV 1)))) sNext [some (.loc lf), some (.int m), none, some (.int a), some (.int cell), none] M2 =
          .nx [some (.loc lf), some (.int m), none, some (.int a), some (.int cell), none] M2 := by
        by_cases hc1 : 1000000000000000000 ≤ cell
        · have hc2 : ¬ a < (cells.length : Int) := fun z => hc ⟨hc1, z⟩
          simp [hpow, hlen, e3, hc1, hc2]
        · simp [hpow, hc1]
      have b2 : sAsg (gN 5) (eB dMod (eB dAdd (eB dAdd (eB dMod (eV 4) (eK (.int 1000003573))) (eB dMul (eK (.int 75199)) (eU (dGetS "count") (eV 0)))) (eK (.int 87))) (eK (.int 2147483579))) [some (.loc lf), some (.int m), none, some (.int a), some (.int cell), none] M2 =
          .nx [some (.loc lf), some (.int m), none, some (.int a), some (.int cell), some (.int x)] M2 := by simp [f1, e4, f2, f3]
      have b3 : sAsg (gN 5) (eB dMod (eB dAdd (eB dAdd (eB dMul (eV 5) (eV 5)) (eB dMul (eK (.int 7298917)) (eU (dGetS "count") (eV 0)))) (eK (.int 57))) (eK (.int 2147483549))) [some (.loc lf), some (.int m), none, some (.int a), some (.int cell), some (.int x)] M2 =
          .nx [some (.loc lf), some (.int m), none, some (.int a), some (.int cell), some (.int y)] M2 := by simp [f4, e4, f5, f6]
      have b4 : sRet (eB dMod (eB dDiv (eB dMod (eB dAdd (eB dMul (eV 5) (eV 5)) (eB dMul (eK (.int 91)) (eV 5))) (eK (.int 2147483543))) (eK (.int 16))) (eV 1)) [some (.loc lf), some (.int m), none, some (.int a), some (.int cell), some (.int y)] M2 =
          .rt (.int ((y * y + 91 * y) % 2147483543 / 16 % m)) M2 := by simp [f7, f8, f9, f10, f11]
      rw [hr]
      unfold m__law_draw
      rw [x_seq (s1 _ rfl), x_seq b0, x_seq b00, x_seq s2, x_seq ecell, x_seq b1, x_seq b2, x_seq b3, b4, d2]
      rfl
end Dt
namespace Dt
theorem p_turned {xs : List D} {i : Nat} {d : D} {M : Mem} (hi : i < xs.length) (hl : xs.length ≤ cap) : f_turned_at [.tup xs, .int (i : Int), d] M = .ok (.tup (xs.set i d)) M := by
  have e1 : cutD xs none (some (i : Int)) = xs.take i := cut_to xs i
  have e2 : cutD xs (some ((i : Int) + 1)) none = xs.drop (i + 1) := cut_from xs (i + 1)
  have e3 : dAdd (.tup (xs.take i)) (.tup [d]) M = .ok (.tup (xs.take i ++ [d])) M := if_pos (by simp; omega)
  have e4 : dAdd (.tup (xs.take i ++ [d])) (.tup (xs.drop (i + 1))) M = .ok (.tup (xs.set i d)) M := by
    show (if _ then _ else _) = _
    rw [if_pos (by simp; omega), List.set_eq_take_append_cons_drop, if_pos hi, List.append_assoc]
    rfl
  simp [f_turned_at, m_turned_at, e1, e2, e3, e4, dTup, cap]
def HALF : D := .tup [.int 0, .str "ann"]
structure LS where
  r : D
  inw : D
  box : List D
  s : Option Int
  m : Bool
def laneD (x : LS) : D := .tup [x.r, .int 0, .int 0, .tup [], x.inw, .tup x.box, oI x.s, .bl x.m]
def valD (xs : List LS) (js : List D) (pu : D) : D := .tup [HALF, .tup (xs.map laneD), .pt [], .pt [], .pt js, .pt [], .pt [], pu, .int 0]
def lnOf (x : LS) : Ln := ⟨x.box.length, x.s, x.m⟩
@[simp] theorem atI_4 {α : Type} (a b c d x : α) (r : List α) : L2.atI (a :: b :: c :: d :: x :: r) 4 = some x := atI_nat _ 4 _ rfl
@[simp] theorem atI_5 {α : Type} (a b c d e x : α) (r : List α) : L2.atI (a :: b :: c :: d :: e :: x :: r) 5 = some x := atI_nat _ 5 _ rfl
@[simp] theorem atI_6 {α : Type} (a b c d e f x : α) (r : List α) : L2.atI (a :: b :: c :: d :: e :: f :: x :: r) 6 = some x := atI_nat _ 6 _ rfl
@[simp] theorem atI_7 {α : Type} (a b c d e f g x : α) (r : List α) : L2.atI (a :: b :: c :: d :: e :: f :: g :: x :: r) 7 = some x := atI_nat _ 7 _ rfl
@[simp] theorem atI_3 {α : Type} (a b c x : α) (r : List α) : L2.atI (a :: b :: c :: x :: r) 3 = some x := atI_nat _ 3 _ rfl
theorem x_val1 (xs : List LS) (js : List D) (pu : D) (M : Mem) : dIx (valD xs js pu) (.int 1) M = .ok (.tup (xs.map laneD)) M := by simp [valD]
theorem x_val0 (xs : List LS) (js : List D) (pu : D) (M : Mem) : dIx (valD xs js pu) (.int 0) M = .ok HALF M := by simp [valD]
theorem x_lane {xs : List LS} {j : Nat} {x : LS} (h : xs[j]? = some x) (M : Mem) : dIx (.tup (xs.map laneD)) (.int (j : Int)) M = .ok (laneD x) M := by
  have : L2.atI (xs.map laneD) (j : Int) = some (laneD x) := atI_nat _ j _ (by rw [List.getElem?_map, h]; rfl)
  simp [this]
theorem p_lane_turned {xs : List LS} {js : List D} {pu : D} {j at_ : Nat} {x x2 : LS} {d : D} {M : Mem} (h : xs[j]? = some x) (hl : xs.length ≤ 1000) (ha : at_ < 8) (hx : (match laneD x with | .tup l => D.tup (l.set at_ d) | _ => .non) = laneD x2) :
    f_lane_turned [valD xs js pu, .int (j : Int), .int (at_ : Int), d] M = .ok (valD (xs.set j x2) js pu) M := by
  have hj := (List.getElem?_eq_some_iff.mp h).1
  have hx : D.tup ([x.r, .int 0, .int 0, .tup [], x.inw, .tup x.box, oI x.s, .bl x.m].set at_ d) = laneD x2 := hx
  have e1 : f_turned_at [laneD x, .int (at_ : Int), d] M = .ok (laneD x2) M := by
    unfold laneD
    rw [p_turned ha (by show 8 ≤ 100000; decide), hx]
    rfl
  have e2 : f_turned_at [.tup (xs.map laneD), .int (j : Int), laneD x2] M = .ok (.tup ((xs.set j x2).map laneD)) M := by
    rw [p_turned (by simpa using hj) (by simp; unfold cap; omega), List.map_set]
  have e3 : f_turned_at [valD xs js pu, .int 1, .tup ((xs.set j x2).map laneD)] M = .ok (valD (xs.set j x2) js pu) M := by
    unfold valD
    exact p_turned (i := 1) (by show 1 < 9; decide) (by show 9 ≤ 100000; decide)
  rw [List.map_set] at e2 e3
  simp [f_lane_turned, m_lane_turned, x_val1, x_lane h, e1, e2, e3]
def raisedD (j : Nat) (c : Int) : D := .tup [.str "raised", HALF, .int (j : Int), .int c]
theorem p_look_lane {xs : List LS} {js : List D} {pu : D} {j : Nat} {x : LS} {c most wait : Int} {M : Mem} (h : xs[j]? = some x) (hl : xs.length ≤ 1000) (ok : LnOk (lnOf x)) :
    f_look_at_lane [valD xs js pu, .int (j : Int), .int c, .tup [.int most, .int wait]] M =
      .ok (if due (lnOf x) c most wait = true then .tup [valD (xs.set j { x with m := true }) js pu, .tup [raisedD j c]] else .tup [valD xs js pu, .tup []]) M := by
  have e1 := p_due ok c most wait M
  have e0 : D.tup [D.int x.box.length, oI x.s, .bl x.m] = lnD (lnOf x) := rfl
  have e2 := p_lane_turned (x2 := { x with m := true }) (at_ := 7) (d := .bl true) (js := js) (pu := pu) (M := M) h hl (by decide) rfl
  have e2 : f_lane_turned [valD xs js pu, .int (j : Int), .int 7, .bl true] M = .ok (valD (xs.set j { x with m := true }) js pu) M := e2
  have l5 : dIx (laneD x) (.int 5) M = .ok (.tup x.box) M := by simp [laneD]
  have l6 : dIx (laneD x) (.int 6) M = .ok (oI x.s) M := by simp [laneD]
  have l7 : dIx (laneD x) (.int 7) M = .ok (.bl x.m) M := by simp [laneD]
  have l8 : dLen [.tup x.box] M = .ok (.int x.box.length) M := rfl
  cases hd : due (lnOf x) c most wait <;> rw [hd] at e1 <;> simp [f_look_at_lane, m_look_at_lane, x_val1, x_val0, x_lane h, l5, l6, l7, l8, dTup, cap, e0, e1, e2, raisedD]
def MemOk (pages : List D) : Prop := pages.length = 8 ∧ ∀ p ∈ pages, ∃ ws, p = .tup ws ∧ ws.length = 8
def placeD (p a n : Nat) : D := .tup [.int (p : Int), .int (a : Int), .int (n : Int)]
theorem p_page {pages : List D} {p a n : Nat} {pg : D} {M : Mem} (h : pages[p]? = some pg) : f_page_at [.tup pages, placeD p a n] M = .ok pg M := by
  have hp := (List.getElem?_eq_some_iff.mp h).1
  have e1 : L2.atI pages (p : Int) = some pg := atI_nat _ p _ h
  have e2 : ¬ (pages.length : Int) ≤ (p : Int) := by omega
  simp [f_page_at, m_page_at, placeD, dLen, e1, e2]
theorem p_words {pages : List D} (ok : MemOk pages) {p a n : Nat} (hp : p < 8) (M : Mem) : ∃ ws, f_words_at [.tup pages, placeD p a n] M = .ok (.tup ws) M := by
  have hp2 : p < pages.length := by rw [ok.1]; exact hp
  obtain ⟨ws, hw, _⟩ := ok.2 pages[p] (List.getElem_mem hp2)
  have h : pages[p]? = some (.tup ws) := by rw [List.getElem?_eq_getElem hp2, hw]
  have e1 := p_page (a := a) (n := n) (M := M) h
  refine ⟨cutD ws (some (a : Int)) (some ((a : Int) + (n : Int))), ?_⟩
  unfold placeD at e1 ⊢
  simp [f_words_at, m_words_at, e1]
theorem lcGo_ex {g : G} {t : T} {e : E} {δ : Env} {M : Mem} {P : D → Prop} : ∀ {ds : List D}, (∀ d ∈ ds, ∃ δ', g d δ = some δ' ∧ t δ' M = .ok true M ∧ ∃ y, e δ' M = .ok y M ∧ P y) → ∃ ys, ys.length = ds.length ∧ (∀ y ∈ ys, P y) ∧ lcGo g t e δ ds M = .ok ys M
  | [], _ => ⟨[], rfl, fun y hy => absurd hy List.not_mem_nil, rfl⟩
  | d :: ds, hd => by
    obtain ⟨δ', h1, h2, y, h3, py⟩ := hd d List.mem_cons_self
    obtain ⟨ys, l, p, ih⟩ := lcGo_ex (ds := ds) fun d hd' => hd d (List.mem_cons_of_mem _ hd')
    refine ⟨y :: ys, by simp [l], fun z hz => ?_, ?_⟩
    · rcases List.mem_cons.mp hz with q | q
      · rw [q]; exact py
      · exact p z q
    · show (match g d δ with | none => Res.bad | some δ' => (t δ' M).ne.bind fun c M => if c = true then (e δ' M).ne.bind fun x M => (lcGo g t e δ ds M).bind fun xs M => .ok (x :: xs) M else lcGo g t e δ ds M) = _
      rw [h1]
      simp [h2, h3, ih]
theorem x_lLc_ex {it : Ar} {g : G} {t : T} {e : E} {vs : List Nat} {δ : Env} {M : Mem} {ds : List D} {P : D → Prop} (h1 : it δ M = .ok ds M) (h2 : ds.length ≤ 100000) (h3 : ∀ d ∈ ds, ∃ δ', g d (wipeE δ vs) = some δ' ∧ t δ' M = .ok true M ∧ ∃ y, e δ' M = .ok y M ∧ P y) :
    ∃ ys, ys.length = ds.length ∧ (∀ y ∈ ys, P y) ∧ lLc it g t e vs δ M = .ok ys M := by
  obtain ⟨ys, l, p, q⟩ := lcGo_ex h3
  refine ⟨ys, l, p, ?_⟩
  show (it δ M).bind _ = _
  rw [h1, Res.bind_ok, if_pos h2, q]
def TALKS : List D := [.tup [.tup [.int 1, .str "bob"], HALF, .str "hi"], .tup [.tup [.int 1, .str "bob"], HALF, .str "yo"], .tup [.tup [.int 1, .str "cy"], HALF, .str "hi"], .tup [.tup [.int 1, .str "cy"], HALF, .str "yo"]]
def BoxOk (d : D) : Prop := ∃ t num p a n c, d = .tup [t, .int num, placeD p a n, .int c] ∧ t ∈ TALKS ∧ p < 8
theorem BoxOk.eq {d : D} (h : BoxOk d) : eqOk 7 d = true := by
  obtain ⟨t, num, p, a, n, c, rfl, ht, _⟩ := h
  have h1 : ∀ t ∈ TALKS, eqOk 6 t = true := by decide
  show ([t, .int num, placeD p a n, .int c] : List D).all (eqOk 6) = true
  simp [h1 t ht, placeD, eqOk]
theorem box_eq {b : List D} (h : ∀ d ∈ b, BoxOk d) (M : Mem) : dEq (.tup b) (.tup []) M = .ok (.bl b.isEmpty) M := by
  unfold dEq
  have h1 : eqOk 8 (.tup b) = true := List.all_eq_true.mpr fun d hd => (h d hd).eq
  rw [if_pos ⟨h1, rfl⟩]
  cases b <;> rfl
theorem isEmpty_drop (b : List D) (k : Nat) : (b.drop k).isEmpty = decide (b.length ≤ k) := by
  cases h : (b.drop k) with
  | nil => rw [decide_eq_true (List.drop_eq_nil_iff.mp h)]; rfl
  | cons x r =>
    have : ¬ b.length ≤ k := fun z => by rw [List.drop_eq_nil_iff.mpr z] at h; cases h
    rw [decide_eq_false this]; rfl
def polledL (x : LS) (k : Nat) : LS := { x with box := x.box.drop k, s := if x.box.length ≤ k then none else x.s }
theorem p_polled {xs : List LS} {js : List D} {pu : D} {pages : List D} {j k : Nat} {x : LS} {M : Mem} (h : xs[j]? = some x) (hl : xs.length ≤ 1000) (hb : ∀ d ∈ x.box, BoxOk d) (hc : x.box.length ≤ cap) (mok : MemOk pages) :
    ∃ evs, evs.length = (x.box.take k).length ∧ (∀ e ∈ evs, ∃ r, e = .tup (.str "took" :: r)) ∧ f_polled [valD xs js pu, .tup pages, .int (j : Int), .int (k : Int)] M = .ok (.tup [valD (xs.set j (polledL x k)) js pu, .tup pages, .tup evs]) M := by
  have l5 : dIx (laneD x) (.int 5) M = .ok (.tup x.box) M := by simp [laneD]
  have e1 := cut_to x.box k
  have e2 := cut_from x.box k
  have hb2 : ∀ d ∈ x.box.drop k, BoxOk d := fun d hd => hb d (List.mem_of_mem_drop hd)
  have e3 : f_lane_turned [valD xs js pu, .int (j : Int), .int 5, .tup (x.box.drop k)] M = .ok (valD (xs.set j { x with box := x.box.drop k }) js pu) M := p_lane_turned (at_ := 5) h hl (by decide) rfl
  have hj := (List.getElem?_eq_some_iff.mp h).1
  have h2 : (xs.set j { x with box := x.box.drop k })[j]? = some { x with box := x.box.drop k } := List.getElem?_set_self hj
  have e4 : f_lane_turned [valD (xs.set j { x with box := x.box.drop k }) js pu, .int (j : Int), .int 6, .non] M = .ok (valD (xs.set j { x with box := x.box.drop k, s := none }) js pu) M := by
    have := p_lane_turned (at_ := 6) (d := .non) (x2 := { x with box := x.box.drop k, s := none }) (js := js) (pu := pu) (M := M) h2 (by simpa using hl) (by decide) rfl
    rw [List.set_set] at this
    exact this
  have e5 := box_eq hb2 M
  rw [isEmpty_drop] at e5
  obtain ⟨X, hX⟩ : ∃ X, X = xs.set j (polledL x k) := ⟨_, rfl⟩
  obtain ⟨evs, v1, v2, v3⟩ := x_lLc_ex (it := iTupD (eV 5)) (g := gN 9) (t := tYes) (e := eN dTup (aCons (eK (.str "took")) (aCons (eV 8) (aCons (eV 2) (aCons (eV 9) (aCons (eC f_words_at (aCons (eV 1) (aCons (eB dIx (eV 9) (eK (.int 2))) aNil))) aNil)))))) (vs := [9])
    (δ := [some (valD xs js pu), some (.tup pages), some (.int (j : Int)), some (.int (k : Int)), some (laneD x), some (.tup (x.box.take k)), some (.tup (x.box.drop k)), some (valD X js pu), some HALF, none]) (M := M) (ds := x.box.take k) (P := fun e => ∃ r, e = .tup (.str "took" :: r)) (by simp) (Nat.le_trans (by simp; omega) hc) fun d hd => by
      obtain ⟨t, num, p, a, n, c, rfl, ht, hp⟩ := hb d (List.mem_of_mem_take hd)
      obtain ⟨ws, hw⟩ := p_words (a := a) (n := n) mok hp M
      exact ⟨_, rfl, rfl, _, by simp [wipeE, hw, dTup, cap]; rfl, _, rfl⟩
  refine ⟨evs, v1, v2, ?_⟩
  have hr : f_polled [valD xs js pu, .tup pages, .int (j : Int), .int (k : Int)] M = (m_polled [some (valD xs js pu), some (.tup pages), some (.int (j : Int)), some (.int (k : Int)), none, none, none, none, none, none] M).fin := x_run rfl rfl
  have g1 : sAsg (gN 4) (eB dIx (eB dIx (eV 0) (eK (.int 1))) (eV 2)) [some (valD xs js pu), some (.tup pages), some (.int (j : Int)), some (.int (k : Int)), none, none, none, none, none, none] M = .nx [some (valD xs js pu), some (.tup pages), some (.int (j : Int)), some (.int (k : Int)), some (laneD x), none, none, none, none, none] M := by
    simp [x_val1, x_lane h]
  have g2 : sPar [5, 6] (aCons (eSl (eB dIx (eV 4) (eK (.int 5))) qN (qE (eV 3))) (aCons (eSl (eB dIx (eV 4) (eK (.int 5))) (qE (eV 3)) qN) aNil)) [some (valD xs js pu), some (.tup pages), some (.int (j : Int)), some (.int (k : Int)), some (laneD x), none, none, none, none, none] M = .nx [some (valD xs js pu), some (.tup pages), some (.int (j : Int)), some (.int (k : Int)), some (laneD x), some (.tup (x.box.take k)), some (.tup (x.box.drop k)), none, none, none] M := by
    simp [l5, e1, e2]
  have g3 : sAsg (gN 7) (eC f_lane_turned (aCons (eV 0) (aCons (eV 2) (aCons (eK (.int 5)) (aCons (eV 6) aNil))))) [some (valD xs js pu), some (.tup pages), some (.int (j : Int)), some (.int (k : Int)), some (laneD x), some (.tup (x.box.take k)), some (.tup (x.box.drop k)), none, none, none] M = .nx [some (valD xs js pu), some (.tup pages), some (.int (j : Int)), some (.int (k : Int)), some (laneD x), some (.tup (x.box.take k)), some (.tup (x.box.drop k)), some (valD (xs.set j { x with box := x.box.drop k }) js pu), none, none] M := by
    simp [e3]
  have g4 : sIf (tB (eB dEq (eV 6) (eN dTup aNil))) (sAsg (gN 7) (eC f_lane_turned (aCons (eV 7) (aCons (eV 2) (aCons (eK (.int 6)) (aCons (eK .non) aNil)))))) sNext [some (valD xs js pu), some (.tup pages), some (.int (j : Int)), some (.int (k : Int)), some (laneD x), some (.tup (x.box.take k)), some (.tup (x.box.drop k)), some (valD (xs.set j { x with box := x.box.drop k }) js pu), none, none] M = .nx [some (valD xs js pu), some (.tup pages), some (.int (j : Int)), some (.int (k : Int)), some (laneD x), some (.tup (x.box.take k)), some (.tup (x.box.drop k)), some (valD X js pu), none, none] M := by
    by_cases hk : x.box.length ≤ k
    · have : X = xs.set j { x with box := x.box.drop k, s := none } := by rw [hX]; unfold polledL; rw [if_pos hk]
      rw [this]
      rw [decide_eq_true hk] at e5
      simp [e5, e4, dTup]
    · have : X = xs.set j { x with box := x.box.drop k } := by rw [hX]; unfold polledL; rw [if_neg hk]
      rw [this]
      rw [decide_eq_false hk] at e5
      simp [e5, dTup]
  rw [hr]
  unfold m_polled
  rw [x_seq g1, x_seq g2, x_seq g3, x_seq g4, ← hX]
  simp [x_val0, v3, dTup, cap, dTupL]
def unmaskL (x : LS) (c : Int) : LS := if x.m = true then { x with s := if x.box = [] then none else some c, m := false } else x
def unmD (j : Nat) : D := .tup [.str "unmasked", HALF, .int (j : Int)]
theorem p_unmasked {xs : List LS} {js : List D} {pu mem : D} {j : Nat} {x : LS} {c most wait : Int} {M : Mem} (h : xs[j]? = some x) (hl : xs.length ≤ 1000) (hb : ∀ d ∈ x.box, BoxOk d) (ok : LnOk (lnOf (unmaskL x c))) :
    f_unmasked [valD xs js pu, mem, .int (j : Int), .int c, .int most, .int wait] M =
      .ok (if due (lnOf (unmaskL x c)) c most wait = true then .tup [valD (xs.set j { unmaskL x c with m := true }) js pu, mem, .tup [unmD j, raisedD j c]] else .tup [valD (xs.set j (unmaskL x c)) js pu, mem, .tup [unmD j]]) M := by
  have l5 : dIx (laneD x) (.int 5) M = .ok (.tup x.box) M := by simp [laneD]
  have l7 : dIx (laneD x) (.int 7) M = .ok (.bl x.m) M := by simp [laneD]
  have e5 := box_eq hb M
  have hj := (List.getElem?_eq_some_iff.mp h).1
  obtain ⟨X, hX⟩ : ∃ X, X = xs.set j (unmaskL x c) := ⟨_, rfl⟩
  have hXj : X[j]? = some (unmaskL x c) := by rw [hX]; exact List.getElem?_set_self hj
  have e6 := p_look_lane (js := js) (pu := pu) (c := c) (most := most) (wait := wait) (M := M) hXj (by rw [hX]; simpa using hl) ok
  have hXX : X.set j { unmaskL x c with m := true } = xs.set j { unmaskL x c with m := true } := by rw [hX, List.set_set]
  have hr : f_unmasked [valD xs js pu, mem, .int (j : Int), .int c, .int most, .int wait] M = (m_unmasked [some (valD xs js pu), some mem, some (.int (j : Int)), some (.int c), some (.int most), some (.int wait), none, none, none] M).fin := x_run rfl rfl
  have g1 : sPar [6, 7] (aCons (eB dIx (eB dIx (eV 0) (eK (.int 1))) (eV 2)) (aCons (eV 0) aNil)) [some (valD xs js pu), some mem, some (.int (j : Int)), some (.int c), some (.int most), some (.int wait), none, none, none] M = .nx [some (valD xs js pu), some mem, some (.int (j : Int)), some (.int c), some (.int most), some (.int wait), some (laneD x), some (valD xs js pu), none] M := by
    simp [x_val1, x_lane h]
  have g2 : sIf (tB (eB dIx (eV 6) (eK (.int 7)))) (sSeq (sAsg (gN 7) (eC f_lane_turned (aCons (eV 7) (aCons (eV 2) (aCons (eK (.int 7)) (aCons (eK (.bl false)) aNil))))))
      (sAsg (gN 7) (eC f_lane_turned (aCons (eV 7) (aCons (eV 2) (aCons (eK (.int 6)) (aCons (eIf (tB (eB dEq (eB dIx (eV 6) (eK (.int 5))) (eN dTup aNil))) (eK .non) (eV 3)) aNil))))))) sNext [some (valD xs js pu), some mem, some (.int (j : Int)), some (.int c), some (.int most), some (.int wait), some (laneD x), some (valD xs js pu), none] M =
      .nx [some (valD xs js pu), some mem, some (.int (j : Int)), some (.int c), some (.int most), some (.int wait), some (laneD x), some (valD X js pu), none] M := by
    by_cases hm : x.m = true
    · have e3 : f_lane_turned [valD xs js pu, .int (j : Int), .int 7, .bl false] M = .ok (valD (xs.set j { x with m := false }) js pu) M := p_lane_turned (at_ := 7) h hl (by decide) rfl
      have h2 : (xs.set j { x with m := false })[j]? = some { x with m := false } := List.getElem?_set_self hj
      have e4 : ∀ s : Option Int, f_lane_turned [valD (xs.set j { x with m := false }) js pu, .int (j : Int), .int 6, oI s] M = .ok (valD (xs.set j { x with m := false, s := s }) js pu) M := fun s => by
        have := p_lane_turned (at_ := 6) (d := oI s) (x2 := { x with m := false, s := s }) (js := js) (pu := pu) (M := M) h2 (by simpa using hl) (by decide) rfl
        rw [List.set_set] at this
        exact this
      cases hbx : x.box with
      | nil =>
        have : X = xs.set j { x with m := false, s := none } := by rw [hX]; unfold unmaskL; rw [if_pos hm, if_pos hbx]
        have e4 := e4 none
        have l5' : dIx (laneD x) (.int 5) M = .ok (.tup []) M := by rw [l5, hbx]
        have e5' : dEq (.tup []) (.tup []) M = .ok (.bl true) M := rfl
        rw [this]
        simp [l7, hm, e3, l5', e5', dTup]
        exact congrArg (fun r : Res D => (r.st _ _ : SR)) e4
      | cons b bs =>
        have : X = xs.set j { x with m := false, s := some c } := by rw [hX]; unfold unmaskL; rw [if_pos hm, if_neg (by rw [hbx]; simp)]
        have e4 := e4 (some c)
        have l5' : dIx (laneD x) (.int 5) M = .ok (.tup (b :: bs)) M := by rw [l5, hbx]
        have e5' : dEq (.tup (b :: bs)) (.tup []) M = .ok (.bl false) M := by rw [← hbx, e5, hbx]; rfl
        rw [this]
        simp [l7, hm, e3, l5', e5', dTup]
        exact congrArg (fun r : Res D => (r.st _ _ : SR)) e4
    · have hm : x.m = false := by simpa using hm
      have : X = xs := by
        rw [hX]; unfold unmaskL; rw [if_neg (by rw [hm]; decide)]
        have := (List.getElem?_eq_some_iff.mp h).2
        rw [← this]
        exact List.set_getElem_self hj
      rw [this]
      simp [l7, hm]
  rw [hr]
  unfold m_unmasked
  rw [x_seq g1, x_seq g2, ← hX, ← hXX]
  cases hd : due (lnOf (unmaskL x c)) c most wait <;> rw [hd] at e6 <;> simp at e6 <;> simp [e6, dTup, cap, x_val0, dAdd, unmD, raisedD]
end Dt
namespace Dt
theorem x_tup0  (M : Mem) : dTup [] M = .ok (.tup []) M := if_pos (by show 0 ≤ 100000; decide)
theorem x_tup1 (a0 : D) (M : Mem) : dTup [a0] M = .ok (.tup [a0]) M := if_pos (by show 1 ≤ 100000; decide)
theorem x_tup2 (a0 a1 : D) (M : Mem) : dTup [a0, a1] M = .ok (.tup [a0, a1]) M := if_pos (by show 2 ≤ 100000; decide)
theorem x_tup3 (a0 a1 a2 : D) (M : Mem) : dTup [a0, a1, a2] M = .ok (.tup [a0, a1, a2]) M := if_pos (by show 3 ≤ 100000; decide)
theorem x_tup4 (a0 a1 a2 a3 : D) (M : Mem) : dTup [a0, a1, a2, a3] M = .ok (.tup [a0, a1, a2, a3]) M := if_pos (by show 4 ≤ 100000; decide)
theorem x_tup5 (a0 a1 a2 a3 a4 : D) (M : Mem) : dTup [a0, a1, a2, a3, a4] M = .ok (.tup [a0, a1, a2, a3, a4]) M := if_pos (by show 5 ≤ 100000; decide)
theorem x_tup6 (a0 a1 a2 a3 a4 a5 : D) (M : Mem) : dTup [a0, a1, a2, a3, a4, a5] M = .ok (.tup [a0, a1, a2, a3, a4, a5]) M := if_pos (by show 6 ≤ 100000; decide)
theorem x_tup7 (a0 a1 a2 a3 a4 a5 a6 : D) (M : Mem) : dTup [a0, a1, a2, a3, a4, a5, a6] M = .ok (.tup [a0, a1, a2, a3, a4, a5, a6]) M := if_pos (by show 7 ≤ 100000; decide)
theorem x_tup8 (a0 a1 a2 a3 a4 a5 a6 a7 : D) (M : Mem) : dTup [a0, a1, a2, a3, a4, a5, a6, a7] M = .ok (.tup [a0, a1, a2, a3, a4, a5, a6, a7]) M := if_pos (by show 8 ≤ 100000; decide)
theorem x_tup9 (a0 a1 a2 a3 a4 a5 a6 a7 a8 : D) (M : Mem) : dTup [a0, a1, a2, a3, a4, a5, a6, a7, a8] M = .ok (.tup [a0, a1, a2, a3, a4, a5, a6, a7, a8]) M := if_pos (by show 9 ≤ 100000; decide)
def ringD (sz md dn : Nat) (ts : List D) : D := .tup [.int (sz : Int), .int (md : Int), .int (dn : Int), .tup ts]
def StrOk (d : D) : Prop := ∃ p a n : Nat, d = placeD p a n ∧ p < 9 ∧ a < 8 ∧ n + a ≤ 8
structure RingAt (sz md dn h : Nat) (ts : List D) : Prop where
  s0 : 0 < sz
  s1 : sz ≤ 8
  tl : ts.length = sz
  d1 : dn < 2 * sz
  hs : h ≤ sz
  m_ : md = (dn + h) % (2 * sz)
  th : ∀ i, i < h → ∃ d, ts[(dn + i) % sz]? = some d ∧ StrOk d
def RingOk (d : D) : Prop := ∃ sz md dn h ts, d = ringD sz md dn ts ∧ RingAt sz md dn h ts
theorem x_modN (M : Mem) (i j : Nat) (h : 0 < j) : dMod (.int (i : Int)) (.int (j : Int)) M = .ok (.int ((i % j : Nat) : Int)) M := by
  rw [x_mod M (i : Int) (j : Int) (by omega), Int.natCast_emod]
theorem two_mul (M : Mem) (sz : Nat) (h : sz ≤ 8) : dMul (.int 2) (.int (sz : Int)) M = .ok (.int ((2 * sz : Nat) : Int)) M := by
  rw [x_mul M 2 (sz : Int) (by unfold mulOk; exact decide_eq_true (.inl (by omega)))]
  rfl
theorem p_count_on {c sz : Nat} {M : Mem} (s0 : 0 < sz) (s1 : sz ≤ 8) : f_count_on [.int (c : Int), .int (sz : Int), .int 1] M = .ok (.int (((c + 1) % (2 * sz) : Nat) : Int)) M := by
  have e1 := two_mul M sz s1
  have e2 := x_modN M (c + 1) (2 * sz) (by omega)
  have e3 : dAdd (.int (c : Int)) (.int 1) M = .ok (.int ((c + 1 : Nat) : Int)) M := rfl
  have hr : f_count_on [.int (c : Int), .int (sz : Int), .int 1] M = (m_count_on [some (.int (c : Int)), some (.int (sz : Int)), some (.int 1)] M).fin := x_run rfl rfl
  rw [hr]
  unfold m_count_on
  simp only [x_sRet, x_eB, x_eV, x_eK, List.getElem?_cons_zero, List.getElem?_cons_succ, Res.bind_ok, e3, e1, e2, Res.st_ok, fin_rt]
theorem RingAt.held {sz md dn h : Nat} {ts : List D} (R : RingAt sz md dn h ts) : (((md : Int) - (dn : Int)) % ((2 * sz : Nat) : Int)) = (h : Int) := by
  have hm := R.m_
  have d1 := R.d1
  have hs := R.hs
  have s0 := R.s0
  by_cases hc : dn + h < 2 * sz
  · rw [Nat.mod_eq_of_lt hc] at hm
    rw [show (md : Int) - (dn : Int) = (h : Int) by omega]
    exact Int.emod_eq_of_lt (by omega) (by omega)
  · have : (dn + h) % (2 * sz) = dn + h - 2 * sz := by
      rw [Nat.mod_eq_sub_mod (by omega), Nat.mod_eq_of_lt (by omega)]
    rw [this] at hm
    rw [show (md : Int) - (dn : Int) = (h : Int) + ((2 * sz : Nat) : Int) * (-1) by omega, Int.add_mul_emod_self_left]
    exact Int.emod_eq_of_lt (by omega) (by omega)
theorem p_held {sz md dn h : Nat} {ts : List D} {M : Mem} (R : RingAt sz md dn h ts) : f_held_in [ringD sz md dn ts] M = .ok (.int (h : Int)) M := by
  have e1 := two_mul M sz R.s1
  have e2 := x_mod M ((md : Int) - (dn : Int)) ((2 * sz : Nat) : Int) (by have := R.s0; omega)
  rw [R.held] at e2
  have e3 : f_count_gap [.int (dn : Int), .int (md : Int), .int (sz : Int)] M = .ok (.int (h : Int)) M := by
    simp [-Int.natCast_mul, f_count_gap, m_count_gap, e1, e2]
  simp [f_held_in, m_held_in, ringD, e3]
theorem p_laid {ts : List D} {i : Nat} {d : D} {M : Mem} (hi : i < ts.length) (hl : ts.length ≤ 8) : f_laid [.tup ts, .int (i : Int), d] M = .ok (.tup (ts.set i d)) M := by
  have := p_turned (M := M) (d := d) hi (by unfold cap; omega)
  exact this
theorem add_mod_ne {sz dn i h : Nat} (hs : h < sz) (hi : i < h) : (dn + i) % sz ≠ (dn + h) % sz := by
  intro z
  have h1 := Nat.div_add_mod (dn + i) sz
  have h2 := Nat.div_add_mod (dn + h) sz
  rw [z] at h1
  have h3 : sz * ((dn + h) / sz) = sz * ((dn + i) / sz) + (h - i) := by omega
  by_cases hq : (dn + h) / sz = (dn + i) / sz
  · rw [hq] at h3; omega
  · have hge : (dn + i) / sz ≤ (dn + h) / sz := Nat.div_le_div_right (by omega)
    have hgt : (dn + i) / sz + 1 ≤ (dn + h) / sz := by omega
    have := Nat.mul_le_mul_left sz hgt
    rw [Nat.mul_add] at this
    omega
theorem mod_two {sz x : Nat} (s0 : 0 < sz) : (x % (2 * sz)) % sz = x % sz := Nat.mod_mod_of_dvd x ⟨2, by omega⟩
theorem RingAt.put {sz md dn h : Nat} {ts : List D} {d : D} (R : RingAt sz md dn h ts) (hh : h ≠ sz) (hd : StrOk d) : RingAt sz ((md + 1) % (2 * sz)) dn (h + 1) (ts.set (md % sz) d) := by
  have s0 := R.s0
  have hs := R.hs
  have em : md % sz = (dn + h) % sz := by rw [R.m_, mod_two s0]
  refine ⟨s0, R.s1, by rw [List.length_set]; exact R.tl, R.d1, by omega, ?_, fun i hi => ?_⟩
  · rw [R.m_, Nat.mod_add_mod]
    congr 1
  · by_cases q : i = h
    · subst q
      refine ⟨d, ?_, hd⟩
      rw [em]
      exact List.getElem?_set_self (by rw [R.tl]; exact Nat.mod_lt _ s0)
    · obtain ⟨e, h1, h2⟩ := R.th i (by omega)
      refine ⟨e, ?_, h2⟩
      rw [em, List.getElem?_set_ne (add_mod_ne (by omega) (by omega)).symm]
      exact h1
theorem p_put {sz md dn h : Nat} {ts : List D} {d : D} {M : Mem} (R : RingAt sz md dn h ts) (hd : StrOk d) : f_put_in [ringD sz md dn ts, d] M = (if h = sz then .ex ⟨"NoPlace", [("word", .str "full")]⟩ M else .ok (ringD sz ((md + 1) % (2 * sz)) dn (ts.set (md % sz) d)) M) := by
  have e1 := p_held (M := M) R
  have e2 := p_count_on (c := md) (M := M) R.s0 R.s1
  have e3 := x_modN M md sz R.s0
  have e4 := p_laid (i := md % sz) (d := d) (M := M) (ts := ts) (by rw [R.tl]; exact Nat.mod_lt _ R.s0) (by rw [R.tl]; exact R.s1)
  have hr : f_put_in [ringD sz md dn ts, d] M = (m_put_in [some (ringD sz md dn ts), some d, none, none, none, none] M).fin := x_run rfl rfl
  have g1 : sAsg (gT [(gN 2), (gN 3), (gN 4), (gN 5)]) (eV 0) [some (ringD sz md dn ts), some d, none, none, none, none] M = .nx [some (ringD sz md dn ts), some d, some (.int (sz : Int)), some (.int (md : Int)), some (.int (dn : Int)), some (.tup ts)] M := by
    simp [ringD]
  rw [hr]
  unfold m_put_in
  rw [x_seq g1]
  by_cases hh : h = sz
  · rw [if_pos hh]
    subst hh
    simp [e1, sRaise]
  · rw [if_neg hh]
    have hb : ¬ ((h : Int) = (sz : Int)) := by omega
    have g2 : sIf (tB (eB dEq (eC f_held_in (aCons (eV 0) aNil)) (eV 2))) (sRaise "NoPlace" ["word"] (aCons (eK (.str "full")) aNil)) sNext [some (ringD sz md dn ts), some d, some (.int (sz : Int)), some (.int (md : Int)), some (.int (dn : Int)), some (.tup ts)] M =
        .nx [some (ringD sz md dn ts), some d, some (.int (sz : Int)), some (.int (md : Int)), some (.int (dn : Int)), some (.tup ts)] M := by simp [e1, hb]
    rw [x_seq g2]
    simp only [x_sRet, x_eN, x_aCons, x_aNil, x_eC, x_eB, x_eV, List.getElem?_cons_zero, List.getElem?_cons_succ, Res.bind_ok, List.cons_append, List.nil_append, e2, e3, e4, x_tup4, Res.st_ok, fin_rt]
    rfl
theorem RingAt.take {sz md dn h : Nat} {ts : List D} (R : RingAt sz md dn h ts) (hh : h ≠ 0) : RingAt sz md ((dn + 1) % (2 * sz)) (h - 1) (ts.set (dn % sz) .non) := by
  have s0 := R.s0
  have hs := R.hs
  refine ⟨s0, R.s1, by rw [List.length_set]; exact R.tl, Nat.mod_lt _ (by omega), by omega, ?_, fun i hi => ?_⟩
  · rw [R.m_, Nat.mod_add_mod]
    congr 1
    omega
  · obtain ⟨e, h1, h2⟩ := R.th (i + 1) (by omega)
    refine ⟨e, ?_, h2⟩
    have em : ((dn + 1) % (2 * sz) + i) % sz = (dn + (i + 1)) % sz := by
      rw [Nat.add_mod, mod_two s0, ← Nat.add_mod]
      congr 1
      omega
    have ne : (dn + 0) % sz ≠ (dn + (i + 1)) % sz := add_mod_ne (by omega) (by omega)
    rw [em, List.getElem?_set_ne (by simpa using ne)]
    exact h1
theorem p_take {sz md dn h : Nat} {ts : List D} {M : Mem} (R : RingAt sz md dn h ts) : (h = 0 ∧ f_take_out [ringD sz md dn ts] M = .ex ⟨"NoPlace", [("word", .str "void")]⟩ M) ∨
    (h ≠ 0 ∧ ∃ d, StrOk d ∧ f_take_out [ringD sz md dn ts] M = .ok (.tup [ringD sz md ((dn + 1) % (2 * sz)) (ts.set (dn % sz) .non), d]) M) := by
  have e1 := p_held (M := M) R
  have e2 := p_count_on (c := dn) (M := M) R.s0 R.s1
  have e3 := x_modN M dn sz R.s0
  have e4 := p_laid (i := dn % sz) (d := .non) (M := M) (ts := ts) (by rw [R.tl]; exact Nat.mod_lt _ R.s0) (by rw [R.tl]; exact R.s1)
  have hr : f_take_out [ringD sz md dn ts] M = (m_take_out [some (ringD sz md dn ts), none, none, none, none] M).fin := x_run rfl rfl
  have g1 : sAsg (gT [(gN 1), (gN 2), (gN 3), (gN 4)]) (eV 0) [some (ringD sz md dn ts), none, none, none, none] M = .nx [some (ringD sz md dn ts), some (.int (sz : Int)), some (.int (md : Int)), some (.int (dn : Int)), some (.tup ts)] M := by
    simp [ringD]
  rw [hr]
  unfold m_take_out
  rw [x_seq g1]
  by_cases hh : h = 0
  · refine .inl ⟨hh, ?_⟩
    subst hh
    simp [e1, sRaise]
  · refine .inr ⟨hh, ?_⟩
    obtain ⟨d, h1, h2⟩ := R.th 0 (by omega)
    have e5 : L2.atI ts ((dn % sz : Nat) : Int) = some d := atI_nat ts _ d (by simpa using h1)
    refine ⟨d, h2, ?_⟩
    have g2 : sIf (tB (eB dEq (eC f_held_in (aCons (eV 0) aNil)) (eK (.int 0)))) (sRaise "NoPlace" ["word"] (aCons (eK (.str "void")) aNil)) sNext [some (ringD sz md dn ts), some (.int (sz : Int)), some (.int (md : Int)), some (.int (dn : Int)), some (.tup ts)] M =
        .nx [some (ringD sz md dn ts), some (.int (sz : Int)), some (.int (md : Int)), some (.int (dn : Int)), some (.tup ts)] M := by simp [e1, hh]
    rw [x_seq g2]
    simp only [x_sRet, x_eN, x_aCons, x_aNil, x_eC, x_eB, x_eV, x_eK, List.getElem?_cons_zero, List.getElem?_cons_succ, Res.bind_ok, List.cons_append, List.nil_append, e2, e3, e4, x_ixT, e5, x_tup4, x_tup2, Res.st_ok, fin_rt]
    rfl
end Dt
namespace Dt
theorem x_try_ok {cs : List (String × Bool)} {s u : S} {δ δ2 : Env} {M M2 : Mem} (h : s δ M = .nx δ2 M2) : sTry cs s u δ M = .nx δ2 M2 := by unfold sTry; rw [h]
theorem x_try_ex {cs : List (String × Bool)} {s u : S} {δ δ2 δ3 : Env} {M M2 M3 : Mem} {e : Exn} (h : s δ M = .ex e δ2 M2) (hc : cs.lookup e.cls = some true) (hu : u δ2 M2 = .nx δ3 M3) : sTry cs s u δ M = .nx δ3 M3 := by
  unfold sTry
  rw [h]
  simp only [hc, hu]
def exNS (w : String) : Exn := ⟨"NoStep", [("word", .str w)]⟩
theorem p_put_or {r d : D} {M : Mem} (hr : RingOk r) (hd : StrOk d) : (∃ r2, RingOk r2 ∧ f_put_or_full [r, d] M = .ok r2 M) ∨ f_put_or_full [r, d] M = .ex (exNS "full") M := by
  obtain ⟨sz, md, dn, h, ts, rfl, R⟩ := hr
  have e1 := p_put (M := M) R hd
  have hr : f_put_or_full [ringD sz md dn ts, d] M = (m_put_or_full [some (ringD sz md dn ts), some d, none] M).fin := x_run rfl rfl
  have g1 : sAsg (gN 2) (eK .non) [some (ringD sz md dn ts), some d, none] M = .nx [some (ringD sz md dn ts), some d, some .non] M := by simp
  rw [hr]
  unfold m_put_or_full
  rw [x_seq g1]
  by_cases hh : h = sz
  · rw [if_pos hh] at e1
    right
    have g2 : sTry [("NoPlace", true)] (sAsg (gN 2) (eC f_put_in (aCons (eV 0) (aCons (eV 1) aNil)))) (sAsg (gN 2) (eK .non)) [some (ringD sz md dn ts), some d, some .non] M = .nx [some (ringD sz md dn ts), some d, some .non] M :=
      x_try_ex (e := ⟨"NoPlace", [("word", .str "full")]⟩) (δ2 := [some (ringD sz md dn ts), some d, some .non]) (M2 := M) (by simp [e1]) rfl (by simp)
    rw [x_seq g2]
    simp [dIsN, isNon, sRaise, exNS]
  · rw [if_neg hh] at e1
    left
    refine ⟨_, ⟨_, _, _, _, _, rfl, R.put hh hd⟩, ?_⟩
    have g2 : sTry [("NoPlace", true)] (sAsg (gN 2) (eC f_put_in (aCons (eV 0) (aCons (eV 1) aNil)))) (sAsg (gN 2) (eK .non)) [some (ringD sz md dn ts), some d, some .non] M = .nx [some (ringD sz md dn ts), some d, some (ringD sz ((md + 1) % (2 * sz)) dn (ts.set (md % sz) d))] M :=
      x_try_ok (by simp [e1])
    rw [x_seq g2]
    have g3 : dIsN (ringD sz ((md + 1) % (2 * sz)) dn (ts.set (md % sz) d)) .non M = .ok (.bl false) M := rfl
    simp [g3]
theorem p_posts {xs : List LS} {js : List D} {pu mem : D} {j : Nat} {x : LS} {d : D} {M : Mem} (h : xs[j]? = some x) (hl : xs.length ≤ 1000) (hr : RingOk x.inw) (hd : StrOk d) :
    (∃ r2, RingOk r2 ∧ f_posts [valD xs js pu, mem, .int (j : Int), d] M = .ok (.tup [valD (xs.set j { x with inw := r2 }) js pu, mem, .tup [.tup [.str "posted", HALF, .int (j : Int), d]]]) M) ∨
      f_posts [valD xs js pu, mem, .int (j : Int), d] M = .ex (exNS "full") M := by
  have l4 : dIx (laneD x) (.int 4) M = .ok x.inw M := by simp [laneD]
  rcases p_put_or (M := M) hr hd with ⟨r2, hr2, e⟩ | e
  · left
    refine ⟨r2, hr2, ?_⟩
    have e4 : f_lane_turned [valD xs js pu, .int (j : Int), .int 4, r2] M = .ok (valD (xs.set j { x with inw := r2 }) js pu) M := p_lane_turned (at_ := 4) h hl (by decide) rfl
    simp [f_posts, m_posts, x_val1, x_val0, x_lane h, l4, e, e4, dTup, cap]
  · right
    simp [f_posts, m_posts, x_val1, x_lane h, l4, e]
theorem p_oldest {xs : List LS} {js : List D} {pu : D} {j : Nat} {x : LS} {M : Mem} (h : xs[j]? = some x) (hl : xs.length ≤ 1000) (hr : RingOk x.inw) :
    f_oldest_posted [valD xs js pu, .int (j : Int)] M = .ok .non M ∨ ∃ r2 d, RingOk r2 ∧ StrOk d ∧ f_oldest_posted [valD xs js pu, .int (j : Int)] M = .ok (.tup [valD (xs.set j { x with inw := r2 }) js pu, d]) M := by
  have l4 : dIx (laneD x) (.int 4) M = .ok x.inw M := by simp [laneD]
  obtain ⟨sz, md, dn, hh, ts, ei, R⟩ := hr
  have hr : f_oldest_posted [valD xs js pu, .int (j : Int)] M = (m_oldest_posted [some (valD xs js pu), some (.int (j : Int)), none, none, none] M).fin := x_run rfl rfl
  have g1 : sAsg (gN 2) (eK .non) [some (valD xs js pu), some (.int (j : Int)), none, none, none] M = .nx [some (valD xs js pu), some (.int (j : Int)), some .non, none, none] M := by simp
  rw [hr]
  unfold m_oldest_posted
  rw [x_seq g1]
  rcases p_take (M := M) R with ⟨h0, e⟩ | ⟨h0, d, hd, e⟩
  · left
    have g2 : sTry [("NoPlace", true)] (sAsg (gN 2) (eC f_take_out (aCons (eB dIx (eB dIx (eB dIx (eV 0) (eK (.int 1))) (eV 1)) (eK (.int 4))) aNil))) (sAsg (gN 2) (eK .non)) [some (valD xs js pu), some (.int (j : Int)), some .non, none, none] M =
        .nx [some (valD xs js pu), some (.int (j : Int)), some .non, none, none] M :=
      x_try_ex (e := ⟨"NoPlace", [("word", .str "void")]⟩) (δ2 := [some (valD xs js pu), some (.int (j : Int)), some .non, none, none]) (M2 := M) (by simp [x_val1, x_lane h, l4, ei, e]) rfl (by simp)
    rw [x_seq g2]
    simp [dIsN, isNon]
  · right
    refine ⟨_, d, ⟨_, _, _, _, _, rfl, R.take h0⟩, hd, ?_⟩
    obtain ⟨r2, hr2⟩ : ∃ r2, r2 = ringD sz md ((dn + 1) % (2 * sz)) (ts.set (dn % sz) .non) := ⟨_, rfl⟩
    rw [← hr2] at e ⊢
    have g2 : sTry [("NoPlace", true)] (sAsg (gN 2) (eC f_take_out (aCons (eB dIx (eB dIx (eB dIx (eV 0) (eK (.int 1))) (eV 1)) (eK (.int 4))) aNil))) (sAsg (gN 2) (eK .non)) [some (valD xs js pu), some (.int (j : Int)), some .non, none, none] M =
        .nx [some (valD xs js pu), some (.int (j : Int)), some (.tup [r2, d]), none, none] M :=
      x_try_ok (by simp [x_val1, x_lane h, l4, ei, e])
    rw [x_seq g2]
    have e4 : f_lane_turned [valD xs js pu, .int (j : Int), .int 4, r2] M = .ok (valD (xs.set j { x with inw := r2 }) js pu) M := p_lane_turned (at_ := 4) h hl (by decide) rfl
    simp [dIsN, isNon, e4, dTup, cap]
def boxL (x : LS) (e : D) (c : Int) : LS := { x with box := x.box ++ [e], s := if x.box = [] then some c else x.s }
theorem p_boxed {xs : List LS} {js : List D} {pu : D} {j : Nat} {x : LS} {e : D} {c : Int} {M : Mem} (h : xs[j]? = some x) (hl : xs.length ≤ 1000) (hb : ∀ d ∈ x.box, BoxOk d) (hc : x.box.length < cap) :
    f_boxed [valD xs js pu, .int (j : Int), e, .int c] M = .ok (valD (xs.set j (boxL x e c)) js pu) M := by
  have l5 : dIx (laneD x) (.int 5) M = .ok (.tup x.box) M := by simp [laneD]
  have e5 := box_eq hb M
  have hj := (List.getElem?_eq_some_iff.mp h).1
  have e1 : dAdd (.tup x.box) (.tup [e]) M = .ok (.tup (x.box ++ [e])) M := if_pos (by simp; omega)
  have e3 : f_lane_turned [valD xs js pu, .int (j : Int), .int 5, .tup (x.box ++ [e])] M = .ok (valD (xs.set j { x with box := x.box ++ [e] }) js pu) M := p_lane_turned (at_ := 5) h hl (by decide) rfl
  have h2 : (xs.set j { x with box := x.box ++ [e] })[j]? = some { x with box := x.box ++ [e] } := List.getElem?_set_self hj
  have e4 : f_lane_turned [valD (xs.set j { x with box := x.box ++ [e] }) js pu, .int (j : Int), .int 6, .int c] M = .ok (valD (xs.set j { x with box := x.box ++ [e], s := some c }) js pu) M := by
    have := p_lane_turned (at_ := 6) (d := .int c) (x2 := { x with box := x.box ++ [e], s := some c }) (js := js) (pu := pu) (M := M) h2 (by simpa using hl) (by decide) rfl
    rw [List.set_set] at this
    exact this
  cases hbx : x.box with
  | nil =>
    have q : boxL x e c = { x with box := x.box ++ [e], s := some c } := by unfold boxL; rw [if_pos hbx]
    rw [hbx] at l5 e5
    rw [q]
    simp [f_boxed, m_boxed, x_val1, x_lane h, l5, dTup, cap, hbx] 
    rw [hbx] at e1 e3 e4
    simp at e1 e3 e4 e5
    simp [e1, e3, e4, e5, l5, dTup]
  | cons b bs =>
    have q : boxL x e c = { x with box := x.box ++ [e] } := by unfold boxL; rw [if_neg (by rw [hbx]; simp)]
    rw [hbx] at l5 e5
    rw [q]
    simp [f_boxed, m_boxed, x_val1, x_lane h, l5, dTup, cap, hbx]
    rw [hbx] at e1 e3 e4
    simp at e1 e3 e4 e5
    simp [e1, e3, e4, e5, l5, dTup]
def fr (a b : Int) : D := .tup [.int a, .int b]
def P1 (h : D) : D := .tup [h, fr 1 1, fr 4 1]
def P2 (h : D) : D := .tup [h, fr 1 3, fr 3 2]
def P3 (h : D) : D := .tup [h, fr 1 1, fr 8 1]
def P4 (h : D) : D := .tup [h, fr 1 8, fr 1 1]
def PURS : List D := [P1 (fr 2 1), P1 (fr 3 1), P1 (fr 4 1), P2 (fr 1 2), P2 (fr 5 6), P2 (fr 7 6), P2 (fr 3 2), P3 (fr 8 1), P4 (fr 0 1), P4 (fr 1 8), P4 (fr 1 4), P4 (fr 3 8), P4 (fr 1 2), P4 (fr 5 8), P4 (fr 3 4), P4 (fr 7 8), P4 (fr 1 1)]
def NEXT : List Nat := [1, 2, 2, 4, 5, 6, 6, 7, 9, 10, 11, 12, 13, 14, 15, 16, 16]
theorem purse_tab : ∀ (i : Nat) (M : Mem), i < 17 → f_purse_filled [PURS.getD i .non, .int 1] M = .ok (PURS.getD (NEXT.getD i 0) .non) M
  | 0, M, _ => rfl
  | 1, M, _ => rfl
  | 2, M, _ => rfl
  | 3, M, _ => rfl
  | 4, M, _ => rfl
  | 5, M, _ => rfl
  | 6, M, _ => rfl
  | 7, M, _ => rfl
  | 8, M, _ => rfl
  | 9, M, _ => rfl
  | 10, M, _ => rfl
  | 11, M, _ => rfl
  | 12, M, _ => rfl
  | 13, M, _ => rfl
  | 14, M, _ => rfl
  | 15, M, _ => rfl
  | 16, M, _ => rfl
  | n + 17, M, h => by omega
theorem p_purse {p : D} (h : p ∈ PURS) (M : Mem) : ∃ q ∈ PURS, f_purse_filled [p, .int 1] M = .ok q M := by
  obtain ⟨i, hi, rfl⟩ := List.mem_iff_getElem.mp h
  have hi : i < 17 := hi
  have e := purse_tab i M hi
  have hn : NEXT.getD i 0 < PURS.length := by
    have : ∀ i, i < 17 → NEXT.getD i 0 < 17 := by decide
    exact this i hi
  refine ⟨PURS[NEXT.getD i 0], List.getElem_mem _, ?_⟩
  have q1 : PURS.getD i .non = PURS[i] := by rw [List.getD_eq_getElem?_getD, List.getElem?_eq_getElem]; rfl
  have q2 : PURS.getD (NEXT.getD i 0) .non = PURS[NEXT.getD i 0] := by rw [List.getD_eq_getElem?_getD, List.getElem?_eq_getElem hn]; rfl
  rw [q1, q2] at e
  exact e
def tickL (c most wait : Int) (x : LS) : LS := if due (lnOf x) c most wait = true then { x with m := true } else x
def tickE (c most wait : Int) (x : LS) (j : Nat) : List D := if due (lnOf x) c most wait = true then [raisedD j c] else []
theorem tick_step {xs : List LS} {js : List D} {pu mem v0 : D} {j : Nat} {x : LS} {c most wait : Int} {evs r : List D} {x7 x8 : Option D} {M : Mem} (h : xs[j]? = some x) (hl : xs.length ≤ 1000) (ok : LnOk (lnOf x)) (he : evs.length ≤ 1000) : ∃ y8,
    loop (gN 7) b_ticked_0 (.int (j : Int) :: r) [some v0, some mem, some (.int c), some (.int most), some (.int wait), some (valD xs js pu), some (.tup evs), x7, x8] M =
      loop (gN 7) b_ticked_0 r [some v0, some mem, some (.int c), some (.int most), some (.int wait), some (valD (xs.set j (tickL c most wait x)) js pu), some (.tup (evs ++ tickE c most wait x j)), some (.int (j : Int)), y8] M := by
  have e := p_look_lane (js := js) (pu := pu) (c := c) (most := most) (wait := wait) (M := M) h hl ok
  cases hd : due (lnOf x) c most wait with
  | true =>
    rw [hd] at e
    simp at e
    have e2 : dAdd (.tup evs) (.tup [raisedD j c]) M = .ok (.tup (evs ++ [raisedD j c])) M := if_pos (by simp; unfold cap; omega)
    refine ⟨some (.tup (tickE c most wait x j)), loop_nx (δ1 := [some v0, some mem, some (.int c), some (.int most), some (.int wait), some (valD xs js pu), some (.tup evs), some (.int (j : Int)), x8]) (by simp) ?_⟩
    unfold tickL tickE
    rw [if_pos hd, if_pos hd]
    simp [b_ticked_0, e, e2, dTup, cap]
  | false =>
    rw [hd] at e
    simp at e
    have e2 : dAdd (.tup evs) (.tup []) M = .ok (.tup evs) M := by
      show (if _ then _ else _) = _
      rw [if_pos (by simp; unfold cap; omega), List.append_nil]
    have hx : xs.set j x = xs := by
      have hj := (List.getElem?_eq_some_iff.mp h)
      rw [← hj.2]
      exact List.set_getElem_self hj.1
    refine ⟨some (.tup (tickE c most wait x j)), loop_nx (δ1 := [some v0, some mem, some (.int c), some (.int most), some (.int wait), some (valD xs js pu), some (.tup evs), some (.int (j : Int)), x8]) (by simp) ?_⟩
    unfold tickL tickE
    rw [if_neg (by rw [hd]; decide), if_neg (by rw [hd]; decide), hx, List.append_nil]
    simp [b_ticked_0, e, e2, dTup, cap]
def tickEs (c most wait : Int) : List LS → Nat → List D
  | [], _ => []
  | x :: xs, j => tickE c most wait x j ++ tickEs c most wait xs (j + 1)
theorem tick_run {js : List D} {pu mem v0 : D} {c most wait : Int} {M : Mem} : ∀ (rest done : List LS) (evs : List D) (x7 x8 : Option D), (∀ x ∈ rest, LnOk (lnOf x)) → (done ++ rest).length ≤ 1000 → evs.length + rest.length ≤ 1000 → ∃ y7 y8,
    loop (gN 7) b_ticked_0 ((List.range' done.length rest.length).map fun (i : Nat) => D.int (i : Int)) [some v0, some mem, some (.int c), some (.int most), some (.int wait), some (valD (done ++ rest) js pu), some (.tup evs), x7, x8] M =
      .nx [some v0, some mem, some (.int c), some (.int most), some (.int wait), some (valD (done ++ rest.map (tickL c most wait)) js pu), some (.tup (evs ++ tickEs c most wait rest done.length)), y7, y8] M
  | [], done, evs, x7, x8, _, _, _ => ⟨x7, x8, by simp [tickEs, loop_nil]⟩
  | x :: rest, done, evs, x7, x8, ok, hl, he => by
    have h : (done ++ x :: rest)[done.length]? = some x := by simp
    obtain ⟨z8, e1⟩ := tick_step (js := js) (pu := pu) (mem := mem) (v0 := v0) (c := c) (most := most) (wait := wait) (evs := evs) (r := (List.range' (done.length + 1) rest.length).map fun (i : Nat) => D.int (i : Int)) (x7 := x7) (x8 := x8) (M := M) h hl (ok x List.mem_cons_self) (by omega)
    have hs : (done ++ x :: rest).set done.length (tickL c most wait x) = (done ++ [tickL c most wait x]) ++ rest := by simp
    have hlen : (done ++ [tickL c most wait x]).length = done.length + 1 := by simp
    have he2 : (evs ++ tickE c most wait x done.length).length + rest.length ≤ 1000 := by
      have : (tickE c most wait x done.length).length ≤ 1 := by unfold tickE; split <;> simp
      rw [List.length_append]
      have he : evs.length + (rest.length + 1) ≤ 1000 := he
      omega
    have hl2 : ((done ++ [tickL c most wait x]) ++ rest).length ≤ 1000 := by simp at hl ⊢; omega
    obtain ⟨y7, y8, e2⟩ := tick_run (js := js) (pu := pu) (mem := mem) (v0 := v0) (M := M) rest (done ++ [tickL c most wait x]) (evs ++ tickE c most wait x done.length) (some (.int (done.length : Int))) z8 (fun y hy => ok y (List.mem_cons_of_mem _ hy)) hl2 he2
    refine ⟨y7, y8, ?_⟩
    rw [List.length_cons, List.range'_succ, List.map_cons, e1, hs]
    rw [hlen] at e2
    rw [e2, List.map_cons, List.append_assoc, List.append_assoc, List.singleton_append]
    rfl
theorem rngD_range (n : Nat) : rngD 0 n = (List.range' 0 n).map fun (i : Nat) => D.int (i : Int) := by
  unfold rngD
  rw [List.range_eq_range']
  exact List.map_congr_left fun i _ => by rw [Int.zero_add]
theorem p_ticked {xs : List LS} {js : List D} {pu mem : D} {c most wait : Int} {M : Mem} (hl : xs.length ≤ 500) (ok : ∀ x ∈ xs, LnOk (lnOf x)) (hp : pu ∈ PURS) : ∃ q ∈ PURS,
    f_ticked [valD xs js pu, mem, .int c, .int most, .int wait] M = .ok (.tup [valD (xs.map (tickL c most wait)) js q, mem, .tup (tickEs c most wait xs 0)]) M := by
  obtain ⟨q, hq, e⟩ := p_purse hp M
  refine ⟨q, hq, ?_⟩
  have hr : f_ticked [valD xs js pu, mem, .int c, .int most, .int wait] M = (m_ticked [some (valD xs js pu), some mem, some (.int c), some (.int most), some (.int wait), none, none, none, none] M).fin := x_run rfl rfl
  have e1 : f_turned_at [valD xs js pu, .int 7, q] M = .ok (valD xs js q) M := p_turned (i := 7) (by show 7 < 9; decide) (by show 9 ≤ 100000; decide)
  have l7 : dIx (valD xs js pu) (.int 7) M = .ok pu M := by simp [valD]
  have g1 : sPar [5, 6] (aCons (eC f_turned_at (aCons (eV 0) (aCons (eK (.int 7)) (aCons (eC (fun ds M => f_purse_filled (ds ++ [.int 1]) M) (aCons (eB dIx (eV 0) (eK (.int 7))) aNil)) aNil)))) (aCons (eN dTup aNil) aNil)) [some (valD xs js pu), some mem, some (.int c), some (.int most), some (.int wait), none, none, none, none] M =
      .nx [some (valD xs js pu), some mem, some (.int c), some (.int most), some (.int wait), some (valD xs js q), some (.tup []), none, none] M := by
    simp [l7, e, e1, dTup]
  obtain ⟨y7, y8, e2⟩ := tick_run (js := js) (pu := q) (mem := mem) (v0 := valD xs js pu) (c := c) (most := most) (wait := wait) (M := M) xs [] [] none none ok (by simp; omega) (by simp; omega)
  have g2 : sFor (iRng1D (aCons (eN dLen (aCons (eB dIx (eV 0) (eK (.int 1))) aNil)) aNil)) (gN 7) b_ticked_0 [some (valD xs js pu), some mem, some (.int c), some (.int most), some (.int wait), some (valD xs js q), some (.tup []), none, none] M =
      .nx [some (valD xs js pu), some mem, some (.int c), some (.int most), some (.int wait), some (valD (xs.map (tickL c most wait)) js q), some (.tup (tickEs c most wait xs 0)), y7, y8] M := by
    rw [x_sFor, x_rng (n := xs.length) (M2 := M) (by simp [x_val1, dLen]) (by unfold cap; omega), rngD_range]
    exact e2
  rw [hr]
  unfold m_ticked
  rw [x_seq g1, x_seq g2]
  simp [dTup, cap]
end Dt
namespace Dt
open PySem
def SG : String := "abcdefghijklmnopqrstuvwxyz"
theorem occ_ne : ∀ c ∈ ["b", "o", "a", "n", "h", "i", "y", "c"], (Builtin.Str.occurrences (Str.ofString SG) (Str.ofString c) 0 (Str.ofString SG).length 1).isEmpty = false := by decide +kernel
theorem x_sidx {c : String} (hc : c ∈ ["b", "o", "a", "n", "h", "i", "y", "c"]) {δ : Env} {M : Mem} (h : δ[9]? = some (some (.str c))) : ∃ i : Nat, eSIndex (eK (.str "abcdefghijklmnopqrstuvwxyz")) (eV 9) δ M = .ok (.int (i : Nat)) M := by
  have e := occ_ne c hc
  cases q : Builtin.Str.occurrences (Str.ofString SG) (Str.ofString c) 0 (Str.ofString SG).length 1 with
  | nil => rw [q] at e; cases e
  | cons i r =>
    refine ⟨i, ?_⟩
    unfold eSIndex
    simp only [x_eK, Res.bind_ok, x_eV, h]
    have q : Builtin.Str.occurrences (Str.ofString "abcdefghijklmnopqrstuvwxyz") (Str.ofString c) 0 (Str.ofString "abcdefghijklmnopqrstuvwxyz").length 1 = i :: r := q
    rw [q]
theorem intsD_of : ∀ {ds : List D}, (∀ d ∈ ds, ∃ i : Int, d = .int i) → ∃ ns, intsD ds = some ns
  | [], _ => ⟨[], rfl⟩
  | d :: ds, h => by
    obtain ⟨i, rfl⟩ := h d List.mem_cons_self
    obtain ⟨ns, e⟩ := intsD_of (ds := ds) fun d hd => h d (List.mem_cons_of_mem _ hd)
    exact ⟨i :: ns, by show (intsD ds).map (i :: ·) = _; rw [e]; rfl⟩
theorem intsD_map : ∀ (ns : List Int), intsD (ns.map D.int) = some ns
  | [] => rfl
  | n :: ns => by show (intsD (ns.map D.int)).map (n :: ·) = _; rw [intsD_map ns]; rfl
theorem mix_el {δ : Env} {M : Mem} {k : Int} {c : String} (h8 : δ[8]? = some (some (.int k))) (h9 : δ[9]? = some (some (.str c))) (hc : c ∈ ["b", "o", "a", "n", "h", "i", "y", "c"]) (k0 : 0 ≤ k) (k1 : k < 200) :
    ∃ z : Int, eB dMul (eV 8) (eB dAdd (eSIndex (eK (.str "abcdefghijklmnopqrstuvwxyz")) (eV 9)) (eK (.int 1))) δ M = .ok (.int z) M := by
  obtain ⟨i, hi⟩ := x_sidx hc (M := M) h9
  obtain ⟨j, hj⟩ : ∃ j : Int, j = (i : Int) + 1 := ⟨_, rfl⟩
  have hm := x_mul M k j (by unfold mulOk; exact decide_eq_true (.inl (by omega)))
  refine ⟨k * j, ?_⟩
  rw [x_eB, x_eV, h8]
  simp only [Res.bind_ok]
  rw [x_eB, hi]
  simp only [Res.bind_ok, x_eK, x_add]
  rw [← hj, hm]
theorem p_mixW (w o : String) (hl : w.length + "ann".length ≤ cap) (hl2 : (w ++ "ann").length + o.length ≤ cap) (hs : (w ++ "ann" ++ o).toList.length ≤ 100) (hc : ∀ c ∈ (w ++ "ann" ++ o).toList, String.singleton c ∈ ["b", "o", "a", "n", "h", "i", "y", "c"]) (M : Mem) :
    ∃ z : Int, f_mix_of [.tup [.tup [.int 1, .str w], HALF, .str o]] M = .ok (.int z) M := by
  have hr : f_mix_of [.tup [.tup [.int 1, .str w], HALF, .str o]] M = (m_mix_of [some (.tup [.tup [.int 1, .str w], HALF, .str o]), none, none, none, none, none, none, none, none, none] M).fin := x_run rfl rfl
  have g1 : sAsg (gT [(gT [(gN 1), (gN 2)]), (gT [(gN 3), (gN 4)]), (gN 5)]) (eV 0) [some (.tup [.tup [.int 1, .str w], HALF, .str o]), none, none, none, none, none, none, none, none, none] M =
      .nx [some (.tup [.tup [.int 1, .str w], HALF, .str o]), some (.int 1), some (.str w), some (.int 0), some (.str "ann"), some (.str o), none, none, none, none] M := by
    simp [HALF]
  have e1 : dAdd (.str w) (.str "ann") M = .ok (.str (w ++ "ann")) M := if_pos hl
  have e2 : dAdd (.str (w ++ "ann")) (.str o) M = .ok (.str (w ++ "ann" ++ o)) M := if_pos hl2
  obtain ⟨s, hsd⟩ : ∃ s, s = w ++ "ann" ++ o := ⟨_, rfl⟩
  rw [← hsd] at e2 hs hc
  have g2 : sAsg (gN 6) (eB dAdd (eB dAdd (eV 2) (eV 4)) (eV 5)) [some (.tup [.tup [.int 1, .str w], HALF, .str o]), some (.int 1), some (.str w), some (.int 0), some (.str "ann"), some (.str o), none, none, none, none] M =
      .nx [some (.tup [.tup [.int 1, .str w], HALF, .str o]), some (.int 1), some (.str w), some (.int 0), some (.str "ann"), some (.str o), some (.str s), none, none, none] M := by
    simp [e1, e2]
  obtain ⟨ys, y1, y2, y3⟩ := x_lLc_ex (it := iEnumD 1 (eV 6)) (g := gT [(gN 8), (gN 9)]) (t := tYes) (e := eB dMul (eV 8) (eB dAdd (eSIndex (eK (.str "abcdefghijklmnopqrstuvwxyz")) (eV 9)) (eK (.int 1)))) (vs := [9, 8])
    (δ := [some (.tup [.tup [.int 1, .str w], HALF, .str o]), some (.int 1), some (.str w), some (.int 0), some (.str "ann"), some (.str o), some (.str s), none, none, none]) (M := M) (ds := enumD 1 (s.toList.map fun c => .str (String.singleton c))) (P := fun d => ∃ i : Int, d = .int i)
    rfl (by unfold enumD; simp; omega) fun d hd => by
      obtain ⟨i, hi, rfl⟩ := List.mem_iff_getElem.mp hd
      obtain ⟨x, hx, e⟩ := enumD_get (List.getElem?_eq_getElem hi)
      rw [e]
      rw [List.getElem?_map] at hx
      obtain ⟨c, hcc, rfl⟩ := Option.map_eq_some_iff.mp hx
      have hi2 : i < 100 := by
        have := (List.getElem?_eq_some_iff.mp hcc).1
        omega
      obtain ⟨z, hz⟩ := mix_el (δ := [some (.tup [.tup [.int 1, .str w], HALF, .str o]), some (.int 1), some (.str w), some (.int 0), some (.str "ann"), some (.str o), some (.str s), none, some (.int (1 + (i : Nat))), some (.str (String.singleton c))]) (M := M) (k := 1 + (i : Nat)) rfl rfl (hc c (List.mem_of_getElem? hcc)) (by omega) (by omega)
      exact ⟨_, by simp [wipeE], rfl, _, hz, _, rfl⟩
  obtain ⟨ns, hns⟩ := intsD_of y2
  have e3 : dSumL ys M = .ok (.int ns.sum) M := by unfold dSumL; rw [hns]
  have e4 : dMul (.int 2) (.int 0) M = .ok (.int 0) M := x_mul M 2 0 (by unfold mulOk; exact decide_eq_true (.inl (by omega)))
  have e5 := x_mod M (ns.sum + 1 + 0) 1009 (by decide)
  have g3 : sAsg (gN 7) (eL dSumL (lLc (iEnumD 1 (eV 6)) (gT [(gN 8), (gN 9)]) tYes (eB dMul (eV 8) (eB dAdd (eSIndex (eK (.str "abcdefghijklmnopqrstuvwxyz")) (eV 9)) (eK (.int 1)))) [9, 8])) [some (.tup [.tup [.int 1, .str w], HALF, .str o]), some (.int 1), some (.str w), some (.int 0), some (.str "ann"), some (.str o), some (.str s), none, none, none] M =
      .nx [some (.tup [.tup [.int 1, .str w], HALF, .str o]), some (.int 1), some (.str w), some (.int 0), some (.str "ann"), some (.str o), some (.str s), some (.int ns.sum), none, none] M := by
    rw [x_sAsg, x_eL, y3, Res.bind_ok, e3]
    rfl
  refine ⟨(ns.sum + 1 + 0) % 1009, ?_⟩
  rw [hr]
  unfold m_mix_of
  rw [x_seq g1, x_seq g2, x_seq g3]
  simp only [x_sRet, x_eB, x_eV, x_eK, List.getElem?_cons_zero, List.getElem?_cons_succ, Res.bind_ok, x_add, e4, e5, Res.st_ok, fin_rt]
theorem p_mix {t : D} (h : t ∈ TALKS) (M : Mem) : ∃ z : Int, f_mix_of [t] M = .ok (.int z) M := by
  unfold TALKS at h
  simp only [List.mem_cons, List.not_mem_nil, or_false] at h
  rcases h with rfl | rfl | rfl | rfl
  · exact p_mixW "bob" "hi" (by decide) (by decide) (by decide) (by decide) M
  · exact p_mixW "bob" "yo" (by decide) (by decide) (by decide) (by decide) M
  · exact p_mixW "cy" "hi" (by decide) (by decide) (by decide) (by decide) M
  · exact p_mixW "cy" "yo" (by decide) (by decide) (by decide) (by decide) M
theorem talk_kOk : ∀ a ∈ TALKS, kOk a = true := by decide
theorem talk_alike : ∀ a ∈ TALKS, ∀ b ∈ TALKS, PySem.W.alike (py a) (py b) = true := by decide
theorem talk_tup : ∀ a ∈ TALKS, ∃ x r, a = .tup (x :: r) := by
  intro a h
  unfold TALKS at h
  simp only [List.mem_cons, List.not_mem_nil, or_false] at h
  rcases h with rfl | rfl | rfl | rfl <;> exact ⟨_, _, rfl⟩
theorem x_eMN {g : D → List D → Mem → Res D} {o : E} {a : Ar} {δ : Env} {M M1 M2 : Mem} {l : Nat} {kvs : List (D × D)} {as : List D} (h1 : o δ M = .ok (.loc l) M1) (h2 : M1[l]? = some (.dn kvs)) (h3 : a δ M1 = .ok as M2) : eMN g o a δ M = g (.loc l) as M2 := by
  show (o δ M).bind _ = _
  rw [h1]
  simp only [Res.bind_ok, h2, h3]
/-- which lane a talk goes to -/
theorem p_lane_of {t : D} (h : t ∈ TALKS) {n : Nat} (hn : 0 < n) (M : Mem) : ∃ j : Nat, j < n ∧ f_lane_of [.pt [], t, .int (n : Int)] M = .ok (.int (j : Int)) (M ++ [.dn []]) := by
  obtain ⟨z, hz⟩ := p_mix h (M ++ [.dn []])
  have e1 : dDictOf (.pt []) M = .ok (.loc M.length) (M ++ [.dn []]) := by
    simp [dDictOf, pairsD]
  have e2 := x_mod (M ++ [.dn []]) z (n : Int) (by omega)
  have hz0 := Int.emod_nonneg z (show (n : Int) ≠ 0 by omega)
  have hz1 := Int.emod_lt_of_pos z (show (0 : Int) < n by omega)
  obtain ⟨j, hj⟩ : ∃ j : Nat, z % (n : Int) = (j : Int) := ⟨(z % (n : Int)).toNat, by rw [Int.toNat_of_nonneg hz0]⟩
  rw [hj] at e2
  refine ⟨j, by omega, ?_⟩
  have hr : f_lane_of [.pt [], t, .int (n : Int)] M = (m_lane_of [some (.pt []), some t, some (.int (n : Int))] M).fin := x_run rfl rfl
  have e3 : eMN gGetN (eU dDictOf (eV 0)) (aCons (eV 1) (aCons (eB dMod (eC f_mix_of (aCons (eV 1) aNil)) (eV 2)) aNil)) [some (.pt []), some t, some (.int (n : Int))] M = .ok (.int (j : Int)) (M ++ [.dn []]) := by
    rw [x_eMN (l := M.length) (M1 := M ++ [.dn []]) (M2 := M ++ [.dn []]) (kvs := []) (as := [t, .int (j : Int)]) (by simp [e1]) (by simp) (by simp [hz, e2])]
    unfold gGetN
    simp [talk_kOk t h, atN]
  rw [hr]
  unfold m_lane_of
  simp [e3]
end Dt
namespace Dt
def wsD (ws : List Int) : D := .tup (ws.map D.int)
def joinD (e num parts later : Int) (ws : List Int) : D := .tup [.int e, .int num, .int parts, .int later, wsD ws]
def JoinOk (n : Nat) (d : D) : Prop := d = .non ∨ ∃ e num parts later ws, d = joinD e num parts later ws ∧ ws.length ≤ 8 * n
def pieceD (e : Int) (t : D) (num part parts : Int) (ws : List Int) (g : Int) : D := .tup [.int e, t, .int num, .int part, .int parts, wsD ws, .int g]
def PieceOk (d : D) : Prop := ∃ e t num part parts ws g, d = pieceD e t num part parts ws g ∧ t ∈ TALKS ∧ ws.length ≤ 8
def letterD (t : D) (num : Int) (ws : List Int) : D := .tup [t, .int num, wsD ws]
theorem JoinOk.mono {n m : Nat} {d : D} (h : JoinOk n d) (hm : n ≤ m) : JoinOk m d := by
  rcases h with h | ⟨e, num, parts, later, ws, h, hl⟩
  · exact .inl h
  · exact .inr ⟨e, num, parts, later, ws, h, by omega⟩
theorem x_mulS {δ : Env} {M : Mem} {a b : Nat} {k i : Int} (ha : δ[a]? = some (some (.int k))) (hb : δ[b]? = some (some (.int i))) (k0 : 0 ≤ k) (k1 : k < 100000) : eB dMul (eV a) (eV b) δ M = .ok (.int (k * i)) M := by
  have hm := x_mul M k i (by unfold mulOk; exact decide_eq_true (.inl (by omega)))
  rw [x_eB, x_eV, ha]
  simp only [Res.bind_ok]
  rw [x_eV, hb]
  simp only [Res.bind_ok]
  exact hm
theorem x_cat4 (M : Mem) (a b c d : D) (ds : List D) (h : ds.length ≤ 90000) : dAdd (.tup [a, b, c, d]) (.tup ds) M = .ok (.tup (a :: b :: c :: d :: ds)) M := if_pos (by show 4 + ds.length ≤ 100000; omega)
theorem p_sum_due (e : Int) (t : D) (num part parts : Int) (ws : List Int) (g : Int) (hl : ws.length ≤ 80000) (M : Mem) : ∃ z : Int, f_sum_due [pieceD e t num part parts ws g] M = .ok (.int z) M := by
  have hr : f_sum_due [pieceD e t num part parts ws g] M = (m_sum_due [some (pieceD e t num part parts ws g), none, none, none, none, none, none, none, none, none, none] M).fin := x_run rfl rfl
  have g1 : sAsg (gT [(gN 1), (gN 2), (gN 3), (gN 4), (gN 5), (gN 6), (gN 7)]) (eV 0) [some (pieceD e t num part parts ws g), none, none, none, none, none, none, none, none, none, none] M =
      .nx [some (pieceD e t num part parts ws g), some (.int e), some t, some (.int num), some (.int part), some (.int parts), some (wsD ws), some (.int g), none, none, none] M := by
    simp [pieceD]
  obtain ⟨rw_, hrw⟩ : ∃ r, r = [e, num, part, parts] ++ ws := ⟨_, rfl⟩
  have e1 : dAdd (.tup [.int e, .int num, .int part, .int parts]) (wsD ws) M = .ok (.tup (rw_.map D.int)) M := by
    rw [hrw, List.map_append]
    exact x_cat4 M _ _ _ _ _ (by rw [List.length_map]; omega)
  have g2 : sAsg (gN 8) (eB dAdd (eN dTup (aCons (eV 1) (aCons (eV 3) (aCons (eV 4) (aCons (eV 5) aNil))))) (eV 6)) [some (pieceD e t num part parts ws g), some (.int e), some t, some (.int num), some (.int part), some (.int parts), some (wsD ws), some (.int g), none, none, none] M =
      .nx [some (pieceD e t num part parts ws g), some (.int e), some t, some (.int num), some (.int part), some (.int parts), some (wsD ws), some (.int g), some (.tup (rw_.map D.int)), none, none] M := by
    simp [x_tup4, e1]
  have hrl : rw_.length = 4 + ws.length := by rw [hrw, List.length_append]; rfl
  obtain ⟨ys, y1, y2, y3⟩ := x_lLc_ex (it := iEnumD 1 (eV 8)) (g := gT [(gN 9), (gN 10)]) (t := tYes) (e := eB dMul (eV 9) (eV 10)) (vs := [10, 9])
    (δ := [some (pieceD e t num part parts ws g), some (.int e), some t, some (.int num), some (.int part), some (.int parts), some (wsD ws), some (.int g), some (.tup (rw_.map D.int)), none, none]) (M := M) (ds := enumD 1 (rw_.map D.int)) (P := fun d => ∃ i : Int, d = .int i)
    rfl (by unfold enumD; simp; omega) fun d hd => by
      obtain ⟨i, hi, rfl⟩ := List.mem_iff_getElem.mp hd
      obtain ⟨x, hx, ee⟩ := enumD_get (List.getElem?_eq_getElem hi)
      rw [ee]
      rw [List.getElem?_map] at hx
      obtain ⟨c, hcc, rfl⟩ := Option.map_eq_some_iff.mp hx
      have hi2 : i < rw_.length := (List.getElem?_eq_some_iff.mp hcc).1
      have hz := x_mulS (δ := wipeE [some (pieceD e t num part parts ws g), some (.int e), some t, some (.int num), some (.int part), some (.int parts), some (wsD ws), some (.int g), some (.tup (rw_.map D.int)), some (.int (1 + (i : Nat))), some (.int c)] []) (M := M) (a := 9) (b := 10) rfl rfl (k0 := show (0 : Int) ≤ 1 + (i : Nat) by omega) (by omega)
      exact ⟨_, by simp [wipeE], rfl, _, hz, _, rfl⟩
  obtain ⟨ns, hns⟩ := intsD_of y2
  have e3 : dSumL ys M = .ok (.int ns.sum) M := by unfold dSumL; rw [hns]
  have e4 := x_mod M ns.sum 10007 (by decide)
  refine ⟨ns.sum % 10007, ?_⟩
  rw [hr]
  unfold m_sum_due
  rw [x_seq g1, x_seq g2, x_sRet, x_eB, x_eL, y3, Res.bind_ok, e3, Res.bind_ok, x_eK, Res.bind_ok, e4]
  rfl
theorem p_right (e : Int) (t : D) (num part parts : Int) (ws : List Int) (g : Int) (hl : ws.length ≤ 80000) (M : Mem) : ∃ b : Bool, f_is_right [pieceD e t num part parts ws g] M = .ok (.bl b) M := by
  obtain ⟨z, hz⟩ := p_sum_due e t num part parts ws g hl M
  have e1 : dIx (pieceD e t num part parts ws g) (.int 6) M = .ok (.int g) M := by simp [pieceD]
  exact ⟨g == z, by simp [f_is_right, m_is_right, e1, hz]⟩
theorem p_going (e num parts later : Int) (ws : List Int) (M : Mem) : f_going_on [joinD e num parts later ws] M = .ok (if 0 < later then .int num else .non) M := by
  have e1 : dNotN (joinD e num parts later ws) .non M = .ok (.bl true) M := rfl
  have e2 : dIx (joinD e num parts later ws) (.int 3) M = .ok (.int later) M := by simp [joinD]
  have e3 : dIx (joinD e num parts later ws) (.int 1) M = .ok (.int num) M := by simp [joinD]
  by_cases h : 0 < later <;> simp [f_going_on, m_going_on, e1, e2, e3, h]
theorem p_goingN (M : Mem) : f_going_on [.non] M = .ok .non M := by
  have e1 : dNotN .non .non M = .ok (.bl false) M := rfl
  simp [f_going_on, m_going_on, e1]
theorem p_doesN (pc : D) (M : Mem) : f_does_go_on [.non, pc] M = .ok (.bl false) M := by
  have e := p_goingN M
  have e1 : dIsN .non .non M = .ok (.bl true) M := rfl
  simp [f_does_go_on, m_does_go_on, e, e1]
theorem eqT4 (a b c d x y z w : Int) (M : Mem) : ∃ q : Bool, dEq (.tup [.int a, .int b, .int c, .int d]) (.tup [.int x, .int y, .int z, .int w]) M = .ok (.bl q) M := ⟨_, if_pos ⟨rfl, rfl⟩⟩
theorem p_does (e num parts later : Int) (ws : List Int) (e2 : Int) (t : D) (num2 part parts2 : Int) (ws2 : List Int) (g : Int) (M : Mem) : ∃ b : Bool, f_does_go_on [joinD e num parts later ws, pieceD e2 t num2 part parts2 ws2 g] M = .ok (.bl b) M := by
  have h := p_going e num parts later ws M
  by_cases hl : 0 < later
  · rw [if_pos hl] at h
    obtain ⟨q, hq⟩ := eqT4 e2 num2 parts2 part e num parts later M
    have e1 : dIsN (.int num) .non M = .ok (.bl false) M := rfl
    refine ⟨q, ?_⟩
    have hr : f_does_go_on [joinD e num parts later ws, pieceD e2 t num2 part parts2 ws2 g] M = (m_does_go_on [some (joinD e num parts later ws), some (pieceD e2 t num2 part parts2 ws2 g), none, none, none, none, none] M).fin := x_run rfl rfl
    have g1 : sIf (tB (eB dIsN (eC f_going_on (aCons (eV 0) aNil)) (eK .non))) (sRet (eK (.bl false))) sNext [some (joinD e num parts later ws), some (pieceD e2 t num2 part parts2 ws2 g), none, none, none, none, none] M = .nx [some (joinD e num parts later ws), some (pieceD e2 t num2 part parts2 ws2 g), none, none, none, none, none] M := by
      simp [h, e1]
    have g2 : sAsg (gT [(gN 2), (gN 3), (gN 4), (gN 5), (gN 6)]) (eV 0) [some (joinD e num parts later ws), some (pieceD e2 t num2 part parts2 ws2 g), none, none, none, none, none] M = .nx [some (joinD e num parts later ws), some (pieceD e2 t num2 part parts2 ws2 g), some (.int e), some (.int num), some (.int parts), some (.int later), some (wsD ws)] M := by
      simp [joinD]
    rw [hr]
    unfold m_does_go_on
    rw [x_seq g1, x_seq g2]
    simp [pieceD, x_tup4, hq]
  · rw [if_neg hl] at h
    have e1 : dIsN .non .non M = .ok (.bl true) M := rfl
    exact ⟨false, by simp [f_does_go_on, m_does_go_on, h, e1]⟩
theorem cut2 (e num parts later : Int) (ws : List Int) (M : Mem) : dSl (joinD e num parts later ws) none (some 2) M = .ok (.tup [.int e, .int num]) M := by
  show Res.ok (D.tup (cutD _ none (some ((2 : Nat) : Int)))) M = _
  rw [cut_to]
  rfl
theorem gt2 (a b x y : Int) (M : Mem) : ∃ q : Bool, dGtT (.tup [.int a, .int b]) (.tup [.int x, .int y]) M = .ok (.bl q) M := ⟨_, rfl⟩
theorem lt2 (a b x y : Int) (M : Mem) : ∃ q : Bool, dLtT (.tup [.int a, .int b]) (.tup [.int x, .int y]) M = .ok (.bl q) M := ⟨_, rfl⟩
theorem p_begin {n : Nat} {jn : D} (hj : JoinOk n jn) (e2 : Int) (t : D) (num2 part parts2 : Int) (ws2 : List Int) (g : Int) (M : Mem) : ∃ b : Bool, f_does_begin [jn, pieceD e2 t num2 part parts2 ws2 g] M = .ok (.bl b) M := by
  by_cases hp : part = 0
  · rcases hj with rfl | ⟨e, num, parts, later, ws, rfl, _⟩
    · have e1 : dIsN .non .non M = .ok (.bl true) M := rfl
      exact ⟨true, by simp [f_does_begin, m_does_begin, pieceD, hp, e1]⟩
    · have e1 : dIsN (joinD e num parts later ws) .non M = .ok (.bl false) M := rfl
      obtain ⟨q, hq⟩ := gt2 e2 num2 e num M
      have e3 := cut2 e num parts later ws M
      exact ⟨q, by simp [f_does_begin, m_does_begin, pieceD, hp, e1, x_tup2, hq, e3]⟩
  · have hb : (part == 0) = false := by simpa using hp
    exact ⟨false, by simp [f_does_begin, m_does_begin, pieceD, hb]⟩
def CameOk (n : Nat) (t : D) (r : D) : Prop := ∃ jn w lost letter, r = .tup [jn, .str w, lost, letter] ∧ JoinOk (n + 1) jn ∧ (lost = .non ∨ ∃ i : Int, lost = .int i) ∧ (letter = .non ∨ ∃ num ws, letter = letterD t num ws ∧ ws.length ≤ 8 * (n + 1))
theorem p_with_part {n : Nat} (e : Int) (t : D) (num part parts : Int) (ws : List Int) (g : Int) (h8 : ws.length ≤ 8) (w0 : List Int) (hw : w0.length ≤ 8 * n) (hn : n ≤ 1000) {lost : D} (hlost : lost = .non ∨ ∃ i : Int, lost = .int i) (M : Mem) :
    ∃ r, CameOk n t r ∧ f_with_part [pieceD e t num part parts ws g, wsD w0, lost] M = .ok r M := by
  have hr : f_with_part [pieceD e t num part parts ws g, wsD w0, lost] M = (m_with_part [some (pieceD e t num part parts ws g), some (wsD w0), some lost, none, none, none, none, none, none, none] M).fin := x_run rfl rfl
  have g1 : sAsg (gT [(gN 3), (gN 4), (gN 5), (gN 6), (gN 7), (gN 8), (gN 9)]) (eV 0) [some (pieceD e t num part parts ws g), some (wsD w0), some lost, none, none, none, none, none, none, none] M =
      .nx [some (pieceD e t num part parts ws g), some (wsD w0), some lost, some (.int e), some t, some (.int num), some (.int part), some (.int parts), some (wsD ws), some (.int g)] M := by
    simp [pieceD]
  have e1 : dAddT (wsD w0) (wsD ws) M = .ok (wsD (w0 ++ ws)) M := by
    show (if (w0.map D.int).length + (ws.map D.int).length ≤ cap then _ else _) = _
    rw [if_pos (by rw [List.length_map, List.length_map]; unfold cap; omega), ← List.map_append]
    rfl
  have g2 : sAug 1 dAddT (eV 8) [some (pieceD e t num part parts ws g), some (wsD w0), some lost, some (.int e), some t, some (.int num), some (.int part), some (.int parts), some (wsD ws), some (.int g)] M =
      .nx [some (pieceD e t num part parts ws g), some (wsD (w0 ++ ws)), some lost, some (.int e), some t, some (.int num), some (.int part), some (.int parts), some (wsD ws), some (.int g)] M := by
    simp [sAug, e1]
  have hwl : (w0 ++ ws).length ≤ 8 * (n + 1) := by rw [List.length_append]; omega
  rw [hr]
  unfold m_with_part
  rw [x_seq g1, x_seq g2]
  by_cases hp : part + 1 = parts
  · refine ⟨.tup [joinD e num parts 0 [], .str "whole", lost, letterD t num (w0 ++ ws)], ⟨_, _, _, _, rfl, .inr ⟨_, _, _, _, _, rfl, by simp⟩, hlost, .inr ⟨_, _, rfl, hwl⟩⟩, ?_⟩
    simp [hp, x_tup0, x_tup5, x_tup3, x_tup4, joinD, letterD, wsD]
  · by_cases h0 : part = 0
    · refine ⟨.tup [joinD e num parts (part + 1) (w0 ++ ws), .str "begun", lost, .non], ⟨_, _, _, _, rfl, .inr ⟨_, _, _, _, _, rfl, hwl⟩, hlost, .inl rfl⟩, ?_⟩
      subst h0
      have hp : ¬ (1 : Int) = parts := by simpa using hp
      simp [hp, x_tup5, x_tup4, joinD]
    · refine ⟨.tup [joinD e num parts (part + 1) (w0 ++ ws), .str "on", lost, .non], ⟨_, _, _, _, rfl, .inr ⟨_, _, _, _, _, rfl, hwl⟩, hlost, .inl rfl⟩, ?_⟩
      simp [hp, h0, x_tup5, x_tup4, joinD]
theorem p_came {n : Nat} {jn : D} (hj : JoinOk n jn) (hn : n ≤ 1000) (e2 : Int) (t : D) (num2 part parts2 : Int) (ws2 : List Int) (g : Int) (h8 : ws2.length ≤ 8) (M : Mem) :
    ∃ r, CameOk n t r ∧ f_came_of [jn, pieceD e2 t num2 part parts2 ws2 g] M = .ok r M := by
  obtain ⟨b1, h1⟩ := p_right e2 t num2 part parts2 ws2 g (by omega) M
  have hr : f_came_of [jn, pieceD e2 t num2 part parts2 ws2 g] M = (m_came_of [some jn, some (pieceD e2 t num2 part parts2 ws2 g), none] M).fin := x_run rfl rfl
  rw [hr]
  unfold m_came_of
  cases b1 with
  | false =>
    refine ⟨.tup [jn, .str "sum", .non, .non], ⟨_, _, _, _, rfl, hj.mono (by omega), .inl rfl, .inl rfl⟩, ?_⟩
    simp [h1, x_tup4]
  | true =>
    have g1 : sIf (tNot (tB (eC f_is_right (aCons (eV 1) aNil)))) (sRet (eN dTup (aCons (eV 0) (aCons (eK (.str "sum")) (aCons (eK .non) (aCons (eK .non) aNil)))))) sNext [some jn, some (pieceD e2 t num2 part parts2 ws2 g), none] M = .nx [some jn, some (pieceD e2 t num2 part parts2 ws2 g), none] M := by
      simp [h1]
    rw [x_seq g1]
    obtain ⟨b3, h3⟩ := p_begin hj e2 t num2 part parts2 ws2 g M
    -- goes on?
    have main : (∃ b2 : Bool, f_does_go_on [jn, pieceD e2 t num2 part parts2 ws2 g] M = .ok (.bl b2) M ∧ (b2 = true → ∃ e num parts later ws, jn = joinD e num parts later ws ∧ ws.length ≤ 8 * n)) ∧ (∃ lost, (lost = .non ∨ ∃ i : Int, lost = .int i) ∧ f_going_on [jn] M = .ok lost M) ∧
        (∃ b4 : Bool, eAnd (eB dNotN (eV 0) (eK .non)) (eB dLtT (eN dTup (aCons (eB dIx (eV 1) (eK (.int 0))) (aCons (eB dIx (eV 1) (eK (.int 2))) aNil))) (eSl (eV 0) qN (qE (eK (.int 2))))) [some jn, some (pieceD e2 t num2 part parts2 ws2 g), none] M = .ok (.bl b4) M) := by
      rcases hj with rfl | ⟨e, num, parts, later, ws, rfl, hl⟩
      · refine ⟨⟨false, p_doesN _ M, fun z => by cases z⟩, ⟨.non, .inl rfl, p_goingN M⟩, ⟨false, ?_⟩⟩
        have e1 : dNotN .non .non M = .ok (.bl false) M := rfl
        simp [e1]
      · obtain ⟨b2, h2⟩ := p_does e num parts later ws e2 t num2 part parts2 ws2 g M
        refine ⟨⟨b2, h2, fun _ => ⟨e, num, parts, later, ws, rfl, hl⟩⟩, ⟨_, ?_, p_going e num parts later ws M⟩, ?_⟩
        · split
          · exact .inr ⟨_, rfl⟩
          · exact .inl rfl
        · obtain ⟨q, hq⟩ := lt2 e2 num2 e num M
          have e1 : dNotN (joinD e num parts later ws) .non M = .ok (.bl true) M := rfl
          have e3 := cut2 e num parts later ws M
          exact ⟨q, by simp [e1, pieceD, x_tup2, hq, e3]⟩
    obtain ⟨⟨b2, h2, h2'⟩, ⟨lost, hlost, hgo⟩, ⟨b4, h4⟩⟩ := main
    cases b2 with
    | true =>
      obtain ⟨e, num, parts, later, ws, rfl, hl⟩ := h2' rfl
      obtain ⟨r, hr1, hr2⟩ := p_with_part e2 t num2 part parts2 ws2 g h8 ws hl hn (lost := .non) (.inl rfl) M
      have e4 : dIx (joinD e num parts later ws) (.int 4) M = .ok (wsD ws) M := by simp [joinD]
      refine ⟨r, hr1, ?_⟩
      simp [h2, e4, hr2]
    | false =>
      have g2 : sIf (tB (eC f_does_go_on (aCons (eV 0) (aCons (eV 1) aNil)))) (sRet (eC f_with_part (aCons (eV 1) (aCons (eB dIx (eV 0) (eK (.int 4))) (aCons (eK .non) aNil))))) sNext [some jn, some (pieceD e2 t num2 part parts2 ws2 g), none] M = .nx [some jn, some (pieceD e2 t num2 part parts2 ws2 g), none] M := by
        simp [h2]
      rw [x_seq g2]
      cases b3 with
      | true =>
        obtain ⟨r, hr1, hr2⟩ := p_with_part (n := n) e2 t num2 part parts2 ws2 g h8 [] (by simp) hn hlost M
        have hr2 : f_with_part [pieceD e2 t num2 part parts2 ws2 g, .tup [], lost] M = .ok r M := hr2
        refine ⟨r, hr1, ?_⟩
        simp [h3, x_tup0, hgo, hr2]
      | false =>
        have g3 : sIf (tB (eC f_does_begin (aCons (eV 0) (aCons (eV 1) aNil)))) (sRet (eC f_with_part (aCons (eV 1) (aCons (eN dTup aNil) (aCons (eC f_going_on (aCons (eV 0) aNil)) aNil))))) sNext [some jn, some (pieceD e2 t num2 part parts2 ws2 g), none] M = .nx [some jn, some (pieceD e2 t num2 part parts2 ws2 g), none] M := by
          simp [h3]
        rw [x_seq g3]
        have g4 : sAsg (gN 2) (eAnd (eB dNotN (eV 0) (eK .non)) (eB dLtT (eN dTup (aCons (eB dIx (eV 1) (eK (.int 0))) (aCons (eB dIx (eV 1) (eK (.int 2))) aNil))) (eSl (eV 0) qN (qE (eK (.int 2)))))) [some jn, some (pieceD e2 t num2 part parts2 ws2 g), none] M = .nx [some jn, some (pieceD e2 t num2 part parts2 ws2 g), some (.bl b4)] M := by
          rw [x_sAsg, h4]
          rfl
        rw [x_seq g4]
        cases b4 with
        | true => exact ⟨.tup [jn, .str "elder", .non, .non], ⟨_, _, _, _, rfl, hj.mono (by omega), .inl rfl, .inl rfl⟩, by simp [x_tup4]⟩
        | false => exact ⟨.tup [jn, .str "cut", .non, .non], ⟨_, _, _, _, rfl, hj.mono (by omega), .inl rfl, .inl rfl⟩, by simp [x_tup4]⟩
end Dt
namespace Dt
open PySem
def prD (p : D × D) : D := .tup [p.1, p.2]
structure KvOk (n : Nat) (kvs : List (D × D)) : Prop where
  nd : (kvs.map fun p => nk p.1).Nodup
  le : kvs.length ≤ n
  mem : ∀ p ∈ kvs, p.1 ∈ TALKS ∧ JoinOk n p.2
def JsOk (n : Nat) (js : List D) : Prop := ∃ kvs, js = kvs.map prD ∧ KvOk n kvs
theorem pairsD_map : ∀ (kvs : List (D × D)), pairsD (kvs.map prD) = some kvs
  | [] => rfl
  | (a, b) :: r => by show (pairsD (r.map prD)).map ((a, b) :: ·) = _; rw [pairsD_map r]; rfl
theorem dict_of {n : Nat} {kvs : List (D × D)} (h : KvOk n kvs) (hn : n ≤ 1000) (M : Mem) : dDictOf (.pt (kvs.map prD)) M = .ok (.loc M.length) (M ++ [.dn kvs]) := by
  unfold dDictOf
  simp only [pairsD_map]
  rw [if_pos]
  refine ⟨List.all_eq_true.mpr fun p hp => talk_kOk _ (h.mem p hp).1, h.nd, ?_⟩
  have := h.le
  unfold cap
  omega
theorem atN_mem {kvs : List (D × D)} {k : NestedKey} {d : D} (h : atN kvs k = some d) : ∃ p ∈ kvs, p.2 = d := by
  unfold atN at h
  obtain ⟨p, h1, h2⟩ := Option.map_eq_some_iff.mp h
  exact ⟨p, List.mem_of_find?_eq_some h1, h2⟩
theorem p_by_talk {n : Nat} {kvs : List (D × D)} (h : KvOk n kvs) (hn : n ≤ 1000) {t : D} (ht : t ∈ TALKS) (M : Mem) : ∃ jn, JoinOk n jn ∧ f_by_talk [.pt (kvs.map prD), t, .non] M = .ok jn (M ++ [.dn kvs]) := by
  have e1 := dict_of h hn M
  refine ⟨(atN kvs (nk t)).getD .non, ?_, ?_⟩
  · cases q : atN kvs (nk t) with
    | none => exact .inl rfl
    | some d =>
      obtain ⟨p, hp, rfl⟩ := atN_mem q
      exact (h.mem p hp).2
  · have hr : f_by_talk [.pt (kvs.map prD), t, .non] M = (m_by_talk [some (.pt (kvs.map prD)), some t, some .non] M).fin := x_run rfl rfl
    have e3 : eMN gGetN (eU dDictOf (eV 0)) (aCons (eV 1) (aCons (eV 2) aNil)) [some (.pt (kvs.map prD)), some t, some .non] M = .ok ((atN kvs (nk t)).getD .non) (M ++ [.dn kvs]) := by
      rw [x_eMN (l := M.length) (M1 := M ++ [.dn kvs]) (M2 := M ++ [.dn kvs]) (kvs := kvs) (as := [t, .non]) (by simp [e1]) (by simp) (by simp)]
      unfold gGetN
      simp [talk_kOk t ht]
    rw [hr]
    unfold m_by_talk
    simp [e3]
theorem put_keys {kvs : List (D × D)} {t v : D} : (atN kvs (nk t)).isSome = true → (kvs.map (fun p => if nk p.1 = nk t then (p.1, v) else p)).map (fun p => nk p.1) = kvs.map fun p => nk p.1 := fun _ => by
  rw [List.map_map]
  refine List.map_congr_left fun p _ => ?_
  show nk (if nk p.1 = nk t then (p.1, v) else p).1 = nk p.1
  split <;> rfl
theorem KvOk.put {n : Nat} {kvs : List (D × D)} (h : KvOk n kvs) {t v : D} (ht : t ∈ TALKS) (hv : JoinOk (n + 1) v) : KvOk (n + 1) (putN kvs t v) := by
  unfold putN
  cases q : (atN kvs (nk t)).isSome with
  | true =>
    rw [if_pos rfl]
    refine ⟨by rw [put_keys q]; exact h.nd, by rw [List.length_map]; exact Nat.le_succ_of_le h.le, fun p hp => ?_⟩
    obtain ⟨p0, h1, rfl⟩ := List.mem_map.mp hp
    split
    · exact ⟨(h.mem p0 h1).1, hv⟩
    · exact ⟨(h.mem p0 h1).1, (h.mem p0 h1).2.mono (by omega)⟩
  | false =>
    rw [if_neg (by decide)]
    refine ⟨?_, by rw [List.length_append]; exact Nat.succ_le_succ h.le, fun p hp => ?_⟩
    · rw [List.map_append]
      refine List.nodup_append.mpr ⟨h.nd, by simp, fun a ha b hb => ?_⟩
      rw [List.map_cons, List.map_nil, List.mem_singleton] at hb
      subst hb
      intro z
      subst z
      obtain ⟨p, h1, h2⟩ := List.mem_map.mp ha
      have : (kvs.find? fun p => decide (nk p.1 = nk t)).isSome = true := List.find?_isSome.mpr ⟨p, h1, decide_eq_true h2⟩
      unfold atN at q
      rw [Option.isSome_map, this] at q
      cases q
    · rcases List.mem_append.mp hp with z | z
      · exact ⟨(h.mem p z).1, (h.mem p z).2.mono (by omega)⟩
      · rw [List.mem_singleton.mp z]; exact ⟨ht, hv⟩
theorem sort_ok {n : Nat} {kvs : List (D × D)} (h : KvOk n kvs) : sortOk kvs = true := by
  unfold sortOk
  rw [Bool.and_eq_true]
  refine ⟨List.all_eq_true.mpr fun p hp => List.all_eq_true.mpr fun q hq => talk_alike _ (h.mem p hp).1 _ (h.mem q hq).1, List.all_eq_true.mpr fun p hp => ?_⟩
  obtain ⟨x, r, e⟩ := talk_tup _ (h.mem p hp).1
  rw [e]
theorem KvOk.sorted {n : Nat} {kvs : List (D × D)} (h : KvOk n kvs) : JsOk n (sortD kvs) := by
  unfold sortD
  have hp := List.mergeSort_perm kvs (PySem.W.dataLe false fun p => py p.1)
  exact ⟨_, rfl, (hp.map _).nodup_iff.mpr h.nd, by rw [hp.length_eq]; exact h.le, fun p hm => h.mem p (hp.mem_iff.mp hm)⟩
theorem p_with_talk {n : Nat} {kvs : List (D × D)} (h : KvOk n kvs) (hn : n ≤ 1000) {t v : D} (ht : t ∈ TALKS) (hv : JoinOk (n + 1) v) (M : Mem) : ∃ js X, JsOk (n + 1) js ∧ f_with_talk [.pt (kvs.map prD), t, v] M = .ok (.pt js) (M ++ X) := by
  have e1 := dict_of h hn M
  have h2 := h.put ht hv
  refine ⟨sortD (putN kvs t v), [.dn (putN kvs t v)], h2.sorted, ?_⟩
  have hr : f_with_talk [.pt (kvs.map prD), t, v] M = (m_with_talk [some (.pt (kvs.map prD)), some t, some v, none] M).fin := x_run rfl rfl
  have g1 : sAsg (gN 3) (eU dDictOf (eV 0)) [some (.pt (kvs.map prD)), some t, some v, none] M = .nx [some (.pt (kvs.map prD)), some t, some v, some (.loc M.length)] (M ++ [.dn kvs]) := by
    simp [e1]
  have hc : kvs.length < cap := by have := h.le; unfold cap; omega
  have g2 : sPutN (eV 3) (eV 1) (eV 2) [some (.pt (kvs.map prD)), some t, some v, some (.loc M.length)] (M ++ [.dn kvs]) = .nx [some (.pt (kvs.map prD)), some t, some v, some (.loc M.length)] (M ++ [.dn (putN kvs t v)]) := by
    unfold sPutN
    simp [mPutN, talk_kOk t ht, hc]
  rw [hr]
  unfold m_with_talk
  rw [x_seq g1, x_seq g2]
  simp [lSortItems, sort_ok h2, dPtL]
def RIGHTS : D := .tup (List.replicate 8 (.str "ann"))
theorem p_owns_it (xs : List LS) (js : List D) (pu : D) (p a n : Nat) (M : Mem) : f_owns_it [valD xs js pu, RIGHTS, placeD p a n] M = .ok (.bl (decide (p < 8))) M := by
  have e0 : dLen [RIGHTS] M = .ok (.int 8) M := rfl
  have e1 : f_owns [RIGHTS, .str "ann", placeD p a n] M = .ok (.bl (decide (p < 8))) M := by
    by_cases hp : p < 8
    · have e2 : dIx RIGHTS (.int (p : Int)) M = .ok (.str "ann") M := by
        have : L2.atI (List.replicate 8 (D.str "ann")) (p : Int) = some (.str "ann") := atI_nat _ _ _ (by rw [List.getElem?_replicate, if_pos hp])
        unfold RIGHTS
        rw [x_ixT, this]
      have q : (p : Int) < 8 := by omega
      simp [f_owns, m_owns, placeD, e0, e2, q, hp]
    · have q : ¬ (p : Int) < 8 := by omega
      simp [f_owns, m_owns, placeD, e0, q, hp]
  have e3 : dIx HALF (.int 1) M = .ok (.str "ann") M := by simp [HALF]
  simp [f_owns_it, m_owns_it, x_val0, e3, e1]
theorem p_why (xs : List LS) (js : List D) (pu : D) (p a n : Nat) (ws : List Int) (M : Mem) : f_why_not [valD xs js pu, RIGHTS, placeD p a n, wsD ws] M = .ok (if p < 8 then (if n < ws.length then .str "short" else .non) else .str "fault") M := by
  have e1 := p_owns_it xs js pu p a n M
  have e2 : dIx (placeD p a n) (.int 2) M = .ok (.int (n : Int)) M := by simp [placeD]
  have e3 : dLen [wsD ws] M = .ok (.int ((ws.length : Nat) : Int)) M := by simp [wsD, dLen]
  by_cases hp : p < 8
  · by_cases hw : n < ws.length
    · have q : (n : Int) < (ws.length : Int) := by omega
      simp [f_why_not, m_why_not, e1, e2, e3, hp, hw]
    · have q : ¬ (n : Int) < (ws.length : Int) := by omega
      simp [f_why_not, m_why_not, e1, e2, e3, hp, hw]
  · simp [f_why_not, m_why_not, e1, hp]
theorem p_written {pages : List D} (ok : MemOk pages) {p a n : Nat} {ws : List Int} (hp : p < 8) (hw : ws.length ≤ n) (ha : n + a ≤ 8) (M : Mem) : ∃ pages2, MemOk pages2 ∧ f_written [.tup pages, placeD p a n, wsD ws] M = .ok (.tup pages2) M := by
  have hp2 : p < pages.length := by rw [ok.1]; exact hp
  obtain ⟨pg, hpg, hl⟩ := ok.2 pages[p] (List.getElem_mem hp2)
  have h : pages[p]? = some (.tup pg) := by rw [List.getElem?_eq_getElem hp2, hpg]
  have e1 := p_page (a := a) (n := n) (M := M) h
  obtain ⟨nw, hnw⟩ : ∃ nw, nw = pg.take a ++ ws.map D.int ++ pg.drop (a + ws.length) := ⟨_, rfl⟩
  have nl : nw.length = 8 := by rw [hnw]; simp; omega
  refine ⟨pages.set p (.tup nw), ⟨by rw [List.length_set]; exact ok.1, fun d hd => ?_⟩, ?_⟩
  · rcases List.mem_or_eq_of_mem_set hd with z | z
    · exact ok.2 d z
    · exact ⟨nw, z, nl⟩
  have hr : f_written [.tup pages, placeD p a n, wsD ws] M = (m_written [some (.tup pages), some (placeD p a n), some (wsD ws), none, none, none, none] M).fin := x_run rfl rfl
  have g1 : sAsg (gT [(gN 3), (gN 4), (gN 5)]) (eV 1) [some (.tup pages), some (placeD p a n), some (wsD ws), none, none, none, none] M = .nx [some (.tup pages), some (placeD p a n), some (wsD ws), some (.int (p : Int)), some (.int (a : Int)), some (.int (n : Int)), none] M := by
    simp [placeD]
  have g2 : sAsg (gN 6) (eC f_page_at (aCons (eV 0) (aCons (eV 1) aNil))) [some (.tup pages), some (placeD p a n), some (wsD ws), some (.int (p : Int)), some (.int (a : Int)), some (.int (n : Int)), none] M = .nx [some (.tup pages), some (placeD p a n), some (wsD ws), some (.int (p : Int)), some (.int (a : Int)), some (.int (n : Int)), some (.tup pg)] M := by
    simp [e1]
  have e3 : dLen [wsD ws] M = .ok (.int ((ws.length : Nat) : Int)) M := by simp [wsD, dLen]
  have q : ¬ (n : Int) < (ws.length : Int) := by omega
  have g3 : sIf (tB (eB dGt (eN dLen (aCons (eV 2) aNil)) (eV 5))) (sRaise "NoStep" ["word"] (aCons (eK (.str "many")) aNil)) sNext [some (.tup pages), some (placeD p a n), some (wsD ws), some (.int (p : Int)), some (.int (a : Int)), some (.int (n : Int)), some (.tup pg)] M = .nx [some (.tup pages), some (placeD p a n), some (wsD ws), some (.int (p : Int)), some (.int (a : Int)), some (.int (n : Int)), some (.tup pg)] M := by
    simp [e3, q]
  have c1 := cut_to pages p
  have c2 : cutD pages (some ((p : Int) + 1)) none = pages.drop (p + 1) := cut_from pages (p + 1)
  have c3 := cut_to pg a
  have c4 : cutD pg (some ((a : Int) + ((ws.length : Nat) : Int))) none = pg.drop (a + ws.length) := cut_from pg (a + ws.length)
  have a1 : dAdd (.tup (pg.take a)) (wsD ws) M = .ok (.tup (pg.take a ++ ws.map D.int)) M := if_pos (by simp; unfold cap; omega)
  have a2 : dAdd (.tup (pg.take a ++ ws.map D.int)) (.tup (pg.drop (a + ws.length))) M = .ok (.tup nw) M := by
    rw [hnw]
    exact if_pos (by simp; unfold cap; omega)
  have pl := ok.1
  have a3 : dAdd (.tup (pages.take p)) (.tup [.tup nw]) M = .ok (.tup (pages.take p ++ [.tup nw])) M := if_pos (by simp; unfold cap; omega)
  have a4 : dAdd (.tup (pages.take p ++ [.tup nw])) (.tup (pages.drop (p + 1))) M = .ok (.tup (pages.set p (.tup nw))) M := by
    show (if (pages.take p ++ [D.tup nw]).length + (pages.drop (p + 1)).length ≤ cap then _ else _) = _
    rw [if_pos (by simp; unfold cap; omega), List.set_eq_take_append_cons_drop, if_pos hp2, List.append_assoc]
    rfl
  rw [hr]
  unfold m_written
  rw [x_seq g1, x_seq g2, x_seq g3]
  simp [c1, c2, c3, c4, e3, a1, a2, a3, a4, dTup, cap]
def QuietE (d : D) : Prop := ∃ w r, d = .tup (.str w :: r) ∧ w ≠ "filled" ∧ w ≠ "unmasked" ∧ w ≠ "raised"
def filledD (j : Nat) (t : D) (num : Int) : D := .tup [.str "filled", HALF, .int (j : Int), t, .int num]
/-- what a turn by a letter did -/
structure InOk (c most wait : Int) (xs xs2 : List LS) (evs : List D) : Prop where
  ex : (∀ e ∈ evs, QuietE e) ∧ (xs2 = xs ∨ ∃ (j : Nat) (x : LS) (r2 : D), xs[j]? = some x ∧ RingOk r2 ∧ xs2 = xs.set j { x with inw := r2 }) ∨
    ∃ (j : Nat) (x : LS) (r2 e t : D) (num : Int) (qs : List D), xs[j]? = some x ∧ RingOk r2 ∧ BoxOk e ∧ (∀ e ∈ qs, QuietE e) ∧
      xs2 = xs.set j (tickL c most wait (boxL { x with inw := r2 } e c)) ∧ evs = qs ++ (filledD j t num :: tickE c most wait (boxL { x with inw := r2 } e c) j)
theorem lnOf_box {x : LS} {e : D} {c : Int} : lnOf (boxL x e c) = bef (lnOf x) "fill" c 0 := by
  unfold lnOf boxL bef
  rw [if_pos rfl]
  cases h : x.box with
  | nil => simp
  | cons b bs =>
    have q : ¬ ((bs.length : Int) + 1 = 0) := by omega
    simp [q]
theorem p_takes {n : Nat} {xs : List LS} {js : List D} {pu : D} {pages : List D} {c most wait num : Int} {t : D} {ws : List Int} (hl : xs.length ≤ 1000) (h0 : 0 < xs.length) (ht : t ∈ TALKS) (hw : ws.length ≤ 80000) (mok : MemOk pages)
    (hx : ∀ x ∈ xs, RingOk x.inw ∧ LnOk (lnOf x) ∧ (∀ d ∈ x.box, BoxOk d) ∧ x.box.length ≤ 1000) (M : Mem) :
    ∃ xs2 pages2 evs X, InOk c most wait xs xs2 evs ∧ evs.length ≤ 10 ∧ MemOk pages2 ∧ f_takes_whole [valD xs js pu, .tup pages, RIGHTS, letterD t num ws, .tup [.int c, .int most, .int wait]] M = .ok (.tup [valD xs2 js pu, .tup pages2, .tup evs]) (M ++ X) := by
  obtain ⟨j, hj, e1⟩ := p_lane_of ht h0 M
  obtain ⟨M1, hM1⟩ : ∃ M1, M1 = M ++ [MO.dn []] := ⟨_, rfl⟩
  rw [← hM1] at e1
  have hxj : xs[j]? = some xs[j] := List.getElem?_eq_getElem hj
  obtain ⟨x, hxx⟩ : ∃ x, x = xs[j] := ⟨_, rfl⟩
  rw [← hxx] at hxj
  obtain ⟨rok, lok, bok, bl⟩ := hx x (by rw [hxx]; exact List.getElem_mem hj)
  have hr : f_takes_whole [valD xs js pu, .tup pages, RIGHTS, letterD t num ws, .tup [.int c, .int most, .int wait]] M = (m_takes_whole [some (valD xs js pu), some (.tup pages), some RIGHTS, some (letterD t num ws), some (.tup [.int c, .int most, .int wait]), none, none, none, none, none, none, none, none, none, none, none, none, none, none] M).fin := x_run rfl rfl
  have g1 : sAsg (gT [(gN 5), (gN 6), (gN 7)]) (eV 4) [some (valD xs js pu), some (.tup pages), some RIGHTS, some (letterD t num ws), some (.tup [.int c, .int most, .int wait]), none, none, none, none, none, none, none, none, none, none, none, none, none, none] M =
      .nx [some (valD xs js pu), some (.tup pages), some RIGHTS, some (letterD t num ws), some (.tup [.int c, .int most, .int wait]), some (.int c), some (.int most), some (.int wait), none, none, none, none, none, none, none, none, none, none, none] M := by simp
  have g2 : sAsg (gT [(gN 8), (gN 9), (gN 10)]) (eV 3) [some (valD xs js pu), some (.tup pages), some RIGHTS, some (letterD t num ws), some (.tup [.int c, .int most, .int wait]), some (.int c), some (.int most), some (.int wait), none, none, none, none, none, none, none, none, none, none, none] M =
      .nx [some (valD xs js pu), some (.tup pages), some RIGHTS, some (letterD t num ws), some (.tup [.int c, .int most, .int wait]), some (.int c), some (.int most), some (.int wait), some t, some (.int num), some (wsD ws), none, none, none, none, none, none, none, none] M := by simp [letterD]
  have l6 : dIx (valD xs js pu) (.int 6) M = .ok (.pt []) M := by simp [valD]
  have ll : dLen [.tup (xs.map laneD)] M = .ok (.int ((xs.length : Nat) : Int)) M := by simp [dLen]
  have g3 : sPar [11, 12] (aCons (eB dIx (eV 0) (eK (.int 0))) (aCons (eCK f_lane_of 2 1 (aCons (eB dIx (eV 0) (eK (.int 6))) (aCons (eV 8) aNil)) (aCons (eN dLen (aCons (eB dIx (eV 0) (eK (.int 1))) aNil)) aNil)) aNil)) [some (valD xs js pu), some (.tup pages), some RIGHTS, some (letterD t num ws), some (.tup [.int c, .int most, .int wait]), some (.int c), some (.int most), some (.int wait), some t, some (.int num), some (wsD ws), none, none, none, none, none, none, none, none] M =
      .nx [some (valD xs js pu), some (.tup pages), some RIGHTS, some (letterD t num ws), some (.tup [.int c, .int most, .int wait]), some (.int c), some (.int most), some (.int wait), some t, some (.int num), some (wsD ws), some HALF, some (.int (j : Int)), none, none, none, none, none, none] M1 := by
    simp [x_val0, x_val1, l6, ll, e1]
  rw [hr]
  unfold m_takes_whole
  rw [x_seq g1, x_seq g2, x_seq g3]
  rcases p_oldest (js := js) (pu := pu) (M := M1) hxj hl rok with e2 | ⟨r2, d, hr2, ⟨p, a, m, rfl, hp9, ha8, hma⟩, e2⟩
  · have e3 : dIsN .non .non M1 = .ok (.bl true) M1 := rfl
    refine ⟨xs, pages, [.tup [.str "missed", HALF, t, .int num, .str "none"]], [MO.dn []], ⟨.inl ⟨fun e he => ?_, .inl rfl⟩⟩, by simp, mok, ?_⟩
    · rw [List.mem_singleton.mp he]
      exact ⟨"missed", _, rfl, by decide, by decide, by decide⟩
    · rw [← hM1]
      simp [e2, e3, x_tup1, x_tup3, x_tup5]
  · obtain ⟨x1, hx1⟩ : ∃ x1 : LS, x1 = { x with inw := r2 } := ⟨_, rfl⟩
    obtain ⟨V1, hV1⟩ : ∃ V1, V1 = valD (xs.set j x1) js pu := ⟨_, rfl⟩
    rw [← hx1, ← hV1] at e2
    have g4 : sAsg (gN 13) (eC f_oldest_posted (aCons (eV 0) (aCons (eV 12) aNil))) [some (valD xs js pu), some (.tup pages), some RIGHTS, some (letterD t num ws), some (.tup [.int c, .int most, .int wait]), some (.int c), some (.int most), some (.int wait), some t, some (.int num), some (wsD ws), some HALF, some (.int (j : Int)), none, none, none, none, none, none] M1 =
        .nx [some (valD xs js pu), some (.tup pages), some RIGHTS, some (letterD t num ws), some (.tup [.int c, .int most, .int wait]), some (.int c), some (.int most), some (.int wait), some t, some (.int num), some (wsD ws), some HALF, some (.int (j : Int)), some (.tup [V1, placeD p a m]), none, none, none, none, none] M1 := by
      simp [e2]
    have e3 : dIsN (.tup [V1, placeD p a m]) .non M1 = .ok (.bl false) M1 := rfl
    have g5 : sIf (tB (eB dIsN (eV 13) (eK .non))) (sRet (eN dTup (aCons (eV 0) (aCons (eV 1) (aCons (eN dTup (aCons (eN dTup (aCons (eK (.str "missed")) (aCons (eV 11) (aCons (eV 8) (aCons (eV 9) (aCons (eK (.str "none")) aNil)))))) aNil)) aNil))))) sNext [some (valD xs js pu), some (.tup pages), some RIGHTS, some (letterD t num ws), some (.tup [.int c, .int most, .int wait]), some (.int c), some (.int most), some (.int wait), some t, some (.int num), some (wsD ws), some HALF, some (.int (j : Int)), some (.tup [V1, placeD p a m]), none, none, none, none, none] M1 =
        .nx [some (valD xs js pu), some (.tup pages), some RIGHTS, some (letterD t num ws), some (.tup [.int c, .int most, .int wait]), some (.int c), some (.int most), some (.int wait), some t, some (.int num), some (wsD ws), some HALF, some (.int (j : Int)), some (.tup [V1, placeD p a m]), none, none, none, none, none] M1 := by
      simp [e3]
    have g6 : sAsg (gT [(gN 14), (gN 15)]) (eV 13) [some (valD xs js pu), some (.tup pages), some RIGHTS, some (letterD t num ws), some (.tup [.int c, .int most, .int wait]), some (.int c), some (.int most), some (.int wait), some t, some (.int num), some (wsD ws), some HALF, some (.int (j : Int)), some (.tup [V1, placeD p a m]), none, none, none, none, none] M1 =
        .nx [some (valD xs js pu), some (.tup pages), some RIGHTS, some (letterD t num ws), some (.tup [.int c, .int most, .int wait]), some (.int c), some (.int most), some (.int wait), some t, some (.int num), some (wsD ws), some HALF, some (.int (j : Int)), some (.tup [V1, placeD p a m]), some V1, some (placeD p a m), none, none, none] M1 := by
      simp
    rw [x_seq g4, x_seq g5, x_seq g6]
    have e4 := p_why xs js pu p a m ws M1
    obtain ⟨y, hy⟩ : ∃ y, y = (if p < 8 then (if m < ws.length then D.str "short" else .non) else .str "fault") := ⟨_, rfl⟩
    rw [← hy] at e4
    have g7 : sAsg (gN 16) (eC f_why_not (aCons (eV 0) (aCons (eV 2) (aCons (eV 15) (aCons (eV 10) aNil))))) [some (valD xs js pu), some (.tup pages), some RIGHTS, some (letterD t num ws), some (.tup [.int c, .int most, .int wait]), some (.int c), some (.int most), some (.int wait), some t, some (.int num), some (wsD ws), some HALF, some (.int (j : Int)), some (.tup [V1, placeD p a m]), some V1, some (placeD p a m), none, none, none] M1 =
        .nx [some (valD xs js pu), some (.tup pages), some RIGHTS, some (letterD t num ws), some (.tup [.int c, .int most, .int wait]), some (.int c), some (.int most), some (.int wait), some t, some (.int num), some (wsD ws), some HALF, some (.int (j : Int)), some (.tup [V1, placeD p a m]), some V1, some (placeD p a m), some y, none, none] M1 := by
      simp [e4]
    rw [x_seq g7]
    by_cases hgood : p < 8 ∧ ws.length ≤ m
    · have hy2 : y = .non := by rw [hy, if_pos hgood.1, if_neg (by omega)]
      subst hy2
      have e5 : dNotN .non .non M1 = .ok (.bl false) M1 := rfl
      obtain ⟨e, he⟩ : ∃ e, e = D.tup [t, .int num, placeD p a ws.length, .int c] := ⟨_, rfl⟩
      have heb : BoxOk e := ⟨t, num, p, a, ws.length, c, he, ht, hgood.1⟩
      obtain ⟨x2, hx2⟩ : ∃ x2, x2 = boxL x1 e c := ⟨_, rfl⟩
      have hxj1 : (xs.set j x1)[j]? = some x1 := List.getElem?_set_self hj
      have x1b : x1.box = x.box := by rw [hx1]
      have e6 := p_boxed (js := js) (pu := pu) (e := e) (c := c) (M := M1) hxj1 (by simpa using hl) (by rw [x1b]; exact bok) (by rw [x1b]; unfold cap; omega)
      rw [List.set_set, ← hx2, ← hV1] at e6
      have hxj2 : (xs.set j x2)[j]? = some x2 := List.getElem?_set_self hj
      have hln : lnOf x1 = lnOf x := by rw [hx1]; rfl
      have lok2 : LnOk (lnOf x2) := by
        rw [hx2, lnOf_box, hln]
        exact lok.bef_ (Int.le_refl _) fun z => absurd z (by decide)
      have e7 := p_look_lane (js := js) (pu := pu) (c := c) (most := most) (wait := wait) (M := M1) hxj2 (by simpa using hl) lok2
      rw [List.set_set] at e7
      obtain ⟨pages2, mok2, e8⟩ := p_written mok (a := a) hgood.1 hgood.2 (by omega) M1
      have e7' : f_look_at_lane [valD (xs.set j x2) js pu, .int (j : Int), .int c, .tup [.int most, .int wait]] M1 = .ok (.tup [valD (xs.set j (tickL c most wait x2)) js pu, .tup (tickE c most wait x2 j)]) M1 := by
        rw [e7]
        unfold tickL tickE
        split <;> rfl
      have lp : dIx (placeD p a m) (.int 0) M1 = .ok (.int (p : Int)) M1 := by simp [placeD]
      have lq : dIx (placeD p a m) (.int 1) M1 = .ok (.int (a : Int)) M1 := by simp [placeD]
      have lw : dLen [wsD ws] M1 = .ok (.int ((ws.length : Nat) : Int)) M1 := by simp [wsD, dLen]
      have g8 : sIf (tB (eB dNotN (eV 16) (eK .non))) (sRet (eN dTup (aCons (eV 14) (aCons (eV 1) (aCons (eN dTup (aCons (eN dTup (aCons (eK (.str "missed")) (aCons (eV 11) (aCons (eV 8) (aCons (eV 9) (aCons (eV 16) aNil)))))) (aCons (eN dTup (aCons (eK (.str "returned")) (aCons (eV 11) (aCons (eV 12) (aCons (eV 15) aNil))))) aNil))) aNil))))) sNext [some (valD xs js pu), some (.tup pages), some RIGHTS, some (letterD t num ws), some (.tup [.int c, .int most, .int wait]), some (.int c), some (.int most), some (.int wait), some t, some (.int num), some (wsD ws), some HALF, some (.int (j : Int)), some (.tup [V1, placeD p a m]), some V1, some (placeD p a m), some .non, none, none] M1 =
          .nx [some (valD xs js pu), some (.tup pages), some RIGHTS, some (letterD t num ws), some (.tup [.int c, .int most, .int wait]), some (.int c), some (.int most), some (.int wait), some t, some (.int num), some (wsD ws), some HALF, some (.int (j : Int)), some (.tup [V1, placeD p a m]), some V1, some (placeD p a m), some .non, none, none] M1 := by
        simp [e5]
      have g9 : sAsg (gN 17) (eN dTup (aCons (eB dIx (eV 15) (eK (.int 0))) (aCons (eB dIx (eV 15) (eK (.int 1))) (aCons (eN dLen (aCons (eV 10) aNil)) aNil)))) [some (valD xs js pu), some (.tup pages), some RIGHTS, some (letterD t num ws), some (.tup [.int c, .int most, .int wait]), some (.int c), some (.int most), some (.int wait), some t, some (.int num), some (wsD ws), some HALF, some (.int (j : Int)), some (.tup [V1, placeD p a m]), some V1, some (placeD p a m), some .non, none, none] M1 =
          .nx [some (valD xs js pu), some (.tup pages), some RIGHTS, some (letterD t num ws), some (.tup [.int c, .int most, .int wait]), some (.int c), some (.int most), some (.int wait), some t, some (.int num), some (wsD ws), some HALF, some (.int (j : Int)), some (.tup [V1, placeD p a m]), some V1, some (placeD p a m), some .non, some (placeD p a ws.length), none] M1 := by
        simp [lp, lq, lw, x_tup3]
        rfl
      have g10 : sAsg (gN 14) (eC f_boxed (aCons (eV 14) (aCons (eV 12) (aCons (eN dTup (aCons (eV 8) (aCons (eV 9) (aCons (eV 17) (aCons (eV 5) aNil))))) (aCons (eV 5) aNil))))) [some (valD xs js pu), some (.tup pages), some RIGHTS, some (letterD t num ws), some (.tup [.int c, .int most, .int wait]), some (.int c), some (.int most), some (.int wait), some t, some (.int num), some (wsD ws), some HALF, some (.int (j : Int)), some (.tup [V1, placeD p a m]), some V1, some (placeD p a m), some .non, some (placeD p a ws.length), none] M1 =
          .nx [some (valD xs js pu), some (.tup pages), some RIGHTS, some (letterD t num ws), some (.tup [.int c, .int most, .int wait]), some (.int c), some (.int most), some (.int wait), some t, some (.int num), some (wsD ws), some HALF, some (.int (j : Int)), some (.tup [V1, placeD p a m]), some (valD (xs.set j x2) js pu), some (placeD p a m), some .non, some (placeD p a ws.length), none] M1 := by
        simp [x_tup4, ← he, e6]
      have g11 : sAsg (gT [(gN 14), (gN 18)]) (eC f_look_at_lane (aCons (eV 14) (aCons (eV 12) (aCons (eV 5) (aCons (eN dTup (aCons (eV 6) (aCons (eV 7) aNil))) aNil))))) [some (valD xs js pu), some (.tup pages), some RIGHTS, some (letterD t num ws), some (.tup [.int c, .int most, .int wait]), some (.int c), some (.int most), some (.int wait), some t, some (.int num), some (wsD ws), some HALF, some (.int (j : Int)), some (.tup [V1, placeD p a m]), some (valD (xs.set j x2) js pu), some (placeD p a m), some .non, some (placeD p a ws.length), none] M1 =
          .nx [some (valD xs js pu), some (.tup pages), some RIGHTS, some (letterD t num ws), some (.tup [.int c, .int most, .int wait]), some (.int c), some (.int most), some (.int wait), some t, some (.int num), some (wsD ws), some HALF, some (.int (j : Int)), some (.tup [V1, placeD p a m]), some (valD (xs.set j (tickL c most wait x2)) js pu), some (placeD p a m), some .non, some (placeD p a ws.length), some (.tup (tickE c most wait x2 j))] M1 := by
        simp [x_tup2, e7']
      have tl : (tickE c most wait x2 j).length ≤ 1 := by unfold tickE; split <;> simp
      have e9 : dAdd (.tup [filledD j t num]) (.tup (tickE c most wait x2 j)) M1 = .ok (.tup (filledD j t num :: tickE c most wait x2 j)) M1 := if_pos (by simp; unfold cap; omega)
      refine ⟨xs.set j (tickL c most wait x2), pages2, filledD j t num :: tickE c most wait x2 j, [MO.dn []], ⟨.inr ⟨j, x, r2, e, t, num, [], hxj, hr2, heb, fun e he => absurd he List.not_mem_nil, by rw [hx2, hx1], by rw [hx2, hx1]; rfl⟩⟩, by simp; omega, mok2, ?_⟩
      rw [x_seq g8, x_seq g9, x_seq g10, x_seq g11, ← hM1]
      have e10 : dTup [.str "filled", HALF, .int (j : Int), t, .int num] M1 = .ok (filledD j t num) M1 := x_tup5 _ _ _ _ _ _
      simp [e8, e10, x_tup1, x_tup3, e9]
    · have hy2 : ∃ s, y = .str s := by
        rw [hy]
        by_cases hp : p < 8
        · rw [if_pos hp]
          by_cases hm : m < ws.length
          · rw [if_pos hm]; exact ⟨_, rfl⟩
          · exact absurd ⟨hp, by omega⟩ hgood
        · rw [if_neg hp]; exact ⟨_, rfl⟩
      obtain ⟨s, rfl⟩ := hy2
      have e5 : dNotN (.str s) .non M1 = .ok (.bl true) M1 := rfl
      refine ⟨xs.set j x1, pages, [.tup [.str "missed", HALF, t, .int num, .str s], .tup [.str "returned", HALF, .int (j : Int), placeD p a m]], [MO.dn []], ⟨.inl ⟨fun e he => ?_, .inr ⟨j, x, r2, hxj, hr2, by rw [hx1]⟩⟩⟩, by simp, mok, ?_⟩
      · rcases List.mem_cons.mp he with z | z
        · rw [z]; exact ⟨"missed", _, rfl, by decide, by decide, by decide⟩
        · rw [List.mem_singleton.mp z]; exact ⟨"returned", _, rfl, by decide, by decide, by decide⟩
      · rw [← hM1]
        simp [e5, x_tup2, x_tup3, x_tup4, x_tup5, hV1]
end Dt
namespace Dt
theorem InOk.pre {c most wait : Int} {xs xs2 : List LS} {evs qs : List D} (h : InOk c most wait xs xs2 evs) (hq : ∀ e ∈ qs, QuietE e) : InOk c most wait xs xs2 (qs ++ evs) := by
  rcases h.ex with ⟨h1, h2⟩ | ⟨j, x, r2, e, t, num, ps, a1, a2, a3, a4, a5, a6⟩
  · exact ⟨.inl ⟨fun e he => (List.mem_append.mp he).elim (hq e) (h1 e), h2⟩⟩
  · exact ⟨.inr ⟨j, x, r2, e, t, num, qs ++ ps, a1, a2, a3, fun e he => (List.mem_append.mp he).elim (hq e) (a4 e), a5, by rw [a6, List.append_assoc]⟩⟩
theorem p_comes {n : Nat} {xs : List LS} {js : List D} {pu pc : D} {pages : List D} {c most wait : Int} (hl : xs.length ≤ 1000) (h0 : 0 < xs.length) (hn : n ≤ 1000) (hjs : JsOk n js) (hpc : PieceOk pc) (mok : MemOk pages)
    (hx : ∀ x ∈ xs, RingOk x.inw ∧ LnOk (lnOf x) ∧ (∀ d ∈ x.box, BoxOk d) ∧ x.box.length ≤ 1000) (M : Mem) :
    ∃ xs2 js2 pages2 evs X, InOk c most wait xs xs2 evs ∧ evs.length ≤ 20 ∧ JsOk (n + 1) js2 ∧ MemOk pages2 ∧
      f_comes_in [valD xs js pu, .tup pages, RIGHTS, pc, .int c, .int most, .int wait] M = .ok (.tup [valD xs2 js2 pu, .tup pages2, .tup evs]) (M ++ X) := by
  obtain ⟨kvs, rfl, kok⟩ := hjs
  obtain ⟨e, t, num, part, parts, ws, g, rfl, ht, h8⟩ := hpc
  obtain ⟨jn, jok, e1⟩ := p_by_talk kok hn ht M
  obtain ⟨M1, hM1⟩ : ∃ M1, M1 = M ++ [MO.dn kvs] := ⟨_, rfl⟩
  rw [← hM1] at e1
  obtain ⟨r, ⟨jn2, w, lost, letter, rfl, jok2, hlost, hlet⟩, e2⟩ := p_came jok hn e t num part parts ws g h8 M1
  obtain ⟨js2, X2, jsok2, e3⟩ := p_with_talk kok hn ht jok2 M1
  obtain ⟨M2, hM2⟩ : ∃ M2, M2 = M1 ++ X2 := ⟨_, rfl⟩
  rw [← hM2] at e3
  obtain ⟨P, hP⟩ : ∃ P, P = pieceD e t num part parts ws g := ⟨_, rfl⟩
  obtain ⟨V, hV⟩ : ∃ V, V = valD xs (kvs.map prD) pu := ⟨_, rfl⟩
  obtain ⟨V2, hV2⟩ : ∃ V2, V2 = valD xs js2 pu := ⟨_, rfl⟩
  rw [← hP] at e2 ⊢
  have lp1 : ∀ M, dIx P (.int 1) M = .ok t M := fun M => by rw [hP]; simp [pieceD]
  have lv0 : ∀ M, dIx V (.int 0) M = .ok HALF M := fun M => by rw [hV]; exact x_val0 _ _ _ _
  have lv4 : ∀ M, dIx V (.int 4) M = .ok (.pt (kvs.map prD)) M := fun M => by rw [hV]; simp [valD]
  have et : ∀ M, f_turned_at [V, .int 4, .pt js2] M = .ok V2 M := fun M => by
    rw [hV, hV2]
    exact p_turned (i := 4) (by show 4 < 9; decide) (by show 9 ≤ 100000; decide)
  have hr : f_comes_in [valD xs (kvs.map prD) pu, .tup pages, RIGHTS, P, .int c, .int most, .int wait] M = (m_comes_in [some V, some (.tup pages), some RIGHTS, some P, some (.int c), some (.int most), some (.int wait), none, none, none, none, none, none, none, none, none] M).fin := by
    rw [← hV]
    exact x_run rfl rfl
  have g1 : sPar [7, 8] (aCons (eB dIx (eV 0) (eK (.int 0))) (aCons (eB dIx (eV 3) (eK (.int 1))) aNil)) [some V, some (.tup pages), some RIGHTS, some P, some (.int c), some (.int most), some (.int wait), none, none, none, none, none, none, none, none, none] M =
      .nx [some V, some (.tup pages), some RIGHTS, some P, some (.int c), some (.int most), some (.int wait), some HALF, some t, none, none, none, none, none, none, none] M := by
    simp [lv0, lp1]
  have g2 : sAsg (gT [(gN 9), (gN 10), (gN 11), (gN 12)]) (eC f_came_of (aCons (eC f_by_talk (aCons (eB dIx (eV 0) (eK (.int 4))) (aCons (eV 8) (aCons (eK .non) aNil)))) (aCons (eV 3) aNil))) [some V, some (.tup pages), some RIGHTS, some P, some (.int c), some (.int most), some (.int wait), some HALF, some t, none, none, none, none, none, none, none] M =
      .nx [some V, some (.tup pages), some RIGHTS, some P, some (.int c), some (.int most), some (.int wait), some HALF, some t, some jn2, some (.str w), some lost, some letter, none, none, none] M1 := by
    simp [lv4, e1, e2]
  have g3 : sPar [13, 14] (aCons (eC f_turned_at (aCons (eV 0) (aCons (eK (.int 4)) (aCons (eC f_with_talk (aCons (eB dIx (eV 0) (eK (.int 4))) (aCons (eV 8) (aCons (eV 9) aNil)))) aNil)))) (aCons (eN dTup aNil) aNil)) [some V, some (.tup pages), some RIGHTS, some P, some (.int c), some (.int most), some (.int wait), some HALF, some t, some jn2, some (.str w), some lost, some letter, none, none, none] M1 =
      .nx [some V, some (.tup pages), some RIGHTS, some P, some (.int c), some (.int most), some (.int wait), some HALF, some t, some jn2, some (.str w), some lost, some letter, some V2, some (.tup []), none] M2 := by
    simp [lv4, e3, et, x_tup0]
  -- the quiet events ahead
  obtain ⟨q1, hq1, q1l, g4⟩ : ∃ q1 : List D, (∀ e ∈ q1, QuietE e) ∧ q1.length ≤ 1 ∧ sIf (tB (eB (dIn false) (eV 10) (eN dTup (aCons (eK (.str "sum")) (aCons (eK (.str "elder")) (aCons (eK (.str "cut")) aNil)))))) (sAsg (gN 14) (eN dTup (aCons (eN dTup (aCons (eK (.str "dropped")) (aCons (eV 7) (aCons (eV 3) (aCons (eV 10) aNil))))) aNil))) sNext [some V, some (.tup pages), some RIGHTS, some P, some (.int c), some (.int most), some (.int wait), some HALF, some t, some jn2, some (.str w), some lost, some letter, some V2, some (.tup []), none] M2 =
      .nx [some V, some (.tup pages), some RIGHTS, some P, some (.int c), some (.int most), some (.int wait), some HALF, some t, some jn2, some (.str w), some lost, some letter, some V2, some (.tup q1), none] M2 := by
    have ei : dIn false (.str w) (.tup [.str "sum", .str "elder", .str "cut"]) M2 = .ok (.bl (["sum", "elder", "cut"].contains w)) M2 := rfl
    cases hc : ["sum", "elder", "cut"].contains w with
    | true =>
      rw [hc] at ei
      refine ⟨[.tup [.str "dropped", HALF, P, .str w]], fun e he => ?_, by simp, ?_⟩
      · rw [List.mem_singleton.mp he]; exact ⟨"dropped", _, rfl, by decide, by decide, by decide⟩
      · simp [x_tup3, ei, x_tup4, x_tup1]
    | false =>
      rw [hc] at ei
      exact ⟨[], fun e he => absurd he List.not_mem_nil, by simp, by simp [x_tup3, ei]⟩
  obtain ⟨q2, hq2, q2l, g5⟩ : ∃ q2 : List D, (∀ e ∈ q2, QuietE e) ∧ q2.length ≤ 2 ∧ sIf (tB (eB dNotN (eV 11) (eK .non))) (sAsg (gN 14) (eB dAdd (eV 14) (eN dTup (aCons (eN dTup (aCons (eK (.str "missed")) (aCons (eV 7) (aCons (eV 8) (aCons (eV 11) (aCons (eK (.str "cut")) aNil)))))) aNil)))) sNext [some V, some (.tup pages), some RIGHTS, some P, some (.int c), some (.int most), some (.int wait), some HALF, some t, some jn2, some (.str w), some lost, some letter, some V2, some (.tup q1), none] M2 =
      .nx [some V, some (.tup pages), some RIGHTS, some P, some (.int c), some (.int most), some (.int wait), some HALF, some t, some jn2, some (.str w), some lost, some letter, some V2, some (.tup q2), none] M2 := by
    rcases hlost with rfl | ⟨i, rfl⟩
    · have ei : dNotN .non .non M2 = .ok (.bl false) M2 := rfl
      exact ⟨q1, hq1, by omega, by simp [ei]⟩
    · have ei : dNotN (.int i) .non M2 = .ok (.bl true) M2 := rfl
      have ea : dAdd (.tup q1) (.tup [.tup [.str "missed", HALF, t, .int i, .str "cut"]]) M2 = .ok (.tup (q1 ++ [.tup [.str "missed", HALF, t, .int i, .str "cut"]])) M2 := if_pos (by simp; unfold cap; omega)
      refine ⟨q1 ++ [.tup [.str "missed", HALF, t, .int i, .str "cut"]], fun e he => ?_, by simp; omega, by simp [ei, x_tup5, x_tup1, ea]⟩
      rcases List.mem_append.mp he with z | z
      · exact hq1 e z
      · rw [List.mem_singleton.mp z]; exact ⟨"missed", _, rfl, by decide, by decide, by decide⟩
  rw [hr]
  unfold m_comes_in
  rw [x_seq g1, x_seq g2, x_seq g3, x_seq g4, x_seq g5]
  rcases hlet with rfl | ⟨num2, ws2, rfl, hw2⟩
  · have ei : dIsN .non .non M2 = .ok (.bl true) M2 := rfl
    refine ⟨xs, js2, pages, q2, [MO.dn kvs] ++ X2, ⟨.inl ⟨hq2, .inl rfl⟩⟩, by omega, jsok2, mok, ?_⟩
    rw [← List.append_assoc, ← hM1, ← hM2, ← hV2]
    simp [ei, x_tup3]
  · obtain ⟨xs2, pages2, evs, X3, iok, el, mok2, e6⟩ := p_takes (n := n) (js := js2) (pu := pu) (c := c) (most := most) (wait := wait) (num := num2) hl h0 ht (ws := ws2) (by omega) mok hx M2
    rw [← hV2] at e6
    have ei : dIsN (letterD t num2 ws2) .non M2 = .ok (.bl false) M2 := rfl
    have g6 : sIf (tB (eB dIsN (eV 12) (eK .non))) (sRet (eN dTup (aCons (eV 13) (aCons (eV 1) (aCons (eV 14) aNil))))) sNext [some V, some (.tup pages), some RIGHTS, some P, some (.int c), some (.int most), some (.int wait), some HALF, some t, some jn2, some (.str w), some lost, some (letterD t num2 ws2), some V2, some (.tup q2), none] M2 =
        .nx [some V, some (.tup pages), some RIGHTS, some P, some (.int c), some (.int most), some (.int wait), some HALF, some t, some jn2, some (.str w), some lost, some (letterD t num2 ws2), some V2, some (.tup q2), none] M2 := by
      simp [ei]
    obtain ⟨M3, hM3⟩ : ∃ M3, M3 = M2 ++ X3 := ⟨_, rfl⟩
    rw [← hM3] at e6
    have g7 : sAsg (gT [(gN 13), (gN 1), (gN 15)]) (eC f_takes_whole (aCons (eV 13) (aCons (eV 1) (aCons (eV 2) (aCons (eV 12) (aCons (eN dTup (aCons (eV 4) (aCons (eV 5) (aCons (eV 6) aNil)))) aNil)))))) [some V, some (.tup pages), some RIGHTS, some P, some (.int c), some (.int most), some (.int wait), some HALF, some t, some jn2, some (.str w), some lost, some (letterD t num2 ws2), some V2, some (.tup q2), none] M2 =
        .nx [some V, some (.tup pages2), some RIGHTS, some P, some (.int c), some (.int most), some (.int wait), some HALF, some t, some jn2, some (.str w), some lost, some (letterD t num2 ws2), some (valD xs2 js2 pu), some (.tup q2), some (.tup evs)] M3 := by
      simp [x_tup3, e6]
    have ea : dAdd (.tup q2) (.tup evs) M3 = .ok (.tup (q2 ++ evs)) M3 := if_pos (by unfold cap; omega)
    refine ⟨xs2, js2, pages2, q2 ++ evs, [MO.dn kvs] ++ X2 ++ X3, iok.pre hq2, by rw [List.length_append]; omega, jsok2, mok2, ?_⟩
    rw [x_seq g6, x_seq g7, ← List.append_assoc, ← List.append_assoc, ← hM1, ← hM2, ← hM3]
    simp [ea, x_tup3]
end Dt
namespace Dt
theorem get_put : ∀ (kvs : List (String × D)) (k k2 : String) (v : D), getS (putS kvs k v) k2 = if k = k2 then some v else getS kvs k2
  | [], k, k2, v => rfl
  | p :: r, k, k2, v => by
    unfold putS
    by_cases h : p.1 = k
    · rw [if_pos h]
      show (if k = k2 then some v else getS r k2) = _
      by_cases h2 : k = k2
      · rw [if_pos h2, if_pos h2]
      · rw [if_neg h2, if_neg h2]
        show _ = (if p.1 = k2 then some p.2 else getS r k2)
        rw [if_neg (by rw [h]; exact h2)]
    · rw [if_neg h]
      show (if p.1 = k2 then some p.2 else getS (putS r k v) k2) = _
      rw [get_put r k k2 v]
      by_cases h2 : p.1 = k2
      · rw [if_pos h2]
        by_cases h3 : k = k2
        · exact absurd (h2.trans h3.symm) h
        · rw [if_neg h3]
          show _ = (if p.1 = k2 then some p.2 else getS r k2)
          rw [if_pos h2]
      · rw [if_neg h2]
        by_cases h3 : k = k2
        · rw [if_pos h3, if_pos h3]
        · rw [if_neg h3, if_neg h3]
          show _ = (if p.1 = k2 then some p.2 else getS r k2)
          rw [if_neg h2]
theorem put_mem : ∀ (kvs : List (String × D)) (k : String) (v : D) (x : String), x ∈ (putS kvs k v).map (·.1) → x = k ∨ x ∈ kvs.map (·.1)
  | [], k, v, x, h => .inl (by simpa [putS] using h)
  | p :: r, k, v, x, h => by
    unfold putS at h
    split at h
    · rename_i hp
      rw [List.map_cons] at h
      rcases List.mem_cons.mp h with z | z
      · exact .inl z
      · exact .inr (List.mem_cons_of_mem _ z)
    · rw [List.map_cons] at h
      rcases List.mem_cons.mp h with z | z
      · rw [z]; exact .inr List.mem_cons_self
      · rcases put_mem r k v x z with q | q
        · exact .inl q
        · exact .inr (List.mem_cons_of_mem _ q)
theorem put_nd : ∀ (kvs : List (String × D)) (k : String) (v : D), (kvs.map (·.1)).Nodup → ((putS kvs k v).map (·.1)).Nodup
  | [], k, v, _ => by simp [putS]
  | p :: r, k, v, h => by
    unfold putS
    rw [List.map_cons, List.nodup_cons] at h
    split
    · rename_i hp
      rw [List.map_cons, List.nodup_cons]
      exact ⟨by rw [← hp]; exact h.1, h.2⟩
    · rename_i hp
      rw [List.map_cons, List.nodup_cons]
      refine ⟨fun z => ?_, put_nd r k v h.2⟩
      rcases put_mem r k v _ z with q | q
      · exact hp q
      · exact h.1 q
theorem put_len : ∀ (kvs : List (String × D)) (k : String) (v : D), (putS kvs k v).length ≤ kvs.length + 1
  | [], k, v => by simp [putS]
  | p :: r, k, v => by
    unfold putS
    split
    · simp
    · have := put_len r k v
      simp; omega
theorem put_len2 : ∀ (kvs : List (String × D)) (k : String) (v x : D), getS kvs k = some x → (putS kvs k v).length = kvs.length
  | [], k, v, x, h => by cases h
  | p :: r, k, v, x, h => by
    unfold putS
    split
    · simp
    · rename_i hp
      have h : (if p.1 = k then some p.2 else getS r k) = some x := h
      rw [if_neg hp] at h
      simp [put_len2 r k v x h]
/-- the world, by what matters -/
structure WS where
  xs : List LS
  js : List D
  pu : D
  pages : List D
  c : Int
  most : Int
  wait : Int
  era : Int
  lfar : Nat
  ln : Nat
  ll : Nat
  lla : Nat
structure WK (w : WS) (kvs : List (String × D)) : Prop where
  nd : (kvs.map (·.1)).Nodup
  len : kvs.length ≤ 100
  value : getS kvs "value" = some (valD w.xs w.js w.pu)
  memory : getS kvs "memory" = some (.tup w.pages)
  rights : getS kvs "rights" = some RIGHTS
  clock : getS kvs "clock" = some (.int w.c)
  most : getS kvs "most" = some (.int w.most)
  wait : getS kvs "wait" = some (.int w.wait)
  half : getS kvs "half" = some HALF
  era : getS kvs "era" = some (.int w.era)
  far : getS kvs "far" = some (.loc w.lfar)
  numbered : getS kvs "numbered" = some (.loc w.ln)
  letters : getS kvs "letters" = some (.loc w.ll)
  lanes : getS kvs "lanes" = some (.loc w.lla)
def WorldAt (M : Mem) (lw : Nat) (w : WS) : Prop := ∃ kvs, M[lw]? = some (.dk kvs) ∧ WK w kvs
/-- the data that stays well within its bounds for n turns -/
structure WInv (n : Nat) (w : WS) : Prop where
  h0 : 0 < w.xs.length
  hl : w.xs.length ≤ 2
  js : JsOk n w.js
  pu : w.pu ∈ PURS
  pg : MemOk w.pages
  c0 : 0 ≤ w.c
  x : ∀ x ∈ w.xs, RingOk x.inw ∧ LnOk (lnOf x) ∧ (∀ d ∈ x.box, BoxOk d) ∧ x.box.length ≤ n
inductive ActOk (tracks : Nat) : D → Prop
  | post (k : Nat) (s : D) (hk : k < tracks) (hs : StrOk s) : ActOk tracks (.tup [.str "post", .int (k : Int), s])
  | inn (pc : D) (h : PieceOk pc) : ActOk tracks (.tup [.str "in", pc])
  | poll (k b : Nat) (hk : k < tracks) (hb : b < 4) : ActOk tracks (.tup [.str "poll", .int (k : Int), .int (b : Int)])
  | unmask (k : Nat) (hk : k < tracks) : ActOk tracks (.tup [.str "unmask", .int (k : Int)])
  | tick : ActOk tracks (.tup [.str "tick"])
def tookE (e : D) : Prop := ∃ r, e = .tup (.str "took" :: r)
inductive Did (n : Nat) (w : WS) : D → WS → List D → Prop
  | post (k : Nat) (s : D) (x : LS) (r2 : D) (hx : w.xs[k]? = some x) (hr : RingOk r2) : Did n w (.tup [.str "post", .int (k : Int), s]) { w with xs := w.xs.set k { x with inw := r2 } } [.tup [.str "posted", HALF, .int (k : Int), s]]
  | postN (k : Nat) (s : D) : Did n w (.tup [.str "post", .int (k : Int), s]) w []
  | inn (pc : D) (xs2 : List LS) (js2 pages2 evs : List D) (h : InOk w.c w.most w.wait w.xs xs2 evs) (hj : JsOk (n + 1) js2) (hp : MemOk pages2) (hl : evs.length ≤ 20) : Did n w (.tup [.str "in", pc]) { w with xs := xs2, js := js2, pages := pages2 } evs
  | poll (k b : Nat) (x : LS) (evs : List D) (hx : w.xs[k]? = some x) (hl : evs.length = (x.box.take b).length) (ht : ∀ e ∈ evs, tookE e) : Did n w (.tup [.str "poll", .int (k : Int), .int (b : Int)]) { w with xs := w.xs.set k (polledL x b) } evs
  | unmask (k : Nat) (x : LS) (hx : w.xs[k]? = some x) : Did n w (.tup [.str "unmask", .int (k : Int)]) { w with xs := w.xs.set k (tickL w.c w.most w.wait (unmaskL x w.c)) } (unmD k :: tickE w.c w.most w.wait (unmaskL x w.c) k)
  | tick (q : D) (hq : q ∈ PURS) : Did n w (.tup [.str "tick"]) { w with xs := w.xs.map (tickL (w.c + 1) w.most w.wait), pu := q, c := w.c + 1 } (tickEs (w.c + 1) w.most w.wait w.xs 0)
theorem unm_ok {x : LS} {c : Int} (h : LnOk (lnOf x)) : lnOf (unmaskL x c) = bef (lnOf x) "unmask" c 0 := by
  cases hm : x.m with
  | false =>
    have e : unmaskL x c = x := by unfold unmaskL; rw [if_neg (by rw [hm]; decide)]
    rw [e]
    simp [bef, lnOf, hm]
  | true =>
    have e : unmaskL x c = { x with s := if x.box = [] then none else some c, m := false } := by unfold unmaskL; rw [if_pos hm]
    rw [e]
    cases hb : x.box with
    | nil => simp [bef, lnOf, hm, hb]
    | cons b bs =>
      have q : (0 : Int) < (bs.length : Int) + 1 := by omega
      simp [bef, lnOf, hm, hb, q]
theorem lnOk_unm {x : LS} {c : Int} (h : LnOk (lnOf x)) : LnOk (lnOf (unmaskL x c)) := by
  rw [unm_ok h]
  exact h.bef_ (Int.le_refl _) fun z => absurd z (by decide)
/-- the program's answer to an act -/
def said (w : WS) (evs : List D) : D := .tup [valD w.xs w.js w.pu, .tup w.pages, .tup evs]
theorem p_program {M : Mem} {lw n : Nat} {w : WS} {act : D} (hw : WorldAt M lw w) (iv : WInv n w) (hn : n ≤ 500) (ha : ActOk w.xs.length act) : ∃ w2 evs X, Did n w act w2 evs ∧
    (f__law_program [.loc lw, act] M = .ok (said w2 evs) (M ++ X) ∨ (f__law_program [.loc lw, act] M = .ex (exNS "full") M ∧ X = [] ∧ w2 = w ∧ evs = [])) := by
  obtain ⟨kvs, hM, K⟩ := hw
  have d1 := x_getS hM K.value
  have d2 := x_getS hM K.memory
  have d3 := x_getS hM K.rights
  have d4 := x_getS hM K.clock
  have d5 := x_getS hM K.most
  have d6 := x_getS hM K.wait
  obtain ⟨V, hV⟩ : ∃ V, V = valD w.xs w.js w.pu := ⟨_, rfl⟩
  rw [← hV] at d1
  have dv : f__law_value [.loc lw] M = .ok V M := by simp [f__law_value, m__law_value, d1]
  have hr : f__law_program [.loc lw, act] M = (m__law_program [some (.loc lw), some act, none, none, none, none, none, none] M).fin := x_run rfl rfl
  have gen : ∀ (v : String) (r : List D), act = .tup (.str v :: r) → m__law_program [some (.loc lw), some act, none, none, none, none, none, none] M =
      (sSeq (sIf (tB (eB dEq (eV 4) (eK (.str "post")))) (sRet (eC f_posts (aCons (eV 2) (aCons (eV 3) (aCons (eB dIx (eV 1) (eK (.int 1))) (aCons (eB dIx (eV 1) (eK (.int 2))) aNil)))))) sNext)
  (sSeq (sIf (tB (eB dEq (eV 4) (eK (.str "in")))) (sRet (eCK f_comes_in 4 3 (aCons (eV 2) (aCons (eV 3) (aCons (eU (dGetS "rights") (eV 0)) (aCons (eB dIx (eV 1) (eK (.int 1))) aNil)))) (aCons (eV 7) (aCons (eV 5) (aCons (eV 6) aNil))))) sNext)
  (sSeq (sIf (tB (eB dEq (eV 4) (eK (.str "poll")))) (sRet (eC f_polled (aCons (eV 2) (aCons (eV 3) (aCons (eB dIx (eV 1) (eK (.int 1))) (aCons (eB dIx (eV 1) (eK (.int 2))) aNil)))))) sNext)
  (sSeq (sIf (tB (eB dEq (eV 4) (eK (.str "unmask")))) (sRet (eCK f_unmasked 3 3 (aCons (eV 2) (aCons (eV 3) (aCons (eB dIx (eV 1) (eK (.int 1))) aNil))) (aCons (eV 7) (aCons (eV 5) (aCons (eV 6) aNil))))) sNext)
  (sRet (eCK f_ticked 2 3 (aCons (eV 2) (aCons (eV 3) aNil)) (aCons (eB dAdd (eV 7) (eK (.int 1))) (aCons (eV 5) (aCons (eV 6) aNil))))))))) [some (.loc lw), some act, some V, some (.tup w.pages), some (.str v), some (.int w.most), some (.int w.wait), some (.int w.c)] M := by
    intro v r e
    have la : dIx act (.int 0) M = .ok (.str v) M := by rw [e]; simp
    unfold m__law_program
    rw [x_seq (δ2 := [some (.loc lw), some act, some V, some (.tup w.pages), some (.str v), none, none, none]) (M2 := M) (by simp [dv, d2, la]),
      x_seq (δ2 := [some (.loc lw), some act, some V, some (.tup w.pages), some (.str v), some (.int w.most), some (.int w.wait), some (.int w.c)]) (M2 := M) (by simp [d4, d5, d6])]
  have hl1000 : w.xs.length ≤ 1000 := by have := iv.hl; omega
  cases ha with
  | post k s hk hs =>
    have hxk : w.xs[k]? = some w.xs[k] := List.getElem?_eq_getElem hk
    obtain ⟨rok, _⟩ := iv.x w.xs[k] (List.getElem_mem hk)
    rcases p_posts (js := w.js) (pu := w.pu) (mem := .tup w.pages) (M := M) hxk hl1000 rok hs with ⟨r2, hr2, e⟩ | e
    · rw [← hV] at e
      refine ⟨_, _, [], .post k s w.xs[k] r2 hxk hr2, .inl ?_⟩
      rw [hr, gen _ _ rfl, List.append_nil]
      simp [e, said]
    · rw [← hV] at e
      refine ⟨w, [], [], .postN k s, .inr ⟨?_, rfl, rfl, rfl⟩⟩
      rw [hr, gen _ _ rfl]
      simp [e]
  | inn pc hpc =>
    obtain ⟨xs2, js2, pages2, evs, X, io, el, jo, mo, e⟩ := p_comes (pu := w.pu) (c := w.c) (most := w.most) (wait := w.wait) hl1000 iv.h0 (by omega) iv.js hpc iv.pg (fun x hx => by
      obtain ⟨a, b, c, d⟩ := iv.x x hx
      exact ⟨a, b, c, by omega⟩) M
    rw [← hV] at e
    refine ⟨_, _, X, .inn pc xs2 js2 pages2 evs io jo mo el, .inl ?_⟩
    rw [hr, gen _ _ rfl]
    simp [d3, e, said]
  | poll k b hk hb =>
    have hxk : w.xs[k]? = some w.xs[k] := List.getElem?_eq_getElem hk
    obtain ⟨rok, lok, bok, bl⟩ := iv.x w.xs[k] (List.getElem_mem hk)
    obtain ⟨evs, v1, v2, e⟩ := p_polled (js := w.js) (pu := w.pu) (k := b) (M := M) hxk hl1000 bok (by unfold cap; omega) iv.pg
    rw [← hV] at e
    refine ⟨_, _, [], .poll k b w.xs[k] evs hxk v1 v2, .inl ?_⟩
    rw [hr, gen _ _ rfl, List.append_nil]
    simp [e, said]
  | unmask k hk =>
    have hxk : w.xs[k]? = some w.xs[k] := List.getElem?_eq_getElem hk
    obtain ⟨rok, lok, bok, bl⟩ := iv.x w.xs[k] (List.getElem_mem hk)
    have e := p_unmasked (js := w.js) (pu := w.pu) (mem := .tup w.pages) (c := w.c) (most := w.most) (wait := w.wait) (M := M) hxk hl1000 bok (lnOk_unm lok)
    rw [← hV] at e
    refine ⟨_, _, [], .unmask k w.xs[k] hxk, .inl ?_⟩
    rw [hr, gen _ _ rfl, List.append_nil]
    have e' : f_unmasked [V, .tup w.pages, .int (k : Int), .int w.c, .int w.most, .int w.wait] M = .ok (said { w with xs := w.xs.set k (tickL w.c w.most w.wait (unmaskL w.xs[k] w.c)) } (unmD k :: tickE w.c w.most w.wait (unmaskL w.xs[k] w.c) k)) M := by
      rw [e]
      unfold tickL tickE said
      split <;> rfl
    simp [e']
  | tick =>
    obtain ⟨q, hq, e⟩ := p_ticked (js := w.js) (mem := .tup w.pages) (c := w.c + 1) (most := w.most) (wait := w.wait) (M := M) (xs := w.xs) (by have := iv.hl; omega) (fun x hx => (iv.x x hx).2.1) iv.pu
    rw [← hV] at e
    refine ⟨_, _, [], .tick q hq, .inl ?_⟩
    rw [hr, gen _ _ rfl, List.append_nil]
    simp [e, said]
end Dt
namespace Dt
theorem mput {k : String} {l : Nat} {M : Mem} {kvs : List (String × D)} {y : D} (h : M[l]? = some (.dk kvs)) (nd : (kvs.map (·.1)).Nodup) (hl : kvs.length < cap) : mPutS k y (.loc l) M = some (M.set l (.dk (putS kvs k y))) := by
  unfold mPutS
  simp only [h]
  exact if_pos ⟨nd, hl⟩
theorem x_putS2 {k1 k2 : String} {o v : E} {δ : Env} {l : Nat} {M : Mem} {kvs : List (String × D)} {y1 y2 : D} (hv : v δ M = .ok (.tup [y1, y2]) M) (ho : ∀ M, o δ M = .ok (.loc l) M) (h : M[l]? = some (.dk kvs)) (nd : (kvs.map (·.1)).Nodup) (hl : kvs.length + 1 < cap) :
    sPutS2 o k1 o k2 v δ M = .nx δ (M.set l (.dk (putS (putS kvs k1 y1) k2 y2))) := by
  unfold sPutS2
  rw [hv]
  simp only [Res.st_ok, ho, mput h nd (Nat.lt_of_succ_lt hl)]
  have h2 : (M.set l (.dk (putS kvs k1 y1)))[l]? = some (.dk (putS kvs k1 y1)) := set_at h
  have := put_len kvs k1 y1
  simp only [mput h2 (put_nd _ _ _ nd) (by omega), List.set_set]
structure SameW (w w2 : WS) : Prop where
  most : w2.most = w.most
  wait : w2.wait = w.wait
  era : w2.era = w.era
  lfar : w2.lfar = w.lfar
  ln : w2.ln = w.ln
  ll : w2.ll = w.ll
  lla : w2.lla = w.lla
  len : w2.xs.length = w.xs.length
def isTick (act : D) : Bool := match act with
  | .tup (.str v :: _) => v == "tick"
  | _ => false
theorem InOk.len {c most wait : Int} {xs xs2 : List LS} {evs : List D} (h : InOk c most wait xs xs2 evs) : xs2.length = xs.length := by
  rcases h.ex with ⟨_, h | ⟨j, x, r2, _, _, h⟩⟩ | ⟨j, x, r2, e, t, num, qs, _, _, _, _, h, _⟩
  · rw [h]
  · rw [h, List.length_set]
  · rw [h, List.length_set]
theorem Did.same {n : Nat} {w w2 : WS} {act : D} {evs : List D} (h : Did n w act w2 evs) : SameW w w2 ∧ w2.c = w.c + (if isTick act = true then 1 else 0) ∧ ∃ v r, act = .tup (.str v :: r) ∧ v ≠ "put" ∧ isTick act = (v == "tick") := by
  cases h with
  | post k s x r2 hx hr => exact ⟨⟨rfl, rfl, rfl, rfl, rfl, rfl, rfl, List.length_set⟩, (Int.add_zero _).symm, _, _, rfl, by decide, rfl⟩
  | postN k s => exact ⟨⟨rfl, rfl, rfl, rfl, rfl, rfl, rfl, rfl⟩, (Int.add_zero _).symm, _, _, rfl, by decide, rfl⟩
  | inn pc xs2 js2 pages2 _ h hj hp hl => exact ⟨⟨rfl, rfl, rfl, rfl, rfl, rfl, rfl, h.len⟩, (Int.add_zero _).symm, _, _, rfl, by decide, rfl⟩
  | poll k b x _ hx hl ht => exact ⟨⟨rfl, rfl, rfl, rfl, rfl, rfl, rfl, List.length_set⟩, (Int.add_zero _).symm, _, _, rfl, by decide, rfl⟩
  | unmask k x hx => exact ⟨⟨rfl, rfl, rfl, rfl, rfl, rfl, rfl, List.length_set⟩, (Int.add_zero _).symm, _, _, rfl, by decide, rfl⟩
  | tick q hq => exact ⟨⟨rfl, rfl, rfl, rfl, rfl, rfl, rfl, List.length_map _⟩, rfl, _, _, rfl, by decide, rfl⟩
/-- all but the place lw stands as it was -/
def But (lw : Nat) (M M2 : Mem) : Prop := ∀ l, l < M.length → l ≠ lw → M2[l]? = M[l]?
theorem p_done {M : Mem} {lw n : Nat} {w : WS} {act : D} (hw : WorldAt M lw w) (iv : WInv n w) (hn : n ≤ 500) (ha : ActOk w.xs.length act) : ∃ w2 evs M2, Did n w act w2 evs ∧ f__law_done [.loc lw, act] M = .ok (.tup evs) M2 ∧ WorldAt M2 lw w2 ∧ But lw M M2 := by
  obtain ⟨w2, evs, X, did, hp⟩ := p_program hw iv hn ha
  obtain ⟨kvs, hM, K⟩ := id hw
  have hlt := (List.getElem?_eq_some_iff.mp hM).1
  have hr : f__law_done [.loc lw, act] M = (m__law_done [some (.loc lw), some act, none] M).fin := x_run rfl rfl
  rcases hp with e | ⟨e, rfl, rfl, rfl⟩
  · obtain ⟨sw, hc, v, r, hact, hput, hti⟩ := did.same
    obtain ⟨M1, hM1⟩ : ∃ M1, M1 = M ++ X := ⟨_, rfl⟩
    rw [← hM1] at e
    have h1 : M1[lw]? = some (.dk kvs) := by rw [hM1, List.getElem?_append_left hlt]; exact hM
    obtain ⟨S, hS⟩ : ∃ S, S = said w2 evs := ⟨_, rfl⟩
    rw [← hS] at e
    have g1 : sAsg (gN 2) (eSaid (eC f__law_program (aCons (eV 0) (aCons (eV 1) aNil)))) [some (.loc lw), some act, none] M = .nx [some (.loc lw), some act, some (.tup [.str "told", S])] M1 := by
      have : eSaid (eC f__law_program (aCons (eV 0) (aCons (eV 1) aNil))) [some (.loc lw), some act, none] M = .ok (.tup [.str "told", S]) M1 := by
        unfold eSaid
        rw [show eC f__law_program (aCons (eV 0) (aCons (eV 1) aNil)) [some (.loc lw), some act, none] M = .ok S M1 by simp [e]]
        rfl
      simp [this]
    have g2 : sIf (tB (eB dNe (eB dIx (eV 2) (eK (.int 0))) (eK (.str "told")))) (sRet (eN dTup aNil)) sNext [some (.loc lw), some act, some (.tup [.str "told", S])] M1 = .nx [some (.loc lw), some act, some (.tup [.str "told", S])] M1 := by simp
    obtain ⟨k2, hk2⟩ : ∃ k2, k2 = putS (putS kvs "value" (valD w2.xs w2.js w2.pu)) "memory" (.tup w2.pages) := ⟨_, rfl⟩
    obtain ⟨M2, hM2⟩ : ∃ M2, M2 = M1.set lw (.dk k2) := ⟨_, rfl⟩
    have g3 : sPutS2 (eV 0) "value" (eV 0) "memory" (eSl (eB dIx (eV 2) (eK (.int 1))) qN (qE (eK (.int 2)))) [some (.loc lw), some act, some (.tup [.str "told", S])] M1 = .nx [some (.loc lw), some act, some (.tup [.str "told", S])] M2 := by
      have hs : dSl S none (some 2) M1 = .ok (.tup [valD w2.xs w2.js w2.pu, .tup w2.pages]) M1 := by
        rw [hS]
        show Res.ok (D.tup (cutD _ none (some ((2 : Nat) : Int)))) M1 = _
        rw [cut_to]
        rfl
      rw [x_putS2 (l := lw) (kvs := kvs) (y1 := valD w2.xs w2.js w2.pu) (y2 := .tup w2.pages) (by simp [hs]) (fun M => by simp) h1 K.nd (by have := K.len; unfold cap; omega), hM2, hk2]
    have h2 : M2[lw]? = some (.dk k2) := by rw [hM2]; exact set_at h1
    have nd2 : (k2.map (·.1)).Nodup := by rw [hk2]; exact put_nd _ _ _ (put_nd _ _ _ K.nd)
    have len2 : k2.length = kvs.length := by
      rw [hk2, put_len2 _ _ _ (.tup w.pages) (by rw [get_put, if_neg (by decide)]; exact K.memory), put_len2 _ _ _ _ K.value]
    have ck : getS k2 "clock" = some (.int w.c) := by rw [hk2, get_put, if_neg (by decide), get_put, if_neg (by decide)]; exact K.clock
    have e4 := x_getS h2 ck
    obtain ⟨k3, hk3⟩ : ∃ k3, k3 = putS k2 "clock" (.int w2.c) := ⟨_, rfl⟩
    obtain ⟨M3, hM3⟩ : ∃ M3, M3 = M2.set lw (.dk k3) := ⟨_, rfl⟩
    have la : ∀ M, dIx act (.int 0) M = .ok (.str v) M := fun M => by rw [hact]; simp
    have g4 : sPutS (eV 0) "clock" (eB dAdd (eU (dGetS "clock") (eV 0)) (eN dInt1 (aCons (eB dEq (eB dIx (eV 1) (eK (.int 0))) (eK (.str "tick"))) aNil))) [some (.loc lw), some act, some (.tup [.str "told", S])] M2 = .nx [some (.loc lw), some act, some (.tup [.str "told", S])] M3 := by
      rw [x_putS (l := lw) (y := .int w2.c) (M1 := M2) (M2 := M2) (kvs := k2) ?_ (by simp) h2 nd2 (by have := K.len; unfold cap; omega), hM3, hk3]
      rw [hc, hti]
      by_cases hv : v = "tick"
      · simp [e4, la, hv, dInt1]
      · simp [e4, la, hv, dInt1]
    have g5 : sIf (tB (eB dEq (eB dIx (eV 1) (eK (.int 0))) (eK (.str "put")))) (sPutS (eV 0) "aside" (eB dIx (eB dIx (eV 2) (eK (.int 1))) (eK (.int 3)))) sNext [some (.loc lw), some act, some (.tup [.str "told", S])] M3 = .nx [some (.loc lw), some act, some (.tup [.str "told", S])] M3 := by
      simp [la, hput]
    have ls : dIx S (.int 2) M3 = .ok (.tup evs) M3 := by rw [hS]; simp [said]
    refine ⟨w2, evs, M3, did, ?_, ⟨k3, by rw [hM3]; exact set_at h2, ?_⟩, fun l hl hne => ?_⟩
    · rw [hr]
      unfold m__law_done
      rw [x_seq g1, x_seq g2, x_seq g3, x_seq g4, x_seq g5]
      simp [ls]
    · have base : ∀ k, k ≠ "value" → k ≠ "memory" → k ≠ "clock" → getS k3 k = getS kvs k := fun k q1 q2 q3 => by
        rw [hk3, get_put, if_neg (Ne.symm q3), hk2, get_put, if_neg (Ne.symm q2), get_put, if_neg (Ne.symm q1)]
      refine ⟨by rw [hk3]; exact put_nd _ _ _ nd2, by rw [hk3, put_len2 _ _ _ _ ck, len2]; exact K.len, ?_, ?_, ?_, ?_, ?_, ?_, ?_, ?_, ?_, ?_, ?_, ?_⟩
      · rw [hk3, get_put, if_neg (by decide), hk2, get_put, if_neg (by decide), get_put, if_pos rfl]
      · rw [hk3, get_put, if_neg (by decide), hk2, get_put, if_pos rfl]
      · rw [base _ (by decide) (by decide) (by decide)]; exact K.rights
      · rw [hk3, get_put, if_pos rfl]
      · rw [base _ (by decide) (by decide) (by decide), sw.most]; exact K.most
      · rw [base _ (by decide) (by decide) (by decide), sw.wait]; exact K.wait
      · rw [base _ (by decide) (by decide) (by decide)]; exact K.half
      · rw [base _ (by decide) (by decide) (by decide), sw.era]; exact K.era
      · rw [base _ (by decide) (by decide) (by decide), sw.lfar]; exact K.far
      · rw [base _ (by decide) (by decide) (by decide), sw.ln]; exact K.numbered
      · rw [base _ (by decide) (by decide) (by decide), sw.ll]; exact K.letters
      · rw [base _ (by decide) (by decide) (by decide), sw.lla]; exact K.lanes
    · rw [hM3, set_ne (Ne.symm hne), hM2, set_ne (Ne.symm hne), hM1, List.getElem?_append_left hl]
  · refine ⟨w2, [], M, did, ?_, hw, fun l _ _ => rfl⟩
    have g1 : sAsg (gN 2) (eSaid (eC f__law_program (aCons (eV 0) (aCons (eV 1) aNil)))) [some (.loc lw), some act, none] M = .nx [some (.loc lw), some act, some (.tup [.str "step", .str "full"])] M := by
      have : eSaid (eC f__law_program (aCons (eV 0) (aCons (eV 1) aNil))) [some (.loc lw), some act, none] M = .ok (.tup [.str "step", .str "full"]) M := by
        unfold eSaid
        rw [show eC f__law_program (aCons (eV 0) (aCons (eV 1) aNil)) [some (.loc lw), some act, none] M = .ex (exNS "full") M by simp [e]]
        rfl
      simp [this]
    rw [hr]
    unfold m__law_done
    rw [x_seq g1]
    simp [x_tup0]
end Dt
namespace Dt
structure LogsAt (M : Mem) (llo : Nat) (ls : List Nat) (Ls : List (List D)) : Prop where
  at_ : M[llo]? = some (.lst (ls.map D.loc))
  len : ls.length = Ls.length
  nd : ls.Nodup
  ne : llo ∉ ls
  log : ∀ (j l : Nat) (L : List D), ls[j]? = some l → Ls[j]? = some L → M[l]? = some (.lst L)
theorem LogsAt.get {M : Mem} {llo : Nat} {ls : List Nat} {Ls : List (List D)} (h : LogsAt M llo ls Ls) {j : Nat} (hj : j < Ls.length) : ∃ l, ls[j]? = some l ∧ M[l]? = some (.lst Ls[j]) ∧ l ∈ ls ∧ dIx (.loc llo) (.int (j : Int)) M = .ok (.loc l) M := by
  have hj2 : j < ls.length := by rw [h.len]; exact hj
  have e : ls[j]? = some ls[j] := List.getElem?_eq_getElem hj2
  refine ⟨ls[j], e, h.log j _ _ e (List.getElem?_eq_getElem hj), List.getElem_mem hj2, ?_⟩
  have q : L2.atI (ls.map D.loc) (j : Int) = some (.loc ls[j]) := atI_nat _ _ _ (by rw [List.getElem?_map, e]; rfl)
  unfold dIx
  simp only [h.at_, q]
theorem LogsAt.set {M : Mem} {llo : Nat} {ls : List Nat} {Ls : List (List D)} (h : LogsAt M llo ls Ls) {j l : Nat} (hj : ls[j]? = some l) (L2 : List D) : LogsAt (M.set l (.lst L2)) llo ls (Ls.set j L2) := by
  have hjl := List.getElem?_eq_some_iff.mp hj
  have hjL : j < Ls.length := by rw [← h.len]; exact hjl.1
  have hm := h.log j l Ls[j] hj (List.getElem?_eq_getElem hjL)
  refine ⟨?_, by rw [List.length_set]; exact h.len, h.nd, h.ne, fun i k L hi hL => ?_⟩
  · rw [set_ne (fun z => h.ne (by rw [← z]; exact List.mem_of_getElem? hj))]
    exact h.at_
  · by_cases q : i = j
    · subst q
      rw [hj] at hi
      cases hi
      rw [List.getElem?_set_self hjL] at hL
      cases hL
      exact set_at hm
    · rw [List.getElem?_set_ne (Ne.symm q)] at hL
      have hik := List.getElem?_eq_some_iff.mp hi
      rw [set_ne (fun z => q ?_)]
      · exact h.log i k L hi hL
      · obtain ⟨q1, q2⟩ := hik
        obtain ⟨q3, q4⟩ := hjl
        exact (List.getElem_inj h.nd).mp (q2.trans (z.symm.trans q4.symm))
/-- only the logs changed -/
def Only (ls : List Nat) (M M2 : Mem) : Prop := M2.length = M.length ∧ ∀ l, l ∉ ls → M2[l]? = M[l]?
theorem Only.refl {ls : List Nat} {M : Mem} : Only ls M M := ⟨rfl, fun _ _ => rfl⟩
theorem Only.trans {ls : List Nat} {M M2 M3 : Mem} (a : Only ls M M2) (b : Only ls M2 M3) : Only ls M M3 := ⟨b.1.trans a.1, fun l h => (b.2 l h).trans (a.2 l h)⟩
theorem Only.set {ls : List Nat} {M : Mem} {l : Nat} {o : MO} (h : l ∈ ls) : Only ls M (M.set l o) := ⟨List.length_set, fun k hk => set_ne fun z => hk (by rw [← z]; exact h)⟩
section
variable {lw llo : Nat} {act : D} {evs0 : D} {c : Int} {ls : List Nat} {Ls : List (List D)} {M : Mem} {x6 x5 : Option D} {es : List D}
abbrev nE (lw llo : Nat) (act evs0 : D) (c : Int) (x5 x6 : Option D) : Env := [some (.loc lw), some act, some evs0, some (.loc llo), some (.int c), x5, x6]
theorem n_quiet {e : D} (h : ∃ w r, e = .tup (.str w :: r) ∧ w ≠ "filled" ∧ w ≠ "unmasked" ∧ w ≠ "raised") :
    loop (gN 5) b__law_noted_0 (e :: es) (nE lw llo act evs0 c x5 x6) M = loop (gN 5) b__law_noted_0 es (nE lw llo act evs0 c (some e) x6) M := by
  obtain ⟨w, r, rfl, h1, h2, h3⟩ := h
  refine loop_nx (δ1 := nE lw llo act evs0 c (some (.tup (.str w :: r))) x6) rfl ?_
  unfold nE
  simp [b__law_noted_0, h1, h2, h3]
theorem n_quiets : ∀ (qs : List D) (x5 : Option D), (∀ e ∈ qs, QuietE e) → ∃ y5, loop (gN 5) b__law_noted_0 (qs ++ es) (nE lw llo act evs0 c x5 x6) M = loop (gN 5) b__law_noted_0 es (nE lw llo act evs0 c y5 x6) M
  | [], x5, _ => ⟨x5, rfl⟩
  | q :: qs, x5, h => by
    obtain ⟨y5, e⟩ := n_quiets qs (some q) fun e he => h e (List.mem_cons_of_mem _ he)
    exact ⟨y5, by rw [List.cons_append, n_quiet (h q List.mem_cons_self), e]⟩
theorem app_row {o : E} {δ : Env} {l : Nat} {L : List D} {a b d : D} (h1 : o δ M = .ok (.loc l) M) (h2 : M[l]? = some (.lst L)) (hl : L.length < cap) {x y z : E} (hx : x δ M = .ok a M) (hy : y δ M = .ok b M) (hz : z δ M = .ok d M) :
    eM mAppend o (aCons (eN dTup (aCons x (aCons y (aCons z aNil)))) aNil) δ M = .ok .non (M.set l (.lst (L ++ [.tup [a, b, d]]))) :=
  x_app h1 h2 (by simp [hx, hy, hz, x_tup3]) hl
theorem n_filled (h : LogsAt M llo ls Ls) {j : Nat} (hj : j < Ls.length) (hl : Ls[j].length < cap) (t : D) (num : Int) : ∃ l, ls[j]? = some l ∧ l ∈ ls ∧
    loop (gN 5) b__law_noted_0 (filledD j t num :: es) (nE lw llo act evs0 c x5 x6) M = loop (gN 5) b__law_noted_0 es (nE lw llo act evs0 c (some (filledD j t num)) x6) (M.set l (.lst (Ls[j] ++ [row "fill" c 0]))) := by
  obtain ⟨l, h1, h2, h3, h4⟩ := h.get hj
  refine ⟨l, h1, h3, loop_nx (δ1 := nE lw llo act evs0 c (some (filledD j t num)) x6) rfl ?_⟩
  have l0 : ∀ M, dIx (filledD j t num) (.int 0) M = .ok (.str "filled") M := fun M => by simp [filledD]
  have l2 : dIx (filledD j t num) (.int 2) M = .ok (.int (j : Int)) M := by simp [filledD]
  have e : eM mAppend (eB dIx (eV 3) (eB dIx (eV 5) (eK (.int 2)))) (aCons (eN dTup (aCons (eK (.str "fill")) (aCons (eV 4) (aCons (eK (.int 0)) aNil)))) aNil) (nE lw llo act evs0 c (some (filledD j t num)) x6) M = .ok .non (M.set l (.lst (Ls[j] ++ [row "fill" c 0]))) :=
    app_row (by simp [l2, h4]) h2 hl (by simp) (by simp) (by simp)
  unfold nE at e ⊢
  simp [b__law_noted_0, l0, e]
theorem n_unm (h : LogsAt M llo ls Ls) {j : Nat} (hj : j < Ls.length) (hl : Ls[j].length < cap) : ∃ l, ls[j]? = some l ∧ l ∈ ls ∧
    loop (gN 5) b__law_noted_0 (unmD j :: es) (nE lw llo act evs0 c x5 x6) M = loop (gN 5) b__law_noted_0 es (nE lw llo act evs0 c (some (unmD j)) x6) (M.set l (.lst (Ls[j] ++ [row "unmask" c 0]))) := by
  obtain ⟨l, h1, h2, h3, h4⟩ := h.get hj
  refine ⟨l, h1, h3, loop_nx (δ1 := nE lw llo act evs0 c (some (unmD j)) x6) rfl ?_⟩
  have l0 : ∀ M, dIx (unmD j) (.int 0) M = .ok (.str "unmasked") M := fun M => by simp [unmD]
  have l2 : dIx (unmD j) (.int 2) M = .ok (.int (j : Int)) M := by simp [unmD]
  have e : eM mAppend (eB dIx (eV 3) (eB dIx (eV 5) (eK (.int 2)))) (aCons (eN dTup (aCons (eK (.str "unmask")) (aCons (eV 4) (aCons (eK (.int 0)) aNil)))) aNil) (nE lw llo act evs0 c (some (unmD j)) x6) M = .ok .non (M.set l (.lst (Ls[j] ++ [row "unmask" c 0]))) :=
    app_row (by simp [l2, h4]) h2 hl (by simp) (by simp) (by simp)
  unfold nE at e ⊢
  simp [b__law_noted_0, l0, e]
theorem n_raised (h : LogsAt M llo ls Ls) {j : Nat} (hj : j < Ls.length) (hl : Ls[j].length < cap) {v : String} {r : List D} (ha : act = .tup (.str v :: r)) (hv : v ≠ "tick") (c0 : Int) : ∃ l, ls[j]? = some l ∧ l ∈ ls ∧
    loop (gN 5) b__law_noted_0 (raisedD j c0 :: es) (nE lw llo act evs0 c x5 x6) M = loop (gN 5) b__law_noted_0 es (nE lw llo act evs0 c (some (raisedD j c0)) x6) (M.set l (.lst (Ls[j] ++ [row "raise" c0 0]))) := by
  obtain ⟨l, h1, h2, h3, h4⟩ := h.get hj
  refine ⟨l, h1, h3, loop_nx (δ1 := nE lw llo act evs0 c (some (raisedD j c0)) x6) rfl ?_⟩
  have l0 : ∀ M, dIx (raisedD j c0) (.int 0) M = .ok (.str "raised") M := fun M => by simp [raisedD]
  have l2 : dIx (raisedD j c0) (.int 2) M = .ok (.int (j : Int)) M := by simp [raisedD]
  have l3 : dIx (raisedD j c0) (.int 3) M = .ok (.int c0) M := by simp [raisedD]
  have la : dIx act (.int 0) M = .ok (.str v) M := by rw [ha]; simp
  have e : eM mAppend (eB dIx (eV 3) (eB dIx (eV 5) (eK (.int 2)))) (aCons (eN dTup (aCons (eK (.str "raise")) (aCons (eB dIx (eV 5) (eK (.int 3))) (aCons (eK (.int 0)) aNil)))) aNil) (nE lw llo act evs0 c (some (raisedD j c0)) x6) M = .ok .non (M.set l (.lst (Ls[j] ++ [row "raise" c0 0]))) :=
    app_row (by simp [l2, h4]) h2 hl (by simp) (by simp [l3]) (by simp)
  unfold nE at e ⊢
  simp [b__law_noted_0, l0, la, hv, e]
/-- raised by a tick: nothing yet -/
theorem n_raisedT {r : List D} (ha : act = .tup (.str "tick" :: r)) {e : D} {q : List D} (he : e = .tup (.str "raised" :: q)) :
    loop (gN 5) b__law_noted_0 (e :: es) (nE lw llo act evs0 c x5 x6) M = loop (gN 5) b__law_noted_0 es (nE lw llo act evs0 c (some e) x6) M := by
  subst he
  refine loop_nx (δ1 := nE lw llo act evs0 c (some (.tup (.str "raised" :: q))) x6) rfl ?_
  have la : dIx act (.int 0) M = .ok (.str "tick") M := by rw [ha]; simp
  unfold nE
  simp [b__law_noted_0, la]
theorem n_raisedTs {r : List D} (ha : act = .tup (.str "tick" :: r)) : ∀ (qs : List D) (x5 : Option D), (∀ e ∈ qs, ∃ q, e = .tup (.str "raised" :: q)) → ∃ y5, loop (gN 5) b__law_noted_0 (qs ++ es) (nE lw llo act evs0 c x5 x6) M = loop (gN 5) b__law_noted_0 es (nE lw llo act evs0 c y5 x6) M
  | [], x5, _ => ⟨x5, rfl⟩
  | q :: qs, x5, h => by
    obtain ⟨y5, e⟩ := n_raisedTs ha qs (some q) fun e he => h e (List.mem_cons_of_mem _ he)
    obtain ⟨q', hq⟩ := h q List.mem_cons_self
    exact ⟨y5, by rw [List.cons_append, n_raisedT ha hq, e]⟩
end
/-- every lane's log is as it should be, none later than c, none longer than B -/
structure LgAll (most wait c : Int) (B : Nat) (xs : List LS) (Ls : List (List D)) : Prop where
  len : Ls.length = xs.length
  lg : ∀ (j : Nat) (x : LS) (L : List D), xs[j]? = some x → Ls[j]? = some L → ∃ a, a ≤ c ∧ Lg most wait L (lnOf x) a
  b : ∀ L ∈ Ls, L.length ≤ B
theorem LgAll.mono {most wait c c2 : Int} {B B2 : Nat} {xs : List LS} {Ls : List (List D)} (h : LgAll most wait c B xs Ls) (hc : c ≤ c2) (hB : B ≤ B2) : LgAll most wait c2 B2 xs Ls :=
  ⟨h.len, fun j x L h1 h2 => let ⟨a, a1, a2⟩ := h.lg j x L h1 h2; ⟨a, Int.le_trans a1 hc, a2⟩, fun L hL => Nat.le_trans (h.b L hL) hB⟩
theorem LgAll.set {most wait c : Int} {B : Nat} {xs : List LS} {Ls : List (List D)} (h : LgAll most wait c B xs Ls) {j : Nat} {x : LS} {L : List D} {a : Int} (ha : a ≤ c) (hg : Lg most wait L (lnOf x) a) (hb : L.length ≤ B) : LgAll most wait c B (xs.set j x) (Ls.set j L) := by
  refine ⟨by rw [List.length_set, List.length_set]; exact h.len, fun i y K h1 h2 => ?_, fun K hK => ?_⟩
  · by_cases q : i = j
    · subst q
      have hi := (List.getElem?_eq_some_iff.mp h1).1
      rw [List.length_set] at hi
      rw [List.getElem?_set_self hi] at h1
      rw [List.getElem?_set_self (by rw [h.len]; exact hi)] at h2
      cases h1; cases h2
      exact ⟨a, ha, hg⟩
    · rw [List.getElem?_set_ne (Ne.symm q)] at h1 h2
      exact h.lg i y K h1 h2
  · rcases List.mem_or_eq_of_mem_set hK with z | z
    · exact h.b K z
    · rw [z]; exact hb
/-- a lane whose log's state stays -/
theorem LgAll.same {most wait c : Int} {B : Nat} {xs : List LS} {Ls : List (List D)} (h : LgAll most wait c B xs Ls) {j : Nat} {x x2 : LS} (hx : xs[j]? = some x) (e : lnOf x2 = lnOf x) : LgAll most wait c B (xs.set j x2) Ls := by
  refine ⟨by rw [List.length_set]; exact h.len, fun i y K h1 h2 => ?_, h.b⟩
  by_cases q : i = j
  · subst q
    have hi := (List.getElem?_eq_some_iff.mp h1).1
    rw [List.length_set] at hi
    rw [List.getElem?_set_self hi] at h1
    cases h1
    rw [e]
    exact h.lg i x K hx h2
  · rw [List.getElem?_set_ne (Ne.symm q)] at h1
    exact h.lg i y K h1 h2
theorem raise_ln (x : LS) (c : Int) : bef (lnOf x) "raise" c 0 = lnOf { x with m := true } := rfl
/-- a row, and the raise behind it where it is due -/
theorem Lg.step {most wait : Int} {L : List D} {x x2 : LS} {a c m : Int} {w : String} (h : Lg most wait L (lnOf x) a) (n : Nxt (lnOf x) a w c m) (hw : wakes w = true) (e : lnOf x2 = bef (lnOf x) w c m) :
    Lg most wait (L ++ row w c m :: (if due (lnOf x2) c most wait = true then [row "raise" c 0] else [])) (lnOf (tickL c most wait x2)) c := by
  have hd : dueB (bef (lnOf x) w c m) w c most wait = due (lnOf x2) c most wait := by unfold dueB; rw [hw, e]; rfl
  cases q : due (lnOf x2) c most wait with
  | true =>
    rw [q] at hd
    have := Lg.wake h w c m n hd
    rw [← e, raise_ln] at this
    have e1 : tickL c most wait x2 = { x2 with m := true } := by unfold tickL; rw [if_pos q]
    rw [e1, if_pos rfl]
    exact this
  | false =>
    rw [q] at hd
    have := Lg.calm h w c m n hd
    rw [← e] at this
    have e1 : tickL c most wait x2 = x2 := by unfold tickL; rw [if_neg (by rw [q]; decide)]
    rw [e1, if_neg (by decide)]
    exact this
theorem noted_run {lw llo : Nat} {act : D} {evs : List D} {M : Mem} {c : Int} {kvs : List (String × D)} (h : M[lw]? = some (.dk kvs)) (hc : getS kvs "clock" = some (.int c)) :
    f__law_noted [.loc lw, act, .tup evs, .loc llo] M = ((loop (gN 5) b__law_noted_0 evs (nE lw llo act (.tup evs) c none none) M).seq (sSeq (sIf (tB (eB dEq (eB dIx (eV 1) (eK (.int 0))) (eK (.str "poll")))) (sExpr (eM mAppend (eB dIx (eV 3) (eB dIx (eV 1) (eK (.int 1)))) (aCons (eN dTup (aCons (eK (.str "poll")) (aCons (eV 4) (aCons (eN dLen (aCons (eV 2) aNil)) aNil)))) aNil))) sNext)
  (sIf (tB (eB dEq (eB dIx (eV 1) (eK (.int 0))) (eK (.str "tick")))) (sFor (iRng1D (aCons (eN dLen (aCons (eV 3) aNil)) aNil)) (gN 6) b__law_noted_1) sNext))).fin := by
  have hr : f__law_noted [.loc lw, act, .tup evs, .loc llo] M = (m__law_noted [some (.loc lw), some act, some (.tup evs), some (.loc llo), none, none, none] M).fin := x_run rfl rfl
  have e1 := x_getS h hc
  rw [hr]
  unfold m__law_noted
  rw [x_seq (δ2 := nE lw llo act (.tup evs) c none none) (M2 := M) (by unfold nE; simp [e1]), x_sSeq]
  rfl
/-- the end, where the act is neither poll nor tick -/
theorem noted_end {lw llo : Nat} {v : String} {r evs : List D} {M : Mem} {c : Int} {x5 x6 : Option D} (h1 : v ≠ "poll") (h2 : v ≠ "tick") :
    (sSeq (sIf (tB (eB dEq (eB dIx (eV 1) (eK (.int 0))) (eK (.str "poll")))) (sExpr (eM mAppend (eB dIx (eV 3) (eB dIx (eV 1) (eK (.int 1)))) (aCons (eN dTup (aCons (eK (.str "poll")) (aCons (eV 4) (aCons (eN dLen (aCons (eV 2) aNil)) aNil)))) aNil))) sNext)
      (sIf (tB (eB dEq (eB dIx (eV 1) (eK (.int 0))) (eK (.str "tick")))) (sFor (iRng1D (aCons (eN dLen (aCons (eV 3) aNil)) aNil)) (gN 6) b__law_noted_1) sNext)) (nE lw llo (.tup (.str v :: r)) (.tup evs) c x5 x6) M = .nx (nE lw llo (.tup (.str v :: r)) (.tup evs) c x5 x6) M := by
  unfold nE
  simp [h1, h2]
structure NotedOk (M : Mem) (llo : Nat) (ls : List Nat) (w2 : WS) (B : Nat) (r : Res D) : Prop where
  ex : ∃ M2 Ls2, r = .ok .non M2 ∧ LogsAt M2 llo ls Ls2 ∧ LgAll w2.most w2.wait w2.c B w2.xs Ls2 ∧ Only ls M M2
theorem Lg.row2 {c most wait : Int} {x : LS} {j : Nat} : (tickE c most wait x j = [raisedD j c] ∧ due (lnOf x) c most wait = true) ∨ (tickE c most wait x j = [] ∧ due (lnOf x) c most wait = false) := by
  unfold tickE
  cases due (lnOf x) c most wait with
  | true => exact .inl ⟨rfl, rfl⟩
  | false => exact .inr ⟨rfl, rfl⟩
end Dt
namespace Dt
def nLast : S := sSeq (sIf (tB (eB dEq (eB dIx (eV 1) (eK (.int 0))) (eK (.str "poll")))) (sExpr (eM mAppend (eB dIx (eV 3) (eB dIx (eV 1) (eK (.int 1)))) (aCons (eN dTup (aCons (eK (.str "poll")) (aCons (eV 4) (aCons (eN dLen (aCons (eV 2) aNil)) aNil)))) aNil))) sNext)
      (sIf (tB (eB dEq (eB dIx (eV 1) (eK (.int 0))) (eK (.str "tick")))) (sFor (iRng1D (aCons (eN dLen (aCons (eV 3) aNil)) aNil)) (gN 6) b__law_noted_1) sNext)
/-- a row at lane j, and the raise behind it where it is due -/
theorem noted_mid {lw llo : Nat} {v : String} {r es evs : List D} {M : Mem} {ls : List Nat} {Ls : List (List D)} {xs : List LS} {most wait c : Int} {B : Nat} {x5 x6 : Option D} {e : D} {w : String} {x x2 : LS} {j : Nat}
    (hv : v ≠ "tick") (hL : LogsAt M llo ls Ls) (hg : LgAll most wait c B xs Ls) (hB : B ≤ 1000) (hx : xs[j]? = some x) (hw : wakes w = true) (hwn : w = "fill" ∨ w = "unmask") (hln : lnOf x2 = bef (lnOf x) w c 0)
    (he : ∀ (es : List D) (hj : j < Ls.length), Ls[j].length < cap → ∃ l, ls[j]? = some l ∧ l ∈ ls ∧ loop (gN 5) b__law_noted_0 (e :: es) (nE lw llo (.tup (.str v :: r)) (.tup evs) c x5 x6) M = loop (gN 5) b__law_noted_0 es (nE lw llo (.tup (.str v :: r)) (.tup evs) c (some e) x6) (M.set l (.lst (Ls[j] ++ [row w c 0])))) :
    ∃ M2 Ls2 y5, loop (gN 5) b__law_noted_0 (e :: tickE c most wait x2 j) (nE lw llo (.tup (.str v :: r)) (.tup evs) c x5 x6) M = .nx (nE lw llo (.tup (.str v :: r)) (.tup evs) c y5 x6) M2 ∧ LogsAt M2 llo ls Ls2 ∧ LgAll most wait c (B + 2) (xs.set j (tickL c most wait x2)) Ls2 ∧ Only ls M M2 := by
  have hjx := (List.getElem?_eq_some_iff.mp hx).1
  have hj : j < Ls.length := by rw [hg.len]; exact hjx
  have hb : Ls[j].length ≤ B := hg.b _ (List.getElem_mem hj)
  obtain ⟨l, h1, h2, h3⟩ := he (tickE c most wait x2 j) hj (by unfold cap; omega)
  have hL2 := hL.set h1 (Ls[j] ++ [row w c 0])
  obtain ⟨a, a1, a2⟩ := hg.lg j x Ls[j] hx (List.getElem?_eq_getElem hj)
  have n : Nxt (lnOf x) a w c 0 := ⟨by rcases hwn with z | z <;> rw [z] <;> simp, a1, Int.le_refl _, by rcases hwn with z | z <;> rw [z] <;> rfl⟩
  have g := a2.step n hw hln
  rw [h3]
  rcases Lg.row2 (c := c) (most := most) (wait := wait) (x := x2) (j := j) with ⟨t1, t2⟩ | ⟨t1, t2⟩
  · have hj2 : j < (Ls.set j (Ls[j] ++ [row w c 0])).length := by rw [List.length_set]; exact hj
    have hget : (Ls.set j (Ls[j] ++ [row w c 0]))[j] = Ls[j] ++ [row w c 0] := List.getElem_set_self hj2
    obtain ⟨l2, k1, k2, k3⟩ := n_raised (lw := lw) (evs0 := .tup evs) (c := c) (x6 := x6) (x5 := some e) (es := []) (act := .tup (.str v :: r)) hL2 hj2 (by rw [hget, List.length_append]; simp; unfold cap; omega) rfl hv c
    rw [h1] at k1
    cases k1
    rw [hget, List.set_set] at k3
    rw [t1, k3, loop_nil]
    rw [if_pos t2] at g
    have hL3 := hL.set h1 (Ls[j] ++ row w c 0 :: [row "raise" c 0])
    have eA : Ls[j] ++ [row w c 0] ++ [row "raise" c 0] = Ls[j] ++ row w c 0 :: [row "raise" c 0] := by simp
    rw [eA]
    exact ⟨_, _, _, rfl, hL3, (hg.mono (Int.le_refl _) (by omega)).set (Int.le_refl _) g (by rw [List.length_append]; simp; omega), Only.set h2⟩
  · rw [t1, loop_nil]
    rw [if_neg (by rw [t2]; decide)] at g
    exact ⟨_, _, _, rfl, hL2, (hg.mono (Int.le_refl _) (by omega)).set (Int.le_refl _) g (by rw [List.length_append]; simp; omega), Only.set h2⟩
theorem polled_ln {x : LS} {b : Nat} {c : Int} : lnOf (polledL x b) = bef (lnOf x) "poll" c ((x.box.take b).length : Nat) := by
  have eb : ∀ (s : Ln) (m : Int), bef s "poll" c m = ⟨s.many - m, if s.many = m then none else s.since, s.masked⟩ := fun s m => by
    unfold bef
    rw [if_neg (by decide), if_pos rfl]
  rw [eb]
  unfold lnOf polledL
  by_cases h : x.box.length ≤ b
  · have e1 : (x.box.take b).length = x.box.length := by rw [List.length_take]; omega
    have e2 : (x.box.drop b).length = 0 := by rw [List.length_drop]; omega
    simp only [e1, e2, if_pos h]
    simp
  · have e1 : (x.box.take b).length = b := by rw [List.length_take]; omega
    have e2 : ((x.box.drop b).length : Int) = (x.box.length : Int) - (b : Int) := by rw [List.length_drop]; omega
    have e3 : ¬ ((x.box.length : Int) = (b : Int)) := by omega
    simp only [e1, if_neg h, if_neg e3]
    rw [e2]
def evK (k : Nat) (d : D) : Bool := match d with
  | .tup [_, _, .int i, _] => i == (k : Int)
  | _ => false
def evR (d : D) : D := match d with
  | .tup [_, _, _, .int i] => row "raise" i 0
  | _ => .non
theorem tickEs_mem {c most wait : Int} : ∀ {xs : List LS} {j : Nat} {d : D}, d ∈ tickEs c most wait xs j → ∃ i : Nat, d = raisedD i c
  | [], _, _, h => absurd h List.not_mem_nil
  | x :: xs, j, d, h => by
    rcases List.mem_append.mp h with z | z
    · unfold tickE at z
      split at z
      · exact ⟨j, List.mem_singleton.mp z⟩
      · exact absurd z List.not_mem_nil
    · exact tickEs_mem z
theorem tickEs_filter {c most wait : Int} : ∀ (xs : List LS) (j k : Nat), (tickEs c most wait xs j).filter (evK k) = if j ≤ k then (match xs[k - j]? with | some x => tickE c most wait x k | none => []) else []
  | [], j, k => by simp [tickEs]
  | x :: xs, j, k => by
    have ih := tickEs_filter (c := c) (most := most) (wait := wait) xs (j + 1) k
    have e0 : (tickE c most wait x j).filter (evK k) = if j = k then tickE c most wait x k else [] := by
      unfold tickE
      cases due (lnOf x) c most wait with
      | false => simp
      | true =>
        by_cases h : j = k
        · subst h; simp [evK, raisedD]
        · have : ¬ ((j : Int) = (k : Int)) := by omega
          simp [evK, raisedD, h, this]
    show (tickE c most wait x j ++ tickEs c most wait xs (j + 1)).filter (evK k) = _
    rw [List.filter_append, e0, ih]
    by_cases h1 : j = k
    · subst h1
      rw [if_pos rfl, if_neg (by omega), if_pos (Nat.le_refl _), Nat.sub_self]
      simp
    · by_cases h2 : j ≤ k
      · rw [if_neg h1, if_pos (by omega), if_pos h2, show k - j = (k - (j + 1)) + 1 by omega]
        simp
      · rw [if_neg h1, if_neg (by omega), if_neg h2]
        rfl
theorem n_tick {lw llo : Nat} {act : D} {M : Mem} {ls : List Nat} {Ls : List (List D)} {xs : List LS} {most wait c : Int} {x5 x6 : Option D} {k : Nat} {x : LS} {es : List D}
    (hL : LogsAt M llo ls Ls) (hk : k < Ls.length) (hx : xs[k]? = some x) (hl : Ls[k].length ≤ 1000) (hxl : xs.length ≤ 2) : ∃ l, ls[k]? = some l ∧ l ∈ ls ∧
    loop (gN 6) b__law_noted_1 (.int (k : Int) :: es) (nE lw llo act (.tup (tickEs c most wait xs 0)) c x5 x6) M =
      loop (gN 6) b__law_noted_1 es (nE lw llo act (.tup (tickEs c most wait xs 0)) c x5 (some (.int (k : Int)))) (M.set l (.lst (Ls[k] ++ row "tick" c 0 :: (if due (lnOf x) c most wait = true then [row "raise" c 0] else [])))) := by
  obtain ⟨l, h1, h2, h3, h4⟩ := hL.get hk
  refine ⟨l, h1, h3, loop_nx (δ1 := nE lw llo act (.tup (tickEs c most wait xs 0)) c x5 (some (.int (k : Int)))) rfl ?_⟩
  have e1 : eM mAppend (eB dIx (eV 3) (eV 6)) (aCons (eN dTup (aCons (eK (.str "tick")) (aCons (eV 4) (aCons (eK (.int 0)) aNil)))) aNil) (nE lw llo act (.tup (tickEs c most wait xs 0)) c x5 (some (.int (k : Int)))) M = .ok .non (M.set l (.lst (Ls[k] ++ [row "tick" c 0]))) :=
    app_row (by simp [h4]) h2 (by unfold cap; omega) (by simp) (by simp) (by simp)
  obtain ⟨M1, hM1⟩ : ∃ M1, M1 = M.set l (.lst (Ls[k] ++ [row "tick" c 0])) := ⟨_, rfl⟩
  have hL1 : LogsAt M1 llo ls (Ls.set k (Ls[k] ++ [row "tick" c 0])) := by rw [hM1]; exact hL.set h1 _
  obtain ⟨l', k1, k2, k3, k4⟩ := hL1.get (j := k) (by rw [List.length_set]; exact hk)
  rw [h1] at k1
  cases k1
  rw [List.getElem_set_self] at k2
  have htl : ∀ (xs : List LS) (j : Nat), (tickEs c most wait xs j).length ≤ xs.length := by
    intro xs
    induction xs with
    | nil => intro j; simp [tickEs]
    | cons y ys ih =>
      intro j
      have := ih (j + 1)
      have h1 : (tickE c most wait y j).length ≤ 1 := by unfold tickE; split <;> simp
      show (tickE c most wait y j ++ tickEs c most wait ys (j + 1)).length ≤ _
      rw [List.length_append, List.length_cons]
      omega
  have e2 : lLc (iTupD (eV 2)) (gN 5) (tB (eB dEq (eB dIx (eV 5) (eK (.int 2))) (eV 6))) (eN dTup (aCons (eK (.str "raise")) (aCons (eB dIx (eV 5) (eK (.int 3))) (aCons (eK (.int 0)) aNil)))) [5] (nE lw llo act (.tup (tickEs c most wait xs 0)) c x5 (some (.int (k : Int)))) M1 =
      .ok (((tickEs c most wait xs 0).filter (evK k)).map evR) M1 :=
    x_lLc (by simp) (by have := htl xs 0; omega) fun d hd => by
      obtain ⟨i, rfl⟩ := tickEs_mem hd
      refine ⟨_, rfl, by simp [wipeE, raisedD, evK], fun _ => by simp [wipeE, raisedD, evR, x_tup3, row]⟩
  have e3 : ((tickEs c most wait xs 0).filter (evK k)).map evR = (if due (lnOf x) c most wait = true then [row "raise" c 0] else []) := by
    rw [tickEs_filter, if_pos (Nat.zero_le _), Nat.sub_zero, hx]
    show (tickE c most wait x k).map evR = _
    unfold tickE
    split <;> rfl
  rw [e3] at e2
  have e4 : eExt (eB dIx (eV 3) (eV 6)) (lLc (iTupD (eV 2)) (gN 5) (tB (eB dEq (eB dIx (eV 5) (eK (.int 2))) (eV 6))) (eN dTup (aCons (eK (.str "raise")) (aCons (eB dIx (eV 5) (eK (.int 3))) (aCons (eK (.int 0)) aNil)))) [5]) (nE lw llo act (.tup (tickEs c most wait xs 0)) c x5 (some (.int (k : Int)))) M1 =
      .ok .non (M1.set l (.lst (Ls[k] ++ [row "tick" c 0] ++ (if due (lnOf x) c most wait = true then [row "raise" c 0] else [])))) := by
    unfold eExt
    rw [show eB dIx (eV 3) (eV 6) (nE lw llo act (.tup (tickEs c most wait xs 0)) c x5 (some (.int (k : Int)))) M1 = .ok (.loc l) M1 by simp [k4]]
    simp only [Res.bind_ok, k2, e2]
    rw [if_pos]
    rw [List.length_append]
    split <;> simp <;> unfold cap <;> omega
  rw [← hM1] at e1
  unfold nE at e1 e4 ⊢
  rw [show b__law_noted_1 = sSeq _ _ from rfl]
  rw [x_seq (δ2 := [some (.loc lw), some act, some (.tup (tickEs c most wait xs 0)), some (.loc llo), some (.int c), x5, some (.int (k : Int))]) (M2 := M1) (by rw [x_sExpr, e1]; rfl), x_sExpr, e4, hM1, List.set_set]
  simp
theorem tick_logs {lw llo : Nat} {act : D} {ls : List Nat} {xs : List LS} {most wait c : Int} {B : Nat} {x5 : Option D} (hB : B ≤ 900) (hxl : xs.length ≤ 2) : ∀ (rest done : List LS) (M : Mem) (Ls : List (List D)) (x6 : Option D), xs = done ++ rest → LogsAt M llo ls Ls →
    LgAll most wait c (B + 2) (done.map (tickL c most wait) ++ rest) Ls → (∀ (j : Nat) (x : LS) (L : List D), done.length ≤ j → xs[j]? = some x → Ls[j]? = some L → L.length ≤ B ∧ ∃ a, a ≤ c ∧ Lg most wait L (lnOf x) a) →
    ∃ M2 Ls2 y6, loop (gN 6) b__law_noted_1 ((List.range' done.length rest.length).map fun (i : Nat) => D.int (i : Int)) (nE lw llo act (.tup (tickEs c most wait xs 0)) c x5 x6) M = .nx (nE lw llo act (.tup (tickEs c most wait xs 0)) c x5 y6) M2 ∧
      LogsAt M2 llo ls Ls2 ∧ LgAll most wait c (B + 2) (xs.map (tickL c most wait)) Ls2 ∧ Only ls M M2
  | [], done, M, Ls, x6, hxs, hL, hg, _ => by
    refine ⟨M, Ls, x6, by simp [loop_nil], hL, ?_, Only.refl⟩
    rw [hxs]
    simpa using hg
  | x :: rest, done, M, Ls, x6, hxs, hL, hg, hr => by
    have hk : xs[done.length]? = some x := by rw [hxs]; simp
    have hlen : Ls.length = xs.length := by rw [hg.len, hxs]; simp
    have hkL : done.length < Ls.length := by rw [hlen]; exact (List.getElem?_eq_some_iff.mp hk).1
    obtain ⟨hb, a, a1, a2⟩ := hr done.length x _ (Nat.le_refl _) hk (List.getElem?_eq_getElem hkL)
    obtain ⟨l, h1, h2, h3⟩ := n_tick (lw := lw) (act := act) (most := most) (wait := wait) (c := c) (x5 := x5) (x6 := x6) (es := (List.range' (done.length + 1) rest.length).map fun (i : Nat) => D.int (i : Int)) hL hkL hk (by omega) hxl
    have n : Nxt (lnOf x) a "tick" c 0 := ⟨.inr (.inr (.inr rfl)), a1, Int.le_refl _, rfl⟩
    have g := a2.step (x2 := x) n rfl rfl
    obtain ⟨Lk, hLk⟩ : ∃ Lk, Lk = Ls[done.length] ++ row "tick" c 0 :: (if due (lnOf x) c most wait = true then [row "raise" c 0] else []) := ⟨_, rfl⟩
    rw [← hLk] at g h3
    have hg2 : LgAll most wait c (B + 2) ((done ++ [x]).map (tickL c most wait) ++ rest) (Ls.set done.length Lk) := by
      have := hg.set (j := done.length) (x := tickL c most wait x) (L := Lk) (Int.le_refl _) g (by
        rw [hLk, List.length_append, List.length_cons]
        split <;> simp <;> omega)
      have e : (done.map (tickL c most wait) ++ x :: rest).set done.length (tickL c most wait x) = (done ++ [x]).map (tickL c most wait) ++ rest := by
        have : done.length = (done.map (tickL c most wait)).length := by simp
        rw [this]
        simp
      rw [e] at this
      exact this
    obtain ⟨M2, Ls2, y6, e2, L2, g2, o2⟩ := tick_logs (lw := lw) (act := act) (x5 := x5) hB hxl rest (done ++ [x]) (M.set l (.lst Lk)) (Ls.set done.length Lk) (some (.int (done.length : Int))) (by rw [hxs]; simp) (hL.set h1 Lk) hg2 (fun j y L hj hy hLy => by
      have hj2 : done.length + 1 ≤ j := by simpa using hj
      rw [List.getElem?_set_ne (by omega)] at hLy
      exact hr j y L (by omega) hy hLy)
    refine ⟨M2, Ls2, y6, ?_, L2, g2, (Only.set h2).trans o2⟩
    rw [List.length_cons, List.range'_succ, List.map_cons, h3]
    rw [List.length_append] at e2
    exact e2
theorem p_noted {lw llo n B : Nat} {w w2 : WS} {act : D} {evs : List D} {M : Mem} {ls : List Nat} {Ls : List (List D)} (hw : WorldAt M lw w2) (did : Did n w act w2 evs) (iv : WInv n w) (hn : n ≤ 500) (hL : LogsAt M llo ls Ls) (hg : LgAll w.most w.wait w.c B w.xs Ls) (hB : B ≤ 900) :
    NotedOk M llo ls w2 (B + 2) (f__law_noted [.loc lw, act, .tup evs, .loc llo] M) := by
  obtain ⟨kvs, hM, K⟩ := hw
  have run := noted_run (llo := llo) (act := act) (evs := evs) hM K.clock
  rw [run]
  cases did with
  | post k s x r2 hx hr =>
    rw [n_quiet ⟨"posted", _, rfl, by decide, by decide, by decide⟩, loop_nil, SR.seq_nx, noted_end (by decide) (by decide)]
    exact ⟨⟨M, Ls, rfl, hL, (hg.mono (Int.le_refl _) (by omega)).same hx rfl, Only.refl⟩⟩
  | postN k s =>
    rw [loop_nil, SR.seq_nx, noted_end (by decide) (by decide)]
    exact ⟨⟨M, Ls, rfl, hL, hg.mono (Int.le_refl _) (by omega), Only.refl⟩⟩
  | inn pc xs2 js2 pages2 _ h hj hp hl =>
    rcases h.ex with ⟨h1, h2⟩ | ⟨j, x, r2, e, t, num, qs, hx, hr, hb, hq, hxs, hev⟩
    · obtain ⟨y5, e⟩ := n_quiets (lw := lw) (llo := llo) (act := .tup [.str "in", pc]) (evs0 := .tup evs) (c := w.c) (x6 := none) (es := []) (M := M) evs none h1
      rw [List.append_nil, loop_nil] at e
      have e : loop (gN 5) b__law_noted_0 evs (nE lw llo (.tup [.str "in", pc]) (.tup evs) w.c none none) M = .nx (nE lw llo (.tup [.str "in", pc]) (.tup evs) w.c y5 none) M := e
      show NotedOk M llo ls _ (B + 2) ((loop (gN 5) b__law_noted_0 evs (nE lw llo (.tup [.str "in", pc]) (.tup evs) w.c none none) M).seq _).fin
      rw [e, SR.seq_nx, noted_end (by decide) (by decide)]
      rcases h2 with rfl | ⟨j, x, r2, hx, hr, rfl⟩
      · exact ⟨⟨M, Ls, rfl, hL, hg.mono (Int.le_refl _) (by omega), Only.refl⟩⟩
      · exact ⟨⟨M, Ls, rfl, hL, (hg.mono (Int.le_refl _) (by omega)).same hx rfl, Only.refl⟩⟩
    · obtain ⟨y5, e1⟩ := n_quiets (lw := lw) (llo := llo) (act := .tup [.str "in", pc]) (evs0 := .tup evs) (c := w.c) (x6 := none) (es := filledD j t num :: tickE w.c w.most w.wait (boxL { x with inw := r2 } e w.c) j) (M := M) qs none hq
      obtain ⟨M2, Ls2, z5, e2, L2, g2, o2⟩ := noted_mid (lw := lw) (llo := llo) (v := "in") (r := [pc]) (es := []) (evs := evs) (x5 := y5) (x6 := none) (e := filledD j t num) (w := "fill") (x := x) (x2 := boxL { x with inw := r2 } e w.c) (j := j) (by decide) hL hg (by omega) hx rfl (.inl rfl) (by rw [lnOf_box]; rfl)
        (fun es hj hb => n_filled hL hj hb t num)
      show NotedOk M llo ls _ (B + 2) ((loop (gN 5) b__law_noted_0 evs (nE lw llo (.tup [.str "in", pc]) (.tup evs) w.c none none) M).seq _).fin
      have e3 : loop (gN 5) b__law_noted_0 evs (nE lw llo (.tup [.str "in", pc]) (.tup evs) w.c none none) M = .nx (nE lw llo (.tup [.str "in", pc]) (.tup evs) w.c z5 none) M2 := by
        have e4 := e1.trans e2
        rw [← hev] at e4
        exact e4
      rw [e3, SR.seq_nx, noted_end (by decide) (by decide)]
      rw [hxs]
      exact ⟨⟨M2, Ls2, rfl, L2, g2, o2⟩⟩
  | unmask k x hx =>
    obtain ⟨rok, lok, _⟩ := iv.x x (List.mem_of_getElem? hx)
    obtain ⟨M2, Ls2, z5, e2, L2, g2, o2⟩ := noted_mid (lw := lw) (llo := llo) (v := "unmask") (r := [.int (k : Int)]) (es := []) (evs := unmD k :: tickE w.c w.most w.wait (unmaskL x w.c) k) (x5 := none) (x6 := none) (e := unmD k) (w := "unmask") (x := x) (x2 := unmaskL x w.c) (j := k) (by decide) hL hg (by omega) hx rfl (.inr rfl) (unm_ok lok)
      (fun es hj hb => n_unm hL hj hb)
    rw [e2, SR.seq_nx, noted_end (by decide) (by decide)]
    exact ⟨⟨M2, Ls2, rfl, L2, g2, o2⟩⟩
  | poll k b x _ hx hl ht =>
    obtain ⟨y5, e⟩ := n_quiets (lw := lw) (llo := llo) (act := .tup [.str "poll", .int (k : Int), .int (b : Int)]) (evs0 := .tup evs) (c := w.c) (x6 := none) (es := []) (M := M) evs none (fun e he => by
      obtain ⟨r, hr⟩ := ht e he
      exact ⟨"took", r, hr, by decide, by decide, by decide⟩)
    rw [List.append_nil, loop_nil] at e
    show NotedOk M llo ls _ (B + 2) ((loop (gN 5) b__law_noted_0 evs (nE lw llo (.tup [.str "poll", .int (k : Int), .int (b : Int)]) (.tup evs) w.c none none) M).seq _).fin
    rw [e, SR.seq_nx]
    have hk : k < Ls.length := by rw [hg.len]; exact (List.getElem?_eq_some_iff.mp hx).1
    have hb : Ls[k].length ≤ B := hg.b _ (List.getElem_mem hk)
    obtain ⟨l, h1, h2, h3, h4⟩ := hL.get hk
    have ea : eM mAppend (eB dIx (eV 3) (eB dIx (eV 1) (eK (.int 1)))) (aCons (eN dTup (aCons (eK (.str "poll")) (aCons (eV 4) (aCons (eN dLen (aCons (eV 2) aNil)) aNil)))) aNil) (nE lw llo (.tup [.str "poll", .int (k : Int), .int (b : Int)]) (.tup evs) w.c y5 none) M = .ok .non (M.set l (.lst (Ls[k] ++ [row "poll" w.c (evs.length : Nat)]))) :=
      app_row (by simp [h4]) h2 (by unfold cap; omega) (by simp) (by simp) (by simp [dLen])
    obtain ⟨a, a1, a2⟩ := hg.lg k x Ls[k] hx (List.getElem?_eq_getElem hk)
    have hm : ((evs.length : Nat) : Int) ≤ (lnOf x).many := by
      show _ ≤ ((x.box.length : Nat) : Int)
      rw [hl, List.length_take]
      omega
    have g := Lg.calm a2 "poll" w.c (evs.length : Nat) ⟨.inr (.inl rfl), a1, by omega, by rw [if_pos rfl]; exact hm⟩ rfl
    have eln : lnOf (polledL x b) = bef (lnOf x) "poll" w.c (evs.length : Nat) := by rw [polled_ln, hl]
    rw [← eln] at g
    have eb : (sSeq (sIf (tB (eB dEq (eB dIx (eV 1) (eK (.int 0))) (eK (.str "poll")))) (sExpr (eM mAppend (eB dIx (eV 3) (eB dIx (eV 1) (eK (.int 1)))) (aCons (eN dTup (aCons (eK (.str "poll")) (aCons (eV 4) (aCons (eN dLen (aCons (eV 2) aNil)) aNil)))) aNil))) sNext)
      (sIf (tB (eB dEq (eB dIx (eV 1) (eK (.int 0))) (eK (.str "tick")))) (sFor (iRng1D (aCons (eN dLen (aCons (eV 3) aNil)) aNil)) (gN 6) b__law_noted_1) sNext)) (nE lw llo (.tup [.str "poll", .int (k : Int), .int (b : Int)]) (.tup evs) w.c y5 none) M =
        .nx (nE lw llo (.tup [.str "poll", .int (k : Int), .int (b : Int)]) (.tup evs) w.c y5 none) (M.set l (.lst (Ls[k] ++ [row "poll" w.c (evs.length : Nat)]))) := by
      unfold nE at ea ⊢
      simp [ea]
    rw [eb]
    exact ⟨⟨M.set l (.lst (Ls[k] ++ [row "poll" w.c (evs.length : Nat)])), _, rfl, hL.set h1 _, (hg.mono (Int.le_refl _) (by omega)).set (Int.le_refl _) g (by rw [List.length_append]; simp; omega), Only.set h3⟩⟩
  | tick q hq =>
    obtain ⟨y5, e⟩ := n_raisedTs (lw := lw) (llo := llo) (evs0 := .tup (tickEs (w.c + 1) w.most w.wait w.xs 0)) (c := w.c + 1) (x6 := none) (es := []) (M := M) (act := .tup [.str "tick"]) (r := []) rfl (tickEs (w.c + 1) w.most w.wait w.xs 0) none (fun e he => by
      obtain ⟨i, rfl⟩ := tickEs_mem he
      exact ⟨_, rfl⟩)
    rw [List.append_nil, loop_nil] at e
    show NotedOk M llo ls _ (B + 2) ((loop (gN 5) b__law_noted_0 (tickEs (w.c + 1) w.most w.wait w.xs 0) (nE lw llo (.tup [.str "tick"]) (.tup (tickEs (w.c + 1) w.most w.wait w.xs 0)) (w.c + 1) none none) M).seq _).fin
    rw [e, SR.seq_nx]
    obtain ⟨M2, Ls2, y6, e2, L2, g2, o2⟩ := tick_logs (lw := lw) (act := .tup [.str "tick"]) (most := w.most) (wait := w.wait) (c := w.c + 1) (x5 := y5) hB iv.hl w.xs [] M Ls none rfl hL (by simpa using hg.mono (show w.c ≤ w.c + 1 by omega) (show B ≤ B + 2 by omega)) (fun j x L _ hx hLL => by
      obtain ⟨a, a1, a2⟩ := hg.lg j x L hx hLL
      exact ⟨hg.b L (List.mem_of_getElem? hLL), a, by omega, a2⟩)
    have hn2 : ls.length = w.xs.length := hL.len.trans hg.len
    have ed : dLen [.loc llo] M = .ok (.int ((w.xs.length : Nat) : Int)) M := by simp [dLen, hL.at_, hn2]
    have eb : (sSeq (sIf (tB (eB dEq (eB dIx (eV 1) (eK (.int 0))) (eK (.str "poll")))) (sExpr (eM mAppend (eB dIx (eV 3) (eB dIx (eV 1) (eK (.int 1)))) (aCons (eN dTup (aCons (eK (.str "poll")) (aCons (eV 4) (aCons (eN dLen (aCons (eV 2) aNil)) aNil)))) aNil))) sNext)
      (sIf (tB (eB dEq (eB dIx (eV 1) (eK (.int 0))) (eK (.str "tick")))) (sFor (iRng1D (aCons (eN dLen (aCons (eV 3) aNil)) aNil)) (gN 6) b__law_noted_1) sNext)) (nE lw llo (.tup [.str "tick"]) (.tup (tickEs (w.c + 1) w.most w.wait w.xs 0)) (w.c + 1) y5 none) M =
        .nx (nE lw llo (.tup [.str "tick"]) (.tup (tickEs (w.c + 1) w.most w.wait w.xs 0)) (w.c + 1) y5 y6) M2 := by
      have ef : sFor (iRng1D (aCons (eN dLen (aCons (eV 3) aNil)) aNil)) (gN 6) b__law_noted_1 (nE lw llo (.tup [.str "tick"]) (.tup (tickEs (w.c + 1) w.most w.wait w.xs 0)) (w.c + 1) y5 none) M = .nx (nE lw llo (.tup [.str "tick"]) (.tup (tickEs (w.c + 1) w.most w.wait w.xs 0)) (w.c + 1) y5 y6) M2 := by
        rw [x_sFor, x_rng (n := w.xs.length) (M2 := M) (by unfold nE; simp [ed]) (by have := iv.hl; unfold cap; omega), rngD_range]
        exact e2
      rw [x_seq (δ2 := nE lw llo (.tup [.str "tick"]) (.tup (tickEs (w.c + 1) w.most w.wait w.xs 0)) (w.c + 1) y5 none) (M2 := M) (by unfold nE; simp), x_sIf]
      have et : tB (eB dEq (eB dIx (eV 1) (eK (.int 0))) (eK (.str "tick"))) (nE lw llo (.tup [.str "tick"]) (.tup (tickEs (w.c + 1) w.most w.wait w.xs 0)) (w.c + 1) y5 none) M = .ok true M := by unfold nE; simp
      rw [et, Res.st_ok, if_pos rfl, ef]
    rw [eb]
    exact ⟨⟨M2, Ls2, rfl, L2, g2, o2⟩⟩
end Dt
namespace Dt
theorem JsOk.mono {n m : Nat} {js : List D} (h : JsOk n js) (hm : n ≤ m) : JsOk m js := by
  obtain ⟨kvs, e, k⟩ := h
  exact ⟨kvs, e, k.nd, Nat.le_trans k.le hm, fun p hp => ⟨(k.mem p hp).1, (k.mem p hp).2.mono hm⟩⟩
abbrev LaneOk (n : Nat) (x : LS) : Prop := RingOk x.inw ∧ LnOk (lnOf x) ∧ (∀ d ∈ x.box, BoxOk d) ∧ x.box.length ≤ n
theorem LaneOk.mono {n m : Nat} {x : LS} (h : LaneOk n x) (hm : n ≤ m) : LaneOk m x := ⟨h.1, h.2.1, h.2.2.1, Nat.le_trans h.2.2.2 hm⟩
theorem LaneOk.tick {n : Nat} {x : LS} {c most wait : Int} (h : LaneOk n x) : LaneOk n (tickL c most wait x) := by
  unfold tickL
  split
  · exact ⟨h.1, by rw [← raise_ln x c]; exact h.2.1.raised, h.2.2.1, h.2.2.2⟩
  · exact h
theorem LaneOk.ring {n : Nat} {x : LS} {r2 : D} (h : LaneOk n x) (hr : RingOk r2) : LaneOk n { x with inw := r2 } := ⟨hr, h.2.1, h.2.2.1, h.2.2.2⟩
theorem set_all {P : LS → Prop} {xs : List LS} {j : Nat} {y : LS} (h : ∀ x ∈ xs, P x) (hy : P y) : ∀ x ∈ xs.set j y, P x := fun x hx => by
  rcases List.mem_or_eq_of_mem_set hx with z | z
  · exact h x z
  · rw [z]; exact hy
theorem InOk.lanes {n : Nat} {c most wait : Int} {xs xs2 : List LS} {evs : List D} (h : InOk c most wait xs xs2 evs) (hx : ∀ x ∈ xs, LaneOk n x) : ∀ x ∈ xs2, LaneOk (n + 1) x := by
  have hx1 : ∀ x ∈ xs, LaneOk (n + 1) x := fun x h => (hx x h).mono (by omega)
  rcases h.ex with ⟨_, rfl | ⟨j, x, r2, h1, h2, rfl⟩⟩ | ⟨j, x, r2, e, t, num, qs, h1, h2, h3, h4, rfl, _⟩
  · exact hx1
  · exact set_all hx1 ((hx1 x (List.mem_of_getElem? h1)).ring h2)
  · refine set_all hx1 (LaneOk.tick ?_)
    have hxx := hx x (List.mem_of_getElem? h1)
    refine ⟨h2, by rw [lnOf_box]; exact hxx.2.1.bef_ (Int.le_refl _) fun z => absurd z (by decide), fun d hd => ?_, ?_⟩
    · rcases List.mem_append.mp hd with z | z
      · exact hxx.2.2.1 d z
      · rw [List.mem_singleton.mp z]; exact h3
    · show (x.box ++ [e]).length ≤ n + 1
      rw [List.length_append]
      have := hxx.2.2.2
      simp
      omega
theorem Did.inv {n : Nat} {w w2 : WS} {act : D} {evs : List D} (did : Did n w act w2 evs) (iv : WInv n w) : WInv (n + 1) w2 := by
  have hx1 : ∀ x ∈ w.xs, LaneOk (n + 1) x := fun x h => LaneOk.mono (iv.x x h) (by omega)
  have js1 : JsOk (n + 1) w.js := iv.js.mono (by omega)
  cases did with
  | post k s x r2 hx hr =>
    exact ⟨by show 0 < (w.xs.set _ _).length; rw [List.length_set]; exact iv.h0, by show (w.xs.set _ _).length ≤ 2; rw [List.length_set]; exact iv.hl, js1, iv.pu, iv.pg, iv.c0, set_all hx1 ((hx1 x (List.mem_of_getElem? hx)).ring hr)⟩
  | postN k s => exact ⟨iv.h0, iv.hl, js1, iv.pu, iv.pg, iv.c0, hx1⟩
  | inn pc xs2 js2 pages2 _ h hj hp hl =>
    exact ⟨by show 0 < xs2.length; rw [h.len]; exact iv.h0, by show xs2.length ≤ 2; rw [h.len]; exact iv.hl, hj, iv.pu, hp, iv.c0, h.lanes fun x hx => iv.x x hx⟩
  | poll k b x _ hx hl ht =>
    refine ⟨by show 0 < (w.xs.set _ _).length; rw [List.length_set]; exact iv.h0, by show (w.xs.set _ _).length ≤ 2; rw [List.length_set]; exact iv.hl, js1, iv.pu, iv.pg, iv.c0, set_all hx1 ?_⟩
    have hxx := hx1 x (List.mem_of_getElem? hx)
    refine ⟨hxx.1, ?_, fun d hd => hxx.2.2.1 d (List.mem_of_mem_drop hd), ?_⟩
    · rw [polled_ln (c := 0)]
      refine hxx.2.1.bef_ (by omega) fun _ => ?_
      show (((x.box.take b).length : Nat) : Int) ≤ ((x.box.length : Nat) : Int)
      rw [List.length_take]
      omega
    · show (x.box.drop b).length ≤ n + 1
      rw [List.length_drop]
      have := hxx.2.2.2
      omega
  | unmask k x hx =>
    refine ⟨by show 0 < (w.xs.set _ _).length; rw [List.length_set]; exact iv.h0, by show (w.xs.set _ _).length ≤ 2; rw [List.length_set]; exact iv.hl, js1, iv.pu, iv.pg, iv.c0, set_all hx1 (LaneOk.tick ?_)⟩
    have hxx := hx1 x (List.mem_of_getElem? hx)
    have e : (unmaskL x w.c).inw = x.inw ∧ (unmaskL x w.c).box = x.box := by unfold unmaskL; split <;> exact ⟨rfl, rfl⟩
    exact ⟨by rw [e.1]; exact hxx.1, lnOk_unm hxx.2.1, by rw [e.2]; exact hxx.2.2.1, by rw [e.2]; exact hxx.2.2.2⟩
  | tick q hq =>
    refine ⟨by show 0 < (w.xs.map _).length; rw [List.length_map]; exact iv.h0, by show (w.xs.map _).length ≤ 2; rw [List.length_map]; exact iv.hl, js1, hq, iv.pg, by have := iv.c0; show 0 ≤ w.c + 1; omega, fun x hx => ?_⟩
    obtain ⟨y, hy, rfl⟩ := List.mem_map.mp hx
    exact (hx1 y hy).tick
/-- only the feed changed -/
structure Fed (lc lf : Nat) (M M2 : Mem) : Prop where
  ok : FeedOk lc M2 lf
  set_ : ∃ o, M2 = M.set lf o
theorem Fed.len {lc lf : Nat} {M M2 : Mem} (h : Fed lc lf M M2) : M2.length = M.length := by obtain ⟨o, e⟩ := h.set_; rw [e, List.length_set]
theorem Fed.get {lc lf k : Nat} {M M2 : Mem} (h : Fed lc lf M M2) (hk : lf ≠ k) : M2[k]? = M[k]? := by obtain ⟨o, e⟩ := h.set_; rw [e]; exact set_ne hk
theorem Fed.trans {lc lf : Nat} {M M2 M3 : Mem} (a : Fed lc lf M M2) (b : Fed lc lf M2 M3) : Fed lc lf M M3 := by
  obtain ⟨o, e⟩ := a.set_
  obtain ⟨u, f⟩ := b.set_
  exact ⟨b.ok, u, by rw [f, e, List.set_set]⟩
theorem draw {M : Mem} {lc lf : Nat} {m : Nat} (h : FeedOk lc M lf) (m0 : 0 < m) (m1 : m ≤ 1000) : ∃ (r : Nat) (M2 : Mem), r < m ∧ f__law_draw [.loc lf, .int (m : Int)] M = .ok (.int (r : Int)) M2 ∧ Fed lc lf M M2 := by
  obtain ⟨r, o, r0, r1, e, ok⟩ := p_draw h (m := (m : Int)) (by omega) (by omega)
  obtain ⟨k, hk⟩ : ∃ k : Nat, r = (k : Int) := ⟨r.toNat, by rw [Int.toNat_of_nonneg r0]⟩
  rw [hk] at e r1
  exact ⟨k, _, by omega, e, ok, o, rfl⟩
theorem p_stretch {M : Mem} {lc lf : Nat} (h : FeedOk lc M lf) : ∃ s M2, StrOk s ∧ f__law_stretch [.loc lf] M = .ok s M2 ∧ Fed lc lf M M2 := by
  obtain ⟨a, M1, ha, e1, f1⟩ := draw h (m := 8) (by decide) (by decide)
  obtain ⟨p, M2, hp, e2, f2⟩ := draw f1.ok (m := 9) (by decide) (by decide)
  obtain ⟨n, M3, hn, e3, f3⟩ := draw f2.ok (m := 9 - a) (by omega) (by omega)
  have q : (9 : Int) - (a : Int) = ((9 - a : Nat) : Int) := by omega
  refine ⟨placeD p a n, M3, ⟨p, a, n, rfl, hp, ha, by omega⟩, ?_, (f1.trans f2).trans f3⟩
  have e1 : f__law_draw [.loc lf, .int 8] M = .ok (.int (a : Int)) M1 := e1
  have e2 : f__law_draw [.loc lf, .int 9] M1 = .ok (.int (p : Int)) M2 := e2
  rw [← q] at e3
  simp [f__law_stretch, m__law_stretch, e1, e2, e3, x_tup3, placeD]
end Dt
namespace Dt
theorem x_mul2 (M : Mem) (i j : Int) (h0 : 0 ≤ j) (h1 : j ≤ 1000) : dMul (.int i) (.int j) M = .ok (.int (i * j)) M := x_mul M i j (by unfold mulOk; exact decide_eq_true (.inr (by omega)))
theorem x_cat (xs ys : List D) (h : xs.length + ys.length ≤ cap) (M : Mem) : dAdd (.tup xs) (.tup ys) M = .ok (.tup (xs ++ ys)) M := if_pos h
theorem Fed.refl {lc lf : Nat} {M : Mem} (h : FeedOk lc M lf) : Fed lc lf M M := by
  obtain ⟨a, l, c, cells, h1, h2, h3⟩ := id h
  obtain ⟨h4, h5⟩ := List.getElem?_eq_some_iff.mp h1
  exact ⟨h, M[lf], (List.set_getElem_self h4).symm⟩
theorem lcGo_fed {g : G} {t : T} {e : E} {δ : Env} {lc lf : Nat} {P : D → Prop} : ∀ {ds : List D} {M : Mem}, (∀ M d, FeedOk lc M lf → d ∈ ds → ∃ δ', g d δ = some δ' ∧ t δ' M = .ok true M ∧ ∃ y M2, e δ' M = .ok y M2 ∧ Fed lc lf M M2 ∧ P y) → FeedOk lc M lf →
    ∃ ys M2, lcGo g t e δ ds M = .ok ys M2 ∧ Fed lc lf M M2 ∧ ys.length = ds.length ∧ ∀ y ∈ ys, P y
  | [], M, _, hf => ⟨[], M, rfl, Fed.refl hf, rfl, fun y hy => absurd hy List.not_mem_nil⟩
  | d :: ds, M, h, hf => by
    obtain ⟨δ', h1, h2, y, M1, h3, f1, py⟩ := h M d hf List.mem_cons_self
    obtain ⟨ys, M2, ih, f2, l, p⟩ := lcGo_fed (ds := ds) (M := M1) (fun M d hf hd => h M d hf (List.mem_cons_of_mem _ hd)) f1.ok
    refine ⟨y :: ys, M2, ?_, f1.trans f2, by simp [l], fun z hz => ?_⟩
    · show (match g d δ with | none => Res.bad | some δ' => (t δ' M).ne.bind fun c M => if c = true then (e δ' M).ne.bind fun x M => (lcGo g t e δ ds M).bind fun xs M => .ok (x :: xs) M else lcGo g t e δ ds M) = _
      rw [h1]
      simp [h2, h3, ih]
    · rcases List.mem_cons.mp hz with q | q
      · rw [q]; exact py
      · exact p z q
theorem x_lLc_fed {it : Ar} {g : G} {t : T} {e : E} {vs : List Nat} {δ : Env} {M : Mem} {ds : List D} {lc lf : Nat} {P : D → Prop} (h1 : it δ M = .ok ds M) (h2 : ds.length ≤ 100000) (hf : FeedOk lc M lf)
    (h3 : ∀ M d, FeedOk lc M lf → d ∈ ds → ∃ δ', g d (wipeE δ vs) = some δ' ∧ t δ' M = .ok true M ∧ ∃ y M2, e δ' M = .ok y M2 ∧ Fed lc lf M M2 ∧ P y) :
    ∃ ys M2, lLc it g t e vs δ M = .ok ys M2 ∧ Fed lc lf M M2 ∧ ys.length = ds.length ∧ ∀ y ∈ ys, P y := by
  obtain ⟨ys, M2, q, f, l, p⟩ := lcGo_fed h3 hf
  refine ⟨ys, M2, ?_, f, l, p⟩
  show (it δ M).bind _ = _
  rw [h1, Res.bind_ok, if_pos h2, q]
/-- an item of a written list, drawn -/
theorem x_pick {l : Ar} {e : E} {δ : Env} {M M2 : Mem} {ds : List D} {r : Nat} (h1 : l δ M = .ok ds M) (h2 : e δ M = .ok (.int (r : Int)) M2) (hr : r < ds.length) : eIxL l e δ M = .ok ds[r] M2 := by
  have q : L2.atI ds (r : Int) = some ds[r] := atI_nat _ _ _ (List.getElem?_eq_getElem hr)
  show (l δ M).bind _ = _
  rw [h1]
  simp only [Res.bind_ok, h2, q]
theorem ints_of : ∀ {ds : List D}, (∀ d ∈ ds, ∃ i : Int, d = .int i) → ∃ ws : List Int, ds = ws.map D.int
  | [], _ => ⟨[], rfl⟩
  | d :: ds, h => by
    obtain ⟨i, rfl⟩ := h d List.mem_cons_self
    obtain ⟨ws, rfl⟩ := ints_of (ds := ds) fun d hd => h d (List.mem_cons_of_mem _ hd)
    exact ⟨i :: ws, rfl⟩
theorem lDisp_ok {a : Ar} {δ : Env} {M M2 : Mem} {ds : List D} (h : a δ M = .ok ds M2) (hl : ds.length ≤ 100) : lDisp a δ M = .ok ds M2 := by
  show (a δ M).bind _ = _
  rw [h, Res.bind_ok, if_pos (by unfold cap; omega)]
theorem p_some {M : Mem} {lc lf n : Nat} (h : FeedOk lc M lf) (hn : n ≤ 100) : ∃ ws M2, ws.length = n ∧ f__law_some [.loc lf, .int (n : Int)] M = .ok (wsD ws) M2 ∧ Fed lc lf M M2 := by
  obtain ⟨ys, M2, e, f, l, p⟩ := x_lLc_fed (it := iRng1D (aCons (eV 1) aNil)) (g := gN 2) (t := tYes) (e := eIxL (lDisp (aCons (eK (.int 0)) (aCons (eK (.int 1)) (aCons (eK (.int 7)) (aCons (eB dPow (eK (.int 10)) (eK (.int 6))) (aCons (eK (.int 42)) (aCons (eK (.int 3)) aNil))))))) (eC f__law_draw (aCons (eV 0) (aCons (eK (.int 6)) aNil)))) (vs := [2])
    (δ := [some (.loc lf), some (.int (n : Int)), none]) (M := M) (ds := rngD 0 n) (lf := lf) (P := fun y => ∃ i : Int, y = .int i) (x_rng (n := n) (by simp) (by unfold cap; omega)) (by rw [rngD_len]; omega) h fun M d hf _ => by
      obtain ⟨r, M2, hr, e1, f1⟩ := draw hf (m := 6) (by decide) (by decide)
      have e1 : f__law_draw [.loc lf, .int 6] M = .ok (.int (r : Int)) M2 := e1
      have hp : dPow (.int 10) (.int 6) M = .ok (.int 1000000) M := rfl
      refine ⟨[some (.loc lf), some (.int (n : Int)), some d], by simp [wipeE], rfl, _, M2, x_pick (ds := [.int 0, .int 1, .int 7, .int 1000000, .int 42, .int 3]) (r := r) (lDisp_ok (by simp [hp]) (by simp)) (by simp [e1]) hr, f1, ?_⟩
      match r, hr with
      | 0, _ => exact ⟨_, rfl⟩
      | 1, _ => exact ⟨_, rfl⟩
      | 2, _ => exact ⟨_, rfl⟩
      | 3, _ => exact ⟨_, rfl⟩
      | 4, _ => exact ⟨_, rfl⟩
      | 5, _ => exact ⟨_, rfl⟩
  obtain ⟨ws, rfl⟩ := ints_of p
  refine ⟨ws, M2, by rw [rngD_len] at l; simpa using l, ?_, f⟩
  have hr : f__law_some [.loc lf, .int (n : Int)] M = (m__law_some [some (.loc lf), some (.int (n : Int)), none] M).fin := x_run rfl rfl
  rw [hr]
  unfold m__law_some
  rw [x_sRet, x_eL, e]
  rfl
theorem p_summed (e : Int) (t : D) (num part parts : Int) (ws : List Int) (g : Int) (hl : ws.length ≤ 8) (M : Mem) : ∃ z : Int, f_summed [pieceD e t num part parts ws g] M = .ok (pieceD e t num part parts ws z) M := by
  obtain ⟨z, hz⟩ := p_sum_due e t num part parts ws g (by omega) M
  refine ⟨z, ?_⟩
  have e1 : dSl (pieceD e t num part parts ws g) none (some 6) M = .ok (.tup [.int e, t, .int num, .int part, .int parts, wsD ws]) M := by
    show Res.ok (D.tup (cutD _ none (some ((6 : Nat) : Int)))) M = _
    rw [cut_to]
    rfl
  have e2 : dAdd (.tup [.int e, t, .int num, .int part, .int parts, wsD ws]) (.tup [.int z]) M = .ok (pieceD e t num part parts ws z) M := x_cat _ _ (by show 7 ≤ 100000; decide) M
  simp [f_summed, m_summed, e1, hz, x_tup1, e2]
theorem cutD_ints (ws : List Int) (lo hi : Option Int) : ∃ vs : List Int, cutD (ws.map D.int) lo hi = vs.map D.int ∧ vs.length ≤ ws.length := by
  unfold cutD
  rw [← List.map_drop, ← List.map_take]
  exact ⟨_, rfl, by rw [List.length_take, List.length_drop]; omega⟩
theorem pc_slice {δ : Env} {M : Mem} {ds : List D} {k cut : Int} (h5 : δ[5]? = some (some (.tup ds))) (h8 : δ[8]? = some (some (.int k))) (h2 : δ[2]? = some (some (.int cut))) (c0 : 0 ≤ cut) (c1 : cut ≤ 1000) :
    eSl (eV 5) (qE (eB dMul (eV 8) (eV 2))) (qE (eB dAdd (eB dMul (eV 8) (eV 2)) (eV 2))) δ M = .ok (.tup (cutD ds (some (k * cut)) (some (k * cut + cut)))) M := by
  have h1 : eB dMul (eV 8) (eV 2) δ M = .ok (.int (k * cut)) M := by
    rw [x_eB, x_eV, h8]
    simp only [Res.bind_ok]
    rw [x_eV, h2]
    simp only [Res.bind_ok]
    exact x_mul2 M k cut c0 c1
  rw [x_eSl, x_eV, h5]
  simp only [Res.bind_ok]
  rw [x_qE, h1]
  simp only [Res.bind_ok]
  rw [x_qE, x_eB, h1]
  simp only [Res.bind_ok]
  rw [x_eV, h2]
  simp only [Res.bind_ok, x_add, x_dSl]
theorem pieces_run {t : D} {num e cut P : Int} {ws : List Int} {M : Mem} {A : Option D} (ht : t ∈ TALKS) (hl : ws.length ≤ 8) (hc : 0 ≤ cut ∧ cut ≤ 10) : ∀ (ks : List Nat) (acc : List D) (x8 x9 : Option D), (∀ k ∈ ks, k < 100) → acc.length + ks.length ≤ 1000 → (∀ p ∈ acc, PieceOk p) → ∃ ps y8 y9, ps.length = acc.length + ks.length ∧ (∀ p ∈ ps, PieceOk p) ∧
    loop (gN 8) b_pieces_of_0 (ks.map fun (i : Nat) => D.int (i : Int)) [A, some (.int e), some (.int cut), some t, some (.int num), some (wsD ws), some (.int P), some (.loc M.length), x8, x9] (M ++ [.lst acc]) =
      .nx [A, some (.int e), some (.int cut), some t, some (.int num), some (wsD ws), some (.int P), some (.loc M.length), y8, y9] (M ++ [.lst ps])
  | [], acc, x8, x9, _, _, ha => ⟨acc, x8, x9, rfl, ha, rfl⟩
  | k :: ks, acc, x8, x9, hk, hl2, ha => by
    rw [List.map_cons]
    generalize (k : Int) = kz
    obtain ⟨M1, hM1⟩ : ∃ M1, M1 = M ++ [MO.lst acc] := ⟨_, rfl⟩
    obtain ⟨vs, hv, hvl⟩ := cutD_ints ws (some (kz * cut)) (some (kz * cut + cut))
    obtain ⟨z, hz⟩ := p_summed e t num kz P vs 0 (by omega) M1
    obtain ⟨p, hp⟩ : ∃ p, p = pieceD e t num kz P vs z := ⟨_, rfl⟩
    have hpk : PieceOk p := ⟨e, t, num, kz, P, vs, z, hp, ht, by omega⟩
    obtain ⟨ps, y8, y9, l, pk, e2⟩ := pieces_run (M := M) (e := e) (cut := cut) (num := num) (P := P) (A := A) ht hl hc ks (acc ++ [p]) (some (.int kz)) (some (.tup (vs.map D.int))) (fun k h => hk k (List.mem_cons_of_mem _ h)) (by simp at hl2 ⊢; omega) (fun q hq => by
      rcases List.mem_append.mp hq with z | z
      · exact ha q z
      · rw [List.mem_singleton.mp z]; exact hpk)
    refine ⟨ps, y8, y9, by rw [l]; simp; omega, pk, ?_⟩
    rw [loop_nx (δ1 := [A, some (.int e), some (.int cut), some t, some (.int num), some (wsD ws), some (.int P), some (.loc M.length), some (.int kz), x9]) (δ2 := [A, some (.int e), some (.int cut), some t, some (.int num), some (wsD ws), some (.int P), some (.loc M.length), some (.int kz), some (.tup (vs.map D.int))]) (M2 := M ++ [.lst (acc ++ [p])]) (by simp) ?_, e2]
    have g1 : sAsg (gN 9) (eSl (eV 5) (qE (eB dMul (eV 8) (eV 2))) (qE (eB dAdd (eB dMul (eV 8) (eV 2)) (eV 2)))) [A, some (.int e), some (.int cut), some t, some (.int num), some (wsD ws), some (.int P), some (.loc M.length), some (.int kz), x9] M1 =
        .nx [A, some (.int e), some (.int cut), some t, some (.int num), some (wsD ws), some (.int P), some (.loc M.length), some (.int kz), some (.tup (vs.map D.int))] M1 := by
      rw [x_sAsg, pc_slice (ds := ws.map D.int) (k := kz) (cut := cut) rfl rfl rfl hc.1 (by omega), hv]
      rfl
    have hz2 : f_summed [.tup [.int e, t, .int num, .int kz, .int P, .tup (vs.map D.int), .int 0]] M1 = .ok p M1 := by rw [hp]; exact hz
    have g2 : sExpr (eM mAppend (eV 7) (aCons (eC f_summed (aCons (eN dTup (aCons (eV 1) (aCons (eV 3) (aCons (eV 4) (aCons (eV 8) (aCons (eV 6) (aCons (eV 9) (aCons (eK (.int 0)) aNil)))))))) aNil)) aNil)) [A, some (.int e), some (.int cut), some t, some (.int num), some (wsD ws), some (.int P), some (.loc M.length), some (.int kz), some (.tup (vs.map D.int))] M1 =
        .nx [A, some (.int e), some (.int cut), some t, some (.int num), some (wsD ws), some (.int P), some (.loc M.length), some (.int kz), some (.tup (vs.map D.int))] (M ++ [.lst (acc ++ [p])]) := by
      have := x_app (o := eV 7) (e := eC f_summed (aCons (eN dTup (aCons (eV 1) (aCons (eV 3) (aCons (eV 4) (aCons (eV 8) (aCons (eV 6) (aCons (eV 9) (aCons (eK (.int 0)) aNil)))))))) aNil)) (δ := [A, some (.int e), some (.int cut), some t, some (.int num), some (wsD ws), some (.int P), some (.loc M.length), some (.int kz), some (.tup (vs.map D.int))]) (M := M1) (l := M.length) (ds := acc) (d := p) (by simp) (by rw [hM1]; simp) (by simp [x_tup7, hz2]) (by simp at hl2; unfold cap; omega)
      rw [x_sExpr, this, hM1, last_set]
      rfl
    rw [← hM1]
    unfold b_pieces_of_0
    rw [x_seq g1, g2]
theorem p_pieces {t : D} {num e : Int} {cut : Nat} {ws : List Int} (ht : t ∈ TALKS) (hl : ws.length ≤ 8) (hc : 1 ≤ cut ∧ cut ≤ 4) (M : Mem) : ∃ ps, ps ≠ [] ∧ ps.length ≤ 20 ∧ (∀ p ∈ ps, PieceOk p) ∧ f_pieces_of [letterD t num ws, .int e, .int (cut : Int)] M = .ok (.tup ps) (M ++ [.lst ps]) := by
  obtain ⟨Q, hQ⟩ : ∃ Q : Int, Q = (((ws.length : Nat) : Int) + (cut : Int) - 1) / (cut : Int) := ⟨_, rfl⟩
  have hQ1 : Q ≤ 12 := by
    rw [hQ]
    have := Int.ediv_le_self (a := ((ws.length : Nat) : Int) + (cut : Int) - 1) (cut : Int) (by omega)
    omega
  obtain ⟨P, hP⟩ : ∃ P : Nat, (if Q > 1 then Q else 1) = (P : Int) ∧ 1 ≤ P ∧ P ≤ 12 := by
    by_cases h : Q > 1
    · exact ⟨Q.toNat, by rw [if_pos h]; omega, by omega, by omega⟩
    · exact ⟨1, by rw [if_neg h]; rfl, by omega, by omega⟩
  obtain ⟨hP, hP1, hP2⟩ := hP
  have hr : f_pieces_of [letterD t num ws, .int e, .int (cut : Int)] M = (m_pieces_of [some (letterD t num ws), some (.int e), some (.int (cut : Int)), none, none, none, none, none, none, none] M).fin := x_run rfl rfl
  have ed := x_div M (((ws.length : Nat) : Int) + (cut : Int) - 1) (cut : Int) (by omega) (by omega)
  rw [← hQ] at ed
  have el : dLen [wsD ws] M = .ok (.int ((ws.length : Nat) : Int)) M := by simp [wsD, dLen]
  have g1 : sAsg (gT [(gN 3), (gN 4), (gN 5)]) (eV 0) [some (letterD t num ws), some (.int e), some (.int (cut : Int)), none, none, none, none, none, none, none] M = .nx [some (letterD t num ws), some (.int e), some (.int (cut : Int)), some t, some (.int num), some (wsD ws), none, none, none, none] M := by
    simp [letterD]
  have em : dMax2 [.int 1, .int Q] M = .ok (.int (P : Int)) M := by rw [← hP]; rfl
  have g2 : sAsg (gN 6) (eN dMax2 (aCons (eK (.int 1)) (aCons (eB dDiv (eB dSub (eB dAdd (eN dLen (aCons (eV 5) aNil)) (eV 2)) (eK (.int 1))) (eV 2)) aNil))) [some (letterD t num ws), some (.int e), some (.int (cut : Int)), some t, some (.int num), some (wsD ws), none, none, none, none] M =
      .nx [some (letterD t num ws), some (.int e), some (.int (cut : Int)), some t, some (.int num), some (wsD ws), some (.int (P : Int)), none, none, none] M := by
    simp [el, ed, em]
  have g3 : sAsg (gN 7) (eL dReg (lDisp aNil)) [some (letterD t num ws), some (.int e), some (.int (cut : Int)), some t, some (.int num), some (wsD ws), some (.int (P : Int)), none, none, none] M =
      .nx [some (letterD t num ws), some (.int e), some (.int (cut : Int)), some t, some (.int num), some (wsD ws), some (.int (P : Int)), some (.loc M.length), none, none] (M ++ [.lst []]) := by
    simp [cap]
  obtain ⟨ps, y8, y9, l, pk, e2⟩ := pieces_run (M := M) (e := e) (cut := (cut : Int)) (num := num) (P := (P : Int)) (A := some (letterD t num ws)) ht hl ⟨by omega, by omega⟩ (List.range' 0 P) [] none none (fun k h => by rw [List.mem_range'_1] at h; omega) (by simp; omega) (fun p h => absurd h List.not_mem_nil)
  have g4 : sFor (iRng1D (aCons (eV 6) aNil)) (gN 8) b_pieces_of_0 [some (letterD t num ws), some (.int e), some (.int (cut : Int)), some t, some (.int num), some (wsD ws), some (.int (P : Int)), some (.loc M.length), none, none] (M ++ [.lst []]) =
      .nx [some (letterD t num ws), some (.int e), some (.int (cut : Int)), some t, some (.int num), some (wsD ws), some (.int (P : Int)), some (.loc M.length), y8, y9] (M ++ [.lst ps]) := by
    rw [x_sFor, x_rng (n := P) (M2 := M ++ [.lst []]) (by simp) (by unfold cap; omega), rngD_range]
    exact e2
  have l : ps.length = P := by simpa using l
  refine ⟨ps, fun z => by rw [z] at l; simp at l; omega, by omega, pk, ?_⟩
  rw [hr]
  unfold m_pieces_of
  rw [x_seq g1, x_seq g2, x_seq g3, x_seq g4]
  simp [dTupOf]
theorem p_bent {p : D} (h : PieceOk p) (k : Nat) (M : Mem) : ∃ q, PieceOk q ∧ f_bent [p, .int (k : Int)] M = .ok q M := by
  obtain ⟨e, t, num, part, parts, ws, g, rfl, ht, hl⟩ := h
  have e5 : dIx (pieceD e t num part parts ws g) (.int 5) M = .ok (wsD ws) M := by simp [pieceD]
  have e6 : dIx (pieceD e t num part parts ws g) (.int 6) M = .ok (.int g) M := by simp [pieceD]
  have el : dLen [wsD ws] M = .ok (.int ((ws.length : Nat) : Int)) M := by simp [wsD, dLen]
  by_cases hk : ws.length ≤ k
  · have q : ((ws.length : Nat) : Int) ≤ (k : Int) := by omega
    have e1 : dSl (pieceD e t num part parts ws g) none (some 6) M = .ok (.tup [.int e, t, .int num, .int part, .int parts, wsD ws]) M := by
      show Res.ok (D.tup (cutD _ none (some ((6 : Nat) : Int)))) M = _
      rw [cut_to]
      rfl
    have em := x_mod M (g + 1) 10007 (by decide)
    have e2 : dAdd (.tup [.int e, t, .int num, .int part, .int parts, wsD ws]) (.tup [.int ((g + 1) % 10007)]) M = .ok (pieceD e t num part parts ws ((g + 1) % 10007)) M := x_cat _ _ (by show 7 ≤ 100000; decide) M
    exact ⟨pieceD e t num part parts ws ((g + 1) % 10007), ⟨e, t, num, part, parts, ws, (g + 1) % 10007, rfl, ht, hl⟩, by simp [f_bent, m_bent, e5, e6, el, hk, e1, em, x_tup1, e2]⟩
  · have hk2 : k < ws.length := by omega
    have q : ¬ ((ws.length : Nat) : Int) ≤ (k : Int) := by omega
    have e1 : dSl (pieceD e t num part parts ws g) none (some 5) M = .ok (.tup [.int e, t, .int num, .int part, .int parts]) M := by
      show Res.ok (D.tup (cutD _ none (some ((5 : Nat) : Int)))) M = _
      rw [cut_to]
      rfl
    have ei : dIx (wsD ws) (.int (k : Int)) M = .ok (.int ws[k]) M := by
      have : L2.atI (ws.map D.int) (k : Int) = some (.int ws[k]) := atI_nat _ _ _ (by rw [List.getElem?_map, List.getElem?_eq_getElem hk2]; rfl)
      unfold wsD
      rw [x_ixT, this]
    have s1 : dSl (wsD ws) none (some (k : Int)) M = .ok (wsD (ws.take k)) M := by
      show Res.ok (D.tup (cutD _ none (some (k : Int)))) M = _
      rw [cut_to, ← List.map_take]
      rfl
    have s2 : dSl (wsD ws) (some ((k : Int) + 1)) none M = .ok (wsD (ws.drop (k + 1))) M := by
      show Res.ok (D.tup (cutD _ (some ((k + 1 : Nat) : Int)) none)) M = _
      rw [cut_from, ← List.map_drop]
      rfl
    have a1 : dAdd (wsD (ws.take k)) (.tup [.int (ws[k] + 1)]) M = .ok (wsD (ws.take k ++ [ws[k] + 1])) M := by
      show (if ((ws.take k).map D.int).length + 1 ≤ cap then _ else _) = _
      rw [if_pos (by simp; unfold cap; omega)]
      unfold wsD
      rw [List.map_append]
      rfl
    have a2 : dAdd (wsD (ws.take k ++ [ws[k] + 1])) (wsD (ws.drop (k + 1))) M = .ok (wsD (ws.take k ++ [ws[k] + 1] ++ ws.drop (k + 1))) M := by
      show (if ((ws.take k ++ [ws[k] + 1]).map D.int).length + ((ws.drop (k + 1)).map D.int).length ≤ cap then _ else _) = _
      rw [if_pos (by simp; unfold cap; omega), ← List.map_append]
      rfl
    have a3 : dAdd (.tup [.int e, t, .int num, .int part, .int parts]) (.tup [wsD (ws.take k ++ [ws[k] + 1] ++ ws.drop (k + 1)), .int g]) M = .ok (pieceD e t num part parts (ws.take k ++ [ws[k] + 1] ++ ws.drop (k + 1)) g) M := x_cat _ _ (by show 7 ≤ 100000; decide) M
    refine ⟨_, ⟨e, t, num, part, parts, ws.take k ++ [ws[k] + 1] ++ ws.drop (k + 1), g, rfl, ht, by simp; omega⟩, ?_⟩
    simp only [List.append_assoc, List.singleton_append] at a2 a3
    simp only [List.append_assoc, List.singleton_append]
    simp [f_bent, m_bent, e5, e6, el, hk, e1, ei, s1, s2, x_tup1, x_tup2, a1, a2, a3]
end Dt
namespace Dt
open PySem
/-- lists and dicts of the world -/
structure Bag (n : Nat) (M : Mem) (w : WS) : Prop where
  far : ∃ far, M[w.lfar]? = some (.lst far) ∧ (∀ p ∈ far, PieceOk p) ∧ far.length ≤ 30 * n
  num : ∃ kvs, M[w.ln]? = some (.dn kvs) ∧ kvs.length ≤ n ∧ ∀ p ∈ kvs, ∃ i : Int, p.2 = .int i
  let_ : ∃ kvs, M[w.ll]? = some (.dn kvs) ∧ kvs.length ≤ n
  lan : ∃ ds, M[w.lla]? = some (.lst ds) ∧ ds.length = w.xs.length
/-- all but the places S stand as they were -/
def Chg (S : List Nat) (M M2 : Mem) : Prop := M.length ≤ M2.length ∧ ∀ l, l < M.length → l ∉ S → M2[l]? = M[l]?
theorem Chg.refl {S : List Nat} {M : Mem} : Chg S M M := ⟨Nat.le_refl _, fun _ _ _ => rfl⟩
theorem Chg.trans {S : List Nat} {M M2 M3 : Mem} (a : Chg S M M2) (b : Chg S M2 M3) : Chg S M M3 := ⟨Nat.le_trans a.1 b.1, fun l h1 h2 => (b.2 l (Nat.lt_of_lt_of_le h1 a.1) h2).trans (a.2 l h1 h2)⟩
theorem Chg.set {S : List Nat} {M : Mem} {l : Nat} {o : MO} (h : l ∈ S) : Chg S M (M.set l o) := ⟨by rw [List.length_set]; exact Nat.le_refl _, fun k _ hk => set_ne fun z => hk (by rw [← z]; exact h)⟩
theorem Chg.app {S : List Nat} {M X : Mem} : Chg S M (M ++ X) := ⟨by rw [List.length_append]; omega, fun l h _ => List.getElem?_append_left h⟩
theorem Chg.mono {S T : List Nat} {M M2 : Mem} (a : Chg S M M2) (h : ∀ l ∈ S, l ∈ T) : Chg T M M2 := ⟨a.1, fun l h1 h2 => a.2 l h1 fun z => h2 (h l z)⟩
theorem Fed.chg {lc lf : Nat} {M M2 : Mem} {S : List Nat} (f : Fed lc lf M M2) (h : lf ∈ S) : Chg S M M2 := by
  obtain ⟨o, e⟩ := f.set_
  rw [e]
  exact Chg.set h
theorem Chg.get {S : List Nat} {M M2 : Mem} (a : Chg S M M2) {l : Nat} {o : MO} (h : M[l]? = some o) (hl : l ∉ S) : M2[l]? = some o := by
  rw [a.2 l (List.getElem?_eq_some_iff.mp h).1 hl]
  exact h
theorem WorldAt.chg {S : List Nat} {M M2 : Mem} {lw : Nat} {w : WS} (h : WorldAt M lw w) (a : Chg S M M2) (hl : lw ∉ S) : WorldAt M2 lw w := by
  obtain ⟨kvs, h1, h2⟩ := h
  exact ⟨kvs, a.get h1 hl, h2⟩
theorem FeedOk.chg {S : List Nat} {M M2 : Mem} {lc lf : Nat} (h : FeedOk lc M lf) (a : Chg S M M2) (h1 : lf ∉ S) (h2 : lc ∉ S) : FeedOk lc M2 lf := by
  obtain ⟨x, l, c, cells, e1, e2, e3⟩ := h
  exact ⟨x, l, c, cells, a.get e1 h1, a.get e2 h2, e3⟩
/-- the places stand apart -/
def Apart (lf lc lw : Nat) (w : WS) : Prop := [lf, lc, lw, w.lfar, w.ln, w.ll, w.lla].Nodup
theorem p_talk {M : Mem} {lc lf lw : Nat} {w : WS} (hf : FeedOk lc M lf) (hw : WorldAt M lw w) (hne : lf ≠ lw) : ∃ t M2, t ∈ TALKS ∧ Fed lc lf M M2 ∧ eN dTup (aCons (eIxL (lDisp (aCons (eN dTup (aCons (eK (.int 1)) (aCons (eK (.str "bob")) aNil))) (aCons (eN dTup (aCons (eK (.int 1)) (aCons (eK (.str "cy")) aNil))) aNil))) (eC f__law_draw (aCons (eV 0) (aCons (eK (.int 2)) aNil)))) (aCons (eU (dGetS "half") (eV 1)) (aCons (eIxL (lDisp (aCons (eK (.str "hi")) (aCons (eK (.str "yo")) aNil))) (eC f__law_draw (aCons (eV 0) (aCons (eK (.int 2)) aNil)))) aNil)))
    [some (.loc lf), some (.loc lw), none, none, none] M = .ok t M2 := by
  obtain ⟨r1, M1, h1, e1, f1⟩ := draw hf (m := 2) (by decide) (by decide)
  obtain ⟨r2, M2, h2, e2, f2⟩ := draw f1.ok (m := 2) (by decide) (by decide)
  obtain ⟨kvs, hM, K⟩ := hw
  have hM1 : M1[lw]? = some (.dk kvs) := by rw [f1.get hne]; exact hM
  have eh := x_getS hM1 K.half
  have e1 : f__law_draw [.loc lf, .int 2] M = .ok (.int (r1 : Int)) M1 := e1
  have e2 : f__law_draw [.loc lf, .int 2] M1 = .ok (.int (r2 : Int)) M2 := e2
  have q1 : eIxL (lDisp (aCons (eN dTup (aCons (eK (.int 1)) (aCons (eK (.str "bob")) aNil))) (aCons (eN dTup (aCons (eK (.int 1)) (aCons (eK (.str "cy")) aNil))) aNil))) (eC f__law_draw (aCons (eV 0) (aCons (eK (.int 2)) aNil))) [some (.loc lf), some (.loc lw), none, none, none] M = .ok ([D.tup [.int 1, .str "bob"], D.tup [.int 1, .str "cy"]][r1]) M1 :=
    x_pick (lDisp_ok (by simp [x_tup2]) (by simp)) (by simp [e1]) h1
  have q2 : eIxL (lDisp (aCons (eK (.str "hi")) (aCons (eK (.str "yo")) aNil))) (eC f__law_draw (aCons (eV 0) (aCons (eK (.int 2)) aNil))) [some (.loc lf), some (.loc lw), none, none, none] M1 = .ok ([D.str "hi", D.str "yo"][r2]) M2 :=
    x_pick (lDisp_ok (by simp) (by simp)) (by simp [e2]) h2
  refine ⟨.tup [[D.tup [.int 1, .str "bob"], D.tup [.int 1, .str "cy"]][r1], HALF, [D.str "hi", D.str "yo"][r2]], M2, ?_, f1.trans f2, ?_⟩
  · match r1, r2, h1, h2 with
    | 0, 0, _, _ => exact .head _
    | 0, 1, _, _ => exact .tail _ (.head _)
    | 1, 0, _, _ => exact .tail _ (.tail _ (.head _))
    | 1, 1, _, _ => exact .tail _ (.tail _ (.tail _ (.head _)))
  · rw [x_eN, x_aCons, q1]
    simp only [Res.bind_ok]
    rw [x_aCons, x_eU, x_eV]
    simp only [List.getElem?_cons_zero, List.getElem?_cons_succ, Res.bind_ok]
    rw [eh]
    simp only [Res.bind_ok]
    rw [x_aCons, q2]
    simp only [Res.bind_ok, x_aNil, x_tup3]
theorem coin {M : Mem} {lc lf m : Nat} {δ : Env} (hf : FeedOk lc M lf) (m0 : 0 < m) (m1 : m ≤ 1000) (h0 : δ[0]? = some (some (.loc lf))) : ∃ (i : Int) (M2 : Mem), Fed lc lf M M2 ∧ eN dInt1 (aCons (eB dEq (eC f__law_draw (aCons (eV 0) (aCons (eK (.int (m : Int))) aNil))) (eK (.int 0))) aNil) δ M = .ok (.int i) M2 := by
  obtain ⟨r, M1, h1, e1, f1⟩ := draw hf m0 m1
  refine ⟨if ((r : Int) == 0) = true then 1 else 0, M1, f1, ?_⟩
  rw [x_eN, x_aCons, x_eB, x_eC, x_aCons, x_eV, h0]
  simp only [Res.bind_ok, x_aCons, x_eK, x_aNil]
  rw [e1]
  rfl
theorem WK.put_era {w : WS} {kvs : List (String × D)} (K : WK w kvs) (e : Int) : WK { w with era := e } (putS kvs "era" (.int e)) := by
  have base : ∀ k, k ≠ "era" → getS (putS kvs "era" (.int e)) k = getS kvs k := fun k h => by rw [get_put, if_neg (Ne.symm h)]
  exact ⟨put_nd _ _ _ K.nd, by rw [put_len2 _ _ _ _ K.era]; exact K.len, by rw [base _ (by decide)]; exact K.value, by rw [base _ (by decide)]; exact K.memory, by rw [base _ (by decide)]; exact K.rights, by rw [base _ (by decide)]; exact K.clock,
    by rw [base _ (by decide)]; exact K.most, by rw [base _ (by decide)]; exact K.wait, by rw [base _ (by decide)]; exact K.half, by rw [get_put, if_pos rfl], by rw [base _ (by decide)]; exact K.far, by rw [base _ (by decide)]; exact K.numbered, by rw [base _ (by decide)]; exact K.letters, by rw [base _ (by decide)]; exact K.lanes⟩
theorem putN_mem {kvs : List (D × D)} {k v : D} {p : D × D} (h : p ∈ putN kvs k v) : p.2 = v ∨ ∃ q ∈ kvs, p.2 = q.2 := by
  unfold putN at h
  split at h
  · obtain ⟨q, h1, rfl⟩ := List.mem_map.mp h
    split
    · exact .inl rfl
    · exact .inr ⟨q, h1, rfl⟩
  · rcases List.mem_append.mp h with z | z
    · exact .inr ⟨p, z, rfl⟩
    · rw [List.mem_singleton.mp z]; exact .inl rfl
theorem putN_len (kvs : List (D × D)) (k v : D) : (putN kvs k v).length ≤ kvs.length + 1 := by
  unfold putN
  split <;> simp
end Dt
namespace Dt
open PySem
theorem mputN {l : Nat} {M : Mem} {kvs : List (D × D)} {k v : D} (h : M[l]? = some (.dn kvs)) (hk : kOk k = true) (hl : kvs.length < cap) : mPutN (.loc l) k v M = some (M.set l (.dn (putN kvs k v))) := by
  unfold mPutN
  simp only [h]
  exact if_pos ⟨hk, hl⟩
theorem x_putN {o k v : E} {δ : Env} {M M1 M2 M3 : Mem} {l : Nat} {kvs : List (D × D)} {y q : D} (hv : v δ M = .ok y M1) (ho : o δ M1 = .ok (.loc l) M2) (hk : k δ M2 = .ok q M3) (h : M3[l]? = some (.dn kvs)) (hq : kOk q = true) (hl : kvs.length < cap) :
    sPutN o k v δ M = .nx δ (M3.set l (.dn (putN kvs q y))) := by
  unfold sPutN
  rw [hv]
  simp only [Res.st_ok, ho, hk, mputN h hq hl]
theorem pair_kOk {t : D} (h : t ∈ TALKS) (i : Int) : kOk (.tup [t, .int i]) = true := by
  have h1 : ∀ t ∈ TALKS, keyB 7 t = true := by decide
  show ([t, .int i] : List D).all (keyB 7) = true
  simp [h1 t h, keyB]
theorem let_tup {lf lw : Nat} {t : D} {num z : Int} {ws : List Int} {M5 M6 M7 : Mem} (e6 : f__law_draw [.loc lf, .int 9] M5 = .ok (.int z) M6) (e7 : f__law_some [.loc lf, .int z] M6 = .ok (wsD ws) M7) :
    sAsg (gN 4) (eN dTup (aCons (eV 2) (aCons (eV 3) (aCons (eC f__law_some (aCons (eV 0) (aCons (eC f__law_draw (aCons (eV 0) (aCons (eK (.int 9)) aNil))) aNil))) aNil)))) [some (.loc lf), some (.loc lw), some t, some (.int num), none] M5 = .nx [some (.loc lf), some (.loc lw), some t, some (.int num), some (letterD t num ws)] M7 := by
  simp [e6, e7, x_tup3, letterD]
theorem far_ext {lf lw lfar : Nat} {t L : D} {num er z : Int} {far ps : List D} {M8 M9 M10 : Mem} (h1 : dGetS "far" (.loc lw) M8 = .ok (.loc lfar) M8) (h2 : M8[lfar]? = some (.lst far)) (h3 : dGetS "era" (.loc lw) M8 = .ok (.int er) M8) (h4 : f__law_draw [.loc lf, .int 4] M8 = .ok (.int z) M9)
    (h5 : f_pieces_of [L, .int er, .int (1 + z)] M9 = .ok (.tup ps) M10) (h6 : M10[lfar]? = some (.lst far)) (hl : far.length + ps.length ≤ cap) :
    sExpr (eExt (eU (dGetS "far") (eV 1)) (lOfT (eCK f_pieces_of 1 2 (aCons (eV 4) aNil) (aCons (eU (dGetS "era") (eV 1)) (aCons (eB dAdd (eK (.int 1)) (eC f__law_draw (aCons (eV 0) (aCons (eK (.int 4)) aNil)))) aNil))))) [some (.loc lf), some (.loc lw), some t, some (.int num), some L] M8 = .nx [some (.loc lf), some (.loc lw), some t, some (.int num), some L] (M10.set lfar (.lst (far ++ ps))) := by
  have e1 : eU (dGetS "far") (eV 1) [some (.loc lf), some (.loc lw), some t, some (.int num), some L] M8 = .ok (.loc lfar) M8 := by simp [h1]
  have e2 : lOfT (eCK f_pieces_of 1 2 (aCons (eV 4) aNil) (aCons (eU (dGetS "era") (eV 1)) (aCons (eB dAdd (eK (.int 1)) (eC f__law_draw (aCons (eV 0) (aCons (eK (.int 4)) aNil)))) aNil))) [some (.loc lf), some (.loc lw), some t, some (.int num), some L] M8 = .ok ps M10 := by
    simp [lOfT, h3, h4, h5]
  rw [x_sExpr]
  unfold eExt
  rw [e1]
  simp only [Res.bind_ok, h2, e2, h6]
  rw [if_pos hl]
  rfl
theorem p_letter {n : Nat} {M : Mem} {lf lc lw : Nat} {w : WS} (hn : n ≤ 900) (hf : FeedOk lc M lf) (hw : WorldAt M lw w) (hb : Bag n M w) (ap : Apart lf lc lw w) : ∃ (e : Int) (M2 : Mem), f__law_letter [.loc lf, .loc lw] M = .ok .non M2 ∧ FeedOk lc M2 lf ∧ WorldAt M2 lw { w with era := e } ∧ Bag (n + 1) M2 { w with era := e } ∧
    (∃ p ps, M2[w.lfar]? = some (.lst (p :: ps))) ∧ Chg [lf, lw, w.lfar, w.ln, w.ll] M M2 := by
  have ap2 := ap
  unfold Apart at ap2
  simp only [List.nodup_cons, List.mem_cons, List.not_mem_nil, or_false, not_or, not_false_eq_true, List.nodup_nil, and_true] at ap2
  obtain ⟨⟨a1, a2, a3, a4, a5, a6⟩, ⟨b1, b2, b3, b4, b5⟩, ⟨c1, c2, c3, c4⟩, ⟨d1, d2, d3⟩, ⟨g1, g2⟩, i1⟩ := ap2
  have hr : f__law_letter [.loc lf, .loc lw] M = (m__law_letter [some (.loc lf), some (.loc lw), none, none, none] M).fin := x_run rfl rfl
  obtain ⟨t, M1, ht, f1, e1⟩ := p_talk hf hw a2
  obtain ⟨kvs, hM0, K⟩ := hw
  have hM1 : M1[lw]? = some (.dk kvs) := by rw [f1.get a2]; exact hM0
  -- the era
  obtain ⟨i9, M2, f2, e2⟩ := coin (δ := [some (.loc lf), some (.loc lw), some t, none, none]) f1.ok (m := 9) (by decide) (by decide) rfl
  have hM2 : M2[lw]? = some (.dk kvs) := by rw [f2.get a2]; exact hM1
  obtain ⟨w1, hw1⟩ : ∃ w1, w1 = { w with era := w.era + i9 } := ⟨_, rfl⟩
  obtain ⟨k1, hk1⟩ : ∃ k1, k1 = putS kvs "era" (.int (w.era + i9)) := ⟨_, rfl⟩
  have K1 : WK w1 k1 := by rw [hw1, hk1]; exact K.put_era _
  obtain ⟨M3, hM3⟩ : ∃ M3, M3 = M2.set lw (.dk k1) := ⟨_, rfl⟩
  have s2 : sPutS (eV 1) "era" (eB dAdd (eU (dGetS "era") (eV 1)) (eN dInt1 (aCons (eB dEq (eC f__law_draw (aCons (eV 0) (aCons (eK (.int 9)) aNil))) (eK (.int 0))) aNil))) [some (.loc lf), some (.loc lw), some t, none, none] M1 = .nx [some (.loc lf), some (.loc lw), some t, none, none] M3 := by
    rw [x_putS (l := lw) (y := .int (w.era + i9)) (M1 := M2) (M2 := M2) (kvs := kvs) ?_ (by simp) hM2 K.nd (by have := K.len; unfold cap; omega), hM3, hk1]
    have e2 : eN dInt1 (aCons (eB dEq (eC f__law_draw (aCons (eV 0) (aCons (eK (.int 9)) aNil))) (eK (.int 0))) aNil) [some (.loc lf), some (.loc lw), some t, none, none] M1 = .ok (.int i9) M2 := e2
    rw [x_eB, x_eU, x_eV]
    simp only [List.getElem?_cons_zero, List.getElem?_cons_succ, Res.bind_ok]
    rw [x_getS hM1 K.era]
    simp only [Res.bind_ok]
    rw [e2]
    rfl
  have h3w : M3[lw]? = some (.dk k1) := by rw [hM3]; exact set_at hM2
  have c03 : Chg [lf, lw] M M3 := ((f1.chg (by simp)).trans (f2.chg (by simp))).trans (by rw [hM3]; exact Chg.set (by simp))
  have hf3 : FeedOk lc M3 lf := f2.ok.chg (S := [lw]) (by rw [hM3]; exact Chg.set (by simp)) (by simp; exact a2) (by simp; exact b1)
  obtain ⟨nums, hn0, hnl, hni⟩ := hb.num
  have hn3 : M3[w.ln]? = some (.dn nums) := c03.get hn0 (by simp; exact ⟨Ne.symm a4, Ne.symm c2⟩)
  -- the number
  obtain ⟨k0, hk0⟩ : ∃ k0 : Int, (atN nums (nk t)).getD (.int 0) = .int k0 := by
    cases q : atN nums (nk t) with
    | none => exact ⟨0, rfl⟩
    | some d =>
      obtain ⟨p, hp, rfl⟩ := atN_mem q
      exact hni p hp
  obtain ⟨i5, M4, f4, e4⟩ := coin (δ := [some (.loc lf), some (.loc lw), some t, none, none]) hf3 (m := 5) (by decide) (by decide) rfl
  obtain ⟨num, hnum⟩ : ∃ num : Int, num = k0 + i5 := ⟨_, rfl⟩
  have s3 : sAsg (gN 3) (eB dAdd (eMN gGetN (eU (dGetS "numbered") (eV 1)) (aCons (eV 2) (aCons (eK (.int 0)) aNil))) (eN dInt1 (aCons (eB dEq (eC f__law_draw (aCons (eV 0) (aCons (eK (.int 5)) aNil))) (eK (.int 0))) aNil))) [some (.loc lf), some (.loc lw), some t, none, none] M3 = .nx [some (.loc lf), some (.loc lw), some t, some (.int num), none] M4 := by
    have e4 : eN dInt1 (aCons (eB dEq (eC f__law_draw (aCons (eV 0) (aCons (eK (.int 5)) aNil))) (eK (.int 0))) aNil) [some (.loc lf), some (.loc lw), some t, none, none] M3 = .ok (.int i5) M4 := e4
    have e5 : eMN gGetN (eU (dGetS "numbered") (eV 1)) (aCons (eV 2) (aCons (eK (.int 0)) aNil)) [some (.loc lf), some (.loc lw), some t, none, none] M3 = .ok (.int k0) M3 := by
      have l1 := x_getS h3w K1.numbered
      have l2 : w1.ln = w.ln := by rw [hw1]
      rw [l2] at l1
      rw [x_eMN (l := w.ln) (M1 := M3) (M2 := M3) (kvs := nums) (as := [t, .int 0]) (by simp [l1]) hn3 (by simp)]
      unfold gGetN
      simp only [hn3, talk_kOk t ht, if_true, hk0]
    rw [x_sAsg, x_eB, e5]
    simp only [Res.bind_ok]
    rw [e4]
    simp [hnum]
  have h4w : M4[lw]? = some (.dk k1) := by rw [f4.get a2]; exact h3w
  have hn4 : M4[w.ln]? = some (.dn nums) := by rw [f4.get a4]; exact hn3
  obtain ⟨M5, hM5⟩ : ∃ M5, M5 = M4.set w.ln (.dn (putN nums t (.int (num + 1)))) := ⟨_, rfl⟩
  have lnn : w1.ln = w.ln ∧ w1.ll = w.ll ∧ w1.lfar = w.lfar ∧ w1.lla = w.lla ∧ w1.xs = w.xs := by rw [hw1]; exact ⟨rfl, rfl, rfl, rfl, rfl⟩
  have s4 : sPutN (eU (dGetS "numbered") (eV 1)) (eV 2) (eB dAdd (eV 3) (eK (.int 1))) [some (.loc lf), some (.loc lw), some t, some (.int num), none] M4 = .nx [some (.loc lf), some (.loc lw), some t, some (.int num), none] M5 := by
    have l1 := x_getS h4w K1.numbered
    rw [lnn.1] at l1
    rw [x_putN (l := w.ln) (M1 := M4) (M2 := M4) (M3 := M4) (kvs := nums) (y := .int (num + 1)) (q := t) (by simp) (by simp [l1]) (by simp) hn4 (talk_kOk t ht) (by unfold cap; omega), hM5]
  have c05 : Chg [lf, lw, w.ln] M M5 := ((c03.mono (by simp)).trans (f4.chg (by simp))).trans (by rw [hM5]; exact Chg.set (by simp))
  have h5w : M5[lw]? = some (.dk k1) := by rw [hM5, set_ne (Ne.symm c2)]; exact h4w
  have hf5 : FeedOk lc M5 lf := f4.ok.chg (S := [w.ln]) (by rw [hM5]; exact Chg.set (by simp)) (by simp; exact a4) (by simp; exact b3)
  -- the words
  obtain ⟨r, M6, hr9, e6, f6⟩ := draw hf5 (m := 9) (by decide) (by decide)
  obtain ⟨ws, M7, hws, e7, f7⟩ := p_some f6.ok (n := r) (by omega)
  obtain ⟨L, hLd⟩ : ∃ L, L = letterD t num ws := ⟨_, rfl⟩
  have s5 : sAsg (gN 4) (eN dTup (aCons (eV 2) (aCons (eV 3) (aCons (eC f__law_some (aCons (eV 0) (aCons (eC f__law_draw (aCons (eV 0) (aCons (eK (.int 9)) aNil))) aNil))) aNil)))) [some (.loc lf), some (.loc lw), some t, some (.int num), none] M5 = .nx [some (.loc lf), some (.loc lw), some t, some (.int num), some L] M7 := by
    have e6 : f__law_draw [.loc lf, .int 9] M5 = .ok (.int (r : Int)) M6 := e6
    rw [hLd]
    exact let_tup e6 e7
  have c07 : Chg [lf, lw, w.ln] M M7 := (c05.trans (f6.chg (by simp))).trans (f7.chg (by simp))
  have h7w : M7[lw]? = some (.dk k1) := by rw [f7.get a2, f6.get a2]; exact h5w
  -- the letters
  obtain ⟨lets, hl0, hll⟩ := hb.let_
  have hl7 : M7[w.ll]? = some (.dn lets) := c07.get hl0 (by simp; exact ⟨Ne.symm a5, Ne.symm c3, Ne.symm g1⟩)
  obtain ⟨M8, hM8⟩ : ∃ M8, M8 = M7.set w.ll (.dn (putN lets (.tup [t, .int num]) (wsD ws))) := ⟨_, rfl⟩
  have s6 : sPutN (eU (dGetS "letters") (eV 1)) (eN dTup (aCons (eV 2) (aCons (eV 3) aNil))) (eB dIx (eV 4) (eK (.int 2))) [some (.loc lf), some (.loc lw), some t, some (.int num), some L] M7 = .nx [some (.loc lf), some (.loc lw), some t, some (.int num), some L] M8 := by
    have l1 := x_getS h7w K1.letters
    rw [lnn.2.1] at l1
    rw [x_putN (l := w.ll) (M1 := M7) (M2 := M7) (M3 := M7) (kvs := lets) (y := wsD ws) (q := .tup [t, .int num]) (by simp [hLd, letterD]) (by simp [l1]) (by simp [x_tup2]) hl7 (pair_kOk ht num) (by unfold cap; omega), hM8]
  have c08 : Chg [lf, lw, w.ln, w.ll] M M8 := (c07.mono (by simp)).trans (by rw [hM8]; exact Chg.set (by simp))
  have h8w : M8[lw]? = some (.dk k1) := by rw [hM8, set_ne (Ne.symm c3)]; exact h7w
  have hf8 : FeedOk lc M8 lf := f7.ok.chg (S := [w.ll]) (by rw [hM8]; exact Chg.set (by simp)) (by simp; exact a5) (by simp; exact b4)
  -- the pieces
  obtain ⟨far, hfar0, hfp, hfl⟩ := hb.far
  have hfar8 : M8[w.lfar]? = some (.lst far) := c08.get hfar0 (by simp; exact ⟨Ne.symm a3, Ne.symm c1, d1, d2⟩)
  obtain ⟨r4, M9, hr4, e9, f9⟩ := draw hf8 (m := 4) (by decide) (by decide)
  obtain ⟨ps, ps0, psl, psk, e10⟩ := p_pieces (num := num) (e := w.era + i9) (cut := 1 + r4) (ws := ws) ht (by omega) ⟨by omega, by omega⟩ M9
  rw [← hLd] at e10
  have h9w : M9[lw]? = some (.dk k1) := by rw [f9.get a2]; exact h8w
  have hfar9 : M9[w.lfar]? = some (.lst far) := by rw [f9.get a3]; exact hfar8
  obtain ⟨M10, hM10⟩ : ∃ M10, M10 = M9 ++ [MO.lst ps] := ⟨_, rfl⟩
  have hfar10 : M10[w.lfar]? = some (.lst far) := by rw [hM10, List.getElem?_append_left (List.getElem?_eq_some_iff.mp hfar9).1]; exact hfar9
  obtain ⟨M11, hM11⟩ : ∃ M11, M11 = M10.set w.lfar (.lst (far ++ ps)) := ⟨_, rfl⟩
  have s7 : sExpr (eExt (eU (dGetS "far") (eV 1)) (lOfT (eCK f_pieces_of 1 2 (aCons (eV 4) aNil) (aCons (eU (dGetS "era") (eV 1)) (aCons (eB dAdd (eK (.int 1)) (eC f__law_draw (aCons (eV 0) (aCons (eK (.int 4)) aNil)))) aNil))))) [some (.loc lf), some (.loc lw), some t, some (.int num), some L] M8 = .nx [some (.loc lf), some (.loc lw), some t, some (.int num), some L] M11 := by
    have l1 := x_getS h8w K1.far
    rw [lnn.2.2.1] at l1
    have l2 := x_getS h8w K1.era
    have l3 : w1.era = w.era + i9 := by rw [hw1]
    rw [l3] at l2
    have e10 : f_pieces_of [L, .int (w.era + i9), .int (1 + (r4 : Int))] M9 = .ok (.tup ps) M10 := by
      rw [hM10, ← e10]
      rfl
    rw [hM11]
    exact far_ext l1 hfar8 l2 e9 e10 hfar10 (by unfold cap; omega)
  have h11w : M11[lw]? = some (.dk k1) := by
    rw [hM11, set_ne (Ne.symm c1), hM10, List.getElem?_append_left (List.getElem?_eq_some_iff.mp h9w).1]
    exact h9w
  have c9 : Chg [lf, lw, w.lfar, w.ln, w.ll] M9 M10 := by rw [hM10]; exact Chg.app
  have c10 : Chg [lf, lw, w.lfar, w.ln, w.ll] M10 M11 := by rw [hM11]; exact Chg.set (by simp)
  have c08b : Chg [lf, lw, w.lfar, w.ln, w.ll] M M8 := c08.mono (by simp)
  have c11 : Chg [lf, lw, w.lfar, w.ln, w.ll] M M11 := ((c08b.trans (f9.chg (by simp))).trans c9).trans c10
  have e01 : Chg ([] : List Nat) M9 M10 := by rw [hM10]; exact Chg.app
  have e02 : Chg [w.lfar] M10 M11 := by rw [hM11]; exact Chg.set (by simp)
  have hf11 : FeedOk lc M11 lf := (f9.ok.chg e01 (by simp) (by simp)).chg e02 (by simp; exact a3) (by simp; exact b2)
  refine ⟨w.era + i9, M11, ?_, hf11, ⟨k1, h11w, hw1 ▸ K1⟩, ?_, ?_, c11⟩
  · rw [hr]
    unfold m__law_letter
    have s1 : sAsg (gN 2) (eN dTup (aCons (eIxL (lDisp (aCons (eN dTup (aCons (eK (.int 1)) (aCons (eK (.str "bob")) aNil))) (aCons (eN dTup (aCons (eK (.int 1)) (aCons (eK (.str "cy")) aNil))) aNil))) (eC f__law_draw (aCons (eV 0) (aCons (eK (.int 2)) aNil)))) (aCons (eU (dGetS "half") (eV 1)) (aCons (eIxL (lDisp (aCons (eK (.str "hi")) (aCons (eK (.str "yo")) aNil))) (eC f__law_draw (aCons (eV 0) (aCons (eK (.int 2)) aNil)))) aNil)))) [some (.loc lf), some (.loc lw), none, none, none] M = .nx [some (.loc lf), some (.loc lw), some t, none, none] M1 := by
      rw [x_sAsg, e1]
      rfl
    rw [x_seq s1, x_seq s2, x_seq s3, x_seq s4, x_seq s5, x_seq s6, s7]
    rfl
  · refine ⟨⟨far ++ ps, by rw [hM11]; exact set_at hfar10, fun p hp => (List.mem_append.mp hp).elim (hfp p) (psk p), by rw [List.length_append]; omega⟩, ⟨putN nums t (.int (num + 1)), ?_, Nat.le_trans (putN_len _ _ _) (by omega), fun p hp => ?_⟩,
      ⟨putN lets (.tup [t, .int num]) (wsD ws), ?_, Nat.le_trans (putN_len _ _ _) (by omega)⟩, ?_⟩
    · have q5 : M5[w.ln]? = some (.dn (putN nums t (.int (num + 1)))) := by rw [hM5]; exact set_at hn4
      have q7 : M7[w.ln]? = some (.dn (putN nums t (.int (num + 1)))) := by rw [f7.get a4, f6.get a4]; exact q5
      have q9 : M9[w.ln]? = some (.dn (putN nums t (.int (num + 1)))) := by rw [f9.get a4, hM8, set_ne (Ne.symm g1)]; exact q7
      exact e02.get (e01.get q9 (by simp)) (by simp; exact Ne.symm d1)
    · rcases putN_mem hp with z | ⟨q, hq, z⟩
      · exact ⟨_, z⟩
      · rw [z]; exact hni q hq
    · have q8 : M8[w.ll]? = some (.dn (putN lets (.tup [t, .int num]) (wsD ws))) := by rw [hM8]; exact set_at hl7
      have q9 : M9[w.ll]? = some (.dn (putN lets (.tup [t, .int num]) (wsD ws))) := by rw [f9.get a5]; exact q8
      exact e02.get (e01.get q9 (by simp)) (by simp; exact Ne.symm d2)
    · obtain ⟨ds, h1, h2⟩ := hb.lan
      exact ⟨ds, c11.get h1 (by simp; exact ⟨Ne.symm a6, Ne.symm c4, Ne.symm d3, Ne.symm g2, Ne.symm i1⟩), h2⟩
  · have q : M11[w.lfar]? = some (.lst (far ++ ps)) := by rw [hM11]; exact set_at hfar10
    cases far with
    | nil =>
      cases ps with
      | nil => exact absurd rfl ps0
      | cons p ps => exact ⟨p, ps, q⟩
    | cons p far => exact ⟨p, far ++ ps, q⟩
end Dt
namespace Dt
open PySem
theorem x_pop {o : E} {δ : Env} {M : Mem} {l : Nat} {p : D} {ps : List D} (h1 : o δ M = .ok (.loc l) M) (h2 : M[l]? = some (.lst (p :: ps))) : eM mPop o (aCons (eK (.int 0)) aNil) δ M = .ok p (M.set l (.lst ps)) := by
  rw [x_eM (as := [.int 0]) h1 h2 (by simp) h2]
  rfl
theorem x_ins {o e : E} {δ : Env} {M : Mem} {l : Nat} {p : D} {ps : List D} (h1 : o δ M = .ok (.loc l) M) (h2 : M[l]? = some (.lst ps)) (h3 : e δ M = .ok p M) (h4 : ps.length < cap) : eM mIns o (aCons (eK (.int 0)) (aCons e aNil)) δ M = .ok .non (M.set l (.lst (p :: ps))) := by
  rw [x_eM (as := [.int 0, p]) h1 h2 (by simp [h3]) h2]
  exact if_pos ⟨by decide, by decide, h4⟩
theorem x_eqNil {neg : Bool} {o : E} {δ : Env} {M : Mem} {l : Nat} {ds : List D} (h1 : o δ M = .ok (.loc l) M) (h2 : M[l]? = some (.lst ds)) (h3 : ∀ d ∈ ds, eqOk 8 d = true) : eqNil neg o δ M = .ok (.bl (if neg then !ds.isEmpty else ds.isEmpty)) M := by
  unfold eqNil
  rw [h1]
  simp only [Res.bind_ok, h2]
  exact if_pos (List.all_eq_true.mpr h3)
theorem PieceOk.eq {d : D} (h : PieceOk d) : eqOk 8 d = true := by
  obtain ⟨e, t, num, part, parts, ws, g, rfl, ht, hl⟩ := h
  have h1 : ∀ t ∈ TALKS, eqOk 7 t = true := by decide
  have h2 : eqOk 7 (wsD ws) = true := by
    show (ws.map D.int).all (eqOk 6) = true
    refine List.all_eq_true.mpr fun d hd => ?_
    obtain ⟨i, _, rfl⟩ := List.mem_map.mp hd
    rfl
  show ([.int e, t, .int num, .int part, .int parts, wsD ws, .int g] : List D).all (eqOk 7) = true
  simp [h1 t ht, h2, eqOk]
theorem Bag.setFar {n : Nat} {M : Mem} {w : WS} {far : List D} (hb : Bag n M w) (h : ∀ p ∈ far, PieceOk p) (hl : far.length ≤ 30 * n) (d1 : w.lfar ≠ w.ln) (d2 : w.lfar ≠ w.ll) (d3 : w.lfar ≠ w.lla) : Bag n (M.set w.lfar (.lst far)) w := by
  obtain ⟨f0, g0, _⟩ := hb.far
  obtain ⟨a1, a2, a3⟩ := hb.num
  obtain ⟨b1, b2, b3⟩ := hb.let_
  obtain ⟨c1, c2, c3⟩ := hb.lan
  exact ⟨⟨far, set_at g0, h, hl⟩, ⟨a1, by rw [set_ne d1]; exact a2, a3⟩, ⟨b1, by rw [set_ne d2]; exact b2, b3⟩, ⟨c1, by rw [set_ne d3]; exact c2, c3⟩⟩
theorem Bag.chg {n : Nat} {M M2 : Mem} {w : WS} {S : List Nat} (hb : Bag n M w) (a : Chg S M M2) (h1 : w.lfar ∉ S) (h2 : w.ln ∉ S) (h3 : w.ll ∉ S) (h4 : w.lla ∉ S) : Bag n M2 w := by
  obtain ⟨f0, f1, f2⟩ := hb.far
  obtain ⟨a1, a2, a3⟩ := hb.num
  obtain ⟨b1, b2, b3⟩ := hb.let_
  obtain ⟨c1, c2, c3⟩ := hb.lan
  exact ⟨⟨f0, a.get f1 h1, f2⟩, ⟨a1, a.get a2 h2, a3⟩, ⟨b1, a.get b2 h3, b3⟩, ⟨c1, a.get c2 h4, c3⟩⟩
theorem Bag.mono {n m : Nat} {M : Mem} {w : WS} (hb : Bag n M w) (h : n ≤ m) : Bag m M w := by
  obtain ⟨f0, f1, f2, f3⟩ := hb.far
  obtain ⟨a1, a2, a3, a4⟩ := hb.num
  obtain ⟨b1, b2, b3⟩ := hb.let_
  exact ⟨⟨f0, f1, f2, by omega⟩, ⟨a1, a2, by omega, a4⟩, ⟨b1, b2, by omega⟩, hb.lan⟩
/-- what a draw for the world leaves -/
structure Drew (n lc lf lw : Nat) (w : WS) (M : Mem) (e : Int) (M2 : Mem) : Prop where
  feed : FeedOk lc M2 lf
  world : WorldAt M2 lw { w with era := e }
  bag : Bag n M2 { w with era := e }
  chg : Chg [lf, lw, w.lfar, w.ln, w.ll] M M2
theorem pc_first {n : Nat} {M : Mem} {lf lc lw : Nat} {w : WS} (hn : n ≤ 900) (hf : FeedOk lc M lf) (hw : WorldAt M lw w) (hb : Bag n M w) (ap : Apart lf lc lw w) : ∃ (e : Int) (M2 : Mem) (p : D) (ps : List D), Drew (n + 1) lc lf lw w M e M2 ∧ M2[w.lfar]? = some (.lst (p :: ps)) ∧
    sIf (tOr (tB (eqNil false (eU (dGetS "far") (eV 1)))) (tB (eB dEq (eC f__law_draw (aCons (eV 0) (aCons (eK (.int 6)) aNil))) (eK (.int 0))))) (sExpr (eC f__law_letter (aCons (eV 0) (aCons (eV 1) aNil)))) sNext [some (.loc lf), some (.loc lw), none, none] M = .nx [some (.loc lf), some (.loc lw), none, none] M2 := by
  have ap2 := ap
  unfold Apart at ap2
  simp only [List.nodup_cons, List.mem_cons, List.not_mem_nil, or_false, not_or, not_false_eq_true, List.nodup_nil, and_true] at ap2
  obtain ⟨⟨a1, a2, a3, a4, a5, a6⟩, ⟨b1, b2, b3, b4, b5⟩, ⟨c1, c2, c3, c4⟩, ⟨d1, d2, d3⟩, ⟨g1, g2⟩, i1⟩ := ap2
  obtain ⟨far, hfar, hfp, hfl⟩ := hb.far
  obtain ⟨kvs, hM, K⟩ := id hw
  have eo : eU (dGetS "far") (eV 1) [some (.loc lf), some (.loc lw), none, none] M = .ok (.loc w.lfar) M := by
    rw [x_eU, x_eV]
    exact x_getS hM K.far
  have en := x_eqNil (neg := false) eo hfar fun d hd => (hfp d hd).eq
  cases far with
  | nil =>
    obtain ⟨e, M2, e1, h1, h2, h3, ⟨p, ps, h4⟩, h5⟩ := p_letter hn hf hw hb ap
    refine ⟨e, M2, p, ps, ⟨h1, h2, h3, h5⟩, h4, ?_⟩
    rw [x_sIf, x_tOr, x_tB, en]
    simp [e1]
  | cons p ps =>
    obtain ⟨r, M1, hr, e6, f1⟩ := draw hf (m := 6) (by decide) (by decide)
    have e6 : f__law_draw [.loc lf, .int 6] M = .ok (.int (r : Int)) M1 := e6
    have c1' : Chg [lf] M M1 := f1.chg (by simp)
    have hw1 : WorldAt M1 lw w := hw.chg c1' (by simp; exact Ne.symm a2)
    have hb1 : Bag n M1 w := hb.chg c1' (by simp; exact Ne.symm a3) (by simp; exact Ne.symm a4) (by simp; exact Ne.symm a5) (by simp; exact Ne.symm a6)
    by_cases h0 : r = 0
    · obtain ⟨e, M2, e1, h1, h2, h3, ⟨p, ps, h4⟩, h5⟩ := p_letter hn f1.ok hw1 hb1 ap
      refine ⟨e, M2, p, ps, ⟨h1, h2, h3, (c1'.mono (by simp)).trans h5⟩, h4, ?_⟩
      rw [x_sIf, x_tOr, x_tB, en]
      simp [e6, h0, e1]
    · refine ⟨w.era, M1, p, ps, ⟨f1.ok, hw1, hb1.mono (by omega), c1'.mono (by simp)⟩, c1'.get hfar (by simp; exact Ne.symm a3), ?_⟩
      rw [x_sIf, x_tOr, x_tB, en]
      simp [e6, h0]
theorem p_piece {n : Nat} {M : Mem} {lf lc lw : Nat} {w : WS} (hn : n ≤ 900) (hf : FeedOk lc M lf) (hw : WorldAt M lw w) (hb : Bag n M w) (ap : Apart lf lc lw w) : ∃ (pc : D) (e : Int) (M2 : Mem), PieceOk pc ∧ f__law_piece [.loc lf, .loc lw] M = .ok pc M2 ∧ Drew (n + 1) lc lf lw w M e M2 := by
  obtain ⟨e, M1, p, ps, dr, hfar, s1⟩ := pc_first hn hf hw hb ap
  unfold Apart at ap
  simp only [List.nodup_cons, List.mem_cons, List.not_mem_nil, or_false, not_or, not_false_eq_true, List.nodup_nil, and_true] at ap
  obtain ⟨⟨a1, a2, a3, a4, a5, a6⟩, ⟨b1, b2, b3, b4, b5⟩, ⟨c1, c2, c3, c4⟩, ⟨d1, d2, d3⟩, ⟨g1, g2⟩, i1⟩ := ap
  have hr : f__law_piece [.loc lf, .loc lw] M = (m__law_piece [some (.loc lf), some (.loc lw), none, none] M).fin := x_run rfl rfl
  obtain ⟨w1, hw1⟩ : ∃ w1, w1 = { w with era := e } := ⟨_, rfl⟩
  have lnn : w1.ln = w.ln ∧ w1.ll = w.ll ∧ w1.lfar = w.lfar ∧ w1.lla = w.lla := by rw [hw1]; exact ⟨rfl, rfl, rfl, rfl⟩
  obtain ⟨l1, l2, l3, l4⟩ := lnn
  -- what is left: a state with its places
  have step : ∀ M2 : Mem, Chg [lf, w.lfar] M1 M2 → FeedOk lc M2 lf → ∀ far, M2[w.lfar]? = some (.lst far) → (∀ p ∈ far, PieceOk p) → far.length ≤ 30 * (n + 1) → Drew (n + 1) lc lf lw w M e M2 := fun M2 ch fd far q1 q2 q3 => by
    have bg := dr.bag
    obtain ⟨x1, x2, x3⟩ := bg.num
    obtain ⟨y1, y2, y3⟩ := bg.let_
    obtain ⟨z1, z2, z3⟩ := bg.lan
    exact ⟨fd, dr.world.chg ch (by simp; exact ⟨Ne.symm a2, c1⟩), ⟨⟨far, q1, q2, q3⟩, ⟨x1, ch.get x2 (by simp; exact ⟨Ne.symm a4, Ne.symm d1⟩), x3⟩, ⟨y1, ch.get y2 (by simp; exact ⟨Ne.symm a5, Ne.symm d2⟩), y3⟩, ⟨z1, ch.get z2 (by simp; exact ⟨Ne.symm a6, Ne.symm d3⟩), z3⟩⟩, dr.chg.trans (ch.mono (by simp))⟩
  have ef : ∀ (M2 : Mem) (x y : Option D), WorldAt M2 lw w1 → eU (dGetS "far") (eV 1) [some (.loc lf), some (.loc lw), x, y] M2 = .ok (.loc w.lfar) M2 := fun M2 x y hw2 => by
    obtain ⟨kvs, hM, K⟩ := hw2
    rw [x_eU, x_eV]
    show dGetS "far" (.loc lw) M2 = _
    rw [← l3]
    exact x_getS hM K.far
  obtain ⟨far0, q0, hp0, hl0⟩ := dr.bag.far
  have q0 : M1[w.lfar]? = some (.lst far0) := q0
  rw [hfar] at q0
  cases q0
  obtain ⟨r, M2, hr9, e9, f2⟩ := draw dr.feed (m := 9) (by decide) (by decide)
  have e9 : f__law_draw [.loc lf, .int 9] M1 = .ok (.int (r : Int)) M2 := e9
  have ch2 : Chg [lf] M1 M2 := f2.chg (by simp)
  have hw2 : WorldAt M2 lw w1 := by rw [hw1]; exact dr.world.chg ch2 (by simp; exact Ne.symm a2)
  have hfar2 : M2[w.lfar]? = some (.lst (p :: ps)) := ch2.get hfar (by simp; exact Ne.symm a3)
  obtain ⟨M3, hM3⟩ : ∃ M3, M3 = M2.set w.lfar (.lst ps) := ⟨_, rfl⟩
  have s2 : sPar [2, 3] (aCons (eC f__law_draw (aCons (eV 0) (aCons (eK (.int 9)) aNil))) (aCons (eM mPop (eU (dGetS "far") (eV 1)) (aCons (eK (.int 0)) aNil)) aNil)) [some (.loc lf), some (.loc lw), none, none] M1 = .nx [some (.loc lf), some (.loc lw), some (.int (r : Int)), some p] M3 := by
    have := x_pop (ef M2 none none hw2) hfar2
    rw [x_sPar, x_aCons, x_eC, x_aCons, x_eV]
    simp only [List.getElem?_cons_zero, List.getElem?_cons_succ, Res.bind_ok, x_aCons, x_eK, x_aNil]
    rw [e9]
    simp only [Res.bind_ok]
    rw [this, hM3]
    rfl
  have ch3 : Chg [lf, w.lfar] M1 M3 := (ch2.mono (by simp)).trans (by rw [hM3]; exact Chg.set (by simp))
  have ch23 : Chg [w.lfar] M2 M3 := by rw [hM3]; exact Chg.set (by simp)
  have hf3 : FeedOk lc M3 lf := f2.ok.chg ch23 (by simp; exact a3) (by simp; exact b2)
  have hfar3 : M3[w.lfar]? = some (.lst ps) := by rw [hM3]; exact set_at hfar2
  have hps : ∀ d ∈ ps, PieceOk d := fun d hd => hp0 d (List.mem_cons_of_mem _ hd)
  have hpp : PieceOk p := hp0 p List.mem_cons_self
  have hlp : ps.length + 1 ≤ 30 * (n + 1) := by simpa using hl0
  have hw3 : WorldAt M3 lw w1 := hw2.chg ch23 (by simp; exact c1)
  have en3 := x_eqNil (neg := true) (ef M3 (some (.int (r : Int))) (some p) hw3) hfar3 fun d hd => (hps d hd).eq
  rw [hr]
  unfold m__law_piece
  rw [x_seq s1, x_seq s2]
  by_cases r0 : r = 0
  · have hz : (r : Int) = 0 := by omega
    rw [hz] at en3 ⊢
    cases ps with
    | nil =>
      refine ⟨p, e, M3, hpp, ?_, step M3 ch3 hf3 _ hfar3 hps (by simp)⟩
      rw [x_seq (δ2 := [some (.loc lf), some (.loc lw), some (.int 0), some p]) (M2 := M3) (by rw [x_sIf, x_tAnd, x_tB]; simp; rw [en3]; rfl)]
      simp
    | cons p2 ps2 =>
      obtain ⟨M4, hM4⟩ : ∃ M4, M4 = M3.set w.lfar (.lst ps2) := ⟨_, rfl⟩
      have e4 := x_pop (ef M3 (some (.int 0)) (some p) hw3) hfar3
      rw [← hM4] at e4
      have ch34 : Chg [w.lfar] M3 M4 := by rw [hM4]; exact Chg.set (by simp)
      refine ⟨p2, e, M4, hps p2 List.mem_cons_self, ?_, step M4 (ch3.trans (ch34.mono (by simp))) (hf3.chg ch34 (by simp; exact a3) (by simp; exact b2)) ps2 (by rw [hM4]; exact set_at hfar3) (fun d hd => hps d (List.mem_cons_of_mem _ hd)) (by simp at hlp; omega)⟩
      rw [x_seq (δ2 := [some (.loc lf), some (.loc lw), some (.int 0), some p2]) (M2 := M4) (by
        have g : tAnd (tB (eB dEq (eV 2) (eK (.int 0)))) (tB (eqNil true (eU (dGetS "far") (eV 1)))) [some (.loc lf), some (.loc lw), some (.int 0), some p] M3 = .ok true M3 := by
          rw [x_tAnd, x_tB]
          simp
          rw [en3]
          rfl
        rw [x_sIf, g, Res.st_ok, if_pos rfl, x_sAsg, e4]
        rfl)]
      simp
  · have rz : ((r : Int) == 0) = false := by
      rw [beq_eq_false_iff_ne]
      omega
    rw [x_seq (δ2 := [some (.loc lf), some (.loc lw), some (.int (r : Int)), some p]) (M2 := M3) (by simp [rz, r0])]
    by_cases r2 : r = 2
    · have hz : (r : Int) = 2 := by omega
      rw [hz]
      have e4 := x_ins (e := eV 3) (ef M3 (some (.int 2)) (some p) hw3) hfar3 rfl (by unfold cap; omega)
      obtain ⟨M4, hM4⟩ : ∃ M4, M4 = M3.set w.lfar (.lst (p :: ps)) := ⟨_, rfl⟩
      rw [← hM4] at e4
      have ch34 : Chg [w.lfar] M3 M4 := by rw [hM4]; exact Chg.set (by simp)
      refine ⟨p, e, M4, hpp, ?_, step M4 (ch3.trans (ch34.mono (by simp))) (hf3.chg ch34 (by simp; exact a3) (by simp; exact b2)) (p :: ps) (by rw [hM4]; exact set_at hfar3) hp0 hl0⟩
      rw [x_seq (δ2 := [some (.loc lf), some (.loc lw), some (.int 2), some p]) (M2 := M4) (by
        have g : tB (eB dEq (eV 2) (eK (.int 2))) [some (.loc lf), some (.loc lw), some (.int 2), some p] M3 = .ok true M3 := rfl
        rw [x_sIf, g, Res.st_ok, if_pos rfl, x_sExpr, e4]
        rfl)]
      rfl
    · have rz2 : ((r : Int) == 2) = false := by
        rw [beq_eq_false_iff_ne]
        omega
      rw [x_seq (δ2 := [some (.loc lf), some (.loc lw), some (.int (r : Int)), some p]) (M2 := M3) (by simp [rz2])]
      by_cases r1 : r = 1
      · have hz : (r : Int) = 1 := by omega
        rw [hz]
        obtain ⟨k, M4, hk, e3, f3⟩ := draw hf3 (m := 3) (by decide) (by decide)
        have e3 : f__law_draw [.loc lf, .int 3] M3 = .ok (.int (k : Int)) M4 := e3
        obtain ⟨q, hq, eb⟩ := p_bent hpp k M4
        have ch34 : Chg [lf] M3 M4 := f3.chg (by simp)
        refine ⟨q, e, M4, hq, ?_, step M4 (ch3.trans (ch34.mono (by simp))) f3.ok ps (ch34.get hfar3 (by simp; exact Ne.symm a3)) hps (by omega)⟩
        simp [e3, eb]
      · have rz1 : ((r : Int) == 1) = false := by
          rw [beq_eq_false_iff_ne]
          omega
        refine ⟨p, e, M3, hpp, ?_, step M3 ch3 hf3 ps hfar3 hps (by omega)⟩
        simp [rz1]
end Dt
namespace Dt
open PySem
def MENU : List D := [.str "in", .str "in", .str "in", .str "in", .str "in", .str "post", .str "post", .str "post", .str "poll", .str "unmask", .str "unmask", .str "tick", .str "tick"]
theorem menu_at : ∀ r : Nat, r < 13 → ∃ v ∈ ["in", "post", "poll", "unmask", "tick"], MENU[r]? = some (.str v)
  | 0, _ => ⟨"in", by decide, rfl⟩
  | 1, _ => ⟨"in", by decide, rfl⟩
  | 2, _ => ⟨"in", by decide, rfl⟩
  | 3, _ => ⟨"in", by decide, rfl⟩
  | 4, _ => ⟨"in", by decide, rfl⟩
  | 5, _ => ⟨"post", by decide, rfl⟩
  | 6, _ => ⟨"post", by decide, rfl⟩
  | 7, _ => ⟨"post", by decide, rfl⟩
  | 8, _ => ⟨"poll", by decide, rfl⟩
  | 9, _ => ⟨"unmask", by decide, rfl⟩
  | 10, _ => ⟨"unmask", by decide, rfl⟩
  | 11, _ => ⟨"tick", by decide, rfl⟩
  | 12, _ => ⟨"tick", by decide, rfl⟩
theorem Drew.of {n m : Nat} {M M2 : Mem} {lf lc lw : Nat} {w : WS} (hw : WorldAt M lw w) (hb : Bag n M w) (h : n ≤ m) (ap : Apart lf lc lw w) (f : FeedOk lc M2 lf) (c : Chg [lf] M M2) : Drew m lc lf lw w M w.era M2 := by
  unfold Apart at ap
  simp only [List.nodup_cons, List.mem_cons, List.not_mem_nil, or_false, not_or, not_false_eq_true, List.nodup_nil, and_true] at ap
  obtain ⟨⟨a1, a2, a3, a4, a5, a6⟩, _⟩ := ap
  exact ⟨f, hw.chg c (by simp; exact Ne.symm a2), (hb.chg c (by simp; exact Ne.symm a3) (by simp; exact Ne.symm a4) (by simp; exact Ne.symm a5) (by simp; exact Ne.symm a6)).mono h, c.mono (by simp)⟩
theorem Drew.after {m : Nat} {M M1 M2 : Mem} {lf lc lw : Nat} {w : WS} {e : Int} (c : Chg [lf] M M1) (d : Drew m lc lf lw w M1 e M2) : Drew m lc lf lw w M e M2 := ⟨d.feed, d.world, d.bag, (c.mono (by simp)).trans d.chg⟩
theorem x_in2 (v : String) (M : Mem) : dIn false (.str v) (.tup [.str "put", .str "tick"]) M = .ok (.bl (["put", "tick"].contains v)) M := rfl
theorem p_act {n : Nat} {M : Mem} {lf lc lw lm : Nat} {w : WS} (hn : n ≤ 900) (hf : FeedOk lc M lf) (hw : WorldAt M lw w) (hb : Bag n M w) (ap : Apart lf lc lw w) (hm : M[lm]? = some (.lst MENU)) (am : lf ≠ lm) (h0 : 0 < w.xs.length) (hl : w.xs.length ≤ 2) :
    ∃ (act : D) (e : Int) (M2 : Mem), ActOk w.xs.length act ∧ f__law_act [.loc lf, .loc lw, .loc lm] M = .ok act M2 ∧ Drew (n + 1) lc lf lw w M e M2 := by
  have hr : f__law_act [.loc lf, .loc lw, .loc lm] M = (m__law_act [some (.loc lf), some (.loc lw), some (.loc lm), none, none] M).fin := x_run rfl rfl
  have ap' := ap
  unfold Apart at ap'
  simp only [List.nodup_cons, List.mem_cons, List.not_mem_nil, or_false, not_or, not_false_eq_true, List.nodup_nil, and_true] at ap'
  obtain ⟨⟨a1, a2, a3, a4, a5, a6⟩, ⟨b1, b2, b3, b4, b5⟩, ⟨c1, c2, c3, c4⟩, ⟨d1, d2, d3⟩, ⟨g1, g2⟩, i1⟩ := ap'
  obtain ⟨r, M1, hr13, e1, f1⟩ := draw hf (m := 13) (by decide) (by decide)
  have e1 : f__law_draw [.loc lf, .int 13] M = .ok (.int (r : Int)) M1 := e1
  obtain ⟨v, hv, hat⟩ := menu_at r hr13
  have ch1 : Chg [lf] M M1 := f1.chg (by simp)
  have hm1 : M1[lm]? = some (.lst MENU) := ch1.get hm (by simp; exact Ne.symm am)
  obtain ⟨k, M2, hk, e2, f2⟩ := draw f1.ok (m := w.xs.length) h0 (by omega)
  have ch2 : Chg [lf] M M2 := ch1.trans (f2.chg (by simp))
  obtain ⟨kvs, hM, K⟩ := id (hw.chg ch1 (by simp; exact Ne.symm a2))
  obtain ⟨lan, hlan, hll⟩ := hb.lan
  have hlan1 : M1[w.lla]? = some (.lst lan) := ch1.get hlan (by simp; exact Ne.symm a6)
  have el0 : dLen [.loc lm] M = .ok (.int 13) M := by
    unfold dLen
    simp only [hm]
    rfl
  have ei : dIx (.loc lm) (.int (r : Int)) M1 = .ok (.str v) M1 := by
    have := atI_nat _ _ _ hat
    unfold dIx
    simp only [hm1, this]
  have eg := x_getS hM K.lanes
  have el1 : dLen [.loc w.lla] M1 = .ok (.int ((w.xs.length : Nat) : Int)) M1 := by
    unfold dLen
    simp only [hlan1, hll]
  have s1 : sPar [3, 4] (aCons (eB dIx (eV 2) (eC f__law_draw (aCons (eV 0) (aCons (eN dLen (aCons (eV 2) aNil)) aNil)))) (aCons (eC f__law_draw (aCons (eV 0) (aCons (eN dLen (aCons (eU (dGetS "lanes") (eV 1)) aNil)) aNil))) aNil)) [some (.loc lf), some (.loc lw), some (.loc lm), none, none] M =
      .nx [some (.loc lf), some (.loc lw), some (.loc lm), some (.str v), some (.int (k : Int))] M2 := by
    simp [el0, e1, ei, eg, el1, e2]
  have hw2 : WorldAt M2 lw w := hw.chg ch2 (by simp; exact Ne.symm a2)
  have hb2 : Bag n M2 w := hb.chg ch2 (by simp; exact Ne.symm a3) (by simp; exact Ne.symm a4) (by simp; exact Ne.symm a5) (by simp; exact Ne.symm a6)
  rw [hr]
  unfold m__law_act
  rw [x_seq s1]
  simp only [List.mem_cons, List.not_mem_nil, or_false] at hv
  rcases hv with rfl | rfl | rfl | rfl | rfl
  · obtain ⟨pc, e, M3, hp, e3, dr⟩ := p_piece hn f2.ok hw2 hb2 ap
    exact ⟨_, e, M3, .inn pc hp, by simp [e3, x_tup2], dr.after ch2⟩
  · obtain ⟨s, M3, hs, e3, f3⟩ := p_stretch f2.ok
    exact ⟨_, w.era, M3, .post k s hk hs, by simp [e3, x_tup3], .of hw hb (by omega) ap f3.ok (ch2.trans (f3.chg (by simp)))⟩
  · obtain ⟨b, M3, hb4, e3, f3⟩ := draw f2.ok (m := 4) (by decide) (by decide)
    have e3 : f__law_draw [.loc lf, .int 4] M2 = .ok (.int (b : Int)) M3 := e3
    exact ⟨_, w.era, M3, .poll k b hk hb4, by simp [e3, x_tup3], .of hw hb (by omega) ap f3.ok (ch2.trans (f3.chg (by simp)))⟩
  · exact ⟨_, w.era, M2, .unmask k hk, by simp [x_tup2, x_in2], .of hw hb (by omega) ap f2.ok ch2⟩
  · exact ⟨_, w.era, M2, .tick, by simp [x_tup2, x_tup1, x_in2], .of hw hb (by omega) ap f2.ok ch2⟩
end Dt
namespace Dt
open PySem
theorem app_at {M X : Mem} {i : Nat} {o : MO} (h : X[i]? = some o) : (M ++ X)[M.length + i]? = some o := by
  rw [List.getElem?_append_right (by omega), Nat.add_sub_cancel_left]
  exact h
theorem app_set {M X : Mem} {i : Nat} {o : MO} : (M ++ X).set (M.length + i) o = M ++ X.set i o := by
  rw [List.set_append, if_neg (by omega), Nat.add_sub_cancel_left]
theorem lcGo_grow {g : G} {t : T} {e : E} {δ : Env} {I : Mem → Mem → Prop} {P : Mem → D → Prop} (rf : ∀ M, I M M) (tr : ∀ {A B C}, I A B → I B C → I A C) (mo : ∀ {A B y}, I A B → P A y → P B y) : ∀ {ds : List D} {M : Mem},
    (∀ A d, I M A → d ∈ ds → ∃ δ', g d δ = some δ' ∧ t δ' A = .ok true A ∧ ∃ y M2, e δ' A = .ok y M2 ∧ I A M2 ∧ P M2 y) → ∃ ys M2, lcGo g t e δ ds M = .ok ys M2 ∧ I M M2 ∧ ys.length = ds.length ∧ ∀ y ∈ ys, P M2 y
  | [], M, _ => ⟨[], M, rfl, rf M, rfl, fun y hy => absurd hy List.not_mem_nil⟩
  | d :: ds, M, h => by
    obtain ⟨δ', h1, h2, y, M1, h3, f1, py⟩ := h M d (rf M) List.mem_cons_self
    obtain ⟨ys, M2, ih, f2, l, p⟩ := lcGo_grow (g := g) (t := t) (e := e) (δ := δ) (P := P) rf tr mo (ds := ds) (M := M1) (fun A d hA hd => h A d (tr f1 hA) (List.mem_cons_of_mem _ hd))
    refine ⟨y :: ys, M2, ?_, tr f1 f2, by simp [l], fun z hz => ?_⟩
    · show (match g d δ with | none => Res.bad | some δ' => (t δ' M).ne.bind fun c M => if c = true then (e δ' M).ne.bind fun x M => (lcGo g t e δ ds M).bind fun xs M => .ok (x :: xs) M else lcGo g t e δ ds M) = _
      rw [h1]
      simp [h2, h3, ih]
    · rcases List.mem_cons.mp hz with q | q
      · rw [q]; exact mo f2 py
      · exact p z q
theorem x_lLc_go {it : Ar} {g : G} {t : T} {e : E} {vs : List Nat} {δ : Env} {M M1 M2 : Mem} {ds ys : List D} (h1 : it δ M = .ok ds M1) (h2 : ds.length ≤ 100000) (h3 : lcGo g t e (wipeE δ vs) ds M1 = .ok ys M2) : lLc it g t e vs δ M = .ok ys M2 := by
  show (it δ M).bind _ = _
  rw [h1, Res.bind_ok, if_pos h2, h3]
theorem p_feed (d : D) (ns : List Int) (M : Mem) (h : lSl (eV 0) none (some 63) [some d] M = .ok (cutD (ns.map D.int) none (some 63)) M) : ∃ cells : List Int, f__law_feed [d] M = .ok (.loc (M.length + 1)) (M ++ [.lst (cells.map D.int), FD M.length 0 0 0]) := by
  obtain ⟨cells, hc, _⟩ := cutD_ints ns none (some 63)
  refine ⟨cells, ?_⟩
  have hr : f__law_feed [d] M = (m__law_feed [some d] M).fin := x_run rfl rfl
  have e1 : eL dReg (lSl (eV 0) none (some 63)) [some d] M = .ok (.loc M.length) (M ++ [.lst (cells.map D.int)]) := by
    rw [x_eL, h, Res.bind_ok, hc]
    rfl
  rw [hr]
  unfold m__law_feed
  rw [x_sRet]
  unfold eDict
  simp only [aOf, x_aCons, e1, Res.bind_ok, x_eK, x_aNil, Res.st_ok, fin_rt]
  simp [FD, FK]
theorem feed_ok (cells : List Int) (M : Mem) : FeedOk M.length (M ++ [.lst (cells.map D.int), FD M.length 0 0 0]) (M.length + 1) := ⟨0, 0, 0, cells, app_at rfl, app_at (i := 0) rfl, Int.le_refl _⟩
def ring0 (n : Nat) : D := ringD n 0 0 (List.replicate n .non)
def WIDES : List Nat := [4, 2, 1, 8]
theorem p_void_ring (M : Mem) : ∀ n ∈ WIDES, f_void_ring [.int (n : Int)] M = .ok (ring0 n) M := by
  intro n h
  simp only [WIDES, List.mem_cons, List.not_mem_nil, or_false] at h
  rcases h with rfl | rfl | rfl | rfl <;> rfl
theorem ring0_ok : ∀ n ∈ WIDES, RingOk (ring0 n) := by
  intro n h
  have h1 : 0 < n ∧ n ≤ 8 := by
    simp only [WIDES, List.mem_cons, List.not_mem_nil, or_false] at h
    omega
  exact ⟨n, 0, 0, 0, _, rfl, h1.1, h1.2, List.length_replicate, by omega, by omega, by simp, fun i hi => absurd hi (Nat.not_lt_zero _)⟩
def lane0 (n : Nat) : LS := ⟨ring0 n, ring0 n, [], none, false⟩
theorem p_void_lane {n : Nat} (h : n ∈ WIDES) (M : Mem) : f_void_lane [.int (n : Int)] M = .ok (laneD (lane0 n)) M := by
  have hr : f_void_lane [.int (n : Int)] M = (m_void_lane [some (.int (n : Int))] M).fin := x_run rfl rfl
  rw [hr]
  simp [m_void_lane, p_void_ring M n h, x_tup0, x_tup8, laneD, lane0, oI]
theorem x_two {e : E} {a : Ar} {δ : Env} {M M1 M2 : Mem} {x : D} {xs : List D} (h1 : e δ M = .ok x M1) (h2 : a δ M1 = .ok xs M2) : aCons e a δ M = .ok (x :: xs) M2 := by
  rw [x_aCons, h1, Res.bind_ok, h2, Res.bind_ok]
theorem half_lanes {n : Nat} (h : n ∈ WIDES) {k : Nat} (hk : k ≤ 2) (pu : D) (M : Mem) : lLc (iRng1D (aCons (eV 2) aNil)) (gN 4) tYes (eC f_void_lane (aCons (eV 3) aNil)) [4] [some HALF, some pu, some (.int (k : Int)), some (.int (n : Int)), none] M = .ok ((List.replicate k (lane0 n)).map laneD) M := by
  have hv := fun M => p_void_lane h M
  generalize (n : Int) = ni at hv ⊢
  have e1 : lLc (iRng1D (aCons (eV 2) aNil)) (gN 4) tYes (eC f_void_lane (aCons (eV 3) aNil)) [4] [some HALF, some pu, some (.int (k : Int)), some (.int ni), none] M = .ok (((rngD 0 k).filter fun _ => true).map fun _ => laneD (lane0 n)) M :=
    x_lLc (x_rng (n := k) rfl (by unfold cap; omega)) (by rw [rngD_len]; omega) fun d hd => by
      generalize (k : Int) = ki
      exact ⟨[some HALF, some pu, some (.int ki), some (.int ni), some d], rfl, rfl, fun _ => by
        rw [x_eC, x_aCons, x_eV]
        exact hv M⟩
  rw [e1]
  have e2 : ∀ ds : List D, (ds.filter fun _ => true).map (fun _ => laneD (lane0 n)) = (List.replicate ds.length (lane0 n)).map laneD := fun ds => by
    induction ds with
    | nil => rfl
    | cons d ds ih =>
      show laneD (lane0 n) :: (ds.filter fun _ => true).map (fun _ => laneD (lane0 n)) = _
      rw [ih]
      rfl
  rw [e2, rngD_len]
theorem p_half_of {n k : Nat} (h : n ∈ WIDES) (hk : k ≤ 2) (pu : D) (M : Mem) : f_half_of [HALF, pu, .int (k : Int), .int (n : Int)] M = .ok (valD (List.replicate k (lane0 n)) [] pu) M := by
  have hr : f_half_of [HALF, pu, .int (k : Int), .int (n : Int)] M = (m_half_of [some HALF, some pu, some (.int (k : Int)), some (.int (n : Int)), none] M).fin := x_run rfl rfl
  have e1 := half_lanes h hk pu M
  rw [hr]
  unfold m_half_of
  generalize (n : Int) = ni at e1 ⊢
  generalize (k : Int) = ki at e1 ⊢
  have e3 : eL dTupL (lLc (iRng1D (aCons (eV 2) aNil)) (gN 4) tYes (eC f_void_lane (aCons (eV 3) aNil)) [4]) [some HALF, some pu, some (.int ki), some (.int ni), none] M = .ok (.tup ((List.replicate k (lane0 n)).map laneD)) M := by
    rw [x_eL, e1]
    rfl
  rw [x_sRet, x_eN, x_two (xs := [.tup ((List.replicate k (lane0 n)).map laneD), .pt [], .pt [], .pt [], .pt [], .pt [], pu, .int 0]) rfl (x_two e3 rfl), Res.bind_ok, x_tup9]
  rfl
end Dt
namespace Dt
open PySem
theorem x_eDict {ps : List (String × E)} {δ : Env} {M M1 : Mem} {ds : List D} (h : aOf ps δ M = .ok ds M1) : eDict ps δ M = .ok (.loc M1.length) (M1 ++ [.dk ((ps.map (·.1)).zip ds)]) := by
  unfold eDict
  rw [h, Res.bind_ok]
theorem x_upd {o a : E} {δ : Env} {M M2 : Mem} {l k : Nat} {kvs more : List (String × D)} (h1 : o δ M = .ok (.loc l) M) (h2 : M[l]? = some (.dk kvs)) (h3 : a δ M = .ok (.loc k) M2) (h4 : M2[l]? = some (.dk kvs)) (h5 : M2[k]? = some (.dk more)) (ne : l ≠ k) (nd : (kvs.map (·.1)).Nodup) (hl : kvs.length + more.length ≤ cap) :
    eUpd o a δ M = .ok .non (M2.set l (.dk (mergeS kvs more))) := by
  unfold eUpd
  rw [h1]
  simp only [Res.bind_ok, h2, h3, h4, h5]
  exact if_pos ⟨ne, nd, hl⟩
theorem x_newl (δ : Env) (M : Mem) : eL dReg (lDisp aNil) δ M = .ok (.loc M.length) (M ++ [.lst []]) := by
  rw [x_eL, x_lDisp, x_aNil, Res.bind_ok, if_pos (by unfold cap; simp), Res.bind_ok, x_dReg]
theorem x_newd (δ : Env) (M : Mem) : eDn δ M = .ok (.loc M.length) (M ++ [.dn []]) := rfl
def LK0 (r : D) (b : Nat) : List (String × D) := [("out", r), ("told", .int 0), ("next", .int 0), ("through", .loc b), ("inward", r)]
def LK1 (b : Nat) : List (String × D) := [("box", .loc b), ("since", .non), ("masked", .bl false)]
theorem lk_out (r : D) (a b : Nat) : getS (mergeS (LK0 r a) (LK1 b)) "out" = some r := by
  simp [mergeS, LK0, LK1, putS, getS]
theorem p_lane {n : Nat} (h : n ∈ WIDES) (M : Mem) : ∃ kvs M2, f__law_lane [.int (n : Int)] M = .ok (.loc (M.length + 1)) M2 ∧ Chg [] M M2 ∧ M2[M.length + 1]? = some (.dk kvs) ∧ getS kvs "out" = some (ring0 n) := by
  have hv := fun M => p_void_ring M n h
  have hr : f__law_lane [.int (n : Int)] M = (m__law_lane [some (.int (n : Int)), none] M).fin := x_run rfl rfl
  rw [hr]
  unfold m__law_lane
  generalize ring0 n = R at hv ⊢
  generalize (n : Int) = ni at hv ⊢
  have ev : ∀ δ M, δ[0]? = some (some (.int ni)) → eC f_void_ring (aCons (eV 0) aNil) δ M = .ok R M := fun δ M hδ => by
    rw [x_eC, x_aCons, x_eV, hδ]
    exact hv M
  have g1 : sAsg (gN 1) (eDict [("out", (eC f_void_ring (aCons (eV 0) aNil))), ("told", (eK (.int 0))), ("next", (eK (.int 0))), ("through", (eL dReg (lDisp aNil))), ("inward", (eC f_void_ring (aCons (eV 0) aNil)))]) [some (.int ni), none] M =
      .nx [some (.int ni), some (.loc (M.length + 1))] (M ++ [.lst [], .dk (LK0 R M.length)]) := by
    have e1 := ev [some (.int ni), none] M rfl
    have e3 := ev [some (.int ni), none] (M ++ [MO.lst []]) rfl
    have e2 := x_newl [some (.int ni), none] M
    have ea : aOf [("out", (eC f_void_ring (aCons (eV 0) aNil))), ("told", (eK (.int 0))), ("next", (eK (.int 0))), ("through", (eL dReg (lDisp aNil))), ("inward", (eC f_void_ring (aCons (eV 0) aNil)))] [some (.int ni), none] M = .ok [R, .int 0, .int 0, .loc M.length, R] (M ++ [MO.lst []]) := by
      simp only [aOf, x_aCons, e1, e2, e3, Res.bind_ok, x_eK, x_aNil]
    rw [x_sAsg, x_eDict ea]
    simp [LK0]
  rw [x_seq g1]
  obtain ⟨M1, hM1⟩ : ∃ M1, M1 = M ++ [.lst [], .dk (LK0 R M.length)] := ⟨_, rfl⟩
  have l1 : M1.length = M.length + 2 := by rw [hM1]; simp
  have a1 : M1[M.length + 1]? = some (.dk (LK0 R M.length)) := by rw [hM1]; exact app_at rfl
  rw [← hM1]
  have e2 : eDict [("box", (eL dReg (lDisp aNil))), ("since", (eK .non)), ("masked", (eK (.bl false)))] [some (.int ni), some (.loc (M.length + 1))] M1 = .ok (.loc (M1.length + 1)) (M1 ++ [MO.lst [], MO.dk (LK1 M1.length)]) := by
    have e3 := x_newl [some (.int ni), some (.loc (M.length + 1))] M1
    have ea : aOf [("box", (eL dReg (lDisp aNil))), ("since", (eK .non)), ("masked", (eK (.bl false)))] [some (.int ni), some (.loc (M.length + 1))] M1 = .ok [.loc M1.length, .non, .bl false] (M1 ++ [MO.lst []]) := by
      simp only [aOf, x_aCons, e3, Res.bind_ok, x_eK, x_aNil]
    rw [x_eDict ea]
    simp [LK1]
  have a2 : (M1 ++ [MO.lst [], MO.dk (LK1 M1.length)])[M.length + 1]? = some (.dk (LK0 R M.length)) := by rw [List.getElem?_append_left (by omega)]; exact a1
  have g2 := x_upd (o := eV 1) (δ := [some (.int ni), some (.loc (M.length + 1))]) rfl a1 e2 a2 (app_at rfl) (by omega) (by show ["out", "told", "next", "through", "inward"].Nodup; decide) (by show 5 + 3 ≤ 100000; decide)
  refine ⟨mergeS (LK0 R M.length) (LK1 M1.length), (M1 ++ [MO.lst [], MO.dk (LK1 M1.length)]).set (M.length + 1) (.dk (mergeS (LK0 R M.length) (LK1 M1.length))), ?_, ?_, set_at a2, lk_out R _ _⟩
  · rw [x_seq (by rw [x_sExpr, g2]; rfl)]
    rfl
  · refine ⟨by simp; omega, fun l hl _ => ?_⟩
    rw [set_ne (by omega), hM1, List.append_assoc, List.getElem?_append_left hl]
def PAGES : List D := List.replicate 8 (.tup (List.replicate 8 (.int 0)))
def WK0 (rs purse : D) (b : Nat) : List (String × D) := [("half", HALF), ("rights", rs), ("purse", purse), ("row", .loc b), ("numbers", .loc (b + 1)), ("joinings", .loc (b + 2))]
def UK1 : List (String × D) := [("moves", .tup []), ("steers", .tup []), ("epoch", .int 0), ("clock", .int 0), ("stuck", .tup []), ("aside", .non)]
def UK2 (b : Nat) : List (String × D) := [("memory", .tup PAGES), ("far", .loc b), ("numbered", .loc (b + 1)), ("letters", .loc (b + 2)), ("era", .int 0)]
def UK3 (l : Nat) : List (String × D) := [("lanes", .loc l), ("cut", .int 4), ("most", .int 2), ("wait", .int 4)]
def WK1 (rs purse : D) (b : Nat) : List (String × D) := WK0 rs purse b ++ UK1
def WK2 (rs purse : D) (b : Nat) : List (String × D) := WK1 rs purse b ++ UK2 (b + 5)
def WK3 (rs purse : D) (b l : Nat) : List (String × D) := WK2 rs purse b ++ UK3 l
theorem wk1 (rs purse : D) (b : Nat) : mergeS (WK0 rs purse b) UK1 = WK1 rs purse b := rfl
theorem wk2 (rs purse : D) (b : Nat) : mergeS (WK1 rs purse b) (UK2 (b + 5)) = WK2 rs purse b := rfl
theorem wk3 (rs purse : D) (b l : Nat) : mergeS (WK2 rs purse b) (UK3 l) = WK3 rs purse b l := rfl
theorem lanes_go {n : Nat} (h : n ∈ WIDES) {k : Nat} (hk : k ≤ 2) (a0 a1 a2 : D) (lw : Nat) (M : Mem) : ∃ ys M2, lLc (iRng1D (aCons (eV 3) aNil)) (gN 6) tYes (eC f__law_lane (aCons (eV 4) aNil)) [6] [some a0, some a1, some a2, some (.int (k : Int)), some (.int (n : Int)), some (.loc lw), none] M = .ok ys M2 ∧ Chg [] M M2 ∧ ys.length = k ∧
    ∀ y ∈ ys, ∃ l kvs, y = .loc l ∧ M.length ≤ l ∧ M2[l]? = some (.dk kvs) ∧ getS kvs "out" = some (ring0 n) := by
  have hv := fun M => p_lane h M
  generalize ring0 n = R at hv ⊢
  generalize (n : Int) = ni at hv ⊢
  obtain ⟨ys, M2, e, c, l, p⟩ := lcGo_grow (g := gN 6) (t := tYes) (e := eC f__law_lane (aCons (eV 4) aNil)) (δ := [some a0, some a1, some a2, some (.int (k : Int)), some (.int ni), some (.loc lw), none]) (I := fun A B => Chg [] A B) (P := fun A y => ∃ l kvs, y = .loc l ∧ M.length ≤ l ∧ A[l]? = some (.dk kvs) ∧ getS kvs "out" = some R)
    (fun M => Chg.refl) (fun a b => a.trans b) (fun {A B y} a ⟨l, kvs, h1, h2, h3, h4⟩ => ⟨l, kvs, h1, h2, a.get h3 (by simp), h4⟩) (ds := rngD 0 k) (M := M) (fun A d hA hd => by
      obtain ⟨kvs, A2, e1, c1, g1, o1⟩ := hv A
      generalize (k : Int) = ki
      refine ⟨[some a0, some a1, some a2, some (.int ki), some (.int ni), some (.loc lw), some d], rfl, rfl, .loc (A.length + 1), A2, ?_, c1, A.length + 1, kvs, rfl, by have := hA.1; omega, g1, o1⟩
      rw [x_eC, x_aCons, x_eV]
      exact e1)
  exact ⟨ys, M2, x_lLc_go (x_rng (n := k) rfl (by unfold cap; omega)) (by rw [rngD_len]; omega) e, c, by rw [l, rngD_len], p⟩
end Dt
namespace Dt
open PySem
/-- a world as it is laid at b -/
structure Laid (b n k : Nat) (rs purse : D) (M M2 : Mem) (lla : Nat) : Prop where
  chg : Chg [] M M2
  b0 : M.length ≤ b
  wd : M2[b + 3]? = some (.dk (WK3 rs purse b lla))
  far : M2[b + 5]? = some (.lst [])
  num : M2[b + 6]? = some (.dn [])
  let_ : M2[b + 7]? = some (.dn [])
  lan : ∃ lans l0 kv0, M2[lla]? = some (.lst (.loc l0 :: lans)) ∧ lans.length + 1 = k ∧ M2[l0]? = some (.dk kv0) ∧ getS kv0 "out" = some (ring0 n) ∧ b + 9 ≤ l0
  b9 : b + 9 ≤ lla
  ll : lla < M2.length
theorem pages_mul (M : Mem) : dMulT (.tup [.tup (List.replicate 8 (.int 0))]) (.int 8) M = .ok (.tup PAGES) M := rfl
theorem zeros_mul (M : Mem) : dMulT (.tup [.int 0]) (.int 8) M = .ok (.tup (List.replicate 8 (.int 0))) M := rfl
theorem p_world {n k : Nat} (h : n ∈ WIDES) (k0 : 1 ≤ k) (hk : k ≤ 2) {rs : List D} (hrs : rs.length = 8) (purse : D) (M : Mem) : ∃ M2 lla, f__law_world [HALF, .tup rs, purse, .int (k : Int), .int (n : Int)] M = .ok (.loc (M.length + 3)) M2 ∧ Laid M.length n k (.tup rs) purse M M2 lla := by
  have hr : f__law_world [HALF, .tup rs, purse, .int (k : Int), .int (n : Int)] M = (m__law_world [some HALF, some (.tup rs), some purse, some (.int (k : Int)), some (.int (n : Int)), none, none] M).fin := x_run rfl rfl
  have hlan := fun b M => lanes_go h hk HALF (.tup rs) purse b M
  rw [hr]
  generalize hki : (k : Int) = ki at hlan ⊢
  generalize hni : (n : Int) = ni at hlan ⊢
  generalize hb : M.length = b
  unfold m__law_world
  obtain ⟨M1, hM1⟩ : ∃ M1, M1 = M ++ [MO.lst [], MO.dn [], MO.dn [], MO.dk (WK0 (.tup rs) purse b)] := ⟨_, rfl⟩
  have g1 : sAsg (gN 5) (eDict [("half", (eV 0)), ("rights", (eV 1)), ("purse", (eV 2)), ("row", (eL dReg (lDisp aNil))), ("numbers", eDn), ("joinings", eDn)]) [some HALF, some (.tup rs), some purse, some (.int ki), some (.int ni), none, none] M =
      .nx [some HALF, some (.tup rs), some purse, some (.int ki), some (.int ni), some (.loc (b + 3)), none] M1 := by
    have e1 := x_newl [some HALF, some (.tup rs), some purse, some (.int ki), some (.int ni), none, none] M
    have ea : aOf [("half", (eV 0)), ("rights", (eV 1)), ("purse", (eV 2)), ("row", (eL dReg (lDisp aNil))), ("numbers", eDn), ("joinings", eDn)] [some HALF, some (.tup rs), some purse, some (.int ki), some (.int ni), none, none] M = .ok [HALF, .tup rs, purse, .loc b, .loc (b + 1), .loc (b + 2)] (M ++ [MO.lst [], MO.dn [], MO.dn []]) := by
      simp only [aOf, x_aCons, x_eV, e1, x_newd, Res.bind_ok, x_aNil, List.getElem?_cons_zero, List.getElem?_cons_succ]
      simp [hb]
    rw [x_sAsg, x_eDict ea, hM1]
    simp [WK0, hb]
  rw [x_seq g1]
  have l1 : M1.length = b + 4 := by rw [hM1]; simp [hb]
  have a1 : M1[b + 3]? = some (.dk (WK0 (.tup rs) purse b)) := by rw [hM1, ← hb]; exact app_at rfl
  obtain ⟨M2, hM2⟩ : ∃ M2, M2 = M ++ [MO.lst [], MO.dn [], MO.dn [], MO.dk (WK1 (.tup rs) purse b), MO.dk UK1] := ⟨_, rfl⟩
  have g2 : sExpr (eUpd (eV 5) (eDict [("moves", (eN dTup aNil)), ("steers", (eN dTup aNil)), ("epoch", (eK (.int 0))), ("clock", (eK (.int 0))), ("stuck", (eN dTup aNil)), ("aside", (eK .non))])) [some HALF, some (.tup rs), some purse, some (.int ki), some (.int ni), some (.loc (b + 3)), none] M1 =
      .nx [some HALF, some (.tup rs), some purse, some (.int ki), some (.int ni), some (.loc (b + 3)), none] M2 := by
    have ea : aOf [("moves", (eN dTup aNil)), ("steers", (eN dTup aNil)), ("epoch", (eK (.int 0))), ("clock", (eK (.int 0))), ("stuck", (eN dTup aNil)), ("aside", (eK .non))] [some HALF, some (.tup rs), some purse, some (.int ki), some (.int ni), some (.loc (b + 3)), none] M1 = .ok [.tup [], .tup [], .int 0, .int 0, .tup [], .non] M1 := by
      simp only [aOf, x_aCons, x_eN, x_eK, Res.bind_ok, x_aNil, x_tup0]
    have ed : eDict [("moves", (eN dTup aNil)), ("steers", (eN dTup aNil)), ("epoch", (eK (.int 0))), ("clock", (eK (.int 0))), ("stuck", (eN dTup aNil)), ("aside", (eK .non))] [some HALF, some (.tup rs), some purse, some (.int ki), some (.int ni), some (.loc (b + 3)), none] M1 = .ok (.loc M1.length) (M1 ++ [MO.dk UK1]) := x_eDict ea
    have q := x_upd (o := eV 5) (δ := [some HALF, some (.tup rs), some purse, some (.int ki), some (.int ni), some (.loc (b + 3)), none]) rfl a1 ed (kvs := WK0 (.tup rs) purse b) (more := UK1) (by rw [List.getElem?_append_left (by omega)]; exact a1) (app_at (i := 0) rfl) (by omega) (by show ["half", "rights", "purse", "row", "numbers", "joinings"].Nodup; decide) (by show 6 + 6 ≤ 100000; decide)
    rw [x_sExpr, q, hM1, hM2, List.append_assoc, ← hb, app_set]
    rfl
  rw [x_seq g2]
  have l2 : M2.length = b + 5 := by rw [hM2]; simp [hb]
  have a2 : M2[b + 3]? = some (.dk (WK1 (.tup rs) purse b)) := by rw [hM2, ← hb]; exact app_at rfl
  obtain ⟨M3, hM3⟩ : ∃ M3, M3 = M ++ [MO.lst [], MO.dn [], MO.dn [], MO.dk (WK2 (.tup rs) purse b), MO.dk UK1, MO.lst [], MO.dn [], MO.dn [], MO.dk (UK2 (b + 5))] := ⟨_, rfl⟩
  have g3 : sExpr (eUpd (eV 5) (eDict [("memory", (eB dMulT (eN dTup (aCons (eB dMulT (eN dTup (aCons (eK (.int 0)) aNil)) (eK (.int 8))) aNil)) (eN dLen (aCons (eV 1) aNil)))), ("far", (eL dReg (lDisp aNil))), ("numbered", eDn), ("letters", eDn), ("era", (eK (.int 0)))])) [some HALF, some (.tup rs), some purse, some (.int ki), some (.int ni), some (.loc (b + 3)), none] M2 =
      .nx [some HALF, some (.tup rs), some purse, some (.int ki), some (.int ni), some (.loc (b + 3)), none] M3 := by
    have e1 := x_newl [some HALF, some (.tup rs), some purse, some (.int ki), some (.int ni), some (.loc (b + 3)), none] M2
    have el : dLen [.tup rs] M2 = .ok (.int 8) M2 := by
      show Res.ok (D.int ((rs.length : Nat) : Int)) M2 = _
      rw [hrs]
      rfl
    have ea : aOf [("memory", (eB dMulT (eN dTup (aCons (eB dMulT (eN dTup (aCons (eK (.int 0)) aNil)) (eK (.int 8))) aNil)) (eN dLen (aCons (eV 1) aNil)))), ("far", (eL dReg (lDisp aNil))), ("numbered", eDn), ("letters", eDn), ("era", (eK (.int 0)))] [some HALF, some (.tup rs), some purse, some (.int ki), some (.int ni), some (.loc (b + 3)), none] M2 =
        .ok [.tup PAGES, .loc (b + 5), .loc (b + 6), .loc (b + 7), .int 0] (M2 ++ [MO.lst [], MO.dn [], MO.dn []]) := by
      simp only [aOf, x_aCons, x_eN, x_eK, x_eV, x_eB, Res.bind_ok, x_aNil, x_tup1, zeros_mul, el, pages_mul, e1, x_newd, List.getElem?_cons_zero, List.getElem?_cons_succ]
      simp [l2]
    have ed : eDict [("memory", (eB dMulT (eN dTup (aCons (eB dMulT (eN dTup (aCons (eK (.int 0)) aNil)) (eK (.int 8))) aNil)) (eN dLen (aCons (eV 1) aNil)))), ("far", (eL dReg (lDisp aNil))), ("numbered", eDn), ("letters", eDn), ("era", (eK (.int 0)))] [some HALF, some (.tup rs), some purse, some (.int ki), some (.int ni), some (.loc (b + 3)), none] M2 =
        .ok (.loc (b + 8)) (M2 ++ [MO.lst [], MO.dn [], MO.dn [], MO.dk (UK2 (b + 5))]) := by
      rw [x_eDict ea]
      simp [UK2, l2]
    have q := x_upd (o := eV 5) (δ := [some HALF, some (.tup rs), some purse, some (.int ki), some (.int ni), some (.loc (b + 3)), none]) rfl a2 ed (kvs := WK1 (.tup rs) purse b) (more := UK2 (b + 5)) (by rw [List.getElem?_append_left (by omega)]; exact a2) (by rw [show b + 8 = M2.length + 3 by omega]; exact app_at rfl) (by omega) (by show ["half", "rights", "purse", "row", "numbers", "joinings", "moves", "steers", "epoch", "clock", "stuck", "aside"].Nodup; decide) (by show 12 + 5 ≤ 100000; decide)
    rw [x_sExpr, q, hM2, hM3, List.append_assoc, ← hb, app_set]
    rfl
  rw [x_seq g3]
  have l3 : M3.length = b + 9 := by rw [hM3]; simp [hb]
  have a3 : M3[b + 3]? = some (.dk (WK2 (.tup rs) purse b)) := by rw [hM3, ← hb]; exact app_at rfl
  obtain ⟨ys, M4, e4, c4, ly, py⟩ := hlan (b + 3) M3
  have a4 : M4[b + 3]? = some (.dk (WK2 (.tup rs) purse b)) := c4.get a3 (by simp)
  have l4 : b + 9 ≤ M4.length := by have := c4.1; omega
  have g4 : sExpr (eUpd (eV 5) (eDict [("lanes", (eL dReg (lLc (iRng1D (aCons (eV 3) aNil)) (gN 6) tYes (eC f__law_lane (aCons (eV 4) aNil)) [6]))), ("cut", (eK (.int 4))), ("most", (eK (.int 2))), ("wait", (eK (.int 4)))])) [some HALF, some (.tup rs), some purse, some (.int ki), some (.int ni), some (.loc (b + 3)), none] M3 =
      .nx [some HALF, some (.tup rs), some purse, some (.int ki), some (.int ni), some (.loc (b + 3)), none] ((M4 ++ [MO.lst ys, MO.dk (UK3 M4.length)]).set (b + 3) (.dk (WK3 (.tup rs) purse b M4.length))) := by
    have e1 : eL dReg (lLc (iRng1D (aCons (eV 3) aNil)) (gN 6) tYes (eC f__law_lane (aCons (eV 4) aNil)) [6]) [some HALF, some (.tup rs), some purse, some (.int ki), some (.int ni), some (.loc (b + 3)), none] M3 = .ok (.loc M4.length) (M4 ++ [MO.lst ys]) := by
      rw [x_eL, e4]
      rfl
    have ea : aOf [("lanes", (eL dReg (lLc (iRng1D (aCons (eV 3) aNil)) (gN 6) tYes (eC f__law_lane (aCons (eV 4) aNil)) [6]))), ("cut", (eK (.int 4))), ("most", (eK (.int 2))), ("wait", (eK (.int 4)))] [some HALF, some (.tup rs), some purse, some (.int ki), some (.int ni), some (.loc (b + 3)), none] M3 = .ok [.loc M4.length, .int 4, .int 2, .int 4] (M4 ++ [MO.lst ys]) := by
      simp only [aOf, x_aCons, e1, x_eK, Res.bind_ok, x_aNil]
    have ed : eDict [("lanes", (eL dReg (lLc (iRng1D (aCons (eV 3) aNil)) (gN 6) tYes (eC f__law_lane (aCons (eV 4) aNil)) [6]))), ("cut", (eK (.int 4))), ("most", (eK (.int 2))), ("wait", (eK (.int 4)))] [some HALF, some (.tup rs), some purse, some (.int ki), some (.int ni), some (.loc (b + 3)), none] M3 = .ok (.loc (M4.length + 1)) (M4 ++ [MO.lst ys, MO.dk (UK3 M4.length)]) := by
      rw [x_eDict ea]
      simp [UK3]
    have q := x_upd (o := eV 5) (δ := [some HALF, some (.tup rs), some purse, some (.int ki), some (.int ni), some (.loc (b + 3)), none]) rfl a3 ed (kvs := WK2 (.tup rs) purse b) (more := UK3 M4.length) (by rw [List.getElem?_append_left (by omega)]; exact a4) (app_at rfl) (by omega) (by show ["half", "rights", "purse", "row", "numbers", "joinings", "moves", "steers", "epoch", "clock", "stuck", "aside", "memory", "far", "numbered", "letters", "era"].Nodup; decide) (by show 17 + 4 ≤ 100000; decide)
    rw [x_sExpr, q, wk3]
    rfl
  obtain ⟨M5, hM5⟩ : ∃ M5, M5 = (M4 ++ [MO.lst ys, MO.dk (UK3 M4.length)]).set (b + 3) (.dk (WK3 (.tup rs) purse b M4.length)) := ⟨_, rfl⟩
  have get5 : ∀ (l : Nat) (o : MO), M4[l]? = some o → l ≠ b + 3 → M5[l]? = some o := fun l o h1 h2 => by
    rw [hM5, set_ne (Ne.symm h2), List.getElem?_append_left (List.getElem?_eq_some_iff.mp h1).1]
    exact h1
  rw [← hM5] at g4
  rw [x_seq g4]
  refine ⟨M5, M4.length, rfl, ?_⟩
  have low : ∀ l o, M3[l]? = some o → l ≠ b + 3 → M5[l]? = some o := fun l o h1 h2 => get5 l o (c4.get h1 (by simp)) h2
  have lt5 : M5.length = M4.length + 2 := by rw [hM5]; simp
  refine ⟨⟨by omega, fun l hl _ => ?_⟩, by omega, ?_, low _ _ (by rw [hM3, ← hb]; exact app_at rfl) (by omega), low _ _ (by rw [hM3, ← hb]; exact app_at rfl) (by omega), low _ _ (by rw [hM3, ← hb]; exact app_at rfl) (by omega), ?_, l4, by omega⟩
  · have h1 : M[l]? = some M[l] := List.getElem?_eq_getElem hl
    rw [h1]
    exact low _ _ (by rw [hM3, List.getElem?_append_left hl]; exact h1) (by omega)
  · rw [hM5]
    exact set_at (u := .dk (WK2 (.tup rs) purse b)) (by rw [List.getElem?_append_left (by omega)]; exact a4)
  · cases ys with
    | nil => simp at ly; omega
    | cons y yr =>
      obtain ⟨l, kvs, rfl, h1, h2, h3⟩ := py y List.mem_cons_self
      refine ⟨yr, l, kvs, ?_, by simpa using ly, get5 _ _ h2 (by omega), h3, by omega⟩
      rw [hM5, set_ne (by omega)]
      exact app_at (i := 0) rfl
end Dt
namespace Dt
open PySem
structure Begun (lf lc b n k : Nat) (kv : List (String × D)) (M M2 : Mem) (lla : Nat) : Prop where
  feed : FeedOk lc M2 lf
  chg : Chg [lf] M M2
  b0 : M.length ≤ b
  wd : M2[b + 3]? = some (.dk kv)
  far : M2[b + 5]? = some (.lst [])
  num : M2[b + 6]? = some (.dn [])
  let_ : M2[b + 7]? = some (.dn [])
  lan : ∃ lans l0 kv0, M2[lla]? = some (.lst (.loc l0 :: lans)) ∧ lans.length + 1 = k ∧ M2[l0]? = some (.dk kv0) ∧ getS kv0 "out" = some (ring0 n) ∧ b + 9 ≤ l0
  b9 : b + 9 ≤ lla
  ll : lla < M2.length
theorem FeedOk.lt {lc lf : Nat} {M : Mem} (h : FeedOk lc M lf) : lf < M.length ∧ lc < M.length := by
  obtain ⟨a, l, c, cells, h1, h2, h3⟩ := h
  exact ⟨(List.getElem?_eq_some_iff.mp h1).1, (List.getElem?_eq_some_iff.mp h2).1⟩
theorem Begun.put {lf lc b n k lla : Nat} {kv kv2 : List (String × D)} {M M2 : Mem} (hf : FeedOk lc M lf) (h : Begun lf lc b n k kv M M2 lla) : Begun lf lc b n k kv2 M (M2.set (b + 3) (.dk kv2)) lla := by
  obtain ⟨q1, q2⟩ := hf.lt
  have b0 := h.b0
  have b9 := h.b9
  obtain ⟨lans, l0, kv0, h1, h2, h3, h4, h5⟩ := h.lan
  have ch : Chg [b + 3] M2 (M2.set (b + 3) (.dk kv2)) := Chg.set (by simp)
  exact ⟨h.feed.chg ch (by simp; omega) (by simp; omega), ⟨by rw [List.length_set]; exact h.chg.1, fun l hl hn => by rw [set_ne (by omega)]; exact h.chg.2 l hl hn⟩, b0, set_at h.wd, ch.get h.far (by simp), ch.get h.num (by simp), ch.get h.let_ (by simp),
    ⟨lans, l0, kv0, ch.get h1 (by simp; omega), h2, ch.get h3 (by simp; omega), h4, h5⟩, b9, by rw [List.length_set]; exact h.ll⟩
theorem Begun.fed {lf lc b n k lla : Nat} {kv : List (String × D)} {M M2 M3 : Mem} (hf : FeedOk lc M lf) (h : Begun lf lc b n k kv M M2 lla) (f : Fed lc lf M2 M3) : Begun lf lc b n k kv M M3 lla := by
  obtain ⟨q1, q2⟩ := hf.lt
  have b0 := h.b0
  have b9 := h.b9
  obtain ⟨lans, l0, kv0, h1, h2, h3, h4, h5⟩ := h.lan
  have ch : Chg [lf] M2 M3 := f.chg (by simp)
  exact ⟨f.ok, h.chg.trans ch, b0, ch.get h.wd (by simp; omega), ch.get h.far (by simp; omega), ch.get h.num (by simp; omega), ch.get h.let_ (by simp; omega),
    ⟨lans, l0, kv0, ch.get h1 (by simp; omega), h2, ch.get h3 (by simp; omega), h4, h5⟩, b9, Nat.lt_of_lt_of_le h.ll ch.1⟩
def PUR3 : List D := [.tup [.tup [.int 2, .int 1], .tup [.int 1, .int 1], .tup [.int 4, .int 1]], .tup [.tup [.int 1, .int 2], .tup [.int 1, .int 3], .tup [.int 3, .int 2]], .tup [.tup [.int 8, .int 1], .tup [.int 1, .int 1], .tup [.int 8, .int 1]]]
def PUR1 : D := .tup [.tup [.int 0, .int 1], .tup [.int 1, .int 8], .tup [.int 1, .int 1]]
theorem pur_in : ∀ p ∈ PUR3 ++ [PUR1], p ∈ PURS := by
  intro p h
  simp only [PUR3, PUR1, List.cons_append, List.nil_append, List.mem_cons, List.not_mem_nil, or_false] at h
  rcases h with rfl | rfl | rfl | rfl
  · exact List.mem_of_getElem? (i := 0) rfl
  · exact List.mem_of_getElem? (i := 3) rfl
  · exact List.mem_of_getElem? (i := 7) rfl
  · exact List.mem_of_getElem? (i := 8) rfl
theorem x_putS2m {k1 k2 : String} {o v : E} {δ : Env} {l : Nat} {M M1 : Mem} {kvs : List (String × D)} {y1 y2 : D} (hv : v δ M = .ok (.tup [y1, y2]) M1) (ho : ∀ M, o δ M = .ok (.loc l) M) (h : M1[l]? = some (.dk kvs)) (nd : (kvs.map (·.1)).Nodup) (hl : kvs.length + 1 < cap) :
    sPutS2 o k1 o k2 v δ M = .nx δ (M1.set l (.dk (putS (putS kvs k1 y1) k2 y2))) := by
  unfold sPutS2
  rw [hv]
  simp only [Res.st_ok, ho, mput h nd (Nat.lt_of_succ_lt hl)]
  have h2 : (M1.set l (.dk (putS kvs k1 y1)))[l]? = some (.dk (putS kvs k1 y1)) := set_at h
  have := put_len kvs k1 y1
  simp only [mput h2 (put_nd _ _ _ nd) (by omega), List.set_set]
/-- draws within an environment that begins with the feed -/
theorem e_draw {M : Mem} {lc lf m : Nat} {mi : Int} {δ : Env} (hmi : (m : Int) = mi) (h : FeedOk lc M lf) (m0 : 0 < m) (m1 : m ≤ 1000) (h0 : δ[0]? = some (some (.loc lf))) : ∃ (r : Nat) (M2 : Mem), r < m ∧ eC f__law_draw (aCons (eV 0) (aCons (eK (.int mi)) aNil)) δ M = .ok (.int (r : Int)) M2 ∧ Fed lc lf M M2 := by
  subst hmi
  obtain ⟨r, M2, hr, e, f⟩ := draw h m0 m1
  refine ⟨r, M2, hr, ?_, f⟩
  rw [x_eC, x_aCons, x_eV, h0]
  exact e
/-- an item of a written list of data, drawn -/
theorem e_pick {M : Mem} {lc lf m : Nat} {mi : Int} {δ : Env} {l : Ar} {ds : List D} (hmi : (m : Int) = mi) (h : FeedOk lc M lf) (m0 : 0 < m) (m1 : m ≤ 100) (h0 : δ[0]? = some (some (.loc lf))) (hl : ∀ M, l δ M = .ok ds M) (hd : ds.length = m) : ∃ (d : D) (M2 : Mem), d ∈ ds ∧ eIxL (lDisp l) (eC f__law_draw (aCons (eV 0) (aCons (eK (.int mi)) aNil))) δ M = .ok d M2 ∧ Fed lc lf M M2 := by
  obtain ⟨r, M2, hr, e, f⟩ := e_draw (δ := δ) hmi h m0 (by omega) h0
  refine ⟨ds[r], M2, List.getElem_mem _, x_pick (lDisp_ok (hl M) (by omega)) e (by omega), f⟩
def KF (rs purse : D) (b l : Nat) (cut most wait : D) : List (String × D) := WK2 rs purse b ++ [("lanes", .loc l), ("cut", cut), ("most", most), ("wait", wait)]
theorem kf_put (rs purse : D) (b l : Nat) (cut most wait : D) : putS (putS (putS (WK3 rs purse b l) "cut" cut) "most" most) "wait" wait = KF rs purse b l cut most wait := rfl
theorem wk3_nd (rs purse : D) (b l : Nat) : ((WK3 rs purse b l).map (·.1)).Nodup := by
  show ["half", "rights", "purse", "row", "numbers", "joinings", "moves", "steers", "epoch", "clock", "stuck", "aside", "memory", "far", "numbered", "letters", "era", "lanes", "cut", "most", "wait"].Nodup
  decide
theorem p_drawn {M : Mem} {lf lc : Nat} (hf : FeedOk lc M lf) : ∃ (n k b lla : Nat) (rs purse cut : D) (most wait : Int) (M2 : Mem), n ∈ WIDES ∧ 1 ≤ k ∧ k ≤ 2 ∧ purse ∈ PURS ∧ f__law_drawn [.loc lf] M = .ok (.loc (b + 3)) M2 ∧ Begun lf lc b n k (KF rs purse b lla cut (.int most) (.int wait)) M M2 lla := by
  have hr : f__law_drawn [.loc lf] M = (m__law_drawn [some (.loc lf), none, none, none, none, none] M).fin := x_run rfl rfl
  rw [hr]
  unfold m__law_drawn
  -- the rights
  obtain ⟨rs, M1, e1, f1, lrs, _⟩ := x_lLc_fed (it := iRng1D (aCons (eK (.int 8)) aNil)) (g := gN 5) (t := tYes) (e := eIxL (lDisp (aCons (eK (.str "ann")) (aCons (eK (.str "ann")) (aCons (eK (.str "ann")) (aCons (eK (.str "bob")) aNil))))) (eC f__law_draw (aCons (eV 0) (aCons (eK (.int 4)) aNil)))) (vs := [5])
    (δ := [some (.loc lf), none, none, none, none, none]) (M := M) (ds := rngD 0 8) (lf := lf) (lc := lc) (P := fun _ => True) (x_rng (n := 8) rfl (by decide)) (by rw [rngD_len]; decide) hf fun A d hA _ => by
      obtain ⟨y, A2, _, e, f⟩ := e_pick (m := 4) (mi := 4) (l := aCons (eK (.str "ann")) (aCons (eK (.str "ann")) (aCons (eK (.str "ann")) (aCons (eK (.str "bob")) aNil)))) (δ := [some (.loc lf), none, none, none, none, some d]) (ds := [.str "ann", .str "ann", .str "ann", .str "bob"]) rfl hA (by decide) (by decide) rfl (fun _ => rfl) rfl
      exact ⟨_, rfl, rfl, y, A2, e, f, trivial⟩
  rw [rngD_len] at lrs
  rw [x_seq (δ2 := [some (.loc lf), some (.tup rs), none, none, none, none]) (M2 := M1) (by rw [x_sAsg, x_eL, e1]; rfl)]
  -- the purses
  obtain ⟨M2, hM2⟩ : ∃ M2, M2 = M1 ++ [MO.lst PUR3] := ⟨_, rfl⟩
  rw [x_seq (δ2 := [some (.loc lf), some (.tup rs), some (.loc M1.length), none, none, none]) (M2 := M2) (by rw [hM2]; rfl)]
  have c2 : Chg ([] : List Nat) M1 M2 := by rw [hM2]; exact Chg.app
  have hf2 : FeedOk lc M2 lf := f1.ok.chg c2 (by simp) (by simp)
  have hp2 : M2[M1.length]? = some (.lst PUR3) := by rw [hM2]; exact app_at (i := 0) rfl
  obtain ⟨r3, M3, hr3, e3, f3⟩ := e_draw (m := 4) (mi := 4) (δ := [some (.loc lf), some (.tup rs), some (.loc M1.length), none, none, none]) rfl hf2 (by decide) (by decide) rfl
  have hp : (PUR3 ++ [PUR1])[r3]'(by show r3 < 4; exact hr3) ∈ PURS := pur_in _ (List.getElem_mem _)
  have g3 : sAsg (gN 3) (eIxL (lCat (eV 2) (lDisp (aCons (eN dTup (aCons (eN dTup (aCons (eK (.int 0)) (aCons (eK (.int 1)) aNil))) (aCons (eN dTup (aCons (eK (.int 1)) (aCons (eK (.int 8)) aNil))) (aCons (eN dTup (aCons (eK (.int 1)) (aCons (eK (.int 1)) aNil))) aNil)))) aNil))) (eC f__law_draw (aCons (eV 0) (aCons (eK (.int 4)) aNil)))) [some (.loc lf), some (.tup rs), some (.loc M1.length), none, none, none] M2 =
      .nx [some (.loc lf), some (.tup rs), some (.loc M1.length), some ((PUR3 ++ [PUR1])[r3]'(by show r3 < 4; exact hr3)), none, none] M3 := by
    have ec : lCat (eV 2) (lDisp (aCons (eN dTup (aCons (eN dTup (aCons (eK (.int 0)) (aCons (eK (.int 1)) aNil))) (aCons (eN dTup (aCons (eK (.int 1)) (aCons (eK (.int 8)) aNil))) (aCons (eN dTup (aCons (eK (.int 1)) (aCons (eK (.int 1)) aNil))) aNil)))) aNil)) [some (.loc lf), some (.tup rs), some (.loc M1.length), none, none, none] M2 = .ok (PUR3 ++ [PUR1]) M2 := by
      have ed : lDisp (aCons (eN dTup (aCons (eN dTup (aCons (eK (.int 0)) (aCons (eK (.int 1)) aNil))) (aCons (eN dTup (aCons (eK (.int 1)) (aCons (eK (.int 8)) aNil))) (aCons (eN dTup (aCons (eK (.int 1)) (aCons (eK (.int 1)) aNil))) aNil)))) aNil) [some (.loc lf), some (.tup rs), some (.loc M1.length), none, none, none] M2 = .ok [PUR1] M2 := rfl
      unfold lCat
      rw [x_eV]
      simp only [List.getElem?_cons_zero, List.getElem?_cons_succ, Res.bind_ok]
      rw [ed]
      simp only [Res.bind_ok, hp2]
      exact if_pos (by show 4 ≤ 100000; decide)
    rw [x_sAsg, x_pick ec e3 (by show r3 < 4; exact hr3)]
    rfl
  rw [x_seq g3]
  generalize (PUR3 ++ [PUR1])[r3]'(by show r3 < 4; exact hr3) = purse at hp ⊢
  -- the world
  obtain ⟨r4, M4, hr4, e4, f4⟩ := e_draw (m := 2) (mi := 2) (δ := [some (.loc lf), some (.tup rs), some (.loc M1.length), some purse, none, none]) rfl f3.ok (by decide) (by decide) rfl
  obtain ⟨nd, M5, hnd, e5, f5⟩ := e_pick (m := 4) (mi := 4) (l := aCons (eK (.int 4)) (aCons (eK (.int 2)) (aCons (eK (.int 1)) (aCons (eK (.int 8)) aNil)))) (δ := [some (.loc lf), some (.tup rs), some (.loc M1.length), some purse, none, none]) (ds := [.int 4, .int 2, .int 1, .int 8]) rfl f4.ok (by decide) (by decide) rfl (fun _ => rfl) rfl
  obtain ⟨n, hn, rfl⟩ : ∃ n ∈ WIDES, nd = .int ((n : Nat) : Int) := by
    simp only [List.mem_cons, List.not_mem_nil, or_false] at hnd
    rcases hnd with rfl | rfl | rfl | rfl
    · exact ⟨4, by decide, rfl⟩
    · exact ⟨2, by decide, rfl⟩
    · exact ⟨1, by decide, rfl⟩
    · exact ⟨8, by decide, rfl⟩
  obtain ⟨M6, lla, e6, ld⟩ := p_world (k := r4 + 1) hn (by omega) (by omega) lrs purse M5
  have c05 : Chg [lf] M M5 := ((((f1.chg (by simp)).trans (c2.mono (by simp))).trans (f3.chg (by simp))).trans (f4.chg (by simp))).trans (f5.chg (by simp))
  have bg : Begun lf lc M5.length n (r4 + 1) (WK3 (.tup rs) purse M5.length lla) M M6 lla := ⟨f5.ok.chg ld.chg (by simp) (by simp), c05.trans (ld.chg.mono (by simp)), c05.1, ld.wd, ld.far, ld.num, ld.let_, ld.lan, ld.b9, ld.ll⟩
  have ek : (1 : Int) + ((r4 : Nat) : Int) = ((r4 + 1 : Nat) : Int) := by omega
  have g4 : sAsg (gN 4) (eC f__law_world (aCons (eN dTup (aCons (eK (.int 0)) (aCons (eK (.str "ann")) aNil))) (aCons (eV 1) (aCons (eV 3) (aCons (eB dAdd (eK (.int 1)) (eC f__law_draw (aCons (eV 0) (aCons (eK (.int 2)) aNil)))) (aCons (eIxL (lDisp (aCons (eK (.int 4)) (aCons (eK (.int 2)) (aCons (eK (.int 1)) (aCons (eK (.int 8)) aNil))))) (eC f__law_draw (aCons (eV 0) (aCons (eK (.int 4)) aNil)))) aNil)))))) [some (.loc lf), some (.tup rs), some (.loc M1.length), some purse, none, none] M3 =
      .nx [some (.loc lf), some (.tup rs), some (.loc M1.length), some purse, some (.loc (M5.length + 3)), none] M6 := by
    have ea : eB dAdd (eK (.int 1)) (eC f__law_draw (aCons (eV 0) (aCons (eK (.int 2)) aNil))) [some (.loc lf), some (.tup rs), some (.loc M1.length), some purse, none, none] M3 = .ok (.int ((r4 + 1 : Nat) : Int)) M4 := by
      have e4 : eC f__law_draw (aCons (eV 0) (aCons (eK (.int 2)) aNil)) [some (.loc lf), some (.tup rs), some (.loc M1.length), some purse, none, none] M3 = .ok (.int (r4 : Int)) M4 := e4
      rw [x_eB, x_eK, Res.bind_ok, e4, Res.bind_ok, x_add, ek]
    rw [x_sAsg, x_eC, x_two (x := HALF) (M1 := M3) rfl (x_two (x := .tup rs) (M1 := M3) rfl (x_two (x := purse) (M1 := M3) rfl (x_two ea (x_two e5 (x_aNil _ _))))), Res.bind_ok, e6]
    rfl
  rw [x_seq g4]
  generalize M5.length = b at bg ⊢
  obtain ⟨δ, hδ⟩ : ∃ δ, δ = [some (.loc lf), some (.tup rs), some (.loc M1.length), some purse, some (.loc (b + 3)), (none : Option D)] := ⟨_, rfl⟩
  rw [← hδ]
  have hδ0 : δ[0]? = some (some (.loc lf)) := by rw [hδ]; rfl
  have hδ4 : ∀ M, eV 4 δ M = .ok (.loc (b + 3)) M := fun M => by rw [hδ]; rfl
  -- cut, most
  obtain ⟨r7, M7, hr7, e7, f7⟩ := e_draw (m := 4) (mi := 4) (δ := δ) rfl bg.feed (by decide) (by decide) hδ0
  have e7 : eC f__law_draw (aCons (eV 0) (aCons (eK (.int 4)) aNil)) δ M6 = .ok (.int (r7 : Int)) M7 := e7
  obtain ⟨mo, M8, hmo, e8, f8⟩ := e_pick (m := 4) (mi := 4) (l := aCons (eK (.int 1)) (aCons (eK (.int 2)) (aCons (eK (.int 3)) (aCons (eK (.int 9)) aNil)))) (δ := δ) (ds := [.int 1, .int 2, .int 3, .int 9]) rfl f7.ok (by decide) (by decide) hδ0 (fun _ => rfl) rfl
  obtain ⟨most, rfl⟩ : ∃ i : Int, mo = .int i := by
    simp only [List.mem_cons, List.not_mem_nil, or_false] at hmo
    rcases hmo with rfl | rfl | rfl | rfl <;> exact ⟨_, rfl⟩
  have bg8 := (bg.fed hf f7).fed hf f8
  have g5 := x_putS2m (o := eV 4) (k1 := "cut") (k2 := "most") (v := eN dTup (aCons (eB dAdd (eK (.int 1)) (eC f__law_draw (aCons (eV 0) (aCons (eK (.int 4)) aNil)))) (aCons (eIxL (lDisp (aCons (eK (.int 1)) (aCons (eK (.int 2)) (aCons (eK (.int 3)) (aCons (eK (.int 9)) aNil))))) (eC f__law_draw (aCons (eV 0) (aCons (eK (.int 4)) aNil)))) aNil))) (δ := δ) (M := M6) (M1 := M8) (y1 := .int (1 + (r7 : Int))) (y2 := .int most)
    (by
      rw [x_eN, x_two (x := .int (1 + (r7 : Int))) (M1 := M7) (by rw [x_eB, x_eK, Res.bind_ok, e7, Res.bind_ok, x_add]) (x_two e8 (x_aNil _ _)), Res.bind_ok, x_tup2]) hδ4 bg8.wd (wk3_nd _ _ _ _) (by show 22 < 100000; decide)
  rw [x_seq g5]
  have bg9 := bg8.put (kv2 := putS (putS (WK3 (.tup rs) purse b lla) "cut" (.int (1 + (r7 : Int)))) "most" (.int most)) hf
  obtain ⟨wa, M10, hwa, e10, f10⟩ := e_pick (m := 5) (mi := 5) (l := aCons (eK (.int 1)) (aCons (eK (.int 2)) (aCons (eK (.int 3)) (aCons (eK (.int 4)) (aCons (eK (.int 12)) aNil))))) (δ := δ) (ds := [.int 1, .int 2, .int 3, .int 4, .int 12]) rfl bg9.feed (by decide) (by decide) hδ0 (fun _ => rfl) rfl
  obtain ⟨wait, rfl⟩ : ∃ i : Int, wa = .int i := by
    simp only [List.mem_cons, List.not_mem_nil, or_false] at hwa
    rcases hwa with rfl | rfl | rfl | rfl | rfl <;> exact ⟨_, rfl⟩
  have bg10 := bg9.fed hf f10
  have g6 := x_putS (o := eV 4) (k := "wait") (hv := e10) (ho := hδ4 _) bg10.wd (put_nd _ _ _ (put_nd _ _ _ (wk3_nd _ _ _ _))) (by have := put_len (putS (WK3 (.tup rs) purse b lla) "cut" (.int (1 + (r7 : Int)))) "most" (.int most); have := put_len (WK3 (.tup rs) purse b lla) "cut" (.int (1 + (r7 : Int))); have : (WK3 (.tup rs) purse b lla).length = 21 := rfl; unfold cap; omega)
  rw [kf_put] at g6
  have bg11 := bg10.put (kv2 := KF (.tup rs) purse b lla (.int (1 + (r7 : Int))) (.int most) (.int wait)) hf
  refine ⟨n, r4 + 1, b, lla, .tup rs, purse, .int (1 + (r7 : Int)), most, wait, _, hn, by omega, by omega, hp, ?_, bg11⟩
  rw [x_seq g6, x_sRet, hδ4]
  rfl
end Dt
namespace Dt
open PySem
theorem x_call1 {f : Fn} {a : E} {δ : Env} {M : Mem} {x : D} {r : Res D} (h : f [x] M = r) (ha : a δ M = .ok x M) : eC f (aCons a aNil) δ M = r := by
  rw [x_eC, x_two ha (x_aNil _ _), Res.bind_ok, h]
theorem x_call2 {f : Fn} {a b : E} {δ : Env} {M : Mem} {x y : D} {r : Res D} (h : f [x, y] M = r) (ha : a δ M = .ok x M) (hb : b δ M = .ok y M) : eC f (aCons a (aCons b aNil)) δ M = r := by
  rw [x_eC, x_two ha (x_two hb (x_aNil _ _)), Res.bind_ok, h]
theorem x_call3 {f : Fn} {a b c : E} {δ : Env} {M : Mem} {x y z : D} {r : Res D} (h : f [x, y, z] M = r) (ha : a δ M = .ok x M) (hb : b δ M = .ok y M) (hc : c δ M = .ok z M) : eC f (aCons a (aCons b (aCons c aNil))) δ M = r := by
  rw [x_eC, x_two ha (x_two hb (x_two hc (x_aNil _ _))), Res.bind_ok, h]
theorem x_call4 {f : Fn} {a b c d : E} {δ : Env} {M : Mem} {x y z u : D} {r : Res D} (h : f [x, y, z, u] M = r) (ha : a δ M = .ok x M) (hb : b δ M = .ok y M) (hc : c δ M = .ok z M) (hd : d δ M = .ok u M) : eC f (aCons a (aCons b (aCons c (aCons d aNil)))) δ M = r := by
  rw [x_eC, x_two ha (x_two hb (x_two hc (x_two hd (x_aNil _ _)))), Res.bind_ok, h]
def KV (rs purse : D) (b l : Nat) (cut most wait v : D) : List (String × D) := KF rs purse b l cut most wait ++ [("value", v)]
theorem kv_put (rs purse : D) (b l : Nat) (cut most wait v : D) : putS (KF rs purse b l cut most wait) "value" v = KV rs purse b l cut most wait v := rfl
theorem kf_nd (rs purse : D) (b l : Nat) (cut most wait : D) : ((KF rs purse b l cut most wait).map (·.1)).Nodup := by
  show ["half", "rights", "purse", "row", "numbers", "joinings", "moves", "steers", "epoch", "clock", "stuck", "aside", "memory", "far", "numbered", "letters", "era", "lanes", "cut", "most", "wait"].Nodup
  decide
theorem kf_half (rs purse : D) (b l : Nat) (cut most wait : D) : getS (KF rs purse b l cut most wait) "half" = some HALF := rfl
theorem kf_purse (rs purse : D) (b l : Nat) (cut most wait : D) : getS (KF rs purse b l cut most wait) "purse" = some purse := rfl
theorem kf_lanes (rs purse : D) (b l : Nat) (cut most wait : D) : getS (KF rs purse b l cut most wait) "lanes" = some (.loc l) := rfl
theorem p_by_program {M : Mem} {lf lc : Nat} (hf : FeedOk lc M lf) : ∃ (n k b lla : Nat) (rs purse cut : D) (most wait : Int) (M2 : Mem), n ∈ WIDES ∧ 1 ≤ k ∧ k ≤ 2 ∧ purse ∈ PURS ∧ f__law_by_program [.loc lf] M = .ok (.loc (b + 3)) M2 ∧
    Begun lf lc b n k (KV rs purse b lla cut (.int most) (.int wait) (valD (List.replicate k (lane0 n)) [] purse)) M M2 lla := by
  obtain ⟨n, k, b, lla, rs, purse, cut, most, wait, M1, hn, k1, k2, hp, e1, bg⟩ := p_drawn hf
  have hr : f__law_by_program [.loc lf] M = (m__law_by_program [some (.loc lf), none, none, none] M).fin := x_run rfl rfl
  rw [hr]
  unfold m__law_by_program
  have eh := fun M => p_half_of hn k2 purse M
  obtain ⟨lans, l0, kv0, h1, h2, h3, h4, h5⟩ := bg.lan
  rw [x_seq (δ2 := [some (.loc lf), some (.loc (b + 3)), none, none]) (M2 := M1) (by
    have e1 : eC f__law_drawn (aCons (eV 0) aNil) [some (.loc lf), none, none, none] M = .ok (.loc (b + 3)) M1 := x_call1 e1 rfl
    rw [x_sAsg, e1]
    rfl)]
  have q1 := x_getS bg.wd (kf_lanes rs purse b lla cut (.int most) (.int wait))
  have q2 := x_getS bg.wd (kf_half rs purse b lla cut (.int most) (.int wait))
  have q3 := x_getS bg.wd (kf_purse rs purse b lla cut (.int most) (.int wait))
  have q4 : dIx (.loc lla) (.int 0) M1 = .ok (.loc l0) M1 := by
    unfold dIx
    simp only [h1, atI_0]
  have q5 := x_getS h3 h4
  have q6 : dIx (ring0 n) (.int 0) M1 = .ok (.int (n : Int)) M1 := by
    unfold ring0 ringD
    rw [x_ixT, atI_0]
  have q7 : dLen [.loc lla] M1 = .ok (.int (k : Int)) M1 := by
    unfold dLen
    simp only [h1]
    rw [List.length_cons, h2]
  obtain ⟨V, hV⟩ : ∃ V, V = valD (List.replicate k (lane0 n)) [] purse := ⟨_, rfl⟩
  rw [← hV] at eh
  generalize ring0 n = R at q5 q6
  have bgp := fun v => bg.put (kv2 := KV rs purse b lla cut (.int most) (.int wait) v) hf
  have bg := bg.wd
  generalize hni : (n : Int) = ni at eh q6
  generalize hki : (k : Int) = ki at eh q7
  have g2 : sPar [2, 3] (aCons (eB dIx (eU (dGetS "out") (eB dIx (eU (dGetS "lanes") (eV 1)) (eK (.int 0)))) (eK (.int 0))) (aCons (eN dLen (aCons (eU (dGetS "lanes") (eV 1)) aNil)) aNil)) [some (.loc lf), some (.loc (b + 3)), none, none] M1 =
      .nx [some (.loc lf), some (.loc (b + 3)), some (.int ni), some (.int ki)] M1 := by
    simp [q1, q4, q5, q6, q7]
  rw [x_seq g2]
  have ev : eCK f_half_of 1 3 (aCons (eU (dGetS "half") (eV 1)) aNil) (aCons (eU (dGetS "purse") (eV 1)) (aCons (eV 3) (aCons (eV 2) aNil))) [some (.loc lf), some (.loc (b + 3)), some (.int ni), some (.int ki)] M1 = .ok V M1 := by
    rw [x_eCK, x_two (x := HALF) (M1 := M1) q2 (x_aNil _ _), Res.bind_ok, x_two (x := purse) (M1 := M1) q3 (x_two (x := .int ki) (M1 := M1) rfl (x_two (x := .int ni) (M1 := M1) rfl (x_aNil _ _))), Res.bind_ok, if_pos ⟨rfl, rfl⟩]
    exact eh M1
  have g3 := x_putS (o := eV 1) (k := "value") ev rfl bg (kf_nd rs purse b lla cut (.int most) (.int wait)) (by show 21 < 100000; decide)
  rw [kv_put] at g3
  refine ⟨n, k, b, lla, rs, purse, cut, most, wait, M1.set (b + 3) (.dk (KV rs purse b lla cut (.int most) (.int wait) V)), hn, k1, k2, hp, ?_, by rw [← hV]; exact bgp V⟩
  rw [x_seq g3]
  rfl
def Keep (S : List Nat) (M M2 : Mem) : Prop := ∀ l ∈ S, ∀ o, M[l]? = some o → M2[l]? = some o
theorem Keep.trans {S : List Nat} {M M2 M3 : Mem} (a : Keep S M M2) (b : Keep S M2 M3) : Keep S M M3 := fun l h o e => b l h o (a l h o e)
theorem Keep.sub {S T : List Nat} {M M2 : Mem} (a : Keep S M M2) (h : ∀ l ∈ T, l ∈ S) : Keep T M M2 := fun l hl => a l (h l hl)
theorem Chg.keep {S T : List Nat} {M M2 : Mem} (a : Chg S M M2) (h : ∀ l ∈ T, l ∉ S) : Keep T M M2 := fun l hl o e => a.get e (h l hl)
theorem But.keep {lw : Nat} {T : List Nat} {M M2 : Mem} (a : But lw M M2) (h : lw ∉ T) : Keep T M M2 := fun l hl o e => by
  rw [a l (List.getElem?_eq_some_iff.mp e).1 fun z => h (by rw [← z]; exact hl)]
  exact e
theorem Only.keep {ls T : List Nat} {M M2 : Mem} (a : Only ls M M2) (h : ∀ l ∈ T, l ∉ ls) : Keep T M M2 := fun l hl o e => by
  rw [a.2 l (h l hl)]
  exact e
theorem FeedOk.keep {lc lf : Nat} {M M2 : Mem} (h : FeedOk lc M lf) (k : Keep [lf, lc] M M2) : FeedOk lc M2 lf := by
  obtain ⟨a, l, c, cells, h1, h2, h3⟩ := h
  exact ⟨a, l, c, cells, k lf (by simp) _ h1, k lc (by simp) _ h2, h3⟩
theorem LogsAt.keep {M M2 : Mem} {llo : Nat} {ls : List Nat} {Ls : List (List D)} (h : LogsAt M llo ls Ls) (k : Keep (llo :: ls) M M2) : LogsAt M2 llo ls Ls :=
  ⟨k llo (by simp) _ h.at_, h.len, h.nd, h.ne, fun j l L h1 h2 => k l (List.mem_cons_of_mem _ (List.mem_of_getElem? h1)) _ (h.log j l L h1 h2)⟩
theorem Bag.keep {n : Nat} {M M2 : Mem} {w w2 : WS} (h : Bag n M w) (k : Keep [w.lfar, w.ln, w.ll, w.lla] M M2) (sw : SameW w w2) : Bag n M2 w2 := by
  obtain ⟨f0, f1, f2⟩ := h.far
  obtain ⟨a1, a2, a3⟩ := h.num
  obtain ⟨b1, b2, b3⟩ := h.let_
  obtain ⟨c1, c2, c3⟩ := h.lan
  refine ⟨⟨f0, ?_, f2⟩, ⟨a1, ?_, a3⟩, ⟨b1, ?_, b3⟩, ⟨c1, ?_, by rw [sw.len]; exact c3⟩⟩
  · rw [sw.lfar]; exact k _ (by simp) _ f1
  · rw [sw.ln]; exact k _ (by simp) _ a2
  · rw [sw.ll]; exact k _ (by simp) _ b2
  · rw [sw.lla]; exact k _ (by simp) _ c2
structure Lap (lf lc lw lm llo : Nat) (ls : List Nat) (n : Nat) (M : Mem) (w : WS) : Prop where
  feed : FeedOk lc M lf
  world : WorldAt M lw w
  inv : WInv n w
  bag : Bag n M w
  apart : Apart lf lc lw w
  menu : M[lm]? = some (.lst MENU)
  off : ∀ l ∈ lm :: llo :: ls, l ∉ [lf, lc, lw, w.lfar, w.ln, w.ll, w.lla]
  lmls : lm ∉ ls
  logs : ∃ Ls, LogsAt M llo ls Ls ∧ LgAll w.most w.wait w.c (2 * n) w.xs Ls
theorem lap_step {lf lc lw lm llo : Nat} {ls : List Nat} {n : Nat} {M : Mem} {w : WS} (h : Lap lf lc lw lm llo ls n M w) (hn : n ≤ 400) (x0 x3 x6 x7 x8 x9 x10 : Option D) : ∃ (y7 y8 : Option D) (M2 : Mem) (w2 : WS),
    b_law_0 [x0, some (.loc lf), some (.loc lm), x3, some (.loc lw), some (.loc llo), x6, x7, x8, x9, x10] M = .nx [x0, some (.loc lf), some (.loc lm), x3, some (.loc lw), some (.loc llo), x6, y7, y8, x9, x10] M2 ∧ Lap lf lc lw lm llo ls (n + 1) M2 w2 := by
  have iv := h.inv
  have ap := h.apart
  have off := h.off
  obtain ⟨act, e, M1, ao, e1, dr⟩ := p_act (by omega) h.feed h.world h.bag ap h.menu (fun z => off lm (by simp) (by rw [← z]; simp)) iv.h0 iv.hl
  obtain ⟨w1, hw1⟩ : ∃ w1, w1 = { w with era := e } := ⟨_, rfl⟩
  have iv1 : WInv n w1 := by rw [hw1]; exact ⟨iv.h0, iv.hl, iv.js, iv.pu, iv.pg, iv.c0, iv.x⟩
  have wa1 : WorldAt M1 lw w1 := by rw [hw1]; exact dr.world
  have ao1 : ActOk w1.xs.length act := by rw [hw1]; exact ao
  obtain ⟨w2, evs, M2, did, e2, wa2, but⟩ := p_done wa1 iv1 (by omega) ao1
  obtain ⟨sw, _, _⟩ := did.same
  have sw0 : SameW w w2 ∨ True := .inr trivial
  have f1 : w1.lfar = w.lfar ∧ w1.ln = w.ln ∧ w1.ll = w.ll ∧ w1.lla = w.lla ∧ w1.xs = w.xs ∧ w1.most = w.most ∧ w1.wait = w.wait ∧ w1.c = w.c := by rw [hw1]; exact ⟨rfl, rfl, rfl, rfl, rfl, rfl, rfl, rfl⟩
  obtain ⟨q1, q2, q3, q4, q5, q6, q7, q8⟩ := f1
  obtain ⟨Ls, lo, lg⟩ := h.logs
  have kA : Keep (lm :: llo :: ls) M M1 := dr.chg.keep fun l hl z => off l hl (by
    simp only [List.mem_cons, List.not_mem_nil, or_false] at z ⊢
    rcases z with z | z | z | z | z <;> simp [z])
  have kB : Keep (lm :: llo :: ls) M1 M2 := but.keep fun z => off lw z (by simp)
  have lo2 := lo.keep ((kA.trans kB).sub fun l hl => List.mem_cons_of_mem _ hl)
  obtain ⟨⟨M3, Ls3, e3, lo3, lg3, on⟩⟩ := p_noted (lw := lw) (M := M2) wa2 did iv1 (by omega) lo2 (B := 2 * n) (by rw [q5, q6, q7, q8]; exact lg) (by omega)
  have kC : ∀ T : List Nat, (∀ l ∈ T, l ∈ [lf, lc, lw, w.lfar, w.ln, w.ll, w.lla]) → Keep T M2 M3 := fun T hT => on.keep fun l hl z => off l (by simp [z]) (hT l hl)
  have apn := ap
  unfold Apart at apn
  simp only [List.nodup_cons, List.mem_cons, List.not_mem_nil, or_false, not_or, not_false_eq_true, List.nodup_nil, and_true] at apn
  obtain ⟨⟨a1, a2, a3, a4, a5, a6⟩, ⟨b1, b2, b3, b4, b5⟩, ⟨c1, c2, c3, c4⟩, ⟨d1, d2, d3⟩, ⟨g1, g2⟩, i1⟩ := apn
  refine ⟨some act, some (.tup evs), M3, w2, ?_, ?_⟩
  · unfold b_law_0
    rw [x_seq (δ2 := [x0, some (.loc lf), some (.loc lm), x3, some (.loc lw), some (.loc llo), x6, some act, x8, x9, x10]) (M2 := M1) (by
      have e1 : eC f__law_act (aCons (eV 1) (aCons (eV 4) (aCons (eV 2) aNil))) [x0, some (.loc lf), some (.loc lm), x3, some (.loc lw), some (.loc llo), x6, x7, x8, x9, x10] M = .ok act M1 := x_call3 e1 rfl rfl rfl
      rw [x_sAsg, e1]
      rfl)]
    rw [x_seq (δ2 := [x0, some (.loc lf), some (.loc lm), x3, some (.loc lw), some (.loc llo), x6, some act, some (.tup evs), x9, x10]) (M2 := M2) (by
      have e2 : eC f__law_done (aCons (eV 4) (aCons (eV 7) aNil)) [x0, some (.loc lf), some (.loc lm), x3, some (.loc lw), some (.loc llo), x6, some act, x8, x9, x10] M1 = .ok (.tup evs) M2 := x_call2 e2 rfl rfl
      rw [x_sAsg, e2]
      rfl)]
    have e3 : eC f__law_noted (aCons (eV 4) (aCons (eV 7) (aCons (eV 8) (aCons (eV 5) aNil)))) [x0, some (.loc lf), some (.loc lm), x3, some (.loc lw), some (.loc llo), x6, some act, some (.tup evs), x9, x10] M2 = .ok .non M3 := x_call4 e3 rfl rfl rfl rfl
    rw [x_sExpr, e3]
    rfl
  · have wk3 : WorldAt M3 lw w2 := by
      obtain ⟨kvs, h1, h2⟩ := wa2
      exact ⟨kvs, kC [lw] (by simp) lw (by simp) _ h1, h2⟩
    refine ⟨?_, wk3, did.inv iv1, ?_, ?_, ?_, ?_, h.lmls, ⟨Ls3, lo3, ?_⟩⟩
    · have k1 : Keep [lf, lc] M1 M2 := but.keep (by simp; exact ⟨Ne.symm a2, Ne.symm b1⟩)
      exact dr.feed.keep (k1.trans (kC [lf, lc] (by simp)))
    · have k1 : Keep [w1.lfar, w1.ln, w1.ll, w1.lla] M1 M2 := but.keep (by rw [q1, q2, q3, q4]; simp; exact ⟨c1, c2, c3, c4⟩)
      have bg1 : Bag (n + 1) M1 w1 := by rw [hw1]; exact dr.bag
      exact bg1.keep (k1.trans (kC _ (by rw [q1, q2, q3, q4]; simp))) sw
    · unfold Apart
      rw [sw.lfar, sw.ln, sw.ll, sw.lla, q1, q2, q3, q4]
      exact ap
    · exact on.keep (T := [lm]) (fun l hl => by rw [List.mem_singleton.mp hl]; exact h.lmls) lm (by simp) _ (kB lm (by simp) _ (kA lm (by simp) _ h.menu))
    · rw [sw.lfar, sw.ln, sw.ll, sw.lla, q1, q2, q3, q4]
      exact off
    · exact lg3
theorem laps {lf lc lw lm llo : Nat} {ls : List Nat} (x0 x3 x9 x10 : Option D) : ∀ (ds : List D) (n : Nat) (M : Mem) (w : WS) (x6 x7 x8 : Option D), Lap lf lc lw lm llo ls n M w → n + ds.length ≤ 400 → ∃ (y6 y7 y8 : Option D) (M2 : Mem) (w2 : WS),
    loop (gN 6) b_law_0 ds [x0, some (.loc lf), some (.loc lm), x3, some (.loc lw), some (.loc llo), x6, x7, x8, x9, x10] M = .nx [x0, some (.loc lf), some (.loc lm), x3, some (.loc lw), some (.loc llo), y6, y7, y8, x9, x10] M2 ∧ Lap lf lc lw lm llo ls (n + ds.length) M2 w2
  | [], n, M, w, x6, x7, x8, h, _ => ⟨x6, x7, x8, M, w, rfl, h⟩
  | d :: ds, n, M, w, x6, x7, x8, h, hl => by
    rw [List.length_cons] at hl
    obtain ⟨y7, y8, M1, w1, e1, h1⟩ := lap_step h (by omega) x0 x3 (some d) x7 x8 x9 x10
    obtain ⟨z6, z7, z8, M2, w2, e2, h2⟩ := laps (lf := lf) (lc := lc) (lw := lw) (lm := lm) (llo := llo) (ls := ls) x0 x3 x9 x10 ds (n + 1) M1 w1 (some d) y7 y8 h1 (by omega)
    refine ⟨z6, z7, z8, M2, w2, ?_, by rw [List.length_cons, show n + (ds.length + 1) = n + 1 + ds.length by omega]; exact h2⟩
    rw [loop_nx (δ1 := [x0, some (.loc lf), some (.loc lm), x3, some (.loc lw), some (.loc llo), some d, x7, x8, x9, x10]) rfl e1, e2]
end Dt
namespace Dt
open PySem
def w0 (n k b lla : Nat) (purse : D) (most wait : Int) : WS := ⟨List.replicate k (lane0 n), [], purse, PAGES, 0, most, wait, 0, b + 5, b + 6, b + 7, lla⟩
theorem kv_rights (rs purse : D) (b l : Nat) (cut most wait v : D) : putS (KV rs purse b l cut most wait v) "rights" RIGHTS = KV RIGHTS purse b l cut most wait v := rfl
theorem kv_nd (rs purse : D) (b l : Nat) (cut most wait v : D) : ((KV rs purse b l cut most wait v).map (·.1)).Nodup := by
  show ["half", "rights", "purse", "row", "numbers", "joinings", "moves", "steers", "epoch", "clock", "stuck", "aside", "memory", "far", "numbered", "letters", "era", "lanes", "cut", "most", "wait", "value"].Nodup
  decide
section
variable (rs purse : D) (b l : Nat) (cut most wait v : D)
theorem kv_value : getS (KV rs purse b l cut most wait v) "value" = some v := rfl
theorem kv_memory : getS (KV rs purse b l cut most wait v) "memory" = some (.tup PAGES) := rfl
theorem kv_rights2 : getS (KV rs purse b l cut most wait v) "rights" = some rs := rfl
theorem kv_clock : getS (KV rs purse b l cut most wait v) "clock" = some (.int 0) := rfl
theorem kv_most : getS (KV rs purse b l cut most wait v) "most" = some most := rfl
theorem kv_wait : getS (KV rs purse b l cut most wait v) "wait" = some wait := rfl
theorem kv_half : getS (KV rs purse b l cut most wait v) "half" = some HALF := rfl
theorem kv_era : getS (KV rs purse b l cut most wait v) "era" = some (.int 0) := rfl
theorem kv_far : getS (KV rs purse b l cut most wait v) "far" = some (.loc (b + 5)) := rfl
theorem kv_numbered : getS (KV rs purse b l cut most wait v) "numbered" = some (.loc (b + 6)) := rfl
theorem kv_letters : getS (KV rs purse b l cut most wait v) "letters" = some (.loc (b + 7)) := rfl
theorem kv_lanes : getS (KV rs purse b l cut most wait v) "lanes" = some (.loc l) := rfl
theorem kv_len : (KV rs purse b l cut most wait v).length = 22 := rfl
end
theorem wk_begin (n k b lla : Nat) (purse cut : D) (most wait : Int) : WK (w0 n k b lla purse most wait) (KV RIGHTS purse b lla cut (.int most) (.int wait) (valD (List.replicate k (lane0 n)) [] purse)) :=
  ⟨kv_nd _ _ _ _ _ _ _ _, by rw [kv_len]; decide, kv_value _ _ _ _ _ _ _ _, kv_memory _ _ _ _ _ _ _ _, kv_rights2 _ _ _ _ _ _ _ _, kv_clock _ _ _ _ _ _ _ _, kv_most _ _ _ _ _ _ _ _, kv_wait _ _ _ _ _ _ _ _, kv_half _ _ _ _ _ _ _ _, kv_era _ _ _ _ _ _ _ _,
    kv_far _ _ _ _ _ _ _ _, kv_numbered _ _ _ _ _ _ _ _, kv_letters _ _ _ _ _ _ _ _, kv_lanes _ _ _ _ _ _ _ _⟩
theorem pages_ok : MemOk PAGES := ⟨rfl, fun p hp => ⟨_, List.eq_of_mem_replicate hp, rfl⟩⟩
theorem winv_begin {n k : Nat} (b lla : Nat) {purse : D} (most wait : Int) (hn : n ∈ WIDES) (k1 : 1 ≤ k) (k2 : k ≤ 2) (hp : purse ∈ PURS) : WInv 0 (w0 n k b lla purse most wait) := by
  refine ⟨?_, ?_, ⟨[], rfl, ⟨List.nodup_nil, Nat.le_refl _, fun p hp => absurd hp List.not_mem_nil⟩⟩, hp, pages_ok, Int.le_refl _, fun x hx => ?_⟩
  · show 0 < (List.replicate k (lane0 n)).length
    rw [List.length_replicate]
    omega
  · show (List.replicate k (lane0 n)).length ≤ 2
    rw [List.length_replicate]
    omega
  · have hx : x = lane0 n := List.eq_of_mem_replicate hx
    rw [hx]
    exact ⟨ring0_ok n hn, ln0_ok, fun d hd => absurd hd List.not_mem_nil, Nat.le_refl _⟩
theorem logs_go {δ : Env} : ∀ (ds : List D) (M : Mem), 9 < δ.length → lcGo (gN 9) tYes (eL dReg (lDisp aNil)) δ ds M = .ok ((List.range' M.length ds.length).map D.loc) (M ++ List.replicate ds.length (.lst []))
  | [], M, _ => by simp [lcGo]
  | d :: ds, M, h => by
    have ih := logs_go (δ := δ) ds (M ++ [.lst []]) h
    show (match gN 9 d δ with | none => Res.bad | some δ' => (tYes δ' M).ne.bind fun c M => if c = true then (eL dReg (lDisp aNil) δ' M).ne.bind fun x M => (lcGo (gN 9) tYes (eL dReg (lDisp aNil)) δ ds M).bind fun xs M => .ok (x :: xs) M else lcGo (gN 9) tYes (eL dReg (lDisp aNil)) δ ds M) = _
    have hg : gN 9 d δ = some (δ.set 9 (some d)) := if_pos h
    rw [hg]
    simp only [x_tYes, Res.ne_ok, Res.bind_ok, if_true, x_newl, ih]
    rw [List.length_append, List.append_assoc]
    show _ = Res.ok (List.map D.loc (List.range' M.length (ds.length + 1))) (M ++ List.replicate (ds.length + 1) (MO.lst []))
    rw [List.range'_succ]
    rfl
theorem locs_of (ns : List Nat) : locsD (ns.map D.loc) = some ns := by
  induction ns with
  | nil => rfl
  | cons n ns ih =>
    show (locsD (ns.map D.loc)).map (n :: ·) = _
    rw [ih]
    rfl
theorem logs_begin (M : Mem) (k : Nat) : LogsAt (M ++ List.replicate k (.lst []) ++ [.lst ((List.range' M.length k).map D.loc)]) (M.length + k) (List.range' M.length k) (List.replicate k []) := by
  have hl : (M ++ List.replicate k (MO.lst [])).length = M.length + k := by simp
  refine ⟨?_, by simp, List.nodup_range', fun h => ?_, fun j l L h1 h2 => ?_⟩
  · have := app_at (M := M ++ List.replicate k (MO.lst [])) (X := [MO.lst ((List.range' M.length k).map D.loc)]) (i := 0) rfl
    rw [Nat.add_zero, hl] at this
    exact this
  · have := List.mem_range'_1.mp h
    omega
  · have hj : j < k := by
      have := (List.getElem?_eq_some_iff.mp h2).1
      simpa using this
    have e1 : l = M.length + j := by
      rw [List.getElem?_range' (by omega)] at h1
      cases h1
      omega
    have e2 : L = [] := by
      rw [List.getElem?_replicate, if_pos hj] at h2
      cases h2
      rfl
    rw [e1, e2, List.append_assoc]
    refine app_at ?_
    rw [List.getElem?_append_left (by simp; exact hj), List.getElem?_replicate, if_pos hj]
def isLogE : T := tNot (tB (eC f__law_is_log (aCons (eN dTupOf (aCons (eV 10) aNil)) (aCons (eU (dGetS "most") (eV 4)) (aCons (eU (dGetS "wait") (eV 4)) aNil)))))
theorem logs_look {lw llo : Nat} {w : WS} {ls : List Nat} {Ls : List (List D)} {B : Nat} (hB : B ≤ 900) (x0 x1 x2 x3 x6 x7 x8 x9 : Option D) (hlg : LgAll w.most w.wait w.c B w.xs Ls) : ∀ (r : List Nat) (M : Mem), (∀ l ∈ r, l ∈ ls) → WorldAt M lw w → LogsAt M llo ls Ls →
    ∃ X, lcGoL llo ls (gN 10) isLogE (eV 10) [x0, x1, x2, x3, some (.loc lw), some (.loc llo), x6, x7, x8, x9, none] r M = .ok [] (M ++ X)
  | [], M, _, hw, hL => by
    refine ⟨[], ?_⟩
    have hc : chkL llo ls M = true := by
      unfold chkL
      simp only [hL.at_, locs_of, decide_true]
    unfold lcGoL
    rw [if_pos hc, List.append_nil]
  | l :: r, M, hr, hw, hL => by
    have hc : chkL llo ls M = true := by
      unfold chkL
      simp only [hL.at_, locs_of, decide_true]
    obtain ⟨j, hj⟩ := List.mem_iff_getElem?.mp (hr l List.mem_cons_self)
    have hjl : j < Ls.length := by rw [← hL.len]; exact (List.getElem?_eq_some_iff.mp hj).1
    have hLs : Ls[j]? = some Ls[j] := List.getElem?_eq_getElem hjl
    have hM := hL.log j l _ hj hLs
    have hxs : w.xs[j]? = some (w.xs[j]'(by rw [← hlg.len]; exact hjl)) := List.getElem?_eq_getElem _
    obtain ⟨a, ha, lg⟩ := hlg.lg j _ _ hxs hLs
    have hb := hlg.b _ (List.getElem_mem hjl)
    obtain ⟨X, eX⟩ := p_is_log lg (by unfold cap; omega) M
    obtain ⟨kvs, hW, K⟩ := id hw
    have hw2 : WorldAt (M ++ X) lw w := ⟨kvs, by rw [List.getElem?_append_left (List.getElem?_eq_some_iff.mp hW).1]; exact hW, K⟩
    have hL2 : LogsAt (M ++ X) llo ls Ls := hL.keep fun i _ o e => by rw [List.getElem?_append_left (List.getElem?_eq_some_iff.mp e).1]; exact e
    obtain ⟨Y, eY⟩ := logs_look hB x0 x1 x2 x3 x6 x7 x8 x9 hlg r (M ++ X) (fun i hi => hr i (List.mem_cons_of_mem _ hi)) hw2 hL2
    refine ⟨X ++ Y, ?_⟩
    have et : isLogE [x0, x1, x2, x3, some (.loc lw), some (.loc llo), x6, x7, x8, x9, some (.loc l)] M = .ok false (M ++ X) := by
      have e1 : eN dTupOf (aCons (eV 10) aNil) [x0, x1, x2, x3, some (.loc lw), some (.loc llo), x6, x7, x8, x9, some (.loc l)] M = .ok (.tup Ls[j]) M := by
        show dTupOf [.loc l] M = _
        unfold dTupOf
        simp only [hM]
      have e2 : eU (dGetS "most") (eV 4) [x0, x1, x2, x3, some (.loc lw), some (.loc llo), x6, x7, x8, x9, some (.loc l)] M = .ok (.int w.most) M := x_getS hW K.most
      have e3 : eU (dGetS "wait") (eV 4) [x0, x1, x2, x3, some (.loc lw), some (.loc llo), x6, x7, x8, x9, some (.loc l)] M = .ok (.int w.wait) M := x_getS hW K.wait
      unfold isLogE
      rw [x_tNot, x_tB, x_call3 eX e1 e2 e3]
      rfl
    unfold lcGoL
    rw [if_pos hc]
    show (isLogE [x0, x1, x2, x3, some (.loc lw), some (.loc llo), x6, x7, x8, x9, some (.loc l)] M).ne.bind _ = _
    rw [et]
    simp only [Res.ne_ok, Res.bind_ok]
    rw [if_neg (by decide), eY, List.append_assoc]
theorem p_turn {lf lc lm : Nat} {M : Mem} (hf : FeedOk lc M lf) (hm : M[lm]? = some (.lst MENU)) (nf : lf ≠ lm) (nc : lc ≠ lm) (x0 x3 x4 x5 x6 x7 x8 x9 x10 : Option D) : ∃ (y4 y5 y6 y7 y8 : Option D) (M2 : Mem),
    b_law_1 [x0, some (.loc lf), some (.loc lm), x3, x4, x5, x6, x7, x8, x9, x10] M = .nx [x0, some (.loc lf), some (.loc lm), x3, y4, y5, y6, y7, y8, x9, x10] M2 ∧ FeedOk lc M2 lf ∧ M2[lm]? = some (.lst MENU) := by
  obtain ⟨n, k, b, lla, rs, purse, cut, most, wait, M1, hn, k1, k2, hp, e1, bg⟩ := p_by_program hf
  obtain ⟨f1, f2⟩ := hf.lt
  have m1 := (List.getElem?_eq_some_iff.mp hm).1
  have fne : lf ≠ lc := by
    obtain ⟨a, l, c, cells, h1, h2, h3⟩ := hf
    exact FeedOk.ne h1 h2
  have b0 := bg.b0
  have b9 := bg.b9
  have ll := bg.ll
  have bg2 := bg.put (kv2 := KV RIGHTS purse b lla cut (.int most) (.int wait) (valD (List.replicate k (lane0 n)) [] purse)) hf
  obtain ⟨M2, hM2⟩ : ∃ M2, M2 = M1.set (b + 3) (.dk (KV RIGHTS purse b lla cut (.int most) (.int wait) (valD (List.replicate k (lane0 n)) [] purse))) := ⟨_, rfl⟩
  rw [← hM2] at bg2
  have l12 : M2.length = M1.length := by rw [hM2, List.length_set]
  unfold b_law_1
  rw [x_seq (δ2 := [x0, some (.loc lf), some (.loc lm), x3, some (.loc (b + 3)), x5, x6, x7, x8, x9, x10]) (M2 := M1) (by
    have e1 : eC f__law_by_program (aCons (eV 1) aNil) [x0, some (.loc lf), some (.loc lm), x3, x4, x5, x6, x7, x8, x9, x10] M = .ok (.loc (b + 3)) M1 := x_call1 e1 rfl
    rw [x_sAsg, e1]
    rfl)]
  have g2 := x_putS (o := eV 4) (k := "rights") (v := eB dMulT (eN dTup (aCons (eK (.str "ann")) aNil)) (eK (.int 8))) (δ := [x0, some (.loc lf), some (.loc lm), x3, some (.loc (b + 3)), x5, x6, x7, x8, x9, x10]) (M := M1) (M1 := M1) (M2 := M1) (l := b + 3) (y := RIGHTS) rfl rfl bg.wd (kv_nd _ _ _ _ _ _ _ _) (by rw [kv_len]; decide)
  rw [kv_rights, ← hM2] at g2
  rw [x_seq g2]
  obtain ⟨lans, l0, kv0, h1, h2, h3, h4, h5⟩ := bg2.lan
  -- the logs
  obtain ⟨M3, hM3⟩ : ∃ M3, M3 = M2 ++ List.replicate k (MO.lst []) ++ [MO.lst ((List.range' M2.length k).map D.loc)] := ⟨_, rfl⟩
  have q1 := x_getS bg2.wd (kv_lanes RIGHTS purse b lla cut (.int most) (.int wait) (valD (List.replicate k (lane0 n)) [] purse))
  have q7 : dLen [.loc lla] M2 = .ok (.int (k : Int)) M2 := by
    unfold dLen
    simp only [h1]
    rw [List.length_cons, h2]
  have g3 : sAsg (gN 5) (eL dReg (lLc (iRng1D (aCons (eN dLen (aCons (eU (dGetS "lanes") (eV 4)) aNil)) aNil)) (gN 9) tYes (eL dReg (lDisp aNil)) [9])) [x0, some (.loc lf), some (.loc lm), x3, some (.loc (b + 3)), x5, x6, x7, x8, x9, x10] M2 =
      .nx [x0, some (.loc lf), some (.loc lm), x3, some (.loc (b + 3)), some (.loc (M2.length + k)), x6, x7, x8, x9, x10] M3 := by
    have ea : aCons (eN dLen (aCons (eU (dGetS "lanes") (eV 4)) aNil)) aNil [x0, some (.loc lf), some (.loc lm), x3, some (.loc (b + 3)), x5, x6, x7, x8, x9, x10] M2 = .ok [.int (k : Int)] M2 := by
      refine x_two ?_ (x_aNil _ _)
      rw [x_eN, x_two (x := .loc lla) (M1 := M2) q1 (x_aNil _ _), Res.bind_ok, q7]
    have eg := logs_go (δ := [x0, some (.loc lf), some (.loc lm), x3, some (.loc (b + 3)), x5, x6, x7, x8, none, x10]) (rngD 0 k) M2 (by show 9 < 11; decide)
    rw [rngD_len] at eg
    rw [x_sAsg, x_eL, x_lLc_go (x_rng (n := k) ea (by unfold cap; omega)) (by rw [rngD_len]; omega) eg, Res.bind_ok, x_dReg, List.length_append, List.length_replicate, hM3]
    rfl
  rw [x_seq g3]
  have lg3 : LogsAt M3 (M2.length + k) (List.range' M2.length k) (List.replicate k []) := by rw [hM3]; exact logs_begin M2 k
  have get3 : ∀ l o, M2[l]? = some o → M3[l]? = some o := fun l o e => by
    rw [hM3, List.append_assoc, List.getElem?_append_left (List.getElem?_eq_some_iff.mp e).1]
    exact e
  have hm2 : M2[lm]? = some (.lst MENU) := by rw [hM2, set_ne (by omega)]; exact bg.chg.get hm (by simp; exact Ne.symm nf)
  have lap0 : Lap lf lc (b + 3) lm (M2.length + k) (List.range' M2.length k) 0 M3 (w0 n k b lla purse most wait) := by
    refine ⟨bg2.feed.keep fun l _ o e => get3 l o e, ⟨_, get3 _ _ bg2.wd, wk_begin n k b lla purse cut most wait⟩, winv_begin b lla most wait hn k1 k2 hp, ⟨⟨[], get3 _ _ bg2.far, fun p hp => absurd hp List.not_mem_nil, by simp⟩, ⟨[], get3 _ _ bg2.num, by simp, fun p hp => absurd hp List.not_mem_nil⟩, ⟨[], get3 _ _ bg2.let_, by simp⟩,
      ⟨_, get3 _ _ h1, by show _ = (List.replicate k (lane0 n)).length; rw [List.length_replicate, List.length_cons, h2]⟩⟩, ?_, get3 _ _ hm2, ?_, ?_, ⟨_, lg3, ⟨by show _ = (List.replicate k (lane0 n)).length; rw [List.length_replicate, List.length_replicate], fun j x L e1 e2 => ?_, fun L hL => ?_⟩⟩⟩
    · show [lf, lc, b + 3, b + 5, b + 6, b + 7, lla].Nodup
      simp
      omega
    · intro l hl
      show l ∉ [lf, lc, b + 3, b + 5, b + 6, b + 7, lla]
      have hl2 : l = lm ∨ M2.length ≤ l := by
        rcases List.mem_cons.mp hl with z | z
        · exact .inl z
        · rcases List.mem_cons.mp z with z | z
          · exact .inr (by omega)
          · exact .inr (List.mem_range'_1.mp z).1
      have c1 := bg.chg.1
      simp
      omega
    · intro z
      have := (List.mem_range'_1.mp z).1
      have c1 := bg.chg.1
      omega
    · have hx : x = lane0 n := List.eq_of_mem_replicate (List.mem_of_getElem? e1)
      have hL : L = [] := List.eq_of_mem_replicate (List.mem_of_getElem? e2)
      rw [hx, hL]
      exact ⟨0, Int.le_refl _, Lg.nil⟩
    · rw [List.eq_of_mem_replicate hL]
      exact Nat.zero_le _
  obtain ⟨y6, y7, y8, M4, w4, e4, lap4⟩ := laps (lf := lf) (lc := lc) (lw := b + 3) (lm := lm) (llo := M2.length + k) (ls := List.range' M2.length k) x0 x3 x9 x10 (rngD 0 30) 0 M3 _ x6 x7 x8 lap0 (by rw [rngD_len]; decide)
  have g4 : sFor (iRng1D (aCons (eK (.int 30)) aNil)) (gN 6) b_law_0 [x0, some (.loc lf), some (.loc lm), x3, some (.loc (b + 3)), some (.loc (M2.length + k)), x6, x7, x8, x9, x10] M3 = .nx [x0, some (.loc lf), some (.loc lm), x3, some (.loc (b + 3)), some (.loc (M2.length + k)), y6, y7, y8, x9, x10] M4 := by
    rw [x_sFor, x_rng (n := 30) (M2 := M3) rfl (by decide)]
    exact e4
  rw [x_seq g4]
  rw [rngD_len] at lap4
  obtain ⟨Ls, lo, lg⟩ := lap4.logs
  obtain ⟨X, eX⟩ := logs_look (lw := b + 3) (llo := M2.length + k) (B := 2 * (0 + 30)) (by decide) x0 (some (.loc lf)) (some (.loc lm)) x3 y6 y7 y8 x9 lg (List.range' M2.length k) M4 (fun _ h => h) lap4.world lo
  have eL : lLcLoc (eV 5) (gN 10) isLogE (eV 10) [10] [x0, some (.loc lf), some (.loc lm), x3, some (.loc (b + 3)), some (.loc (M2.length + k)), y6, y7, y8, x9, x10] M4 = .ok [] (M4 ++ X) := by
    unfold lLcLoc
    show (match M4[M2.length + k]? with | some (.lst ds) => (match locsD ds with | some ns => if ns.length ≤ 100000 then lcGoL (M2.length + k) ns (gN 10) isLogE (eV 10) (wipeE _ [10]) ns M4 else .bad | none => .bad) | _ => .bad) = _
    simp only [lo.at_, locs_of]
    rw [if_pos (by rw [List.length_range']; omega)]
    exact eX
  have g5 : sIf (tB (neNilL (lLcLoc (eV 5) (gN 10) isLogE (eV 10) [10]))) (sRet (eK (.bl false))) sNext [x0, some (.loc lf), some (.loc lm), x3, some (.loc (b + 3)), some (.loc (M2.length + k)), y6, y7, y8, x9, x10] M4 = .nx [x0, some (.loc lf), some (.loc lm), x3, some (.loc (b + 3)), some (.loc (M2.length + k)), y6, y7, y8, x9, x10] (M4 ++ X) := by
    rw [x_sIf, x_tB]
    unfold neNilL
    rw [eL]
    rfl
  refine ⟨_, _, y6, y7, y8, M4 ++ X, g5, lap4.feed.keep fun l _ o e => ?_, ?_⟩
  · rw [List.getElem?_append_left (List.getElem?_eq_some_iff.mp e).1]; exact e
  · rw [List.getElem?_append_left (List.getElem?_eq_some_iff.mp lap4.menu).1]; exact lap4.menu
/-- the law, by data -/
theorem p_law (d : D) (ns : List Int) (M : Mem) (h : lSl (eV 0) none (some 63) [some d] M = .ok (cutD (ns.map D.int) none (some 63)) M) : ∃ M2, f_law [d] M = .ok (.bl true) M2 := by
  have hr : f_law [d] M = (m_law [some d, none, none, none, none, none, none, none, none, none, none] M).fin := x_run rfl rfl
  obtain ⟨cells, e1⟩ := p_feed d ns M h
  have hf := feed_ok cells M
  obtain ⟨M1, hM1⟩ : ∃ M1, M1 = M ++ [MO.lst (cells.map D.int), FD M.length 0 0 0] := ⟨_, rfl⟩
  rw [← hM1] at e1 hf
  have l1 : M1.length = M.length + 2 := by rw [hM1]; simp
  obtain ⟨lc, hlc⟩ : ∃ lc, lc = M.length := ⟨_, rfl⟩
  rw [← hlc] at e1 hf l1
  obtain ⟨M2, hM2⟩ : ∃ M2, M2 = M1 ++ [MO.lst MENU] := ⟨_, rfl⟩
  have hm : M2[lc + 2]? = some (.lst MENU) := by rw [hM2, ← l1]; exact app_at (i := 0) rfl
  have hf2 : FeedOk lc M2 (lc + 1) := hf.keep fun l _ o e => by rw [hM2, List.getElem?_append_left (List.getElem?_eq_some_iff.mp e).1]; exact e
  rw [hr]
  unfold m_law
  rw [x_seq (δ2 := [some d, some (.loc (lc + 1)), none, none, none, none, none, none, none, none, none]) (M2 := M1) (by
    have e1 : eC f__law_feed (aCons (eV 0) aNil) [some d, none, none, none, none, none, none, none, none, none, none] M = .ok (.loc (lc + 1)) M1 := x_call1 e1 rfl
    rw [x_sAsg, e1]
    rfl)]
  rw [x_seq (δ2 := [some d, some (.loc (lc + 1)), some (.loc (lc + 2)), none, none, none, none, none, none, none, none]) (M2 := M2) (by rw [hM2, ← l1]; rfl)]
  obtain ⟨y4, y5, y6, y7, y8, M3, t1, f3, m3⟩ := p_turn hf2 hm (by omega) (by omega) (some d) (some (.int 0)) none none none none none none none
  obtain ⟨z4, z5, z6, z7, z8, M4, t2, f4, m4⟩ := p_turn f3 m3 (by omega) (by omega) (some d) (some (.int 1)) y4 y5 y6 y7 y8 none none
  have g : sFor (iRng1D (aCons (eK (.int 2)) aNil)) (gN 3) b_law_1 [some d, some (.loc (lc + 1)), some (.loc (lc + 2)), none, none, none, none, none, none, none, none] M2 = .nx [some d, some (.loc (lc + 1)), some (.loc (lc + 2)), some (.int 1), z4, z5, z6, z7, z8, none, none] M4 := by
    rw [x_sFor, x_rng (n := 2) (M2 := M2) rfl (by decide)]
    rw [Res.st_ok]
    rw [show rngD 0 2 = [.int 0, .int 1] from rfl]
    rw [loop_nx rfl t1, loop_nx rfl t2]
    rfl
  refine ⟨M4, ?_⟩
  rw [x_seq g]
  rfl
theorem law_fl (ns : List Int) : ∃ M2, f_law [.fl (ns.map D.int)] [] = .ok (.bl true) M2 := p_law _ ns [] rfl
theorem law_loc (ns : List Int) : ∃ M2, f_law [.loc 0] [.lst (ns.map D.int)] = .ok (.bl true) M2 := p_law _ ns _ rfl
end Dt
namespace Dt
open PySem PySem.Spec PyProof.Rows L2
abbrev FnP (K : PySem.W.Frag) (x : Str) (st : Stmt) (kws : List (Str × V)) (f : Addr) (fd : FuncData) : Prop := FunD K x x (defArgs st) (defBody st) (defScope st) [] kws f fd
/-- where the module's name x leads -/
abbrev fA (K : PySem.W.Frag) (x : String) : Addr := He.fAd K (Str.ofString x, none)
/-- what the head tells of the names that are no defs -/
structure Gs (K : PySem.W.Frag) (mg : Str → Option Value) : Prop where
  i_BOX_AT : ∃ t, mg "BOX_AT" = some (.int 5 t)
  i_HALF_AT : ∃ t, mg "HALF_AT" = some (.int 0 t)
  i_INWARD_AT : ∃ t, mg "INWARD_AT" = some (.int 4 t)
  i_JOININGS_AT : ∃ t, mg "JOININGS_AT" = some (.int 4 t)
  i_LANES_AT : ∃ t, mg "LANES_AT" = some (.int 1 t)
  i_MASKED_AT : ∃ t, mg "MASKED_AT" = some (.int 7 t)
  i_MIXES : ∃ t, mg "MIXES" = some (.int 1009 t)
  i_PURSE_AT : ∃ t, mg "PURSE_AT" = some (.int 7 t)
  i_SINCE_AT : ∃ t, mg "SINCE_AT" = some (.int 6 t)
  i_STEERS_AT : ∃ t, mg "STEERS_AT" = some (.int 6 t)
  i_SUMS : ∃ t, mg "SUMS" = some (.int 10007 t)
  s_SIGNS : ∃ t, mg "SIGNS" = some (.str (Str.ofString "abcdefghijklmnopqrstuvwxyz") t)
  t_BEGINNING : mg "BEGINNING" = some (.ref (cA K "BEGINNING"))
  r_BEGINNING : ∀ H ρ, Rp K H ρ d_BEGINNING (.ref (cA K "BEGINNING"))
  t_WAKE_WORDS : mg "WAKE_WORDS" = some (.ref (cA K "WAKE_WORDS"))
  r_WAKE_WORDS : ∀ H ρ, Rp K H ρ d_WAKE_WORDS (.ref (cA K "WAKE_WORDS"))
  f_all : mg "all" = none
  f_bool : mg "bool" = none
  f_dict : mg "dict" = none
  f_enumerate : mg "enumerate" = none
  f_int : mg "int" = none
  f_isinstance : mg "isinstance" = none
  f_len : mg "len" = none
  f_list : mg "list" = none
  f_max : mg "max" = none
  f_range : mg "range" = none
  f_sorted : mg "sorted" = none
  f_str : mg "str" = none
  f_sum : mg "sum" = none
  f_tuple : mg "tuple" = none
  g_NoPlace : mg (Str.ofString "NoPlace") = some (.ref (cA K "NoPlace"))
  x_NoPlace : PySem.W.exmOne K (.ref (cA K "NoPlace")) (.ref (cA K "NoPlace")) = some true
  no_NoPlace_word : PySem.W.findIn K (.ref (cA K "NoPlace")) (Str.ofString "word") = some none
  no_NoStep_word : PySem.W.findIn K (.ref (cA K "NoStep")) (Str.ofString "word") = some none
  no_NoPaper_word : PySem.W.findIn K (.ref (cA K "NoPaper")) (Str.ofString "word") = some none
  no_NoPaper_at : PySem.W.findIn K (.ref (cA K "NoPaper")) (Str.ofString "at") = some none
end Dt
namespace Dt
open PySem PySem.Spec PyProof.Rows L2
/-- the def x's code object and its table, among the tables T -/
structure LamG (K : PySem.W.Frag) (mg : Str → Option Value) (base : Heap) (T : List (Addr × Str)) (x : String) : Prop where
  tb : LamX.TabB base mg (He.codeOf K (Str.ofString x, none)) (He.tabOf K (He.codeOf K (Str.ofString x, none)))
  mem : (He.tabOf K (He.codeOf K (Str.ofString x, none)), (Str.ofString x ++ ".<locals>.") ++ "<lambda>") ∈ T
  un : ∀ p ∈ T, p.1 = He.tabOf K (He.codeOf K (Str.ofString x, none)) → p.2 = (Str.ofString x ++ ".<locals>.") ++ "<lambda>"
theorem LamG.at_ {P : Program} {w : World} {K : PySem.W.Frag} {mg : Str → Option Value} {base : Heap} {T : List (Addr × Str)} {x : String} (L : LamG K mg base T x) {CX : CXT} {N : List Str} {scope : Scope} {f : Addr} {A : Around} {outer : List PySem.Env} {s : Shared} {H : Hp} {E : XK} :
    LamC (cxOf CX P w K mg base N (Str.ofString x) scope f (.ref (He.codeOf K (Str.ofString x, none))) A outer s H E) T :=
  ⟨⟨_, _, rfl, L.tb, L.mem, L.un⟩⟩
end Dt
namespace Dt
open PySem PySem.Spec PyProof.Rows L2
/-- what the head tells of a class whose __init__ calls B's -/
structure ClsF (K : PySem.W.Frag) (mg : Str → Option Value) (cls B : String) (st : Stmt) : Prop where
  mg_ : mg (Str.ofString cls) = some (.ref (cA K cls))
  oex : OexC K (cA K cls)
  fi : PySem.W.findIn K (.ref (cA K cls)) "__init__" = some (some (.ref (He.fAd K (Str.ofString cls, some "__init__"))))
  ty : PySem.W.typeIn K (.ref (He.fAd K (Str.ofString cls, some "__init__"))) = some (.type "function")
  fn : ∃ fd, FunD K "__init__" (Str.ofString cls ++ ".__init__") (defArgs st) (defBody st) (defScope st) [] [] (He.fAd K (Str.ofString cls, some "__init__")) fd
  bmg : mg (Str.ofString B) = some (.ref (cA K B))
  brd : ∃ mc, PySem.W.readsIn K (cA K B) mc = true ∧ PySem.W.findCls K (.ref (cA K B)) mc "__init__" = some (.val (.builtin "ValueError.__init__"))
  bga : PySem.W.specialIn K (.ref (cA K B)) "__getattribute__" = some (some (.builtin "type.__getattribute__"))
section
variable {P : Program} {w : World} {K : PySem.W.Frag} {mg : Str → Option Value} {base : Heap}
theorem sc_i1 : FnScope ["self", "word"] ["self", "word"] (defScope (initOf 6)) := ⟨rfl, rfl, rfl, by decide +kernel, rfl, by decide +kernel, by decide +kernel⟩
theorem sc_i2 : FnScope ["self", "word", "at"] ["self", "word", "at"] (defScope (initOf 5)) := ⟨rfl, rfl, rfl, by decide +kernel, rfl, by decide +kernel, by decide +kernel⟩
theorem sc_i3 : FnScope ["self", "word"] ["self", "word"] (defScope (initOf 7)) := ⟨rfl, rfl, rfl, by decide +kernel, rfl, by decide +kernel, by decide +kernel⟩
theorem ini5 (F : ClsF K mg "NoPlace" "RingError" (initOf 6)) : ExK P w K mg base 1 "NoPlace" (spX1 K (cA K "NoPlace") "word") := by
  obtain ⟨fd, D⟩ := F.fn
  obtain ⟨mc, b1, b2⟩ := F.brd
  refine ⟨F.mg_, F.oex, _, _, ["self", "word"], F.fi, F.ty, D.ok sc_i1 (fun vs H Q E ⟨a, x, e, _⟩ => by rw [e] <;> rfl) (fun cdv A outer s H vs Q E hr ⟨a, x, e, ho, hno, h1, h2⟩ => ?_), D.bindsN (fun _ _ _ _ _ _ us hl => match us, hl with | [_, _], _ => rfl)⟩
  subst e
  refine ⟨_, pss_cons (ps_expr (pe_binit F.bmg b1 F.bga b2 (pa_cons (pv 0) (pa_cons pe_str pa_nil)))) (pss_cons (ps_ost (pv 0) (pv 1)) pss_nil), ?_⟩
  refine ⟨_, rfl, a, _, [_], rfl, by decide, ho, h1, ?_⟩
  refine ⟨_, rfl, _, rfl, a, _, rfl, ho, hno, .inl ⟨h1, fun dx n ne => ?_⟩⟩
  refine h2 dx _ n ne ⟨upd_same, by rw [upd_ne ne, upd_same], fun b e1 e2 => by rw [upd_ne e1, upd_ne e2]⟩
theorem ini6 (F : ClsF K mg "NoStep" "RingError" (initOf 7)) : ExK P w K mg base 1 "NoStep" (spX1 K (cA K "NoStep") "word") := by
  obtain ⟨fd, D⟩ := F.fn
  obtain ⟨mc, b1, b2⟩ := F.brd
  refine ⟨F.mg_, F.oex, _, _, ["self", "word"], F.fi, F.ty, D.ok sc_i3 (fun vs H Q E ⟨a, x, e, _⟩ => by rw [e] <;> rfl) (fun cdv A outer s H vs Q E hr ⟨a, x, e, ho, hno, h1, h2⟩ => ?_), D.bindsN (fun _ _ _ _ _ _ us hl => match us, hl with | [_, _], _ => rfl)⟩
  subst e
  refine ⟨_, pss_cons (ps_expr (pe_binit F.bmg b1 F.bga b2 (pa_cons (pv 0) (pa_cons pe_str pa_nil)))) (pss_cons (ps_ost (pv 0) (pv 1)) pss_nil), ?_⟩
  refine ⟨_, rfl, a, _, [_], rfl, by decide, ho, h1, ?_⟩
  refine ⟨_, rfl, _, rfl, a, _, rfl, ho, hno, .inl ⟨h1, fun dx n ne => ?_⟩⟩
  refine h2 dx _ n ne ⟨upd_same, by rw [upd_ne ne, upd_same], fun b e1 e2 => by rw [upd_ne e1, upd_ne e2]⟩
theorem ini4 (F : ClsF K mg "NoPaper" "PaperError" (initOf 5)) : ExK P w K mg base 1 "NoPaper" (spX2 K (cA K "NoPaper") "word" "at") := by
  obtain ⟨fd, D⟩ := F.fn
  obtain ⟨mc, b1, b2⟩ := F.brd
  refine ⟨F.mg_, F.oex, _, _, ["self", "word", "at"], F.fi, F.ty, D.ok sc_i2 (fun vs H Q E ⟨a, x, y, e, _⟩ => by rw [e] <;> rfl) (fun cdv A outer s H vs Q E hr ⟨a, x, y, e, ho, hno, hno2, h1, h2⟩ => ?_), D.bindsN (fun _ _ _ _ _ _ us hl => match us, hl with | [_, _, _], _ => rfl)⟩
  subst e
  refine ⟨_, pss_cons (ps_expr (pe_binit F.bmg b1 F.bga b2 (pa_cons (pv 0) (pa_cons pe_str pa_nil)))) (pss_cons (ps_ost (pv 0) (pv 1)) (pss_cons (ps_ost (pv 0) (pv 2)) pss_nil)), ?_⟩
  refine ⟨_, rfl, a, _, [_], rfl, by decide, ho, h1, ?_⟩
  refine ⟨_, rfl, _, rfl, a, _, rfl, ho, hno, .inl ⟨h1, fun dx n ne => ?_⟩⟩
  refine ⟨_, rfl, _, rfl, a, _, rfl, ho, hno2, .inr ⟨dx, _, upd_same, by rw [upd_ne ne, upd_same], by show 1 ≤ 900; decide, ?_⟩⟩
  refine h2 dx _ n ne ⟨by rw [upd_ne ne.symm, upd_same], upd_same, fun b e1 e2 => by rw [upd_ne e2, upd_ne e1, upd_ne e2]⟩
end
end Dt
namespace Dt
open PySem PySem.Spec PyProof.Rows L2
/-- isinstance asked of an instance of an own exception class -/
structure IsxC (K : PySem.W.Frag) (C : Addr) : Prop where
  cl : (PySem.W.clsIn K C).isSome = true
  ga : PySem.W.findIn K (.ref C) "__getattribute__" = some (some (.builtin "BaseException.__getattribute__"))
  gt : ∃ gt, PySem.W.findIn K (.ref C) "__getattr__" = some gt
  sub : PySem.W.subIn K (.ref C) (.type "BaseException") = some true
  ha : PySem.W.findIn K (.ref C) "__class__" = some (some (.builtin "object.__class__"))
  hn : PySem.W.specialIn K (.builtin "object.__class__") "__get__" = some (some (.builtin "getset_descriptor.__get__"))
  tk : PySem.W.takesIn K (.builtin "object.__class__") = some true
  mr : PySem.W.mroIn K C (.type "object") = some true
def rIsx (K : PySem.W.Frag) (a : Addr) (cls : Value) (d : Option Addr) : List V → Hp → VK → Prop := fun xs H Q => ∃ (C B dd : Addr) (fs : List (Str × V)) (b : Bool), xs = [.ref a, .ref B] ∧ cls = .ref C ∧ d = some dd ∧ H dd = some (.xd fs) ∧ IsxC K C ∧
  PySem.W.kitOne K (.ref C) (.ref B) = some b ∧ Q (.bl b) H
theorem call_isx {X : Cx} {a : Addr} {oe : Obj} {cls : Value} {d : Option Addr} {pn : List (Addr × Obj)} (hz : Zc cls d oe) (hf : ∃ vs, oe.data = .fields vs) : CallR (X.suite a ((a, oe) :: pn)) (.builtin "isinstance") (rIsx X.K a cls d) := by
  intro pins s σ H xs us Q I r h
  obtain ⟨C, B, dd, fs, b, rfl, ec, ed, ea, ix, e, q⟩ := h
  subst ec
  subst ed
  obtain ⟨u1, u2, rfl, r1, r2⟩ := vals2 r
  cases (show u1 = Value.ref a from r1)
  cases (show u2 = Value.ref B from r2)
  obtain ⟨ha, _⟩ := I.pin (a, oe) (List.mem_append_left _ List.mem_cons_self)
  obtain ⟨vs, hd⟩ := hf
  obtain ⟨mA, hns, hr⟩ := (show ObjOk X.prog X.w H s.heap dd (.xd fs) from I.hok dd _ ea)
  obtain ⟨od, ho, hl⟩ := lookIn_ns hns
  obtain ⟨gt, hgt⟩ := ix.gt
  have J : PySem.W.InstAt s.heap a oe C (some od) := ⟨ha, hz.1, by unfold PySem.W.notCls; rw [hd] <;> rfl, by rw [hz.2]; exact ho⟩
  exact PySem.W.kia_one (PySem.W.kitx_exc ix.cl ix.ga hgt ix.sub ix.ha ix.hn ix.tk ix.mr) I.kIn J e (fun z => nomatch z) fun tk => ⟨.bl b, H, I.tok tk, rfl, q⟩
/-- a reading that leans on how many slots there are -/
def tLen (n : Nat) (t : TS) : TS := fun D σ H => σ.length = n → t D σ H
theorem PSs.len {X : Cx} {st : List Stmt} {t : TS} (n : Nat) (h : PSs X st t) (hn : X.N.length = n := by rfl) : PSs X st (tLen n t) := ⟨fun pins s σ H D I x => h.run pins s σ H D I (x (I.len.trans hn))⟩
/-- what the head tells of the names in _law_said -/
structure Sf (K : PySem.W.Frag) (mg : Str → Option Value) : Prop where
  m0 : mg "CardError" = some (.ref (cA K "CardError"))
  m1 : mg "PaperError" = some (.ref (cA K "PaperError"))
  m2 : mg "RingError" = some (.ref (cA K "RingError"))
  m3 : mg "TextError" = some (.ref (cA K "TextError"))
  m4 : mg "NoPaper" = some (.ref (cA K "NoPaper"))
  m5 : mg "NoStep" = some (.ref (cA K "NoStep"))
  x4 : PySem.W.exmOne K (.ref (cA K "NoPaper")) (.ref (cA K "CardError")) = some true
  x5 : PySem.W.exmOne K (.ref (cA K "NoStep")) (.ref (cA K "CardError")) = some true
  i4 : IsxC K (cA K "NoPaper")
  i5 : IsxC K (cA K "NoStep")
  k41 : PySem.W.kitOne K (.ref (cA K "NoPaper")) (.ref (cA K "PaperError")) = some true
  k42 : PySem.W.kitOne K (.ref (cA K "NoPaper")) (.ref (cA K "RingError")) = some false
  k43 : PySem.W.kitOne K (.ref (cA K "NoPaper")) (.ref (cA K "TextError")) = some false
  k44 : PySem.W.kitOne K (.ref (cA K "NoPaper")) (.ref (cA K "NoPaper")) = some true
  k51 : PySem.W.kitOne K (.ref (cA K "NoStep")) (.ref (cA K "PaperError")) = some false
  k52 : PySem.W.kitOne K (.ref (cA K "NoStep")) (.ref (cA K "RingError")) = some true
  k53 : PySem.W.kitOne K (.ref (cA K "NoStep")) (.ref (cA K "TextError")) = some false
  k55 : PySem.W.kitOne K (.ref (cA K "NoStep")) (.ref (cA K "NoStep")) = some true
  f4 : XfC K (cA K "NoPaper")
  f5 : XfC K (cA K "NoStep")
  isi : mg "isinstance" = none
abbrev s_said : Stmt := top 106
abbrev nSaid : List Str := ["_law_ask", "_law_found", "e", "_law_kinds"]
theorem sc_said : FnScope nSaid ["_law_ask"] (defScope s_said) := ⟨rfl, rfl, rfl, by decide +kernel, rfl, by decide +kernel, by decide +kernel⟩
/-- what _law_said makes of a lambda's reading -/
def ttSaid (W : Wd) : (XK → Hp → VK → Prop) → Hp → VK → Prop := fun tl H Q => ∃ ρ M r, WOk W ρ M H ∧
  (∀ (E : XK) (Q' : VK) ρ' H', Ex ρ H ρ' H' → WOk W ρ' M H' → Gg W (fun c d _ H => E c d H) [] (relD W) ρ' H' r Q' → tl E H' Q') ∧
  ∃ d M', saidR r = .ok d M' ∧ ∀ v ρ' H', Ex ρ H ρ' H' → WOk W ρ' M' H' → Rp W.K H' ρ' d v → Q v H'
theorem eqv3 (a b c x y z : Bool) : PyData.eqv (.list [.bool a, .bool b, .bool c]) (.list [.bool x, .bool y, .bool z]) = (a == x && (b == y && c == z)) := by cases a <;> cases b <;> cases c <;> cases x <;> cases y <;> cases z <;> rfl
theorem ifT {b : Bool} {A B : Prop} (h : b = true) (a : A) : if b = true then A else B := by rw [if_pos h]; exact a
theorem ifF {b : Bool} {A B : Prop} (h : b = false) (a : B) : if b = true then A else B := by rw [h, if_neg (by decide)]; exact a
section
variable {P : Program} {w : World} {K : PySem.W.Frag} {mg : Str → Option Value} {base : Heap} {T : List (Addr × Str)}
theorem takes_no {X : Cx} : Takes X UF := fun u s' x => by
  obtain ⟨_, _, _, _, _, _, _, _, _, _, _, _, _, _, _, _, z⟩ := x
  exact z.elim
theorem pis {X : Cx} {a : Addr} {oe : Obj} {cls : Value} {d : Option Addr} {pn : List (Addr × Obj)} {e : Expr} {te : TE} {B : String} {p p2 pos : Pos} (hz : Zc cls d oe) (hf : ∃ vs, oe.data = .fields vs) (hi : X.mg "isinstance" = none) (hm : X.mg (Str.ofString B) = some (.ref (cA X.K B)))
    (he : PE (X.suite a ((a, oe) :: pn)) e te) (hg : Gl (X.suite a ((a, oe) :: pn)) "isinstance" := by rfl) (hb : Gl (X.suite a ((a, oe) :: pn)) (Str.ofString B) := by rfl) (hd : (Str.ofString B == ("__debug__" : Str)) = false := by decide)
    (h1 : starEach [e, .Name (Str.ofString B) p2] X.env = (false, eval e X.env) :: starEach [.Name (Str.ofString B) p2] X.env := by rfl) (h2 : starEach [.Name (Str.ofString B) p2] X.env = (false, eval (.Name (Str.ofString B) p2) X.env) :: starEach [] X.env := by rfl)
    (h3 : (backTo pos (starEach [.Name (Str.ofString B) p2] X.env)).any (·.1) = false := by rfl) :
    PE (X.suite a ((a, oe) :: pn)) (.Call (.Name "isinstance" p) [e, .Name (Str.ofString B) p2] [] pos) (tCB (rIsx X.K a cls d) (tCons te (tCons (tC (.ref (cA X.K B))) tNil))) :=
  pe_callB (call_isx hz hf) hg hi (by decide +kernel) (pa_cons he (pa_cons (pe_glob (v := .ref (cA X.K B)) hb hm rfl hd) pa_nil h2) h1) (by decide) (by decide) h1 h3
theorem said_gives {X : Cx} {T : List (Addr × Str)} {g : Addr} {cdg : Value} {q : Str} {k : Nat} (S : Sf X.K X.mg) (G : Gs X.K X.mg) (hr : Room (k + 1) X.A) :
    LamX.GivesTo X nSaid "_law_said" (defScope s_said) g cdg (defBody s_said) "_law_ask" q (ttSaid (X.wd T)) := by
  intro f c' s H Q tl hpe hc ⟨ρ, M, r, w, ht, d, M', hs, hQ⟩
  have hu := (hr.deeper (envOfC "_law_said" (defScope s_said) s.heap.objs.size g cdg)).units
  let Z := (cxOf C8.CX0 X.prog X.w X.K X.mg X.base nSaid "_law_said" (defScope s_said) g cdg X.A X.stack s H C8.E0).nox
  refine ⟨_, pss_cons (ps_set (i := 1) sc_said.nd rfl (.inl rfl) (pe_tup (pa_cons pe_str pa_nil))) (pss_cons (ps_try_as (i := 2) rfl rfl sc_said.nd rfl rfl ⟨rfl, by decide, .inl S.m0⟩ takes_no
    (fun W pn xe tk own => pss_cons (ps_set (i := 1) sc_said.nd rfl (.inl rfl) (pe_tup (pa_cons pe_str (pa_cons (hpe W pn xe (fun c d H => ∀ σ, W c d σ H) _ _ tk (fun c d σ H h => h σ)) pa_nil)))) pss_nil)
    (fun a oe cls d pn hz hf => PSs.len 4
      (pss_cons (ps_set (i := 3) sc_said.nd rfl (.inl rfl) (pe_lst (pa_cons (pis (X := Z) (pn := pn) hz hf S.isi S.m1 (pv 2))
        (pa_cons (pis (X := Z) (pn := pn) hz hf S.isi S.m2 (pv 2))
        (pa_cons (pis (X := Z) (pn := pn) hz hf S.isi S.m3 (pv 2)) pa_nil)))))
      (pss_cons (ps_if (pw_and (pt_cmpR (show OpR (Z.suite a ((a, oe) :: pn)) (compareOp .Eq) (rEqD X.K) from op_eqD hu) (pv 3) (pe_lst (pa_cons pe_bl (pa_cons pe_bl (pa_cons pe_bl pa_nil)))) (nomark _)) (pw_and1 (pt_val (pis (X := Z) (pn := pn) hz hf S.isi S.m4 (pv 2))))).pt
        (pss_cons (ps_set (i := 1) sc_said.nd rfl (.inl rfl) (pe_tup (pa_cons pe_str (pa_cons (pe_xf (X := Z) (pn := pn) S.f4 G.no_NoPaper_word hz hf (pv 2)) (pa_cons (pe_xf (X := Z) (pn := pn) S.f4 G.no_NoPaper_at hz hf (pv 2)) pa_nil))))) pss_nil) pss_nil)
      (pss_cons (ps_if (pw_and (pt_cmpR (show OpR (Z.suite a ((a, oe) :: pn)) (compareOp .Eq) (rEqD X.K) from op_eqD hu) (pv 3) (pe_lst (pa_cons pe_bl (pa_cons pe_bl (pa_cons pe_bl pa_nil)))) (nomark _)) (pw_and1 (pt_val (pis (X := Z) (pn := pn) hz hf S.isi S.m5 (pv 2))))).pt
        (pss_cons (ps_set (i := 1) sc_said.nd rfl (.inl rfl) (pe_tup (pa_cons pe_str (pa_cons (pe_xf (X := Z) (pn := pn) S.f5 G.no_NoStep_word hz hf (pv 2)) pa_nil)))) pss_nil) pss_nil) pss_nil))))) (pss_cons (ps_ret (pv 1)) pss_nil)), ?_⟩
  have sz : ∀ n, n ≤ 3 → n ≤ sizeLine := fun n h => by rw [sizeLine_eq]; omega
  refine ⟨sz 1 (by decide), fun p hp => ?_⟩
  refine ⟨rfl, by rw [upd_ne (ne_of_none hc hp)]; exact hc, ht _ _ ρ _ (Ex.new hp) (w.new hp) ?_⟩
  cases r with
  | bad => cases hs
  | ok d0 M0 =>
    cases hs
    intro v ρ' H' e' w' rv
    refine ⟨sz 2 (by decide), fun p2 hp2 => ?_⟩
    exact ⟨.ref p2, rfl, hQ _ ρ' _ ((Ex.new hp).trans (e'.trans (Ex.new hp2))) (w'.new hp2) ⟨p2, _, rfl, .inl (.inl upd_same), _, _, rfl, rfl, _, _, rfl, rv.mono (Ex.new hp2), rfl⟩⟩
  | ex e M0 =>
    intro c dd ρ' H' e' w' rx σ'
    obtain ⟨ec, dx, fs, ed, nd, hd, hfs⟩ := rx
    obtain ⟨cn, efs⟩ := e
    unfold saidR at hs
    dsimp only at hs ec hfs
    have l4 : ∀ {a : Addr}, (σ'.set 2 (some (.ref a))).length = 4 → ∃ x0 x1 x2 x3, σ' = [x0, x1, x2, x3] := fun {a} h => by
      rw [List.length_set] at h
      match σ', h with
      | [x0, x1, x2, x3], _ => exact ⟨x0, x1, x2, x3, rfl⟩
    split at hs
    · rename_i av bv q1 q2
      cases hs
      obtain ⟨v1, f1, r1⟩ := hfs _ _ q1
      obtain ⟨v2, f2, r2⟩ := hfs _ _ q2
      refine ⟨true, by rw [ec]; exact S.x4, fun _ a ha hl => ?_, fun z => by cases z⟩
      obtain ⟨x0, x1, x2, x3, rfl⟩ := l4 hl
      refine ⟨.ref a, rfl, _, _, dx, fs, true, rfl, ec, ed, hd, S.i4, S.k41, ?_⟩
      refine ⟨.ref a, rfl, _, _, dx, fs, false, rfl, ec, ed, hd, S.i4, S.k42, ?_⟩
      refine ⟨.ref a, rfl, _, _, dx, fs, false, rfl, ec, ed, hd, S.i4, S.k43, ?_⟩
      refine ⟨sz 3 (by decide), fun l hl1 => ?_⟩
      refine ⟨.ref l, rfl, sz 3 (by decide), fun m hm => ?_⟩
      have nl : ∀ {b : Addr} {o u : HO} {G : Hp}, G b = none → G l = some o → upd G b u l = some o := fun hb hG => by rw [upd_ne (ne_of_none hG hb)]; exact hG
      have nx : ∀ {b : Addr} {u : HO} {G : Hp}, G b = none → G dx = some (.xd fs) → upd G b u dx = some (.xd fs) := fun hb hG => by rw [upd_ne (ne_of_none hG hb)]; exact hG
      refine ⟨.list [.bool true, .bool false, .bool false], .list [.bool true, .bool false, .bool false], .lst (SqL.of (nl hm upd_same)) (.cons (.bl _) (.cons (.bl _) (.cons (.bl _) .nil))), .lst (SqL.of upd_same) (.cons (.bl _) (.cons (.bl _) (.cons (.bl _) .nil))), by decide, by decide, _, rfl, ?_⟩
      refine ifT (by rw [eqv3] <;> rfl) ?_
      have hd3 := nx (u := .lst [V.bl true, V.bl false, V.bl false]) hm (nx (u := .lst [V.bl true, V.bl false, V.bl false]) hl1 hd)
      refine ⟨.ref a, rfl, _, _, dx, fs, true, rfl, ec, ed, hd3, S.i4, S.k44, true, rfl, ?_⟩
      refine ifT rfl ?_
      refine ⟨.ref a, rfl, rfl, ec, dx, fs, v1, ed, hd3, f1, .ref a, rfl, rfl, ec, dx, fs, v2, ed, hd3, f2, sz 3 (by decide), fun p3 hp3 => ?_⟩
      refine ⟨.ref l, rfl, sz 3 (by decide), fun m2 hm2 => ?_⟩
      refine ⟨.list [.bool true, .bool false, .bool false], .list [.bool false, .bool true, .bool false], .lst (SqL.of (nl hm2 (nl hp3 (nl hm upd_same)))) (.cons (.bl _) (.cons (.bl _) (.cons (.bl _) .nil))), .lst (SqL.of upd_same) (.cons (.bl _) (.cons (.bl _) (.cons (.bl _) .nil))), by decide, by decide, _, rfl, ?_⟩
      refine ifF (by rw [eqv3] <;> rfl) ?_
      refine ⟨.ref p3, rfl, hQ _ ρ' _ ((Ex.new hp).trans (e'.trans ((Ex.new hl1).trans ((Ex.new hm).trans ((Ex.new hp3).trans (Ex.new hm2)))))) ((((w'.new hl1).new hm).new hp3).new hm2) ⟨p3, _, rfl, .inl (.inl ?_), _, _, rfl, rfl, _, _, rfl, r1.mono ((Ex.new hl1).trans ((Ex.new hm).trans ((Ex.new hp3).trans (Ex.new hm2)))), _, _, rfl, r2.mono ((Ex.new hl1).trans ((Ex.new hm).trans ((Ex.new hp3).trans (Ex.new hm2)))), rfl⟩⟩
      rw [upd_ne (ne_of_none upd_same hm2), upd_same]
    · rename_i av q1
      cases hs
      obtain ⟨v1, f1, r1⟩ := hfs _ _ q1
      refine ⟨true, by rw [ec]; exact S.x5, fun _ a ha hl => ?_, fun z => by cases z⟩
      obtain ⟨x0, x1, x2, x3, rfl⟩ := l4 hl
      refine ⟨.ref a, rfl, _, _, dx, fs, false, rfl, ec, ed, hd, S.i5, S.k51, ?_⟩
      refine ⟨.ref a, rfl, _, _, dx, fs, true, rfl, ec, ed, hd, S.i5, S.k52, ?_⟩
      refine ⟨.ref a, rfl, _, _, dx, fs, false, rfl, ec, ed, hd, S.i5, S.k53, ?_⟩
      refine ⟨sz 3 (by decide), fun l hl1 => ?_⟩
      refine ⟨.ref l, rfl, sz 3 (by decide), fun m hm => ?_⟩
      have nl : ∀ {b : Addr} {o u : HO} {G : Hp}, G b = none → G l = some o → upd G b u l = some o := fun hb hG => by rw [upd_ne (ne_of_none hG hb)]; exact hG
      have nx : ∀ {b : Addr} {u : HO} {G : Hp}, G b = none → G dx = some (.xd fs) → upd G b u dx = some (.xd fs) := fun hb hG => by rw [upd_ne (ne_of_none hG hb)]; exact hG
      refine ⟨.list [.bool false, .bool true, .bool false], .list [.bool true, .bool false, .bool false], .lst (SqL.of (nl hm upd_same)) (.cons (.bl _) (.cons (.bl _) (.cons (.bl _) .nil))), .lst (SqL.of upd_same) (.cons (.bl _) (.cons (.bl _) (.cons (.bl _) .nil))), by decide, by decide, _, rfl, ?_⟩
      refine ifF (by rw [eqv3] <;> rfl) ?_
      refine ⟨.ref l, rfl, sz 3 (by decide), fun m2 hm2 => ?_⟩
      refine ⟨.list [.bool false, .bool true, .bool false], .list [.bool false, .bool true, .bool false], .lst (SqL.of (nl hm2 (nl hm upd_same))) (.cons (.bl _) (.cons (.bl _) (.cons (.bl _) .nil))), .lst (SqL.of upd_same) (.cons (.bl _) (.cons (.bl _) (.cons (.bl _) .nil))), by decide, by decide, _, rfl, ?_⟩
      refine ifT (by rw [eqv3] <;> rfl) ?_
      have hd3 := nx (u := .lst [V.bl false, V.bl true, V.bl false]) hm2 (nx (u := .lst [V.bl true, V.bl false, V.bl false]) hm (nx (u := .lst [V.bl false, V.bl true, V.bl false]) hl1 hd))
      refine ⟨.ref a, rfl, _, _, dx, fs, true, rfl, ec, ed, hd3, S.i5, S.k55, true, rfl, ?_⟩
      refine ifT rfl ?_
      refine ⟨.ref a, rfl, rfl, ec, dx, fs, v1, ed, hd3, f1, sz 2 (by decide), fun p3 hp3 => ?_⟩
      exact ⟨.ref p3, rfl, hQ _ ρ' _ ((Ex.new hp).trans (e'.trans ((Ex.new hl1).trans ((Ex.new hm).trans ((Ex.new hm2).trans (Ex.new hp3)))))) ((((w'.new hl1).new hm).new hm2).new hp3) ⟨p3, _, rfl, .inl (.inl upd_same), _, _, rfl, rfl, _, _, rfl, r1.mono ((Ex.new hl1).trans ((Ex.new hm).trans ((Ex.new hm2).trans (Ex.new hp3)))), rfl⟩⟩
    · cases hs
/-- _law_said as the head tells it -/
structure SaidF (K : PySem.W.Frag) (mg : Str → Option Value) : Prop where
  S : Sf K mg
  G : Gs K mg
  F : ∃ fd, FnP K "_law_said" s_said [] (fA K "_law_said") fd
  hm : mg "_law_said" = some (.ref (fA K "_law_said"))
theorem saidR_ne {r : Res D} {e : Exn} {M : Mem} : saidR r ≠ .ex e M := by
  intro h
  unfold saidR at h
  cases r with
  | ok d M => cases h
  | bad => cases h
  | ex e M => dsimp only at h; split at h <;> cases h
theorem lamS_cl (S : Scope) {scope : Scope} (h : LamX.lamSB S scope = true) : LamX.LamS S scope := LamX.lamS_by h
theorem pd_said {X : Cx} {T : List (Addr × Str)} {U : WX} {k j : Nat} {params : Arguments} {body : Expr} {scope : Scope} {f : E} {p lpos pos : Pos} (SD : SaidF X.K X.mg) (LC : LamC X T) (hr : Room j X.A) (L : LamX.LamS X.env.scope scope)
    (hbody : ∀ (A : Around) (outer : List PySem.Env) (s : Shared) (H : Hp) (E : XK) (g c' : Addr), Room k (A.deeper (LamX.lamEnv X scope s.heap.objs.size g c')) → PE (LamX.lamCx X A outer s H E scope g c') body (tE (X.wd T) (fun c d _ H => E c d H) f))
    (hj : k + 2 ≤ j := by decide) (hg : Gl X "_law_said" := by rfl) (hdef : defaultsOf params X.env = ([], []) := by rfl)
    (hbind : ∀ (q : Str) (cl : List (Str × Addr)) (pm cv ctv : Value), bindArgs (PySem.W.kla_fn "<lambda>" q params body scope cl pm cv ctv) ⟨[], []⟩ = pure [] := by intros; rfl) :
    PE X (.Call (.Name "_law_said" p) [.Lambda params body scope lpos] [] pos) (tE (X.wd T) U (eSaid f)) := by
  obtain ⟨fd, F⟩ := SD.F
  obtain ⟨lc, lP, hcode, TB, hmT, huT⟩ := LC.ex
  have F0 := F.bindsN (ps := ["_law_ask"]) (fun _ _ _ _ _ _ us hl => match us, hl with | [_], _ => rfl)
  have kp := F.kp
  obtain ⟨oc, od, dV, kV, doc, pm, an, cdv, ct, osl, e, lk, hcd, hD, _⟩ := F.ex
  subst e
  refine PE.imp (LamX.pe_lamcall (t := fun E => tE (X.wd T) (fun c d _ H => E c d H) f) hg SD.hm kp lk hcd F0 sc_said rfl (.inl rfl) (said_gives (T := T) (k := j - 1) SD.S SD.G (hr.mono (by omega))) TB hcode hmT huT (hr.mono hj) L hdef hbind hbody) fun σ H Q ⟨ρ, M, δ, w, er, go⟩ => ?_
  refine ⟨w.tabs, fun H1 eN T1 => ⟨ρ, M, f δ M, w.lam eN T1, fun E Q' ρ' H' ex w' g => ⟨ρ', M, δ, w', (er.mono (Ex.lam eN)).mono ex, ?_⟩, ?_⟩⟩
  · cases q : f δ M with
    | ok d M2 => rw [q] at g; exact g
    | ex e M2 => rw [q] at g; exact g
    | bad => rw [q] at g; exact g.elim
  · have go : Gg (X.wd T) U σ (relD (X.wd T)) ρ H (saidR (f δ M)) Q := go
    cases q : saidR (f δ M) with
    | bad => rw [q] at go; exact go.elim
    | ex e M2 => exact absurd q saidR_ne
    | ok d M2 =>
      rw [q] at go
      exact ⟨d, M2, rfl, fun v ρ' H' ex w' r => go v ρ' H' ((Ex.lam eN).trans ex) w' r⟩
end
end Dt
namespace Dt
open PySem PySem.Spec PyProof.Rows L2
section
variable {P : Program} {w : World} {K : PySem.W.Frag} {mg : Str → Option Value} {base : Heap} {T : List (Addr × Str)}
abbrev s_is_number : Stmt := top 9
theorem sc_is_number : FnScope ["thing"] ["thing"] (defScope s_is_number) := ⟨rfl, rfl, rfl, by decide +kernel, rfl, by decide +kernel, by decide +kernel⟩
theorem ok_is_number (G : Gs K mg) (F : ∃ fd, FnP K "is_number" s_is_number [] (fA K "is_number") fd) (hm : mg "is_number" = some (.ref (fA K "is_number")))  : Df P w K mg base T 1 "is_number" 1 f_is_number := by
  obtain ⟨fd, F⟩ := F
  refine df_of hm F sc_is_number rfl (fun _ _ _ _ _ _ us hl => match us, hl with | [_], _ => rfl) ?_
  intro f cdv A outer s H E hr tk hp
  have hx := fun σ => passAt tk σ
  have hu := hr.units
  have hu0 := hr.units0
  have hu1 := u1 hr
  exact (ss_one (s_ret (pd_and (pd_isi (x := "") (cn := "int") G.f_isinstance G.f_int (by decide +kernel) (pd_var 0)) (pd_and (pd_not (pd_isi (x := "") (cn := "bool") G.f_isinstance G.f_bool (by decide +kernel) (pd_var 0))) (pd_one (pd_cmp op_ge ok_ge (pd_var 0) pd_int (nomark _)))))))
abbrev s_mix_of : Stmt := top 14
theorem sc_mix_of : FnScope ["talk", "card", "word", "other_card", "other_word", "own_word", "signs", "found", "k", "sign"] ["talk"] (defScope s_mix_of) := ⟨rfl, rfl, rfl, by decide +kernel, rfl, by decide +kernel, by decide +kernel⟩
theorem ok_mix_of (G : Gs K mg) (F : ∃ fd, FnP K "mix_of" s_mix_of [] (fA K "mix_of") fd) (hm : mg "mix_of" = some (.ref (fA K "mix_of")))  : Df P w K mg base T 1 "mix_of" 1 f_mix_of := by
  obtain ⟨fd, F⟩ := F
  refine df_of hm F sc_mix_of rfl (fun _ _ _ _ _ _ us hl => match us, hl with | [_], _ => rfl) ?_
  intro f cdv A outer s H E hr tk hp
  have hx := fun σ => passAt tk σ
  have hu := hr.units
  have hu0 := hr.units0
  have hu1 := u1 hr
  exact (ss_cons (s_asg (vs := [1, 2, 3, 4, 5]) (pd_var 0) (g_tup rfl (gs_cons (g_tup rfl (gs_cons (g_name (by simp) sc_mix_of.nd) (gs_cons (g_name (by simp) sc_mix_of.nd) gs_nil))) (gs_cons (g_tup rfl (gs_cons (g_name (by simp) sc_mix_of.nd) (gs_cons (g_name (by simp) sc_mix_of.nd) gs_nil))) (gs_cons (g_name (by simp) sc_mix_of.nd) gs_nil)))))
  (ss_cons (s_set sc_mix_of.nd (pd_op op_addA ok_add (pd_op op_addA ok_add (pd_var 2) (pd_var 4)) (pd_var 5)))
  (ss_cons (s_set sc_mix_of.nd (pd_callL (cr_sum rfl) okl_sum G.f_sum (by decide +kernel) (pl_lc (own := [("k", 8), ("sign", 9)]) rfl sc_mix_of.nd (i_enumK G.f_enumerate (pd_var 6)) (blkOk_cl ["talk", "card", "word", "other_card", "other_word", "own_word", "signs", "found", "k", "sign"] (defScope s_mix_of) (by decide +kernel)) (fun _ _ _ _ _ => (g_tup rfl (gs_cons (g_name (by simp) sc_mix_of.nd) (gs_cons (g_name (by simp) sc_mix_of.nd) gs_nil)))) (fun _ _ _ _ _ => pts_dnil) (fun _ _ _ _ _ => (pd_op (op_mul.or op_repT) ok_mul (pd_var 8) (pd_op op_addA ok_add (pd_sindex (pd_gstr "abcdefghijklmnopqrstuvwxyz" rfl G.s_SIGNS) (pd_var 9)) pd_int))))))
  (ss_one (s_ret (pd_op op_mod ok_mod (pd_op op_addA ok_add (pd_op op_addA ok_add (pd_var 7) (pd_var 1)) (pd_op (op_mul.or op_repT) ok_mul pd_int (pd_var 3))) (pd_gint rfl G.i_MIXES)))))))
abbrev s_lane_of : Stmt := top 15
theorem sc_lane_of : FnScope ["steering", "talk", "lanes"] ["steering", "talk", "lanes"] (defScope s_lane_of) := ⟨rfl, rfl, rfl, by decide +kernel, rfl, by decide +kernel, by decide +kernel⟩
theorem ok_lane_of (G : Gs K mg) (F : ∃ fd, FnP K "lane_of" s_lane_of [("lanes", V.int 2)] (fA K "lane_of") fd) (hm : mg "lane_of" = some (.ref (fA K "lane_of"))) (D_mix_of : Df P w K mg base T 1 "mix_of" 1 f_mix_of) : DfK P w K mg base T 2 "lane_of" 2 1 ["lanes"] f_lane_of := by
  obtain ⟨fd, F⟩ := F
  refine dfk_of hm F sc_lane_of rfl rfl (fun _ _ _ _ _ _ us ws l1 l2 => match us, ws, l1, l2 with | [_, _], [_], _, _ => rfl) ?_
  intro f cdv A outer s H E hr tk hp
  have hx := fun σ => passAt tk σ
  have hu := hr.units
  have hu0 := hr.units0
  have hu1 := u1 hr
  exact (ss_one (s_ret (pd_getN hu (pd_dictOf rfl hu G.f_dict (pd_var 0)) (pa_dcons (pd_var 1) (pa_dcons (pd_op op_mod ok_mod (pd_call D_mix_of hr hx (pa_dcons (pd_var 1) pa_dnil)) (pd_var 2)) pa_dnil)))))
abbrev s_common : Stmt := top 17
theorem sc_common : FnScope ["one", "other"] ["one", "other"] (defScope s_common) := ⟨rfl, rfl, rfl, by decide +kernel, rfl, by decide +kernel, by decide +kernel⟩
theorem ok_common (G : Gs K mg) (F : ∃ fd, FnP K "common" s_common [] (fA K "common") fd) (hm : mg "common" = some (.ref (fA K "common")))  : Df P w K mg base T 1 "common" 2 f_common := by
  obtain ⟨fd, F⟩ := F
  refine df_of hm F sc_common rfl (fun _ _ _ _ _ _ us hl => match us, hl with | [_, _], _ => rfl) ?_
  intro f cdv A outer s H E hr tk hp
  have hx := fun σ => passAt tk σ
  have hu := hr.units
  have hu0 := hr.units0
  have hu1 := u1 hr
  exact (ss_cons (s_while fuelGcd hp (pt_dcmp (op_neD hu) ok_ne (pd_var 1) pd_int (nomark _)) (ss_one (s_par rfl sc_common.nd (pa_dcons (pd_var 1) (pa_dcons (pd_op op_mod ok_mod (pd_var 0) (pd_var 1)) pa_dnil)))))
  (ss_one (s_ret (pd_var 0))))
abbrev s_ratio : Stmt := top 18
theorem sc_ratio : FnScope ["over", "under", "by"] ["over", "under"] (defScope s_ratio) := ⟨rfl, rfl, rfl, by decide +kernel, rfl, by decide +kernel, by decide +kernel⟩
theorem ok_ratio (G : Gs K mg) (F : ∃ fd, FnP K "ratio" s_ratio [] (fA K "ratio") fd) (hm : mg "ratio" = some (.ref (fA K "ratio"))) (D_common : Df P w K mg base T 1 "common" 2 f_common) : Df P w K mg base T 2 "ratio" 2 f_ratio := by
  obtain ⟨fd, F⟩ := F
  refine df_of hm F sc_ratio rfl (fun _ _ _ _ _ _ us hl => match us, hl with | [_, _], _ => rfl) ?_
  intro f cdv A outer s H E hr tk hp
  have hx := fun σ => passAt tk σ
  have hu := hr.units
  have hu0 := hr.units0
  have hu1 := u1 hr
  exact (ss_cons (s_set sc_ratio.nd (pd_call D_common hr hx (pa_dcons (pd_var 0) (pa_dcons (pd_var 1) pa_dnil))))
  (ss_one (s_ret (pd_tup (pa_dcons (pd_op op_fdiv ok_div (pd_var 0) (pd_var 2)) (pa_dcons (pd_op op_fdiv ok_div (pd_var 1) (pd_var 2)) pa_dnil))))))
abbrev s_added : Stmt := top 19
theorem sc_added : FnScope ["one", "other"] ["one", "other"] (defScope s_added) := ⟨rfl, rfl, rfl, by decide +kernel, rfl, by decide +kernel, by decide +kernel⟩
theorem ok_added (G : Gs K mg) (F : ∃ fd, FnP K "added" s_added [] (fA K "added") fd) (hm : mg "added" = some (.ref (fA K "added"))) (D_ratio : Df P w K mg base T 2 "ratio" 2 f_ratio) : Df P w K mg base T 3 "added" 2 f_added := by
  obtain ⟨fd, F⟩ := F
  refine df_of hm F sc_added rfl (fun _ _ _ _ _ _ us hl => match us, hl with | [_, _], _ => rfl) ?_
  intro f cdv A outer s H E hr tk hp
  have hx := fun σ => passAt tk σ
  have hu := hr.units
  have hu0 := hr.units0
  have hu1 := u1 hr
  exact (ss_one (s_ret (pd_call D_ratio hr hx (pa_dcons (pd_op op_addA ok_add (pd_op (op_mul.or op_repT) ok_mul (pd_ix (pd_var 0) pd_int) (pd_ix (pd_var 1) pd_int)) (pd_op (op_mul.or op_repT) ok_mul (pd_ix (pd_var 1) pd_int) (pd_ix (pd_var 0) pd_int))) (pa_dcons (pd_op (op_mul.or op_repT) ok_mul (pd_ix (pd_var 0) pd_int) (pd_ix (pd_var 1) pd_int)) pa_dnil)))))
abbrev s_times : Stmt := top 20
theorem sc_times : FnScope ["one", "other"] ["one", "other"] (defScope s_times) := ⟨rfl, rfl, rfl, by decide +kernel, rfl, by decide +kernel, by decide +kernel⟩
theorem ok_times (G : Gs K mg) (F : ∃ fd, FnP K "times" s_times [] (fA K "times") fd) (hm : mg "times" = some (.ref (fA K "times"))) (D_ratio : Df P w K mg base T 2 "ratio" 2 f_ratio) : Df P w K mg base T 3 "times" 2 f_times := by
  obtain ⟨fd, F⟩ := F
  refine df_of hm F sc_times rfl (fun _ _ _ _ _ _ us hl => match us, hl with | [_, _], _ => rfl) ?_
  intro f cdv A outer s H E hr tk hp
  have hx := fun σ => passAt tk σ
  have hu := hr.units
  have hu0 := hr.units0
  have hu1 := u1 hr
  exact (ss_one (s_ret (pd_call D_ratio hr hx (pa_dcons (pd_op (op_mul.or op_repT) ok_mul (pd_ix (pd_var 0) pd_int) (pd_ix (pd_var 1) pd_int)) (pa_dcons (pd_op (op_mul.or op_repT) ok_mul (pd_ix (pd_var 0) pd_int) (pd_ix (pd_var 1) pd_int)) pa_dnil)))))
abbrev s_is_less : Stmt := top 21
theorem sc_is_less : FnScope ["one", "other"] ["one", "other"] (defScope s_is_less) := ⟨rfl, rfl, rfl, by decide +kernel, rfl, by decide +kernel, by decide +kernel⟩
theorem ok_is_less (G : Gs K mg) (F : ∃ fd, FnP K "is_less" s_is_less [] (fA K "is_less") fd) (hm : mg "is_less" = some (.ref (fA K "is_less")))  : Df P w K mg base T 1 "is_less" 2 f_is_less := by
  obtain ⟨fd, F⟩ := F
  refine df_of hm F sc_is_less rfl (fun _ _ _ _ _ _ us hl => match us, hl with | [_, _], _ => rfl) ?_
  intro f cdv A outer s H E hr tk hp
  have hx := fun σ => passAt tk σ
  have hu := hr.units
  have hu0 := hr.units0
  have hu1 := u1 hr
  exact (ss_one (s_ret (pd_cmp op_lt ok_lt (pd_op (op_mul.or op_repT) ok_mul (pd_ix (pd_var 0) pd_int) (pd_ix (pd_var 1) pd_int)) (pd_op (op_mul.or op_repT) ok_mul (pd_ix (pd_var 1) pd_int) (pd_ix (pd_var 0) pd_int)) (nomark _))))
abbrev s_lesser : Stmt := top 22
theorem sc_lesser : FnScope ["one", "other"] ["one", "other"] (defScope s_lesser) := ⟨rfl, rfl, rfl, by decide +kernel, rfl, by decide +kernel, by decide +kernel⟩
theorem ok_lesser (G : Gs K mg) (F : ∃ fd, FnP K "lesser" s_lesser [] (fA K "lesser") fd) (hm : mg "lesser" = some (.ref (fA K "lesser"))) (D_is_less : Df P w K mg base T 1 "is_less" 2 f_is_less) : Df P w K mg base T 2 "lesser" 2 f_lesser := by
  obtain ⟨fd, F⟩ := F
  refine df_of hm F sc_lesser rfl (fun _ _ _ _ _ _ us hl => match us, hl with | [_, _], _ => rfl) ?_
  intro f cdv A outer s H E hr tk hp
  have hx := fun σ => passAt tk σ
  have hu := hr.units
  have hu0 := hr.units0
  have hu1 := u1 hr
  exact (ss_one (s_ret (pd_if (pt_dval (pd_call D_is_less hr hx (pa_dcons (pd_var 1) (pa_dcons (pd_var 0) pa_dnil)))) (pd_var 1) (pd_var 0))))
abbrev s_purse_filled : Stmt := top 25
theorem sc_purse_filled : FnScope ["purse", "ticks", "has", "rate", "most"] ["purse", "ticks"] (defScope s_purse_filled) := ⟨rfl, rfl, rfl, by decide +kernel, rfl, by decide +kernel, by decide +kernel⟩
theorem ok_purse_filled (G : Gs K mg) (F : ∃ fd, FnP K "purse_filled" s_purse_filled [("ticks", V.int 1)] (fA K "purse_filled") fd) (hm : mg "purse_filled" = some (.ref (fA K "purse_filled"))) (D_added : Df P w K mg base T 3 "added" 2 f_added) (D_times : Df P w K mg base T 3 "times" 2 f_times) (D_lesser : Df P w K mg base T 2 "lesser" 2 f_lesser) : DfD P w K mg base T 4 "purse_filled" 2 [.int 1] f_purse_filled := by
  obtain ⟨fd, F⟩ := F
  refine dfd_of hm F sc_purse_filled rfl (fun z => by cases z) 1 rfl (fun _ _ _ _ _ _ us ks l1 l2 => match us, ks, l1, l2 with | [_], [_], _, _ => ⟨_, _, _, _, _, _, rfl, rfl, rfl⟩) (fun _ _ => ⟨_, _, rfl, rfl, rfl⟩) ?_
  intro f cdv A outer s H E hr tk hp
  have hx := fun σ => passAt tk σ
  have hu := hr.units
  have hu0 := hr.units0
  have hu1 := u1 hr
  exact (ss_cons (s_asg (vs := [2, 3, 4]) (pd_var 0) (g_tup rfl (gs_cons (g_name (by simp) sc_purse_filled.nd) (gs_cons (g_name (by simp) sc_purse_filled.nd) (gs_cons (g_name (by simp) sc_purse_filled.nd) gs_nil)))))
  (ss_one (s_ret (pd_tup (pa_dcons (pd_call D_lesser hr hx (pa_dcons (pd_call D_added hr hx (pa_dcons (pd_var 2) (pa_dcons (pd_call D_times hr hx (pa_dcons (pd_var 3) (pa_dcons (pd_tup (pa_dcons (pd_var 1) (pa_dcons pd_int pa_dnil))) pa_dnil))) pa_dnil))) (pa_dcons (pd_var 4) pa_dnil))) (pa_dcons (pd_var 3) (pa_dcons (pd_var 4) pa_dnil)))))))
abbrev s_owns : Stmt := top 27
theorem sc_owns : FnScope ["rights", "word", "stretch"] ["rights", "word", "stretch"] (defScope s_owns) := ⟨rfl, rfl, rfl, by decide +kernel, rfl, by decide +kernel, by decide +kernel⟩
theorem ok_owns (G : Gs K mg) (F : ∃ fd, FnP K "owns" s_owns [] (fA K "owns") fd) (hm : mg "owns" = some (.ref (fA K "owns")))  : Df P w K mg base T 1 "owns" 3 f_owns := by
  obtain ⟨fd, F⟩ := F
  refine df_of hm F sc_owns rfl (fun _ _ _ _ _ _ us hl => match us, hl with | [_, _, _], _ => rfl) ?_
  intro f cdv A outer s H E hr tk hp
  have hx := fun σ => passAt tk σ
  have hu := hr.units
  have hu0 := hr.units0
  have hu1 := u1 hr
  exact (ss_one (s_ret (pd_and (pd_cmp op_lt ok_lt (pd_ix (pd_var 2) pd_int) (pd_callB call_len okn_len G.f_len (by decide +kernel) (pa_dcons (pd_var 0) pa_dnil)) (nomark _)) (pd_one (pd_cmp (op_eqD hu) ok_eq (pd_ix (pd_var 0) (pd_ix (pd_var 2) pd_int)) (pd_var 1) (nomark _))))))
abbrev s_count_on : Stmt := top 29
theorem sc_count_on : FnScope ["count", "size", "by"] ["count", "size", "by"] (defScope s_count_on) := ⟨rfl, rfl, rfl, by decide +kernel, rfl, by decide +kernel, by decide +kernel⟩
theorem ok_count_on (G : Gs K mg) (F : ∃ fd, FnP K "count_on" s_count_on [("by", V.int 1)] (fA K "count_on") fd) (hm : mg "count_on" = some (.ref (fA K "count_on")))  : DfD P w K mg base T 1 "count_on" 3 [.int 1] f_count_on := by
  obtain ⟨fd, F⟩ := F
  refine dfd_of hm F sc_count_on rfl (fun z => by cases z) 2 rfl (fun _ _ _ _ _ _ us ks l1 l2 => match us, ks, l1, l2 with | [_, _], [_], _, _ => ⟨_, _, _, _, _, _, rfl, rfl, rfl⟩) (fun _ _ => ⟨_, _, rfl, rfl, rfl⟩) ?_
  intro f cdv A outer s H E hr tk hp
  have hx := fun σ => passAt tk σ
  have hu := hr.units
  have hu0 := hr.units0
  have hu1 := u1 hr
  exact (ss_one (s_ret (pd_op op_mod ok_mod (pd_op op_addA ok_add (pd_var 0) (pd_var 2)) (pd_op (op_mul.or op_repT) ok_mul pd_int (pd_var 1)))))
end
end Dt
namespace Dt
open PySem PySem.Spec PyProof.Rows L2
section
variable {P : Program} {w : World} {K : PySem.W.Frag} {mg : Str → Option Value} {base : Heap} {T : List (Addr × Str)}
abbrev s_count_gap : Stmt := top 30
theorem sc_count_gap : FnScope ["low", "high", "size"] ["low", "high", "size"] (defScope s_count_gap) := ⟨rfl, rfl, rfl, by decide +kernel, rfl, by decide +kernel, by decide +kernel⟩
theorem ok_count_gap (G : Gs K mg) (F : ∃ fd, FnP K "count_gap" s_count_gap [] (fA K "count_gap") fd) (hm : mg "count_gap" = some (.ref (fA K "count_gap")))  : Df P w K mg base T 1 "count_gap" 3 f_count_gap := by
  obtain ⟨fd, F⟩ := F
  refine df_of hm F sc_count_gap rfl (fun _ _ _ _ _ _ us hl => match us, hl with | [_, _, _], _ => rfl) ?_
  intro f cdv A outer s H E hr tk hp
  have hx := fun σ => passAt tk σ
  have hu := hr.units
  have hu0 := hr.units0
  have hu1 := u1 hr
  exact (ss_one (s_ret (pd_op op_mod ok_mod (pd_op op_sub ok_sub (pd_var 1) (pd_var 0)) (pd_op (op_mul.or op_repT) ok_mul pd_int (pd_var 2)))))
abbrev s_void_ring : Stmt := top 31
theorem sc_void_ring : FnScope ["size"] ["size"] (defScope s_void_ring) := ⟨rfl, rfl, rfl, by decide +kernel, rfl, by decide +kernel, by decide +kernel⟩
theorem ok_void_ring (G : Gs K mg) (F : ∃ fd, FnP K "void_ring" s_void_ring [] (fA K "void_ring") fd) (hm : mg "void_ring" = some (.ref (fA K "void_ring")))  : Df P w K mg base T 1 "void_ring" 1 f_void_ring := by
  obtain ⟨fd, F⟩ := F
  refine df_of hm F sc_void_ring rfl (fun _ _ _ _ _ _ us hl => match us, hl with | [_], _ => rfl) ?_
  intro f cdv A outer s H E hr tk hp
  have hx := fun σ => passAt tk σ
  have hu := hr.units
  have hu0 := hr.units0
  have hu1 := u1 hr
  exact (ss_one (s_ret (pd_tup (pa_dcons (pd_var 0) (pa_dcons pd_int (pa_dcons pd_int (pa_dcons (pd_op (op_repT.or op_rep1) ok_mulT (pd_tup (pa_dcons pd_non pa_dnil)) (pd_var 0)) pa_dnil)))))))
abbrev s_held_in : Stmt := top 32
theorem sc_held_in : FnScope ["ring", "size", "made", "done", "things"] ["ring"] (defScope s_held_in) := ⟨rfl, rfl, rfl, by decide +kernel, rfl, by decide +kernel, by decide +kernel⟩
theorem ok_held_in (G : Gs K mg) (F : ∃ fd, FnP K "held_in" s_held_in [] (fA K "held_in") fd) (hm : mg "held_in" = some (.ref (fA K "held_in"))) (D_count_gap : Df P w K mg base T 1 "count_gap" 3 f_count_gap) : Df P w K mg base T 2 "held_in" 1 f_held_in := by
  obtain ⟨fd, F⟩ := F
  refine df_of hm F sc_held_in rfl (fun _ _ _ _ _ _ us hl => match us, hl with | [_], _ => rfl) ?_
  intro f cdv A outer s H E hr tk hp
  have hx := fun σ => passAt tk σ
  have hu := hr.units
  have hu0 := hr.units0
  have hu1 := u1 hr
  exact (ss_cons (s_asg (vs := [1, 2, 3, 4]) (pd_var 0) (g_tup rfl (gs_cons (g_name (by simp) sc_held_in.nd) (gs_cons (g_name (by simp) sc_held_in.nd) (gs_cons (g_name (by simp) sc_held_in.nd) (gs_cons (g_name (by simp) sc_held_in.nd) gs_nil))))))
  (ss_one (s_ret (pd_call D_count_gap hr hx (pa_dcons (pd_var 3) (pa_dcons (pd_var 2) (pa_dcons (pd_var 1) pa_dnil)))))))
abbrev s_laid : Stmt := top 33
theorem sc_laid : FnScope ["things", "place", "thing"] ["things", "place", "thing"] (defScope s_laid) := ⟨rfl, rfl, rfl, by decide +kernel, rfl, by decide +kernel, by decide +kernel⟩
theorem ok_laid (G : Gs K mg) (F : ∃ fd, FnP K "laid" s_laid [] (fA K "laid") fd) (hm : mg "laid" = some (.ref (fA K "laid")))  : Df P w K mg base T 1 "laid" 3 f_laid := by
  obtain ⟨fd, F⟩ := F
  refine df_of hm F sc_laid rfl (fun _ _ _ _ _ _ us hl => match us, hl with | [_, _, _], _ => rfl) ?_
  intro f cdv A outer s H E hr tk hp
  have hx := fun σ => passAt tk σ
  have hu := hr.units
  have hu0 := hr.units0
  have hu1 := u1 hr
  exact (ss_one (s_ret (pd_op op_addA ok_add (pd_op op_addA ok_add (pd_sl (pd_var 0) q_none (q_some (pd_var 1))) (pd_tup (pa_dcons (pd_var 2) pa_dnil))) (pd_sl (pd_var 0) (q_some (pd_op op_addA ok_add (pd_var 1) pd_int)) q_none))))
abbrev s_put_in : Stmt := top 34
theorem sc_put_in : FnScope ["ring", "thing", "size", "made", "done", "things"] ["ring", "thing"] (defScope s_put_in) := ⟨rfl, rfl, rfl, by decide +kernel, rfl, by decide +kernel, by decide +kernel⟩
theorem ok_put_in (G : Gs K mg) (F : ∃ fd, FnP K "put_in" s_put_in [] (fA K "put_in") fd) (hm : mg "put_in" = some (.ref (fA K "put_in"))) (D_count_on : DfD P w K mg base T 1 "count_on" 3 [.int 1] f_count_on) (D_held_in : Df P w K mg base T 2 "held_in" 1 f_held_in) (D_laid : Df P w K mg base T 1 "laid" 3 f_laid) (XNoPlace : ExK P w K mg base 1 "NoPlace" (spX1 K (cA K "NoPlace") "word")) : Df P w K mg base T 3 "put_in" 2 f_put_in := by
  obtain ⟨fd, F⟩ := F
  refine df_of hm F sc_put_in rfl (fun _ _ _ _ _ _ us hl => match us, hl with | [_, _], _ => rfl) ?_
  intro f cdv A outer s H E hr tk hp
  have hx := fun σ => passAt tk σ
  have hu := hr.units
  have hu0 := hr.units0
  have hu1 := u1 hr
  exact (ss_cons (s_asg (vs := [2, 3, 4, 5]) (pd_var 0) (g_tup rfl (gs_cons (g_name (by simp) sc_put_in.nd) (gs_cons (g_name (by simp) sc_put_in.nd) (gs_cons (g_name (by simp) sc_put_in.nd) (gs_cons (g_name (by simp) sc_put_in.nd) gs_nil))))))
  (ss_cons (s_if (pt_dcmp (op_eqD hu) ok_eq (pd_call D_held_in hr hx (pa_dcons (pd_var 0) pa_dnil)) (pd_var 2) (nomark _)) (ss_one (s_raise1 (f1 := "word") rfl tk XNoPlace G.no_NoPlace_word hr (pa_dcons (pd_str "full") pa_dnil))) ss_nil)
  (ss_one (s_ret (pd_tup (pa_dcons (pd_var 2) (pa_dcons (pd_callD D_count_on hr hx (pa_dcons (pd_var 3) (pa_dcons (pd_var 2) pa_dnil))) (pa_dcons (pd_var 4) (pa_dcons (pd_call D_laid hr hx (pa_dcons (pd_var 5) (pa_dcons (pd_op op_mod ok_mod (pd_var 3) (pd_var 2)) (pa_dcons (pd_var 1) pa_dnil)))) pa_dnil)))))))))
abbrev s_take_out : Stmt := top 35
theorem sc_take_out : FnScope ["ring", "size", "made", "done", "things"] ["ring"] (defScope s_take_out) := ⟨rfl, rfl, rfl, by decide +kernel, rfl, by decide +kernel, by decide +kernel⟩
theorem ok_take_out (G : Gs K mg) (F : ∃ fd, FnP K "take_out" s_take_out [] (fA K "take_out") fd) (hm : mg "take_out" = some (.ref (fA K "take_out"))) (D_count_on : DfD P w K mg base T 1 "count_on" 3 [.int 1] f_count_on) (D_held_in : Df P w K mg base T 2 "held_in" 1 f_held_in) (D_laid : Df P w K mg base T 1 "laid" 3 f_laid) (XNoPlace : ExK P w K mg base 1 "NoPlace" (spX1 K (cA K "NoPlace") "word")) : Df P w K mg base T 3 "take_out" 1 f_take_out := by
  obtain ⟨fd, F⟩ := F
  refine df_of hm F sc_take_out rfl (fun _ _ _ _ _ _ us hl => match us, hl with | [_], _ => rfl) ?_
  intro f cdv A outer s H E hr tk hp
  have hx := fun σ => passAt tk σ
  have hu := hr.units
  have hu0 := hr.units0
  have hu1 := u1 hr
  exact (ss_cons (s_asg (vs := [1, 2, 3, 4]) (pd_var 0) (g_tup rfl (gs_cons (g_name (by simp) sc_take_out.nd) (gs_cons (g_name (by simp) sc_take_out.nd) (gs_cons (g_name (by simp) sc_take_out.nd) (gs_cons (g_name (by simp) sc_take_out.nd) gs_nil))))))
  (ss_cons (s_if (pt_dcmp (op_eqD hu) ok_eq (pd_call D_held_in hr hx (pa_dcons (pd_var 0) pa_dnil)) pd_int (nomark _)) (ss_one (s_raise1 (f1 := "word") rfl tk XNoPlace G.no_NoPlace_word hr (pa_dcons (pd_str "void") pa_dnil))) ss_nil)
  (ss_one (s_ret (pd_tup (pa_dcons (pd_tup (pa_dcons (pd_var 1) (pa_dcons (pd_var 2) (pa_dcons (pd_callD D_count_on hr hx (pa_dcons (pd_var 3) (pa_dcons (pd_var 1) pa_dnil))) (pa_dcons (pd_call D_laid hr hx (pa_dcons (pd_var 4) (pa_dcons (pd_op op_mod ok_mod (pd_var 3) (pd_var 1)) (pa_dcons pd_non pa_dnil)))) pa_dnil))))) (pa_dcons (pd_ix (pd_var 4) (pd_op op_mod ok_mod (pd_var 3) (pd_var 1))) pa_dnil)))))))
abbrev s_void_lane : Stmt := top 47
theorem sc_void_lane : FnScope ["size"] ["size"] (defScope s_void_lane) := ⟨rfl, rfl, rfl, by decide +kernel, rfl, by decide +kernel, by decide +kernel⟩
theorem ok_void_lane (G : Gs K mg) (F : ∃ fd, FnP K "void_lane" s_void_lane [] (fA K "void_lane") fd) (hm : mg "void_lane" = some (.ref (fA K "void_lane"))) (D_void_ring : Df P w K mg base T 1 "void_ring" 1 f_void_ring) : Df P w K mg base T 2 "void_lane" 1 f_void_lane := by
  obtain ⟨fd, F⟩ := F
  refine df_of hm F sc_void_lane rfl (fun _ _ _ _ _ _ us hl => match us, hl with | [_], _ => rfl) ?_
  intro f cdv A outer s H E hr tk hp
  have hx := fun σ => passAt tk σ
  have hu := hr.units
  have hu0 := hr.units0
  have hu1 := u1 hr
  exact (ss_one (s_ret (pd_tup (pa_dcons (pd_call D_void_ring hr hx (pa_dcons (pd_var 0) pa_dnil)) (pa_dcons pd_int (pa_dcons pd_int (pa_dcons (pd_tup pa_dnil) (pa_dcons (pd_call D_void_ring hr hx (pa_dcons (pd_var 0) pa_dnil)) (pa_dcons (pd_tup pa_dnil) (pa_dcons pd_non (pa_dcons pd_bl pa_dnil)))))))))))
abbrev s_half_of : Stmt := top 48
theorem sc_half_of : FnScope ["half", "purse", "lanes", "size", "k"] ["half", "purse", "lanes", "size"] (defScope s_half_of) := ⟨rfl, rfl, rfl, by decide +kernel, rfl, by decide +kernel, by decide +kernel⟩
theorem ok_half_of (G : Gs K mg) (F : ∃ fd, FnP K "half_of" s_half_of [("purse", V.ref (cA K "PURSE")), ("lanes", V.int 2), ("size", V.int 4)] (fA K "half_of") fd) (hm : mg "half_of" = some (.ref (fA K "half_of"))) (D_void_lane : Df P w K mg base T 2 "void_lane" 1 f_void_lane) : DfK P w K mg base T 3 "half_of" 1 3 ["purse", "lanes", "size"] f_half_of := by
  obtain ⟨fd, F⟩ := F
  refine dfk_of hm F sc_half_of rfl rfl (fun _ _ _ _ _ _ us ws l1 l2 => match us, ws, l1, l2 with | [_], [_, _, _], _, _ => rfl) ?_
  intro f cdv A outer s H E hr tk hp
  have hx := fun σ => passAt tk σ
  have hu := hr.units
  have hu0 := hr.units0
  have hu1 := u1 hr
  exact (ss_one (s_ret (pd_tup (pa_dcons (pd_var 0) (pa_dcons (pd_callLT call_tuple_of okl_tup G.f_tuple (by decide +kernel) (pl_lc (own := [("k", 4)]) rfl sc_half_of.nd (i_rng1 G.f_range rfl (pa_dcons (pd_var 2) pa_dnil)) (blkOk_cl ["half", "purse", "lanes", "size", "k"] (defScope s_half_of) (by decide +kernel)) (fun _ _ _ _ _ => (g_name (by simp) sc_half_of.nd)) (fun _ _ _ _ _ => pts_dnil) (fun _ _ _ _ _ => (pd_call D_void_lane hr (fun σ => passF σ) (pa_dcons (pd_var 3) pa_dnil))))) (pa_dcons pd_pt0 (pa_dcons pd_pt0 (pa_dcons pd_pt0 (pa_dcons pd_pt0 (pa_dcons pd_pt0 (pa_dcons (pd_var 1) (pa_dcons pd_int pa_dnil))))))))))))
abbrev s_turned_at : Stmt := top 49
theorem sc_turned_at : FnScope ["thing", "at", "newer"] ["thing", "at", "newer"] (defScope s_turned_at) := ⟨rfl, rfl, rfl, by decide +kernel, rfl, by decide +kernel, by decide +kernel⟩
theorem ok_turned_at (G : Gs K mg) (F : ∃ fd, FnP K "turned_at" s_turned_at [] (fA K "turned_at") fd) (hm : mg "turned_at" = some (.ref (fA K "turned_at")))  : Df P w K mg base T 1 "turned_at" 3 f_turned_at := by
  obtain ⟨fd, F⟩ := F
  refine df_of hm F sc_turned_at rfl (fun _ _ _ _ _ _ us hl => match us, hl with | [_, _, _], _ => rfl) ?_
  intro f cdv A outer s H E hr tk hp
  have hx := fun σ => passAt tk σ
  have hu := hr.units
  have hu0 := hr.units0
  have hu1 := u1 hr
  exact (ss_one (s_ret (pd_op op_addA ok_add (pd_op op_addA ok_add (pd_sl (pd_var 0) q_none (q_some (pd_var 1))) (pd_tup (pa_dcons (pd_var 2) pa_dnil))) (pd_sl (pd_var 0) (q_some (pd_op op_addA ok_add (pd_var 1) pd_int)) q_none))))
abbrev s_lane_turned : Stmt := top 50
theorem sc_lane_turned : FnScope ["value", "lane", "at", "newer", "lanes"] ["value", "lane", "at", "newer"] (defScope s_lane_turned) := ⟨rfl, rfl, rfl, by decide +kernel, rfl, by decide +kernel, by decide +kernel⟩
theorem ok_lane_turned (G : Gs K mg) (F : ∃ fd, FnP K "lane_turned" s_lane_turned [] (fA K "lane_turned") fd) (hm : mg "lane_turned" = some (.ref (fA K "lane_turned"))) (D_turned_at : Df P w K mg base T 1 "turned_at" 3 f_turned_at) : Df P w K mg base T 2 "lane_turned" 4 f_lane_turned := by
  obtain ⟨fd, F⟩ := F
  refine df_of hm F sc_lane_turned rfl (fun _ _ _ _ _ _ us hl => match us, hl with | [_, _, _, _], _ => rfl) ?_
  intro f cdv A outer s H E hr tk hp
  have hx := fun σ => passAt tk σ
  have hu := hr.units
  have hu0 := hr.units0
  have hu1 := u1 hr
  exact (ss_cons (s_set sc_lane_turned.nd (pd_ix (pd_var 0) (pd_gint rfl G.i_LANES_AT)))
  (ss_one (s_ret (pd_call D_turned_at hr hx (pa_dcons (pd_var 0) (pa_dcons (pd_gint rfl G.i_LANES_AT) (pa_dcons (pd_call D_turned_at hr hx (pa_dcons (pd_var 4) (pa_dcons (pd_var 1) (pa_dcons (pd_call D_turned_at hr hx (pa_dcons (pd_ix (pd_var 4) (pd_var 1)) (pa_dcons (pd_var 2) (pa_dcons (pd_var 3) pa_dnil)))) pa_dnil)))) pa_dnil)))))))
abbrev s_by_talk : Stmt := top 51
theorem sc_by_talk : FnScope ["pairs", "talk", "lacking"] ["pairs", "talk", "lacking"] (defScope s_by_talk) := ⟨rfl, rfl, rfl, by decide +kernel, rfl, by decide +kernel, by decide +kernel⟩
theorem ok_by_talk (G : Gs K mg) (F : ∃ fd, FnP K "by_talk" s_by_talk [] (fA K "by_talk") fd) (hm : mg "by_talk" = some (.ref (fA K "by_talk")))  : Df P w K mg base T 1 "by_talk" 3 f_by_talk := by
  obtain ⟨fd, F⟩ := F
  refine df_of hm F sc_by_talk rfl (fun _ _ _ _ _ _ us hl => match us, hl with | [_, _, _], _ => rfl) ?_
  intro f cdv A outer s H E hr tk hp
  have hx := fun σ => passAt tk σ
  have hu := hr.units
  have hu0 := hr.units0
  have hu1 := u1 hr
  exact (ss_one (s_ret (pd_getN hu (pd_dictOf rfl hu G.f_dict (pd_var 0)) (pa_dcons (pd_var 1) (pa_dcons (pd_var 2) pa_dnil)))))
abbrev s_owns_it : Stmt := top 53
theorem sc_owns_it : FnScope ["value", "rights", "stretch"] ["value", "rights", "stretch"] (defScope s_owns_it) := ⟨rfl, rfl, rfl, by decide +kernel, rfl, by decide +kernel, by decide +kernel⟩
theorem ok_owns_it (G : Gs K mg) (F : ∃ fd, FnP K "owns_it" s_owns_it [] (fA K "owns_it") fd) (hm : mg "owns_it" = some (.ref (fA K "owns_it"))) (D_owns : Df P w K mg base T 1 "owns" 3 f_owns) : Df P w K mg base T 2 "owns_it" 3 f_owns_it := by
  obtain ⟨fd, F⟩ := F
  refine df_of hm F sc_owns_it rfl (fun _ _ _ _ _ _ us hl => match us, hl with | [_, _, _], _ => rfl) ?_
  intro f cdv A outer s H E hr tk hp
  have hx := fun σ => passAt tk σ
  have hu := hr.units
  have hu0 := hr.units0
  have hu1 := u1 hr
  exact (ss_one (s_ret (pd_call D_owns hr hx (pa_dcons (pd_var 1) (pa_dcons (pd_ix (pd_ix (pd_var 0) (pd_gint rfl G.i_HALF_AT)) pd_int) (pa_dcons (pd_var 2) pa_dnil))))))
end
end Dt
namespace Dt
open PySem PySem.Spec PyProof.Rows L2
section
variable {P : Program} {w : World} {K : PySem.W.Frag} {mg : Str → Option Value} {base : Heap} {T : List (Addr × Str)}
abbrev s_page_at : Stmt := top 55
theorem sc_page_at : FnScope ["memory", "stretch"] ["memory", "stretch"] (defScope s_page_at) := ⟨rfl, rfl, rfl, by decide +kernel, rfl, by decide +kernel, by decide +kernel⟩
theorem ok_page_at (G : Gs K mg) (F : ∃ fd, FnP K "page_at" s_page_at [] (fA K "page_at") fd) (hm : mg "page_at" = some (.ref (fA K "page_at"))) (XNoStep : ExK P w K mg base 1 "NoStep" (spX1 K (cA K "NoStep") "word")) : Df P w K mg base T 3 "page_at" 2 f_page_at := by
  obtain ⟨fd, F⟩ := F
  refine df_of hm F sc_page_at rfl (fun _ _ _ _ _ _ us hl => match us, hl with | [_, _], _ => rfl) ?_
  intro f cdv A outer s H E hr tk hp
  have hx := fun σ => passAt tk σ
  have hu := hr.units
  have hu0 := hr.units0
  have hu1 := u1 hr
  exact (ss_cons (s_if (pt_dcmp op_ge ok_ge (pd_ix (pd_var 1) pd_int) (pd_callB call_len okn_len G.f_len (by decide +kernel) (pa_dcons (pd_var 0) pa_dnil)) (nomark _)) (ss_one (s_raise1 (f1 := "word") rfl tk XNoStep G.no_NoStep_word hr (pa_dcons (pd_str "page") pa_dnil))) ss_nil)
  (ss_one (s_ret (pd_ix (pd_var 0) (pd_ix (pd_var 1) pd_int)))))
abbrev s_words_at : Stmt := top 56
theorem sc_words_at : FnScope ["memory", "stretch", "page", "at", "many"] ["memory", "stretch"] (defScope s_words_at) := ⟨rfl, rfl, rfl, by decide +kernel, rfl, by decide +kernel, by decide +kernel⟩
theorem ok_words_at (G : Gs K mg) (F : ∃ fd, FnP K "words_at" s_words_at [] (fA K "words_at") fd) (hm : mg "words_at" = some (.ref (fA K "words_at"))) (D_page_at : Df P w K mg base T 3 "page_at" 2 f_page_at) : Df P w K mg base T 4 "words_at" 2 f_words_at := by
  obtain ⟨fd, F⟩ := F
  refine df_of hm F sc_words_at rfl (fun _ _ _ _ _ _ us hl => match us, hl with | [_, _], _ => rfl) ?_
  intro f cdv A outer s H E hr tk hp
  have hx := fun σ => passAt tk σ
  have hu := hr.units
  have hu0 := hr.units0
  have hu1 := u1 hr
  exact (ss_cons (s_asg (vs := [2, 3, 4]) (pd_var 1) (g_tup rfl (gs_cons (g_name (by simp) sc_words_at.nd) (gs_cons (g_name (by simp) sc_words_at.nd) (gs_cons (g_name (by simp) sc_words_at.nd) gs_nil)))))
  (ss_one (s_ret (pd_sl (pd_call D_page_at hr hx (pa_dcons (pd_var 0) (pa_dcons (pd_var 1) pa_dnil))) (q_some (pd_var 3)) (q_some (pd_op op_addA ok_add (pd_var 3) (pd_var 4)))))))
abbrev s_written : Stmt := top 57
theorem sc_written : FnScope ["memory", "stretch", "words", "number", "at", "many", "page"] ["memory", "stretch", "words"] (defScope s_written) := ⟨rfl, rfl, rfl, by decide +kernel, rfl, by decide +kernel, by decide +kernel⟩
theorem ok_written (G : Gs K mg) (F : ∃ fd, FnP K "written" s_written [] (fA K "written") fd) (hm : mg "written" = some (.ref (fA K "written"))) (D_page_at : Df P w K mg base T 3 "page_at" 2 f_page_at) (XNoStep : ExK P w K mg base 1 "NoStep" (spX1 K (cA K "NoStep") "word")) : Df P w K mg base T 4 "written" 3 f_written := by
  obtain ⟨fd, F⟩ := F
  refine df_of hm F sc_written rfl (fun _ _ _ _ _ _ us hl => match us, hl with | [_, _, _], _ => rfl) ?_
  intro f cdv A outer s H E hr tk hp
  have hx := fun σ => passAt tk σ
  have hu := hr.units
  have hu0 := hr.units0
  have hu1 := u1 hr
  exact (ss_cons (s_asg (vs := [3, 4, 5]) (pd_var 1) (g_tup rfl (gs_cons (g_name (by simp) sc_written.nd) (gs_cons (g_name (by simp) sc_written.nd) (gs_cons (g_name (by simp) sc_written.nd) gs_nil)))))
  (ss_cons (s_set sc_written.nd (pd_call D_page_at hr hx (pa_dcons (pd_var 0) (pa_dcons (pd_var 1) pa_dnil))))
  (ss_cons (s_if (pt_dcmp op_gt ok_gt (pd_callB call_len okn_len G.f_len (by decide +kernel) (pa_dcons (pd_var 2) pa_dnil)) (pd_var 5) (nomark _)) (ss_one (s_raise1 (f1 := "word") rfl tk XNoStep G.no_NoStep_word hr (pa_dcons (pd_str "many") pa_dnil))) ss_nil)
  (ss_one (s_ret (pd_op op_addA ok_add (pd_op op_addA ok_add (pd_sl (pd_var 0) q_none (q_some (pd_var 3))) (pd_tup (pa_dcons (pd_op op_addA ok_add (pd_op op_addA ok_add (pd_sl (pd_var 6) q_none (q_some (pd_var 4))) (pd_var 2)) (pd_sl (pd_var 6) (q_some (pd_op op_addA ok_add (pd_var 4) (pd_callB call_len okn_len G.f_len (by decide +kernel) (pa_dcons (pd_var 2) pa_dnil)))) q_none)) pa_dnil))) (pd_sl (pd_var 0) (q_some (pd_op op_addA ok_add (pd_var 3) pd_int)) q_none)))))))
abbrev s_is_due : Stmt := top 62
theorem sc_is_due : FnScope ["lane", "clock", "bounds", "many", "since", "masked", "most", "wait"] ["lane", "clock", "bounds"] (defScope s_is_due) := ⟨rfl, rfl, rfl, by decide +kernel, rfl, by decide +kernel, by decide +kernel⟩
theorem ok_is_due (G : Gs K mg) (F : ∃ fd, FnP K "is_due" s_is_due [] (fA K "is_due") fd) (hm : mg "is_due" = some (.ref (fA K "is_due")))  : Df P w K mg base T 1 "is_due" 3 f_is_due := by
  obtain ⟨fd, F⟩ := F
  refine df_of hm F sc_is_due rfl (fun _ _ _ _ _ _ us hl => match us, hl with | [_, _, _], _ => rfl) ?_
  intro f cdv A outer s H E hr tk hp
  have hx := fun σ => passAt tk σ
  have hu := hr.units
  have hu0 := hr.units0
  have hu1 := u1 hr
  exact (ss_cons (s_asg (vs := [3, 4, 5]) (pd_var 0) (g_tup rfl (gs_cons (g_name (by simp) sc_is_due.nd) (gs_cons (g_name (by simp) sc_is_due.nd) (gs_cons (g_name (by simp) sc_is_due.nd) gs_nil)))))
  (ss_cons (s_asg (vs := [6, 7]) (pd_var 2) (g_tup rfl (gs_cons (g_name (by simp) sc_is_due.nd) (gs_cons (g_name (by simp) sc_is_due.nd) gs_nil))))
  (ss_one (s_ret (pd_and (pd_not (pd_var 5)) (pd_and (pd_cmp op_gt ok_gt (pd_var 3) pd_int (nomark _)) (pd_one (pd_or (pd_cmp op_ge ok_ge (pd_var 3) (pd_var 6) (nomark _)) (pd_one (pd_cmp op_ge ok_ge (pd_op op_sub ok_sub (pd_var 1) (pd_var 4)) (pd_var 7) (nomark _)))))))))))
abbrev s_befell : Stmt := top 63
theorem sc_befell : FnScope ["lane", "row", "many", "since", "masked", "word", "clock", "taken"] ["lane", "row"] (defScope s_befell) := ⟨rfl, rfl, rfl, by decide +kernel, rfl, by decide +kernel, by decide +kernel⟩
theorem ok_befell (G : Gs K mg) (F : ∃ fd, FnP K "befell" s_befell [] (fA K "befell") fd) (hm : mg "befell" = some (.ref (fA K "befell")))  : Df P w K mg base T 1 "befell" 2 f_befell := by
  obtain ⟨fd, F⟩ := F
  refine df_of hm F sc_befell rfl (fun _ _ _ _ _ _ us hl => match us, hl with | [_, _], _ => rfl) ?_
  intro f cdv A outer s H E hr tk hp
  have hx := fun σ => passAt tk σ
  have hu := hr.units
  have hu0 := hr.units0
  have hu1 := u1 hr
  exact (ss_cons (s_asg (vs := [2, 3, 4]) (pd_var 0) (g_tup rfl (gs_cons (g_name (by simp) sc_befell.nd) (gs_cons (g_name (by simp) sc_befell.nd) (gs_cons (g_name (by simp) sc_befell.nd) gs_nil)))))
  (ss_cons (s_asg (vs := [5, 6, 7]) (pd_var 1) (g_tup rfl (gs_cons (g_name (by simp) sc_befell.nd) (gs_cons (g_name (by simp) sc_befell.nd) (gs_cons (g_name (by simp) sc_befell.nd) gs_nil)))))
  (ss_cons (s_if (pt_dcmp (op_eqD hu) ok_eq (pd_var 5) (pd_str "fill") (nomark _)) (ss_one (s_ret (pd_tup (pa_dcons (pd_op op_addA ok_add (pd_var 2) pd_int) (pa_dcons (pd_if (pt_dcmp (op_eqD hu) ok_eq (pd_var 2) pd_int (nomark _)) (pd_var 6) (pd_var 3)) (pa_dcons (pd_var 4) pa_dnil)))))) ss_nil)
  (ss_cons (s_if (pt_dcmp (op_eqD hu) ok_eq (pd_var 5) (pd_str "poll") (nomark _)) (ss_one (s_ret (pd_tup (pa_dcons (pd_op op_sub ok_sub (pd_var 2) (pd_var 7)) (pa_dcons (pd_if (pt_dcmp (op_eqD hu) ok_eq (pd_var 2) (pd_var 7) (nomark _)) pd_non (pd_var 3)) (pa_dcons (pd_var 4) pa_dnil)))))) ss_nil)
  (ss_cons (s_if (pw_dand (pt_dcmp (op_eqD hu) ok_eq (pd_var 5) (pd_str "unmask") (nomark _)) (pw_dand1 (pt_dval (pd_var 4)))).pt (ss_one (s_ret (pd_tup (pa_dcons (pd_var 2) (pa_dcons (pd_if (pt_dcmp op_gt ok_gt (pd_var 2) pd_int (nomark _)) (pd_var 6) pd_non) (pa_dcons pd_bl pa_dnil)))))) ss_nil)
  (ss_one (s_ret (pd_if (pt_dcmp (op_eqD hu) ok_eq (pd_var 5) (pd_str "raise") (nomark _)) (pd_tup (pa_dcons (pd_var 2) (pa_dcons (pd_var 3) (pa_dcons pd_bl pa_dnil)))) (pd_var 0)))))))))
abbrev s_is_due_behind : Stmt := top 64
theorem sc_is_due_behind : FnScope ["lane", "row", "bounds"] ["lane", "row", "bounds"] (defScope s_is_due_behind) := ⟨rfl, rfl, rfl, by decide +kernel, rfl, by decide +kernel, by decide +kernel⟩
theorem ok_is_due_behind (G : Gs K mg) (F : ∃ fd, FnP K "is_due_behind" s_is_due_behind [] (fA K "is_due_behind") fd) (hm : mg "is_due_behind" = some (.ref (fA K "is_due_behind"))) (D_is_due : Df P w K mg base T 1 "is_due" 3 f_is_due) : Df P w K mg base T 2 "is_due_behind" 3 f_is_due_behind := by
  obtain ⟨fd, F⟩ := F
  refine df_of hm F sc_is_due_behind rfl (fun _ _ _ _ _ _ us hl => match us, hl with | [_, _, _], _ => rfl) ?_
  intro f cdv A outer s H E hr tk hp
  have hx := fun σ => passAt tk σ
  have hu := hr.units
  have hu0 := hr.units0
  have hu1 := u1 hr
  exact (ss_one (s_ret (pd_and (pd_cmp op_in_seq (ok_in false) (pd_ix (pd_var 1) pd_int) (pd_tup (pa_dcons (pd_str "fill") (pa_dcons (pd_str "unmask") (pa_dcons (pd_str "tick") pa_dnil)))) rfl) (pd_one (pd_call D_is_due hr hx (pa_dcons (pd_var 0) (pa_dcons (pd_ix (pd_var 1) pd_int) (pa_dcons (pd_var 2) pa_dnil))))))))
abbrev s_wake_log : Stmt := top 65
theorem sc_wake_log : FnScope ["rows", "most", "wait", "lane", "found", "row"] ["rows", "most", "wait"] (defScope s_wake_log) := ⟨rfl, rfl, rfl, by decide +kernel, rfl, by decide +kernel, by decide +kernel⟩
theorem ok_wake_log (G : Gs K mg) (F : ∃ fd, FnP K "wake_log" s_wake_log [("most", V.int 2), ("wait", V.int 4)] (fA K "wake_log") fd) (hm : mg "wake_log" = some (.ref (fA K "wake_log"))) (D_befell : Df P w K mg base T 1 "befell" 2 f_befell) (D_is_due_behind : Df P w K mg base T 2 "is_due_behind" 3 f_is_due_behind) : DfK P w K mg base T 3 "wake_log" 1 2 ["most", "wait"] f_wake_log := by
  obtain ⟨fd, F⟩ := F
  refine dfk_of hm F sc_wake_log rfl rfl (fun _ _ _ _ _ _ us ws l1 l2 => match us, ws, l1, l2 with | [_], [_, _], _, _ => rfl) ?_
  intro f cdv A outer s H E hr tk hp
  have hx := fun σ => passAt tk σ
  have hu := hr.units
  have hu0 := hr.units0
  have hu1 := u1 hr
  exact (ss_cons (s_par rfl sc_wake_log.nd (pa_dcons (pd_gref rfl G.t_BEGINNING G.r_BEGINNING) (pa_dcons (pd_reg (pl_disp pa_dnil)) pa_dnil)))
  (ss_cons (s_for (vs := [5]) hp rfl (i_tup (pd_var 0)) (g_name (by simp) sc_wake_log.nd) (ss_cons (s_set sc_wake_log.nd (pd_call D_befell hr hx (pa_dcons (pd_var 3) (pa_dcons (pd_var 5) pa_dnil))))
  (ss_cons (s_expr (pd_append (pd_var 4) (pa_dcons (pd_var 5) pa_dnil)))
  (ss_one (s_if (pt_dval (pd_call D_is_due_behind hr hx (pa_dcons (pd_var 3) (pa_dcons (pd_var 5) (pa_dcons (pd_tup (pa_dcons (pd_var 1) (pa_dcons (pd_var 2) pa_dnil))) pa_dnil))))) (ss_cons (s_expr (pd_append (pd_var 4) (pa_dcons (pd_tup (pa_dcons (pd_str "raise") (pa_dcons (pd_ix (pd_var 5) pd_int) (pa_dcons pd_int pa_dnil)))) pa_dnil)))
  (ss_one (s_set sc_wake_log.nd (pd_call D_befell hr hx (pa_dcons (pd_var 3) (pa_dcons (pd_ix (pd_var 4) (pd_un un_neg ok_neg pd_int)) pa_dnil)))))) ss_nil)))))
  (ss_one (s_ret (pd_callTy call_tuple_of okn_tup G.f_tuple (by decide +kernel) (pa_dcons (pd_var 4) pa_dnil))))))
abbrev s_whys : Stmt := top 66
theorem sc_whys : FnScope ["rows", "most", "wait", "lane", "found", "row"] ["rows", "most", "wait"] (defScope s_whys) := ⟨rfl, rfl, rfl, by decide +kernel, rfl, by decide +kernel, by decide +kernel⟩
theorem ok_whys (G : Gs K mg) (F : ∃ fd, FnP K "whys" s_whys [("most", V.int 2), ("wait", V.int 4)] (fA K "whys") fd) (hm : mg "whys" = some (.ref (fA K "whys"))) (D_befell : Df P w K mg base T 1 "befell" 2 f_befell) : DfK P w K mg base T 2 "whys" 1 2 ["most", "wait"] f_whys := by
  obtain ⟨fd, F⟩ := F
  refine dfk_of hm F sc_whys rfl rfl (fun _ _ _ _ _ _ us ws l1 l2 => match us, ws, l1, l2 with | [_], [_, _], _, _ => rfl) ?_
  intro f cdv A outer s H E hr tk hp
  have hx := fun σ => passAt tk σ
  have hu := hr.units
  have hu0 := hr.units0
  have hu1 := u1 hr
  exact (ss_cons (s_par rfl sc_whys.nd (pa_dcons (pd_gref rfl G.t_BEGINNING G.r_BEGINNING) (pa_dcons (pd_reg (pl_disp pa_dnil)) pa_dnil)))
  (ss_cons (s_for (vs := [5]) hp rfl (i_tup (pd_var 0)) (g_name (by simp) sc_whys.nd) (ss_cons (s_if (pt_dcmp (op_eqD hu) ok_eq (pd_ix (pd_var 5) pd_int) (pd_str "raise") (nomark _)) (ss_one (s_expr (pd_append (pd_var 4) (pa_dcons (pd_if (pt_dcmp op_ge ok_ge (pd_ix (pd_var 3) pd_int) (pd_var 1) (nomark _)) (pd_tup (pa_dcons (pd_str "most") (pa_dcons (pd_ix (pd_var 3) pd_int) pa_dnil))) (pd_tup (pa_dcons (pd_str "wait") (pa_dcons (pd_op op_sub ok_sub (pd_ix (pd_var 5) pd_int) (pd_ix (pd_var 3) pd_int)) pa_dnil)))) pa_dnil)))) ss_nil)
  (ss_one (s_set sc_whys.nd (pd_call D_befell hr hx (pa_dcons (pd_var 3) (pa_dcons (pd_var 5) pa_dnil)))))))
  (ss_one (s_ret (pd_callTy call_tuple_of okn_tup G.f_tuple (by decide +kernel) (pa_dcons (pd_var 4) pa_dnil))))))
abbrev s_look_at_lane : Stmt := top 68
theorem sc_look_at_lane : FnScope ["value", "lane", "clock", "bounds", "own"] ["value", "lane", "clock", "bounds"] (defScope s_look_at_lane) := ⟨rfl, rfl, rfl, by decide +kernel, rfl, by decide +kernel, by decide +kernel⟩
theorem ok_look_at_lane (G : Gs K mg) (F : ∃ fd, FnP K "look_at_lane" s_look_at_lane [] (fA K "look_at_lane") fd) (hm : mg "look_at_lane" = some (.ref (fA K "look_at_lane"))) (D_lane_turned : Df P w K mg base T 2 "lane_turned" 4 f_lane_turned) (D_is_due : Df P w K mg base T 1 "is_due" 3 f_is_due) : Df P w K mg base T 3 "look_at_lane" 4 f_look_at_lane := by
  obtain ⟨fd, F⟩ := F
  refine df_of hm F sc_look_at_lane rfl (fun _ _ _ _ _ _ us hl => match us, hl with | [_, _, _, _], _ => rfl) ?_
  intro f cdv A outer s H E hr tk hp
  have hx := fun σ => passAt tk σ
  have hu := hr.units
  have hu0 := hr.units0
  have hu1 := u1 hr
  exact (ss_cons (s_set sc_look_at_lane.nd (pd_ix (pd_ix (pd_var 0) (pd_gint rfl G.i_LANES_AT)) (pd_var 1)))
  (ss_cons (s_if (pt_dnot (pt_dval (pd_call D_is_due hr hx (pa_dcons (pd_tup (pa_dcons (pd_callB call_len okn_len G.f_len (by decide +kernel) (pa_dcons (pd_ix (pd_var 4) (pd_gint rfl G.i_BOX_AT)) pa_dnil)) (pa_dcons (pd_ix (pd_var 4) (pd_gint rfl G.i_SINCE_AT)) (pa_dcons (pd_ix (pd_var 4) (pd_gint rfl G.i_MASKED_AT)) pa_dnil)))) (pa_dcons (pd_var 2) (pa_dcons (pd_var 3) pa_dnil)))))) (ss_one (s_ret (pd_tup (pa_dcons (pd_var 0) (pa_dcons (pd_tup pa_dnil) pa_dnil))))) ss_nil)
  (ss_one (s_ret (pd_tup (pa_dcons (pd_call D_lane_turned hr hx (pa_dcons (pd_var 0) (pa_dcons (pd_var 1) (pa_dcons (pd_gint rfl G.i_MASKED_AT) (pa_dcons pd_bl pa_dnil))))) (pa_dcons (pd_tup (pa_dcons (pd_tup (pa_dcons (pd_str "raised") (pa_dcons (pd_ix (pd_var 0) (pd_gint rfl G.i_HALF_AT)) (pa_dcons (pd_var 1) (pa_dcons (pd_var 2) pa_dnil))))) pa_dnil)) pa_dnil)))))))
abbrev s_polled : Stmt := top 69
theorem sc_polled : FnScope ["value", "memory", "lane", "budget", "own", "taken", "left", "later", "half", "one"] ["value", "memory", "lane", "budget"] (defScope s_polled) := ⟨rfl, rfl, rfl, by decide +kernel, rfl, by decide +kernel, by decide +kernel⟩
theorem ok_polled (G : Gs K mg) (F : ∃ fd, FnP K "polled" s_polled [] (fA K "polled") fd) (hm : mg "polled" = some (.ref (fA K "polled"))) (D_lane_turned : Df P w K mg base T 2 "lane_turned" 4 f_lane_turned) (D_words_at : Df P w K mg base T 4 "words_at" 2 f_words_at) : Df P w K mg base T 5 "polled" 4 f_polled := by
  obtain ⟨fd, F⟩ := F
  refine df_of hm F sc_polled rfl (fun _ _ _ _ _ _ us hl => match us, hl with | [_, _, _, _], _ => rfl) ?_
  intro f cdv A outer s H E hr tk hp
  have hx := fun σ => passAt tk σ
  have hu := hr.units
  have hu0 := hr.units0
  have hu1 := u1 hr
  exact (ss_cons (s_set sc_polled.nd (pd_ix (pd_ix (pd_var 0) (pd_gint rfl G.i_LANES_AT)) (pd_var 2)))
  (ss_cons (s_par rfl sc_polled.nd (pa_dcons (pd_sl (pd_ix (pd_var 4) (pd_gint rfl G.i_BOX_AT)) q_none (q_some (pd_var 3))) (pa_dcons (pd_sl (pd_ix (pd_var 4) (pd_gint rfl G.i_BOX_AT)) (q_some (pd_var 3)) q_none) pa_dnil)))
  (ss_cons (s_set sc_polled.nd (pd_call D_lane_turned hr hx (pa_dcons (pd_var 0) (pa_dcons (pd_var 2) (pa_dcons (pd_gint rfl G.i_BOX_AT) (pa_dcons (pd_var 6) pa_dnil))))))
  (ss_cons (s_if (pt_dcmp (op_eqD hu) ok_eq (pd_var 6) (pd_tup pa_dnil) (nomark _)) (ss_one (s_set sc_polled.nd (pd_call D_lane_turned hr hx (pa_dcons (pd_var 7) (pa_dcons (pd_var 2) (pa_dcons (pd_gint rfl G.i_SINCE_AT) (pa_dcons pd_non pa_dnil))))))) ss_nil)
  (ss_cons (s_set sc_polled.nd (pd_ix (pd_var 0) (pd_gint rfl G.i_HALF_AT)))
  (ss_one (s_ret (pd_tup (pa_dcons (pd_var 7) (pa_dcons (pd_var 1) (pa_dcons (pd_callLT call_tuple_of okl_tup G.f_tuple (by decide +kernel) (pl_lc (own := [("one", 9)]) rfl sc_polled.nd (i_tup (pd_var 5)) (blkOk_cl ["value", "memory", "lane", "budget", "own", "taken", "left", "later", "half", "one"] (defScope s_polled) (by decide +kernel)) (fun _ _ _ _ _ => (g_name (by simp) sc_polled.nd)) (fun _ _ _ _ _ => pts_dnil) (fun _ _ _ _ _ => (pd_tup (pa_dcons (pd_str "took") (pa_dcons (pd_var 8) (pa_dcons (pd_var 2) (pa_dcons (pd_var 9) (pa_dcons (pd_call D_words_at hr (fun σ => passF σ) (pa_dcons (pd_var 1) (pa_dcons (pd_ix (pd_var 9) pd_int) pa_dnil))) pa_dnil))))))))) pa_dnil)))))))))))
abbrev s_unmasked : Stmt := top 70
theorem sc_unmasked : FnScope ["value", "memory", "lane", "clock", "most", "wait", "own", "later", "events"] ["value", "memory", "lane", "clock", "most", "wait"] (defScope s_unmasked) := ⟨rfl, rfl, rfl, by decide +kernel, rfl, by decide +kernel, by decide +kernel⟩
theorem ok_unmasked (G : Gs K mg) (F : ∃ fd, FnP K "unmasked" s_unmasked [("most", V.int 2), ("wait", V.int 4)] (fA K "unmasked") fd) (hm : mg "unmasked" = some (.ref (fA K "unmasked"))) (D_lane_turned : Df P w K mg base T 2 "lane_turned" 4 f_lane_turned) (D_look_at_lane : Df P w K mg base T 3 "look_at_lane" 4 f_look_at_lane) : DfK P w K mg base T 4 "unmasked" 3 3 ["clock", "most", "wait"] f_unmasked := by
  obtain ⟨fd, F⟩ := F
  refine dfk_of hm F sc_unmasked rfl rfl (fun _ _ _ _ _ _ us ws l1 l2 => match us, ws, l1, l2 with | [_, _, _], [_, _, _], _, _ => rfl) ?_
  intro f cdv A outer s H E hr tk hp
  have hx := fun σ => passAt tk σ
  have hu := hr.units
  have hu0 := hr.units0
  have hu1 := u1 hr
  exact (ss_cons (s_par rfl sc_unmasked.nd (pa_dcons (pd_ix (pd_ix (pd_var 0) (pd_gint rfl G.i_LANES_AT)) (pd_var 2)) (pa_dcons (pd_var 0) pa_dnil)))
  (ss_cons (s_if (pt_dval (pd_ix (pd_var 6) (pd_gint rfl G.i_MASKED_AT))) (ss_cons (s_set sc_unmasked.nd (pd_call D_lane_turned hr hx (pa_dcons (pd_var 7) (pa_dcons (pd_var 2) (pa_dcons (pd_gint rfl G.i_MASKED_AT) (pa_dcons pd_bl pa_dnil))))))
  (ss_one (s_set sc_unmasked.nd (pd_call D_lane_turned hr hx (pa_dcons (pd_var 7) (pa_dcons (pd_var 2) (pa_dcons (pd_gint rfl G.i_SINCE_AT) (pa_dcons (pd_if (pt_dcmp (op_eqD hu) ok_eq (pd_ix (pd_var 6) (pd_gint rfl G.i_BOX_AT)) (pd_tup pa_dnil) (nomark _)) pd_non (pd_var 3)) pa_dnil)))))))) ss_nil)
  (ss_cons (s_asg (vs := [7, 8]) (pd_call D_look_at_lane hr hx (pa_dcons (pd_var 7) (pa_dcons (pd_var 2) (pa_dcons (pd_var 3) (pa_dcons (pd_tup (pa_dcons (pd_var 4) (pa_dcons (pd_var 5) pa_dnil))) pa_dnil))))) (g_tup rfl (gs_cons (g_name (by simp) sc_unmasked.nd) (gs_cons (g_name (by simp) sc_unmasked.nd) gs_nil))))
  (ss_one (s_ret (pd_tup (pa_dcons (pd_var 7) (pa_dcons (pd_var 1) (pa_dcons (pd_op op_addA ok_add (pd_tup (pa_dcons (pd_tup (pa_dcons (pd_str "unmasked") (pa_dcons (pd_ix (pd_var 0) (pd_gint rfl G.i_HALF_AT)) (pa_dcons (pd_var 2) pa_dnil)))) pa_dnil)) (pd_var 8)) pa_dnil)))))))))
abbrev s_ticked : Stmt := top 71
theorem sc_ticked : FnScope ["value", "memory", "clock", "most", "wait", "later", "events", "lane", "more"] ["value", "memory", "clock", "most", "wait"] (defScope s_ticked) := ⟨rfl, rfl, rfl, by decide +kernel, rfl, by decide +kernel, by decide +kernel⟩
theorem ok_ticked (G : Gs K mg) (F : ∃ fd, FnP K "ticked" s_ticked [("most", V.int 2), ("wait", V.int 4)] (fA K "ticked") fd) (hm : mg "ticked" = some (.ref (fA K "ticked"))) (D_purse_filled : DfD P w K mg base T 4 "purse_filled" 2 [.int 1] f_purse_filled) (D_turned_at : Df P w K mg base T 1 "turned_at" 3 f_turned_at) (D_look_at_lane : Df P w K mg base T 3 "look_at_lane" 4 f_look_at_lane) : DfK P w K mg base T 5 "ticked" 2 3 ["clock", "most", "wait"] f_ticked := by
  obtain ⟨fd, F⟩ := F
  refine dfk_of hm F sc_ticked rfl rfl (fun _ _ _ _ _ _ us ws l1 l2 => match us, ws, l1, l2 with | [_, _], [_, _, _], _, _ => rfl) ?_
  intro f cdv A outer s H E hr tk hp
  have hx := fun σ => passAt tk σ
  have hu := hr.units
  have hu0 := hr.units0
  have hu1 := u1 hr
  exact (ss_cons (s_par rfl sc_ticked.nd (pa_dcons (pd_call D_turned_at hr hx (pa_dcons (pd_var 0) (pa_dcons (pd_gint rfl G.i_PURSE_AT) (pa_dcons (pd_callD D_purse_filled hr hx (pa_dcons (pd_ix (pd_var 0) (pd_gint rfl G.i_PURSE_AT)) pa_dnil)) pa_dnil)))) (pa_dcons (pd_tup pa_dnil) pa_dnil)))
  (ss_cons (s_for (vs := [7]) hp rfl (i_rng1 G.f_range rfl (pa_dcons (pd_callB call_len okn_len G.f_len (by decide +kernel) (pa_dcons (pd_ix (pd_var 0) (pd_gint rfl G.i_LANES_AT)) pa_dnil)) pa_dnil)) (g_name (by simp) sc_ticked.nd) (ss_cons (s_asg (vs := [5, 8]) (pd_call D_look_at_lane hr hx (pa_dcons (pd_var 5) (pa_dcons (pd_var 7) (pa_dcons (pd_var 2) (pa_dcons (pd_tup (pa_dcons (pd_var 3) (pa_dcons (pd_var 4) pa_dnil))) pa_dnil))))) (g_tup rfl (gs_cons (g_name (by simp) sc_ticked.nd) (gs_cons (g_name (by simp) sc_ticked.nd) gs_nil))))
  (ss_one (s_set sc_ticked.nd (pd_op op_addA ok_add (pd_var 6) (pd_var 8))))))
  (ss_one (s_ret (pd_tup (pa_dcons (pd_var 5) (pa_dcons (pd_var 1) (pa_dcons (pd_var 6) pa_dnil))))))))
end
end Dt
namespace Dt
open PySem PySem.Spec PyProof.Rows L2
section
variable {P : Program} {w : World} {K : PySem.W.Frag} {mg : Str → Option Value} {base : Heap} {T : List (Addr × Str)}
abbrev s_sum_due : Stmt := top 75
theorem sc_sum_due : FnScope ["piece", "epoch", "talk", "number", "part", "parts", "words", "given", "row", "k", "one"] ["piece"] (defScope s_sum_due) := ⟨rfl, rfl, rfl, by decide +kernel, rfl, by decide +kernel, by decide +kernel⟩
theorem ok_sum_due (G : Gs K mg) (F : ∃ fd, FnP K "sum_due" s_sum_due [] (fA K "sum_due") fd) (hm : mg "sum_due" = some (.ref (fA K "sum_due")))  : Df P w K mg base T 1 "sum_due" 1 f_sum_due := by
  obtain ⟨fd, F⟩ := F
  refine df_of hm F sc_sum_due rfl (fun _ _ _ _ _ _ us hl => match us, hl with | [_], _ => rfl) ?_
  intro f cdv A outer s H E hr tk hp
  have hx := fun σ => passAt tk σ
  have hu := hr.units
  have hu0 := hr.units0
  have hu1 := u1 hr
  exact (ss_cons (s_asg (vs := [1, 2, 3, 4, 5, 6, 7]) (pd_var 0) (g_tup rfl (gs_cons (g_name (by simp) sc_sum_due.nd) (gs_cons (g_name (by simp) sc_sum_due.nd) (gs_cons (g_name (by simp) sc_sum_due.nd) (gs_cons (g_name (by simp) sc_sum_due.nd) (gs_cons (g_name (by simp) sc_sum_due.nd) (gs_cons (g_name (by simp) sc_sum_due.nd) (gs_cons (g_name (by simp) sc_sum_due.nd) gs_nil)))))))))
  (ss_cons (s_set sc_sum_due.nd (pd_op op_addA ok_add (pd_tup (pa_dcons (pd_var 1) (pa_dcons (pd_var 3) (pa_dcons (pd_var 4) (pa_dcons (pd_var 5) pa_dnil))))) (pd_var 6)))
  (ss_one (s_ret (pd_op op_mod ok_mod (pd_callL (cr_sum rfl) okl_sum G.f_sum (by decide +kernel) (pl_lc (own := [("k", 9), ("one", 10)]) rfl sc_sum_due.nd (i_enumK G.f_enumerate (pd_var 8)) (blkOk_cl ["piece", "epoch", "talk", "number", "part", "parts", "words", "given", "row", "k", "one"] (defScope s_sum_due) (by decide +kernel)) (fun _ _ _ _ _ => (g_tup rfl (gs_cons (g_name (by simp) sc_sum_due.nd) (gs_cons (g_name (by simp) sc_sum_due.nd) gs_nil)))) (fun _ _ _ _ _ => pts_dnil) (fun _ _ _ _ _ => (pd_op (op_mul.or op_repT) ok_mul (pd_var 9) (pd_var 10))))) (pd_gint rfl G.i_SUMS))))))
abbrev s_is_right : Stmt := top 76
theorem sc_is_right : FnScope ["piece"] ["piece"] (defScope s_is_right) := ⟨rfl, rfl, rfl, by decide +kernel, rfl, by decide +kernel, by decide +kernel⟩
theorem ok_is_right (G : Gs K mg) (F : ∃ fd, FnP K "is_right" s_is_right [] (fA K "is_right") fd) (hm : mg "is_right" = some (.ref (fA K "is_right"))) (D_sum_due : Df P w K mg base T 1 "sum_due" 1 f_sum_due) : Df P w K mg base T 2 "is_right" 1 f_is_right := by
  obtain ⟨fd, F⟩ := F
  refine df_of hm F sc_is_right rfl (fun _ _ _ _ _ _ us hl => match us, hl with | [_], _ => rfl) ?_
  intro f cdv A outer s H E hr tk hp
  have hx := fun σ => passAt tk σ
  have hu := hr.units
  have hu0 := hr.units0
  have hu1 := u1 hr
  exact (ss_one (s_ret (pd_cmp (op_eqD hu) ok_eq (pd_ix (pd_var 0) pd_int) (pd_call D_sum_due hr hx (pa_dcons (pd_var 0) pa_dnil)) (nomark _))))
abbrev s_summed : Stmt := top 77
theorem sc_summed : FnScope ["piece"] ["piece"] (defScope s_summed) := ⟨rfl, rfl, rfl, by decide +kernel, rfl, by decide +kernel, by decide +kernel⟩
theorem ok_summed (G : Gs K mg) (F : ∃ fd, FnP K "summed" s_summed [] (fA K "summed") fd) (hm : mg "summed" = some (.ref (fA K "summed"))) (D_sum_due : Df P w K mg base T 1 "sum_due" 1 f_sum_due) : Df P w K mg base T 2 "summed" 1 f_summed := by
  obtain ⟨fd, F⟩ := F
  refine df_of hm F sc_summed rfl (fun _ _ _ _ _ _ us hl => match us, hl with | [_], _ => rfl) ?_
  intro f cdv A outer s H E hr tk hp
  have hx := fun σ => passAt tk σ
  have hu := hr.units
  have hu0 := hr.units0
  have hu1 := u1 hr
  exact (ss_one (s_ret (pd_op op_addA ok_add (pd_sl (pd_var 0) q_none (q_some pd_int)) (pd_tup (pa_dcons (pd_call D_sum_due hr hx (pa_dcons (pd_var 0) pa_dnil)) pa_dnil)))))
abbrev s_bent : Stmt := top 78
theorem sc_bent : FnScope ["piece", "word", "words"] ["piece", "word"] (defScope s_bent) := ⟨rfl, rfl, rfl, by decide +kernel, rfl, by decide +kernel, by decide +kernel⟩
theorem ok_bent (G : Gs K mg) (F : ∃ fd, FnP K "bent" s_bent [("word", V.int 0)] (fA K "bent") fd) (hm : mg "bent" = some (.ref (fA K "bent")))  : DfK P w K mg base T 1 "bent" 1 1 ["word"] f_bent := by
  obtain ⟨fd, F⟩ := F
  refine dfk_of hm F sc_bent rfl rfl (fun _ _ _ _ _ _ us ws l1 l2 => match us, ws, l1, l2 with | [_], [_], _, _ => rfl) ?_
  intro f cdv A outer s H E hr tk hp
  have hx := fun σ => passAt tk σ
  have hu := hr.units
  have hu0 := hr.units0
  have hu1 := u1 hr
  exact (ss_cons (s_set sc_bent.nd (pd_ix (pd_var 0) pd_int))
  (ss_cons (s_if (pt_dcmp op_ge ok_ge (pd_var 1) (pd_callB call_len okn_len G.f_len (by decide +kernel) (pa_dcons (pd_var 2) pa_dnil)) (nomark _)) (ss_one (s_ret (pd_op op_addA ok_add (pd_sl (pd_var 0) q_none (q_some pd_int)) (pd_tup (pa_dcons (pd_op op_mod ok_mod (pd_op op_addA ok_add (pd_ix (pd_var 0) pd_int) pd_int) (pd_gint rfl G.i_SUMS)) pa_dnil))))) ss_nil)
  (ss_one (s_ret (pd_op op_addA ok_add (pd_sl (pd_var 0) q_none (q_some pd_int)) (pd_tup (pa_dcons (pd_op op_addA ok_add (pd_op op_addA ok_add (pd_sl (pd_var 2) q_none (q_some (pd_var 1))) (pd_tup (pa_dcons (pd_op op_addA ok_add (pd_ix (pd_var 2) (pd_var 1)) pd_int) pa_dnil))) (pd_sl (pd_var 2) (q_some (pd_op op_addA ok_add (pd_var 1) pd_int)) q_none)) (pa_dcons (pd_ix (pd_var 0) pd_int) pa_dnil))))))))
abbrev s_pieces_of : Stmt := top 79
theorem sc_pieces_of : FnScope ["letter", "epoch", "cut", "talk", "number", "words", "parts", "found", "part", "own"] ["letter", "epoch", "cut"] (defScope s_pieces_of) := ⟨rfl, rfl, rfl, by decide +kernel, rfl, by decide +kernel, by decide +kernel⟩
theorem ok_pieces_of (G : Gs K mg) (F : ∃ fd, FnP K "pieces_of" s_pieces_of [("epoch", V.int 0), ("cut", V.int 4)] (fA K "pieces_of") fd) (hm : mg "pieces_of" = some (.ref (fA K "pieces_of"))) (D_summed : Df P w K mg base T 2 "summed" 1 f_summed) : DfK P w K mg base T 3 "pieces_of" 1 2 ["epoch", "cut"] f_pieces_of := by
  obtain ⟨fd, F⟩ := F
  refine dfk_of hm F sc_pieces_of rfl rfl (fun _ _ _ _ _ _ us ws l1 l2 => match us, ws, l1, l2 with | [_], [_, _], _, _ => rfl) ?_
  intro f cdv A outer s H E hr tk hp
  have hx := fun σ => passAt tk σ
  have hu := hr.units
  have hu0 := hr.units0
  have hu1 := u1 hr
  exact (ss_cons (s_asg (vs := [3, 4, 5]) (pd_var 0) (g_tup rfl (gs_cons (g_name (by simp) sc_pieces_of.nd) (gs_cons (g_name (by simp) sc_pieces_of.nd) (gs_cons (g_name (by simp) sc_pieces_of.nd) gs_nil)))))
  (ss_cons (s_set sc_pieces_of.nd (pd_callB (call_max2 rfl) okn_max2 G.f_max (by decide +kernel) (pa_dcons pd_int (pa_dcons (pd_op op_fdiv ok_div (pd_op op_sub ok_sub (pd_op op_addA ok_add (pd_callB call_len okn_len G.f_len (by decide +kernel) (pa_dcons (pd_var 5) pa_dnil)) (pd_var 2)) pd_int) (pd_var 2)) pa_dnil))))
  (ss_cons (s_set sc_pieces_of.nd (pd_reg (pl_disp pa_dnil)))
  (ss_cons (s_for (vs := [8]) hp rfl (i_rng1 G.f_range rfl (pa_dcons (pd_var 6) pa_dnil)) (g_name (by simp) sc_pieces_of.nd) (ss_cons (s_set sc_pieces_of.nd (pd_sl (pd_var 5) (q_some (pd_op (op_mul.or op_repT) ok_mul (pd_var 8) (pd_var 2))) (q_some (pd_op op_addA ok_add (pd_op (op_mul.or op_repT) ok_mul (pd_var 8) (pd_var 2)) (pd_var 2)))))
  (ss_one (s_expr (pd_append (pd_var 7) (pa_dcons (pd_call D_summed hr hx (pa_dcons (pd_tup (pa_dcons (pd_var 1) (pa_dcons (pd_var 3) (pa_dcons (pd_var 4) (pa_dcons (pd_var 8) (pa_dcons (pd_var 6) (pa_dcons (pd_var 9) (pa_dcons pd_int pa_dnil)))))))) pa_dnil)) pa_dnil))))))
  (ss_one (s_ret (pd_callTy call_tuple_of okn_tup G.f_tuple (by decide +kernel) (pa_dcons (pd_var 7) pa_dnil))))))))
abbrev s_going_on : Stmt := top 81
theorem sc_going_on : FnScope ["joining"] ["joining"] (defScope s_going_on) := ⟨rfl, rfl, rfl, by decide +kernel, rfl, by decide +kernel, by decide +kernel⟩
theorem ok_going_on (G : Gs K mg) (F : ∃ fd, FnP K "going_on" s_going_on [] (fA K "going_on") fd) (hm : mg "going_on" = some (.ref (fA K "going_on")))  : Df P w K mg base T 1 "going_on" 1 f_going_on := by
  obtain ⟨fd, F⟩ := F
  refine df_of hm F sc_going_on rfl (fun _ _ _ _ _ _ us hl => match us, hl with | [_], _ => rfl) ?_
  intro f cdv A outer s H E hr tk hp
  have hx := fun σ => passAt tk σ
  have hu := hr.units
  have hu0 := hr.units0
  have hu1 := u1 hr
  exact (ss_one (s_ret (pd_if (pw_dand (pt_dcmp op_notN ok_notN (pd_var 0) pd_non (nomark _)) (pw_dand1 (pt_dcmp op_gt ok_gt (pd_ix (pd_var 0) pd_int) pd_int (nomark _)))).pt (pd_ix (pd_var 0) pd_int) pd_non)))
abbrev s_does_go_on : Stmt := top 82
theorem sc_does_go_on : FnScope ["joining", "piece", "epoch", "number", "parts", "later", "words"] ["joining", "piece"] (defScope s_does_go_on) := ⟨rfl, rfl, rfl, by decide +kernel, rfl, by decide +kernel, by decide +kernel⟩
theorem ok_does_go_on (G : Gs K mg) (F : ∃ fd, FnP K "does_go_on" s_does_go_on [] (fA K "does_go_on") fd) (hm : mg "does_go_on" = some (.ref (fA K "does_go_on"))) (D_going_on : Df P w K mg base T 1 "going_on" 1 f_going_on) : Df P w K mg base T 2 "does_go_on" 2 f_does_go_on := by
  obtain ⟨fd, F⟩ := F
  refine df_of hm F sc_does_go_on rfl (fun _ _ _ _ _ _ us hl => match us, hl with | [_, _], _ => rfl) ?_
  intro f cdv A outer s H E hr tk hp
  have hx := fun σ => passAt tk σ
  have hu := hr.units
  have hu0 := hr.units0
  have hu1 := u1 hr
  exact (ss_cons (s_if (pt_dcmp op_isN ok_isN (pd_call D_going_on hr hx (pa_dcons (pd_var 0) pa_dnil)) pd_non (nomark _)) (ss_one (s_ret pd_bl)) ss_nil)
  (ss_cons (s_asg (vs := [2, 3, 4, 5, 6]) (pd_var 0) (g_tup rfl (gs_cons (g_name (by simp) sc_does_go_on.nd) (gs_cons (g_name (by simp) sc_does_go_on.nd) (gs_cons (g_name (by simp) sc_does_go_on.nd) (gs_cons (g_name (by simp) sc_does_go_on.nd) (gs_cons (g_name (by simp) sc_does_go_on.nd) gs_nil)))))))
  (ss_one (s_ret (pd_cmp (op_eqD hu) ok_eq (pd_tup (pa_dcons (pd_ix (pd_var 1) pd_int) (pa_dcons (pd_ix (pd_var 1) pd_int) (pa_dcons (pd_ix (pd_var 1) pd_int) (pa_dcons (pd_ix (pd_var 1) pd_int) pa_dnil))))) (pd_tup (pa_dcons (pd_var 2) (pa_dcons (pd_var 3) (pa_dcons (pd_var 4) (pa_dcons (pd_var 5) pa_dnil))))) (nomark _))))))
abbrev s_does_begin : Stmt := top 83
theorem sc_does_begin : FnScope ["joining", "piece"] ["joining", "piece"] (defScope s_does_begin) := ⟨rfl, rfl, rfl, by decide +kernel, rfl, by decide +kernel, by decide +kernel⟩
theorem ok_does_begin (G : Gs K mg) (F : ∃ fd, FnP K "does_begin" s_does_begin [] (fA K "does_begin") fd) (hm : mg "does_begin" = some (.ref (fA K "does_begin")))  : Df P w K mg base T 1 "does_begin" 2 f_does_begin := by
  obtain ⟨fd, F⟩ := F
  refine df_of hm F sc_does_begin rfl (fun _ _ _ _ _ _ us hl => match us, hl with | [_, _], _ => rfl) ?_
  intro f cdv A outer s H E hr tk hp
  have hx := fun σ => passAt tk σ
  have hu := hr.units
  have hu0 := hr.units0
  have hu1 := u1 hr
  exact (ss_one (s_ret (pd_and (pd_cmp (op_eqD hu) ok_eq (pd_ix (pd_var 1) pd_int) pd_int (nomark _)) (pd_one (pd_or (pd_cmp op_isN ok_isN (pd_var 0) pd_non (nomark _)) (pd_one (pd_cmp (op_gtT hu0) ok_gtT (pd_tup (pa_dcons (pd_ix (pd_var 1) pd_int) (pa_dcons (pd_ix (pd_var 1) pd_int) pa_dnil))) (pd_sl (pd_var 0) q_none (q_some pd_int)) (nomark _))))))))
abbrev s_with_part : Stmt := top 84
theorem sc_with_part : FnScope ["piece", "words", "lost", "epoch", "talk", "number", "part", "parts", "own", "given"] ["piece", "words", "lost"] (defScope s_with_part) := ⟨rfl, rfl, rfl, by decide +kernel, rfl, by decide +kernel, by decide +kernel⟩
theorem ok_with_part (G : Gs K mg) (F : ∃ fd, FnP K "with_part" s_with_part [] (fA K "with_part") fd) (hm : mg "with_part" = some (.ref (fA K "with_part")))  : Df P w K mg base T 1 "with_part" 3 f_with_part := by
  obtain ⟨fd, F⟩ := F
  refine df_of hm F sc_with_part rfl (fun _ _ _ _ _ _ us hl => match us, hl with | [_, _, _], _ => rfl) ?_
  intro f cdv A outer s H E hr tk hp
  have hx := fun σ => passAt tk σ
  have hu := hr.units
  have hu0 := hr.units0
  have hu1 := u1 hr
  exact (ss_cons (s_asg (vs := [3, 4, 5, 6, 7, 8, 9]) (pd_var 0) (g_tup rfl (gs_cons (g_name (by simp) sc_with_part.nd) (gs_cons (g_name (by simp) sc_with_part.nd) (gs_cons (g_name (by simp) sc_with_part.nd) (gs_cons (g_name (by simp) sc_with_part.nd) (gs_cons (g_name (by simp) sc_with_part.nd) (gs_cons (g_name (by simp) sc_with_part.nd) (gs_cons (g_name (by simp) sc_with_part.nd) gs_nil)))))))))
  (ss_cons (s_aug sc_with_part.nd iop_catT ok_addT (pd_var 8))
  (ss_cons (s_if (pt_dcmp (op_eqD hu) ok_eq (pd_op op_addA ok_add (pd_var 6) pd_int) (pd_var 7) (nomark _)) (ss_one (s_ret (pd_tup (pa_dcons (pd_tup (pa_dcons (pd_var 3) (pa_dcons (pd_var 5) (pa_dcons (pd_var 7) (pa_dcons pd_int (pa_dcons (pd_tup pa_dnil) pa_dnil)))))) (pa_dcons (pd_str "whole") (pa_dcons (pd_var 2) (pa_dcons (pd_tup (pa_dcons (pd_var 4) (pa_dcons (pd_var 5) (pa_dcons (pd_var 1) pa_dnil)))) pa_dnil))))))) ss_nil)
  (ss_one (s_ret (pd_tup (pa_dcons (pd_tup (pa_dcons (pd_var 3) (pa_dcons (pd_var 5) (pa_dcons (pd_var 7) (pa_dcons (pd_op op_addA ok_add (pd_var 6) pd_int) (pa_dcons (pd_var 1) pa_dnil)))))) (pa_dcons (pd_if (pt_dcmp (op_eqD hu) ok_eq (pd_var 6) pd_int (nomark _)) (pd_str "begun") (pd_str "on")) (pa_dcons (pd_var 2) (pa_dcons pd_non pa_dnil))))))))))
abbrev s_came_of : Stmt := top 85
theorem sc_came_of : FnScope ["joining", "piece", "is_elder"] ["joining", "piece"] (defScope s_came_of) := ⟨rfl, rfl, rfl, by decide +kernel, rfl, by decide +kernel, by decide +kernel⟩
theorem ok_came_of (G : Gs K mg) (F : ∃ fd, FnP K "came_of" s_came_of [] (fA K "came_of") fd) (hm : mg "came_of" = some (.ref (fA K "came_of"))) (D_is_right : Df P w K mg base T 2 "is_right" 1 f_is_right) (D_going_on : Df P w K mg base T 1 "going_on" 1 f_going_on) (D_does_go_on : Df P w K mg base T 2 "does_go_on" 2 f_does_go_on) (D_does_begin : Df P w K mg base T 1 "does_begin" 2 f_does_begin) (D_with_part : Df P w K mg base T 1 "with_part" 3 f_with_part) : Df P w K mg base T 3 "came_of" 2 f_came_of := by
  obtain ⟨fd, F⟩ := F
  refine df_of hm F sc_came_of rfl (fun _ _ _ _ _ _ us hl => match us, hl with | [_, _], _ => rfl) ?_
  intro f cdv A outer s H E hr tk hp
  have hx := fun σ => passAt tk σ
  have hu := hr.units
  have hu0 := hr.units0
  have hu1 := u1 hr
  exact (ss_cons (s_if (pt_dnot (pt_dval (pd_call D_is_right hr hx (pa_dcons (pd_var 1) pa_dnil)))) (ss_one (s_ret (pd_tup (pa_dcons (pd_var 0) (pa_dcons (pd_str "sum") (pa_dcons pd_non (pa_dcons pd_non pa_dnil))))))) ss_nil)
  (ss_cons (s_if (pt_dval (pd_call D_does_go_on hr hx (pa_dcons (pd_var 0) (pa_dcons (pd_var 1) pa_dnil)))) (ss_one (s_ret (pd_call D_with_part hr hx (pa_dcons (pd_var 1) (pa_dcons (pd_ix (pd_var 0) pd_int) (pa_dcons pd_non pa_dnil)))))) ss_nil)
  (ss_cons (s_if (pt_dval (pd_call D_does_begin hr hx (pa_dcons (pd_var 0) (pa_dcons (pd_var 1) pa_dnil)))) (ss_one (s_ret (pd_call D_with_part hr hx (pa_dcons (pd_var 1) (pa_dcons (pd_tup pa_dnil) (pa_dcons (pd_call D_going_on hr hx (pa_dcons (pd_var 0) pa_dnil)) pa_dnil)))))) ss_nil)
  (ss_cons (s_set sc_came_of.nd (pd_and (pd_cmp op_notN ok_notN (pd_var 0) pd_non (nomark _)) (pd_one (pd_cmp (op_ltT hu0) ok_ltT (pd_tup (pa_dcons (pd_ix (pd_var 1) pd_int) (pa_dcons (pd_ix (pd_var 1) pd_int) pa_dnil))) (pd_sl (pd_var 0) q_none (q_some pd_int)) (nomark _)))))
  (ss_one (s_ret (pd_tup (pa_dcons (pd_var 0) (pa_dcons (pd_if (pt_dval (pd_var 2)) (pd_str "elder") (pd_str "cut")) (pa_dcons pd_non (pa_dcons pd_non pa_dnil)))))))))))
abbrev s_oldest_posted : Stmt := top 87
theorem sc_oldest_posted : FnScope ["value", "lane", "found", "ring", "stretch"] ["value", "lane"] (defScope s_oldest_posted) := ⟨rfl, rfl, rfl, by decide +kernel, rfl, by decide +kernel, by decide +kernel⟩
theorem ok_oldest_posted (G : Gs K mg) (F : ∃ fd, FnP K "oldest_posted" s_oldest_posted [] (fA K "oldest_posted") fd) (hm : mg "oldest_posted" = some (.ref (fA K "oldest_posted"))) (D_take_out : Df P w K mg base T 3 "take_out" 1 f_take_out) (D_lane_turned : Df P w K mg base T 2 "lane_turned" 4 f_lane_turned) : Df P w K mg base T 4 "oldest_posted" 2 f_oldest_posted := by
  obtain ⟨fd, F⟩ := F
  refine df_of hm F sc_oldest_posted rfl (fun _ _ _ _ _ _ us hl => match us, hl with | [_, _], _ => rfl) ?_
  intro f cdv A outer s H E hr tk hp
  have hx := fun σ => passAt tk σ
  have hu := hr.units
  have hu0 := hr.units0
  have hu1 := u1 hr
  exact (ss_cons (s_set sc_oldest_posted.nd pd_non)
  (ss_cons (s_try (cs := [("NoPlace", true)]) rfl rfl ⟨rfl, by decide, .inl G.g_NoPlace⟩ tk (fun q hq => by rw [List.mem_singleton.mp hq]; exact G.x_NoPlace) (fun _ _ _ tk2 _ => (ss_one (s_set sc_oldest_posted.nd (pd_call D_take_out hr (fun σ => passAt tk2 σ) (pa_dcons (pd_ix (pd_ix (pd_ix (pd_var 0) (pd_gint rfl G.i_LANES_AT)) (pd_var 1)) (pd_gint rfl G.i_INWARD_AT)) pa_dnil))))) (fun _ _ _ => (ss_one (s_set sc_oldest_posted.nd pd_non))))
  (ss_cons (s_if (pt_dcmp op_isN ok_isN (pd_var 2) pd_non (nomark _)) (ss_one (s_ret pd_non)) ss_nil)
  (ss_cons (s_asg (vs := [3, 4]) (pd_var 2) (g_tup rfl (gs_cons (g_name (by simp) sc_oldest_posted.nd) (gs_cons (g_name (by simp) sc_oldest_posted.nd) gs_nil))))
  (ss_one (s_ret (pd_tup (pa_dcons (pd_call D_lane_turned hr hx (pa_dcons (pd_var 0) (pa_dcons (pd_var 1) (pa_dcons (pd_gint rfl G.i_INWARD_AT) (pa_dcons (pd_var 3) pa_dnil))))) (pa_dcons (pd_var 4) pa_dnil)))))))))
abbrev s_boxed : Stmt := top 88
theorem sc_boxed : FnScope ["value", "lane", "completion", "clock", "own", "later"] ["value", "lane", "completion", "clock"] (defScope s_boxed) := ⟨rfl, rfl, rfl, by decide +kernel, rfl, by decide +kernel, by decide +kernel⟩
theorem ok_boxed (G : Gs K mg) (F : ∃ fd, FnP K "boxed" s_boxed [] (fA K "boxed") fd) (hm : mg "boxed" = some (.ref (fA K "boxed"))) (D_lane_turned : Df P w K mg base T 2 "lane_turned" 4 f_lane_turned) : Df P w K mg base T 3 "boxed" 4 f_boxed := by
  obtain ⟨fd, F⟩ := F
  refine df_of hm F sc_boxed rfl (fun _ _ _ _ _ _ us hl => match us, hl with | [_, _, _, _], _ => rfl) ?_
  intro f cdv A outer s H E hr tk hp
  have hx := fun σ => passAt tk σ
  have hu := hr.units
  have hu0 := hr.units0
  have hu1 := u1 hr
  exact (ss_cons (s_set sc_boxed.nd (pd_ix (pd_ix (pd_var 0) (pd_gint rfl G.i_LANES_AT)) (pd_var 1)))
  (ss_cons (s_set sc_boxed.nd (pd_call D_lane_turned hr hx (pa_dcons (pd_var 0) (pa_dcons (pd_var 1) (pa_dcons (pd_gint rfl G.i_BOX_AT) (pa_dcons (pd_op op_addA ok_add (pd_ix (pd_var 4) (pd_gint rfl G.i_BOX_AT)) (pd_tup (pa_dcons (pd_var 2) pa_dnil))) pa_dnil))))))
  (ss_one (s_ret (pd_if (pt_dcmp (op_eqD hu) ok_eq (pd_ix (pd_var 4) (pd_gint rfl G.i_BOX_AT)) (pd_tup pa_dnil) (nomark _)) (pd_call D_lane_turned hr hx (pa_dcons (pd_var 5) (pa_dcons (pd_var 1) (pa_dcons (pd_gint rfl G.i_SINCE_AT) (pa_dcons (pd_var 3) pa_dnil))))) (pd_var 5))))))
end
end Dt
namespace Dt
open PySem PySem.Spec PyProof.Rows L2
section
variable {P : Program} {w : World} {K : PySem.W.Frag} {mg : Str → Option Value} {base : Heap} {T : List (Addr × Str)}
abbrev s_why_not : Stmt := top 89
theorem sc_why_not : FnScope ["value", "rights", "stretch", "words"] ["value", "rights", "stretch", "words"] (defScope s_why_not) := ⟨rfl, rfl, rfl, by decide +kernel, rfl, by decide +kernel, by decide +kernel⟩
theorem ok_why_not (G : Gs K mg) (F : ∃ fd, FnP K "why_not" s_why_not [] (fA K "why_not") fd) (hm : mg "why_not" = some (.ref (fA K "why_not"))) (D_owns_it : Df P w K mg base T 2 "owns_it" 3 f_owns_it) : Df P w K mg base T 3 "why_not" 4 f_why_not := by
  obtain ⟨fd, F⟩ := F
  refine df_of hm F sc_why_not rfl (fun _ _ _ _ _ _ us hl => match us, hl with | [_, _, _, _], _ => rfl) ?_
  intro f cdv A outer s H E hr tk hp
  have hx := fun σ => passAt tk σ
  have hu := hr.units
  have hu0 := hr.units0
  have hu1 := u1 hr
  exact (ss_cons (s_if (pt_dnot (pt_dval (pd_call D_owns_it hr hx (pa_dcons (pd_var 0) (pa_dcons (pd_var 1) (pa_dcons (pd_var 2) pa_dnil)))))) (ss_one (s_ret (pd_str "fault"))) ss_nil)
  (ss_one (s_ret (pd_if (pt_dcmp op_lt ok_lt (pd_ix (pd_var 2) pd_int) (pd_callB call_len okn_len G.f_len (by decide +kernel) (pa_dcons (pd_var 3) pa_dnil)) (nomark _)) (pd_str "short") pd_non))))
abbrev s_takes_whole : Stmt := top 90
theorem sc_takes_whole : FnScope ["value", "memory", "rights", "letter", "times", "clock", "most", "wait", "talk", "number", "words", "half", "lane", "found", "later", "stretch", "why", "place", "events"] ["value", "memory", "rights", "letter", "times"] (defScope s_takes_whole) := ⟨rfl, rfl, rfl, by decide +kernel, rfl, by decide +kernel, by decide +kernel⟩
theorem ok_takes_whole (G : Gs K mg) (F : ∃ fd, FnP K "takes_whole" s_takes_whole [] (fA K "takes_whole") fd) (hm : mg "takes_whole" = some (.ref (fA K "takes_whole"))) (D_lane_of : DfK P w K mg base T 2 "lane_of" 2 1 ["lanes"] f_lane_of) (D_written : Df P w K mg base T 4 "written" 3 f_written) (D_look_at_lane : Df P w K mg base T 3 "look_at_lane" 4 f_look_at_lane) (D_oldest_posted : Df P w K mg base T 4 "oldest_posted" 2 f_oldest_posted) (D_boxed : Df P w K mg base T 3 "boxed" 4 f_boxed) (D_why_not : Df P w K mg base T 3 "why_not" 4 f_why_not) : Df P w K mg base T 5 "takes_whole" 5 f_takes_whole := by
  obtain ⟨fd, F⟩ := F
  refine df_of hm F sc_takes_whole rfl (fun _ _ _ _ _ _ us hl => match us, hl with | [_, _, _, _, _], _ => rfl) ?_
  intro f cdv A outer s H E hr tk hp
  have hx := fun σ => passAt tk σ
  have hu := hr.units
  have hu0 := hr.units0
  have hu1 := u1 hr
  exact (ss_cons (s_asg (vs := [5, 6, 7]) (pd_var 4) (g_tup rfl (gs_cons (g_name (by simp) sc_takes_whole.nd) (gs_cons (g_name (by simp) sc_takes_whole.nd) (gs_cons (g_name (by simp) sc_takes_whole.nd) gs_nil)))))
  (ss_cons (s_asg (vs := [8, 9, 10]) (pd_var 3) (g_tup rfl (gs_cons (g_name (by simp) sc_takes_whole.nd) (gs_cons (g_name (by simp) sc_takes_whole.nd) (gs_cons (g_name (by simp) sc_takes_whole.nd) gs_nil)))))
  (ss_cons (s_par rfl sc_takes_whole.nd (pa_dcons (pd_ix (pd_var 0) (pd_gint rfl G.i_HALF_AT)) (pa_dcons (pd_callK D_lane_of hr hx (pa_dcons (pd_ix (pd_var 0) (pd_gint rfl G.i_STEERS_AT)) (pa_dcons (pd_var 8) pa_dnil)) (pk_dcons (pd_callB call_len okn_len G.f_len (by decide +kernel) (pa_dcons (pd_ix (pd_var 0) (pd_gint rfl G.i_LANES_AT)) pa_dnil)) pk_dnil)) pa_dnil)))
  (ss_cons (s_set sc_takes_whole.nd (pd_call D_oldest_posted hr hx (pa_dcons (pd_var 0) (pa_dcons (pd_var 12) pa_dnil))))
  (ss_cons (s_if (pt_dcmp op_isN ok_isN (pd_var 13) pd_non (nomark _)) (ss_one (s_ret (pd_tup (pa_dcons (pd_var 0) (pa_dcons (pd_var 1) (pa_dcons (pd_tup (pa_dcons (pd_tup (pa_dcons (pd_str "missed") (pa_dcons (pd_var 11) (pa_dcons (pd_var 8) (pa_dcons (pd_var 9) (pa_dcons (pd_str "none") pa_dnil)))))) pa_dnil)) pa_dnil)))))) ss_nil)
  (ss_cons (s_asg (vs := [14, 15]) (pd_var 13) (g_tup rfl (gs_cons (g_name (by simp) sc_takes_whole.nd) (gs_cons (g_name (by simp) sc_takes_whole.nd) gs_nil))))
  (ss_cons (s_set sc_takes_whole.nd (pd_call D_why_not hr hx (pa_dcons (pd_var 0) (pa_dcons (pd_var 2) (pa_dcons (pd_var 15) (pa_dcons (pd_var 10) pa_dnil))))))
  (ss_cons (s_if (pt_dcmp op_notN ok_notN (pd_var 16) pd_non (nomark _)) (ss_one (s_ret (pd_tup (pa_dcons (pd_var 14) (pa_dcons (pd_var 1) (pa_dcons (pd_tup (pa_dcons (pd_tup (pa_dcons (pd_str "missed") (pa_dcons (pd_var 11) (pa_dcons (pd_var 8) (pa_dcons (pd_var 9) (pa_dcons (pd_var 16) pa_dnil)))))) (pa_dcons (pd_tup (pa_dcons (pd_str "returned") (pa_dcons (pd_var 11) (pa_dcons (pd_var 12) (pa_dcons (pd_var 15) pa_dnil))))) pa_dnil))) pa_dnil)))))) ss_nil)
  (ss_cons (s_set sc_takes_whole.nd (pd_tup (pa_dcons (pd_ix (pd_var 15) pd_int) (pa_dcons (pd_ix (pd_var 15) pd_int) (pa_dcons (pd_callB call_len okn_len G.f_len (by decide +kernel) (pa_dcons (pd_var 10) pa_dnil)) pa_dnil)))))
  (ss_cons (s_set sc_takes_whole.nd (pd_call D_boxed hr hx (pa_dcons (pd_var 14) (pa_dcons (pd_var 12) (pa_dcons (pd_tup (pa_dcons (pd_var 8) (pa_dcons (pd_var 9) (pa_dcons (pd_var 17) (pa_dcons (pd_var 5) pa_dnil))))) (pa_dcons (pd_var 5) pa_dnil))))))
  (ss_cons (s_asg (vs := [14, 18]) (pd_call D_look_at_lane hr hx (pa_dcons (pd_var 14) (pa_dcons (pd_var 12) (pa_dcons (pd_var 5) (pa_dcons (pd_tup (pa_dcons (pd_var 6) (pa_dcons (pd_var 7) pa_dnil))) pa_dnil))))) (g_tup rfl (gs_cons (g_name (by simp) sc_takes_whole.nd) (gs_cons (g_name (by simp) sc_takes_whole.nd) gs_nil))))
  (ss_one (s_ret (pd_tup (pa_dcons (pd_var 14) (pa_dcons (pd_call D_written hr hx (pa_dcons (pd_var 1) (pa_dcons (pd_var 15) (pa_dcons (pd_var 10) pa_dnil)))) (pa_dcons (pd_op op_addA ok_add (pd_tup (pa_dcons (pd_tup (pa_dcons (pd_str "filled") (pa_dcons (pd_var 11) (pa_dcons (pd_var 12) (pa_dcons (pd_var 8) (pa_dcons (pd_var 9) pa_dnil)))))) pa_dnil)) (pd_var 18)) pa_dnil)))))))))))))))))
abbrev s_comes_in : Stmt := top 91
theorem sc_comes_in : FnScope ["value", "memory", "rights", "piece", "clock", "most", "wait", "half", "talk", "joining", "word", "lost", "letter", "later", "events", "more"] ["value", "memory", "rights", "piece", "clock", "most", "wait"] (defScope s_comes_in) := ⟨rfl, rfl, rfl, by decide +kernel, rfl, by decide +kernel, by decide +kernel⟩
theorem ok_comes_in (G : Gs K mg) (F : ∃ fd, FnP K "comes_in" s_comes_in [("most", V.int 2), ("wait", V.int 4)] (fA K "comes_in") fd) (hm : mg "comes_in" = some (.ref (fA K "comes_in"))) (D_turned_at : Df P w K mg base T 1 "turned_at" 3 f_turned_at) (D_by_talk : Df P w K mg base T 1 "by_talk" 3 f_by_talk) (D_with_talk : Df P w K mg base T 1 "with_talk" 3 f_with_talk) (D_came_of : Df P w K mg base T 3 "came_of" 2 f_came_of) (D_takes_whole : Df P w K mg base T 5 "takes_whole" 5 f_takes_whole) : DfK P w K mg base T 6 "comes_in" 4 3 ["clock", "most", "wait"] f_comes_in := by
  obtain ⟨fd, F⟩ := F
  refine dfk_of hm F sc_comes_in rfl rfl (fun _ _ _ _ _ _ us ws l1 l2 => match us, ws, l1, l2 with | [_, _, _, _], [_, _, _], _, _ => rfl) ?_
  intro f cdv A outer s H E hr tk hp
  have hx := fun σ => passAt tk σ
  have hu := hr.units
  have hu0 := hr.units0
  have hu1 := u1 hr
  exact (ss_cons (s_par rfl sc_comes_in.nd (pa_dcons (pd_ix (pd_var 0) (pd_gint rfl G.i_HALF_AT)) (pa_dcons (pd_ix (pd_var 3) pd_int) pa_dnil)))
  (ss_cons (s_asg (vs := [9, 10, 11, 12]) (pd_call D_came_of hr hx (pa_dcons (pd_call D_by_talk hr hx (pa_dcons (pd_ix (pd_var 0) (pd_gint rfl G.i_JOININGS_AT)) (pa_dcons (pd_var 8) (pa_dcons pd_non pa_dnil)))) (pa_dcons (pd_var 3) pa_dnil))) (g_tup rfl (gs_cons (g_name (by simp) sc_comes_in.nd) (gs_cons (g_name (by simp) sc_comes_in.nd) (gs_cons (g_name (by simp) sc_comes_in.nd) (gs_cons (g_name (by simp) sc_comes_in.nd) gs_nil))))))
  (ss_cons (s_par rfl sc_comes_in.nd (pa_dcons (pd_call D_turned_at hr hx (pa_dcons (pd_var 0) (pa_dcons (pd_gint rfl G.i_JOININGS_AT) (pa_dcons (pd_call D_with_talk hr hx (pa_dcons (pd_ix (pd_var 0) (pd_gint rfl G.i_JOININGS_AT)) (pa_dcons (pd_var 8) (pa_dcons (pd_var 9) pa_dnil)))) pa_dnil)))) (pa_dcons (pd_tup pa_dnil) pa_dnil)))
  (ss_cons (s_if (pt_dcmp op_in_seq (ok_in false) (pd_var 10) (pd_tup (pa_dcons (pd_str "sum") (pa_dcons (pd_str "elder") (pa_dcons (pd_str "cut") pa_dnil)))) rfl) (ss_one (s_set sc_comes_in.nd (pd_tup (pa_dcons (pd_tup (pa_dcons (pd_str "dropped") (pa_dcons (pd_var 7) (pa_dcons (pd_var 3) (pa_dcons (pd_var 10) pa_dnil))))) pa_dnil)))) ss_nil)
  (ss_cons (s_if (pt_dcmp op_notN ok_notN (pd_var 11) pd_non (nomark _)) (ss_one (s_set sc_comes_in.nd (pd_op op_addA ok_add (pd_var 14) (pd_tup (pa_dcons (pd_tup (pa_dcons (pd_str "missed") (pa_dcons (pd_var 7) (pa_dcons (pd_var 8) (pa_dcons (pd_var 11) (pa_dcons (pd_str "cut") pa_dnil)))))) pa_dnil))))) ss_nil)
  (ss_cons (s_if (pt_dcmp op_isN ok_isN (pd_var 12) pd_non (nomark _)) (ss_one (s_ret (pd_tup (pa_dcons (pd_var 13) (pa_dcons (pd_var 1) (pa_dcons (pd_var 14) pa_dnil)))))) ss_nil)
  (ss_cons (s_asg (vs := [13, 1, 15]) (pd_call D_takes_whole hr hx (pa_dcons (pd_var 13) (pa_dcons (pd_var 1) (pa_dcons (pd_var 2) (pa_dcons (pd_var 12) (pa_dcons (pd_tup (pa_dcons (pd_var 4) (pa_dcons (pd_var 5) (pa_dcons (pd_var 6) pa_dnil)))) pa_dnil)))))) (g_tup rfl (gs_cons (g_name (by simp) sc_comes_in.nd) (gs_cons (g_name (by simp) sc_comes_in.nd) (gs_cons (g_name (by simp) sc_comes_in.nd) gs_nil)))))
  (ss_one (s_ret (pd_tup (pa_dcons (pd_var 13) (pa_dcons (pd_var 1) (pa_dcons (pd_op op_addA ok_add (pd_var 14) (pd_var 15)) pa_dnil)))))))))))))
abbrev s_put_or_full : Stmt := top 93
theorem sc_put_or_full : FnScope ["ring", "thing", "found"] ["ring", "thing"] (defScope s_put_or_full) := ⟨rfl, rfl, rfl, by decide +kernel, rfl, by decide +kernel, by decide +kernel⟩
theorem ok_put_or_full (G : Gs K mg) (F : ∃ fd, FnP K "put_or_full" s_put_or_full [] (fA K "put_or_full") fd) (hm : mg "put_or_full" = some (.ref (fA K "put_or_full"))) (D_put_in : Df P w K mg base T 3 "put_in" 2 f_put_in) (XNoStep : ExK P w K mg base 1 "NoStep" (spX1 K (cA K "NoStep") "word")) : Df P w K mg base T 4 "put_or_full" 2 f_put_or_full := by
  obtain ⟨fd, F⟩ := F
  refine df_of hm F sc_put_or_full rfl (fun _ _ _ _ _ _ us hl => match us, hl with | [_, _], _ => rfl) ?_
  intro f cdv A outer s H E hr tk hp
  have hx := fun σ => passAt tk σ
  have hu := hr.units
  have hu0 := hr.units0
  have hu1 := u1 hr
  exact (ss_cons (s_set sc_put_or_full.nd pd_non)
  (ss_cons (s_try (cs := [("NoPlace", true)]) rfl rfl ⟨rfl, by decide, .inl G.g_NoPlace⟩ tk (fun q hq => by rw [List.mem_singleton.mp hq]; exact G.x_NoPlace) (fun _ _ _ tk2 _ => (ss_one (s_set sc_put_or_full.nd (pd_call D_put_in hr (fun σ => passAt tk2 σ) (pa_dcons (pd_var 0) (pa_dcons (pd_var 1) pa_dnil)))))) (fun _ _ _ => (ss_one (s_set sc_put_or_full.nd pd_non))))
  (ss_cons (s_if (pt_dcmp op_isN ok_isN (pd_var 2) pd_non (nomark _)) (ss_one (s_raise1 (f1 := "word") rfl tk XNoStep G.no_NoStep_word hr (pa_dcons (pd_str "full") pa_dnil))) ss_nil)
  (ss_one (s_ret (pd_var 2))))))
abbrev s_posts : Stmt := top 94
theorem sc_posts : FnScope ["value", "memory", "lane", "stretch", "ring"] ["value", "memory", "lane", "stretch"] (defScope s_posts) := ⟨rfl, rfl, rfl, by decide +kernel, rfl, by decide +kernel, by decide +kernel⟩
theorem ok_posts (G : Gs K mg) (F : ∃ fd, FnP K "posts" s_posts [] (fA K "posts") fd) (hm : mg "posts" = some (.ref (fA K "posts"))) (D_lane_turned : Df P w K mg base T 2 "lane_turned" 4 f_lane_turned) (D_put_or_full : Df P w K mg base T 4 "put_or_full" 2 f_put_or_full) : Df P w K mg base T 5 "posts" 4 f_posts := by
  obtain ⟨fd, F⟩ := F
  refine df_of hm F sc_posts rfl (fun _ _ _ _ _ _ us hl => match us, hl with | [_, _, _, _], _ => rfl) ?_
  intro f cdv A outer s H E hr tk hp
  have hx := fun σ => passAt tk σ
  have hu := hr.units
  have hu0 := hr.units0
  have hu1 := u1 hr
  exact (ss_cons (s_set sc_posts.nd (pd_call D_put_or_full hr hx (pa_dcons (pd_ix (pd_ix (pd_ix (pd_var 0) (pd_gint rfl G.i_LANES_AT)) (pd_var 2)) (pd_gint rfl G.i_INWARD_AT)) (pa_dcons (pd_var 3) pa_dnil))))
  (ss_one (s_ret (pd_tup (pa_dcons (pd_call D_lane_turned hr hx (pa_dcons (pd_var 0) (pa_dcons (pd_var 2) (pa_dcons (pd_gint rfl G.i_INWARD_AT) (pa_dcons (pd_var 4) pa_dnil))))) (pa_dcons (pd_var 1) (pa_dcons (pd_tup (pa_dcons (pd_tup (pa_dcons (pd_str "posted") (pa_dcons (pd_ix (pd_var 0) (pd_gint rfl G.i_HALF_AT)) (pa_dcons (pd_var 2) (pa_dcons (pd_var 3) pa_dnil))))) pa_dnil)) pa_dnil)))))))
abbrev s_need_wake : Stmt := top 97
theorem sc_need_wake : FnScope ["truth", "word", "at"] ["truth", "word", "at"] (defScope s_need_wake) := ⟨rfl, rfl, rfl, by decide +kernel, rfl, by decide +kernel, by decide +kernel⟩
theorem ok_need_wake (G : Gs K mg) (F : ∃ fd, FnP K "need_wake" s_need_wake [] (fA K "need_wake") fd) (hm : mg "need_wake" = some (.ref (fA K "need_wake"))) (XNoPaper : ExK P w K mg base 1 "NoPaper" (spX2 K (cA K "NoPaper") "word" "at")) : Df P w K mg base T 3 "need_wake" 3 f_need_wake := by
  obtain ⟨fd, F⟩ := F
  refine df_of hm F sc_need_wake rfl (fun _ _ _ _ _ _ us hl => match us, hl with | [_, _, _], _ => rfl) ?_
  intro f cdv A outer s H E hr tk hp
  have hx := fun σ => passAt tk σ
  have hu := hr.units
  have hu0 := hr.units0
  have hu1 := u1 hr
  exact (ss_one (s_if (pt_dnot (pt_dval (pd_var 0))) (ss_one (s_raise2 (f1 := "word") (f2 := "at") rfl tk XNoPaper G.no_NoPaper_word G.no_NoPaper_at hr (pa_dcons (pd_var 1) (pa_dcons (pd_var 2) pa_dnil)))) ss_nil))
abbrev s_is_wake_row : Stmt := top 98
theorem sc_is_wake_row : FnScope ["thing"] ["thing"] (defScope s_is_wake_row) := ⟨rfl, rfl, rfl, by decide +kernel, rfl, by decide +kernel, by decide +kernel⟩
theorem ok_is_wake_row (G : Gs K mg) (F : ∃ fd, FnP K "is_wake_row" s_is_wake_row [] (fA K "is_wake_row") fd) (hm : mg "is_wake_row" = some (.ref (fA K "is_wake_row"))) (D_is_number : Df P w K mg base T 1 "is_number" 1 f_is_number) : Df P w K mg base T 2 "is_wake_row" 1 f_is_wake_row := by
  obtain ⟨fd, F⟩ := F
  refine df_of hm F sc_is_wake_row rfl (fun _ _ _ _ _ _ us hl => match us, hl with | [_], _ => rfl) ?_
  intro f cdv A outer s H E hr tk hp
  have hx := fun σ => passAt tk σ
  have hu := hr.units
  have hu0 := hr.units0
  have hu1 := u1 hr
  exact (ss_cons (s_if (pw_dor (pt_dnot (pt_dval (pd_isi (x := "") (cn := "tuple") G.f_isinstance G.f_tuple (by decide +kernel) (pd_var 0)))) (pw_dor (pt_dcmp (op_neD hu) ok_ne (pd_callB call_len okn_len G.f_len (by decide +kernel) (pa_dcons (pd_var 0) pa_dnil)) pd_int (nomark _)) (pw_dor1 (pt_dnot (pt_dval (pd_isi (x := "") (cn := "str") G.f_isinstance G.f_str (by decide +kernel) (pd_ix (pd_var 0) pd_int))))))).pt (ss_one (s_ret pd_bl)) ss_nil)
  (ss_one (s_ret (pd_and (pd_cmp op_in_seq (ok_in false) (pd_ix (pd_var 0) pd_int) (pd_gref rfl G.t_WAKE_WORDS G.r_WAKE_WORDS) rfl) (pd_and (pd_call D_is_number hr hx (pa_dcons (pd_ix (pd_var 0) pd_int) pa_dnil)) (pd_one (pd_call D_is_number hr hx (pa_dcons (pd_ix (pd_var 0) pd_int) pa_dnil))))))))
abbrev s_look_at_row : Stmt := top 99
theorem sc_look_at_row : FnScope ["k", "row", "ahead", "lane", "is_due_now", "word", "clock", "many"] ["k", "row", "ahead", "lane", "is_due_now"] (defScope s_look_at_row) := ⟨rfl, rfl, rfl, by decide +kernel, rfl, by decide +kernel, by decide +kernel⟩
theorem ok_look_at_row (G : Gs K mg) (F : ∃ fd, FnP K "look_at_row" s_look_at_row [] (fA K "look_at_row") fd) (hm : mg "look_at_row" = some (.ref (fA K "look_at_row"))) (D_need_wake : Df P w K mg base T 3 "need_wake" 3 f_need_wake) : Df P w K mg base T 4 "look_at_row" 5 f_look_at_row := by
  obtain ⟨fd, F⟩ := F
  refine df_of hm F sc_look_at_row rfl (fun _ _ _ _ _ _ us hl => match us, hl with | [_, _, _, _, _], _ => rfl) ?_
  intro f cdv A outer s H E hr tk hp
  have hx := fun σ => passAt tk σ
  have hu := hr.units
  have hu0 := hr.units0
  have hu1 := u1 hr
  exact (ss_cons (s_asg (vs := [5, 6, 7]) (pd_var 1) (g_tup rfl (gs_cons (g_name (by simp) sc_look_at_row.nd) (gs_cons (g_name (by simp) sc_look_at_row.nd) (gs_cons (g_name (by simp) sc_look_at_row.nd) gs_nil)))))
  (ss_cons (s_expr (pd_call D_need_wake hr hx (pa_dcons (pd_or (pd_cmp (op_eqD hu) ok_eq (pd_var 0) pd_int (nomark _)) (pd_or (pd_cmp (op_eqD hu) ok_eq (pd_var 6) (pd_var 2) (nomark _)) (pd_one (pd_and (pd_cmp (op_neD hu) ok_ne (pd_var 5) (pd_str "raise") (nomark _)) (pd_one (pd_cmp op_gt ok_gt (pd_var 6) (pd_var 2) (nomark _))))))) (pa_dcons (pd_str "clock") (pa_dcons (pd_var 0) pa_dnil)))))
  (ss_cons (s_expr (pd_call D_need_wake hr hx (pa_dcons (pd_if (pt_dcmp (op_eqD hu) ok_eq (pd_var 5) (pd_str "poll") (nomark _)) (pd_cmp op_le ok_le (pd_var 7) (pd_ix (pd_var 3) pd_int) (nomark _)) (pd_cmp (op_eqD hu) ok_eq (pd_var 7) pd_int (nomark _))) (pa_dcons (pd_str "many") (pa_dcons (pd_var 0) pa_dnil)))))
  (ss_cons (s_expr (pd_call D_need_wake hr hx (pa_dcons (pd_or (pd_cmp (op_neD hu) ok_ne (pd_var 5) (pd_str "raise") (nomark _)) (pd_one (pd_var 4))) (pa_dcons (pd_str "early") (pa_dcons (pd_var 0) pa_dnil)))))
  (ss_one (s_expr (pd_call D_need_wake hr hx (pa_dcons (pd_or (pd_cmp (op_eqD hu) ok_eq (pd_var 5) (pd_str "raise") (nomark _)) (pd_one (pd_not (pd_var 4)))) (pa_dcons (pd_str "late") (pa_dcons (pd_var 0) pa_dnil))))))))))
abbrev s_lets_wakes : Stmt := top 100
theorem sc_lets_wakes : FnScope ["thing", "most", "wait", "lane", "ahead", "is_due_now", "k", "row"] ["thing", "most", "wait"] (defScope s_lets_wakes) := ⟨rfl, rfl, rfl, by decide +kernel, rfl, by decide +kernel, by decide +kernel⟩
theorem ok_lets_wakes (G : Gs K mg) (F : ∃ fd, FnP K "lets_wakes" s_lets_wakes [("most", V.int 2), ("wait", V.int 4)] (fA K "lets_wakes") fd) (hm : mg "lets_wakes" = some (.ref (fA K "lets_wakes"))) (D_befell : Df P w K mg base T 1 "befell" 2 f_befell) (D_is_due_behind : Df P w K mg base T 2 "is_due_behind" 3 f_is_due_behind) (D_need_wake : Df P w K mg base T 3 "need_wake" 3 f_need_wake) (D_is_wake_row : Df P w K mg base T 2 "is_wake_row" 1 f_is_wake_row) (D_look_at_row : Df P w K mg base T 4 "look_at_row" 5 f_look_at_row) : DfK P w K mg base T 5 "lets_wakes" 1 2 ["most", "wait"] f_lets_wakes := by
  obtain ⟨fd, F⟩ := F
  refine dfk_of hm F sc_lets_wakes rfl rfl (fun _ _ _ _ _ _ us ws l1 l2 => match us, ws, l1, l2 with | [_], [_, _], _, _ => rfl) ?_
  intro f cdv A outer s H E hr tk hp
  have hx := fun σ => passAt tk σ
  have hu := hr.units
  have hu0 := hr.units0
  have hu1 := u1 hr
  exact (ss_cons (s_expr (pd_call D_need_wake hr hx (pa_dcons (pd_and (pd_isi (x := "") (cn := "tuple") G.f_isinstance G.f_tuple (by decide +kernel) (pd_var 0)) (pd_one (pd_callL (cr_all rfl) okl_all G.f_all (by decide +kernel) (pl_lc (own := [("row", 7)]) rfl sc_lets_wakes.nd (i_tup (pd_var 0)) (blkOk_cl ["thing", "most", "wait", "lane", "ahead", "is_due_now", "k", "row"] (defScope s_lets_wakes) (by decide +kernel)) (fun _ _ _ _ _ => (g_name (by simp) sc_lets_wakes.nd)) (fun _ _ _ _ _ => pts_dnil) (fun _ _ _ _ _ => (pd_call D_is_wake_row hr (fun σ => passF σ) (pa_dcons (pd_var 7) pa_dnil))))))) (pa_dcons (pd_str "shape") (pa_dcons (pd_un un_neg ok_neg pd_int) pa_dnil)))))
  (ss_cons (s_par3 rfl sc_lets_wakes.nd (pa_dcons (pd_gref rfl G.t_BEGINNING G.r_BEGINNING) (pa_dcons pd_int (pa_dcons pd_bl pa_dnil))))
  (ss_cons (s_for (vs := [6, 7]) hp rfl (i_enum G.f_enumerate (pd_var 0)) (g_tup rfl (gs_cons (g_name (by simp) sc_lets_wakes.nd) (gs_cons (g_name (by simp) sc_lets_wakes.nd) gs_nil))) (ss_cons (s_expr (pd_call D_look_at_row hr hx (pa_dcons (pd_var 6) (pa_dcons (pd_var 7) (pa_dcons (pd_var 4) (pa_dcons (pd_var 3) (pa_dcons (pd_var 5) pa_dnil)))))))
  (ss_cons (s_par rfl sc_lets_wakes.nd (pa_dcons (pd_call D_befell hr hx (pa_dcons (pd_var 3) (pa_dcons (pd_var 7) pa_dnil))) (pa_dcons (pd_ix (pd_var 7) pd_int) pa_dnil)))
  (ss_one (s_set sc_lets_wakes.nd (pd_call D_is_due_behind hr hx (pa_dcons (pd_var 3) (pa_dcons (pd_var 7) (pa_dcons (pd_tup (pa_dcons (pd_var 1) (pa_dcons (pd_var 2) pa_dnil))) pa_dnil)))))))))
  (ss_cons (s_expr (pd_call D_need_wake hr hx (pa_dcons (pd_not (pd_var 5)) (pa_dcons (pd_str "late") (pa_dcons (pd_callB call_len okn_len G.f_len (by decide +kernel) (pa_dcons (pd_var 0) pa_dnil)) pa_dnil)))))
  (ss_one (s_ret (pd_callL call_len okl_len G.f_len (by decide +kernel) (pl_lc (own := [("row", 7)]) rfl sc_lets_wakes.nd (i_tup (pd_var 0)) (blkOk_cl ["thing", "most", "wait", "lane", "ahead", "is_due_now", "k", "row"] (defScope s_lets_wakes) (by decide +kernel)) (fun _ _ _ _ _ => (g_name (by simp) sc_lets_wakes.nd)) (fun _ _ _ _ _ => (pts_done (pt_dcmp (op_eqD hu) ok_eq (pd_ix (pd_var 7) pd_int) (pd_str "raise") (nomark _)))) (fun _ _ _ _ _ => (pd_var 7))))))))))
abbrev s__law_feed : Stmt := top 102
theorem sc__law_feed : FnScope ["_law_script"] ["_law_script"] (defScope s__law_feed) := ⟨rfl, rfl, rfl, by decide +kernel, rfl, by decide +kernel, by decide +kernel⟩
theorem ok__law_feed (G : Gs K mg) (F : ∃ fd, FnP K "_law_feed" s__law_feed [] (fA K "_law_feed") fd) (hm : mg "_law_feed" = some (.ref (fA K "_law_feed")))  : Df P w K mg base T 1 "_law_feed" 1 f__law_feed := by
  obtain ⟨fd, F⟩ := F
  refine df_of hm F sc__law_feed rfl (fun _ _ _ _ _ _ us hl => match us, hl with | [_], _ => rfl) ?_
  intro f cdv A outer s H E hr tk hp
  have hx := fun σ => passAt tk σ
  have hu := hr.units
  have hu0 := hr.units0
  have hu1 := u1 hr
  exact (ss_one (s_ret (pd_dict (pp_cons (k := "cells") (pd_reg (pl_listL G.f_list (pl_slTo (pd_var 0)))) (pp_cons (k := "at") pd_int (pp_cons (k := "left") pd_int (pp_cons (k := "count") pd_int pp_nil)))) (by decide))))
abbrev s__law_draw : Stmt := top 103
theorem sc__law_draw : FnScope ["_law_feed_here", "_law_many", "_law_figure", "_law_at", "_law_cell", "_law_mixed"] ["_law_feed_here", "_law_many"] (defScope s__law_draw) := ⟨rfl, rfl, rfl, by decide +kernel, rfl, by decide +kernel, by decide +kernel⟩
theorem ok__law_draw (G : Gs K mg) (F : ∃ fd, FnP K "_law_draw" s__law_draw [] (fA K "_law_draw") fd) (hm : mg "_law_draw" = some (.ref (fA K "_law_draw")))  : Df P w K mg base T 1 "_law_draw" 2 f__law_draw := by
  obtain ⟨fd, F⟩ := F
  refine df_of hm F sc__law_draw rfl (fun _ _ _ _ _ _ us hl => match us, hl with | [_, _], _ => rfl) ?_
  intro f cdv A outer s H E hr tk hp
  have hx := fun σ => passAt tk σ
  have hu := hr.units
  have hu0 := hr.units0
  have hu1 := u1 hr
  exact (ss_cons (s_putS "count" hu1 (pd_var 0) (pd_op op_addA ok_add (pd_getS "count" hu1 (pd_var 0)) pd_int))
  (ss_cons (s_if (pt_dcmp op_gt ok_gt (pd_getS "left" hu1 (pd_var 0)) pd_int (nomark _)) (ss_cons (s_set sc__law_draw.nd (pd_op op_mod ok_mod (pd_getS "left" hu1 (pd_var 0)) (pd_var 1)))
  (ss_cons (s_putS "left" hu1 (pd_var 0) (pd_op op_fdiv ok_div (pd_getS "left" hu1 (pd_var 0)) (pd_var 1)))
  (ss_one (s_ret (pd_var 2))))) ss_nil)
  (ss_cons (s_set sc__law_draw.nd (pd_getS "at" hu1 (pd_var 0)))
  (ss_cons (s_putS "at" hu1 (pd_var 0) (pd_op op_addA ok_add (pd_var 3) pd_int))
  (ss_cons (s_set sc__law_draw.nd (pd_if (pt_neNil hu (pd_getS "cells" hu1 (pd_var 0))) (pd_ix (pd_getS "cells" hu1 (pd_var 0)) (pd_op op_mod ok_mod (pd_var 3) (pd_callB call_len okn_len G.f_len (by decide +kernel) (pa_dcons (pd_getS "cells" hu1 (pd_var 0)) pa_dnil)))) pd_int))
  (ss_cons (s_if (pw_dand (pt_dcmp op_ge ok_ge (pd_var 4) (pd_op op_pow ok_pow pd_int pd_int) (nomark _)) (pw_dand1 (pt_dcmp op_lt ok_lt (pd_var 3) (pd_callB call_len okn_len G.f_len (by decide +kernel) (pa_dcons (pd_getS "cells" hu1 (pd_var 0)) pa_dnil)) (nomark _)))).pt (ss_cons (s_putS "left" hu1 (pd_var 0) (pd_op op_fdiv ok_div (pd_var 4) (pd_var 1)))
  (ss_one (s_ret (pd_op op_mod ok_mod (pd_var 4) (pd_var 1))))) ss_nil)
  (ss_cons (s_set sc__law_draw.nd (pd_op op_mod ok_mod (pd_op op_addA ok_add (pd_op op_addA ok_add (pd_op op_mod ok_mod (pd_var 4) pd_int) (pd_op (op_mul.or op_repT) ok_mul pd_int (pd_getS "count" hu1 (pd_var 0)))) pd_int) pd_int))
  (ss_cons (s_set sc__law_draw.nd (pd_op op_mod ok_mod (pd_op op_addA ok_add (pd_op op_addA ok_add (pd_op (op_mul.or op_repT) ok_mul (pd_var 5) (pd_var 5)) (pd_op (op_mul.or op_repT) ok_mul pd_int (pd_getS "count" hu1 (pd_var 0)))) pd_int) pd_int))
  (ss_one (s_ret (pd_op op_mod ok_mod (pd_op op_fdiv ok_div (pd_op op_mod ok_mod (pd_op op_addA ok_add (pd_op (op_mul.or op_repT) ok_mul (pd_var 5) (pd_var 5)) (pd_op (op_mul.or op_repT) ok_mul pd_int (pd_var 5))) pd_int) pd_int) (pd_var 1))))))))))))
abbrev s__law_lane : Stmt := top 104
theorem sc__law_lane : FnScope ["_law_wide", "_law_found"] ["_law_wide"] (defScope s__law_lane) := ⟨rfl, rfl, rfl, by decide +kernel, rfl, by decide +kernel, by decide +kernel⟩
theorem ok__law_lane (G : Gs K mg) (F : ∃ fd, FnP K "_law_lane" s__law_lane [] (fA K "_law_lane") fd) (hm : mg "_law_lane" = some (.ref (fA K "_law_lane"))) (D_void_ring : Df P w K mg base T 1 "void_ring" 1 f_void_ring) : Df P w K mg base T 2 "_law_lane" 1 f__law_lane := by
  obtain ⟨fd, F⟩ := F
  refine df_of hm F sc__law_lane rfl (fun _ _ _ _ _ _ us hl => match us, hl with | [_], _ => rfl) ?_
  intro f cdv A outer s H E hr tk hp
  have hx := fun σ => passAt tk σ
  have hu := hr.units
  have hu0 := hr.units0
  have hu1 := u1 hr
  exact (ss_cons (s_set sc__law_lane.nd (pd_dict (pp_cons (k := "out") (pd_call D_void_ring hr hx (pa_dcons (pd_var 0) pa_dnil)) (pp_cons (k := "told") pd_int (pp_cons (k := "next") pd_int (pp_cons (k := "through") (pd_reg (pl_disp pa_dnil)) (pp_cons (k := "inward") (pd_call D_void_ring hr hx (pa_dcons (pd_var 0) pa_dnil)) pp_nil))))) (by decide)))
  (ss_cons (s_expr (pd_upd (pd_var 1) (pd_dict (pp_cons (k := "box") (pd_reg (pl_disp pa_dnil)) (pp_cons (k := "since") pd_non (pp_cons (k := "masked") pd_bl pp_nil))) (by decide))))
  (ss_one (s_ret (pd_var 1)))))
end
end Dt
namespace Dt
open PySem PySem.Spec PyProof.Rows L2
section
variable {P : Program} {w : World} {K : PySem.W.Frag} {mg : Str → Option Value} {base : Heap} {T : List (Addr × Str)}
abbrev s__law_world : Stmt := top 105
theorem sc__law_world : FnScope ["_law_half", "_law_rights", "_law_shutet", "_law_tracks", "_law_wide", "_law_found", "_law_k"] ["_law_half", "_law_rights", "_law_shutet", "_law_tracks", "_law_wide"] (defScope s__law_world) := ⟨rfl, rfl, rfl, by decide +kernel, rfl, by decide +kernel, by decide +kernel⟩
theorem ok__law_world (G : Gs K mg) (F : ∃ fd, FnP K "_law_world" s__law_world [] (fA K "_law_world") fd) (hm : mg "_law_world" = some (.ref (fA K "_law_world"))) (D__law_lane : Df P w K mg base T 2 "_law_lane" 1 f__law_lane) : Df P w K mg base T 3 "_law_world" 5 f__law_world := by
  obtain ⟨fd, F⟩ := F
  refine df_of hm F sc__law_world rfl (fun _ _ _ _ _ _ us hl => match us, hl with | [_, _, _, _, _], _ => rfl) ?_
  intro f cdv A outer s H E hr tk hp
  have hx := fun σ => passAt tk σ
  have hu := hr.units
  have hu0 := hr.units0
  have hu1 := u1 hr
  exact (ss_cons (s_set sc__law_world.nd (pd_dict (pp_cons (k := "half") (pd_var 0) (pp_cons (k := "rights") (pd_var 1) (pp_cons (k := "purse") (pd_var 2) (pp_cons (k := "row") (pd_reg (pl_disp pa_dnil)) (pp_cons (k := "numbers") pd_dn (pp_cons (k := "joinings") pd_dn pp_nil)))))) (by decide)))
  (ss_cons (s_expr (pd_upd (pd_var 5) (pd_dict (pp_cons (k := "moves") (pd_tup pa_dnil) (pp_cons (k := "steers") (pd_tup pa_dnil) (pp_cons (k := "epoch") pd_int (pp_cons (k := "clock") pd_int (pp_cons (k := "stuck") (pd_tup pa_dnil) (pp_cons (k := "aside") pd_non pp_nil)))))) (by decide))))
  (ss_cons (s_expr (pd_upd (pd_var 5) (pd_dict (pp_cons (k := "memory") (pd_op (op_repT.or op_rep1) ok_mulT (pd_tup (pa_dcons (pd_op (op_repT.or op_rep1) ok_mulT (pd_tup (pa_dcons pd_int pa_dnil)) pd_int) pa_dnil)) (pd_callB call_len okn_len G.f_len (by decide +kernel) (pa_dcons (pd_var 1) pa_dnil))) (pp_cons (k := "far") (pd_reg (pl_disp pa_dnil)) (pp_cons (k := "numbered") pd_dn (pp_cons (k := "letters") pd_dn (pp_cons (k := "era") pd_int pp_nil))))) (by decide))))
  (ss_cons (s_expr (pd_upd (pd_var 5) (pd_dict (pp_cons (k := "lanes") (pd_reg (pl_lc (own := [("_law_k", 6)]) rfl sc__law_world.nd (i_rng1 G.f_range rfl (pa_dcons (pd_var 3) pa_dnil)) (blkOk_cl ["_law_half", "_law_rights", "_law_shutet", "_law_tracks", "_law_wide", "_law_found", "_law_k"] (defScope s__law_world) (by decide +kernel)) (fun _ _ _ _ _ => (g_name (by simp) sc__law_world.nd)) (fun _ _ _ _ _ => pts_dnil) (fun _ _ _ _ _ => (pd_call D__law_lane hr (fun σ => passF σ) (pa_dcons (pd_var 4) pa_dnil))))) (pp_cons (k := "cut") pd_int (pp_cons (k := "most") pd_int (pp_cons (k := "wait") pd_int pp_nil)))) (by decide))))
  (ss_one (s_ret (pd_var 5)))))))
abbrev s__law_stretch : Stmt := top 107
theorem sc__law_stretch : FnScope ["_law_feed_here", "_law_at"] ["_law_feed_here"] (defScope s__law_stretch) := ⟨rfl, rfl, rfl, by decide +kernel, rfl, by decide +kernel, by decide +kernel⟩
theorem ok__law_stretch (G : Gs K mg) (F : ∃ fd, FnP K "_law_stretch" s__law_stretch [] (fA K "_law_stretch") fd) (hm : mg "_law_stretch" = some (.ref (fA K "_law_stretch"))) (D__law_draw : Df P w K mg base T 1 "_law_draw" 2 f__law_draw) : Df P w K mg base T 2 "_law_stretch" 1 f__law_stretch := by
  obtain ⟨fd, F⟩ := F
  refine df_of hm F sc__law_stretch rfl (fun _ _ _ _ _ _ us hl => match us, hl with | [_], _ => rfl) ?_
  intro f cdv A outer s H E hr tk hp
  have hx := fun σ => passAt tk σ
  have hu := hr.units
  have hu0 := hr.units0
  have hu1 := u1 hr
  exact (ss_cons (s_set sc__law_stretch.nd (pd_call D__law_draw hr hx (pa_dcons (pd_var 0) (pa_dcons pd_int pa_dnil))))
  (ss_one (s_ret (pd_tup (pa_dcons (pd_call D__law_draw hr hx (pa_dcons (pd_var 0) (pa_dcons pd_int pa_dnil))) (pa_dcons (pd_var 1) (pa_dcons (pd_call D__law_draw hr hx (pa_dcons (pd_var 0) (pa_dcons (pd_op op_sub ok_sub pd_int (pd_var 1)) pa_dnil))) pa_dnil)))))))
abbrev s__law_some : Stmt := top 108
theorem sc__law_some : FnScope ["_law_feed_here", "_law_many", "_law_k"] ["_law_feed_here", "_law_many"] (defScope s__law_some) := ⟨rfl, rfl, rfl, by decide +kernel, rfl, by decide +kernel, by decide +kernel⟩
theorem ok__law_some (G : Gs K mg) (F : ∃ fd, FnP K "_law_some" s__law_some [] (fA K "_law_some") fd) (hm : mg "_law_some" = some (.ref (fA K "_law_some"))) (D__law_draw : Df P w K mg base T 1 "_law_draw" 2 f__law_draw) : Df P w K mg base T 2 "_law_some" 2 f__law_some := by
  obtain ⟨fd, F⟩ := F
  refine df_of hm F sc__law_some rfl (fun _ _ _ _ _ _ us hl => match us, hl with | [_, _], _ => rfl) ?_
  intro f cdv A outer s H E hr tk hp
  have hx := fun σ => passAt tk σ
  have hu := hr.units
  have hu0 := hr.units0
  have hu1 := u1 hr
  exact (ss_one (s_ret (pd_callLT call_tuple_of okl_tup G.f_tuple (by decide +kernel) (pl_lc (own := [("_law_k", 2)]) rfl sc__law_some.nd (i_rng1 G.f_range rfl (pa_dcons (pd_var 1) pa_dnil)) (blkOk_cl ["_law_feed_here", "_law_many", "_law_k"] (defScope s__law_some) (by decide +kernel)) (fun _ _ _ _ _ => (g_name (by simp) sc__law_some.nd)) (fun _ _ _ _ _ => pts_dnil) (fun _ _ _ _ _ => (pd_ixL (pl_disp (pa_dcons pd_int (pa_dcons pd_int (pa_dcons pd_int (pa_dcons (pd_op op_pow ok_pow pd_int pd_int) (pa_dcons pd_int (pa_dcons pd_int pa_dnil))))))) (pd_call D__law_draw hr (fun σ => passF σ) (pa_dcons (pd_var 0) (pa_dcons pd_int pa_dnil)))))))))
abbrev s__law_drawn : Stmt := top 109
theorem sc__law_drawn : FnScope ["_law_feed_here", "_law_rights", "_law_purses", "_law_shutet", "_law_world_here", "_law_k"] ["_law_feed_here"] (defScope s__law_drawn) := ⟨rfl, rfl, rfl, by decide +kernel, rfl, by decide +kernel, by decide +kernel⟩
theorem ok__law_drawn (G : Gs K mg) (F : ∃ fd, FnP K "_law_drawn" s__law_drawn [] (fA K "_law_drawn") fd) (hm : mg "_law_drawn" = some (.ref (fA K "_law_drawn"))) (D__law_draw : Df P w K mg base T 1 "_law_draw" 2 f__law_draw) (D__law_world : Df P w K mg base T 3 "_law_world" 5 f__law_world) : Df P w K mg base T 4 "_law_drawn" 1 f__law_drawn := by
  obtain ⟨fd, F⟩ := F
  refine df_of hm F sc__law_drawn rfl (fun _ _ _ _ _ _ us hl => match us, hl with | [_], _ => rfl) ?_
  intro f cdv A outer s H E hr tk hp
  have hx := fun σ => passAt tk σ
  have hu := hr.units
  have hu0 := hr.units0
  have hu1 := u1 hr
  exact (ss_cons (s_set sc__law_drawn.nd (pd_callLT call_tuple_of okl_tup G.f_tuple (by decide +kernel) (pl_lc (own := [("_law_k", 5)]) rfl sc__law_drawn.nd (i_rng1 G.f_range rfl (pa_dcons pd_int pa_dnil)) (blkOk_cl ["_law_feed_here", "_law_rights", "_law_purses", "_law_shutet", "_law_world_here", "_law_k"] (defScope s__law_drawn) (by decide +kernel)) (fun _ _ _ _ _ => (g_name (by simp) sc__law_drawn.nd)) (fun _ _ _ _ _ => pts_dnil) (fun _ _ _ _ _ => (pd_ixL (pl_disp (pa_dcons (pd_str "ann") (pa_dcons (pd_str "ann") (pa_dcons (pd_str "ann") (pa_dcons (pd_str "bob") pa_dnil))))) (pd_call D__law_draw hr (fun σ => passF σ) (pa_dcons (pd_var 0) (pa_dcons pd_int pa_dnil))))))))
  (ss_cons (s_set sc__law_drawn.nd (pd_reg (pl_disp (pa_dcons (pd_tup (pa_dcons (pd_tup (pa_dcons pd_int (pa_dcons pd_int pa_dnil))) (pa_dcons (pd_tup (pa_dcons pd_int (pa_dcons pd_int pa_dnil))) (pa_dcons (pd_tup (pa_dcons pd_int (pa_dcons pd_int pa_dnil))) pa_dnil)))) (pa_dcons (pd_tup (pa_dcons (pd_tup (pa_dcons pd_int (pa_dcons pd_int pa_dnil))) (pa_dcons (pd_tup (pa_dcons pd_int (pa_dcons pd_int pa_dnil))) (pa_dcons (pd_tup (pa_dcons pd_int (pa_dcons pd_int pa_dnil))) pa_dnil)))) (pa_dcons (pd_tup (pa_dcons (pd_tup (pa_dcons pd_int (pa_dcons pd_int pa_dnil))) (pa_dcons (pd_tup (pa_dcons pd_int (pa_dcons pd_int pa_dnil))) (pa_dcons (pd_tup (pa_dcons pd_int (pa_dcons pd_int pa_dnil))) pa_dnil)))) pa_dnil))))))
  (ss_cons (s_set sc__law_drawn.nd (pd_ixL (pl_cat (pd_var 2) (pl_disp (pa_dcons (pd_tup (pa_dcons (pd_tup (pa_dcons pd_int (pa_dcons pd_int pa_dnil))) (pa_dcons (pd_tup (pa_dcons pd_int (pa_dcons pd_int pa_dnil))) (pa_dcons (pd_tup (pa_dcons pd_int (pa_dcons pd_int pa_dnil))) pa_dnil)))) pa_dnil))) (pd_call D__law_draw hr hx (pa_dcons (pd_var 0) (pa_dcons pd_int pa_dnil)))))
  (ss_cons (s_set sc__law_drawn.nd (pd_call D__law_world hr hx (pa_dcons (pd_tup (pa_dcons pd_int (pa_dcons (pd_str "ann") pa_dnil))) (pa_dcons (pd_var 1) (pa_dcons (pd_var 3) (pa_dcons (pd_op op_addA ok_add pd_int (pd_call D__law_draw hr hx (pa_dcons (pd_var 0) (pa_dcons pd_int pa_dnil)))) (pa_dcons (pd_ixL (pl_disp (pa_dcons pd_int (pa_dcons pd_int (pa_dcons pd_int (pa_dcons pd_int pa_dnil))))) (pd_call D__law_draw hr hx (pa_dcons (pd_var 0) (pa_dcons pd_int pa_dnil)))) pa_dnil)))))))
  (ss_cons (s_putS2 "cut" "most" rfl hu1 (pd_var 4) (pd_var 4) (pd_tup (pa_dcons (pd_op op_addA ok_add pd_int (pd_call D__law_draw hr hx (pa_dcons (pd_var 0) (pa_dcons pd_int pa_dnil)))) (pa_dcons (pd_ixL (pl_disp (pa_dcons pd_int (pa_dcons pd_int (pa_dcons pd_int (pa_dcons pd_int pa_dnil))))) (pd_call D__law_draw hr hx (pa_dcons (pd_var 0) (pa_dcons pd_int pa_dnil)))) pa_dnil))))
  (ss_cons (s_putS "wait" hu1 (pd_var 4) (pd_ixL (pl_disp (pa_dcons pd_int (pa_dcons pd_int (pa_dcons pd_int (pa_dcons pd_int (pa_dcons pd_int pa_dnil)))))) (pd_call D__law_draw hr hx (pa_dcons (pd_var 0) (pa_dcons pd_int pa_dnil)))))
  (ss_one (s_ret (pd_var 4)))))))))
abbrev s__law_letter : Stmt := top 110
theorem sc__law_letter : FnScope ["_law_feed_here", "_law_world_here", "_law_talk", "_law_number", "_law_letter_here"] ["_law_feed_here", "_law_world_here"] (defScope s__law_letter) := ⟨rfl, rfl, rfl, by decide +kernel, rfl, by decide +kernel, by decide +kernel⟩
theorem ok__law_letter (G : Gs K mg) (F : ∃ fd, FnP K "_law_letter" s__law_letter [] (fA K "_law_letter") fd) (hm : mg "_law_letter" = some (.ref (fA K "_law_letter"))) (D_pieces_of : DfK P w K mg base T 3 "pieces_of" 1 2 ["epoch", "cut"] f_pieces_of) (D__law_draw : Df P w K mg base T 1 "_law_draw" 2 f__law_draw) (D__law_some : Df P w K mg base T 2 "_law_some" 2 f__law_some) : Df P w K mg base T 4 "_law_letter" 2 f__law_letter := by
  obtain ⟨fd, F⟩ := F
  refine df_of hm F sc__law_letter rfl (fun _ _ _ _ _ _ us hl => match us, hl with | [_, _], _ => rfl) ?_
  intro f cdv A outer s H E hr tk hp
  have hx := fun σ => passAt tk σ
  have hu := hr.units
  have hu0 := hr.units0
  have hu1 := u1 hr
  exact (ss_cons (s_set sc__law_letter.nd (pd_tup (pa_dcons (pd_ixL (pl_disp (pa_dcons (pd_tup (pa_dcons pd_int (pa_dcons (pd_str "bob") pa_dnil))) (pa_dcons (pd_tup (pa_dcons pd_int (pa_dcons (pd_str "cy") pa_dnil))) pa_dnil))) (pd_call D__law_draw hr hx (pa_dcons (pd_var 0) (pa_dcons pd_int pa_dnil)))) (pa_dcons (pd_getS "half" hu1 (pd_var 1)) (pa_dcons (pd_ixL (pl_disp (pa_dcons (pd_str "hi") (pa_dcons (pd_str "yo") pa_dnil))) (pd_call D__law_draw hr hx (pa_dcons (pd_var 0) (pa_dcons pd_int pa_dnil)))) pa_dnil)))))
  (ss_cons (s_putS "era" hu1 (pd_var 1) (pd_op op_addA ok_add (pd_getS "era" hu1 (pd_var 1)) (pd_callTy call_int1 okn_int1 G.f_int (by decide +kernel) (pa_dcons (pd_cmp (op_eqD hu) ok_eq (pd_call D__law_draw hr hx (pa_dcons (pd_var 0) (pa_dcons pd_int pa_dnil))) pd_int (nomark _)) pa_dnil))))
  (ss_cons (s_set sc__law_letter.nd (pd_op op_addA ok_add (pd_getN hu (pd_getS "numbered" hu1 (pd_var 1)) (pa_dcons (pd_var 2) (pa_dcons pd_int pa_dnil))) (pd_callTy call_int1 okn_int1 G.f_int (by decide +kernel) (pa_dcons (pd_cmp (op_eqD hu) ok_eq (pd_call D__law_draw hr hx (pa_dcons (pd_var 0) (pa_dcons pd_int pa_dnil))) pd_int (nomark _)) pa_dnil))))
  (ss_cons (s_putN hu (pd_getS "numbered" hu1 (pd_var 1)) (pd_var 2) (pd_op op_addA ok_add (pd_var 3) pd_int))
  (ss_cons (s_set sc__law_letter.nd (pd_tup (pa_dcons (pd_var 2) (pa_dcons (pd_var 3) (pa_dcons (pd_call D__law_some hr hx (pa_dcons (pd_var 0) (pa_dcons (pd_call D__law_draw hr hx (pa_dcons (pd_var 0) (pa_dcons pd_int pa_dnil))) pa_dnil))) pa_dnil)))))
  (ss_cons (s_putN hu (pd_getS "letters" hu1 (pd_var 1)) (pd_tup (pa_dcons (pd_var 2) (pa_dcons (pd_var 3) pa_dnil))) (pd_ix (pd_var 4) pd_int))
  (ss_one (s_expr (pd_ext (pd_getS "far" hu1 (pd_var 1)) (pl_listT G.f_list (pd_callK D_pieces_of hr hx (pa_dcons (pd_var 4) pa_dnil) (pk_dcons (pd_getS "era" hu1 (pd_var 1)) (pk_dcons (pd_op op_addA ok_add pd_int (pd_call D__law_draw hr hx (pa_dcons (pd_var 0) (pa_dcons pd_int pa_dnil)))) pk_dnil)))))))))))))
abbrev s__law_piece : Stmt := top 111
theorem sc__law_piece : FnScope ["_law_feed_here", "_law_world_here", "_law_way", "_law_piece_here"] ["_law_feed_here", "_law_world_here"] (defScope s__law_piece) := ⟨rfl, rfl, rfl, by decide +kernel, rfl, by decide +kernel, by decide +kernel⟩
theorem ok__law_piece (G : Gs K mg) (F : ∃ fd, FnP K "_law_piece" s__law_piece [] (fA K "_law_piece") fd) (hm : mg "_law_piece" = some (.ref (fA K "_law_piece"))) (D_bent : DfK P w K mg base T 1 "bent" 1 1 ["word"] f_bent) (D__law_draw : Df P w K mg base T 1 "_law_draw" 2 f__law_draw) (D__law_letter : Df P w K mg base T 4 "_law_letter" 2 f__law_letter) : Df P w K mg base T 5 "_law_piece" 2 f__law_piece := by
  obtain ⟨fd, F⟩ := F
  refine df_of hm F sc__law_piece rfl (fun _ _ _ _ _ _ us hl => match us, hl with | [_, _], _ => rfl) ?_
  intro f cdv A outer s H E hr tk hp
  have hx := fun σ => passAt tk σ
  have hu := hr.units
  have hu0 := hr.units0
  have hu1 := u1 hr
  exact (ss_cons (s_if (pw_dor (pt_eqNil hu (pd_getS "far" hu1 (pd_var 1))) (pw_dor1 (pt_dcmp (op_eqD hu) ok_eq (pd_call D__law_draw hr hx (pa_dcons (pd_var 0) (pa_dcons pd_int pa_dnil))) pd_int (nomark _)))).pt (ss_one (s_expr (pd_call D__law_letter hr hx (pa_dcons (pd_var 0) (pa_dcons (pd_var 1) pa_dnil))))) ss_nil)
  (ss_cons (s_par rfl sc__law_piece.nd (pa_dcons (pd_call D__law_draw hr hx (pa_dcons (pd_var 0) (pa_dcons pd_int pa_dnil))) (pa_dcons (pd_pop (pd_getS "far" hu1 (pd_var 1)) (pa_dcons pd_int pa_dnil)) pa_dnil)))
  (ss_cons (s_if (pw_dand (pt_dcmp (op_eqD hu) ok_eq (pd_var 2) pd_int (nomark _)) (pw_dand1 (pt_neNil hu (pd_getS "far" hu1 (pd_var 1))))).pt (ss_one (s_set sc__law_piece.nd (pd_pop (pd_getS "far" hu1 (pd_var 1)) (pa_dcons pd_int pa_dnil)))) ss_nil)
  (ss_cons (s_if (pt_dcmp (op_eqD hu) ok_eq (pd_var 2) pd_int (nomark _)) (ss_one (s_expr (pd_insert (pd_getS "far" hu1 (pd_var 1)) (pa_dcons pd_int (pa_dcons (pd_var 3) pa_dnil))))) ss_nil)
  (ss_one (s_ret (pd_if (pt_dcmp (op_eqD hu) ok_eq (pd_var 2) pd_int (nomark _)) (pd_callK D_bent hr hx (pa_dcons (pd_var 3) pa_dnil) (pk_dcons (pd_call D__law_draw hr hx (pa_dcons (pd_var 0) (pa_dcons pd_int pa_dnil))) pk_dnil)) (pd_var 3))))))))
abbrev s__law_value : Stmt := top 114
theorem sc__law_value : FnScope ["_law_world_here"] ["_law_world_here"] (defScope s__law_value) := ⟨rfl, rfl, rfl, by decide +kernel, rfl, by decide +kernel, by decide +kernel⟩
theorem ok__law_value (G : Gs K mg) (F : ∃ fd, FnP K "_law_value" s__law_value [] (fA K "_law_value") fd) (hm : mg "_law_value" = some (.ref (fA K "_law_value")))  : Df P w K mg base T 1 "_law_value" 1 f__law_value := by
  obtain ⟨fd, F⟩ := F
  refine df_of hm F sc__law_value rfl (fun _ _ _ _ _ _ us hl => match us, hl with | [_], _ => rfl) ?_
  intro f cdv A outer s H E hr tk hp
  have hx := fun σ => passAt tk σ
  have hu := hr.units
  have hu0 := hr.units0
  have hu1 := u1 hr
  exact (ss_one (s_ret (pd_getS "value" hu1 (pd_var 0))))
abbrev s__law_program : Stmt := top 112
theorem sc__law_program : FnScope ["_law_world_here", "_law_act_here", "_law_value_here", "_law_memory", "_law_verb", "_law_cap", "_law_span", "_law_hour"] ["_law_world_here", "_law_act_here"] (defScope s__law_program) := ⟨rfl, rfl, rfl, by decide +kernel, rfl, by decide +kernel, by decide +kernel⟩
theorem ok__law_program (G : Gs K mg) (F : ∃ fd, FnP K "_law_program" s__law_program [] (fA K "_law_program") fd) (hm : mg "_law_program" = some (.ref (fA K "_law_program"))) (D_polled : Df P w K mg base T 5 "polled" 4 f_polled) (D_unmasked : DfK P w K mg base T 4 "unmasked" 3 3 ["clock", "most", "wait"] f_unmasked) (D_ticked : DfK P w K mg base T 5 "ticked" 2 3 ["clock", "most", "wait"] f_ticked) (D_comes_in : DfK P w K mg base T 6 "comes_in" 4 3 ["clock", "most", "wait"] f_comes_in) (D_posts : Df P w K mg base T 5 "posts" 4 f_posts) (D__law_value : Df P w K mg base T 1 "_law_value" 1 f__law_value) : Df P w K mg base T 7 "_law_program" 2 f__law_program := by
  obtain ⟨fd, F⟩ := F
  refine df_of hm F sc__law_program rfl (fun _ _ _ _ _ _ us hl => match us, hl with | [_, _], _ => rfl) ?_
  intro f cdv A outer s H E hr tk hp
  have hx := fun σ => passAt tk σ
  have hu := hr.units
  have hu0 := hr.units0
  have hu1 := u1 hr
  exact (ss_cons (s_par3 rfl sc__law_program.nd (pa_dcons (pd_call D__law_value hr hx (pa_dcons (pd_var 0) pa_dnil)) (pa_dcons (pd_getS "memory" hu1 (pd_var 0)) (pa_dcons (pd_ix (pd_var 1) pd_int) pa_dnil))))
  (ss_cons (s_par3 rfl sc__law_program.nd (pa_dcons (pd_getS "most" hu1 (pd_var 0)) (pa_dcons (pd_getS "wait" hu1 (pd_var 0)) (pa_dcons (pd_getS "clock" hu1 (pd_var 0)) pa_dnil))))
  (ss_cons (s_if (pt_dcmp (op_eqD hu) ok_eq (pd_var 4) (pd_str "post") (nomark _)) (ss_one (s_ret (pd_call D_posts hr hx (pa_dcons (pd_var 2) (pa_dcons (pd_var 3) (pa_dcons (pd_ix (pd_var 1) pd_int) (pa_dcons (pd_ix (pd_var 1) pd_int) pa_dnil))))))) ss_nil)
  (ss_cons (s_if (pt_dcmp (op_eqD hu) ok_eq (pd_var 4) (pd_str "in") (nomark _)) (ss_one (s_ret (pd_callK D_comes_in hr hx (pa_dcons (pd_var 2) (pa_dcons (pd_var 3) (pa_dcons (pd_getS "rights" hu1 (pd_var 0)) (pa_dcons (pd_ix (pd_var 1) pd_int) pa_dnil)))) (pk_dcons (pd_var 7) (pk_dcons (pd_var 5) (pk_dcons (pd_var 6) pk_dnil)))))) ss_nil)
  (ss_cons (s_if (pt_dcmp (op_eqD hu) ok_eq (pd_var 4) (pd_str "poll") (nomark _)) (ss_one (s_ret (pd_call D_polled hr hx (pa_dcons (pd_var 2) (pa_dcons (pd_var 3) (pa_dcons (pd_ix (pd_var 1) pd_int) (pa_dcons (pd_ix (pd_var 1) pd_int) pa_dnil))))))) ss_nil)
  (ss_cons (s_if (pt_dcmp (op_eqD hu) ok_eq (pd_var 4) (pd_str "unmask") (nomark _)) (ss_one (s_ret (pd_callK D_unmasked hr hx (pa_dcons (pd_var 2) (pa_dcons (pd_var 3) (pa_dcons (pd_ix (pd_var 1) pd_int) pa_dnil))) (pk_dcons (pd_var 7) (pk_dcons (pd_var 5) (pk_dcons (pd_var 6) pk_dnil)))))) ss_nil)
  (ss_one (s_ret (pd_callK D_ticked hr hx (pa_dcons (pd_var 2) (pa_dcons (pd_var 3) pa_dnil)) (pk_dcons (pd_op op_addA ok_add (pd_var 7) pd_int) (pk_dcons (pd_var 5) (pk_dcons (pd_var 6) pk_dnil))))))))))))
abbrev s__law_act : Stmt := top 113
theorem sc__law_act : FnScope ["_law_feed_here", "_law_world_here", "_law_menu", "_law_verb", "_law_k"] ["_law_feed_here", "_law_world_here", "_law_menu"] (defScope s__law_act) := ⟨rfl, rfl, rfl, by decide +kernel, rfl, by decide +kernel, by decide +kernel⟩
theorem ok__law_act (G : Gs K mg) (F : ∃ fd, FnP K "_law_act" s__law_act [] (fA K "_law_act") fd) (hm : mg "_law_act" = some (.ref (fA K "_law_act"))) (D__law_draw : Df P w K mg base T 1 "_law_draw" 2 f__law_draw) (D__law_stretch : Df P w K mg base T 2 "_law_stretch" 1 f__law_stretch) (D__law_piece : Df P w K mg base T 5 "_law_piece" 2 f__law_piece) : Df P w K mg base T 6 "_law_act" 3 f__law_act := by
  obtain ⟨fd, F⟩ := F
  refine df_of hm F sc__law_act rfl (fun _ _ _ _ _ _ us hl => match us, hl with | [_, _, _], _ => rfl) ?_
  intro f cdv A outer s H E hr tk hp
  have hx := fun σ => passAt tk σ
  have hu := hr.units
  have hu0 := hr.units0
  have hu1 := u1 hr
  exact (ss_cons (s_par rfl sc__law_act.nd (pa_dcons (pd_ix (pd_var 2) (pd_call D__law_draw hr hx (pa_dcons (pd_var 0) (pa_dcons (pd_callB call_len okn_len G.f_len (by decide +kernel) (pa_dcons (pd_var 2) pa_dnil)) pa_dnil)))) (pa_dcons (pd_call D__law_draw hr hx (pa_dcons (pd_var 0) (pa_dcons (pd_callB call_len okn_len G.f_len (by decide +kernel) (pa_dcons (pd_getS "lanes" hu1 (pd_var 1)) pa_dnil)) pa_dnil))) pa_dnil)))
  (ss_cons (s_if (pt_dcmp (op_eqD hu) ok_eq (pd_var 3) (pd_str "post") (nomark _)) (ss_one (s_ret (pd_tup (pa_dcons (pd_var 3) (pa_dcons (pd_var 4) (pa_dcons (pd_call D__law_stretch hr hx (pa_dcons (pd_var 0) pa_dnil)) pa_dnil)))))) ss_nil)
  (ss_cons (s_if (pt_dcmp (op_eqD hu) ok_eq (pd_var 3) (pd_str "in") (nomark _)) (ss_one (s_ret (pd_tup (pa_dcons (pd_var 3) (pa_dcons (pd_call D__law_piece hr hx (pa_dcons (pd_var 0) (pa_dcons (pd_var 1) pa_dnil))) pa_dnil))))) ss_nil)
  (ss_cons (s_if (pt_dcmp (op_eqD hu) ok_eq (pd_var 3) (pd_str "poll") (nomark _)) (ss_one (s_ret (pd_tup (pa_dcons (pd_var 3) (pa_dcons (pd_var 4) (pa_dcons (pd_call D__law_draw hr hx (pa_dcons (pd_var 0) (pa_dcons pd_int pa_dnil))) pa_dnil)))))) ss_nil)
  (ss_one (s_ret (pd_if (pt_dcmp op_in_seq (ok_in false) (pd_var 3) (pd_tup (pa_dcons (pd_str "put") (pa_dcons (pd_str "tick") pa_dnil))) rfl) (pd_tup (pa_dcons (pd_var 3) pa_dnil)) (pd_tup (pa_dcons (pd_var 3) (pa_dcons (pd_var 4) pa_dnil))))))))))
abbrev s__law_by_program : Stmt := top 115
theorem sc__law_by_program : FnScope ["_law_feed_here", "_law_world_here", "_law_wide", "_law_tracks"] ["_law_feed_here"] (defScope s__law_by_program) := ⟨rfl, rfl, rfl, by decide +kernel, rfl, by decide +kernel, by decide +kernel⟩
theorem ok__law_by_program (G : Gs K mg) (F : ∃ fd, FnP K "_law_by_program" s__law_by_program [] (fA K "_law_by_program") fd) (hm : mg "_law_by_program" = some (.ref (fA K "_law_by_program"))) (D_half_of : DfK P w K mg base T 3 "half_of" 1 3 ["purse", "lanes", "size"] f_half_of) (D__law_drawn : Df P w K mg base T 4 "_law_drawn" 1 f__law_drawn) : Df P w K mg base T 5 "_law_by_program" 1 f__law_by_program := by
  obtain ⟨fd, F⟩ := F
  refine df_of hm F sc__law_by_program rfl (fun _ _ _ _ _ _ us hl => match us, hl with | [_], _ => rfl) ?_
  intro f cdv A outer s H E hr tk hp
  have hx := fun σ => passAt tk σ
  have hu := hr.units
  have hu0 := hr.units0
  have hu1 := u1 hr
  exact (ss_cons (s_set sc__law_by_program.nd (pd_call D__law_drawn hr hx (pa_dcons (pd_var 0) pa_dnil)))
  (ss_cons (s_par rfl sc__law_by_program.nd (pa_dcons (pd_ix (pd_getS "out" hu1 (pd_ix (pd_getS "lanes" hu1 (pd_var 1)) pd_int)) pd_int) (pa_dcons (pd_callB call_len okn_len G.f_len (by decide +kernel) (pa_dcons (pd_getS "lanes" hu1 (pd_var 1)) pa_dnil)) pa_dnil)))
  (ss_cons (s_putS "value" hu1 (pd_var 1) (pd_callK D_half_of hr hx (pa_dcons (pd_getS "half" hu1 (pd_var 1)) pa_dnil) (pk_dcons (pd_getS "purse" hu1 (pd_var 1)) (pk_dcons (pd_var 3) (pk_dcons (pd_var 2) pk_dnil)))))
  (ss_one (s_ret (pd_var 1))))))
abbrev s__law_noted : Stmt := top 117
theorem sc__law_noted : FnScope ["_law_world_here", "_law_act_here", "_law_events", "_law_logs", "_law_hour", "_law_event", "_law_k"] ["_law_world_here", "_law_act_here", "_law_events", "_law_logs"] (defScope s__law_noted) := ⟨rfl, rfl, rfl, by decide +kernel, rfl, by decide +kernel, by decide +kernel⟩
theorem ok__law_noted (G : Gs K mg) (F : ∃ fd, FnP K "_law_noted" s__law_noted [] (fA K "_law_noted") fd) (hm : mg "_law_noted" = some (.ref (fA K "_law_noted")))  : Df P w K mg base T 1 "_law_noted" 4 f__law_noted := by
  obtain ⟨fd, F⟩ := F
  refine df_of hm F sc__law_noted rfl (fun _ _ _ _ _ _ us hl => match us, hl with | [_, _, _, _], _ => rfl) ?_
  intro f cdv A outer s H E hr tk hp
  have hx := fun σ => passAt tk σ
  have hu := hr.units
  have hu0 := hr.units0
  have hu1 := u1 hr
  exact (ss_cons (s_set sc__law_noted.nd (pd_getS "clock" hu1 (pd_var 0)))
  (ss_cons (s_for (vs := [5]) hp rfl (i_tup (pd_var 2)) (g_name (by simp) sc__law_noted.nd) (ss_cons (s_if (pt_dcmp (op_eqD hu) ok_eq (pd_ix (pd_var 5) pd_int) (pd_str "filled") (nomark _)) (ss_one (s_expr (pd_append (pd_ix (pd_var 3) (pd_ix (pd_var 5) pd_int)) (pa_dcons (pd_tup (pa_dcons (pd_str "fill") (pa_dcons (pd_var 4) (pa_dcons pd_int pa_dnil)))) pa_dnil)))) ss_nil)
  (ss_cons (s_if (pt_dcmp (op_eqD hu) ok_eq (pd_ix (pd_var 5) pd_int) (pd_str "unmasked") (nomark _)) (ss_one (s_expr (pd_append (pd_ix (pd_var 3) (pd_ix (pd_var 5) pd_int)) (pa_dcons (pd_tup (pa_dcons (pd_str "unmask") (pa_dcons (pd_var 4) (pa_dcons pd_int pa_dnil)))) pa_dnil)))) ss_nil)
  (ss_one (s_if (pw_dand (pt_dcmp (op_eqD hu) ok_eq (pd_ix (pd_var 5) pd_int) (pd_str "raised") (nomark _)) (pw_dand1 (pt_dcmp (op_neD hu) ok_ne (pd_ix (pd_var 1) pd_int) (pd_str "tick") (nomark _)))).pt (ss_one (s_expr (pd_append (pd_ix (pd_var 3) (pd_ix (pd_var 5) pd_int)) (pa_dcons (pd_tup (pa_dcons (pd_str "raise") (pa_dcons (pd_ix (pd_var 5) pd_int) (pa_dcons pd_int pa_dnil)))) pa_dnil)))) ss_nil)))))
  (ss_cons (s_if (pt_dcmp (op_eqD hu) ok_eq (pd_ix (pd_var 1) pd_int) (pd_str "poll") (nomark _)) (ss_one (s_expr (pd_append (pd_ix (pd_var 3) (pd_ix (pd_var 1) pd_int)) (pa_dcons (pd_tup (pa_dcons (pd_str "poll") (pa_dcons (pd_var 4) (pa_dcons (pd_callB call_len okn_len G.f_len (by decide +kernel) (pa_dcons (pd_var 2) pa_dnil)) pa_dnil)))) pa_dnil)))) ss_nil)
  (ss_one (s_if (pt_dcmp (op_eqD hu) ok_eq (pd_ix (pd_var 1) pd_int) (pd_str "tick") (nomark _)) (ss_one (s_for (vs := [6]) hp rfl (i_rng1 G.f_range rfl (pa_dcons (pd_callB call_len okn_len G.f_len (by decide +kernel) (pa_dcons (pd_var 3) pa_dnil)) pa_dnil)) (g_name (by simp) sc__law_noted.nd) (ss_cons (s_expr (pd_append (pd_ix (pd_var 3) (pd_var 6)) (pa_dcons (pd_tup (pa_dcons (pd_str "tick") (pa_dcons (pd_var 4) (pa_dcons pd_int pa_dnil)))) pa_dnil)))
  (ss_one (s_expr (pd_ext (pd_ix (pd_var 3) (pd_var 6)) (pl_lc (own := [("_law_event", 5)]) rfl sc__law_noted.nd (i_tup (pd_var 2)) (blkOk_cl ["_law_world_here", "_law_act_here", "_law_events", "_law_logs", "_law_hour", "_law_event", "_law_k"] (defScope s__law_noted) (by decide +kernel)) (fun _ _ _ _ _ => (g_name (by simp) sc__law_noted.nd)) (fun _ _ _ _ _ => (pts_done (pt_dcmp (op_eqD hu) ok_eq (pd_ix (pd_var 5) pd_int) (pd_var 6) (nomark _)))) (fun _ _ _ _ _ => (pd_tup (pa_dcons (pd_str "raise") (pa_dcons (pd_ix (pd_var 5) pd_int) (pa_dcons pd_int pa_dnil)))))))))))) ss_nil)))))
abbrev s_law : Stmt := top 119
theorem sc_law : FnScope ["_law_script", "_law_feed_here", "_law_menu", "_law_turn", "_law_world_here", "_law_logs", "_law_lap", "_law_act_here", "_law_events", "_law_k", "_law_log"] ["_law_script"] (defScope s_law) := ⟨rfl, rfl, rfl, by decide +kernel, rfl, by decide +kernel, by decide +kernel⟩
theorem ok_law (G : Gs K mg) (F : ∃ fd, FnP K "law" s_law [] (fA K "law") fd) (hm : mg "law" = some (.ref (fA K "law"))) (D__law_feed : Df P w K mg base T 1 "_law_feed" 1 f__law_feed) (D__law_act : Df P w K mg base T 6 "_law_act" 3 f__law_act) (D__law_by_program : Df P w K mg base T 5 "_law_by_program" 1 f__law_by_program) (D__law_done : Df P w K mg base T 11 "_law_done" 2 f__law_done) (D__law_noted : Df P w K mg base T 1 "_law_noted" 4 f__law_noted) (D__law_is_log : Df P w K mg base T 9 "_law_is_log" 3 f__law_is_log) : Df P w K mg base T 12 "law" 1 f_law := by
  obtain ⟨fd, F⟩ := F
  refine df_of hm F sc_law rfl (fun _ _ _ _ _ _ us hl => match us, hl with | [_], _ => rfl) ?_
  intro f cdv A outer s H E hr tk hp
  have hx := fun σ => passAt tk σ
  have hu := hr.units
  have hu0 := hr.units0
  have hu1 := u1 hr
  exact (ss_cons (s_set sc_law.nd (pd_call D__law_feed hr hx (pa_dcons (pd_var 0) pa_dnil)))
  (ss_cons (s_set sc_law.nd (pd_reg (pl_disp (pa_dcons (pd_str "in") (pa_dcons (pd_str "in") (pa_dcons (pd_str "in") (pa_dcons (pd_str "in") (pa_dcons (pd_str "in") (pa_dcons (pd_str "post") (pa_dcons (pd_str "post") (pa_dcons (pd_str "post") (pa_dcons (pd_str "poll") (pa_dcons (pd_str "unmask") (pa_dcons (pd_str "unmask") (pa_dcons (pd_str "tick") (pa_dcons (pd_str "tick") pa_dnil))))))))))))))))
  (ss_cons (s_for (vs := [3]) hp rfl (i_rng1 G.f_range rfl (pa_dcons pd_int pa_dnil)) (g_name (by simp) sc_law.nd) (ss_cons (s_set sc_law.nd (pd_call D__law_by_program hr hx (pa_dcons (pd_var 1) pa_dnil)))
  (ss_cons (s_putS "rights" hu1 (pd_var 4) (pd_op (op_repT.or op_rep1) ok_mulT (pd_tup (pa_dcons (pd_str "ann") pa_dnil)) pd_int))
  (ss_cons (s_setLc (own := [("_law_k", 9)]) rfl sc_law.nd rfl rfl (i_rng1 G.f_range rfl (pa_dcons (pd_callB call_len okn_len G.f_len (by decide +kernel) (pa_dcons (pd_getS "lanes" hu1 (pd_var 4)) pa_dnil)) pa_dnil)) (blkOk_cl ["_law_script", "_law_feed_here", "_law_menu", "_law_turn", "_law_world_here", "_law_logs", "_law_lap", "_law_act_here", "_law_events", "_law_k", "_law_log"] (defScope s_law) (by decide +kernel)) (fun _ _ _ _ _ => (g_name (by simp) sc_law.nd)) (fun _ _ _ _ _ => pts_dnil) (fun _ _ _ _ _ => (pd_reg (pl_disp pa_dnil))))
  (ss_cons (s_for (vs := [6]) hp rfl (i_rng1 G.f_range rfl (pa_dcons pd_int pa_dnil)) (g_name (by simp) sc_law.nd) (ss_cons (s_set sc_law.nd (pd_call D__law_act hr hx (pa_dcons (pd_var 1) (pa_dcons (pd_var 4) (pa_dcons (pd_var 2) pa_dnil)))))
  (ss_cons (s_set sc_law.nd (pd_call D__law_done hr hx (pa_dcons (pd_var 4) (pa_dcons (pd_var 7) pa_dnil))))
  (ss_one (s_expr (pd_call D__law_noted hr hx (pa_dcons (pd_var 4) (pa_dcons (pd_var 7) (pa_dcons (pd_var 8) (pa_dcons (pd_var 5) pa_dnil))))))))))
  (ss_one (s_if (pt_neNilL hu (pl_lcLoc (own := [("_law_log", 10)]) rfl sc_law.nd (pd_var 5) (blkOk_cl ["_law_script", "_law_feed_here", "_law_menu", "_law_turn", "_law_world_here", "_law_logs", "_law_lap", "_law_act_here", "_law_events", "_law_k", "_law_log"] (defScope s_law) (by decide +kernel)) (fun _ _ _ _ _ => (g_name (by simp) sc_law.nd)) (fun _ _ _ _ _ => (pts_done (pt_dnot (pt_dval (pd_call D__law_is_log hr (fun σ => passF σ) (pa_dcons (pd_callTy call_tuple_of okn_tup G.f_tuple (by decide +kernel) (pa_dcons (pd_var 10) pa_dnil)) (pa_dcons (pd_getS "most" hu1 (pd_var 4)) (pa_dcons (pd_getS "wait" hu1 (pd_var 4)) pa_dnil)))))))) (fun _ _ _ _ _ => (pd_var 10)))) (ss_one (s_ret pd_bl)) ss_nil)))))))
  (ss_one (s_ret pd_bl)))))
end
end Dt
namespace Dt
open PySem PySem.Spec PyProof.Rows L2
section
variable {P : Program} {w : World} {K : PySem.W.Frag} {mg : Str → Option Value} {base : Heap} {T : List (Addr × Str)}
abbrev s_with_talk : Stmt := top 52
theorem sc_with_talk : FnScope ["pairs", "talk", "thing", "found"] ["pairs", "talk", "thing"] (defScope s_with_talk) := ⟨rfl, rfl, rfl, by decide +kernel, rfl, by decide +kernel, by decide +kernel⟩
theorem ok_with_talk (G : Gs K mg) (F : ∃ fd, FnP K "with_talk" s_with_talk [] (fA K "with_talk") fd) (hm : mg "with_talk" = some (.ref (fA K "with_talk"))) (LC : LamG K mg base T "with_talk") : Df P w K mg base T 1 "with_talk" 3 f_with_talk := by
  obtain ⟨fd, F⟩ := F
  refine dfc_of (p := ("with_talk", none)) rfl hm F sc_with_talk rfl (fun _ _ _ _ _ _ us hl => match us, hl with | [_, _, _], _ => rfl) ?_
  intro f A outer s H E hr tk hp
  have LC := fun f => LC.at_ (CX := L2.CX P w) (P := P) (w := w) (N := ["pairs", "talk", "thing", "found"]) (scope := defScope s_with_talk) (f := f) (A := A) (outer := outer) (s := s) (H := H) (E := E)
  have LC := LC f
  have hx := fun σ => passAt tk σ
  have hu := hr.units
  have hu0 := hr.units0
  have hu1 := u1 hr
  have hdp := d3 hr
  exact (ss_cons (s_set sc_with_talk.nd (pd_dictOf rfl hu G.f_dict (pd_var 0)))
  (ss_cons (s_putN hu (pd_var 3) (pd_var 1) (pd_var 2))
  (ss_one (s_ret (pd_callLT call_tupP okl_tupP G.f_tuple (by decide +kernel) (pl_sortedItems rfl hu hdp G.f_sorted LC (pd_var 3) rfl (fun _ _ _ _ _ _ => rfl)))))))
abbrev s__law_done : Stmt := top 116
theorem sc__law_done : FnScope ["_law_world_here", "_law_act_here", "_law_said_here"] ["_law_world_here", "_law_act_here"] (defScope s__law_done) := ⟨rfl, rfl, rfl, by decide +kernel, rfl, by decide +kernel, by decide +kernel⟩
theorem ok__law_done (G : Gs K mg) (F : ∃ fd, FnP K "_law_done" s__law_done [] (fA K "_law_done") fd) (hm : mg "_law_done" = some (.ref (fA K "_law_done"))) (D__law_program : Df P w K mg base T 7 "_law_program" 2 f__law_program) (LC : LamG K mg base T "_law_done") (SD : SaidF K mg) : Df P w K mg base T 11 "_law_done" 2 f__law_done := by
  obtain ⟨fd, F⟩ := F
  refine dfc_of (p := ("_law_done", none)) rfl hm F sc__law_done rfl (fun _ _ _ _ _ _ us hl => match us, hl with | [_, _], _ => rfl) ?_
  intro f A outer s H E hr tk hp
  have LC := fun f => LC.at_ (CX := L2.CX P w) (P := P) (w := w) (N := ["_law_world_here", "_law_act_here", "_law_said_here"]) (scope := defScope s__law_done) (f := f) (A := A) (outer := outer) (s := s) (H := H) (E := E)
  have LC := LC f
  have hx := fun σ => passAt tk σ
  have hu := hr.units
  have hu0 := hr.units0
  have hu1 := u1 hr
  exact (ss_cons (s_set sc__law_done.nd (pd_said (k := 7) SD LC hr (lamS_cl (defScope s__law_done) (by decide +kernel)) (fun A outer s H E g c2 hr2 => (pd_call D__law_program hr2 (fun σ => passAt (takes_of rfl rfl rfl rfl) σ) (pa_dcons (pd_var 0) (pa_dcons (pd_var 1) pa_dnil))))))
  (ss_cons (s_if (pt_dcmp (op_neD hu) ok_ne (pd_ix (pd_var 2) pd_int) (pd_str "told") (nomark _)) (ss_one (s_ret (pd_tup pa_dnil))) ss_nil)
  (ss_cons (s_putS2 "value" "memory" rfl hu1 (pd_var 0) (pd_var 0) (pd_sl (pd_ix (pd_var 2) pd_int) q_none (q_some pd_int)))
  (ss_cons (s_putS "clock" hu1 (pd_var 0) (pd_op op_addA ok_add (pd_getS "clock" hu1 (pd_var 0)) (pd_callTy call_int1 okn_int1 G.f_int (by decide +kernel) (pa_dcons (pd_cmp (op_eqD hu) ok_eq (pd_ix (pd_var 1) pd_int) (pd_str "tick") (nomark _)) pa_dnil))))
  (ss_cons (s_if (pt_dcmp (op_eqD hu) ok_eq (pd_ix (pd_var 1) pd_int) (pd_str "put") (nomark _)) (ss_one (s_putS "aside" hu1 (pd_var 0) (pd_ix (pd_ix (pd_var 2) pd_int) pd_int))) ss_nil)
  (ss_one (s_ret (pd_ix (pd_ix (pd_var 2) pd_int) pd_int))))))))
abbrev s__law_is_log : Stmt := top 118
theorem sc__law_is_log : FnScope ["_law_log", "_law_cap", "_law_span", "_law_raises", "_law_bare", "_law_verb", "_law_many", "_law_k", "_law_said_here", "_law_row"] ["_law_log", "_law_cap", "_law_span"] (defScope s__law_is_log) := ⟨rfl, rfl, rfl, by decide +kernel, rfl, by decide +kernel, by decide +kernel⟩
theorem ok__law_is_log (G : Gs K mg) (F : ∃ fd, FnP K "_law_is_log" s__law_is_log [] (fA K "_law_is_log") fd) (hm : mg "_law_is_log" = some (.ref (fA K "_law_is_log"))) (D_wake_log : DfK P w K mg base T 3 "wake_log" 1 2 ["most", "wait"] f_wake_log) (D_whys : DfK P w K mg base T 2 "whys" 1 2 ["most", "wait"] f_whys) (D_lets_wakes : DfK P w K mg base T 5 "lets_wakes" 1 2 ["most", "wait"] f_lets_wakes) (LC : LamG K mg base T "_law_is_log") (SD : SaidF K mg) : Df P w K mg base T 9 "_law_is_log" 3 f__law_is_log := by
  obtain ⟨fd, F⟩ := F
  refine dfc_of (p := ("_law_is_log", none)) rfl hm F sc__law_is_log rfl (fun _ _ _ _ _ _ us hl => match us, hl with | [_, _, _], _ => rfl) ?_
  intro f A outer s H E hr tk hp
  have LC := fun f => LC.at_ (CX := L2.CX P w) (P := P) (w := w) (N := ["_law_log", "_law_cap", "_law_span", "_law_raises", "_law_bare", "_law_verb", "_law_many", "_law_k", "_law_said_here", "_law_row"]) (scope := defScope s__law_is_log) (f := f) (A := A) (outer := outer) (s := s) (H := H) (E := E)
  have LC := LC f
  have hx := fun σ => passAt tk σ
  have hu := hr.units
  have hu0 := hr.units0
  have hu1 := u1 hr
  exact (ss_cons (s_setLc (own := [("_law_k", 7)]) rfl sc__law_is_log.nd rfl rfl (i_rng1 G.f_range rfl (pa_dcons (pd_callB call_len okn_len G.f_len (by decide +kernel) (pa_dcons (pd_var 0) pa_dnil)) pa_dnil)) (blkOk_cl ["_law_log", "_law_cap", "_law_span", "_law_raises", "_law_bare", "_law_verb", "_law_many", "_law_k", "_law_said_here", "_law_row"] (defScope s__law_is_log) (by decide +kernel)) (fun _ _ _ _ _ => (g_name (by simp) sc__law_is_log.nd)) (fun _ _ _ _ _ => (pts_done (pt_dcmp (op_eqD hu) ok_eq (pd_ix (pd_ix (pd_var 0) (pd_var 7)) pd_int) (pd_str "raise") (nomark _)))) (fun _ _ _ _ _ => (pd_var 7)))
  (ss_cons (s_if (pt_dcmp (op_neD hu) ok_ne (pd_callK D_lets_wakes hr hx (pa_dcons (pd_var 0) pa_dnil) (pk_dcons (pd_var 1) (pk_dcons (pd_var 2) pk_dnil))) (pd_callB call_len okn_len G.f_len (by decide +kernel) (pa_dcons (pd_var 3) pa_dnil)) (nomark _)) (ss_one (s_ret pd_bl)) ss_nil)
  (ss_cons (s_set sc__law_is_log.nd (pd_callLT call_tuple_of okl_tup G.f_tuple (by decide +kernel) (pl_lc (own := [("_law_row", 9)]) rfl sc__law_is_log.nd (i_tup (pd_var 0)) (blkOk_cl ["_law_log", "_law_cap", "_law_span", "_law_raises", "_law_bare", "_law_verb", "_law_many", "_law_k", "_law_said_here", "_law_row"] (defScope s__law_is_log) (by decide +kernel)) (fun _ _ _ _ _ => (g_name (by simp) sc__law_is_log.nd)) (fun _ _ _ _ _ => (pts_done (pt_dcmp (op_neD hu) ok_ne (pd_ix (pd_var 9) pd_int) (pd_str "raise") (nomark _)))) (fun _ _ _ _ _ => (pd_var 9)))))
  (ss_cons (s_if (pt_dcmp (op_neD hu) ok_ne (pd_callK D_wake_log hr hx (pa_dcons (pd_var 4) pa_dnil) (pk_dcons (pd_var 1) (pk_dcons (pd_var 2) pk_dnil))) (pd_var 0) (nomark _)) (ss_one (s_ret pd_bl)) ss_nil)
  (ss_cons (s_for (vs := [5, 6]) hp rfl (i_tup (pd_callK D_whys hr hx (pa_dcons (pd_var 0) pa_dnil) (pk_dcons (pd_var 1) (pk_dcons (pd_var 2) pk_dnil)))) (g_tup rfl (gs_cons (g_name (by simp) sc__law_is_log.nd) (gs_cons (g_name (by simp) sc__law_is_log.nd) gs_nil))) (ss_one (s_if (pw_dor (pt_dcmp op_notIn_seq (ok_in true) (pd_var 5) (pd_tup (pa_dcons (pd_str "most") (pa_dcons (pd_str "wait") pa_dnil))) rfl) (pw_dor1 (pt_dcmp op_lt ok_lt (pd_var 6) (pd_if (pt_dcmp (op_eqD hu) ok_eq (pd_var 5) (pd_str "most") (nomark _)) (pd_var 1) (pd_var 2)) (nomark _)))).pt (ss_one (s_ret pd_bl)) ss_nil)))
  (ss_cons (s_for (vs := [7]) hp rfl (i_list (pl_slTo (pd_var 3))) (g_name (by simp) sc__law_is_log.nd) (ss_cons (s_set sc__law_is_log.nd (pd_said (k := 5) SD LC hr (lamS_cl (defScope s__law_is_log) (by decide +kernel)) (fun A outer s H E g c2 hr2 => (pd_callK D_lets_wakes hr2 (fun σ => passAt (takes_of rfl rfl rfl rfl) σ) (pa_dcons (pd_op op_addA ok_add (pd_sl (pd_var 0) q_none (q_some (pd_var 7))) (pd_sl (pd_var 0) (q_some (pd_op op_addA ok_add (pd_var 7) pd_int)) q_none)) pa_dnil) (pk_dcons (pd_var 1) (pk_dcons (pd_var 2) pk_dnil))))))
  (ss_one (s_if (pt_dcmp (op_neD hu) ok_ne (pd_var 8) (pd_tup (pa_dcons (pd_str "paper") (pa_dcons (pd_str "late") (pa_dcons (pd_var 7) pa_dnil)))) (nomark _)) (ss_one (s_ret pd_bl)) ss_nil))))
  (ss_one (s_ret (pd_cmp (op_eqD hu) ok_eq (pd_callB call_len okn_len G.f_len (by decide +kernel) (pa_dcons (pd_callK D_whys hr hx (pa_dcons (pd_var 0) pa_dnil) (pk_dcons (pd_var 1) (pk_dcons (pd_var 2) pk_dnil))) pa_dnil)) (pd_callB call_len okn_len G.f_len (by decide +kernel) (pa_dcons (pd_var 3) pa_dnil)) (nomark _))))))))))
end
end Dt
namespace Dt
open PySem PySem.Spec PyProof.Rows L2
theorem hqOex_ok {K : PySem.W.Frag} {C : Addr} (h : hqOex K C = true) : OexC K C := by
  obtain ⟨h0, h⟩ := He.ba h
  obtain ⟨h1, h⟩ := He.ba h
  obtain ⟨h2, h⟩ := He.ba h
  obtain ⟨h3, h4⟩ := He.ba h
  refine ⟨?_, He.eqO_ok h1, of_decide_eq_true h2, of_decide_eq_true h3, h4⟩
  split at h0
  · rename_i c dd cd sl ho
    split at h0
    · rename_i C' bm k0 k1 k2 k3 n k5 hm hs
      obtain ⟨g1, h0⟩ := He.ba h0
      obtain ⟨g2, h0⟩ := He.ba h0
      obtain ⟨g3, h0⟩ := He.ba h0
      obtain ⟨g4, h0⟩ := He.ba h0
      obtain ⟨g5, g6⟩ := He.ba h0
      have g1 := of_decide_eq_true g1
      have g2 := of_decide_eq_true g2
      have g3 := of_decide_eq_true g3
      subst g1 g2 g3
      obtain ⟨nm, bs, mro, ns, qn, hd, sn, sub, ab, col, del⟩ := cd
      dsimp only at hm g4 g5
      cases del with
      | true => cases g4
      | false =>
        subst hm g5
        have hsl : sl = #[k0, k1, k2, k3, some (.builtin "ValueError.__new__"), k5] := by
          obtain ⟨l⟩ := sl
          simp only at hs
          rw [hs]
        subst hsl
        exact ⟨nm, qn, ns, bs, bm, sn, sub, ab, col, dd, k0, k1, k2, k3, k5, ho, g6⟩
    · cases h0
  · cases h0
theorem hqIsx_ok {K : PySem.W.Frag} {C : Addr} (h : hqIsx K C = true) : IsxC K C := by
  obtain ⟨h1, h⟩ := He.ba h
  obtain ⟨h2, h⟩ := He.ba h
  obtain ⟨h3, h⟩ := He.ba h
  obtain ⟨h4, h⟩ := He.ba h
  obtain ⟨h5, h⟩ := He.ba h
  obtain ⟨h6, h⟩ := He.ba h
  obtain ⟨h7, h8⟩ := He.ba h
  exact ⟨h1, He.eqO_ok h2, Option.isSome_iff_exists.mp h3, of_decide_eq_true h4, He.eqO_ok h5, He.eqO_ok h6, of_decide_eq_true h7, of_decide_eq_true h8⟩
theorem hqCls_ok {K : PySem.W.Frag} {mg : Str → Option Value} {cls B : String} {st : Stmt} (h : hqCls K cls B = true) (m1 : mg (Str.ofString cls) = some (.ref (cA K cls))) (m2 : mg (Str.ofString B) = some (.ref (cA K B))) (ox : OexC K (cA K cls))
    (fn : ∃ fd, FunD K "__init__" (Str.ofString cls ++ ".__init__") (defArgs st) (defBody st) (defScope st) [] [] (He.fAd K (Str.ofString cls, some "__init__")) fd) : ClsF K mg cls B st := by
  obtain ⟨h1, h⟩ := He.ba h
  obtain ⟨h2, h⟩ := He.ba h
  obtain ⟨h3, h⟩ := He.ba h
  obtain ⟨h4, h5⟩ := He.ba h
  refine ⟨m1, ox, He.eqO_ok h1, of_decide_eq_true h2, fn, m2, ⟨_, h3, ?_⟩, He.eqO_ok h5⟩
  split at h4
  · rename_i n e
    rw [e, of_decide_eq_true h4]
  · cases h4
theorem keyB_tup {K : PySem.W.Frag} {x : Str} {vs : List He.Dv} {ds : List D} (h : He.tupB K x vs = true) (e : ∀ H ρ, Rps K H ρ ds (vs.map (He.Dv.v K))) (H : Hp) (ρ : List Addr) : Rp K H ρ (.tup ds) (.ref (He.ga K x)) := ⟨_, _, rfl, He.tupB_ok h H, e H ρ⟩
end Dt
namespace Dt
open PySem PySem.Spec PyProof.Rows L2

section
variable {w : World} {h : Heap} {K : PySem.W.Frag} {mg : Str → Option Value}
theorem hx_at (c : HS w h K) (i : Nat) {f : PySem.W.Frag → Bool} (e : hex[i]? = some f := by rfl) : f K = true := List.all_eq_true.mp (show (hex.all fun f => f K) = true from c.more) f (List.mem_of_getElem? e)
theorem F_is_number (c : HS w h K) : ∃ fd, FnP K "is_number" (top 9) [] (fA K "is_number") fd := c.t.d.def_ 0 (d := d_is_number) rfl
theorem F_mix_of (c : HS w h K) : ∃ fd, FnP K "mix_of" (top 14) [] (fA K "mix_of") fd := c.t.d.def_ 1 (d := d_mix_of) rfl
theorem F_lane_of (c : HS w h K) : ∃ fd, FnP K "lane_of" (top 15) [("lanes", V.int 2)] (fA K "lane_of") fd := c.t.d.def_ 2 (d := d_lane_of) rfl
theorem F_common (c : HS w h K) : ∃ fd, FnP K "common" (top 17) [] (fA K "common") fd := c.t.d.def_ 3 (d := d_common) rfl
theorem F_ratio (c : HS w h K) : ∃ fd, FnP K "ratio" (top 18) [] (fA K "ratio") fd := c.t.d.def_ 4 (d := d_ratio) rfl
theorem F_added (c : HS w h K) : ∃ fd, FnP K "added" (top 19) [] (fA K "added") fd := c.t.d.def_ 5 (d := d_added) rfl
theorem F_times (c : HS w h K) : ∃ fd, FnP K "times" (top 20) [] (fA K "times") fd := c.t.d.def_ 6 (d := d_times) rfl
theorem F_is_less (c : HS w h K) : ∃ fd, FnP K "is_less" (top 21) [] (fA K "is_less") fd := c.t.d.def_ 7 (d := d_is_less) rfl
theorem F_lesser (c : HS w h K) : ∃ fd, FnP K "lesser" (top 22) [] (fA K "lesser") fd := c.t.d.def_ 8 (d := d_lesser) rfl
theorem F_purse_filled (c : HS w h K) : ∃ fd, FnP K "purse_filled" (top 25) [("ticks", V.int 1)] (fA K "purse_filled") fd := c.t.d.def_ 9 (d := d_purse_filled) rfl
theorem F_owns (c : HS w h K) : ∃ fd, FnP K "owns" (top 27) [] (fA K "owns") fd := c.t.d.def_ 10 (d := d_owns) rfl
theorem F_count_on (c : HS w h K) : ∃ fd, FnP K "count_on" (top 29) [("by", V.int 1)] (fA K "count_on") fd := c.t.d.def_ 11 (d := d_count_on) rfl
theorem F_count_gap (c : HS w h K) : ∃ fd, FnP K "count_gap" (top 30) [] (fA K "count_gap") fd := c.t.d.def_ 12 (d := d_count_gap) rfl
theorem F_void_ring (c : HS w h K) : ∃ fd, FnP K "void_ring" (top 31) [] (fA K "void_ring") fd := c.t.d.def_ 13 (d := d_void_ring) rfl
theorem F_held_in (c : HS w h K) : ∃ fd, FnP K "held_in" (top 32) [] (fA K "held_in") fd := c.t.d.def_ 14 (d := d_held_in) rfl
theorem F_laid (c : HS w h K) : ∃ fd, FnP K "laid" (top 33) [] (fA K "laid") fd := c.t.d.def_ 15 (d := d_laid) rfl
theorem F_put_in (c : HS w h K) : ∃ fd, FnP K "put_in" (top 34) [] (fA K "put_in") fd := c.t.d.def_ 16 (d := d_put_in) rfl
theorem F_take_out (c : HS w h K) : ∃ fd, FnP K "take_out" (top 35) [] (fA K "take_out") fd := c.t.d.def_ 17 (d := d_take_out) rfl
theorem F_void_lane (c : HS w h K) : ∃ fd, FnP K "void_lane" (top 47) [] (fA K "void_lane") fd := c.t.d.def_ 18 (d := d_void_lane) rfl
theorem F_half_of (c : HS w h K) : ∃ fd, FnP K "half_of" (top 48) [("purse", V.ref (cA K "PURSE")), ("lanes", V.int 2), ("size", V.int 4)] (fA K "half_of") fd := c.t.d.def_ 19 (d := d_half_of) rfl
theorem F_turned_at (c : HS w h K) : ∃ fd, FnP K "turned_at" (top 49) [] (fA K "turned_at") fd := c.t.d.def_ 20 (d := d_turned_at) rfl
theorem F_lane_turned (c : HS w h K) : ∃ fd, FnP K "lane_turned" (top 50) [] (fA K "lane_turned") fd := c.t.d.def_ 21 (d := d_lane_turned) rfl
theorem F_by_talk (c : HS w h K) : ∃ fd, FnP K "by_talk" (top 51) [] (fA K "by_talk") fd := c.t.d.def_ 22 (d := d_by_talk) rfl
theorem F_with_talk (c : HS w h K) : ∃ fd, FnP K "with_talk" (top 52) [] (fA K "with_talk") fd := c.t.d.def_ 23 (d := d_with_talk) rfl
theorem F_owns_it (c : HS w h K) : ∃ fd, FnP K "owns_it" (top 53) [] (fA K "owns_it") fd := c.t.d.def_ 24 (d := d_owns_it) rfl
theorem F_page_at (c : HS w h K) : ∃ fd, FnP K "page_at" (top 55) [] (fA K "page_at") fd := c.t.d.def_ 25 (d := d_page_at) rfl
theorem F_words_at (c : HS w h K) : ∃ fd, FnP K "words_at" (top 56) [] (fA K "words_at") fd := c.t.d.def_ 26 (d := d_words_at) rfl
theorem F_written (c : HS w h K) : ∃ fd, FnP K "written" (top 57) [] (fA K "written") fd := c.t.d.def_ 27 (d := d_written) rfl
theorem F_is_due (c : HS w h K) : ∃ fd, FnP K "is_due" (top 62) [] (fA K "is_due") fd := c.t.d.def_ 28 (d := d_is_due) rfl
theorem F_befell (c : HS w h K) : ∃ fd, FnP K "befell" (top 63) [] (fA K "befell") fd := c.t.d.def_ 29 (d := d_befell) rfl
theorem F_is_due_behind (c : HS w h K) : ∃ fd, FnP K "is_due_behind" (top 64) [] (fA K "is_due_behind") fd := c.t.d.def_ 30 (d := d_is_due_behind) rfl
theorem F_wake_log (c : HS w h K) : ∃ fd, FnP K "wake_log" (top 65) [("most", V.int 2), ("wait", V.int 4)] (fA K "wake_log") fd := c.t.d.def_ 31 (d := d_wake_log) rfl
theorem F_whys (c : HS w h K) : ∃ fd, FnP K "whys" (top 66) [("most", V.int 2), ("wait", V.int 4)] (fA K "whys") fd := c.t.d.def_ 32 (d := d_whys) rfl
theorem F_look_at_lane (c : HS w h K) : ∃ fd, FnP K "look_at_lane" (top 68) [] (fA K "look_at_lane") fd := c.t.d.def_ 33 (d := d_look_at_lane) rfl
theorem F_polled (c : HS w h K) : ∃ fd, FnP K "polled" (top 69) [] (fA K "polled") fd := c.t.d.def_ 34 (d := d_polled) rfl
theorem F_unmasked (c : HS w h K) : ∃ fd, FnP K "unmasked" (top 70) [("most", V.int 2), ("wait", V.int 4)] (fA K "unmasked") fd := c.t.d.def_ 35 (d := d_unmasked) rfl
theorem F_ticked (c : HS w h K) : ∃ fd, FnP K "ticked" (top 71) [("most", V.int 2), ("wait", V.int 4)] (fA K "ticked") fd := c.t.d.def_ 36 (d := d_ticked) rfl
theorem F_sum_due (c : HS w h K) : ∃ fd, FnP K "sum_due" (top 75) [] (fA K "sum_due") fd := c.t.d.def_ 37 (d := d_sum_due) rfl
theorem F_is_right (c : HS w h K) : ∃ fd, FnP K "is_right" (top 76) [] (fA K "is_right") fd := c.t.d.def_ 38 (d := d_is_right) rfl
theorem F_summed (c : HS w h K) : ∃ fd, FnP K "summed" (top 77) [] (fA K "summed") fd := c.t.d.def_ 39 (d := d_summed) rfl
theorem F_bent (c : HS w h K) : ∃ fd, FnP K "bent" (top 78) [("word", V.int 0)] (fA K "bent") fd := c.t.d.def_ 40 (d := d_bent) rfl
theorem F_pieces_of (c : HS w h K) : ∃ fd, FnP K "pieces_of" (top 79) [("epoch", V.int 0), ("cut", V.int 4)] (fA K "pieces_of") fd := c.t.d.def_ 41 (d := d_pieces_of) rfl
theorem F_going_on (c : HS w h K) : ∃ fd, FnP K "going_on" (top 81) [] (fA K "going_on") fd := c.t.d.def_ 42 (d := d_going_on) rfl
theorem F_does_go_on (c : HS w h K) : ∃ fd, FnP K "does_go_on" (top 82) [] (fA K "does_go_on") fd := c.t.d.def_ 43 (d := d_does_go_on) rfl
theorem F_does_begin (c : HS w h K) : ∃ fd, FnP K "does_begin" (top 83) [] (fA K "does_begin") fd := c.t.d.def_ 44 (d := d_does_begin) rfl
theorem F_with_part (c : HS w h K) : ∃ fd, FnP K "with_part" (top 84) [] (fA K "with_part") fd := c.t.d.def_ 45 (d := d_with_part) rfl
theorem F_came_of (c : HS w h K) : ∃ fd, FnP K "came_of" (top 85) [] (fA K "came_of") fd := c.t.d.def_ 46 (d := d_came_of) rfl
theorem F_oldest_posted (c : HS w h K) : ∃ fd, FnP K "oldest_posted" (top 87) [] (fA K "oldest_posted") fd := c.t.d.def_ 47 (d := d_oldest_posted) rfl
theorem F_boxed (c : HS w h K) : ∃ fd, FnP K "boxed" (top 88) [] (fA K "boxed") fd := c.t.d.def_ 48 (d := d_boxed) rfl
theorem F_why_not (c : HS w h K) : ∃ fd, FnP K "why_not" (top 89) [] (fA K "why_not") fd := c.t.d.def_ 49 (d := d_why_not) rfl
theorem F_takes_whole (c : HS w h K) : ∃ fd, FnP K "takes_whole" (top 90) [] (fA K "takes_whole") fd := c.t.d.def_ 50 (d := d_takes_whole) rfl
theorem F_comes_in (c : HS w h K) : ∃ fd, FnP K "comes_in" (top 91) [("most", V.int 2), ("wait", V.int 4)] (fA K "comes_in") fd := c.t.d.def_ 51 (d := d_comes_in) rfl
theorem F_put_or_full (c : HS w h K) : ∃ fd, FnP K "put_or_full" (top 93) [] (fA K "put_or_full") fd := c.t.d.def_ 52 (d := d_put_or_full) rfl
theorem F_posts (c : HS w h K) : ∃ fd, FnP K "posts" (top 94) [] (fA K "posts") fd := c.t.d.def_ 53 (d := d_posts) rfl
theorem F_need_wake (c : HS w h K) : ∃ fd, FnP K "need_wake" (top 97) [] (fA K "need_wake") fd := c.t.d.def_ 54 (d := d_need_wake) rfl
theorem F_is_wake_row (c : HS w h K) : ∃ fd, FnP K "is_wake_row" (top 98) [] (fA K "is_wake_row") fd := c.t.d.def_ 55 (d := d_is_wake_row) rfl
theorem F_look_at_row (c : HS w h K) : ∃ fd, FnP K "look_at_row" (top 99) [] (fA K "look_at_row") fd := c.t.d.def_ 56 (d := d_look_at_row) rfl
theorem F_lets_wakes (c : HS w h K) : ∃ fd, FnP K "lets_wakes" (top 100) [("most", V.int 2), ("wait", V.int 4)] (fA K "lets_wakes") fd := c.t.d.def_ 57 (d := d_lets_wakes) rfl
theorem F__law_feed (c : HS w h K) : ∃ fd, FnP K "_law_feed" (top 102) [] (fA K "_law_feed") fd := c.t.d.def_ 58 (d := d__law_feed) rfl
theorem F__law_draw (c : HS w h K) : ∃ fd, FnP K "_law_draw" (top 103) [] (fA K "_law_draw") fd := c.t.d.def_ 59 (d := d__law_draw) rfl
theorem F__law_lane (c : HS w h K) : ∃ fd, FnP K "_law_lane" (top 104) [] (fA K "_law_lane") fd := c.t.d.def_ 60 (d := d__law_lane) rfl
theorem F__law_world (c : HS w h K) : ∃ fd, FnP K "_law_world" (top 105) [] (fA K "_law_world") fd := c.t.d.def_ 61 (d := d__law_world) rfl
theorem F__law_said (c : HS w h K) : ∃ fd, FnP K "_law_said" (top 106) [] (fA K "_law_said") fd := c.t.d.def_ 62 (d := d__law_said) rfl
theorem F__law_stretch (c : HS w h K) : ∃ fd, FnP K "_law_stretch" (top 107) [] (fA K "_law_stretch") fd := c.t.d.def_ 63 (d := d__law_stretch) rfl
theorem F__law_some (c : HS w h K) : ∃ fd, FnP K "_law_some" (top 108) [] (fA K "_law_some") fd := c.t.d.def_ 64 (d := d__law_some) rfl
theorem F__law_drawn (c : HS w h K) : ∃ fd, FnP K "_law_drawn" (top 109) [] (fA K "_law_drawn") fd := c.t.d.def_ 65 (d := d__law_drawn) rfl
theorem F__law_letter (c : HS w h K) : ∃ fd, FnP K "_law_letter" (top 110) [] (fA K "_law_letter") fd := c.t.d.def_ 66 (d := d__law_letter) rfl
theorem F__law_piece (c : HS w h K) : ∃ fd, FnP K "_law_piece" (top 111) [] (fA K "_law_piece") fd := c.t.d.def_ 67 (d := d__law_piece) rfl
theorem F__law_value (c : HS w h K) : ∃ fd, FnP K "_law_value" (top 114) [] (fA K "_law_value") fd := c.t.d.def_ 68 (d := d__law_value) rfl
theorem F__law_program (c : HS w h K) : ∃ fd, FnP K "_law_program" (top 112) [] (fA K "_law_program") fd := c.t.d.def_ 69 (d := d__law_program) rfl
theorem F__law_act (c : HS w h K) : ∃ fd, FnP K "_law_act" (top 113) [] (fA K "_law_act") fd := c.t.d.def_ 70 (d := d__law_act) rfl
theorem F__law_by_program (c : HS w h K) : ∃ fd, FnP K "_law_by_program" (top 115) [] (fA K "_law_by_program") fd := c.t.d.def_ 71 (d := d__law_by_program) rfl
theorem F__law_done (c : HS w h K) : ∃ fd, FnP K "_law_done" (top 116) [] (fA K "_law_done") fd := c.t.d.def_ 72 (d := d__law_done) rfl
theorem F__law_noted (c : HS w h K) : ∃ fd, FnP K "_law_noted" (top 117) [] (fA K "_law_noted") fd := c.t.d.def_ 73 (d := d__law_noted) rfl
theorem F__law_is_log (c : HS w h K) : ∃ fd, FnP K "_law_is_log" (top 118) [] (fA K "_law_is_log") fd := c.t.d.def_ 74 (d := d__law_is_log) rfl
theorem F_law (c : HS w h K) : ∃ fd, FnP K "law" (top 119) [] (fA K "law") fd := c.t.d.def_ 75 (d := d_law) rfl
theorem Fi_NoPaper (c : HS w h K) : ∃ fd, FunD K "__init__" (Str.ofString "NoPaper" ++ ".__init__") (defArgs (initOf 5)) (defBody (initOf 5)) (defScope (initOf 5)) [] [] (He.fAd K (Str.ofString "NoPaper", some "__init__")) fd := c.t.d.def_ 76 (d := di_NoPaper) rfl
theorem Fi_NoPlace (c : HS w h K) : ∃ fd, FunD K "__init__" (Str.ofString "NoPlace" ++ ".__init__") (defArgs (initOf 6)) (defBody (initOf 6)) (defScope (initOf 6)) [] [] (He.fAd K (Str.ofString "NoPlace", some "__init__")) fd := c.t.d.def_ 77 (d := di_NoPlace) rfl
theorem Fi_NoStep (c : HS w h K) : ∃ fd, FunD K "__init__" (Str.ofString "NoStep" ++ ".__init__") (defArgs (initOf 7)) (defBody (initOf 7)) (defScope (initOf 7)) [] [] (He.fAd K (Str.ofString "NoStep", some "__init__")) fd := c.t.d.def_ 78 (d := di_NoStep) rfl
theorem gs_of (X : K.In h) (G : h.Ns mainGlobals mg) (c : HS w h K) : Gs K mg :=
  ⟨He.int_ok X G (c.t.d.fact 85 (f := .int "BOX_AT" 5) rfl),
  He.int_ok X G (c.t.d.fact 86 (f := .int "HALF_AT" 0) rfl),
  He.int_ok X G (c.t.d.fact 87 (f := .int "INWARD_AT" 4) rfl),
  He.int_ok X G (c.t.d.fact 88 (f := .int "JOININGS_AT" 4) rfl),
  He.int_ok X G (c.t.d.fact 89 (f := .int "LANES_AT" 1) rfl),
  He.int_ok X G (c.t.d.fact 90 (f := .int "MASKED_AT" 7) rfl),
  He.int_ok X G (c.t.d.fact 91 (f := .int "MIXES" 1009) rfl),
  He.int_ok X G (c.t.d.fact 92 (f := .int "PURSE_AT" 7) rfl),
  He.int_ok X G (c.t.d.fact 93 (f := .int "SINCE_AT" 6) rfl),
  He.int_ok X G (c.t.d.fact 94 (f := .int "STEERS_AT" 6) rfl),
  He.int_ok X G (c.t.d.fact 95 (f := .int "SUMS" 10007) rfl),
  He.str_ok X G (c.t.d.fact 96 (f := .str "SIGNS" "abcdefghijklmnopqrstuvwxyz") rfl),
  (He.glo_ok X G (c.t.d.fact 83 (f := .glo "BEGINNING") rfl)),
  fun H ρ => keyB_tup (ds := [.int 0, .non, .bl false]) (hx_at c 0 (f := (fun K => He.tupB K "BEGINNING" [.int 0, .non, .bl false])) rfl) (fun H ρ => ⟨_, _, rfl, rfl, _, _, rfl, rfl, _, _, rfl, rfl, rfl⟩) H ρ,
  (He.glo_ok X G (c.t.d.fact 84 (f := .glo "WAKE_WORDS") rfl)),
  fun H ρ => keyB_tup (ds := [.str "fill", .str "poll", .str "unmask", .str "tick", .str "raise"]) (hx_at c 1 (f := (fun K => He.tupB K "WAKE_WORDS" [.str "fill", .str "poll", .str "unmask", .str "tick", .str "raise"])) rfl) (fun H ρ => ⟨_, _, rfl, rfl, _, _, rfl, rfl, _, _, rfl, rfl, _, _, rfl, rfl, _, _, rfl, rfl, rfl⟩) H ρ,
  He.free_ok X G (c.t.d.fact 97 (f := .free "all") rfl),
  He.free_ok X G (c.t.d.fact 98 (f := .free "bool") rfl),
  He.free_ok X G (c.t.d.fact 99 (f := .free "dict") rfl),
  He.free_ok X G (c.t.d.fact 100 (f := .free "enumerate") rfl),
  He.free_ok X G (c.t.d.fact 101 (f := .free "int") rfl),
  He.free_ok X G (c.t.d.fact 102 (f := .free "isinstance") rfl),
  He.free_ok X G (c.t.d.fact 103 (f := .free "len") rfl),
  He.free_ok X G (c.t.d.fact 104 (f := .free "list") rfl),
  He.free_ok X G (c.t.d.fact 105 (f := .free "max") rfl),
  He.free_ok X G (c.t.d.fact 106 (f := .free "range") rfl),
  He.free_ok X G (c.t.d.fact 107 (f := .free "sorted") rfl),
  He.free_ok X G (c.t.d.fact 108 (f := .free "str") rfl),
  He.free_ok X G (c.t.d.fact 109 (f := .free "sum") rfl),
  He.free_ok X G (c.t.d.fact 110 (f := .free "tuple") rfl),
  (He.glo_ok X G (c.t.d.fact 81 (f := .glo "NoPlace") rfl)),
  He.exm_ok (c.t.d.fact 111 (f := .exm "NoPlace" "NoPlace" true) rfl),
  He.noat_ok (c.t.d.fact 114 (f := .noat "NoPlace" "word") rfl),
  He.noat_ok (c.t.d.fact 115 (f := .noat "NoStep" "word") rfl),
  He.noat_ok (c.t.d.fact 116 (f := .noat "NoPaper" "word") rfl),
  He.noat_ok (c.t.d.fact 117 (f := .noat "NoPaper" "at") rfl)⟩
theorem cls_NoPaper (X : K.In h) (G : h.Ns mainGlobals mg) (c : HS w h K) : ClsF K mg "NoPaper" "PaperError" (initOf 5) := hqCls_ok (hx_at c 5 (f := (fun K => hqCls K "NoPaper" "PaperError")) rfl) (He.glo_ok X G (c.t.d.fact 80 (f := .glo "NoPaper") rfl)) (He.glo_ok X G (c.t.d.fact 77 (f := .glo "PaperError") rfl)) (hqOex_ok (hx_at c 2 (f := (fun K => hqOex K (cA K "NoPaper"))) rfl)) (Fi_NoPaper c)
theorem cls_NoPlace (X : K.In h) (G : h.Ns mainGlobals mg) (c : HS w h K) : ClsF K mg "NoPlace" "RingError" (initOf 6) := hqCls_ok (hx_at c 6 (f := (fun K => hqCls K "NoPlace" "RingError")) rfl) (He.glo_ok X G (c.t.d.fact 81 (f := .glo "NoPlace") rfl)) (He.glo_ok X G (c.t.d.fact 78 (f := .glo "RingError") rfl)) (hqOex_ok (hx_at c 3 (f := (fun K => hqOex K (cA K "NoPlace"))) rfl)) (Fi_NoPlace c)
theorem cls_NoStep (X : K.In h) (G : h.Ns mainGlobals mg) (c : HS w h K) : ClsF K mg "NoStep" "RingError" (initOf 7) := hqCls_ok (hx_at c 7 (f := (fun K => hqCls K "NoStep" "RingError")) rfl) (He.glo_ok X G (c.t.d.fact 82 (f := .glo "NoStep") rfl)) (He.glo_ok X G (c.t.d.fact 78 (f := .glo "RingError") rfl)) (hqOex_ok (hx_at c 4 (f := (fun K => hqOex K (cA K "NoStep"))) rfl)) (Fi_NoStep c)
theorem sf_of (X : K.In h) (G : h.Ns mainGlobals mg) (c : HS w h K) : Sf K mg :=
  ⟨(He.glo_ok X G (c.t.d.fact 76 (f := .glo "CardError") rfl)),
  (He.glo_ok X G (c.t.d.fact 77 (f := .glo "PaperError") rfl)),
  (He.glo_ok X G (c.t.d.fact 78 (f := .glo "RingError") rfl)),
  (He.glo_ok X G (c.t.d.fact 79 (f := .glo "TextError") rfl)),
  (He.glo_ok X G (c.t.d.fact 80 (f := .glo "NoPaper") rfl)),
  (He.glo_ok X G (c.t.d.fact 82 (f := .glo "NoStep") rfl)),
  He.exm_ok (c.t.d.fact 112 (f := .exm "NoPaper" "CardError" true) rfl),
  He.exm_ok (c.t.d.fact 113 (f := .exm "NoStep" "CardError" true) rfl),
  hqIsx_ok (hx_at c 8 (f := (fun K => hqIsx K (cA K "NoPaper"))) rfl),
  hqIsx_ok (hx_at c 10 (f := (fun K => hqIsx K (cA K "NoStep"))) rfl),
  of_decide_eq_true (hx_at c 12 (f := (fun K => hqKit K "NoPaper" "PaperError" true)) rfl),
  of_decide_eq_true (hx_at c 13 (f := (fun K => hqKit K "NoPaper" "RingError" false)) rfl),
  of_decide_eq_true (hx_at c 14 (f := (fun K => hqKit K "NoPaper" "TextError" false)) rfl),
  of_decide_eq_true (hx_at c 15 (f := (fun K => hqKit K "NoPaper" "NoPaper" true)) rfl),
  of_decide_eq_true (hx_at c 16 (f := (fun K => hqKit K "NoStep" "PaperError" false)) rfl),
  of_decide_eq_true (hx_at c 17 (f := (fun K => hqKit K "NoStep" "RingError" true)) rfl),
  of_decide_eq_true (hx_at c 18 (f := (fun K => hqKit K "NoStep" "TextError" false)) rfl),
  of_decide_eq_true (hx_at c 19 (f := (fun K => hqKit K "NoStep" "NoStep" true)) rfl),
  xfB_ok (hx_at c 9 (f := (fun K => xfB K (cA K "NoPaper"))) rfl),
  xfB_ok (hx_at c 11 (f := (fun K => xfB K (cA K "NoStep"))) rfl),
  He.free_ok X G (c.t.d.fact 102 (f := .free "isinstance") rfl)⟩
theorem said_of (X : K.In h) (G : h.Ns mainGlobals mg) (c : HS w h K) : SaidF K mg := ⟨sf_of X G c, gs_of X G c, F__law_said c, (He.glo_ok X G (c.t.d.fact 62 (f := .glo "_law_said") rfl))⟩
def TL (K : PySem.W.Frag) : List (Addr × Str) := [(hqTab K "with_talk", (Str.ofString "with_talk" ++ ".<locals>.") ++ "<lambda>"), (hqTab K "_law_done", (Str.ofString "_law_done" ++ ".<locals>.") ++ "<lambda>"), (hqTab K "_law_is_log", (Str.ofString "_law_is_log" ++ ".<locals>.") ++ "<lambda>")]
def CS (K : PySem.W.Frag) : List (Addr × Addr) := htf.map fun p => He.cT K p
theorem ne_01 (c : HS w h K) : hqTab K "with_talk" ≠ hqTab K "_law_done" := of_decide_eq_true (hx_at c 20 (f := (fun K => hqNe K "with_talk" "_law_done")) rfl)
theorem ne_02 (c : HS w h K) : hqTab K "with_talk" ≠ hqTab K "_law_is_log" := of_decide_eq_true (hx_at c 21 (f := (fun K => hqNe K "with_talk" "_law_is_log")) rfl)
theorem ne_12 (c : HS w h K) : hqTab K "_law_done" ≠ hqTab K "_law_is_log" := of_decide_eq_true (hx_at c 22 (f := (fun K => hqNe K "_law_done" "_law_is_log")) rfl)
theorem lam_with_talk {base : Heap} (c : HS w h K) (tb : ∀ p ∈ CS K, LamX.TabB base mg p.1 p.2) : LamG K mg base (TL K) "with_talk" := by
  refine ⟨tb _ (List.mem_map.mpr ⟨("with_talk", none), List.mem_cons_self, rfl⟩), List.mem_cons_self, fun p hp e => ?_⟩
  simp only [TL, List.mem_cons, List.not_mem_nil, or_false] at hp
  rcases hp with rfl | rfl | rfl
  · exact rfl
  · exact absurd e.symm (ne_01 c)
  · exact absurd e.symm (ne_02 c)
theorem lam__law_done {base : Heap} (c : HS w h K) (tb : ∀ p ∈ CS K, LamX.TabB base mg p.1 p.2) : LamG K mg base (TL K) "_law_done" := by
  refine ⟨tb _ (List.mem_map.mpr ⟨("_law_done", none), List.mem_cons_of_mem _ List.mem_cons_self, rfl⟩), List.mem_cons_of_mem _ List.mem_cons_self, fun p hp e => ?_⟩
  simp only [TL, List.mem_cons, List.not_mem_nil, or_false] at hp
  rcases hp with rfl | rfl | rfl
  · exact absurd e (ne_01 c)
  · exact rfl
  · exact absurd e.symm (ne_12 c)
theorem lam__law_is_log {base : Heap} (c : HS w h K) (tb : ∀ p ∈ CS K, LamX.TabB base mg p.1 p.2) : LamG K mg base (TL K) "_law_is_log" := by
  refine ⟨tb _ (List.mem_map.mpr ⟨("_law_is_log", none), List.mem_cons_of_mem _ (List.mem_cons_of_mem _ List.mem_cons_self), rfl⟩), List.mem_cons_of_mem _ (List.mem_cons_of_mem _ List.mem_cons_self), fun p hp e => ?_⟩
  simp only [TL, List.mem_cons, List.not_mem_nil, or_false] at hp
  rcases hp with rfl | rfl | rfl
  · exact absurd e (ne_02 c)
  · exact absurd e (ne_12 c)
  · exact rfl
end
end Dt
namespace Dt
open PySem PySem.Spec PyProof.Rows L2
section
variable {P : Program} {w w0 : World} {h : Heap} {K : PySem.W.Frag} {mg : Str → Option Value} {base : Heap}
theorem fn_law {T : List (Addr × Str)} {fd : FuncData} (G : Gs K mg) (F : FnP K "law" s_law [] (fA K "law") fd) (D__law_feed : Df P w K mg base T 1 "_law_feed" 1 f__law_feed) (D__law_act : Df P w K mg base T 6 "_law_act" 3 f__law_act) (D__law_by_program : Df P w K mg base T 5 "_law_by_program" 1 f__law_by_program) (D__law_done : Df P w K mg base T 11 "_law_done" 2 f__law_done) (D__law_noted : Df P w K mg base T 1 "_law_noted" 4 f__law_noted) (D__law_is_log : Df P w K mg base T 9 "_law_is_log" 3 f__law_is_log) : FnOk P w K mg base (L2.CX P w) 12 (fA K "law") fd ["_law_script"] (spM ⟨P, w, K, T⟩ f_law 1) := by
  refine fn_d F sc_law rfl ?_
  intro f cdv A outer s H E hr tk hp
  have hx := fun σ => passAt tk σ
  have hu := hr.units
  have hu0 := hr.units0
  have hu1 := u1 hr
  exact (ss_cons (s_set sc_law.nd (pd_call D__law_feed hr hx (pa_dcons (pd_var 0) pa_dnil)))
  (ss_cons (s_set sc_law.nd (pd_reg (pl_disp (pa_dcons (pd_str "in") (pa_dcons (pd_str "in") (pa_dcons (pd_str "in") (pa_dcons (pd_str "in") (pa_dcons (pd_str "in") (pa_dcons (pd_str "post") (pa_dcons (pd_str "post") (pa_dcons (pd_str "post") (pa_dcons (pd_str "poll") (pa_dcons (pd_str "unmask") (pa_dcons (pd_str "unmask") (pa_dcons (pd_str "tick") (pa_dcons (pd_str "tick") pa_dnil))))))))))))))))
  (ss_cons (s_for (vs := [3]) hp rfl (i_rng1 G.f_range rfl (pa_dcons pd_int pa_dnil)) (g_name (by simp) sc_law.nd) (ss_cons (s_set sc_law.nd (pd_call D__law_by_program hr hx (pa_dcons (pd_var 1) pa_dnil)))
  (ss_cons (s_putS "rights" hu1 (pd_var 4) (pd_op (op_repT.or op_rep1) ok_mulT (pd_tup (pa_dcons (pd_str "ann") pa_dnil)) pd_int))
  (ss_cons (s_setLc (own := [("_law_k", 9)]) rfl sc_law.nd rfl rfl (i_rng1 G.f_range rfl (pa_dcons (pd_callB call_len okn_len G.f_len (by decide +kernel) (pa_dcons (pd_getS "lanes" hu1 (pd_var 4)) pa_dnil)) pa_dnil)) (blkOk_cl ["_law_script", "_law_feed_here", "_law_menu", "_law_turn", "_law_world_here", "_law_logs", "_law_lap", "_law_act_here", "_law_events", "_law_k", "_law_log"] (defScope s_law) (by decide +kernel)) (fun _ _ _ _ _ => (g_name (by simp) sc_law.nd)) (fun _ _ _ _ _ => pts_dnil) (fun _ _ _ _ _ => (pd_reg (pl_disp pa_dnil))))
  (ss_cons (s_for (vs := [6]) hp rfl (i_rng1 G.f_range rfl (pa_dcons pd_int pa_dnil)) (g_name (by simp) sc_law.nd) (ss_cons (s_set sc_law.nd (pd_call D__law_act hr hx (pa_dcons (pd_var 1) (pa_dcons (pd_var 4) (pa_dcons (pd_var 2) pa_dnil)))))
  (ss_cons (s_set sc_law.nd (pd_call D__law_done hr hx (pa_dcons (pd_var 4) (pa_dcons (pd_var 7) pa_dnil))))
  (ss_one (s_expr (pd_call D__law_noted hr hx (pa_dcons (pd_var 4) (pa_dcons (pd_var 7) (pa_dcons (pd_var 8) (pa_dcons (pd_var 5) pa_dnil))))))))))
  (ss_one (s_if (pt_neNilL hu (pl_lcLoc (own := [("_law_log", 10)]) rfl sc_law.nd (pd_var 5) (blkOk_cl ["_law_script", "_law_feed_here", "_law_menu", "_law_turn", "_law_world_here", "_law_logs", "_law_lap", "_law_act_here", "_law_events", "_law_k", "_law_log"] (defScope s_law) (by decide +kernel)) (fun _ _ _ _ _ => (g_name (by simp) sc_law.nd)) (fun _ _ _ _ _ => (pts_done (pt_dnot (pt_dval (pd_call D__law_is_log hr (fun σ => passF σ) (pa_dcons (pd_callTy call_tuple_of okn_tup G.f_tuple (by decide +kernel) (pa_dcons (pd_var 10) pa_dnil)) (pa_dcons (pd_getS "most" hu1 (pd_var 4)) (pa_dcons (pd_getS "wait" hu1 (pd_var 4)) pa_dnil)))))))) (fun _ _ _ _ _ => (pd_var 10)))) (ss_one (s_ret pd_bl)) ss_nil)))))))
  (ss_one (s_ret pd_bl)))))
theorem law_ok (X : K.In h) (Gn : h.Ns mainGlobals mg) (c : HS w0 h K) (tb : ∀ p ∈ CS K, LamX.TabB base mg p.1 p.2) {fd : FuncData} (F : FnP K "law" s_law [] (fA K "law") fd) : FnOk P w K mg base (L2.CX P w) 12 (fA K "law") fd ["_law_script"] (spM ⟨P, w, K, TL K⟩ f_law 1) := by
  have G := gs_of X Gn c
  have SD := said_of X Gn c
  have XNoPaper := ini4 (P := P) (w := w) (base := base) (cls_NoPaper X Gn c)
  have XNoPlace := ini5 (P := P) (w := w) (base := base) (cls_NoPlace X Gn c)
  have XNoStep := ini6 (P := P) (w := w) (base := base) (cls_NoStep X Gn c)
  have D_is_number := ok_is_number (P := P) (w := w) (base := base) (T := TL K) G (F_is_number c) (He.glo_ok X Gn (c.t.d.fact 0 (f := .glo "is_number") rfl)) 
  have D_mix_of := ok_mix_of (P := P) (w := w) (base := base) (T := TL K) G (F_mix_of c) (He.glo_ok X Gn (c.t.d.fact 1 (f := .glo "mix_of") rfl)) 
  have D_lane_of := ok_lane_of (P := P) (w := w) (base := base) (T := TL K) G (F_lane_of c) (He.glo_ok X Gn (c.t.d.fact 2 (f := .glo "lane_of") rfl)) D_mix_of
  have D_common := ok_common (P := P) (w := w) (base := base) (T := TL K) G (F_common c) (He.glo_ok X Gn (c.t.d.fact 3 (f := .glo "common") rfl)) 
  have D_ratio := ok_ratio (P := P) (w := w) (base := base) (T := TL K) G (F_ratio c) (He.glo_ok X Gn (c.t.d.fact 4 (f := .glo "ratio") rfl)) D_common
  have D_added := ok_added (P := P) (w := w) (base := base) (T := TL K) G (F_added c) (He.glo_ok X Gn (c.t.d.fact 5 (f := .glo "added") rfl)) D_ratio
  have D_times := ok_times (P := P) (w := w) (base := base) (T := TL K) G (F_times c) (He.glo_ok X Gn (c.t.d.fact 6 (f := .glo "times") rfl)) D_ratio
  have D_is_less := ok_is_less (P := P) (w := w) (base := base) (T := TL K) G (F_is_less c) (He.glo_ok X Gn (c.t.d.fact 7 (f := .glo "is_less") rfl)) 
  have D_lesser := ok_lesser (P := P) (w := w) (base := base) (T := TL K) G (F_lesser c) (He.glo_ok X Gn (c.t.d.fact 8 (f := .glo "lesser") rfl)) D_is_less
  have D_purse_filled := ok_purse_filled (P := P) (w := w) (base := base) (T := TL K) G (F_purse_filled c) (He.glo_ok X Gn (c.t.d.fact 9 (f := .glo "purse_filled") rfl)) D_added D_times D_lesser
  have D_owns := ok_owns (P := P) (w := w) (base := base) (T := TL K) G (F_owns c) (He.glo_ok X Gn (c.t.d.fact 10 (f := .glo "owns") rfl)) 
  have D_count_on := ok_count_on (P := P) (w := w) (base := base) (T := TL K) G (F_count_on c) (He.glo_ok X Gn (c.t.d.fact 11 (f := .glo "count_on") rfl)) 
  have D_count_gap := ok_count_gap (P := P) (w := w) (base := base) (T := TL K) G (F_count_gap c) (He.glo_ok X Gn (c.t.d.fact 12 (f := .glo "count_gap") rfl)) 
  have D_void_ring := ok_void_ring (P := P) (w := w) (base := base) (T := TL K) G (F_void_ring c) (He.glo_ok X Gn (c.t.d.fact 13 (f := .glo "void_ring") rfl)) 
  have D_held_in := ok_held_in (P := P) (w := w) (base := base) (T := TL K) G (F_held_in c) (He.glo_ok X Gn (c.t.d.fact 14 (f := .glo "held_in") rfl)) D_count_gap
  have D_laid := ok_laid (P := P) (w := w) (base := base) (T := TL K) G (F_laid c) (He.glo_ok X Gn (c.t.d.fact 15 (f := .glo "laid") rfl)) 
  have D_put_in := ok_put_in (P := P) (w := w) (base := base) (T := TL K) G (F_put_in c) (He.glo_ok X Gn (c.t.d.fact 16 (f := .glo "put_in") rfl)) D_count_on D_held_in D_laid XNoPlace
  have D_take_out := ok_take_out (P := P) (w := w) (base := base) (T := TL K) G (F_take_out c) (He.glo_ok X Gn (c.t.d.fact 17 (f := .glo "take_out") rfl)) D_count_on D_held_in D_laid XNoPlace
  have D_void_lane := ok_void_lane (P := P) (w := w) (base := base) (T := TL K) G (F_void_lane c) (He.glo_ok X Gn (c.t.d.fact 18 (f := .glo "void_lane") rfl)) D_void_ring
  have D_half_of := ok_half_of (P := P) (w := w) (base := base) (T := TL K) G (F_half_of c) (He.glo_ok X Gn (c.t.d.fact 19 (f := .glo "half_of") rfl)) D_void_lane
  have D_turned_at := ok_turned_at (P := P) (w := w) (base := base) (T := TL K) G (F_turned_at c) (He.glo_ok X Gn (c.t.d.fact 20 (f := .glo "turned_at") rfl)) 
  have D_lane_turned := ok_lane_turned (P := P) (w := w) (base := base) (T := TL K) G (F_lane_turned c) (He.glo_ok X Gn (c.t.d.fact 21 (f := .glo "lane_turned") rfl)) D_turned_at
  have D_by_talk := ok_by_talk (P := P) (w := w) (base := base) (T := TL K) G (F_by_talk c) (He.glo_ok X Gn (c.t.d.fact 22 (f := .glo "by_talk") rfl)) 
  have D_with_talk := ok_with_talk (P := P) (w := w) (base := base) (T := TL K) G (F_with_talk c) (He.glo_ok X Gn (c.t.d.fact 23 (f := .glo "with_talk") rfl)) (lam_with_talk c tb)
  have D_owns_it := ok_owns_it (P := P) (w := w) (base := base) (T := TL K) G (F_owns_it c) (He.glo_ok X Gn (c.t.d.fact 24 (f := .glo "owns_it") rfl)) D_owns
  have D_page_at := ok_page_at (P := P) (w := w) (base := base) (T := TL K) G (F_page_at c) (He.glo_ok X Gn (c.t.d.fact 25 (f := .glo "page_at") rfl)) XNoStep
  have D_words_at := ok_words_at (P := P) (w := w) (base := base) (T := TL K) G (F_words_at c) (He.glo_ok X Gn (c.t.d.fact 26 (f := .glo "words_at") rfl)) D_page_at
  have D_written := ok_written (P := P) (w := w) (base := base) (T := TL K) G (F_written c) (He.glo_ok X Gn (c.t.d.fact 27 (f := .glo "written") rfl)) D_page_at XNoStep
  have D_is_due := ok_is_due (P := P) (w := w) (base := base) (T := TL K) G (F_is_due c) (He.glo_ok X Gn (c.t.d.fact 28 (f := .glo "is_due") rfl)) 
  have D_befell := ok_befell (P := P) (w := w) (base := base) (T := TL K) G (F_befell c) (He.glo_ok X Gn (c.t.d.fact 29 (f := .glo "befell") rfl)) 
  have D_is_due_behind := ok_is_due_behind (P := P) (w := w) (base := base) (T := TL K) G (F_is_due_behind c) (He.glo_ok X Gn (c.t.d.fact 30 (f := .glo "is_due_behind") rfl)) D_is_due
  have D_wake_log := ok_wake_log (P := P) (w := w) (base := base) (T := TL K) G (F_wake_log c) (He.glo_ok X Gn (c.t.d.fact 31 (f := .glo "wake_log") rfl)) D_befell D_is_due_behind
  have D_whys := ok_whys (P := P) (w := w) (base := base) (T := TL K) G (F_whys c) (He.glo_ok X Gn (c.t.d.fact 32 (f := .glo "whys") rfl)) D_befell
  have D_look_at_lane := ok_look_at_lane (P := P) (w := w) (base := base) (T := TL K) G (F_look_at_lane c) (He.glo_ok X Gn (c.t.d.fact 33 (f := .glo "look_at_lane") rfl)) D_lane_turned D_is_due
  have D_polled := ok_polled (P := P) (w := w) (base := base) (T := TL K) G (F_polled c) (He.glo_ok X Gn (c.t.d.fact 34 (f := .glo "polled") rfl)) D_lane_turned D_words_at
  have D_unmasked := ok_unmasked (P := P) (w := w) (base := base) (T := TL K) G (F_unmasked c) (He.glo_ok X Gn (c.t.d.fact 35 (f := .glo "unmasked") rfl)) D_lane_turned D_look_at_lane
  have D_ticked := ok_ticked (P := P) (w := w) (base := base) (T := TL K) G (F_ticked c) (He.glo_ok X Gn (c.t.d.fact 36 (f := .glo "ticked") rfl)) D_purse_filled D_turned_at D_look_at_lane
  have D_sum_due := ok_sum_due (P := P) (w := w) (base := base) (T := TL K) G (F_sum_due c) (He.glo_ok X Gn (c.t.d.fact 37 (f := .glo "sum_due") rfl)) 
  have D_is_right := ok_is_right (P := P) (w := w) (base := base) (T := TL K) G (F_is_right c) (He.glo_ok X Gn (c.t.d.fact 38 (f := .glo "is_right") rfl)) D_sum_due
  have D_summed := ok_summed (P := P) (w := w) (base := base) (T := TL K) G (F_summed c) (He.glo_ok X Gn (c.t.d.fact 39 (f := .glo "summed") rfl)) D_sum_due
  have D_bent := ok_bent (P := P) (w := w) (base := base) (T := TL K) G (F_bent c) (He.glo_ok X Gn (c.t.d.fact 40 (f := .glo "bent") rfl)) 
  have D_pieces_of := ok_pieces_of (P := P) (w := w) (base := base) (T := TL K) G (F_pieces_of c) (He.glo_ok X Gn (c.t.d.fact 41 (f := .glo "pieces_of") rfl)) D_summed
  have D_going_on := ok_going_on (P := P) (w := w) (base := base) (T := TL K) G (F_going_on c) (He.glo_ok X Gn (c.t.d.fact 42 (f := .glo "going_on") rfl)) 
  have D_does_go_on := ok_does_go_on (P := P) (w := w) (base := base) (T := TL K) G (F_does_go_on c) (He.glo_ok X Gn (c.t.d.fact 43 (f := .glo "does_go_on") rfl)) D_going_on
  have D_does_begin := ok_does_begin (P := P) (w := w) (base := base) (T := TL K) G (F_does_begin c) (He.glo_ok X Gn (c.t.d.fact 44 (f := .glo "does_begin") rfl)) 
  have D_with_part := ok_with_part (P := P) (w := w) (base := base) (T := TL K) G (F_with_part c) (He.glo_ok X Gn (c.t.d.fact 45 (f := .glo "with_part") rfl)) 
  have D_came_of := ok_came_of (P := P) (w := w) (base := base) (T := TL K) G (F_came_of c) (He.glo_ok X Gn (c.t.d.fact 46 (f := .glo "came_of") rfl)) D_is_right D_going_on D_does_go_on D_does_begin D_with_part
  have D_oldest_posted := ok_oldest_posted (P := P) (w := w) (base := base) (T := TL K) G (F_oldest_posted c) (He.glo_ok X Gn (c.t.d.fact 47 (f := .glo "oldest_posted") rfl)) D_take_out D_lane_turned
  have D_boxed := ok_boxed (P := P) (w := w) (base := base) (T := TL K) G (F_boxed c) (He.glo_ok X Gn (c.t.d.fact 48 (f := .glo "boxed") rfl)) D_lane_turned
  have D_why_not := ok_why_not (P := P) (w := w) (base := base) (T := TL K) G (F_why_not c) (He.glo_ok X Gn (c.t.d.fact 49 (f := .glo "why_not") rfl)) D_owns_it
  have D_takes_whole := ok_takes_whole (P := P) (w := w) (base := base) (T := TL K) G (F_takes_whole c) (He.glo_ok X Gn (c.t.d.fact 50 (f := .glo "takes_whole") rfl)) D_lane_of D_written D_look_at_lane D_oldest_posted D_boxed D_why_not
  have D_comes_in := ok_comes_in (P := P) (w := w) (base := base) (T := TL K) G (F_comes_in c) (He.glo_ok X Gn (c.t.d.fact 51 (f := .glo "comes_in") rfl)) D_turned_at D_by_talk D_with_talk D_came_of D_takes_whole
  have D_put_or_full := ok_put_or_full (P := P) (w := w) (base := base) (T := TL K) G (F_put_or_full c) (He.glo_ok X Gn (c.t.d.fact 52 (f := .glo "put_or_full") rfl)) D_put_in XNoStep
  have D_posts := ok_posts (P := P) (w := w) (base := base) (T := TL K) G (F_posts c) (He.glo_ok X Gn (c.t.d.fact 53 (f := .glo "posts") rfl)) D_lane_turned D_put_or_full
  have D_need_wake := ok_need_wake (P := P) (w := w) (base := base) (T := TL K) G (F_need_wake c) (He.glo_ok X Gn (c.t.d.fact 54 (f := .glo "need_wake") rfl)) XNoPaper
  have D_is_wake_row := ok_is_wake_row (P := P) (w := w) (base := base) (T := TL K) G (F_is_wake_row c) (He.glo_ok X Gn (c.t.d.fact 55 (f := .glo "is_wake_row") rfl)) D_is_number
  have D_look_at_row := ok_look_at_row (P := P) (w := w) (base := base) (T := TL K) G (F_look_at_row c) (He.glo_ok X Gn (c.t.d.fact 56 (f := .glo "look_at_row") rfl)) D_need_wake
  have D_lets_wakes := ok_lets_wakes (P := P) (w := w) (base := base) (T := TL K) G (F_lets_wakes c) (He.glo_ok X Gn (c.t.d.fact 57 (f := .glo "lets_wakes") rfl)) D_befell D_is_due_behind D_need_wake D_is_wake_row D_look_at_row
  have D__law_feed := ok__law_feed (P := P) (w := w) (base := base) (T := TL K) G (F__law_feed c) (He.glo_ok X Gn (c.t.d.fact 58 (f := .glo "_law_feed") rfl)) 
  have D__law_draw := ok__law_draw (P := P) (w := w) (base := base) (T := TL K) G (F__law_draw c) (He.glo_ok X Gn (c.t.d.fact 59 (f := .glo "_law_draw") rfl)) 
  have D__law_lane := ok__law_lane (P := P) (w := w) (base := base) (T := TL K) G (F__law_lane c) (He.glo_ok X Gn (c.t.d.fact 60 (f := .glo "_law_lane") rfl)) D_void_ring
  have D__law_world := ok__law_world (P := P) (w := w) (base := base) (T := TL K) G (F__law_world c) (He.glo_ok X Gn (c.t.d.fact 61 (f := .glo "_law_world") rfl)) D__law_lane
  have D__law_stretch := ok__law_stretch (P := P) (w := w) (base := base) (T := TL K) G (F__law_stretch c) (He.glo_ok X Gn (c.t.d.fact 63 (f := .glo "_law_stretch") rfl)) D__law_draw
  have D__law_some := ok__law_some (P := P) (w := w) (base := base) (T := TL K) G (F__law_some c) (He.glo_ok X Gn (c.t.d.fact 64 (f := .glo "_law_some") rfl)) D__law_draw
  have D__law_drawn := ok__law_drawn (P := P) (w := w) (base := base) (T := TL K) G (F__law_drawn c) (He.glo_ok X Gn (c.t.d.fact 65 (f := .glo "_law_drawn") rfl)) D__law_draw D__law_world
  have D__law_letter := ok__law_letter (P := P) (w := w) (base := base) (T := TL K) G (F__law_letter c) (He.glo_ok X Gn (c.t.d.fact 66 (f := .glo "_law_letter") rfl)) D_pieces_of D__law_draw D__law_some
  have D__law_piece := ok__law_piece (P := P) (w := w) (base := base) (T := TL K) G (F__law_piece c) (He.glo_ok X Gn (c.t.d.fact 67 (f := .glo "_law_piece") rfl)) D_bent D__law_draw D__law_letter
  have D__law_value := ok__law_value (P := P) (w := w) (base := base) (T := TL K) G (F__law_value c) (He.glo_ok X Gn (c.t.d.fact 68 (f := .glo "_law_value") rfl)) 
  have D__law_program := ok__law_program (P := P) (w := w) (base := base) (T := TL K) G (F__law_program c) (He.glo_ok X Gn (c.t.d.fact 69 (f := .glo "_law_program") rfl)) D_polled D_unmasked D_ticked D_comes_in D_posts D__law_value
  have D__law_act := ok__law_act (P := P) (w := w) (base := base) (T := TL K) G (F__law_act c) (He.glo_ok X Gn (c.t.d.fact 70 (f := .glo "_law_act") rfl)) D__law_draw D__law_stretch D__law_piece
  have D__law_by_program := ok__law_by_program (P := P) (w := w) (base := base) (T := TL K) G (F__law_by_program c) (He.glo_ok X Gn (c.t.d.fact 71 (f := .glo "_law_by_program") rfl)) D_half_of D__law_drawn
  have D__law_done := ok__law_done (P := P) (w := w) (base := base) (T := TL K) G (F__law_done c) (He.glo_ok X Gn (c.t.d.fact 72 (f := .glo "_law_done") rfl)) D__law_program (lam__law_done c tb) SD
  have D__law_noted := ok__law_noted (P := P) (w := w) (base := base) (T := TL K) G (F__law_noted c) (He.glo_ok X Gn (c.t.d.fact 73 (f := .glo "_law_noted") rfl)) 
  have D__law_is_log := ok__law_is_log (P := P) (w := w) (base := base) (T := TL K) G (F__law_is_log c) (He.glo_ok X Gn (c.t.d.fact 74 (f := .glo "_law_is_log") rfl)) D_wake_log D_whys D_lets_wakes (lam__law_is_log c tb) SD
  exact fn_law G F D__law_feed D__law_act D__law_by_program D__law_done D__law_noted D__law_is_log
end
end Dt
namespace Dt
open PySem PySem.Spec PyProof.Rows L2
theorem rps_ints {K : PySem.W.Frag} {H : Hp} {ρ : List Addr} : ∀ ns : List Int, Rps K H ρ (ns.map D.int) (ns.map V.int)
  | [] => rfl
  | n :: ns => ⟨_, _, rfl, rfl, rps_ints ns⟩
theorem tabs_of {K : PySem.W.Frag} {H : Hp} (h : ∀ p ∈ CS K, H p.2 = some (.tbl #[])) : LamX.Tabs (TL K) H := by
  intro p hp
  have key : ∀ x ∈ ["with_talk", "_law_done", "_law_is_log"], ∀ q, LamX.TabS H (hqTab K x) q := fun x hx q => by
    refine ⟨#[], ?_, trivial, fun pos cv hc => nomatch hc⟩
    simp only [List.mem_cons, List.not_mem_nil, or_false] at hx
    rcases hx with rfl | rfl | rfl
    · exact h _ (List.mem_map.mpr ⟨("with_talk", none), List.mem_cons_self, rfl⟩)
    · exact h _ (List.mem_map.mpr ⟨("_law_done", none), List.mem_cons_of_mem _ List.mem_cons_self, rfl⟩)
    · exact h _ (List.mem_map.mpr ⟨("_law_is_log", none), List.mem_cons_of_mem _ (List.mem_cons_of_mem _ List.mem_cons_self), rfl⟩)
  simp only [TL, List.mem_cons, List.not_mem_nil, or_false] at hp
  rcases hp with rfl | rfl | rfl
  · exact key "with_talk" (by decide) _
  · exact key "_law_done" (by decide) _
  · exact key "_law_is_log" (by decide) _
theorem law_sp {P : Program} {w : World} {K : PySem.W.Frag} {H : Hp} {a : Addr} {ns : List Int} (hT : ∀ p ∈ CS K, H p.2 = some (.tbl #[])) (hS : SqL K H a (ns.map V.int)) :
    spM ⟨P, w, K, TL K⟩ f_law 1 [.ref a] H (fun v _ => v = .bl true) fun _ _ _ => False := by
  have ht := tabs_of hT
  have fin : ∀ (ρ : List Addr) (M : Mem) (d : D), (∃ M2, f_law [d] M = .ok (.bl true) M2) → WOk ⟨P, w, K, TL K⟩ ρ M H → Rp K H ρ d (.ref a) → spM ⟨P, w, K, TL K⟩ f_law 1 [.ref a] H (fun v _ => v = .bl true) fun _ _ _ => False := fun ρ M d ⟨M2, e⟩ wo r =>
    ⟨ρ, M, [d], wo, ⟨_, _, rfl, r, rfl⟩, rfl, by rw [e]; exact fun v ρ' H' _ _ x => x⟩
  have ho : WOk ⟨P, w, K, TL K⟩ [] [] H := ⟨rfl, List.nodup_nil, fun l o b e _ => by simp at e, ht⟩
  rcases hS with (h | ⟨o, h⟩) | h
  · refine fin [a] [.lst (ns.map D.int)] (.loc 0) (law_loc ns) ⟨rfl, by simp, fun l o b e1 e2 => ?_, ht⟩ ⟨a, rfl, rfl⟩
    cases l with
    | succ l => simp at e1
    | zero =>
      cases e1
      cases e2
      exact ⟨_, h, rps_ints ns⟩
  · exact fin [] [] (.fl (ns.map D.int)) (law_fl ns) ho ⟨a, _, rfl, .inl ⟨o, h⟩, rps_ints ns⟩
  · exact fin [] [] (.fl (ns.map D.int)) (law_fl ns) ho ⟨a, _, rfl, .inr (.inr h), rps_ints ns⟩
theorem law_at {w : World} {K : PySem.W.Frag} {mg : Str → Option Value} {fa : Addr} {h : Heap} (X : K.In h) (G : h.Ns mainGlobals mg) (c : HS w h K) (hm : mg "law" = some (.ref fa)) :
    LamX.LawAtS PySem.Challenge.rw_cardrings_k50_whole_wakes_by_deeds w K (L2.CX PySem.Challenge.rw_cardrings_k50_whole_wakes_by_deeds.prog w) 12 63 "_law_script" mg fa h := by
  have e : mg "law" = some (.ref (fA K "law")) := He.glo_ok X G (c.t.d.fact 75 (f := .glo "law") rfl)
  have e2 : fa = fA K "law" := by
    rw [hm] at e
    cases e
    rfl
  subst e2
  obtain ⟨fd, F⟩ := F_law c
  have cs : ∀ p ∈ CS K, ∃ q ∈ htf, He.cT K q = p := fun p hp => List.mem_map.mp hp
  refine ⟨fd, CS K, spM ⟨PySem.Challenge.rw_cardrings_k50_whole_wakes_by_deeds.prog, w, K, TL K⟩ f_law 1, fun p hp => ?_, fun p hp => ?_, fun p hp => ?_, fun s u => ?_, fun H a ns _ _ hT hS => law_sp hT hS, fun base KX hns tb => law_ok X G c tb F⟩
  · obtain ⟨q, hq, rfl⟩ := cs p hp
    exact c.empty q hq
  · obtain ⟨q, hq, rfl⟩ := cs p hp
    exact c.out q hq
  · obtain ⟨q, hq, rfl⟩ := cs p hp
    exact PySem.W.codeHd_of_K X (c.hd q hq)
  · exact FunD.bindsA (ps := ["_law_script"]) F (fun _ _ _ _ _ _ us hl => match us, hl with | [_], _ => rfl) s [u] rfl
end Dt
open PySem PySem.W PySem.Calls PyProof.Rows
theorem PySem.Challenge.cw_cardrings_k50_whole_wakes_by_deeds_holds : PySem.Challenge.rw_cardrings_k50_whole_wakes_by_deeds.Holds := by
  w_on; o_law
  refine HandSHeadRun.head_any (r := OpenLaw.row PySem.Challenge.rw_cardrings_k50_whole_wakes_by_deeds) (q := view (OpenLaw.row PySem.Challenge.rw_cardrings_k50_whole_wakes_by_deeds).prog [119]) (H := Dt.hk) (ob := Dt.hob) (M := 6000) (loose := Dt.hqNames) (d := HandSHeadRun.topDef (OpenLaw.row PySem.Challenge.rw_cardrings_k50_whole_wakes_by_deeds).prog 119) (kwd := []) Dt.hob_eq
    (by kernel_rfl) (fun s => by kernel_rfl) Dt.run (by kernel_rfl) (by kernel_rfl) (by kernel_rfl) (by rfl) (by first | assumption | decide +kernel) (by decide +kernel) ⟨rfl, rfl, rfl, rfl, rfl, by decide +kernel⟩ ?hw ?hc
  case hw => w_witness2
  case hc =>
    refine LamX.walk_ofTsE (l := PySem.Challenge.rw_cardrings_k50_whole_wakes_by_deeds) (n := 63) (k := 12) (x := "_law_script") (CX := fun w => L2.CX PySem.Challenge.rw_cardrings_k50_whole_wakes_by_deeds.prog w) rfl (by decide) (by kernel_rfl) ⟨rfl, by decide, by decide⟩ ?F (fun _ _ _ _ _ c => by
      obtain ⟨_, _, _, _, _, _, _, _, _, _, _, _, z⟩ := c
      exact z)
    intro w mg fa h Y G hmg0
    obtain ⟨K, KX, c⟩ := Y
    have hmg : mg ("law" : PySem.Str) = some (.ref fa) := by
      have e : (HandSHeadRun.topDef (OpenLaw.row PySem.Challenge.rw_cardrings_k50_whole_wakes_by_deeds).prog 119).name = ("law" : PySem.Str) := by kernel_rfl
      rw [← e]
      exact hmg0
    exact ⟨K, KX, Dt.law_at KX G c hmg⟩
