import PyProof.Rows.All
import Wide.All
import OpenK.AllK
import Wide.FinOn
import KE.KStateDown
import HandS.Defaults
import HandS.Head0
import HandS.Head1
import HandS.Head2
import HandS.HeadEnd
import HandS.HeadHook1
import HandS.HeadHook2
import HandS.HeadHook3
import HandS.ForExc
import HandS.Dict
import HandS.Comp
import HandS.Iter
import HandS.More
import HandS.Text
import HandS.TryOnly
import HandS.TupAny
import HandS.Wide
import HandS.WideBits
import HandS.Style
import HandS.Conv
import HandS.IsInst
import HandS.Walk
import HandS.TupMul
import PyProof.ReprRoads
import PyProof.NeData
import KE.GoesMore
import HandS.ExcField
import PySem.Challenge.RW_prefixwire_k07_whole_first_faults
import KE.KSuper
import KE.KExcSuper
import HandS.ExcSuper
import HandS.ExcInit
import HandS.Ends
set_option Elab.async false
set_option linter.all false
set_option maxRecDepth 100000
set_option maxHeartbeats 0
/-! K7: what the run of the top leans on. -/
namespace K7
open PySem PySem.Spec
def wAck : Str := "ack"
def wRoom : Str := "room"
def wData : Str := "data"
def wPing : Str := "ping"
def wWord : Str := "word"
def wPlace : Str := "place"
def top (i : Nat) : Stmt := PySem.Challenge.pw_prefixwire_k07_whole_first_faults.main.body.getD i (.Pass ⟨0, 0, 0, 0⟩)
def bodyOf : Stmt → List Stmt
  | .FunctionDef _ _ b _ _ _ _ _ _ _ => b
  | _ => []
def scopeOf : Stmt → PySem.Scope
  | .FunctionDef _ _ _ _ _ _ s _ _ _ => s
  | _ => { kind := .module, names := [], isGenerator := false, isCoroutine := false }
end K7
/-! K7: what is looked at behind the top (printed by wip/gen_head.py). -/
namespace K7
open PySem PySem.Spec PyProof.Rows L2
def argsOf : Stmt → Arguments
  | .FunctionDef _ a _ _ _ _ _ _ _ _ => a
  | _ => ⟨[], [], none, [], [], none, []⟩
def fn : List He.DefD := [
  ⟨("is_within", none), "is_within", "is_within", argsOf (top 12), bodyOf (top 12), scopeOf (top 12), [], []⟩,
  ⟨("need_number", none), "need_number", "need_number", argsOf (top 13), bodyOf (top 13), scopeOf (top 13), [], []⟩,
  ⟨("is_number", none), "is_number", "is_number", argsOf (top 14), bodyOf (top 14), scopeOf (top 14), [], []⟩,
  ⟨("need_octets", none), "need_octets", "need_octets", argsOf (top 17), bodyOf (top 17), scopeOf (top 17), [], []⟩,
  ⟨("moved", none), "moved", "moved", argsOf (top 22), bodyOf (top 22), scopeOf (top 22), [], []⟩,
  ⟨("rests_of_fours", none), "rests_of_fours", "rests_of_fours", argsOf (top 23), bodyOf (top 23), scopeOf (top 23), [], []⟩,
  ⟨("rest_by_fours", none), "rest_by_fours", "rest_by_fours", argsOf (top 24), bodyOf (top 24), scopeOf (top 24), [], []⟩,
  ⟨("check_of", none), "check_of", "check_of", argsOf (top 29), bodyOf (top 29), scopeOf (top 29), [], []⟩,
  ⟨("numeral", none), "numeral", "numeral", argsOf (top 34), bodyOf (top 34), scopeOf (top 34), [], []⟩,
  ⟨("numeral_found", none), "numeral_found", "numeral_found", argsOf (top 35), bodyOf (top 35), scopeOf (top 35), [], []⟩,
  ⟨("are_octets", none), "are_octets", "are_octets", argsOf (top 39), bodyOf (top 39), scopeOf (top 39), [], []⟩,
  ⟨("is_piece", none), "is_piece", "is_piece", argsOf (top 40), bodyOf (top 40), scopeOf (top 40), [], []⟩,
  ⟨("is_range", none), "is_range", "is_range", argsOf (top 43), bodyOf (top 43), scopeOf (top 43), [], []⟩,
  ⟨("need_ranges", none), "need_ranges", "need_ranges", argsOf (top 44), bodyOf (top 44), scopeOf (top 44), [], []⟩,
  ⟨("is_ranges", none), "is_ranges", "is_ranges", argsOf (top 45), bodyOf (top 45), scopeOf (top 45), [], []⟩,
  ⟨("is_header", none), "is_header", "is_header", argsOf (top 50), bodyOf (top 50), scopeOf (top 50), [], []⟩,
  ⟨("is_ack", none), "is_ack", "is_ack", argsOf (top 51), bodyOf (top 51), scopeOf (top 51), [], []⟩,
  ⟨("is_frame", none), "is_frame", "is_frame", argsOf (top 52), bodyOf (top 52), scopeOf (top 52), [], []⟩,
  ⟨("may_stand", none), "may_stand", "may_stand", argsOf (top 53), bodyOf (top 53), scopeOf (top 53), [], []⟩,
  ⟨("is_next", none), "is_next", "is_next", argsOf (top 54), bodyOf (top 54), scopeOf (top 54), [], []⟩,
  ⟨("head_octets", none), "head_octets", "head_octets", argsOf (top 55), bodyOf (top 55), scopeOf (top 55), [], []⟩,
  ⟨("ack_octets", none), "ack_octets", "ack_octets", argsOf (top 56), bodyOf (top 56), scopeOf (top 56), [], []⟩,
  ⟨("frame_octets", none), "frame_octets", "frame_octets", argsOf (top 57), bodyOf (top 57), scopeOf (top 57), [], []⟩,
  ⟨("number_at", none), "number_at", "number_at", argsOf (top 61), bodyOf (top 61), scopeOf (top 61), [], []⟩,
  ⟨("header_at", none), "header_at", "header_at", argsOf (top 62), bodyOf (top 62), scopeOf (top 62), [], []⟩,
  ⟨("stream_at", none), "stream_at", "stream_at", argsOf (top 63), bodyOf (top 63), scopeOf (top 63), [], []⟩,
  ⟨("bounded", none), "bounded", "bounded", argsOf (top 64), bodyOf (top 64), scopeOf (top 64), [], []⟩,
  ⟨("range_at", none), "range_at", "range_at", argsOf (top 65), bodyOf (top 65), scopeOf (top 65), [], []⟩,
  ⟨("ack_at", none), "ack_at", "ack_at", argsOf (top 66), bodyOf (top 66), scopeOf (top 66), [], []⟩,
  ⟨("room_at", none), "room_at", "room_at", argsOf (top 67), bodyOf (top 67), scopeOf (top 67), [], []⟩,
  ⟨("data_at", none), "data_at", "data_at", argsOf (top 68), bodyOf (top 68), scopeOf (top 68), [], []⟩,
  ⟨("frame_at", none), "frame_at", "frame_at", argsOf (top 69), bodyOf (top 69), scopeOf (top 69), [], []⟩,
  ⟨("body_read", none), "body_read", "body_read", argsOf (top 70), bodyOf (top 70), scopeOf (top 70), [], []⟩,
  ⟨("datagram_fault", none), "datagram_fault", "datagram_fault", argsOf (top 73), bodyOf (top 73), scopeOf (top 73), [], []⟩,
  ⟨("need_datagram", none), "need_datagram", "need_datagram", argsOf (top 74), bodyOf (top 74), scopeOf (top 74), [], []⟩,
  ⟨("written", none), "written", "written", argsOf (top 75), bodyOf (top 75), scopeOf (top 75), [], []⟩,
  ⟨("need_form", none), "need_form", "need_form", argsOf (top 76), bodyOf (top 76), scopeOf (top 76), [], []⟩,
  ⟨("read_datagram", none), "read_datagram", "read_datagram", argsOf (top 77), bodyOf (top 77), scopeOf (top 77), [], []⟩,
  ⟨("_law_mixed", none), "_law_mixed", "_law_mixed", argsOf (top 79), bodyOf (top 79), scopeOf (top 79), [], []⟩,
  ⟨("_law_folded", none), "_law_folded", "_law_folded", argsOf (top 80), bodyOf (top 80), scopeOf (top 80), [], []⟩,
  ⟨("_law_draw", none), "_law_draw", "_law_draw", argsOf (top 81), bodyOf (top 81), scopeOf (top 81), [], []⟩,
  ⟨("_law_begun", none), "_law_begun", "_law_begun", argsOf (top 82), bodyOf (top 82), scopeOf (top 82), [], []⟩,
  ⟨("_law_like", none), "_law_like", "_law_like", argsOf (top 83), bodyOf (top 83), scopeOf (top 83), [], []⟩,
  ⟨("_law_of", none), "_law_of", "_law_of", argsOf (top 84), bodyOf (top 84), scopeOf (top 84), [], []⟩,
  ⟨("_law_is_int", none), "_law_is_int", "_law_is_int", argsOf (top 85), bodyOf (top 85), scopeOf (top 85), [], []⟩,
  ⟨("_law_order", none), "_law_order", "_law_order", argsOf (top 86), bodyOf (top 86), scopeOf (top 86), [], []⟩,
  ⟨("_law_below", none), "_law_below", "_law_below", argsOf (top 87), bodyOf (top 87), scopeOf (top 87), [], []⟩,
  ⟨("_law_number", none), "_law_number", "_law_number", argsOf (top 88), bodyOf (top 88), scopeOf (top 88), [], []⟩,
  ⟨("_law_octets", none), "_law_octets", "_law_octets", argsOf (top 89), bodyOf (top 89), scopeOf (top 89), [], []⟩,
  ⟨("_law_numeral", none), "_law_numeral", "_law_numeral", argsOf (top 90), bodyOf (top 90), scopeOf (top 90), [], []⟩,
  ⟨("_law_row", none), "_law_row", "_law_row", argsOf (top 91), bodyOf (top 91), scopeOf (top 91), [], []⟩,
  ⟨("_law_left", none), "_law_left", "_law_left", argsOf (top 92), bodyOf (top 92), scopeOf (top 92), [], []⟩,
  ⟨("_law_check", none), "_law_check", "_law_check", argsOf (top 93), bodyOf (top 93), scopeOf (top 93), [], []⟩,
  ⟨("_law_turned", none), "_law_turned", "_law_turned", argsOf (top 94), bodyOf (top 94), scopeOf (top 94), [], []⟩,
  ⟨("_law_ranges", none), "_law_ranges", "_law_ranges", argsOf (top 95), bodyOf (top 95), scopeOf (top 95), [], []⟩,
  ⟨("_law_piece", none), "_law_piece", "_law_piece", argsOf (top 96), bodyOf (top 96), scopeOf (top 96), [], []⟩,
  ⟨("_law_header", none), "_law_header", "_law_header", argsOf (top 97), bodyOf (top 97), scopeOf (top 97), [], []⟩,
  ⟨("_law_frames", none), "_law_frames", "_law_frames", argsOf (top 98), bodyOf (top 98), scopeOf (top 98), [], []⟩,
  ⟨("_law_head_row", none), "_law_head_row", "_law_head_row", argsOf (top 99), bodyOf (top 99), scopeOf (top 99), [], []⟩,
  ⟨("_law_ack_row", none), "_law_ack_row", "_law_ack_row", argsOf (top 100), bodyOf (top 100), scopeOf (top 100), [], []⟩,
  ⟨("_law_frame_row", none), "_law_frame_row", "_law_frame_row", argsOf (top 101), bodyOf (top 101), scopeOf (top 101), [], []⟩,
  ⟨("_law_body", none), "_law_body", "_law_body", argsOf (top 102), bodyOf (top 102), scopeOf (top 102), [], []⟩,
  ⟨("_law_failed", none), "_law_failed", "_law_failed", argsOf (top 103), bodyOf (top 103), scopeOf (top 103), [], []⟩,
  ⟨("_law_taken", none), "_law_taken", "_law_taken", argsOf (top 104), bodyOf (top 104), scopeOf (top 104), [], []⟩,
  ⟨("_law_taken_within", none), "_law_taken_within", "_law_taken_within", argsOf (top 105), bodyOf (top 105), scopeOf (top 105), [], []⟩,
  ⟨("_law_stream", none), "_law_stream", "_law_stream", argsOf (top 106), bodyOf (top 106), scopeOf (top 106), [], []⟩,
  ⟨("_law_ack", none), "_law_ack", "_law_ack", argsOf (top 107), bodyOf (top 107), scopeOf (top 107), [], []⟩,
  ⟨("_law_room", none), "_law_room", "_law_room", argsOf (top 108), bodyOf (top 108), scopeOf (top 108), [], []⟩,
  ⟨("_law_data", none), "_law_data", "_law_data", argsOf (top 109), bodyOf (top 109), scopeOf (top 109), [], []⟩,
  ⟨("_law_may_stand", none), "_law_may_stand", "_law_may_stand", argsOf (top 110), bodyOf (top 110), scopeOf (top 110), [], []⟩,
  ⟨("_law_frame", none), "_law_frame", "_law_frame", argsOf (top 111), bodyOf (top 111), scopeOf (top 111), [], []⟩,
  ⟨("_law_read", none), "_law_read", "_law_read", argsOf (top 112), bodyOf (top 112), scopeOf (top 112), [], []⟩,
  ⟨("_law_told", none), "_law_told", "_law_told", argsOf (top 113), bodyOf (top 113), scopeOf (top 113), [], []⟩,
  ⟨("_law_mixed_body", none), "_law_mixed_body", "_law_mixed_body", argsOf (top 114), bodyOf (top 114), scopeOf (top 114), [], []⟩,
  ⟨("_law_bent", none), "_law_bent", "_law_bent", argsOf (top 115), bodyOf (top 115), scopeOf (top 115), [], []⟩,
  ⟨("_law_octets_right", none), "_law_octets_right", "_law_octets_right", argsOf (top 116), bodyOf (top 116), scopeOf (top 116), [], []⟩,
  ⟨("_law_is_piece", none), "_law_is_piece", "_law_is_piece", argsOf (top 117), bodyOf (top 117), scopeOf (top 117), [], []⟩,
  ⟨("_law_values_right", none), "_law_values_right", "_law_values_right", argsOf (top 118), bodyOf (top 118), scopeOf (top 118), [], []⟩,
  ⟨("_law_is_told", none), "_law_is_told", "_law_is_told", argsOf (top 119), bodyOf (top 119), scopeOf (top 119), [], []⟩,
  ⟨("_law_hands_right", none), "_law_hands_right", "_law_hands_right", argsOf (top 120), bodyOf (top 120), scopeOf (top 120), [], []⟩,
  ⟨("law", none), "law", "law", argsOf (top 121), bodyOf (top 121), scopeOf (top 121), [], []⟩,
  ⟨("is_whole_basics", none), "is_whole", "is_whole", argsOf (top 10), bodyOf (top 10), scopeOf (top 10), [], []⟩,
  ⟨("is_whole_checks", none), "is_whole", "is_whole", argsOf (top 30), bodyOf (top 30), scopeOf (top 30), [], []⟩]
def fa : List He.Fa := [.glo "is_within", .glo "need_number", .glo "is_number", .glo "need_octets", .glo "moved", .glo "rests_of_fours", .glo "rest_by_fours", .glo "check_of", .glo "numeral", .glo "numeral_found", .glo "are_octets", .glo "is_piece", .glo "is_range", .glo "need_ranges", .glo "is_ranges", .glo "is_header", .glo "is_ack", .glo "is_frame", .glo "may_stand", .glo "is_next", .glo "head_octets", .glo "ack_octets", .glo "frame_octets", .glo "number_at", .glo "header_at", .glo "stream_at", .glo "bounded", .glo "range_at", .glo "ack_at", .glo "room_at", .glo "data_at", .glo "frame_at", .glo "body_read", .glo "datagram_fault", .glo "need_datagram", .glo "written", .glo "need_form", .glo "read_datagram", .glo "_law_mixed", .glo "_law_folded", .glo "_law_draw", .glo "_law_begun", .glo "_law_like", .glo "_law_of", .glo "_law_is_int", .glo "_law_order", .glo "_law_below", .glo "_law_number", .glo "_law_octets", .glo "_law_numeral", .glo "_law_row", .glo "_law_left", .glo "_law_check", .glo "_law_turned", .glo "_law_ranges", .glo "_law_piece", .glo "_law_header", .glo "_law_frames", .glo "_law_head_row", .glo "_law_ack_row", .glo "_law_frame_row", .glo "_law_body", .glo "_law_failed", .glo "_law_taken", .glo "_law_taken_within", .glo "_law_stream", .glo "_law_ack", .glo "_law_room", .glo "_law_data", .glo "_law_may_stand", .glo "_law_frame", .glo "_law_read", .glo "_law_told", .glo "_law_mixed_body", .glo "_law_bent", .glo "_law_octets_right", .glo "_law_is_piece", .glo "_law_values_right", .glo "_law_is_told", .glo "_law_hands_right", .glo "law", .glo "is_whole_basics", .glo "is_whole_checks", .free "len", .free "isinstance", .free "range", .free "enumerate", .free "min", .free "max", .free "int", .free "list", .free "tuple", .free "repr", .free "str", .free "bool", .free "super", .int "MOST_NUMBER" 1152921504606846976, .int "MOST_OCTETS" 1048576, .int "PLACES" 32, .int "DIVISOR" 6442450971, .int "MOST_REST" 4294967295, .int "CHECK_SIZE" 4, .int "MOST_SIZE" 1200, .int "MOST_GROUPS" 9, .int "MOST_KEPT" 1048576, .int "MOST_LENGTH_pieces" 1152921504606846975, .int "MOST_RANGES_ranges" 1048576, .int "MOST_RANGES_frames" 32, .int "MOST_STREAM" 15, .int "MOST_LENGTH_reading" 1152921504606846975, .int "LEAST_SIZE" 7]
def loose0 : List PySem.Str := [("WireError" : PySem.Str), ("BadOctets" : PySem.Str), ("BadNumber" : PySem.Str), ("BadDatagram" : PySem.Str), ("BadValue" : PySem.Str), ("BadRanges" : PySem.Str), ("TooGreat" : PySem.Str), ("MOST_NUMBER" : PySem.Str), ("is_whole" : PySem.Str), ("is_whole_basics" : PySem.Str), ("is_within" : PySem.Str), ("need_number" : PySem.Str), ("is_number" : PySem.Str), ("MOST_OCTETS" : PySem.Str), ("need_octets" : PySem.Str), ("PLACES" : PySem.Str), ("DIVISOR" : PySem.Str), ("MOST_REST" : PySem.Str), ("moved" : PySem.Str), ("rests_of_fours" : PySem.Str), ("rest_by_fours" : PySem.Str), ("BEGIN" : PySem.Str), ("CHECK_SIZE" : PySem.Str), ("MOST_SIZE" : PySem.Str), ("check_of" : PySem.Str)]
def loose1 : List PySem.Str := [("is_whole_checks" : PySem.Str), ("MOST_GROUPS" : PySem.Str), ("numeral" : PySem.Str), ("numeral_found" : PySem.Str), ("MOST_KEPT" : PySem.Str), ("MOST_LENGTH_pieces" : PySem.Str), ("are_octets" : PySem.Str), ("is_piece" : PySem.Str), ("MOST_RANGES_ranges" : PySem.Str), ("is_range" : PySem.Str), ("need_ranges" : PySem.Str), ("is_ranges" : PySem.Str), ("MOST_RANGES_frames" : PySem.Str), ("MOST_STREAM" : PySem.Str), ("RANKS" : PySem.Str), ("is_header" : PySem.Str), ("is_ack" : PySem.Str), ("is_frame" : PySem.Str), ("may_stand" : PySem.Str), ("is_next" : PySem.Str), ("head_octets" : PySem.Str), ("ack_octets" : PySem.Str), ("frame_octets" : PySem.Str), ("MOST_LENGTH_reading" : PySem.Str), ("SORTS" : PySem.Str)]
def loose2 : List PySem.Str := [("number_at" : PySem.Str), ("header_at" : PySem.Str), ("stream_at" : PySem.Str), ("bounded" : PySem.Str), ("range_at" : PySem.Str), ("ack_at" : PySem.Str), ("room_at" : PySem.Str), ("data_at" : PySem.Str), ("frame_at" : PySem.Str), ("body_read" : PySem.Str), ("LEAST_SIZE" : PySem.Str), ("datagram_fault" : PySem.Str), ("need_datagram" : PySem.Str), ("written" : PySem.Str), ("need_form" : PySem.Str), ("read_datagram" : PySem.Str), ("_law_mixed" : PySem.Str), ("_law_folded" : PySem.Str), ("_law_draw" : PySem.Str), ("_law_begun" : PySem.Str), ("_law_like" : PySem.Str), ("_law_of" : PySem.Str), ("_law_is_int" : PySem.Str), ("_law_order" : PySem.Str), ("_law_below" : PySem.Str)]
def loose3 : List PySem.Str := [("_law_number" : PySem.Str), ("_law_octets" : PySem.Str), ("_law_numeral" : PySem.Str), ("_law_row" : PySem.Str), ("_law_left" : PySem.Str), ("_law_check" : PySem.Str), ("_law_turned" : PySem.Str), ("_law_ranges" : PySem.Str), ("_law_piece" : PySem.Str), ("_law_header" : PySem.Str), ("_law_frames" : PySem.Str), ("_law_head_row" : PySem.Str), ("_law_ack_row" : PySem.Str), ("_law_frame_row" : PySem.Str), ("_law_body" : PySem.Str), ("_law_failed" : PySem.Str), ("_law_taken" : PySem.Str), ("_law_taken_within" : PySem.Str), ("_law_stream" : PySem.Str), ("_law_ack" : PySem.Str), ("_law_room" : PySem.Str), ("_law_data" : PySem.Str), ("_law_may_stand" : PySem.Str), ("_law_frame" : PySem.Str), ("_law_read" : PySem.Str)]
def loose4 : List PySem.Str := [("_law_told" : PySem.Str), ("_law_mixed_body" : PySem.Str), ("_law_bent" : PySem.Str), ("_law_octets_right" : PySem.Str), ("_law_is_piece" : PySem.Str), ("_law_values_right" : PySem.Str), ("_law_is_told" : PySem.Str), ("_law_hands_right" : PySem.Str)]
def loose : List PySem.Str := loose0 ++ loose1 ++ loose2 ++ loose3 ++ loose4
def ts : List He.Tab := [(fun K => He.ga K "RANKS", ["ack", "room", "data", "ping"])]
/-! ### the addresses: the module's names, what defs and classes name -/
def dictE (g : Addr → Option Obj) (a : Addr) : List DictEntry := match g a with
  | some ⟨_, _, .dict es _, _⟩ => es.toList
  | _ => []
def refs1 (g : Addr → Option Obj) (a : Addr) : List Addr := match g a with
  | some ⟨_, _, .func fd, _⟩ => He.refV fd.code ++ fd.closure.map (·.2)
  | some ⟨_, _, .cls cd, _⟩ => [cd.ns]
  | _ => []
def nsOf (g : Addr → Option Obj) (a : Addr) : List Addr := match g a with
  | some ⟨_, _, .cls cd, _⟩ => (dictE g cd.ns).flatMap fun e => He.refV e.val
  | _ => []
/-- made first: the list itself -/
def frA {α : Type} : List Addr → (List Addr → α) → α
  | [], k => k []
  | a :: r, k => HandSHeadRun.frNat a fun a => frA r fun r => k (a :: r)
theorem frA_eq {α : Type} : ∀ (l : List Addr) (k : List Addr → α), frA l k = k l
  | [], _ => rfl
  | a :: r, k => by
    unfold frA
    rw [HandSHeadRun.frNat_eq, frA_eq r]
def frF {α : Type} (g : Addr → Option Obj) : List Addr → (PySem.W.Frag → α) → α
  | [], k => k []
  | a :: r, k => match g a with
    | some o => frF g r fun K => k ((a, o) :: K)
    | none => frF g r k
theorem frF_eq {α : Type} {g : Addr → Option Obj} : ∀ (l : List Addr) (k : PySem.W.Frag → α), frF g l k = k (He.frG g l)
  | [], _ => rfl
  | a :: r, k => by
    unfold frF He.frG
    rw [List.filterMap_cons]
    cases g a with
    | none => exact frF_eq r k
    | some o => exact frF_eq r _
def asK {α : Type} (g : Addr → Option Obj) (k : List Addr → α) : α :=
  frA ((dictE g mainGlobals).flatMap fun e => He.refV e.val) fun gl => frA (gl.flatMap (nsOf g)) fun ini => frA (mainGlobals :: cStatics :: gl ++ gl.flatMap (refs1 g) ++ ini ++ ini.flatMap (refs1 g)) k
/-! ### errors -/
def errs : List (Str × List Str) := [("BadDatagram", [wWord, wPlace]), ("BadValue", [wWord, wPlace]), ("BadRanges", [wPlace])]
def clsB (K : PySem.W.Frag) (C : Addr) : Bool := match K.lookup C with
  | some ⟨.type t, _, .cls cd, sl⟩ => decide (t = "type") && (match cd.mro, sl.toList with
    | .ref C' :: bm, [_, _, _, _, some (.builtin n), _] => decide (C' = C) && (decide (n = "ValueError.__new__") && (!cd.hasDel && (cd.hasDict && (PySem.HandSPX.refsVE bm && He.eqO (PySem.W.alongIn K "__init__" bm) (some (some (.builtin "ValueError.__init__")))))))
    | _, _ => false)
  | _ => false
/-- its cell, its code -/
def iniB (P : PySem.Program) (K : PySem.W.Frag) (C fI : Addr) : Bool := match K.lookup fI with
  | some ⟨_, _, .func fd, _⟩ => (match fd.closure, fd.code, fd.defaults, fd.kwdefaults with
    | [(x, cc)], .ref cda, .none, .none => decide (x = "__class__") && (decide (fd.globals = mainGlobals) && (decide (fd.builtins = builtinsNs) && (PySem.W.codeIn K (.ref cda) fd.qualname && ((match K.lookup cda with
      | some ⟨_, _, .fields vs, _⟩ => (match (vs[2]? : Option Value) with
        | some (.str file _) => (P.main.file : Str) == file
        | _ => false)
      | _ => false) && (match K.lookup cc with
      | some ⟨_, _, .cell (some (.ref D)), _⟩ => decide (D = C)
      | _ => false)))))
    | _, _, _, _ => false)
  | _ => false
abbrev IniW : Type := Option (Str × Arguments × FuncBody × PySem.Scope)
def iniW (K : PySem.W.Frag) (fI : Addr) : IniW := match K.lookup fI with
  | some ⟨_, _, .func fd, _⟩ => some (fd.name, fd.params, fd.body, fd.scope)
  | _ => none
def errB (P : PySem.Program) (K : PySem.W.Frag) (x : Str) (fs : List Str) : Bool :=
  He.eqO (PySem.W.nsIn K mainGlobals x) (some (some (.ref (He.ga K x)))) && (clsB K (He.ga K x) && (He.eqO (PySem.W.findIn K (.ref (He.ga K x)) "__setattr__") (some (some (.builtin "object.__setattr__"))) && (([wWord, wPlace].all fun f => He.eqO (PySem.W.findIn K (.ref (He.ga K x)) f) (some none)) &&
    (decide (PySem.W.subIn K (.ref (He.ga K x)) (.type "BaseException") = some true) && (decide (PySem.W.subIn K (.ref (He.ga K x)) (.type "ValueError") = some true) && (decide (PySem.W.typeIn K (.ref (He.ga K x)) = some (.type "type")) && (PySem.W.keepIn K (.ref (He.ga K x)) &&
    (decide (PySem.W.exmOne K (.ref (He.ga K x)) (.ref (He.ga K x)) = some true) && (xfB K (He.ga K x) && (He.eqO (PySem.W.findIn K (.ref (He.ga K x)) "__init__") (some (some (.ref (He.ma K (He.ga K x) "__init__")))) && (decide (PySem.W.typeIn K (.ref (He.ma K (He.ga K x) "__init__")) = some (.type "function")) &&
    iniB P K (He.ga K x) (He.ma K (He.ga K x) "__init__"))))))))))))
def initOf : Stmt → Stmt
  | .ClassDef _ _ _ (i :: _) _ _ _ _ _ _ _ => i
  | _ => .Pass ⟨0, 0, 0, 0⟩
def iniV (i : Nat) : IniW := some ("__init__", argsOf (initOf (top i)), .stmts (bodyOf (initOf (top i))), scopeOf (initOf (top i)))
/-! ### the Hook -/
abbrev P7 : PySem.Program := PySem.Challenge.pw_prefixwire_k07_whole_first_faults
def exK (K : PySem.W.Frag) : Bool := He.tupB K "BEGIN" [.int 255, .int 255, .int 255, .int 255] && (He.tupB K "SORTS" [.str "none", .str "ack", .str "room", .str "data", .str "data", .str "ping"] && (He.valsB K (He.ga K "RANKS") [(wAck, .int 0), (wRoom, .int 1), (wData, .int 2), (wPing, .int 3)] &&
  (He.eqO (PySem.W.nsIn K mainGlobals "RANKS") (some (some (.ref (He.ga K "RANKS")))) && (He.eqO (PySem.W.nsIn K mainGlobals "BEGIN") (some (some (.ref (He.ga K "BEGIN")))) && (He.eqO (PySem.W.nsIn K mainGlobals "SORTS") (some (some (.ref (He.ga K "SORTS")))) &&
  (He.eqO (PySem.W.nsIn K cStatics "thirdparty.any") (some none) && errs.all fun e => errB P7 K e.1 e.2))))))
abbrev AlK : Type := He.AlT × Bool × List IniW
def obsF (K : PySem.W.Frag) : AlK := (He.obsT fa fn ts K, exK K, errs.map fun e => iniW K (He.ma K (He.ga K e.1) "__init__"))
def valF (w : World) : AlK := (He.valT fn ts w, true, [iniV 4, iniV 5, iniV 6])
def obsK (g : Addr → Option Obj) : AlK := asK g fun as => frF g as obsF
structure SaysK (w : World) (K : PySem.W.Frag) : Prop where
  eq : obsF K = valF w
def hookK : PySem.W.Hook where
  α := AlK
  obs := fun s => obsK s.heap.get?
  val := fun w => valF w
  says := fun w h => ∃ K : PySem.W.Frag, K.In h ∧ SaysK w K
  of := fun _ _ e => by
    unfold obsK asK at e
    rw [frA_eq, frA_eq, frA_eq, frF_eq] at e
    exact ⟨_, He.frG_in, ⟨e⟩⟩
  keeps := fun _ _ _ ⟨K, hK, c⟩ k => ⟨K, PySem.W.Frag.In.keeps hK k, c⟩
def obK (s : PySem.W.SharedT) : AlK := obsK (HandSHeadRun.getT s)
theorem obK_eq (s : PySem.W.SharedT) : obK s = hookK.obs s.abs := by
  have e : HandSHeadRun.getT s = s.abs.heap.get? := funext fun a => HandSHeadRun.getT_eq s a
  show obsK (HandSHeadRun.getT s) = obsK s.abs.heap.get?
  rw [e]
abbrev R7 : PySem.W.OpenRow := PySem.W.OpenLaw.row PySem.Challenge.rw_prefixwire_k07_whole_first_faults
end K7
/-! K7: the run of the top, by the kernel. -/
namespace K7
open PySem PySem.Spec PyProof.Rows L2
theorem run7a (w : World) : HandSHeadRun.RunEq R7 (PySem.W.view R7.prog [121]) hookK obK 6000 loose (w.withFollow "special-get-raises" false) := by
  intro os
  kernel_rfl
theorem run7b (w : World) : HandSHeadRun.RunEq R7 (PySem.W.view R7.prog [121]) hookK obK 6000 loose (w.withFollow "special-get-raises" true) := by
  intro os
  kernel_rfl
theorem run7 (w : World) : HandSHeadRun.RunEq R7 (PySem.W.view R7.prog [121]) hookK obK 6000 loose w :=
  PySem.W.byRow2 "special-get-raises" (P := fun w : World => HandSHeadRun.RunEq R7 (PySem.W.view R7.prog [121]) hookK obK 6000 loose w) run7a run7b w
end K7
/-! K7, part 1: data D (tuples by value), memory Mem of the changeable objects, how both lie in the layer's heap. -/
namespace K7
open PySem PySem.Spec L2
open PyProof.Rows hiding St

inductive D where
  | non | bl (b : Bool) | int (i : Int) | str (s : Str) | tup (xs : List D) | ob (a : Addr) | scr (ns : List Int)
/-- a changeable object: a list, a dict with text keys, the state of the draws, a piece of that state -/
inductive Ob where
  | lst (xs : List D) | dct (kvs : List (Str × D)) | gen (c g : Addr) (b : Nat) | prv (m : Addr)
abbrev Mem := Addr → Option Ob
def up (M : Mem) (a : Addr) (o : Ob) : Mem := fun b => if b = a then some o else M b
@[simp] theorem up_same {M : Mem} {a : Addr} {o : Ob} : up M a o a = some o := by unfold up; rw [if_pos rfl]
theorem up_ne {M : Mem} {a b : Addr} {o : Ob} (h : b ≠ a) : up M a o b = M b := by unfold up; rw [if_neg h]
theorem up_up {M : Mem} {a : Addr} {o o' : Ob} : up (up M a o) a o' = up M a o' := by
  funext b; unfold up; split <;> rfl

/-- a list that nobody changes -/
def SqF (K : PySem.W.Frag) (H : Hp) (a : Addr) (xs : List V) : Prop := (∃ o, H a = some (.frz o (.lst xs))) ∨ (SqL K (fun _ => none) a xs)
mutual
def Rp (K : PySem.W.Frag) (H : Hp) : D → V → Prop
  | .non, v => v = .non
  | .bl b, v => v = .bl b
  | .int i, v => v = .int i
  | .str s, v => v = .str s
  | .tup ds, v => ∃ a xs, v = .ref a ∧ SqT K H a xs ∧ Rps K H ds xs
  | .ob a, v => v = .ref a
  | .scr ns, v => ∃ a, v = .ref a ∧ SqF K H a (ns.map V.int)
def Rps (K : PySem.W.Frag) (H : Hp) : List D → List V → Prop
  | [], vs => vs = []
  | d :: ds, vs => ∃ v r, vs = v :: r ∧ Rp K H d v ∧ Rps K H ds r
end

/-- what no rule changes -/
def Firm : HO → Prop
  | .tup _ => True
  | .frz _ _ => True
  | _ => False
def TK (H H' : Hp) : Prop := ∀ a o, H a = some o → Firm o → H' a = some o
theorem TK.refl (H : Hp) : TK H H := fun _ _ h _ => h
theorem TK.trans {H H1 H2 : Hp} (x : TK H H1) (y : TK H1 H2) : TK H H2 := fun a o h f => y a o (x a o h f) f
theorem TK.new {H : Hp} {p : Addr} {o : HO} (h : H p = none) : TK H (upd H p o) := fun a u e _ => by
  rw [upd_ne (ne_of_none e h)]; exact e
theorem TK.put {H : Hp} {p : Addr} {o u : HO} (h : H p = some u) (n : ¬ Firm u) : TK H (upd H p o) := fun a z e f => by
  rw [upd_ne (fun q => n (by subst q; rw [h] at e; cases e; exact f))]; exact e
section
variable {K : PySem.W.Frag} {H H' : Hp}
theorem TK.sqt (k : TK H H') {a : Addr} {xs : List V} (h : SqT K H a xs) : SqT K H' a xs := by
  rcases h with (h | ⟨o, h⟩) | h
  · exact .inl (.inl (k _ _ h trivial))
  · exact .inl (.inr ⟨o, k _ _ h trivial⟩)
  · exact .inr h
theorem TK.sqf (k : TK H H') {a : Addr} {xs : List V} (h : SqF K H a xs) : SqF K H' a xs := by
  rcases h with ⟨o, h⟩ | h
  · exact .inl ⟨o, k _ _ h trivial⟩
  · exact .inr h
theorem SqF.sql {a : Addr} {xs : List V} (h : SqF K H a xs) : SqL K H a xs := by
  rcases h with ⟨o, h⟩ | h
  · exact .inl (.inr ⟨o, h⟩)
  · rcases h with (h | ⟨o, h⟩) | h
    · cases h
    · cases h
    · exact .inr h
mutual
theorem Rp.mono (k : TK H H') : ∀ (d : D) (v : V), Rp K H d v → Rp K H' d v
  | .non, _, h => h
  | .bl _, _, h => h
  | .int _, _, h => h
  | .str _, _, h => h
  | .tup ds, _, h => by
    obtain ⟨a, xs, e, hs, hr⟩ := h
    exact ⟨a, xs, e, k.sqt hs, Rps.mono k ds xs hr⟩
  | .ob _, _, h => h
  | .scr ns, _, h => by
    obtain ⟨a, e, hs⟩ := h
    exact ⟨a, e, k.sqf hs⟩
theorem Rps.mono (k : TK H H') : ∀ (ds : List D) (vs : List V), Rps K H ds vs → Rps K H' ds vs
  | [], _, h => h
  | d :: ds, _, h => by
    obtain ⟨v, r, e, h1, h2⟩ := h
    exact ⟨v, r, e, Rp.mono k d v h1, Rps.mono k ds r h2⟩
end
theorem Rps.length : ∀ {ds : List D} {vs : List V}, Rps K H ds vs → vs.length = ds.length
  | [], vs, h => by
    have e : vs = [] := h
    rw [e] <;> rfl
  | d :: ds, _, h => by
    obtain ⟨v, r, rfl, _, h2⟩ := h
    rw [List.length_cons, List.length_cons, Rps.length h2]
theorem Rps.get : ∀ {ds : List D} {vs : List V} {i : Nat} {d : D}, Rps K H ds vs → ds[i]? = some d → ∃ v, vs[i]? = some v ∧ Rp K H d v
  | [], _, _, _, _, e => by simp at e
  | d :: ds, _, 0, x, h, e => by
    obtain ⟨v, r, rfl, h1, _⟩ := h
    have e' : d = x := by simpa using e
    subst e'
    exact ⟨v, rfl, h1⟩
  | d :: ds, _, i + 1, x, h, e => by
    obtain ⟨v, r, rfl, _, h2⟩ := h
    obtain ⟨u, e1, e2⟩ := Rps.get (i := i) (d := x) h2 (by simpa using e)
    exact ⟨u, by simpa using e1, e2⟩
theorem Rps.back : ∀ {ds : List D} {vs : List V} {i : Nat} {v : V}, Rps K H ds vs → vs[i]? = some v → ∃ d, ds[i]? = some d ∧ Rp K H d v
  | [], _, _, _, h, e => by rw [show _ = [] from h] at e; simp at e
  | d :: ds, _, 0, x, h, e => by
    obtain ⟨v, r, rfl, h1, _⟩ := h
    have e' : v = x := by simpa using e
    subst e'
    exact ⟨d, rfl, h1⟩
  | d :: ds, _, i + 1, x, h, e => by
    obtain ⟨v, r, rfl, _, h2⟩ := h
    obtain ⟨u, e1, e2⟩ := Rps.back (i := i) (v := x) h2 (by simpa using e)
    exact ⟨u, by simpa using e1, e2⟩
theorem Rps.append : ∀ {ds es : List D} {vs ws : List V}, Rps K H ds vs → Rps K H es ws → Rps K H (ds ++ es) (vs ++ ws)
  | [], _, _, _, h, k => by rw [show _ = [] from h]; exact k
  | d :: ds, _, _, _, h, k => by
    obtain ⟨v, r, rfl, h1, h2⟩ := h
    exact ⟨v, _, rfl, h1, Rps.append h2 k⟩
theorem Rps.one {d : D} {v : V} (h : Rp K H d v) : Rps K H [d] [v] := ⟨v, [], rfl, h, rfl⟩
theorem Rps.take : ∀ (n : Nat) {ds : List D} {vs : List V}, Rps K H ds vs → Rps K H (ds.take n) (vs.take n)
  | 0, _, _, _ => rfl
  | n + 1, [], _, h => by rw [show _ = [] from h]; rfl
  | n + 1, d :: ds, _, h => by
    obtain ⟨v, r, rfl, h1, h2⟩ := h
    exact ⟨v, _, rfl, h1, Rps.take n h2⟩
theorem Rps.drop : ∀ (n : Nat) {ds : List D} {vs : List V}, Rps K H ds vs → Rps K H (ds.drop n) (vs.drop n)
  | 0, _, _, h => h
  | n + 1, [], _, h => by rw [show _ = [] from h]; rfl
  | n + 1, d :: ds, _, h => by
    obtain ⟨v, r, rfl, _, h2⟩ := h
    exact Rps.drop n h2
theorem Rps.reverse : ∀ {ds : List D} {vs : List V}, Rps K H ds vs → Rps K H ds.reverse vs.reverse
  | [], _, h => by rw [show _ = [] from h]; rfl
  | d :: ds, _, h => by
    obtain ⟨v, r, rfl, h1, h2⟩ := h
    rw [List.reverse_cons, List.reverse_cons]
    exact (Rps.reverse h2).append (Rps.one h1)
theorem Rps.set : ∀ {ds : List D} {vs : List V} (i : Nat) {d : D} {v : V}, Rps K H ds vs → Rp K H d v → Rps K H (ds.set i d) (vs.set i v)
  | [], _, i, _, _, h, _ => by rw [show _ = [] from h]; rfl
  | d :: ds, _, 0, _, _, h, k => by
    obtain ⟨v, r, rfl, _, h2⟩ := h
    exact ⟨_, _, rfl, k, h2⟩
  | d :: ds, _, i + 1, _, _, h, k => by
    obtain ⟨v, r, rfl, h1, h2⟩ := h
    exact ⟨_, _, rfl, h1, Rps.set i h2 k⟩
theorem Rps.erase : ∀ {ds : List D} {vs : List V} (i : Nat), Rps K H ds vs → Rps K H (ds.eraseIdx i) (vs.eraseIdx i)
  | [], _, i, h => by rw [show _ = [] from h]; rfl
  | d :: ds, _, 0, h => by
    obtain ⟨v, r, rfl, _, h2⟩ := h
    exact h2
  | d :: ds, _, i + 1, h => by
    obtain ⟨v, r, rfl, h1, h2⟩ := h
    exact ⟨_, _, rfl, h1, Rps.erase i h2⟩
theorem Rps.ints : ∀ (ns : List Int), Rps K H (ns.map D.int) (ns.map V.int)
  | [] => rfl
  | n :: ns => ⟨_, _, rfl, rfl, Rps.ints ns⟩
end

/-! ### the memory -/
def dkOf (ks : List Str) (ws : List V) : List (Key × V) := (ks.zip ws).map fun p => (Sum.inr p.1, p.2)
/-- the draws' bound -/
def LIM : Nat := 2 ^ 40
/-- cells, great numbers, spot: the state of the draws, with b draws left -/
def GenAt (H : Hp) (a c g : Addr) (b : Nat) : Prop := ∃ (cs gs : List Int) (n : Nat), H a = some (.dK [(.inr "cells", .ref c), (.inr "great", .ref g), (.inr "spot", .int n)]) ∧
  H c = some (.lst (cs.map V.int)) ∧ H g = some (.lst (gs.map V.int)) ∧ cs.length = 64 ∧ (∀ x ∈ cs, 0 ≤ x ∧ x < 2147483647) ∧ gs.length ≤ 63 ∧ (∀ x ∈ gs, 0 ≤ x) ∧ n + b ≤ LIM
def ObR (K : PySem.W.Frag) (H : Hp) (M : Mem) (a : Addr) : Ob → Prop
  | .lst ds => ∃ xs, H a = some (.lst xs) ∧ Rps K H ds xs
  | .dct kvs => ∃ ws, H a = some (.dK (dkOf (kvs.map (·.1)) ws)) ∧ Rps K H (kvs.map (·.2)) ws
  | .gen c g b => GenAt H a c g b ∧ M c = some (.prv a) ∧ M g = some (.prv a) ∧ c ≠ g
  | .prv _ => ∃ xs, H a = some (.lst xs)
def Rep (K : PySem.W.Frag) (H : Hp) (M : Mem) : Prop := ∀ a o, M a = some o → ObR K H M a o
/-- H, M to H', M': what M does not hold stands -/
structure Fr (H : Hp) (M : Mem) (H' : Hp) (M' : Mem) : Prop where
  keep : ∀ a o, H a = some o → M a = none → H' a = some o
  dom : ∀ a o, H a = some o → M a = none → M' a = none
section
variable {K : PySem.W.Frag} {H H' H1 H2 : Hp} {M M' M1 M2 : Mem}
theorem Fr.refl : Fr H M H M := ⟨fun _ _ h _ => h, fun _ _ _ h => h⟩
theorem Fr.trans (x : Fr H M H1 M1) (y : Fr H1 M1 H2 M2) : Fr H M H2 M2 :=
  ⟨fun a o h m => y.keep a o (x.keep a o h m) (x.dom a o h m), fun a o h m => y.dom a o (x.keep a o h m) (x.dom a o h m)⟩
theorem Rep.firm (r : Rep K H M) {a : Addr} {o : HO} (h : H a = some o) (f : Firm o) : M a = none := by
  cases e : M a with
  | none => rfl
  | some u =>
    exfalso
    have q := r a u e
    cases u with
    | lst ds => obtain ⟨xs, z, _⟩ := q; rw [h] at z; cases z; exact f
    | dct kvs => obtain ⟨xs, z, _⟩ := q; rw [h] at z; cases z; exact f
    | gen c g b => obtain ⟨⟨cs, gs, n, z, _⟩, _⟩ := q; rw [h] at z; cases z; exact f
    | prv _ => obtain ⟨xs, z⟩ := q; rw [h] at z; cases z; exact f
theorem Rep.some_of (r : Rep K H M) {a : Addr} {o : Ob} (h : M a = some o) : ∃ u, H a = some u ∧ ¬ Firm u := by
  have q := r a o h
  cases o with
  | lst ds => obtain ⟨xs, z, _⟩ := q; exact ⟨_, z, fun f => f⟩
  | dct kvs => obtain ⟨xs, z, _⟩ := q; exact ⟨_, z, fun f => f⟩
  | gen c g b => obtain ⟨⟨cs, gs, n, z, _⟩, _⟩ := q; exact ⟨_, z, fun f => f⟩
  | prv _ => obtain ⟨xs, z⟩ := q; exact ⟨_, z, fun f => f⟩
theorem Rep.fresh (r : Rep K H M) {p : Addr} (h : H p = none) : M p = none := by
  cases e : M p with
  | none => rfl
  | some o => obtain ⟨u, z, _⟩ := r.some_of e; rw [h] at z; cases z
theorem Fr.tk (r : Rep K H M) (f : Fr H M H' M') : TK H H' := fun a o h q => f.keep a o h (r.firm h q)
/-- a new object that no memory holds (a tuple) -/
theorem Fr.new {p : Addr} {o : HO} (h : H p = none) : Fr H M (upd H p o) M :=
  ⟨fun a u e _ => by rw [upd_ne (ne_of_none e h)]; exact e, fun _ _ _ m => m⟩
theorem Rep.mono (r : Rep K H M) (k : TK H H') (same : ∀ a, M a ≠ none → H' a = H a) : Rep K H' M := fun a o e => by
  have q := r a o e
  have ha : H' a = H a := same a (by rw [e]; exact fun z => nomatch z)
  cases o with
  | lst ds => obtain ⟨xs, z, w⟩ := q; exact ⟨xs, ha.trans z, w.mono k⟩
  | dct kvs => obtain ⟨xs, z, w⟩ := q; exact ⟨xs, ha.trans z, w.mono k⟩
  | gen c g b =>
    obtain ⟨⟨cs, gs, n, z1, z2, z3, z⟩, mc, mg, ne⟩ := q
    exact ⟨⟨cs, gs, n, ha.trans z1, (same c (by rw [mc]; exact fun z => nomatch z)).trans z2, (same g (by rw [mg]; exact fun z => nomatch z)).trans z3, z⟩, mc, mg, ne⟩
  | prv _ => obtain ⟨xs, z⟩ := q; exact ⟨xs, ha.trans z⟩
theorem Rep.new (r : Rep K H M) {p : Addr} {o : HO} (h : H p = none) : Rep K (upd H p o) M :=
  r.mono (TK.new h) fun a ha => upd_ne fun e => ha (by subst e; exact r.fresh h)
/-- a plain object: no state of draws, no piece of it -/
def Ob.plain : Ob → Prop
  | .lst _ => True
  | .dct _ => True
  | _ => False
/-- a new changeable object; one put anew -/
theorem Rep.put (r : Rep K H M) {p : Addr} {o : HO} {b : Ob} (old : M p = none ∨ ∃ z, M p = some z ∧ z.plain) (nf : ∀ u, H p = some u → ¬ Firm u) (hb : b.plain) (h : ObR K (upd H p o) (up M p b) p b) : Rep K (upd H p o) (up M p b) := fun a u e => by
  have tk : TK H (upd H p o) := fun x z hx f => by
    rw [upd_ne fun q => (nf z (by subst q; exact hx)) f]; exact hx
  by_cases ha : a = p
  · subst ha
    rw [up_same] at e; cases e
    exact h
  · rw [up_ne ha] at e
    have q := r a u e
    have hH : upd H p o a = H a := upd_ne ha
    cases u with
    | lst ds => obtain ⟨xs, z, w⟩ := q; exact ⟨xs, hH.trans z, w.mono tk⟩
    | dct kvs => obtain ⟨xs, z, w⟩ := q; exact ⟨xs, hH.trans z, w.mono tk⟩
    | gen c g n =>
      obtain ⟨⟨cs, gs, n, z1, z2, z3, z⟩, mc, mg, ne⟩ := q
      have np : ∀ {x : Addr}, M x = some (.prv a) → x ≠ p := fun {x} hx q => by
        subst q
        rcases old with k | ⟨z, k, k2⟩
        · rw [k] at hx; cases hx
        · rw [k] at hx; cases hx; exact k2
      exact ⟨⟨cs, gs, n, hH.trans z1, (upd_ne (np mc)).trans z2, (upd_ne (np mg)).trans z3, z⟩, (up_ne (np mc)).trans mc, (up_ne (np mg)).trans mg, ne⟩
    | prv _ => obtain ⟨xs, z⟩ := q; exact ⟨xs, hH.trans z⟩
theorem Fr.put {p : Addr} {o : HO} {b : Ob} (h : M p ≠ none ∨ H p = none) : Fr H M (upd H p o) (up M p b) := by
  have ne : ∀ a u, H a = some u → M a = none → a ≠ p := by
    intro a u e m q
    subst q
    rcases h with k | k
    · exact k m
    · rw [k] at e
      cases e
  refine ⟨fun a u e m => ?_, fun a u e m => ?_⟩
  · rw [upd_ne (ne a u e m)]
    exact e
  · rw [up_ne (ne a u e m)]
    exact m
/-- a new list, a new dict -/
theorem Rep.newL (r : Rep K H M) {p : Addr} (h : H p = none) {xs : List V} {ds : List D} (q : Rps K H ds xs) : Rep K (upd H p (.lst xs)) (up M p (.lst ds)) :=
  r.put (.inl (r.fresh h)) (fun u e => by rw [h] at e; cases e) trivial ⟨xs, upd_same, q.mono (TK.new h)⟩
theorem Rep.putL (r : Rep K H M) {p : Addr} {es : List D} (h : M p = some (.lst es)) {xs : List V} {ds : List D} (q : Rps K H ds xs) : Rep K (upd H p (.lst xs)) (up M p (.lst ds)) := by
  obtain ⟨u, z, n⟩ := r.some_of h
  exact r.put (.inr ⟨_, h, trivial⟩) (fun u' e => by rw [z] at e; cases e; exact n) trivial ⟨xs, upd_same, q.mono (TK.put z n)⟩
theorem Rep.newD (r : Rep K H M) {p : Addr} (h : H p = none) {ws : List V} {kvs : List (Str × D)} (q : Rps K H (kvs.map (·.2)) ws) : Rep K (upd H p (.dK (dkOf (kvs.map (·.1)) ws))) (up M p (.dct kvs)) :=
  r.put (.inl (r.fresh h)) (fun u e => by rw [h] at e; cases e) trivial ⟨ws, upd_same, q.mono (TK.new h)⟩
theorem Rep.putD (r : Rep K H M) {p : Addr} {es : List (Str × D)} (h : M p = some (.dct es)) {ws : List V} {kvs : List (Str × D)} (q : Rps K H (kvs.map (·.2)) ws) : Rep K (upd H p (.dK (dkOf (kvs.map (·.1)) ws))) (up M p (.dct kvs)) := by
  obtain ⟨u, z, n⟩ := r.some_of h
  exact r.put (.inr ⟨_, h, trivial⟩) (fun u' e => by rw [z] at e; cases e; exact n) trivial ⟨ws, upd_same, q.mono (TK.put z n)⟩
end
end K7
/-! K7, part 2: readings over data; the rules for expressions. -/
namespace K7
open PySem PySem.Spec L2
open PyProof.Rows hiding St

abbrev Dl := List (Option D)
abbrev XD := Str → List (Str × D) → Dl → Mem → Prop
abbrev DE := Dl → Mem → (D → Mem → Prop) → XD → Prop
abbrev DA := Dl → Mem → (List D → Mem → Prop) → XD → Prop
abbrev DT := Dl → Mem → (Bool → Mem → Prop) → XD → Prop
structure DN where
  nx : Dl → Mem → Prop
  rt : D → Mem → Prop
  bk : Dl → Mem → Prop := fun _ _ => False
abbrev DS := DN → Dl → Mem → XD → Prop
/-- the written part, the classes of errors by name, the wish about errors -/
structure Gh where
  K : PySem.W.Frag
  cls : Str → Addr
  W : WX

def Sl (K : PySem.W.Frag) (H : Hp) (dl : Dl) (σ : St) : Prop := σ.length = dl.length ∧ ∀ (i : Nat) (d : D), dl[i]? = some (some d) → ∃ v, σ[i]? = some (some v) ∧ Rp K H d v
/-- the dict of an error at x -/
def XAt (K : PySem.W.Frag) (H : Hp) (x : Addr) (fs : List (Str × D)) : Prop := ∃ ws, H x = some (.xd ((fs.map (·.1)).zip ws)) ∧ Rps K H (fs.map (·.2)) ws
def XOk (G : Gh) (H : Hp) (M : Mem) (Xi : XD) : Prop := ∀ (c : Str) (fs : List (Str × D)) (dl' : Dl) (σ' : St) (H' : Hp) (M' : Mem) (x : Addr),
  Sl G.K H' dl' σ' → Rep G.K H' M' → Fr H M H' M' → XAt G.K H' x fs → Xi c fs dl' M' → G.W (.ref (G.cls c)) (some x) σ' H'
section
variable {K : PySem.W.Frag} {G : Gh} {H H' : Hp} {M M' : Mem} {dl : Dl} {σ : St} {Xi : XD}
theorem Sl.mono (s : Sl K H dl σ) (k : TK H H') : Sl K H' dl σ := ⟨s.1, fun i d e => let ⟨v, e1, r⟩ := s.2 i d e; ⟨v, e1, r.mono k⟩⟩
theorem XOk.next (x : XOk G H M Xi) (f : Fr H M H' M') : XOk G H' M' Xi := fun c fs dl' σ' H2 M2 a s r f2 e q => x c fs dl' σ' H2 M2 a s r (f.trans f2) e q
theorem Sl.set (s : Sl K H dl σ) (i : Nat) {d : D} {v : V} (r : Rp K H d v) : Sl K H (dl.set i (some d)) (σ.set i (some v)) := by
  refine ⟨by rw [List.length_set, List.length_set, s.1], fun j e h => ?_⟩
  by_cases hj : i = j
  · subst hj
    by_cases hl : i < dl.length
    · rw [List.getElem?_set_self hl] at h
      cases h
      exact ⟨v, List.getElem?_set_self (show i < σ.length by rw [s.1]; exact hl), r⟩
    · rw [List.getElem?_eq_none (by rw [List.length_set]; omega)] at h
      cases h
  · rw [List.getElem?_set_ne hj] at h ⊢
    exact s.2 j e h
theorem Sl.clear (s : Sl K H dl σ) (i : Nat) : Sl K H (dl.set i none) (σ.set i none) := by
  refine ⟨by rw [List.length_set, List.length_set, s.1], fun j e h => ?_⟩
  by_cases hj : i = j
  · subst hj
    by_cases hl : i < dl.length
    · rw [List.getElem?_set_self hl] at h
      cases h
    · rw [List.getElem?_eq_none (by rw [List.length_set]; omega)] at h
      cases h
  · rw [List.getElem?_set_ne hj] at h ⊢
    exact s.2 j e h
end
/-- slots, memory -/
structure Ok (G : Gh) (H : Hp) (M : Mem) (dl : Dl) (σ : St) : Prop where
  sl : Sl G.K H dl σ
  rp : Rep G.K H M
theorem Ok.next {G : Gh} {H H' : Hp} {M M' : Mem} {dl : Dl} {σ : St} (o : Ok G H M dl σ) (r : Rep G.K H' M') (f : Fr H M H' M') : Ok G H' M' dl σ := ⟨o.sl.mono (f.tk o.rp), r⟩

def cE (G : Gh) (dt : DE) : TE := fun σ H Q => ∃ dl M q Xi, Ok G H M dl σ ∧ dt dl M q Xi ∧ (∀ v H' d M', Rp G.K H' d v → Rep G.K H' M' → Fr H M H' M' → q d M' → Q v H') ∧ XOk G H M Xi
def cA (G : Gh) (dt : DA) : TA := fun σ H Q => ∃ dl M q Xi, Ok G H M dl σ ∧ dt dl M q Xi ∧ (∀ vs H' ds M', Rps G.K H' ds vs → Rep G.K H' M' → Fr H M H' M' → q ds M' → Q vs H') ∧ XOk G H M Xi
def cT (G : Gh) (dt : DT) : TT := fun σ H Q => ∃ dl M q Xi, Ok G H M dl σ ∧ dt dl M q Xi ∧ (∀ b H' M', Rep G.K H' M' → Fr H M H' M' → q b M' → Q b H') ∧ XOk G H M Xi
theorem _root_.L2.PE.imp {X : Cx} {e : Expr} {t t' : TE} (h : PE X e t) (i : ∀ σ H Q, t' σ H Q → t σ H Q) : PE X e t' := ⟨fun pins s σ H Q I q => h.run pins s σ H Q I (i σ H Q q)⟩
theorem _root_.L2.PT.imp {X : Cx} {e : Expr} {t t' : TT} (h : PT X e t) (i : ∀ σ H Q, t' σ H Q → t σ H Q) : PT X e t' := ⟨fun pins s σ H Q I q => h.run pins s σ H Q I (i σ H Q q)⟩
theorem _root_.L2.PW.imp {X : Cx} {e : Expr} {t t' : TT} (h : PW X e t) (i : ∀ σ H Q, t' σ H Q → t σ H Q) : PW X e t' := ⟨fun wh pins s σ H Q I q => h.run wh pins s σ H Q I (i σ H Q q)⟩
theorem _root_.L2.PA.imp {X : Cx} {e : List Expr} {t t' : TA} (h : PA X e t) (i : ∀ σ H Q, t' σ H Q → t σ H Q) : PA X e t' := ⟨fun pos pins s σ H Q I q => h.run pos pins s σ H Q I (i σ H Q q)⟩
theorem _root_.L2.PS.imp {X : Cx} {e : Stmt} {t t' : TS} (h : PS X e t) (i : ∀ D σ H, t' D σ H → t D σ H) : PS X e t' := ⟨fun pins s σ H D I q => h.run pins s σ H D I (i D σ H q)⟩
theorem _root_.L2.PSs.imp {X : Cx} {e : List Stmt} {t t' : TS} (h : PSs X e t) (i : ∀ D σ H, t' D σ H → t D σ H) : PSs X e t' := ⟨fun pins s σ H D I q => h.run pins s σ H D I (i D σ H q)⟩
theorem _root_.L2.PI.imp {X : Cx} {tg e : Expr} {t t' : TI} (h : PI X tg e t) (i : ∀ σ H Q, t' σ H Q → t σ H Q) : PI X tg e t' := ⟨fun pins s σ H Q I q => h.run pins s σ H Q I (i σ H Q q)⟩

/-! ### names, constants, lists of arguments -/
def dVar (i : Nat) : DE := fun dl M q _ => match dl[i]? with
  | some (some d) => q d M
  | _ => False
def dC (d : D) : DE := fun _ M q _ => q d M
def dNil : DA := fun _ M q _ => q [] M
def dCons (da : DE) (dr : DA) : DA := fun dl M q Xi => da dl M (fun d M1 => dr dl M1 (fun ds M2 => q (d :: ds) M2) Xi) Xi
section
variable {X : Cx} {G : Gh} {e : Expr} {es : List Expr} {σ : St} {H : Hp} {Q : VK} {da db dc : DE} {dr : DA}
theorem c_var {i : Nat} (h : cE G (dVar i) σ H Q) : tVar i σ H Q := by
  obtain ⟨dl, M, q, Xi, ok, hd, k, _⟩ := h
  unfold dVar at hd
  split at hd
  · rename_i d e
    obtain ⟨v, ev, r⟩ := ok.sl.2 i d e
    exact ⟨v, ev, k v H d M r ok.rp Fr.refl hd⟩
  · exact hd.elim
theorem c_c {d : D} {v : V} (r : ∀ H, Rp G.K H d v) (h : cE G (dC d) σ H Q) : tC v σ H Q := by
  obtain ⟨dl, M, q, Xi, ok, hd, k, _⟩ := h
  exact k v H d M (r H) ok.rp Fr.refl hd
theorem c_nil {Q : List V → Hp → Prop} (h : cA G dNil σ H Q) : tNil σ H Q := by
  obtain ⟨dl, M, q, Xi, ok, hd, k, _⟩ := h
  exact k [] H [] M rfl ok.rp Fr.refl hd
theorem c_cons {Q : List V → Hp → Prop} (h : cA G (dCons da dr) σ H Q) : tCons (cE G da) (cA G dr) σ H Q := by
  obtain ⟨dl, M, q, Xi, ok, hd, k, kx⟩ := h
  refine ⟨dl, M, _, Xi, ok, hd, fun v H1 d M1 r1 p1 f1 q1 => ?_, kx⟩
  refine ⟨dl, M1, _, Xi, ok.next p1 f1, q1, fun vs H2 ds M2 r2 p2 f2 q2 => ?_, kx.next f1⟩
  exact k (v :: vs) H2 (d :: ds) M2 ⟨v, vs, rfl, r1.mono (f2.tk p1), r2⟩ p2 (f1.trans f2) q2
/-! ### operators: by values -/
abbrev DF2 := D → D → Mem → (D → Mem → Prop) → Prop
def dOp (f : DF2) (da db : DE) : DE := fun dl M q Xi => da dl M (fun x M1 => db dl M1 (fun y M2 => f x y M2 q) Xi) Xi
/-- f tells of values what r asks -/
def Lifts (K : PySem.W.Frag) (f : DF2) (r : R2) : Prop := ∀ (H : Hp) (M : Mem) (x y : D) (v u : V) (q : D → Mem → Prop) (Q : VK), Rep K H M → Rp K H x v → Rp K H y u → f x y M q →
  (∀ z H' d M', Rp K H' d z → Rep K H' M' → Fr H M H' M' → q d M' → Q z H') → r v u H Q
theorem c_op {f : DF2} {r : R2} (l : Lifts G.K f r) (h : cE G (dOp f da db) σ H Q) : tOp r (cE G da) (cE G db) σ H Q := by
  obtain ⟨dl, M, q, Xi, ok, hd, k, kx⟩ := h
  refine ⟨dl, M, _, Xi, ok, hd, fun v H1 x M1 r1 p1 f1 q1 => ?_, kx⟩
  refine ⟨dl, M1, _, Xi, ok.next p1 f1, q1, fun u H2 y M2 r2 p2 f2 q2 => ?_, kx.next f1⟩
  exact l H2 M2 x y v u q Q p2 (r1.mono (f2.tk p1)) r2 q2 fun z H3 d M3 r3 p3 f3 q3 => k z H3 d M3 r3 p3 ((f1.trans f2).trans f3) q3
theorem Lifts.or {K : PySem.W.Frag} {f : DF2} {r r' : R2} (h : ∀ (H : Hp) (M : Mem) (x y : D) (v u : V) (q : D → Mem → Prop) (Q : VK), Rep K H M → Rp K H x v → Rp K H y u → f x y M q →
  (∀ z H' d M', Rp K H' d z → Rep K H' M' → Fr H M H' M' → q d M' → Q z H') → r v u H Q ∨ r' v u H Q) : Lifts K f (fun v u H Q => r v u H Q ∨ r' v u H Q) := h
/-! ### a value's own operators: one operand; calls of what is built in -/
abbrev DFs := List D → Mem → (D → Mem → Prop) → Prop
def dCB (f : DFs) (da : DA) : DE := fun dl M q Xi => da dl M (fun ds M1 => f ds M1 q) Xi
def LiftsC (K : PySem.W.Frag) (f : DFs) (r : List V → Hp → VK → Prop) : Prop := ∀ (H : Hp) (M : Mem) (ds : List D) (vs : List V) (q : D → Mem → Prop) (Q : VK), Rep K H M → Rps K H ds vs → f ds M q →
  (∀ z H' d M', Rp K H' d z → Rep K H' M' → Fr H M H' M' → q d M' → Q z H') → r vs H Q
theorem c_cb {f : DFs} {r : List V → Hp → VK → Prop} (l : LiftsC G.K f r) (h : cE G (dCB f dr) σ H Q) : tCB r (cA G dr) σ H Q := by
  obtain ⟨dl, M, q, Xi, ok, hd, k, kx⟩ := h
  refine ⟨dl, M, _, Xi, ok, hd, fun vs H1 ds M1 r1 p1 f1 q1 => ?_, kx⟩
  exact l H1 M1 ds vs q Q p1 r1 q1 fun z H2 d M2 r2 p2 f2 q2 => k z H2 d M2 r2 p2 (f1.trans f2) q2
/-! ### displays -/
theorem sz_of {n : Nat} (h : n ≤ 100000) : n ≤ sizeLine := Nat.le_trans h (by decide)
theorem sz_lt {n : Nat} (h : n < 100000) : n < sizeLine := Nat.lt_of_lt_of_le h (by decide)
def dTup (dr : DA) : DE := fun dl M q Xi => dr dl M (fun ds M1 => ds.length ≤ 100000 ∧ q (.tup ds) M1) Xi
def dLst (dr : DA) : DE := fun dl M q Xi => dr dl M (fun ds M1 => ds.length ≤ 100000 ∧ ∀ p, M1 p = none → q (.ob p) (up M1 p (.lst ds))) Xi
theorem c_tup (h : cE G (dTup dr) σ H Q) : tTup (cA G dr) σ H Q := by
  obtain ⟨dl, M, q, Xi, ok, hd, k, kx⟩ := h
  refine ⟨dl, M, _, Xi, ok, hd, fun vs H1 ds M1 r1 p1 f1 ⟨z, q1⟩ => ?_, kx⟩
  refine ⟨by rw [r1.length]; exact sz_of z, fun p hp => ?_⟩
  exact k (.ref p) _ (.tup ds) M1 ⟨p, vs, rfl, .of upd_same, r1.mono (TK.new hp)⟩ (p1.new hp) (f1.trans (.new hp)) q1
theorem c_lst (h : cE G (dLst dr) σ H Q) : tLst (cA G dr) σ H Q := by
  obtain ⟨dl, M, q, Xi, ok, hd, k, kx⟩ := h
  refine ⟨dl, M, _, Xi, ok, hd, fun vs H1 ds M1 r1 p1 f1 ⟨z, q1⟩ => ?_, kx⟩
  refine ⟨by rw [r1.length]; exact sz_of z, fun p hp => ?_⟩
  exact k (.ref p) _ (.ob p) _ rfl (p1.newL hp r1) (f1.trans (.put (.inr hp))) (q1 p (p1.fresh hp))
/-! ### tests -/
/-- a test from a value -/
def dTest (da : DE) : DT := fun dl M q Xi => da dl M (fun d M1 => match d with
  | .bl b => q b M1
  | _ => False) Xi
theorem c_test {Q : Bool → Hp → Prop} (h : cT G (dTest da) σ H Q) : tTest (cE G da) σ H Q := by
  obtain ⟨dl, M, q, Xi, ok, hd, k, kx⟩ := h
  refine ⟨dl, M, _, Xi, ok, hd, fun v H1 d M1 r1 p1 f1 q1 => ?_, kx⟩
  cases d with
  | bl b => exact ⟨b, r1, k b H1 M1 p1 f1 q1⟩
  | _ => exact q1.elim
theorem c_B {Q : Bool → Hp → Prop} (h : cT G (dTest da) σ H Q) : tB (cE G da) σ H Q := c_test h
/-- and, or, not -/
def dAnd (da db : DE) : DE := fun dl M q Xi => da dl M (fun d M1 => match d with
  | .bl true => db dl M1 q Xi
  | .bl false => q (.bl false) M1
  | _ => False) Xi
def dOr (da db : DE) : DE := fun dl M q Xi => da dl M (fun d M1 => match d with
  | .bl true => q (.bl true) M1
  | .bl false => db dl M1 q Xi
  | _ => False) Xi
def dNot (da : DE) : DE := fun dl M q Xi => da dl M (fun d M1 => match d with
  | .bl b => q (.bl (!b)) M1
  | _ => False) Xi
theorem c_andV (h : cE G (dAnd da db) σ H Q) : tAndV (cE G da) (cE G db) σ H Q := by
  obtain ⟨dl, M, q, Xi, ok, hd, k, kx⟩ := h
  refine ⟨dl, M, _, Xi, ok, hd, fun v H1 d M1 r1 p1 f1 q1 => ?_, kx⟩
  cases d with
  | bl b =>
    refine ⟨b, r1, ?_⟩
    cases b with
    | true => exact ⟨dl, M1, q, Xi, ok.next p1 f1, q1, fun u H2 y M2 r2 p2 f2 q2 => k u H2 y M2 r2 p2 (f1.trans f2) q2, kx.next f1⟩
    | false => exact k (.bl false) H1 (.bl false) M1 rfl p1 f1 q1
  | _ => exact q1.elim
theorem c_orV (h : cE G (dOr da db) σ H Q) : tOrV (cE G da) (cE G db) σ H Q := by
  obtain ⟨dl, M, q, Xi, ok, hd, k, kx⟩ := h
  refine ⟨dl, M, _, Xi, ok, hd, fun v H1 d M1 r1 p1 f1 q1 => ?_, kx⟩
  cases d with
  | bl b =>
    refine ⟨b, r1, ?_⟩
    cases b with
    | false => exact ⟨dl, M1, q, Xi, ok.next p1 f1, q1, fun u H2 y M2 r2 p2 f2 q2 => k u H2 y M2 r2 p2 (f1.trans f2) q2, kx.next f1⟩
    | true => exact k (.bl true) H1 (.bl true) M1 rfl p1 f1 q1
  | _ => exact q1.elim
theorem c_notV (h : cE G (dNot da) σ H Q) : tNotV (cE G da) σ H Q := by
  obtain ⟨dl, M, q, Xi, ok, hd, k, kx⟩ := h
  refine ⟨dl, M, _, Xi, ok, hd, fun v H1 d M1 r1 p1 f1 q1 => ?_, kx⟩
  cases d with
  | bl b => exact ⟨b, r1, k (.bl (!b)) H1 (.bl (!b)) M1 rfl p1 f1 q1⟩
  | _ => exact q1.elim
theorem c_and {Q : Bool → Hp → Prop} (h : cT G (dTest (dAnd da db)) σ H Q) : tAnd (cT G (dTest da)) (cT G (dTest db)) σ H Q := by
  obtain ⟨dl, M, q, Xi, ok, hd, k, kx⟩ := h
  refine ⟨dl, M, fun b M1 => if b = true then dTest db dl M1 q Xi else q false M1, Xi, ok, ?_, fun b H1 M1 p1 f1 q1 => ?_, kx⟩
  · unfold dTest dAnd at hd
    unfold dTest
    have e : (fun (d : D) (M1 : Mem) => match d with
        | .bl b => if b = true then db dl M1 (fun d M2 => match d with | .bl b => q b M2 | _ => False) Xi else q false M1
        | _ => False) = (fun (d : D) (M1 : Mem) => match d with
        | .bl true => db dl M1 (fun d M2 => match d with | .bl b => q b M2 | _ => False) Xi
        | .bl false => (match (D.bl false) with | .bl b => q b M1 | _ => False)
        | _ => False) := by
      funext d M1
      cases d with
      | bl b => cases b <;> simp
      | _ => rfl
    rw [e]
    exact hd
  · cases b with
    | true => exact ⟨dl, M1, q, Xi, ok.next p1 f1, q1, fun b H2 M2 p2 f2 q2 => k b H2 M2 p2 (f1.trans f2) q2, kx.next f1⟩
    | false => exact k false H1 M1 p1 f1 q1
theorem c_or {Q : Bool → Hp → Prop} (h : cT G (dTest (dOr da db)) σ H Q) : tOr (cT G (dTest da)) (cT G (dTest db)) σ H Q := by
  obtain ⟨dl, M, q, Xi, ok, hd, k, kx⟩ := h
  refine ⟨dl, M, fun b M1 => if b = true then q true M1 else dTest db dl M1 q Xi, Xi, ok, ?_, fun b H1 M1 p1 f1 q1 => ?_, kx⟩
  · unfold dTest dOr at hd
    unfold dTest
    have e : (fun (d : D) (M1 : Mem) => match d with
        | .bl b => if b = true then q true M1 else db dl M1 (fun d M2 => match d with | .bl b => q b M2 | _ => False) Xi
        | _ => False) = (fun (d : D) (M1 : Mem) => match d with
        | .bl true => (match (D.bl true) with | .bl b => q b M1 | _ => False)
        | .bl false => db dl M1 (fun d M2 => match d with | .bl b => q b M2 | _ => False) Xi
        | _ => False) := by
      funext d M1
      cases d with
      | bl b => cases b <;> simp
      | _ => rfl
    rw [e]
    exact hd
  · cases b with
    | false => exact ⟨dl, M1, q, Xi, ok.next p1 f1, q1, fun b H2 M2 p2 f2 q2 => k b H2 M2 p2 (f1.trans f2) q2, kx.next f1⟩
    | true => exact k true H1 M1 p1 f1 q1
theorem c_not {Q : Bool → Hp → Prop} (h : cT G (dTest (dNot da)) σ H Q) : tNot (cT G (dTest da)) σ H Q := by
  obtain ⟨dl, M, q, Xi, ok, hd, k, kx⟩ := h
  refine ⟨dl, M, fun b M1 => q (!b) M1, Xi, ok, ?_, fun b H1 M1 p1 f1 q1 => k (!b) H1 M1 p1 f1 q1, kx⟩
  unfold dTest dNot at hd
  unfold dTest
  have e : (fun (d : D) (M1 : Mem) => match d with
      | .bl b => q (!b) M1
      | _ => False) = (fun (d : D) (M1 : Mem) => match d with
      | .bl b => (match (D.bl (!b)) with | .bl b => q b M1 | _ => False)
      | _ => False) := by
    funext d M1
    cases d <;> rfl
  rw [e]
  exact hd
def dIf (dc da db : DE) : DE := fun dl M q Xi => dc dl M (fun d M1 => match d with
  | .bl true => da dl M1 q Xi
  | .bl false => db dl M1 q Xi
  | _ => False) Xi
theorem c_if (h : cE G (dIf dc da db) σ H Q) : tIf (cT G (dTest dc)) (cE G da) (cE G db) σ H Q := by
  obtain ⟨dl, M, q, Xi, ok, hd, k, kx⟩ := h
  refine ⟨dl, M, fun b M1 => if b = true then da dl M1 q Xi else db dl M1 q Xi, Xi, ok, ?_, fun b H1 M1 p1 f1 q1 => ?_, kx⟩
  · unfold dIf at hd
    unfold dTest
    have e : (fun (d : D) (M1 : Mem) => match d with
        | .bl b => if b = true then da dl M1 q Xi else db dl M1 q Xi
        | _ => False) = (fun (d : D) (M1 : Mem) => match d with
        | .bl true => da dl M1 q Xi
        | .bl false => db dl M1 q Xi
        | _ => False) := by
      funext d M1
      cases d with
      | bl b => cases b <;> simp
      | _ => rfl
    rw [e]
    exact hd
  · cases b with
    | true => exact ⟨dl, M1, q, Xi, ok.next p1 f1, q1, fun v H2 d M2 r2 p2 f2 q2 => k v H2 d M2 r2 p2 (f1.trans f2) q2, kx.next f1⟩
    | false => exact ⟨dl, M1, q, Xi, ok.next p1 f1, q1, fun v H2 d M2 r2 p2 f2 q2 => k v H2 d M2 r2 p2 (f1.trans f2) q2, kx.next f1⟩
/-- a chain of two comparisons -/
def dChn (f g : DF2) (da db dc : DE) : DE := fun dl M q Xi => da dl M (fun x M1 => db dl M1 (fun y M2 => f x y M2 (fun z M3 => match z with
  | .bl true => dc dl M3 (fun w M4 => g y w M4 q) Xi
  | .bl false => q (.bl false) M3
  | _ => False)) Xi) Xi
theorem c_chn {f g : DF2} {r r' : R2} (l : Lifts G.K f r) (l' : Lifts G.K g r') (h : cE G (dChn f g da db dc) σ H Q) : tChain r r' (cE G da) (cE G db) (cE G dc) σ H Q := by
  obtain ⟨dl, M, q, Xi, ok, hd, k, kx⟩ := h
  refine ⟨dl, M, _, Xi, ok, hd, fun v H1 x M1 r1 p1 f1 q1 => ?_, kx⟩
  refine ⟨dl, M1, _, Xi, ok.next p1 f1, q1, fun u H2 y M2 r2 p2 f2 q2 => ?_, kx.next f1⟩
  refine l H2 M2 x y v u _ _ p2 (r1.mono (f2.tk p1)) r2 q2 fun z H3 d M3 r3 p3 f3 q3 => ?_
  cases d with
  | bl b =>
    refine ⟨b, r3, ?_⟩
    cases b with
    | true =>
      refine ⟨dl, M3, _, Xi, ((ok.next p1 f1).next p2 f2).next p3 f3, q3, fun w H4 dw M4 r4 p4 f4 q4 => ?_, ((kx.next f1).next f2).next f3⟩
      exact l' H4 M4 y dw u w q Q p4 ((r2.mono (f3.tk p2)).mono (f4.tk p3)) r4 q4 fun z H5 d M5 r5 p5 f5 q5 => k z H5 d M5 r5 p5 ((((f1.trans f2).trans f3).trans f4).trans f5) q5
    | false => exact k (.bl false) H3 (.bl false) M3 rfl p3 ((f1.trans f2).trans f3) q3
  | _ => exact q3.elim
end
end K7
/-! K7, part 3: operators, subscripts, slices, calls of what is built in, methods, dicts. -/
namespace K7
open PySem PySem.Spec L2
open PyProof.Rows hiding St

section
variable {K : PySem.W.Frag} {X : Cx} {G : Gh}
/-! ### two numbers -/
def fI (c : Int → Int → Prop) (g : Int → Int → D) : DF2
  | .int i, .int j, M, q => c i j ∧ q (g i j) M
  | _, _, _, _ => False
theorem lift_I {c c' : Int → Int → Prop} {g : Int → Int → D} {g' : Int → Int → V} (hc : ∀ i j, c i j → c' i j) (hg : ∀ H i j, Rp K H (g i j) (g' i j)) : Lifts K (fI c g) (rI c' g') := by
  intro H M x y v u q Q p rx ry h k
  unfold fI at h
  split at h
  · rename_i i j
    exact ⟨i, j, rx, ry, hc i j h.1, k _ H _ M (hg H i j) p Fr.refl h.2⟩
  · exact h.elim
def fI0 (g : Int → Int → D) : DF2
  | .int i, .int j, M, q => q (g i j) M
  | _, _, _, _ => False
theorem lift_I0 {g : Int → Int → D} {g' : Int → Int → V} (hg : ∀ H i j, Rp K H (g i j) (g' i j)) : Lifts K (fI0 g) (rI0 g') := by
  intro H M x y v u q Q p rx ry h k
  unfold fI0 at h
  split at h
  · rename_i i j
    exact ⟨i, j, rx, ry, k _ H _ M (hg H i j) p Fr.refl h⟩
  · exact h.elim
theorem lst_of {H : Hp} {M : Mem} (p : Rep K H M) {a : Addr} {ds : List D} (h : M a = some (.lst ds)) : ∃ xs, H a = some (.lst xs) ∧ Rps K H ds xs := p a _ h
/-! ### + : numbers, tuples, lists -/
def fAdd : DF2
  | .int i, .int j, M, q => q (.int (i + j)) M
  | .tup xs, .tup ys, M, q => xs.length + ys.length ≤ 100000 ∧ q (.tup (xs ++ ys)) M
  | .ob a, .ob b, M, q => match M a, M b with
    | some (.lst xs), some (.lst ys) => xs.length + ys.length ≤ 100000 ∧ ∀ p, M p = none → q (.ob p) (up M p (.lst (xs ++ ys)))
    | _, _ => False
  | _, _, _, _ => False
def rAddU (K : PySem.W.Frag) : R2 := fun x y H Q => (rI0 (fun i j => .int (i + j)) x y H Q) ∨ (rCatA K x y H Q ∨ rCat x y H Q)
theorem op_addU : OpR X (binaryOp .Add) (rAddU X.K) := op_add.or (op_catA.or op_cat)
theorem lift_add : Lifts K fAdd (rAddU K) := by
  intro H M x y v u q Q p rx ry h k
  unfold fAdd at h
  split at h
  · rename_i i j
    exact .inl ⟨i, j, rx, ry, k _ H _ M (show Rp K H (.int (i + j)) _ from rfl) p Fr.refl h⟩
  · rename_i xs ys
    obtain ⟨a, vs, rfl, ha, ra⟩ := rx
    obtain ⟨b, us, rfl, hb, rb⟩ := ry
    refine .inr (.inl ⟨a, b, vs, us, rfl, rfl, ha, hb, by rw [ra.length, rb.length]; exact sz_of h.1, fun e => ?_, fun _ e => ?_, fun _ _ z hz => ?_⟩)
    · refine k _ H (.tup (xs ++ ys)) M ⟨b, us, rfl, hb, ?_⟩ p Fr.refl h.2
      have l := ra.length
      rw [e] at l
      rw [List.eq_nil_of_length_eq_zero l.symm]
      exact rb
    · refine k _ H (.tup (xs ++ ys)) M ⟨a, vs, rfl, ha, ?_⟩ p Fr.refl h.2
      have l := rb.length
      rw [e] at l
      rw [List.eq_nil_of_length_eq_zero l.symm, List.append_nil]
      exact ra
    · exact k _ _ (.tup (xs ++ ys)) M ⟨z, _, rfl, .of upd_same, (ra.append rb).mono (TK.new hz)⟩ (p.new hz) (.new hz) h.2
  · rename_i a b
    split at h
    · rename_i xs ys ea eb
      obtain ⟨vs, ha, ra⟩ := lst_of p ea
      obtain ⟨us, hb, rb⟩ := lst_of p eb
      cases rx
      cases ry
      refine .inr (.inr ⟨a, b, vs, us, rfl, rfl, ha, hb, by rw [ra.length, rb.length]; exact sz_of h.1, fun z hz => ?_⟩)
      exact k _ _ (.ob z) _ rfl (p.newL hz (ra.append rb)) (.put (.inr hz)) (h.2 z (p.fresh hz))
    · exact h.elim
  · exact h.elim
/-! ### comparisons of numbers and texts -/
def fEq : DF2
  | .int i, .int j, M, q => q (.bl (decide (i = j))) M
  | .str i, .str j, M, q => q (.bl (decide (i = j))) M
  | _, _, _, _ => False
def fNe : DF2
  | .int i, .int j, M, q => q (.bl (!decide (i = j))) M
  | .str i, .str j, M, q => q (.bl (!decide (i = j))) M
  | _, _, _, _ => False
theorem vint (i j : Int) : decide (V.int i = V.int j) = decide (i = j) := decide_eq_decide.mpr ⟨fun h => V.int.inj h, fun h => by rw [h]⟩
theorem vstr (i j : Str) : decide (V.str i = V.str j) = decide (i = j) := decide_eq_decide.mpr ⟨fun h => V.str.inj h, fun h => by rw [h]⟩
theorem lift_eq : Lifts K fEq rEq := by
  intro H M x y v u q Q p rx ry h k
  unfold fEq at h
  split at h
  · rename_i i j
    cases rx
    cases ry
    refine ⟨rfl, k _ H (.bl (decide (i = j))) M ?_ p Fr.refl h⟩
    rw [vint]
    rfl
  · rename_i i j
    cases rx
    cases ry
    refine ⟨rfl, k _ H (.bl (decide (i = j))) M ?_ p Fr.refl h⟩
    rw [vstr]
    rfl
  · exact h.elim
theorem lift_ne : Lifts K fNe rNe := by
  intro H M x y v u q Q p rx ry h k
  unfold fNe at h
  split at h
  · rename_i i j
    cases rx
    cases ry
    refine ⟨rfl, k _ H (.bl (!decide (i = j))) M ?_ p Fr.refl h⟩
    rw [vint]
    rfl
  · rename_i i j
    cases rx
    cases ry
    refine ⟨rfl, k _ H (.bl (!decide (i = j))) M ?_ p Fr.refl h⟩
    rw [vstr]
    rfl
  · exact h.elim
/-! ### is None -/
def isNon : D → Bool
  | .non => true
  | _ => false
def fIsN : DF2 := fun x y M q => match y with
  | .non => q (.bl (isNon x)) M
  | _ => False
def fNotN : DF2 := fun x y M q => match y with
  | .non => q (.bl (!isNon x)) M
  | _ => False
theorem isNon_of {H : Hp} {x : D} {v : V} (r : Rp K H x v) : decide (v = .non) = isNon x := by
  cases x with
  | tup ds => obtain ⟨a, xs, rfl, _⟩ := r; rfl
  | scr ns => obtain ⟨a, rfl, _⟩ := r; rfl
  | _ => cases r; rfl
theorem lift_isN : Lifts K fIsN (fun x y H Q => y = .non ∧ Q (.bl (decide (x = .non))) H) := by
  intro H M x y v u q Q p rx ry h k
  unfold fIsN at h
  split at h
  · refine ⟨ry, k _ H (.bl (isNon x)) M ?_ p Fr.refl h⟩
    rw [isNon_of rx]
    rfl
  · exact h.elim
theorem lift_notN : Lifts K fNotN (fun x y H Q => y = .non ∧ Q (.bl (!decide (x = .non))) H) := by
  intro H M x y v u q Q p rx ry h k
  unfold fNotN at h
  split at h
  · refine ⟨ry, k _ H (.bl (!isNon x)) M ?_ p Fr.refl h⟩
    rw [isNon_of rx]
    rfl
  · exact h.elim
/-! ### in: texts among texts, numbers among numbers -/
def strs? : List D → Option (List Str)
  | [] => some []
  | .str s :: r => (strs? r).map (s :: ·)
  | _ :: _ => none
def ints? : List D → Option (List Int)
  | [] => some []
  | .int s :: r => (ints? r).map (s :: ·)
  | _ :: _ => none
theorem strs_of {H : Hp} : ∀ {ds : List D} {vs : List V} {ss : List Str}, Rps K H ds vs → strs? ds = some ss → vs = ss.map V.str
  | [], _, _, r, e => by
    cases e
    exact r
  | .str s :: ds, _, ss, r, e => by
    obtain ⟨v, w, rfl, r1, r2⟩ := r
    unfold strs? at e
    cases q : strs? ds with
    | none => rw [q] at e; cases e
    | some l =>
      rw [q] at e
      cases e
      cases r1
      rw [strs_of r2 q]
      rfl
  | .non :: _, _, _, _, e => nomatch e
  | .bl _ :: _, _, _, _, e => nomatch e
  | .int _ :: _, _, _, _, e => nomatch e
  | .tup _ :: _, _, _, _, e => nomatch e
  | .ob _ :: _, _, _, _, e => nomatch e
  | .scr _ :: _, _, _, _, e => nomatch e
theorem ints_of {H : Hp} : ∀ {ds : List D} {vs : List V} {ss : List Int}, Rps K H ds vs → ints? ds = some ss → vs = ss.map V.int
  | [], _, _, r, e => by
    cases e
    exact r
  | .int s :: ds, _, ss, r, e => by
    obtain ⟨v, w, rfl, r1, r2⟩ := r
    unfold ints? at e
    cases q : ints? ds with
    | none => rw [q] at e; cases e
    | some l =>
      rw [q] at e
      cases e
      cases r1
      rw [ints_of r2 q]
      rfl
  | .non :: _, _, _, _, e => nomatch e
  | .bl _ :: _, _, _, _, e => nomatch e
  | .str _ :: _, _, _, _, e => nomatch e
  | .tup _ :: _, _, _, _, e => nomatch e
  | .ob _ :: _, _, _, _, e => nomatch e
  | .scr _ :: _, _, _, _, e => nomatch e
def inB (x : D) (ds : List D) : Option Bool := match x with
  | .str s => (strs? ds).map fun l => decide (s ∈ l)
  | .int s => (ints? ds).map fun l => decide (s ∈ l)
  | _ => none
theorem inV_str (s : Str) (l : List Str) : inV (.str s) (l.map V.str) = decide (s ∈ l) := by
  unfold inV
  induction l with
  | nil => rfl
  | cons a r ih =>
    rw [List.map_cons, List.any_cons, ih]
    by_cases h : a = s
    · subst h
      simp [eqV]
    · have e : eqV (.str a) (.str s) = false := beq_eq_false_iff_ne.mpr h
      rw [e, Bool.false_or]
      simp [Ne.symm h]
theorem inV_int (s : Int) (l : List Int) : inV (.int s) (l.map V.int) = decide (s ∈ l) := by
  unfold inV
  induction l with
  | nil => rfl
  | cons a r ih =>
    rw [List.map_cons, List.any_cons, ih]
    by_cases h : a = s
    · subst h
      simp [eqV]
    · have e : eqV (.int a) (.int s) = false := beq_eq_false_iff_ne.mpr h
      rw [e, Bool.false_or]
      simp [Ne.symm h]
def fIn : DF2 := fun x y M q => match y with
  | .tup ds => (match inB x ds with
    | some b => q (.bl b) M
    | none => False)
  | .ob a => (match M a with
    | some (.lst ds) => (match inB x ds with
      | some b => q (.bl b) M
      | none => False)
    | _ => False)
  | _ => False
theorem inB_of {H : Hp} {x : D} {v : V} {ds : List D} {vs : List V} {b : Bool} (rx : Rp K H x v) (rs : Rps K H ds vs) (e : inB x ds = some b) : flatV v = true ∧ vs.all flatV = true ∧ inV v vs = b := by
  unfold inB at e
  split at e
  · rename_i s
    cases rx
    cases q : strs? ds with
    | none => rw [q] at e; cases e
    | some l =>
      rw [q] at e
      cases e
      rw [strs_of rs q]
      refine ⟨rfl, ?_, inV_str s l⟩
      rw [List.all_map, List.all_eq_true]
      intro z _
      rfl
  · rename_i s
    cases rx
    cases q : ints? ds with
    | none => rw [q] at e; cases e
    | some l =>
      rw [q] at e
      cases e
      rw [ints_of rs q]
      refine ⟨rfl, ?_, inV_int s l⟩
      rw [List.all_map, List.all_eq_true]
      intro z _
      rfl
  · cases e
theorem lift_in : Lifts K fIn (rIn K false) := by
  intro H M x y v u q Q p rx ry h k
  unfold fIn at h
  split at h
  · rename_i ds
    split at h
    · rename_i b e
      obtain ⟨a, vs, rfl, ha, ra⟩ := ry
      obtain ⟨f1, f2, f3⟩ := inB_of rx ra e
      refine ⟨a, vs, rfl, .inr ha, f1, f2, ?_⟩
      rw [if_neg Bool.false_ne_true, f3]
      exact k _ H (.bl b) M rfl p Fr.refl h
    · exact h.elim
  · rename_i a
    split at h
    · rename_i ds em
      split at h
      · rename_i b e
        obtain ⟨vs, ha, ra⟩ := lst_of p em
        cases ry
        obtain ⟨f1, f2, f3⟩ := inB_of rx ra e
        refine ⟨a, vs, rfl, .inl (.of ha), f1, f2, ?_⟩
        rw [if_neg Bool.false_ne_true, f3]
        exact k _ H (.bl b) M rfl p Fr.refl h
      · exact h.elim
    · exact h.elim
  · exact h.elim
/-! ### subscripts -/
def fIx : DF2
  | .tup ds, .int i, M, q => match atI ds i with
    | some d => q d M
    | none => False
  | .ob a, .int i, M, q => match M a with
    | some (.lst ds) => (match atI ds i with
      | some d => q d M
      | none => False)
    | _ => False
  | _, _, _, _ => False
def rIxU (K : PySem.W.Frag) : R2 := fun x y H Q => rIxL K x y H Q ∨ rIxT K x y H Q
theorem ix_U : IxR X (rIxU X.K) := ix_list.or ix_tup
theorem atI_rp {H : Hp} {ds : List D} {vs : List V} {i : Int} {d : D} (r : Rps K H ds vs) (e : atI ds i = some d) : ∃ v, atI vs i = some v ∧ Rp K H d v := by
  unfold atI at e ⊢
  rw [r.length]
  cases q : ixN ds.length i with
  | none => rw [q] at e; cases e
  | some j =>
    rw [q] at e
    exact r.get e
theorem lift_ix : Lifts K fIx (rIxU K) := by
  intro H M x y v u q Q p rx ry h k
  unfold fIx at h
  split at h
  · rename_i ds i
    split at h
    · rename_i d e
      obtain ⟨a, vs, rfl, ha, ra⟩ := rx
      cases ry
      obtain ⟨z, ez, rz⟩ := atI_rp ra e
      exact .inr ⟨a, vs, i, z, rfl, rfl, ha, ez, k z H d M rz p Fr.refl h⟩
    · exact h.elim
  · rename_i a i
    split at h
    · rename_i ds em
      split at h
      · rename_i d e
        obtain ⟨vs, ha, ra⟩ := lst_of p em
        cases rx
        cases ry
        obtain ⟨z, ez, rz⟩ := atI_rp ra e
        exact .inl ⟨a, vs, i, z, rfl, rfl, .of ha, ez, k z H d M rz p Fr.refl h⟩
      · exact h.elim
    · exact h.elim
  · exact h.elim
/-! ### d["x"] -/
def dgt : List (Str × D) → Str → Option D
  | [], _ => none
  | p :: r, s => if p.1 = s then some p.2 else dgt r s
def fDg : DF2
  | .ob a, .str s, M, q => match M a with
    | some (.dct kvs) => (match dgt kvs s with
      | some d => q d M
      | none => False)
    | _ => False
  | _, _, _, _ => False
theorem dkOf_cons (k : Str) (ks : List Str) (w : V) (ws : List V) : dkOf (k :: ks) (w :: ws) = (Sum.inr k, w) :: dkOf ks ws := rfl
theorem dgt_of {H : Hp} {s : Str} {d : D} : ∀ {kvs : List (Str × D)} {ws : List V}, Rps K H (kvs.map (·.2)) ws → dgt kvs s = some d → ∃ v, valV (dkOf (kvs.map (·.1)) ws) (Sum.inr s) = some v ∧ Rp K H d v
  | [], _, _, e => nomatch e
  | (k, x) :: r, _, h, e => by
    obtain ⟨v, w, rfl, r1, r2⟩ := h
    unfold dgt at e
    rw [List.map_cons, dkOf_cons]
    by_cases hk : k = s
    · subst hk
      rw [if_pos rfl] at e
      cases e
      exact ⟨v, valV_pos rfl, r1⟩
    · rw [if_neg hk] at e
      obtain ⟨z, ez, rz⟩ := dgt_of r2 e
      refine ⟨z, ?_, rz⟩
      rw [valV_neg (fun q => hk (Sum.inr.inj q))]
      exact ez
theorem c_dg {da db : DE} {σ : St} {H : Hp} {Q : VK} (h : cE G (dOp fDg da db) σ H Q) : tDGet (cE G da) (cE G db) σ H Q := by
  have l : Lifts G.K fDg (fun x y H2 Q => ∃ a v, x = .ref a ∧ DGet H2 a y (some v) ∧ Q v H2) := by
    intro H M x y v u q Q p rx ry h k
    unfold fDg at h
    split at h
    · rename_i a s
      split at h
      · rename_i kvs em
        split at h
        · rename_i d e
          obtain ⟨ws, hw, rw'⟩ := (show ∃ ws, H a = some (.dK (dkOf (kvs.map (·.1)) ws)) ∧ Rps G.K H (kvs.map (·.2)) ws from p a _ em)
          cases rx
          cases ry
          obtain ⟨z, ez, rz⟩ := dgt_of rw' e
          refine ⟨a, z, rfl, ?_, k z H d M rz p Fr.refl h⟩
          have g := DGet.k (k := Sum.inr s) hw
          rw [ez] at g
          exact g
        · exact h.elim
      · exact h.elim
    · exact h.elim
  exact c_op l h
/-! ### slices -/
def cutD (ds : List D) (lo hi : Option Int) : List D := (ds.drop (HT.sIx ds.length 0 lo)).take (HT.sIx ds.length ds.length hi - HT.sIx ds.length 0 lo)
abbrev DO := Dl → Mem → (Option Int → Mem → Prop) → XD → Prop
def dNoP : DO := fun _ M q _ => q none M
def dPart (da : DE) : DO := fun dl M q Xi => da dl M (fun d M1 => match d with
  | .int i => q (some i) M1
  | _ => False) Xi
def cO (G : Gh) (dt : DO) : TO := fun σ H Q => ∃ dl M q Xi, Ok G H M dl σ ∧ dt dl M q Xi ∧ (∀ o H' M', Rep G.K H' M' → Fr H M H' M' → q o M' → Q o H') ∧ XOk G H M Xi
theorem c_noP {σ : St} {H : Hp} {Q : Option Int → Hp → Prop} (h : cO G dNoP σ H Q) : tNoPart σ H Q := by
  obtain ⟨dl, M, q, Xi, ok, hd, k, _⟩ := h
  exact k none H M ok.rp Fr.refl hd
theorem c_part {da : DE} {σ : St} {H : Hp} {Q : Option Int → Hp → Prop} (h : cO G (dPart da) σ H Q) : tPart (cE G da) σ H Q := by
  obtain ⟨dl, M, q, Xi, ok, hd, k, kx⟩ := h
  refine ⟨dl, M, _, Xi, ok, hd, fun v H1 d M1 r1 p1 f1 q1 => ?_, kx⟩
  cases d with
  | int i => exact ⟨i, r1, k (some i) H1 M1 p1 f1 q1⟩
  | _ => exact q1.elim
/-- t[lo:hi], t a tuple -/
def dSl (da : DE) (lo hi : DO) : DE := fun dl M q Xi => da dl M (fun d M1 => match d with
  | .tup ds => lo dl M1 (fun l M2 => hi dl M2 (fun u M3 => q (.tup (cutD ds l u)) M3) Xi) Xi
  | _ => False) Xi
theorem sIx_whole {ds : List D} {lo hi : Option Int} (h : HT.sIx ds.length 0 lo = 0 ∧ HT.sIx ds.length ds.length hi = ds.length) : cutD ds lo hi = ds := by
  unfold cutD
  rw [h.1, h.2, List.drop_zero, Nat.sub_zero, List.take_length]
theorem c_sl {da : DE} {lo hi : DO} {σ : St} {H : Hp} {Q : VK} (h : cE G (dSl da lo hi) σ H Q) : tSl (rSlA G.K) (cE G da) (cO G lo) (cO G hi) σ H Q := by
  obtain ⟨dl, M, q, Xi, ok, hd, k, kx⟩ := h
  refine ⟨dl, M, _, Xi, ok, hd, fun v H1 d M1 r1 p1 f1 q1 => ?_, kx⟩
  cases d with
  | tup ds =>
    refine ⟨dl, M1, _, Xi, ok.next p1 f1, q1, fun l H2 M2 p2 f2 q2 => ?_, kx.next f1⟩
    refine ⟨dl, M2, _, Xi, (ok.next p1 f1).next p2 f2, q2, fun u H3 M3 p3 f3 q3 => ?_, (kx.next f1).next f2⟩
    have r3 := (r1.mono (f2.tk p1)).mono (f3.tk p2)
    obtain ⟨a, xs, rfl, ha, ra⟩ := r3
    have ff := (f1.trans f2).trans f3
    refine ⟨a, xs, rfl, ha, fun w => ?_, fun _ z hz => ?_⟩
    · rw [ra.length] at w
      have q3' := q3
      rw [sIx_whole w] at q3'
      exact k _ H3 (.tup ds) M3 ⟨a, xs, rfl, ha, ra⟩ p3 ff q3'
    · refine k _ _ (.tup (cutD ds l u)) M3 ⟨z, _, rfl, .of upd_same, ?_⟩ (p3.new hz) (ff.trans (.new hz)) q3
      unfold cutV cutD
      rw [ra.length]
      exact (((ra.drop _).take _).mono (TK.new hz))
  | _ => exact q1.elim
/-- xs[::-1], xs a list -/
def dRevL (da : DE) : DE := fun dl M q Xi => da dl M (fun d M1 => match d with
  | .ob a => (match M1 a with
    | some (.lst ds) => ∀ p, M1 p = none → q (.ob p) (up M1 p (.lst ds.reverse))
    | _ => False)
  | _ => False) Xi
theorem c_revL {da : DE} {σ : St} {H : Hp} {Q : VK} (h : cE G (dRevL da) σ H Q) : tRevL G.K (cE G da) σ H Q := by
  obtain ⟨dl, M, q, Xi, ok, hd, k, kx⟩ := h
  refine ⟨dl, M, _, Xi, ok, hd, fun v H1 d M1 r1 p1 f1 q1 => ?_, kx⟩
  cases d with
  | ob a =>
    dsimp only at q1
    split at q1
    · rename_i ds em
      obtain ⟨xs, ha, ra⟩ := lst_of p1 em
      cases r1
      exact ⟨a, xs, rfl, .of ha, fun z hz => k _ _ (.ob z) _ rfl (p1.newL hz ra.reverse) (f1.trans (.put (.inr hz))) (q1 z (p1.fresh hz))⟩
    · exact q1.elim
  | _ => exact q1.elim
/-! ### built in -/
def fLen : DFs
  | [.tup ds], M, q => q (.int ds.length) M
  | [.ob a], M, q => match M a with
    | some (.lst ds) => q (.int ds.length) M
    | _ => False
  | _, _, _ => False
def rLenU (K : PySem.W.Frag) : List V → Hp → VK → Prop := fun xs H Q => ∃ p ys, xs = [.ref p] ∧ (SqL K H p ys ∨ SqT K H p ys) ∧ Q (.int ys.length) H
theorem lift_len : LiftsC K fLen (rLenU K) := by
  intro H M ds vs q Q p r h k
  unfold fLen at h
  split at h
  · rename_i es
    obtain ⟨v, w, rfl, ⟨a, xs, rfl, ha, ra⟩, rfl⟩ := r
    refine ⟨a, xs, rfl, .inr ha, ?_⟩
    rw [ra.length]
    exact k _ H (.int es.length) _ rfl p Fr.refl h
  · rename_i a
    split at h
    · rename_i es em
      obtain ⟨v, w, rfl, rfl, rfl⟩ := r
      obtain ⟨xs, ha, ra⟩ := lst_of p em
      refine ⟨a, xs, rfl, .inl (.of ha), ?_⟩
      rw [ra.length]
      exact k _ H (.int es.length) _ rfl p Fr.refl h
    · exact h.elim
  · exact h.elim
def fMin : DFs
  | [.int i, .int j], M, q => q (.int (if j < i then j else i)) M
  | _, _, _ => False
def fMax : DFs
  | [.int i, .int j], M, q => q (.int (if j > i then j else i)) M
  | _, _, _ => False
theorem lift_min : LiftsC K fMin (fun xs H Q => ∃ i j, xs = [.int i, .int j] ∧ Q (.int (if j < i then j else i)) H) := by
  intro H M ds vs q Q p r h k
  unfold fMin at h
  split at h
  · rename_i i j
    obtain ⟨v, w, rfl, rfl, v2, w2, rfl, rfl, rfl⟩ := r
    exact ⟨i, j, rfl, k _ H (.int _) _ rfl p Fr.refl h⟩
  · exact h.elim
theorem lift_max : LiftsC K fMax (fun xs H Q => ∃ i j, xs = [.int i, .int j] ∧ Q (.int (if j > i then j else i)) H) := by
  intro H M ds vs q Q p r h k
  unfold fMax at h
  split at h
  · rename_i i j
    obtain ⟨v, w, rfl, rfl, v2, w2, rfl, rfl, rfl⟩ := r
    exact ⟨i, j, rfl, k _ H (.int _) _ rfl p Fr.refl h⟩
  · exact h.elim
def fInt : DFs
  | [.int i], M, q => q (.int i) M
  | [.bl b], M, q => q (.int (if b then 1 else 0)) M
  | _, _, _ => False
theorem lift_int : LiftsC K fInt (fun xs H Q => (∃ i, xs = [.int i] ∧ Q (.int i) H) ∨ ∃ k, xs = [.bl k] ∧ Q (.int (if k then 1 else 0)) H) := by
  intro H M ds vs q Q p r h k
  unfold fInt at h
  split at h
  · rename_i i
    obtain ⟨v, w, rfl, rfl, rfl⟩ := r
    exact .inl ⟨i, rfl, k _ H (.int _) _ rfl p Fr.refl h⟩
  · rename_i b
    obtain ⟨v, w, rfl, rfl, rfl⟩ := r
    exact .inr ⟨b, rfl, k _ H (.int _) _ rfl p Fr.refl h⟩
  · exact h.elim
/-- tuple(x), list(x) -/
def fTup : DFs
  | [.tup ds], M, q => q (.tup ds) M
  | [.ob a], M, q => match M a with
    | some (.lst ds) => q (.tup ds) M
    | _ => False
  | _, _, _ => False
theorem lift_tup : LiftsC K fTup (fun xs H Q => ∃ p ys, xs = [.ref p] ∧ ((SqL K H p ys ∧ ∀ l, H l = none → Q (.ref l) (upd H l (.tup ys))) ∨ (SqT K H p ys ∧ Q (.ref p) H))) := by
  intro H M ds vs q Q p r h k
  unfold fTup at h
  split at h
  · rename_i es
    obtain ⟨v, w, rfl, ⟨a, xs, rfl, ha, ra⟩, rfl⟩ := r
    exact ⟨a, xs, rfl, .inr ⟨ha, k _ H (.tup es) _ ⟨a, xs, rfl, ha, ra⟩ p Fr.refl h⟩⟩
  · rename_i a
    split at h
    · rename_i es em
      obtain ⟨v, w, rfl, rfl, rfl⟩ := r
      obtain ⟨xs, ha, ra⟩ := lst_of p em
      exact ⟨a, xs, rfl, .inl ⟨.of ha, fun l hl => k _ _ (.tup es) _ ⟨l, xs, rfl, .of upd_same, ra.mono (TK.new hl)⟩ (p.new hl) (.new hl) h⟩⟩
    · exact h.elim
  · exact h.elim
def fLst : DFs
  | [.tup ds], M, q => ∀ p, M p = none → q (.ob p) (up M p (.lst ds))
  | [.ob a], M, q => match M a with
    | some (.lst ds) => ∀ p, M p = none → q (.ob p) (up M p (.lst ds))
    | _ => False
  | _, _, _ => False
theorem lift_lst : LiftsC K fLst (fun xs H Q => ∃ p ys, xs = [.ref p] ∧ (SqL K H p ys ∨ SqT K H p ys) ∧ ∀ l, H l = none → Q (.ref l) (upd H l (.lst ys))) := by
  intro H M ds vs q Q p r h k
  unfold fLst at h
  split at h
  · rename_i es
    obtain ⟨v, w, rfl, ⟨a, xs, rfl, ha, ra⟩, rfl⟩ := r
    exact ⟨a, xs, rfl, .inr ha, fun l hl => k _ _ (.ob l) _ rfl (p.newL hl ra) (.put (.inr hl)) (h l (p.fresh hl))⟩
  · rename_i a
    split at h
    · rename_i es em
      obtain ⟨v, w, rfl, rfl, rfl⟩ := r
      obtain ⟨xs, ha, ra⟩ := lst_of p em
      exact ⟨a, xs, rfl, .inl (.of ha), fun l hl => k _ _ (.ob l) _ rfl (p.newL hl ra) (.put (.inr hl)) (h l (p.fresh hl))⟩
    · exact h.elim
  · exact h.elim
/-- list(range(n)) -/
def dLRg (da : DE) : DE := fun dl M q Xi => da dl M (fun d M1 => match d with
  | .int n => 0 ≤ n ∧ n ≤ 100000 ∧ ∀ p, M1 p = none → q (.ob p) (up M1 p (.lst ((List.range n.toNat).map fun (i : Nat) => D.int i)))
  | _ => False) Xi
theorem rgD {H : Hp} : ∀ (l : List Nat), Rps K H (l.map fun (i : Nat) => D.int i) (l.map fun (i : Nat) => V.int i)
  | [] => rfl
  | n :: l => ⟨_, _, rfl, rfl, rgD l⟩
theorem c_lrg {da : DE} {σ : St} {H : Hp} {Q : VK} (h : cE G (dLRg da) σ H Q) : tLstRg (tRg1 (cE G da)) σ H Q := by
  obtain ⟨dl, M, q, Xi, ok, hd, k, kx⟩ := h
  refine ⟨dl, M, _, Xi, ok, hd, fun v H1 d M1 r1 p1 f1 q1 => ?_, kx⟩
  cases d with
  | int n =>
    obtain ⟨h0, h1, q1⟩ := q1
    refine ⟨n, r1, .of_le (by omega) (by omega) (by omega) h0, fun z hz => ?_⟩
    refine k _ _ (.ob z) _ rfl (p1.newL hz ?_) (f1.trans (.put (.inr hz))) (q1 z (p1.fresh hz))
    have e : rgV 0 n = (List.range n.toNat).map fun (i : Nat) => V.int i := by
      unfold rgV
      rw [Int.sub_zero]
      congr 1
      funext i
      rw [Int.zero_add]
    rw [e]
    exact rgD _
  | _ => exact q1.elim
/-- n.bit_length() -/
def dBits (da : DE) : DE := fun dl M q Xi => da dl M (fun d M1 => match d with
  | .int i => q (.int (Builtin.Int.intBits i : Nat)) M1
  | _ => False) Xi
theorem c_bits {da : DE} {σ : St} {H : Hp} {Q : VK} (h : cE G (dBits da) σ H Q) : tBits (cE G da) σ H Q := by
  obtain ⟨dl, M, q, Xi, ok, hd, k, kx⟩ := h
  refine ⟨dl, M, _, Xi, ok, hd, fun v H1 d M1 r1 p1 f1 q1 => ?_, kx⟩
  cases d with
  | int i => exact ⟨i, r1, k _ H1 (.int _) M1 rfl p1 f1 q1⟩
  | _ => exact q1.elim
/-! ### methods of lists: append, pop(i) -/
def isL : Option Ob → Bool
  | some (.lst _) => true
  | _ => false
def dApp (da db : DE) : DE := fun dl M q Xi => da dl M (fun x M1 => match x with
  | .ob l => isL (M1 l) = true ∧ db dl M1 (fun d M2 => match M2 l with
    | some (.lst ds) => ds.length < 100000 ∧ q .non (up M2 l (.lst (ds ++ [d])))
    | _ => False) Xi
  | _ => False) Xi
theorem isL_of {m : Option Ob} (h : isL m = true) : ∃ ds, m = some (.lst ds) := by
  unfold isL at h
  split at h
  · exact ⟨_, rfl⟩
  · cases h
theorem c_app {da db : DE} {σ : St} {H : Hp} {Q : VK} (h : cE G (dApp da db) σ H Q) : tBM G.K "list" rAppend (cE G da) (cA G (dCons db dNil)) σ H Q := by
  obtain ⟨dl, M, q, Xi, ok, hd, k, kx⟩ := h
  refine ⟨dl, M, _, Xi, ok, hd, fun v H1 d M1 r1 p1 f1 q1 => ?_, kx⟩
  cases d with
  | ob l =>
    obtain ⟨h1, q1⟩ := q1
    obtain ⟨es, e1⟩ := isL_of h1
    obtain ⟨xs, ha, ra⟩ := lst_of p1 e1
    cases r1
    refine ⟨.inl ⟨rfl, xs, .of ha⟩, dl, M1, fun ds M2 => ∃ d, ds = [d] ∧ (match M2 l with
      | some (.lst ds) => ds.length < 100000 ∧ q .non (up M2 l (.lst (ds ++ [d])))
      | _ => False), Xi, ok.next p1 f1, ?_, fun vs H2 ds M2 r2 p2 f2 q2 => ?_, kx.next f1⟩
    · unfold dCons dNil
      have e : (fun (d : D) (M2 : Mem) => ∃ d', [d] = [d'] ∧ (match M2 l with
          | some (.lst ds) => ds.length < 100000 ∧ q .non (up M2 l (.lst (ds ++ [d'])))
          | _ => False)) = fun (d : D) (M2 : Mem) => (match M2 l with
          | some (.lst ds) => ds.length < 100000 ∧ q .non (up M2 l (.lst (ds ++ [d])))
          | _ => False) := by
        funext d M2
        exact propext ⟨fun ⟨d', e, z⟩ => by cases e; exact z, fun z => ⟨d, rfl, z⟩⟩
      dsimp only
      rw [e]
      exact q1
    · obtain ⟨d, rfl, q2⟩ := q2
      split at q2
      · rename_i es2 em
        obtain ⟨v2, w2, rfl, r3, rfl⟩ := r2
        obtain ⟨xs2, ha2, ra2⟩ := lst_of p2 em
        refine ⟨l, xs2, v2, rfl, rfl, ha2, by rw [ra2.length]; exact sz_lt q2.1, ?_⟩
        exact k _ _ .non _ rfl (p2.putL em (ra2.append (Rps.one r3))) ((f1.trans f2).trans (.put (.inl (by rw [em]; exact fun z => nomatch z)))) q2.2
      · exact q2.elim
  | _ => exact q1.elim
def dPop (da db : DE) : DE := fun dl M q Xi => da dl M (fun x M1 => match x with
  | .ob l => isL (M1 l) = true ∧ db dl M1 (fun d M2 => match d, M2 l with
    | .int i, some (.lst ds) => 0 ≤ i ∧ i < ds.length ∧ ds.length ≤ 100000 ∧ (match ds[i.toNat]? with
      | some e => q e (up M2 l (.lst (ds.eraseIdx i.toNat)))
      | none => False)
    | _, _ => False) Xi
  | _ => False) Xi
theorem c_pop {da db : DE} {σ : St} {H : Hp} {Q : VK} (h : cE G (dPop da db) σ H Q) : tBM G.K "list" rPopAt (cE G da) (cA G (dCons db dNil)) σ H Q := by
  obtain ⟨dl, M, q, Xi, ok, hd, k, kx⟩ := h
  refine ⟨dl, M, _, Xi, ok, hd, fun v H1 d M1 r1 p1 f1 q1 => ?_, kx⟩
  cases d with
  | ob l =>
    obtain ⟨h1, q1⟩ := q1
    obtain ⟨es, e1⟩ := isL_of h1
    obtain ⟨xs, ha, ra⟩ := lst_of p1 e1
    cases r1
    refine ⟨.inl ⟨rfl, xs, .of ha⟩, dl, M1, fun ds M2 => ∃ d, ds = [d] ∧ (match d, M2 l with
      | .int i, some (.lst ds) => 0 ≤ i ∧ i < ds.length ∧ ds.length ≤ 100000 ∧ (match ds[i.toNat]? with
        | some e => q e (up M2 l (.lst (ds.eraseIdx i.toNat)))
        | none => False)
      | _, _ => False), Xi, ok.next p1 f1, ?_, fun vs H2 ds M2 r2 p2 f2 q2 => ?_, kx.next f1⟩
    · unfold dCons dNil
      have e : (fun (d : D) (M2 : Mem) => ∃ d', [d] = [d'] ∧ (match d', M2 l with
          | .int i, some (.lst ds) => 0 ≤ i ∧ i < ds.length ∧ ds.length ≤ 100000 ∧ (match ds[i.toNat]? with
            | some e => q e (up M2 l (.lst (ds.eraseIdx i.toNat)))
            | none => False)
          | _, _ => False)) = fun (d : D) (M2 : Mem) => (match d, M2 l with
          | .int i, some (.lst ds) => 0 ≤ i ∧ i < ds.length ∧ ds.length ≤ 100000 ∧ (match ds[i.toNat]? with
            | some e => q e (up M2 l (.lst (ds.eraseIdx i.toNat)))
            | none => False)
          | _, _ => False) := by
        funext d M2
        exact propext ⟨fun ⟨d', e, z⟩ => by cases e; exact z, fun z => ⟨d, rfl, z⟩⟩
      dsimp only
      rw [e]
      exact q1
    · obtain ⟨d, rfl, q2⟩ := q2
      split at q2
      · rename_i i es2 em
        obtain ⟨v2, w2, rfl, r3, rfl⟩ := r2
        obtain ⟨xs2, ha2, ra2⟩ := lst_of p2 em
        obtain ⟨h0, hl, hz, q2⟩ := q2
        split at q2
        · rename_i e ee
          obtain ⟨y, ey, ry⟩ := ra2.get ee
          cases r3
          have hlen : xs2.length = es2.length := ra2.length
          refine ⟨l, xs2, i, i.toNat, y, rfl, rfl, ha2, by omega, by omega, ?_, ey, ?_⟩
          · have z := (ixN_seq (n := xs2.length) (i := i) (j := i.toNat) (by
              unfold ixN
              rw [if_pos h0, if_pos (by rw [hlen]; exact hl)])).1
            exact z
          · have tk : TK H2 (upd H2 l (.lst (xs2.eraseIdx i.toNat))) := TK.put ha2 (fun f => f)
            exact k _ _ e _ (ry.mono tk) (p2.putL em (ra2.erase _)) ((f1.trans f2).trans (.put (.inl (by rw [em]; exact fun z => nomatch z)))) q2
        · exact q2.elim
      · exact q2.elim
  | _ => exact q1.elim
end
end K7
/-! K7, part 4: calls of defs, isinstance, displays of dicts, what is walked, comprehensions. -/
namespace K7
open PySem PySem.Spec L2
open PyProof.Rows hiding St

/-! ### promises over data -/
abbrev XF := Str → List (Str × D) → Mem → Prop
abbrev DF := List D → Mem → (D → Mem → Prop) → XF → Prop
def spOf (K : PySem.W.Frag) (cls : Str → Addr) (Ph : DF) : Sp := fun vs H Q E => ∃ ds M q xi, Rps K H ds vs ∧ Rep K H M ∧ Ph ds M q xi ∧
  (∀ v H' d M', Rp K H' d v → Rep K H' M' → Fr H M H' M' → q d M' → Q v H') ∧
  (∀ c fs H' M' x, Rep K H' M' → Fr H M H' M' → XAt K H' x fs → xi c fs M' → E (.ref (cls c)) (some x) H')
/-- a def keeps a promise wherever no representation is under way -/
structure FnG (P : Program) (w : World) (K : PySem.W.Frag) (mg : Str → Option Value) (base : Heap) (k : Nat) (f : Addr) (fd : FuncData) (ps : List Str) (sp : Sp) : Prop where
  len : ∀ vs H Q E, sp vs H Q E → vs.length = ps.length
  go : ∀ (A : Around) (outer : List Env) (s : Shared) (H : Hp) (args : Args) (us : List Value) (vs : List V) (Q : VK) (E : XK), Room k A → A.guards = some [] → Env0 P w K mg base A outer s H →
    BindsTo s fd args (ps.zip us) → Vals vs us → sp vs H Q E → codeAny (model P w) A (.call (.ref f) args) (CR (L2.CX P w) outer P w H s Q E) s
structure Callee (X : Cx) (G : Gh) (x : Str) (Ph : DF) : Prop where
  it : ∃ (k : Nat) (f : Addr) (fd : FuncData) (ps : List Str), FnG X.prog X.w X.K X.mg X.base k f fd ps (spOf G.K G.cls Ph) ∧ Room k X.A ∧ X.mg x = some (.ref f) ∧ PySem.W.keepIn X.K (.ref f) = true ∧ Binds X.K fd ps []
def dCall (Ph : DF) (dr : DA) : DE := fun dl M q Xi => dr dl M (fun ds M1 => Ph ds M1 q (fun c fs M2 => Xi c fs dl M2)) Xi
section
variable {X : Cx} {G : Gh} {σ : St} {H : Hp} {Q : VK} {da db dc : DE} {dr : DA}
theorem c_call {Ph : DF} (h : cE G (dCall Ph dr) σ H Q) : tCallS (spOf G.K G.cls Ph) (WE G.W) (cA G dr) σ H Q := by
  obtain ⟨dl, M, q, Xi, ok, hd, k, kx⟩ := h
  refine ⟨dl, M, _, Xi, ok, hd, fun vs H1 ds M1 r1 p1 f1 q1 => ?_, kx⟩
  refine ⟨ds, M1, q, _, r1, p1, q1, fun v H2 d M2 r2 p2 f2 q2 => k v H2 d M2 r2 p2 (f1.trans f2) q2, fun c fs H2 M2 x p2 f2 e q2 => ?_⟩
  exact kx c fs dl σ H2 M2 x ((ok.next p1 f1).next p2 f2).sl p2 (f1.trans f2) e q2
theorem run_G {k : Nat} {f : Addr} {fd : FuncData} {ps : List Str} {sp : Sp} {E : St → XK} {pins : List (Addr × Obj)} {s : Shared} {us : List Value} {vs : List V} (F : FnG X.prog X.w X.K X.mg X.base k f fd ps sp) (hr : Room k X.A) (hgd : X.A.guards = some [])
    (hb : Binds X.K fd ps []) (hx : PassesAt (L2.CX X.prog X.w) X σ (E σ)) (I : Inv X pins σ H s) (r : Vals vs us) (h : sp vs H Q (E σ)) : wpAny (model X.prog X.w) X.A (call (.ref f) us) (EP X pins σ Q) X.xe s := by
  have hl : (us ++ []).length = ps.length := by
    rw [List.append_nil, ← r.length]
    exact F.len _ _ _ _ h
  have b := hb s us I.kIn hl
  rw [List.append_nil] at b
  refine wpAny_call (codeAny_mono (F.go X.A X.stack s H ⟨us, []⟩ us vs Q (E σ) hr hgd I.env0 b r h) fun res s' hq => ?_)
  match res, hq with
  | .error e, hq => exact hx pins H s e s' I hq
  | .ok (.ret u), hq => exact I.after hq
  | .ok .next, hq => exact hq.elim
  | .ok .brk, hq => exact hq.elim
  | .ok .cont, hq => exact hq.elim
theorem pe_callG {x : Str} {Ph : DF} {e : Expr} {es : List Expr} {p pos : Pos} (C : Callee X G x Ph) (hgd : X.A.guards = some []) (tk : Takes X G.W) (hg : Gl X x) (ha : PA X (e :: es) (cA G dr)) (hdb : (x == ("__debug__" : Str)) = false)
    (he : starEach (e :: es) X.env = (false, eval e X.env) :: starEach es X.env) (hpl : (backTo pos (starEach es X.env)).any (·.1) = false) : PE X (.Call (.Name x p) (e :: es) [] pos) (cE G (dCall Ph dr)) := by
  obtain ⟨k, f, fd, ps, F, hr, hm, hk, hb⟩ := C.it
  refine PE.imp (t := tCallS (spOf G.K G.cls Ph) (WE G.W) (cA G dr)) ⟨fun pins s σ H Q I h => ?_⟩ fun _ _ _ h => c_call h
  refine wpAny_Call_Name_kw (ld_glob I hg hm ?_ hdb)
  refine PySem.W.callWith_K (h₀ := X.base) I.ok.mod.kin hk (thn (ha.run pos pins s σ H _ I h) fun us s1 hh => ?_) he hpl
  obtain ⟨vs, H1, I1, r, q⟩ := hh
  exact ⟨I1.kIn, run_G F hr hgd hb (passAt tk σ) I1 r q⟩
theorem pe_callG0 {x : Str} {Ph : DF} {p pos : Pos} (C : Callee X G x Ph) (hgd : X.A.guards = some []) (tk : Takes X G.W) (hg : Gl X x) (hdb : (x == ("__debug__" : Str)) = false) : PE X (.Call (.Name x p) [] [] pos) (cE G (dCall Ph dNil)) := by
  obtain ⟨k, f, fd, ps, F, hr, hm, hk, hb⟩ := C.it
  refine PE.imp (t := tCallS (spOf G.K G.cls Ph) (WE G.W) (cA G dNil)) ⟨fun pins s σ H Q I h => ?_⟩ fun _ _ _ h => c_call h
  refine wpAny_Call_Name_kw (ld_glob I hg hm ?_ hdb)
  obtain ⟨dl, M, q, Xi, ok, hd, kq, kx⟩ := h
  exact PySem.W.callWith_K0 I.kIn hk (run_G (us := []) (E := WE G.W) F hr hgd hb (passAt tk σ) I .nil (kq [] H [] M rfl ok.rp Fr.refl hd))
/-! ### isinstance -/
def tyOf : D → Mem → Option String
  | .non, _ => some "NoneType"
  | .bl _, _ => some "bool"
  | .int _, _ => some "int"
  | .str _, _ => some "str"
  | .tup _, _ => some "tuple"
  | .ob a, M => match M a with
    | some (.lst _) => some "list"
    | some (.dct _) => some "dict"
    | _ => none
  | .scr _, _ => none
def isiB (ty : String) (T : String) : Bool := ty == T || (ty == "bool" && T == "int")
def dIsi (da : DE) (T : String) : DE := fun dl M q Xi => da dl M (fun d M1 => match tyOf d M1 with
  | some ty => q (.bl (isiB ty T)) M1
  | none => False) Xi
theorem tyX_of {H : Hp} {M : Mem} {d : D} {v : V} {ty : String} (p : Rep G.K H M) (r : Rp G.K H d v) (e : tyOf d M = some ty) : TyX G.K H v (.type ty) := by
  cases d with
  | non => cases e; cases r; exact .base .non
  | bl b => cases e; cases r; exact .base (.bl b)
  | int b => cases e; cases r; exact .base (.int b)
  | str b => cases e; cases r; exact .base (.str b)
  | tup ds =>
    cases e
    obtain ⟨a, xs, rfl, (h | ⟨o, h⟩) | ⟨o, its, n, h, hc, _⟩, _⟩ := r
    · exact .base (.tup h)
    · exact .fTuple h
    · exact .kTuple h hc
  | ob a =>
    cases r
    unfold tyOf at e
    dsimp only at e
    split at e
    · rename_i ds em
      cases e
      obtain ⟨xs, h, _⟩ := lst_of p em
      exact .base (.lst h)
    · rename_i kvs em
      cases e
      obtain ⟨ws, h, _⟩ := (show ∃ ws, H a = some (.dK (dkOf (kvs.map (·.1)) ws)) ∧ Rps G.K H (kvs.map (·.2)) ws from p a _ em)
      exact .base (.dK h)
    · cases e
  | scr ns => cases e
def isiTys : List String := ["NoneType", "bool", "int", "str", "tuple", "list", "dict"]
def isiTs : List String := ["tuple", "int", "bool", "str"]
theorem kit_all : (isiTys.all fun a => isiTs.all fun b => decide (kitB a b = some (isiB a b))) = true := by decide +kernel
theorem tyOf_mem {d : D} {M : Mem} {ty : String} (e : tyOf d M = some ty) : ty ∈ isiTys := by
  cases d with
  | ob a =>
    unfold tyOf at e
    dsimp only at e
    split at e
    · cases e; decide
    · cases e; decide
    · cases e
  | scr ns => exact nomatch e
  | _ => cases e; decide
theorem c_isi {T : String} (hT : T ∈ isiTs) (h : cE G (dIsi da T) σ H Q) : tCB (rIsi G.K) (tCons (cE G da) (tCons (tC (.ty T)) tNil)) σ H Q := by
  obtain ⟨dl, M, q, Xi, ok, hd, k, kx⟩ := h
  refine ⟨dl, M, _, Xi, ok, hd, fun v H1 d M1 r1 p1 f1 q1 => ?_, kx⟩
  split at q1
  · rename_i ty e
    have z := List.all_eq_true.mp (List.all_eq_true.mp kit_all ty (tyOf_mem e)) T hT
    exact ⟨v, .ty T, .type ty, .type T, isiB ty T, rfl, .ty T, tyX_of p1 r1 e, kit_ty (of_decide_eq_true z), k _ H1 (.bl (isiB ty T)) M1 rfl p1 f1 q1⟩
  · exact q1.elim
/-! ### displays of dicts -/
def dDisp (ks : List Str) (dr : DA) : DE := fun dl M q Xi => dr dl M (fun ds M1 => ds.length = ks.length ∧ ∀ p, M1 p = none → q (.ob p) (up M1 p (.dct (ks.zip ds)))) Xi
def trsOf (G : Gh) : List Str → List DE → List (TE × TE)
  | k :: ks, d :: ds => (tC (.str k), cE G d) :: trsOf G ks ds
  | _, _ => []
def dAll : List DE → DA
  | [] => dNil
  | d :: r => dCons d (dAll r)
theorem c_pairs : ∀ {ks : List Str} {es : List DE} {σ : St} {H : Hp} {Qp : List (V × V) → Hp → Prop}, ks.length = es.length → cA G (dAll es) σ H (fun vs H' => Qp ((ks.map V.str).zip vs) H') → tPairs (trsOf G ks es) σ H Qp
  | [], [], σ, H, Qp, _, h => by
    have z := c_nil h
    exact z
  | k :: ks, e :: es, σ, H, Qp, hl, h => by
    obtain ⟨dl, M, q, Xi, ok, hd, kk, kx⟩ := h
    show cE G e σ H _
    refine ⟨dl, M, _, Xi, ok, hd, fun v H1 d M1 r1 p1 f1 q1 => ?_, kx⟩
    refine c_pairs (ks := ks) (es := es) (by simpa using hl) ?_
    exact ⟨dl, M1, _, Xi, ok.next p1 f1, q1, fun vs H2 ds M2 r2 p2 f2 q2 => kk (v :: vs) H2 (d :: ds) M2 ⟨v, vs, rfl, r1.mono (f2.tk p1), r2⟩ p2 (f1.trans f2) q2, kx.next f1⟩
theorem mergeK_new : ∀ (more acc : List (Key × V)), ((acc ++ more).map (·.1)).Nodup → mergeK acc more = acc ++ more
  | [], acc, _ => (List.append_nil acc).symm
  | p :: r, acc, h => by
    have e : putK acc p.1 p.2 = acc ++ [p] := by
      refine putK_new p.2 ?_
      have ne : ∀ z ∈ acc, z.1 ≠ p.1 := by
        intro z hz q
        rw [List.map_append, List.nodup_append] at h
        exact h.2.2 z.1 (List.mem_map_of_mem hz) p.1 (by simp) q
      clear h
      induction acc with
      | nil => rfl
      | cons a l ih =>
        rw [valV_neg (ne a List.mem_cons_self)]
        exact ih fun z hz => ne z (List.mem_cons_of_mem _ hz)
    show mergeK (putK acc p.1 p.2) r = _
    rw [e, mergeK_new r (acc ++ [p]) (by rw [List.append_assoc]; exact h), List.append_assoc]
    rfl
theorem dkOf_keys : ∀ (ks : List Str) (ws : List V), ws.length = ks.length → (dkOf ks ws).map (·.1) = ks.map Sum.inr
  | [], [], _ => rfl
  | k :: ks, w :: ws, h => by
    rw [dkOf_cons, List.map_cons, List.map_cons, dkOf_keys ks ws (by simpa using h)]
theorem nodup_inr {l : List Str} (h : l.Nodup) : (l.map (Sum.inr : Str → Key)).Nodup := by
  induction h with
  | nil => exact List.nodup_nil
  | cons h1 h2 ih =>
    rw [List.map_cons, List.nodup_cons]
    refine ⟨fun m => ?_, ih⟩
    obtain ⟨y, hy, e⟩ := List.mem_map.mp m
    exact h1 y hy (Sum.inr.inj e).symm
theorem zip_fst {α β : Type} : ∀ (l : List α) (m : List β), m.length = l.length → (l.zip m).map (·.1) = l
  | [], [], _ => rfl
  | a :: l, b :: m, h => by rw [List.zip_cons_cons, List.map_cons, zip_fst l m (by simpa using h)]
theorem zip_snd {α β : Type} : ∀ (l : List α) (m : List β), m.length = l.length → (l.zip m).map (·.2) = m
  | [], [], _ => rfl
  | a :: l, b :: m, h => by rw [List.zip_cons_cons, List.map_cons, zip_snd l m (by simpa using h)]
theorem ps_of : ∀ (ks : List Str) (vs : List V), (ks.map V.str).zip vs = (dkOf ks vs).map fun kv => (kV kv.1, kv.2)
  | [], _ => rfl
  | _ :: _, [] => rfl
  | k :: ks, v :: vs => by rw [List.map_cons, List.zip_cons_cons, dkOf_cons, List.map_cons, ps_of ks vs]; rfl
theorem c_disp {ks : List Str} {es : List DE} (nd : ks.Nodup) (hl : ks.length = es.length) (h15 : ks.length ≤ 15) (h : cE G (dDisp ks (dAll es)) σ H Q) : tDisp (trsOf G ks es) σ H Q := by
  obtain ⟨dl, M, q, Xi, ok, hd, k, kx⟩ := h
  intro p hp
  refine c_pairs hl ?_
  have f0 : Fr H M (upd H p (.dK [])) M := .new hp
  refine ⟨dl, M, _, Xi, ok.next (ok.rp.new hp) f0, hd, fun vs H1 ds M1 r1 p1 f1 ⟨hz, q1⟩ => ?_, kx.next f0⟩
  have hm : M p = none := ok.rp.fresh hp
  have e1 : H1 p = some (.dK []) := f1.keep p _ upd_same hm
  have m1 : M1 p = none := f1.dom p _ upd_same hm
  have lv : vs.length = ks.length := by rw [r1.length, hz]
  refine ⟨e1, dkOf ks vs, ps_of ks vs, ?_, ?_⟩
  · have z := congrArg List.length (dkOf_keys ks vs lv)
    rw [List.length_map, List.length_map] at z
    omega
  · have em : mergeK [] (dkOf ks vs) = dkOf ks vs := by
      rw [mergeK_new _ _ (by rw [List.nil_append, dkOf_keys ks vs lv]; exact nodup_inr nd), List.nil_append]
    rw [em]
    have k1 : (ks.zip ds).map (·.1) = ks := zip_fst ks ds hz
    have k2 : (ks.zip ds).map (·.2) = ds := zip_snd ks ds hz
    have tk : TK H1 (upd H1 p (.dK (dkOf ks vs))) := TK.put e1 fun f => f
    refine k _ _ (.ob p) (up M1 p (.dct (ks.zip ds))) rfl ?_ ?_ (q1 p m1)
    · refine p1.put (.inl m1) (fun u e => by rw [e1] at e; cases e; exact fun f => f) trivial ?_
      refine ⟨vs, ?_, ?_⟩
      · rw [k1]
        exact upd_same
      · rw [k2]
        exact r1.mono tk
    · refine ⟨fun a o e m => ?_, fun a o e m => ?_⟩
      · have ne : a ≠ p := fun z => by subst z; rw [hp] at e; cases e
        rw [upd_ne ne]
        exact f1.keep a o (by rw [upd_ne ne]; exact e) m
      · have ne : a ≠ p := fun z => by subst z; rw [hp] at e; cases e
        rw [up_ne ne]
        exact f1.dom a o (by rw [upd_ne ne]; exact e) m
def dNewD : DE := fun _ M q _ => ∀ p, M p = none → q (.ob p) (up M p (.dct []))
theorem c_newD (h : cE G dNewD σ H Q) : tDNewK σ H Q := by
  obtain ⟨dl, M, q, Xi, ok, hd, k, kx⟩ := h
  exact fun p hp => k _ _ (.ob p) _ rfl (ok.rp.newD (kvs := []) (ws := []) hp rfl) (.put (.inr hp)) (hd p (ok.rp.fresh hp))
end

/-! ### what is walked -/
/-- the items, and where they stand if that may change -/
abbrev DI := Dl → Mem → (List D → Option Addr → Mem → Prop) → XD → Prop
def Src (M : Mem) (items : List D) : Option Addr → Prop
  | none => True
  | some a => M a = some (.lst items)
structure ItOk (K : PySem.W.Frag) (H0 : Hp) (J : It) (items : List D) (src : Option Addr) : Prop where
  go : ∀ i H M, i < items.length → TK H0 H → Rep K H M → Src M items src → J.go i H
  stop : ∀ H M, TK H0 H → Rep K H M → Src M items src → J.stop items.length H
  yld : ∀ i H M x H', i < items.length → TK H0 H → Rep K H M → Src M items src → J.yld i H x H' → ∃ d, items[i]? = some d ∧ Rp K H' d x ∧ Rep K H' M ∧ Fr H M H' M
def cI (G : Gh) (di : DI) : TI := fun σ H R => ∃ dl M q Xi, Ok G H M dl σ ∧ di dl M q Xi ∧ (∀ J H' items src M', ItOk G.K H' J items src → Src M' items src → Rep G.K H' M' → Fr H M H' M' → q items src M' → R J H') ∧ XOk G H M Xi
section
variable {K : PySem.W.Frag} {X : Cx} {G : Gh}
theorem itok_tup {H0 : Hp} {a : Addr} {xs : List V} {ds : List D} (h : SqT K H0 a xs) (r : Rps K H0 ds xs) : ItOk K H0 (Itt K a) ds none := by
  have W := walk_tup (K := K) (a := a) (xs := xs)
  refine ⟨fun i H M hi tk _ _ => W.goes i H (by rw [r.length]; exact hi) (tk.sqt h), fun H M tk _ _ => ?_, fun i H M x H' hi tk p _ y => ?_⟩
  · have z := W.stops H (tk.sqt h)
    rw [r.length] at z
    exact z
  · obtain ⟨e, z⟩ := W.yields i H x H' (by rw [r.length]; exact hi) (tk.sqt h) y
    subst e
    obtain ⟨d, ed, rd⟩ := r.back z
    exact ⟨d, ed, rd.mono tk, p, Fr.refl⟩
theorem itok_lst {H0 : Hp} {a : Addr} {ds : List D} : ItOk K H0 (Itl K a) ds (some a) := by
  have get : ∀ {H M}, Rep K H M → Src M ds (some a) → ∃ xs, SqL K H a xs ∧ Rps K H ds xs := fun {H M} p s => by
    obtain ⟨xs, h, r⟩ := lst_of p s
    exact ⟨xs, .of h, r⟩
  refine ⟨fun i H M hi _ p s => ?_, fun H M _ p s => ?_, fun i H M x H' hi _ p s y => ?_⟩
  · obtain ⟨xs, h, r⟩ := get p s
    exact (walk_list (xs := xs)).goes i H (by rw [r.length]; exact hi) h
  · obtain ⟨xs, h, r⟩ := get p s
    have z := (walk_list (K := K) (a := a) (xs := xs)).stops H h
    rw [r.length] at z
    exact z
  · obtain ⟨xs, h, r⟩ := get p s
    obtain ⟨e, z⟩ := (walk_list (K := K) (a := a) (xs := xs)).yields i H x H' (by rw [r.length]; exact hi) h y
    subst e
    obtain ⟨d, ed, rd⟩ := r.back z
    exact ⟨d, ed, rd, p, Fr.refl⟩
/-- a list or a tuple itself -/
def diSeq (da : DE) : DI := fun dl M q Xi => da dl M (fun d M1 => match d with
  | .tup ds => q ds none M1
  | .ob a => (match M1 a with
    | some (.lst ds) => q ds (some a) M1
    | _ => False)
  | .scr ns => q (ns.map D.int) none M1
  | _ => False) Xi
def diTup (da : DE) : DI := fun dl M q Xi => da dl M (fun d M1 => match d with
  | .tup ds => q ds none M1
  | _ => False) Xi
def diLst (da : DE) : DI := fun dl M q Xi => da dl M (fun d M1 => match d with
  | .ob a => (match M1 a with
    | some (.lst ds) => q ds (some a) M1
    | _ => False)
  | _ => False) Xi
theorem c_iTup {da : DE} {σ : St} {H : Hp} {R : It → Hp → Prop} (h : cI G (diTup da) σ H R) : iTup G.K (cE G da) σ H R := by
  obtain ⟨dl, M, q, Xi, ok, hd, k, kx⟩ := h
  refine ⟨dl, M, _, Xi, ok, hd, fun v H1 d M1 r1 p1 f1 q1 => ?_, kx⟩
  cases d with
  | tup ds =>
    obtain ⟨a, xs, rfl, ha, ra⟩ := r1
    exact ⟨a, rfl, ⟨xs, ha⟩, k _ H1 ds none M1 (itok_tup ha ra) trivial p1 f1 q1⟩
  | _ => exact q1.elim
theorem c_iLst {da : DE} {σ : St} {H : Hp} {R : It → Hp → Prop} (h : cI G (diLst da) σ H R) : iList G.K (cE G da) σ H R := by
  obtain ⟨dl, M, q, Xi, ok, hd, k, kx⟩ := h
  refine ⟨dl, M, _, Xi, ok, hd, fun v H1 d M1 r1 p1 f1 q1 => ?_, kx⟩
  cases d with
  | ob a =>
    dsimp only at q1
    split at q1
    · rename_i ds em
      cases r1
      obtain ⟨xs, ha, ra⟩ := lst_of p1 em
      exact ⟨a, rfl, ⟨xs, .of ha⟩, k _ H1 ds (some a) M1 itok_lst em p1 f1 q1⟩
    · exact q1.elim
  | _ => exact q1.elim
/-- ranges -/
def rgI (lo c : Int) (n : Nat) : List D := (List.range n).map fun (i : Nat) => D.int (lo + (i : Int) * c)
theorem rgI_len {lo c : Int} {n : Nat} : (rgI lo c n).length = n := by unfold rgI; rw [List.length_map, List.length_range]
theorem rgI_get {lo c : Int} {n i : Nat} (h : i < n) : (rgI lo c n)[i]? = some (.int (lo + (i : Int) * c)) := by
  unfold rgI
  rw [List.getElem?_map, List.getElem?_range h]
  rfl
theorem itok_rng {H0 : Hp} {lo : Int} {n : Nat} : ItOk K H0 (Itr lo n) (rgI lo 1 n) none := by
  refine ⟨fun i H M hi _ _ _ => (show i < n by rw [rgI_len] at hi; exact hi), fun H M _ _ _ => (show n ≤ (rgI lo 1 n).length by rw [rgI_len]; exact Nat.le_refl _), fun i H M x H' hi _ p _ y => ?_⟩
  obtain ⟨e, z⟩ := (show H' = H ∧ x = .int (lo + i) from y)
  subst e z
  rw [rgI_len] at hi
  exact ⟨_, rgI_get hi, by rw [Int.mul_one]; rfl, p, Fr.refl⟩
theorem itok_rngC {H0 : Hp} {lo c : Int} {n : Nat} : ItOk K H0 (Itc lo c n) (rgI lo c n) none := by
  refine ⟨fun i H M hi _ _ _ => (show i < n by rw [rgI_len] at hi; exact hi), fun H M _ _ _ => (show n ≤ (rgI lo c n).length by rw [rgI_len]; exact Nat.le_refl _), fun i H M x H' hi _ p _ y => ?_⟩
  obtain ⟨e, z⟩ := (show H' = H ∧ x = .int (lo + (i : Nat) * c) from y)
  subst e z
  rw [rgI_len] at hi
  exact ⟨_, rgI_get hi, rfl, p, Fr.refl⟩
def diR1 (dr : DA) : DI := fun dl M q Xi => dr dl M (fun ds M1 => match ds with
  | [.int j] => -1000000 ≤ j ∧ j ≤ 1000000 ∧ q (rgI 0 1 j.toNat) none M1
  | _ => False) Xi
def diR2 (dr : DA) : DI := fun dl M q Xi => dr dl M (fun ds M1 => match ds with
  | [.int i, .int j] => -1000000 ≤ i ∧ i ≤ 1000000 ∧ -1000000 ≤ j ∧ j ≤ 1000000 ∧ q (rgI i 1 (j - i).toNat) none M1
  | _ => False) Xi
/-- a range that goes down by one -/
def diR3 (dr : DA) : DI := fun dl M q Xi => dr dl M (fun ds M1 => match ds with
  | [.int i, .int j, .int c] => c = -1 ∧ -1000000 ≤ i ∧ i ≤ 1000000 ∧ -1000000 ≤ j ∧ j ≤ 1000000 ∧ q (rgI i (-1) (i - j).toNat) none M1
  | _ => False) Xi
theorem c_iR1 {dr : DA} {σ : St} {H : Hp} {R : It → Hp → Prop} (h : cI G (diR1 dr) σ H R) : iRng1 (cA G dr) σ H R := by
  obtain ⟨dl, M, q, Xi, ok, hd, k, kx⟩ := h
  refine ⟨dl, M, _, Xi, ok, hd, fun vs H1 ds M1 r1 p1 f1 q1 => ?_, kx⟩
  split at q1
  · rename_i j
    obtain ⟨v, w, rfl, rfl, rfl⟩ := r1
    exact ⟨j, rfl, by omega, by omega, k _ H1 _ none M1 itok_rng trivial p1 f1 q1.2.2⟩
  · exact q1.elim
theorem c_iR2 {dr : DA} {σ : St} {H : Hp} {R : It → Hp → Prop} (h : cI G (diR2 dr) σ H R) : iRng2 (cA G dr) σ H R := by
  obtain ⟨dl, M, q, Xi, ok, hd, k, kx⟩ := h
  refine ⟨dl, M, _, Xi, ok, hd, fun vs H1 ds M1 r1 p1 f1 q1 => ?_, kx⟩
  split at q1
  · rename_i i j
    obtain ⟨v, w, rfl, rfl, v2, w2, rfl, rfl, rfl⟩ := r1
    exact ⟨i, j, rfl, ⟨by omega, by omega, by omega, by omega⟩, k _ H1 _ none M1 itok_rng trivial p1 f1 q1.2.2.2.2⟩
  · exact q1.elim
theorem c_iR3 {dr : DA} {σ : St} {H : Hp} {R : It → Hp → Prop} (h : cI G (diR3 dr) σ H R) : iRng3 (cA G dr) σ H R := by
  obtain ⟨dl, M, q, Xi, ok, hd, k, kx⟩ := h
  refine ⟨dl, M, _, Xi, ok, hd, fun vs H1 ds M1 r1 p1 f1 q1 => ?_, kx⟩
  split at q1
  · rename_i i j c
    obtain ⟨v, w, rfl, rfl, v2, w2, rfl, rfl, v3, w3, rfl, rfl, rfl⟩ := r1
    obtain ⟨rfl, h1, h2, h3, h4, q1⟩ := q1
    exact ⟨i, j, -1, _, rfl, .neg (by omega) (by omega) (by omega) (by omega), k _ H1 _ none M1 itok_rngC trivial p1 f1 q1⟩
  · exact q1.elim
end
end K7
/-! K7, part 5: targets, comprehensions, statements. -/
namespace K7
open PySem PySem.Spec L2
open PyProof.Rows hiding St

/-! ### targets -/
inductive Tg where
  | nm (i : Nat) | tp (is : List Nat)
def setAll : List Nat → List D → Dl → Option Dl
  | [], [], dl => some dl
  | i :: is, d :: ds, dl => setAll is ds (dl.set i (some d))
  | _, _, _ => none
def dSet : Tg → D → Dl → Option Dl
  | .nm i, d, dl => some (dl.set i (some d))
  | .tp is, .tup ds, dl => setAll is ds dl
  | .tp _, _, _ => none
def gNs : List Nat → TGs
  | [] => gNil
  | i :: r => gCons (gName i) (gNs r)
def gOf (K : PySem.W.Frag) : Tg → TG
  | .nm i => gName i
  | .tp is => gTup K is.length (gNs is)
def Tg.slots : Tg → List Nat
  | .nm i => [i]
  | .tp is => is
section
variable {K : PySem.W.Frag} {G : Gh} {H : Hp}
theorem setAll_len : ∀ {is : List Nat} {ds : List D} {dl dl' : Dl}, setAll is ds dl = some dl' → ds.length = is.length
  | [], [], _, _, _ => rfl
  | i :: is, d :: ds, dl, dl', e => by
    have z := setAll_len (is := is) (ds := ds) (dl := dl.set i (some d)) (dl' := dl') e
    rw [List.length_cons, List.length_cons, z]
  | [], _ :: _, _, _, e => nomatch e
  | _ :: _, [], _, _, e => nomatch e
theorem c_gNs {Q : St → Hp → Prop} : ∀ {is : List Nat} {ds : List D} {vs : List V} {dl dl' : Dl} {σ : St}, Sl K H dl σ → Rps K H ds vs → setAll is ds dl = some dl' →
    (∀ σ', Sl K H dl' σ' → (∀ ws : List Nat, (∀ i ∈ is, i ∈ ws) → wipe σ' ws = wipe σ ws) → Q σ' H) → gNs is vs σ H Q
  | [], [], _, dl, dl', σ, s, r, e, k => by
    cases e
    exact ⟨r, k σ s fun _ _ => rfl⟩
  | i :: is, d :: ds, _, dl, dl', σ, s, r, e, k => by
    obtain ⟨v, w, rfl, r1, r2⟩ := r
    refine ⟨v, w, rfl, ?_⟩
    refine c_gNs (s.set i r1) r2 e fun σ' s' hw => k σ' s' fun ws hi => ?_
    rw [hw ws fun j hj => hi j (List.mem_cons_of_mem _ hj)]
    have hm := hi i List.mem_cons_self
    clear hi hw s' r2 r1 e k s
    induction ws with
    | nil => cases hm
    | cons a l ih =>
      unfold wipe
      rcases List.mem_cons.mp hm with q | q
      · subst q
        by_cases hl : i ∈ l
        · rw [ih hl]
        · have z : ∀ (τ : St) (ws : List Nat) (x : Option V), i ∉ ws → wipe (τ.set i x) ws = (wipe τ ws).set i x := by
            intro τ ws x
            induction ws with
            | nil => intro _; rfl
            | cons b m ih2 =>
              intro hn
              unfold wipe
              rw [ih2 fun q => hn (List.mem_cons_of_mem _ q)]
              exact List.set_comm _ _ fun q => hn (by rw [q]; exact List.mem_cons_self)
          rw [z _ _ _ hl, List.set_set]
      · rw [ih q]
  | [], _ :: _, _, _, _, _, _, _, e, _ => nomatch e
  | _ :: _, [], _, _, _, _, _, _, e, _ => nomatch e
theorem c_g {Q : St → Hp → Prop} {t : Tg} {d : D} {v : V} {dl dl' : Dl} {σ : St} (s : Sl K H dl σ) (r : Rp K H d v) (e : dSet t d dl = some dl')
    (k : ∀ σ', Sl K H dl' σ' → (∀ ws : List Nat, (∀ i ∈ t.slots, i ∈ ws) → wipe σ' ws = wipe σ ws) → Q σ' H) : gOf K t v σ H Q := by
  cases t with
  | nm i =>
    cases e
    have z := c_gNs (Q := Q) (is := [i]) (ds := [d]) (vs := [v]) (dl := dl) (dl' := dl.set i (some d)) s (Rps.one r) rfl k
    obtain ⟨v', w, ev, hv⟩ := z
    cases ev
    exact hv.2
  | tp is =>
    cases d with
    | tup ds =>
      obtain ⟨a, xs, rfl, ha, ra⟩ := r
      have e' : setAll is ds dl = some dl' := e
      exact ⟨a, xs, rfl, ha, by rw [ra.length]; exact setAll_len e', c_gNs s ra e' k⟩
    | _ => cases e
def dwipe (dl : Dl) : List Nat → Dl
  | [] => dl
  | v :: vs => (dwipe dl vs).set v none
theorem Sl.wipe {dl : Dl} {σ : St} (s : Sl K H dl σ) : ∀ vs : List Nat, Sl K H (dwipe dl vs) (L2.wipe σ vs)
  | [] => s
  | v :: vs => (Sl.wipe s vs).clear v
theorem wipe_twice (σ : St) : ∀ vs : List Nat, L2.wipe (L2.wipe σ vs) vs = L2.wipe σ vs := by
  intro vs
  have len : ∀ (τ : St) (ws : List Nat), (L2.wipe τ ws).length = τ.length := fun τ ws => wipe_length τ ws
  have get : ∀ (ws : List Nat) (τ : St) (j : Nat), j < τ.length → (L2.wipe τ ws)[j]? = if j ∈ ws then some none else τ[j]? := by
    intro ws
    induction ws with
    | nil => intro τ j _; simp [L2.wipe]
    | cons a l ih =>
      intro τ j hj
      unfold L2.wipe
      by_cases h : a = j
      · subst h
        rw [List.getElem?_set_self (by rw [len]; exact hj), if_pos List.mem_cons_self]
      · rw [List.getElem?_set_ne h, ih τ j hj]
        by_cases h2 : j ∈ l
        · rw [if_pos h2, if_pos (List.mem_cons_of_mem _ h2)]
        · rw [if_neg h2, if_neg fun q => by
            rcases List.mem_cons.mp q with z | z
            · exact h z.symm
            · exact h2 z]
  apply List.ext_getElem?
  intro j
  by_cases hj : j < σ.length
  · rw [get vs (L2.wipe σ vs) j (by rw [len]; exact hj), get vs σ j hj]
    by_cases h : j ∈ vs
    · rw [if_pos h, if_pos h]
    · rw [if_neg h]
  · rw [List.getElem?_eq_none (by rw [len, len]; omega), List.getElem?_eq_none (by rw [len]; omega)]
end

/-! ### comprehensions -/
def FX : XD := fun _ _ _ _ => False
def Gh.no (G : Gh) : Gh := { G with W := fun _ _ _ _ => False }
/-- the loop: the items left, what is made so far -/
def lcGo (t : Tg) (tt : Option DE) (te : DE) (dl : Dl) (items : List D) (src : Option Addr) (q : List D → Mem → Prop) : List D → List D → Mem → Prop
  | [], acc, M => Src M items src ∧ q acc M
  | d :: r, acc, M => Src M items src ∧ match dSet t d dl with
    | none => False
    | some dl1 => match tt with
      | none => te dl1 M (fun y M2 => acc.length < 100000 ∧ lcGo t tt te dl items src q r (acc ++ [y]) M2) FX
      | some tb => dTest tb dl1 M (fun b M1 => if b = true then te dl1 M1 (fun y M2 => acc.length < 100000 ∧ lcGo t tt te dl items src q r (acc ++ [y]) M2) FX else lcGo t tt te dl items src q r acc M1) FX
def dLc (di : DI) (t : Tg) (tt : Option DE) (te : DE) : DE := fun dl M q Xi => di dl M (fun items src M1 => lcGo t tt te (dwipe dl t.slots) items src (fun ds M2 => ∀ p, M2 p = none → q (.ob p) (up M2 p (.lst ds))) items [] M1) Xi
def ttOf (G : Gh) : Option DE → TT
  | none => tYes
  | some tb => cT G.no (dTest tb)
section
variable {K : PySem.W.Frag} {X : Cx} {G : Gh} {σ : St} {H : Hp} {Q : VK}
theorem Rep.takeL {M : Mem} (r : Rep K H M) {p : Addr} {xs : List V} {ds : List D} (h : H p = some (.lst xs)) (m : M p = none) (q : Rps K H ds xs) : Rep K H (up M p (.lst ds)) := by
  have e : upd H p (.lst xs) = H := by
    funext b
    by_cases hb : b = p
    · subst hb
      rw [upd_same, h]
    · rw [upd_ne hb]
  have z := r.put (p := p) (o := .lst xs) (b := .lst ds) (.inl m) (fun u eu => by rw [h] at eu; cases eu; exact fun f => f) trivial ⟨xs, upd_same, by rw [e]; exact q⟩
  rw [e] at z
  exact z
theorem xok_no {H : Hp} {M : Mem} : XOk G.no H M FX := fun _ _ _ _ _ _ _ _ _ _ _ q => q.elim
theorem rep_hid {M : Mem} {p : Addr} {xs ys : List V} (r : Rep K H M) (h : H p = some (.lst xs)) (m : M p = none) : Rep K (upd H p (.lst ys)) M :=
  r.mono (TK.put h fun f => f) fun a ha => upd_ne fun e => ha (by rw [e]; exact m)
theorem c_lc {di : DI} {t : Tg} {tt : Option DE} {te : DE} {vs : List Nat} (hv : vs = t.slots) (h : cE G (dLc di t tt te) σ H Q) : tLc (cI G di) (gOf G.K t) (ttOf G tt) (cE G.no te) vs σ H Q := by
  subst hv
  obtain ⟨dl, M, q, Xi, ok, hd, k, kx⟩ := h
  refine ⟨dl, M, _, Xi, ok, hd, fun J H1 items src M1 jt sr p1 f1 q1 => ?_, kx⟩
  intro D hD
  have s1 : Sl G.K H1 dl σ := ok.sl.mono (f1.tk ok.rp)
  -- between two turns
  refine ⟨fun i m H2 => m = items.length - i ∧ i ≤ items.length ∧ ∃ M2 acc accV, H2 D = some (.lst accV) ∧ Rps G.K H2 acc accV ∧ M2 D = none ∧ Rep G.K H2 M2 ∧ Fr H1 M1 H2 M2 ∧
      lcGo t tt te (dwipe dl t.slots) items src (fun ds M2 => ∀ p, M2 p = none → q (.ob p) (up M2 p (.lst ds))) (items.drop i) acc M2, ⟨items.length, ?_⟩, ?_⟩
  · refine ⟨by omega, Nat.zero_le _, M1, [], [], upd_same, rfl, p1.fresh hD, p1.new hD, .new hD, ?_⟩
    rw [List.drop_zero]
    exact q1
  · rintro i m H2 ⟨rfl, hi, M2, acc, accV, eD, ra, mD, p2, f2, g2⟩
    have tk2 : TK H1 H2 := f2.tk p1
    by_cases hlt : i < items.length
    · have ed : items.drop i = items[i] :: items.drop (i + 1) := List.drop_eq_getElem_cons hlt
      rw [ed] at g2
      obtain ⟨sr2, g2⟩ := g2
      refine .inr ⟨jt.go i H2 M2 hlt tk2 p2 sr2, fun H' => i + 1 ≤ items.length ∧ ∃ M2 acc accV, H' D = some (.lst accV) ∧ Rps G.K H' acc accV ∧ M2 D = none ∧ Rep G.K H' M2 ∧ Fr H1 M1 H' M2 ∧
          lcGo t tt te (dwipe dl t.slots) items src (fun ds M2 => ∀ p, M2 p = none → q (.ob p) (up M2 p (.lst ds))) (items.drop (i + 1)) acc M2, fun H' z => ⟨items.length - (i + 1), by omega, rfl, z.1, z.2⟩, fun x H' y => ?_⟩
      obtain ⟨d, hdi, rd, p3, f3⟩ := jt.yld i H2 M2 x H' hlt tk2 p2 sr2 y
      have e0 : items[i] = d := by
        rw [List.getElem?_eq_getElem hlt] at hdi
        exact Option.some.inj hdi
      rw [e0] at g2
      cases es : dSet t d (dwipe dl t.slots) with
      | none => rw [es] at g2; exact g2.elim
      | some dl1 =>
        rw [es] at g2
        dsimp only at g2
        have s3 : Sl G.K H' (dwipe dl t.slots) (L2.wipe σ t.slots) := ((s1.mono tk2).mono (f3.tk p2)).wipe _
        refine c_g s3 rd es fun σ2 s4 hw => ⟨?_, ?_⟩
        · rw [hw _ fun j hj => hj]
          exact wipe_twice _ _
        have eD3 : H' D = some (.lst accV) := f3.keep D _ eD mD
        have ra3 : Rps G.K H' acc accV := ra.mono (f3.tk p2)
        -- an element is put behind
        have elt : ∀ H4 M4, Rep G.K H4 M4 → Fr H' M2 H4 M4 → te dl1 M4 (fun y M5 => acc.length < 100000 ∧ lcGo t tt te (dwipe dl t.slots) items src (fun ds M2 => ∀ p, M2 p = none → q (.ob p) (up M2 p (.lst ds))) (items.drop (i + 1)) (acc ++ [y]) M5) FX →
            cE G.no te σ2 H4 fun y H5 => ∃ a, H5 D = some (.lst a) ∧ a.length < sizeLine ∧ (i + 1 ≤ items.length ∧ ∃ M2 acc accV, upd H5 D (.lst (a ++ [y])) D = some (.lst accV) ∧ Rps G.K (upd H5 D (.lst (a ++ [y]))) acc accV ∧ M2 D = none ∧ Rep G.K (upd H5 D (.lst (a ++ [y]))) M2 ∧ Fr H1 M1 (upd H5 D (.lst (a ++ [y]))) M2 ∧
              lcGo t tt te (dwipe dl t.slots) items src (fun ds M2 => ∀ p, M2 p = none → q (.ob p) (up M2 p (.lst ds))) (items.drop (i + 1)) acc M2) := by
          intro H4 M4 p4 f4 hte
          refine ⟨dl1, M4, _, FX, ⟨s4.mono (f4.tk p3), p4⟩, hte, fun v H5 d5 M5 r5 p5 f5 ⟨hz, q5⟩ => ?_, xok_no⟩
          have e4 : H4 D = some (.lst accV) := f4.keep D _ eD3 mD
          have m4 : M4 D = none := f4.dom D _ eD3 mD
          have e5 : H5 D = some (.lst accV) := f5.keep D _ e4 m4
          have m5 : M5 D = none := f5.dom D _ e4 m4
          have tk5 : TK H5 (upd H5 D (.lst (accV ++ [v]))) := TK.put e5 fun f => f
          refine ⟨accV, e5, by rw [ra.length]; exact sz_lt hz, hlt, M5, acc ++ [d5], accV ++ [v], upd_same, ?_, m5, rep_hid p5 e5 m5, ?_, q5⟩
          · exact (((ra3.mono (f4.tk p3)).mono (f5.tk p4)).append (Rps.one r5)).mono tk5
          · have ff : Fr H1 M1 H5 M5 := ((f2.trans f3).trans f4).trans f5
            refine ⟨fun a o ea ma => ?_, ff.dom⟩
            rw [upd_ne fun z => by subst z; rw [hD] at ea; cases ea]
            exact ff.keep a o ea ma
        cases tt with
        | none =>
          unfold ttOf tYes
          dsimp only
          rw [if_pos rfl]
          exact elt H' M2 p3 Fr.refl g2
        | some tb =>
          refine ⟨dl1, M2, _, FX, ⟨s4, p3⟩, g2, fun b H4 M4 p4 f4 q4 => ?_, xok_no⟩
          cases b with
          | true =>
            rw [if_pos rfl]
            rw [if_pos rfl] at q4
            exact elt H4 M4 p4 f4 q4
          | false =>
            rw [if_neg Bool.false_ne_true]
            rw [if_neg Bool.false_ne_true] at q4
            exact ⟨hlt, M4, acc, accV, f4.keep D _ eD3 mD, ra3.mono (f4.tk p3), f4.dom D _ eD3 mD, p4, (f2.trans f3).trans f4, q4⟩
    · have e : i = items.length := by omega
      subst e
      rw [List.drop_length] at g2
      obtain ⟨sr2, g2⟩ := g2
      refine .inl ⟨jt.stop H2 M2 tk2 p2 sr2, ?_⟩
      refine k _ H2 (.ob D) _ rfl (p2.takeL eD mD ra) ⟨fun a o ea ma => (f1.trans f2).keep a o ea ma, fun a o ea ma => ?_⟩ (g2 D mD)
      have ne : a ≠ D := fun z => by
        subst z
        have z1 := f1.keep a o ea ma
        rw [hD] at z1
        cases z1
      rw [up_ne ne]
      exact (f1.trans f2).dom a o ea ma
end

/-! ### statements -/
def cS (G : Gh) (ds : DS) : TS := fun E σ H => ∃ N dl M Xi, Ok G H M dl σ ∧ ds N dl M Xi ∧ (∀ σ' H' dl' M', Ok G H' M' dl' σ' → Fr H M H' M' → N.nx dl' M' → E.nx σ' H') ∧
  (∀ v H' d M', Rp G.K H' d v → Rep G.K H' M' → Fr H M H' M' → N.rt d M' → E.rt v H') ∧ (∀ σ' H' dl' M', Ok G H' M' dl' σ' → Fr H M H' M' → N.bk dl' M' → E.bk σ' H') ∧ XOk G H M Xi
def dNext : DS := fun N dl M _ => N.nx dl M
def dBrk : DS := fun N dl M _ => N.bk dl M
def dNev : DS := fun _ _ _ _ => False
def dSeq (a b : DS) : DS := fun N dl M Xi => a { N with nx := fun dl' M' => b N dl' M' Xi } dl M Xi
def dAsg (de : DE) (t : Tg) : DS := fun N dl M Xi => de dl M (fun d M1 => match dSet t d dl with
  | some dl' => N.nx dl' M1
  | none => False) Xi
def dPar (i j : Nat) (dr : DA) : DS := fun N dl M Xi => dr dl M (fun ds M1 => match ds with
  | [a, b] => N.nx ((dl.set i (some a)).set j (some b)) M1
  | _ => False) Xi
def dDrop (de : DE) : DS := fun N dl M Xi => de dl M (fun _ M1 => N.nx dl M1) Xi
def dRet (de : DE) : DS := fun N dl M Xi => de dl M N.rt Xi
def dIfS (dc : DE) (a b : DS) : DS := fun N dl M Xi => dc dl M (fun d M1 => match d with
  | .bl true => a N dl M1 Xi
  | .bl false => b N dl M1 Xi
  | _ => False) Xi
def dPutL (dv d1 d2 : DE) : DS := fun N dl M Xi => dv dl M (fun v M1 => d1 dl M1 (fun o M2 => d2 dl M2 (fun i M3 => match o, i with
  | .ob a, .int k => (match M3 a with
    | some (.lst ds) => (match ixN ds.length k with
      | some j => N.nx dl (up M3 a (.lst (ds.set j v)))
      | none => False)
    | _ => False)
  | _, _ => False) Xi) Xi) Xi
def dpt : List (Str × D) → Str → D → List (Str × D)
  | [], s, d => [(s, d)]
  | p :: r, s, d => if p.1 = s then (s, d) :: r else p :: dpt r s d
def dPutD (dv d1 d2 : DE) : DS := fun N dl M Xi => dv dl M (fun v M1 => d1 dl M1 (fun o M2 => d2 dl M2 (fun i M3 => match o, i with
  | .ob a, .str k => (match M3 a with
    | some (.dct kvs) => kvs.length < 1000 ∧ (kvs.map (·.1)).Nodup ∧ N.nx dl (up M3 a (.dct (dpt kvs k v)))
    | _ => False)
  | _, _ => False) Xi) Xi) Xi
theorem dpt_cons (p : Str × D) (r : List (Str × D)) (s : Str) (d : D) : dpt (p :: r) s d = if p.1 = s then (s, d) :: r else p :: dpt r s d := rfl
def forGo (t : Tg) (body : DS) (items : List D) (src : Option Addr) (N : DN) (Xi : XD) : List D → Dl → Mem → Prop
  | [], dl, M => Src M items src ∧ N.nx dl M
  | d :: r, dl, M => Src M items src ∧ match dSet t d dl with
    | some dl1 => body { nx := fun dl2 M2 => forGo t body items src N Xi r dl2 M2, rt := N.rt, bk := N.nx } dl1 M Xi
    | none => False
def dFor (di : DI) (t : Tg) (body : DS) : DS := fun N dl M Xi => di dl M (fun items src M1 => forGo t body items src N Xi items dl M1) Xi
def whGo (tst : DE) (body : DS) (N : DN) (Xi : XD) : Nat → Dl → Mem → Prop
  | 0, _, _ => False
  | n + 1, dl, M => tst dl M (fun d M1 => match d with
    | .bl true => body { nx := fun dl2 M2 => whGo tst body N Xi n dl2 M2, rt := N.rt, bk := N.nx } dl M1 Xi
    | .bl false => N.nx dl M1
    | _ => False) Xi
def dWhile (tst : DE) (body : DS) : DS := fun N dl M Xi => ∃ n, whGo tst body N Xi n dl M
theorem test_of {da : DE} {dl : Dl} {M : Mem} {Xi : XD} (A B : Mem → Prop) (h : da dl M (fun d M1 => match d with
    | .bl true => A M1
    | .bl false => B M1
    | _ => False) Xi) : dTest da dl M (fun b M1 => if b = true then A M1 else B M1) Xi := by
  unfold dTest
  have e : (fun (d : D) (M1 : Mem) => match d with
      | .bl b => if b = true then A M1 else B M1
      | _ => False) = (fun (d : D) (M1 : Mem) => match d with
      | .bl true => A M1
      | .bl false => B M1
      | _ => False) := by
    funext d M1
    cases d with
    | bl c => cases c <;> simp
    | _ => rfl
  exact (congrArg (fun f => da dl M f Xi) e).mpr h
section
variable {X : Cx} {G : Gh} {σ : St} {H : Hp} {E : Ends}
theorem c_next (h : cS G dNext E σ H) : tNext E σ H := by
  obtain ⟨N, dl, M, Xi, ok, hd, k1, _⟩ := h
  exact k1 σ H dl M ok Fr.refl hd
theorem c_brk (h : cS G dBrk E σ H) : tBreak E σ H := by
  obtain ⟨N, dl, M, Xi, ok, hd, _, _, k3, _⟩ := h
  exact k3 σ H dl M ok Fr.refl hd
theorem c_nev (h : cS G dNev E σ H) : tNever E σ H := by
  obtain ⟨N, dl, M, Xi, ok, hd, _⟩ := h
  exact hd
theorem c_seq {a b : DS} (h : cS G (dSeq a b) E σ H) : tSeq (cS G a) (cS G b) E σ H := by
  obtain ⟨N, dl, M, Xi, ok, hd, k1, k2, k3, kx⟩ := h
  refine ⟨_, dl, M, Xi, ok, hd, fun σ1 H1 dl1 M1 ok1 f1 q1 => ?_, k2, k3, kx⟩
  exact ⟨N, dl1, M1, Xi, ok1, q1, fun σ2 H2 dl2 M2 ok2 f2 q2 => k1 σ2 H2 dl2 M2 ok2 (f1.trans f2) q2, fun v H2 d M2 r2 p2 f2 q2 => k2 v H2 d M2 r2 p2 (f1.trans f2) q2, fun σ2 H2 dl2 M2 ok2 f2 q2 => k3 σ2 H2 dl2 M2 ok2 (f1.trans f2) q2, kx.next f1⟩
theorem c_asg {de : DE} {t : Tg} (h : cS G (dAsg de t) E σ H) : tAsg (cE G de) (gOf G.K t) E σ H := by
  obtain ⟨N, dl, M, Xi, ok, hd, k1, k2, k3, kx⟩ := h
  refine ⟨dl, M, _, Xi, ok, hd, fun v H1 d M1 r1 p1 f1 q1 => ?_, kx⟩
  have o1 := ok.next p1 f1
  cases es : dSet t d dl with
  | none => rw [es] at q1; exact q1.elim
  | some dl' =>
    rw [es] at q1
    exact c_g o1.sl r1 es fun σ' s' _ => k1 σ' H1 dl' M1 ⟨s', p1⟩ f1 q1
theorem c_par {i j : Nat} {dr : DA} (h : cS G (dPar i j dr) E σ H) : tPar i j (cA G dr) E σ H := by
  obtain ⟨N, dl, M, Xi, ok, hd, k1, k2, k3, kx⟩ := h
  refine ⟨dl, M, _, Xi, ok, hd, fun vs H1 ds M1 r1 p1 f1 q1 => ?_, kx⟩
  have o1 := ok.next p1 f1
  split at q1
  · rename_i a b
    obtain ⟨v, w, rfl, ra, v2, w2, rfl, rb, rfl⟩ := r1
    exact ⟨v, v2, rfl, k1 _ H1 _ M1 ⟨(o1.sl.set i ra).set j rb, p1⟩ f1 q1⟩
  · exact q1.elim
theorem c_drop {de : DE} (h : cS G (dDrop de) E σ H) : tDrop (cE G de) E σ H := by
  obtain ⟨N, dl, M, Xi, ok, hd, k1, k2, k3, kx⟩ := h
  exact ⟨dl, M, _, Xi, ok, hd, fun v H1 d M1 r1 p1 f1 q1 => k1 σ H1 dl M1 (ok.next p1 f1) f1 q1, kx⟩
theorem c_ret {de : DE} (h : cS G (dRet de) E σ H) : tRet (cE G de) E σ H := by
  obtain ⟨N, dl, M, Xi, ok, hd, k1, k2, k3, kx⟩ := h
  exact ⟨dl, M, _, Xi, ok, hd, k2, kx⟩
theorem c_ifS {dc : DE} {a b : DS} (h : cS G (dIfS dc a b) E σ H) : tIfS (cT G (dTest dc)) (cS G a) (cS G b) E σ H := by
  obtain ⟨N, dl, M, Xi, ok, hd, k1, k2, k3, kx⟩ := h
  refine ⟨dl, M, fun c M1 => if c = true then a N dl M1 Xi else b N dl M1 Xi, Xi, ok, test_of (fun M1 => a N dl M1 Xi) (fun M1 => b N dl M1 Xi) hd, fun c H1 M1 p1 f1 q1 => ?_, kx⟩
  · have ok1 := ok.next p1 f1
    cases c with
    | true =>
      show (if true = true then _ else _)
      rw [if_pos rfl] at q1 ⊢
      exact ⟨N, dl, M1, Xi, ok1, q1, fun σ2 H2 dl2 M2 ok2 f2 q2 => k1 σ2 H2 dl2 M2 ok2 (f1.trans f2) q2, fun v H2 d M2 r2 p2 f2 q2 => k2 v H2 d M2 r2 p2 (f1.trans f2) q2, fun σ2 H2 dl2 M2 ok2 f2 q2 => k3 σ2 H2 dl2 M2 ok2 (f1.trans f2) q2, kx.next f1⟩
    | false =>
      show (if false = true then _ else _)
      rw [if_neg Bool.false_ne_true] at q1 ⊢
      exact ⟨N, dl, M1, Xi, ok1, q1, fun σ2 H2 dl2 M2 ok2 f2 q2 => k1 σ2 H2 dl2 M2 ok2 (f1.trans f2) q2, fun v H2 d M2 r2 p2 f2 q2 => k2 v H2 d M2 r2 p2 (f1.trans f2) q2, fun σ2 H2 dl2 M2 ok2 f2 q2 => k3 σ2 H2 dl2 M2 ok2 (f1.trans f2) q2, kx.next f1⟩
theorem c_putL {dv d1 d2 : DE} (h : cS G (dPutL dv d1 d2) E σ H) : tAsg (cE G dv) (gSub (cE G d1) (cE G d2) rSetL) E σ H := by
  obtain ⟨N, dl, M, Xi, ok, hd, k1, k2, k3, kx⟩ := h
  refine ⟨dl, M, _, Xi, ok, hd, fun v H1 d M1 r1 p1 f1 q1 => ?_, kx⟩
  refine ⟨dl, M1, _, Xi, ok.next p1 f1, q1, fun o H2 do_ M2 r2 p2 f2 q2 => ?_, kx.next f1⟩
  refine ⟨dl, M2, _, Xi, (ok.next p1 f1).next p2 f2, q2, fun i H3 di M3 r3 p3 f3 q3 => ?_, (kx.next f1).next f2⟩
  have o3 := ((ok.next p1 f1).next p2 f2).next p3 f3
  split at q3
  · rename_i a kk
    split at q3
    · rename_i ds em
      split at q3
      · rename_i j ej
        obtain ⟨xs, hx, rx⟩ := lst_of p3 em
        cases r3
        cases r2
        refine ⟨a, xs, kk, j, rfl, rfl, hx, by rw [rx.length]; exact ej, ?_⟩
        have rv := (r1.mono (f2.tk p1)).mono (f3.tk p2)
        have fp : Fr H3 M3 (upd H3 a (.lst (xs.set j v))) (up M3 a (.lst (ds.set j d))) := .put (.inl (by rw [em]; exact fun z => nomatch z))
        exact k1 σ _ dl _ (o3.next (p3.putL em (rx.set j rv)) fp) (((f1.trans f2).trans f3).trans fp) q3
      · exact q3.elim
    · exact q3.elim
  · exact q3.elim
theorem dpt_keys : ∀ (kvs : List (Str × D)) (s : Str) (d : D), ∀ x ∈ (dpt kvs s d).map (·.1), x ∈ kvs.map (·.1) ∨ x = s
  | [], s, d, x, h => .inr (by simpa [dpt] using h)
  | p :: r, s, d, x, h => by
    unfold dpt at h
    split at h
    · rename_i e
      rw [List.map_cons] at h ⊢
      rcases List.mem_cons.mp h with z | z
      · exact .inr z
      · exact .inl (List.mem_cons_of_mem _ z)
    · rw [List.map_cons] at h ⊢
      rcases List.mem_cons.mp h with z | z
      · exact .inl (by rw [z]; exact List.mem_cons_self)
      · rcases dpt_keys r s d x z with q | q
        · exact .inl (List.mem_cons_of_mem _ q)
        · exact .inr q
theorem any_dk (s : Str) : ∀ (kvs : List (Str × D)) (ws : List V), ws.length = kvs.length → ((dkOf (kvs.map (·.1)) ws).any fun kv => decide (kv.1 = Sum.inr s)) = kvs.any fun kv => decide (kv.1 = s)
  | [], [], _ => rfl
  | p :: r, w :: ws, h => by
    rw [List.map_cons, dkOf_cons, List.any_cons, List.any_cons, any_dk s r ws (by simpa using h)]
    congr 1
    exact decide_eq_decide.mpr ⟨fun e => Sum.inr.inj e, fun e => by rw [e]⟩
theorem dpt_put {K : PySem.W.Frag} {H : Hp} {s : Str} {d : D} {v : V} (rv : Rp K H d v) : ∀ {kvs : List (Str × D)} {ws : List V}, (kvs.map (·.1)).Nodup → Rps K H (kvs.map (·.2)) ws →
    ∃ ws', putK (dkOf (kvs.map (·.1)) ws) (Sum.inr s) v = dkOf ((dpt kvs s d).map (·.1)) ws' ∧ Rps K H ((dpt kvs s d).map (·.2)) ws' := by
  intro kvs ws nd r
  have lw : ws.length = kvs.length := by have := r.length; rw [List.length_map] at this; exact this
  unfold putK
  have ea := any_dk s kvs ws lw
  have key : ∀ (kvs : List (Str × D)) (ws : List V), (kvs.map (·.1)).Nodup → Rps K H (kvs.map (·.2)) ws →
      (kvs.any (fun kv => decide (kv.1 = s)) = true → ∃ ws', (dkOf (kvs.map (·.1)) ws).map (fun kv => if kv.1 = Sum.inr s then (kv.1, v) else kv) = dkOf ((dpt kvs s d).map (·.1)) ws' ∧ Rps K H ((dpt kvs s d).map (·.2)) ws') ∧
      (kvs.any (fun kv => decide (kv.1 = s)) = false → ∃ ws', dkOf (kvs.map (·.1)) ws ++ [(Sum.inr s, v)] = dkOf ((dpt kvs s d).map (·.1)) ws' ∧ Rps K H ((dpt kvs s d).map (·.2)) ws') := by
    intro kvs
    induction kvs with
    | nil =>
      intro ws _ r
      have e : ws = [] := r
      subst e
      exact ⟨fun h => (nomatch h), fun _ => ⟨[v], rfl, Rps.one rv⟩⟩
    | cons p l ih =>
      intro ws nd r
      obtain ⟨w, ws2, rfl, r1, r2⟩ := r
      rw [List.map_cons, List.nodup_cons] at nd
      obtain ⟨i1, i2⟩ := ih ws2 nd.2 r2
      by_cases hp : p.1 = s
      · have stay : ∀ (l : List (Str × D)) (us : List V), s ∉ l.map (·.1) → (dkOf (l.map (·.1)) us).map (fun kv => if kv.1 = Sum.inr s then (kv.1, v) else kv) = dkOf (l.map (·.1)) us := by
          intro l
          induction l with
          | nil => intro us _; cases us <;> rfl
          | cons z m ihm =>
            intro us hn
            cases us with
            | nil => rfl
            | cons u us =>
              rw [List.map_cons, dkOf_cons, List.map_cons, ihm us fun q => hn (List.mem_cons_of_mem _ q), if_neg fun q => hn (by rw [← Sum.inr.inj q]; exact List.mem_cons_self)]
        refine ⟨fun _ => ⟨v :: ws2, ?_, ?_⟩, fun h => ?_⟩
        · rw [List.map_cons, dkOf_cons, List.map_cons, if_pos (by rw [hp]), stay l ws2 (by rw [← hp]; exact nd.1)]
          rw [dpt_cons, if_pos hp, List.map_cons, dkOf_cons, hp]
        · rw [dpt_cons, if_pos hp]
          exact ⟨v, ws2, rfl, rv, r2⟩
        · rw [List.any_cons, decide_eq_true hp, Bool.true_or] at h
          cases h
      · refine ⟨fun h => ?_, fun h => ?_⟩
        · rw [List.any_cons, decide_eq_false hp, Bool.false_or] at h
          obtain ⟨ws', e1, e2⟩ := i1 h
          refine ⟨w :: ws', ?_, ?_⟩
          · rw [List.map_cons, dkOf_cons, List.map_cons, if_neg fun q => hp (Sum.inr.inj q), e1]
            rw [dpt_cons, if_neg hp, List.map_cons, dkOf_cons]
          · rw [dpt_cons, if_neg hp]
            exact ⟨w, ws', rfl, r1, e2⟩
        · rw [List.any_cons, decide_eq_false hp, Bool.false_or] at h
          obtain ⟨ws', e1, e2⟩ := i2 h
          refine ⟨w :: ws', ?_, ?_⟩
          · rw [List.map_cons, dkOf_cons, List.cons_append, e1]
            rw [dpt_cons, if_neg hp, List.map_cons, dkOf_cons]
          · rw [dpt_cons, if_neg hp]
            exact ⟨w, ws', rfl, r1, e2⟩
  obtain ⟨k1, k2⟩ := key kvs ws nd r
  split
  · rename_i h
    rw [ea] at h
    exact k1 h
  · rename_i h
    rw [ea] at h
    exact k2 (Bool.eq_false_iff.mpr h)
theorem c_putD {dv d1 d2 : DE} (h : cS G (dPutD dv d1 d2) E σ H) : sDPut (cE G d1) (cE G d2) (cE G dv) E σ H := by
  obtain ⟨N, dl, M, Xi, ok, hd, k1, k2, k3, kx⟩ := h
  refine ⟨dl, M, _, Xi, ok, hd, fun v H1 d M1 r1 p1 f1 q1 => ?_, kx⟩
  refine ⟨dl, M1, _, Xi, ok.next p1 f1, q1, fun o H2 do_ M2 r2 p2 f2 q2 => ?_, kx.next f1⟩
  refine ⟨dl, M2, _, Xi, (ok.next p1 f1).next p2 f2, q2, fun i H3 di M3 r3 p3 f3 q3 => ?_, (kx.next f1).next f2⟩
  have o3 := ((ok.next p1 f1).next p2 f2).next p3 f3
  split at q3
  · rename_i a kk
    split at q3
    · rename_i kvs em
      obtain ⟨hl, nd, q3⟩ := q3
      obtain ⟨ws, hx, rx⟩ := (show ∃ ws, H3 a = some (.dK (dkOf (kvs.map (·.1)) ws)) ∧ Rps G.K H3 (kvs.map (·.2)) ws from p3 a _ em)
      cases r3
      cases r2
      have rv := (r1.mono (f2.tk p1)).mono (f3.tk p2)
      obtain ⟨ws', e1, e2⟩ := dpt_put (s := kk) rv nd rx
      refine ⟨a, _, rfl, DPut.k (k := Sum.inr kk) hx ?_, ?_⟩
      · have z := rx.length
        rw [List.length_map] at z
        have z2 := congrArg List.length (dkOf_keys (kvs.map (·.1)) ws (by rw [List.length_map, z]))
        rw [List.length_map, List.length_map, List.length_map] at z2
        rw [z2]
        exact sz_lt (by omega)
      · rw [e1]
        have fp : Fr H3 M3 (upd H3 a (.dK (dkOf ((dpt kvs kk d).map (·.1)) ws'))) (up M3 a (.dct (dpt kvs kk d))) := .put (.inl (by rw [em]; exact fun z => nomatch z))
        exact k1 σ _ dl _ (o3.next (p3.putD em e2) fp) (((f1.trans f2).trans f3).trans fp) q3
    · exact q3.elim
  · exact q3.elim
theorem c_for {di : DI} {t : Tg} {body : DS} (h : cS G (dFor di t body) E σ H) : tFor (cI G di) (gOf G.K t) (cS G body) E σ H := by
  obtain ⟨N, dl, M, Xi, ok, hd, k1, k2, k3, kx⟩ := h
  refine ⟨dl, M, _, Xi, ok, hd, fun J H1 items src M1 jt sr p1 f1 q1 => ?_, kx⟩
  refine ⟨fun i m σ2 H2 => m = items.length - i ∧ i ≤ items.length ∧ ∃ dl2 M2, Ok G H2 M2 dl2 σ2 ∧ Fr H1 M1 H2 M2 ∧ forGo t body items src N Xi (items.drop i) dl2 M2, ⟨items.length, ?_⟩, ?_⟩
  · refine ⟨by omega, Nat.zero_le _, dl, M1, ok.next p1 f1, Fr.refl, ?_⟩
    rw [List.drop_zero]
    exact q1
  · rintro i m σ2 H2 ⟨rfl, hi, dl2, M2, ok2, f2, g2⟩
    have tk2 : TK H1 H2 := f2.tk p1
    by_cases hlt : i < items.length
    · have ed : items.drop i = items[i] :: items.drop (i + 1) := List.drop_eq_getElem_cons hlt
      rw [ed] at g2
      obtain ⟨sr2, g2⟩ := g2
      refine .inr ⟨jt.go i H2 M2 hlt tk2 ok2.rp sr2, fun σ' H' => ∃ dl2 M2, Ok G H' M2 dl2 σ' ∧ Fr H1 M1 H' M2 ∧ forGo t body items src N Xi (items.drop (i + 1)) dl2 M2, fun σ' H' z => ⟨items.length - (i + 1), by omega, rfl, hlt, z⟩, fun x H' y => ?_⟩
      obtain ⟨d, hdi, rd, p3, f3⟩ := jt.yld i H2 M2 x H' hlt tk2 ok2.rp sr2 y
      have e0 : items[i] = d := by
        rw [List.getElem?_eq_getElem hlt] at hdi
        exact Option.some.inj hdi
      rw [e0] at g2
      cases es : dSet t d dl2 with
      | none => rw [es] at g2; exact g2.elim
      | some dl3 =>
        rw [es] at g2
        have o3 := ok2.next p3 f3
        refine c_g o3.sl rd es fun σ3 s3 _ => ?_
        refine ⟨_, dl3, M2, Xi, ⟨s3, p3⟩, g2, fun σ4 H4 dl4 M4 ok4 f4 q4 => ⟨dl4, M4, ok4, (f2.trans f3).trans f4, q4⟩, fun v H4 d4 M4 r4 p4 f4 q4 => k2 v H4 d4 M4 r4 p4 (((f1.trans f2).trans f3).trans f4) q4,
          fun σ4 H4 dl4 M4 ok4 f4 q4 => k1 σ4 H4 dl4 M4 ok4 (((f1.trans f2).trans f3).trans f4) q4, kx.next ((f1.trans f2).trans f3)⟩
    · have e : i = items.length := by omega
      subst e
      rw [List.drop_length] at g2
      obtain ⟨sr2, g2⟩ := g2
      exact .inl ⟨jt.stop H2 M2 tk2 ok2.rp sr2, k1 σ2 H2 dl2 M2 ok2 (f1.trans f2) g2⟩
theorem c_while {tst : DE} {body : DS} (h : cS G (dWhile tst body) E σ H) : tWhile (cT G (dTest tst)) (cS G body) E σ H := by
  obtain ⟨N, dl, M, Xi, ok, ⟨n, hd⟩, k1, k2, k3, kx⟩ := h
  refine ⟨fun m σ2 H2 => ∃ dl2 M2, Ok G H2 M2 dl2 σ2 ∧ Fr H M H2 M2 ∧ whGo tst body N Xi m dl2 M2, ⟨n, dl, M, ok, Fr.refl, hd⟩, ?_⟩
  rintro m σ2 H2 ⟨dl2, M2, ok2, f2, g2⟩
  cases m with
  | zero => exact g2.elim
  | succ m =>
    refine ⟨dl2, M2, fun c M3 => if c = true then body { nx := fun dl2 M2 => whGo tst body N Xi m dl2 M2, rt := N.rt, bk := N.nx } dl2 M3 Xi else N.nx dl2 M3, Xi, ok2,
      test_of (fun M3 => body { nx := fun dl2 M2 => whGo tst body N Xi m dl2 M2, rt := N.rt, bk := N.nx } dl2 M3 Xi) (fun M3 => N.nx dl2 M3) g2, fun c H3 M3 p3 f3 q3 => ?_, kx.next f2⟩
    · have ok3 := ok2.next p3 f3
      cases c with
      | true =>
        show (if true = true then _ else _)
        rw [if_pos rfl] at q3 ⊢
        refine ⟨fun σ' H' => ∃ dl2 M2, Ok G H' M2 dl2 σ' ∧ Fr H M H' M2 ∧ whGo tst body N Xi m dl2 M2, fun σ' H' z => ⟨m, Nat.lt_succ_self m, z⟩, ?_⟩
        exact ⟨_, dl2, M3, Xi, ok3, q3, fun σ4 H4 dl4 M4 ok4 f4 q4 => ⟨dl4, M4, ok4, (f2.trans f3).trans f4, q4⟩, fun v H4 d4 M4 r4 p4 f4 q4 => k2 v H4 d4 M4 r4 p4 ((f2.trans f3).trans f4) q4,
          fun σ4 H4 dl4 M4 ok4 f4 q4 => k1 σ4 H4 dl4 M4 ok4 ((f2.trans f3).trans f4) q4, kx.next (f2.trans f3)⟩
      | false =>
        show (if false = true then _ else _)
        rw [if_neg Bool.false_ne_true] at q3 ⊢
        exact k1 σ2 H3 dl2 M3 ok3 (f2.trans f3) q3
end
end K7
/-! K7, rules that the layer lacks: tuple[::-1], extend with a tuple, == of tuples by their lengths, enumerate(tuple), a long tuple times a number, what is walked by its kind. -/
namespace K7
open PySem PySem.Spec L2
open PyProof.Rows hiding St

theorem filterMap_on {α β : Type} {f g : α → Option β} : ∀ {l : List α}, (∀ x ∈ l, f x = g x) → l.filterMap f = l.filterMap g
  | [], _ => rfl
  | a :: r, h => by
    rw [List.filterMap_cons, List.filterMap_cons, h a List.mem_cons_self, filterMap_on fun x hx => h x (List.mem_cons_of_mem _ hx)]
theorem rev_pick {α : Type} : ∀ (xs : List α), (List.range xs.length).filterMap (fun (k : Nat) => xs[((xs.length : Int) - 1 + (k : Int) * -1).toNat]?) = xs.reverse
  | [] => rfl
  | a :: r => by
    rw [List.length_cons, List.range_succ, List.filterMap_append, List.reverse_cons, ← rev_pick r]
    congr 1
    · refine filterMap_on fun k hk => ?_
      have hk' := List.mem_range.mp hk
      have e : (((r.length + 1 : Nat) : Int) - 1 + (k : Int) * -1).toNat = ((r.length : Int) - 1 + (k : Int) * -1).toNat + 1 := by omega
      rw [e, List.getElem?_cons_succ]
    · have e : (((r.length + 1 : Nat) : Int) - 1 + ((r.length : Nat) : Int) * -1).toNat = 0 := by omega
      rw [List.filterMap_cons, e]
      rfl
section
variable {prog : Program} {w : World} {A : Around} {E : Value → Shared → Prop} {s : Shared}
theorem sliceApplied_back {sl : Addr} {vl vu vs : Value} {n : Nat} {Q : Int × Int × Nat → Shared → Prop} (hs : s.heap.IsSliceOf sl vl vu vs) (pl : IsPart vl none) (pu : IsPart vu none) (ps : IsPart vs (some (-1)))
    (h : Q ((n : Int) - 1, -1, n) s) : wpAny (model prog w) A (Builtin.Slice.sliceApplied (.ref sl) (pure (n : Int))) Q E s := by
  obtain ⟨os, hos, hcs, hds⟩ := id hs
  unfold Builtin.Slice.sliceApplied Builtin.Slice.sliceFields
  refine wpAny_bind (wpAny_bind (wpAny_field hos hds (x := vl) rfl (wpAny_bind (wpAny_field hos hds (x := vu) rfl (wpAny_bind (wpAny_field hos hds (x := vs) rfl (wpAny_pure ?_)))))))
  refine wpAny_bind (HT.slicePart_ ps ?_)
  show wpAny _ _ (if ((-1 : Int) == 0) = true then _ else _) _ _ s
  rw [if_neg (by decide)]
  refine wpAny_bind (HT.slicePart_ pl (wpAny_bind (HT.slicePart_ pu (wpAny_bind (wpAny_pure ?_)))))
  have e : Builtin.Slice.slicePlaces ((n : Int) - 1) (-1) (-1) = n := by
    unfold Builtin.Slice.slicePlaces
    rw [if_neg (by decide)]
    by_cases hn : n = 0
    · subst hn
      rw [if_neg (by omega)]
      rfl
    · rw [if_pos (by omega)]
      have e1 : ((n : Int) - 1 - -1 - 1) / - -1 = (n : Int) - 1 := by
        have e2 : (- -1 : Int) = 1 := rfl
        rw [e2, Int.ediv_one]
        omega
      rw [e1]
      omega
  show wpAny _ _ (pure ((n : Int) - 1, (-1 : Int), Builtin.Slice.slicePlaces ((n : Int) - 1) (-1) (-1))) _ _ s
  rw [e]
  exact wpAny_pure h
theorem getItem_tupRev {t sl : Addr} {items : Array Value} {vl vu vs : Value} {Q : Value → Shared → Prop} (ht : IsTup s.heap t items) (hs : s.heap.IsSliceOf sl vl vu vs) (pl : IsPart vl none) (pu : IsPart vu none) (ps : IsPart vs (some (-1)))
    (h : Q (.ref s.heap.objs.size) { s with heap := s.heap.push { cls := .type "tuple", data := .seq items.toList.reverse.toArray } }) (hsz : items.size ≤ sizeLine) : wpAny (model prog w) A (getItem (.ref t) (.ref sl)) Q E s := by
  have hok : sizeOk (.seq items.toList.reverse.toArray) := by
    show items.toList.reverse.toArray.size ≤ sizeLine
    rw [List.size_toArray, List.length_reverse, Array.length_toList]
    exact hsz
  obtain ⟨os, hos, hcs, hds⟩ := id hs
  have hTs : s.TypeIs (.ref sl) "slice" := ⟨os, hos, hcs⟩
  unfold getItem
  try with_reducible refine wpAny_holding ?_
  first | refine wpAny_bind (wpAny_pure ?_) | skip
  refine wpAny_bind (wpAny_sequenceKey ht.typeIs (by decide) ?_)
  refine wpAny_bind (wpAny_callSpecial?_slot (name := Str.ofString "__getitem__") ht.typeIs PyProof.Rows.slot_tuple_getitem
    (wpAny_call_entry PyProof.Rows.slot_tuple_getitem ht.typeIs entry_tuple_getitem ?_ (args_tuple_getitem _ _)))
  show wpAny _ _ (Builtin.Tuple.tupleItemsOf (.ref t) >>= _) _ _ s
  refine wpAny_bind (tupleItemsOf_ ht ?_)
  refine wpAny_bind (wpAny_typeOf hTs ?_)
  rw [if_pos (by decide)]
  refine wpAny_bind (sliceApplied_back hs pl pu ps ?_)
  have hno : ¬ (((items.size : Int) - 1 == 0 && (-1 : Int) == 1 && items.size == items.size) = true) := by
    intro q
    rw [Bool.and_eq_true, Bool.and_eq_true] at q
    exact absurd q.1.2 (by decide)
  show wpAny _ _ (if ((items.size : Int) - 1 == 0 && (-1 : Int) == 1 && items.size == items.size) = true then _ else _) _ _ s
  rw [if_neg hno]
  have e : ((List.range items.size).filterMap fun (k : Nat) => items[((items.size : Int) - 1 + (k : Int) * -1).toNat]?) = items.toList.reverse := by
    have z := rev_pick items.toList
    rw [Array.length_toList] at z
    rw [← z]
    refine filterMap_on fun k _ => ?_
    rw [Array.getElem?_toList]
  rw [e]
  first
    | exact wpAny_bind (m := Builtin.Tuple.tupleExact _) (wpAny_newObj_type (wpAny_pure ⟨_, rfl, wpAny_pure h⟩) hok)
    | exact wpAny_bind (m := Builtin.Tuple.tupleExact _) (wpAny_newObj_type (wpAny_bind (wpAny_pure (wpAny_pure ⟨_, rfl, wpAny_pure h⟩))) hok)
    | exact wpAny_bind (wpAny_bind (m := Builtin.Tuple.tupleExact _) (wpAny_newObj_type (wpAny_pure (wpAny_pure ⟨_, rfl, wpAny_pure h⟩)) hok))
    | exact wpAny_bind (wpAny_bind (m := Builtin.Tuple.tupleExact _) (wpAny_newObj_type (wpAny_pure ⟨_, rfl, wpAny_pure h⟩) hok))
end
/-! ### xs[::-1], a list or a tuple -/
def tRevU (K : PySem.W.Frag) (te : TE) : TE := fun σ H Q => te σ H fun x H1 => ∃ a xs, x = .ref a ∧ ((SqL K H1 a xs ∧ ∀ p, H1 p = none → Q (.ref p) (upd H1 p (.lst xs.reverse))) ∨ (SqT K H1 a xs ∧ ∀ p, H1 p = none → Q (.ref p) (upd H1 p (.tup xs.reverse))))
theorem pe_revU {X : Cx} {e : Expr} {te : TE} {k : Nat} {p1 p2 p3 pos : Pos} (he : PE X e te) : PE X (.Subscript e (.Slice none none (some (.UnaryOp .USub (.Constant (.int 1) k p1) p2)) p3) pos) (tRevU X.K te) := by
  refine ⟨fun pins s σ H Q I h => ?_⟩
  refine Subscript_ (thn (he.run pins s σ H _ I h) fun v s1 ⟨x, H1, I1, r1, q1⟩ => ?_)
  obtain ⟨a, xs, ex, q⟩ := q1
  subst ex
  cases r1
  have hst : PO X (some (.UnaryOp .USub (.Constant (.int 1) k p1) p2)) (tPart (tUn (rU fun i => .int (-i)) (tC (.int 1)))) := po_some (pe_un un_neg pe_int)
  refine wpAny_Slice (thn (po_none.run pins s1 σ H1 (fun o H2 => o = none ∧ H2 = H1) I1 ⟨rfl, rfl⟩) fun vl s2 ⟨l, H2, I2, pl, el, e2⟩ => ?_)
  subst el e2
  refine thn (po_none.run pins s2 σ H2 (fun o H3 => o = none ∧ H3 = H2) I2 ⟨rfl, rfl⟩) fun vu s3 ⟨u, H3, I3, pu, eu, e3⟩ => ?_
  subst eu e3
  refine thn (hst.run pins s3 σ H3 (fun o H4 => o = some (-1) ∧ H4 = H3) I3 ⟨1, rfl, -1, rfl, rfl, rfl⟩) fun vs s4 ⟨o, H4, I4, ps, eo, e4⟩ => ?_
  subst eo e4
  have I5 : Inv X pins σ H4 { s4 with heap := s4.heap.push { cls := .type "slice", data := .fields #[vl, vu, vs] } } := I4.kept (t' := s4.toks) fun b ob q => Heap.get?_push_of_some _ q
  rcases q with ⟨hx, q⟩ | ⟨hx, q⟩
  · obtain ⟨its, r, ht, hz⟩ := I5.list hx
    have hlen := r.length
    refine tail_any (ops := [.ref a, .ref s4.heap.objs.size]) ht.isList.typeIs (PySem.slot_list_getitem.lookup) ?_ (by with_unfolding_all rfl)
    refine wpAny_getItem_list_slice ht.isList (Heap.IsSliceOf.new _ vl vu vs) pl pu ps (by decide) ?_ (by rw [List.size_toArray]; omega)
    rw [PySem.W.krv_pick]
    refine ⟨.ref _, _, I5.laid (t' := s4.toks) (o := .lst xs.reverse) (fun b ob q => Heap.get?_push_of_some _ q) (Nat.le_refl _) ?_, rfl, q _ (I5.hok.fresh (Nat.le_refl _))⟩
    exact ⟨by rw [List.length_reverse]; exact hz, _, 0, r.reverse, Heap.get?_push_size _ rfl⟩
  · obtain ⟨its, r, ht, hz⟩ := I5.tuple hx
    have hlen := r.length
    refine tail_any (ops := [.ref a, .ref s4.heap.objs.size]) (IsTup.typeIs ht) PyProof.Rows.slot_tuple_getitem.lookup ?_ (by with_unfolding_all rfl)
    refine getItem_tupRev ht (Heap.IsSliceOf.new _ vl vu vs) pl pu ps ?_ (by rw [List.size_toArray]; omega)
    refine ⟨.ref _, _, I5.laid (t' := s4.toks) (o := .tup xs.reverse) (fun b ob q => Heap.get?_push_of_some _ q) (Nat.le_refl _) ?_, rfl, q _ (I5.hok.fresh (Nat.le_refl _))⟩
    exact ⟨by rw [List.length_reverse]; exact hz, its.reverse, r.reverse, ⟨_, Heap.get?_push_size _ rfl, rfl, _, rfl⟩⟩
/-! ### xs.extend(a tuple) -/
open AutoSeq1 (wpAny_loadPart' idx_int) in
theorem extend_tup (l : Addr) (items : Array Value) (n : Nat) (b : Addr) (items2 : Array Value) (n2 : Nat) (dd2 : Option Addr) (sl2 : Array (Option Value)) (hs0 : ¬(!items.isEmpty && Builtin.List.listTooLong (items.size + items2.size)) = true)
    (hs1 : items.size ≤ sizeLine) (hs2 : items.size + items2.size ≤ sizeLine + 1) :
    Meets (Builtin.«list.extend» ⟨[.ref l, .ref b], []⟩) (fun _ R s => s.heap.get? l = some { cls := .type "list", dict := none, data := .seq items n, slots := #[] } ∧
      s.heap.get? b = some { cls := .type "tuple", dict := dd2, data := .seq items2 n2, slots := sl2 } ∧ R (.ok (.ret Value.none)) { s with heap := s.heap.update l (Obj.mapSeq fun x => x ++ items2), toks := s.toks }) :=
  .of_wp fun prog w A R s h => by
    obtain ⟨hp, g, d, tk, os⟩ := s
    obtain ⟨hl, hb, h⟩ := h
    have f1 := idx_int
    have f2 := AutoSeq1.sub_tuple_tuple
    have f3 := AutoSeq1.sub_list_list
    have f4 := AutoSeq1.sub_tuple_list
    have f5 := AutoSeq1.sub_list_tuple
    have hz' : (items ++ items2).size ≤ sizeLine + 1 := by
      rw [Array.size_append]
      exact hs2
    wp_walk using (wpAny_updateSeq hl rfl (hz := hs1) (_hz' := hz')), wpAny_loadPart' hl, wpAny_loadPart' hb
    exact ⟨_, rfl, h⟩
def rExtT (K : PySem.W.Frag) : V → List V → Hp → VK → Prop := fun x vs H Q => ∃ l b xs zs, x = .ref l ∧ vs = [.ref b] ∧ H l = some (.lst xs) ∧ SqT K H b zs ∧ xs.length + zs.length ≤ sizeLine ∧ Q .non (upd H l (.lst (xs ++ zs)))
section
variable {X : Cx}
theorem mt_extT : MtM X "list.extend" (rExtT X.K) := by
  intro pins s σ H x vs v us Q I rx rv h
  obtain ⟨l, b, xs, zs, rfl, rfl, hH, hB, hz, q⟩ := h
  cases rx
  obtain ⟨u, rfl, ru⟩ := rv.one
  cases ru
  obtain ⟨z, its, n, r, hl, e⟩ := I.lstM hH
  obtain ⟨its2, r2, ⟨⟨cls, dd, data, sl⟩, ho, hc, n2, hd⟩, z2⟩ := I.tuple hB
  simp only at hc hd
  subst hc hd
  have hl1 : its.length = xs.length := r.length.symm
  have hl2 : its2.length = zs.length := r2.length.symm
  have hsz : its.toArray.size + its2.toArray.size ≤ sizeLine := by rw [List.size_toArray, List.size_toArray]; omega
  have hlong : ¬ (!its.toArray.isEmpty && Builtin.List.listTooLong (its.toArray.size + its2.toArray.size)) = true := by
    rw [notLongL hsz, Bool.and_false]
    exact Bool.false_ne_true
  refine call_meets F.slot_list_extend ⟨_, e, rfl⟩ F.entry_list_extend (F.args_list_extend_2 _ _)
    (extend_tup l its.toArray n b its2.toArray n2 dd sl hlong (by rw [List.size_toArray]; omega) (by omega)) ⟨e, ho, ?_⟩
  refine ⟨.non, _, I.lset (its' := its ++ its2) (t' := s.toks) hH e (by simp) (r.append r2) ?_, rfl, q⟩
  rw [List.length_append]
  omega
/-! ### == and != of tuples of which one is (); of a dict and a tuple -/
def rEqZ (K : PySem.W.Frag) : R2 := fun x y H Q => ∃ a b xs, x = .ref a ∧ y = .ref b ∧ SqT K H a xs ∧ SqT K H b [] ∧ Q (.bl xs.isEmpty) H
def rNeZ (K : PySem.W.Frag) : R2 := fun x y H Q => ∃ a b xs, x = .ref a ∧ y = .ref b ∧ SqT K H a xs ∧ SqT K H b [] ∧ Q (.bl (!xs.isEmpty)) H
theorem empty_of {xs : List V} {its : List Value} (r : Vals xs its) : (((List.range (min its.toArray.size ([] : List Value).toArray.size)).all fun _ => true) && its.toArray.size == ([] : List Value).toArray.size) = xs.isEmpty := by
  cases r with
  | nil => rfl
  | cons _ _ => rfl
theorem op_eqZ (hu : X.A.units + 64 < cLine) : OpR X (compareOp .Eq) (rEqZ X.K) := by
  intro pins s σ H x y v u Q I rx ry h
  obtain ⟨a, b, xs, rfl, rfl, ha, hb, q⟩ := h
  cases rx
  cases ry
  obtain ⟨its, r1, p1, _⟩ := I.tuple ha
  obtain ⟨its2, r2, p2, _⟩ := I.tuple hb
  cases r2
  refine (SeqAt.RcAt.tuples (e := fun _ => true) p1 p2 (by omega) fun j _ h2 => absurd h2 (by simp)) X.prog X.w X.xe _ ?_
  rw [empty_of r1]
  exact ⟨.bl _, H, I, rfl, q⟩
theorem op_neZ (hu : X.A.units + 64 < cLine) : OpR X (compareOp .NotEq) (rNeZ X.K) := by
  intro pins s σ H x y v u Q I rx ry h
  obtain ⟨a, b, xs, rfl, rfl, ha, hb, q⟩ := h
  cases rx
  cases ry
  obtain ⟨its, r1, p1, _⟩ := I.tuple ha
  obtain ⟨its2, r2, p2, _⟩ := I.tuple hb
  cases r2
  refine (SeqAt.RcNeAt.tuples (e := fun _ => true) p1 p2 (by omega) fun j _ h2 => absurd h2 (by simp)) X.prog X.w X.xe _ ?_
  rw [empty_of r1]
  exact ⟨.bl _, H, I, rfl, q⟩
end
section
variable {prog : Program} {w : World} {A : Around} {E : Value → Shared → Prop} {s : Shared}
open AutoSeq1 (wpAny_loadPart') in
theorem dict_ne_no (l b : Addr) (es : Array DictEntry) (n n2 : Nat) (items2 : Array Value) (dd dd2 : Option Addr) (sl sl2 : Array (Option Value)) :
    Meets (Builtin.«dict.__ne__» ⟨[.ref l, .ref b], []⟩) (fun _ R s => s.heap.get? l = some { cls := .type "dict", dict := dd, data := .dict es n, slots := sl } ∧
      s.heap.get? b = some { cls := .type "tuple", dict := dd2, data := .seq items2 n2, slots := sl2 } ∧ R (.ok (.ret .notImplemented)) s) :=
  .of_wp fun prog w A R s h => by
    obtain ⟨hp, g, d, tk, os⟩ := s
    obtain ⟨hl, hb, h⟩ := h
    have f1 := F.sub_tuple_dict
    wp_walk using wpAny_loadPart' hl, wpAny_loadPart' hb
    exact ⟨_, rfl, h⟩
open AutoSeq1 (wpAny_loadPart') in
theorem tuple_ne_no (l b : Addr) (es : Array DictEntry) (n n2 : Nat) (items2 : Array Value) (dd dd2 : Option Addr) (sl sl2 : Array (Option Value)) :
    Meets (Builtin.«tuple.__ne__» ⟨[.ref b, .ref l], []⟩) (fun _ R s => s.heap.get? b = some { cls := .type "tuple", dict := dd2, data := .seq items2 n2, slots := sl2 } ∧
      s.heap.get? l = some { cls := .type "dict", dict := dd, data := .dict es n, slots := sl } ∧ R (.ok (.ret .notImplemented)) s) :=
  .of_wp fun prog w A R s h => by
    obtain ⟨hp, g, d, tk, os⟩ := s
    obtain ⟨hl, hb, h⟩ := h
    have f1 := F.sub_dict_tuple
    wp_walk using wpAny_loadPart' hl, wpAny_loadPart' hb
    exact ⟨_, rfl, h⟩
end
section
variable {X : Cx}
def rNeDT (K : PySem.W.Frag) : R2 := fun x y H Q => ∃ a b ks ys, x = .ref a ∧ y = .ref b ∧ H a = some (.dK ks) ∧ SqT K H b ys ∧ Q (.bl true) H
theorem op_neDT (hu : X.A.units + 64 < cLine) : OpR X (compareOp .NotEq) (rNeDT X.K) := by
  intro pins s σ H x y v u Q I rx ry h
  obtain ⟨a, b, ks, ys, rfl, rfl, ha, hb, q⟩ := h
  obtain rfl : v = Value.ref a := rx
  obtain rfl : u = Value.ref b := ry
  obtain ⟨_, ya, va, ra, da⟩ := (show ObjOk X.prog X.w H s.heap a (.dK ks) from I.hok a _ ha)
  obtain ⟨its2, r2, ⟨⟨cls2, dd2, data2, sl2⟩, ho2, hc2, n2, hd2⟩, _⟩ := I.tuple hb
  simp only at hc2 hd2
  subst hc2 hd2
  obtain ⟨⟨cls, dd, data, sl⟩, es, ep, ho, ⟨hc, hdd, hsl⟩, hd, _⟩ := id da
  simp only at hc hdd hsl hd
  subst hc hdd hsl hd
  have hne : a ≠ b := fun e => by
    subst e
    rw [ho] at ho2
    have z := congrArg Obj.cls (Option.some.inj ho2)
    exact absurd (show Value.type "dict" = Value.type "tuple" from z) (by decide)
  exact (SeqAt.rc_ne_decline_or (k := false) ⟨_, ho, rfl⟩ ⟨_, ho2, rfl⟩ (by decide) F.sub_tuple_dict F.slot_dict_ne F.slot_tuple_ne_refl
    (fun _ hq => call_meets F.slot_dict_ne ⟨_, ho, rfl⟩ F.entry_dict_ne (F.args_dict_ne_2 _ _) (dict_ne_no a b es ep n2 its2.toArray none dd2 #[] sl2) ⟨ho, ho2, hq⟩)
    (fun _ hq => call_meets F.slot_tuple_ne_refl ⟨_, ho2, rfl⟩ F.entry_tuple_ne (F.args_tuple_ne_2 _ _) (tuple_ne_no a b es ep n2 its2.toArray none dd2 #[] sl2) ⟨ho2, ho, hq⟩)
    (fun _ hq => wpAny_isSame_ref_other hne ho ho2 (by simp) hq) (.inr (by omega)) ⟨.bl true, H, I, rfl, q⟩)
end

/-! ### enumerate(tuple) -/
def IteT (K : PySem.W.Frag) (a : Addr) : It :=
  ⟨fun i H => ∃ (xs : List V) (x : V), SqT K H a xs ∧ xs[i]? = some x, fun i H v H' => ∃ T x, v = .ref T ∧ H T = none ∧ H' = upd H T (.tup [.int (i : Nat), x]) ∧ ∀ xs, SqT K H a xs → xs[i]? = some x, fun i H => ∃ xs : List V, SqT K H a xs ∧ xs.length = i⟩
theorem turn_enumT {P : Program} {w : World} {K : PySem.W.Frag} {elts : List Expr} {kk : Nat} {tpos : Pos} (a e it : Addr) :
    Turn P w K (.Tuple elts kk tpos) (IteT K a) [e, it] e (fun i h => (∃ old, IsEnum h e it ((i : Nat) : Int) old) ∧ h.IsTupleIter it a i ∧ e ≠ it ∧ a ≠ it ∧ e ≠ a) where
  mem := by simp
  obj := fun i h st b hb => by
    obtain ⟨⟨old, he⟩, ⟨o, ho, hc, hd⟩, _⟩ := st
    have e' : b = e ∨ b = it := by simpa using hb
    rcases e' with z | z
    · rw [z]; exact ⟨_, he, fun v q => nomatch q⟩
    · rw [z]; exact ⟨o, ho, fun v q => by rw [hd] at q; cases q⟩
  keep := fun i h h' st k => let ⟨⟨old, he⟩, hi, hne⟩ := st; ⟨⟨old, k e (by simp) _ he⟩, hi.at fun o q => k it (by simp) o q, hne⟩
  item := by
    intro X hP hw hK hc i pins s σ H E I hf st hg
    subst hP hw hK
    obtain ⟨⟨old, he⟩, hit, hne, hai, hea⟩ := st
    obtain ⟨xs, x, hq, hx⟩ := hg
    obtain ⟨its, rv, p, hz⟩ := I.tuple hq
    obtain ⟨u, hu, ru⟩ := rv.get hx
    have hel : e < s.heap.objs.size := Heap.lt_size he
    have hil : it < s.heap.objs.size := by obtain ⟨_, q, _⟩ := hit; exact Heap.lt_size q
    have hlt : i < its.toArray.size := by
      rw [List.size_toArray]
      exact (List.getElem?_eq_some_iff.mp hu).1
    refine wpAny_pyNext_enum_itemD (Draws.tuple (prog := X.prog) (w := X.w) (A := X.A.in1) (I.ok.hd hc) it a hai its.toArray) he ⟨hit, p⟩ hlt hne (by simp [hne, hea]) fun y h' tk hy ho hst hT hsz hk => ?_
    have ey : y = u := by
      have hy' : its[i]? = some y := by simpa using hy
      rw [hu] at hy'
      exact (Option.some.inj hy').symm
    subst ey
    refine ⟨_, rfl, wpAny_letOwnedTupleGo_enum (s := { s with heap := h', toks := tk + 1 }) ho fun h'' he' sb => ?_⟩
    have hT2 : h''.get? s.heap.objs.size = some { cls := .type "tuple", data := .seq #[.int i tk, y] } := (sb.2 _ (Nat.ne_of_gt hel)).trans hT
    have new : ObjOk X.prog X.w (upd H s.heap.objs.size (.tup [.int (i : Nat), x])) h'' s.heap.objs.size (.tup [.int (i : Nat), x]) :=
      ⟨by show 2 ≤ sizeLine; decide, [.int i tk, y], .cons ⟨_, rfl⟩ (.cons ru .nil), ⟨_, hT2, rfl, _, rfl⟩⟩
    have I1 : Inv X pins σ (upd H s.heap.objs.size (.tup [.int (i : Nat), x])) { s with heap := h'', toks := tk + 1 } :=
      I.turnedNew (ch := [e, it]) (fun b ob hb q => (sb.2 b (fun z => hb (by simp [z]))).trans (hk b ob (fun z => hb (by simp [z])) (fun z => hb (by simp [z])) q)) hf (Nat.le_refl _) new
    refine ⟨.ref s.heap.objs.size, _, I1, rfl, ⟨_, x, rfl, I.hok.fresh (Nat.le_refl _), rfl, fun ys hy => ?_⟩, ⟨⟨y, ?_⟩, hst.1.at fun o q => (sb.2 it (Ne.symm hne)).trans q, hne, hai, hea⟩, fun b hb => ?_⟩
    · rw [I.tuple_inj hy hq]
      exact hx
    · have e1 : ((i + 1 : Nat) : Int) = (i : Int) + 1 := by omega
      rw [e1]; exact he'
    · have hb' : b < s.heap.objs.size := by
        have e' : b = e ∨ b = it := by simpa using hb
        rcases e' with z | z
        · rw [z]; exact hel
        · rw [z]; exact hil
      rw [upd_ne (Nat.ne_of_lt hb')]
      exact (hf b hb).1
  done := by
    intro X hP hw hK hc i pins s σ H E I hf st hg
    subst hP hw hK
    obtain ⟨⟨old, he⟩, hit, hne, hai, hea⟩ := st
    obtain ⟨xs, hq, hx⟩ := hg
    obtain ⟨its, rv, p, hz⟩ := I.tuple hq
    obtain ⟨f0, f1, f2, f3, f4, f5⟩ := hf it (by simp)
    have hl := rv.length
    have hx' : xs.length = i := hx
    have hi : i = its.toArray.size := by
      rw [List.size_toArray]
      omega
    subst hi
    exact wpAny_pyNext_enum_endD (Draws.tuple (prog := X.prog) (w := X.w) (A := X.A.in1) (I.ok.hd hc) it a hai its.toArray) he ⟨hit, p⟩ fun h' eb => ⟨rfl, I.turned (t' := s.toks) (fun b o hb q => eb b o hb q) f0 f1 f3 f4 f5⟩
  self := fun A i s Q E st h => let ⟨⟨_, he⟩, _⟩ := st; wpAny_pyIter_enum he h
theorem enum_newT (l : Addr) (items : Array Value) (n : Nat) (dct : Option Addr) (sl : Array (Option Value)) :
    Meets (Builtin.«enumerate.__new__» ⟨[.type "enumerate", .ref l], []⟩) (fun _ R s => s.heap.get? l = some { cls := .type "tuple", dict := dct, data := .seq items n, slots := sl } ∧
      R (.ok (.ret (.ref (s.heap.push { cls := .type "tuple_iterator", data := .fields #[.ref l, .int 0 0] }).objs.size)))
        { s with heap := (s.heap.push { cls := .type "tuple_iterator", data := .fields #[.ref l, .int 0 0] }).push { cls := .type "enumerate", data := .fields #[.none, .bool false, .ref s.heap.objs.size, rawInt 0, .none, .none] } }) :=
  .of_wp fun prog w A R s h => by
    obtain ⟨hp, g, d, tk, os⟩ := s
    obtain ⟨hl, h⟩ := h
    have hsub := sub_enumerate
    have hL : Heap.IsTuple (Shared.heap ⟨hp, g, d, tk, os⟩) l items := ⟨_, hl, rfl, n, rfl⟩
    wp_walk using AutoSeq1.wpAny_loadPart' hl
    refine wpAny_stack_any fun st => wpAny_pure ?_
    split
    · rename_i c _ _ _ _ _
      cases (c == Value.type "enumerate")
      · wp_walk using AutoSeq1.wpAny_loadPart' hl, wpAny_pyIter_tuple hL
        exact ⟨_, rfl, h⟩
      · wp_walk using AutoSeq1.wpAny_loadPart' hl, wpAny_pyIter_tuple hL
        exact ⟨_, rfl, h⟩
    · wp_walk using AutoSeq1.wpAny_loadPart' hl, wpAny_pyIter_tuple hL
      exact ⟨_, rfl, h⟩
theorem call_enumT {prog : Program} {w : World} {A : Around} {E : Value → Shared → Prop} {s : Shared} {l : Addr} {items : Array Value} {Q : Value → Shared → Prop} (hL : s.heap.IsTuple l items)
    (h : ∀ h', IsEnum h' (s.heap.objs.size + 1) s.heap.objs.size 0 .none → h'.IsTupleIter s.heap.objs.size l 0 → h'.objs.size = s.heap.objs.size + 2 →
      (∀ b o, s.heap.get? b = some o → h'.get? b = some o) → Q (.ref (s.heap.objs.size + 1)) { s with heap := h' }) :
    wpAny (model prog w) A (call (.type "enumerate") [.ref l]) Q E s := by
  obtain ⟨⟨c, dct, dt, sl⟩, hl, hc, n, hd⟩ := hL
  simp only at hc hd
  subst hc hd
  refine callType_new F.called_enumerate (by decide) (F.typeCall_enumerate_1 _) (F.newCall_enumerate_1 _) (fun obj => F.args_object_init_2 obj _) F.entry_enumerate_new
    (enum_newT l items n dct sl) ⟨hl, ?_⟩
  have hz : (s.heap.push { cls := .type "tuple_iterator", data := .fields #[.ref l, .int 0 0] }).objs.size = s.heap.objs.size + 1 := Heap.size_push ..
  show _ ∧ _
  rw [hz]
  have he : IsEnum ((s.heap.push { cls := .type "tuple_iterator", data := .fields #[.ref l, .int 0 0] }).push
      { cls := .type "enumerate", data := .fields #[.none, .bool false, .ref s.heap.objs.size, rawInt 0, .none, .none] }) (s.heap.objs.size + 1) s.heap.objs.size 0 .none := by
    have z := Heap.get?_push_size (s.heap.push { cls := .type "tuple_iterator", data := .fields #[.ref l, .int 0 0] })
      (o := { cls := .type "enumerate", data := .fields #[.none, .bool false, .ref s.heap.objs.size, rawInt 0, .none, .none] }) rfl
    rw [hz] at z
    exact z
  refine ⟨⟨_, he, rfl⟩, h _ he ⟨_, Heap.get?_push_of_some _ (Heap.get?_push_size _ rfl), rfl, rfl⟩ (by rw [Heap.size_push, hz]) fun b o x => Heap.get?_push_of_some _ (Heap.get?_push_of_some _ x)⟩
/-- enumerate(x), x a list or a tuple -/
def iEnumU (K : PySem.W.Frag) (ta : TA) : TI := fun σ H R => ta σ H fun vs H1 => ∃ a xs, vs = [.ref a] ∧ ((SqL K H1 a xs ∧ R (Ite K a) H1) ∨ (SqT K H1 a xs ∧ R (IteT K a) H1))
theorem pi_enumU {X : Cx} {e : Expr} {ta : TA} {p pos tpos : Pos} {elts : List Expr} {kk : Nat} (hg : Gl X "enumerate") (hm : X.mg "enumerate" = none) (ha : PA X [e] ta) (hs : starEach [e] X.env = [(false, eval e X.env)]) :
    PI X (.Tuple elts kk tpos) (.Call (.Name "enumerate" p) [e] [] pos) (iEnumU X.K ta) := by
  refine ⟨fun pins s σ H R I h => ?_⟩
  refine Call_ (ld_blt I hg hm boot_enumerate (PyProof.Rows.callWith_type1 (thn (ha.run pos pins s σ H _ I h) fun us s1 ⟨vs, H1, I1, r1, q1⟩ => ?_) hs rfl))
  obtain ⟨a, xs, ex, q1⟩ := q1
  subst ex
  cases r1 with
  | cons r rr =>
    cases rr
    cases r
    have two : ∀ b : Addr, b ∈ [s1.heap.objs.size + 1, s1.heap.objs.size] → s1.heap.objs.size ≤ b := fun b hb => by
      have e' : b = s1.heap.objs.size + 1 ∨ b = s1.heap.objs.size := by simpa using hb
      rcases e' with z | z
      · rw [z]
        exact Nat.le_add_right _ _
      · rw [z]
        exact Nat.le_refl _
    rcases q1 with ⟨hq, q⟩ | ⟨hq, q⟩
    · obtain ⟨its, rv, p', hz⟩ := I1.list hq
      refine call_enumerate_list p'.isList fun h' he hit hsz hk => wpAny_pyIter_enum he ?_
      have I2 : Inv X pins σ H1 { s1 with heap := h' } := I1.kept (t' := s1.toks) hk
      exact ⟨s1.heap.objs.size + 1, [s1.heap.objs.size + 1, s1.heap.objs.size], _, _, H1, rfl, I2, turn_enum a (s1.heap.objs.size + 1) s1.heap.objs.size, ⟨⟨.none, he⟩, hit, Nat.succ_ne_self _⟩, fun b hb => I1.fpOk (two b hb) (I1.hok.fresh (two b hb)), q⟩
    · obtain ⟨its, rv, p', hz⟩ := I1.tuple hq
      have hlt : a < s1.heap.objs.size := by
        obtain ⟨_, z, _⟩ := p'
        exact Heap.lt_size z
      refine call_enumT p' fun h' he hit hsz hk => wpAny_pyIter_enum he ?_
      have I2 : Inv X pins σ H1 { s1 with heap := h' } := I1.kept (t' := s1.toks) hk
      exact ⟨s1.heap.objs.size + 1, [s1.heap.objs.size + 1, s1.heap.objs.size], _, _, H1, rfl, I2, turn_enumT a (s1.heap.objs.size + 1) s1.heap.objs.size, ⟨⟨.none, he⟩, hit, Nat.succ_ne_self _, Nat.ne_of_lt hlt, Nat.ne_of_gt (Nat.lt_succ_of_lt hlt)⟩, fun b hb => I1.fpOk (two b hb) (I1.hok.fresh (two b hb)), q⟩
/-! ### what is walked, by its kind -/
def iSeq (K : PySem.W.Frag) (tl : TE) : TI := fun σ H R => tl σ H fun x H1 => ∃ a xs, x = .ref a ∧ ((SqL K H1 a xs ∧ R (Itl K a) H1) ∨ (SqT K H1 a xs ∧ R (Itt K a) H1))
theorem pi_seq {X : Cx} {tg l : Expr} {tl : TE} (hl : PE X l tl) : PI X tg l (iSeq X.K tl) := by
  refine ⟨fun pins s σ H R I h => ?_⟩
  refine thn (hl.run pins s σ H _ I h) fun v s1 ⟨x, H1, I1, r1, q1⟩ => ?_
  obtain ⟨a, xs, e, q⟩ := q1
  subst e
  cases r1
  have fp : ∀ b ∈ [s1.heap.objs.size], FpOk X pins H1 b := fun b hb => by
    have e : b = s1.heap.objs.size := by simpa using hb
    subst e
    exact I1.fpOk (Nat.le_refl _) (I1.hok.fresh (Nat.le_refl _))
  rcases q with ⟨hq, q⟩ | ⟨hq, q⟩
  · obtain ⟨its, rv, p, hz⟩ := I1.list hq
    refine wpAny_pyIter_list p.isList ?_
    exact ⟨s1.heap.objs.size, [s1.heap.objs.size], _, _, H1, rfl, I1.kept (t' := s1.toks) fun b o e => Heap.get?_push_of_some _ e, turn_list a _, ⟨_, Heap.get?_push_size _ rfl, rfl, rfl⟩, fp, q⟩
  · obtain ⟨its, rv, p, hz⟩ := I1.tuple hq
    refine wpAny_pyIter_tuple (show s1.heap.IsTuple a its.toArray from p) ?_
    exact ⟨s1.heap.objs.size, [s1.heap.objs.size], _, _, H1, rfl, I1.kept (t' := s1.toks) fun b o e => Heap.get?_push_of_some _ e, turn_tuple a _, ⟨_, Heap.get?_push_size _ rfl, rfl, rfl⟩, fp, q⟩
/-! ### repr -/
theorem call_repr {X : Cx} (hgd : X.A.guards = some []) (hu : X.A.units + 66 < cLine) : CallR X (.builtin "repr") (fun xs H Q => ∃ a d, xs = [.ref a] ∧ Dp X.K H (.ref a) d ∧ d.showable = true ∧ d.hasDict = false ∧ d.depth ≤ 64 ∧ d.shown.length ≤ sizeLine ∧ Q (.str d.shown) H) := by
  intro pins s σ H xs us Q I r h
  obtain ⟨a, d, ex, hd, h1, h2, h3, h4, q⟩ := h
  subst ex
  obtain ⟨u, rfl, ru⟩ := r.one
  cases ru
  obtain ⟨as, rr⟩ := Dp.reads I d (.ref a) (.ref a) hd rfl
  exact repr_of_reads' rr h1 (PyData.noDict_hsm h2) hgd (by omega) (fun _ _ e => e) (fun h' u tk hk => ⟨.str d.shown, H, I.kept (t' := tk) hk, ⟨_, rfl⟩, q⟩) h4
/-! ### a tuple many times -/
def rRepU (K : PySem.W.Frag) : R2 := fun x y H Q => ∃ l k xs, x = .ref l ∧ y = .int k ∧ SqT K H l xs ∧ xs ≠ [] ∧ 2 ≤ k ∧ k ≤ 10000 ∧ xs.length ≤ 100 ∧ ∀ p, H p = none → Q (.ref p) (upd H p (.tup (List.replicate k.toNat xs).flatten))
theorem op_repU {X : Cx} : OpR X (binaryOp .Mult) (rRepU X.K) := by
  intro pins s σ H x y v u Q I rx ry h
  obtain ⟨l, k, xs, rfl, rfl, hT, hne, h1, h2, hz, q⟩ := h
  cases rx
  obtain ⟨t, rfl⟩ := ry
  obtain ⟨its, r, ⟨⟨cls, dd, data, sl⟩, ho, hc, n, hd⟩, hs⟩ := I.tuple hT
  simp only at hc hd
  subst hc hd
  have hle : its.length = xs.length := r.length.symm
  have hi : its.toArray.isEmpty = false := by
    cases its with
    | nil =>
      rw [List.length_nil] at hle
      exact absurd (List.eq_nil_of_length_eq_zero hle.symm) hne
    | cons a b => rfl
  have hsz0 : its.toArray.size = xs.length := by rw [List.size_toArray, hle]
  have hm : ((its.toArray.size : Nat) : Int) * k ≤ 1000000 := by
    rw [hsz0]
    have a1 : ((xs.length : Nat) : Int) * k ≤ 100 * k := Int.mul_le_mul_of_nonneg_right (by omega) (by omega)
    omega
  have a2 : k.toNat * xs.length ≤ 10000 * 100 := Nat.mul_le_mul (by omega) hz
  have flen : (List.replicate k.toNat its).flatten.length ≤ sizeLine := by
    rw [PyProof.Rows.lm_len_rep_flat, hle, sizeLine_eq]
    omega
  have c0 : (decide (k < -(2 ^ 63)) || decide (k ≥ 2 ^ 63)) = false := by
    rw [decide_eq_false (by omega), decide_eq_false (by omega)] <;> rfl
  have c1 : (its.toArray.isEmpty || k == 1) = false := by
    rw [hi, Bool.false_or]
    exact beq_eq_false_iff_ne.mpr (by omega)
  have c2 : (decide (k ≤ 0) || its.toArray.isEmpty) = false := by
    rw [hi, Bool.or_false]
    exact decide_eq_false (by omega)
  have c4 : Builtin.Tuple.tupleTooMany (((its.toArray.size : Nat) : Int) * k) = false := by
    unfold Builtin.Tuple.tupleTooMany
    rw [sizeLine_eq]
    exact decide_eq_false (by omega)
  refine wpAny_binaryOp_repeat_ref (T := "tuple") (U := "int") (by decide) ⟨_, ho, rfl⟩ (fun s' => typeIs_int s' k t) noFill_tuple_mul F.fills_int_mul F.slot_int_rmul repeat_tuple F.slot_int_index.lookup
    (call_meets F.slot_int_rmul (typeIs_int s k t) F.entry_int_rmul (F.args_int_rmul_2 _ _) (int_rmul_tuple k t l its.toArray n dd sl)
      ⟨ho, rfl, ⟨_, ho, rfl⟩, call_meets F.slot_tuple_mul ⟨_, ho, rfl⟩ F.entry_tuple_mul (F.args_tuple_mul_2 _ _) (tuple_mulW l its.toArray n dd sl k t c0 c1 c2 (by omega) c4 (by rw [size_rep, List.size_toArray]; exact flen)) ⟨ho, ?_⟩⟩)
  rw [size_rep]
  refine ⟨.ref s.heap.objs.size, _, I.laid (t' := s.toks) (o := .tup (List.replicate k.toNat xs).flatten) (fun b ob q => Heap.get?_push_of_some _ q) (Nat.le_refl _) ?_, rfl, q _ (I.hok.fresh (Nat.le_refl _))⟩
  exact ⟨by rw [PyProof.Rows.lm_len_rep_flat, sizeLine_eq]; omega, _, r.rep k.toNat, IsTup.new _ _⟩
end K7
/-! K7, part 6: data readings of the rules of R1; the binary operators in one table. -/
namespace K7
open PySem PySem.Spec L2
open PyProof.Rows hiding St

section
variable {K : PySem.W.Frag} {X : Cx} {G : Gh} {σ : St} {H : Hp} {Q : VK} {da db : DE} {dr : DA}
/-! ### xs[::-1] -/
def dRev (da : DE) : DE := fun dl M q Xi => da dl M (fun d M1 => match d with
  | .tup ds => q (.tup ds.reverse) M1
  | .ob a => (match M1 a with
    | some (.lst ds) => ∀ p, M1 p = none → q (.ob p) (up M1 p (.lst ds.reverse))
    | _ => False)
  | _ => False) Xi
theorem c_rev (h : cE G (dRev da) σ H Q) : tRevU G.K (cE G da) σ H Q := by
  obtain ⟨dl, M, q, Xi, ok, hd, k, kx⟩ := h
  refine ⟨dl, M, _, Xi, ok, hd, fun v H1 d M1 r1 p1 f1 q1 => ?_, kx⟩
  cases d with
  | tup ds =>
    obtain ⟨a, xs, rfl, ha, ra⟩ := r1
    exact ⟨a, xs, rfl, .inr ⟨ha, fun z hz => k _ _ (.tup ds.reverse) M1 ⟨z, _, rfl, .of upd_same, ra.reverse.mono (TK.new hz)⟩ (p1.new hz) (f1.trans (.new hz)) q1⟩⟩
  | ob a =>
    dsimp only at q1
    split at q1
    · rename_i ds em
      obtain ⟨xs, ha, ra⟩ := lst_of p1 em
      cases r1
      exact ⟨a, xs, rfl, .inl ⟨.of ha, fun z hz => k _ _ (.ob z) _ rfl (p1.newL hz ra.reverse) (f1.trans (.put (.inr hz))) (q1 z (p1.fresh hz))⟩⟩
    · exact q1.elim
  | _ => exact q1.elim
/-! ### x == [], x == (), != too -/
def empB (d : D) (M : Mem) (isT : Bool) : Option Bool := match d with
  | .tup ds => if isT then some ds.isEmpty else none
  | .ob a => (match M a with
    | some (.lst ds) => if isT then none else some ds.isEmpty
    | _ => none)
  | _ => none
def dEmp (ne isT : Bool) (da : DE) : DE := fun dl M q Xi => da dl M (fun d M1 => match empB d M1 isT with
  | some b => q (.bl (b != ne)) M1
  | none => False) Xi
theorem isEmpty_of {ds : List D} {xs : List V} (r : Rps K H ds xs) : xs.isEmpty = ds.isEmpty := by
  have l := r.length
  cases xs with
  | nil => cases ds with
    | nil => rfl
    | cons _ _ => simp at l
  | cons _ _ => cases ds with
    | nil => simp at l
    | cons _ _ => rfl
def rEqZL (K : PySem.W.Frag) : R2 := fun x y H Q => ∃ a b xs, x = .ref a ∧ y = .ref b ∧ SqL K H a xs ∧ SqL K H b [] ∧ a ≠ b ∧ Q (.bl xs.isEmpty) H
def rNeZL (K : PySem.W.Frag) : R2 := fun x y H Q => ∃ a b xs, x = .ref a ∧ y = .ref b ∧ SqL K H a xs ∧ SqL K H b [] ∧ a ≠ b ∧ Q (.bl (!xs.isEmpty)) H
theorem op_eqZL (hu : X.A.units + 64 < cLine) : OpR X (compareOp .Eq) (rEqZL X.K) := by
  intro pins s σ H x y v u Q I rx ry h
  obtain ⟨a, b, xs, rfl, rfl, ha, hb, hab, q⟩ := h
  cases rx
  cases ry
  obtain ⟨its, r1, p1, _⟩ := I.list ha
  obtain ⟨its2, r2, p2, _⟩ := I.list hb
  cases r2
  cases r1 with
  | nil =>
    refine (SeqAt.RcAt.lists (e := fun _ => true) p1.isList p2.isList rfl (by omega) fun j h1 _ => absurd h1 (by simp)) X.prog X.w X.xe _ ?_
    exact ⟨.bl _, H, I, rfl, q⟩
  | cons _ _ =>
    refine (SeqAt.RcAt.lists_lengths p1.isList p2.isList (by simp) (by omega)) X.prog X.w X.xe _ ?_
    exact ⟨.bl _, H, I, rfl, q⟩
theorem op_neZL (hu : X.A.units + 64 < cLine) : OpR X (compareOp .NotEq) (rNeZL X.K) := by
  intro pins s σ H x y v u Q I rx ry h
  obtain ⟨a, b, xs, rfl, rfl, ha, hb, hab, q⟩ := h
  cases rx
  cases ry
  obtain ⟨its, r1, p1, _⟩ := I.list ha
  obtain ⟨its2, r2, p2, _⟩ := I.list hb
  cases r2
  cases r1 with
  | nil =>
    refine (SeqAt.RcNeAt.lists (e := fun _ => true) p1.isList p2.isList rfl (by omega) fun j h1 _ => absurd h1 (by simp)) X.prog X.w X.xe _ ?_
    exact ⟨.bl _, H, I, rfl, q⟩
  | cons _ _ =>
    refine (SeqAt.RcNeAt.lists_lengths p1.isList p2.isList (by simp) (by omega)) X.prog X.w X.xe _ ?_
    exact ⟨.bl _, H, I, rfl, q⟩
/-- what op_eqZ and op_eqZL ask, both kinds, by the display -/
def rEmp (K : PySem.W.Frag) (ne isT : Bool) : R2 := fun x y H Q => ∃ a b xs, x = .ref a ∧ y = .ref b ∧ (if isT then SqT K H a xs ∧ SqT K H b [] else SqL K H a xs ∧ SqL K H b [] ∧ a ≠ b) ∧ Q (.bl (xs.isEmpty != ne)) H
def cmpEmp (ne : Bool) : CmpOp := if ne then .NotEq else .Eq
theorem op_emp (hu : X.A.units + 64 < cLine) (ne isT : Bool) : OpR X (compareOp (cmpEmp ne)) (rEmp X.K ne isT) := by
  intro pins s σ H x y v u Q I rx ry h
  obtain ⟨a, b, xs, ex, ey, h, q⟩ := h
  cases isT with
  | true =>
    rw [if_pos rfl] at h
    cases ne with
    | true => exact op_neZ hu pins s σ H x y v u Q I rx ry ⟨a, b, xs, ex, ey, h.1, h.2, by rw [Bool.bne_true] at q; exact q⟩
    | false => exact op_eqZ hu pins s σ H x y v u Q I rx ry ⟨a, b, xs, ex, ey, h.1, h.2, by rw [Bool.bne_false] at q; exact q⟩
  | false =>
    rw [if_neg Bool.false_ne_true] at h
    cases ne with
    | true => exact op_neZL hu pins s σ H x y v u Q I rx ry ⟨a, b, xs, ex, ey, h.1, h.2.1, h.2.2, by rw [Bool.bne_true] at q; exact q⟩
    | false => exact op_eqZL hu pins s σ H x y v u Q I rx ry ⟨a, b, xs, ex, ey, h.1, h.2.1, h.2.2, by rw [Bool.bne_false] at q; exact q⟩
theorem c_emp {ne isT : Bool} (h : cE G (dEmp ne isT da) σ H Q) : tOp (rEmp G.K ne isT) (cE G da) (if isT then tTup tNil else tLst tNil) σ H Q := by
  obtain ⟨dl, M, q, Xi, ok, hd, k, kx⟩ := h
  refine ⟨dl, M, _, Xi, ok, hd, fun v H1 d M1 r1 p1 f1 q1 => ?_, kx⟩
  split at q1
  · rename_i b eb
    unfold empB at eb
    split at eb
    · rename_i ds
      cases isT with
      | false => cases eb
      | true =>
        cases eb
        obtain ⟨a, xs, rfl, ha, ra⟩ := r1
        refine ⟨Nat.zero_le _, fun z hz => ⟨a, z, xs, rfl, rfl, ⟨(TK.new hz).sqt ha, .of upd_same⟩, ?_⟩⟩
        rw [isEmpty_of ra]
        exact k _ _ (.bl _) M1 rfl (p1.new hz) (f1.trans (.new hz)) q1
    · rename_i a
      split at eb
      · rename_i ds em
        cases isT with
        | true => cases eb
        | false =>
          cases eb
          obtain ⟨xs, ha, ra⟩ := lst_of p1 em
          cases r1
          refine ⟨Nat.zero_le _, fun z hz => ?_⟩
          have ne : a ≠ z := fun e => by
            subst e
            rw [ha] at hz
            cases hz
          refine ⟨a, z, xs, rfl, rfl, ⟨.of ((upd_ne ne).trans ha), .of upd_same, ne⟩, ?_⟩
          rw [isEmpty_of ra]
          exact k _ _ (.bl _) M1 rfl (p1.new hz) (f1.trans (.new hz)) q1
      · cases eb
    · cases eb
  · exact q1.elim
/-! ### xs.extend(a tuple) -/
def dExt (da db : DE) : DE := fun dl M q Xi => da dl M (fun x M1 => match x with
  | .ob l => isL (M1 l) = true ∧ db dl M1 (fun d M2 => match d, M2 l with
    | .tup es, some (.lst ds) => ds.length + es.length ≤ 100000 ∧ q .non (up M2 l (.lst (ds ++ es)))
    | _, _ => False) Xi
  | _ => False) Xi
theorem c_ext (h : cE G (dExt da db) σ H Q) : tBM G.K "list" (rExtT G.K) (cE G da) (cA G (dCons db dNil)) σ H Q := by
  obtain ⟨dl, M, q, Xi, ok, hd, k, kx⟩ := h
  refine ⟨dl, M, _, Xi, ok, hd, fun v H1 d M1 r1 p1 f1 q1 => ?_, kx⟩
  cases d with
  | ob l =>
    obtain ⟨h1, q1⟩ := q1
    obtain ⟨es, e1⟩ := isL_of h1
    obtain ⟨xs, ha, ra⟩ := lst_of p1 e1
    cases r1
    refine ⟨.inl ⟨rfl, xs, .of ha⟩, dl, M1, fun ds M2 => ∃ d, ds = [d] ∧ (match d, M2 l with
      | .tup es, some (.lst ds) => ds.length + es.length ≤ 100000 ∧ q .non (up M2 l (.lst (ds ++ es)))
      | _, _ => False), Xi, ok.next p1 f1, ?_, fun vs H2 ds M2 r2 p2 f2 q2 => ?_, kx.next f1⟩
    · unfold dCons dNil
      have e : (fun (d : D) (M2 : Mem) => ∃ d', [d] = [d'] ∧ (match d', M2 l with
          | .tup es, some (.lst ds) => ds.length + es.length ≤ 100000 ∧ q .non (up M2 l (.lst (ds ++ es)))
          | _, _ => False)) = fun (d : D) (M2 : Mem) => (match d, M2 l with
          | .tup es, some (.lst ds) => ds.length + es.length ≤ 100000 ∧ q .non (up M2 l (.lst (ds ++ es)))
          | _, _ => False) := by
        funext d M2
        exact propext ⟨fun ⟨d', e, z⟩ => by cases e; exact z, fun z => ⟨d, rfl, z⟩⟩
      dsimp only
      rw [e]
      exact q1
    · obtain ⟨d, rfl, q2⟩ := q2
      split at q2
      · rename_i es2 ds2 em
        obtain ⟨v2, w2, rfl, ⟨b, zs, rfl, hb, rb⟩, rfl⟩ := r2
        obtain ⟨xs2, ha2, ra2⟩ := lst_of p2 em
        refine ⟨l, b, xs2, zs, rfl, rfl, ha2, hb, by rw [ra2.length, rb.length]; exact sz_of q2.1, ?_⟩
        exact k _ _ .non _ rfl (p2.putL em (ra2.append rb)) ((f1.trans f2).trans (.put (.inl (by rw [em]; exact fun z => nomatch z)))) q2.2
      · exact q2.elim
  | _ => exact q1.elim
/-! ### what is walked -/
theorem itok_scr {H0 : Hp} {a : Addr} {ns : List Int} (h : SqF K H0 a (ns.map V.int)) : ItOk K H0 (Itl K a) (ns.map D.int) none := by
  have W := walk_list (K := K) (a := a) (xs := ns.map V.int)
  refine ⟨fun i H M hi tk _ _ => W.goes i H (by rw [List.length_map] at hi ⊢; exact hi) (tk.sqf h).sql, fun H M tk _ _ => ?_, fun i H M x H' hi tk p _ y => ?_⟩
  · have z := W.stops H (tk.sqf h).sql
    rw [List.length_map] at z ⊢
    exact z
  · obtain ⟨e, z⟩ := W.yields i H x H' (by rw [List.length_map] at hi ⊢; exact hi) (tk.sqf h).sql y
    subst e
    obtain ⟨d, ed, rd⟩ := (Rps.ints (K := K) (H := H') ns).back z
    exact ⟨d, ed, rd, p, Fr.refl⟩
theorem c_iSeq {R : It → Hp → Prop} (h : cI G (diSeq da) σ H R) : iSeq G.K (cE G da) σ H R := by
  obtain ⟨dl, M, q, Xi, ok, hd, k, kx⟩ := h
  refine ⟨dl, M, _, Xi, ok, hd, fun v H1 d M1 r1 p1 f1 q1 => ?_, kx⟩
  cases d with
  | tup ds =>
    obtain ⟨a, xs, rfl, ha, ra⟩ := r1
    exact ⟨a, xs, rfl, .inr ⟨ha, k _ H1 ds none M1 (itok_tup ha ra) trivial p1 f1 q1⟩⟩
  | ob a =>
    dsimp only at q1
    split at q1
    · rename_i ds em
      cases r1
      obtain ⟨xs, ha, ra⟩ := lst_of p1 em
      exact ⟨a, xs, rfl, .inl ⟨.of ha, k _ H1 ds (some a) M1 itok_lst em p1 f1 q1⟩⟩
    · exact q1.elim
  | scr ns =>
    obtain ⟨a, rfl, ha⟩ := r1
    exact ⟨a, _, rfl, .inl ⟨ha.sql, k _ H1 (ns.map D.int) none M1 (itok_scr ha) trivial p1 f1 q1⟩⟩
  | _ => exact q1.elim
/-! ### enumerate -/
def enG : Nat → List D → List D
  | _, [] => []
  | n, d :: r => .tup [.int (n : Int), d] :: enG (n + 1) r
theorem enG_len : ∀ (n : Nat) (ds : List D), (enG n ds).length = ds.length
  | _, [] => rfl
  | n, d :: r => by
    unfold enG
    rw [List.length_cons, List.length_cons, enG_len (n + 1) r]
theorem enG_get : ∀ (n : Nat) (ds : List D) (i : Nat) (d : D), ds[i]? = some d → (enG n ds)[i]? = some (.tup [.int ((n + i : Nat) : Int), d])
  | n, x :: r, 0, d, h => by
    have e : x = d := by simpa using h
    subst e
    rfl
  | n, x :: r, i + 1, d, h => by
    have z := enG_get (n + 1) r i d (by simpa using h)
    unfold enG
    rw [List.getElem?_cons_succ, z]
    have e : n + 1 + i = n + (i + 1) := by omega
    rw [e]
theorem itok_enL {H0 : Hp} {a : Addr} {ns : List Int} (h : SqF K H0 a (ns.map V.int)) : ItOk K H0 (Ite K a) (enG 0 (ns.map D.int)) none := by
  have ln : (enG 0 (ns.map D.int)).length = ns.length := by rw [enG_len, List.length_map]
  refine ⟨fun i H M hi tk _ _ => ?_, fun H M tk _ _ => ?_, fun i H M x H' hi tk p _ y => ?_⟩
  · rw [ln] at hi
    exact ⟨_, V.int ns[i], (tk.sqf h).sql, by rw [List.getElem?_map, List.getElem?_eq_getElem hi]; rfl⟩
  · exact ⟨_, (tk.sqf h).sql, by rw [ln, List.length_map]; exact Nat.le_refl _⟩
  · rw [ln] at hi
    obtain ⟨T, v, rfl, hT, rfl, hx⟩ := y
    have e := hx _ (tk.sqf h).sql
    rw [List.getElem?_map, List.getElem?_eq_getElem hi] at e
    cases e
    refine ⟨_, enG_get 0 (ns.map D.int) i (.int ns[i]) (by rw [List.getElem?_map, List.getElem?_eq_getElem hi]; rfl), ?_, p.new hT, .new hT⟩
    rw [Nat.zero_add]
    exact ⟨T, _, rfl, .of upd_same, _, _, rfl, rfl, _, _, rfl, rfl, rfl⟩
theorem itok_enT {H0 : Hp} {a : Addr} {xs : List V} {ds : List D} (h : SqT K H0 a xs) (r : Rps K H0 ds xs) : ItOk K H0 (IteT K a) (enG 0 ds) none := by
  have ln : (enG 0 ds).length = xs.length := by rw [enG_len, r.length]
  refine ⟨fun i H M hi tk _ _ => ?_, fun H M tk _ _ => ⟨_, tk.sqt h, ln.symm⟩, fun i H M x H' hi tk p _ y => ?_⟩
  · rw [ln] at hi
    exact ⟨_, xs[i], tk.sqt h, List.getElem?_eq_getElem hi⟩
  · rw [ln] at hi
    obtain ⟨T, v, rfl, hT, rfl, hx⟩ := y
    have e := hx _ (tk.sqt h)
    obtain ⟨d, ed, rd⟩ := (r.mono tk).back e
    refine ⟨_, enG_get 0 ds i d ed, ?_, p.new hT, .new hT⟩
    rw [Nat.zero_add]
    exact ⟨T, _, rfl, .of upd_same, _, _, rfl, rfl, _, _, rfl, rd.mono (TK.new hT), rfl⟩
def diEn (da : DE) : DI := fun dl M q Xi => da dl M (fun d M1 => match d with
  | .tup ds => q (enG 0 ds) none M1
  | .scr ns => q (enG 0 (ns.map D.int)) none M1
  | _ => False) Xi
theorem c_iEn {R : It → Hp → Prop} (h : cI G (diEn da) σ H R) : iEnumU G.K (tCons (cE G da) tNil) σ H R := by
  obtain ⟨dl, M, q, Xi, ok, hd, k, kx⟩ := h
  refine ⟨dl, M, _, Xi, ok, hd, fun v H1 d M1 r1 p1 f1 q1 => ?_, kx⟩
  cases d with
  | tup ds =>
    obtain ⟨a, xs, rfl, ha, ra⟩ := r1
    exact ⟨a, xs, rfl, .inr ⟨ha, k _ H1 (enG 0 ds) none M1 (itok_enT ha ra) trivial p1 f1 q1⟩⟩
  | scr ns =>
    obtain ⟨a, rfl, ha⟩ := r1
    exact ⟨a, _, rfl, .inl ⟨ha.sql, k _ H1 (enG 0 (ns.map D.int)) none M1 (itok_enL ha) trivial p1 f1 q1⟩⟩
  | _ => exact q1.elim
/-! ### plain data -/
mutual
def pyP : D → Option PyData
  | .non => some .none
  | .bl b => some (.bool b)
  | .int i => some (.int i)
  | .str s => some (.str s)
  | .tup ds => (pyPs ds).map .tuple
  | .ob _ => none
  | .scr _ => none
def pyPs : List D → Option (List PyData)
  | [] => some []
  | d :: ds => match pyP d, pyPs ds with
    | some p, some ps => some (p :: ps)
    | _, _ => none
end
def pyT (d : D) (M : Mem) : Option PyData := match d with
  | .ob a => (match M a with
    | some (.lst ds) => (pyPs ds).map .list
    | _ => none)
  | d => pyP d
mutual
theorem dp_P : ∀ (d : D) (p : PyData) (v : V), pyP d = some p → Rp K H d v → Dp K H v p
  | .non, _, _, e, r => by cases e; cases r; exact .non
  | .bl b, _, _, e, r => by cases e; cases r; exact .bl b
  | .int i, _, _, e, r => by cases e; cases r; exact .int i
  | .str s, _, _, e, r => by cases e; cases r; exact .str s
  | .tup ds, p, _, e, r => by
    obtain ⟨a, xs, rfl, ha, ra⟩ := r
    have e' : (pyPs ds).map PyData.tuple = some p := e
    cases q : pyPs ds with
    | none => rw [q] at e'; cases e'
    | some ps =>
      rw [q] at e'
      cases e'
      exact .tup ha (dp_Ps ds ps xs q ra)
  | .ob _, _, _, e, _ => nomatch e
  | .scr _, _, _, e, _ => nomatch e
theorem dp_Ps : ∀ (ds : List D) (ps : List PyData) (vs : List V), pyPs ds = some ps → Rps K H ds vs → DpAll K H vs ps
  | [], _, _, e, r => by
    cases e
    have z : _ = [] := r
    rw [z]
    exact .nil
  | d :: ds, ps, _, e, r => by
    obtain ⟨v, w, rfl, r1, r2⟩ := r
    unfold pyPs at e
    split at e
    · rename_i p qs e1 e2
      cases e
      exact .cons (dp_P d p v e1 r1) (dp_Ps ds qs w e2 r2)
    · cases e
end
theorem dp_T {M : Mem} {d : D} {p : PyData} {v : V} (e : pyT d M = some p) (m : Rep K H M) (r : Rp K H d v) : Dp K H v p := by
  unfold pyT at e
  split at e
  · rename_i a
    split at e
    · rename_i ds em
      obtain ⟨xs, ha, ra⟩ := lst_of m em
      cases r
      cases q : pyPs ds with
      | none => rw [q] at e; cases e
      | some ps =>
        rw [q] at e
        cases e
        exact .lst (.of ha) (dp_Ps ds ps xs q ra)
    · cases e
  · exact dp_P d p v e r
/-! ### repr -/
def dRpr (da : DE) : DE := fun dl M q Xi => da dl M (fun d M1 => match d with
  | .tup _ => ∃ p, pyT d M1 = some p ∧ p.showable = true ∧ p.hasDict = false ∧ p.depth ≤ 64 ∧ p.shown.length ≤ sizeLine ∧ q (.str p.shown) M1
  | .ob _ => ∃ p, pyT d M1 = some p ∧ p.showable = true ∧ p.hasDict = false ∧ p.depth ≤ 64 ∧ p.shown.length ≤ sizeLine ∧ q (.str p.shown) M1
  | _ => False) Xi
def rRpr (K : PySem.W.Frag) : List V → Hp → VK → Prop := fun xs H Q => ∃ a d, xs = [.ref a] ∧ Dp K H (.ref a) d ∧ d.showable = true ∧ d.hasDict = false ∧ d.depth ≤ 64 ∧ d.shown.length ≤ sizeLine ∧ Q (.str d.shown) H
theorem c_rpr (h : cE G (dRpr da) σ H Q) : tCB (rRpr G.K) (tCons (cE G da) tNil) σ H Q := by
  obtain ⟨dl, M, q, Xi, ok, hd, k, kx⟩ := h
  refine ⟨dl, M, _, Xi, ok, hd, fun v H1 d M1 r1 p1 f1 q1 => ?_, kx⟩
  cases d with
  | tup ds =>
    obtain ⟨p, ep, h1, h2, h3, h4, q1⟩ := q1
    have dp := dp_T ep p1 r1
    obtain ⟨a, xs, rfl, ha, ra⟩ := r1
    exact ⟨a, p, rfl, dp, h1, h2, h3, h4, k _ H1 (.str p.shown) M1 rfl p1 f1 q1⟩
  | ob a =>
    obtain ⟨p, ep, h1, h2, h3, h4, q1⟩ := q1
    have dp := dp_T ep p1 r1
    cases r1
    exact ⟨a, p, rfl, dp, h1, h2, h3, h4, k _ H1 (.str p.shown) M1 rfl p1 f1 q1⟩
  | _ => exact q1.elim
/-! ### != of many kinds; * of numbers or of a tuple -/
def isDc : Option Ob → Bool
  | some (.dct _) => true
  | _ => false
def fNeU : DF2 := fun x y M q => match x, y with
  | .int i, .int j => q (.bl (!decide (i = j))) M
  | .str i, .str j => q (.bl (!decide (i = j))) M
  | .ob a, .tup ys => (if isDc (M a) then q (.bl true) M else ∃ p r, pyT (.ob a) M = some p ∧ pyP (.tup ys) = some r ∧ SeqAt.shaped p = true ∧ SeqAt.shaped r = true ∧ q (.bl (!PyData.eqv p r)) M)
  | x, .tup ys => ∃ p r, pyT x M = some p ∧ pyP (.tup ys) = some r ∧ SeqAt.shaped p = true ∧ SeqAt.shaped r = true ∧ q (.bl (!PyData.eqv p r)) M
  | _, _ => False
def rNeU (K : PySem.W.Frag) : R2 := fun x y H Q => rNe x y H Q ∨ (rNeDT K x y H Q ∨ rNeD K x y H Q)
theorem op_neU (hu : X.A.units + 64 < cLine) : OpR X (compareOp .NotEq) (rNeU X.K) := op_ne.or ((op_neDT hu).or (op_neD hu))
theorem lift_neU : Lifts K fNeU (rNeU K) := by
  intro H M x y v u q Q p rx ry h k
  unfold fNeU at h
  split at h
  · rename_i i j
    cases rx
    cases ry
    refine .inl ⟨rfl, k _ H (.bl (!decide (i = j))) M ?_ p Fr.refl h⟩
    rw [vint]
    rfl
  · rename_i i j
    cases rx
    cases ry
    refine .inl ⟨rfl, k _ H (.bl (!decide (i = j))) M ?_ p Fr.refl h⟩
    rw [vstr]
    rfl
  · rename_i a ys
    split at h
    · rename_i hdc
      unfold isDc at hdc
      split at hdc
      · rename_i kvs em
        obtain ⟨ws, hw, _⟩ := (show ∃ ws, H a = some (.dK (dkOf (kvs.map (·.1)) ws)) ∧ Rps K H (kvs.map (·.2)) ws from p a _ em)
        cases rx
        obtain ⟨b, us, rfl, hb, _⟩ := ry
        exact .inr (.inl ⟨a, b, _, us, rfl, rfl, hw, hb, k _ H (.bl true) M rfl p Fr.refl h⟩)
      · cases hdc
    · obtain ⟨e, r, e1, e2, s1, s2, h⟩ := h
      exact .inr (.inr ⟨e, r, dp_T e1 p rx, dp_P _ r u e2 ry, s1, s2, k _ H (.bl _) M rfl p Fr.refl h⟩)
  · obtain ⟨e, r, e1, e2, s1, s2, h⟩ := h
    exact .inr (.inr ⟨e, r, dp_T e1 p rx, dp_P _ r u e2 ry, s1, s2, k _ H (.bl _) M rfl p Fr.refl h⟩)
  · exact h.elim
def fMul : DF2 := fun x y M q => match x, y with
  | .int i, .int j => CMul i j ∧ q (.int (i * j)) M
  | .tup ds, .int k => ds ≠ [] ∧ 2 ≤ k ∧ k ≤ 10000 ∧ ds.length ≤ 100 ∧ q (.tup (List.replicate k.toNat ds).flatten) M
  | _, _ => False
def rMulU (K : PySem.W.Frag) : R2 := fun x y H Q => rI CMul (fun i j => .int (i * j)) x y H Q ∨ rRepU K x y H Q
theorem op_mulU : OpR X (binaryOp .Mult) (rMulU X.K) := op_mul.or op_repU
theorem Rps.many {ds : List D} {vs : List V} (r : Rps K H ds vs) : ∀ n : Nat, Rps K H (List.replicate n ds).flatten (List.replicate n vs).flatten
  | 0 => rfl
  | n + 1 => by
    rw [List.replicate_succ, List.flatten_cons, List.replicate_succ, List.flatten_cons]
    exact r.append (Rps.many r n)
theorem lift_mulU : Lifts K fMul (rMulU K) := by
  intro H M x y v u q Q p rx ry h k
  unfold fMul at h
  split at h
  · rename_i i j
    exact .inl ⟨i, j, rx, ry, h.1, k _ H (.int (i * j)) M rfl p Fr.refl h.2⟩
  · rename_i ds n
    obtain ⟨a, xs, rfl, ha, ra⟩ := rx
    obtain ⟨h1, h2, h3, h4, h⟩ := h
    refine .inr ⟨a, n, xs, rfl, ry, ha, fun e => h1 ?_, h2, h3, by rw [ra.length]; exact h4, fun z hz => k _ _ (.tup (List.replicate n.toNat ds).flatten) M ⟨z, _, rfl, .of upd_same, (ra.many n.toNat).mono (TK.new hz)⟩ (p.new hz) (.new hz) h⟩
    have l := ra.length
    rw [e] at l
    exact List.eq_nil_of_length_eq_zero l.symm
  · exact h.elim
/-! ### the table of operators -/
inductive B2 where
  | add | sub | mul | fdiv | mod | pow | shl | shr | band | bor | bxor | lt | le | gt | ge | eq | ne | isN | notN | isin
def fB : B2 → DF2
  | .add => fAdd
  | .sub => fI0 fun i j => .int (i - j)
  | .mul => fMul
  | .fdiv => fI (fun _ j => 0 < j ∧ j < 1073741824) fun i j => .int (i / j)
  | .mod => fI (fun _ j => 0 < j) fun i j => .int (i % j)
  | .pow => fI CPow fun i j => .int (i ^ j.toNat)
  | .shl => fI CShl fun i j => .int (i * 2 ^ j.toNat)
  | .shr => fI (fun _ j => 0 ≤ j) fun i j => .int (i / 2 ^ j.toNat)
  | .band => fI0 fun i j => .int (Builtin.bitAnd i j)
  | .bor => fI0 fun i j => .int (Builtin.bitOr i j)
  | .bxor => fI0 fun i j => .int (Builtin.bitXor i j)
  | .lt => fI0 fun i j => .bl (decide (i < j))
  | .le => fI0 fun i j => .bl (decide (i ≤ j))
  | .gt => fI0 fun i j => .bl (decide (j < i))
  | .ge => fI0 fun i j => .bl (decide (j ≤ i))
  | .eq => fEq
  | .ne => fNeU
  | .isN => fIsN
  | .notN => fNotN
  | .isin => fIn
def rB (K : PySem.W.Frag) : B2 → R2
  | .add => rAddU K
  | .sub => rI0 fun i j => .int (i - j)
  | .mul => rMulU K
  | .fdiv => rI CDiv fun i j => .int (i / j)
  | .mod => rI (fun _ j => 0 < j) fun i j => .int (i % j)
  | .pow => rI CPow fun i j => .int (i ^ j.toNat)
  | .shl => rI CShl fun i j => .int (i * 2 ^ j.toNat)
  | .shr => rI (fun _ j => 0 ≤ j) fun i j => .int (i / 2 ^ j.toNat)
  | .band => rI0 fun i j => .int (Builtin.bitAnd i j)
  | .bor => rI0 fun i j => .int (Builtin.bitOr i j)
  | .bxor => rI0 fun i j => .int (Builtin.bitXor i j)
  | .lt => rI0 fun i j => .bl (decide (i < j))
  | .le => rI0 fun i j => .bl (decide (i ≤ j))
  | .gt => rI0 fun i j => .bl (decide (j < i))
  | .ge => rI0 fun i j => .bl (decide (j ≤ i))
  | .eq => rEq
  | .ne => rNeU K
  | .isN => fun x y H Q => y = .non ∧ Q (.bl (decide (x = .non))) H
  | .notN => fun x y H Q => y = .non ∧ Q (.bl (!decide (x = .non))) H
  | .isin => rIn K false
theorem lift_B : ∀ o : B2, Lifts K (fB o) (rB K o)
  | .add => lift_add
  | .sub => lift_I0 fun _ _ _ => rfl
  | .mul => lift_mulU
  | .fdiv => lift_I (fun _ _ h => h) fun _ _ _ => rfl
  | .mod => lift_I (fun _ _ h => h) fun _ _ _ => rfl
  | .pow => lift_I (fun _ _ h => h) fun _ _ _ => rfl
  | .shl => lift_I (fun _ _ h => h) fun _ _ _ => rfl
  | .shr => lift_I (fun _ _ h => h) fun _ _ _ => rfl
  | .band => lift_I0 fun _ _ _ => rfl
  | .bor => lift_I0 fun _ _ _ => rfl
  | .bxor => lift_I0 fun _ _ _ => rfl
  | .lt => lift_I0 fun _ _ _ => rfl
  | .le => lift_I0 fun _ _ _ => rfl
  | .gt => lift_I0 fun _ _ _ => rfl
  | .ge => lift_I0 fun _ _ _ => rfl
  | .eq => lift_eq
  | .ne => lift_neU
  | .isN => lift_isN
  | .notN => lift_notN
  | .isin => lift_in
def binOf : Operator → Option B2
  | .Add => some .add
  | .Sub => some .sub
  | .Mult => some .mul
  | .FloorDiv => some .fdiv
  | .Mod => some .mod
  | .Pow => some .pow
  | .LShift => some .shl
  | .RShift => some .shr
  | .BitAnd => some .band
  | .BitOr => some .bor
  | .BitXor => some .bxor
  | _ => none
def cmpOf : CmpOp → Option B2
  | .Lt => some .lt
  | .LtE => some .le
  | .Gt => some .gt
  | .GtE => some .ge
  | .Eq => some .eq
  | .NotEq => some .ne
  | .Is => some .isN
  | .IsNot => some .notN
  | .In => some .isin
  | .NotIn => none
theorem op_bin : ∀ {op : Operator} {o : B2}, binOf op = some o → OpR X (binaryOp op) (rB X.K o)
  | .Add, _, e => by cases e; exact op_addU
  | .Sub, _, e => by cases e; exact op_sub
  | .Mult, _, e => by cases e; exact op_mulU
  | .FloorDiv, _, e => by cases e; exact op_fdiv
  | .Mod, _, e => by cases e; exact op_mod
  | .Pow, _, e => by cases e; exact op_pow
  | .LShift, _, e => by cases e; exact op_shlW
  | .RShift, _, e => by cases e; exact op_shr
  | .BitAnd, _, e => by cases e; exact op_and
  | .BitOr, _, e => by cases e; exact op_or
  | .BitXor, _, e => by cases e; exact op_xor
  | .Div, _, e => nomatch e
  | .MatMult, _, e => nomatch e
theorem op_cmp (hu : X.A.units + 64 < cLine) : ∀ {op : CmpOp} {o : B2}, cmpOf op = some o → OpR X (compareOp op) (rB X.K o)
  | .Lt, _, e => by cases e; exact op_lt
  | .LtE, _, e => by cases e; exact op_le
  | .Gt, _, e => by cases e; exact op_gt
  | .GtE, _, e => by cases e; exact op_ge
  | .Eq, _, e => by cases e; exact op_eq
  | .NotEq, _, e => by cases e; exact op_neU hu
  | .Is, _, e => by cases e; exact op_isN
  | .IsNot, _, e => by cases e; exact op_notN
  | .In, _, e => by cases e; exact op_in_seq
  | .NotIn, _, e => nomatch e
end
end K7
/-! K7, part 7: trees of expressions; how a tree is read off from the program's form, and why that is right. -/
namespace K7
open PySem PySem.Spec L2
open PyProof.Rows hiding St

mutual
inductive A where
  | v (i : Nat) | c (d : D) | neg (a : A) | tup (as : List A) | lst (as : List A) | dsp (ks : List Str) (as : List A) | newD
  | bin (o : B2) (a b : A) | chn (o p : B2) (a b c : A) | emp (ne isT : Bool) (a : A)
  | and (a b : A) | or (a b : A) | not (a : A) | ife (c a b : A)
  | call (k : Nat) (as : List A)
  | len (a : A) | mn (a b : A) | mx (a b : A) | int (a : A) | tof (a : A) | lof (a : A) | lrg (a : A) | rpr (a : A) | bits (a : A) | isi (a : A) (T : String)
  | ix (a b : A) | dg (a b : A) | sl (a lo hi : A) | slL (a lo : A) | slU (a hi : A) | rev (a : A) | rank (a : A)
  | app (a b : A) | pop (a b : A) | ext (a b : A)
  | lc (i : I) (t : Tg) (e : A) | lcT (i : I) (t : Tg) (tst e : A)
inductive I where
  | seq (a : A) | r1 (a : A) | r2 (a b : A) | r3 (a b c : A) | en (a : A)
end
def dNeg (da : DE) : DE := fun dl M q Xi => da dl M (fun d M1 => match d with
  | .int i => q (.int (-i)) M1
  | _ => False) Xi
def rankD (s : Str) : Option Int := if s = wAck then some 0 else if s = wRoom then some 1 else if s = wData then some 2 else if s = wPing then some 3 else none
def dRank (da : DE) : DE := fun dl M q Xi => da dl M (fun d M1 => match d with
  | .str s => (match rankD s with
    | some i => q (.int i) M1
    | none => False)
  | _ => False) Xi
mutual
def dE (C : Nat → DF) : A → DE
  | .v i => dVar i
  | .c d => dC d
  | .neg a => dNeg (dE C a)
  | .tup as => dTup (dEs C as)
  | .lst as => dLst (dEs C as)
  | .dsp ks as => dDisp ks (dEs C as)
  | .newD => dNewD
  | .bin o a b => dOp (fB o) (dE C a) (dE C b)
  | .chn o p a b c => dChn (fB o) (fB p) (dE C a) (dE C b) (dE C c)
  | .emp ne isT a => dEmp ne isT (dE C a)
  | .and a b => dAnd (dE C a) (dE C b)
  | .or a b => dOr (dE C a) (dE C b)
  | .not a => dNot (dE C a)
  | .ife c a b => dIf (dE C c) (dE C a) (dE C b)
  | .call k as => dCall (C k) (dEs C as)
  | .len a => dCB fLen (dCons (dE C a) dNil)
  | .mn a b => dCB fMin (dCons (dE C a) (dCons (dE C b) dNil))
  | .mx a b => dCB fMax (dCons (dE C a) (dCons (dE C b) dNil))
  | .int a => dCB fInt (dCons (dE C a) dNil)
  | .tof a => dCB fTup (dCons (dE C a) dNil)
  | .lof a => dCB fLst (dCons (dE C a) dNil)
  | .lrg a => dLRg (dE C a)
  | .rpr a => dRpr (dE C a)
  | .bits a => dBits (dE C a)
  | .isi a T => dIsi (dE C a) T
  | .ix a b => dOp fIx (dE C a) (dE C b)
  | .dg a b => dOp fDg (dE C a) (dE C b)
  | .sl a lo hi => dSl (dE C a) (dPart (dE C lo)) (dPart (dE C hi))
  | .slL a lo => dSl (dE C a) (dPart (dE C lo)) dNoP
  | .slU a hi => dSl (dE C a) dNoP (dPart (dE C hi))
  | .rev a => dRev (dE C a)
  | .rank a => dRank (dE C a)
  | .app a b => dApp (dE C a) (dE C b)
  | .pop a b => dPop (dE C a) (dE C b)
  | .ext a b => dExt (dE C a) (dE C b)
  | .lc i t e => dLc (dI C i) t none (dE C e)
  | .lcT i t b e => dLc (dI C i) t (some (dE C b)) (dE C e)
def dEs (C : Nat → DF) : List A → DA
  | [] => dNil
  | a :: as => dCons (dE C a) (dEs C as)
def dI (C : Nat → DF) : I → DI
  | .seq a => diSeq (dE C a)
  | .r1 a => diR1 (dCons (dE C a) dNil)
  | .r2 a b => diR2 (dCons (dE C a) (dCons (dE C b) dNil))
  | .r3 a b c => diR3 (dCons (dE C a) (dCons (dE C b) (dCons (dE C c) dNil)))
  | .en a => diEn (dE C a)
end
theorem dEs_all (C : Nat → DF) : ∀ as : List A, dEs C as = dAll (as.map (dE C))
  | [] => by rw [dEs]; rfl
  | a :: as => by
    rw [dEs, dEs_all C as]
    rfl

/-! ### side conditions, by the form -/
def notStar : PySem.Expr → Bool
  | .Starred _ _ => false
  | _ => true
theorem star_of {e : PySem.Expr} {es : List PySem.Expr} {env : PySem.Env} (h : notStar e = true) : starEach (e :: es) env = (false, eval e env) :: starEach es env := by
  cases e <;> first | rfl | cases h
theorem plain_of (pos : Pos) {env : PySem.Env} : ∀ {es : List PySem.Expr}, es.all notStar = true → (backTo pos (starEach es env)).any (·.1) = false
  | [], _ => rfl
  | e :: es, h => by
    rw [List.all_cons, Bool.and_eq_true] at h
    rw [star_of h.1]
    show (false || (backTo pos (starEach es env)).any (·.1)) = false
    rw [plain_of pos h.2]
    rfl
/-- isTrue by the value -/
def valT : PySem.Expr → Bool
  | .UnaryOp .Not _ _ => false
  | .BoolOp _ _ _ => false
  | .IfExp _ _ _ _ => false
  | .Compare _ _ _ _ => false
  | _ => true
theorem true_of {e : PySem.Expr} {env : PySem.Env} (h : valT e = true) (whole : Sem Value) : isTrue e env whole = (do let v ← whole; standAt e.pos; holding [v] (truthy v)) := by
  cases e with
  | UnaryOp op a p => cases op <;> first | rfl | cases h
  | BoolOp _ _ _ => cases h
  | IfExp _ _ _ _ => cases h
  | Compare _ _ _ _ => cases h
  | _ => rfl
def notIf : PySem.Expr → Bool
  | .IfExp _ _ _ _ => false
  | _ => true
def notCall : PySem.Expr → Bool
  | .Call _ _ _ _ => false
  | _ => true
theorem base_of {e : PySem.Expr} {n : Str} {env : PySem.Env} (h : notCall e = true) : attributeBase e n env (eval e env) = eval e env := by
  cases e <;> first | rfl | cases h
def notSl : PySem.Expr → Bool
  | .Slice _ _ _ _ => false
  | _ => true
theorem sub_of {e : PySem.Expr} (h : notSl e = true) (o i : Value) : subscripted e false o i = operate [o, i] (getItem o i) := by
  cases e <;> first | rfl | cases h
def notSet : PySem.Expr → Bool
  | .Set _ _ _ => false
  | _ => true
theorem fold_of {e : PySem.Expr} {env : PySem.Env} (h : notSet e = true) (x : Value) : foldedSetIterable e env x = pure x := by
  cases e <;> first | rfl | cases h
theorem mark_of {op : CmpOp} {e : PySem.Expr} (h : notSet e = true) : behindInMarks op e = false := by
  cases e <;> first | rfl | cases h
theorem marks_of {op op' : CmpOp} {b c : PySem.Expr} (h : notSet c = true) : lastMarks [op, op'] [b, c] = false := mark_of (op := op') (e := c) h

/-! ### scopes -/
structure Sc where
  full : Bool
  N : List Str
  scope : PySem.Scope
  fns : List (Str × Nat)
  cns : List (Str × D)
  exs : List (Str × List Str)
/-- the built-in names that the program leaves free -/
def frees : List Str := ["isinstance", "len", "min", "max", "int", "bool", "str", "tuple", "list", "range", "enumerate", "repr"]
def nameRanks : Str := "RANKS"
structure Cxt (X : Cx) (G : Gh) (C : Nat → DF) (sc : Sc) : Prop where
  K : G.K = X.K
  N : X.N = sc.N
  nd : sc.N.Nodup
  scope : X.env.scope = sc.scope
  kind : sc.scope.kind = .function
  calm : X.calm = true
  gd : X.A.guards = some []
  fn : sc.full = true → ∀ x, X.fn x = true
  un : X.A.units + 100 < cLine
  tk : Takes X G.W
  own : PassesOwn (model X.prog X.w) X.A X.env X.xe
  fns : ∀ x k, sc.fns.lookup x = some k → Callee X G x (C k)
  cns : ∀ x d, sc.cns.lookup x = some d → ∃ u v, X.mg x = some u ∧ RelV v u ∧ ∀ H, Rp G.K H d v
  free : ∀ x ∈ frees, X.mg x = none
  rk : ∃ d, X.mg nameRanks = some (.ref d) ∧ ∀ s i, rankD s = some i → KDct X.K X.w d s (.int i)
def ixOf : List Str → Str → Option Nat
  | [], _ => none
  | y :: r, x => if y = x then some 0 else (ixOf r x).map (· + 1)
theorem ixOf_get : ∀ {N : List Str} {x : Str} {i : Nat}, ixOf N x = some i → N[i]? = some x
  | y :: r, x, i, h => by
    unfold ixOf at h
    split at h
    · rename_i e
      cases h
      rw [e]
      rfl
    · cases q : ixOf r x with
      | none => rw [q] at h; cases h
      | some j =>
        rw [q] at h
        cases h
        show r[j]? = some x
        exact ixOf_get q
def badName (x : Str) : Bool := x == ("__debug__" : Str) || x == ("__classdict__" : Str)
def kindIn (sc : Sc) (x : Str) : Option NameKind := sc.scope.names.lookup x
def glB (sc : Sc) (x : Str) : Bool := kindIn sc x == some .globalImplicit
def visB (sc : Sc) (x : Str) : Bool := kindIn sc x == some .local || kindIn sc x == some .cell || kindIn sc x == some .free
def trName (sc : Sc) (x : Str) : Option A :=
  if badName x then none
  else if visB sc x then (ixOf sc.N x).map .v
  else if glB sc x then (sc.cns.lookup x).map .c
  else none
section
variable {X : Cx} {G : Gh} {C : Nat → DF} {sc : Sc}
theorem Cxt.gl (c : Cxt X G C sc) {x : Str} (h : glB sc x = true) : Gl X x := by
  have z : kindIn sc x = some .globalImplicit := by
    unfold glB at h
    exact eq_of_beq h
  unfold Gl Env.kindOf
  rw [c.scope]
  exact z
theorem Cxt.vis (c : Cxt X G C sc) {x : Str} (h : visB sc x = true) : Vis X.env.scope x := by
  unfold visB at h
  unfold Vis
  rw [c.scope]
  rw [Bool.or_eq_true, Bool.or_eq_true] at h
  rcases h with (h | h) | h
  · exact .inl (eq_of_beq h)
  · exact .inr (.inl (eq_of_beq h))
  · exact .inr (.inr (eq_of_beq h))
theorem bad_of {x : Str} (h : ¬ badName x = true) : (x == ("__debug__" : Str)) = false ∧ (x == ("__classdict__" : Str)) = false := by
  unfold badName at h
  rw [Bool.or_eq_true] at h
  refine ⟨?_, ?_⟩
  · exact Bool.eq_false_iff.mpr fun z => h (.inl z)
  · exact Bool.eq_false_iff.mpr fun z => h (.inr z)
theorem s_name (c : Cxt X G C sc) {x : Str} {pos : Pos} {a : A} (h : trName sc x = some a) : PE X (.Name x pos) (cE G (dE C a)) := by
  unfold trName at h
  split at h
  · cases h
  · rename_i hb
    obtain ⟨b1, b2⟩ := bad_of hb
    split at h
    · rename_i hv
      cases q : ixOf sc.N x with
      | none => rw [q] at h; cases h
      | some i =>
        rw [q] at h
        cases h
        rw [dE]
        exact (pe_var (i := i) (by rw [c.N]; exact ixOf_get q) (c.vis hv) b1 b2).imp fun _ _ _ z => c_var z
    · split at h
      · rename_i hg
        cases q : sc.cns.lookup x with
        | none => rw [q] at h; cases h
        | some d =>
          rw [q] at h
          cases h
          obtain ⟨u, v, hm, r, rd⟩ := c.cns x d q
          rw [dE]
          exact (pe_glob (c.gl hg) hm r b1).imp fun _ _ _ z => c_c rd z
      · cases h

/-! ### what a reading of a part promises -/
structure Snd (X : Cx) (G : Gh) (C : Nat → DF) (e : PySem.Expr) (a : A) : Prop where
  pe : PE X e (cE G (dE C a))
  pt : notIf e = true → PT X e (cT G (dTest (dE C a)))
def Good (f : PySem.Expr → Option A) (X : Cx) (G : Gh) (C : Nat → DF) : Prop := ∀ e a, f e = some a → Snd X G C e a
theorem snd_val {e : PySem.Expr} {a : A} (hv : valT e = true) (h : PE X e (cE G (dE C a))) : Snd X G C e a :=
  ⟨h, fun _ => (pt_val h (true_of hv)).imp fun _ _ _ q => c_B q⟩
def trL (f : PySem.Expr → Option A) : List PySem.Expr → Option (List A)
  | [] => some []
  | e :: es => if notStar e then (match f e, trL f es with
    | some a, some as => some (a :: as)
    | _, _ => none) else none
theorem trL_star {f : PySem.Expr → Option A} : ∀ {es : List PySem.Expr} {as : List A}, trL f es = some as → es.all notStar = true
  | [], _, _ => rfl
  | e :: es, as, h => by
    unfold trL at h
    split at h
    · rename_i hs
      split at h
      · rename_i a bs h1 h2
        rw [List.all_cons, hs, trL_star h2]
        rfl
      · cases h
    · cases h
theorem s_list {f : PySem.Expr → Option A} (g : Good f X G C) : ∀ {es : List PySem.Expr} {as : List A}, trL f es = some as → PA X es (cA G (dEs C as))
  | [], as, h => by
    cases h
    rw [dEs]
    exact pa_nil.imp fun _ _ _ q => c_nil q
  | e :: es, as, h => by
    unfold trL at h
    split at h
    · rename_i hs
      split at h
      · rename_i a bs h1 h2
        cases h
        rw [dEs]
        exact (pa_cons (g e a h1).pe (s_list g h2) (star_of hs)).imp fun _ _ _ q => c_cons q
      · cases h
    · cases h
theorem s_list1 {f : PySem.Expr → Option A} (g : Good f X G C) {e : PySem.Expr} {a : A} (h : f e = some a) (hs : notStar e = true) : PA X [e] (cA G (dCons (dE C a) dNil)) :=
  (pa_cons (g e a h).pe (pa_nil.imp (t' := cA G dNil) fun _ _ _ q => c_nil q) (star_of hs)).imp fun _ _ _ q => c_cons q
theorem s_list2 {f : PySem.Expr → Option A} (g : Good f X G C) {e e2 : PySem.Expr} {a a2 : A} (h : f e = some a) (h2 : f e2 = some a2) (hs : notStar e = true) (hs2 : notStar e2 = true) : PA X [e, e2] (cA G (dCons (dE C a) (dCons (dE C a2) dNil))) :=
  (pa_cons (g e a h).pe (s_list1 g h2 hs2) (star_of hs)).imp fun _ _ _ q => c_cons q
theorem s_list3 {f : PySem.Expr → Option A} (g : Good f X G C) {e e2 e3 : PySem.Expr} {a a2 a3 : A} (h : f e = some a) (h2 : f e2 = some a2) (h3 : f e3 = some a3) (hs : notStar e = true) (hs2 : notStar e2 = true) (hs3 : notStar e3 = true) :
    PA X [e, e2, e3] (cA G (dCons (dE C a) (dCons (dE C a2) (dCons (dE C a3) dNil)))) :=
  (pa_cons (g e a h).pe (s_list2 g h2 h3 hs2 hs3) (star_of hs)).imp fun _ _ _ q => c_cons q
end
end K7
/-! K7, part 8: reading expressions. -/
namespace K7
open PySem PySem.Spec L2
open PyProof.Rows hiding St

def gd {α : Type} (b : Bool) (x : Option α) : Option α := if b = true then x else none
theorem gd_some {α : Type} {b : Bool} {x : Option α} {z : α} (h : gd b x = some z) : b = true ∧ x = some z := by
  unfold gd at h
  split at h
  · rename_i e
    exact ⟨e, h⟩
  · cases h
def o1 {α β : Type} (x : Option α) (g : α → β) : Option β := match x with
  | some a => some (g a)
  | none => none
theorem o1_some {α β : Type} {x : Option α} {g : α → β} {z : β} (h : o1 x g = some z) : ∃ a, x = some a ∧ g a = z := by
  unfold o1 at h
  split at h
  · cases h
    exact ⟨_, rfl, rfl⟩
  · cases h
def o2 {α β γ : Type} (x : Option α) (y : Option β) (g : α → β → γ) : Option γ := match x, y with
  | some a, some b => some (g a b)
  | _, _ => none
theorem o2_some {α β γ : Type} {x : Option α} {y : Option β} {g : α → β → γ} {z : γ} (h : o2 x y g = some z) : ∃ a b, x = some a ∧ y = some b ∧ g a b = z := by
  unfold o2 at h
  split at h
  · cases h
    exact ⟨_, _, rfl, rfl, rfl⟩
  · cases h
def o3 {α β γ δ : Type} (x : Option α) (y : Option β) (w : Option γ) (g : α → β → γ → δ) : Option δ := match x, y, w with
  | some a, some b, some c => some (g a b c)
  | _, _, _ => none
theorem o3_some {α β γ δ : Type} {x : Option α} {y : Option β} {w : Option γ} {g : α → β → γ → δ} {z : δ} (h : o3 x y w g = some z) : ∃ a b c, x = some a ∧ y = some b ∧ w = some c ∧ g a b c = z := by
  unfold o3 at h
  split at h
  · cases h
    exact ⟨_, _, _, rfl, rfl, rfl, rfl⟩
  · cases h
section
variable {X : Cx} {G : Gh} {C : Nat → DF} {sc : Sc} {f : PySem.Expr → Option A} {pos : Pos}
/-! ### constants -/
def trConst : Const → Option A
  | .none => some (.c .non)
  | .bool b => some (.c (.bl b))
  | .int i => some (.c (.int i))
  | .str s => some (.c (.str s))
  | _ => none
theorem s_const {k : Const} {j : Nat} {a : A} (h : trConst k = some a) : PE X (.Constant k j pos) (cE G (dE C a)) := by
  cases k with
  | none => cases h; rw [dE]; exact pe_non.imp fun _ _ _ q => c_c (d := .non) (fun _ => rfl) q
  | bool b => cases h; rw [dE]; exact pe_bl.imp fun _ _ _ q => c_c (d := .bl b) (fun _ => rfl) q
  | int b => cases h; rw [dE]; exact pe_int.imp fun _ _ _ q => c_c (d := .int b) (fun _ => rfl) q
  | str b => cases h; rw [dE]; exact pe_str.imp fun _ _ _ q => c_c (d := .str b) (fun _ => rfl) q
  | _ => cases h
/-! ### one operand -/
theorem c_neg {da : DE} {σ : St} {H : Hp} {Q : VK} (h : cE G (dNeg da) σ H Q) : tUn (rU fun i => .int (-i)) (cE G da) σ H Q := by
  obtain ⟨dl, M, q, Xi, ok, hd, k, kx⟩ := h
  refine ⟨dl, M, _, Xi, ok, hd, fun v H1 d M1 r1 p1 f1 q1 => ?_, kx⟩
  cases d with
  | int i => exact ⟨i, r1, k _ H1 (.int (-i)) M1 rfl p1 f1 q1⟩
  | _ => exact q1.elim
def trUn (f : PySem.Expr → Option A) (op : UnaryOp) (e : PySem.Expr) : Option A := match op with
  | .Not => gd (notIf e) (o1 (f e) .not)
  | .USub => o1 (f e) .neg
  | _ => none
theorem s_un (g : Good f X G C) {op : UnaryOp} {e : PySem.Expr} {a : A} (h : trUn f op e = some a) : Snd X G C (.UnaryOp op e pos) a := by
  cases op with
  | Not =>
    obtain ⟨h1, h2⟩ := gd_some (show gd (notIf e) (o1 (f e) .not) = some a from h)
    obtain ⟨b, hb, rfl⟩ := o1_some h2
    have s := g e b hb
    refine ⟨?_, fun _ => ?_⟩
    · rw [dE]
      exact (pe_not s.pe).imp fun _ _ _ q => c_notV q
    · rw [dE]
      exact (pt_not (s.pt h1)).imp fun _ _ _ q => c_not q
  | USub =>
    obtain ⟨b, hb, rfl⟩ := o1_some (show o1 (f e) .neg = some a from h)
    refine snd_val rfl ?_
    rw [dE]
    exact (pe_un un_neg (g e b hb).pe).imp fun _ _ _ q => c_neg q
  | _ => cases h
/-! ### and, or -/
def bOp : BoolOp → A → A → A
  | .And => .and
  | .Or => .or
def trB (f : PySem.Expr → Option A) (op : BoolOp) : List PySem.Expr → Option A
  | [] => none
  | [e] => gd (notIf e) (f e)
  | e :: e2 :: r => gd (notIf e) (o2 (f e) (trB f op (e2 :: r)) (bOp op))
theorem s_B (g : Good f X G C) {op : BoolOp} : ∀ {es : List PySem.Expr} {a : A}, trB f op es = some a → PE X (.BoolOp op es pos) (cE G (dE C a)) ∧ PW X (.BoolOp op es pos) (cT G (dTest (dE C a)))
  | [], _, h => nomatch h
  | [e], a, h => by
    obtain ⟨h1, h2⟩ := gd_some h
    have s := g e a h2
    refine ⟨pe_one s.pe, ?_⟩
    cases op with
    | And => exact pw_and1 (s.pt h1)
    | Or => exact pw_or1 (s.pt h1)
  | e :: e2 :: r, a, h => by
    obtain ⟨h1, h2⟩ := gd_some h
    obtain ⟨b, c, hb, hc, e'⟩ := o2_some h2
    have s := g e b hb
    obtain ⟨i1, i2⟩ := s_B g hc
    subst e'
    cases op with
    | And =>
      refine ⟨?_, ?_⟩
      · show PE X _ (cE G (dE C (.and b c)))
        rw [dE]
        exact (pe_and s.pe i1).imp fun _ _ _ q => c_andV q
      · show PW X _ (cT G (dTest (dE C (.and b c))))
        rw [dE]
        exact (pw_and (s.pt h1) i2).imp fun _ _ _ q => c_and q
    | Or =>
      refine ⟨?_, ?_⟩
      · show PE X _ (cE G (dE C (.or b c)))
        rw [dE]
        exact (pe_or s.pe i1).imp fun _ _ _ q => c_orV q
      · show PW X _ (cT G (dTest (dE C (.or b c))))
        rw [dE]
        exact (pw_or (s.pt h1) i2).imp fun _ _ _ q => c_or q
theorem s_BoolOp (g : Good f X G C) {op : BoolOp} {es : List PySem.Expr} {a : A} (h : trB f op es = some a) : Snd X G C (.BoolOp op es pos) a := by
  obtain ⟨h1, h2⟩ := s_B (pos := pos) g h
  exact ⟨h1, fun _ => ⟨fun pins s σ H Q I q => h2.run _ pins s σ H Q I q⟩⟩
/-! ### operators -/
def trBin (f : PySem.Expr → Option A) (a : PySem.Expr) (op : Operator) (b : PySem.Expr) : Option A := o3 (binOf op) (f a) (f b) .bin
theorem s_bin (c : Cxt X G C sc) (g : Good f X G C) {a b : PySem.Expr} {op : Operator} {r : A} (h : trBin f a op b = some r) : Snd X G C (.BinOp a op b pos) r := by
  obtain ⟨o, x, y, ho, hx, hy, rfl⟩ := o3_some h
  refine snd_val rfl ?_
  rw [dE]
  refine (pe_op (op_bin ho) (g a x hx).pe (g b y hy).pe).imp fun _ _ _ q => ?_
  rw [← c.K]
  exact c_op (lift_B o) q
def trCmp (f : PySem.Expr → Option A) (a : PySem.Expr) (op : CmpOp) (b : PySem.Expr) : Option A := match op, b with
  | .Eq, .Tuple [] _ _ => o1 (f a) (.emp false true)
  | .NotEq, .Tuple [] _ _ => o1 (f a) (.emp true true)
  | .Eq, .List [] _ => o1 (f a) (.emp false false)
  | .NotEq, .List [] _ => o1 (f a) (.emp true false)
  | op, b => gd (notSet b) (o3 (cmpOf op) (f a) (f b) .bin)
theorem snd_cmp {a b : PySem.Expr} {op : CmpOp} {r : R2} {x : A} {ta tb : TE} {d : DE} (ho : OpR X (compareOp op) r) (ha : PE X a ta) (hb : PE X b tb) (hs : notSet b = true) (hd : dE C x = d) (i : ∀ σ H Q, cE G d σ H Q → tOp r ta tb σ H Q) : Snd X G C (.Compare a [op] [b] pos) x := by
  refine ⟨?_, fun _ => ?_⟩
  · rw [hd]
    exact (pe_cmpR ho ha hb (mark_of hs)).imp i
  · rw [hd]
    exact (pt_cmpR ho ha hb (mark_of hs)).imp fun _ _ _ q => i _ _ _ (c_test q)
theorem s_emp (c : Cxt X G C sc) (g : Good f X G C) {a b : PySem.Expr} {op : CmpOp} {ne isT : Bool} {x : A} (hop : op = cmpEmp ne) (hb : PE X b (if isT then tTup tNil else tLst tNil)) (hs : notSet b = true) (h : o1 (f a) (.emp ne isT) = some x) : Snd X G C (.Compare a [op] [b] pos) x := by
  obtain ⟨y, hy, rfl⟩ := o1_some h
  subst hop
  refine snd_cmp (op_emp (by have := c.un; omega) ne isT) (g a y hy).pe hb hs (by rw [dE]) fun _ _ _ q => ?_
  rw [← c.K]
  exact c_emp q
theorem s_cmp (c : Cxt X G C sc) (g : Good f X G C) {a b : PySem.Expr} {op : CmpOp} {x : A} (h : trCmp f a op b = some x) : Snd X G C (.Compare a [op] [b] pos) x := by
  unfold trCmp at h
  split at h
  · exact s_emp (ne := false) (isT := true) c g rfl (pe_tup pa_nil) rfl h
  · exact s_emp (ne := true) (isT := true) c g rfl (pe_tup pa_nil) rfl h
  · exact s_emp (ne := false) (isT := false) c g rfl (pe_lst pa_nil) rfl h
  · exact s_emp (ne := true) (isT := false) c g rfl (pe_lst pa_nil) rfl h
  · obtain ⟨hs, h⟩ := gd_some h
    obtain ⟨o, y, z, ho, hy, hz, rfl⟩ := o3_some h
    refine snd_cmp (op_cmp (by have := c.un; omega) ho) (g a y hy).pe (g b z hz).pe hs (by rw [dE]) fun _ _ _ q => ?_
    rw [← c.K]
    exact c_op (lift_B o) q
def trChn (f : PySem.Expr → Option A) (a : PySem.Expr) (op op2 : CmpOp) (b c : PySem.Expr) : Option A := gd (notSet c) (o2 (cmpOf op) (cmpOf op2) Prod.mk |>.bind fun p => o3 (f a) (f b) (f c) (.chn p.1 p.2))
theorem s_chn (cx : Cxt X G C sc) (g : Good f X G C) {a b c : PySem.Expr} {op op2 : CmpOp} {x : A} (h : trChn f a op op2 b c = some x) : Snd X G C (.Compare a [op, op2] [b, c] pos) x := by
  obtain ⟨hs, h⟩ := gd_some h
  obtain ⟨p, hp, h⟩ := Option.bind_eq_some_iff.mp h
  obtain ⟨o, o', ho, ho', rfl⟩ := o2_some hp
  obtain ⟨y, z, w, hy, hz, hw, rfl⟩ := o3_some h
  have hu : X.A.units + 64 < cLine := by have := cx.un; omega
  have i : ∀ σ H Q, cE G (dChn (fB o) (fB o') (dE C y) (dE C z) (dE C w)) σ H Q → tChain (rB X.K o) (rB X.K o') (cE G (dE C y)) (cE G (dE C z)) (cE G (dE C w)) σ H Q := fun _ _ _ q => by
    rw [← cx.K]
    exact c_chn (lift_B o) (lift_B o') q
  refine ⟨?_, fun _ => ?_⟩
  · rw [dE]
    exact (pe_chain (op_cmp hu ho) (op_cmp hu ho') (g a y hy).pe (g b z hz).pe (g c w hw).pe (marks_of hs)).imp i
  · rw [dE]
    exact (pt_chain (op_cmp hu ho) (op_cmp hu ho') (g a y hy).pe (g b z hz).pe (g c w hw).pe (marks_of hs)).imp fun _ _ _ q => i _ _ _ (c_test q)
/-! ### a if c else b -/
def trIf (f : PySem.Expr → Option A) (c a b : PySem.Expr) : Option A := gd (notIf c) (o3 (f c) (f a) (f b) .ife)
theorem s_if (g : Good f X G C) {c a b : PySem.Expr} {x : A} (h : trIf f c a b = some x) : Snd X G C (.IfExp c a b pos) x := by
  obtain ⟨hs, h⟩ := gd_some h
  obtain ⟨y, z, w, hy, hz, hw, rfl⟩ := o3_some h
  refine ⟨?_, fun q => nomatch q⟩
  rw [dE]
  exact (pe_ifExp ((g c y hy).pt hs) (g a z hz).pe (g b w hw).pe).imp fun _ _ _ q => c_if q
/-! ### displays -/
theorem s_tup (g : Good f X G C) {es : List PySem.Expr} {k : Nat} {x : A} (h : o1 (trL f es) .tup = some x) : Snd X G C (.Tuple es k pos) x := by
  obtain ⟨as, ha, rfl⟩ := o1_some h
  refine snd_val rfl ?_
  rw [dE]
  exact (pe_tup (s_list g ha)).imp fun _ _ _ q => c_tup q
theorem s_lst (g : Good f X G C) {es : List PySem.Expr} {x : A} (h : o1 (trL f es) .lst = some x) : Snd X G C (.List es pos) x := by
  obtain ⟨as, ha, rfl⟩ := o1_some h
  refine snd_val rfl ?_
  rw [dE]
  exact (pe_lst (s_list g ha)).imp fun _ _ _ q => c_lst q
def trKeys : List (Option PySem.Expr) → Option (List Str)
  | [] => some []
  | some (.Constant (.str s) _ _) :: r => o1 (trKeys r) (s :: ·)
  | _ :: _ => none
def nodupB : List Str → Bool
  | [] => true
  | x :: r => !(r.any fun y => decide (y = x)) && nodupB r
theorem nodup_of : ∀ {l : List Str}, nodupB l = true → l.Nodup
  | [], _ => List.nodup_nil
  | x :: r, h => by
    unfold nodupB at h
    rw [Bool.and_eq_true] at h
    rw [List.nodup_cons]
    refine ⟨fun m => ?_, nodup_of h.2⟩
    have z : (r.any fun y => decide (y = x)) = true := List.any_eq_true.mpr ⟨x, m, decide_eq_true rfl⟩
    rw [z] at h
    cases h.1
def trD (f : PySem.Expr → Option A) (ks : List (Option PySem.Expr)) (vs : List PySem.Expr) : Option A := match ks, vs with
  | [], [] => some .newD
  | ks, vs => o2 (trKeys ks) (trL f vs) Prod.mk |>.bind fun p => gd (nodupB p.1 && !p.1.isEmpty && decide (p.1.length = p.2.length) && decide (p.1.length ≤ 15)) (some (.dsp p.1 p.2))
theorem s_pairs (g : Good f X G C) : ∀ {ks : List (Option PySem.Expr)} {vs : List PySem.Expr} {ss : List Str} {as : List A}, trKeys ks = some ss → trL f vs = some as → ss.length = as.length →
    PPs X pos ks vs (trsOf G ss (as.map (dE C))) ∧ ks.all (·.isSome) = true ∧ ks.length = ss.length ∧ vs.length = as.length
  | [], [], ss, as, h1, h2, _ => by
    cases h1
    cases h2
    exact ⟨pps_nil, rfl, rfl, rfl⟩
  | [], v :: vs, ss, as, h1, h2, hl => by
    cases h1
    unfold trL at h2
    split at h2
    · split at h2
      · cases h2
        simp at hl
      · cases h2
    · cases h2
  | k :: ks, [], ss, as, h1, h2, hl => by
    cases h2
    unfold trKeys at h1
    split at h1
    · rename_i e
      cases e
    · rename_i e
      obtain ⟨_, _, rfl⟩ := o1_some h1
      simp at hl
    · cases h1
  | k :: ks, v :: vs, ss, as, h1, h2, hl => by
    unfold trKeys at h1
    split at h1
    · rename_i e
      cases e
    · rename_i s j p r e
      cases e
      obtain ⟨ts, ht, rfl⟩ := o1_some h1
      unfold trL at h2
      split at h2
      · split at h2
        · rename_i a bs e1 e2
          cases h2
          have hl' : ts.length = bs.length := by simpa using hl
          obtain ⟨i1, i2, i3, i4⟩ := s_pairs g ht e2 hl'
          refine ⟨pps_cons pe_str (g v a e1).pe i1, ?_, ?_, ?_⟩
          · rw [List.all_cons, i2]
            rfl
          · rw [List.length_cons, List.length_cons, i3]
          · rw [List.length_cons, List.length_cons, i4]
        · cases h2
      · cases h2
    · cases h1
theorem s_D (g : Good f X G C) {ks : List (Option PySem.Expr)} {vs : List PySem.Expr} {x : A} (h : trD f ks vs = some x) : Snd X G C (.Dict ks vs pos) x := by
  refine snd_val rfl ?_
  unfold trD at h
  split at h
  · cases h
    rw [dE]
    exact pe_dnewK.imp fun _ _ _ q => c_newD q
  · obtain ⟨p, hp, h⟩ := Option.bind_eq_some_iff.mp h
    obtain ⟨ss, as, h1, h2, rfl⟩ := o2_some hp
    obtain ⟨hb, h⟩ := gd_some h
    cases h
    simp only [Bool.and_eq_true, decide_eq_true_eq] at hb
    obtain ⟨⟨⟨hn, hne⟩, hl⟩, h15⟩ := hb
    obtain ⟨i1, i2, i3, i4⟩ := s_pairs (pos := pos) g h1 h2 hl
    rw [dE, dEs_all]
    refine (pe_disp i1 i2 (by rw [i3, i4]; exact hl) (fun e => ?_) (by rw [i3]; exact h15)).imp fun _ _ _ q => c_disp (nodup_of hn) (by rw [List.length_map]; exact hl) h15 q
    rw [e] at i3
    have z : ss = [] := List.eq_nil_of_length_eq_zero i3.symm
    rw [z] at hne
    cases hne
/-! ### subscripts -/
theorem c_rank {d : Addr} {da : DE} {σ : St} {H : Hp} {Q : VK} {w : World} (hk : ∀ s i, rankD s = some i → KDct G.K w d s (.int i)) (h : cE G (dRank da) σ H Q) : tOp (rIxD G.K w) (tC (.ref d)) (cE G da) σ H Q := by
  obtain ⟨dl, M, q, Xi, ok, hd, k, kx⟩ := h
  show cE G da σ H _
  refine ⟨dl, M, _, Xi, ok, hd, fun v H1 d1 M1 r1 p1 f1 q1 => ?_, kx⟩
  cases d1 with
  | str s =>
    dsimp only at q1
    split at q1
    · rename_i i e
      exact ⟨d, s, .int i, rfl, r1, hk s i e, k _ H1 (.int i) M1 rfl p1 f1 q1⟩
    · exact q1.elim
  | _ => exact q1.elim
theorem po_imp {X : Cx} {e : Option PySem.Expr} {t t' : TO} (h : PO X e t) (i : ∀ σ H Q, t' σ H Q → t σ H Q) : PO X e t' := ⟨fun pins s σ H Q I q => h.run pins s σ H Q I (i σ H Q q)⟩
def isRev (s : Option PySem.Expr) : Bool := match s with
  | some (.UnaryOp .USub (.Constant (.int 1) _ _) _) => true
  | _ => false
def trSub (f : PySem.Expr → Option A) (sc : Sc) (v s : PySem.Expr) : Option A := match s with
  | .Slice none none st _ => gd (isRev st) (o1 (f v) .rev)
  | .Slice (some lo) (some hi) none _ => o3 (f v) (f lo) (f hi) .sl
  | .Slice (some lo) none none _ => o2 (f v) (f lo) .slL
  | .Slice none (some hi) none _ => o2 (f v) (f hi) .slU
  | .Slice _ _ _ _ => none
  | .Constant (.str s) _ _ => o1 (f v) fun a => .dg a (.c (.str s))
  | s => (match v with
    | .Name x _ => if x = nameRanks then gd (glB sc x) (o1 (f s) .rank) else o2 (f v) (f s) .ix
    | v => o2 (f v) (f s) .ix)
theorem s_ix (c : Cxt X G C sc) (g : Good f X G C) {v s : PySem.Expr} {x : A} (hs : notSl s = true) (h : o2 (f v) (f s) .ix = some x) : PE X (.Subscript v s pos) (cE G (dE C x)) := by
  obtain ⟨a, b, ha, hb, rfl⟩ := o2_some h
  rw [dE]
  refine (pe_ix ix_U (g v a ha).pe (g s b hb).pe (sub_of hs)).imp fun _ _ _ q => ?_
  rw [← c.K]
  exact c_op lift_ix q
theorem s_sub (c : Cxt X G C sc) (g : Good f X G C) {v s : PySem.Expr} {x : A} (h : trSub f sc v s = some x) : Snd X G C (.Subscript v s pos) x := by
  refine snd_val rfl ?_
  unfold trSub at h
  split at h
  · obtain ⟨hr, h⟩ := gd_some h
    obtain ⟨a, ha, rfl⟩ := o1_some h
    unfold isRev at hr
    split at hr
    · rw [dE]
      refine (pe_revU (g v a ha).pe).imp fun _ _ _ q => ?_
      rw [← c.K]
      exact c_rev q
    · cases hr
  · rename_i lo hi p
    obtain ⟨a, b, d, ha, hb, hd, rfl⟩ := o3_some h
    rw [dE]
    refine (pe_slice sl_tupA (g v a ha).pe (po_imp (po_some (g lo b hb).pe) fun _ _ _ q => c_part q) (po_imp (po_some (g hi d hd).pe) fun _ _ _ q => c_part q)).imp fun _ _ _ q => ?_
    rw [← c.K]
    exact c_sl q
  · rename_i lo p
    obtain ⟨a, b, ha, hb, rfl⟩ := o2_some h
    rw [dE]
    refine (pe_slice sl_tupA (g v a ha).pe (po_imp (po_some (g lo b hb).pe) fun _ _ _ q => c_part q) (po_imp (t' := cO G dNoP) po_none fun _ _ _ q => c_noP q)).imp fun _ _ _ q => ?_
    rw [← c.K]
    exact c_sl q
  · rename_i hi p
    obtain ⟨a, b, ha, hb, rfl⟩ := o2_some h
    rw [dE]
    refine (pe_slice sl_tupA (g v a ha).pe (po_imp (t' := cO G dNoP) po_none fun _ _ _ q => c_noP q) (po_imp (po_some (g hi b hb).pe) fun _ _ _ q => c_part q)).imp fun _ _ _ q => ?_
    rw [← c.K]
    exact c_sl q
  · cases h
  · rename_i s j p
    obtain ⟨a, ha, rfl⟩ := o1_some h
    rw [dE]
    refine (pe_dget (by have := c.un; omega) (g v a ha).pe (pe_str.imp (t' := cE G (dE C (.c (.str s)))) fun _ _ _ q => ?_) (sub_of rfl)).imp fun _ _ _ q => c_dg q
    rw [dE] at q
    exact c_c (d := .str s) (fun _ => rfl) q
  · rename_i n1 n2 n3 n4 n5 n6
    have hns : notSl s = true := by
      cases s with
      | Slice lo hi st p => exact absurd rfl (n5 lo hi st p)
      | _ => rfl
    split at h
    · rename_i y p
      split at h
      · rename_i ey
        subst ey
        obtain ⟨hg, h⟩ := gd_some h
        obtain ⟨a, ha, rfl⟩ := o1_some h
        obtain ⟨d, hm, hk⟩ := c.rk
        rw [dE]
        have hd : PE X (.Name nameRanks p) (tC (.ref d)) := pe_glob (c.gl hg) hm rfl (by decide)
        refine (pe_ix ix_kdict hd (g s a ha).pe (sub_of hns)).imp fun _ _ _ q => ?_
        rw [← c.K]
        exact c_rank (by rw [c.K]; exact hk) q
      · exact s_ix c g hns h
    · exact s_ix c g hns h
end
end K7
/-! K7, part 9: reading calls, comprehensions; expressions as a whole. -/
namespace K7
open PySem PySem.Spec L2
open PyProof.Rows hiding St

section
variable {X : Cx} {G : Gh} {C : Nat → DF} {sc : Sc} {f : PySem.Expr → Option A} {pos : Pos}
/-! ### calls of what is built in -/
def tyStr (t : Str) : Option String := if t = "tuple" then some "tuple" else if t = "int" then some "int" else if t = "bool" then some "bool" else if t = "str" then some "str" else none
theorem tyStr_of {t : Str} {T : String} (h : tyStr t = some T) : T ∈ isiTs ∧ bootBuiltins t = some (.type T) ∧ t ∈ frees ∧ t ≠ "__name__" ∧ (t == ("__debug__" : Str)) = false := by
  unfold tyStr at h
  split at h
  · rename_i e; subst e; cases h; exact ⟨by decide, PyProof.Rows.boot_tuple, by decide, by decide, by decide⟩
  · split at h
    · rename_i e; subst e; cases h; exact ⟨by decide, PyProof.Rows.boot_int, by decide, by decide, by decide⟩
    · split at h
      · rename_i e; subst e; cases h; exact ⟨by decide, PyProof.Rows.boot_bool, by decide, by decide, by decide⟩
      · split at h
        · rename_i e; subst e; cases h; exact ⟨by decide, PyProof.Rows.boot_str, by decide, by decide, by decide⟩
        · cases h
def trIsi (f : PySem.Expr → Option A) (sc : Sc) (a b : PySem.Expr) : Option A := match b with
  | .Name t _ => (match tyStr t with
    | some T => gd (notStar a && glB sc t) (o1 (f a) fun x => .isi x T)
    | none => none)
  | _ => none
def trList (f : PySem.Expr → Option A) (sc : Sc) (a : PySem.Expr) : Option A := match a with
  | .Call (.Name y _) [n] [] _ => if y = "range" then gd (notStar n && glB sc y) (o1 (f n) .lrg) else o1 (f a) .lof
  | a => o1 (f a) .lof
def trBlt (f : PySem.Expr → Option A) (sc : Sc) (x : Str) (args : List PySem.Expr) : Option A := match args with
  | [a] => gd (notStar a) (if x = "len" then o1 (f a) .len else if x = "int" then o1 (f a) .int else if x = "tuple" then o1 (f a) .tof else if x = "list" then trList f sc a else if x = "repr" then o1 (f a) .rpr else none)
  | [a, b] => if x = "isinstance" then trIsi f sc a b else gd (notStar a && notStar b) (if x = "min" then o2 (f a) (f b) .mn else if x = "max" then o2 (f a) (f b) .mx else none)
  | _ => none
theorem boot_min' : bootBuiltins "min" = some (.builtin "min") := by decide +kernel
theorem boot_max' : bootBuiltins "max" = some (.builtin "max") := by decide +kernel
theorem boot_repr' : bootBuiltins "repr" = some (.builtin "repr") := by decide +kernel
theorem s_lof (c : Cxt X G C sc) (g : Good f X G C) {a : PySem.Expr} {r : A} {p : Pos} (hg : glB sc "list" = true) (hs : notStar a = true) (h : o1 (f a) .lof = some r) : PE X (.Call (.Name "list" p) [a] [] pos) (cE G (dE C r)) := by
  obtain ⟨y, hy, rfl⟩ := o1_some h
  rw [dE]
  refine (pe_callTy call_list_of (c.gl hg) (c.free _ (by decide)) PyProof.Rows.boot_list (s_list1 g hy hs) (by decide) (by decide) (star_of hs) rfl).imp fun _ _ _ q => ?_
  rw [← c.K]
  exact c_cb lift_lst q
theorem s_blt (c : Cxt X G C sc) (g : Good f X G C) {x : Str} {args : List PySem.Expr} {r : A} {p : Pos} (hg : glB sc x = true) (h : trBlt f sc x args = some r) : PE X (.Call (.Name x p) args [] pos) (cE G (dE C r)) := by
  unfold trBlt at h
  split at h
  · rename_i a
    obtain ⟨hs, k⟩ := gd_some h
    clear h
    have h := k
    clear k
    split at h
    · rename_i e; subst e
      obtain ⟨y, hy, rfl⟩ := o1_some h
      rw [dE]
      refine (pe_callB call_len_seq (c.gl hg) (c.free _ (by decide)) boot_len (s_list1 g hy hs) (by decide) (by decide) (star_of hs) rfl).imp fun _ _ _ q => ?_
      have z := c_cb lift_len q
      rw [c.K] at z
      exact z
    · split at h
      · rename_i e; subst e
        obtain ⟨y, hy, rfl⟩ := o1_some h
        rw [dE]
        exact (pe_callTy call_int1 (c.gl hg) (c.free _ (by decide)) PyProof.Rows.boot_int (s_list1 g hy hs) (by decide) (by decide) (star_of hs) rfl).imp fun _ _ _ q => c_cb lift_int q
      · split at h
        · rename_i e; subst e
          obtain ⟨y, hy, rfl⟩ := o1_some h
          rw [dE]
          refine (pe_callTy call_tuple_of (c.gl hg) (c.free _ (by decide)) PyProof.Rows.boot_tuple (s_list1 g hy hs) (by decide) (by decide) (star_of hs) rfl).imp fun _ _ _ q => ?_
          have z := c_cb lift_tup q
          rw [c.K] at z
          exact z
        · split at h
          · rename_i e; subst e
            unfold trList at h
            split at h
            · rename_i y p1 n p2
              split at h
              · rename_i e; subst e
                obtain ⟨hs', h⟩ := gd_some h
                rw [Bool.and_eq_true] at hs'
                obtain ⟨z, hz, rfl⟩ := o1_some h
                rw [dE]
                exact (pe_listRg c.calm (c.gl hg) (c.free _ (by decide)) (prg_1 (c.gl hs'.2) (c.free _ (by decide)) (g n z hz).pe (star_of hs'.1)) (star_of hs)).imp fun _ _ _ q => c_lrg q
              · exact s_lof c g hg hs h
            · exact s_lof c g hg hs h
          · split at h
            · rename_i e; subst e
              obtain ⟨y, hy, rfl⟩ := o1_some h
              rw [dE]
              refine (pe_callB (call_repr c.gd (by have := c.un; omega)) (c.gl hg) (c.free _ (by decide)) boot_repr' (pa_cons (g a y hy).pe pa_nil (star_of hs)) (by decide) (by decide) (star_of hs) rfl).imp fun _ _ _ q => ?_
              have z := c_rpr q
              rw [c.K] at z
              exact z
            · cases h
  · rename_i a b
    split at h
    · rename_i e; subst e
      unfold trIsi at h
      split at h
      · rename_i t p2
        split at h
        · rename_i T eT
          obtain ⟨hs, k⟩ := gd_some h
          clear h
          have h := k
          clear k
          rw [Bool.and_eq_true] at hs
          obtain ⟨y, hy, rfl⟩ := o1_some h
          obtain ⟨t1, t2, t3, t4, t5⟩ := tyStr_of eT
          rw [dE]
          have hb : PE X (.Name t p2) (tC (.ty T)) := pe_bltn (c.gl hs.2) (c.free _ t3) t2 rfl t4 t5
          have ha : PA X [a, .Name t p2] (tCons (cE G (dE C y)) (tCons (tC (.ty T)) tNil)) := pa_cons (g a y hy).pe (pa_cons hb pa_nil (star_of rfl)) (star_of hs.1)
          refine (pe_callB call_isi (c.gl hg) (c.free _ (by decide)) PyProof.Rows.boot_isinstance ha (by decide) (by decide) (star_of hs.1) rfl).imp fun _ _ _ q => ?_
          rw [← c.K]
          exact c_isi t1 q
        · cases h
      · cases h
    · obtain ⟨hs, k⟩ := gd_some h
      clear h
      have h := k
      clear k
      rw [Bool.and_eq_true] at hs
      split at h
      · rename_i e; subst e
        obtain ⟨y, z, hy, hz, rfl⟩ := o2_some h
        rw [dE]
        exact (pe_callB (call_min2 c.calm) (c.gl hg) (c.free _ (by decide)) boot_min' (s_list2 g hy hz hs.1 hs.2) (by decide) (by decide) (star_of hs.1) (plain_of pos (by rw [List.all_cons, hs.2]; rfl))).imp fun _ _ _ q => c_cb lift_min q
      · split at h
        · rename_i e; subst e
          obtain ⟨y, z, hy, hz, rfl⟩ := o2_some h
          rw [dE]
          exact (pe_callB (call_max2 c.calm) (c.gl hg) (c.free _ (by decide)) boot_max' (s_list2 g hy hz hs.1 hs.2) (by decide) (by decide) (star_of hs.1) (plain_of pos (by rw [List.all_cons, hs.2]; rfl))).imp fun _ _ _ q => c_cb lift_max q
        · cases h
  · cases h
/-! ### calls -/
def trMeth (f : PySem.Expr → Option A) (o : PySem.Expr) (m : Str) (args : List PySem.Expr) : Option A := match args with
  | [] => if m = "bit_length" then gd (notCall o) (o1 (f o) .bits) else none
  | [a] => gd (notCall o && notStar a) (if m = "append" then o2 (f o) (f a) .app else if m = "pop" then o2 (f o) (f a) .pop else if m = "extend" then o2 (f o) (f a) .ext else none)
  | _ => none
theorem few_of {a : PySem.Expr} {env : PySem.Env} (h : notStar a = true) : ((backTo pos (starEach [a] env)).all (fun x => !x.1) && (backToKw pos (keywordEach [] env)).all (fun x => x.1.isSome)
    && decide (([a] : List PySem.Expr).length + ([] : List Keyword).length + (if ([] : List Keyword).isEmpty then 0 else 1) < 30)) = true := by
  rw [star_of h]
  rfl
theorem s_meth (c : Cxt X G C sc) (g : Good f X G C) {o : PySem.Expr} {m : Str} {args : List PySem.Expr} {r : A} {ap : Pos} (hl : (ap.endLine == pos.line) = true) (h : trMeth f o m args = some r) : PE X (.Call (.Attribute o m ap) args [] pos) (cE G (dE C r)) := by
  unfold trMeth at h
  split at h
  · split at h
    · rename_i e
      obtain ⟨hs, k⟩ := gd_some h
      clear h
      subst e
      obtain ⟨y, hy, rfl⟩ := o1_some k
      rw [dE]
      exact (pe_bits (g o y hy).pe (base_of hs) hl).imp fun _ _ _ q => c_bits q
    · cases h
  · rename_i a
    obtain ⟨hs, k⟩ := gd_some h
    clear h
    rw [Bool.and_eq_true] at hs
    split at k
    · rename_i e; subst e
      obtain ⟨y, z, hy, hz, rfl⟩ := o2_some k
      rw [dE]
      refine (pe_bm F.plainAttrs_list F.slot_list_append F.type_list_append mt_append (g o y hy).pe (s_list1 g hz hs.2) (base_of hs.1) (few_of hs.2) hl (star_of hs.2) rfl).imp fun _ _ _ q => ?_
      rw [← c.K]
      exact c_app q
    · split at k
      · rename_i e; subst e
        obtain ⟨y, z, hy, hz, rfl⟩ := o2_some k
        rw [dE]
        refine (pe_bm F.plainAttrs_list F.slot_list_pop F.type_list_pop mt_popAt (g o y hy).pe (s_list1 g hz hs.2) (base_of hs.1) (few_of hs.2) hl (star_of hs.2) rfl).imp fun _ _ _ q => ?_
        rw [← c.K]
        exact c_pop q
      · split at k
        · rename_i e; subst e
          obtain ⟨y, z, hy, hz, rfl⟩ := o2_some k
          rw [dE]
          refine (pe_bm F.plainAttrs_list F.slot_list_extend F.type_list_extend mt_extT (g o y hy).pe (s_list1 g hz hs.2) (base_of hs.1) (few_of hs.2) hl (star_of hs.2) rfl).imp fun _ _ _ q => ?_
          have w := c_ext q
          rw [c.K] at w
          exact w
        · cases k
  · cases h
def trCall (f : PySem.Expr → Option A) (sc : Sc) (fn : PySem.Expr) (args : List PySem.Expr) (pos : Pos) : Option A := match fn with
  | .Name x _ => gd (glB sc x && !badName x) (match sc.fns.lookup x with
    | some k => o1 (trL f args) (.call k)
    | none => trBlt f sc x args)
  | .Attribute o m ap => gd (ap.endLine == pos.line) (trMeth f o m args)
  | _ => none
theorem s_call (c : Cxt X G C sc) (g : Good f X G C) {fn : PySem.Expr} {args : List PySem.Expr} {r : A} (h : trCall f sc fn args pos = some r) : Snd X G C (.Call fn args [] pos) r := by
  refine snd_val rfl ?_
  unfold trCall at h
  split at h
  · rename_i x p
    obtain ⟨hs, k⟩ := gd_some h
    clear h
    rw [Bool.and_eq_true, Bool.not_eq_true'] at hs
    have hdb := (bad_of (x := x) (by rw [hs.2]; exact Bool.false_ne_true)).1
    split at k
    · rename_i j ej
      obtain ⟨as, has, rfl⟩ := o1_some k
      rw [dE]
      cases args with
      | nil =>
        cases has
        rw [dEs]
        exact pe_callG0 (c.fns x j ej) c.gd c.tk (c.gl hs.1) hdb
      | cons e es =>
        have st := trL_star has
        rw [List.all_cons, Bool.and_eq_true] at st
        exact pe_callG (c.fns x j ej) c.gd c.tk (c.gl hs.1) (s_list g has) hdb (star_of st.1) (plain_of pos st.2)
    · exact s_blt c g hs.1 k
  · obtain ⟨hs, k⟩ := gd_some h
    exact s_meth c g hs k
  · cases h
/-! ### what is walked -/
def isTupE : PySem.Expr → Bool
  | .Tuple _ _ _ => true
  | _ => false
def trI (f : PySem.Expr → Option A) (sc : Sc) (tg e : PySem.Expr) : Option I := match e with
  | .Call (.Name x _) [a] [] _ => if x = "range" then gd (glB sc x && notStar a) (o1 (f a) .r1) else if x = "enumerate" then gd (glB sc x && notStar a && isTupE tg) (o1 (f a) .en) else o1 (f e) .seq
  | .Call (.Name x _) [a, b] [] _ => if x = "range" then gd (glB sc x && notStar a && notStar b) (o2 (f a) (f b) .r2) else o1 (f e) .seq
  | .Call (.Name x _) [a, b, c] [] _ => if x = "range" then gd (glB sc x && notStar a && notStar b && notStar c) (o3 (f a) (f b) (f c) .r3) else o1 (f e) .seq
  | e => o1 (f e) .seq
theorem s_seq (c : Cxt X G C sc) (g : Good f X G C) {tg e : PySem.Expr} {i : I} (h : o1 (f e) .seq = some i) : PI X tg e (cI G (dI C i)) := by
  obtain ⟨y, hy, rfl⟩ := o1_some h
  rw [dI]
  refine (pi_seq (g e y hy).pe).imp fun _ _ _ q => ?_
  rw [← c.K]
  exact c_iSeq q
theorem s_I (c : Cxt X G C sc) (g : Good f X G C) {tg e : PySem.Expr} {i : I} (h : trI f sc tg e = some i) : PI X tg e (cI G (dI C i)) := by
  unfold trI at h
  split at h
  · rename_i x p a p2
    split at h
    · rename_i e; subst e
      obtain ⟨hs, k⟩ := gd_some h
      rw [Bool.and_eq_true] at hs
      obtain ⟨y, hy, rfl⟩ := o1_some k
      rw [dI]
      exact (pi_range1 (c.gl hs.1) (c.free _ (by decide)) (s_list1 g hy hs.2) (star_of hs.2)).imp fun _ _ _ q => c_iR1 q
    · split at h
      · rename_i e; subst e
        obtain ⟨hs, k⟩ := gd_some h
        rw [Bool.and_eq_true, Bool.and_eq_true] at hs
        obtain ⟨y, hy, rfl⟩ := o1_some k
        rw [dI]
        have ht := hs.2
        cases tg with
        | Tuple es kk tp =>
          refine (pi_enumU (c.gl hs.1.1) (c.free _ (by decide)) (pa_cons (g a y hy).pe pa_nil (star_of hs.1.2)) (star_of hs.1.2)).imp fun _ _ _ q => ?_
          rw [← c.K]
          exact c_iEn q
        | _ => cases ht
      · exact s_seq c g h
  · rename_i x p a b p2
    split at h
    · rename_i e; subst e
      obtain ⟨hs, k⟩ := gd_some h
      rw [Bool.and_eq_true, Bool.and_eq_true] at hs
      obtain ⟨y, z, hy, hz, rfl⟩ := o2_some k
      rw [dI]
      refine (pi_range2 (c.gl hs.1.1) (c.free _ (by decide)) (s_list2 g hy hz hs.1.2 hs.2) (by rw [star_of hs.1.2, star_of hs.2]; rfl) (star_of hs.2)).imp fun _ _ _ q => c_iR2 q
    · exact s_seq c g h
  · rename_i x p a b d p2
    split at h
    · rename_i e; subst e
      obtain ⟨hs, k⟩ := gd_some h
      rw [Bool.and_eq_true, Bool.and_eq_true, Bool.and_eq_true] at hs
      obtain ⟨y, z, w, hy, hz, hw, rfl⟩ := o3_some k
      rw [dI]
      exact (pi_range3 (c.gl hs.1.1.1) (c.free _ (by decide)) (s_list3 g hy hz hw hs.1.1.2 hs.1.2 hs.2) (star_of hs.1.1.2) (plain_of p2 (by rw [List.all_cons, List.all_cons, hs.1.2, hs.2]; rfl))).imp fun _ _ _ q => c_iR3 q
    · exact s_seq c g h
  · exact s_seq c g h
/-! ### targets -/
def stB (sc : Sc) (x : Str) : Bool := kindIn sc x == some .local || (sc.full && kindIn sc x == some .cell)
def trNames (sc : Sc) : List PySem.Expr → Option (List Nat)
  | [] => some []
  | .Name x _ :: r => gd (stB sc x) (o2 (ixOf sc.N x) (trNames sc r) (· :: ·))
  | _ :: _ => none
def trTg (sc : Sc) (e : PySem.Expr) : Option Tg := match e with
  | .Name x _ => gd (stB sc x) (o1 (ixOf sc.N x) .nm)
  | .Tuple es _ _ => o1 (trNames sc es) .tp
  | _ => none
theorem Cxt.st (c : Cxt X G C sc) {x : Str} (h : stB sc x = true) : L2.Loc X.env.scope x ∧ (X.fn x = true ∨ X.env.scope.names.lookup x = some .local) := by
  unfold stB at h
  unfold L2.Loc
  rw [c.scope]
  rw [Bool.or_eq_true] at h
  rcases h with h | h
  · exact ⟨.inl (eq_of_beq h), .inr (eq_of_beq h)⟩
  · rw [Bool.and_eq_true] at h
    exact ⟨.inr (eq_of_beq h.2), .inl (c.fn h.1 x)⟩
theorem s_nm (c : Cxt X G C sc) {x : Str} {i : Nat} (h1 : stB sc x = true) (h2 : ixOf sc.N x = some i) : PG X (.Name x pos) (gName i) :=
  pg_name (by rw [c.N]; exact c.nd) (by rw [c.N]; exact ixOf_get h2) (c.st h1).1 (c.st h1).2
theorem each_len {env : PySem.Env} : ∀ (es : List PySem.Expr), (assignEach es env).length = es.length
  | [] => rfl
  | e :: es => by cases e <;> exact congrArg (· + 1) (each_len es)
theorem s_names (c : Cxt X G C sc) : ∀ {es : List PySem.Expr} {is : List Nat}, trNames sc es = some is → PGs X es (gNs is) ∧ es.length = is.length ∧ (assignEach es X.env).findIdx? (·.1) = none
  | [], is, h => by
    cases h
    exact ⟨pgs_nil, rfl, rfl⟩
  | e :: es, is, h => by
    unfold trNames at h
    split at h
    · rename_i e0
      cases e0
    · rename_i x p r e0
      cases e0
      obtain ⟨h1, k⟩ := gd_some h
      obtain ⟨i, js, hi, hj, rfl⟩ := o2_some k
      obtain ⟨g1, g2, g3⟩ := s_names c hj
      refine ⟨pgs_cons (s_nm c h1 hi) g1 rfl, by rw [List.length_cons, List.length_cons, g2], ?_⟩
      show ((false, assign (.Name x p) X.env) :: assignEach es X.env).findIdx? (·.1) = none
      rw [List.findIdx?_cons, if_neg Bool.false_ne_true, g3]
      rfl
    · cases h
theorem s_tg (c : Cxt X G C sc) {e : PySem.Expr} {t : Tg} (h : trTg sc e = some t) : PG X e (gOf G.K t) := by
  unfold trTg at h
  split at h
  · obtain ⟨h1, k⟩ := gd_some h
    obtain ⟨i, hi, rfl⟩ := o1_some k
    exact s_nm c h1 hi
  · obtain ⟨is, hi, rfl⟩ := o1_some h
    obtain ⟨g1, g2, g3⟩ := s_names c hi
    rw [c.K]
    exact pg_tup c.calm g1 (by rw [each_len]; exact g2) g3
  · cases h
/-! ### comprehensions -/
def blkSc (sc : Sc) (scope : PySem.Scope) : Sc := { sc with full := false, scope := relS scope sc.scope, exs := [] }
theorem Cxt.blk (c : Cxt X G C sc) {scope : PySem.Scope} (hk : scope.kind = .function) (s : Shared) (H : Hp) (Cc : Addr) (cl : List (Str × Addr)) (fp : List Addr) : Cxt (X.blk s H scope (compEnvC scope cl Cc X.env) fp) G.no C (blkSc sc scope) where
  K := c.K
  N := c.N
  nd := c.nd
  scope := by
    show relS scope X.env.scope = relS scope sc.scope
    rw [c.scope]
  kind := hk
  calm := c.calm
  gd := c.gd
  fn := fun h => nomatch h
  un := c.un
  tk := fun u s' h => by
    obtain ⟨_, _, _, _, _, _, _, _, _, _, _, _, _, _, _, _, z⟩ := h
    exact z
  own := fun e s' h => h.elim
  fns := fun x k h => by
    obtain ⟨k', f, fd, ps, F, hr, hm, hkp, hb⟩ := (c.fns x k h).it
    exact ⟨k', f, fd, ps, F, hr, hm, hkp, hb⟩
  cns := c.cns
  free := c.free
  rk := c.rk
def blkB (N : List Str) (sc scope : PySem.Scope) (own : List (Str × Nat)) : Bool :=
  scope.kind == .function && (scope.names.all fun y => scope.names.lookup y.1 == some y.2) && (own.all fun p => N[p.2]? == some p.1) &&
    (scope.names.all fun y => !(y.2 == .free) || (sc.names.lookup y.1 == some .cell || sc.names.lookup y.1 == some .free)) &&
    (scope.names.all fun y => !(y.2 == .local || y.2 == .cell) || ((own.map (·.1)).any (fun z => decide (z = y.1)) || !(N.any fun z => decide (z = y.1))))
theorem blk_of {N : List Str} {sc scope : PySem.Scope} {own : List (Str × Nat)} (h : blkB N sc scope own = true) : BlkOk N sc scope own := by
  unfold blkB at h
  simp only [Bool.and_eq_true, List.all_eq_true] at h
  obtain ⟨⟨⟨⟨h1, h2⟩, h3⟩, h4⟩, h5⟩ := h
  refine ⟨eq_of_beq h1, fun y hy => eq_of_beq (h2 y hy), fun p hp => eq_of_beq (h3 p hp), fun y hy e => ?_, fun y hy e => ?_⟩
  · have z := h4 y hy
    rw [e] at z
    rw [Bool.or_eq_true, Bool.or_eq_true] at z
    rcases z with z | z | z
    · cases z
    · exact .inl (eq_of_beq z)
    · exact .inr (eq_of_beq z)
  · have z := h5 y hy
    have e2 : (y.2 == NameKind.local || y.2 == NameKind.cell) = true := by
      rcases e with e | e <;> rw [e] <;> rfl
    rw [e2] at z
    rw [Bool.or_eq_true, Bool.or_eq_true] at z
    rcases z with z | z | z
    · cases z
    · obtain ⟨w, hw, ew⟩ := List.any_eq_true.mp z
      exact .inl (by rw [← of_decide_eq_true ew]; exact hw)
    · refine .inr fun m => ?_
      have q : (N.any fun z => decide (z = y.1)) = true := List.any_eq_true.mpr ⟨_, m, decide_eq_true rfl⟩
      rw [q] at z
      cases z
def ownOf (N : List Str) (t : Tg) : List (Str × Nat) := t.slots.map fun i => (N[i]?.getD "", i)
theorem own_slots (N : List Str) (t : Tg) : (ownOf N t).map (·.2) = t.slots := by
  unfold ownOf
  rw [List.map_map]
  have e : ((fun (p : Str × Nat) => p.2) ∘ fun i => (N[i]?.getD "", i)) = id := rfl
  rw [e, List.map_id]
structure LcP where
  i : I
  t : Tg
  b : Option A
  e : A
def LcP.a (p : LcP) : A := match p.b with
  | none => .lc p.i p.t p.e
  | some b => .lcT p.i p.t b p.e
def trLc (f fb : PySem.Expr → Option A) (sc : Sc) (elt : PySem.Expr) (gens : List Comprehension) (scope : PySem.Scope) : Option LcP := match gens with
  | [⟨tg, iter, [], 0⟩] => (o3 (trI f sc tg iter) (trTg (blkSc sc scope) tg) (fb elt) fun i t e => LcP.mk i t none e).bind fun p => gd (blkB sc.N sc.scope scope (ownOf sc.N p.t) && notSet iter) (some p)
  | [⟨tg, iter, [c], 0⟩] => gd (notIf c) (((o3 (trI f sc tg iter) (trTg (blkSc sc scope) tg) (fb elt) fun i t e => LcP.mk i t none e).bind fun p => o1 (fb c) fun b => { p with b := some b }).bind fun p => gd (blkB sc.N sc.scope scope (ownOf sc.N p.t) && notSet iter) (some p))
  | _ => none
/-- what pe_lc and ps_setLc ask -/
structure LcOk (X : Cx) (G : Gh) (C : Nat → DF) (sc : Sc) (elt : PySem.Expr) (gens : List Comprehension) (scope : PySem.Scope) (p : LcP) : Prop where
  ok : ∃ tg iter ifs, gens = [⟨tg, iter, ifs, 0⟩] ∧ PI X tg iter (cI G (dI C p.i)) ∧ BlkOk X.N X.env.scope scope (ownOf sc.N p.t) ∧
    (∀ (s : Shared) (H : Hp) (Cc : Addr) (cl : List (Str × Addr)) (fp : List Addr), PG (X.blk s H scope (compEnvC scope cl Cc X.env) fp) tg (gOf G.K p.t)) ∧
    (∀ (s : Shared) (H : Hp) (Cc : Addr) (cl : List (Str × Addr)) (fp : List Addr), PTs (X.blk s H scope (compEnvC scope cl Cc X.env) fp) ifs (ttOf G (p.b.map (dE C)))) ∧
    (∀ (s : Shared) (H : Hp) (Cc : Addr) (cl : List (Str × Addr)) (fp : List Addr), PE (X.blk s H scope (compEnvC scope cl Cc X.env) fp) elt (cE G.no (dE C p.e))) ∧ notSet iter = true
theorem s_lc (c : Cxt X G C sc) (g : Good f X G C) {fb : PySem.Expr → Option A} {elt : PySem.Expr} {gens : List Comprehension} {scope : PySem.Scope} {p : LcP}
    (gb : ∀ (s : Shared) (H : Hp) (Cc : Addr) (cl : List (Str × Addr)) (fp : List Addr), scope.kind = .function → Good fb (X.blk s H scope (compEnvC scope cl Cc X.env) fp) G.no C) (h : trLc f fb sc elt gens scope = some p) : LcOk X G C sc elt gens scope p := by
  unfold trLc at h
  split at h
  · rename_i tg iter
    obtain ⟨p', hp, k⟩ := Option.bind_eq_some_iff.mp h
    obtain ⟨i, t, e, hi, ht, he, rfl⟩ := o3_some hp
    obtain ⟨hb, k⟩ := gd_some k
    cases k
    rw [Bool.and_eq_true] at hb
    have ok := blk_of hb.1
    refine ⟨tg, iter, [], rfl, s_I c g hi, by rw [c.N, c.scope]; exact ok, fun s H Cc cl fp => ?_, fun s H Cc cl fp => ?_, fun s H Cc cl fp => ?_, hb.2⟩
    · exact s_tg (c.blk ok.kind s H Cc cl fp) ht
    · exact pts_nil
    · exact (gb s H Cc cl fp ok.kind elt e he).pe
  · rename_i tg iter cnd
    obtain ⟨hn, k0⟩ := gd_some h
    obtain ⟨p', hp, k⟩ := Option.bind_eq_some_iff.mp k0
    obtain ⟨p2, hp2, k2⟩ := Option.bind_eq_some_iff.mp hp
    obtain ⟨i, t, e, hi, ht, he, rfl⟩ := o3_some hp2
    obtain ⟨b, hbb, rfl⟩ := o1_some k2
    obtain ⟨hb, k⟩ := gd_some k
    cases k
    rw [Bool.and_eq_true] at hb
    have ok := blk_of hb.1
    refine ⟨tg, iter, [cnd], rfl, s_I c g hi, by rw [c.N, c.scope]; exact ok, fun s H Cc cl fp => ?_, fun s H Cc cl fp => ?_, fun s H Cc cl fp => ?_, hb.2⟩
    · exact s_tg (c.blk ok.kind s H Cc cl fp) ht
    · exact pts_one ((gb s H Cc cl fp ok.kind cnd b hbb).pt hn)
    · exact (gb s H Cc cl fp ok.kind elt e he).pe
  · cases h
theorem dE_lc (p : LcP) : dE C p.a = dLc (dI C p.i) p.t (p.b.map (dE C)) (dE C p.e) := by
  obtain ⟨i, t, b, e⟩ := p
  cases b with
  | none => show dE C (.lc i t e) = _; rw [dE]; rfl
  | some b => show dE C (.lcT i t b e) = _; rw [dE]; rfl
theorem s_lcE (c : Cxt X G C sc) {elt : PySem.Expr} {gens : List Comprehension} {scope : PySem.Scope} {p : LcP} (h : LcOk X G C sc elt gens scope p) : Snd X G C (.ListComp elt gens scope pos) p.a := by
  obtain ⟨tg, iter, ifs, rfl, hi, ok, hg, ht, he, hs⟩ := h.ok
  refine snd_val rfl ?_
  rw [dE_lc]
  refine (pe_lc c.calm (by rw [c.N]; exact c.nd) hi ok hg ht he (fold_of hs)).imp fun _ _ _ q => ?_
  exact c_lc (own_slots _ _) q
end
/-! ### expressions -/
def trStep (F : Sc → PySem.Expr → Option A) (sc : Sc) (e : PySem.Expr) : Option A := match e with
  | .Name x _ => trName sc x
  | .Constant k _ _ => trConst k
  | .UnaryOp op a _ => trUn (F sc) op a
  | .BoolOp op vs _ => trB (F sc) op vs
  | .BinOp a op b _ => trBin (F sc) a op b
  | .Compare a [op] [b] _ => trCmp (F sc) a op b
  | .Compare a [op, op2] [b, c] _ => trChn (F sc) a op op2 b c
  | .IfExp c a b _ => trIf (F sc) c a b
  | .Tuple es _ _ => o1 (trL (F sc) es) .tup
  | .List es _ => o1 (trL (F sc) es) .lst
  | .Dict ks vs _ => trD (F sc) ks vs
  | .Subscript v s _ => trSub (F sc) sc v s
  | .Call fn args [] pos => trCall (F sc) sc fn args pos
  | .ListComp elt gens scope _ => o1 (trLc (F sc) (F (blkSc sc scope)) sc elt gens scope) LcP.a
  | _ => none
def trE : Nat → Sc → PySem.Expr → Option A
  | 0 => fun _ _ => none
  | n + 1 => trStep (trE n)
theorem s_E : ∀ (n : Nat) {X : Cx} {G : Gh} {C : Nat → DF} {sc : Sc}, Cxt X G C sc → Good (trE n sc) X G C
  | 0, _, _, _, _, _ => fun _ _ h => nomatch h
  | n + 1, X, G, C, sc, c => fun e a h => by
    have g : Good (trE n sc) X G C := s_E n c
    unfold trE trStep at h
    split at h
    · exact snd_val rfl (s_name c h)
    · exact snd_val rfl (s_const h)
    · exact s_un g h
    · exact s_BoolOp g h
    · exact s_bin c g h
    · exact s_cmp c g h
    · exact s_chn c g h
    · exact s_if g h
    · exact s_tup g h
    · exact s_lst g h
    · exact s_D g h
    · exact s_sub c g h
    · exact s_call c g h
    · obtain ⟨p, hp, rfl⟩ := o1_some h
      exact s_lcE c (s_lc c g (fun s H Cc cl fp hk => s_E n (c.blk hk s H Cc cl fp)) hp)
    · cases h
end K7
/-! K7, part 10: trees of statements. -/
namespace K7
open PySem PySem.Spec L2
open PyProof.Rows hiding St

inductive S where
  | asg (e : A) (t : Tg) | par (i j : Nat) (a b : A) | putL (v o i : A) | putD (v o i : A) | ex (e : A)
  | ite (c : A) (a b : List S) | for_ (i : I) (t : Tg) (b : List S) | whl (c : A) (b : List S)
  | ret (e : A) | nop | brk | nev | rse (x : Str) (fs : List Str) (as : List A)
  | tryF (b : List S) (x : Str) | tryA (b : List S) (x : Str) (ie ix : Nat)
def dRse (x : Str) (fs : List Str) (dr : DA) : DS := fun _ dl M Xi => dr dl M (fun ds M1 => ds.length = fs.length ∧ Xi x (fs.zip ds) dl M1) Xi
def dTryF (b : DS) (x : Str) : DS := fun N dl M _ => b N dl M fun c _ _ M' => c = x ∧ N.rt (.bl false) M'
def dTryA (b : DS) (x : Str) (ie ix : Nat) : DS := fun N dl M _ => b N dl M fun c fs dl' M' => c = x ∧ ie < dl'.length ∧ ix ≠ ie ∧ ∃ w p, dgt fs wWord = some w ∧ dgt fs wPlace = some p ∧ N.nx (((dl'.set ie none).set ix (some (.tup [w, p]))).set ie none) M'
mutual
def dS (C : Nat → DF) : S → DS
  | .asg e t => dAsg (dE C e) t
  | .par i j a b => dPar i j (dCons (dE C a) (dCons (dE C b) dNil))
  | .putL v o i => dPutL (dE C v) (dE C o) (dE C i)
  | .putD v o i => dPutD (dE C v) (dE C o) (dE C i)
  | .ex e => dDrop (dE C e)
  | .ite c a b => dIfS (dE C c) (dSs C a) (dSs C b)
  | .for_ i t b => dFor (dI C i) t (dSs C b)
  | .whl c b => dWhile (dE C c) (dSs C b)
  | .ret e => dRet (dE C e)
  | .nop => dNext
  | .brk => dBrk
  | .nev => dNev
  | .rse x fs as => dRse x fs (dEs C as)
  | .tryF b x => dTryF (dSs C b) x
  | .tryA b x ie ix => dTryA (dSs C b) x ie ix
def dSs (C : Nat → DF) : List S → DS
  | [] => dNext
  | s :: r => dSeq (dS C s) (dSs C r)
end
/-! ### raise -/
def tMk (C : Addr) (fs : List Str) (t : TA) : St → Hp → XK → Prop := fun σ H Q => t σ H fun vs H1 => vs.length = fs.length ∧ ∀ dx, H1 dx = none → Q (.ref C) (some dx) (upd H1 dx (.xd (fs.zip vs)))
def Rsr (X : Cx) (G : Gh) (sc : Sc) : Prop := ∀ x fs, sc.exs.lookup x = some fs → ∀ (p pos : Pos) (e : PySem.Expr) (es : List PySem.Expr) (t : TA), PA X (e :: es) t → (e :: es).all notStar = true → glB sc x = true → PMk X (.Call (.Name x p) (e :: es) [] pos) (tMk (G.cls x) fs t)
/-- a class of errors that a clause names, its fields read -/
structure Hdl (X : Cx) (G : Gh) (x : Str) : Prop where
  mg : X.mg x = some (.ref (G.cls x))
  ex : PySem.W.exmOne X.K (.ref (G.cls x)) (.ref (G.cls x)) = some true
  xf : XfC X.K (G.cls x)
  no : ∀ n ∈ [wWord, wPlace], PySem.W.findIn X.K (.ref (G.cls x)) n = some none
def hdls : List Str := ["BadDatagram", "BadValue", "BadRanges"]
structure Cxf (X : Cx) (G : Gh) (C : Nat → DF) (sc : Sc) : Prop where
  c : Cxt X G C sc
  rs : Rsr X G sc
  hd : ∀ x ∈ hdls, Hdl X G x
  stk : X.stack = X.env :: X.outer
  fr : X.env.frame = some X.env.locals
def trySc (sc : Sc) : Sc := { sc with exs := [] }
section
variable {X : Cx} {G : Gh} {C : Nat → DF} {sc : Sc} {pos : Pos} {E : Ends} {σ : St} {H : Hp}
theorem Cxf.tr (c : Cxf X G C sc) {W : WX} {pn : List (Addr × Obj)} {xe : Value → Shared → Prop} (tk : Takes (X.tr pn xe) W) (own : PassesOwn (model X.prog X.w) X.A X.env xe) : Cxf (X.tr pn xe) { G with W := W } C (trySc sc) where
  c := { K := c.c.K, N := c.c.N, nd := c.c.nd, scope := c.c.scope, kind := c.c.kind, calm := c.c.calm, gd := c.c.gd, fn := c.c.fn, un := c.c.un, tk := tk, own := own, fns := fun x k h => ⟨(c.c.fns x k h).it⟩, cns := c.c.cns, free := c.c.free, rk := c.c.rk }
  rs := fun x fs h => nomatch h
  hd := fun x h => ⟨(c.hd x h).mg, (c.hd x h).ex, (c.hd x h).xf, (c.hd x h).no⟩
  stk := c.stk
  fr := c.fr
theorem c_rse {x : Str} {fs : List Str} {dr : DA} (h : cS G (dRse x fs dr) E σ H) : tMk (G.cls x) fs (cA G dr) σ H fun cls d H' => G.W cls d σ H' := by
  obtain ⟨N, dl, M, Xi, ok, hd, k1, k2, k3, kx⟩ := h
  refine ⟨dl, M, _, Xi, ok, hd, fun vs H1 ds M1 r1 p1 f1 ⟨hl, q1⟩ => ?_, kx⟩
  refine ⟨by rw [r1.length]; exact hl, fun dx hdx => ?_⟩
  have ok1 := ok.next p1 f1
  have f2 : Fr H1 M1 (upd H1 dx (.xd (fs.zip vs))) M1 := .new hdx
  refine kx x (fs.zip ds) dl σ _ M1 dx (ok1.sl.mono (TK.new hdx)) (p1.new hdx) (f1.trans f2) ⟨vs, ?_, ?_⟩ q1
  · rw [zip_fst fs ds hl]
    exact upd_same
  · rw [zip_snd fs ds hl]
    exact r1.mono (TK.new hdx)
theorem zip_look {K : PySem.W.Frag} {H : Hp} {n : Str} {d : D} : ∀ {fs : List (Str × D)} {ws : List V}, Rps K H (fs.map (·.2)) ws → dgt fs n = some d → ∃ v, ((fs.map (·.1)).zip ws).lookup n = some v ∧ Rp K H d v
  | [], _, _, e => nomatch e
  | p :: r, _, h, e => by
    obtain ⟨v, w, rfl, r1, r2⟩ := h
    unfold dgt at e
    rw [List.map_cons, List.zip_cons_cons, List.lookup_cons]
    by_cases hp : p.1 = n
    · rw [if_pos hp] at e
      cases e
      have z : (n == p.1) = true := beq_iff_eq.mpr hp.symm
      rw [z]
      exact ⟨v, rfl, r1⟩
    · rw [if_neg hp] at e
      have z : (n == p.1) = false := beq_eq_false_iff_ne.mpr fun q => hp q.symm
      rw [z]
      exact zip_look r2 e
theorem Sl.hide {K : PySem.W.Frag} {dl : Dl} (s : Sl K H dl σ) (i : Nat) (x : Option V) : Sl K H (dl.set i none) (σ.set i x) := by
  refine ⟨by rw [List.length_set, List.length_set, s.1], fun j e h => ?_⟩
  by_cases hj : i = j
  · subst hj
    by_cases hl : i < dl.length
    · rw [List.getElem?_set_self hl] at h
      cases h
    · rw [List.getElem?_eq_none (by rw [List.length_set]; omega)] at h
      cases h
  · rw [List.getElem?_set_ne hj] at h ⊢
    exact s.2 j e h
theorem c_tryF {b : DS} {x : Str} {K : PySem.W.Frag} {Wout : WX} (hx : PySem.W.exmOne K (.ref (G.cls x)) (.ref (G.cls x)) = some true) (h : cS G (dTryF b x) E σ H) :
    cS { G with W := wOnly K (.ref (G.cls x)) (fun _ _ _ => tRet (tC (.bl false))) Wout E } b E σ H := by
  obtain ⟨N, dl, M, Xi, ok, hd, k1, k2, k3, kx⟩ := h
  refine ⟨N, dl, M, _, ⟨ok.sl, ok.rp⟩, hd, fun σ1 H1 dl1 M1 o => k1 σ1 H1 dl1 M1 ⟨o.sl, o.rp⟩, k2, fun σ1 H1 dl1 M1 o => k3 σ1 H1 dl1 M1 ⟨o.sl, o.rp⟩, fun c fs dl' σ' H' M' a s r f e q => ?_⟩
  obtain ⟨rfl, q⟩ := q
  exact ⟨true, hx, fun _ a _ => k2 (.bl false) H' (.bl false) M' rfl r f q, fun z => nomatch z⟩
theorem c_tryA {b : DS} {x : Str} {ie ix : Nat} {K : PySem.W.Frag} {Wout : WX} (hx : PySem.W.exmOne K (.ref (G.cls x)) (.ref (G.cls x)) = some true) (h : cS G (dTryA b x ie ix) E σ H) :
    cS { G with W := wAs K (.ref (G.cls x)) ie (fun a cls d => tAsg (tTup (tCons (tXf a cls d (G.cls x) wWord (tVar ie)) (tCons (tXf a cls d (G.cls x) wPlace (tVar ie)) tNil))) (gName ix)) Wout E } b E σ H := by
  obtain ⟨N, dl, M, Xi, ok, hd, k1, k2, k3, kx⟩ := h
  refine ⟨N, dl, M, _, ⟨ok.sl, ok.rp⟩, hd, fun σ1 H1 dl1 M1 o => k1 σ1 H1 dl1 M1 ⟨o.sl, o.rp⟩, k2, fun σ1 H1 dl1 M1 o => k3 σ1 H1 dl1 M1 ⟨o.sl, o.rp⟩, fun c fs dl' σ' H' M' xa s r f e q => ?_⟩
  obtain ⟨rfl, hie, hne, w, p, e1, e2, q⟩ := q
  refine ⟨true, hx, fun _ a _ => ?_, fun z => nomatch z⟩
  obtain ⟨ws, hxa, rw'⟩ := e
  obtain ⟨v1, l1, r1⟩ := zip_look rw' e1
  obtain ⟨v2, l2, r2⟩ := zip_look rw' e2
  have hl : ie < σ'.length := by rw [s.1]; exact hie
  have hg : (σ'.set ie (some (V.ref a)))[ie]? = some (some (V.ref a)) := List.getElem?_set_self hl
  refine ⟨V.ref a, hg, rfl, rfl, xa, _, v1, rfl, hxa, l1, ?_⟩
  refine ⟨V.ref a, hg, rfl, rfl, xa, _, v2, rfl, hxa, l2, ?_⟩
  refine ⟨sz_of (by simp), fun t ht => ?_⟩
  have tk : TK H' (upd H' t (.tup [v1, v2])) := TK.new ht
  have s1 := (s.hide ie (some (V.ref a))).mono tk
  have rt : Rp G.K (upd H' t (.tup [v1, v2])) (.tup [w, p]) (.ref t) := ⟨t, _, rfl, .of upd_same, v1, [v2], rfl, r1.mono tk, v2, [], rfl, r2.mono tk, rfl⟩
  exact k1 _ _ _ M' ⟨(s1.set ix rt).clear ie, r.new ht⟩ (f.trans (.new ht)) q
/-! ### reading statements -/
def notLc : PySem.Expr → Bool
  | .ListComp _ _ _ _ => false
  | .SetComp _ _ _ _ => false
  | .DictComp _ _ _ _ _ => false
  | _ => true
theorem swap_of {e : PySem.Expr} {t : Option PySem.Expr} {l : Nat} {env : PySem.Env} (h : notLc e = true) : swapsWith e t l env = pure false := by
  cases e <;> first | rfl | cases h
def isTup : PySem.Expr → Bool
  | .Tuple _ _ _ => true
  | _ => false
/-- a, b = x, y with a place for each that is not a plain local name's: in order -/
def fewNames (sc : Sc) (ts : List PySem.Expr) : Bool := ts.any fun t => match t with
  | .Name x _ => !(kindIn sc x == some .local)
  | _ => true
theorem few_len {α β : Type} {p : α → Option β} : ∀ {l : List α}, (l.any fun a => (p a).isNone) = true → (l.filterMap p).length < l.length
  | [], h => nomatch h
  | a :: r, h => by
    rw [List.filterMap_cons]
    cases e : p a with
    | none => exact Nat.lt_succ_of_le (List.length_filterMap_le p r)
    | some b =>
      rw [List.any_cons, e] at h
      have h' : (r.any fun a => (p a).isNone) = true := by simpa using h
      exact Nat.succ_lt_succ (few_len h')
theorem nosw_few (c : Cxt X G C sc) {ts vs : List PySem.Expr} {k k2 : Nat} {p p2 : Pos} (h : fewNames sc ts = true) : swappedStores [.Tuple ts k p] (.Tuple vs k2 p2) X.env = pure none := by
  unfold swappedStores
  dsimp only
  split
  · rfl
  · split
    · rfl
    · refine if_pos ?_
      rw [Bool.or_eq_true]
      refine .inl (bne_iff_ne.mpr (Nat.ne_of_lt (few_len ?_)))
      unfold fewNames at h
      rw [List.any_eq_true] at h ⊢
      obtain ⟨t, ht, e⟩ := h
      refine ⟨t, ht, ?_⟩
      cases t with
      | Name id pp =>
        dsimp only at e ⊢
        have e2 : X.env.kindOf id = kindIn sc id := by
          unfold Env.kindOf kindIn
          rw [c.scope]
        rw [e2]
        have e3 : (kindIn sc id == some NameKind.local) = false := by simpa using e
        rw [e3]
        rfl
      | _ => rfl
def parB (sc : Sc) (x : Str) (px : Pos) (y : Str) (py : Pos) (a b : PySem.Expr) : Bool :=
  kindIn sc x == some .local && kindIn sc y == some .local && py.line == px.line && !(decide (x = y)) && notStar a && notStar b && !(foldedForSure 8 a && foldedForSure 8 b) && !(constantsAlone 8 a && constantsAlone 8 b)
theorem sw_par (c : Cxt X G C sc) {x y : Str} {px py : Pos} {a b : PySem.Expr} {k k2 : Nat} {p p2 : Pos} (h : parB sc x px y py a b = true) : swappedStores [.Tuple [.Name x px, .Name y py] k p] (.Tuple [a, b] k2 p2) X.env = pure (some [x, y]) := by
  unfold parB at h
  simp only [Bool.and_eq_true, Bool.not_eq_true', decide_eq_false_iff_not] at h
  obtain ⟨⟨⟨⟨⟨⟨⟨hx, hy⟩, hl⟩, hne⟩, ha⟩, hb⟩, hf⟩, hc⟩ := h
  have kx : (X.env.kindOf x == some NameKind.local) = true := by
    unfold Env.kindOf
    rw [c.scope]
    exact hx
  have ky : (X.env.kindOf y == some NameKind.local) = true := by
    unfold Env.kindOf
    rw [c.scope]
    exact hy
  have bk : X.env.blockKind = .function := by
    unfold Env.blockKind
    rw [c.scope, c.kind]
    rfl
  have kx' := eq_of_beq kx
  have ky' := eq_of_beq ky
  have hl' := eq_of_beq hl
  have dd : ([x, y] : List Str).eraseDups.length = 2 := by
    have hyx : (y == x) = false := beq_eq_false_iff_ne.mpr fun e => hne e.symm
    simp [List.eraseDups_cons, List.filter_cons, hyx]
  unfold swappedStores
  dsimp only
  refine (if_neg (by rw [bk]; exact Bool.false_ne_true)).trans ((if_neg fun z => ?_).trans ((if_neg fun z => ?_).trans ((if_neg fun z => ?_).trans ((if_neg fun z => ?_).trans ?_))))
  · simp only [List.any_cons, List.any_nil, Bool.or_false, Bool.or_eq_true] at z
    rcases z with z | z
    · cases a with
      | Starred _ _ => cases ha
      | _ => cases z
    · cases b with
      | Starred _ _ => cases hb
      | _ => cases z
  · simp [kx', ky', hl', PySem.Expr.pos, dd] at z
  · rw [List.all_cons, List.all_cons, List.all_nil, Bool.and_true, hf] at z
    cases z
  · rw [List.all_cons, List.all_cons, List.all_nil, Bool.and_true, hc] at z
    cases z
  · simp [kx', ky', hl', PySem.Expr.pos]
theorem swap_cell {elt : PySem.Expr} {gens : List Comprehension} {scope : PySem.Scope} {p px : Pos} {x : Str} {l : Nat} {env : PySem.Env} (h : env.kindOf x = some .cell) : swapsWith (.ListComp elt gens scope p) (some (.Name x px)) l env = pure false := by
  have z : (NameKind.cell == NameKind.local) = false := rfl
  unfold swapsWith
  simp [h, z]
/-! #### targets and values -/
def trAsg (m : Nat) (sc : Sc) (t e : PySem.Expr) : Option S := match t with
  | .Name x px => (match e with
    | .ListComp elt gens scope p => if kindIn sc x == some .local then gd (px.line == p.line && !(scope.names.any fun (n, k) => n == x && (k == .local || k == .cell))) (o2 (trLc (trE m sc) (trE m (blkSc sc scope)) sc elt gens scope) (ixOf sc.N x) fun q i => .asg q.a (.nm i))
        else gd (stB sc x && kindIn sc x == some .cell) (o2 (trE m sc e) (ixOf sc.N x) fun q i => .asg q (.nm i))
    | e => gd (notLc e && stB sc x) (o2 (trE m sc e) (ixOf sc.N x) fun q i => .asg q (.nm i)))
  | .Tuple ts k p => (match ts, e with
    | [.Name x px, .Name y py], .Tuple [a, b] _ _ => if parB sc x px y py a b then gd (notStar a && notStar b) (o2 (o2 (ixOf sc.N x) (ixOf sc.N y) Prod.mk) (o2 (trE m sc a) (trE m sc b) Prod.mk) fun u w => .par u.1 u.2 w.1 w.2)
        else gd (fewNames sc ts) (o2 (trE m sc e) (trTg sc t) .asg)
    | _, .Tuple _ _ _ => gd (fewNames sc ts) (o2 (trE m sc e) (trTg sc t) .asg)
    | _, e => gd (notLc e && !isTup e) (o2 (trE m sc e) (trTg sc t) .asg))
  | .Subscript o i _ => gd (notSl i) (match i with
    | .Constant (.str s) _ _ => o2 (trE m sc e) (trE m sc o) fun v o => .putD v o (.c (.str s))
    | i => o3 (trE m sc e) (trE m sc o) (trE m sc i) .putL)
  | _ => none
theorem swap_sub {o i e : PySem.Expr} {p : Pos} {l : Nat} {env : PySem.Env} : swapsWith e (some (.Subscript o i p)) l env = pure false := by
  cases e <;> rfl
theorem sole_sub {o i e : PySem.Expr} {p : Pos} {l : Nat} {env : PySem.Env} : swapsWithSole [.Subscript o i p] e l env = pure false := by
  cases e <;> rfl
theorem sole_of {e t : PySem.Expr} {l : Nat} {env : PySem.Env} (h : notLc e = true) : swapsWithSole [t] e l env = pure false := swap_of h
theorem asg_sub {o i : PySem.Expr} {p : Pos} {env : PySem.Env} (h : notSl i = true) (v : Value) : assign (.Subscript o i p) env v = (do
      let ov ← holding [v] (eval o env)
      let iv ← holding [v, ov] (eval i env)
      standAt p
      holding [v, ov, iv] (setItem ov iv v)
      release [v, ov, iv] []) := by
  cases i <;> first | rfl | cases h
theorem s_tup_asg (c : Cxt X G C sc) {m : Nat} {ts : List PySem.Expr} {k : Nat} {p : Pos} {e : PySem.Expr} {s : S} (hl : notLc e = true) (hw : swappedStores [.Tuple ts k p] e X.env = pure none) (h : o2 (trE m sc e) (trTg sc (.Tuple ts k p)) .asg = some s) : PS X (.Assign [.Tuple ts k p] e pos) (cS G (dS C s)) := by
  obtain ⟨a, t, ha, ht, rfl⟩ := o2_some h
  rw [dS]
  exact (ps_asg (s_E m c e a ha).pe (s_tg c ht) (sole_of hl) hw rfl).imp fun _ _ _ q => c_asg q
theorem nosw_val {ts : List PySem.Expr} {k : Nat} {p : Pos} {e : PySem.Expr} {env : PySem.Env} (h : isTup e = false) : swappedStores [.Tuple ts k p] e env = pure none := by
  cases e <;> first | rfl | cases h
theorem nosw_sub {o i : PySem.Expr} {p : Pos} {e : PySem.Expr} {env : PySem.Env} : swappedStores [.Subscript o i p] e env = pure none := by
  cases e <;> rfl
theorem s_asg (c : Cxt X G C sc) {m : Nat} {t e : PySem.Expr} {s : S} (h : trAsg m sc t e = some s) : PS X (.Assign [t] e pos) (cS G (dS C s)) := by
  have hN : X.N.Nodup := by rw [c.N]; exact c.nd
  unfold trAsg at h
  split at h
  · rename_i x px
    split at h
    · rename_i elt gens scope p
      split at h
      · rename_i hk
        obtain ⟨hc, k⟩ := gd_some h
        clear h
        rw [Bool.and_eq_true, Bool.not_eq_true'] at hc
        obtain ⟨q, i, hq, hi, rfl⟩ := o2_some k
        have ok := s_lc c (s_E m c) (fun s H Cc cl fp hk => s_E m (c.blk hk s H Cc cl fp)) hq
        obtain ⟨tg, iter, ifs, rfl, hpi, bo, hg, ht, he, hs⟩ := ok.ok
        have hx : X.env.scope.names.lookup x = some .local := by
          rw [c.scope]
          exact eq_of_beq hk
        rw [dS, dE_lc]
        refine (ps_setLc c.calm hN (by rw [c.N]; exact ixOf_get hi) hx (sw_true (by rw [c.scope]; exact c.kind) hx hc.1 hc.2) hpi bo hg ht he (fold_of hs)).imp fun _ _ _ q => ?_
        obtain ⟨N, dl, M, Xi, ok, hd, k1, k2, k3, kx⟩ := q
        have z := c_asg (t := .nm i) ⟨N, dl, M, Xi, ok, hd, k1, k2, k3, kx⟩
        exact c_lc (own_slots _ _) z
      · obtain ⟨hc, k⟩ := gd_some h
        clear h
        rw [Bool.and_eq_true] at hc
        obtain ⟨q, i, hq, hi, rfl⟩ := o2_some k
        rw [dS]
        have kk : X.env.kindOf x = some .cell := by
          unfold Env.kindOf
          rw [c.scope]
          exact eq_of_beq hc.2
        exact (ps_set hN (by rw [c.N]; exact ixOf_get hi) (c.st hc.1).1 (s_E m c _ q hq).pe (swap_cell kk) (c.st hc.1).2).imp fun _ _ _ q => c_asg (t := .nm i) q
    · obtain ⟨hc, k⟩ := gd_some h
      clear h
      rw [Bool.and_eq_true] at hc
      obtain ⟨q, i, hq, hi, rfl⟩ := o2_some k
      rw [dS]
      exact (ps_set hN (by rw [c.N]; exact ixOf_get hi) (c.st hc.2).1 (s_E m c _ q hq).pe (swap_of hc.1) (c.st hc.2).2).imp fun _ _ _ q => c_asg (t := .nm i) q
  · rename_i ts k p
    split at h
    · rename_i x px y py a b k2 p2
      split at h
      · rename_i hp
        obtain ⟨hc, kk⟩ := gd_some h
        clear h
        rw [Bool.and_eq_true] at hc
        obtain ⟨u, w, hu, hw, rfl⟩ := o2_some kk
        obtain ⟨i, j, hi, hj, rfl⟩ := o2_some hu
        obtain ⟨a', b', ha, hb, rfl⟩ := o2_some hw
        have sw := sw_par (p := p) (p2 := p2) (k := k) (k2 := k2) c hp
        unfold parB at hp
        simp only [Bool.and_eq_true, Bool.not_eq_true', decide_eq_false_iff_not] at hp
        obtain ⟨⟨⟨⟨⟨⟨⟨hx, hy⟩, _⟩, hne⟩, _⟩, _⟩, _⟩, _⟩ := hp
        have gi := ixOf_get hi
        have gj := ixOf_get hj
        rw [dS]
        refine (ps_par c.calm hN (by rw [c.N]; exact gi) (by rw [c.N]; exact gj) (fun e => hne ?_) (by rw [c.scope]; exact eq_of_beq hx) (by rw [c.scope]; exact eq_of_beq hy) (s_list2 (s_E m c) ha hb hc.1 hc.2) sw rfl).imp fun _ _ _ q => c_par q
        have e' : i = j := e
        rw [e', gj] at gi
        exact (Option.some.inj gi).symm
      · obtain ⟨hc, k⟩ := gd_some h
        exact s_tup_asg c rfl (nosw_few c hc) k
    · obtain ⟨hc, k⟩ := gd_some h
      exact s_tup_asg c rfl (nosw_few c hc) k
    · obtain ⟨hc, k⟩ := gd_some h
      rw [Bool.and_eq_true, Bool.not_eq_true'] at hc
      exact s_tup_asg c hc.1 (nosw_val hc.2) k
  · rename_i o i p
    obtain ⟨hc, k⟩ := gd_some h
    clear h
    split at k
    · rename_i s' j p'
      obtain ⟨a, b, ha, hb, rfl⟩ := o2_some k
      rw [dS]
      refine (ps_dput (by have := c.un; omega) (s_E m c o b hb).pe (pe_str.imp (t' := cE G (dE C (.c (.str s')))) fun _ _ _ q => ?_) (s_E m c e a ha).pe swap_sub).imp fun _ _ _ q => c_putD q
      rw [dE] at q
      exact c_c (d := .str s') (fun _ => rfl) q
    · obtain ⟨a, b, d, ha, hb, hd, rfl⟩ := o3_some k
      rw [dS]
      exact (ps_asg (s_E m c e a ha).pe (pg_sub (s_E m c o b hb).pe (s_E m c i d hd).pe set_list (asg_sub hc)) sole_sub nosw_sub rfl).imp fun _ _ _ q => c_putL q
  · cases h
/-! #### statements -/
def trSL (g : Stmt → Option S) : List Stmt → Option (List S)
  | [] => some []
  | a :: r => o2 (g a) (trSL g r) (· :: ·)
def hdB (x : Str) : Bool := hdls.any fun y => decide (y = x)
theorem hdB_of {x : Str} (h : hdB x = true) : x ∈ hdls := by
  unfold hdB at h
  obtain ⟨y, hy, e⟩ := List.any_eq_true.mp h
  rw [← of_decide_eq_true e]
  exact hy
def hdOk (sc : Sc) (x : Str) : Bool := hdB x && glB sc x && !badName x
def sufA (n y n1 f1 n2 f2 : Str) : Bool := decide (n1 = n) && decide (n2 = n) && decide (f1 = wWord) && decide (f2 = wPlace) && !decide (y = n)
def trS1 (m : Nat) (gl : Sc → List Stmt → Option (List S)) (sc : Sc) (s : Stmt) : Option S := match s with
  | .Expr e _ => gd (notLc e) (o1 (trE m sc e) .ex)
  | .Return (some e) _ => o1 (trE m sc e) .ret
  | .Pass _ => some .nop
  | .Break _ => some .brk
  | .If c a b _ => gd (notIf c) (o3 (trE m sc c) (gl sc a) (gl sc b) .ite)
  | .For tg it body [] _ => gd (notSet it) (o3 (trI (trE m sc) sc tg it) (trTg sc tg) (gl sc body) .for_)
  | .While c body [] _ => gd (notIf c) (o2 (trE m sc c) (gl sc body) .whl)
  | .Raise (some (.Call (.Name x _) (a :: r) [] _)) none _ => (match sc.exs.lookup x with
    | some fs => gd (glB sc x) (o1 (trL (trE m sc) (a :: r)) (.rse x fs))
    | none => some .nev)
  | .Assign [t] e _ => trAsg m sc t e
  | .Try body [.ExceptHandler (some (.Name x _)) none [.Return (some (.Constant (.bool false) _ _)) _] _] [] [] _ => gd (hdOk sc x) (o1 (gl (trySc sc) body) fun b => .tryF b x)
  | .Try body [.ExceptHandler (some (.Name x _)) (some n) [.Assign [.Name y _] (.Tuple [.Attribute (.Name n1 _) f1 _, .Attribute (.Name n2 _) f2 _] _ _) _] _] [] [] _ =>
    gd (hdOk sc x && sufA n y n1 f1 n2 f2 && kindIn sc n == some .local && stB sc y && !badName n && !badName y) (o3 (gl (trySc sc) body) (ixOf sc.N n) (ixOf sc.N y) fun b i j => .tryA b x i j)
  | _ => none
def trSs : Nat → Nat → Sc → List Stmt → Option (List S)
  | 0, _ => fun _ _ => none
  | n + 1, m => fun sc ss => trSL (trS1 m (trSs n m) sc) ss
def GoodS (g : List Stmt → Option (List S)) (X : Cx) (G : Gh) (C : Nat → DF) : Prop := ∀ ss as, g ss = some as → PSs X ss (cS G (dSs C as))
theorem s_SL {g : Stmt → Option S} (h : ∀ s a, g s = some a → PS X s (cS G (dS C a))) : ∀ {ss : List Stmt} {as : List S}, trSL g ss = some as → PSs X ss (cS G (dSs C as))
  | [], as, e => by
    cases e
    rw [dSs]
    exact pss_nil.imp fun _ _ _ q => c_next q
  | a :: r, as, e => by
    obtain ⟨x, xs, hx, hxs, rfl⟩ := o2_some e
    show PSs X _ (cS G (dSs C (x :: xs)))
    rw [dSs]
    exact (pss_cons (h a x hx) (s_SL h hxs)).imp fun _ _ _ q => c_seq q
theorem Hdl.names {x : Str} (c : Cxt X G C sc) (h : Hdl X G x) (ok : hdOk sc x = true) : Names X x (.ref (G.cls x)) := by
  unfold hdOk at ok
  rw [Bool.and_eq_true, Bool.and_eq_true, Bool.not_eq_true'] at ok
  exact ⟨c.gl ok.1.2, (bad_of (x := x) (by rw [ok.2]; exact Bool.false_ne_true)).1, .inl h.mg⟩
theorem s_S1 (c : Cxf X G C sc) {m : Nat} {gl : Sc → List Stmt → Option (List S)} (g : GoodS (gl sc) X G C) (gt : ∀ (W : WX) (pn : List (Addr × Obj)) (xe : Value → Shared → Prop), Takes (X.tr pn xe) W → PassesOwn (model X.prog X.w) X.A X.env xe → GoodS (gl (trySc sc)) (X.tr pn xe) { G with W := W } C)
    {s : Stmt} {a : S} (h : trS1 m gl sc s = some a) : PS X s (cS G (dS C a)) := by
  have gE := s_E m c.c
  unfold trS1 at h
  split at h
  · obtain ⟨hs, k⟩ := gd_some h
    obtain ⟨y, hy, rfl⟩ := o1_some k
    rw [dS]
    exact (ps_expr (gE _ y hy).pe (swap_of hs)).imp fun _ _ _ q => c_drop q
  · obtain ⟨y, hy, rfl⟩ := o1_some h
    rw [dS]
    exact (ps_ret (gE _ y hy).pe).imp fun _ _ _ q => c_ret q
  · cases h
    rw [dS]
    exact ps_pass.imp fun _ _ _ q => c_next q
  · cases h
    rw [dS]
    exact ps_break.imp fun _ _ _ q => c_brk q
  · obtain ⟨hs, k⟩ := gd_some h
    obtain ⟨y, u, w, hy, hu, hw, rfl⟩ := o3_some k
    rw [dS]
    exact (ps_if ((gE _ y hy).pt hs) (g _ u hu) (g _ w hw)).imp fun _ _ _ q => c_ifS q
  · obtain ⟨hs, k⟩ := gd_some h
    obtain ⟨y, u, w, hy, hu, hw, rfl⟩ := o3_some k
    rw [dS]
    exact (ps_for c.c.own c.c.calm (s_I c.c gE hy) (s_tg c.c hu) (g _ w hw) (fold_of hs)).imp fun _ _ _ q => c_for q
  · obtain ⟨hs, k⟩ := gd_some h
    obtain ⟨y, u, hy, hu, rfl⟩ := o2_some k
    rw [dS]
    exact (ps_while c.c.own ((gE _ y hy).pt hs) (g _ u hu)).imp fun _ _ _ q => c_while q
  · rename_i x p a0 r p1 p2
    split at h
    · rename_i fs ef
      obtain ⟨hs, k⟩ := gd_some h
      obtain ⟨as, has, rfl⟩ := o1_some k
      rw [dS]
      exact (ps_raise c.c.calm c.c.tk (c.rs x fs ef p p1 a0 r _ (s_list gE has) (trL_star has) hs)).imp fun _ _ _ q => c_rse q
    · cases h
      rw [dS]
      exact ps_never.imp fun _ _ _ q => c_nev q
  · exact s_asg c.c h
  · rename_i body x np k j p0 p1 pos'
    obtain ⟨hs, k⟩ := gd_some h
    obtain ⟨b, hb, rfl⟩ := o1_some k
    have hx : hdB x = true := by
      unfold hdOk at hs
      rw [Bool.and_eq_true, Bool.and_eq_true] at hs
      exact hs.1.1
    have hd := c.hd x (hdB_of hx)
    rw [dS]
    refine (ps_try_only (tb := fun W => cS { G with W := W } (dSs C b)) c.stk c.fr (hd.names c.c hs) c.c.tk (fun W pn xe tk own => gt W pn xe tk own body b hb) (fun a oe cls d pn hz hf => pss_one (ps_ret pe_bl))).imp fun _ _ _ q => c_tryF hd.ex q
  · rename_i body x np n y py n1 q1 f1 q2 n2 q3 f2 q4 k0 q5 q6 q7 q8
    obtain ⟨hs, k⟩ := gd_some h
    obtain ⟨b, i, j, hb, hi, hj, rfl⟩ := o3_some k
    simp only [Bool.and_eq_true, Bool.not_eq_true'] at hs
    obtain ⟨⟨⟨⟨⟨h1, h2⟩, h3⟩, h4⟩, h5⟩, h6⟩ := hs
    unfold sufA at h2
    simp only [Bool.and_eq_true, decide_eq_true_eq, Bool.not_eq_true', decide_eq_false_iff_not] at h2
    obtain ⟨⟨⟨⟨e1, e2⟩, e3⟩, e4⟩, e5⟩ := h2
    subst e1 e3 e4
    subst e2
    have hx : hdB x = true := by
      unfold hdOk at h1
      rw [Bool.and_eq_true, Bool.and_eq_true] at h1
      exact h1.1.1
    have hd := c.hd x (hdB_of hx)
    have hN : X.N.Nodup := by rw [c.c.N]; exact c.c.nd
    have gi : X.N[i]? = some n2 := by rw [c.c.N]; exact ixOf_get hi
    have gj : X.N[j]? = some y := by rw [c.c.N]; exact ixOf_get hj
    have kn : X.env.kindOf n2 = some .local := by
      unfold Env.kindOf
      rw [c.c.scope]
      exact eq_of_beq h3
    have bn := bad_of (x := n2) (by rw [h5]; exact Bool.false_ne_true)
    rw [dS]
    refine (ps_try_as (tb := fun W => cS { G with W := W } (dSs C b)) c.stk c.fr hN gi kn (hd.names c.c h1) c.c.tk (fun W pn xe tk own => gt W pn xe tk own body b hb) (fun a oe cls d pn hz hf => pss_one ?_)).imp fun _ _ _ q => c_tryA hd.ex q
    have hv : ∀ p, PE (X.suite a ((a, oe) :: pn)) (.Name n2 p) (tVar i) := fun p => pe_var gi (.inl kn) bn.1 bn.2
    exact ps_set hN gj (c.c.st h4).1 (pe_tup (pa_cons (pe_xf hd.xf (hd.no _ (by simp)) hz hf (hv _)) (pa_cons (pe_xf hd.xf (hd.no _ (by simp)) hz hf (hv _)) pa_nil))) rfl (c.c.st h4).2
  · cases h
end
theorem s_Ss : ∀ (n m : Nat) {X : Cx} {G : Gh} {C : Nat → DF} {sc : Sc}, Cxf X G C sc → GoodS (trSs n m sc) X G C
  | 0, _, _, _, _, _, _ => fun _ _ h => nomatch h
  | n + 1, m, X, G, C, sc, c => fun ss as h => s_SL (fun s a hs => s_S1 c (s_Ss n m c) (fun W pn xe tk own => s_Ss n m (c.tr tk own)) hs) h
end K7
/-! K7, part 11: a def keeps its promise, by its tree. -/
namespace K7
open PySem PySem.Spec L2
open PyProof.Rows hiding St

/-- where all defs stand -/
structure Ev where
  P : Program
  w : World
  K : PySem.W.Frag
  mg : Str → Option Value
  base : Heap
  cls : Str → Addr
/-- the def with this name keeps this promise; how deep it goes at most -/
def FnS (V : K7.Ev) (x : Str) (Ph : DF) (L : Nat) : Prop := ∃ (k : Nat) (f : Addr) (fd : FuncData) (ps : List Str), FnG V.P V.w V.K V.mg V.base k f fd ps (spOf V.K V.cls Ph) ∧ k ≤ L ∧ V.mg x = some (.ref f) ∧ PySem.W.keepIn V.K (.ref f) = true ∧ L2.Binds V.K fd ps []
theorem FnS.up {V : K7.Ev} {x : Str} {Ph : DF} {L L' : Nat} (h : FnS V x Ph L) (l : L ≤ L') : FnS V x Ph L' := by
  obtain ⟨k, f, fd, ps, F, hk, r⟩ := h
  exact ⟨k, f, fd, ps, F, Nat.le_trans hk l, r⟩
theorem room_le {k L : Nat} {A : Around} (h : Room L A) (l : k ≤ L) : Room k A := ⟨h.hd, by have := h.dp; omega, by have := h.un; omega⟩
/-- what the classes of errors must be, apart from any call -/
structure HdS (V : K7.Ev) (x : Str) : Prop where
  mg : V.mg x = some (.ref (V.cls x))
  ex : PySem.W.exmOne V.K (.ref (V.cls x)) (.ref (V.cls x)) = some true
  xf : XfC V.K (V.cls x)
  no : ∀ n ∈ [wWord, wPlace], PySem.W.findIn V.K (.ref (V.cls x)) n = some none
/-- a raise of an own class, in any context over V -/
def RsS (V : K7.Ev) (exs : List (Str × List Str)) : Prop := ∀ (X : Cx) (G : Gh) (sc : Sc), X.prog = V.P → X.w = V.w → X.K = V.K → X.mg = V.mg → X.base = V.base → G.cls = V.cls → X.calm = true → Room 2 X.A → X.stack = X.env :: X.outer → X.env.frame = some X.env.locals → X.env.scope = sc.scope → sc.exs = exs → Rsr X G sc
/-- the ground of all contexts -/
structure Gnd (V : K7.Ev) (cns : List (Str × D)) (exs : List (Str × List Str)) : Prop where
  cns : ∀ x d, cns.lookup x = some d → ∃ u v, V.mg x = some u ∧ RelV v u ∧ ∀ H, Rp V.K H d v
  free : ∀ x ∈ frees, V.mg x = none
  rk : ∃ d, V.mg nameRanks = some (.ref d) ∧ ∀ s i, rankD s = some i → KDct V.K V.w d s (.int i)
  hd : ∀ x ∈ hdls, HdS V x
  rs : RsS V exs
def dstart (N : List Str) (ds : List D) : Dl := ds.map some ++ List.replicate (N.length - ds.length) none
theorem sl_start {K : PySem.W.Frag} {H : Hp} {N : List Str} : ∀ {ds : List D} {vs : List L2.V}, Rps K H ds vs → Sl K H (dstart N ds) (L2.start N vs) := by
  intro ds vs r
  have l := r.length
  refine ⟨by unfold dstart L2.start; rw [List.length_append, List.length_append, List.length_map, List.length_map, List.length_replicate, List.length_replicate, l], fun i d h => ?_⟩
  unfold dstart at h
  by_cases hi : i < ds.length
  · rw [List.getElem?_append_left (by simpa using hi), List.getElem?_map] at h
    cases e : ds[i]? with
    | none => rw [e] at h; cases h
    | some d' =>
      rw [e] at h
      cases h
      obtain ⟨v, ev, rv⟩ := r.get e
      refine ⟨v, ?_, rv⟩
      unfold L2.start
      rw [List.getElem?_append_left (by rw [List.length_map, l]; exact hi), List.getElem?_map, ev]
      rfl
  · rw [List.getElem?_append_right (by simpa using hi), List.getElem?_replicate] at h
    split at h <;> cases h
/-- the reading of a def of the text: names, callees, the tree -/
structure DefT where
  N : List Str
  ps : List Str
  fns : List (Str × Nat)
  body : List S
def DefT.sc (d : DefT) (scope : PySem.Scope) (cns : List (Str × D)) (exs : List (Str × List Str)) : Sc := ⟨true, d.N, scope, d.fns, cns, exs⟩
def scopeB (d : DefT) (sc : PySem.Scope) : Bool := sc.kind == .function && !sc.isCoroutine && !sc.isGenerator && nodupB d.N && decide (d.N.take d.ps.length = d.ps) && (d.ps.all fun x => sc.names.lookup x == some .local || sc.names.lookup x == some .cell) && (sc.names.all fun y => !(y.2 == .free))
theorem scopeB_of {d : DefT} {sc : PySem.Scope} (h : scopeB d sc = true) : FnScope d.N d.ps sc := by
  unfold scopeB at h
  simp only [Bool.and_eq_true, Bool.not_eq_true', decide_eq_true_eq, List.all_eq_true] at h
  obtain ⟨⟨⟨⟨⟨⟨h1, h2⟩, h3⟩, h4⟩, h5⟩, h6⟩, h7⟩ := h
  refine ⟨eq_of_beq h1, h2, h3, nodup_of h4, h5, fun x hx => ?_, fun y hy e => ?_⟩
  · have z := h6 x hx
    rw [Bool.or_eq_true] at z
    rcases z with z | z
    · exact .inl (eq_of_beq z)
    · exact .inr (eq_of_beq z)
  · have z := h7 y hy
    rw [e] at z
    cases z
/-- what is to be shown of the data alone -/
def Keeps (C : Nat → DF) (d : DefT) (Ph : DF) : Prop := ∀ ds M q xi, Ph ds M q xi → ds.length = d.ps.length ∧ dSs C d.body { nx := fun _ M' => q .non M', rt := q } (dstart d.N ds) M fun c fs _ M' => xi c fs M'
theorem fn_G {V : K7.Ev} {cns : List (Str × D)} {exs : List (Str × List Str)} {C : Nat → DF} {Ph : DF} {L : Nat} (g : Gnd V cns exs) {d : DefT} {f : Addr} {name qual : Str} {params : Arguments} {body : List Stmt} {scope : PySem.Scope} {dV kV doc pm cdv ct oc : Value} {an od : Option Addr} {osl : Array (Option Value)}
    (lk : V.K.lookup f = some ⟨oc, od, .func (PySem.W.fnOf name qual params body scope dV kV doc pm an cdv ct), osl⟩) (hcd : PySem.W.codeIn V.K cdv qual = true) (hs : scopeB d scope = true) (ht : trSs 12 60 (d.sc scope cns exs) body = some d.body)
    (hf : ∀ x k, d.fns.lookup x = some k → FnS V x (C k) L) (hL : 2 ≤ L) (keeps : Keeps C d Ph) : FnG V.P V.w V.K V.mg V.base (L + 1) f (PySem.W.fnOf name qual params body scope dV kV doc pm an cdv ct) d.ps (spOf V.K V.cls Ph) := by
  have S := scopeB_of hs
  have hlen : ∀ vs H Q E, spOf V.K V.cls Ph vs H Q E → vs.length = d.ps.length := by
    intro vs H Q E h
    obtain ⟨ds, M, q, xi, r, _, ph, _⟩ := h
    rw [r.length, (keeps ds M q xi ph).1]
  refine ⟨hlen, fun A outer s H args us vs Q E hr hgd e0 hb r hsp => ?_⟩
  have hl := hlen _ _ _ _ hsp
  have KX : V.K.In s.heap := e0.mod.kin.keeps fun b o e => (e0.bs b o e).1
  have lim : s.heap.NoLimit := e0.mod.nolimit.keeps fun b o e => (e0.bs b o e).1
  have hkind : ∀ y ∈ d.ps.zip us, scope.names.lookup y.1 = some .local ∨ (scope.names.lookup y.1 = some .cell ∧ ((cellsFrom (s.heap.objs.size + 1) scope.names []).lookup y.1).isSome = true) := by
    rintro ⟨n, v⟩ hy
    rcases S.par n (List.of_mem_zip hy).1 with q | q
    · exact .inl q
    · exact .inr ⟨q, PySem.W.cellsFrom_some _ _ _ (.inl q)⟩
  refine codeAny_call_function hr.depth (KX _ _ lk) rfl S.co S.gen rfl (PySem.W.codeRec_of KX hcd) (hb _ _ _ _ ?_)
  refine wpAny_newFunctionEnv_cells S.kind hkind fun env he s1 x => ?_
  subst he
  refine ⟨lim.keeps x.toInCall.keep, codeAny_func ?_⟩
  have I : Inv (cxOf (L2.CX V.P V.w) V.P V.w V.K V.mg V.base d.N qual scope f cdv A outer s H E) [] (L2.start d.N vs) H s1 := inv_start S hr.hd e0 hl r x
  have hrd := hr.deeper (envOfC qual scope s.heap.objs.size f cdv)
  have tk : Takes (cxOf (L2.CX V.P V.w) V.P V.w V.K V.mg V.base d.N qual scope f cdv A outer s H E) (fun c dd _ H' => E c dd H') := takes_of rfl rfl rfl rfl
  have cx : Cxf (cxOf (L2.CX V.P V.w) V.P V.w V.K V.mg V.base d.N qual scope f cdv A outer s H E) ⟨V.K, V.cls, fun c dd _ H' => E c dd H'⟩ C (d.sc scope cns exs) := {
    c := { K := rfl, N := rfl, nd := S.nd, scope := rfl, kind := S.kind, calm := rfl, gd := hgd, fn := fun _ _ => rfl, un := by have := hrd.un; show (A.deeper _).units + 100 < cLine; omega, tk := tk, own := passes_of rfl,
           fns := fun y k h => by
             obtain ⟨k', f', fd', ps', F, hk, hm, hkp, hbd⟩ := hf y k h
             exact ⟨k', f', fd', ps', F, room_le hrd hk, hm, hkp, hbd⟩
           cns := g.cns, free := g.free, rk := g.rk }
    rs := g.rs _ _ _ rfl rfl rfl rfl rfl rfl rfl (room_le hrd hL) rfl rfl rfl rfl
    hd := fun y hy => ⟨(g.hd y hy).mg, (g.hd y hy).ex, (g.hd y hy).xf, (g.hd y hy).no⟩
    stk := rfl
    fr := rfl }
  have pb := s_Ss 12 60 cx body d.body ht
  obtain ⟨ds, M, q, xi, rds, rep, ph, kq, kx⟩ := hsp
  have kp := (keeps ds M q xi ph).2
  have hq : cS ⟨V.K, V.cls, fun c dd _ H' => E c dd H'⟩ (dSs C d.body) { nx := fun _ H' => Q .non H', rt := Q } (L2.start d.N vs) H := by
    refine ⟨_, dstart d.N ds, M, _, ⟨sl_start rds, rep⟩, kp, fun σ' H' dl' M' ok fr z => kq .non H' .non M' rfl ok.rp fr z, fun v H' dd M' rr pp fr z => kq v H' dd M' rr pp fr z, fun σ' H' dl' M' ok fr z => z.elim, fun c fs dl' σ' H' M' x sl rp fr xa z => kx c fs H' M' x rp fr xa z⟩
  refine wpAny_mono (pb.run [] s1 (L2.start d.N vs) H _ I hq) (fun fl s' hs => ?_) fun e s' hs => hs
  have fin : ∀ {σ' : St} {H' : Hp} {v : L2.V} {u : Value}, Inv (cxOf (L2.CX V.P V.w) V.P V.w V.K V.mg V.base d.N qual scope f cdv A outer s H E) [] σ' H' s' → RelV v u → Q v H' → CE outer V.P V.w H s Q u s' :=
    fun {σ' H' v u} J rv q => ⟨v, H', J.os, J.bare, J.base, J.hok, rv, q⟩
  cases fl with
  | ret u =>
    obtain ⟨v, σ', H', J, rv, q⟩ := hs
    exact fin J rv q
  | next =>
    obtain ⟨σ', H', J, q⟩ := hs
    exact fin (v := L2.V.non) (u := Value.none) J rfl q
  | brk =>
    obtain ⟨_, _, _, q⟩ := hs
    exact q.elim
  | cont =>
    obtain ⟨_, _, _, q⟩ := hs
    exact q.elim
end K7
/-! K7: the trees of the defs, as wip/gen_defs.py prints them. -/
namespace K7
open PySem PySem.Spec L2
open PyProof.Rows hiding St

/-- is_whole -/
def t10 : DefT := ⟨["value"], ["value"], [],
  [.ret (.and (.isi (.v 0) "int") (.not (.isi (.v 0) "bool")))]⟩
/-- is_within -/
def t12 : DefT := ⟨["value", "low", "high"], ["value", "low", "high"], [("is_whole_basics", 10)],
  [.ret (.and (.call 10 [(.v 0)]) (.chn .le .le (.v 1) (.v 0) (.v 2)))]⟩
/-- need_number -/
def t13 : DefT := ⟨["value", "low", "high"], ["value", "low", "high"], [("is_within", 12)],
  [.ite (.not (.call 12 [(.v 0), (.v 1), (.v 2)]))
      [.nev]
      [],
    .ret (.v 0)]⟩
/-- is_number -/
def t14 : DefT := ⟨["value"], ["value"], [("is_within", 12)],
  [.ret (.call 12 [(.v 0), (.c (.int 0)), (.c (.int 1152921504606846976))])]⟩
/-- need_octets -/
def t17 : DefT := ⟨["octets", "place", "octet"], ["octets"], [("is_within", 12)],
  [.ite (.or (.not (.isi (.v 0) "tuple")) (.bin .gt (.len (.v 0)) (.c (.int 1048576))))
      [.nev]
      [],
    .for_ (.en (.v 0)) (.tp [1, 2])
      [.ite (.not (.call 12 [(.v 2), (.c (.int 0)), (.c (.int 255))]))
        [.nev]
        []],
    .ret (.v 0)]⟩
/-- moved -/
def t22 : DefT := ⟨["a_rest", "divisor", "places", "doubled"], ["a_rest", "divisor", "places"], [],
  [.asg (.bin .shl (.v 0) (.c (.int 1))) (.nm 3),
    .ret (.ife (.bin .gt (.bin .shr (.v 3) (.v 2)) (.c (.int 0))) (.bin .bxor (.v 3) (.v 1)) (.v 3))]⟩
/-- rests_of_fours -/
def t23 : DefT := ⟨["found", "four", "a_rest", "turn"], [], [("moved", 22)],
  [.asg (.lst []) (.nm 0),
    .for_ (.r1 (.c (.int 16))) (.nm 1)
      [.asg (.v 1) (.nm 2),
      .for_ (.r1 (.c (.int 32))) (.nm 3)
        [.asg (.call 22 [(.v 2), (.c (.int 6442450971)), (.c (.int 32))]) (.nm 2)],
      .ex (.app (.v 0) (.v 2))],
    .ret (.v 0)]⟩
/-- rest_by_fours -/
def t24 : DefT := ⟨["octets", "fours", "found", "octet"], ["octets"], [("need_octets", 17), ("rests_of_fours", 23)],
  [.ex (.call 17 [(.v 0)]),
    .asg (.call 23 []) (.nm 1),
    .asg (.c (.int 0)) (.nm 2),
    .for_ (.seq (.v 0)) (.nm 3)
      [.asg (.bin .bxor (.bin .bxor (.ix (.v 1) (.bin .shr (.v 2) (.c (.int 28)))) (.bin .band (.bin .shl (.v 2) (.c (.int 4))) (.c (.int 4294967295)))) (.bin .shr (.v 3) (.c (.int 4)))) (.nm 2),
      .asg (.bin .bxor (.bin .bxor (.ix (.v 1) (.bin .shr (.v 2) (.c (.int 28)))) (.bin .band (.bin .shl (.v 2) (.c (.int 4))) (.c (.int 4294967295)))) (.bin .band (.v 3) (.c (.int 15)))) (.nm 2)],
    .ret (.v 2)]⟩
/-- check_of -/
def t29 : DefT := ⟨["octets", "a_rest"], ["octets"], [("rest_by_fours", 24), ("need_octets", 17)],
  [.asg (.call 24 [(.bin .add (.bin .add (.c (.tup [(.int 255), (.int 255), (.int 255), (.int 255)])) (.call 17 [(.v 0)])) (.tup [(.c (.int 0)), (.c (.int 0)), (.c (.int 0)), (.c (.int 0))]))]) (.nm 1),
    .ret (.tup [(.bin .shr (.v 1) (.c (.int 24))), (.bin .band (.bin .shr (.v 1) (.c (.int 16))) (.c (.int 255))), (.bin .band (.bin .shr (.v 1) (.c (.int 8))) (.c (.int 255))), (.bin .band (.v 1) (.c (.int 255)))])]⟩
/-- is_whole -/
def t30 : DefT := ⟨["octets"], ["octets"], [("need_octets", 17), ("rest_by_fours", 24)],
  [.ex (.call 17 [(.v 0)]),
    .ret (.and (.bin .gt (.len (.v 0)) (.c (.int 4))) (.bin .eq (.call 24 [(.bin .add (.c (.tup [(.int 255), (.int 255), (.int 255), (.int 255)])) (.v 0))]) (.c (.int 0))))]⟩
/-- numeral -/
def t34 : DefT := ⟨["number", "groups", "left"], ["number"], [("need_number", 13)],
  [.ex (.call 13 [(.v 0), (.c (.int 0)), (.c (.int 1152921504606846976))]),
    .asg (.lst [(.bin .band (.v 0) (.c (.int 127)))]) (.nm 1),
    .asg (.bin .shr (.v 0) (.c (.int 7))) (.nm 2),
    .whl (.bin .gt (.v 2) (.c (.int 0)))
      [.ex (.app (.v 1) (.bin .add (.c (.int 128)) (.bin .band (.v 2) (.c (.int 127))))),
      .asg (.bin .shr (.v 2) (.c (.int 7))) (.nm 2)],
    .ret (.tof (.rev (.v 1)))]⟩
/-- numeral_found -/
def t35 : DefT := ⟨["octets", "place", "number", "at"], ["octets", "place"], [],
  [.asg (.c (.int 0)) (.nm 2),
    .for_ (.r2 (.v 1) (.mn (.bin .add (.v 1) (.c (.int 9))) (.len (.v 0)))) (.nm 3)
      [.ite (.and (.bin .eq (.v 3) (.v 1)) (.bin .eq (.ix (.v 0) (.v 3)) (.c (.int 128))))
        [.ret (.c .non)]
        [],
      .asg (.bin .add (.bin .mul (.v 2) (.c (.int 128))) (.bin .band (.ix (.v 0) (.v 3)) (.c (.int 127)))) (.nm 2),
      .ite (.bin .lt (.ix (.v 0) (.v 3)) (.c (.int 128)))
        [.ret (.ife (.bin .le (.v 2) (.c (.int 1152921504606846976))) (.tup [(.v 2), (.bin .add (.v 3) (.c (.int 1)))]) (.c .non))]
        []],
    .ret (.c .non)]⟩
/-- are_octets -/
def t39 : DefT := ⟨["value", "most", "octet"], ["value", "most"], [("is_within", 12)],
  [.ite (.or (.not (.isi (.v 0) "tuple")) (.bin .gt (.len (.v 0)) (.v 1)))
      [.ret (.c (.bl false))]
      [],
    .ret (.emp false false (.lcT (.seq (.v 0)) (.nm 2) (.not (.call 12 [(.v 2), (.c (.int 0)), (.c (.int 255))])) (.c (.int 1))))]⟩
/-- is_piece -/
def t40 : DefT := ⟨["value", "low", "octets", "is_end"], ["value"], [("are_octets", 39), ("is_within", 12)],
  [.ite (.or (.not (.isi (.v 0) "tuple")) (.or (.bin .ne (.len (.v 0)) (.c (.int 3))) (.not (.isi (.ix (.v 0) (.c (.int 2))) "bool"))))
      [.ret (.c (.bl false))]
      [],
    .asg (.v 0) (.tp [1, 2, 3]),
    .ite (.or (.not (.call 12 [(.v 1), (.c (.int 0)), (.c (.int 1152921504606846975))])) (.not (.call 39 [(.v 2), (.c (.int 1048576))])))
      [.ret (.c (.bl false))]
      [],
    .ret (.and (.or (.emp true true (.v 2)) (.v 3)) (.bin .le (.bin .add (.v 1) (.len (.v 2))) (.c (.int 1152921504606846975))))]⟩
/-- is_range -/
def t43 : DefT := ⟨["value", "low", "high"], ["value"], [("is_within", 12)],
  [.ite (.or (.not (.isi (.v 0) "tuple")) (.bin .ne (.len (.v 0)) (.c (.int 2))))
      [.ret (.c (.bl false))]
      [],
    .asg (.v 0) (.tp [1, 2]),
    .ret (.and (.call 12 [(.v 1), (.c (.int 0)), (.c (.int 1152921504606846976))]) (.and (.call 12 [(.v 2), (.c (.int 0)), (.c (.int 1152921504606846976))]) (.bin .lt (.v 1) (.v 2))))]⟩
/-- need_ranges -/
def t44 : DefT := ⟨["value", "behind", "place", "pair"], ["value"], [("is_range", 43)],
  [.ite (.or (.not (.isi (.v 0) "tuple")) (.bin .gt (.len (.v 0)) (.c (.int 1048576))))
      [.rse "BadRanges" ["place"] [(.c .non)]]
      [],
    .asg (.neg (.c (.int 1))) (.nm 1),
    .for_ (.en (.v 0)) (.tp [2, 3])
      [.ite (.or (.not (.call 43 [(.v 3)])) (.bin .le (.ix (.v 3) (.c (.int 0))) (.v 1)))
        [.rse "BadRanges" ["place"] [(.v 2)]]
        [],
      .asg (.ix (.v 3) (.c (.int 1))) (.nm 1)],
    .ret (.v 0)]⟩
/-- is_ranges -/
def t45 : DefT := ⟨["value"], ["value"], [("need_ranges", 44)],
  [.tryF [.ex (.call 44 [(.v 0)])] "BadRanges",
    .ret (.c (.bl true))]⟩
/-- is_header -/
def t50 : DefT := ⟨["value"], ["value"], [("is_within", 12), ("is_number", 14)],
  [.ite (.or (.not (.isi (.v 0) "tuple")) (.or (.bin .ne (.len (.v 0)) (.c (.int 4))) (.not (.call 12 [(.ix (.v 0) (.c (.int 0))), (.c (.int 0)), (.c (.int 1))]))))
      [.ret (.c (.bl false))]
      [],
    .ret (.and (.call 14 [(.ix (.v 0) (.c (.int 1)))]) (.and (.call 14 [(.ix (.v 0) (.c (.int 2)))]) (.or (.bin .isN (.ix (.v 0) (.c (.int 3))) (.c .non)) (.call 14 [(.ix (.v 0) (.c (.int 3)))]))))]⟩
/-- is_ack -/
def t51 : DefT := ⟨["value"], ["value"], [("is_number", 14), ("is_ranges", 45)],
  [.ite (.or (.bin .ne (.len (.v 0)) (.c (.int 3))) (.or (.not (.call 45 [(.ix (.v 0) (.c (.int 1)))])) (.not (.call 14 [(.ix (.v 0) (.c (.int 2)))]))))
      [.ret (.c (.bl false))]
      [],
    .ret (.chn .le .le (.c (.int 1)) (.len (.ix (.v 0) (.c (.int 1)))) (.c (.int 32)))]⟩
/-- is_frame -/
def t52 : DefT := ⟨["value"], ["value"], [("is_ack", 51), ("is_number", 14), ("is_within", 12), ("is_piece", 40)],
  [.ite (.or (.not (.isi (.v 0) "tuple")) (.or (.emp false true (.v 0)) (.not (.isi (.ix (.v 0) (.c (.int 0))) "str"))))
      [.ret (.c (.bl false))]
      [],
    .ite (.bin .eq (.ix (.v 0) (.c (.int 0))) (.c (.str "ack")))
      [.ret (.call 51 [(.v 0)])]
      [],
    .ite (.bin .eq (.ix (.v 0) (.c (.int 0))) (.c (.str "ping")))
      [.ret (.bin .eq (.len (.v 0)) (.c (.int 1)))]
      [],
    .ite (.bin .eq (.ix (.v 0) (.c (.int 0))) (.c (.str "room")))
      [.ret (.and (.bin .eq (.len (.v 0)) (.c (.int 4))) (.and (.call 12 [(.ix (.v 0) (.c (.int 1))), (.c (.int 0)), (.c (.int 15))]) (.and (.call 14 [(.ix (.v 0) (.c (.int 2)))]) (.call 14 [(.ix (.v 0) (.c (.int 3)))]))))]
      [],
    .ite (.bin .eq (.ix (.v 0) (.c (.int 0))) (.c (.str "data")))
      [.ret (.and (.bin .eq (.len (.v 0)) (.c (.int 3))) (.and (.call 12 [(.ix (.v 0) (.c (.int 1))), (.c (.int 0)), (.c (.int 15))]) (.call 40 [(.ix (.v 0) (.c (.int 2)))])))]
      [],
    .ret (.c (.bl false))]⟩
/-- may_stand -/
def t53 : DefT := ⟨["sort", "frames", "is_bare", "rank", "last"], ["sort", "frames", "is_bare"], [],
  [.ite (.and (.bin .eq (.v 0) (.c (.str "data"))) (.v 2))
      [.ret (.c (.bl false))]
      [],
    .ite (.emp false false (.v 1))
      [.ret (.c (.bl true))]
      [],
    .par 3 4 (.rank (.v 0)) (.rank (.ix (.ix (.v 1) (.neg (.c (.int 1)))) (.c (.int 0)))),
    .ret (.or (.bin .lt (.v 4) (.v 3)) (.and (.bin .eq (.v 4) (.v 3)) (.bin .isin (.v 0) (.tup [(.c (.str "room")), (.c (.str "data"))]))))]⟩
/-- is_next -/
def t54 : DefT := ⟨["frame", "frames", "is_bare"], ["frame", "frames", "is_bare"], [("may_stand", 53)],
  [.ite (.not (.call 53 [(.ix (.v 0) (.c (.int 0))), (.v 1), (.v 2)]))
      [.ret (.c (.bl false))]
      [],
    .ret (.or (.bin .ne (.ix (.v 0) (.c (.int 0))) (.c (.str "room"))) (.or (.emp false false (.v 1)) (.or (.bin .ne (.ix (.ix (.v 1) (.neg (.c (.int 1)))) (.c (.int 0))) (.c (.str "room"))) (.bin .lt (.ix (.ix (.v 1) (.neg (.c (.int 1)))) (.c (.int 1))) (.ix (.v 0) (.c (.int 1)))))))]⟩
/-- head_octets -/
def t55 : DefT := ⟨["header", "side", "maker", "partner", "packet"], ["header"], [("numeral", 34)],
  [.asg (.v 0) (.tp [1, 2, 3, 4]),
    .ite (.bin .isN (.v 4) (.c .non))
      [.ret (.bin .add (.bin .add (.tup [(.v 1)]) (.call 34 [(.v 2)])) (.call 34 [(.v 3)]))]
      [],
    .ret (.bin .add (.bin .add (.bin .add (.tup [(.bin .add (.v 1) (.c (.int 2)))]) (.call 34 [(.v 2)])) (.call 34 [(.v 3)])) (.call 34 [(.v 4)]))]⟩
/-- ack_octets -/
def t56 : DefT := ⟨["frame", "found", "ahead", "low", "high"], ["frame"], [("numeral", 34)],
  [.asg (.bin .add (.tup [(.c (.int 1))]) (.call 34 [(.len (.ix (.v 0) (.c (.int 1))))])) (.nm 1),
    .asg (.c .non) (.nm 2),
    .for_ (.seq (.rev (.ix (.v 0) (.c (.int 1))))) (.tp [3, 4])
      [.asg (.bin .add (.bin .add (.v 1) (.call 34 [(.ife (.bin .isN (.v 2) (.c .non)) (.bin .sub (.v 4) (.c (.int 1))) (.bin .sub (.bin .sub (.v 2) (.v 4)) (.c (.int 1))))])) (.call 34 [(.bin .sub (.bin .sub (.v 4) (.v 3)) (.c (.int 1)))])) (.nm 1),
      .asg (.v 3) (.nm 2)],
    .ret (.bin .add (.v 1) (.call 34 [(.ix (.v 0) (.c (.int 2)))]))]⟩
/-- frame_octets -/
def t57 : DefT := ⟨["frame", "low", "octets", "is_end"], ["frame"], [("ack_octets", 56), ("numeral", 34)],
  [.ite (.bin .eq (.ix (.v 0) (.c (.int 0))) (.c (.str "ack")))
      [.ret (.call 56 [(.v 0)])]
      [],
    .ite (.bin .eq (.ix (.v 0) (.c (.int 0))) (.c (.str "room")))
      [.ret (.bin .add (.bin .add (.tup [(.c (.int 2)), (.ix (.v 0) (.c (.int 1)))]) (.call 34 [(.ix (.v 0) (.c (.int 2)))])) (.call 34 [(.ix (.v 0) (.c (.int 3)))]))]
      [],
    .ite (.bin .eq (.ix (.v 0) (.c (.int 0))) (.c (.str "data")))
      [.asg (.ix (.v 0) (.c (.int 2))) (.tp [1, 2, 3]),
      .ret (.bin .add (.bin .add (.bin .add (.tup [(.ife (.v 3) (.c (.int 4)) (.c (.int 3))), (.ix (.v 0) (.c (.int 1)))]) (.call 34 [(.v 1)])) (.call 34 [(.len (.v 2))])) (.v 2))]
      [],
    .ret (.tup [(.c (.int 5))])]⟩
/-- number_at -/
def t61 : DefT := ⟨["body", "place", "found"], ["body", "place"], [("numeral_found", 35)],
  [.asg (.call 35 [(.v 0), (.v 1)]) (.nm 2),
    .ite (.bin .isN (.v 2) (.c .non))
      [.rse "BadDatagram" ["word", "place"] [(.c (.str "number")), (.v 1)]]
      [],
    .ret (.v 2)]⟩
/-- header_at -/
def t62 : DefT := ⟨["body", "maker", "place", "partner", "packet"], ["body"], [("number_at", 61)],
  [.ite (.bin .gt (.ix (.v 0) (.c (.int 0))) (.c (.int 3)))
      [.rse "BadDatagram" ["word", "place"] [(.c (.str "head")), (.c (.int 0))]]
      [],
    .asg (.call 61 [(.v 0), (.c (.int 1))]) (.tp [1, 2]),
    .asg (.call 61 [(.v 0), (.v 2)]) (.tp [3, 2]),
    .ite (.bin .lt (.ix (.v 0) (.c (.int 0))) (.c (.int 2)))
      [.ret (.tup [(.tup [(.ix (.v 0) (.c (.int 0))), (.v 1), (.v 3), (.c .non)]), (.v 2)])]
      [],
    .asg (.call 61 [(.v 0), (.v 2)]) (.tp [4, 2]),
    .ret (.tup [(.tup [(.bin .sub (.ix (.v 0) (.c (.int 0))) (.c (.int 2))), (.v 1), (.v 3), (.v 4)]), (.v 2)])]⟩
/-- stream_at -/
def t63 : DefT := ⟨["body", "place"], ["body", "place"], [],
  [.ite (.or (.bin .ge (.v 1) (.len (.v 0))) (.bin .gt (.ix (.v 0) (.v 1)) (.c (.int 15))))
      [.rse "BadDatagram" ["word", "place"] [(.c (.str "bound")), (.v 1)]]
      [],
    .ret (.ix (.v 0) (.v 1))]⟩
/-- bounded -/
def t64 : DefT := ⟨["number", "least", "most", "place"], ["number", "least", "most", "place"], [],
  [.ite (.not (.chn .le .le (.v 1) (.v 0) (.v 2)))
      [.rse "BadDatagram" ["word", "place"] [(.c (.str "bound")), (.v 3)]]
      [],
    .ret (.v 0)]⟩
/-- range_at -/
def t65 : DefT := ⟨["body", "place", "ahead", "top", "told", "behind", "more", "end"], ["body", "place", "ahead"], [("number_at", 61), ("bounded", 64)],
  [.asg (.call 61 [(.v 0), (.v 1)]) (.tp [4, 5]),
    .asg (.ife (.bin .isN (.v 2) (.c .non)) (.v 4) (.bin .sub (.bin .sub (.v 2) (.c (.int 2))) (.v 4))) (.nm 3),
    .ex (.call 64 [(.v 3), (.c (.int 0)), (.c (.int 1152921504606846975)), (.v 1)]),
    .asg (.call 61 [(.v 0), (.v 5)]) (.tp [6, 7]),
    .ex (.call 64 [(.v 6), (.c (.int 0)), (.v 3), (.v 5)]),
    .ret (.tup [(.tup [(.bin .sub (.v 3) (.v 6)), (.bin .add (.v 3) (.c (.int 1)))]), (.v 7)])]⟩
/-- ack_at -/
def t66 : DefT := ⟨["body", "place", "turn", "many", "behind", "found", "ahead", "delay", "pair"], ["body", "place"], [("number_at", 61), ("bounded", 64), ("range_at", 65)],
  [.asg (.call 61 [(.v 0), (.bin .add (.v 1) (.c (.int 1)))]) (.tp [3, 4]),
    .ex (.call 64 [(.v 3), (.c (.int 1)), (.c (.int 32)), (.bin .add (.v 1) (.c (.int 1)))]),
    .par 5 6 (.lst []) (.c .non),
    .for_ (.r1 (.v 3)) (.nm 2)
      [.asg (.call 65 [(.v 0), (.v 4), (.v 6)]) (.tp [8, 4]),
      .ex (.app (.v 5) (.v 8)),
      .asg (.ix (.v 8) (.c (.int 0))) (.nm 6)],
    .asg (.call 61 [(.v 0), (.v 4)]) (.tp [7, 4]),
    .ret (.tup [(.tup [(.c (.str "ack")), (.tof (.rev (.v 5))), (.v 7)]), (.v 4)])]⟩
/-- room_at -/
def t67 : DefT := ⟨["body", "place", "frames", "stream", "have", "behind", "limit"], ["body", "place", "frames"], [("stream_at", 63), ("number_at", 61)],
  [.asg (.call 63 [(.v 0), (.bin .add (.v 1) (.c (.int 1)))]) (.nm 3),
    .ite (.and (.emp true false (.v 2)) (.and (.bin .eq (.ix (.ix (.v 2) (.neg (.c (.int 1)))) (.c (.int 0))) (.c (.str "room"))) (.bin .ge (.ix (.ix (.v 2) (.neg (.c (.int 1)))) (.c (.int 1))) (.v 3))))
      [.rse "BadDatagram" ["word", "place"] [(.c (.str "order")), (.bin .add (.v 1) (.c (.int 1)))]]
      [],
    .asg (.call 61 [(.v 0), (.bin .add (.v 1) (.c (.int 2)))]) (.tp [4, 5]),
    .asg (.call 61 [(.v 0), (.v 5)]) (.tp [6, 5]),
    .ret (.tup [(.tup [(.c (.str "room")), (.v 3), (.v 4), (.v 6)]), (.v 5)])]⟩
/-- data_at -/
def t68 : DefT := ⟨["body", "place", "is_end", "stream", "low", "at", "many", "behind"], ["body", "place"], [("stream_at", 63), ("number_at", 61), ("bounded", 64)],
  [.asg (.bin .eq (.ix (.v 0) (.v 1)) (.c (.int 4))) (.nm 2),
    .asg (.call 63 [(.v 0), (.bin .add (.v 1) (.c (.int 1)))]) (.nm 3),
    .asg (.call 61 [(.v 0), (.bin .add (.v 1) (.c (.int 2)))]) (.tp [4, 5]),
    .asg (.call 61 [(.v 0), (.v 5)]) (.tp [6, 7]),
    .ex (.call 64 [(.v 6), (.ife (.v 2) (.c (.int 0)) (.c (.int 1))), (.mn (.bin .sub (.c (.int 1152921504606846975)) (.v 4)) (.bin .sub (.len (.v 0)) (.v 7))), (.v 5)]),
    .ret (.tup [(.tup [(.c (.str "data")), (.v 3), (.tup [(.v 4), (.sl (.v 0) (.v 7) (.bin .add (.v 7) (.v 6))), (.v 2)])]), (.bin .add (.v 7) (.v 6))])]⟩
/-- frame_at -/
def t69 : DefT := ⟨["body", "place", "frames", "is_bare", "sort"], ["body", "place", "frames", "is_bare"], [("may_stand", 53), ("ack_at", 66), ("room_at", 67), ("data_at", 68)],
  [.ite (.not (.chn .le .le (.c (.int 1)) (.ix (.v 0) (.v 1)) (.c (.int 5))))
      [.rse "BadDatagram" ["word", "place"] [(.c (.str "frame")), (.v 1)]]
      [],
    .asg (.ix (.c (.tup [(.str "none"), (.str "ack"), (.str "room"), (.str "data"), (.str "data"), (.str "ping")])) (.ix (.v 0) (.v 1))) (.nm 4),
    .ite (.not (.call 53 [(.v 4), (.v 2), (.v 3)]))
      [.rse "BadDatagram" ["word", "place"] [(.c (.str "order")), (.v 1)]]
      [],
    .ite (.bin .eq (.v 4) (.c (.str "ack")))
      [.ret (.call 66 [(.v 0), (.v 1)])]
      [],
    .ite (.bin .eq (.v 4) (.c (.str "room")))
      [.ret (.call 67 [(.v 0), (.v 1), (.v 2)])]
      [],
    .ite (.bin .eq (.v 4) (.c (.str "data")))
      [.ret (.call 68 [(.v 0), (.v 1)])]
      [],
    .ret (.tup [(.tup [(.c (.str "ping"))]), (.bin .add (.v 1) (.c (.int 1)))])]⟩
/-- body_read -/
def t70 : DefT := ⟨["body", "frames", "header", "place", "frame"], ["body"], [("header_at", 62), ("frame_at", 69)],
  [.asg (.call 62 [(.v 0)]) (.tp [2, 3]),
    .asg (.lst []) (.nm 1),
    .whl (.bin .lt (.v 3) (.len (.v 0)))
      [.asg (.call 69 [(.v 0), (.v 3), (.v 1), (.bin .isN (.ix (.v 2) (.c (.int 3))) (.c .non))]) (.tp [4, 3]),
      .ex (.app (.v 1) (.v 4))],
    .ret (.tup [(.v 2), (.tof (.v 1))])]⟩
/-- datagram_fault -/
def t73 : DefT := ⟨["value", "frames", "number", "frame"], ["value"], [("is_header", 50), ("is_frame", 52), ("is_next", 54)],
  [.ite (.or (.not (.isi (.v 0) "tuple")) (.or (.bin .ne (.len (.v 0)) (.c (.int 2))) (.not (.isi (.ix (.v 0) (.c (.int 1))) "tuple"))))
      [.ret (.tup [(.c (.str "form")), (.c .non)])]
      [],
    .ite (.not (.call 50 [(.ix (.v 0) (.c (.int 0)))]))
      [.ret (.tup [(.c (.str "header")), (.c .non)])]
      [],
    .asg (.lst []) (.nm 1),
    .for_ (.en (.ix (.v 0) (.c (.int 1)))) (.tp [2, 3])
      [.ite (.not (.call 52 [(.v 3)]))
        [.ret (.tup [(.c (.str "frame")), (.v 2)])]
        [],
      .ite (.not (.call 54 [(.v 3), (.v 1), (.bin .isN (.ix (.ix (.v 0) (.c (.int 0))) (.c (.int 3))) (.c .non))]))
        [.ret (.tup [(.c (.str "order")), (.v 2)])]
        [],
      .ex (.app (.v 1) (.v 3))],
    .ret (.c .non)]⟩
/-- need_datagram -/
def t74 : DefT := ⟨["value", "fault"], ["value"], [("datagram_fault", 73)],
  [.asg (.call 73 [(.v 0)]) (.nm 1),
    .ite (.bin .notN (.v 1) (.c .non))
      [.rse "BadValue" ["word", "place"] [(.ix (.v 1) (.c (.int 0))), (.ix (.v 1) (.c (.int 1)))]]
      [],
    .ret (.v 0)]⟩
/-- written -/
def t75 : DefT := ⟨["datagram", "found", "frame", "body", "header", "frames"], ["datagram"], [("need_datagram", 74), ("head_octets", 55), ("frame_octets", 57), ("check_of", 29)],
  [.asg (.call 74 [(.v 0)]) (.tp [4, 5]),
    .asg (.lof (.call 55 [(.v 4)])) (.nm 1),
    .for_ (.seq (.v 5)) (.nm 2)
      [.ex (.ext (.v 1) (.call 57 [(.v 2)])),
      .ite (.bin .gt (.len (.v 1)) (.bin .sub (.c (.int 1200)) (.c (.int 4))))
        [.nev]
        []],
    .asg (.tof (.v 1)) (.nm 3),
    .ret (.bin .add (.v 3) (.call 29 [(.v 3)]))]⟩
/-- need_form -/
def t76 : DefT := ⟨["octets", "octet"], ["octets"], [("is_within", 12)],
  [.ite (.or (.not (.isi (.v 0) "tuple")) (.not (.chn .le .le (.c (.int 7)) (.len (.v 0)) (.c (.int 1200)))))
      [.rse "BadDatagram" ["word", "place"] [(.c (.str "form")), (.c .non)]]
      [],
    .for_ (.seq (.v 0)) (.nm 1)
      [.ite (.not (.call 12 [(.v 1), (.c (.int 0)), (.c (.int 255))]))
        [.rse "BadDatagram" ["word", "place"] [(.c (.str "form")), (.c .non)]]
        []],
    .ret (.v 0)]⟩
/-- read_datagram -/
def t77 : DefT := ⟨["octets"], ["octets"], [("need_form", 76), ("is_whole_checks", 30), ("body_read", 70)],
  [.ex (.call 76 [(.v 0)]),
    .ite (.not (.call 30 [(.v 0)]))
      [.rse "BadDatagram" ["word", "place"] [(.c (.str "check")), (.c .non)]]
      [],
    .ret (.call 70 [(.slU (.v 0) (.bin .sub (.len (.v 0)) (.c (.int 4))))])]⟩
/-- _law_mixed -/
def t79 : DefT := ⟨["_law_cell", "_law_n", "_law_blend"], ["_law_cell", "_law_n"], [],
  [.asg (.bin .add (.bin .add (.bin .mod (.int (.bin .mul (.bin .mul (.v 0) (.bin .add (.c (.int 1)) (.bin .mul (.c (.int 2)) (.v 1)))) (.c (.int 48271)))) (.c (.int 2147483647))) (.bin .mul (.bin .mul (.c (.int 7919)) (.v 1)) (.v 1))) (.bin .mul (.c (.int 104729)) (.v 1))) (.nm 2),
    .ret (.bin .fdiv (.bin .mod (.int (.bin .mul (.v 2) (.c (.int 69621)))) (.c (.int 2147483629))) (.c (.int 7)))]⟩
/-- _law_folded -/
def t80 : DefT := ⟨["_law_script", "_law_found", "_law_n", "_law_cell"], ["_law_script"], [],
  [.asg (.lc (.r1 (.c (.int 64))) (.nm 2) (.bin .add (.c (.int 17)) (.v 2))) (.nm 1),
    .for_ (.en (.v 0)) (.tp [2, 3])
      [.putL (.bin .mod (.int (.bin .add (.bin .mul (.ix (.v 1) (.bin .mod (.int (.v 2)) (.c (.int 64)))) (.c (.int 48271))) (.v 3))) (.c (.int 2147483647))) (.v 1) (.bin .mod (.int (.v 2)) (.c (.int 64)))],
    .for_ (.r2 (.c (.int 1)) (.c (.int 64))) (.nm 2)
      [.putL (.bin .mod (.int (.bin .add (.ix (.v 1) (.v 2)) (.bin .mul (.ix (.v 1) (.bin .sub (.v 2) (.c (.int 1)))) (.c (.int 16807))))) (.c (.int 2147483647))) (.v 1) (.v 2)],
    .ret (.v 1)]⟩
/-- _law_draw -/
def t81 : DefT := ⟨["_law_m", "_law_limit", "_law_n", "_law_lot", "_law_here", "_law_cell"], ["_law_m", "_law_limit"], [("_law_mixed", 79)],
  [.asg (.dg (.v 0) (.c (.str "spot"))) (.nm 2),
    .putD (.bin .add (.v 2) (.c (.int 1))) (.v 0) (.c (.str "spot")),
    .ite (.emp true false (.dg (.v 0) (.c (.str "great"))))
      [.asg (.dg (.v 0) (.c (.str "great"))) (.nm 3),
      .asg (.bin .mod (.int (.v 2)) (.len (.v 3))) (.nm 4),
      .asg (.ix (.v 3) (.v 4)) (.nm 5),
      .ite (.bin .gt (.v 5) (.c (.int 0)))
        [.putL (.bin .fdiv (.v 5) (.v 1)) (.v 3) (.v 4),
        .ret (.bin .mod (.int (.v 5)) (.v 1))]
        []]
      [],
    .asg (.dg (.v 0) (.c (.str "cells"))) (.nm 3),
    .ret (.bin .mod (.int (.call 79 [(.call 79 [(.bin .add (.ix (.v 3) (.bin .mod (.int (.v 2)) (.c (.int 64)))) (.bin .mul (.c (.int 31)) (.bin .fdiv (.v 2) (.c (.int 64))))), (.v 2)]), (.bin .add (.v 2) (.c (.int 7)))])) (.v 1))]⟩
/-- _law_begun -/
def t82 : DefT := ⟨["_law_script", "_law_m", "_law_cell"], ["_law_script"], [("_law_folded", 80)],
  [.asg (.dsp ["cells", "great", "spot"] [(.call 80 [(.v 0)]), (.lst []), (.c (.int 0))]) (.nm 1),
    .putD (.lc (.seq (.v 0)) (.nm 2) (.ife (.bin .ge (.v 2) (.bin .pow (.c (.int 10)) (.c (.int 18)))) (.v 2) (.c (.int 0)))) (.v 1) (.c (.str "great")),
    .ret (.v 1)]⟩
/-- _law_like -/
def t83 : DefT := ⟨["_law_got", "_law_due"], ["_law_got", "_law_due"], [],
  [.ret (.bin .eq (.rpr (.v 0)) (.rpr (.v 1)))]⟩
/-- _law_of -/
def t84 : DefT := ⟨["_law_m", "_law_some"], ["_law_m", "_law_some"], [("_law_draw", 81)],
  [.ret (.ix (.v 1) (.call 81 [(.v 0), (.len (.v 1))]))]⟩
/-- _law_is_int -/
def t85 : DefT := ⟨["_law_thing", "_law_low", "_law_high"], ["_law_thing", "_law_low", "_law_high"], [],
  [.ret (.and (.isi (.v 0) "int") (.and (.not (.isi (.v 0) "bool")) (.chn .le .le (.v 1) (.v 0) (.v 2))))]⟩
/-- _law_order -/
def t86 : DefT := ⟨["_law_m", "_law_many", "_law_left_here", "_law_turn"], ["_law_m", "_law_many"], [("_law_draw", 81)],
  [.asg (.lrg (.v 1)) (.nm 2),
    .ret (.lc (.r1 (.v 1)) (.nm 3) (.pop (.v 2) (.call 81 [(.v 0), (.len (.v 2))])))]⟩
/-- _law_below -/
def t87 : DefT := ⟨["_law_m", "_law_limit", "_law_found", "_law_turn"], ["_law_m", "_law_limit"], [("_law_draw", 81)],
  [.asg (.c (.int 0)) (.nm 2),
    .for_ (.r1 (.c (.int 5))) (.nm 3)
      [.asg (.bin .add (.bin .mul (.v 2) (.c (.int 1000000000))) (.call 81 [(.v 0), (.c (.int 1000000000))])) (.nm 2)],
    .ret (.bin .mod (.int (.v 2)) (.v 1))]⟩
/-- _law_number -/
def t88 : DefT := ⟨["_law_m", "_law_kind"], ["_law_m"], [("_law_draw", 81), ("_law_below", 87)],
  [.asg (.call 81 [(.v 0), (.c (.int 4))]) (.nm 1),
    .ite (.bin .eq (.v 1) (.c (.int 0)))
      [.ret (.call 81 [(.v 0), (.c (.int 200))])]
      [],
    .ite (.bin .eq (.v 1) (.c (.int 1)))
      [.ret (.bin .sub (.bin .add (.bin .shl (.c (.int 1)) (.bin .mul (.c (.int 7)) (.bin .add (.c (.int 1)) (.call 81 [(.v 0), (.c (.int 8))])))) (.call 81 [(.v 0), (.c (.int 3))])) (.c (.int 1)))]
      [],
    .ite (.bin .eq (.v 1) (.c (.int 2)))
      [.ret (.call 87 [(.v 0), (.bin .add (.bin .pow (.c (.int 2)) (.c (.int 60))) (.c (.int 1)))])]
      [],
    .ret (.bin .sub (.bin .pow (.c (.int 2)) (.c (.int 60))) (.call 81 [(.v 0), (.c (.int 3))]))]⟩
/-- _law_octets -/
def t89 : DefT := ⟨["_law_m", "_law_many", "_law_turn"], ["_law_m", "_law_many"], [("_law_of", 84), ("_law_draw", 81)],
  [.ret (.tof (.lc (.r1 (.v 1)) (.nm 2) (.call 84 [(.v 0), (.lst [(.call 81 [(.v 0), (.c (.int 256))]), (.call 81 [(.v 0), (.c (.int 256))]), (.c (.int 0)), (.c (.int 255)), (.c (.int 128))])])))]⟩
/-- _law_numeral -/
def t90 : DefT := ⟨["_law_number_here", "_law_found", "_law_turn"], ["_law_number_here"], [],
  [.asg (.tup [(.bin .mod (.int (.v 0)) (.c (.int 128)))]) (.nm 1),
    .for_ (.r1 (.c (.int 9))) (.nm 2)
      [.asg (.bin .fdiv (.v 0) (.c (.int 128))) (.nm 0),
      .ite (.bin .eq (.v 0) (.c (.int 0)))
        [.brk]
        [],
      .asg (.bin .add (.tup [(.bin .add (.c (.int 128)) (.bin .mod (.int (.v 0)) (.c (.int 128))))]) (.v 1)) (.nm 1)],
    .ret (.v 1)]⟩
/-- _law_row -/
def t91 : DefT := ⟨["_law_octets_here", "_law_found", "_law_octet"], ["_law_octets_here"], [],
  [.asg (.c (.int 0)) (.nm 1),
    .for_ (.seq (.v 0)) (.nm 2)
      [.asg (.bin .add (.bin .mul (.v 1) (.c (.int 256))) (.v 2)) (.nm 1)],
    .ret (.v 1)]⟩
/-- _law_left -/
def t92 : DefT := ⟨["_law_number_here", "_law_divisor", "_law_top", "_law_turn", "_law_size"], ["_law_number_here", "_law_divisor"], [],
  [.asg (.bits (.v 1)) (.nm 2),
    .for_ (.r1 (.bits (.v 0))) (.nm 3)
      [.asg (.bits (.v 0)) (.nm 4),
      .ite (.bin .lt (.v 4) (.v 2))
        [.brk]
        [],
      .asg (.bin .bxor (.v 0) (.bin .shl (.v 1) (.bin .sub (.v 4) (.v 2)))) (.nm 0)],
    .ret (.v 0)]⟩
/-- _law_check -/
def t93 : DefT := ⟨["_law_octets_here", "_law_left_here"], ["_law_octets_here"], [("_law_left", 92), ("_law_row", 91)],
  [.asg (.call 92 [(.bin .shl (.call 91 [(.bin .add (.tup [(.c (.int 255)), (.c (.int 255)), (.c (.int 255)), (.c (.int 255))]) (.tof (.v 0)))]) (.c (.int 32))), (.c (.int 6442450971))]) (.nm 1),
    .ret (.tup [(.bin .shr (.v 1) (.c (.int 24))), (.bin .band (.bin .shr (.v 1) (.c (.int 16))) (.c (.int 255))), (.bin .band (.bin .shr (.v 1) (.c (.int 8))) (.c (.int 255))), (.bin .band (.v 1) (.c (.int 255)))])]⟩
/-- _law_turned -/
def t94 : DefT := ⟨["_law_octets_here", "_law_places", "_law_found", "_law_place"], ["_law_octets_here", "_law_places"], [],
  [.asg (.lof (.v 0)) (.nm 2),
    .for_ (.seq (.v 1)) (.nm 3)
      [.putL (.bin .bxor (.ix (.v 2) (.bin .fdiv (.v 3) (.c (.int 8)))) (.bin .shr (.c (.int 128)) (.bin .mod (.int (.v 3)) (.c (.int 8))))) (.v 2) (.bin .fdiv (.v 3) (.c (.int 8)))],
    .ret (.tof (.v 2))]⟩
/-- _law_ranges -/
def t95 : DefT := ⟨["_law_m", "_law_most", "_law_turn", "_law_found", "_law_at", "_law_low", "_law_high"], ["_law_m", "_law_most"], [("_law_of", 84), ("_law_draw", 81), ("_law_below", 87)],
  [.par 3 4 (.lst []) (.call 84 [(.v 0), (.lst [(.c (.int 0)), (.call 81 [(.v 0), (.c (.int 300))]), (.call 87 [(.v 0), (.bin .pow (.c (.int 2)) (.c (.int 59)))])])]),
    .for_ (.r1 (.bin .add (.c (.int 1)) (.call 81 [(.v 0), (.v 1)]))) (.nm 2)
      [.asg (.bin .add (.v 4) (.call 84 [(.v 0), (.lst [(.c (.int 0)), (.c (.int 0)), (.call 81 [(.v 0), (.c (.int 200))]), (.call 81 [(.v 0), (.c (.int 20000))])])])) (.nm 5),
      .asg (.bin .add (.bin .add (.v 5) (.c (.int 1))) (.call 84 [(.v 0), (.lst [(.c (.int 0)), (.call 81 [(.v 0), (.c (.int 200))]), (.call 81 [(.v 0), (.c (.int 20000))])])])) (.nm 6),
      .ex (.app (.v 3) (.tup [(.v 5), (.v 6)])),
      .asg (.bin .add (.v 6) (.c (.int 1))) (.nm 4)],
    .ite (.and (.bin .eq (.call 81 [(.v 0), (.c (.int 6))]) (.c (.int 0))) (.bin .lt (.len (.v 3)) (.v 1)))
      [.ex (.app (.v 3) (.tup [(.bin .sub (.bin .sub (.bin .pow (.c (.int 2)) (.c (.int 60))) (.c (.int 1))) (.call 81 [(.v 0), (.c (.int 300))])), (.bin .pow (.c (.int 2)) (.c (.int 60)))]))]
      [],
    .ret (.tof (.v 3))]⟩
/-- _law_piece -/
def t96 : DefT := ⟨["_law_m", "_law_most", "_law_octets_here", "_law_is_end"], ["_law_m", "_law_most"], [("_law_octets", 89), ("_law_draw", 81), ("_law_number", 88)],
  [.asg (.call 89 [(.v 0), (.call 81 [(.v 0), (.bin .add (.v 1) (.c (.int 1)))])]) (.nm 2),
    .asg (.or (.emp false true (.v 2)) (.bin .eq (.call 81 [(.v 0), (.c (.int 3))]) (.c (.int 0)))) (.nm 3),
    .ret (.tup [(.mn (.call 88 [(.v 0)]) (.bin .sub (.bin .sub (.bin .pow (.c (.int 2)) (.c (.int 60))) (.c (.int 1))) (.len (.v 2)))), (.v 2), (.v 3)])]⟩
/-- _law_header -/
def t97 : DefT := ⟨["_law_m"], ["_law_m"], [("_law_draw", 81), ("_law_number", 88)],
  [.ret (.tup [(.call 81 [(.v 0), (.c (.int 2))]), (.call 88 [(.v 0)]), (.call 88 [(.v 0)]), (.ife (.bin .eq (.call 81 [(.v 0), (.c (.int 3))]) (.c (.int 0))) (.c .non) (.call 88 [(.v 0)]))])]⟩
/-- _law_frames -/
def t98 : DefT := ⟨["_law_m", "_law_is_bare", "_law_found", "_law_stream_here", "_law_turn"], ["_law_m", "_law_is_bare"], [("_law_draw", 81), ("_law_ranges", 95), ("_law_number", 88), ("_law_piece", 96)],
  [.asg (.ife (.bin .eq (.call 81 [(.v 0), (.c (.int 2))]) (.c (.int 0))) (.lst [(.tup [(.c (.str "ack")), (.call 95 [(.v 0), (.c (.int 6))]), (.call 88 [(.v 0)])])]) (.lst [])) (.nm 2),
    .for_ (.r1 (.c (.int 16))) (.nm 3)
      [.ite (.bin .eq (.call 81 [(.v 0), (.c (.int 6))]) (.c (.int 0)))
        [.ex (.app (.v 2) (.tup [(.c (.str "room")), (.v 3), (.call 88 [(.v 0)]), (.call 88 [(.v 0)])]))]
        []],
    .for_ (.r1 (.ife (.v 1) (.c (.int 0)) (.call 81 [(.v 0), (.c (.int 4))]))) (.nm 4)
      [.ex (.app (.v 2) (.tup [(.c (.str "data")), (.call 81 [(.v 0), (.c (.int 16))]), (.call 96 [(.v 0), (.c (.int 12))])]))],
    .ret (.bin .add (.v 2) (.ife (.bin .eq (.call 81 [(.v 0), (.c (.int 3))]) (.c (.int 0))) (.lst [(.tup [(.c (.str "ping"))])]) (.lst [])))]⟩
/-- _law_head_row -/
def t99 : DefT := ⟨["_law_header_here", "_law_row_here"], ["_law_header_here"], [("_law_numeral", 90)],
  [.asg (.ife (.bin .isN (.ix (.v 0) (.c (.int 3))) (.c .non)) (.tup [(.ix (.v 0) (.c (.int 0)))]) (.tup [(.bin .add (.ix (.v 0) (.c (.int 0))) (.c (.int 2)))])) (.nm 1),
    .asg (.bin .add (.bin .add (.v 1) (.call 90 [(.ix (.v 0) (.c (.int 1)))])) (.call 90 [(.ix (.v 0) (.c (.int 2)))])) (.nm 1),
    .ret (.ife (.bin .isN (.ix (.v 0) (.c (.int 3))) (.c .non)) (.v 1) (.bin .add (.v 1) (.call 90 [(.ix (.v 0) (.c (.int 3)))])))]⟩
/-- _law_ack_row -/
def t100 : DefT := ⟨["_law_ranges_here", "_law_delay", "_law_n", "_law_row_here", "_law_below_here", "_law_low", "_law_high"], ["_law_ranges_here", "_law_delay"], [("_law_numeral", 90)],
  [.par 3 4 (.bin .add (.tup [(.c (.int 1))]) (.call 90 [(.len (.v 0))])) (.c .non),
    .for_ (.r3 (.bin .sub (.len (.v 0)) (.c (.int 1))) (.neg (.c (.int 1))) (.neg (.c (.int 1)))) (.nm 2)
      [.asg (.ix (.v 0) (.v 2)) (.tp [5, 6]),
      .ite (.bin .isN (.v 4) (.c .non))
        [.asg (.bin .add (.v 3) (.call 90 [(.bin .sub (.v 6) (.c (.int 1)))])) (.nm 3)]
        [.asg (.bin .add (.v 3) (.call 90 [(.bin .sub (.bin .sub (.v 4) (.v 6)) (.c (.int 1)))])) (.nm 3)],
      .par 3 4 (.bin .add (.v 3) (.call 90 [(.bin .sub (.bin .sub (.v 6) (.c (.int 1))) (.v 5))])) (.v 5)],
    .ret (.bin .add (.v 3) (.call 90 [(.v 1)]))]⟩
/-- _law_frame_row -/
def t101 : DefT := ⟨["_law_frame_here", "_law_low", "_law_octets_here", "_law_is_end"], ["_law_frame_here"], [("_law_ack_row", 100), ("_law_numeral", 90)],
  [.ite (.bin .eq (.ix (.v 0) (.c (.int 0))) (.c (.str "ack")))
      [.ret (.call 100 [(.ix (.v 0) (.c (.int 1))), (.ix (.v 0) (.c (.int 2)))])]
      [],
    .ite (.bin .eq (.ix (.v 0) (.c (.int 0))) (.c (.str "room")))
      [.ret (.bin .add (.bin .add (.tup [(.c (.int 2)), (.ix (.v 0) (.c (.int 1)))]) (.call 90 [(.ix (.v 0) (.c (.int 2)))])) (.call 90 [(.ix (.v 0) (.c (.int 3)))]))]
      [],
    .ite (.bin .eq (.ix (.v 0) (.c (.int 0))) (.c (.str "data")))
      [.asg (.ix (.v 0) (.c (.int 2))) (.tp [1, 2, 3]),
      .ret (.bin .add (.bin .add (.bin .add (.tup [(.ife (.v 3) (.c (.int 4)) (.c (.int 3))), (.ix (.v 0) (.c (.int 1)))]) (.call 90 [(.v 1)])) (.call 90 [(.len (.v 2))])) (.v 2))]
      [],
    .ret (.tup [(.c (.int 5))])]⟩
/-- _law_body -/
def t102 : DefT := ⟨["_law_header_here", "_law_frames_here", "_law_row_here", "_law_frame_here"], ["_law_header_here", "_law_frames_here"], [("_law_head_row", 99), ("_law_frame_row", 101)],
  [.asg (.call 99 [(.v 0)]) (.nm 2),
    .for_ (.seq (.v 1)) (.nm 3)
      [.asg (.bin .add (.v 2) (.call 101 [(.v 3)])) (.nm 2)],
    .ret (.v 2)]⟩
/-- _law_failed -/
def t103 : DefT := ⟨["_law_r", "_law_word", "_law_place"], ["_law_r", "_law_word", "_law_place"], [],
  [.ite (.bin .isN (.dg (.v 0) (.c (.str "fault"))) (.c .non))
      [.putD (.tup [(.v 1), (.v 2)]) (.v 0) (.c (.str "fault"))]
      []]⟩
/-- _law_taken -/
def t104 : DefT := ⟨["_law_r", "_law_begin", "_law_number_here", "_law_n", "_law_octet"], ["_law_r"], [("_law_failed", 103)],
  [.par 1 2 (.dg (.v 0) (.c (.str "at"))) (.c (.int 0)),
    .for_ (.en (.sl (.dg (.v 0) (.c (.str "body"))) (.v 1) (.bin .add (.v 1) (.c (.int 9))))) (.tp [3, 4])
      [.ite (.and (.bin .eq (.v 3) (.c (.int 0))) (.bin .eq (.v 4) (.c (.int 128))))
        [.brk]
        [],
      .asg (.bin .add (.bin .mul (.v 2) (.c (.int 128))) (.bin .mod (.int (.v 4)) (.c (.int 128)))) (.nm 2),
      .ite (.bin .lt (.v 4) (.c (.int 128)))
        [.ite (.bin .gt (.v 2) (.bin .pow (.c (.int 2)) (.c (.int 60))))
          [.brk]
          [],
        .putD (.bin .add (.bin .add (.v 1) (.v 3)) (.c (.int 1))) (.v 0) (.c (.str "at")),
        .ret (.v 2)]
        []],
    .ex (.call 103 [(.v 0), (.c (.str "number")), (.v 1)]),
    .ret (.c .non)]⟩
/-- _law_taken_within -/
def t105 : DefT := ⟨["_law_r", "_law_low", "_law_high", "_law_begin", "_law_number_here"], ["_law_r", "_law_low", "_law_high"], [("_law_taken", 104), ("_law_failed", 103)],
  [.asg (.dg (.v 0) (.c (.str "at"))) (.nm 3),
    .asg (.call 104 [(.v 0)]) (.nm 4),
    .ite (.and (.bin .notN (.v 4) (.c .non)) (.not (.chn .le .le (.v 1) (.v 4) (.v 2))))
      [.ex (.call 103 [(.v 0), (.c (.str "bound")), (.v 3)]),
      .ret (.c .non)]
      [],
    .ret (.v 4)]⟩
/-- _law_stream -/
def t106 : DefT := ⟨["_law_r", "_law_at"], ["_law_r"], [("_law_failed", 103)],
  [.asg (.dg (.v 0) (.c (.str "at"))) (.nm 1),
    .ite (.or (.bin .ge (.v 1) (.len (.dg (.v 0) (.c (.str "body"))))) (.bin .gt (.ix (.dg (.v 0) (.c (.str "body"))) (.v 1)) (.c (.int 15))))
      [.ex (.call 103 [(.v 0), (.c (.str "bound")), (.v 1)]),
      .ret (.c .non)]
      [],
    .putD (.bin .add (.v 1) (.c (.int 1))) (.v 0) (.c (.str "at")),
    .ret (.ix (.dg (.v 0) (.c (.str "body"))) (.v 1))]⟩
/-- _law_ack -/
def t107 : DefT := ⟨["_law_r", "_law_many", "_law_turn", "_law_delay", "_law_found", "_law_below_here", "_law_begin", "_law_told_here", "_law_top", "_law_more"], ["_law_r"], [("_law_taken_within", 105), ("_law_taken", 104), ("_law_failed", 103)],
  [.asg (.call 105 [(.v 0), (.c (.int 1)), (.c (.int 32))]) (.nm 1),
    .par 4 5 (.lst []) (.c .non),
    .for_ (.r1 (.ife (.bin .isN (.v 1) (.c .non)) (.c (.int 0)) (.v 1))) (.nm 2)
      [.asg (.dg (.v 0) (.c (.str "at"))) (.nm 6),
      .asg (.call 104 [(.v 0)]) (.nm 7),
      .ite (.bin .isN (.v 7) (.c .non))
        [.ret (.c .non)]
        [],
      .asg (.ife (.bin .isN (.v 5) (.c .non)) (.v 7) (.bin .sub (.bin .sub (.v 5) (.c (.int 2))) (.v 7))) (.nm 8),
      .ite (.not (.chn .le .lt (.c (.int 0)) (.v 8) (.bin .pow (.c (.int 2)) (.c (.int 60)))))
        [.ex (.call 103 [(.v 0), (.c (.str "bound")), (.v 6)]),
        .ret (.c .non)]
        [],
      .asg (.call 105 [(.v 0), (.c (.int 0)), (.v 8)]) (.nm 9),
      .ite (.bin .isN (.v 9) (.c .non))
        [.ret (.c .non)]
        [],
      .asg (.bin .add (.lst [(.tup [(.bin .sub (.v 8) (.v 9)), (.bin .add (.v 8) (.c (.int 1)))])]) (.v 4)) (.nm 4),
      .asg (.bin .sub (.v 8) (.v 9)) (.nm 5)],
    .asg (.ife (.bin .isN (.v 1) (.c .non)) (.c .non) (.call 104 [(.v 0)])) (.nm 3),
    .ret (.ife (.bin .isN (.v 3) (.c .non)) (.c .non) (.tup [(.c (.str "ack")), (.tof (.v 4)), (.v 3)]))]⟩
/-- _law_room -/
def t108 : DefT := ⟨["_law_r", "_law_frames_here", "_law_at", "_law_stream_here", "_law_have", "_law_limit"], ["_law_r", "_law_frames_here"], [("_law_stream", 106), ("_law_failed", 103), ("_law_taken", 104)],
  [.asg (.dg (.v 0) (.c (.str "at"))) (.nm 2),
    .asg (.call 106 [(.v 0)]) (.nm 3),
    .ite (.and (.bin .notN (.v 3) (.c .non)) (.and (.emp true false (.v 1)) (.and (.bin .eq (.ix (.ix (.v 1) (.neg (.c (.int 1)))) (.c (.int 0))) (.c (.str "room"))) (.bin .ge (.ix (.ix (.v 1) (.neg (.c (.int 1)))) (.c (.int 1))) (.v 3)))))
      [.ex (.call 103 [(.v 0), (.c (.str "order")), (.v 2)])]
      [],
    .ite (.bin .notN (.dg (.v 0) (.c (.str "fault"))) (.c .non))
      [.ret (.c .non)]
      [],
    .asg (.call 104 [(.v 0)]) (.nm 4),
    .asg (.ife (.bin .isN (.v 4) (.c .non)) (.c .non) (.call 104 [(.v 0)])) (.nm 5),
    .ret (.ife (.bin .isN (.v 5) (.c .non)) (.c .non) (.tup [(.c (.str "room")), (.v 3), (.v 4), (.v 5)]))]⟩
/-- _law_data -/
def t109 : DefT := ⟨["_law_r", "_law_is_end", "_law_stream_here", "_law_low", "_law_begin", "_law_many", "_law_end", "_law_octets_here"], ["_law_r", "_law_is_end"], [("_law_stream", 106), ("_law_taken", 104), ("_law_failed", 103)],
  [.asg (.call 106 [(.v 0)]) (.nm 2),
    .asg (.ife (.bin .isN (.v 2) (.c .non)) (.c .non) (.call 104 [(.v 0)])) (.nm 3),
    .ite (.bin .isN (.v 3) (.c .non))
      [.ret (.c .non)]
      [],
    .asg (.dg (.v 0) (.c (.str "at"))) (.nm 4),
    .asg (.call 104 [(.v 0)]) (.nm 5),
    .ite (.bin .isN (.v 5) (.c .non))
      [.ret (.c .non)]
      [],
    .asg (.bin .add (.dg (.v 0) (.c (.str "at"))) (.v 5)) (.nm 6),
    .ite (.or (.bin .eq (.bin .add (.v 5) (.int (.v 1))) (.c (.int 0))) (.or (.bin .gt (.bin .add (.v 3) (.v 5)) (.bin .sub (.bin .pow (.c (.int 2)) (.c (.int 60))) (.c (.int 1)))) (.bin .gt (.v 6) (.len (.dg (.v 0) (.c (.str "body")))))))
      [.ex (.call 103 [(.v 0), (.c (.str "bound")), (.v 4)]),
      .ret (.c .non)]
      [],
    .asg (.sl (.dg (.v 0) (.c (.str "body"))) (.dg (.v 0) (.c (.str "at"))) (.v 6)) (.nm 7),
    .putD (.v 6) (.v 0) (.c (.str "at")),
    .ret (.tup [(.c (.str "data")), (.v 2), (.tup [(.v 3), (.v 7), (.v 1)])])]⟩
/-- _law_may_stand -/
def t110 : DefT := ⟨["_law_sort", "_law_frames_here", "_law_is_bare", "_law_had", "_law_frame_here"], ["_law_sort", "_law_frames_here", "_law_is_bare"], [],
  [.asg (.lc (.seq (.v 1)) (.nm 4) (.ix (.v 4) (.c (.int 0)))) (.nm 3),
    .ite (.bin .eq (.v 0) (.c (.int 1)))
      [.ret (.emp false false (.v 3))]
      [],
    .ite (.or (.bin .isin (.c (.str "ping")) (.v 3)) (.and (.bin .eq (.v 0) (.c (.int 2))) (.bin .isin (.c (.str "data")) (.v 3))))
      [.ret (.c (.bl false))]
      [],
    .ret (.not (.and (.v 2) (.bin .isin (.v 0) (.tup [(.c (.int 3)), (.c (.int 4))]))))]⟩
/-- _law_frame -/
def t111 : DefT := ⟨["_law_r", "_law_frames_here", "_law_is_bare", "_law_sort"], ["_law_r", "_law_frames_here", "_law_is_bare"], [("_law_failed", 103), ("_law_may_stand", 110), ("_law_ack", 107), ("_law_room", 108), ("_law_data", 109)],
  [.asg (.ix (.dg (.v 0) (.c (.str "body"))) (.dg (.v 0) (.c (.str "at")))) (.nm 3),
    .ite (.not (.chn .le .le (.c (.int 1)) (.v 3) (.c (.int 5))))
      [.ex (.call 103 [(.v 0), (.c (.str "frame")), (.dg (.v 0) (.c (.str "at")))]),
      .ret (.c .non)]
      [],
    .ite (.not (.call 110 [(.v 3), (.v 1), (.v 2)]))
      [.ex (.call 103 [(.v 0), (.c (.str "order")), (.dg (.v 0) (.c (.str "at")))]),
      .ret (.c .non)]
      [],
    .putD (.bin .add (.dg (.v 0) (.c (.str "at"))) (.c (.int 1))) (.v 0) (.c (.str "at")),
    .ite (.bin .eq (.v 3) (.c (.int 5)))
      [.ret (.tup [(.c (.str "ping"))])]
      [],
    .ite (.bin .eq (.v 3) (.c (.int 1)))
      [.ret (.call 107 [(.v 0)])]
      [],
    .ret (.ife (.bin .eq (.v 3) (.c (.int 2))) (.call 108 [(.v 0), (.v 1)]) (.call 109 [(.v 0), (.bin .eq (.v 3) (.c (.int 4)))]))]⟩
/-- _law_read -/
def t112 : DefT := ⟨["_law_body_here", "_law_r", "_law_maker", "_law_partner", "_law_packet", "_law_frames_here", "_law_turn"], ["_law_body_here"], [("_law_taken", 104), ("_law_frame", 111)],
  [.asg (.dsp ["body", "at", "fault"] [(.v 0), (.c (.int 1)), (.c .non)]) (.nm 1),
    .ite (.bin .gt (.ix (.v 0) (.c (.int 0))) (.c (.int 3)))
      [.ret (.tup [(.c (.str "head")), (.c (.int 0))])]
      [],
    .asg (.call 104 [(.v 1)]) (.nm 2),
    .asg (.ife (.bin .isN (.v 2) (.c .non)) (.c .non) (.call 104 [(.v 1)])) (.nm 3),
    .asg (.ife (.or (.bin .isN (.v 3) (.c .non)) (.bin .lt (.ix (.v 0) (.c (.int 0))) (.c (.int 2)))) (.c .non) (.call 104 [(.v 1)])) (.nm 4),
    .asg (.lst []) (.nm 5),
    .for_ (.r1 (.len (.v 0))) (.nm 6)
      [.ite (.or (.bin .notN (.dg (.v 1) (.c (.str "fault"))) (.c .non)) (.bin .ge (.dg (.v 1) (.c (.str "at"))) (.len (.v 0))))
        [.brk]
        [],
      .ex (.app (.v 5) (.call 111 [(.v 1), (.v 5), (.bin .lt (.ix (.v 0) (.c (.int 0))) (.c (.int 2)))]))],
    .ite (.bin .notN (.dg (.v 1) (.c (.str "fault"))) (.c .non))
      [.ret (.dg (.v 1) (.c (.str "fault")))]
      [],
    .ret (.tup [(.c (.str "let")), (.tup [(.tup [(.bin .mod (.int (.ix (.v 0) (.c (.int 0)))) (.c (.int 2))), (.v 2), (.v 3), (.v 4)]), (.tof (.v 5))])])]⟩
/-- _law_told -/
def t113 : DefT := ⟨["_law_octets_here", "e", "_law_told_here"], ["_law_octets_here"], [("read_datagram", 77)],
  [.tryA [.asg (.tup [(.c (.str "let")), (.call 77 [(.v 0)])]) (.nm 2)] "BadDatagram" 1 2,
    .ret (.v 2)]⟩
/-- _law_mixed_body -/
def t114 : DefT := ⟨["_law_m", "_law_header_here", "_law_frames_here", "_law_n"], ["_law_m"], [("_law_header", 97), ("_law_frames", 98), ("_law_draw", 81), ("_law_order", 86), ("_law_of", 84), ("_law_body", 102)],
  [.asg (.call 97 [(.v 0)]) (.nm 1),
    .asg (.call 98 [(.v 0), (.c (.bl false))]) (.nm 2),
    .ite (.and (.bin .eq (.call 81 [(.v 0), (.c (.int 2))]) (.c (.int 0))) (.emp true false (.v 2)))
      [.asg (.lc (.seq (.call 86 [(.v 0), (.len (.v 2))])) (.nm 3) (.ix (.v 2) (.v 3))) (.nm 2)]
      [],
    .ite (.and (.bin .eq (.call 81 [(.v 0), (.c (.int 3))]) (.c (.int 0))) (.emp true false (.v 2)))
      [.ex (.app (.v 2) (.call 84 [(.v 0), (.v 2)]))]
      [],
    .ret (.call 102 [(.v 1), (.v 2)])]⟩
/-- _law_bent -/
def t115 : DefT := ⟨["_law_m", "_law_body_here", "_law_turn", "_law_octet", "_law_at", "_law_kind"], ["_law_m", "_law_body_here"], [("_law_draw", 81), ("_law_of", 84)],
  [.for_ (.r1 (.bin .add (.c (.int 1)) (.call 81 [(.v 0), (.c (.int 2))]))) (.nm 2)
      [.par 4 5 (.call 81 [(.v 0), (.len (.v 1))]) (.call 81 [(.v 0), (.c (.int 5))]),
      .asg (.call 84 [(.v 0), (.lst [(.c (.int 0)), (.c (.int 1)), (.c (.int 2)), (.c (.int 3)), (.c (.int 4)), (.c (.int 5)), (.c (.int 6)), (.c (.int 15)), (.c (.int 16)), (.c (.int 32)), (.c (.int 33)), (.c (.int 127)), (.c (.int 128)), (.c (.int 129)), (.c (.int 255)), (.call 81 [(.v 0), (.c (.int 256))])])]) (.nm 3),
      .ite (.bin .lt (.v 5) (.c (.int 2)))
        [.asg (.bin .add (.bin .add (.slU (.v 1) (.v 4)) (.tup [(.v 3)])) (.slL (.v 1) (.bin .add (.v 4) (.c (.int 1))))) (.nm 1)]
        [.ite (.bin .eq (.v 5) (.c (.int 2)))
          [.asg (.bin .add (.bin .add (.slU (.v 1) (.v 4)) (.tup [(.v 3)])) (.slL (.v 1) (.v 4))) (.nm 1)]
          [.ite (.and (.bin .eq (.v 5) (.c (.int 3))) (.bin .gt (.len (.v 1)) (.c (.int 3))))
            [.asg (.bin .add (.slU (.v 1) (.v 4)) (.slL (.v 1) (.bin .add (.v 4) (.c (.int 1))))) (.nm 1)]
            [.ite (.bin .eq (.v 5) (.c (.int 4)))
              [.asg (.slU (.v 1) (.mx (.c (.int 3)) (.v 4))) (.nm 1)]
              []]]]],
    .ret (.v 1)]⟩
/-- _law_octets_right -/
def t116 : DefT := ⟨["_law_m", "_law_body_here", "_law_one", "_law_bad", "_law_octets_here", "_law_due"], ["_law_m"], [("_law_mixed_body", 114), ("_law_bent", 115), ("_law_body", 102), ("_law_header", 97), ("_law_frames", 98), ("_law_check", 93), ("_law_read", 112), ("_law_like", 83), ("_law_told", 113), ("written", 75), ("_law_turned", 94), ("_law_draw", 81)],
  [.asg (.call 114 [(.v 0)]) (.nm 1),
    .for_ (.seq (.lst [(.v 1), (.call 115 [(.v 0), (.v 1)]), (.call 115 [(.v 0), (.call 102 [(.call 97 [(.v 0)]), (.call 98 [(.v 0), (.c (.bl false))])])])])) (.nm 2)
      [.par 4 5 (.bin .add (.v 2) (.call 93 [(.v 2)])) (.call 112 [(.v 2)]),
      .ite (.not (.call 83 [(.call 113 [(.v 4)]), (.v 5)]))
        [.ret (.c (.bl false))]
        [],
      .ite (.and (.bin .eq (.ix (.v 5) (.c (.int 0))) (.c (.str "let"))) (.not (.call 83 [(.call 75 [(.ix (.v 5) (.c (.int 1)))]), (.v 4)])))
        [.ret (.c (.bl false))]
        [],
      .asg (.call 94 [(.v 4), (.lst [(.call 81 [(.v 0), (.bin .mul (.c (.int 8)) (.len (.v 4)))])])]) (.nm 3),
      .ite (.not (.call 83 [(.call 113 [(.v 3)]), (.tup [(.c (.str "check")), (.c .non)])]))
        [.ret (.c (.bl false))]
        []],
    .ret (.c (.bl true))]⟩
/-- _law_is_piece -/
def t117 : DefT := ⟨["_law_thing", "_law_octet"], ["_law_thing"], [("_law_is_int", 85)],
  [.ite (.or (.not (.isi (.v 0) "tuple")) (.or (.bin .ne (.len (.v 0)) (.c (.int 3))) (.or (.not (.isi (.ix (.v 0) (.c (.int 1))) "tuple")) (.not (.isi (.ix (.v 0) (.c (.int 2))) "bool")))))
      [.ret (.c (.bl false))]
      [],
    .ite (.or (.emp true false (.lcT (.seq (.ix (.v 0) (.c (.int 1)))) (.nm 1) (.not (.call 85 [(.v 1), (.c (.int 0)), (.c (.int 255))])) (.c (.int 1)))) (.not (.call 85 [(.ix (.v 0) (.c (.int 0))), (.c (.int 0)), (.bin .pow (.c (.int 2)) (.c (.int 60)))])))
      [.ret (.c (.bl false))]
      [],
    .ret (.and (.or (.emp true true (.ix (.v 0) (.c (.int 1)))) (.ix (.v 0) (.c (.int 2)))) (.bin .le (.bin .add (.ix (.v 0) (.c (.int 0))) (.len (.ix (.v 0) (.c (.int 1))))) (.bin .sub (.bin .pow (.c (.int 2)) (.c (.int 60))) (.c (.int 1)))))]⟩
/-- _law_values_right -/
def t118 : DefT := ⟨["_law_m", "_law_odd", "_law_heads", "_law_rows", "_law_frames_here", "_law_pieces", "_law_piece_here", "_law_bare", "_law_good", "_law_ping", "_law_room_here", "_law_data_here", "_law_head", "_law_frame_here", "_law_value", "_law_due", "_law_n"], ["_law_m"], [("_law_header", 97), ("_law_of", 84), ("_law_is_piece", 117), ("_law_is_told", 119)],
  [.asg (.tup [(.bin .add (.slU (.call 97 [(.v 0)]) (.c (.int 3))) (.tup [(.c (.int 5))])), (.tup [(.c (.str "ping"))])]) (.tp [8, 9]),
    .asg (.call 84 [(.v 0), (.lst [(.c (.bl true)), (.c .non), (.neg (.c (.int 1))), (.bin .add (.bin .pow (.c (.int 2)) (.c (.int 60))) (.c (.int 1))), (.c (.str "0")), (.tup [(.c (.int 0))]), (.lst []), .newD])]) (.nm 1),
    .asg (.tup [(.tup [(.c (.str "room")), (.c (.int 4)), (.c (.int 0)), (.bin .pow (.c (.int 2)) (.c (.int 60)))]), (.tup [(.c (.str "data")), (.c (.int 0)), (.tup [(.c (.int 7)), (.tup [(.c (.int 255))]), (.c (.bl false))])])]) (.tp [10, 11]),
    .asg (.lst [(.slU (.v 8) (.c (.int 3))), (.bin .add (.v 8) (.tup [(.c (.int 0))])), (.bin .add (.tup [(.c (.int 2))]) (.slL (.v 8) (.c (.int 1)))), (.bin .add (.tup [(.v 1)]) (.slL (.v 8) (.c (.int 1)))), (.bin .add (.tup [(.ix (.v 8) (.c (.int 0))), (.v 1)]) (.slL (.v 8) (.c (.int 2)))), (.lof (.v 8)), (.c .non), (.c (.str "four"))]) (.nm 2),
    .ex (.app (.v 2) (.tup [(.ix (.v 8) (.c (.int 0))), (.ix (.v 8) (.c (.int 1))), (.v 1), (.c .non)])),
    .asg (.lst [(.tup [(.c .non), (.tup [(.c (.str "form")), (.c .non)])]), (.tup [(.tup [(.v 8)]), (.tup [(.c (.str "form")), (.c .non)])]), (.tup [(.lst [(.v 8), (.tup [])]), (.tup [(.c (.str "form")), (.c .non)])]), (.tup [(.tup [(.v 8), (.lst [(.v 9)])]), (.tup [(.c (.str "form")), (.c .non)])])]) (.nm 3),
    .asg (.bin .add (.v 3) (.lst [(.tup [(.tup [(.v 8), (.tup []), (.tup [])]), (.tup [(.c (.str "form")), (.c .non)])]), (.tup [(.tup [(.v 8), (.v 1)]), (.ife (.bin .ne (.v 1) (.tup [(.c (.int 0))])) (.tup [(.c (.str "form")), (.c .non)]) (.tup [(.c (.str "frame")), (.c (.int 0))]))])])) (.nm 3),
    .asg (.bin .add (.v 3) (.lc (.seq (.v 2)) (.nm 12) (.tup [(.tup [(.v 12), (.tup [(.v 9)])]), (.tup [(.c (.str "header")), (.c .non)])]))) (.nm 3),
    .asg (.lst [(.tup [(.c (.str "pong"))]), (.tup []), (.lst [(.c (.str "ping"))]), (.tup [(.c (.str "ping")), (.c (.int 0))]), (.tup [(.c (.str "room")), (.c (.int 16)), (.c (.int 0)), (.c (.int 0))]), (.tup [(.c (.str "room")), (.c (.int 0)), (.v 1), (.c (.int 0))]), (.tup [(.c (.str "room")), (.c (.int 0)), (.c (.int 0))]), (.c .non), (.tup [(.c (.str "data")), (.c (.int 0))])]) (.nm 4),
    .asg (.bin .add (.v 4) (.lst [(.tup [(.c (.str "ack")), (.tup []), (.c (.int 0))]), (.tup [(.c (.str "ack")), (.tup [(.tup [(.c (.int 3)), (.c (.int 3))])]), (.c (.int 0))]), (.tup [(.c (.str "ack")), (.tup [(.tup [(.c (.int 0)), (.c (.int 1))]), (.tup [(.c (.int 1)), (.c (.int 2))])]), (.c (.int 0))]), (.tup [(.c (.str "ack")), (.tup [(.tup [(.c (.int 0)), (.c (.int 1))])])]), (.tup [(.c (.str "ack")), (.tup [(.tup [(.c (.int 0)), (.c (.int 1))])]), (.v 1)])])) (.nm 4),
    .ex (.app (.v 4) (.tup [(.c (.str "ack")), (.tof (.lc (.r1 (.c (.int 33))) (.nm 16) (.tup [(.bin .mul (.c (.int 2)) (.v 16)), (.bin .add (.bin .mul (.c (.int 2)) (.v 16)) (.c (.int 1)))]))), (.c (.int 0))])),
    .asg (.lst [(.tup [(.c (.int 0)), (.tup []), (.c (.bl false))]), (.tup [(.bin .sub (.bin .pow (.c (.int 2)) (.c (.int 60))) (.c (.int 1))), (.tup [(.c (.int 1))]), (.c (.bl true))]), (.tup [(.c (.int 0)), (.lst [(.c (.int 1))]), (.c (.bl false))]), (.tup [(.c (.int 0)), (.tup [(.c (.int 256))]), (.c (.bl false))]), (.tup [(.c (.int 0)), (.tup [(.c (.int 1))]), (.c (.int 1))]), (.tup [(.v 1), (.tup [(.c (.int 1))]), (.c (.bl false))])]) (.nm 5),
    .for_ (.seq (.bin .add (.v 5) (.lst [(.tup [(.bin .sub (.bin .pow (.c (.int 2)) (.c (.int 60))) (.c (.int 2))), (.tup [(.c (.int 1))]), (.c (.bl true))]), (.tup [(.c (.int 0)), (.tup [(.c (.bl true))]), (.c (.bl true))]), (.tup [(.c (.int 0)), (.tup []), (.c (.bl true))])]))) (.nm 6)
      [.ite (.not (.call 117 [(.v 6)]))
        [.ex (.app (.v 4) (.tup [(.c (.str "data")), (.c (.int 15)), (.v 6)]))]
        []],
    .asg (.bin .add (.v 3) (.lc (.seq (.v 4)) (.nm 13) (.tup [(.tup [(.v 8), (.tup [(.v 10), (.v 13), (.c .non)])]), (.tup [(.c (.str "frame")), (.c (.int 1))])]))) (.nm 3),
    .asg (.bin .add (.slU (.v 8) (.c (.int 3))) (.tup [(.c .non)])) (.nm 7),
    .asg (.bin .add (.v 3) (.lst [(.tup [(.tup [(.v 8), (.tup [(.v 9), (.v 9)])]), (.tup [(.c (.str "order")), (.c (.int 1))])]), (.tup [(.tup [(.v 8), (.tup [(.v 11), (.v 10)])]), (.tup [(.c (.str "order")), (.c (.int 1))])]), (.tup [(.tup [(.v 8), (.tup [(.v 10), (.v 10)])]), (.tup [(.c (.str "order")), (.c (.int 1))])])])) (.nm 3),
    .asg (.bin .add (.v 3) (.lst [(.tup [(.tup [(.v 8), (.tup [(.v 9), (.v 11)])]), (.tup [(.c (.str "order")), (.c (.int 1))])]), (.tup [(.tup [(.v 8), (.tup [(.v 10), (.tup [(.c (.str "ack")), (.tup [(.tup [(.c (.int 0)), (.c (.int 1))])]), (.c (.int 0))])])]), (.tup [(.c (.str "order")), (.c (.int 1))])])])) (.nm 3),
    .asg (.bin .add (.v 3) (.lst [(.tup [(.tup [(.v 7), (.tup [(.v 10), (.v 11)])]), (.tup [(.c (.str "order")), (.c (.int 1))])]), (.tup [(.tup [(.v 7), (.tup [(.v 10), (.v 9)])]), (.c .non)]), (.tup [(.tup [(.v 8), (.tup [(.v 10), (.v 11), (.v 11), (.v 9)])]), (.c .non)])])) (.nm 3),
    .ret (.emp false false (.lcT (.seq (.v 3)) (.tp [14, 15]) (.not (.call 119 [(.v 14), (.v 15)])) (.c (.int 1))))]⟩
/-- _law_is_told -/
def t119 : DefT := ⟨["_law_value", "_law_due", "_law_told_here", "e"], ["_law_value", "_law_due"], [("need_datagram", 74), ("_law_like", 83), ("datagram_fault", 73)],
  [.asg (.tup []) (.nm 2),
    .tryA [.ex (.call 74 [(.v 0)])] "BadValue" 3 2,
    .ret (.call 83 [(.lst [(.call 73 [(.v 0)]), (.v 2)]), (.lst [(.v 1), (.ife (.bin .isN (.v 1) (.c .non)) (.tup []) (.v 1))])])]⟩
/-- _law_hands_right -/
def t120 : DefT := ⟨["_law_rows", "_law_body_here", "_law_due"], [], [("_law_like", 83), ("_law_told", 113), ("_law_check", 93)],
  [.asg (.lst [(.tup [(.tup [(.c (.int 2)), (.c (.int 0)), (.c (.int 0)), (.c (.int 0)), (.c (.int 3)), (.c (.int 0)), (.c (.int 0)), (.c (.int 0))]), (.tup [(.c (.str "bound")), (.c (.int 7))])]), (.tup [(.tup [(.c (.int 4)), (.c (.int 0)), (.c (.int 0))]), (.tup [(.c (.str "head")), (.c (.int 0))])]), (.tup [(.tup [(.c (.int 0)), (.c (.int 0)), (.c (.int 128))]), (.tup [(.c (.str "number")), (.c (.int 2))])])]) (.nm 0),
    .asg (.bin .add (.v 0) (.lst [(.tup [(.tup [(.c (.int 2)), (.c (.int 0)), (.c (.int 0)), (.c (.int 0)), (.c (.int 4)), (.c (.int 0)), (.c (.int 0)), (.c (.int 0))]), (.tup [(.c (.str "let")), (.tup [(.tup [(.c (.int 0)), (.c (.int 0)), (.c (.int 0)), (.c (.int 0))]), (.tup [(.tup [(.c (.str "data")), (.c (.int 0)), (.tup [(.c (.int 0)), (.tup []), (.c (.bl true))])])])])])])])) (.nm 0),
    .asg (.bin .add (.v 0) (.lst [(.tup [(.tup [(.c (.int 0)), (.c (.int 0)), (.c (.int 0)), (.c (.int 6))]), (.tup [(.c (.str "frame")), (.c (.int 3))])]), (.tup [(.tup [(.c (.int 0)), (.c (.int 0)), (.c (.int 0)), (.c (.int 3)), (.c (.int 0)), (.c (.int 0)), (.c (.int 1)), (.c (.int 9))]), (.tup [(.c (.str "order")), (.c (.int 3))])]), (.tup [(.tup [(.c (.int 2)), (.c (.int 0)), (.c (.int 0)), (.c (.int 0)), (.c (.int 5)), (.c (.int 5))]), (.tup [(.c (.str "order")), (.c (.int 5))])])])) (.nm 0),
    .asg (.bin .add (.v 0) (.lst [(.tup [(.tup [(.c (.int 2)), (.c (.int 0)), (.c (.int 0)), (.c (.int 0)), (.c (.int 2)), (.c (.int 16)), (.c (.int 0)), (.c (.int 0))]), (.tup [(.c (.str "bound")), (.c (.int 5))])]), (.tup [(.tup [(.c (.int 2)), (.c (.int 0)), (.c (.int 0)), (.c (.int 0)), (.c (.int 2)), (.c (.int 3)), (.c (.int 0)), (.c (.int 0)), (.c (.int 2)), (.c (.int 3)), (.c (.int 0)), (.c (.int 0))]), (.tup [(.c (.str "order")), (.c (.int 9))])])])) (.nm 0),
    .asg (.bin .add (.v 0) (.lst [(.tup [(.tup [(.c (.int 0)), (.c (.int 0)), (.c (.int 0)), (.c (.int 1)), (.c (.int 0))]), (.tup [(.c (.str "bound")), (.c (.int 4))])]), (.tup [(.tup [(.c (.int 0)), (.c (.int 0)), (.c (.int 0)), (.c (.int 1)), (.c (.int 33))]), (.tup [(.c (.str "bound")), (.c (.int 4))])]), (.tup [(.tup [(.c (.int 0)), (.c (.int 0)), (.c (.int 0)), (.c (.int 1)), (.c (.int 1)), (.c (.int 5)), (.c (.int 6)), (.c (.int 0))]), (.tup [(.c (.str "bound")), (.c (.int 6))])])])) (.nm 0),
    .ex (.app (.v 0) (.tup [(.tup [(.c (.int 0)), (.c (.int 0)), (.c (.int 0)), (.c (.int 1)), (.c (.int 1)), (.c (.int 144)), (.c (.int 128)), (.c (.int 128)), (.c (.int 128)), (.c (.int 128)), (.c (.int 128)), (.c (.int 128)), (.c (.int 128)), (.c (.int 0)), (.c (.int 0)), (.c (.int 0))]), (.tup [(.c (.str "bound")), (.c (.int 5))])])),
    .ret (.emp false false (.lcT (.seq (.v 0)) (.tp [1, 2]) (.not (.call 83 [(.call 113 [(.bin .add (.v 1) (.call 93 [(.v 1)]))]), (.v 2)])) (.c (.int 1))))]⟩
/-- law -/
def t121 : DefT := ⟨["_law_script", "_law_m", "_law_turn", "_law_body_here", "_law_octets_here", "_law_at", "_law_thing", "_law_odd", "_law_one"], ["_law_script"], [("_law_begun", 82), ("_law_hands_right", 120), ("_law_octets_right", 116), ("_law_mixed_body", 114), ("_law_check", 93), ("_law_draw", 81), ("_law_of", 84), ("_law_like", 83), ("_law_told", 113), ("_law_values_right", 118)],
  [.asg (.call 82 [(.v 0)]) (.nm 1),
    .ite (.not (.call 120 []))
      [.ret (.c (.bl false))]
      [],
    .for_ (.r1 (.c (.int 3))) (.nm 2)
      [.ite (.not (.call 116 [(.v 1)]))
        [.ret (.c (.bl false))]
        []],
    .asg (.call 114 [(.v 1)]) (.nm 3),
    .asg (.bin .add (.v 3) (.call 93 [(.v 3)])) (.nm 4),
    .asg (.call 81 [(.v 1), (.len (.v 4))]) (.nm 5),
    .asg (.call 84 [(.v 1), (.lst [(.c (.int 256)), (.neg (.c (.int 1))), (.c (.bl true)), (.c .non), (.c (.str "0")), (.tup [(.c (.int 0))]), (.lst []), .newD])]) (.nm 6),
    .asg (.lst [(.c .non), (.lof (.v 4)), (.slU (.v 4) (.c (.int 6))), (.bin .mul (.tup [(.c (.int 0))]) (.c (.int 1201))), (.bin .add (.bin .add (.slU (.v 4) (.v 5)) (.tup [(.v 6)])) (.slL (.v 4) (.bin .add (.v 5) (.c (.int 1))))), (.c (.str "octets")), (.c (.int 7)), .newD]) (.nm 7),
    .ite (.emp true false (.lcT (.seq (.v 7)) (.nm 8) (.not (.call 83 [(.call 113 [(.v 8)]), (.tup [(.c (.str "form")), (.c .non)])])) (.c (.int 1))))
      [.ret (.c (.bl false))]
      [],
    .ret (.call 118 [(.v 1)])]⟩
/-- the numbers and tuples of the program -/
def cnsG : List (Str × D) := [("MOST_NUMBER", (.int 1152921504606846976)), ("MOST_OCTETS", (.int 1048576)), ("PLACES", (.int 32)), ("DIVISOR", (.int 6442450971)), ("MOST_REST", (.int 4294967295)), ("BEGIN", (.tup [(.int 255), (.int 255), (.int 255), (.int 255)])), ("CHECK_SIZE", (.int 4)), ("MOST_SIZE", (.int 1200)), ("MOST_GROUPS", (.int 9)), ("MOST_KEPT", (.int 1048576)), ("MOST_LENGTH_pieces", (.int 1152921504606846975)), ("MOST_RANGES_ranges", (.int 1048576)), ("MOST_RANGES_frames", (.int 32)), ("MOST_STREAM", (.int 15)), ("MOST_LENGTH_reading", (.int 1152921504606846975)), ("SORTS", (.tup [(.str "none"), (.str "ack"), (.str "room"), (.str "data"), (.str "data"), (.str "ping")])), ("LEAST_SIZE", (.int 7))]
def exsG : List (Str × List Str) := [("BadDatagram", ["word", "place"]), ("BadValue", ["word", "place"]), ("BadRanges", ["place"])]
end K7
/-! K7: the trees are those of the program. -/
namespace K7
open PySem PySem.Spec L2
open PyProof.Rows hiding St

def trOk (d : DefT) (i : Nat) : Prop := scopeB d (scopeOf (top i)) = true ∧ trSs 12 60 (d.sc (scopeOf (top i)) cnsG exsG) (bodyOf (top i)) = some d.body
/-- is_whole -/
theorem tr10 : trOk t10 10 := ⟨by decide +kernel, by kernel_rfl⟩
/-- is_within -/
theorem tr12 : trOk t12 12 := ⟨by decide +kernel, by kernel_rfl⟩
/-- need_number -/
theorem tr13 : trOk t13 13 := ⟨by decide +kernel, by kernel_rfl⟩
/-- is_number -/
theorem tr14 : trOk t14 14 := ⟨by decide +kernel, by kernel_rfl⟩
/-- need_octets -/
theorem tr17 : trOk t17 17 := ⟨by decide +kernel, by kernel_rfl⟩
/-- moved -/
theorem tr22 : trOk t22 22 := ⟨by decide +kernel, by kernel_rfl⟩
/-- rests_of_fours -/
theorem tr23 : trOk t23 23 := ⟨by decide +kernel, by kernel_rfl⟩
/-- rest_by_fours -/
theorem tr24 : trOk t24 24 := ⟨by decide +kernel, by kernel_rfl⟩
/-- check_of -/
theorem tr29 : trOk t29 29 := ⟨by decide +kernel, by kernel_rfl⟩
/-- is_whole -/
theorem tr30 : trOk t30 30 := ⟨by decide +kernel, by kernel_rfl⟩
/-- numeral -/
theorem tr34 : trOk t34 34 := ⟨by decide +kernel, by kernel_rfl⟩
/-- numeral_found -/
theorem tr35 : trOk t35 35 := ⟨by decide +kernel, by kernel_rfl⟩
/-- are_octets -/
theorem tr39 : trOk t39 39 := ⟨by decide +kernel, by kernel_rfl⟩
/-- is_piece -/
theorem tr40 : trOk t40 40 := ⟨by decide +kernel, by kernel_rfl⟩
/-- is_range -/
theorem tr43 : trOk t43 43 := ⟨by decide +kernel, by kernel_rfl⟩
/-- need_ranges -/
theorem tr44 : trOk t44 44 := ⟨by decide +kernel, by kernel_rfl⟩
/-- is_ranges -/
theorem tr45 : trOk t45 45 := ⟨by decide +kernel, by kernel_rfl⟩
/-- is_header -/
theorem tr50 : trOk t50 50 := ⟨by decide +kernel, by kernel_rfl⟩
/-- is_ack -/
theorem tr51 : trOk t51 51 := ⟨by decide +kernel, by kernel_rfl⟩
/-- is_frame -/
theorem tr52 : trOk t52 52 := ⟨by decide +kernel, by kernel_rfl⟩
/-- may_stand -/
theorem tr53 : trOk t53 53 := ⟨by decide +kernel, by kernel_rfl⟩
/-- is_next -/
theorem tr54 : trOk t54 54 := ⟨by decide +kernel, by kernel_rfl⟩
/-- head_octets -/
theorem tr55 : trOk t55 55 := ⟨by decide +kernel, by kernel_rfl⟩
/-- ack_octets -/
theorem tr56 : trOk t56 56 := ⟨by decide +kernel, by kernel_rfl⟩
/-- frame_octets -/
theorem tr57 : trOk t57 57 := ⟨by decide +kernel, by kernel_rfl⟩
/-- number_at -/
theorem tr61 : trOk t61 61 := ⟨by decide +kernel, by kernel_rfl⟩
/-- header_at -/
theorem tr62 : trOk t62 62 := ⟨by decide +kernel, by kernel_rfl⟩
/-- stream_at -/
theorem tr63 : trOk t63 63 := ⟨by decide +kernel, by kernel_rfl⟩
/-- bounded -/
theorem tr64 : trOk t64 64 := ⟨by decide +kernel, by kernel_rfl⟩
/-- range_at -/
theorem tr65 : trOk t65 65 := ⟨by decide +kernel, by kernel_rfl⟩
/-- ack_at -/
theorem tr66 : trOk t66 66 := ⟨by decide +kernel, by kernel_rfl⟩
/-- room_at -/
theorem tr67 : trOk t67 67 := ⟨by decide +kernel, by kernel_rfl⟩
/-- data_at -/
theorem tr68 : trOk t68 68 := ⟨by decide +kernel, by kernel_rfl⟩
/-- frame_at -/
theorem tr69 : trOk t69 69 := ⟨by decide +kernel, by kernel_rfl⟩
/-- body_read -/
theorem tr70 : trOk t70 70 := ⟨by decide +kernel, by kernel_rfl⟩
/-- datagram_fault -/
theorem tr73 : trOk t73 73 := ⟨by decide +kernel, by kernel_rfl⟩
/-- need_datagram -/
theorem tr74 : trOk t74 74 := ⟨by decide +kernel, by kernel_rfl⟩
/-- written -/
theorem tr75 : trOk t75 75 := ⟨by decide +kernel, by kernel_rfl⟩
/-- need_form -/
theorem tr76 : trOk t76 76 := ⟨by decide +kernel, by kernel_rfl⟩
/-- read_datagram -/
theorem tr77 : trOk t77 77 := ⟨by decide +kernel, by kernel_rfl⟩
/-- _law_mixed -/
theorem tr79 : trOk t79 79 := ⟨by decide +kernel, by kernel_rfl⟩
/-- _law_folded -/
theorem tr80 : trOk t80 80 := ⟨by decide +kernel, by kernel_rfl⟩
/-- _law_draw -/
theorem tr81 : trOk t81 81 := ⟨by decide +kernel, by kernel_rfl⟩
/-- _law_begun -/
theorem tr82 : trOk t82 82 := ⟨by decide +kernel, by kernel_rfl⟩
/-- _law_like -/
theorem tr83 : trOk t83 83 := ⟨by decide +kernel, by kernel_rfl⟩
/-- _law_of -/
theorem tr84 : trOk t84 84 := ⟨by decide +kernel, by kernel_rfl⟩
/-- _law_is_int -/
theorem tr85 : trOk t85 85 := ⟨by decide +kernel, by kernel_rfl⟩
/-- _law_order -/
theorem tr86 : trOk t86 86 := ⟨by decide +kernel, by kernel_rfl⟩
/-- _law_below -/
theorem tr87 : trOk t87 87 := ⟨by decide +kernel, by kernel_rfl⟩
/-- _law_number -/
theorem tr88 : trOk t88 88 := ⟨by decide +kernel, by kernel_rfl⟩
/-- _law_octets -/
theorem tr89 : trOk t89 89 := ⟨by decide +kernel, by kernel_rfl⟩
/-- _law_numeral -/
theorem tr90 : trOk t90 90 := ⟨by decide +kernel, by kernel_rfl⟩
/-- _law_row -/
theorem tr91 : trOk t91 91 := ⟨by decide +kernel, by kernel_rfl⟩
/-- _law_left -/
theorem tr92 : trOk t92 92 := ⟨by decide +kernel, by kernel_rfl⟩
/-- _law_check -/
theorem tr93 : trOk t93 93 := ⟨by decide +kernel, by kernel_rfl⟩
/-- _law_turned -/
theorem tr94 : trOk t94 94 := ⟨by decide +kernel, by kernel_rfl⟩
/-- _law_ranges -/
theorem tr95 : trOk t95 95 := ⟨by decide +kernel, by kernel_rfl⟩
/-- _law_piece -/
theorem tr96 : trOk t96 96 := ⟨by decide +kernel, by kernel_rfl⟩
/-- _law_header -/
theorem tr97 : trOk t97 97 := ⟨by decide +kernel, by kernel_rfl⟩
/-- _law_frames -/
theorem tr98 : trOk t98 98 := ⟨by decide +kernel, by kernel_rfl⟩
/-- _law_head_row -/
theorem tr99 : trOk t99 99 := ⟨by decide +kernel, by kernel_rfl⟩
/-- _law_ack_row -/
theorem tr100 : trOk t100 100 := ⟨by decide +kernel, by kernel_rfl⟩
/-- _law_frame_row -/
theorem tr101 : trOk t101 101 := ⟨by decide +kernel, by kernel_rfl⟩
/-- _law_body -/
theorem tr102 : trOk t102 102 := ⟨by decide +kernel, by kernel_rfl⟩
/-- _law_failed -/
theorem tr103 : trOk t103 103 := ⟨by decide +kernel, by kernel_rfl⟩
/-- _law_taken -/
theorem tr104 : trOk t104 104 := ⟨by decide +kernel, by kernel_rfl⟩
/-- _law_taken_within -/
theorem tr105 : trOk t105 105 := ⟨by decide +kernel, by kernel_rfl⟩
/-- _law_stream -/
theorem tr106 : trOk t106 106 := ⟨by decide +kernel, by kernel_rfl⟩
/-- _law_ack -/
theorem tr107 : trOk t107 107 := ⟨by decide +kernel, by kernel_rfl⟩
/-- _law_room -/
theorem tr108 : trOk t108 108 := ⟨by decide +kernel, by kernel_rfl⟩
/-- _law_data -/
theorem tr109 : trOk t109 109 := ⟨by decide +kernel, by kernel_rfl⟩
/-- _law_may_stand -/
theorem tr110 : trOk t110 110 := ⟨by decide +kernel, by kernel_rfl⟩
/-- _law_frame -/
theorem tr111 : trOk t111 111 := ⟨by decide +kernel, by kernel_rfl⟩
/-- _law_read -/
theorem tr112 : trOk t112 112 := ⟨by decide +kernel, by kernel_rfl⟩
/-- _law_told -/
theorem tr113 : trOk t113 113 := ⟨by decide +kernel, by kernel_rfl⟩
/-- _law_mixed_body -/
theorem tr114 : trOk t114 114 := ⟨by decide +kernel, by kernel_rfl⟩
/-- _law_bent -/
theorem tr115 : trOk t115 115 := ⟨by decide +kernel, by kernel_rfl⟩
/-- _law_octets_right -/
theorem tr116 : trOk t116 116 := ⟨by decide +kernel, by kernel_rfl⟩
/-- _law_is_piece -/
theorem tr117 : trOk t117 117 := ⟨by decide +kernel, by kernel_rfl⟩
/-- _law_values_right -/
theorem tr118 : trOk t118 118 := ⟨by decide +kernel, by kernel_rfl⟩
/-- _law_is_told -/
theorem tr119 : trOk t119 119 := ⟨by decide +kernel, by kernel_rfl⟩
/-- _law_hands_right -/
theorem tr120 : trOk t120 120 := ⟨by decide +kernel, by kernel_rfl⟩
/-- law -/
theorem tr121 : trOk t121 121 := ⟨by decide +kernel, by kernel_rfl⟩
end K7
/-! K7: an own class of errors over another one over ValueError; its __init__ says super().__init__('..') and keeps its arguments as fields. -/
namespace K7
open PySem PySem.Spec PySem.W PySem.Calls PyProof.Rows PySem.HandSPX

/-- what the written part says of a class of errors at C, of its __init__ at fI -/
structure OwnC (P : Program) (K : Frag) (mg : Str → Option Value) (C : Addr) (fs : List Str) : Prop where
  cls : ∃ nm q N bs bm sn sub ab col dd k0 k1 k2 k3 k5, K.lookup C = some (excClassObj nm q C N bs bm true sn sub ab col dd k0 k1 k2 k3 k5 "ValueError.__new__") ∧ refsVE bm = true ∧ alongIn K "__init__" bm = some (some (.builtin "ValueError.__init__"))
  sa : findIn K (.ref C) "__setattr__" = some (some (.builtin "object.__setattr__"))
  no : ∀ f ∈ fs, findIn K (.ref C) f = some none
  exC : subIn K (.ref C) (.type "BaseException") = some true
  exV : subIn K (.ref C) (.type "ValueError") = some true
  tyC : typeIn K (.ref C) = some (.type "type")
  kC : keepIn K (.ref C) = true
  sup : mg "super" = none
  opq : nsIn K cStatics "thirdparty.any" = some none
  top : (P.main.scope.names.lookup ("super" : Str)).isSome = false
/-- super().__init__(a text), as a statement -/
def supS (msg : Str) (j : Nat) (p0 p1 p2 p3 p4 p5 : Pos) : Stmt := .Expr (.Call (.Attribute (.Call (.Name "super" p0) [] [] p1) "__init__" p2) [.Constant (.str msg) j p3] [] p4) p5
section
variable {prog : Program} {w : World} {A : Around} {E : Value → Shared → Prop} {R : Result → Shared → Prop} {K : Frag} {mg mb : Str → Option Value} {C fI cc cda : Addr} {fs : List Str}
theorem call_mw {h : Heap} {g : Array GenState} {d : Drawn} {t : Nat} {os : OsState} {u e t0 : Addr} {rest : List Value} {Q : Value → Shared → Prop} (T : OwnC prog K mg C fs) (X : K.In h)
    (he : h.get? e = some (excO C t0)) (hu : h.get? u = some (kxs_mw "ValueError.__init__" e)) (hrest : rest.length ≤ sizeLine)
    (hq : ∀ h' t1, (∀ b o, b ≠ e → h.get? b = some o → h'.get? b = some o) → h'.get? e = some (excO C t1) → Q .none ⟨h', g, d, t, os⟩) :
    wpAny (model prog w) A (call (.ref u) rest) Q E ⟨h, g, d, t, os⟩ := by
  obtain ⟨nm, q, N, bs, bm, sn, sub, ab, col, dd, k0, k1, k2, k3, k5, hC, hbm, _⟩ := T.cls
  refine wpAny_call (codeAny_of_tree ?_)
  show wpAny _ A.in1 (callAny (.ref u) ⟨rest, []⟩) _ _ _
  simp only [callAny]
  refine wpAny_bind (wpAny_load hu ?_)
  simp only [kxs_mw, show (Value.type "method-wrapper" == Value.type "method" || Value.type "method-wrapper" == Value.type "builtin_function_or_method" || Value.type "method-wrapper" == Value.type "method-wrapper") = true by decide, if_true]
  refine KFB.if_so (by decide) ?_
  refine wpAny_bind (PySem.ESX.check_bound F.excBase_ValueError (X _ _ hC) he rfl ?_)
  refine wpAny_bind (wpAny_pure (wpAny_pure ?_))
  refine ⟨Code.quiet_builtin _ (by decide +kernel), codeAny_builtin F.excBase_ValueError.initEntry ?_⟩
  rw [Around.under_plainId F.excBase_ValueError.init.plain _]
  wp_walk
  refine hq _ h.objs.size (fun b o hb ho => ?_) ?_
  · rw [Heap.get?_update_other _ _ (Ne.symm hb)]
    exact Heap.get?_push_of_some _ ho
  · rw [Heap.get?_update_self _ (Heap.get?_push_of_some _ he) rfl]
    rfl
theorem sup_step {body : List Stmt} {h : Heap} {g : Array GenState} {d : Drawn} {t : Nat} {os : OsState} {x t0 L : Addr} {m : Str → Option Value} {qual : Str} {scope : PySem.Scope} {fd : FuncData} {oc ccl cl : Value} {od cdd cld : Option Addr} {osl ccs csl : Array (Option Value)} {ar : Arg} {vs : Array Value} {file : Str} {tf : Tok}
    {msg : Str} {j : Nat} {p0 p1 p2 p3 p4 p5 : Pos} {Q : Flow → Shared → Prop} (T : OwnC prog K mg C fs) (X : K.In h) (hg : h.Ns mainGlobals mg) (hb : h.Ns builtinsNs mb) (hbb : mb "super" = bootBuiltins "super")
    (hf : K.lookup fI = some ⟨oc, od, .func fd, osl⟩) (hp : (fd.params.posonlyargs ++ fd.params.args).head? = some ar) (har : ar.arg = "self") (hcode : K.lookup cda = some ⟨ccl, cdd, .fields vs, ccs⟩) (hvs : vs[2]? = some (.str file tf)) (hfile : ((prog.main.file : Str) == file) = true)
    (hcell : K.lookup cc = some ⟨cl, cld, .cell (some (.ref C)), csl⟩) (hks : scope.names.lookup ("super" : Str) = some .globalImplicit) (hkc : scope.names.lookup ("__class__" : Str) = some .free) (hka : scope.names.lookup ("self" : Str) = some .local) (hk : scope.kind = .function)
    {pl : Sem Bool} (he : ∀ env : PySem.Env, eval (.Call (.Attribute (.Call (.Name "super" p0) [] [] p1) "__init__" p2) [.Constant (.str msg) j p3] [] p4) env = (do
      let ov ← attributeBase (.Call (.Name "super" p0) [] [] p1) "__init__" env (eval (.Call (.Name "super" p0) [] [] p1) env)
      standAt p2.atName
      let (f, first) ← holding [ov] (getMethod ov "__init__" pl)
      callWith p4 f first (backTo p4 (starEach [.Constant (.str msg) j p3] env)) []))
    (hn : h.Ns L m) (hself : m "self" = some (.ref x)) (hx : h.get? x = some (excO C t0))
    (hq : ∀ h' t1 tk', (∀ b o, b ≠ x → h.get? b = some o → h'.get? b = some o) → h'.get? x = some (excO C t1) → Q .next ⟨h', g, d, tk', os⟩) :
    _root_.PySem.wpAt (model prog w) A (.func body (ksEnv qual scope L fI (.ref cda) cc)) (exec (supS msg j p0 p1 p2 p3 p4 p5) (ksEnv qual scope L fI (.ref cda) cc)) Q E ⟨h, g, d, t, os⟩ := by
  obtain ⟨nm, q, N, bs, bm, sn, sub, ab, col, dd, k0, k1, k2, k3, k5, hC, hbm, hal⟩ := T.cls
  have hcl : clsIn K C = some { name := nm, bases := bs, mro := .ref C :: bm, ns := N, qualname := q, hasDict := true, slotNames := sn, subclasses := sub, abstract := ab, collection := col, hasDel := false } := by unfold clsIn; rw [hC] <;> rfl
  have hCh := X _ _ hC
  have I : InstAt h x (excO C t0) C none := ⟨hx, rfl, rfl, trivial⟩
  refine ks_wpAt_Expr_any ?_ (by unfold interactive; simp [envX, hk]) rfl
  refine ks_wpAt_MethodCall (pl := pl) ?_ (he _)
  refine ks_wpAt_super_base (env := ksEnv qual scope L fI (.ref cda) cc) hks hkc (by decide) rfl (X _ _ hf) rfl hp rfl (X _ _ hcode) rfl hvs hfile T.top ?_
  refine ks_loadName_global hk hks (loadGlobal_builtin (env := ksEnv qual scope L fI (.ref cda) cc) hg T.sup hb (hbb.trans (by decide +kernel)) ⟨rfl, ?_⟩)
  refine wpAny_loadName_free hk hkc rfl ⟨_, X _ _ hcell, rfl⟩ ?_
  rw [har]
  refine wpAny_loadName_local hk hka hn hself ?_
  refine ks_wpAny_isType_cls hCh rfl ⟨rfl, ?_⟩
  have hsub : Looks (model prog w) h (isSubtype (.ref C) (.ref C)) true := looks_mroIn X (by
    unfold mroIn
    rw [hcl, Option.bind_some]
    simp)
  refine ks_wpAny_call_super hCh rfl hx rfl (fun c e => by cases e) hsub (fun h1 hso k1 => ?_)
  have X1 : K.In h1 := X.keeps k1
  have hx1 := k1 _ _ hx
  have I1 : InstAt h1 x (excO C t0) C none := ⟨hx1, rfl, rfl, trivial⟩
  have hno : Looks (model prog w) h1 (opaqueClassAbove (.ref C)) none := looks_opaque X1 T.opq
  have hmro : Looks (model prog w) h1 (mroOf (.ref C)) (.ref C :: bm) := (looks_clsIn X1 hcl).andThen .now
  have hI : Looks (model prog w) h1 (isInstance (.ref x) (.type "ValueError")) true := I1.type.andThen (looks_subIn X1 T.exV)
  have hxC : x ≠ C := ks_ne X1 I1 hcl
  refine kxs_getMethod kxs_ValueError hso hno hmro (l := bm) (by simp [List.dropWhile_cons]) X1 hal hI hxC (by decide) ?_
  refine kxs_callWith (i := "ValueError.__init__") (x := x) rfl ?_
  have X2 : K.In (h1.push (kxs_mw "ValueError.__init__" x)) := X1.keeps fun b o e => Heap.get?_push_of_some _ e
  have hx2 : (h1.push (kxs_mw "ValueError.__init__" x)).get? x = some (excO C t0) := Heap.get?_push_of_some _ hx1
  have hm2 : (h1.push (kxs_mw "ValueError.__init__" x)).get? h1.objs.size = some (kxs_mw "ValueError.__init__" x) := Heap.get?_push_size _ rfl
  refine evalArgs_plain ?_
  show wpAny _ _ (spliced ((false, eval (.Constant (.str msg) j p3) (ksEnv qual scope L fI (.ref cda) cc)) :: [])) _ _ _
  refine Calls.spliced_cons (Calls.Constant_str (Calls.spliced_nil ⟨hm2, ?_⟩))
  show wpAny _ _ (call (.ref h1.objs.size) [Value.str msg (t + 1)]) _ _ _
  refine call_mw T X2 hx2 hm2 (by rw [sizeLine_eq]; show 1 ≤ 16777216; decide) fun h' t1 k hx' => ?_
  exact hq h' t1 _ (fun b o hb e => k b o hb (Heap.get?_push_of_some _ (k1 b o e))) hx'
/-! ### the text of __init__, with two fields or one -/
def iPs (p0 : Pos) (l : List (Str × Pos)) : Arguments := { posonlyargs := [], args := { arg := "self", annotation := none, pos := p0 } :: l.map (fun f => { arg := f.1, annotation := none, pos := f.2 }), vararg := none, kwonlyargs := [], kw_defaults := [], kwarg := none, defaults := [] }
def fldS (f : Str) (q1 q2 q3 q4 : Pos) : Stmt := .Assign [.Attribute (.Name "self" q1) f q2] (.Name f q3) q4
def iSc (l : List Str) : PySem.Scope := { kind := .function, names := (("self" : Str), NameKind.local) :: (l.map (fun f => (f, NameKind.local)) ++ [(("__class__" : Str), NameKind.free), (("super" : Str), NameKind.globalImplicit)]), isGenerator := false, isCoroutine := false, more := [] }
/-- what the written part says of __init__, its cell and its code -/
structure OwnI (P : Program) (K : Frag) (C fI : Addr) (params : Arguments) (body : List Stmt) (scope : PySem.Scope) : Prop where
  iC : findIn K (.ref C) "__init__" = some (some (.ref fI))
  tC : typeIn K (.ref fI) = some (.type "function")
  fn : ∃ (oc : Value) (od : Option Addr) (osl : Array (Option Value)) (qual : Str) (doc pm ct : Value) (an : Option Addr) (cda cc : Addr) (ccl : Value) (cdd : Option Addr) (vs : Array Value) (ccs : Array (Option Value)) (file : Str) (tf : Tok) (cl : Value) (cld : Option Addr) (csl : Array (Option Value)),
    K.lookup fI = some ⟨oc, od, .func (ksFn "__init__" qual params body scope .none .none doc pm an (.ref cda) ct cc), osl⟩ ∧ codeIn K (.ref cda) qual = true ∧ K.lookup cda = some ⟨ccl, cdd, .fields vs, ccs⟩ ∧ vs[2]? = some (.str file tf) ∧ ((P.main.file : Str) == file) = true ∧
    K.lookup cc = some ⟨cl, cld, .cell (some (.ref C)), csl⟩
theorem ldK {M : Model} {s : Shared} {qual : Str} {scope : PySem.Scope} {L a cc : Addr} {cd : Value} {m : Str → Option Value} {x : Str} {pos : Pos} {v : Value} {Q : Value → Shared → Prop} {A : Around} {E : Value → Shared → Prop} (hn : s.heap.Ns L m) (hv : m x = some v) (h : Q v s)
    (hk : scope.kind = .function) (hl : scope.names.lookup x = some .local) (hd : (x == ("__debug__" : Str)) = false) :
    wpAny M A (eval (.Name x pos) (ksEnv qual scope L a cd cc)) Q E s := wpAny_Name (wpAny_loadName_local hk hl hn hv h) hd
/-- what __init__ leaves of a fresh exception at x -/
structure OwnEnd (h h' : Heap) (x C dx t1 : Addr) (mA : Str → Option Value) : Prop where
  keep : ∀ b o, b ≠ x → h.get? b = some o → h'.get? b = some o
  obj : h'.get? x = some { cls := .ref C, dict := some dx, data := .fields #[.ref t1, .none, .none, .none, .bool false, .none] }
  dbig : h.objs.size ≤ dx
  dne : dx ≠ x
  ns : h'.Ns1 dx mA
theorem kept_but {h h' : Heap} {x : Addr} (X : K.In h) (hx : K.lookup x = none) (k : ∀ b o, b ≠ x → h.get? b = some o → h'.get? b = some o) : K.In h' := fun a o e =>
  k a o (fun z => by rw [z, hx] at e; cases e) (X a o e)
/-- what a node of a method call does, at these places -/
def CallsM (msg : Str) (j : Nat) (p0 p1 p2 p3 p4 : Pos) : Prop := ∃ pl : Sem Bool, ∀ env : PySem.Env, eval (.Call (.Attribute (.Call (.Name "super" p0) [] [] p1) "__init__" p2) [.Constant (.str msg) j p3] [] p4) env = (do
      let ov ← attributeBase (.Call (.Name "super" p0) [] [] p1) "__init__" env (eval (.Call (.Name "super" p0) [] [] p1) env)
      standAt p2.atName
      let (f, first) ← holding [ov] (getMethod ov "__init__" pl)
      callWith p4 f first (backTo p4 (starEach [.Constant (.str msg) j p3] env)) [])
/-- where a call of __init__ may begin -/
structure OwnAt (K : Frag) (mg : Str → Option Value) (C x : Addr) (h : Heap) : Prop where
  kin : K.In h
  glob : h.Ns mainGlobals mg
  blt : ∃ mb, h.Ns builtinsNs mb ∧ mb "super" = bootBuiltins "super"
  lim : h.NoLimit
  at_ : ∃ t0, h.get? x = some (excO C t0)
  new : K.lookup x = none
theorem own_init2 {s : Shared} {msg : Str} {j : Nat} {p0 p1 p2 p3 p4 p5 q1 q2 q3 q4 r1 r2 r3 r4 pa pb pc : Pos} (T : OwnC prog K mg C [wWord, wPlace])
    (TI : OwnI prog K C fI (iPs pa [(wWord, pb), (wPlace, pc)]) [supS msg j p0 p1 p2 p3 p4 p5, fldS wWord q1 q2 q3 q4, fldS wPlace r1 r2 r3 r4] (iSc [wWord, wPlace])) (he : CallsM msg j p0 p1 p2 p3 p4)
    {x : Addr} {v1 v2 : Value} (O : OwnAt K mg C x s.heap) (hroom : A.depth < recursionLimit)
    (hq : ∀ h' tk dx t1, OwnEnd s.heap h' x C dx t1 (fun y => if y = wPlace then some v2 else if y = wWord then some v1 else none) → R (.ok (.ret .none)) { s with heap := h', toks := tk }) :
    codeAny (model prog w) A (.call (.ref fI) ⟨[.ref x, v1, v2], []⟩) R s := by
  obtain ⟨pl, he⟩ := he
  obtain ⟨X, hg, ⟨mb, hb, hbb⟩, hlim, ⟨t0, hx⟩, hnx⟩ := O
  obtain ⟨oc, od, osl, qual, doc, pm, ct, an, cda, cc, ccl, cdd, vs, ccs, file, tf, cl, cld, csl, hfI, hcd, hcode, hvs, hfile, hcell⟩ := TI.fn
  obtain ⟨nm, q, N, bs, bm, sn, sub, ab, col, dd, k0, k1, k2, k3, k5, hC, hbm, hal⟩ := T.cls
  have hcl : clsIn K C = some { name := nm, bases := bs, mro := .ref C :: bm, ns := N, qualname := q, hasDict := true, slotNames := sn, subclasses := sub, abstract := ab, collection := col, hasDel := false } := by unfold clsIn; rw [hC] <;> rfl
  have ls : (iSc [wWord, wPlace]).names.lookup ("self" : Str) = some .local := by decide
  have lw : (iSc [wWord, wPlace]).names.lookup wWord = some .local := by decide
  have lp : (iSc [wWord, wPlace]).names.lookup wPlace = some .local := by decide
  have lu : (iSc [wWord, wPlace]).names.lookup ("super" : Str) = some .globalImplicit := by decide
  have lc : (iSc [wWord, wPlace]).names.lookup ("__class__" : Str) = some .free := by decide
  refine ks_codeAny_call_defAt (binds := [("self", .ref x), (wWord, v1), (wPlace, v2)]) hroom (X _ _ hfI) rfl hlim (codeRec_of X hcd) rfl (BindsTo.of_eq (by first | rfl | with_unfolding_all rfl))
    (show ∀ y ∈ (iSc [wWord, wPlace]).names, y.2 ≠ .cell by decide)
    (fun y hy => by
      simp only [List.mem_cons, List.not_mem_nil, or_false] at hy
      rcases hy with e | e | e <;> subst e
      · exact ls
      · exact lw
      · exact lp) (fun h0 hn hk => ?_) rfl rfl rfl
  have X0 : K.In h0 := X.keeps hk
  have hx0 := hk _ _ hx
  have hxL : s.heap.objs.size ≠ x := Nat.ne_of_gt (Heap.lt_size hx)
  refine ks_wpAt_execs_cons (sup_step (mb := mb) (ar := { arg := "self", annotation := none, pos := pa }) T X0 (hg.keeps hk) (hb.keeps hk) hbb hfI rfl rfl hcode hvs hfile hcell lu lc ls rfl he hn (by rfl) hx0 fun h1 t1 tk1 kk1 hx1 => ?_)
  refine wpAt_of_wpAny ?_
  have X1 : K.In h1 := kept_but X0 hnx kk1
  have hn1 := hn.at fun o e => kk1 _ o hxL e
  -- self.word = word
  refine wpAny_execs_cons (plainObj_wpAny_Assign_Attribute ?_)
  refine ldK (v := v1) hn1 (by rfl) (ldK (v := .ref x) hn1 (by rfl) ?_ rfl ls (by decide)) rfl lw (by decide)
  refine set_plain X1 (ox := excO C t1) (od := none) ⟨hx1, rfl, rfl, trivial⟩ T.sa ?_
  refine exc_osa X1 hx1 hcl (show refsVE (.ref C :: bm) = true from hbm) rfl (T.no wWord (by simp)) (fun h3 tk3 dx kk3 dn dne hx3 hn3 => ?_)
  have X3 : K.In h3 := kept_but X1 hnx kk3
  have big : s.heap.objs.size < dx := Nat.lt_of_lt_of_le hn1.lt dn
  have hn3' := hn1.at fun o e => kk3 _ o hxL e
  have hw : Within (fun y => if y = wWord then some v1 else none) [wWord] := Within.cons wWord v1 (fun y hy => absurd rfl hy)
  obtain ⟨oD, _, _, hoD, _, _⟩ := hn3.count hw
  -- self.place = place
  refine wpAny_execs_cons (plainObj_wpAny_Assign_Attribute ?_)
  refine ldK (v := v2) hn3' (by rfl) (ldK (v := .ref x) hn3' (by rfl) ?_ rfl ls (by decide)) rfl lp (by decide)
  refine set_plain X3 (ox := { cls := .ref C, dict := some dx, data := .fields #[.ref t1, .none, .none, .none, .bool false, .none] }) (od := some oD) ⟨hx3, rfl, rfl, hoD⟩ T.sa ?_
  refine PySem.OEX.osa_old X3 hx3 hn3 hw (by decide) hcl (show refsVE (.ref C :: bm) = true from hbm) rfl (T.no wPlace (by simp)) (fun h4 tk4 kk4 hn4 => ?_)
  refine wpAny_execs_nil (hq h4 _ dx t1 ⟨fun b o hb' e => ?_, ?_, ?_, dne, hn4⟩)
  · exact kk4 b o (Nat.ne_of_lt (Nat.lt_trans (Heap.lt_size e) big)) (kk3 b o hb' (kk1 b o hb' (hk b o e)))
  · exact kk4 _ _ (Ne.symm dne) hx3
  · exact Nat.le_of_lt big
theorem own_init1 {s : Shared} {msg : Str} {j : Nat} {p0 p1 p2 p3 p4 p5 r1 r2 r3 r4 pa pc : Pos} (T : OwnC prog K mg C [wPlace])
    (TI : OwnI prog K C fI (iPs pa [(wPlace, pc)]) [supS msg j p0 p1 p2 p3 p4 p5, fldS wPlace r1 r2 r3 r4] (iSc [wPlace])) (he : CallsM msg j p0 p1 p2 p3 p4)
    {x : Addr} {v2 : Value} (O : OwnAt K mg C x s.heap) (hroom : A.depth < recursionLimit)
    (hq : ∀ h' tk dx t1, OwnEnd s.heap h' x C dx t1 (fun y => if y = wPlace then some v2 else none) → R (.ok (.ret .none)) { s with heap := h', toks := tk }) :
    codeAny (model prog w) A (.call (.ref fI) ⟨[.ref x, v2], []⟩) R s := by
  obtain ⟨pl, he⟩ := he
  obtain ⟨X, hg, ⟨mb, hb, hbb⟩, hlim, ⟨t0, hx⟩, hnx⟩ := O
  obtain ⟨oc, od, osl, qual, doc, pm, ct, an, cda, cc, ccl, cdd, vs, ccs, file, tf, cl, cld, csl, hfI, hcd, hcode, hvs, hfile, hcell⟩ := TI.fn
  obtain ⟨nm, q, N, bs, bm, sn, sub, ab, col, dd, k0, k1, k2, k3, k5, hC, hbm, hal⟩ := T.cls
  have hcl : clsIn K C = some { name := nm, bases := bs, mro := .ref C :: bm, ns := N, qualname := q, hasDict := true, slotNames := sn, subclasses := sub, abstract := ab, collection := col, hasDel := false } := by unfold clsIn; rw [hC] <;> rfl
  have ls : (iSc [wPlace]).names.lookup ("self" : Str) = some .local := by decide
  have lp : (iSc [wPlace]).names.lookup wPlace = some .local := by decide
  have lu : (iSc [wPlace]).names.lookup ("super" : Str) = some .globalImplicit := by decide
  have lc : (iSc [wPlace]).names.lookup ("__class__" : Str) = some .free := by decide
  refine ks_codeAny_call_defAt (binds := [("self", .ref x), (wPlace, v2)]) hroom (X _ _ hfI) rfl hlim (codeRec_of X hcd) rfl (BindsTo.of_eq (by first | rfl | with_unfolding_all rfl))
    (show ∀ y ∈ (iSc [wPlace]).names, y.2 ≠ .cell by decide)
    (fun y hy => by
      simp only [List.mem_cons, List.not_mem_nil, or_false] at hy
      rcases hy with e | e <;> subst e
      · exact ls
      · exact lp) (fun h0 hn hk => ?_) rfl rfl rfl
  have X0 : K.In h0 := X.keeps hk
  have hx0 := hk _ _ hx
  have hxL : s.heap.objs.size ≠ x := Nat.ne_of_gt (Heap.lt_size hx)
  refine ks_wpAt_execs_cons (sup_step (mb := mb) (ar := { arg := "self", annotation := none, pos := pa }) T X0 (hg.keeps hk) (hb.keeps hk) hbb hfI rfl rfl hcode hvs hfile hcell lu lc ls rfl he hn (by rfl) hx0 fun h1 t1 tk1 kk1 hx1 => ?_)
  refine wpAt_of_wpAny ?_
  have X1 : K.In h1 := kept_but X0 hnx kk1
  have hn1 := hn.at fun o e => kk1 _ o hxL e
  refine wpAny_execs_cons (plainObj_wpAny_Assign_Attribute ?_)
  refine ldK (v := v2) hn1 (by rfl) (ldK (v := .ref x) hn1 (by rfl) ?_ rfl ls (by decide)) rfl lp (by decide)
  refine set_plain X1 (ox := excO C t1) (od := none) ⟨hx1, rfl, rfl, trivial⟩ T.sa ?_
  refine exc_osa X1 hx1 hcl (show refsVE (.ref C :: bm) = true from hbm) rfl (T.no wPlace (by simp)) (fun h3 tk3 dx kk3 dn dne hx3 hn3 => ?_)
  have big : s.heap.objs.size < dx := Nat.lt_of_lt_of_le hn1.lt dn
  exact wpAny_execs_nil (hq h3 _ dx t1 ⟨fun b o hb' e => kk3 b o hb' (kk1 b o hb' (hk b o e)), hx3, Nat.le_of_lt big, dne, hn3⟩)
/-! ### the class called -/
def InitOk (prog : Program) (w : World) (K : Frag) (mg : Str → Option Value) (C fI : Addr) (n : Nat) (mA : List Value → Str → Option Value) : Prop := ∀ (A : Around) (s : Shared) (x : Addr) (us : List Value) (R : Result → Shared → Prop), us.length = n → OwnAt K mg C x s.heap → A.depth < recursionLimit →
  (∀ h' tk dx t1, OwnEnd s.heap h' x C dx t1 (mA us) → R (.ok (.ret .none)) { s with heap := h', toks := tk }) → codeAny (model prog w) A (.call (.ref fI) ⟨.ref x :: us, []⟩) R s
def mA2 : List Value → Str → Option Value
  | [v1, v2] => fun y => if y = wPlace then some v2 else if y = wWord then some v1 else none
  | _ => fun _ => none
def mA1 : List Value → Str → Option Value
  | [v2] => fun y => if y = wPlace then some v2 else none
  | _ => fun _ => none
theorem init2_ok {msg : Str} {j : Nat} {p0 p1 p2 p3 p4 p5 q1 q2 q3 q4 r1 r2 r3 r4 pa pb pc : Pos} (T : OwnC prog K mg C [wWord, wPlace])
    (TI : OwnI prog K C fI (iPs pa [(wWord, pb), (wPlace, pc)]) [supS msg j p0 p1 p2 p3 p4 p5, fldS wWord q1 q2 q3 q4, fldS wPlace r1 r2 r3 r4] (iSc [wWord, wPlace])) (he : CallsM msg j p0 p1 p2 p3 p4) : InitOk prog w K mg C fI 2 mA2 := by
  intro A s x us R hl O hroom hq
  match us, hl with
  | [v1, v2], _ => exact own_init2 T TI he O hroom hq
theorem init1_ok {msg : Str} {j : Nat} {p0 p1 p2 p3 p4 p5 r1 r2 r3 r4 pa pc : Pos} (T : OwnC prog K mg C [wPlace])
    (TI : OwnI prog K C fI (iPs pa [(wPlace, pc)]) [supS msg j p0 p1 p2 p3 p4 p5, fldS wPlace r1 r2 r3 r4] (iSc [wPlace])) (he : CallsM msg j p0 p1 p2 p3 p4) : InitOk prog w K mg C fI 1 mA1 := by
  intro A s x us R hl O hroom hq
  match us, hl with
  | [v2], _ => exact own_init1 T TI he O hroom hq
theorem own_made {s : Shared} {n : Nat} {mA : List Value → Str → Option Value} {us : List Value} (T : OwnC prog K mg C fs) (iC : findIn K (.ref C) "__init__" = some (some (.ref fI))) (tI : typeIn K (.ref fI) = some (.type "function")) (I : InitOk prog w K mg C fI n mA) (hl : us.length = n) (hsz : us.length ≤ sizeLine)
    (X : K.In s.heap) (hg : s.heap.Ns mainGlobals mg) (hb : ∃ mb, s.heap.Ns builtinsNs mb ∧ mb "super" = bootBuiltins "super") (hlim : s.heap.NoLimit) (hroom : A.depth + 1 < recursionLimit)
    (hq : ∀ h' tk e dx t1, (∀ b o, s.heap.get? b = some o → h'.get? b = some o) → s.heap.objs.size ≤ e → h'.get? e = some { cls := .ref C, dict := some dx, data := .fields #[.ref t1, .none, .none, .none, .bool false, .none] } → s.heap.objs.size ≤ dx → dx ≠ e → h'.Ns1 dx (mA us) → R (.ok (.ret (.ref e))) { s with heap := h', toks := tk }) :
    codeAny (model prog w) A (.call (.ref C) ⟨us, []⟩) R s := by
  obtain ⟨nm, q, N, bs, bm, sn, sub, ab, col, dd, k0, k1, k2, k3, k5, hC, hbm, _⟩ := T.cls
  obtain ⟨hp, g, dr, tk, os⟩ := s
  have k : ∀ b o, hp.get? b = some o → ((hp.push (kdv_tup us)).push (excO C hp.objs.size)).get? b = some o := fun b o e => Heap.get?_push_of_some _ (Heap.get?_push_of_some _ e)
  have hget : ((hp.push (kdv_tup us)).push (excO C hp.objs.size)).get? (hp.objs.size + 1) = some (excO C hp.objs.size) := by heap_get
  have hnx : K.lookup (hp.objs.size + 1) = none := by
    cases e : K.lookup (hp.objs.size + 1) with
    | none => rfl
    | some o => exact absurd (Nat.lt_of_succ_lt (Heap.lt_size (show hp.get? (hp.objs.size + 1) = some o from X _ _ e))) (Nat.lt_irrefl _)
  refine call_own F.excBase_ValueError (fun X => refsVE_contains X bm hbm) (X _ _ hC) (looks_findIn X iC) (fun self => bind_fn X self tI) hsz ?_
  obtain ⟨mb, hb1, hb2⟩ := hb
  refine I _ ⟨(hp.push (kdv_tup us)).push (excO C hp.objs.size), g, dr, tk, os⟩ _ us _ hl ⟨X.keeps k, hg.keeps k, ⟨mb, hb1.keeps k, hb2⟩, hlim.keeps k, ⟨_, hget⟩, hnx⟩ (by show A.depth + 1 < recursionLimit; exact hroom) fun h' tk' dx t1 ⟨k', hx, dn, dne, hns⟩ => ?_
  have old : ∀ b o, hp.get? b = some o → h'.get? b = some o := fun b o e => k' b o (Nat.ne_of_lt (Nat.lt_succ_of_lt (Heap.lt_size e))) (k b o e)
  have z : hp.objs.size + 1 + 1 ≤ dx := by
    first
      | (simpa only [Heap.size_push] using dn)
      | exact dn
      | (have q := dn; rw [Heap.size_push, Heap.size_push] at q; exact q)
  exact ⟨rfl, hq h' tk' (hp.objs.size + 1) dx t1 old (Nat.le_succ _) hx (Nat.le_trans (Nat.le_trans (Nat.le_succ _) (Nat.le_succ _)) z) dne hns⟩
end
end K7
namespace K7
open PySem PySem.Spec L2
open PyProof.Rows hiding St
/-- a class of errors, ready to be raised with these fields -/
structure OwnR (V : K7.Ev) (x : Str) (fs : List Str) : Prop where
  go : ∃ (fI : Addr) (mA : List Value → Str → Option Value), V.mg x = some (.ref (V.cls x)) ∧ OwnC V.P V.K V.mg (V.cls x) fs ∧ PySem.W.findIn V.K (.ref (V.cls x)) "__init__" = some (some (.ref fI)) ∧ PySem.W.typeIn V.K (.ref fI) = some (.type "function") ∧
    InitOk V.P V.w V.K V.mg (V.cls x) fI fs.length mA ∧ (∀ (vs : List L2.V) (us : List Value), Vals vs us → vs.length = fs.length → ∀ f, RelO ((fs.zip vs).lookup f) (mA us f)) ∧ fs.length ≤ 100
theorem pmk_own3 {X : Cx} {x : Str} {fs : List Str} {C fI : Addr} {mA : List Value → Str → Option Value} {e : PySem.Expr} {es : List PySem.Expr} {t : TA} {p pos : Pos} {k : Nat} (gC : X.mg x = some (.ref C)) (T : OwnC X.prog X.K X.mg C fs) (iC : PySem.W.findIn X.K (.ref C) "__init__" = some (some (.ref fI))) (tI : PySem.W.typeIn X.K (.ref fI) = some (.type "function"))
    (I : InitOk X.prog X.w X.K X.mg C fI fs.length mA) (rel : ∀ (vs : List L2.V) (us : List Value), Vals vs us → vs.length = fs.length → ∀ f, RelO ((fs.zip vs).lookup f) (mA us f)) (h100 : fs.length ≤ 100) (hr : Room k X.A) (ha : PA X (e :: es) t) (hg : Gl X x) (hdb : (x == ("__debug__" : Str)) = false)
    (he : starEach (e :: es) X.env = (false, eval e X.env) :: starEach es X.env) (hpl : (backTo pos (starEach es X.env)).any (·.1) = false) : PMk X (.Call (.Name x p) (e :: es) [] pos) (tMk C fs t) := by
  intro pins s σ H Q J0 h
  refine wpAny_Call_Name_kw (ld_glob J0 hg gC ?_ hdb)
  refine PySem.W.callWith_K (h₀ := X.base) J0.ok.mod.kin T.kC (thn (ha.run pos pins s σ H _ J0 h) fun us s1 hh => ?_) he hpl
  obtain ⟨vs, H1, I1, r1, hl, q1⟩ := hh
  refine ⟨I1.kIn, ?_⟩
  show wpAny _ _ (call (.ref C) us) _ _ _
  have hlim := I1.nolimit
  have hus : us.length = fs.length := by rw [← hl]; exact r1.length.symm
  have hglob : s1.heap.Ns mainGlobals X.mg := I1.mod.glob.keeps I1.bk
  have hblt : ∃ mb, s1.heap.Ns builtinsNs mb ∧ mb "super" = bootBuiltins "super" := by
    obtain ⟨mb, b1, b2⟩ := I1.mod.blt
    exact ⟨mb, b1.keeps I1.bk, b2 _ (by decide)⟩
  have kin := I1.kIn
  obtain ⟨hp, g, dr, tk, os⟩ := s1
  refine wpAny_call (own_made T iC tI I hus (sz_of (by omega)) kin hglob hblt hlim (by have := hr.dp; omega) fun h' tk' e' d t1 kk hnew hobj dbig dne hns => ?_)
  show MkP X pins σ Q (.ref e') ⟨h', g, dr, tk', os⟩
  obtain ⟨G', g1, g2⟩ := restrict h' fun b => decide (b ≠ e')
  have gk : ∀ b, b ≠ e' → G'.get? b = h'.get? b := fun b hb => g1 b (decide_eq_true hb)
  have ge : G'.get? e' = none := g2 e' (by simp)
  have old : ∀ b o, hp.get? b = some o → G'.get? b = some o := fun b o q => (gk b (Nat.ne_of_lt (Nat.lt_of_lt_of_le (Heap.lt_size q) hnew))).trans (kk b o q)
  have ob : ObjOk X.prog X.w (upd H1 d (.xd (fs.zip vs))) G' d (.xd (fs.zip vs)) :=
    ⟨_, hns.at (fun o q => (gk d dne).trans q), rel vs us r1 hl⟩
  have J : Inv X pins σ (upd H1 d (.xd (fs.zip vs))) ⟨G', g, dr, tk', os⟩ := I1.laid (t' := tk') old dbig ob
  refine ⟨e', _, _, ⟨G', g, dr, tk', os⟩, _, .ref C, some d, rfl, J, fun b o q => ?_, ge, hobj, ⟨rfl, rfl⟩, rfl, rfl, ?_, rfl, I1.bare, raises_own T.exC T.tyC, q1 d (I1.hok.fresh dbig)⟩
  · by_cases hb : b = e'
    · have q' : G'.get? b = some o := q
      rw [hb, ge] at q'; cases q'
    · exact (gk b hb).symm.trans q
  · rw [upd_ne (Ne.symm dne)]
    exact I1.hok.fresh hnew
theorem rel2 (vs : List L2.V) (us : List Value) (r : Vals vs us) (hl : vs.length = [wWord, wPlace].length) (f : Str) : RelO (([wWord, wPlace].zip vs).lookup f) (mA2 us f) := by
  match vs, us, r with
  | [a, b], [u, v], .cons r1 (.cons r2 .nil) =>
    show RelO (List.lookup f [(wWord, a), (wPlace, b)]) (if f = wPlace then some v else if f = wWord then some u else none)
    have d1 : wWord ≠ wPlace := by decide
    by_cases h1 : f = wWord
    · subst h1
      rw [if_neg d1, if_pos rfl]
      simp [List.lookup]
      exact r1
    · have e1 : (f == wWord) = false := beq_eq_false_iff_ne.mpr h1
      by_cases h2 : f = wPlace
      · subst h2
        rw [if_pos rfl]
        simp [List.lookup, e1]
        exact r2
      · have e2 : (f == wPlace) = false := beq_eq_false_iff_ne.mpr h2
        rw [if_neg h2, if_neg h1]
        simp [List.lookup, e1, e2]
        trivial
theorem rel1 (vs : List L2.V) (us : List Value) (r : Vals vs us) (hl : vs.length = [wPlace].length) (f : Str) : RelO (([wPlace].zip vs).lookup f) (mA1 us f) := by
  match vs, us, r with
  | [b], [v], .cons r2 .nil =>
    show RelO (List.lookup f [(wPlace, b)]) (if f = wPlace then some v else none)
    by_cases h2 : f = wPlace
    · subst h2
      rw [if_pos rfl]
      simp [List.lookup]
      exact r2
    · have e2 : (f == wPlace) = false := beq_eq_false_iff_ne.mpr h2
      rw [if_neg h2]
      simp [List.lookup, e2]
      trivial
theorem rs_of {V : K7.Ev} {exs : List (Str × List Str)} (h : ∀ x fs, exs.lookup x = some fs → OwnR V x fs ∧ badName x = false) : RsS V exs := by
  intro X G sc e1 e2 e3 e4 e5 e6 hc hr hs hf hsc hex x fs hl p pos e es t ha hst hgl
  rw [hex] at hl
  obtain ⟨⟨fI, mA, gC, T, iC, tI, I, rel, h100⟩, hbad⟩ := h x fs hl
  rw [List.all_cons, Bool.and_eq_true] at hst
  have hg : Gl X x := by
    unfold Gl Env.kindOf
    rw [hsc]
    unfold glB kindIn at hgl
    exact eq_of_beq hgl
  rw [e6]
  exact pmk_own3 (C := V.cls x) (fI := fI) (mA := mA) (by rw [e4]; exact gC) (by rw [e1, e3, e4]; exact T) (by rw [e3]; exact iC) (by rw [e3]; exact tI) (by rw [e1, e2, e3, e4]; exact I) rel h100 hr ha hg (bad_of (x := x) (by rw [hbad]; exact Bool.false_ne_true)).1 (star_of hst.1) (plain_of pos hst.2)
end K7
/-! K7: promises over data, part 0: tools; the smallest defs. -/
namespace K7
open PySem PySem.Spec L2
open PyProof.Rows hiding St

local macro_rules | `(tactic| walk_at "k7") => `(tactic| simp only [dSs, dS, dEs, dE, dI, dSeq, dAsg, dPar, dDrop, dRet, dIfS, dNext, dBrk, dNev, dVar, dC, dNil, dCons, dOp, dCB, dCall, dTup, dTest, dAnd, dOr, dNot, dIf, dChn, dNeg, fB, fAdd, fI, fI0, fEq, fIsN, fNotN, fIx, fLen, fMin, fMax, fInt,
  dIsi, dSet, setAll, List.getElem?_cons_zero, List.getElem?_cons_succ, List.set_cons_zero, List.set_cons_succ, Bool.not_true, Bool.not_false, Tg.slots])

/-! ### values and their types -/
def tyB (M : Mem) (d : D) : Bool := (tyOf d M).isSome
def isI : D → Bool
  | .int _ => true
  | _ => false
def isBl : D → Bool
  | .bl _ => true
  | _ => false
def isStrD : D → Bool
  | .str _ => true
  | _ => false
def isTupD : D → Bool
  | .tup _ => true
  | _ => false
def within (d : D) (lo hi : Int) : Bool := match d with
  | .int i => decide (lo ≤ i) && decide (i ≤ hi)
  | _ => false
theorem isi_ev {M : Mem} {d : D} (h : tyB M d = true) : ∃ t, tyOf d M = some t ∧ isiB t "tuple" = isTupD d ∧ isiB t "int" = (isI d || isBl d) ∧ isiB t "bool" = isBl d ∧ isiB t "str" = isStrD d := by
  unfold tyB at h
  cases d with
  | non => exact ⟨_, rfl, by decide, by decide, by decide, by decide⟩
  | bl b => exact ⟨_, rfl, by cases b <;> decide, by cases b <;> decide, by cases b <;> decide, by cases b <;> decide⟩
  | int i => exact ⟨"int", rfl, show isiB "int" "tuple" = false by decide, show isiB "int" "int" = true by decide, show isiB "int" "bool" = false by decide, show isiB "int" "str" = false by decide⟩
  | str i => exact ⟨"str", rfl, show isiB "str" "tuple" = false by decide, show isiB "str" "int" = false by decide, show isiB "str" "bool" = false by decide, show isiB "str" "str" = true by decide⟩
  | tup i => exact ⟨"tuple", rfl, show isiB "tuple" "tuple" = true by decide, show isiB "tuple" "int" = false by decide, show isiB "tuple" "bool" = false by decide, show isiB "tuple" "str" = false by decide⟩
  | scr i => cases h
  | ob a =>
    unfold tyOf at h ⊢
    dsimp only at h ⊢
    split at h
    · exact ⟨"list", rfl, show isiB "list" "tuple" = false by decide, show isiB "list" "int" = false by decide, show isiB "list" "bool" = false by decide, show isiB "list" "str" = false by decide⟩
    · exact ⟨"dict", rfl, show isiB "dict" "tuple" = false by decide, show isiB "dict" "int" = false by decide, show isiB "dict" "bool" = false by decide, show isiB "dict" "str" = false by decide⟩
    · cases h
/-- what a memory holds stands, but for the ones at ch -/
def Ex (ch : List Addr) (M M' : Mem) : Prop := ∀ a o, a ∉ ch → M a = some o → M' a = some o
theorem Ex.refl {ch : List Addr} {M : Mem} : Ex ch M M := fun _ _ _ h => h
theorem Ex.trans {ch : List Addr} {M M1 M2 : Mem} (x : Ex ch M M1) (y : Ex ch M1 M2) : Ex ch M M2 := fun a o h e => y a o h (x a o h e)
theorem Ex.new {ch : List Addr} {M M1 : Mem} {p : Addr} {o : Ob} (x : Ex ch M M1) (h : M1 p = none) : Ex ch M (up M1 p o) := fun a u n e => by
  have z := x a u n e
  rw [up_ne (fun q => by rw [q, h] at z; cases z)]
  exact z
theorem Ex.own {ch : List Addr} {M M1 : Mem} {p : Addr} {o : Ob} (x : Ex ch M M1) (h : M p = none ∨ p ∈ ch) : Ex ch M (up M1 p o) := fun a u n e => by
  rw [up_ne (fun q => by
    subst q
    rcases h with h | h
    · rw [h] at e; cases e
    · exact n h)]
  exact x a u n e
theorem Ex.more {ch ch' : List Addr} {M M1 : Mem} (x : Ex ch M M1) (h : ∀ a ∈ ch, a ∈ ch') : Ex ch' M M1 := fun a o n e => x a o (fun z => n (h a z)) e
theorem Ex.ty {M M' : Mem} (x : Ex [] M M') {d : D} (h : tyB M d = true) : tyB M' d = true := by
  unfold tyB tyOf at *
  cases d with
  | ob a =>
    dsimp only at *
    cases e : M a with
    | none => rw [e] at h; cases h
    | some o =>
      rw [x a o (by simp) e]
      rw [e] at h
      exact h
  | _ => exact h
/-! ### loops -/
theorem for_inv {t : Tg} {body : DS} {items : List D} {src : Option Addr} {N : DN} {X : XD} (Inv : List D → Dl → Mem → Prop)
    (step : ∀ d r dl M (nx : Dl → Mem → Prop), Inv (d :: r) dl M → (∀ dl' M', Inv r dl' M' → nx dl' M') → Src M items src ∧ ∃ dl1, dSet t d dl = some dl1 ∧ body { nx := nx, rt := N.rt, bk := N.nx } dl1 M X)
    (done : ∀ dl M, Inv [] dl M → Src M items src ∧ N.nx dl M) : ∀ its dl M, Inv its dl M → forGo t body items src N X its dl M
  | [], dl, M, h => done dl M h
  | d :: r, dl, M, h => by
    obtain ⟨h1, dl1, e, h2⟩ := step d r dl M _ h (fun dl' M' i => for_inv Inv step done r dl' M' i)
    refine ⟨h1, ?_⟩
    rw [e]
    exact h2
theorem wh_go {tst : DE} {body : DS} {N : DN} {X : XD} (Inv : Nat → Dl → Mem → Prop)
    (step : ∀ m dl M (nx : Dl → Mem → Prop), Inv m dl M → (∀ m' dl' M', m' < m → Inv m' dl' M' → nx dl' M') → tst dl M (fun d M1 => match d with
      | .bl true => body { nx := nx, rt := N.rt, bk := N.nx } dl M1 X
      | .bl false => N.nx dl M1
      | _ => False) X) : ∀ n m dl M, m < n → Inv m dl M → whGo tst body N X n dl M
  | 0, _, _, _, h, _ => absurd h (Nat.not_lt_zero _)
  | n + 1, m, dl, M, h, i => step m dl M _ i fun m' dl' M' h' i' => wh_go Inv step n m' dl' M' (by omega) i'
theorem wh_inv {tst : DE} {body : DS} {N : DN} {X : XD} {dl : Dl} {M : Mem} (Inv : Nat → Dl → Mem → Prop) (m : Nat) (h : Inv m dl M)
    (step : ∀ m dl M (nx : Dl → Mem → Prop), Inv m dl M → (∀ m' dl' M', m' < m → Inv m' dl' M' → nx dl' M') → tst dl M (fun d M1 => match d with
      | .bl true => body { nx := nx, rt := N.rt, bk := N.nx } dl M1 X
      | .bl false => N.nx dl M1
      | _ => False) X) : dWhile tst body N dl M X := ⟨m + 1, wh_go Inv step (m + 1) m dl M (Nat.lt_succ_self m) h⟩
theorem lc_inv {t : Tg} {te : DE} {dl : Dl} {items : List D} {src : Option Addr} {q : List D → Mem → Prop} (Inv : List D → List D → Mem → Prop)
    (step : ∀ d r acc M (k : D → Mem → Prop), Inv (d :: r) acc M → (∀ y M', Inv r (acc ++ [y]) M' → k y M') → Src M items src ∧ ∃ dl1, dSet t d dl = some dl1 ∧ te dl1 M (fun y M' => acc.length < 100000 ∧ k y M') FX)
    (done : ∀ acc M, Inv [] acc M → Src M items src ∧ q acc M) : ∀ its acc M, Inv its acc M → lcGo t none te dl items src q its acc M
  | [], acc, M, h => done acc M h
  | d :: r, acc, M, h => by
    obtain ⟨h1, dl1, e, h2⟩ := step d r acc M (fun y M' => lcGo t none te dl items src q r (acc ++ [y]) M') h (fun y M' i => lc_inv Inv step done r (acc ++ [y]) M' i)
    refine ⟨h1, ?_⟩
    rw [e]
    exact h2
/-! ### octets -/
def nD (n : Nat) : D := .int (n : Int)
def oD (l : List Nat) : D := .tup (l.map nD)
def Byt (l : List Nat) : Prop := ∀ x ∈ l, x < 256
/-! ### is_whole, is_within, need_number, is_number -/
def p10 : DF := fun ds M q _ => ∃ d, ds = [d] ∧ tyB M d = true ∧ q (.bl (isI d)) M
theorem k10 {C : Nat → DF} : Keeps C t10 p10 := by
  rintro ds M q xi ⟨d, rfl, ht, hq⟩
  refine ⟨rfl, ?_⟩
  show dSs C t10.body _ [some d] M _
  unfold t10
  obtain ⟨t, et, _, e2, e3, _⟩ := isi_ev ht
  walk_at "k7"
  simp only [et, e2, e3]
  cases d with
  | bl b => exact hq
  | _ => exact hq
def p12 : DF := fun ds M q _ => ∃ d lo hi, ds = [d, .int lo, .int hi] ∧ tyB M d = true ∧ q (.bl (within d lo hi)) M
theorem k12 {C : Nat → DF} (h10 : C 10 = p10) : Keeps C t12 p12 := by
  rintro ds M q xi ⟨d, lo, hi, rfl, ht, hq⟩
  refine ⟨rfl, ?_⟩
  show dSs C t12.body _ [some d, some (.int lo), some (.int hi)] M _
  unfold t12
  walk_at "k7"
  rw [h10]
  refine ⟨d, rfl, ht, ?_⟩
  cases d with
  | int i =>
    unfold isI within at *
    dsimp only at hq ⊢
    by_cases h : lo ≤ i
    · simp only [h, decide_true, Bool.true_and] at hq ⊢
      exact hq
    · simp only [h, decide_false, Bool.false_and] at hq ⊢
      exact hq
  | _ => exact hq
def p13 : DF := fun ds M q _ => ∃ i lo hi, ds = [.int i, .int lo, .int hi] ∧ lo ≤ i ∧ i ≤ hi ∧ q (.int i) M
theorem k13 {C : Nat → DF} (h12 : C 12 = p12) : Keeps C t13 p13 := by
  rintro ds M q xi ⟨i, lo, hi, rfl, h1, h2, hq⟩
  refine ⟨rfl, ?_⟩
  show dSs C t13.body _ [some (.int i), some (.int lo), some (.int hi)] M _
  unfold t13
  walk_at "k7"
  rw [h12]
  refine ⟨_, _, _, rfl, rfl, ?_⟩
  simp only [within, h1, h2, decide_true, Bool.true_and, Bool.not_true]
  exact hq
def p14 : DF := fun ds M q _ => ∃ d, ds = [d] ∧ tyB M d = true ∧ q (.bl (within d 0 1152921504606846976)) M
theorem k14 {C : Nat → DF} (h12 : C 12 = p12) : Keeps C t14 p14 := by
  rintro ds M q xi ⟨d, rfl, ht, hq⟩
  refine ⟨rfl, ?_⟩
  show dSs C t14.body _ [some d] M _
  unfold t14
  walk_at "k7"
  rw [h12]
  exact ⟨_, _, _, rfl, ht, hq⟩
/-! ### need_octets -/
def p17 : DF := fun ds M q _ => ∃ l, ds = [oD l] ∧ Byt l ∧ l.length ≤ 1048576 ∧ q (oD l) M
theorem k17 {C : Nat → DF} (h12 : C 12 = p12) : Keeps C t17 p17 := by
  rintro ds M q xi ⟨l, rfl, hb, hl, hq⟩
  refine ⟨rfl, ?_⟩
  show dSs C t17.body _ [some (oD l), none, none] M _
  unfold t17
  walk_at "k7"
  have e1 : isiB "tuple" "tuple" = true := by decide
  have e2 : decide ((1048576 : Int) < ((l.map nD).length : Int)) = false := by
    rw [List.length_map]
    exact decide_eq_false (by omega)
  simp only [oD, tyOf, e1, e2, Bool.not_true]
  refine for_inv (fun its dl M' => M' = M ∧ ∃ r n a b, Byt r ∧ its = enG n (r.map nD) ∧ dl = [some (oD l), a, b]) ?_ ?_ _ _ _ ⟨rfl, l, 0, none, none, hb, rfl, rfl⟩
  · rintro d r dl M' nx ⟨rfl, r', n, a, b, hr, e, rfl⟩ hn
    cases r' with
    | nil => cases e
    | cons x r' =>
      cases e
      refine ⟨trivial, _, rfl, ?_⟩
      have hx := hr x List.mem_cons_self
      walk_at "k7"
      rw [h12]
      refine ⟨_, _, _, rfl, rfl, ?_⟩
      have e : within (nD x) 0 255 = true := by
        unfold within nD
        simp only [Bool.and_eq_true, decide_eq_true_eq]
        omega
      simp only [e, Bool.not_true]
      exact hn _ _ ⟨rfl, r', n + 1, _, _, fun y hy => hr y (List.mem_cons_of_mem _ hy), rfl, rfl⟩
  · rintro dl M' ⟨rfl, r, n, a, b, _, e, rfl⟩
    exact ⟨trivial, hq⟩
end K7
/-! K7: promises, part 1: numbers; the check by fours; numerals. -/
namespace K7
open PySem PySem.Spec L2
open PyProof.Rows hiding St

local macro_rules | `(tactic| walk_at "k7") => `(tactic| simp only [dSs, dS, dEs, dE, dI, dSeq, dAsg, dPar, dDrop, dRet, dIfS, dNext, dBrk, dNev, dVar, dC, dNil, dCons, dOp, dCB, dCall, dTup, dTest, dAnd, dOr, dNot, dIf, dChn, dNeg, fB, fAdd, fI, fI0, fEq, fIsN, fNotN, fIx, fLen, fMin, fMax, fInt,
  dIsi, dSet, setAll, List.getElem?_cons_zero, List.getElem?_cons_succ, List.set_cons_zero, List.set_cons_succ, Bool.not_true, Bool.not_false, Tg.slots])

/-! ### numbers -/
theorem and_nat (a b : Nat) : Builtin.bitAnd (a : Int) (b : Int) = ((a &&& b : Nat) : Int) := by
  have ha : decide (0 ≤ (a : Int)) = true := decide_eq_true (Int.natCast_nonneg a)
  have hb : decide (0 ≤ (b : Int)) = true := decide_eq_true (Int.natCast_nonneg b)
  unfold Builtin.bitAnd
  rw [ha, hb]
  rfl
theorem xor_and_or : ∀ (a b : Nat), (a ^^^ b) + (a &&& b) = a ||| b := by
  intro a
  induction a using Nat.strongRecOn with
  | _ a ih =>
    intro b
    by_cases ha : a = 0
    · subst ha
      simp
    · have h := ih (a / 2) (by omega) (b / 2)
      rw [← Nat.xor_div_two, ← Nat.and_div_two, ← Nat.or_div_two] at h
      have m : ∀ x : Nat, x % 2 = (x.testBit 0).toNat := fun x => by
        rw [Nat.testBit_zero]
        rcases Nat.mod_two_eq_zero_or_one x with e | e <;> rw [e] <;> rfl
      have q1 := Nat.div_add_mod (a ^^^ b) 2
      have q2 := Nat.div_add_mod (a &&& b) 2
      have q3 := Nat.div_add_mod (a ||| b) 2
      rw [m, Nat.testBit_xor] at q1
      rw [m, Nat.testBit_and] at q2
      rw [m, Nat.testBit_or] at q3
      generalize a.testBit 0 = u at q1 q2 q3
      generalize b.testBit 0 = w at q1 q2 q3
      cases u <;> cases w <;> simp at q1 q2 q3 <;> omega
theorem xor_nat (a b : Nat) : Builtin.bitXor (a : Int) (b : Int) = ((a ^^^ b : Nat) : Int) := by
  unfold Builtin.bitXor
  rw [bitOr_nn (Int.natCast_nonneg a) (Int.natCast_nonneg b), and_nat, Int.toNat_natCast, Int.toNat_natCast, ← xor_and_or a b]
  omega
theorem bits_le {n k : Nat} (h : n < 2 ^ k) : Builtin.Int.intBits (n : Int) ≤ k := by
  unfold Builtin.Int.intBits
  split
  · exact Nat.zero_le _
  · rename_i hn
    have hn' : n ≠ 0 := fun e => hn (by rw [e]; rfl)
    rw [Int.natAbs_natCast]
    exact (Nat.log2_lt hn').mpr h
theorem shl_ok {n k j : Nat} (h : n < 2 ^ k) (hk : k + j ≤ 2 ^ 27) : CShl (n : Int) (j : Int) := by
  refine ⟨Int.natCast_nonneg j, ?_⟩
  have := bits_le h
  omega
theorem rgI_succ (lo c : Int) (n : Nat) : rgI lo c (n + 1) = .int lo :: rgI (lo + c) c n := by
  unfold rgI
  rw [List.range_succ_eq_map, List.map_cons, List.map_map]
  congr 1
  · rw [Int.natCast_zero, Int.zero_mul, Int.add_zero]
  · refine List.map_congr_left fun i _ => ?_
    show D.int (lo + ((i + 1 : Nat) : Int) * c) = D.int (lo + c + (i : Int) * c)
    rw [Int.natCast_add, Int.add_mul, Int.natCast_one, Int.one_mul, Int.add_assoc, Int.add_comm c]
theorem rgI_zero (lo c : Int) : rgI lo c 0 = [] := rfl
/-! ### moved, rests_of_fours -/
def P32 : Nat := 6442450971
def mvN (r : Nat) : Nat := if 2 ^ 32 ≤ 2 * r then (2 * r) ^^^ P32 else 2 * r
def p22 : DF := fun ds M q _ => ∃ r : Nat, ds = [nD r, .int 6442450971, .int 32] ∧ r < 2 ^ 32 ∧ q (nD (mvN r)) M
theorem k22 {C : Nat → DF} : Keeps C t22 p22 := by
  rintro ds M q xi ⟨r, rfl, hr, hq⟩
  refine ⟨rfl, ?_⟩
  show dSs C t22.body _ [some (nD r), some (.int 6442450971), some (.int 32), none] M _
  unfold t22
  walk_at "k7"
  simp only [nD]
  refine ⟨shl_ok (j := 1) hr (by decide), ?_⟩
  have e1 : (r : Int) * 2 ^ (1 : Int).toNat = ((2 * r : Nat) : Int) := by
    show (r : Int) * 2 ^ 1 = _
    omega
  refine ⟨by decide, ?_⟩
  rw [e1]
  have e2 : ((2 * r : Nat) : Int) / 2 ^ (32 : Int).toNat = ((2 * r / 2 ^ 32 : Nat) : Int) := by
    show ((2 * r : Nat) : Int) / 2 ^ 32 = _
    omega
  rw [e2]
  unfold mvN at hq
  by_cases h : 2 ^ 32 ≤ 2 * r
  · have e3 : decide ((0 : Int) < ((2 * r / 2 ^ 32 : Nat) : Int)) = true := decide_eq_true (by omega)
    rw [e3]
    dsimp only
    rw [if_pos h] at hq
    have e4 := xor_nat (2 * r) P32
    have e5 : ((P32 : Nat) : Int) = 6442450971 := rfl
    rw [e5] at e4
    rw [e4]
    exact hq
  · have e3 : decide ((0 : Int) < ((2 * r / 2 ^ 32 : Nat) : Int)) = false := decide_eq_false (by omega)
    rw [e3]
    dsimp only
    rw [if_neg h] at hq
    exact hq
theorem add_xor {y k : Nat} (a : Nat) (h : y < 2 ^ k) : 2 ^ k * a + y = 2 ^ k * a ^^^ y := by
  have e := xor_and_or (2 ^ k * a) y
  rw [Nat.two_pow_add_eq_or_of_lt h a, ← e]
  have z : 2 ^ k * a &&& y = 0 := by
    apply Nat.eq_of_testBit_eq
    intro i
    rw [Nat.testBit_and, Nat.testBit_two_pow_mul, Nat.zero_testBit]
    by_cases hi : k ≤ i
    · rw [Nat.testBit_lt_two_pow (Nat.lt_of_lt_of_le h (Nat.pow_le_pow_right (by decide) hi)), Bool.and_false]
    · rw [decide_eq_false hi]
      rfl
  rw [z, Nat.add_zero]
theorem mvN_lt {r : Nat} (h : r < 2 ^ 32) : mvN r < 2 ^ 32 := by
  unfold mvN
  split
  · rename_i g
    have e1 : 2 * r = 2 ^ 32 * 1 + (2 * r - 2 ^ 32) := by omega
    have e2 : P32 = 2 ^ 32 * 1 + 2147483675 := by decide
    rw [e1, e2, add_xor 1 (show 2 * r - 2 ^ 32 < 2 ^ 32 by omega), add_xor 1 (show 2147483675 < 2 ^ 32 by decide)]
    have e3 : (2 ^ 32 * 1 ^^^ (2 * r - 2 ^ 32)) ^^^ (2 ^ 32 * 1 ^^^ 2147483675) = (2 * r - 2 ^ 32) ^^^ 2147483675 := by
      apply Nat.eq_of_testBit_eq
      intro i
      simp only [Nat.testBit_xor]
      generalize (2 ^ 32 * 1).testBit i = a
      generalize (2 * r - 2 ^ 32).testBit i = b
      generalize (2147483675 : Nat).testBit i = c
      cases a <;> cases b <;> cases c <;> rfl
    rw [e3]
    exact Nat.xor_lt_two_pow (by omega) (by decide)
  · omega
def itN : Nat → Nat → Nat
  | 0, r => r
  | n + 1, r => itN n (mvN r)
theorem itN_lt : ∀ (n : Nat) {r : Nat}, r < 2 ^ 32 → itN n r < 2 ^ 32
  | 0, _, h => h
  | n + 1, _, h => itN_lt n (mvN_lt h)
def fourT : List Nat := (List.range 16).map (itN 32)
theorem fourT_lt : ∀ x ∈ fourT, x < 2 ^ 32 := by
  intro x hx
  obtain ⟨i, hi, rfl⟩ := List.mem_map.mp hx
  have := List.mem_range.mp hi
  exact itN_lt 32 (by omega)
theorem take_succ_map {α β : Type} (f : α → β) (l : List α) (n : Nat) (a : α) (h : l[n]? = some a) : (l.take n).map f ++ [f a] = (l.take (n + 1)).map f := by
  rw [List.take_add_one, h]
  simp
def p23 : DF := fun ds M q _ => ds = [] ∧ ∀ p M', M p = none → Ex [] M M' → M' p = some (.lst (fourT.map nD)) → q (.ob p) M'
theorem k23 {C : Nat → DF} (h22 : C 22 = p22) : Keeps C t23 p23 := by
  rintro ds M q xi ⟨rfl, hq⟩
  refine ⟨rfl, ?_⟩
  show dSs C t23.body _ [none, none, none, none] M _
  unfold t23
  simp only [dSs, dS, dSeq, dAsg, dE, dEs, dLst, dNil, dSet]
  refine ⟨by simp, fun p hp => ?_⟩
  simp only [List.set_cons_zero]
  show dFor _ _ _ _ _ _ _
  unfold dFor
  simp only [dI, diR1, dE, dC, dCons, dNil]
  refine ⟨by decide, by decide, ?_⟩
  refine for_inv (fun its dl M' => ∃ (n : Nat) (a b c : Option D), n ≤ 16 ∧ its = rgI (n : Int) 1 (16 - n) ∧ dl = [some (.ob p), a, b, c] ∧ Ex [] M M' ∧ M' p = some (.lst ((fourT.take n).map nD))) ?_ ?_ _ _ _ ⟨0, none, none, none, by decide, rfl, rfl, Ex.refl.new hp, up_same⟩
  · rintro d r dl M' nx ⟨n, a, b, c, hn, e, rfl, ex, hm⟩ hnx
    have hlt : n < 16 := by
      by_cases h : n < 16
      · exact h
      · have e0 : 16 - n = 0 := by omega
        rw [e0] at e
        cases e
    obtain ⟨k, hk⟩ : ∃ k, 16 - n = k + 1 := ⟨15 - n, by omega⟩
    rw [hk, rgI_succ] at e
    cases e
    refine ⟨trivial, _, rfl, ?_⟩
    simp only [dSeq, dAsg, dVar, dSet, List.getElem?_cons_zero, List.getElem?_cons_succ, List.set_cons_zero, List.set_cons_succ]
    refine ⟨by decide, by decide, ?_⟩
    refine for_inv (fun its dl M2 => M2 = M' ∧ ∃ (j v : Nat) (c : Option D), j ≤ 32 ∧ its = rgI (j : Int) 1 (32 - j) ∧ v < 2 ^ 32 ∧ itN (32 - j) v = itN 32 n ∧ dl = [some (.ob p), some (.int n), some (nD v), c]) ?_ ?_ _ _ _ ⟨rfl, 0, n, c, by decide, rfl, by omega, rfl, rfl⟩
    · rintro d r dl M2 nx2 ⟨rfl, j, v, c, hj, e, hv, hit, rfl⟩ hnx2
      have hlt2 : j < 32 := by
        by_cases h : j < 32
        · exact h
        · have e0 : 32 - j = 0 := by omega
          rw [e0] at e
          cases e
      obtain ⟨k2, hk2⟩ : ∃ k, 32 - j = k + 1 := ⟨31 - j, by omega⟩
      rw [hk2, rgI_succ] at e
      cases e
      refine ⟨trivial, _, rfl, ?_⟩
      walk_at "k7"
      rw [h22]
      refine ⟨v, rfl, hv, ?_⟩
      rw [hk2] at hit
      refine hnx2 _ _ ⟨rfl, j + 1, mvN v, _, by omega, ?_, mvN_lt hv, ?_, rfl⟩
      · have e1 : 32 - (j + 1) = k2 := by omega
        rw [e1]
        rfl
      · have e1 : 32 - (j + 1) = k2 := by omega
        rw [e1]
        exact hit
    · rintro dl M2 ⟨rfl, j, v, c, hj, e, hv, hit, rfl⟩
      refine ⟨trivial, ?_⟩
      have ej : 32 - j = 0 := by
        by_cases h : 32 - j = 0
        · exact h
        · obtain ⟨k2, hk2⟩ : ∃ k, 32 - j = k + 1 := ⟨31 - j, by omega⟩
          rw [hk2, rgI_succ] at e
          cases e
      rw [ej] at hit
      have hit' : v = itN 32 n := hit
      have hg : fourT[n]? = some v := by
        unfold fourT
        rw [List.getElem?_map, List.getElem?_range hlt, hit']
        rfl
      simp only [dDrop, dE, dApp, dVar, List.getElem?_cons_zero, List.getElem?_cons_succ, hm, isL]
      refine ⟨trivial, ?_, ?_⟩
      · rw [List.length_map, List.length_take]
        omega
      · have hl := take_succ_map nD fourT n v hg
        refine hnx _ _ ⟨n + 1, _, _, _, by omega, ?_, rfl, fun a' o ha e => ?_, ?_⟩
        · have e1 : 16 - (n + 1) = k := by omega
          rw [e1]
          rfl
        · rw [up_ne (fun z => by subst z; rw [hp] at e; cases e)]
          exact ex a' o ha e
        · rw [up_same, hl]
  · rintro dl M' ⟨n, a, b, c, hn, e, rfl, ex, hm⟩
    refine ⟨trivial, ?_⟩
    have en : n = 16 := by
      by_cases h : 16 - n = 0
      · omega
      · obtain ⟨k2, hk2⟩ : ∃ k, 16 - n = k + 1 := ⟨15 - n, by omega⟩
        rw [hk2, rgI_succ] at e
        cases e
    subst en
    simp only [dSs, dSeq, dS, dRet, dE, dVar, List.getElem?_cons_zero]
    exact hq p M' hp ex hm
end K7
/-! K7: promises, part 2: rest_by_fours, check_of, is_whole. -/
namespace K7
open PySem PySem.Spec L2
open PyProof.Rows hiding St

local macro_rules | `(tactic| walk_at "k7") => `(tactic| simp only [dSs, dS, dEs, dE, dI, dSeq, dAsg, dPar, dDrop, dRet, dIfS, dNext, dBrk, dNev, dVar, dC, dNil, dCons, dOp, dCB, dCall, dTup, dTest, dAnd, dOr, dNot, dIf, dChn, dNeg, fB, fAdd, fI, fI0, fEq, fNe, fIsN, fNotN, isNon, fIx, fLen, fMin, fMax, fInt, fTup, fLst,
  dIsi, tyOf, dSet, setAll, dFor, diSeq, diR1, diR2, diR3, diEn, dLst, dApp, dExt, dRev, dEmp, empB, dSl, dPart, dNoP, dRse, dRank, fDg, dgt, isL, up_same, List.getElem?_cons_zero, List.getElem?_cons_succ, List.set_cons_zero, List.set_cons_succ, Bool.not_true, Bool.not_false, Tg.slots])
theorem atI_map {α β : Type} {f : α → β} {l : List α} {n : Nat} (h : n < l.length) : atI (l.map f) (n : Int) = some (f (l[n]'h)) := by
  refine atI_nat ?_
  rw [List.getElem?_map, List.getElem?_eq_getElem h]
  rfl
theorem atI_c {α : Type} {l : List α} {n : Nat} {i : Int} {x : α} (e : i = (n : Int)) (h : l[n]? = some x) : atI l i = some x := by
  subst e
  exact atI_nat h
def nib (s v : Nat) : Nat := fourT.getD (s / 2 ^ 28) 0 ^^^ (s * 16 &&& 4294967295) ^^^ v
theorem fourT_len : fourT.length = 16 := rfl
theorem fourT_getD_lt (i : Nat) : fourT.getD i 0 < 2 ^ 32 := by
  by_cases h : i < fourT.length
  · rw [List.getD_eq_getElem?_getD, List.getElem?_eq_getElem h]
    exact fourT_lt _ (List.getElem_mem h)
  · rw [List.getD_eq_getElem?_getD, List.getElem?_eq_none (by omega)]
    decide
theorem nib_lt {s v : Nat} (h : v < 2 ^ 32) : nib s v < 2 ^ 32 := by
  unfold nib
  refine Nat.xor_lt_two_pow (Nat.xor_lt_two_pow (fourT_getD_lt _) ?_) h
  exact Nat.lt_of_le_of_lt Nat.and_le_right (by decide)
def stp (s o : Nat) : Nat := nib (nib s (o / 16)) (o &&& 15)
def restF (l : List Nat) : Nat := l.foldl stp 0
theorem stp_lt {s o : Nat} (h : o < 256) : stp s o < 2 ^ 32 := nib_lt (Nat.lt_of_le_of_lt Nat.and_le_right (by decide))
theorem nibble_nat (s v : Nat) : Builtin.bitXor (Builtin.bitXor ((fourT.getD (s / 2 ^ 28) 0 : Nat) : Int) (Builtin.bitAnd ((s * 16 : Nat) : Int) 4294967295)) (v : Int) = ((nib s v : Nat) : Int) := by
  have e := and_nat (s * 16) 4294967295
  have e2 : ((4294967295 : Nat) : Int) = 4294967295 := rfl
  rw [e2] at e
  rw [e, xor_nat, xor_nat]
  rfl
def p24 : DF := fun ds M q _ => ∃ l, ds = [oD l] ∧ Byt l ∧ l.length ≤ 1048576 ∧ ∀ M', Ex [] M M' → q (nD (restF l)) M'
theorem k24 {C : Nat → DF} (h17 : C 17 = p17) (h23 : C 23 = p23) : Keeps C t24 p24 := by
  rintro ds M q xi ⟨l, rfl, hb, hl, hq⟩
  refine ⟨rfl, ?_⟩
  show dSs C t24.body _ [some (oD l), none, none, none] M _
  unfold t24
  walk_at "k7"
  rw [h17]
  refine ⟨l, rfl, hb, hl, ?_⟩
  rw [h23]
  refine ⟨rfl, fun p M' hp ex hm => ?_⟩
  simp only [oD]
  refine for_inv (fun its dl M1 => M1 = M' ∧ ∃ (r : List Nat) (s : Nat) (c : Option D), s < 2 ^ 32 ∧ Byt r ∧ r.foldl stp s = restF l ∧ its = r.map nD ∧ dl = [some (D.tup (l.map nD)), some (.ob p), some (nD s), c]) ?_ ?_ _ _ _ ⟨rfl, l, 0, none, by decide, hb, rfl, rfl, rfl⟩
  · rintro d r dl M1 nx ⟨rfl, r', s, c, hs, hr, he, ei, rfl⟩ hnx
    cases r' with
    | nil => cases ei
    | cons x r' =>
      cases ei
      refine ⟨trivial, _, rfl, ?_⟩
      have hx := hr x List.mem_cons_self
      have st : ∀ s : Nat, s < 2 ^ 32 → atI (fourT.map nD) ((s : Int) / 2 ^ (28 : Int).toNat) = some (nD (fourT.getD (s / 2 ^ 28) 0)) := by
        intro s hs
        have hlt : s / 2 ^ 28 < fourT.length := by rw [fourT_len]; omega
        refine atI_c (n := s / 2 ^ 28) (by show (s : Int) / 2 ^ 28 = _; omega) ?_
        rw [List.getElem?_map, List.getD_eq_getElem?_getD, List.getElem?_eq_getElem hlt]
        rfl
      have mul : ∀ s : Nat, (s : Int) * 2 ^ (4 : Int).toNat = ((s * 16 : Nat) : Int) := by
        intro s
        show (s : Int) * 2 ^ 4 = _
        omega
      have dv : (x : Int) / 2 ^ (4 : Int).toNat = ((x / 16 : Nat) : Int) := by
        show (x : Int) / 2 ^ 4 = _
        omega
      have dm : Builtin.bitAnd (x : Int) 15 = ((x &&& 15 : Nat) : Int) := and_nat x 15
      walk_at "k7"
      simp only [nD]
      refine ⟨by decide, ?_⟩
      simp only [hm]
      rw [st s hs]
      simp only [nD]
      refine ⟨shl_ok (j := 4) hs (by decide), by decide, ?_⟩
      rw [mul, dv, nibble_nat]
      refine ⟨by decide, ?_⟩
      have hs2 : nib s (x / 16) < 2 ^ 32 := nib_lt (by omega)
      simp only [hm]
      rw [st _ hs2]
      simp only [nD]
      refine ⟨shl_ok (j := 4) hs2 (by decide), ?_⟩
      rw [mul, dm, nibble_nat]
      refine hnx _ _ ⟨rfl, r', stp s x, _, stp_lt hx, fun y hy => hr y (List.mem_cons_of_mem _ hy), he, rfl, rfl⟩
  · rintro dl M1 ⟨rfl, r, s, c, hs, hr, he, ei, rfl⟩
    refine ⟨trivial, ?_⟩
    have er : r = [] := by
      cases r with
      | nil => rfl
      | cons _ _ => cases ei
    subst er
    walk_at "k7"
    have : s = restF l := he
    rw [this]
    exact hq _ ex
/-! ### check_of, is_whole -/
def begO : List Nat := [255, 255, 255, 255]
def chkR (l : List Nat) : Nat := restF (begO ++ l ++ [0, 0, 0, 0])
def fourO (r : Nat) : List Nat := [r / 2 ^ 24, r / 2 ^ 16 % 256, r / 2 ^ 8 % 256, r % 256]
theorem byt_app {a b : List Nat} (x : Byt a) (y : Byt b) : Byt (a ++ b) := fun z h => (List.mem_append.mp h).elim (x z) (y z)
theorem byt_beg : Byt begO := by intro x hx; simp [begO] at hx; omega
theorem byt_zero : Byt [0, 0, 0, 0] := by intro x hx; simp at hx; omega
theorem fold_lt : ∀ (l : List Nat) (s : Nat), s < 2 ^ 32 → Byt l → l.foldl stp s < 2 ^ 32
  | [], _, h, _ => h
  | x :: r, s, h, b => fold_lt r _ (stp_lt (b x List.mem_cons_self)) fun y hy => b y (List.mem_cons_of_mem _ hy)
theorem restF_lt {l : List Nat} (b : Byt l) : restF l < 2 ^ 32 := fold_lt l 0 (by decide) b
theorem oD_beg : D.tup [.int 255, .int 255, .int 255, .int 255] = oD begO := rfl
theorem and255 (n : Nat) : Builtin.bitAnd (n : Int) 255 = ((n % 256 : Nat) : Int) := by
  have e := and_nat n 255
  rw [Nat.and_two_pow_sub_one_eq_mod n 8] at e
  exact e
def p29 : DF := fun ds M q _ => ∃ l, ds = [oD l] ∧ Byt l ∧ l.length ≤ 5000 ∧ ∀ M', Ex [] M M' → q (oD (fourO (chkR l))) M'
theorem k29 {C : Nat → DF} (h17 : C 17 = p17) (h24 : C 24 = p24) : Keeps C t29 p29 := by
  rintro ds M q xi ⟨l, rfl, hb, hl, hq⟩
  refine ⟨rfl, ?_⟩
  show dSs C t29.body _ [some (oD l), none] M _
  unfold t29
  walk_at "k7"
  rw [h17]
  refine ⟨l, rfl, hb, by omega, ?_⟩
  simp only [oD]
  refine ⟨by simp only [List.length_cons, List.length_nil, List.length_map]; omega, by decide, ?_⟩
  refine ⟨by simp only [List.length_append, List.length_cons, List.length_nil, List.length_map]; omega, ?_⟩
  rw [h24]
  refine ⟨begO ++ l ++ [0, 0, 0, 0], ?_, byt_app (byt_app byt_beg hb) byt_zero, by simp only [List.length_append, List.length_cons, List.length_nil, begO]; omega, fun M' ex => ?_⟩
  · simp only [oD, List.map_append]
    rfl
  · have hr : chkR l < 2 ^ 32 := restF_lt (byt_app (byt_app byt_beg hb) byt_zero)
    have e24 : ((chkR l : Nat) : Int) / 2 ^ (24 : Int).toNat = ((chkR l / 2 ^ 24 : Nat) : Int) := by
      show ((chkR l : Nat) : Int) / 2 ^ 24 = _
      omega
    have e16 : ((chkR l : Nat) : Int) / 2 ^ (16 : Int).toNat = ((chkR l / 2 ^ 16 : Nat) : Int) := by
      show ((chkR l : Nat) : Int) / 2 ^ 16 = _
      omega
    have e8 : ((chkR l : Nat) : Int) / 2 ^ (8 : Int).toNat = ((chkR l / 2 ^ 8 : Nat) : Int) := by
      show ((chkR l : Nat) : Int) / 2 ^ 8 = _
      omega
    rw [show restF (begO ++ l ++ [0, 0, 0, 0]) = chkR l from rfl]
    simp only [nD]
    rw [e24, e16, e8, and255, and255, and255]
    exact ⟨by decide, by decide, by decide, by show 4 ≤ 100000; decide, hq _ ex⟩
def p30 : DF := fun ds M q _ => ∃ l, ds = [oD l] ∧ Byt l ∧ l.length ≤ 5000 ∧ 4 < l.length ∧ ∀ M', Ex [] M M' → q (.bl (decide (restF (begO ++ l) = 0))) M'
theorem k30 {C : Nat → DF} (h17 : C 17 = p17) (h24 : C 24 = p24) : Keeps C t30 p30 := by
  rintro ds M q xi ⟨l, rfl, hb, hl, h4, hq⟩
  refine ⟨rfl, ?_⟩
  show dSs C t30.body _ [some (oD l)] M _
  unfold t30
  walk_at "k7"
  rw [h17]
  refine ⟨l, rfl, hb, by omega, ?_⟩
  have e : decide ((4 : Int) < ((l.map nD).length : Int)) = true := by
    rw [List.length_map]
    exact decide_eq_true (by omega)
  simp only [oD, e]
  refine ⟨by simp only [List.length_cons, List.length_nil, List.length_map]; omega, ?_⟩
  rw [h24]
  refine ⟨begO ++ l, ?_, byt_app byt_beg hb, by simp only [List.length_append, List.length_cons, List.length_nil, begO]; omega, fun M' ex => ?_⟩
  · simp only [oD, List.map_append]
    rfl
  · have e : decide (((restF (begO ++ l) : Nat) : Int) = 0) = decide (restF (begO ++ l) = 0) := decide_eq_decide.mpr (by omega)
    have hq' := hq _ ex
    rw [← e] at hq'
    exact hq'
end K7
/-! K7: promises, part 3: numerals. -/
namespace K7
open PySem PySem.Spec L2
open PyProof.Rows hiding St

local macro_rules | `(tactic| walk_at "k7") => `(tactic| simp only [dSs, dS, dEs, dE, dI, dSeq, dAsg, dPar, dDrop, dRet, dIfS, dNext, dBrk, dNev, dVar, dC, dNil, dCons, dOp, dCB, dCall, dTup, dTest, dAnd, dOr, dNot, dIf, dChn, dNeg, fB, fAdd, fI, fI0, fEq, fNe, fIsN, fNotN, isNon, fIx, fLen, fMin, fMax, fInt, fTup, fLst,
  dIsi, tyOf, dSet, setAll, dFor, diSeq, diR1, diR2, diR3, diEn, dLst, dApp, dExt, dRev, dEmp, empB, dSl, dPart, dNoP, dRse, dRank, fDg, dgt, isL, up_same, List.getElem?_cons_zero, List.getElem?_cons_succ, List.set_cons_zero, List.set_cons_succ, Bool.not_true, Bool.not_false, Tg.slots])
theorem and127 (n : Nat) : Builtin.bitAnd (n : Int) 127 = ((n % 128 : Nat) : Int) := by
  have e := and_nat n 127
  rw [Nat.and_two_pow_sub_one_eq_mod n 7] at e
  exact e
theorem div7 (n : Nat) : (n : Int) / 2 ^ (7 : Int).toNat = ((n / 128 : Nat) : Int) := by
  show (n : Int) / 2 ^ 7 = _
  omega
def hiG : Nat → Nat → List Nat
  | 0, _ => []
  | k + 1, n => if n = 0 then [] else (128 + n % 128) :: hiG k (n / 128)
def numO (n : Nat) : List Nat := (n % 128 :: hiG 9 (n / 128)).reverse
theorem hiG_zero : ∀ k, hiG k 0 = []
  | 0 => rfl
  | k + 1 => if_pos rfl
theorem hiG_len : ∀ k n, (hiG k n).length ≤ k
  | 0, _ => Nat.le_refl _
  | k + 1, n => by
    unfold hiG
    split
    · exact Nat.zero_le _
    · have := hiG_len k (n / 128)
      rw [List.length_cons]
      omega
theorem hiG_byt : ∀ k n, Byt (hiG k n)
  | 0, _ => fun x hx => by cases hx
  | k + 1, n => by
    unfold hiG
    split
    · intro x hx
      cases hx
    · intro x hx
      rcases List.mem_cons.mp hx with rfl | hx
      · omega
      · exact hiG_byt k _ x hx
theorem numO_byt (n : Nat) : Byt (numO n) := by
  intro x hx
  rcases List.mem_cons.mp (List.mem_reverse.mp hx) with rfl | hx
  · omega
  · exact hiG_byt _ _ x hx
theorem numO_len (n : Nat) : (numO n).length ≤ 10 ∧ 1 ≤ (numO n).length := by
  unfold numO
  rw [List.length_reverse, List.length_cons]
  have := hiG_len 9 (n / 128)
  omega
def p34 : DF := fun ds M q _ => ∃ n : Nat, ds = [nD n] ∧ n ≤ 2 ^ 60 ∧ ∀ M', Ex [] M M' → q (oD (numO n)) M'
theorem k34 {C : Nat → DF} (h13 : C 13 = p13) : Keeps C t34 p34 := by
  rintro ds M q xi ⟨n, rfl, hn, hq⟩
  refine ⟨rfl, ?_⟩
  show dSs C t34.body _ [some (nD n), none, none] M _
  unfold t34
  walk_at "k7"
  rw [h13]
  refine ⟨n, 0, 1152921504606846976, rfl, by omega, by omega, ?_⟩
  simp only [nD]
  refine ⟨by show 1 ≤ 100000; decide, fun p hp => ⟨by decide, ?_⟩⟩
  rw [and127, div7]
  refine wh_inv (fun k dl M1 => ∃ (g : List Nat) (v : Nat), k < 100 ∧ v < 128 ^ k ∧ g.length + k ≤ 1000 ∧ g ++ hiG k v = n % 128 :: hiG 9 (n / 128) ∧ dl = [some (nD n), some (.ob p), some (nD v)] ∧ Ex [] M M1 ∧ M1 p = some (.lst (g.map nD))) 9 ⟨[n % 128], n / 128, by decide, by omega, by show 1 + 9 ≤ 1000; decide, rfl, rfl, Ex.refl.new hp, up_same⟩ ?_
  rintro k dl M1 nx ⟨g, v, hk, hv, hg, he, rfl, ex, hm⟩ hnx
  walk_at "k7"
  simp only [nD]
  by_cases h0 : v = 0
  · subst h0
    simp only [show decide (((0 : Nat) : Int) > 0) = false from rfl]
    simp only [hm]
    rw [hiG_zero, List.append_nil] at he
    intro p2 hp2
    rw [← List.map_reverse, show g.reverse = numO n by rw [he]; rfl]
    exact hq _ (ex.new hp2)
  · have e1 : decide ((v : Int) > 0) = true := decide_eq_true (by omega)
    simp only [e1, hm]
    rw [and127, div7]
    cases k with
    | zero => omega
    | succ k =>
      refine ⟨trivial, by rw [List.length_map]; omega, by decide, ?_⟩
      refine hnx k _ _ (Nat.lt_succ_self k) ⟨g ++ [128 + v % 128], v / 128, by omega, ?_, by rw [List.length_append]; show _ + 1 + _ ≤ _; omega, ?_, rfl, ex.own (.inl hp), ?_⟩
      · have : 128 ^ (k + 1) = 128 ^ k * 128 := rfl
        omega
      · rw [← he, List.append_assoc]
        congr 1
        rw [show hiG (k + 1) v = (128 + v % 128) :: hiG k (v / 128) from if_neg h0]
        rfl
      · rw [up_same, List.map_append]
        rfl
/-! ### numeral_found -/
def numG : Nat → Bool → Nat → Nat → List Nat → Option (Nat × Nat)
  | 0, _, _, _, _ => none
  | _ + 1, _, _, _, [] => none
  | k + 1, first, acc, at_, o :: r => if first && decide (o = 128) then none else if o < 128 then (if acc * 128 + o % 128 ≤ 2 ^ 60 then some (acc * 128 + o % 128, at_ + 1) else none) else numG k false (acc * 128 + o % 128) (at_ + 1) r
def numD (l : List Nat) (p : Nat) : Option (Nat × Nat) := numG 9 true 0 p (l.drop p)
def optP : Option (Nat × Nat) → D
  | none => .non
  | some (a, b) => .tup [nD a, nD b]
theorem drop_get {l r : List Nat} {p x : Nat} (h : l.drop p = x :: r) : l[p]? = some x ∧ l.drop (p + 1) = r ∧ p < l.length := by
  have e : (l.drop p)[0]? = some x := by rw [h]; rfl
  rw [List.getElem?_drop, Nat.add_zero] at e
  refine ⟨e, ?_, ?_⟩
  · rw [← List.drop_drop, h]
    rfl
  · obtain ⟨hlt, _⟩ := List.getElem?_eq_some_iff.mp e
    exact hlt
theorem atI_nD {l : List Nat} {p x : Nat} (h : l[p]? = some x) : atI (l.map nD) (p : Int) = some (nD x) := atI_nat (by rw [List.getElem?_map, h]; rfl)
def p35 : DF := fun ds M q _ => ∃ l p, ds = [oD l, nD p] ∧ Byt l ∧ l.length ≤ 5000 ∧ p ≤ l.length ∧ q (optP (numD l p)) M
theorem k35 {C : Nat → DF} : Keeps C t35 p35 := by
  rintro ds M q xi ⟨l, p, rfl, hb, hl, hp, hq⟩
  refine ⟨rfl, ?_⟩
  show dSs C t35.body _ [some (oD l), some (nD p), none, none] M _
  unfold t35
  walk_at "k7"
  simp only [oD, nD]
  rw [List.length_map]
  have em : (if ((l.length : Nat) : Int) < (p : Int) + 9 then ((l.length : Nat) : Int) else (p : Int) + 9) = ((min (p + 9) l.length : Nat) : Int) := by
    split <;> omega
  rw [em]
  refine ⟨by omega, by omega, by omega, by omega, ?_⟩
  have en : (((min (p + 9) l.length : Nat) : Int) - (p : Int)).toNat = min 9 (l.drop p).length := by
    rw [List.length_drop]
    omega
  rw [en]
  refine for_inv (fun its dl M1 => M1 = M ∧ ∃ (k : Nat) (acc at_ : Nat) (r : List Nat) (c : Option D), its = rgI (at_ : Int) 1 (min k r.length) ∧ l.drop at_ = r ∧ p ≤ at_ ∧ numD l p = numG k (decide (at_ = p)) acc at_ r ∧ dl = [some (oD l), some (nD p), some (nD acc), c]) ?_ ?_ _ _ _ ⟨rfl, 9, 0, p, _, none, rfl, rfl, Nat.le_refl _, by rw [decide_eq_true rfl]; rfl, rfl⟩
  · rintro d r dl M1 nx ⟨rfl, k, acc, at_, r', c, ei, er, hpa, he, rfl⟩ hnx
    cases k with
    | zero => rw [Nat.zero_min] at ei; cases ei
    | succ k =>
      cases r' with
      | nil => rw [List.length_nil, Nat.min_zero] at ei; cases ei
      | cons x r' =>
        rw [List.length_cons, show min (k + 1) (r'.length + 1) = min k r'.length + 1 by omega, rgI_succ] at ei
        cases ei
        obtain ⟨h1, h2, h3⟩ := drop_get er
        have hx := hb x (List.mem_of_getElem? h1)
        refine ⟨trivial, _, rfl, ?_⟩
        walk_at "k7"
        have e0 : decide (((at_ : Nat) : Int) = (p : Int)) = decide (at_ = p) := decide_eq_decide.mpr (by omega)
        have e1 : decide (((x : Nat) : Int) = 128) = decide (x = 128) := decide_eq_decide.mpr (by omega)
        have e2 : decide (((x : Nat) : Int) < 128) = decide (x < 128) := decide_eq_decide.mpr (by omega)
        have e4 : (acc : Int) * 128 + ((x % 128 : Nat) : Int) = ((acc * 128 + x % 128 : Nat) : Int) := by omega
        have e3 : decide (((acc * 128 + x % 128 : Nat) : Int) ≤ 1152921504606846976) = decide (acc * 128 + x % 128 ≤ 2 ^ 60) := decide_eq_decide.mpr (by omega)
        unfold numG at he
        have a1 : atI (l.map nD) (at_ : Int) = some (D.int (x : Int)) := atI_nD h1
        have mx := and127 x
        have cm : CMul (acc : Int) 128 := .inr ⟨by decide, by decide⟩
        simp only [oD, nD, a1, e0, e1, e2, fMul, mx, e4, e3]
        have key : (decide (at_ = p) && decide (x = 128)) = false → (match D.bl (decide (x < 128)) with
            | .bl true => (match D.bl (decide (acc * 128 + x % 128 ≤ 2 ^ 60)) with
              | .bl true => [D.int ((acc * 128 + x % 128 : Nat) : Int), D.int ((at_ : Int) + 1)].length ≤ 100000 ∧ q (.tup [.int ((acc * 128 + x % 128 : Nat) : Int), .int ((at_ : Int) + 1)]) M1
              | .bl false => q .non M1
              | _ => False)
            | .bl false => nx [some (.tup (l.map nD)), some (.int (p : Int)), some (.int ((acc * 128 + x % 128 : Nat) : Int)), some (.int (at_ : Int))] M1
            | _ => False) := by
          intro z
          rw [if_neg (by rw [z]; exact Bool.false_ne_true)] at he
          by_cases hx8 : x < 128
          · rw [if_pos hx8] at he
            rw [decide_eq_true hx8]
            by_cases hb6 : acc * 128 + x % 128 ≤ 2 ^ 60
            · rw [if_pos hb6] at he
              rw [decide_eq_true hb6]
              rw [he] at hq
              exact ⟨by show 2 ≤ 100000; decide, hq⟩
            · rw [if_neg hb6] at he
              rw [decide_eq_false hb6]
              rw [he] at hq
              exact hq
          · rw [if_neg hx8] at he
            rw [decide_eq_false hx8]
            refine hnx _ _ ⟨rfl, k, acc * 128 + x % 128, at_ + 1, r', _, rfl, h2, by omega, ?_, rfl⟩
            rw [decide_eq_false (show ¬ at_ + 1 = p by omega)]
            exact he
        cases hd : decide (at_ = p) with
        | true =>
          rw [hd] at he key
          cases h8 : decide (x = 128) with
          | true =>
            rw [h8] at he
            rw [he] at hq
            exact hq
          | false =>
            rw [h8] at key
            exact ⟨cm, key rfl⟩
        | false =>
          rw [hd] at key
          exact ⟨cm, key rfl⟩
  · rintro dl M1 ⟨rfl, k, acc, at_, r, c, ei, er, hpa, he, rfl⟩
    refine ⟨trivial, ?_⟩
    walk_at "k7"
    have : numD l p = none := by
      rw [he]
      cases k with
      | zero => rfl
      | succ k =>
        cases r with
        | nil => rfl
        | cons x r =>
          rw [List.length_cons, show min (k + 1) (r.length + 1) = min k r.length + 1 by omega, rgI_succ] at ei
          cases ei
    rw [this] at hq
    exact hq
end K7
/-! K7: promises, part 4: octets, pieces, ranges. -/
namespace K7
open PySem PySem.Spec L2
open PyProof.Rows hiding St

local macro_rules | `(tactic| walk_at "k7") => `(tactic| simp only [dSs, dS, dEs, dE, dI, dSeq, dAsg, dPar, dDrop, dRet, dIfS, dNext, dBrk, dNev, dVar, dC, dNil, dCons, dOp, dCB, dCall, dTup, dTest, dAnd, dOr, dNot, dIf, dChn, dNeg, fB, fAdd, fI, fI0, fEq, fNe, fIsN, fNotN, isNon, fIx, fLen, fMin, fMax, fInt, fTup, fLst,
  dIsi, dSet, setAll, dFor, diSeq, diR1, diR2, diR3, diEn, dLst, dApp, dExt, dRev, dEmp, empB, dSl, dPart, dNoP, dRse, dRank, fDg, dgt, isL, up_same, List.getElem?_cons_zero, List.getElem?_cons_succ, List.set_cons_zero, List.set_cons_succ, Bool.not_true, Bool.not_false, Tg.slots])
mutual
/-- typed through and through, no tuple too long -/
def dty (M : Mem) : D → Bool
  | .tup ds => decide (ds.length ≤ 5000) && dtys M ds
  | d => tyB M d
def dtys (M : Mem) : List D → Bool
  | [] => true
  | d :: r => dty M d && dtys M r
end
theorem dtys_mem {M : Mem} : ∀ {ds : List D}, dtys M ds = true → ∀ d ∈ ds, dty M d = true
  | [], _, _, h => by cases h
  | a :: r, e, d, h => by
    unfold dtys at e
    rw [Bool.and_eq_true] at e
    rcases List.mem_cons.mp h with rfl | h
    · exact e.1
    · exact dtys_mem e.2 d h
theorem dtys_of {M : Mem} : ∀ {ds : List D}, (∀ d ∈ ds, dty M d = true) → dtys M ds = true
  | [], _ => rfl
  | a :: r, h => by
    unfold dtys
    rw [h a List.mem_cons_self, dtys_of fun d hd => h d (List.mem_cons_of_mem _ hd)]
    rfl
theorem dty_tup {M : Mem} {ds : List D} (h : dty M (.tup ds) = true) : ds.length ≤ 5000 ∧ ∀ d ∈ ds, dty M d = true := by
  unfold dty at h
  rw [Bool.and_eq_true] at h
  exact ⟨of_decide_eq_true h.1, dtys_mem h.2⟩
theorem dty_ty {M : Mem} {d : D} (h : dty M d = true) : tyB M d = true := by
  cases d with
  | tup ds => rfl
  | ob a => exact h
  | scr a => exact h
  | _ => rfl
mutual
theorem dty_ex {M M' : Mem} (x : Ex [] M M') : ∀ d, dty M d = true → dty M' d = true
  | .tup ds, h => by
    unfold dty at h ⊢
    rw [Bool.and_eq_true] at h ⊢
    exact ⟨h.1, dtys_ex x ds h.2⟩
  | .non, h => h
  | .bl _, h => h
  | .int _, h => h
  | .str _, h => h
  | .ob a, h => x.ty (d := .ob a) h
  | .scr a, h => h
theorem dtys_ex {M M' : Mem} (x : Ex [] M M') : ∀ ds, dtys M ds = true → dtys M' ds = true
  | [], _ => rfl
  | d :: r, h => by
    unfold dtys at h ⊢
    rw [Bool.and_eq_true] at h ⊢
    exact ⟨dty_ex x d h.1, dtys_ex x r h.2⟩
end
/-! ### are_octets -/
def octB : D → Bool
  | .tup ds => ds.all fun d => within d 0 255
  | _ => false
theorem isi_of {M : Mem} {d : D} (h : tyB M d = true) (T : String) (b : Bool) {P : Bool → Prop} (e : ∀ t, tyOf d M = some t → isiB t T = b) (hp : P b) : (match tyOf d M with
    | some ty => P (isiB ty T)
    | none => False) := by
  unfold tyB at h
  cases ht : tyOf d M with
  | none => rw [ht] at h; cases h
  | some t =>
    dsimp only
    rw [e t ht]
    exact hp
theorem ty_tup {M : Mem} {d : D} (h : tyB M d = true) : ∃ t, tyOf d M = some t ∧ isiB t "tuple" = isTupD d := by
  obtain ⟨t, h1, h2, _⟩ := isi_ev h
  exact ⟨t, h1, h2⟩
theorem ty_bool {M : Mem} {d : D} (h : tyB M d = true) : ∃ t, tyOf d M = some t ∧ isiB t "bool" = isBl d := by
  obtain ⟨t, h1, _, _, h2, _⟩ := isi_ev h
  exact ⟨t, h1, h2⟩
theorem ty_str {M : Mem} {d : D} (h : tyB M d = true) : ∃ t, tyOf d M = some t ∧ isiB t "str" = isStrD d := by
  obtain ⟨t, h1, _, _, _, h2⟩ := isi_ev h
  exact ⟨t, h1, h2⟩
def p39 : DF := fun ds M q _ => ∃ d, ds = [d, .int 1048576] ∧ dty M d = true ∧ ∀ M', Ex [] M M' → q (.bl (octB d)) M'
theorem lc_bad {dl : Dl} {M : Mem} {its : List D} {q : List D → Mem → Prop} (h2 : 2 < dl.length) (hl : its.length ≤ 5000) (ht : ∀ d ∈ its, tyB M d = true)
    (hq : ∀ acc, acc.isEmpty = (its.all fun d => within d 0 255) → q acc M) :
    lcGo (.nm 2) (some (dNot (dCall p12 (dCons (dVar 2) (dCons (dC (.int 0)) (dCons (dC (.int 255)) dNil)))))) (dC (.int 1)) dl its none q its [] M := by
  have key : ∀ (r : List D) (acc : List D) (b : Bool), acc.length + r.length ≤ 5000 → acc.isEmpty = b → (∀ d ∈ r, tyB M d = true) → (b && r.all fun d => within d 0 255) = (its.all fun d => within d 0 255) →
      lcGo (.nm 2) (some (dNot (dCall p12 (dCons (dVar 2) (dCons (dC (.int 0)) (dCons (dC (.int 255)) dNil)))))) (dC (.int 1)) dl its none q r acc M := by
    intro r
    induction r with
    | nil =>
      intro acc b _ hb _ he
      refine ⟨trivial, hq acc ?_⟩
      rw [hb, ← he]
      simp
    | cons d r ih =>
      intro acc b hn hb hty he
      refine ⟨trivial, ?_⟩
      rw [List.length_cons] at hn
      rw [List.all_cons] at he
      simp only [dSet, dTest, dNot, dCall, dCons, dVar, dC, dNil, List.getElem?_set_self h2]
      refine ⟨d, 0, 255, rfl, hty d List.mem_cons_self, ?_⟩
      dsimp only
      cases hw : within d 0 255 with
      | true =>
        rw [hw, Bool.true_and] at he
        exact ih acc b (by omega) hb (fun y hy => hty y (List.mem_cons_of_mem _ hy)) he
      | false =>
        rw [hw, Bool.false_and, Bool.and_false] at he
        refine ⟨by omega, ih (acc ++ [.int 1]) false (by rw [List.length_append]; show _ + 1 + _ ≤ _; omega) (by cases acc <;> rfl) (fun y hy => hty y (List.mem_cons_of_mem _ hy)) ?_⟩
        rw [Bool.false_and]
        exact he
  exact key its [] true (by rw [List.length_nil]; omega) rfl ht (by rw [Bool.true_and])
theorem k39 {C : Nat → DF} (h12 : C 12 = p12) : Keeps C t39 p39 := by
  rintro ds M q xi ⟨d, rfl, ht, hq⟩
  refine ⟨rfl, ?_⟩
  show dSs C t39.body _ [some d, some (.int 1048576), none] M _
  unfold t39
  obtain ⟨t, e1, e2⟩ := ty_tup (dty_ty ht)
  cases d with
  | tup ds =>
    obtain ⟨hl, hm⟩ := dty_tup ht
    have e3 : decide ((ds.length : Int) > 1048576) = false := decide_eq_false (by omega)
    walk_at "k7"
    simp only [e1, e2, isTupD, e3, Bool.not_true, dLc, diSeq, dVar, List.getElem?_cons_zero, h12]
    refine lc_bad (by show 2 < 3; decide) hl (fun d hd => dty_ty (hm d hd)) fun acc he p hp => ?_
    simp only [up_same, he, Bool.bne_false]
    exact hq _ (Ex.refl.new hp)
  | _ =>
    walk_at "k7"
    simp only [e1, e2, isTupD, Bool.not_false]
    exact hq _ Ex.refl
end K7
/-! K7: promises, part 5: pieces, ranges, headers. -/
namespace K7
open PySem PySem.Spec L2
open PyProof.Rows hiding St

local macro_rules | `(tactic| walk_at "k7") => `(tactic| simp only [dSs, dS, dEs, dE, dI, dSeq, dAsg, dPar, dDrop, dRet, dIfS, dNext, dBrk, dNev, dVar, dC, dNil, dCons, dOp, dCB, dCall, dTup, dTest, dAnd, dOr, dNot, dIf, dChn, dNeg, fB, fAdd, fI, fI0, fEq, fNe, fIsN, fNotN, isNon, fIx, fLen, fMin, fMax, fInt, fTup, fLst,
  dIsi, dSet, setAll, dFor, diSeq, diR1, diR2, diR3, diEn, dLst, dApp, dExt, dRev, dEmp, empB, dSl, dPart, dNoP, dRse, dRank, fDg, dgt, isL, up_same, List.getElem?_cons_zero, List.getElem?_cons_succ, List.set_cons_zero, List.set_cons_succ, Bool.not_true, Bool.not_false, Tg.slots])
/-! ### is_piece -/
def pieceB : D → Bool
  | .tup [.int low, .tup os, .bl e] => (within (.int low) 0 1152921504606846975 && octB (.tup os)) && ((!os.isEmpty || e) && decide (low + os.length ≤ 1152921504606846975))
  | _ => false
def len3 : D → Option (D × D × D)
  | .tup [a, b, c] => some (a, b, c)
  | _ => none
theorem ne_len {α : Type} {ds : List α} {n : Nat} (h : ds.length ≠ n) : (!decide (((ds.length : Nat) : Int) = (n : Int))) = true := by
  rw [decide_eq_false (by omega)]
  rfl
theorem eq_len {α : Type} {ds : List α} {n : Nat} (h : ds.length = n) : (!decide (((ds.length : Nat) : Int) = (n : Int))) = false := by
  rw [decide_eq_true (by omega)]
  rfl
theorem three {α : Type} {ds : List α} (h : ds.length = 3) : ∃ a b c, ds = [a, b, c] := by
  match ds, h with
  | [a, b, c], _ => exact ⟨a, b, c, rfl⟩
theorem two {α : Type} {ds : List α} (h : ds.length = 2) : ∃ a b, ds = [a, b] := by
  match ds, h with
  | [a, b], _ => exact ⟨a, b, rfl⟩
theorem four {α : Type} {ds : List α} (h : ds.length = 4) : ∃ a b c d, ds = [a, b, c, d] := by
  match ds, h with
  | [a, b, c, d], _ => exact ⟨a, b, c, d, rfl⟩
theorem within_int {d : D} {lo hi : Int} (h : within d lo hi = true) : ∃ i, d = .int i ∧ lo ≤ i ∧ i ≤ hi := by
  unfold within at h
  cases d with
  | int i =>
    rw [Bool.and_eq_true] at h
    exact ⟨i, rfl, of_decide_eq_true h.1, of_decide_eq_true h.2⟩
  | _ => cases h
def p40 : DF := fun ds M q _ => ∃ d, ds = [d] ∧ dty M d = true ∧ ∀ M', Ex [] M M' → q (.bl (pieceB d)) M'
theorem k40 {C : Nat → DF} (h12 : C 12 = p12) (h39 : C 39 = p39) : Keeps C t40 p40 := by
  rintro ds M q xi ⟨d, rfl, ht, hq⟩
  refine ⟨rfl, ?_⟩
  show dSs C t40.body _ [some d, none, none, none] M _
  unfold t40
  obtain ⟨t, e1, e2⟩ := ty_tup (dty_ty ht)
  cases d with
  | tup ds =>
    obtain ⟨hl, hm⟩ := dty_tup ht
    by_cases h3 : ds.length = 3
    · obtain ⟨a, b, c, rfl⟩ := three h3
      have ta := hm a (by simp)
      have tb := hm b (by simp)
      have tc := hm c (by simp)
      obtain ⟨u, f1, f2⟩ := ty_bool (dty_ty tc)
      walk_at "k7"
      simp only [e1, e2, isTupD, Bool.not_true, fNeU, show atI [a, b, c] 2 = some c from rfl, f1, f2]
      rw [show (!decide ((([a, b, c] : List D).length : Int) = 3)) = false from rfl]
      dsimp only
      cases hc : isBl c with
      | false =>
        have : pieceB (.tup [a, b, c]) = false := by
          unfold pieceB
          cases c with
          | bl _ => cases hc
          | _ => cases a <;> cases b <;> rfl
        rw [this] at hq
        exact hq _ Ex.refl
      | true =>
        obtain ⟨e, rfl⟩ : ∃ e, c = .bl e := by
          cases c with
          | bl e => exact ⟨e, rfl⟩
          | _ => cases hc
        rw [h12]
        refine ⟨a, _, _, rfl, dty_ty ta, ?_⟩
        cases ha : within a 0 1152921504606846975 with
        | false =>
          have : pieceB (.tup [a, b, .bl e]) = false := by
            unfold pieceB
            cases a with
            | int _ => cases b with
              | tup os => show (within _ _ _ && _ && _) = false; rw [ha]; rfl
              | _ => rfl
            | _ => rfl
          rw [this] at hq
          exact hq _ Ex.refl
        | true =>
          obtain ⟨low, rfl, hl1, hl2⟩ := within_int ha
          dsimp only [Bool.not_true]
          rw [h39]
          refine ⟨b, rfl, tb, fun M' ex => ?_⟩
          cases hb : octB b with
          | false =>
            have : pieceB (.tup [.int low, b, .bl e]) = false := by
              unfold pieceB
              cases b with
              | tup os => show (within _ _ _ && octB _ && _) = false; rw [hb, Bool.and_false]; rfl
              | _ => rfl
            rw [this] at hq
            exact hq _ ex
          | true =>
            obtain ⟨os, rfl⟩ : ∃ os, b = .tup os := by
              cases b with
              | tup os => exact ⟨os, rfl⟩
              | _ => cases hb
            dsimp only [Bool.not_true]
            have : pieceB (.tup [.int low, .tup os, .bl e]) = ((!os.isEmpty || e) && decide (low + os.length ≤ 1152921504606846975)) := by
              show (within _ _ _ && octB _ && _) = _
              rw [ha, hb]
              rfl
            rw [this] at hq
            simp only [Bool.bne_true, if_true]
            cases ho : os.isEmpty with
            | true =>
              rw [ho] at hq
              cases e with
              | true => exact hq _ ex
              | false => exact hq _ ex
            | false =>
              rw [ho] at hq
              exact hq _ ex
    · walk_at "k7"
      simp only [e1, e2, isTupD, Bool.not_true, fNeU]
      rw [show (!decide (((ds.length : Nat) : Int) = 3)) = true from ne_len (n := 3) h3]
      have : pieceB (.tup ds) = false := by
        unfold pieceB
        split
        · rename_i e
          cases e
          exact absurd rfl h3
        · rfl
      rw [this] at hq
      exact hq _ Ex.refl
  | _ =>
    walk_at "k7"
    simp only [e1, e2, isTupD, Bool.not_false]
    exact hq _ Ex.refl
/-! ### is_range -/
def rangeB : D → Bool
  | .tup [.int a, .int b] => within (.int a) 0 1152921504606846976 && (within (.int b) 0 1152921504606846976 && decide (a < b))
  | _ => false
def p43 : DF := fun ds M q _ => ∃ d, ds = [d] ∧ dty M d = true ∧ q (.bl (rangeB d)) M
theorem k43 {C : Nat → DF} (h12 : C 12 = p12) : Keeps C t43 p43 := by
  rintro ds M q xi ⟨d, rfl, ht, hq⟩
  refine ⟨rfl, ?_⟩
  show dSs C t43.body _ [some d, none, none] M _
  unfold t43
  obtain ⟨t, e1, e2⟩ := ty_tup (dty_ty ht)
  cases d with
  | tup ds =>
    obtain ⟨hl, hm⟩ := dty_tup ht
    by_cases h2 : ds.length = 2
    · obtain ⟨a, b, rfl⟩ := two h2
      have ta := hm a (by simp)
      have tb := hm b (by simp)
      walk_at "k7"
      simp only [e1, e2, isTupD, Bool.not_true, fNeU]
      rw [show (!decide ((([a, b] : List D).length : Int) = 2)) = false from rfl]
      dsimp only
      rw [h12]
      refine ⟨a, _, _, rfl, dty_ty ta, ?_⟩
      cases ha : within a 0 1152921504606846976 with
      | false =>
        have : rangeB (.tup [a, b]) = false := by
          unfold rangeB
          cases a with
          | int _ => cases b with
            | int os => show (within _ _ _ && _) = false; rw [ha]; rfl
            | _ => rfl
          | _ => rfl
        rw [this] at hq
        exact hq
      | true =>
        obtain ⟨low, rfl, hl1, hl2⟩ := within_int ha
        dsimp only
        refine ⟨b, _, _, rfl, dty_ty tb, ?_⟩
        cases hb : within b 0 1152921504606846976 with
        | false =>
          have : rangeB (.tup [.int low, b]) = false := by
            unfold rangeB
            cases b with
            | int os => show (within _ _ _ && (within _ _ _ && _)) = false; rw [hb, ha]; rfl
            | _ => rfl
          rw [this] at hq
          exact hq
        | true =>
          obtain ⟨hi, rfl, _, _⟩ := within_int hb
          have : rangeB (.tup [.int low, .int hi]) = decide (low < hi) := by
            show (within _ _ _ && (within _ _ _ && _)) = _
            rw [hb, ha]
            rfl
          rw [this] at hq
          exact hq
    · walk_at "k7"
      simp only [e1, e2, isTupD, Bool.not_true, fNeU]
      rw [show (!decide (((ds.length : Nat) : Int) = 2)) = true from ne_len (n := 2) h2]
      have : rangeB (.tup ds) = false := by
        unfold rangeB
        split
        · rename_i e
          cases e
          exact absurd rfl h2
        · rfl
      rw [this] at hq
      exact hq
  | _ =>
    walk_at "k7"
    simp only [e1, e2, isTupD, Bool.not_false]
    exact hq
/-! ### need_ranges, is_ranges -/
def wRanges : Str := "BadRanges"
def rGo : Int → List D → Bool
  | _, [] => true
  | behind, d :: r => match d with
    | .tup [.int a, .int b] => rangeB (.tup [.int a, .int b]) && (!decide (a ≤ behind) && rGo b r)
    | _ => false
def rangesB : D → Bool
  | .tup ds => rGo (-1) ds
  | _ => false
theorem range_two {d : D} (h : rangeB d = true) : ∃ a b, d = .tup [.int a, .int b] ∧ 0 ≤ a ∧ a < b ∧ b ≤ 1152921504606846976 := by
  unfold rangeB at h
  split at h
  · rename_i a b
    simp only [Bool.and_eq_true, decide_eq_true_eq, within] at h
    exact ⟨a, b, rfl, h.1.1, h.2.2, h.2.1.2⟩
  · cases h
def p44 : DF := fun ds M q xi => ∃ d, ds = [d] ∧ dty M d = true ∧ (rangesB d = true → q d M) ∧ (rangesB d = false → ∀ fs, xi wRanges fs M)
theorem k44 {C : Nat → DF} (h43 : C 43 = p43) : Keeps C t44 p44 := by
  rintro ds M q xi ⟨d, rfl, ht, hq, hx⟩
  refine ⟨rfl, ?_⟩
  show dSs C t44.body _ [some d, none, none, none] M _
  unfold t44
  obtain ⟨t, e1, e2⟩ := ty_tup (dty_ty ht)
  cases d with
  | tup ds =>
    obtain ⟨hl, hm⟩ := dty_tup ht
    have e3 : decide ((ds.length : Int) > 1048576) = false := decide_eq_false (by omega)
    walk_at "k7"
    simp only [e1, e2, isTupD, Bool.not_true, e3]
    refine for_inv (fun its dl M' => M' = M ∧ ∃ (r : List D) (n : Nat) (beh : Int) (a b : Option D), (∀ d ∈ r, dty M d = true) ∧ its = enG n r ∧ rGo beh r = rangesB (.tup ds) ∧ dl = [some (.tup ds), some (.int beh), a, b]) ?_ ?_ _ _ _ ⟨rfl, ds, 0, -1, none, none, hm, rfl, rfl, rfl⟩
    · rintro d r dl M' nx ⟨rfl, r', n, beh, a, b, hr, e, he, rfl⟩ hn
      cases r' with
      | nil => cases e
      | cons x r' =>
        cases e
        refine ⟨trivial, _, rfl, ?_⟩
        walk_at "k7"
        rw [h43]
        refine ⟨x, rfl, hr x List.mem_cons_self, ?_⟩
        cases hrb : rangeB x with
        | false =>
          have : rangesB (.tup ds) = false := by
            rw [← he]
            unfold rGo
            split
            · rw [hrb]; rfl
            · rfl
          exact ⟨rfl, hx this _⟩
        | true =>
          obtain ⟨lo, hi, rfl, h0, h1, h2⟩ := range_two hrb
          dsimp only [Bool.not_true]
          rw [show atI [D.int lo, D.int hi] 0 = some (.int lo) from rfl, show atI [D.int lo, D.int hi] 1 = some (.int hi) from rfl]
          dsimp only
          have he' : (rangeB (.tup [.int lo, .int hi]) && (!decide (lo ≤ beh) && rGo hi r')) = rangesB (.tup ds) := he
          rw [hrb, Bool.true_and] at he'
          cases hle : decide (lo ≤ beh) with
          | true =>
            rw [hle] at he'
            exact ⟨rfl, hx he'.symm _⟩
          | false =>
            rw [hle] at he'
            exact hn _ _ ⟨rfl, r', n + 1, hi, _, _, fun y hy => hr y (List.mem_cons_of_mem _ hy), rfl, he', rfl⟩
    · rintro dl M' ⟨rfl, r, n, beh, a, b, _, e, he, rfl⟩
      have er : r = [] := by
        cases r with
        | nil => rfl
        | cons _ _ => cases e
      subst er
      exact ⟨trivial, hq he.symm⟩
  | _ =>
    walk_at "k7"
    simp only [e1, e2, isTupD, Bool.not_false]
    exact ⟨rfl, hx rfl _⟩
def p45 : DF := fun ds M q _ => ∃ d, ds = [d] ∧ dty M d = true ∧ q (.bl (rangesB d)) M
theorem k45 {C : Nat → DF} (h44 : C 44 = p44) : Keeps C t45 p45 := by
  rintro ds M q xi ⟨d, rfl, ht, hq⟩
  refine ⟨rfl, ?_⟩
  show dSs C t45.body _ [some d] M _
  unfold t45
  walk_at "k7"
  unfold dTryF
  walk_at "k7"
  rw [h44]
  refine ⟨d, rfl, ht, fun h => ?_, fun h fs => ?_⟩
  · rw [h] at hq
    exact hq
  · rw [h] at hq
    exact ⟨rfl, hq⟩
end K7
/-! K7: promises, part 6: headers, frames, their order. -/
namespace K7
open PySem PySem.Spec L2
open PyProof.Rows hiding St

local macro_rules | `(tactic| walk_at "k7") => `(tactic| simp only [dSs, dS, dEs, dE, dI, dSeq, dAsg, dPar, dDrop, dRet, dIfS, dNext, dBrk, dNev, dVar, dC, dNil, dCons, dOp, dCB, dCall, dTup, dTest, dAnd, dOr, dNot, dIf, dChn, dNeg, fB, fAdd, fI, fI0, fEq, fNe, fIsN, fNotN, isNon, fIx, fLen, fMin, fMax, fInt, fTup, fLst,
  dIsi, dSet, setAll, dFor, diSeq, diR1, diR2, diR3, diEn, dLst, dApp, dExt, dRev, dEmp, empB, dSl, dPart, dNoP, dRse, dRank, fDg, dgt, isL, up_same, List.getElem?_cons_zero, List.getElem?_cons_succ, List.set_cons_zero, List.set_cons_succ, Bool.not_true, Bool.not_false, Tg.slots])
abbrev NM : Int := 1152921504606846976
def headerB : D → Bool
  | .tup [s, m, p, k] => within s 0 1 && (within m 0 NM && (within p 0 NM && (isNon k || within k 0 NM)))
  | _ => false
def p50 : DF := fun ds M q _ => ∃ d, ds = [d] ∧ dty M d = true ∧ q (.bl (headerB d)) M
theorem k50 {C : Nat → DF} (h12 : C 12 = p12) (h14 : C 14 = p14) : Keeps C t50 p50 := by
  rintro ds M q xi ⟨d, rfl, ht, hq⟩
  refine ⟨rfl, ?_⟩
  show dSs C t50.body _ [some d] M _
  unfold t50
  obtain ⟨t, e1, e2⟩ := ty_tup (dty_ty ht)
  cases d with
  | tup ds =>
    obtain ⟨hl, hm⟩ := dty_tup ht
    by_cases h4 : ds.length = 4
    · obtain ⟨a, b, c, k, rfl⟩ := four h4
      have ta := dty_ty (hm a (by simp))
      have tb := dty_ty (hm b (by simp))
      have tc := dty_ty (hm c (by simp))
      have tk := dty_ty (hm k (by simp))
      walk_at "k7"
      simp only [e1, e2, isTupD, Bool.not_true, fNeU, show atI [a, b, c, k] 0 = some a from rfl, show atI [a, b, c, k] 1 = some b from rfl, show atI [a, b, c, k] 2 = some c from rfl, show atI [a, b, c, k] 3 = some k from rfl]
      rw [show (!decide ((([a, b, c, k] : List D).length : Int) = 4)) = false from rfl]
      dsimp only
      rw [h12, h14]
      refine ⟨a, _, _, rfl, ta, ?_⟩
      have eh : headerB (.tup [a, b, c, k]) = (within a 0 1 && (within b 0 NM && (within c 0 NM && (isNon k || within k 0 NM)))) := rfl
      rw [eh] at hq
      cases ha : within a 0 1 with
      | false =>
        rw [ha] at hq
        exact hq
      | true =>
        rw [ha] at hq
        refine ⟨b, rfl, tb, ?_⟩
        cases hb : within b 0 NM with
        | false =>
          rw [hb] at hq
          exact hq
        | true =>
          rw [hb] at hq
          refine ⟨c, rfl, tc, ?_⟩
          cases hc : within c 0 NM with
          | false =>
            rw [hc] at hq
            exact hq
          | true =>
            rw [hc] at hq
            dsimp only
            cases k with
            | non => exact hq
            | _ => exact ⟨_, rfl, tk, hq⟩
    · walk_at "k7"
      simp only [e1, e2, isTupD, Bool.not_true, fNeU]
      rw [show (!decide (((ds.length : Nat) : Int) = 4)) = true from ne_len (n := 4) h4]
      have : headerB (.tup ds) = false := by
        unfold headerB
        split
        · rename_i e
          cases e
          exact absurd rfl h4
        · rfl
      rw [this] at hq
      exact hq
  | _ =>
    walk_at "k7"
    simp only [e1, e2, isTupD, Bool.not_false]
    exact hq
/-! ### is_ack, is_frame -/
def lenW (d : D) : Bool := match d with
  | .tup rs => decide (1 ≤ (rs.length : Int)) && decide ((rs.length : Int) ≤ 32)
  | _ => false
def ackB : List D → Bool
  | [_, r, dl] => (rangesB r && within dl 0 NM) && lenW r
  | _ => false
def p51 : DF := fun ds M q _ => ∃ es, ds = [.tup es] ∧ dty M (.tup es) = true ∧ q (.bl (ackB es)) M
theorem ranges_tup {d : D} (h : rangesB d = true) : ∃ rs, d = .tup rs := by
  unfold rangesB at h
  split at h
  · exact ⟨_, rfl⟩
  · cases h
theorem k51 {C : Nat → DF} (h14 : C 14 = p14) (h45 : C 45 = p45) : Keeps C t51 p51 := by
  rintro ds M q xi ⟨es, rfl, ht, hq⟩
  refine ⟨rfl, ?_⟩
  show dSs C t51.body _ [some (.tup es)] M _
  unfold t51
  obtain ⟨hl, hm⟩ := dty_tup ht
  by_cases h3 : es.length = 3
  · obtain ⟨a, b, c, rfl⟩ := three h3
    have tb := hm b (by simp)
    have tc := dty_ty (hm c (by simp))
    walk_at "k7"
    simp only [fNeU, show atI [a, b, c] 1 = some b from rfl, show atI [a, b, c] 2 = some c from rfl]
    rw [show (!decide ((([a, b, c] : List D).length : Int) = 3)) = false from rfl]
    dsimp only
    rw [h45, h14]
    refine ⟨b, rfl, tb, ?_⟩
    have eh : ackB [a, b, c] = ((rangesB b && within c 0 NM) && lenW b) := rfl
    rw [eh] at hq
    cases hb : rangesB b with
    | false =>
      rw [hb] at hq
      exact hq
    | true =>
      rw [hb] at hq
      refine ⟨c, rfl, tc, ?_⟩
      cases hc : within c 0 NM with
      | false =>
        rw [hc] at hq
        exact hq
      | true =>
        rw [hc] at hq
        obtain ⟨rs, rfl⟩ := ranges_tup hb
        have el : (true && true && lenW (.tup rs)) = (decide (1 ≤ (rs.length : Int)) && decide ((rs.length : Int) ≤ 32)) := rfl
        rw [el] at hq
        dsimp only [Bool.not_true]
        cases h1 : decide (1 ≤ (rs.length : Int)) with
        | false =>
          rw [h1] at hq
          exact hq
        | true =>
          rw [h1] at hq
          exact hq
  · walk_at "k7"
    simp only [fNeU]
    rw [show (!decide (((es.length : Nat) : Int) = 3)) = true from ne_len (n := 3) h3]
    have : ackB es = false := by
      unfold ackB
      split
      · exact absurd rfl h3
      · rfl
    rw [this] at hq
    exact hq
def roomB : List D → Bool
  | [_, s, h, l] => within s 0 15 && (within h 0 NM && within l 0 NM)
  | _ => false
def dataB : List D → Bool
  | [_, s, p] => within s 0 15 && pieceB p
  | _ => false
def frameB : D → Bool
  | .tup (.str s :: r) => if s = wAck then ackB (.str s :: r) else if s = wPing then r.isEmpty else if s = wRoom then roomB (.str s :: r) else if s = wData then dataB (.str s :: r) else false
  | _ => false
def p52 : DF := fun ds M q _ => ∃ d, ds = [d] ∧ dty M d = true ∧ ∀ M', Ex [] M M' → q (.bl (frameB d)) M'
theorem k52 {C : Nat → DF} (h12 : C 12 = p12) (h14 : C 14 = p14) (h40 : C 40 = p40) (h51 : C 51 = p51) : Keeps C t52 p52 := by
  rintro ds M q xi ⟨d, rfl, ht, hq⟩
  refine ⟨rfl, ?_⟩
  show dSs C t52.body _ [some d] M _
  unfold t52
  obtain ⟨t, e1, e2⟩ := ty_tup (dty_ty ht)
  cases d with
  | tup ds =>
    obtain ⟨hl, hm⟩ := dty_tup ht
    cases ds with
    | nil =>
      walk_at "k7"
      simp only [e1, e2, isTupD, Bool.not_true, if_true, Bool.bne_false]
      exact hq _ Ex.refl
    | cons a r =>
      have ta := dty_ty (hm a (by simp))
      obtain ⟨u, f1, f2⟩ := ty_str ta
      have a0 : atI (a :: r) 0 = some a := atI_nat (j := 0) rfl
      cases hs : isStrD a with
      | false =>
        walk_at "k7"
        simp only [e1, e2, isTupD, Bool.not_true, if_true, Bool.bne_false, a0, f1, f2, hs]
        have : frameB (.tup (a :: r)) = false := by
          unfold frameB
          cases a with
          | str _ => cases hs
          | _ => rfl
        rw [this] at hq
        exact hq _ Ex.refl
      | true =>
        obtain ⟨s, rfl⟩ : ∃ s, a = .str s := by
          cases a with
          | str s => exact ⟨s, rfl⟩
          | _ => cases hs
        walk_at "k7"
        simp only [e1, e2, isTupD, Bool.not_true, if_true, Bool.bne_false, a0, f1, f2, isStrD, show List.isEmpty (D.str s :: r) = false from rfl]
        have eh : frameB (.tup (.str s :: r)) = (if s = wAck then ackB (.str s :: r) else if s = wPing then r.isEmpty else if s = wRoom then roomB (.str s :: r) else if s = wData then dataB (.str s :: r) else false) := rfl
        rw [eh] at hq
        by_cases c1 : s = wAck
        · rw [if_pos c1] at hq
          rw [show decide (s = Str.ofString "ack") = true from decide_eq_true c1]
          dsimp only
          rw [h51]
          exact ⟨_, rfl, ht, hq _ Ex.refl⟩
        · rw [if_neg c1] at hq
          rw [show decide (s = Str.ofString "ack") = false from decide_eq_false c1]
          dsimp only
          by_cases c2 : s = wPing
          · rw [if_pos c2] at hq
            rw [show decide (s = Str.ofString "ping") = true from decide_eq_true c2]
            dsimp only
            have : decide (((D.str s :: r).length : Int) = 1) = r.isEmpty := by
              cases r with
              | nil => rfl
              | cons _ _ =>
                refine decide_eq_false ?_
                rw [List.length_cons, List.length_cons]
                omega
            rw [this]
            exact hq _ Ex.refl
          · rw [if_neg c2] at hq
            rw [show decide (s = Str.ofString "ping") = false from decide_eq_false c2]
            dsimp only
            by_cases c3 : s = wRoom
            · rw [if_pos c3] at hq
              rw [show decide (s = Str.ofString "room") = true from decide_eq_true c3]
              dsimp only
              by_cases h4 : (D.str s :: r).length = 4
              · obtain ⟨a', b, c, k, e⟩ := four h4
                cases e
                have tb := dty_ty (hm b (by simp))
                have tc := dty_ty (hm c (by simp))
                have tk := dty_ty (hm k (by simp))
                simp only [show atI [D.str s, b, c, k] 1 = some b from rfl, show atI [D.str s, b, c, k] 2 = some c from rfl, show atI [D.str s, b, c, k] 3 = some k from rfl]
                rw [show (decide ((([D.str s, b, c, k] : List D).length : Int) = 4)) = true from rfl]
                dsimp only
                rw [h12, h14]
                refine ⟨b, _, _, rfl, tb, ?_⟩
                have eh : roomB [.str s, b, c, k] = (within b 0 15 && (within c 0 NM && within k 0 NM)) := rfl
                rw [eh] at hq
                cases hb : within b 0 15 with
                | false =>
                  rw [hb] at hq
                  exact hq _ Ex.refl
                | true =>
                  rw [hb] at hq
                  refine ⟨c, rfl, tc, ?_⟩
                  cases hc : within c 0 NM with
                  | false =>
                    rw [hc] at hq
                    exact hq _ Ex.refl
                  | true =>
                    rw [hc] at hq
                    exact ⟨k, rfl, tk, hq _ Ex.refl⟩
              · have e := ne_len (n := 4) h4
                rw [show (decide (((D.str s :: r).length : Int) = 4)) = false from by
                  rw [Bool.not_eq_true'] at e
                  exact e]
                have : roomB (.str s :: r) = false := by
                  unfold roomB
                  split
                  · rename_i e
                    cases e
                    exact absurd rfl h4
                  · rfl
                rw [this] at hq
                exact hq _ Ex.refl
            · rw [if_neg c3] at hq
              rw [show decide (s = Str.ofString "room") = false from decide_eq_false c3]
              dsimp only
              by_cases c5 : s = wData
              · rw [if_pos c5] at hq
                rw [show decide (s = Str.ofString "data") = true from decide_eq_true c5]
                dsimp only
                by_cases h4 : (D.str s :: r).length = 3
                · obtain ⟨a', b, c, e⟩ := three h4
                  cases e
                  have tb := dty_ty (hm b (by simp))
                  have tc := hm c (by simp)
                  simp only [show atI [D.str s, b, c] 1 = some b from rfl, show atI [D.str s, b, c] 2 = some c from rfl]
                  rw [show (decide ((([D.str s, b, c] : List D).length : Int) = 3)) = true from rfl]
                  dsimp only
                  rw [h12, h40]
                  refine ⟨b, _, _, rfl, tb, ?_⟩
                  have eh : dataB [.str s, b, c] = (within b 0 15 && pieceB c) := rfl
                  rw [eh] at hq
                  cases hb : within b 0 15 with
                  | false =>
                    rw [hb] at hq
                    exact hq _ Ex.refl
                  | true =>
                    rw [hb] at hq
                    exact ⟨c, rfl, tc, hq⟩
                · have e := ne_len (n := 3) h4
                  rw [show (decide (((D.str s :: r).length : Int) = 3)) = false from by
                    rw [Bool.not_eq_true'] at e
                    exact e]
                  have : dataB (.str s :: r) = false := by
                    unfold dataB
                    split
                    · rename_i e
                      cases e
                      exact absurd rfl h4
                    · rfl
                  rw [this] at hq
                  exact hq _ Ex.refl
              · rw [if_neg c5] at hq
                rw [show decide (s = Str.ofString "data") = false from decide_eq_false c5]
                exact hq _ Ex.refl
  | _ =>
    walk_at "k7"
    simp only [e1, e2, isTupD, Bool.not_false]
    exact hq _ Ex.refl
end K7
/-! K7: frames as plain data; order; the fault of a value. -/
namespace K7
open PySem PySem.Spec L2
open PyProof.Rows hiding St

local macro_rules | `(tactic| walk_at "k7") => `(tactic| simp only [dSs, dS, dEs, dE, dI, dSeq, dAsg, dPar, dDrop, dRet, dIfS, dNext, dBrk, dNev, dVar, dC, dNil, dCons, dOp, dCB, dCall, dTup, dTest, dAnd, dOr, dNot, dIf, dChn, dNeg, fB, fAdd, fI, fI0, fEq, fNe, fIsN, fNotN, isNon, fIx, fLen, fMin, fMax, fInt, fTup, fLst,
  dIsi, dSet, setAll, dFor, diSeq, diR1, diR2, diR3, diEn, dLst, dApp, dExt, dRev, dEmp, empB, dSl, dPart, dNoP, dRse, dRank, fDg, dgt, isL, up_same, List.getElem?_cons_zero, List.getElem?_cons_succ, List.set_cons_zero, List.set_cons_succ, Bool.not_true, Bool.not_false, Tg.slots])
inductive Fm where
  | ack (rs : List (Nat × Nat)) (dl : Nat) | room (s h l : Nat) | data (s low : Nat) (o : List Nat) (e : Bool) | ping
def prD (p : Nat × Nat) : D := .tup [nD p.1, nD p.2]
def Fm.d : Fm → D
  | .ack rs dl => .tup [.str wAck, .tup (rs.map prD), nD dl]
  | .room s h l => .tup [.str wRoom, nD s, nD h, nD l]
  | .data s low o e => .tup [.str wData, nD s, .tup [nD low, oD o, .bl e]]
  | .ping => .tup [.str wPing]
def rok : Int → List (Nat × Nat) → Bool
  | _, [] => true
  | b, p :: r => (decide (b < (p.1 : Int)) && (decide (p.1 < p.2) && decide (p.2 ≤ 2 ^ 60))) && rok (p.2 : Int) r
def Fm.good : Fm → Bool
  | .ack rs dl => rok (-1) rs && (decide (1 ≤ rs.length) && (decide (rs.length ≤ 32) && decide (dl ≤ 2 ^ 60)))
  | .room s h l => decide (s ≤ 15) && (decide (h ≤ 2 ^ 60) && decide (l ≤ 2 ^ 60))
  | .data s low o e => decide (s ≤ 15) && ((o.all fun x => decide (x < 256)) && ((!o.isEmpty || e) && decide (low + o.length ≤ 2 ^ 60 - 1)))
  | .ping => true
def natD : D → Nat
  | .int i => i.toNat
  | _ => 0
def prN : D → Nat × Nat
  | .tup [a, b] => (natD a, natD b)
  | _ => (0, 0)
def toF : D → Fm
  | .tup [.str s, a, b] => if s = wAck then (match a with | .tup rs => .ack (rs.map prN) (natD b) | _ => .ping) else (match b with
    | .tup [low, .tup o, .bl e] => .data (natD a) (natD low) (o.map natD) e
    | _ => .ping)
  | .tup [.str _, s, h, l] => .room (natD s) (natD h) (natD l)
  | _ => .ping
theorem nat_of {d : D} {hi : Nat} (h : within d 0 (hi : Int) = true) : d = nD (natD d) ∧ natD d ≤ hi := by
  obtain ⟨i, rfl, h0, h1⟩ := within_int h
  unfold nD natD
  exact ⟨by rw [Int.toNat_of_nonneg h0], by dsimp only; omega⟩
theorem within_nD {n : Nat} {hi : Int} (h : (n : Int) ≤ hi) : within (nD n) 0 hi = true := by
  unfold within nD
  simp only [Bool.and_eq_true, decide_eq_true_eq]
  omega
theorem octs_of {ds : List D} (h : (ds.all fun d => within d 0 255) = true) : ds = (ds.map natD).map nD ∧ Byt (ds.map natD) := by
  induction ds with
  | nil => exact ⟨rfl, fun x hx => by cases hx⟩
  | cons d r ih =>
    rw [List.all_cons, Bool.and_eq_true] at h
    obtain ⟨e1, e2⟩ := ih h.2
    obtain ⟨n1, n2⟩ := nat_of (hi := 255) h.1
    refine ⟨?_, fun x hx => ?_⟩
    · rw [List.map_cons, List.map_cons, ← n1, ← e1]
    · rcases List.mem_cons.mp hx with rfl | hx
      · omega
      · exact e2 x hx
theorem octB_oD {l : List Nat} (h : Byt l) : octB (oD l) = true := by
  show (List.all _ _) = true
  rw [List.all_eq_true]
  intro d hd
  obtain ⟨n, hn, rfl⟩ := List.mem_map.mp hd
  exact within_nD (hi := 255) (by have := h n hn; omega)
theorem rgs_of : ∀ {rs : List D} {b : Int}, rGo b rs = true → rs = (rs.map prN).map prD ∧ rok b (rs.map prN) = true
  | [], _, _ => ⟨rfl, rfl⟩
  | d :: r, b, h => by
    unfold rGo at h
    split at h
    · rename_i x y
      rw [Bool.and_eq_true, Bool.and_eq_true] at h
      obtain ⟨a', b', e, h0, h1, h2⟩ := range_two h.1
      cases e
      obtain ⟨e1, e2⟩ := rgs_of h.2.2
      have hb : ¬ x ≤ b := by simpa using h.2.1
      refine ⟨?_, ?_⟩
      · rw [List.map_cons, List.map_cons, ← e1]
        congr 1
        unfold prN prD nD natD
        dsimp only
        rw [Int.toNat_of_nonneg h0, Int.toNat_of_nonneg (by omega)]
      · rw [List.map_cons]
        show (_ && rok _ _) = true
        have ey : ((natD (.int y) : Nat) : Int) = y := Int.toNat_of_nonneg (by omega)
        have ex : ((natD (.int x) : Nat) : Int) = x := Int.toNat_of_nonneg h0
        show ((decide (b < ((natD (.int x) : Nat) : Int)) && (decide (natD (.int x) < natD (.int y)) && decide (natD (.int y) ≤ 2 ^ 60))) && rok ((natD (.int y) : Nat) : Int) _) = true
        rw [ey, ex, e2, decide_eq_true (show b < x by omega), decide_eq_true (show natD (.int x) < natD (.int y) by omega), decide_eq_true (show natD (.int y) ≤ 2 ^ 60 by omega)]
        rfl
    · cases h
theorem rgs_to : ∀ {rs : List (Nat × Nat)} {b : Int}, rok b rs = true → rGo b (rs.map prD) = true
  | [], _, _ => rfl
  | p :: r, b, h => by
    have h' : ((decide (b < (p.1 : Int)) && (decide (p.1 < p.2) && decide (p.2 ≤ 2 ^ 60))) && rok (p.2 : Int) r) = true := h
    simp only [Bool.and_eq_true, decide_eq_true_eq] at h'
    obtain ⟨⟨h1, h2, h3⟩, h4⟩ := h'
    show (rangeB (.tup [.int (p.1 : Int), .int (p.2 : Int)]) && (!decide ((p.1 : Int) ≤ b) && rGo (p.2 : Int) (r.map prD))) = true
    rw [rgs_to h4, decide_eq_false (show ¬ (p.1 : Int) ≤ b by omega)]
    show ((within (nD p.1) 0 NM && (within (nD p.2) 0 NM && decide ((p.1 : Int) < (p.2 : Int)))) && _) = true
    rw [within_nD (hi := 1152921504606846976) (by omega), within_nD (hi := 1152921504606846976) (by omega), decide_eq_true (show (p.1 : Int) < p.2 by omega)]
    rfl
theorem frame_of {d : D} (h : frameB d = true) : d = (toF d).d ∧ (toF d).good = true := by
  unfold frameB at h
  split at h
  · rename_i s r
    split at h
    · rename_i hs
      subst hs
      unfold ackB at h
      split at h
      · rename_i a b c e
        cases e
        simp only [Bool.and_eq_true] at h
        obtain ⟨⟨h1, h2⟩, h3⟩ := h
        obtain ⟨rs, rfl⟩ := ranges_tup h1
        obtain ⟨e1, e2⟩ := rgs_of (show rGo (-1) rs = true from h1)
        obtain ⟨n1, n2⟩ := nat_of (hi := 1152921504606846976) h2
        have et : toF (.tup [.str wAck, .tup rs, c]) = .ack (rs.map prN) (natD c) := by
          unfold toF
          dsimp only
          rw [if_pos rfl]
        rw [et]
        refine ⟨?_, ?_⟩
        · show _ = D.tup [.str wAck, .tup ((rs.map prN).map prD), nD (natD c)]
          rw [← e1, ← n1]
        · unfold lenW at h3
          simp only [Bool.and_eq_true, decide_eq_true_eq] at h3
          show (rok _ _ && _) = true
          rw [e2, List.length_map, decide_eq_true (show 1 ≤ rs.length by omega), decide_eq_true (show rs.length ≤ 32 by omega), decide_eq_true (show natD c ≤ 2 ^ 60 by omega)]
          rfl
      · cases h
    · rename_i hna
      split at h
      · rename_i hs
        subst hs
        cases r with
        | nil => exact ⟨rfl, rfl⟩
        | cons _ _ => cases h
      · split at h
        · rename_i hs
          subst hs
          unfold roomB at h
          split at h
          · rename_i a b c k e
            cases e
            simp only [Bool.and_eq_true] at h
            obtain ⟨h1, h2, h3⟩ := h
            obtain ⟨n1, n2⟩ := nat_of (hi := 15) h1
            obtain ⟨m1, m2⟩ := nat_of (hi := 1152921504606846976) h2
            obtain ⟨l1, l2⟩ := nat_of (hi := 1152921504606846976) h3
            refine ⟨?_, ?_⟩
            · show _ = D.tup [.str wRoom, nD (natD b), nD (natD c), nD (natD k)]
              rw [← n1, ← m1, ← l1]
            · show (decide _ && (decide _ && decide _)) = true
              rw [decide_eq_true (show natD b ≤ 15 by omega), decide_eq_true (show natD c ≤ 2 ^ 60 by omega), decide_eq_true (show natD k ≤ 2 ^ 60 by omega)]
              rfl
          · cases h
        · split at h
          · rename_i hs
            subst hs
            unfold dataB at h
            split at h
            · rename_i a b p e
              cases e
              rw [Bool.and_eq_true] at h
              obtain ⟨h1, h2⟩ := h
              obtain ⟨n1, n2⟩ := nat_of (hi := 15) h1
              unfold pieceB at h2
              split at h2
              · rename_i low os e
                simp only [Bool.and_eq_true, decide_eq_true_eq] at h2
                obtain ⟨⟨h3, h4⟩, h5, h6⟩ := h2
                obtain ⟨m1, m2⟩ := nat_of (hi := 1152921504606846975) h3
                obtain ⟨o1, o2⟩ := octs_of (show (os.all fun d => within d 0 255) = true from h4)
                have et : toF (.tup [.str wData, b, .tup [.int low, .tup os, .bl e]]) = .data (natD b) (natD (.int low)) (os.map natD) e := by
                  unfold toF
                  dsimp only
                  rw [if_neg (by decide)]
                rw [et]
                have em : ((natD (.int low) : Nat) : Int) = low := by
                  have : D.int low = .int ((natD (.int low) : Nat) : Int) := m1
                  injection this with this
                  exact this.symm
                refine ⟨?_, ?_⟩
                · show _ = D.tup [.str wData, nD (natD b), .tup [nD (natD (.int low)), .tup ((os.map natD).map nD), .bl e]]
                  rw [← n1, ← m1, ← o1]
                · show (decide _ && ((List.all _ _) && ((!(os.map natD).isEmpty || e) && decide _))) = true
                  rw [decide_eq_true (show natD b ≤ 15 by omega), List.length_map, decide_eq_true (show natD (.int low) + os.length ≤ 2 ^ 60 - 1 by omega)]
                  have a1 : ((os.map natD).all fun x => decide (x < 256)) = true := by
                    rw [List.all_eq_true]
                    exact fun x hx => decide_eq_true (o2 x hx)
                  have a2 : (os.map natD).isEmpty = os.isEmpty := by cases os <;> rfl
                  rw [a1, a2]
                  simpa using h5
              · cases h2
            · cases h
          · cases h
  · cases h
theorem frame_to {f : Fm} (h : f.good = true) : frameB f.d = true := by
  cases f with
  | ack rs dl =>
    have h' : (rok (-1) rs && (decide (1 ≤ rs.length) && (decide (rs.length ≤ 32) && decide (dl ≤ 2 ^ 60)))) = true := h
    simp only [Bool.and_eq_true, decide_eq_true_eq] at h'
    obtain ⟨h1, h2, h3, h4⟩ := h'
    unfold frameB Fm.d
    dsimp only
    rw [if_pos rfl]
    show ((rGo (-1) (rs.map prD) && within (nD dl) 0 NM) && (decide (1 ≤ (((rs.map prD).length : Nat) : Int)) && decide ((((rs.map prD).length : Nat) : Int) ≤ 32))) = true
    rw [rgs_to h1, within_nD (hi := 1152921504606846976) (by omega), List.length_map, decide_eq_true (by omega), decide_eq_true (by omega)]
    rfl
  | room s x l =>
    have h' : (decide (s ≤ 15) && (decide (x ≤ 2 ^ 60) && decide (l ≤ 2 ^ 60))) = true := h
    simp only [Bool.and_eq_true, decide_eq_true_eq] at h'
    obtain ⟨h1, h2, h3⟩ := h'
    have : frameB (Fm.room s x l).d = (within (nD s) 0 15 && (within (nD x) 0 NM && within (nD l) 0 NM)) := rfl
    rw [this, within_nD (hi := 15) (by omega), within_nD (hi := 1152921504606846976) (by omega), within_nD (hi := 1152921504606846976) (by omega)]
    rfl
  | data s low o e =>
    have h' : (decide (s ≤ 15) && ((o.all fun x => decide (x < 256)) && ((!o.isEmpty || e) && decide (low + o.length ≤ 2 ^ 60 - 1)))) = true := h
    simp only [Bool.and_eq_true, decide_eq_true_eq] at h'
    obtain ⟨h1, h2, h3, h4⟩ := h'
    have hb : Byt o := fun x hx => by
      have := List.all_eq_true.mp h2 x hx
      simpa using this
    have : frameB (Fm.data s low o e).d = (within (nD s) 0 15 && ((within (nD low) 0 1152921504606846975 && octB (oD o)) && ((!(o.map nD).isEmpty || e) && decide ((low : Int) + ((o.map nD).length : Nat) ≤ 1152921504606846975)))) := rfl
    rw [this, within_nD (hi := 15) (by omega), within_nD (hi := 1152921504606846975) (by omega), octB_oD hb, List.length_map, decide_eq_true (by omega)]
    have a2 : (o.map nD).isEmpty = o.isEmpty := by cases o <;> rfl
    rw [a2]
    simpa using h3
  | ping => rfl
end K7
/-! K7: may_stand, is_next, datagram_fault, need_datagram. -/
namespace K7
open PySem PySem.Spec L2
open PyProof.Rows hiding St

local macro_rules | `(tactic| walk_at "k7") => `(tactic| simp only [dSs, dS, dEs, dE, dI, dSeq, dAsg, dPar, dDrop, dRet, dIfS, dNext, dBrk, dNev, dVar, dC, dNil, dCons, dOp, dCB, dCall, dTup, dTest, dAnd, dOr, dNot, dIf, dChn, dNeg, fB, fAdd, fI, fI0, fEq, fNe, fIsN, fNotN, isNon, fIx, fLen, fMin, fMax, fInt, fTup, fLst,
  dIsi, dSet, setAll, dFor, diSeq, diR1, diR2, diR3, diEn, dLst, dApp, dExt, dRev, dEmp, empB, dSl, dPart, dNoP, dRse, dRank, fDg, dgt, isL, up_same, List.getElem?_cons_zero, List.getElem?_cons_succ, List.set_cons_zero, List.set_cons_succ, Bool.not_true, Bool.not_false, Tg.slots])
def Fm.k : Fm → Nat
  | .ack _ _ => 0
  | .room _ _ _ => 1
  | .data _ _ _ _ => 2
  | .ping => 3
def wOf : Nat → Str
  | 0 => wAck
  | 1 => wRoom
  | 2 => wData
  | _ => wPing
def mayS (k : Nat) (fs : List Fm) (bare : Bool) : Bool := !(decide (k = 2) && bare) && match fs.getLast? with
  | none => true
  | some g => decide (g.k < k) || (decide (g.k = k) && (decide (k = 1) || decide (k = 2)))
def roomOk (f : Fm) (fs : List Fm) : Bool := match f with
  | .room s _ _ => (match fs.getLast? with
    | some (.room s' _ _) => decide (s' < s)
    | _ => true)
  | _ => true
def nextF (f : Fm) (fs : List Fm) (bare : Bool) : Bool := mayS f.k fs bare && roomOk f fs
theorem Fm.d_cons (f : Fm) : ∃ r, f.d = .tup (.str (wOf f.k) :: r) := by
  cases f <;> exact ⟨_, rfl⟩
theorem at0 {α : Type} (a : α) (r : List α) : atI (a :: r) 0 = some a := atI_nat (j := 0) rfl
theorem at1 {α : Type} (a b : α) (r : List α) : atI (a :: b :: r) 1 = some b := atI_nat (j := 1) rfl
theorem rank_of : ∀ k, k ≤ 3 → rankD (wOf k) = some (k : Int)
  | 0, _ => by decide
  | 1, _ => by decide
  | 2, _ => by decide
  | 3, _ => by decide
theorem Fm.k_le (f : Fm) : f.k ≤ 3 := by cases f <;> (show _ ≤ 3) <;> first | exact Nat.zero_le 3 | exact Nat.le_refl 3 | (show 1 ≤ 3; decide) | (show 2 ≤ 3; decide)
theorem nil_or_last {α : Type} (l : List α) : l = [] ∨ ∃ r g, l = r ++ [g] := by
  rcases List.eq_nil_or_concat l with h | ⟨r, g, h⟩
  · exact .inl h
  · exact .inr ⟨r, g, by rw [h, List.concat_eq_append]⟩
def p53 : DF := fun ds M q _ => ∃ k a bare fs, ds = [.str (wOf k), .ob a, .bl bare] ∧ k ≤ 3 ∧ M a = some (.lst (fs.map Fm.d)) ∧ q (.bl (mayS k fs bare)) M
theorem k53 {C : Nat → DF} : Keeps C t53 p53 := by
  rintro ds M q xi ⟨k, a, bare, fs, rfl, hk, hm, hq⟩
  refine ⟨rfl, ?_⟩
  show dSs C t53.body _ [some (.str (wOf k)), some (.ob a), some (.bl bare), none, none] M _
  unfold t53
  walk_at "k7"
  have hk2 : decide (wOf k = Str.ofString "data") = decide (k = 2) := by
    match k, hk with
    | 0, _ => decide
    | 1, _ => decide
    | 2, _ => decide
    | 3, _ => decide
  have hin : fIn (.str (wOf k)) (.tup [.str (Str.ofString "room"), .str (Str.ofString "data")]) M q = q (.bl (decide (k = 1) || decide (k = 2))) M := by
    match k, hk with
    | 0, _ => rfl
    | 1, _ => rfl
    | 2, _ => rfl
    | 3, _ => rfl
  simp only [hk2]
  unfold mayS at hq
  cases h2 : decide (k = 2) <;> cases bare <;> rw [h2] at hq
  case true.true => exact hq
  all_goals
    rcases nil_or_last fs with rfl | ⟨r, g, rfl⟩
    · simp only [hm, List.map_nil, List.isEmpty_nil, Bool.false_eq_true, if_false, Bool.bne_false]
      exact hq
    · have eg : (r ++ [g]).getLast? = some g := by simp
      rw [eg] at hq
      have em : ((r ++ [g]).map Fm.d) = r.map Fm.d ++ [g.d] := by simp
      have ee : (r.map Fm.d ++ [g.d]).isEmpty = false := by cases r <;> rfl
      obtain ⟨gr, ed⟩ := g.d_cons
      rw [em] at hm
      simp only [hm, ee, Bool.false_eq_true, if_false, Bool.bne_false, rank_of k hk, dNeg]
      rw [show (-(1 : Int)) = -1 from rfl, atI_last, ed]
      simp only [at0, rank_of g.k g.k_le]
      have e1 : decide ((g.k : Int) < (k : Int)) = decide (g.k < k) := decide_eq_decide.mpr (by omega)
      have e2 : decide ((g.k : Int) = (k : Int)) = decide (g.k = k) := decide_eq_decide.mpr (by omega)
      rw [e1, e2]
      simp only [hin]
      dsimp only at hq
      cases h5 : decide (g.k < k) with
      | true =>
        rw [h5] at hq
        exact hq
      | false =>
        rw [h5] at hq
        cases h6 : decide (g.k = k) with
        | true =>
          rw [h6] at hq
          refine ⟨by show 2 ≤ 100000; decide, ?_⟩
          rw [h2]
          exact hq
        | false =>
          rw [h6] at hq
          exact hq
end K7
/-! K7: is_next, datagram_fault, need_datagram. -/
namespace K7
open PySem PySem.Spec L2
open PyProof.Rows hiding St

local macro_rules | `(tactic| walk_at "k7") => `(tactic| simp only [dSs, dS, dEs, dE, dI, dSeq, dAsg, dPar, dDrop, dRet, dIfS, dNext, dBrk, dNev, dVar, dC, dNil, dCons, dOp, dCB, dCall, dTup, dTest, dAnd, dOr, dNot, dIf, dChn, dNeg, fB, fAdd, fI, fI0, fEq, fNe, fIsN, fNotN, isNon, fIx, fLen, fMin, fMax, fInt, fTup, fLst,
  dIsi, dSet, setAll, dFor, diSeq, diR1, diR2, diR3, diEn, dLst, dApp, dExt, dRev, dEmp, empB, dSl, dPart, dNoP, dRse, dRank, fDg, dgt, isL, up_same, List.getElem?_cons_zero, List.getElem?_cons_succ, List.set_cons_zero, List.set_cons_succ, Bool.not_true, Bool.not_false, Tg.slots])
theorem nr0 : (!decide (wAck = Str.ofString "room")) = true := by decide
theorem nr1 : (!decide (wRoom = Str.ofString "room")) = false := by decide
theorem nr2 : (!decide (wData = Str.ofString "room")) = true := by decide
def p54 : DF := fun ds M q _ => ∃ f a bare fs, ds = [Fm.d f, .ob a, .bl bare] ∧ M a = some (.lst (fs.map Fm.d)) ∧ q (.bl (nextF f fs bare)) M
theorem k54 {C : Nat → DF} (h53 : C 53 = p53) : Keeps C t54 p54 := by
  rintro ds M q xi ⟨f, a, bare, fs, rfl, hm, hq⟩
  refine ⟨rfl, ?_⟩
  show dSs C t54.body _ [some f.d, some (.ob a), some (.bl bare)] M _
  unfold t54
  obtain ⟨r, ed⟩ := f.d_cons
  walk_at "k7"
  rw [ed]
  simp only [at0]
  rw [h53]
  refine ⟨f.k, a, bare, fs, rfl, f.k_le, hm, ?_⟩
  unfold nextF at hq
  cases hs : mayS f.k fs bare with
  | false =>
    rw [hs] at hq
    exact hq
  | true =>
    rw [hs, Bool.true_and] at hq
    simp only [fNeU, Bool.not_true, Bool.false_eq_true, if_false, Bool.bne_false]
    cases f with
    | room s h l =>
      rw [show (!decide (wOf (Fm.room s h l).k = Str.ofString "room")) = false from nr1]
      dsimp only
      cases ed
      rcases nil_or_last fs with rfl | ⟨r, g, rfl⟩
      · simp only [hm, List.map_nil, List.isEmpty_nil]
        exact hq
      · have eg : (r ++ [g]).getLast? = some g := by simp
        have em : ((r ++ [g]).map Fm.d) = r.map Fm.d ++ [g.d] := by simp
        have ee : ∀ y : D, (r.map Fm.d ++ [y]).isEmpty = false := fun y => by cases r <;> rfl
        obtain ⟨gr, ed⟩ := g.d_cons
        unfold roomOk at hq
        rw [eg] at hq
        rw [em] at hm
        simp only [hm, ee, dNeg, show (-(1 : Int)) = -1 from rfl, atI_last, ed, at0, at1]
        cases g with
        | room s' h' l' =>
          cases ed
          rw [show (!decide (wOf (Fm.room s' h' l').k = Str.ofString "room")) = false from nr1]
          simp only [hm, atI_last, at0, at1, Fm.d, nD]
          have : decide ((s' : Int) < (s : Int)) = decide (s' < s) := decide_eq_decide.mpr (by omega)
          rw [this]
          exact hq
        | ack rs dl =>
          rw [show (!decide (wOf (Fm.ack rs dl).k = Str.ofString "room")) = true from nr0]
          exact hq
        | data s low o e =>
          rw [show (!decide (wOf (Fm.data s low o e).k = Str.ofString "room")) = true from nr2]
          exact hq
        | ping =>
          exact hq
    | ack rs dl =>
      rw [show (!decide (wOf (Fm.ack rs dl).k = Str.ofString "room")) = true from nr0]
      exact hq
    | data s low o e =>
      rw [show (!decide (wOf (Fm.data s low o e).k = Str.ofString "room")) = true from nr2]
      exact hq
    | ping => exact hq
/-! ### datagram_fault -/
def wForm : Str := "form"
def wHeader : Str := "header"
def wFrame : Str := "frame"
def wOrder : Str := "order"
def wBadV : Str := "BadValue"
def fGo (bare : Bool) : Nat → List Fm → List D → D
  | _, _, [] => .non
  | n, acc, d :: r => if frameB d then (if nextF (toF d) acc bare then fGo bare (n + 1) (acc ++ [toF d]) r else .tup [.str wOrder, nD n]) else .tup [.str wFrame, nD n]
def bareD : D → Bool
  | .tup [_, _, _, k] => isNon k
  | _ => false
def faultD : D → D
  | .tup [h, .tup fs] => if headerB h then fGo (bareD h) 0 [] fs else .tup [.str wHeader, .non]
  | _ => .tup [.str wForm, .non]
theorem header_four {h : D} (e : headerB h = true) : ∃ a b c k, h = .tup [a, b, c, k] := by
  unfold headerB at e
  split at e
  · exact ⟨_, _, _, _, rfl⟩
  · cases e
def p73 : DF := fun ds M q _ => ∃ d, ds = [d] ∧ dty M d = true ∧ ∀ M', Ex [] M M' → q (faultD d) M'
theorem k73 {C : Nat → DF} (h50 : C 50 = p50) (h52 : C 52 = p52) (h54 : C 54 = p54) : Keeps C t73 p73 := by
  rintro ds M q xi ⟨d, rfl, ht, hq⟩
  refine ⟨rfl, ?_⟩
  show dSs C t73.body _ [some d, none, none, none] M _
  unfold t73
  obtain ⟨t, e1, e2⟩ := ty_tup (dty_ty ht)
  cases d with
  | tup ds =>
    obtain ⟨hl, hm⟩ := dty_tup ht
    by_cases h2 : ds.length = 2
    · obtain ⟨h, b, rfl⟩ := two h2
      have th := hm h (by simp)
      have tb := hm b (by simp)
      obtain ⟨u, f1, f2⟩ := ty_tup (dty_ty tb)
      walk_at "k7"
      simp only [e1, e2, show isTupD (.tup [h, b]) = true from rfl, Bool.not_true, fNeU, at0, at1, f1, f2]
      rw [show (!decide ((([h, b] : List D).length : Int) = 2)) = false from rfl]
      dsimp only
      cases hb : isTupD b with
      | false =>
        have : faultD (.tup [h, b]) = .tup [.str wForm, .non] := by
          unfold faultD
          cases b with
          | tup _ => cases hb
          | _ => rfl
        rw [this] at hq
        exact ⟨by show 2 ≤ 100000; decide, hq _ Ex.refl⟩
      | true =>
        obtain ⟨fs, rfl⟩ : ∃ fs, b = .tup fs := by
          cases b with
          | tup fs => exact ⟨fs, rfl⟩
          | _ => cases hb
        obtain ⟨hfl, hfm⟩ := dty_tup tb
        dsimp only [Bool.not_true]
        rw [h50]
        refine ⟨h, rfl, th, ?_⟩
        have ef : faultD (.tup [h, .tup fs]) = if headerB h then fGo (bareD h) 0 [] fs else .tup [.str wHeader, .non] := rfl
        rw [ef] at hq
        cases hh : headerB h with
        | false =>
          rw [hh] at hq
          exact ⟨by show 2 ≤ 100000; decide, hq _ Ex.refl⟩
        | true =>
          rw [hh] at hq
          obtain ⟨x, y, z, k, rfl⟩ := header_four hh
          dsimp only [Bool.not_true]
          refine ⟨by show 0 ≤ 100000; decide, fun p hp => ?_⟩
          refine for_inv (fun its dl M' => ∃ (r : List D) (n : Nat) (acc : List Fm) (a b : Option D), (∀ d ∈ r, dty M d = true) ∧ its = enG n r ∧ fGo (isNon k) n acc r = fGo (isNon k) 0 [] fs ∧ acc.length + r.length ≤ 5000 ∧ Ex [] M M' ∧ M' p = some (.lst (acc.map Fm.d)) ∧ dl = [some (.tup [.tup [x, y, z, k], .tup fs]), some (.ob p), a, b]) ?_ ?_ _ _ _ ⟨fs, 0, [], none, none, hfm, rfl, rfl, by rw [List.length_nil]; omega, Ex.refl.new hp, up_same, rfl⟩
          · rintro d r dl M' nx ⟨r', n, acc, a, b, hr, e, he, hn, ex, hpM, rfl⟩ hnx
            cases r' with
            | nil => cases e
            | cons w r' =>
              cases e
              refine ⟨trivial, _, rfl, ?_⟩
              walk_at "k7"
              rw [h52]
              refine ⟨w, rfl, dty_ex ex _ (hr w List.mem_cons_self), fun M2 ex2 => ?_⟩
              have hp2 := ex2 _ _ (by simp) hpM
              have ex3 := ex.trans ex2
              have he' : (if frameB w then (if nextF (toF w) acc (isNon k) then fGo (isNon k) (n + 1) (acc ++ [toF w]) r' else .tup [.str wOrder, nD n]) else .tup [.str wFrame, nD n]) = fGo (isNon k) 0 [] fs := he
              cases hf : frameB w with
              | false =>
                rw [hf] at he'
                have hq' := hq _ ex3
                have he2 : fGo (bareD (.tup [x, y, z, k])) 0 [] fs = .tup [.str wFrame, nD n] := he'.symm
                rw [if_pos rfl, he2] at hq'
                exact ⟨by show 2 ≤ 100000; decide, hq'⟩
              | true =>
                rw [hf, if_pos rfl] at he'
                obtain ⟨ew, gw⟩ := frame_of hf
                dsimp only [Bool.not_true]
                simp only [at0]
                rw [show atI [x, y, z, k] 3 = some k from rfl]
                dsimp only
                rw [h54]
                refine ⟨toF w, p, isNon k, acc, by rw [← ew]; rfl, hp2, ?_⟩
                cases hx : nextF (toF w) acc (isNon k) with
                | false =>
                  rw [hx] at he'
                  have hq' := hq _ ex3
                  have he2 : fGo (bareD (.tup [x, y, z, k])) 0 [] fs = .tup [.str wOrder, nD n] := he'.symm
                  rw [if_pos rfl, he2] at hq'
                  exact ⟨by show 2 ≤ 100000; decide, hq'⟩
                | true =>
                  rw [hx, if_pos rfl] at he'
                  dsimp only [Bool.not_true]
                  rw [hp2]
                  dsimp only
                  rw [List.length_cons] at hn
                  refine ⟨rfl, by rw [List.length_map]; omega, hnx _ _ ⟨r', n + 1, acc ++ [toF w], _, _, fun y hy => hr y (List.mem_cons_of_mem _ hy), rfl, he', by rw [List.length_append]; show _ + 1 + _ ≤ _; omega, ex3.own (.inl hp), ?_, rfl⟩⟩
                  rw [up_same, List.map_append, List.map_cons, List.map_nil, ← ew]
          · rintro dl M' ⟨r, n, acc, a, b, hr, e, he, hn, ex, hpM, rfl⟩
            have er : r = [] := by
              cases r with
              | nil => rfl
              | cons _ _ => cases e
            subst er
            have hq' := hq _ ex
            have he2 : fGo (bareD (.tup [x, y, z, k])) 0 [] fs = .non := he.symm
            rw [if_pos rfl, he2] at hq'
            exact ⟨trivial, hq'⟩
    · walk_at "k7"
      simp only [e1, e2, isTupD, Bool.not_true, fNeU]
      rw [show (!decide (((ds.length : Nat) : Int) = 2)) = true from ne_len (n := 2) h2]
      have : faultD (.tup ds) = .tup [.str wForm, .non] := by
        unfold faultD
        split
        · rename_i e
          cases e
          exact absurd rfl h2
        · rfl
      rw [this] at hq
      exact ⟨by show 2 ≤ 100000; decide, hq _ Ex.refl⟩
  | _ =>
    walk_at "k7"
    simp only [e1, e2, isTupD, Bool.not_false]
    exact ⟨by show 2 ≤ 100000; decide, hq _ Ex.refl⟩
/-! ### need_datagram -/
def p74 : DF := fun ds M q xi => ∃ d, ds = [d] ∧ dty M d = true ∧ (faultD d = .non → ∀ M', Ex [] M M' → q d M') ∧ (∀ a b, faultD d = .tup [a, b] → ∀ M', Ex [] M M' → xi wBadV [(wWord, a), (wPlace, b)] M')
theorem fGo_ends (bare : Bool) : ∀ (r : List D) (n : Nat) (acc : List Fm), fGo bare n acc r = .non ∨ ∃ a b, fGo bare n acc r = .tup [a, b]
  | [], _, _ => .inl rfl
  | d :: r, n, acc => by
    unfold fGo
    split
    · split
      · exact fGo_ends bare r _ _
      · exact .inr ⟨_, _, rfl⟩
    · exact .inr ⟨_, _, rfl⟩
theorem fault_ends (d : D) : faultD d = .non ∨ ∃ a b, faultD d = .tup [a, b] := by
  unfold faultD
  split
  · split
    · exact fGo_ends _ _ _ _
    · exact .inr ⟨_, _, rfl⟩
  · exact .inr ⟨_, _, rfl⟩
theorem k74 {C : Nat → DF} (h73 : C 73 = p73) : Keeps C t74 p74 := by
  rintro ds M q xi ⟨d, rfl, ht, hq, hx⟩
  refine ⟨rfl, ?_⟩
  show dSs C t74.body _ [some d, none] M _
  unfold t74
  walk_at "k7"
  rw [h73]
  refine ⟨d, rfl, ht, fun M' ex => ?_⟩
  rcases fault_ends d with h | ⟨a, b, h⟩
  · rw [h]
    exact hq h M' ex
  · rw [h]
    dsimp only [Bool.not_false]
    simp only [at0, at1]
    exact ⟨rfl, hx a b h M' ex⟩
end K7
/-! K7: rows of octets: header, frames; written. -/
namespace K7
open PySem PySem.Spec L2
open PyProof.Rows hiding St

local macro_rules | `(tactic| walk_at "k7") => `(tactic| simp only [dSs, dS, dEs, dE, dI, dSeq, dAsg, dPar, dDrop, dRet, dIfS, dNext, dBrk, dNev, dVar, dC, dNil, dCons, dOp, dCB, dCall, dTup, dTest, dAnd, dOr, dNot, dIf, dChn, dNeg, fB, fAdd, fI, fI0, fEq, fNe, fIsN, fNotN, isNon, fIx, fLen, fMin, fMax, fInt, fTup, fLst,
  dIsi, dSet, setAll, dFor, diSeq, diR1, diR2, diR3, diEn, dLst, dApp, dExt, dRev, dEmp, empB, dSl, dPart, dNoP, dRse, dRank, fDg, dgt, isL, up_same, List.getElem?_cons_zero, List.getElem?_cons_succ, List.set_cons_zero, List.set_cons_succ, Bool.not_true, Bool.not_false, Tg.slots])
structure Hd where
  s : Nat
  m : Nat
  p : Nat
  k : Option Nat
def optN : Option Nat → D
  | none => .non
  | some n => nD n
def Hd.d (h : Hd) : D := .tup [nD h.s, nD h.m, nD h.p, optN h.k]
def Hd.good (h : Hd) : Bool := decide (h.s ≤ 1) && (decide (h.m ≤ 2 ^ 60) && (decide (h.p ≤ 2 ^ 60) && (match h.k with | none => true | some n => decide (n ≤ 2 ^ 60))))
def rowH (h : Hd) : List Nat := match h.k with
  | none => h.s :: (numO h.m ++ numO h.p)
  | some n => (h.s + 2) :: (numO h.m ++ numO h.p ++ numO n)
def hiN : Option Nat → Nat → Nat
  | none, hi => hi - 1
  | some a, hi => a - hi - 1
def rngO : Option Nat → List (Nat × Nat) → List Nat
  | _, [] => []
  | ah, p :: r => numO (hiN ah p.2) ++ numO (p.2 - p.1 - 1) ++ rngO (some p.1) r
def rowF : Fm → List Nat
  | .ack rs dl => 1 :: (numO rs.length ++ rngO none rs.reverse ++ numO dl)
  | .room s h l => 2 :: s :: (numO h ++ numO l)
  | .data s low o e => (if e then 4 else 3) :: s :: (numO low ++ numO o.length ++ o)
  | .ping => [5]
theorem oD_app (a b : List Nat) : D.tup (a.map nD ++ b.map nD) = oD (a ++ b) := by
  unfold oD
  rw [List.map_append]
def p55 : DF := fun ds M q _ => ∃ h, ds = [Hd.d h] ∧ h.good = true ∧ ∀ M', Ex [] M M' → q (oD (rowH h)) M'
theorem k55 {C : Nat → DF} (h34 : C 34 = p34) : Keeps C t55 p55 := by
  rintro ds M q xi ⟨⟨s, m, p, k⟩, rfl, hg, hq⟩
  refine ⟨rfl, ?_⟩
  show dSs C t55.body _ [some (Hd.d ⟨s, m, p, k⟩), none, none, none, none] M _
  unfold t55
  unfold Hd.good at hg
  simp only [Bool.and_eq_true, decide_eq_true_eq] at hg
  obtain ⟨g1, g2, g3, g4⟩ := hg
  walk_at "k7"
  unfold Hd.d
  have lm := numO_len m
  have lp := numO_len p
  cases k with
  | none =>
    simp only [optN, setAll, List.getElem?_cons_zero, List.getElem?_cons_succ, List.set_cons_zero, List.set_cons_succ]
    rw [h34]
    refine ⟨by show 1 ≤ 100000; decide, m, rfl, g2, fun M' ex => ?_⟩
    simp only [oD]
    refine ⟨by rw [List.length_map]; show 1 + _ ≤ _; omega, p, rfl, g3, fun M2 ex2 => ?_⟩
    refine ⟨by simp only [List.length_append, List.length_map]; show 1 + _ + _ ≤ _; omega, ?_⟩
    have e : [nD s] ++ (numO m).map nD ++ (numO p).map nD = (rowH ⟨s, m, p, none⟩).map nD := by
      unfold rowH
      rw [List.map_cons, List.map_append]
      rfl
    rw [e]
    exact hq _ (ex.trans ex2)
  | some k =>
    have lk := numO_len k
    simp only [decide_eq_true_eq] at g4
    simp only [optN, setAll, List.getElem?_cons_zero, List.getElem?_cons_succ, List.set_cons_zero, List.set_cons_succ, nD]
    rw [h34]
    refine ⟨by show 1 ≤ 100000; decide, m, rfl, g2, fun M' ex => ?_⟩
    simp only [oD]
    refine ⟨by rw [List.length_map]; show 1 + _ ≤ _; omega, p, rfl, g3, fun M2 ex2 => ?_⟩
    refine ⟨by simp only [List.length_append, List.length_map]; show 1 + _ + _ ≤ _; omega, k, rfl, g4, fun M3 ex3 => ?_⟩
    refine ⟨by simp only [List.length_append, List.length_map]; show 1 + _ + _ + _ ≤ _; omega, ?_⟩
    have e : [D.int ((s : Int) + 2)] ++ (numO m).map nD ++ (numO p).map nD ++ (numO k).map nD = (rowH ⟨s, m, p, some k⟩).map nD := by
      unfold rowH
      rw [List.map_cons, List.map_append, List.map_append]
      rfl
    rw [e]
    exact hq _ ((ex.trans ex2).trans ex3)
/-! ### ack_octets -/
theorem rok_all : ∀ {rs : List (Nat × Nat)} {b : Int}, rok b rs = true → (∀ p ∈ rs, b < (p.1 : Int) ∧ p.1 < p.2 ∧ p.2 ≤ 2 ^ 60) ∧ rs.Pairwise (fun x y => x.2 < y.1)
  | [], _, _ => ⟨fun p h => (by cases h), .nil⟩
  | x :: r, b, h => by
    have h' : ((decide (b < (x.1 : Int)) && (decide (x.1 < x.2) && decide (x.2 ≤ 2 ^ 60))) && rok (x.2 : Int) r) = true := h
    simp only [Bool.and_eq_true, decide_eq_true_eq] at h'
    obtain ⟨⟨h1, h2, h3⟩, h4⟩ := h'
    obtain ⟨a1, a2⟩ := rok_all h4
    refine ⟨fun p hp => ?_, .cons (fun y hy => by have := (a1 y hy).1; omega) a2⟩
    rcases List.mem_cons.mp hp with rfl | hp
    · exact ⟨h1, h2, h3⟩
    · obtain ⟨b1, b2, b3⟩ := a1 p hp
      exact ⟨by omega, b2, b3⟩
def p56 : DF := fun ds M q _ => ∃ rs dl, ds = [Fm.d (.ack rs dl)] ∧ (Fm.ack rs dl).good = true ∧ ∀ M', Ex [] M M' → q (oD (rowF (.ack rs dl))) M'
theorem rngO_len : ∀ (r : List (Nat × Nat)) (ah : Option Nat), (rngO ah r).length ≤ 20 * r.length
  | [], _ => Nat.le_refl _
  | p :: r, ah => by
    unfold rngO
    have h1 := numO_len (hiN ah p.2)
    have h2 := numO_len (p.2 - p.1 - 1)
    have h3 := rngO_len r (some p.1)
    simp only [List.length_append, List.length_cons]
    omega
theorem k56 {C : Nat → DF} (h34 : C 34 = p34) : Keeps C t56 p56 := by
  rintro ds M q xi ⟨rs, dl, rfl, hg, hq⟩
  refine ⟨rfl, ?_⟩
  show dSs C t56.body _ [some (Fm.d (.ack rs dl)), none, none, none, none] M _
  unfold t56
  have hg' : (rok (-1) rs && (decide (1 ≤ rs.length) && (decide (rs.length ≤ 32) && decide (dl ≤ 2 ^ 60)))) = true := hg
  simp only [Bool.and_eq_true, decide_eq_true_eq] at hg'
  obtain ⟨g1, g2, g3, g4⟩ := hg'
  obtain ⟨a1, a2⟩ := rok_all g1
  walk_at "k7"
  unfold Fm.d
  simp only [at1, show atI [D.str wAck, .tup (rs.map prD), nD dl] 2 = some (nD dl) from rfl]
  rw [h34]
  refine ⟨by show 1 ≤ 100000; decide, rs.length, by rw [List.length_map]; rfl, by omega, fun M1 ex1 => ?_⟩
  have l1 := numO_len rs.length
  have l4 := numO_len dl
  simp only [oD]
  refine ⟨by rw [List.length_map]; show 1 + _ ≤ _; omega, ?_⟩
  refine for_inv (fun its ld M' => ∃ (r : List (Nat × Nat)) (acc : List Nat) (ah : Option Nat) (a b : Option D), its = r.map prD ∧ (∀ p ∈ r, p.1 < p.2 ∧ p.2 ≤ 2 ^ 60 ∧ ∀ x, ah = some x → p.2 < x) ∧ (∀ x, ah = some x → x ≤ 2 ^ 60) ∧ r.Pairwise (fun x y => y.2 < x.1) ∧ acc ++ rngO ah r ++ numO dl = rowF (.ack rs dl) ∧ acc.length + 20 * r.length ≤ 700 ∧ Ex [] M M' ∧
    ld = [some (.tup [.str wAck, .tup (rs.map prD), nD dl]), some (oD acc), some (optN ah), a, b]) ?_ ?_ _ _ _ ⟨rs.reverse, 1 :: numO rs.length, none, none, none, by rw [List.map_reverse], fun p hp => ⟨(a1 p (List.mem_reverse.mp hp)).2.1, (a1 p (List.mem_reverse.mp hp)).2.2, fun x hx => nomatch hx⟩, (fun x hx => nomatch hx), List.pairwise_reverse.mpr a2, rfl, by rw [List.length_cons, List.length_reverse]; omega, ex1, rfl⟩
  · rintro d r ld M' nx ⟨r', acc, ah, a, b, ei, hr, hx, hp, he, hn, ex, rfl⟩ hnx
    cases r' with
    | nil => cases ei
    | cons p r' =>
      cases ei
      obtain ⟨lo, hi⟩ := p
      obtain ⟨c1, c2, c3⟩ := hr (lo, hi) List.mem_cons_self
      refine ⟨trivial, _, rfl, ?_⟩
      walk_at "k7"
      rw [List.length_cons] at hn
      have key : ∀ v : Nat, v ≤ 2 ^ 60 → v = hiN ah hi → p34 [nD v] M' (fun y M2 => fAdd (oD acc) y M2 fun x M1 =>
          p34 [.int ((hi : Int) - (lo : Int) - 1)] M1 (fun y M2 => fAdd x y M2 fun d M1 => nx [some (.tup [.str wAck, .tup (rs.map prD), nD dl]), some d, some (nD lo), some (nD lo), some (nD hi)] M1) (fun c fs M2 => xi c fs M2)) (fun c fs M2 => xi c fs M2) := by
        intro v hv ev
        refine ⟨v, rfl, hv, fun M2 ex2 => ?_⟩
        have lv := numO_len v
        have lw := numO_len (hi - lo - 1)
        simp only [oD, fAdd]
        refine ⟨by rw [List.length_map, List.length_map]; omega, hi - lo - 1, ?_, by dsimp only at c1 c2; omega, fun M3 ex3 => ?_⟩
        · unfold nD
          dsimp only at c1 c2
          rw [show (hi : Int) - (lo : Int) - 1 = ((hi - lo - 1 : Nat) : Int) by omega]
        · refine ⟨by simp only [List.length_append, List.length_map]; omega, ?_⟩
          refine hnx _ _ ⟨r', acc ++ numO v ++ numO (hi - lo - 1), some lo, some (nD lo), some (nD hi), rfl, fun z hz => ⟨(hr z (List.mem_cons_of_mem _ hz)).1, (hr z (List.mem_cons_of_mem _ hz)).2.1, fun x hx => ?_⟩, fun x hx => ?_, (List.pairwise_cons.mp hp).2, ?_, ?_, (ex.trans ex2).trans ex3, ?_⟩
          · cases hx
            exact (List.pairwise_cons.mp hp).1 z hz
          · cases hx
            dsimp only at c1 c2
            omega
          · rw [← he]
            rw [show rngO ah ((lo, hi) :: r') = numO (hiN ah hi) ++ numO (hi - lo - 1) ++ rngO (some lo) r' from rfl, ← ev]
            simp only [List.append_assoc]
          · simp only [List.length_append]
            omega
          · simp only [oD, List.map_append, optN]
      dsimp only at c1 c2 c3
      cases ah with
      | none =>
        have k1 := key (hi - 1) (by omega) rfl
        have e1 : nD (hi - 1) = .int ((hi : Int) - 1) := by
          unfold nD
          rw [show ((hi - 1 : Nat) : Int) = (hi : Int) - 1 by omega]
        rw [e1] at k1
        exact k1
      | some x =>
        have hxx := c3 x rfl
        have hx6 := hx x rfl
        have k1 := key (x - hi - 1) (by omega) rfl
        have e1 : nD (x - hi - 1) = .int ((x : Int) - (hi : Int) - 1) := by
          unfold nD
          rw [show ((x - hi - 1 : Nat) : Int) = (x : Int) - (hi : Int) - 1 by omega]
        rw [e1] at k1
        exact k1
  · rintro ld M' ⟨r', acc, ah, a, b, ei, hr, hx, hp, he, hn, ex, rfl⟩
    have er : r' = [] := by
      cases r' with
      | nil => rfl
      | cons _ _ => cases ei
    subst er
    refine ⟨trivial, ?_⟩
    walk_at "k7"
    simp only [show atI [D.str wAck, .tup (rs.map prD), nD dl] 2 = some (nD dl) from rfl]
    refine ⟨dl, rfl, g4, fun M2 ex2 => ?_⟩
    simp only [oD]
    refine ⟨by rw [List.length_map, List.length_map]; omega, ?_⟩
    rw [oD_app]
    have : acc ++ numO dl = rowF (.ack rs dl) := by
      rw [← he]
      show _ = acc ++ [] ++ _
      rw [List.append_nil]
    rw [this]
    exact hq _ (ex.trans ex2)
end K7
/-! K7: frame_octets, written, need_form. -/
namespace K7
open PySem PySem.Spec L2
open PyProof.Rows hiding St

local macro_rules | `(tactic| walk_at "k7") => `(tactic| simp only [dSs, dS, dEs, dE, dI, dSeq, dAsg, dPar, dDrop, dRet, dIfS, dNext, dBrk, dNev, dVar, dC, dNil, dCons, dOp, dCB, dCall, dTup, dTest, dAnd, dOr, dNot, dIf, dChn, dNeg, fB, fAdd, fI, fI0, fEq, fNe, fIsN, fNotN, isNon, fIx, fLen, fMin, fMax, fInt, fTup, fLst,
  dIsi, dSet, setAll, dFor, diSeq, diR1, diR2, diR3, diEn, dLst, dApp, dExt, dRev, dEmp, empB, dSl, dPart, dNoP, dRse, dRank, fDg, dgt, isL, up_same, List.getElem?_cons_zero, List.getElem?_cons_succ, List.set_cons_zero, List.set_cons_succ, Bool.not_true, Bool.not_false, Tg.slots])
def p57 : DF := fun ds M q _ => ∃ f, ds = [Fm.d f] ∧ f.good = true ∧ (rowF f).length ≤ 50000 ∧ ∀ M', Ex [] M M' → q (oD (rowF f)) M'
theorem wk_ack : decide (wAck = Str.ofString "ack") = true := by decide
theorem wk_room : decide (wRoom = Str.ofString "room") = true := by decide
theorem wk_room_a : decide (wRoom = Str.ofString "ack") = false := by decide
theorem wk_data : decide (wData = Str.ofString "data") = true := by decide
theorem wk_data_a : decide (wData = Str.ofString "ack") = false := by decide
theorem wk_data_r : decide (wData = Str.ofString "room") = false := by decide
theorem wk_ping_a : decide (wPing = Str.ofString "ack") = false := by decide
theorem wk_ping_r : decide (wPing = Str.ofString "room") = false := by decide
theorem wk_ping_d : decide (wPing = Str.ofString "data") = false := by decide
theorem k57 {C : Nat → DF} (h34 : C 34 = p34) (h56 : C 56 = p56) : Keeps C t57 p57 := by
  rintro ds M q xi ⟨f, rfl, hg, hl, hq⟩
  refine ⟨rfl, ?_⟩
  show dSs C t57.body _ [some f.d, none, none, none] M _
  unfold t57
  cases f with
  | ack rs dl =>
    walk_at "k7"
    simp only [Fm.d, at0, wk_ack]
    rw [h56]
    exact ⟨rs, dl, rfl, hg, hq⟩
  | room s h l =>
    walk_at "k7"
    simp only [Fm.d, at0, wk_room_a, wk_room, at1, show atI [D.str wRoom, nD s, nD h, nD l] 2 = some (nD h) from rfl, show atI [D.str wRoom, nD s, nD h, nD l] 3 = some (nD l) from rfl]
    have hg' : (decide (s ≤ 15) && (decide (h ≤ 2 ^ 60) && decide (l ≤ 2 ^ 60))) = true := hg
    simp only [Bool.and_eq_true, decide_eq_true_eq] at hg'
    obtain ⟨g1, g2, g3⟩ := hg'
    have lh := numO_len h
    have ll := numO_len l
    rw [h34]
    refine ⟨by show 2 ≤ 100000; decide, h, rfl, g2, fun M2 ex2 => ?_⟩
    simp only [oD]
    refine ⟨by rw [List.length_map]; show 2 + _ ≤ _; omega, l, rfl, g3, fun M3 ex3 => ?_⟩
    refine ⟨by simp only [List.length_append, List.length_map]; show 2 + _ + _ ≤ _; omega, ?_⟩
    have e : [D.int 2, nD s] ++ (numO h).map nD ++ (numO l).map nD = (rowF (.room s h l)).map nD := by
      unfold rowF
      rw [List.map_cons, List.map_cons, List.map_append]
      rfl
    rw [e]
    exact hq _ (ex2.trans ex3)
  | data s low o e =>
    walk_at "k7"
    simp only [Fm.d, at0, wk_data_a, wk_data_r, wk_data, at1, show atI [D.str wData, nD s, .tup [nD low, oD o, .bl e]] 2 = some (.tup [nD low, oD o, .bl e]) from rfl, setAll, List.getElem?_cons_zero, List.getElem?_cons_succ, List.set_cons_zero, List.set_cons_succ]
    have hg' : (decide (s ≤ 15) && ((o.all fun x => decide (x < 256)) && ((!o.isEmpty || e) && decide (low + o.length ≤ 2 ^ 60 - 1)))) = true := hg
    simp only [Bool.and_eq_true, decide_eq_true_eq] at hg'
    obtain ⟨g1, g2, g3, g4⟩ := hg'
    have lh := numO_len low
    have ll := numO_len o.length
    have lo : o.length ≤ 50000 := by
      unfold rowF at hl
      simp only [List.length_cons, List.length_append] at hl
      omega
    have fin : ∀ (t : Nat), (t : Int) = (if e = true then 4 else 3 : Int) → t = (if e = true then 4 else 3) → [D.int (t : Int), nD s].length ≤ 100000 ∧ p34 [nD low] M (fun y M2 => fAdd (.tup [.int (t : Int), nD s]) y M2 fun x M1 => p34 [.int ((o.map nD).length : Nat)] M1 (fun y M2 => fAdd x y M2 fun x M1 => fAdd x (oD o) M1 q) fun c fs M2 => xi c fs M2) fun c fs M2 => xi c fs M2 := by
      intro t _ et
      refine ⟨by show 2 ≤ 100000; decide, low, rfl, by omega, fun M2 ex2 => ?_⟩
      simp only [oD, fAdd]
      refine ⟨by rw [List.length_map]; show 2 + _ ≤ _; omega, o.length, by rw [List.length_map]; rfl, by omega, fun M3 ex3 => ?_⟩
      refine ⟨by simp only [List.length_append, List.length_map]; show 2 + _ + _ ≤ _; omega, by simp only [List.length_append, List.length_map]; show 2 + _ + _ + _ ≤ _; omega, ?_⟩
      have e : [D.int (t : Int), nD s] ++ (numO low).map nD ++ (numO o.length).map nD ++ o.map nD = (rowF (.data s low o e)).map nD := by
        unfold rowF
        rw [List.map_cons, List.map_cons, List.map_append, List.map_append, ← et]
        rfl
      rw [e]
      exact hq _ (ex2.trans ex3)
    rw [h34]
    cases e with
    | true => exact fin 4 rfl rfl
    | false => exact fin 3 rfl rfl
  | ping =>
    walk_at "k7"
    simp only [Fm.d, at0, wk_ping_a, wk_ping_r, wk_ping_d]
    exact ⟨by show 1 ≤ 100000; decide, hq _ Ex.refl⟩
/-! ### written -/
def bodyO (h : Hd) (fs : List Fm) : List Nat := rowH h ++ (fs.map rowF).flatten
def dgD (h : Hd) (fs : List Fm) : D := .tup [h.d, .tup (fs.map Fm.d)]
theorem byt_cons {x : Nat} {l : List Nat} (h : x < 256) (b : Byt l) : Byt (x :: l) := fun y hy => (List.mem_cons.mp hy).elim (fun e => by omega) (b y)
theorem byt_nil : Byt [] := fun x h => by cases h
theorem rowH_byt {h : Hd} (g : h.good = true) : Byt (rowH h) := by
  obtain ⟨s, m, p, k⟩ := h
  unfold Hd.good at g
  simp only [Bool.and_eq_true, decide_eq_true_eq] at g
  unfold rowH
  cases k with
  | none => exact byt_cons (by dsimp only; omega) (byt_app (numO_byt _) (numO_byt _))
  | some k => exact byt_cons (by dsimp only; omega) (byt_app (byt_app (numO_byt _) (numO_byt _)) (numO_byt _))
theorem rngO_byt : ∀ (r : List (Nat × Nat)) (ah : Option Nat), Byt (rngO ah r)
  | [], _ => byt_nil
  | p :: r, ah => byt_app (byt_app (numO_byt _) (numO_byt _)) (rngO_byt r _)
theorem rowF_byt {f : Fm} (g : f.good = true) : Byt (rowF f) := by
  cases f with
  | ack rs dl => exact byt_cons (by decide) (byt_app (byt_app (numO_byt _) (rngO_byt _ _)) (numO_byt _))
  | room s h l =>
    have hg' : (decide (s ≤ 15) && (decide (h ≤ 2 ^ 60) && decide (l ≤ 2 ^ 60))) = true := g
    simp only [Bool.and_eq_true, decide_eq_true_eq] at hg'
    exact byt_cons (by decide) (byt_cons (by omega) (byt_app (numO_byt _) (numO_byt _)))
  | data s low o e =>
    have hg' : (decide (s ≤ 15) && ((o.all fun x => decide (x < 256)) && ((!o.isEmpty || e) && decide (low + o.length ≤ 2 ^ 60 - 1)))) = true := g
    simp only [Bool.and_eq_true, decide_eq_true_eq] at hg'
    refine byt_cons (by cases e <;> decide) (byt_cons (by omega) (byt_app (byt_app (numO_byt _) (numO_byt _)) fun x hx => ?_))
    have := List.all_eq_true.mp hg'.2.1 x hx
    simpa using this
  | ping => exact byt_cons (by decide) byt_nil
theorem flat_byt : ∀ {fs : List Fm}, (∀ f ∈ fs, f.good = true) → Byt (fs.map rowF).flatten
  | [], _ => byt_nil
  | f :: r, h => byt_app (rowF_byt (h f List.mem_cons_self)) (flat_byt fun g hg => h g (List.mem_cons_of_mem _ hg))
theorem dty_nD (M : Mem) (n : Nat) : dty M (nD n) = true := rfl
theorem dtys_map {α : Type} {M : Mem} {f : α → D} {l : List α} (h : ∀ x ∈ l, dty M (f x) = true) : dtys M (l.map f) = true := dtys_of fun d hd => by
  obtain ⟨x, hx, rfl⟩ := List.mem_map.mp hd
  exact h x hx
theorem dty_tupI {M : Mem} {ds : List D} (h : ds.length ≤ 5000) (k : ∀ d ∈ ds, dty M d = true) : dty M (.tup ds) = true := by
  unfold dty
  rw [decide_eq_true h, dtys_of k]
  rfl
theorem mem_map_all {α : Type} {M : Mem} {f : α → D} {l : List α} (h : ∀ x ∈ l, dty M (f x) = true) : ∀ d ∈ l.map f, dty M d = true := fun d hd => by
  obtain ⟨x, hx, rfl⟩ := List.mem_map.mp hd
  exact h x hx
theorem dty_oD {M : Mem} {l : List Nat} (h : l.length ≤ 5000) : dty M (oD l) = true := dty_tupI (by rw [List.length_map]; exact h) (mem_map_all fun _ _ => rfl)
theorem dty_F {M : Mem} {f : Fm} (g : f.good = true) (h : (rowF f).length ≤ 5000) : dty M f.d = true := by
  cases f with
  | ack rs dl =>
    have hg' : (rok (-1) rs && (decide (1 ≤ rs.length) && (decide (rs.length ≤ 32) && decide (dl ≤ 2 ^ 60)))) = true := g
    simp only [Bool.and_eq_true, decide_eq_true_eq] at hg'
    have : dty M (.tup (rs.map prD)) = true := dty_tupI (by rw [List.length_map]; omega) (mem_map_all fun _ _ => rfl)
    refine dty_tupI (by show 3 ≤ 5000; decide) fun d hd => ?_
    rcases List.mem_cons.mp hd with rfl | hd
    · rfl
    · rcases List.mem_cons.mp hd with rfl | hd
      · exact this
      · rcases List.mem_cons.mp hd with rfl | hd
        · rfl
        · cases hd
  | room s x l => rfl
  | data s low o e =>
    have ho : o.length ≤ 5000 := by
      unfold rowF at h
      simp only [List.length_cons, List.length_append] at h
      omega
    have h3 : dty M (.tup [nD low, oD o, .bl e]) = true := by
      refine dty_tupI (by show 3 ≤ 5000; decide) fun d hd => ?_
      rcases List.mem_cons.mp hd with rfl | hd
      · rfl
      · rcases List.mem_cons.mp hd with rfl | hd
        · exact dty_oD ho
        · rcases List.mem_cons.mp hd with rfl | hd
          · rfl
          · cases hd
    refine dty_tupI (by show 3 ≤ 5000; decide) fun d hd => ?_
    rcases List.mem_cons.mp hd with rfl | hd
    · rfl
    · rcases List.mem_cons.mp hd with rfl | hd
      · rfl
      · rcases List.mem_cons.mp hd with rfl | hd
        · exact h3
        · cases hd
  | ping => rfl
theorem dty_H (M : Mem) (h : Hd) : dty M h.d = true := by
  obtain ⟨s, m, p, k⟩ := h
  cases k <;> rfl
theorem row_le : ∀ {fs : List Fm} {f : Fm}, f ∈ fs → (rowF f).length ≤ ((fs.map rowF).flatten).length
  | g :: r, f, h => by
    rw [List.map_cons, List.flatten_cons, List.length_append]
    rcases List.mem_cons.mp h with rfl | h
    · omega
    · have := row_le h
      omega
theorem row_pos (f : Fm) : 1 ≤ (rowF f).length := by
  cases f <;> (unfold rowF; rw [List.length_cons]; omega)
theorem len_le : ∀ (fs : List Fm), fs.length ≤ ((fs.map rowF).flatten).length
  | [] => Nat.zero_le _
  | g :: r => by
    rw [List.map_cons, List.flatten_cons, List.length_append, List.length_cons]
    have := row_pos g
    have := len_le r
    omega
theorem dty_dg {M : Mem} {h : Hd} {fs : List Fm} (g : ∀ f ∈ fs, f.good = true) (hl : (bodyO h fs).length ≤ 1196) : dty M (dgD h fs) = true := by
  unfold bodyO at hl
  rw [List.length_append] at hl
  have := len_le fs
  refine dty_tupI (by show 2 ≤ 5000; decide) fun d hd => ?_
  rcases List.mem_cons.mp hd with rfl | hd
  · exact dty_H M h
  · rcases List.mem_cons.mp hd with rfl | hd
    · exact dty_tupI (by rw [List.length_map]; omega) (mem_map_all fun f hf => dty_F (g f hf) (by have := row_le hf; omega))
    · cases hd
def p75 : DF := fun ds M q _ => ∃ h fs, ds = [dgD h fs] ∧ h.good = true ∧ (∀ f ∈ fs, f.good = true) ∧ (bodyO h fs).length ≤ 1196 ∧ faultD (dgD h fs) = .non ∧ ∀ M', Ex [] M M' → q (oD (bodyO h fs ++ fourO (chkR (bodyO h fs)))) M'
theorem k75 {C : Nat → DF} (h74 : C 74 = p74) (h55 : C 55 = p55) (h57 : C 57 = p57) (h29 : C 29 = p29) : Keeps C t75 p75 := by
  rintro ds M q xi ⟨h, fs, rfl, gh, gf, hl, hf, hq⟩
  refine ⟨rfl, ?_⟩
  show dSs C t75.body _ [some (dgD h fs), none, none, none, none, none] M _
  unfold t75
  walk_at "k7"
  rw [h74]
  refine ⟨dgD h fs, rfl, dty_dg gf hl, fun _ M1 ex1 => ?_, fun a b e => by rw [hf] at e; cases e⟩
  unfold dgD
  simp only [setAll, List.getElem?_cons_zero, List.getElem?_cons_succ, List.set_cons_zero, List.set_cons_succ]
  rw [h55]
  refine ⟨h, rfl, gh, fun M2 ex2 => ?_⟩
  simp only [oD]
  intro p hp
  have ex3 : Ex [] M (up M2 p (.lst ((rowH h).map nD))) := (ex1.trans ex2).new hp
  have hpM : M p = none := by
    cases e : M p with
    | none => rfl
    | some o =>
      have := (ex1.trans ex2) p o (by simp) e
      rw [hp] at this
      cases this
  refine for_inv (fun its ld M' => ∃ (r : List Fm) (acc : List Nat) (a : Option D), its = r.map Fm.d ∧ (∀ f ∈ r, f ∈ fs) ∧ acc ++ (r.map rowF).flatten = bodyO h fs ∧ Ex [] M M' ∧ M' p = some (.lst (acc.map nD)) ∧ ld = [some (dgD h fs), some (.ob p), a, none, some h.d, some (.tup (fs.map Fm.d))]) ?_ ?_ _ _ _ ⟨fs, rowH h, none, rfl, fun _ h => h, rfl, ex3, up_same, rfl⟩
  · rintro d r ld M' nx ⟨r', acc, a, ei, hr, he, ex, hm, rfl⟩ hnx
    cases r' with
    | nil => cases ei
    | cons f r' =>
      cases ei
      refine ⟨trivial, _, rfl, ?_⟩
      walk_at "k7"
      simp only [hm]
      rw [h57]
      have hin := hr f List.mem_cons_self
      rw [List.map_cons, List.flatten_cons, ← List.append_assoc] at he
      have hl2 : acc.length + (rowF f).length ≤ 1196 := by
        rw [← he] at hl
        simp only [List.length_append] at hl
        omega
      refine ⟨trivial, f, rfl, gf f hin, by omega, fun M3 exx => ?_⟩
      have hm3 := exx _ _ (by simp) hm
      simp only [oD, hm3]
      refine ⟨by rw [List.length_map, List.length_map]; omega, ?_⟩
      have e1 : decide ((((acc.map nD ++ (rowF f).map nD).length : Nat) : Int) > 1200 - 4) = false := decide_eq_false (by rw [List.length_append, List.length_map, List.length_map]; omega)
      simp only [e1]
      refine hnx _ _ ⟨r', acc ++ rowF f, _, rfl, fun g hg => hr g (List.mem_cons_of_mem _ hg), he, (ex.trans exx).own (.inl hpM), by rw [up_same, List.map_append], rfl⟩
  · rintro ld M' ⟨r', acc, a, ei, hr, he, ex, hm, rfl⟩
    have er : r' = [] := by
      cases r' with
      | nil => rfl
      | cons _ _ => cases ei
    subst er
    have he' : acc = bodyO h fs := by
      rw [← he]
      exact (List.append_nil acc).symm
    subst he'
    refine ⟨trivial, ?_⟩
    walk_at "k7"
    simp only [hm]
    rw [h29]
    have hb : Byt (bodyO h fs) := byt_app (rowH_byt gh) (flat_byt gf)
    refine ⟨bodyO h fs, rfl, hb, by omega, fun M4 ex4 => ?_⟩
    simp only [oD]
    refine ⟨by rw [List.length_map, List.length_map]; show _ + 4 ≤ _; omega, ?_⟩
    rw [oD_app]
    exact hq _ (ex.trans ex4)
end K7
/-! K7: reading, part 1. -/
namespace K7
open PySem PySem.Spec L2
open PyProof.Rows hiding St

local macro_rules | `(tactic| walk_at "k7") => `(tactic| simp only [dSs, dS, dEs, dE, dI, dSeq, dAsg, dPar, dDrop, dRet, dIfS, dNext, dBrk, dNev, dVar, dC, dNil, dCons, dOp, dCB, dCall, dTup, dTest, dAnd, dOr, dNot, dIf, dChn, dNeg, fB, fAdd, fI, fI0, fEq, fNe, fIsN, fNotN, isNon, fIx, fLen, fMin, fMax, fInt, fTup, fLst,
  dIsi, dSet, setAll, dFor, diSeq, diR1, diR2, diR3, diEn, dLst, dApp, dExt, dRev, dEmp, empB, dSl, dPart, dNoP, dRse, dRank, fDg, dgt, isL, up_same, List.getElem?_cons_zero, List.getElem?_cons_succ, List.set_cons_zero, List.set_cons_succ, Bool.not_true, Bool.not_false, Tg.slots])
abbrev Er := Str × Nat
def wNumber : Str := "number"
def wHead : Str := "head"
def wBound : Str := "bound"
def wCheck : Str := "check"
def wBadD : Str := "BadDatagram"
def nAt (l : List Nat) (p : Nat) : Except Er (Nat × Nat) := match numD l p with
  | some x => .ok x
  | none => .error (wNumber, p)
def hdR (l : List Nat) : Except Er (Hd × Nat) := if 3 < l.getD 0 0 then .error (wHead, 0) else match nAt l 1 with
  | .error e => .error e
  | .ok (m, p) => match nAt l p with
    | .error e => .error e
    | .ok (r, p) => if l.getD 0 0 < 2 then .ok (⟨l.getD 0 0, m, r, none⟩, p) else match nAt l p with
      | .error e => .error e
      | .ok (k, p) => .ok (⟨l.getD 0 0 - 2, m, r, some k⟩, p)
def sAt (l : List Nat) (p : Nat) : Except Er Nat := if p < l.length ∧ l.getD p 0 ≤ 15 then .ok (l.getD p 0) else .error (wBound, p)
def topN (ah : Option Nat) (told : Nat) : Option Nat := match ah with
  | none => if told < 2 ^ 60 then some told else none
  | some a => if told + 2 ≤ a ∧ a - 2 - told < 2 ^ 60 then some (a - 2 - told) else none
def rgAt (l : List Nat) (p : Nat) (ah : Option Nat) : Except Er ((Nat × Nat) × Nat) := match nAt l p with
  | .error e => .error e
  | .ok (told, b) => match topN ah told with
    | none => .error (wBound, p)
    | some top => match nAt l b with
      | .error e => .error e
      | .ok (more, e) => if more ≤ top then .ok ((top - more, top + 1), e) else .error (wBound, b)
def ackGo (l : List Nat) : Nat → Option Nat → List (Nat × Nat) → Nat → Except Er (List (Nat × Nat) × Nat)
  | 0, _, acc, p => .ok (acc, p)
  | n + 1, ah, acc, p => match rgAt l p ah with
    | .error e => .error e
    | .ok (pr, b) => ackGo l n (some pr.1) (pr :: acc) b
def ackR (l : List Nat) (p : Nat) : Except Er (Fm × Nat) := match nAt l (p + 1) with
  | .error e => .error e
  | .ok (many, b) => if 1 ≤ many ∧ many ≤ 32 then (match ackGo l many none [] b with
    | .error e => .error e
    | .ok (rs, b) => match nAt l b with
      | .error e => .error e
      | .ok (dl, b) => .ok (.ack rs dl, b)) else .error (wBound, p + 1)
def roomBad (s : Nat) (fs : List Fm) : Bool := match fs.getLast? with
  | some (.room s' _ _) => decide (s ≤ s')
  | _ => false
def roomR (l : List Nat) (p : Nat) (fs : List Fm) : Except Er (Fm × Nat) := match sAt l (p + 1) with
  | .error e => .error e
  | .ok s => if roomBad s fs then .error (wOrder, p + 1) else match nAt l (p + 2) with
    | .error e => .error e
    | .ok (h, b) => match nAt l b with
      | .error e => .error e
      | .ok (x, b) => .ok (.room s h x, b)
def dataR (l : List Nat) (p : Nat) (e : Bool) : Except Er (Fm × Nat) := match sAt l (p + 1) with
  | .error e => .error e
  | .ok s => match nAt l (p + 2) with
    | .error e => .error e
    | .ok (low, at_) => match nAt l at_ with
      | .error e => .error e
      | .ok (many, b) => if (e = true ∨ 1 ≤ many) ∧ low + many ≤ 2 ^ 60 - 1 ∧ b + many ≤ l.length then .ok (.data s low ((l.drop b).take many) e, b + many) else .error (wBound, at_)
def srt (t : Nat) : Nat := if t = 1 then 0 else if t = 2 then 1 else if t = 5 then 3 else 2
def frR (l : List Nat) (p : Nat) (fs : List Fm) (bare : Bool) : Except Er (Fm × Nat) :=
  if 1 ≤ l.getD p 0 ∧ l.getD p 0 ≤ 5 then (if mayS (srt (l.getD p 0)) fs bare then
    (if l.getD p 0 = 1 then ackR l p else if l.getD p 0 = 2 then roomR l p fs else if l.getD p 0 = 5 then .ok (.ping, p + 1) else dataR l p (decide (l.getD p 0 = 4)))
    else .error (wOrder, p)) else .error (wFrame, p)
def bodyGo (l : List Nat) (bare : Bool) : Nat → List Fm → Nat → Except Er (List Fm)
  | 0, fs, _ => .ok fs
  | n + 1, fs, p => if p < l.length then (match frR l p fs bare with
    | .error e => .error e
    | .ok (f, p') => bodyGo l bare n (fs ++ [f]) p') else .ok fs
def readB (l : List Nat) : Except Er (Hd × List Fm) := match hdR l with
  | .error e => .error e
  | .ok (h, p) => match bodyGo l h.k.isNone l.length [] p with
    | .error e => .error e
    | .ok fs => .ok (h, fs)
/-- an outcome: the memory as it was; the memory with new lists -/
def resX {α : Type} (enc : α → D) (M : Mem) (q : D → Mem → Prop) (xi : XF) : Except Er α → Prop
  | .ok a => q (enc a) M
  | .error e => xi wBadD [(wWord, .str e.1), (wPlace, nD e.2)] M
def resG {α : Type} (enc : α → D) (M : Mem) (q : D → Mem → Prop) (xi : XF) (r : Except Er α) : Prop := ∀ M', Ex [] M M' → resX enc M' q xi r
def enc2 (x : Nat × Nat) : D := .tup [nD x.1, nD x.2]
theorem numG_ok : ∀ (k : Nat) (f : Bool) (acc a : Nat) (r : List Nat) {n e : Nat}, numG k f acc a r = some (n, e) → a < e ∧ e ≤ a + r.length ∧ n ≤ 2 ^ 60
  | 0, _, _, _, _, _, _, h => nomatch h
  | k + 1, _, _, _, [], _, _, h => nomatch h
  | k + 1, f, acc, a, o :: r, n, e, h => by
    unfold numG at h
    split at h
    · cases h
    · split at h
      · split at h
        · rename_i hb
          cases h
          rw [List.length_cons]
          exact ⟨by omega, by omega, hb⟩
        · cases h
      · have := numG_ok k _ _ _ r h
        rw [List.length_cons]
        omega
theorem nAt_ok {l : List Nat} {p n e : Nat} (hp : p ≤ l.length) (h : nAt l p = .ok (n, e)) : p < e ∧ e ≤ l.length ∧ n ≤ 2 ^ 60 := by
  unfold nAt at h
  split at h
  · rename_i x hx
    cases h
    have := numG_ok _ _ _ _ _ hx
    rw [List.length_drop] at this
    omega
  · cases h
def p61 : DF := fun ds M q xi => ∃ l p, ds = [oD l, nD p] ∧ Byt l ∧ l.length ≤ 5000 ∧ p ≤ l.length ∧ resX enc2 M q xi (nAt l p)
theorem k61 {C : Nat → DF} (h35 : C 35 = p35) : Keeps C t61 p61 := by
  rintro ds M q xi ⟨l, p, rfl, hb, hl, hp, hq⟩
  refine ⟨rfl, ?_⟩
  show dSs C t61.body _ [some (oD l), some (nD p), none] M _
  unfold t61
  walk_at "k7"
  rw [h35]
  refine ⟨l, p, rfl, hb, hl, hp, ?_⟩
  unfold nAt at hq
  cases hn : numD l p with
  | none =>
    rw [hn] at hq
    exact ⟨rfl, hq⟩
  | some x =>
    rw [hn] at hq
    exact hq
theorem getD_at {l : List Nat} {p : Nat} (h : p < l.length) : atI (l.map nD) (p : Int) = some (D.int (l.getD p 0 : Nat)) := by
  refine atI_nD (x := l.getD p 0) ?_
  rw [List.getD_eq_getElem?_getD, List.getElem?_eq_getElem h]
  rfl
def encH (x : Hd × Nat) : D := .tup [x.1.d, nD x.2]
def p62 : DF := fun ds M q xi => ∃ l, ds = [oD l] ∧ Byt l ∧ l.length ≤ 5000 ∧ 1 ≤ l.length ∧ resX encH M q xi (hdR l)
theorem k62 {C : Nat → DF} (h61 : C 61 = p61) : Keeps C t62 p62 := by
  rintro ds M q xi ⟨l, rfl, hb, hl, h1, hq⟩
  refine ⟨rfl, ?_⟩
  show dSs C t62.body _ [some (oD l), none, none, none, none] M _
  unfold t62
  have a0 : atI (l.map nD) 0 = some (D.int (l.getD 0 0 : Nat)) := getD_at (p := 0) (by omega)
  have e1 : decide (((l.getD 0 0 : Nat) : Int) > 3) = decide (3 < l.getD 0 0) := decide_eq_decide.mpr (by omega)
  have e2 : decide (((l.getD 0 0 : Nat) : Int) < 2) = decide (l.getD 0 0 < 2) := decide_eq_decide.mpr (by omega)
  walk_at "k7"
  unfold oD
  unfold hdR at hq
  simp only [a0, e1, e2]
  rw [h61]
  by_cases c1 : 3 < l.getD 0 0
  · rw [if_pos c1] at hq
    rw [decide_eq_true c1]
    exact ⟨rfl, hq⟩
  · rw [if_neg c1] at hq
    rw [decide_eq_false c1]
    refine ⟨l, 1, rfl, hb, hl, h1, ?_⟩
    cases n1 : nAt l 1 with
    | error e =>
      rw [n1] at hq
      exact hq
    | ok x =>
      obtain ⟨m, p1⟩ := x
      obtain ⟨b1, b2, b3⟩ := nAt_ok h1 n1
      rw [n1] at hq
      dsimp only at hq
      simp only [resX, enc2, a0, e2, dSet, setAll, List.getElem?_cons_zero, List.getElem?_cons_succ, List.set_cons_zero, List.set_cons_succ]
      refine ⟨l, p1, rfl, hb, hl, b2, ?_⟩
      cases n2 : nAt l p1 with
      | error e =>
        rw [n2] at hq
        exact hq
      | ok x =>
        obtain ⟨r, p2⟩ := x
        obtain ⟨b1', b2', b3'⟩ := nAt_ok b2 n2
        rw [n2] at hq
        dsimp only at hq
        simp only [resX, enc2, a0, e2, dSet, setAll, List.getElem?_cons_zero, List.getElem?_cons_succ, List.set_cons_zero, List.set_cons_succ]
        by_cases c2 : l.getD 0 0 < 2
        · rw [if_pos c2] at hq
          rw [decide_eq_true c2]
          exact ⟨by show 4 ≤ 100000; decide, by show 2 ≤ 100000; decide, hq⟩
        · rw [if_neg c2] at hq
          rw [decide_eq_false c2]
          refine ⟨l, p2, rfl, hb, hl, b2', ?_⟩
          cases n3 : nAt l p2 with
          | error e =>
            rw [n3] at hq
            exact hq
          | ok x =>
            obtain ⟨k, p3⟩ := x
            rw [n3] at hq
            dsimp only at hq
            simp only [resX, enc2, a0, e2, dSet, setAll, List.getElem?_cons_zero, List.getElem?_cons_succ, List.set_cons_zero, List.set_cons_succ]
            refine ⟨by show 4 ≤ 100000; decide, by show 2 ≤ 100000; decide, ?_⟩
            have ei : D.int ((l.getD 0 0 : Nat) - (2 : Int)) = nD (l.getD 0 0 - 2) := by
              unfold nD
              rw [show ((l.getD 0 0 : Nat) : Int) - 2 = ((l.getD 0 0 - 2 : Nat) : Int) by omega]
            rw [ei]
            exact hq
/-! ### stream_at, bounded, range_at -/
def p63 : DF := fun ds M q xi => ∃ l p, ds = [oD l, nD p] ∧ resX nD M q xi (sAt l p)
theorem k63 {C : Nat → DF} : Keeps C t63 p63 := by
  rintro ds M q xi ⟨l, p, rfl, hq⟩
  refine ⟨rfl, ?_⟩
  show dSs C t63.body _ [some (oD l), some (nD p)] M _
  unfold t63
  walk_at "k7"
  unfold oD nD
  dsimp only
  rw [show (fun n : Nat => D.int (n : Int)) = nD from rfl]
  rw [List.length_map]
  unfold sAt at hq
  have e0 : decide ((p : Int) ≥ (l.length : Int)) = !decide (p < l.length) := by
    by_cases h : p < l.length
    · rw [decide_eq_true h]
      exact decide_eq_false (by omega)
    · rw [decide_eq_false h]
      exact decide_eq_true (by omega)
  rw [e0]
  by_cases h : p < l.length
  · rw [decide_eq_true h]
    have a1 := getD_at h
    have e1 : decide (((l.getD p 0 : Nat) : Int) > 15) = !decide (l.getD p 0 ≤ 15) := by
      by_cases h : l.getD p 0 ≤ 15
      · rw [decide_eq_true h]
        exact decide_eq_false (by omega)
      · rw [decide_eq_false h]
        exact decide_eq_true (by omega)
    simp only [a1, e1, Bool.not_true]
    by_cases h5 : l.getD p 0 ≤ 15
    · rw [if_pos ⟨h, h5⟩] at hq
      rw [decide_eq_true h5]
      exact hq
    · rw [if_neg fun z => h5 z.2] at hq
      rw [decide_eq_false h5]
      exact ⟨rfl, hq⟩
  · rw [if_neg fun z => h z.1] at hq
    rw [decide_eq_false h]
    exact ⟨rfl, hq⟩
def p64 : DF := fun ds M q xi => ∃ n lo hi p, ds = [.int n, .int lo, .int hi, nD p] ∧ ((lo ≤ n ∧ n ≤ hi) → q (.int n) M) ∧ (¬ (lo ≤ n ∧ n ≤ hi) → xi wBadD [(wWord, .str wBound), (wPlace, nD p)] M)
theorem k64 {C : Nat → DF} : Keeps C t64 p64 := by
  rintro ds M q xi ⟨n, lo, hi, p, rfl, hq, hx⟩
  refine ⟨rfl, ?_⟩
  show dSs C t64.body _ [some (.int n), some (.int lo), some (.int hi), some (nD p)] M _
  unfold t64
  walk_at "k7"
  by_cases h1 : lo ≤ n
  · rw [decide_eq_true h1]
    dsimp only
    by_cases h2 : n ≤ hi
    · rw [decide_eq_true h2]
      exact hq ⟨h1, h2⟩
    · rw [decide_eq_false h2]
      exact ⟨rfl, hx fun z => h2 z.2⟩
  · rw [decide_eq_false h1]
    exact ⟨rfl, hx fun z => h1 z.1⟩
def encR (x : (Nat × Nat) × Nat) : D := .tup [prD x.1, nD x.2]
def p65 : DF := fun ds M q xi => ∃ l p ah, ds = [oD l, nD p, optN ah] ∧ Byt l ∧ l.length ≤ 5000 ∧ p ≤ l.length ∧ resX encR M q xi (rgAt l p ah)
theorem k65 {C : Nat → DF} (h61 : C 61 = p61) (h64 : C 64 = p64) : Keeps C t65 p65 := by
  rintro ds M q xi ⟨l, p, ah, rfl, hb, hl, hp, hq⟩
  refine ⟨rfl, ?_⟩
  show dSs C t65.body _ [some (oD l), some (nD p), some (optN ah), none, none, none, none, none] M _
  unfold t65
  unfold rgAt at hq
  walk_at "k7"
  rw [h61, h64]
  refine ⟨l, p, rfl, hb, hl, hp, ?_⟩
  cases n1 : nAt l p with
  | error e =>
    rw [n1] at hq
    exact hq
  | ok x =>
    obtain ⟨told, b⟩ := x
    obtain ⟨b1, b2, b3⟩ := nAt_ok hp n1
    rw [n1] at hq
    dsimp only at hq
    simp only [resX, enc2, setAll, List.getElem?_cons_zero, List.getElem?_cons_succ, List.set_cons_zero, List.set_cons_succ]
    have fin : ∀ t : Int, (∀ top, topN ah told = some top → t = (top : Int)) → (topN ah told = none → ¬ (0 ≤ t ∧ t ≤ 1152921504606846975)) → (∀ top, topN ah told = some top → top < 2 ^ 60) →
        p64 [.int t, .int 0, .int 1152921504606846975, nD p] M (fun _ M1 => p61 [oD l, nD b] M1 (fun d M2 => match dSet (.tp [6, 7]) d [some (oD l), some (nD p), some (optN ah), some (.int t), some (nD told), some (nD b), none, none] with
          | some dl' => (match dl'[6]? with
            | some (some d) => p64 [d, .int 0, .int t, nD b] M2 (fun _ M3 => dTup (dCons (dTup (dCons (dOp (fI0 fun i j => .int (i - j)) (dVar 3) (dVar 6)) (dCons (dOp fAdd (dVar 3) (dC (.int 1))) dNil))) (dCons (dVar 7) dNil)) dl' M3 q (fun c fs _ M' => xi c fs M')) (fun c fs M2 => xi c fs M2)
            | _ => False)
          | none => False) (fun c fs M2 => xi c fs M2)) (fun c fs M2 => xi c fs M2) := by
      intro t ht1 ht2 ht3
      cases htop : topN ah told with
      | none =>
        rw [htop] at hq
        refine ⟨t, 0, _, p, rfl, fun z => absurd z (ht2 htop), fun _ => hq⟩
      | some top =>
        rw [htop] at hq
        dsimp only at hq
        have et := ht1 top htop
        have lt := ht3 top htop
        subst et
        refine ⟨_, 0, _, p, rfl, fun _ => ?_, fun z => absurd ⟨by omega, by omega⟩ z⟩
        refine ⟨l, b, rfl, hb, hl, b2, ?_⟩
        cases n2 : nAt l b with
        | error e =>
          rw [n2] at hq
          exact hq
        | ok x =>
          obtain ⟨more, e⟩ := x
          rw [n2] at hq
          dsimp only at hq
          simp only [resX, enc2, dSet, setAll, List.getElem?_cons_zero, List.getElem?_cons_succ, List.set_cons_zero, List.set_cons_succ]
          by_cases hm : more ≤ top
          · rw [if_pos hm] at hq
            refine ⟨_, 0, _, b, rfl, fun _ => ?_, fun z => absurd ⟨by omega, by omega⟩ z⟩
            walk_at "k7"
            refine ⟨by show 2 ≤ 100000; decide, by show 2 ≤ 100000; decide, ?_⟩
            have e1 : (top : Int) - (more : Int) = ((top - more : Nat) : Int) := by omega
            simp only [nD]
            rw [e1]
            exact hq
          · rw [if_neg hm] at hq
            exact ⟨_, 0, _, b, rfl, fun z => absurd z.2 (by omega), fun _ => hq⟩
    cases ah with
    | none =>
      refine fin told (fun top h => ?_) (fun h => ?_) (fun top h => ?_)
      · unfold topN at h
        dsimp only at h
        split at h
        · cases h; rfl
        · cases h
      · unfold topN at h
        dsimp only at h
        split at h
        · cases h
        · omega
      · unfold topN at h
        dsimp only at h
        split at h
        · cases h; assumption
        · cases h
    | some a =>
      refine fin ((a : Int) - 2 - (told : Int)) (fun top h => ?_) (fun h => ?_) (fun top h => ?_)
      · unfold topN at h
        dsimp only at h
        split at h
        · cases h
          omega
        · cases h
      · unfold topN at h
        dsimp only at h
        split at h
        · cases h
        · omega
      · unfold topN at h
        dsimp only at h
        split at h
        · rename_i z
          cases h
          exact z.2
        · cases h
end K7
/-! K7: reading, part 2. -/
namespace K7
open PySem PySem.Spec L2
open PyProof.Rows hiding St

local macro_rules | `(tactic| walk_at "k7") => `(tactic| simp only [dSs, dS, dEs, dE, dI, dSeq, dAsg, dPar, dDrop, dRet, dIfS, dNext, dBrk, dNev, dVar, dC, dNil, dCons, dOp, dCB, dCall, dTup, dTest, dAnd, dOr, dNot, dIf, dChn, dNeg, fB, fAdd, fI, fI0, fEq, fNe, fIsN, fNotN, isNon, fIx, fLen, fMin, fMax, fInt, fTup, fLst,
  dIsi, dSet, setAll, dFor, diSeq, diR1, diR2, diR3, diEn, dLst, dApp, dExt, dRev, dEmp, empB, dSl, dPart, dNoP, dRse, dRank, fDg, dgt, isL, up_same, List.getElem?_cons_zero, List.getElem?_cons_succ, List.set_cons_zero, List.set_cons_succ, Bool.not_true, Bool.not_false, Tg.slots])
def encF (x : Fm × Nat) : D := .tup [x.1.d, nD x.2]
theorem rgAt_ok {l : List Nat} {p : Nat} {ah : Option Nat} {pr : Nat × Nat} {e : Nat} (hp : p ≤ l.length) (h : rgAt l p ah = .ok (pr, e)) : p < e ∧ e ≤ l.length := by
  unfold rgAt at h
  split at h
  · cases h
  · rename_i told b hb
    have := nAt_ok hp hb
    split at h
    · cases h
    · split at h
      · cases h
      · rename_i more e' he
        have h2 := nAt_ok this.2.1 he
        split at h
        · cases h
          omega
        · cases h
theorem ackGo_ok {l : List Nat} : ∀ (n : Nat) {ah : Option Nat} {acc rs : List (Nat × Nat)} {p e : Nat}, p ≤ l.length → ackGo l n ah acc p = .ok (rs, e) → p ≤ e ∧ e ≤ l.length
  | 0, _, _, _, _, _, hp, h => by
    cases h
    exact ⟨Nat.le_refl _, hp⟩
  | n + 1, _, _, _, _, _, hp, h => by
    unfold ackGo at h
    split at h
    · cases h
    · rename_i pr b hb
      have h1 := rgAt_ok hp hb
      have h2 := ackGo_ok n h1.2 h
      omega
def p66 : DF := fun ds M q xi => ∃ l p, ds = [oD l, nD p] ∧ Byt l ∧ l.length ≤ 5000 ∧ p < l.length ∧ resG encF M q xi (ackR l p)
theorem k66 {C : Nat → DF} (h61 : C 61 = p61) (h64 : C 64 = p64) (h65 : C 65 = p65) : Keeps C t66 p66 := by
  rintro ds M q xi ⟨l, p, rfl, hb, hl, hp, hq⟩
  refine ⟨rfl, ?_⟩
  show dSs C t66.body _ [some (oD l), some (nD p), none, none, none, none, none, none, none] M _
  unfold t66
  unfold ackR at hq
  walk_at "k7"
  rw [h61]
  refine ⟨l, p + 1, rfl, hb, hl, hp, ?_⟩
  cases n1 : nAt l (p + 1) with
  | error e =>
    rw [n1] at hq
    exact hq _ Ex.refl
  | ok x =>
    obtain ⟨many, b⟩ := x
    obtain ⟨b1, b2, b3⟩ := nAt_ok hp n1
    rw [n1] at hq
    dsimp only at hq
    simp only [resX, enc2, setAll, List.getElem?_cons_zero, List.getElem?_cons_succ, List.set_cons_zero, List.set_cons_succ]
    simp only [nD]
    rw [h64]
    by_cases hm : 1 ≤ many ∧ many ≤ 32
    · rw [if_pos hm] at hq
      refine ⟨_, 1, 32, p + 1, rfl, fun _ => ?_, fun z => absurd ⟨by omega, by omega⟩ z⟩
      refine ⟨by show 0 ≤ 100000; decide, fun f hf => ?_⟩
      rw [Int.toNat_natCast]
      refine ⟨by omega, by omega, ?_⟩
      refine for_inv (fun its ld M' => ∃ (n j : Nat) (ah : Option Nat) (acc : List (Nat × Nat)) (at_ : Nat) (c1 c2 : Option D), its = rgI (j : Int) 1 n ∧ at_ ≤ l.length ∧ ackGo l n ah acc at_ = ackGo l many none [] b ∧ acc.length + n ≤ 32 ∧ Ex [] M M' ∧ M' f = some (.lst (acc.reverse.map prD)) ∧
        ld = [some (oD l), some (nD p), c1, some (nD many), some (nD at_), some (.ob f), some (optN ah), none, c2]) ?_ ?_ _ _ _ ⟨many, 0, none, [], b, none, none, rfl, b2, rfl, by rw [List.length_nil]; omega, Ex.refl.new hf, up_same, rfl⟩
      · rintro d r ld M' nx ⟨n, j, ah, acc, at_, c1, c2, ei, ha, he, hn, ex, hM, rfl⟩ hnx
        cases n with
        | zero => cases ei
        | succ n =>
          rw [rgI_succ] at ei
          cases ei
          refine ⟨trivial, _, rfl, ?_⟩
          walk_at "k7"
          rw [h65]
          refine ⟨l, at_, ah, rfl, hb, hl, ha, ?_⟩
          have he' : (match rgAt l at_ ah with
            | .error e => .error e
            | .ok (pr, b) => ackGo l n (some pr.1) (pr :: acc) b) = ackGo l many none [] b := he
          cases nr : rgAt l at_ ah with
          | error e =>
            rw [nr] at he'
            rw [← he'] at hq
            exact hq _ ex
          | ok x =>
            obtain ⟨pr, b'⟩ := x
            rw [nr] at he'
            dsimp only at he'
            simp only [resX, encR, setAll, List.getElem?_cons_zero, List.getElem?_cons_succ, List.set_cons_zero, List.set_cons_succ, hM, prD, at0]
            refine ⟨trivial, by rw [List.length_map, List.length_reverse]; omega, ?_⟩
            refine hnx _ _ ⟨n, j + 1, some pr.1, pr :: acc, b', _, _, rfl, (rgAt_ok ha nr).2, he', by rw [List.length_cons]; omega, ex.own (.inl hf), ?_, rfl⟩
            rw [up_same, List.reverse_cons, List.map_append]
            rfl
      · rintro ld M' ⟨n, j, ah, acc, at_, c1, c2, ei, ha, he, hn, ex, hM, rfl⟩
        have en : n = 0 := by
          cases n with
          | zero => rfl
          | succ n => rw [rgI_succ] at ei; cases ei
        subst en
        have he' : ackGo l many none [] b = .ok (acc, at_) := he.symm
        rw [he'] at hq
        dsimp only at hq
        refine ⟨trivial, ?_⟩
        walk_at "k7"
        refine ⟨l, at_, rfl, hb, hl, ha, ?_⟩
        cases n2 : nAt l at_ with
        | error e =>
          rw [n2] at hq
          exact hq _ ex
        | ok x =>
          obtain ⟨dl, e⟩ := x
          rw [n2] at hq
          dsimp only at hq
          simp only [resX, enc2, setAll, List.getElem?_cons_zero, List.getElem?_cons_succ, List.set_cons_zero, List.set_cons_succ, hM]
          intro g hg
          refine ⟨by show 3 ≤ 100000; decide, by show 2 ≤ 100000; decide, ?_⟩
          have hq' := hq _ (ex.new (o := .lst (acc.reverse.map prD).reverse) hg)
          rw [← List.map_reverse, List.reverse_reverse]
          rw [← List.map_reverse, List.reverse_reverse] at hq'
          exact hq'
    · rw [if_neg hm] at hq
      exact ⟨_, 1, 32, p + 1, rfl, fun z => absurd z (by omega), fun _ => hq _ Ex.refl⟩
/-! ### room_at -/
def p67 : DF := fun ds M q xi => ∃ l p a fs, ds = [oD l, nD p, .ob a] ∧ Byt l ∧ l.length ≤ 5000 ∧ p < l.length ∧ M a = some (.lst (fs.map Fm.d)) ∧ resX encF M q xi (roomR l p fs)
theorem sAt_ok {l : List Nat} {p s : Nat} (h : sAt l p = .ok s) : p < l.length ∧ s ≤ 15 := by
  unfold sAt at h
  split at h
  · rename_i z
    cases h
    exact z
  · cases h
theorem nDs (p k : Nat) : D.int ((p : Int) + (k : Int)) = nD (p + k) := rfl
theorem k67 {C : Nat → DF} (h61 : C 61 = p61) (h63 : C 63 = p63) : Keeps C t67 p67 := by
  rintro ds M q xi ⟨l, p, a, fs, rfl, hb, hl, hp, hm, hq⟩
  refine ⟨rfl, ?_⟩
  show dSs C t67.body _ [some (oD l), some (nD p), some (.ob a), none, none, none, none] M _
  unfold t67
  unfold roomR at hq
  walk_at "k7"
  rw [h61, h63]
  refine ⟨l, p + 1, rfl, ?_⟩
  cases n0 : sAt l (p + 1) with
  | error e =>
    rw [n0] at hq
    exact hq
  | ok s =>
    obtain ⟨s1, s2⟩ := sAt_ok n0
    rw [n0] at hq
    dsimp only at hq
    have cont : roomBad s fs = false → p61 [oD l, nD (p + 2)] M (fun d M1 => match dSet (.tp [4, 5]) d [some (oD l), some (nD p), some (.ob a), some (nD s), none, none, none] with
        | some dl' => (match dl'[5]? with
          | some (some d) => p61 [oD l, d] M1 (fun d M2 => match dSet (.tp [6, 5]) d dl' with
            | some dl'' => dTup (dCons (dTup (dCons (dC (.str wRoom)) (dCons (dVar 3) (dCons (dVar 4) (dCons (dVar 6) dNil))))) (dCons (dVar 5) dNil)) dl'' M2 q (fun c fs _ M' => xi c fs M')
            | none => False) (fun c fs M2 => xi c fs M2)
          | _ => False)
        | none => False) (fun c fs M2 => xi c fs M2) := by
      intro hr
      rw [hr, if_neg Bool.false_ne_true] at hq
      refine ⟨l, p + 2, rfl, hb, hl, by omega, ?_⟩
      cases n1 : nAt l (p + 2) with
      | error e =>
        rw [n1] at hq
        exact hq
      | ok x =>
        obtain ⟨h, b⟩ := x
        obtain ⟨b1, b2, b3⟩ := nAt_ok (by omega) n1
        rw [n1] at hq
        dsimp only at hq
        simp only [resX, enc2, dSet, setAll, List.getElem?_cons_zero, List.getElem?_cons_succ, List.set_cons_zero, List.set_cons_succ]
        refine ⟨l, b, rfl, hb, hl, b2, ?_⟩
        cases n2 : nAt l b with
        | error e =>
          rw [n2] at hq
          exact hq
        | ok x =>
          obtain ⟨x, b'⟩ := x
          rw [n2] at hq
          dsimp only at hq
          simp only [resX, enc2, dSet, setAll, List.getElem?_cons_zero, List.getElem?_cons_succ, List.set_cons_zero, List.set_cons_succ]
          walk_at "k7"
          exact ⟨by show 4 ≤ 100000; decide, by show 2 ≤ 100000; decide, hq⟩
    rcases nil_or_last fs with rfl | ⟨r, g, rfl⟩
    · simp only [resX, hm, List.map_nil, List.isEmpty_nil, Bool.false_eq_true, if_false, Bool.bne_true, Bool.not_true]
      exact cont rfl
    · have eg : (r ++ [g]).getLast? = some g := by simp
      have em : ((r ++ [g]).map Fm.d) = r.map Fm.d ++ [g.d] := by simp
      have ee : ∀ y : D, (r.map Fm.d ++ [y]).isEmpty = false := fun y => by cases r <;> rfl
      obtain ⟨gr, ed⟩ := g.d_cons
      rw [em] at hm
      simp only [resX, hm, ee, dNeg, Bool.false_eq_true, if_false, Bool.bne_true, Bool.not_false, show (-(1 : Int)) = -1 from rfl, atI_last, ed, at0]
      cases g with
      | room s' h' l' =>
        cases ed
        rw [show decide (wOf (Fm.room s' h' l').k = Str.ofString "room") = true from wk_room]
        dsimp only
        simp only [hm, Fm.d, atI_last, at1, nD]
        have e1 : decide ((s' : Int) ≥ (s : Int)) = decide (s ≤ s') := decide_eq_decide.mpr (by omega)
        rw [e1]
        have hrb : roomBad s (r ++ [.room s' h' l']) = decide (s ≤ s') := by
          unfold roomBad
          rw [eg]
        cases hs : decide (s ≤ s') with
        | true =>
          rw [hrb, hs, if_pos rfl] at hq
          exact ⟨rfl, hq⟩
        | false =>
          exact cont (hrb.trans hs)
      | ack rs dl =>
        rw [show decide (wOf (Fm.ack rs dl).k = Str.ofString "room") = false from by
          have := nr0
          rw [Bool.not_eq_true'] at this
          exact this]
        exact cont (by unfold roomBad; rw [eg])
      | data s low o e =>
        rw [show decide (wOf (Fm.data s low o e).k = Str.ofString "room") = false from wk_data_r]
        exact cont (by unfold roomBad; rw [eg])
      | ping =>
        rw [show decide (wOf Fm.ping.k = Str.ofString "room") = false from wk_ping_r]
        exact cont (by unfold roomBad; rw [eg])
/-! ### data_at -/
theorem cutD_nat {ds : List D} {a b : Nat} (h : a ≤ b) (hb : b ≤ ds.length) : cutD ds (some (a : Int)) (some (b : Int)) = (ds.drop a).take (b - a) := by
  unfold cutD
  rw [HT.sIx_nat, HT.sIx_nat, Nat.min_eq_left hb, Nat.min_eq_left (Nat.le_trans h hb)]
def p68 : DF := fun ds M q xi => ∃ l p, ds = [oD l, nD p] ∧ Byt l ∧ l.length ≤ 5000 ∧ p < l.length ∧ resX encF M q xi (dataR l p (decide (l.getD p 0 = 4)))
theorem k68 {C : Nat → DF} (h61 : C 61 = p61) (h63 : C 63 = p63) (h64 : C 64 = p64) : Keeps C t68 p68 := by
  rintro ds M q xi ⟨l, p, rfl, hb, hl, hp, hq⟩
  refine ⟨rfl, ?_⟩
  show dSs C t68.body _ [some (oD l), some (nD p), none, none, none, none, none, none] M _
  unfold t68
  generalize ee : decide (l.getD p 0 = 4) = e at hq
  have a1 := getD_at hp
  have e1 : decide (((l.getD p 0 : Nat) : Int) = 4) = e := by
    rw [← ee]
    exact decide_eq_decide.mpr (by omega)
  unfold dataR at hq
  walk_at "k7"
  unfold oD nD
  dsimp only
  rw [show (fun n : Nat => D.int (n : Int)) = nD from rfl]
  simp only [a1, e1]
  rw [h61, h63, h64]
  refine ⟨l, p + 1, rfl, ?_⟩
  cases n0 : sAt l (p + 1) with
  | error e =>
    rw [n0] at hq
    exact hq
  | ok s =>
    obtain ⟨s1, s2⟩ := sAt_ok n0
    rw [n0] at hq
    dsimp only at hq
    refine ⟨l, p + 2, rfl, hb, hl, by omega, ?_⟩
    cases n1 : nAt l (p + 2) with
    | error e =>
      rw [n1] at hq
      exact hq
    | ok x =>
      obtain ⟨low, at_⟩ := x
      obtain ⟨b1, b2, b3⟩ := nAt_ok (by omega) n1
      rw [n1] at hq
      dsimp only at hq
      simp only [resX, enc2, setAll, List.getElem?_cons_zero, List.getElem?_cons_succ, List.set_cons_zero, List.set_cons_succ]
      refine ⟨l, at_, rfl, hb, hl, b2, ?_⟩
      cases n2 : nAt l at_ with
      | error e =>
        rw [n2] at hq
        exact hq
      | ok x =>
        obtain ⟨many, b⟩ := x
        obtain ⟨c1, c2, c3⟩ := nAt_ok b2 n2
        rw [n2] at hq
        dsimp only at hq
        simp only [resX, enc2, setAll, List.getElem?_cons_zero, List.getElem?_cons_succ, List.set_cons_zero, List.set_cons_succ]
        rw [List.length_map]
        have fin : ∀ lo : Int, (lo = if e = true then 0 else 1) → p64 [.int (many : Int), .int lo, .int (if ((l.length : Nat) : Int) - (b : Int) < 1152921504606846975 - (low : Int) then ((l.length : Nat) : Int) - (b : Int) else 1152921504606846975 - (low : Int)), nD at_] M
            (fun _ M1 => 3 ≤ 100000 ∧ 3 ≤ 100000 ∧ 2 ≤ 100000 ∧ q (.tup [.tup [.str wData, nD s, .tup [nD low, .tup (cutD (l.map nD) (some (b : Int)) (some ((b : Int) + (many : Int)))), .bl e]], .int ((b : Int) + (many : Int))]) M1) (fun c fs M2 => xi c fs M2) := by
          intro lo elo
          refine ⟨_, lo, _, at_, rfl, fun z => ?_, fun z => ?_⟩
          · have hc : (e = true ∨ 1 ≤ many) ∧ low + many ≤ 2 ^ 60 - 1 ∧ b + many ≤ l.length := by
              obtain ⟨z1, z2⟩ := z
              refine ⟨?_, ?_, ?_⟩
              · cases e with
                | true => exact .inl rfl
                | false => right; rw [elo] at z1; simp at z1; omega
              · split at z2 <;> omega
              · split at z2 <;> omega
            rw [if_pos hc] at hq
            refine ⟨by decide, by decide, by decide, ?_⟩
            rw [show (b : Int) + (many : Int) = ((b + many : Nat) : Int) from rfl, cutD_nat (by omega) (by rw [List.length_map]; omega), Nat.add_sub_cancel_left, ← List.map_drop, ← List.map_take]
            exact hq
          · have hc : ¬ ((e = true ∨ 1 ≤ many) ∧ low + many ≤ 2 ^ 60 - 1 ∧ b + many ≤ l.length) := by
              rintro ⟨d1, d2, d3⟩
              refine z ⟨?_, ?_⟩
              · rw [elo]
                rcases d1 with d1 | d1
                · rw [if_pos d1]; omega
                · split <;> omega
              · split <;> omega
            rw [if_neg hc] at hq
            exact hq
        cases e with
        | true => exact fin 0 rfl
        | false => exact fin 1 rfl
end K7
/-! K7: reading, part 3: frame_at, body_read, need_form, read_datagram. -/
namespace K7
open PySem PySem.Spec L2
open PyProof.Rows hiding St

local macro_rules | `(tactic| walk_at "k7") => `(tactic| simp only [dSs, dS, dEs, dE, dI, dSeq, dAsg, dPar, dDrop, dRet, dIfS, dNext, dBrk, dNev, dVar, dC, dNil, dCons, dOp, dCB, dCall, dTup, dTest, dAnd, dOr, dNot, dIf, dChn, dNeg, fB, fAdd, fI, fI0, fEq, fNe, fIsN, fNotN, isNon, fIx, fLen, fMin, fMax, fInt, fTup, fLst,
  dIsi, dSet, setAll, dFor, diSeq, diR1, diR2, diR3, diEn, dLst, dApp, dExt, dRev, dEmp, empB, dSl, dPart, dNoP, dRse, dRank, fDg, dgt, isL, up_same, List.getElem?_cons_zero, List.getElem?_cons_succ, List.set_cons_zero, List.set_cons_succ, Bool.not_true, Bool.not_false, Tg.slots])
theorem resX_mono {α : Type} {enc : α → D} {M : Mem} {q : D → Mem → Prop} {xi : XF} {r : Except Er α} (h : resG enc M q xi r) : resX enc M q xi r := h M Ex.refl
def p69 : DF := fun ds M q xi => ∃ l p a fs bare, ds = [oD l, nD p, .ob a, .bl bare] ∧ Byt l ∧ l.length ≤ 5000 ∧ p < l.length ∧ M a = some (.lst (fs.map Fm.d)) ∧ resG encF M q xi (frR l p fs bare)
def sorts : List D := [.str "none", .str "ack", .str "room", .str "data", .str "data", .str "ping"]
theorem k69 {C : Nat → DF} (h53 : C 53 = p53) (h66 : C 66 = p66) (h67 : C 67 = p67) (h68 : C 68 = p68) : Keeps C t69 p69 := by
  rintro ds M q xi ⟨l, p, a, fs, bare, rfl, hb, hl, hp, hm, hq⟩
  refine ⟨rfl, ?_⟩
  show dSs C t69.body _ [some (oD l), some (nD p), some (.ob a), some (.bl bare), none] M _
  unfold t69
  have a1 : atI (l.map nD) (p : Int) = some (D.int (l.getD p 0 : Nat)) := getD_at hp
  unfold frR at hq
  have hdata : ∀ e : Bool, decide (l.getD p 0 = 4) = e → resG encF M q xi (dataR l p (decide (l.getD p 0 = 4))) → p68 [oD l, nD p] M q fun c fs M2 => xi c fs M2 := fun e _ h => ⟨l, p, rfl, hb, hl, hp, resX_mono h⟩
  walk_at "k7"
  unfold oD nD
  dsimp only
  rw [show (fun n : Nat => D.int (n : Int)) = nD from rfl]
  simp only [a1]
  rw [h53, h66, h67, h68]
  generalize l.getD p 0 = t at hq hdata a1
  by_cases h1 : 1 ≤ t
  · rw [decide_eq_true (show (1 : Int) ≤ (t : Int) by omega)]
    dsimp only
    by_cases h5 : t ≤ 5
    · rw [decide_eq_true (show (t : Int) ≤ 5 by omega)]
      rw [if_pos ⟨h1, h5⟩] at hq
      have hx : ∀ s : Nat, (atI [D.str (Str.ofString "none"), D.str (Str.ofString "ack"), D.str (Str.ofString "room"), D.str (Str.ofString "data"), D.str (Str.ofString "data"), D.str (Str.ofString "ping")] (t : Int) = some (.str (wOf s))) → s ≤ 3 → s = srt t → True := fun _ _ _ _ => trivial
      have ht : t = 1 ∨ t = 2 ∨ t = 3 ∨ t = 4 ∨ t = 5 := by omega
      rcases ht with rfl | rfl | rfl | rfl | rfl
      · refine ⟨0, a, bare, fs, rfl, by decide, hm, ?_⟩
        cases hs : mayS (srt 1) fs bare with
        | false =>
          rw [hs] at hq
          have hs' : mayS 0 fs bare = false := hs
          rw [hs']
          exact ⟨rfl, hq _ Ex.refl⟩
        | true =>
          rw [hs, if_pos rfl, if_pos rfl] at hq
          have hs' : mayS 0 fs bare = true := hs
          rw [hs']
          exact ⟨l, p, rfl, hb, hl, hp, hq⟩
      · refine ⟨1, a, bare, fs, rfl, by decide, hm, ?_⟩
        cases hs : mayS (srt 2) fs bare with
        | false =>
          rw [hs] at hq
          have hs' : mayS 1 fs bare = false := hs
          rw [hs']
          exact ⟨rfl, hq _ Ex.refl⟩
        | true =>
          rw [hs, if_pos rfl, if_neg (by decide), if_pos rfl] at hq
          have hs' : mayS 1 fs bare = true := hs
          rw [hs']
          exact ⟨l, p, a, fs, rfl, hb, hl, hp, hm, resX_mono hq⟩
      · refine ⟨2, a, bare, fs, rfl, by decide, hm, ?_⟩
        cases hs : mayS (srt 3) fs bare with
        | false =>
          rw [hs] at hq
          have hs' : mayS 2 fs bare = false := hs
          rw [hs']
          exact ⟨rfl, hq _ Ex.refl⟩
        | true =>
          rw [hs, if_pos rfl, if_neg (by decide), if_neg (by decide), if_neg (by decide)] at hq
          have hs' : mayS 2 fs bare = true := hs
          rw [hs']
          exact hdata _ rfl hq
      · refine ⟨2, a, bare, fs, rfl, by decide, hm, ?_⟩
        cases hs : mayS (srt 4) fs bare with
        | false =>
          rw [hs] at hq
          have hs' : mayS 2 fs bare = false := hs
          rw [hs']
          exact ⟨rfl, hq _ Ex.refl⟩
        | true =>
          rw [hs, if_pos rfl, if_neg (by decide), if_neg (by decide), if_neg (by decide)] at hq
          have hs' : mayS 2 fs bare = true := hs
          rw [hs']
          exact hdata _ rfl hq
      · refine ⟨3, a, bare, fs, rfl, by decide, hm, ?_⟩
        cases hs : mayS (srt 5) fs bare with
        | false =>
          rw [hs] at hq
          have hs' : mayS 3 fs bare = false := hs
          rw [hs']
          exact ⟨rfl, hq _ Ex.refl⟩
        | true =>
          rw [hs, if_pos rfl, if_neg (by decide), if_neg (by decide), if_pos rfl] at hq
          have hs' : mayS 3 fs bare = true := hs
          rw [hs']
          exact ⟨by show 1 ≤ 100000; decide, by show 2 ≤ 100000; decide, hq _ Ex.refl⟩
    · rw [decide_eq_false (show ¬ (t : Int) ≤ 5 by omega)]
      rw [if_neg fun z => h5 z.2] at hq
      exact ⟨rfl, hq _ Ex.refl⟩
  · rw [decide_eq_false (show ¬ (1 : Int) ≤ (t : Int) by omega)]
    rw [if_neg fun z => h1 z.1] at hq
    exact ⟨rfl, hq _ Ex.refl⟩
/-! ### body_read -/
theorem frR_ok {l : List Nat} {p : Nat} {fs : List Fm} {bare : Bool} {f : Fm} {e : Nat} (hp : p < l.length) (h : frR l p fs bare = .ok (f, e)) : p < e ∧ e ≤ l.length := by
  unfold frR at h
  split at h
  · split at h
    · split at h
      · unfold ackR at h
        split at h
        · cases h
        · rename_i many b hb
          have := nAt_ok (by omega) hb
          split at h
          · split at h
            · cases h
            · rename_i rs b2 hb2
              have h2 := ackGo_ok _ (by omega) hb2
              split at h
              · cases h
              · rename_i dl b3 hb3
                have h3 := nAt_ok (by omega) hb3
                cases h
                omega
          · cases h
      · split at h
        · unfold roomR at h
          split at h
          · cases h
          · rename_i s hs
            have := sAt_ok hs
            split at h
            · cases h
            · split at h
              · cases h
              · rename_i x b hb
                have h2 := nAt_ok (by omega) hb
                split at h
                · cases h
                · rename_i y b3 hb3
                  have h3 := nAt_ok (by omega) hb3
                  cases h
                  omega
        · split at h
          · cases h
            omega
          · unfold dataR at h
            split at h
            · cases h
            · rename_i s hs
              have := sAt_ok hs
              split at h
              · cases h
              · rename_i x b hb
                have h2 := nAt_ok (by omega) hb
                split at h
                · cases h
                · rename_i y b3 hb3
                  have h3 := nAt_ok (by omega) hb3
                  split at h
                  · rename_i z
                    cases h
                    omega
                  · cases h
    · cases h
  · cases h
theorem hdR_ok {l : List Nat} {h : Hd} {p : Nat} (h1 : 1 ≤ l.length) (e : hdR l = .ok (h, p)) : 1 ≤ p ∧ p ≤ l.length := by
  unfold hdR at e
  split at e
  · cases e
  · split at e
    · cases e
    · rename_i m b hb
      have := nAt_ok h1 hb
      split at e
      · cases e
      · rename_i r b2 hb2
        have h2 := nAt_ok this.2.1 hb2
        split at e
        · cases e
          omega
        · split at e
          · cases e
          · rename_i r b3 hb3
            have h3 := nAt_ok h2.2.1 hb3
            cases e
            omega
def encB (x : Hd × List Fm) : D := dgD x.1 x.2
theorem isNone_of (k : Option Nat) : isNon (optN k) = k.isNone := by cases k <;> rfl
def p70 : DF := fun ds M q xi => ∃ l, ds = [oD l] ∧ Byt l ∧ l.length ≤ 5000 ∧ 1 ≤ l.length ∧ resG encB M q xi (readB l)
theorem k70 {C : Nat → DF} (h62 : C 62 = p62) (h69 : C 69 = p69) : Keeps C t70 p70 := by
  rintro ds M q xi ⟨l, rfl, hb, hl, h1, hq⟩
  refine ⟨rfl, ?_⟩
  show dSs C t70.body _ [some (oD l), none, none, none, none] M _
  unfold t70
  unfold readB at hq
  walk_at "k7"
  rw [h62, h69]
  refine ⟨l, rfl, hb, hl, h1, ?_⟩
  cases hh : hdR l with
  | error e =>
    rw [hh] at hq
    exact hq _ Ex.refl
  | ok x =>
    obtain ⟨h, p0⟩ := x
    rw [hh] at hq
    dsimp only at hq
    obtain ⟨q1, q2⟩ := hdR_ok h1 hh
    simp only [resX, encH, setAll, List.getElem?_cons_zero, List.getElem?_cons_succ, List.set_cons_zero, List.set_cons_succ]
    refine ⟨by show 0 ≤ 100000; decide, fun f hf => ?_⟩
    refine wh_inv (fun k dl M1 => ∃ (fs : List Fm) (p n : Nat) (c : Option D), k = l.length - p ∧ p ≤ l.length ∧ l.length ≤ p + n ∧ fs.length ≤ p ∧ bodyGo l h.k.isNone n fs p = bodyGo l h.k.isNone l.length [] p0 ∧ Ex [] M M1 ∧ M1 f = some (.lst (fs.map Fm.d)) ∧ dl = [some (oD l), some (.ob f), some h.d, some (nD p), c]) (l.length - p0) ⟨[], p0, l.length, none, rfl, q2, by omega, Nat.zero_le _, rfl, Ex.refl.new hf, up_same, rfl⟩ ?_
    rintro k dl M1 nx ⟨fs, p, n, c, hk, hpl, hn, hfl, he, ex, hM, rfl⟩ hnx
    walk_at "k7"
    simp only [oD, nD]
    rw [List.length_map]
    by_cases hp : p < l.length
    · rw [decide_eq_true (show (p : Int) < (l.length : Int) by omega)]
      obtain ⟨n', rfl⟩ : ∃ n', n = n' + 1 := ⟨n - 1, by omega⟩
      have he' : (match frR l p fs h.k.isNone with
        | .error e => .error e
        | .ok (f, p') => bodyGo l h.k.isNone n' (fs ++ [f]) p') = bodyGo l h.k.isNone l.length [] p0 := by
        rw [← he]
        exact (if_pos hp).symm
      dsimp only
      unfold Hd.d
      dsimp only
      rw [show atI [nD h.s, nD h.m, nD h.p, optN h.k] 3 = some (optN h.k) from rfl]
      dsimp only
      refine ⟨l, p, f, fs, h.k.isNone, ?_, hb, hl, hp, hM, fun M2 ex2 => ?_⟩
      · have := isNone_of h.k
        unfold isNon at this
        rw [this]
        rfl
      cases hr : frR l p fs h.k.isNone with
      | error e =>
        rw [hr] at he'
        rw [← he'] at hq
        exact hq _ (ex.trans ex2)
      | ok x =>
        obtain ⟨g, p'⟩ := x
        rw [hr] at he'
        dsimp only at he'
        obtain ⟨r1, r2⟩ := frR_ok hp hr
        have hM2 := ex2 _ _ (by simp) hM
        simp only [resX, encF, setAll, List.getElem?_cons_zero, List.getElem?_cons_succ, List.set_cons_zero, List.set_cons_succ, hM2]
        refine ⟨trivial, by rw [List.length_map]; omega, ?_⟩
        refine hnx (l.length - p') _ _ (by omega) ⟨fs ++ [g], p', n', _, rfl, r2, by omega, by rw [List.length_append]; show _ + 1 ≤ _; omega, he', (ex.trans ex2).own (.inl hf), by rw [up_same, List.map_append]; rfl, rfl⟩
    · rw [decide_eq_false (show ¬ (p : Int) < (l.length : Int) by omega)]
      have he' : bodyGo l h.k.isNone l.length [] p0 = .ok fs := by
        rw [← he]
        cases n with
        | zero => rfl
        | succ n => exact if_neg hp
      rw [he'] at hq
      simp only [hM]
      exact ⟨by show 2 ≤ 100000; decide, hq _ ex⟩
/-! ### need_form, read_datagram -/
def formB : D → Bool
  | .tup ds => (decide (7 ≤ (ds.length : Int)) && decide ((ds.length : Int) ≤ 1200)) && ds.all fun d => within d 0 255
  | _ => false
def p76 : DF := fun ds M q xi => ∃ d, ds = [d] ∧ dty M d = true ∧ (formB d = true → q d M) ∧ (formB d = false → xi wBadD [(wWord, .str wForm), (wPlace, .non)] M)
theorem k76 {C : Nat → DF} (h12 : C 12 = p12) : Keeps C t76 p76 := by
  rintro ds M q xi ⟨d, rfl, ht, hq, hx⟩
  refine ⟨rfl, ?_⟩
  show dSs C t76.body _ [some d, none] M _
  unfold t76
  obtain ⟨t, e1, e2⟩ := ty_tup (dty_ty ht)
  cases d with
  | tup ds =>
    obtain ⟨hl, hm⟩ := dty_tup ht
    have ef : formB (.tup ds) = ((decide (7 ≤ (ds.length : Int)) && decide ((ds.length : Int) ≤ 1200)) && ds.all fun d => within d 0 255) := rfl
    rw [ef] at hq hx
    walk_at "k7"
    simp only [e1, e2, isTupD, Bool.not_true]
    cases c1 : decide (7 ≤ (ds.length : Int)) with
    | false =>
      rw [c1] at hx
      exact ⟨rfl, hx rfl⟩
    | true =>
      rw [c1] at hx hq
      dsimp only
      cases c2 : decide ((ds.length : Int) ≤ 1200) with
      | false =>
        rw [c2] at hx
        exact ⟨rfl, hx rfl⟩
      | true =>
        rw [c2] at hx hq
        refine for_inv (fun its dl M' => M' = M ∧ ∃ b, (∀ d ∈ its, dty M d = true) ∧ (its.all fun d => within d 0 255) = (ds.all fun d => within d 0 255) ∧ dl = [some (.tup ds), b]) ?_ ?_ _ _ _ ⟨rfl, none, hm, rfl, rfl⟩
        · rintro d r dl M' nx ⟨rfl, b, hr, he, rfl⟩ hn
          refine ⟨trivial, _, rfl, ?_⟩
          walk_at "k7"
          rw [h12]
          refine ⟨d, _, _, rfl, dty_ty (hr d List.mem_cons_self), ?_⟩
          rw [List.all_cons] at he
          cases hw : within d 0 255 with
          | false =>
            rw [hw] at he
            rw [← he] at hx
            exact ⟨rfl, hx rfl⟩
          | true =>
            rw [hw, Bool.true_and] at he
            exact hn _ _ ⟨rfl, _, fun y hy => hr y (List.mem_cons_of_mem _ hy), he, rfl⟩
        · rintro dl M' ⟨rfl, b, hr, he, rfl⟩
          rw [← he] at hq
          exact ⟨trivial, hq rfl⟩
  | _ =>
    walk_at "k7"
    simp only [e1, e2, isTupD, Bool.not_false]
    exact ⟨rfl, hx rfl⟩
def errD (xi : XF) (M : Mem) (w : Str) : Prop := ∀ M', Ex [] M M' → xi wBadD [(wWord, .str w), (wPlace, .non)] M'
/-- read_datagram: of any thing; of octets in form -/
def p77 : DF := fun ds M q xi => ∃ d, ds = [d] ∧ dty M d = true ∧ (formB d = false → errD xi M wForm) ∧ (∀ l, d = oD l → formB d = true → restF (begO ++ l) ≠ 0 → errD xi M wCheck) ∧
  (∀ l, d = oD l → formB d = true → restF (begO ++ l) = 0 → resG encB M q xi (readB (l.take (l.length - 4))))
theorem form_of {d : D} (h : formB d = true) : ∃ l, d = oD l ∧ Byt l ∧ 7 ≤ l.length ∧ l.length ≤ 1200 := by
  unfold formB at h
  split at h
  · rename_i ds
    simp only [Bool.and_eq_true, decide_eq_true_eq] at h
    obtain ⟨e1, e2⟩ := octs_of h.2
    refine ⟨ds.map natD, ?_, e2, ?_, ?_⟩
    · unfold oD
      rw [← e1]
    · rw [List.length_map]; omega
    · rw [List.length_map]; omega
  · cases h
theorem k77 {C : Nat → DF} (h76 : C 76 = p76) (h30 : C 30 = p30) (h70 : C 70 = p70) : Keeps C t77 p77 := by
  rintro ds M q xi ⟨d, rfl, ht, hf, hc, hr⟩
  refine ⟨rfl, ?_⟩
  show dSs C t77.body _ [some d] M _
  unfold t77
  walk_at "k7"
  rw [h76]
  refine ⟨d, rfl, ht, fun h => ?_, fun h => hf h _ Ex.refl⟩
  obtain ⟨l, rfl, hb, l7, lm⟩ := form_of h
  rw [h30]
  refine ⟨l, rfl, hb, by omega, by omega, fun M1 ex1 => ?_⟩
  by_cases h0 : restF (begO ++ l) = 0
  · rw [decide_eq_true h0]
    have h3 := hr l rfl h h0
    dsimp only [Bool.not_true]
    simp only [oD]
    rw [h70]
    refine ⟨l.take (l.length - 4), ?_, fun x hx => hb x (List.mem_of_mem_take hx), by rw [List.length_take]; omega, by rw [List.length_take]; omega, fun M2 ex2 => h3 _ (ex1.trans ex2)⟩
    rw [List.length_map]
    have : cutD (l.map nD) none (some ((l.length : Int) - 4)) = (l.take (l.length - 4)).map nD := by
      unfold cutD
      rw [show (l.length : Int) - 4 = ((l.length - 4 : Nat) : Int) by omega, HT.sIx_nat, HT.sIx_none, List.length_map, List.drop_zero, Nat.sub_zero, Nat.min_eq_left (by omega), List.map_take]
    rw [this]
    rfl
  · rw [decide_eq_false h0]
    exact ⟨rfl, hc l rfl h h0 _ ex1⟩
end K7
/-! K7: the law's small defs: mixed, like, is_int, numeral, row, rows of frames. -/
namespace K7
open PySem PySem.Spec L2
open PyProof.Rows hiding St

local macro_rules | `(tactic| walk_at "k7") => `(tactic| simp only [dSs, dS, dEs, dE, dI, dSeq, dAsg, dPar, dDrop, dRet, dIfS, dNext, dBrk, dNev, dVar, dC, dNil, dCons, dOp, dCB, dCall, dTup, dTest, dAnd, dOr, dNot, dIf, dChn, dNeg, fB, fAdd, fI, fI0, fEq, fNe, fIsN, fNotN, isNon, fIx, fLen, fMin, fMax, fInt, fTup, fLst,
  dIsi, dSet, setAll, dFor, diSeq, diR1, diR2, diR3, diEn, dLst, dApp, dExt, dRev, dEmp, empB, dSl, dPart, dNoP, dRse, dRank, fDg, dgt, isL, up_same, List.getElem?_cons_zero, List.getElem?_cons_succ, List.set_cons_zero, List.set_cons_succ, Bool.not_true, Bool.not_false, Tg.slots])
def p79 : DF := fun ds M q _ => ∃ a n : Int, ds = [.int a, .int n] ∧ 0 ≤ n ∧ n ≤ 2 ^ 50 ∧ ∀ r : Int, 0 ≤ r → q (.int r) M
theorem k79 {C : Nat → DF} : Keeps C t79 p79 := by
  rintro ds M q xi ⟨a, n, rfl, h0, h1, hq⟩
  refine ⟨rfl, ?_⟩
  show dSs C t79.body _ [some (.int a), some (.int n), none] M _
  unfold t79
  walk_at "k7"
  simp only [fMul]
  refine ⟨.inr (by omega), .inr (by omega), .inr (by omega), by omega, .inr (by omega), .inr (by omega), .inr (by omega), .inr (by omega), by omega, by omega, hq _ ?_⟩
  exact Int.ediv_nonneg (Int.emod_nonneg _ (by omega)) (by omega)
/-! ### _law_like -/
def shownOk (p : PyData) : Prop := p.showable = true ∧ p.hasDict = false ∧ p.depth ≤ 64 ∧ p.shown.length ≤ sizeLine
def isRp : D → Bool
  | .tup _ => true
  | .ob _ => true
  | _ => false
def p83 : DF := fun ds M q _ => ∃ a b p, ds = [a, b] ∧ isRp a = true ∧ isRp b = true ∧ pyT a M = some p ∧ pyT b M = some p ∧ shownOk p ∧ q (.bl true) M
theorem k83 {C : Nat → DF} : Keeps C t83 p83 := by
  rintro ds M q xi ⟨a, b, p, rfl, ra, rb, ea, eb, ⟨s1, s2, s3, s4⟩, hq⟩
  refine ⟨rfl, ?_⟩
  show dSs C t83.body _ [some a, some b] M _
  unfold t83
  walk_at "k7"
  have e : decide (p.shown = p.shown) = true := decide_eq_true rfl
  unfold dRpr
  cases a with
  | tup as =>
    cases b with
    | tup bs => exact ⟨p, ea, s1, s2, s3, s4, p, eb, s1, s2, s3, s4, by dsimp only; rw [e]; exact hq⟩
    | ob y => exact ⟨p, ea, s1, s2, s3, s4, p, eb, s1, s2, s3, s4, by dsimp only; rw [e]; exact hq⟩
    | _ => cases rb
  | ob x =>
    cases b with
    | tup bs => exact ⟨p, ea, s1, s2, s3, s4, p, eb, s1, s2, s3, s4, by dsimp only; rw [e]; exact hq⟩
    | ob y => exact ⟨p, ea, s1, s2, s3, s4, p, eb, s1, s2, s3, s4, by dsimp only; rw [e]; exact hq⟩
    | _ => cases rb
  | _ => cases ra
/-! ### _law_is_int -/
def p85 : DF := fun ds M q _ => ∃ d lo hi, ds = [d, .int lo, .int hi] ∧ tyB M d = true ∧ q (.bl (within d lo hi)) M
theorem k85 {C : Nat → DF} : Keeps C t85 p85 := by
  rintro ds M q xi ⟨d, lo, hi, rfl, ht, hq⟩
  refine ⟨rfl, ?_⟩
  show dSs C t85.body _ [some d, some (.int lo), some (.int hi)] M _
  unfold t85
  obtain ⟨t, et, _, e2, e3, _⟩ := isi_ev ht
  walk_at "k7"
  simp only [et, e2, e3]
  cases d with
  | int i =>
    unfold within at hq
    simp only [isI, isBl, Bool.or_false, Bool.not_false]
    by_cases h : lo ≤ i
    · simp only [h, decide_true, Bool.true_and] at hq ⊢
      exact hq
    · simp only [h, decide_false, Bool.false_and] at hq ⊢
      exact hq
  | _ => exact hq
/-! ### _law_numeral -/
theorem mod128 (n : Nat) : (n : Int) % 128 = ((n % 128 : Nat) : Int) := by omega
theorem div128 (n : Nat) : (n : Int) / 128 = ((n / 128 : Nat) : Int) := by omega
def p90 : DF := fun ds M q _ => ∃ n : Nat, ds = [nD n] ∧ q (oD (numO n)) M
theorem k90 {C : Nat → DF} : Keeps C t90 p90 := by
  rintro ds M q xi ⟨n, rfl, hq⟩
  refine ⟨rfl, ?_⟩
  show dSs C t90.body _ [some (nD n), none, none] M _
  unfold t90
  walk_at "k7"
  simp only [nD]
  refine ⟨by omega, by show 1 ≤ 100000; decide, by omega, by omega, ?_⟩
  rw [mod128]
  refine for_inv (fun its dl M' => M' = M ∧ ∃ (k : Nat) (j : Nat) (v : Nat) (g : List Nat) (c : Option D), its = rgI (j : Int) 1 k ∧ (hiG k (v / 128)).reverse ++ g = numO n ∧ g.length + k ≤ 10 ∧ dl = [some (nD v), some (oD g), c]) ?_ ?_ _ _ _ ⟨rfl, 9, 0, n, [n % 128], none, rfl, by unfold numO; rw [List.reverse_cons], by show 1 + 9 ≤ 10; decide, rfl⟩
  · rintro d r dl M' nx ⟨rfl, k, j, v, g, c, ei, he, hg, rfl⟩ hnx
    cases k with
    | zero => cases ei
    | succ k =>
      rw [rgI_succ] at ei
      cases ei
      refine ⟨trivial, _, rfl, ?_⟩
      walk_at "k7"
      simp only [nD, oD]
      rw [div128]
      refine ⟨by omega, ?_⟩
      by_cases h0 : v / 128 = 0
      · rw [h0]
        rw [h0, hiG_zero] at he
        have he' : g = numO n := he
        simp only [show decide (((0 : Nat) : Int) = 0) = true from rfl]
        rw [he']
        exact hq
      · have e1 : decide (((v / 128 : Nat) : Int) = 0) = false := decide_eq_false (by omega)
        simp only [e1]
        refine ⟨by omega, by show 1 ≤ 100000; decide, by rw [List.length_map]; show 1 + _ ≤ _; omega, ?_⟩
        rw [mod128]
        refine hnx _ _ ⟨rfl, k, j + 1, v / 128, (128 + v / 128 % 128) :: g, _, rfl, ?_, by rw [List.length_cons]; omega, rfl⟩
        rw [← he, show hiG (k + 1) (v / 128) = (128 + v / 128 % 128) :: hiG k (v / 128 / 128) from if_neg h0, List.reverse_cons, List.append_assoc]
        rfl
  · rintro dl M' ⟨rfl, k, j, v, g, c, ei, he, hg, rfl⟩
    have ek : k = 0 := by
      cases k with
      | zero => rfl
      | succ k => rw [rgI_succ] at ei; cases ei
    subst ek
    refine ⟨trivial, ?_⟩
    walk_at "k7"
    have he' : g = numO n := he
    rw [he']
    exact hq
/-! ### _law_row -/
def rowN (l : List Nat) : Nat := l.foldl (fun a x => a * 256 + x) 0
theorem rowN_lt : ∀ (l : List Nat) (a k : Nat), Byt l → a < 256 ^ k → l.foldl (fun a x => a * 256 + x) a < 256 ^ (k + l.length)
  | [], a, k, _, h => h
  | x :: r, a, k, hb, h => by
    have hx := hb x List.mem_cons_self
    have := rowN_lt r (a * 256 + x) (k + 1) (fun y hy => hb y (List.mem_cons_of_mem _ hy)) (by rw [Nat.pow_succ]; omega)
    rw [List.length_cons, show k + (r.length + 1) = k + 1 + r.length by omega]
    exact this
def p91 : DF := fun ds M q _ => ∃ l, ds = [oD l] ∧ Byt l ∧ q (nD (rowN l)) M
theorem k91 {C : Nat → DF} : Keeps C t91 p91 := by
  rintro ds M q xi ⟨l, rfl, hb, hq⟩
  refine ⟨rfl, ?_⟩
  show dSs C t91.body _ [some (oD l), none, none] M _
  unfold t91
  walk_at "k7"
  simp only [oD]
  refine for_inv (fun its dl M' => M' = M ∧ ∃ (r : List Nat) (a : Nat) (c : Option D), its = r.map nD ∧ r.foldl (fun a x => a * 256 + x) a = rowN l ∧ dl = [some (.tup (l.map nD)), some (nD a), c]) ?_ ?_ _ _ _ ⟨rfl, l, 0, none, rfl, rfl, rfl⟩
  · rintro d r dl M' nx ⟨rfl, r', a, c, ei, he, rfl⟩ hnx
    cases r' with
    | nil => cases ei
    | cons x r' =>
      cases ei
      refine ⟨trivial, _, rfl, ?_⟩
      walk_at "k7"
      simp only [nD, fMul]
      exact ⟨.inr ⟨by decide, by decide⟩, hnx _ _ ⟨rfl, r', a * 256 + x, _, rfl, he, rfl⟩⟩
  · rintro dl M' ⟨rfl, r', a, c, ei, he, rfl⟩
    have er : r' = [] := by
      cases r' with
      | nil => rfl
      | cons _ _ => cases ei
    subst er
    have he' : a = rowN l := he
    subst he'
    exact ⟨trivial, hq⟩
end K7
/-! K7: the law's division, check, a turned bit, rows. -/
namespace K7
open PySem PySem.Spec L2
open PyProof.Rows hiding St

local macro_rules | `(tactic| walk_at "k7") => `(tactic| simp only [dSs, dS, dEs, dE, dI, dSeq, dAsg, dPar, dDrop, dRet, dIfS, dNext, dBrk, dNev, dVar, dC, dNil, dCons, dOp, dCB, dCall, dTup, dTest, dAnd, dOr, dNot, dIf, dChn, dNeg, fB, fAdd, fI, fI0, fEq, fNe, fIsN, fNotN, isNon, fIx, fLen, fMin, fMax, fInt, fTup, fLst,
  dIsi, dSet, setAll, dFor, diSeq, diR1, diR2, diR3, diEn, dLst, dApp, dExt, dRev, dEmp, empB, dSl, dPart, dNoP, dRse, dRank, fDg, dgt, isL, up_same, List.getElem?_cons_zero, List.getElem?_cons_succ, List.set_cons_zero, List.set_cons_succ, Bool.not_true, Bool.not_false, Tg.slots])
def bitsN (v : Nat) : Nat := Builtin.Int.intBits (v : Int)
def leftG : Nat → Nat → Nat
  | 0, v => v
  | k + 1, v => if bitsN v < 33 then v else leftG k (v ^^^ P32 * 2 ^ (bitsN v - 33))
def leftN (v : Nat) : Nat := leftG (bitsN v) v
theorem bits_pow (v : Nat) : v < 2 ^ bitsN v := by
  unfold bitsN Builtin.Int.intBits
  split
  · rename_i h
    have e : (v : Int) = 0 := eq_of_beq h
    have : v = 0 := by omega
    rw [this]
    decide
  · rename_i hn
    rw [Int.natAbs_natCast]
    exact Nat.lt_log2_self
theorem bitsN_le {n k : Nat} (h : n < 2 ^ k) : bitsN n ≤ k := bits_le h
theorem P32_lt : P32 < 2 ^ 33 := by decide
theorem step_lt {v N : Nat} (h : v < 2 ^ N) (g : 33 ≤ bitsN v) : v ^^^ P32 * 2 ^ (bitsN v - 33) < 2 ^ N := by
  refine Nat.xor_lt_two_pow h ?_
  have hb := bitsN_le h
  calc P32 * 2 ^ (bitsN v - 33) < 2 ^ 33 * 2 ^ (bitsN v - 33) := Nat.mul_lt_mul_of_pos_right P32_lt (Nat.pow_pos (by decide))
    _ = 2 ^ bitsN v := by rw [← Nat.pow_add]; congr 1; omega
    _ ≤ 2 ^ N := Nat.pow_le_pow_right (by decide) hb
def p92 : DF := fun ds M q _ => ∃ v : Nat, ds = [nD v, .int 6442450971] ∧ v < 2 ^ 20000 ∧ q (nD (leftN v)) M
theorem bitsP : Builtin.Int.intBits 6442450971 = 33 := by decide
theorem k92 {C : Nat → DF} : Keeps C t92 p92 := by
  rintro ds M q xi ⟨v, rfl, hv, hq⟩
  refine ⟨rfl, ?_⟩
  show dSs C t92.body _ [some (nD v), some (.int 6442450971), none, none, none] M _
  unfold t92
  walk_at "k7"
  simp only [dBits, dVar, nD, List.getElem?_cons_zero, List.getElem?_cons_succ, List.set_cons_zero, List.set_cons_succ, bitsP]
  have hb := bitsN_le hv
  rw [show Builtin.Int.intBits (v : Int) = bitsN v from rfl]
  refine ⟨by omega, by omega, ?_⟩
  rw [Int.toNat_natCast]
  refine for_inv (fun its dl M' => M' = M ∧ ∃ (k j w : Nat) (a b : Option D), its = rgI (j : Int) 1 k ∧ w < 2 ^ 20000 ∧ leftG k w = leftN v ∧ dl = [some (nD w), some (.int 6442450971), some (.int 33), a, b]) ?_ ?_ _ _ _ ⟨rfl, bitsN v, 0, v, none, none, rfl, hv, rfl, rfl⟩
  · rintro d r dl M' nx ⟨rfl, k, j, w, a, b, ei, hw, he, rfl⟩ hnx
    cases k with
    | zero => cases ei
    | succ k =>
      rw [rgI_succ] at ei
      cases ei
      refine ⟨trivial, _, rfl, ?_⟩
      walk_at "k7"
      simp only [dBits, dVar, nD, List.getElem?_cons_zero, List.getElem?_cons_succ, List.set_cons_zero, List.set_cons_succ]
      rw [show Builtin.Int.intBits (w : Int) = bitsN w from rfl]
      have e0 : decide (((bitsN w : Nat) : Int) < 33) = decide (bitsN w < 33) := decide_eq_decide.mpr (by omega)
      have hbw := bitsN_le hw
      rw [e0]
      by_cases h : bitsN w < 33
      · rw [decide_eq_true h]
        have : leftG (k + 1) w = w := if_pos h
        rw [← he, this] at hq
        exact hq
      · rw [decide_eq_false h]
        dsimp only
        have ej : ((bitsN w : Nat) : Int) - 33 = ((bitsN w - 33 : Nat) : Int) := by omega
        rw [ej]
        refine ⟨shl_ok (n := P32) (j := bitsN w - 33) P32_lt (by omega), ?_⟩
        rw [Int.toNat_natCast]
        have ex : Builtin.bitXor (w : Int) (6442450971 * 2 ^ (bitsN w - 33)) = ((w ^^^ P32 * 2 ^ (bitsN w - 33) : Nat) : Int) := by
          rw [← xor_nat, Int.natCast_mul, Int.natCast_pow]
          rfl
        rw [ex]
        refine hnx _ _ ⟨rfl, k, j + 1, _, _, _, rfl, step_lt hw (by omega), ?_, rfl⟩
        rw [← he]
        exact (if_neg h).symm
  · rintro dl M' ⟨rfl, k, j, w, a, b, ei, hw, he, rfl⟩
    have ek : k = 0 := by
      cases k with
      | zero => rfl
      | succ k => rw [rgI_succ] at ei; cases ei
    subst ek
    refine ⟨trivial, ?_⟩
    have he' : w = leftN v := he
    subst he'
    exact hq
def lawR (l : List Nat) : Nat := leftN (rowN (begO ++ l) * 2 ^ 32)
def p93 : DF := fun ds M q _ => ∃ l, ds = [oD l] ∧ Byt l ∧ l.length ≤ 2000 ∧ q (oD (fourO (lawR l))) M
theorem k93 {C : Nat → DF} (h91 : C 91 = p91) (h92 : C 92 = p92) : Keeps C t93 p93 := by
  rintro ds M q xi ⟨l, rfl, hb, hl, hq⟩
  refine ⟨rfl, ?_⟩
  show dSs C t93.body _ [some (oD l), none] M _
  unfold t93
  walk_at "k7"
  simp only [oD]
  refine ⟨by show 4 ≤ 100000; decide, by rw [List.length_map]; show 4 + _ ≤ _; omega, ?_⟩
  rw [h91]
  have hr := rowN_lt (begO ++ l) 0 0 (byt_app byt_beg hb) (by decide)
  have hr' : rowN (begO ++ l) < 2 ^ (8 * (4 + l.length)) := by
    rw [Nat.pow_mul]
    rw [List.length_append] at hr
    exact (by simpa [rowN, begO] using hr)
  refine ⟨begO ++ l, ?_, byt_app byt_beg hb, ?_⟩
  · simp only [oD, List.map_append]
    rfl
  · simp only [nD]
    refine ⟨shl_ok (j := 32) hr' (by omega), ?_⟩
    rw [h92]
    refine ⟨rowN (begO ++ l) * 2 ^ 32, ?_, ?_, ?_⟩
    · unfold nD
      rw [Int.natCast_mul]
      rfl
    · calc rowN (begO ++ l) * 2 ^ 32 < 2 ^ (8 * (4 + l.length)) * 2 ^ 32 := Nat.mul_lt_mul_of_pos_right hr' (by decide)
        _ = 2 ^ (8 * (4 + l.length) + 32) := (Nat.pow_add _ _ _).symm
        _ ≤ 2 ^ 20000 := Nat.pow_le_pow_right (by decide) (by omega)
    · rw [show leftN (rowN (begO ++ l) * 2 ^ 32) = lawR l from rfl]
      have e24 : ((lawR l : Nat) : Int) / 2 ^ (24 : Int).toNat = ((lawR l / 2 ^ 24 : Nat) : Int) := by
        show ((lawR l : Nat) : Int) / 2 ^ 24 = _
        omega
      have e16 : ((lawR l : Nat) : Int) / 2 ^ (16 : Int).toNat = ((lawR l / 2 ^ 16 : Nat) : Int) := by
        show ((lawR l : Nat) : Int) / 2 ^ 16 = _
        omega
      have e8 : ((lawR l : Nat) : Int) / 2 ^ (8 : Int).toNat = ((lawR l / 2 ^ 8 : Nat) : Int) := by
        show ((lawR l : Nat) : Int) / 2 ^ 8 = _
        omega
      simp only [nD]
      rw [e24, e16, e8, and255, and255, and255]
      exact ⟨by decide, by decide, by decide, by show 4 ≤ 100000; decide, hq⟩
/-! ### _law_turned -/
def turnN (l : List Nat) (k : Nat) : List Nat := l.set (k / 8) (l.getD (k / 8) 0 ^^^ 128 / 2 ^ (k % 8))
def p94 : DF := fun ds M q _ => ∃ l a k, ds = [oD l, .ob a] ∧ k < 8 * l.length ∧ M a = some (.lst [nD k]) ∧ ∀ M', Ex [] M M' → q (oD (turnN l k)) M'
theorem k94 {C : Nat → DF} : Keeps C t94 p94 := by
  rintro ds M q xi ⟨l, a, k, rfl, hk, hm, hq⟩
  refine ⟨rfl, ?_⟩
  show dSs C t94.body _ [some (oD l), some (.ob a), none, none] M _
  unfold t94
  walk_at "k7"
  simp only [oD]
  intro p hp
  have hpa : a ≠ p := fun e => by subst e; rw [hm] at hp; cases hp
  have hma : up M p (.lst (l.map nD)) a = some (.lst [nD k]) := by rw [up_ne hpa, hm]
  simp only [hma]
  have hk8 : k / 8 < l.length := by omega
  have eds : l.map nD = (l.map nD) := rfl
  refine for_inv (fun its dl M' => (its = [nD k] ∧ dl = [some (.tup (l.map nD)), some (.ob a), some (.ob p), none] ∧ M' a = some (.lst [nD k]) ∧ M' p = some (.lst (l.map nD)) ∧ Ex [] M M') ∨
    (its = [] ∧ dl = [some (.tup (l.map nD)), some (.ob a), some (.ob p), some (nD k)] ∧ M' a = some (.lst [nD k]) ∧ M' p = some (.lst ((turnN l k).map nD)) ∧ Ex [] M M')) ?_ ?_ _ _ _ (.inl ⟨rfl, rfl, hma, up_same, Ex.refl.new hp⟩)
  · rintro d r dl M' nx h hnx
    rcases h with ⟨ei, rfl, h1, h2, ex⟩ | ⟨ei, _⟩
    · cases ei
      refine ⟨h1, _, rfl, ?_⟩
      simp only [dSeq, dNext]
      unfold dPutL
      walk_at "k7"
      simp only [nD]
      have e8 : (k : Int) / 8 = ((k / 8 : Nat) : Int) := by omega
      have m8 : (k : Int) % 8 = ((k % 8 : Nat) : Int) := by omega
      have a1 : atI (l.map nD) ((k / 8 : Nat) : Int) = some (.int (l.getD (k / 8) 0 : Nat)) := getD_at hk8
      refine ⟨by omega, ?_⟩
      rw [e8, m8]
      simp only [h2, a1]
      refine ⟨by omega, by omega, ?_⟩
      rw [Int.toNat_natCast]
      have ed : (128 : Int) / 2 ^ (k % 8) = ((128 / 2 ^ (k % 8) : Nat) : Int) := by
        rw [Int.natCast_ediv, Int.natCast_pow]
        rfl
      rw [ed, xor_nat]
      refine ⟨by omega, ?_⟩
      have ein : ixN l.length ((k / 8 : Nat) : Int) = some (k / 8) := by
        unfold ixN
        rw [if_pos (by omega), if_pos (by omega), Int.toNat_natCast]
      rw [List.length_map, ein]
      refine hnx _ _ (.inr ⟨rfl, rfl, ?_, ?_, ex.own (.inl hp)⟩)
      · rw [up_ne hpa, h1]
      · rw [up_same]
        unfold turnN
        rw [List.map_set]
        rfl
    · cases ei
  · rintro dl M' h
    rcases h with ⟨ei, _⟩ | ⟨_, rfl, h1, h2, ex⟩
    · cases ei
    · refine ⟨h1, ?_⟩
      walk_at "k7"
      simp only [h2]
      exact hq _ ex
end K7
/-! K7: the law's rows of frames, bodies. -/
namespace K7
open PySem PySem.Spec L2
open PyProof.Rows hiding St

local macro_rules | `(tactic| walk_at "k7") => `(tactic| simp only [dSs, dS, dEs, dE, dI, dSeq, dAsg, dPar, dDrop, dRet, dIfS, dNext, dBrk, dNev, dVar, dC, dNil, dCons, dOp, dCB, dCall, dTup, dTest, dAnd, dOr, dNot, dIf, dChn, dNeg, fB, fAdd, fI, fI0, fEq, fNe, fIsN, fNotN, isNon, fIx, fLen, fMin, fMax, fInt, fTup, fLst,
  dIsi, dSet, setAll, dFor, diSeq, diR1, diR2, diR3, diEn, dLst, dApp, dExt, dRev, dEmp, empB, dSl, dPart, dNoP, dRse, dRank, fDg, dgt, isL, up_same, List.getElem?_cons_zero, List.getElem?_cons_succ, List.set_cons_zero, List.set_cons_succ, Bool.not_true, Bool.not_false, Tg.slots])
def p99 : DF := fun ds M q _ => ∃ h, ds = [Hd.d h] ∧ q (oD (rowH h)) M
theorem k99 {C : Nat → DF} (h90 : C 90 = p90) : Keeps C t99 p99 := by
  rintro ds M q xi ⟨⟨s, m, p, k⟩, rfl, hq⟩
  refine ⟨rfl, ?_⟩
  show dSs C t99.body _ [some (Hd.d ⟨s, m, p, k⟩), none] M _
  unfold t99
  have lm := numO_len m
  have lp := numO_len p
  cases k with
  | none =>
    walk_at "k7"
    simp only [Hd.d, optN, show atI [nD s, nD m, nD p, D.non] 3 = some .non from rfl, at0, at1, show atI [nD s, nD m, nD p, D.non] 2 = some (nD p) from rfl]
    rw [h90]
    refine ⟨by show 1 ≤ 100000; decide, m, rfl, ?_⟩
    simp only [oD]
    refine ⟨by rw [List.length_map]; show 1 + _ ≤ _; omega, p, rfl, ?_⟩
    refine ⟨by simp only [List.length_append, List.length_map]; show 1 + _ + _ ≤ _; omega, ?_⟩
    have e : [nD s] ++ (numO m).map nD ++ (numO p).map nD = (rowH ⟨s, m, p, none⟩).map nD := by
      unfold rowH
      rw [List.map_cons, List.map_append]
      rfl
    rw [e]
    exact hq
  | some k =>
    have lk := numO_len k
    walk_at "k7"
    simp only [Hd.d, optN, show atI [nD s, nD m, nD p, nD k] 3 = some (nD k) from rfl, at0, at1, show atI [nD s, nD m, nD p, nD k] 2 = some (nD p) from rfl]
    simp only [nD]
    rw [h90]
    refine ⟨by show 1 ≤ 100000; decide, m, rfl, ?_⟩
    simp only [oD]
    refine ⟨by rw [List.length_map]; show 1 + _ ≤ _; omega, p, rfl, ?_⟩
    refine ⟨by simp only [List.length_append, List.length_map]; show 1 + _ + _ ≤ _; omega, k, rfl, ?_⟩
    refine ⟨by simp only [List.length_append, List.length_map]; show 1 + _ + _ + _ ≤ _; omega, ?_⟩
    have e : [D.int ((s : Int) + 2)] ++ (numO m).map nD ++ (numO p).map nD ++ (numO k).map nD = (rowH ⟨s, m, p, some k⟩).map nD := by
      unfold rowH
      rw [List.map_cons, List.map_append, List.map_append]
      rfl
    rw [e]
    exact hq
/-! ### _law_ack_row -/
def p100 : DF := fun ds M q _ => ∃ rs dl, ds = [.tup (rs.map prD), nD dl] ∧ (Fm.ack rs dl).good = true ∧ q (oD (rowF (.ack rs dl))) M
theorem take_rev {α : Type} {l : List α} {k : Nat} (h : k < l.length) : (l.take (k + 1)).reverse = l[k] :: (l.take k).reverse := by
  rw [List.take_succ_eq_append_getElem h, List.reverse_append]
  rfl
theorem pw_take {α : Type} {R : α → α → Prop} {l : List α} (h : l.Pairwise R) (k : Nat) (hk : k < l.length) : ∀ x ∈ l.take k, R x l[k] := by
  have e : l.take (k + 1) = l.take k ++ [l[k]] := List.take_succ_eq_append_getElem hk
  have := h.sublist (List.take_sublist (k + 1) l)
  rw [e, List.pairwise_append] at this
  exact fun x hx => this.2.2 x hx l[k] (by simp)
theorem k100 {C : Nat → DF} (h90 : C 90 = p90) : Keeps C t100 p100 := by
  rintro ds M q xi ⟨rs, dl, rfl, hg, hq⟩
  refine ⟨rfl, ?_⟩
  show dSs C t100.body _ [some (.tup (rs.map prD)), some (nD dl), none, none, none, none, none] M _
  unfold t100
  have hg' : (rok (-1) rs && (decide (1 ≤ rs.length) && (decide (rs.length ≤ 32) && decide (dl ≤ 2 ^ 60)))) = true := hg
  simp only [Bool.and_eq_true, decide_eq_true_eq] at hg'
  obtain ⟨g1, g2, g3, g4⟩ := hg'
  obtain ⟨a1, a2⟩ := rok_all g1
  walk_at "k7"
  rw [h90]
  have l1 := numO_len rs.length
  have l4 := numO_len dl
  refine ⟨by show 1 ≤ 100000; decide, rs.length, by rw [List.length_map]; rfl, ?_⟩
  simp only [oD]
  refine ⟨by rw [List.length_map]; show 1 + _ ≤ _; omega, ?_⟩
  rw [List.length_map]
  refine ⟨by decide, by omega, by omega, by omega, by omega, ?_⟩
  have en : ((rs.length : Int) - 1 - (-1)).toNat = rs.length := by omega
  rw [en]
  refine for_inv (fun its ld M' => M' = M ∧ ∃ (k : Nat) (acc : List Nat) (ah : Option Nat) (a b c : Option D), k ≤ rs.length ∧ its = rgI ((k : Int) - 1) (-1) k ∧ (∀ x, ah = some x → ∀ p ∈ rs.take k, p.2 < x) ∧ acc ++ rngO ah (rs.take k).reverse ++ numO dl = rowF (.ack rs dl) ∧ acc.length + 20 * k ≤ 700 ∧
    ld = [some (.tup (rs.map prD)), some (nD dl), a, some (oD acc), some (optN ah), b, c]) ?_ ?_ _ _ _ ⟨rfl, rs.length, 1 :: numO rs.length, none, none, none, none, Nat.le_refl _, rfl, (fun x hx => nomatch hx), by rw [List.take_length]; rfl, by rw [List.length_cons]; omega, rfl⟩
  · rintro d r ld M' nx ⟨rfl, k, acc, ah, a, b, c, hk, ei, hx, he, hn, rfl⟩ hnx
    cases k with
    | zero => cases ei
    | succ k =>
      rw [rgI_succ] at ei
      cases ei
      have hlt : k < rs.length := hk
      have hin : rs[k] ∈ rs := List.getElem_mem hlt
      obtain ⟨c0, c1, c2⟩ := a1 _ hin
      rw [take_rev hlt] at he
      have hhx : ∀ x, ah = some x → rs[k].2 < x := fun x hx' => hx x hx' _ (by rw [List.take_succ_eq_append_getElem hlt]; exact List.mem_append_right _ List.mem_cons_self)
      have pw := pw_take a2 k hlt
      have at_k : atI (rs.map prD) ((k + 1 : Nat) - 1 : Int) = some (.tup [nD rs[k].1, nD rs[k].2]) := by
        refine atI_c (n := k) (by omega) ?_
        rw [List.getElem?_map, List.getElem?_eq_getElem hlt]
        rfl
      refine ⟨trivial, _, rfl, ?_⟩
      walk_at "k7"
      simp only [at_k, setAll, List.getElem?_cons_zero, List.getElem?_cons_succ, List.set_cons_zero, List.set_cons_succ]
      generalize rs[k] = p at c0 c1 c2 he hhx pw
      obtain ⟨lo, hi⟩ := p
      dsimp only at c0 c1 c2 he hhx pw
      have fin : ∀ v : Nat, v = hiN ah hi → p90 [nD v] M' (fun y M2 => fAdd (oD acc) y M2 fun x M1 => p90 [.int ((hi : Int) - 1 - (lo : Int))] M1 (fun y M2 => fAdd x y M2 fun d M1 => nx [some (.tup (rs.map prD)), some (nD dl), some (.int (((k + 1 : Nat) : Int) - 1)), some d, some (nD lo), some (nD lo), some (nD hi)] M1) fun c fs M2 => xi c fs M2) fun c fs M2 => xi c fs M2 := by
        intro v ev
        have lv := numO_len v
        have lw := numO_len (hi - lo - 1)
        refine ⟨v, rfl, ?_⟩
        simp only [oD, fAdd]
        refine ⟨by rw [List.length_map, List.length_map]; omega, hi - lo - 1, ?_, ?_⟩
        · unfold nD
          rw [show (hi : Int) - 1 - (lo : Int) = ((hi - lo - 1 : Nat) : Int) by omega]
        · refine ⟨by simp only [List.length_append, List.length_map]; omega, ?_⟩
          refine hnx _ _ ⟨rfl, k, acc ++ numO v ++ numO (hi - lo - 1), some lo, some (.int (((k + 1 : Nat) : Int) - 1)), some (nD lo), some (nD hi), by omega, ?_, fun x hx' p hp => ?_, ?_, by simp only [List.length_append]; omega, ?_⟩
          · rw [show ((k + 1 : Nat) : Int) - 1 + -1 = (k : Int) - 1 by omega]
          · cases hx'
            exact pw p hp
          · rw [← he, show rngO ah ((lo, hi) :: (rs.take k).reverse) = numO (hiN ah hi) ++ numO (hi - lo - 1) ++ rngO (some lo) (rs.take k).reverse from rfl, ← ev]
            simp only [List.append_assoc]
          · simp only [oD, List.map_append, optN]
      cases ah with
      | none =>
        have k1 := fin (hi - 1) rfl
        have e1 : nD (hi - 1) = .int ((hi : Int) - 1) := by
          unfold nD
          rw [show ((hi - 1 : Nat) : Int) = (hi : Int) - 1 by omega]
        rw [e1] at k1
        exact k1
      | some x =>
        have hxx := hhx x rfl
        have k1 := fin (x - hi - 1) rfl
        have e1 : nD (x - hi - 1) = .int ((x : Int) - (hi : Int) - 1) := by
          unfold nD
          rw [show ((x - hi - 1 : Nat) : Int) = (x : Int) - (hi : Int) - 1 by omega]
        rw [e1] at k1
        exact k1
  · rintro ld M' ⟨rfl, k, acc, ah, a, b, c, hk, ei, hx, he, hn, rfl⟩
    have ek : k = 0 := by
      cases k with
      | zero => rfl
      | succ k => rw [rgI_succ] at ei; cases ei
    subst ek
    refine ⟨trivial, ?_⟩
    walk_at "k7"
    refine ⟨dl, rfl, ?_⟩
    simp only [oD]
    refine ⟨by rw [List.length_map, List.length_map]; omega, ?_⟩
    rw [oD_app]
    have : acc ++ numO dl = rowF (.ack rs dl) := by
      rw [← he]
      show _ = acc ++ [] ++ _
      rw [List.append_nil]
    rw [this]
    exact hq
/-! ### _law_frame_row -/
def p101 : DF := fun ds M q _ => ∃ f, ds = [Fm.d f] ∧ f.good = true ∧ (rowF f).length ≤ 50000 ∧ q (oD (rowF f)) M
theorem k101 {C : Nat → DF} (h90 : C 90 = p90) (h100 : C 100 = p100) : Keeps C t101 p101 := by
  rintro ds M q xi ⟨f, rfl, hg, hl, hq⟩
  refine ⟨rfl, ?_⟩
  show dSs C t101.body _ [some f.d, none, none, none] M _
  unfold t101
  cases f with
  | ack rs dl =>
    walk_at "k7"
    simp only [Fm.d, at0, wk_ack, at1, show atI [D.str wAck, .tup (rs.map prD), nD dl] 2 = some (nD dl) from rfl]
    rw [h100]
    exact ⟨rs, dl, rfl, hg, hq⟩
  | room s h l =>
    walk_at "k7"
    simp only [Fm.d, at0, wk_room_a, wk_room, at1, show atI [D.str wRoom, nD s, nD h, nD l] 2 = some (nD h) from rfl, show atI [D.str wRoom, nD s, nD h, nD l] 3 = some (nD l) from rfl]
    have lh := numO_len h
    have ll := numO_len l
    rw [h90]
    refine ⟨by show 2 ≤ 100000; decide, h, rfl, ?_⟩
    simp only [oD]
    refine ⟨by rw [List.length_map]; show 2 + _ ≤ _; omega, l, rfl, ?_⟩
    refine ⟨by simp only [List.length_append, List.length_map]; show 2 + _ + _ ≤ _; omega, ?_⟩
    have e : [D.int 2, nD s] ++ (numO h).map nD ++ (numO l).map nD = (rowF (.room s h l)).map nD := by
      unfold rowF
      rw [List.map_cons, List.map_cons, List.map_append]
      rfl
    rw [e]
    exact hq
  | data s low o e =>
    walk_at "k7"
    simp only [Fm.d, at0, wk_data_a, wk_data_r, wk_data, at1, show atI [D.str wData, nD s, .tup [nD low, oD o, .bl e]] 2 = some (.tup [nD low, oD o, .bl e]) from rfl, setAll, List.getElem?_cons_zero, List.getElem?_cons_succ, List.set_cons_zero, List.set_cons_succ]
    have lh := numO_len low
    have ll := numO_len o.length
    have lo : o.length ≤ 50000 := by
      unfold rowF at hl
      simp only [List.length_cons, List.length_append] at hl
      omega
    have fin : ∀ (t : Nat), t = (if e = true then 4 else 3) → [D.int (t : Int), nD s].length ≤ 100000 ∧ p90 [nD low] M (fun y M2 => fAdd (.tup [.int (t : Int), nD s]) y M2 fun x M1 => p90 [.int ((o.map nD).length : Nat)] M1 (fun y M2 => fAdd x y M2 fun x M1 => fAdd x (oD o) M1 q) fun c fs M2 => xi c fs M2) fun c fs M2 => xi c fs M2 := by
      intro t et
      refine ⟨by show 2 ≤ 100000; decide, low, rfl, ?_⟩
      simp only [oD, fAdd]
      refine ⟨by rw [List.length_map]; show 2 + _ ≤ _; omega, o.length, by rw [List.length_map]; rfl, ?_⟩
      refine ⟨by simp only [List.length_append, List.length_map]; show 2 + _ + _ ≤ _; omega, by simp only [List.length_append, List.length_map]; show 2 + _ + _ + _ ≤ _; omega, ?_⟩
      have e : [D.int (t : Int), nD s] ++ (numO low).map nD ++ (numO o.length).map nD ++ o.map nD = (rowF (.data s low o e)).map nD := by
        unfold rowF
        rw [List.map_cons, List.map_cons, List.map_append, List.map_append, ← et]
        rfl
      rw [e]
      exact hq
    rw [h90]
    cases e with
    | true => exact fin 4 rfl
    | false => exact fin 3 rfl
  | ping =>
    walk_at "k7"
    simp only [Fm.d, at0, wk_ping_a, wk_ping_r, wk_ping_d]
    exact ⟨by show 1 ≤ 100000; decide, hq⟩
/-! ### _law_body -/
def p102 : DF := fun ds M q _ => ∃ h a fs, ds = [Hd.d h, .ob a] ∧ (∀ f ∈ fs, f.good = true) ∧ (bodyO h fs).length ≤ 50000 ∧ M a = some (.lst (fs.map Fm.d)) ∧ q (oD (bodyO h fs)) M
theorem k102 {C : Nat → DF} (h99 : C 99 = p99) (h101 : C 101 = p101) : Keeps C t102 p102 := by
  rintro ds M q xi ⟨h, a, fs, rfl, gf, hl, hm, hq⟩
  refine ⟨rfl, ?_⟩
  show dSs C t102.body _ [some h.d, some (.ob a), none, none] M _
  unfold t102
  walk_at "k7"
  rw [h99]
  refine ⟨h, rfl, ?_⟩
  simp only [hm]
  refine for_inv (fun its ld M' => M' = M ∧ ∃ (r : List Fm) (acc : List Nat) (c : Option D), its = r.map Fm.d ∧ (∀ f ∈ r, f ∈ fs) ∧ acc ++ (r.map rowF).flatten = bodyO h fs ∧ ld = [some h.d, some (.ob a), some (oD acc), c]) ?_ ?_ _ _ _ ⟨rfl, fs, rowH h, none, rfl, fun _ h => h, rfl, rfl⟩
  · rintro d r ld M' nx ⟨rfl, r', acc, c, ei, hr, he, rfl⟩ hnx
    cases r' with
    | nil => cases ei
    | cons f r' =>
      cases ei
      refine ⟨hm, _, rfl, ?_⟩
      walk_at "k7"
      rw [h101]
      rw [List.map_cons, List.flatten_cons, ← List.append_assoc] at he
      have hl2 : acc.length + (rowF f).length ≤ 50000 := by
        rw [← he] at hl
        simp only [List.length_append] at hl
        omega
      refine ⟨f, rfl, gf f (hr f List.mem_cons_self), by omega, ?_⟩
      simp only [oD]
      refine ⟨by rw [List.length_map, List.length_map]; omega, ?_⟩
      exact hnx _ _ ⟨rfl, r', acc ++ rowF f, some f.d, rfl, fun g hg => hr g (List.mem_cons_of_mem _ hg), he, by simp only [oD, List.map_append]⟩
  · rintro ld M' ⟨rfl, r', acc, c, ei, hr, he, rfl⟩
    have er : r' = [] := by
      cases r' with
      | nil => rfl
      | cons _ _ => cases ei
    subst er
    have he' : acc = bodyO h fs := by
      rw [← he]
      exact (List.append_nil acc).symm
    subst he'
    exact ⟨hm, hq⟩
end K7
/-! K7: the law's reading, part 1. -/
namespace K7
open PySem PySem.Spec L2
open PyProof.Rows hiding St

local macro_rules | `(tactic| walk_at "k7") => `(tactic| simp only [dSs, dS, dEs, dE, dI, dSeq, dAsg, dPar, dDrop, dRet, dIfS, dNext, dBrk, dNev, dVar, dC, dNil, dCons, dOp, dCB, dCall, dTup, dTest, dAnd, dOr, dNot, dIf, dChn, dNeg, fB, fAdd, fI, fI0, fEq, fNe, fIsN, fNotN, isNon, fIx, fLen, fMin, fMax, fInt, fTup, fLst,
  dIsi, dSet, setAll, dFor, diSeq, diR1, diR2, diR3, diEn, dLst, dApp, dExt, dRev, dEmp, empB, dSl, dPart, dNoP, dRse, dRank, fDg, dgt, isL, up_same, List.getElem?_cons_zero, List.getElem?_cons_succ, List.set_cons_zero, List.set_cons_succ, Bool.not_true, Bool.not_false, Tg.slots])
def kBody : Str := "body"
def kAt : Str := "at"
def kFault : Str := "fault"
/-- the dict of the law's reader -/
def kvR (l : List Nat) (p : Nat) (ft : D) : Ob := .dct [(kBody, oD l), (kAt, nD p), (kFault, ft)]
def flt (w : Str) (p : Nat) : D := .tup [.str w, nD p]
theorem nBA : ¬ kBody = kAt := by decide
theorem nBF : ¬ kBody = kFault := by decide
theorem nAF : ¬ kAt = kFault := by decide
theorem dgt_body (x y z : D) : dgt [(kBody, x), (kAt, y), (kFault, z)] kBody = some x := if_pos rfl
theorem dgt_at (x y z : D) : dgt [(kBody, x), (kAt, y), (kFault, z)] kAt = some y := (if_neg nBA).trans (if_pos rfl)
theorem dgt_fault (x y z : D) : dgt [(kBody, x), (kAt, y), (kFault, z)] kFault = some z := (if_neg nBF).trans ((if_neg nAF).trans (if_pos rfl))
theorem dpt_at (x y z d : D) : dpt [(kBody, x), (kAt, y), (kFault, z)] kAt d = [(kBody, x), (kAt, d), (kFault, z)] := by
  unfold dpt
  rw [if_neg nBA]
  unfold dpt
  rw [if_pos rfl]
theorem dpt_fault (x y z d : D) : dpt [(kBody, x), (kAt, y), (kFault, z)] kFault d = [(kBody, x), (kAt, y), (kFault, d)] := by
  unfold dpt
  rw [if_neg nBF]
  unfold dpt
  rw [if_neg nAF]
  unfold dpt
  rw [if_pos rfl]
theorem kv_nodup (x y z : D) : (([(kBody, x), (kAt, y), (kFault, z)] : List (Str × D)).map (·.1)).Nodup := by
  show ([kBody, kAt, kFault] : List Str).Nodup
  decide
/-- how a step of the law's reader ends -/
def resL {α : Type} (enc : α → D) (r : Addr) (l : List Nat) (M : Mem) (q : D → Mem → Prop) : Except Er (α × Nat) → Prop
  | .ok x => ∀ M', Ex [r] M M' → M' r = some (kvR l x.2 .non) → q (enc x.1) M'
  | .error e => ∀ M' p, Ex [r] M M' → M' r = some (kvR l p (flt e.1 e.2)) → q .non M'
theorem Ex.at1 {M M1 : Mem} {r : Addr} {o : Ob} (x : Ex [r] M M1) : Ex [r] M (up M1 r o) := x.own (.inr List.mem_cons_self)
def p103 : DF := fun ds M q _ => ∃ r w k l p, ds = [.ob r, .str w, nD k] ∧ M r = some (kvR l p .non) ∧ q .non (up M r (kvR l p (flt w k)))
theorem k103 {C : Nat → DF} : Keeps C t103 p103 := by
  rintro ds M q xi ⟨r, w, k, l, p, rfl, hm, hq⟩
  refine ⟨rfl, ?_⟩
  show dSs C t103.body _ [some (.ob r), some (.str w), some (nD k)] M _
  unfold t103
  walk_at "k7"
  unfold dPutD
  walk_at "k7"
  simp only [hm, kvR]
  rw [show (Str.ofString "fault") = kFault from rfl, dgt_fault]
  dsimp only
  refine ⟨by show 2 ≤ 100000; decide, ?_⟩
  refine ⟨by show 3 < 1000; decide, kv_nodup _ _ _, ?_⟩
  rw [dpt_fault]
  exact hq
theorem cutD_take {ds : List D} {a n : Nat} (h : a ≤ ds.length) : cutD ds (some (a : Int)) (some ((a : Int) + (n : Int))) = (ds.drop a).take n := by
  unfold cutD
  rw [show (a : Int) + (n : Int) = ((a + n : Nat) : Int) from rfl, HT.sIx_nat, HT.sIx_nat, Nat.min_eq_left h]
  by_cases hn : a + n ≤ ds.length
  · rw [Nat.min_eq_left hn, Nat.add_sub_cancel_left]
  · rw [Nat.min_eq_right (by omega), List.take_of_length_le (by rw [List.length_drop]; omega), List.take_of_length_le (by rw [List.length_drop]; omega)]
def p104 : DF := fun ds M q _ => ∃ r l p, ds = [.ob r] ∧ Byt l ∧ l.length ≤ 5000 ∧ p ≤ l.length ∧ M r = some (kvR l p .non) ∧ resL nD r l M q (nAt l p)
theorem k104 {C : Nat → DF} (h103 : C 103 = p103) : Keeps C t104 p104 := by
  rintro ds M q xi ⟨r, l, p, rfl, hb, hl, hp, hm, hq⟩
  refine ⟨rfl, ?_⟩
  show dSs C t104.body _ [some (.ob r), none, none, none, none] M _
  unfold t104
  unfold nAt at hq
  walk_at "k7"
  simp only [hm, kvR]
  rw [show (Str.ofString "at") = kAt from rfl, dgt_at]
  dsimp only
  rw [show (Str.ofString "body") = kBody from rfl, dgt_body]
  simp only [oD, nD, List.getElem?_cons_zero, List.getElem?_cons_succ, List.set_cons_zero, List.set_cons_succ]
  rw [show ((9 : Int)) = ((9 : Nat) : Int) from rfl, cutD_take (by rw [List.length_map]; exact hp), ← List.map_drop, ← List.map_take]
  rw [h103]
  refine for_inv (fun its ld M' => M' = M ∧ ∃ (k j acc : Nat) (s : List Nat) (a b : Option D), its = enG j ((s.take k).map nD) ∧ k + j = 9 ∧ l.drop (p + j) = s ∧ numD l p = numG k (decide (j = 0)) acc (p + j) s ∧ ld = [some (.ob r), some (nD p), some (nD acc), a, b]) ?_ ?_ _ _ _ ⟨rfl, 9, 0, 0, _, none, none, rfl, rfl, rfl, rfl, rfl⟩
  · rintro d r' ld M' nx ⟨rfl, k, j, acc, s, a, b, ei, hkj, es, he, rfl⟩ hnx
    cases k with
    | zero => cases ei
    | succ k =>
      cases s with
      | nil => cases ei
      | cons x s =>
        cases ei
        obtain ⟨g1, g2, g3⟩ := drop_get es
        have hx := hb x (List.mem_of_getElem? g1)
        refine ⟨trivial, _, rfl, ?_⟩
        walk_at "k7"
        simp only [nD, fMul]
        have e0 : decide ((j : Int) = 0) = decide (j = 0) := decide_eq_decide.mpr (by omega)
        have e1 : decide ((x : Int) = 128) = decide (x = 128) := decide_eq_decide.mpr (by omega)
        have e2 : decide ((x : Int) < 128) = decide (x < 128) := decide_eq_decide.mpr (by omega)
        have e4 : (acc : Int) * 128 + ((x % 128 : Nat) : Int) = ((acc * 128 + x % 128 : Nat) : Int) := by omega
        have e3 : decide ((2 : Int) ^ Int.toNat 60 < ((acc * 128 + x % 128 : Nat) : Int)) = !decide (acc * 128 + x % 128 ≤ 2 ^ 60) := by
          rw [show (2 : Int) ^ Int.toNat 60 = 1152921504606846976 from by decide]
          by_cases h : acc * 128 + x % 128 ≤ 2 ^ 60
          · rw [decide_eq_true h]
            exact decide_eq_false (by omega)
          · rw [decide_eq_false h]
            exact decide_eq_true (by omega)
        have cm : CMul (acc : Int) 128 := .inr ⟨by decide, by decide⟩
        have cp : CPow 2 60 := ⟨by decide, by decide, by decide⟩
        have fail : numD l p = none → p103 [.ob r, .str wNumber, .int (p : Int)] M' (fun x M1 => q .non M1) (fun c fs M2 => xi c fs M2) := fun hn => by
          rw [hn] at hq
          exact ⟨r, wNumber, p, l, p, rfl, hm, hq _ p Ex.refl.at1 up_same⟩
        rw [e0, e1, e2, mod128, e4]
        simp only [e3]
        have he' : numD l p = if (decide (j = 0) && decide (x = 128)) = true then none else if x < 128 then (if acc * 128 + x % 128 ≤ 2 ^ 60 then some (acc * 128 + x % 128, p + j + 1) else none) else numG k false (acc * 128 + x % 128) (p + j + 1) s := he
        cases hd : decide (j = 0) <;> cases h8x : decide (x = 128) <;> rw [hd, h8x] at he'
        case true.true => exact fail he'
        all_goals
          refine ⟨cm, by decide, ?_⟩
          rw [if_neg (by decide)] at he'
          by_cases h8 : x < 128
          · rw [if_pos h8] at he'
            rw [decide_eq_true h8]
            refine ⟨cp, ?_⟩
            by_cases h6 : acc * 128 + x % 128 ≤ 2 ^ 60
            · rw [if_pos h6] at he'
              rw [decide_eq_true h6]
              rw [he'] at hq
              simp only [Bool.not_true, dPutD]
              walk_at "k7"
              simp only [hm, kvR]
              refine ⟨by show 3 < 1000; decide, kv_nodup _ _ _, ?_⟩
              rw [dpt_at]
              exact hq _ Ex.refl.at1 up_same
            · rw [if_neg h6] at he'
              rw [decide_eq_false h6]
              exact fail he'
          · rw [if_neg h8] at he'
            rw [decide_eq_false h8]
            exact hnx _ _ ⟨rfl, k, j + 1, acc * 128 + x % 128, s, some (.int (j : Int)), some (.int (x : Int)), rfl, by omega, g2, by rw [he']; rfl, rfl⟩
  · rintro ld M' ⟨rfl, k, j, acc, s, a, b, ei, hkj, es, he, rfl⟩
    refine ⟨trivial, ?_⟩
    walk_at "k7"
    have hn : numD l p = none := by
      rw [he]
      cases k with
      | zero => rfl
      | succ k =>
        cases s with
        | nil => rfl
        | cons x s => cases ei
    rw [hn] at hq
    exact ⟨r, wNumber, p, l, p, rfl, hm, hq _ p Ex.refl.at1 up_same⟩
end K7
/-! K7: the law's reading, part 2. -/
namespace K7
open PySem PySem.Spec L2
open PyProof.Rows hiding St

local macro_rules | `(tactic| walk_at "k7") => `(tactic| simp only [dSs, dS, dEs, dE, dI, dSeq, dAsg, dPar, dDrop, dRet, dIfS, dNext, dBrk, dNev, dVar, dC, dNil, dCons, dOp, dCB, dCall, dTup, dTest, dAnd, dOr, dNot, dIf, dChn, dNeg, fB, fAdd, fI, fI0, fEq, fNe, fIsN, fNotN, isNon, fIx, fLen, fMin, fMax, fInt, fTup, fLst,
  dIsi, dSet, setAll, dFor, diSeq, diR1, diR2, diR3, diEn, dLst, dApp, dExt, dRev, dEmp, empB, dSl, dPart, dNoP, dRse, dRank, fDg, isL, up_same, List.getElem?_cons_zero, List.getElem?_cons_succ, List.set_cons_zero, List.set_cons_succ, Bool.not_true, Bool.not_false, Tg.slots])
def tkIn (l : List Nat) (p : Nat) (lo hi : Int) : Except Er (Nat × Nat) := match nAt l p with
  | .error e => .error e
  | .ok x => if lo ≤ (x.1 : Int) ∧ (x.1 : Int) ≤ hi then .ok x else .error (wBound, p)
def p105 : DF := fun ds M q _ => ∃ r lo hi l p, ds = [.ob r, .int lo, .int hi] ∧ Byt l ∧ l.length ≤ 5000 ∧ p ≤ l.length ∧ M r = some (kvR l p .non) ∧ resL nD r l M q (tkIn l p lo hi)
theorem k105 {C : Nat → DF} (h103 : C 103 = p103) (h104 : C 104 = p104) : Keeps C t105 p105 := by
  rintro ds M q xi ⟨r, lo, hi, l, p, rfl, hb, hl, hp, hm, hq⟩
  refine ⟨rfl, ?_⟩
  show dSs C t105.body _ [some (.ob r), some (.int lo), some (.int hi), none, none] M _
  unfold t105
  unfold tkIn at hq
  walk_at "k7"
  simp only [hm, kvR]
  rw [show (Str.ofString "at") = kAt from rfl, dgt_at]
  dsimp only
  rw [h103, h104]
  refine ⟨r, l, p, rfl, hb, hl, hp, hm, ?_⟩
  cases hn : nAt l p with
  | error e =>
    rw [hn] at hq
    intro M' p' ex hm'
    exact hq M' p' ex hm'
  | ok x =>
    obtain ⟨n, e⟩ := x
    rw [hn] at hq
    dsimp only at hq
    intro M' ex hm'
    dsimp only at hm' ⊢
    simp only [nD, Bool.not_false]
    by_cases h1 : lo ≤ (n : Int)
    · rw [decide_eq_true h1]
      dsimp only
      by_cases h2 : (n : Int) ≤ hi
      · rw [decide_eq_true h2]
        rw [if_pos ⟨h1, h2⟩] at hq
        exact hq M' ex hm'
      · rw [decide_eq_false h2]
        rw [if_neg fun z => h2 z.2] at hq
        exact ⟨r, wBound, p, l, e, rfl, hm', hq _ e (ex.trans Ex.refl.at1) up_same⟩
    · rw [decide_eq_false h1]
      rw [if_neg fun z => h1 z.1] at hq
      exact ⟨r, wBound, p, l, e, rfl, hm', hq _ e (ex.trans Ex.refl.at1) up_same⟩
def stR (l : List Nat) (p : Nat) : Except Er (Nat × Nat) := match sAt l p with
  | .error e => .error e
  | .ok s => .ok (s, p + 1)
def p106 : DF := fun ds M q _ => ∃ r l p, ds = [.ob r] ∧ M r = some (kvR l p .non) ∧ resL nD r l M q (stR l p)
theorem k106 {C : Nat → DF} (h103 : C 103 = p103) : Keeps C t106 p106 := by
  rintro ds M q xi ⟨r, l, p, rfl, hm, hq⟩
  refine ⟨rfl, ?_⟩
  show dSs C t106.body _ [some (.ob r), none] M _
  unfold t106
  walk_at "k7"
  simp only [hm, kvR]
  rw [show (Str.ofString "at") = kAt from rfl, show (Str.ofString "body") = kBody from rfl, dgt_at]
  dsimp only
  simp only [dPutD]
  walk_at "k7"
  simp only [hm, kvR, dgt_body, dgt_at, oD, nD]
  rw [h103, List.length_map]
  unfold stR sAt at hq
  have e0 : decide ((p : Int) ≥ (l.length : Int)) = !decide (p < l.length) := by
    by_cases h : p < l.length
    · rw [decide_eq_true h]
      exact decide_eq_false (by omega)
    · rw [decide_eq_false h]
      exact decide_eq_true (by omega)
  simp only [e0]
  by_cases h : p < l.length
  · rw [decide_eq_true h]
    have a1 := getD_at h
    have e1 : decide (((l.getD p 0 : Nat) : Int) > 15) = !decide (l.getD p 0 ≤ 15) := by
      by_cases h : l.getD p 0 ≤ 15
      · rw [decide_eq_true h]
        exact decide_eq_false (by omega)
      · rw [decide_eq_false h]
        exact decide_eq_true (by omega)
    simp only [a1, e1, Bool.not_true]
    by_cases h5 : l.getD p 0 ≤ 15
    · rw [if_pos ⟨h, h5⟩] at hq
      rw [decide_eq_true h5]
      simp only [hm, kvR]
      refine ⟨by show 3 < 1000; decide, kv_nodup _ _ _, ?_⟩
      rw [dpt_at]
      simp only [up_same, dgt_body, oD, a1]
      exact hq _ Ex.refl.at1 up_same
    · rw [if_neg fun z => h5 z.2] at hq
      rw [decide_eq_false h5]
      exact ⟨r, wBound, p, l, p, rfl, hm, hq _ p Ex.refl.at1 up_same⟩
  · rw [if_neg fun z => h z.1] at hq
    rw [decide_eq_false h]
    exact ⟨r, wBound, p, l, p, rfl, hm, hq _ p Ex.refl.at1 up_same⟩
end K7
/-! K7: the law's reading, part 3: data, room. -/
namespace K7
open PySem PySem.Spec L2
open PyProof.Rows hiding St

local macro_rules | `(tactic| walk_at "k7") => `(tactic| simp only [dSs, dS, dEs, dE, dI, dSeq, dAsg, dPar, dDrop, dRet, dIfS, dNext, dBrk, dNev, dVar, dC, dNil, dCons, dOp, dCB, dCall, dTup, dTest, dAnd, dOr, dNot, dIf, dChn, dNeg, fB, fAdd, fI, fI0, fEq, fNe, fIsN, fNotN, isNon, fIx, fLen, fMin, fMax, fInt, fTup, fLst,
  dIsi, dSet, setAll, dFor, diSeq, diR1, diR2, diR3, diEn, dLst, dApp, dExt, dRev, dEmp, empB, dSl, dPart, dNoP, dRse, dRank, fDg, isL, up_same, List.getElem?_cons_zero, List.getElem?_cons_succ, List.set_cons_zero, List.set_cons_succ, Bool.not_true, Bool.not_false, Tg.slots])
theorem sl_body {l : List Nat} {a n : Nat} (h : a ≤ l.length) : cutD (l.map nD) (some (a : Int)) (some ((a : Int) + (n : Int))) = ((l.drop a).take n).map nD := by
  rw [cutD_take (by rw [List.length_map]; exact h), List.map_take, List.map_drop]
def p109 : DF := fun ds M q _ => ∃ r e l p, ds = [.ob r, .bl e] ∧ Byt l ∧ l.length ≤ 5000 ∧ p < l.length ∧ M r = some (kvR l (p + 1) .non) ∧ resL Fm.d r l M q (dataR l p e)
theorem k109 {C : Nat → DF} (h103 : C 103 = p103) (h104 : C 104 = p104) (h106 : C 106 = p106) : Keeps C t109 p109 := by
  rintro ds M q xi ⟨r, e, l, p, rfl, hb, hl, hp, hm, hq⟩
  refine ⟨rfl, ?_⟩
  show dSs C t109.body _ [some (.ob r), some (.bl e), none, none, none, none, none, none] M _
  unfold t109
  unfold dataR at hq
  walk_at "k7"
  rw [show (Str.ofString "at") = kAt from rfl, show (Str.ofString "body") = kBody from rfl, h103, h104, h106]
  refine ⟨r, l, p + 1, rfl, hm, ?_⟩
  unfold stR
  cases n0 : sAt l (p + 1) with
  | error er =>
    rw [n0] at hq
    intro M1 p1 ex1 hm1
    exact hq M1 p1 ex1 hm1
  | ok s =>
    obtain ⟨s1, s2⟩ := sAt_ok n0
    rw [n0] at hq
    dsimp only at hq
    intro M1 ex1 hm1
    dsimp only at hm1 ⊢
    simp only [nD]
    refine ⟨r, l, p + 2, rfl, hb, hl, by omega, hm1, ?_⟩
    cases n1 : nAt l (p + 2) with
    | error er =>
      rw [n1] at hq
      intro M2 p2 ex2 hm2
      exact hq M2 p2 (ex1.trans ex2) hm2
    | ok x =>
      obtain ⟨low, a2⟩ := x
      obtain ⟨b1, b2, b3⟩ := nAt_ok (by omega) n1
      rw [n1] at hq
      dsimp only at hq
      intro M2 ex2 hm2
      dsimp only at hm2 ⊢
      simp only [nD, hm2, kvR, dgt_at]
      refine ⟨r, l, a2, rfl, hb, hl, b2, hm2, ?_⟩
      cases n2 : nAt l a2 with
      | error er =>
        rw [n2] at hq
        intro M3 p3 ex3 hm3
        exact hq M3 p3 ((ex1.trans ex2).trans ex3) hm3
      | ok x =>
        obtain ⟨many, b⟩ := x
        obtain ⟨c1, c2, c3⟩ := nAt_ok b2 n2
        rw [n2] at hq
        dsimp only at hq
        intro M3 ex3 hm3
        dsimp only at hm3 ⊢
        have cp : CPow 2 60 := ⟨by decide, by decide, by decide⟩
        have exx := (ex1.trans ex2).trans ex3
        have fail : ¬ ((e = true ∨ 1 ≤ many) ∧ low + many ≤ 2 ^ 60 - 1 ∧ b + many ≤ l.length) → p103 [.ob r, .str wBound, .int (a2 : Int)] M3 (fun x M1 => q .non M1) (fun c fs M2 => xi c fs M2) := fun hn => by
          rw [if_neg hn] at hq
          exact ⟨r, wBound, a2, l, b, rfl, hm3, hq _ b (exx.trans Ex.refl.at1) up_same⟩
        simp only [nD, hm3, kvR, dgt_at, dgt_body, dgt_fault, oD]
        rw [List.length_map]
        by_cases d1 : e = true ∨ 1 ≤ many
        · have e1 : decide ((many : Int) + (if e = true then 1 else 0) = 0) = false := decide_eq_false (by
            rcases d1 with d1 | d1
            · rw [if_pos d1]; omega
            · split <;> omega)
          rw [e1]
          refine ⟨cp, ?_⟩
          rw [show (2 : Int) ^ Int.toNat 60 - 1 = 1152921504606846975 from by decide]
          by_cases d2 : low + many ≤ 2 ^ 60 - 1
          · rw [show decide ((low : Int) + (many : Int) > 1152921504606846975) = false from decide_eq_false (by omega)]
            dsimp only
            by_cases d3 : b + many ≤ l.length
            · rw [show decide ((b : Int) + (many : Int) > (l.length : Int)) = false from decide_eq_false (by omega)]
              rw [if_pos ⟨d1, d2, d3⟩] at hq
              simp only [dPutD]
              walk_at "k7"
              simp only [hm3, kvR]
              refine ⟨by show 3 < 1000; decide, kv_nodup _ _ _, ?_⟩
              rw [dpt_at, sl_body c2]
              refine ⟨by show 3 ≤ 100000; decide, by show 3 ≤ 100000; decide, ?_⟩
              exact hq _ (exx.trans Ex.refl.at1) up_same
            · rw [show decide ((b : Int) + (many : Int) > (l.length : Int)) = true from decide_eq_true (by omega)]
              exact fail fun z => d3 z.2.2
          · rw [show decide ((low : Int) + (many : Int) > 1152921504606846975) = true from decide_eq_true (by omega)]
            exact fail fun z => d2 z.2.1
        · have e1 : decide ((many : Int) + (if e = true then 1 else 0) = 0) = true := decide_eq_true (by
            have h1 : ¬ e = true := fun h => d1 (.inl h)
            have h2 : ¬ 1 ≤ many := fun h => d1 (.inr h)
            rw [if_neg h1]
            omega)
          rw [e1]
          exact fail fun z => d1 z.1
end K7
/-! K7: the law's reading, part 4: room. -/
namespace K7
open PySem PySem.Spec L2
open PyProof.Rows hiding St

local macro_rules | `(tactic| walk_at "k7") => `(tactic| simp only [dSs, dS, dEs, dE, dI, dSeq, dAsg, dPar, dDrop, dRet, dIfS, dNext, dBrk, dNev, dVar, dC, dNil, dCons, dOp, dCB, dCall, dTup, dTest, dAnd, dOr, dNot, dIf, dChn, dNeg, fB, fAdd, fI, fI0, fEq, fNe, fIsN, fNotN, isNon, fIx, fLen, fMin, fMax, fInt, fTup, fLst,
  dIsi, dSet, setAll, dFor, diSeq, diR1, diR2, diR3, diEn, dLst, dApp, dExt, dRev, dEmp, empB, dSl, dPart, dNoP, dRse, dRank, fDg, isL, up_same, List.getElem?_cons_zero, List.getElem?_cons_succ, List.set_cons_zero, List.set_cons_succ, Bool.not_true, Bool.not_false, Tg.slots])
def p108 : DF := fun ds M q _ => ∃ r a l p fs, ds = [.ob r, .ob a] ∧ Byt l ∧ l.length ≤ 5000 ∧ p < l.length ∧ M r = some (kvR l (p + 1) .non) ∧ a ≠ r ∧ M a = some (.lst (fs.map Fm.d)) ∧ resL Fm.d r l M q (roomR l p fs)
theorem k108 {C : Nat → DF} (h103 : C 103 = p103) (h104 : C 104 = p104) (h106 : C 106 = p106) : Keeps C t108 p108 := by
  rintro ds M q xi ⟨r, a, l, p, fs, rfl, hb, hl, hp, hm, har, hma, hq⟩
  refine ⟨rfl, ?_⟩
  show dSs C t108.body _ [some (.ob r), some (.ob a), none, none, none, none] M _
  unfold t108
  unfold roomR at hq
  walk_at "k7"
  rw [show (Str.ofString "at") = kAt from rfl, show (Str.ofString "fault") = kFault from rfl, h103, h104, h106]
  simp only [hm, kvR, dgt_at]
  refine ⟨r, l, p + 1, rfl, hm, ?_⟩
  unfold stR
  cases n0 : sAt l (p + 1) with
  | error er =>
    rw [n0] at hq
    intro M1 p1 ex1 hm1
    simp only [hm1, kvR, dgt_fault, flt]
    exact hq M1 p1 ex1 hm1
  | ok s =>
    obtain ⟨s1, s2⟩ := sAt_ok n0
    rw [n0] at hq
    dsimp only at hq
    intro M1 ex1 hm1
    dsimp only at hm1 ⊢
    have hma1 := ex1 a _ (by simpa using har) hma
    simp only [nD, Bool.not_false]
    have cont : roomBad s fs = false → p104 [.ob r] M1 (fun d M2 => match (match d with | .non => true | _ => false) with
        | true => q .non M2
        | false => p104 [.ob r] M2 (fun d2 M3 => match (match d2 with | .non => true | _ => false) with
          | true => q .non M3
          | false => 4 ≤ 100000 ∧ q (.tup [.str wRoom, nD s, d, d2]) M3) (fun c fs M2 => xi c fs M2)) (fun c fs M2 => xi c fs M2) := by
      intro hr
      rw [hr, if_neg Bool.false_ne_true] at hq
      refine ⟨r, l, p + 2, rfl, hb, hl, by omega, hm1, ?_⟩
      cases n1 : nAt l (p + 2) with
      | error er =>
        rw [n1] at hq
        intro M2 p2 ex2 hm2
        exact hq M2 p2 (ex1.trans ex2) hm2
      | ok x =>
        obtain ⟨h, b⟩ := x
        obtain ⟨b1, b2, b3⟩ := nAt_ok (by omega) n1
        rw [n1] at hq
        dsimp only at hq
        intro M2 ex2 hm2
        dsimp only at hm2 ⊢
        refine ⟨r, l, b, rfl, hb, hl, b2, hm2, ?_⟩
        cases n2 : nAt l b with
        | error er =>
          rw [n2] at hq
          intro M3 p3 ex3 hm3
          exact hq M3 p3 ((ex1.trans ex2).trans ex3) hm3
        | ok x =>
          obtain ⟨y, b'⟩ := x
          rw [n2] at hq
          dsimp only at hq
          intro M3 ex3 hm3
          exact ⟨by decide, hq M3 ((ex1.trans ex2).trans ex3) hm3⟩
    rcases nil_or_last fs with rfl | ⟨t, g, rfl⟩
    · simp only [hma1, hm1, kvR, dgt_fault, List.map_nil, List.isEmpty_nil, Bool.false_eq_true, if_false, Bool.bne_true, Bool.not_true]
      exact cont rfl
    · have eg : (t ++ [g]).getLast? = some g := by simp
      have em : ((t ++ [g]).map Fm.d) = t.map Fm.d ++ [g.d] := by simp
      have ee : ∀ y : D, (t.map Fm.d ++ [y]).isEmpty = false := fun y => by cases t <;> rfl
      obtain ⟨gr, ed⟩ := g.d_cons
      rw [em] at hma1
      simp only [hma1, hm1, kvR, dgt_fault, ee, dNeg, Bool.false_eq_true, if_false, Bool.bne_true, Bool.not_false, show (-(1 : Int)) = -1 from rfl, atI_last, ed, K7.at0]
      cases g with
      | room s' h' l' =>
        cases ed
        rw [show decide (wOf (Fm.room s' h' l').k = Str.ofString "room") = true from wk_room]
        dsimp only
        simp only [hma1, hm1, kvR, dgt_fault, Fm.d, atI_last, K7.at1, nD]
        have e1 : decide ((s' : Int) ≥ (s : Int)) = decide (s ≤ s') := decide_eq_decide.mpr (by omega)
        rw [e1]
        have hrb : roomBad s (t ++ [.room s' h' l']) = decide (s ≤ s') := by
          unfold roomBad
          rw [eg]
        cases hs : decide (s ≤ s') with
        | true =>
          rw [hrb, hs, if_pos rfl] at hq
          refine ⟨r, wOrder, p + 1, l, p + 1 + 1, rfl, hm1, ?_⟩
          simp only [up_same, kvR, dgt_fault, flt]
          exact hq _ (p + 1 + 1) (ex1.trans Ex.refl.at1) up_same
        | false => exact cont (hrb.trans hs)
      | ack rs dl =>
        rw [show decide (wOf (Fm.ack rs dl).k = Str.ofString "room") = false from by
          have := nr0
          rw [Bool.not_eq_true'] at this
          exact this]
        exact cont (by unfold roomBad; rw [eg])
      | data s low o e =>
        rw [show decide (wOf (Fm.data s low o e).k = Str.ofString "room") = false from wk_data_r]
        exact cont (by unfold roomBad; rw [eg])
      | ping =>
        rw [show decide (wOf Fm.ping.k = Str.ofString "room") = false from wk_ping_r]
        exact cont (by unfold roomBad; rw [eg])
end K7
/-! K7: the law's reading, part 5: ack. -/
namespace K7
open PySem PySem.Spec L2
open PyProof.Rows hiding St

local macro_rules | `(tactic| walk_at "k7") => `(tactic| simp only [dSs, dS, dEs, dE, dI, dSeq, dAsg, dPar, dDrop, dRet, dIfS, dNext, dBrk, dNev, dVar, dC, dNil, dCons, dOp, dCB, dCall, dTup, dTest, dAnd, dOr, dNot, dIf, dChn, dNeg, fB, fAdd, fI, fI0, fEq, fNe, fIsN, fNotN, isNon, fIx, fLen, fMin, fMax, fInt, fTup, fLst,
  dIsi, dSet, setAll, dFor, diSeq, diR1, diR2, diR3, diEn, dLst, dApp, dExt, dRev, dEmp, empB, dSl, dPart, dNoP, dRse, dRank, fDg, isL, up_same, List.getElem?_cons_zero, List.getElem?_cons_succ, List.set_cons_zero, List.set_cons_succ, Bool.not_true, Bool.not_false, Tg.slots])
def p107 : DF := fun ds M q _ => ∃ r l p, ds = [.ob r] ∧ Byt l ∧ l.length ≤ 5000 ∧ p < l.length ∧ M r = some (kvR l (p + 1) .non) ∧ resL Fm.d r l M q (ackR l p)
theorem tkIn_ok {l : List Nat} {p n e : Nat} {lo hi : Int} (hp : p ≤ l.length) (h : tkIn l p lo hi = .ok (n, e)) : nAt l p = .ok (n, e) ∧ lo ≤ (n : Int) ∧ (n : Int) ≤ hi := by
  unfold tkIn at h
  split at h
  · cases h
  · rename_i x hx
    split at h
    · rename_i z
      cases h
      exact ⟨hx, z⟩
    · cases h
def topI : Option Nat → Nat → Int
  | none, t => (t : Int)
  | some x, t => (x : Int) - 2 - (t : Int)
theorem k107 {C : Nat → DF} (h103 : C 103 = p103) (h104 : C 104 = p104) (h105 : C 105 = p105) : Keeps C t107 p107 := by
  rintro ds M q xi ⟨r, l, p, rfl, hb, hl, hp, hm, hq⟩
  refine ⟨rfl, ?_⟩
  show dSs C t107.body _ [some (.ob r), none, none, none, none, none, none, none, none, none] M _
  unfold t107
  walk_at "k7"
  rw [show (Str.ofString "at") = kAt from rfl, h103, h104, h105]
  refine ⟨r, 1, 32, l, p + 1, rfl, hb, hl, hp, hm, ?_⟩
  unfold ackR at hq
  unfold tkIn
  cases n1 : nAt l (p + 1) with
  | error er =>
    rw [n1] at hq
    intro M1 p1 ex1 hm1
    refine ⟨by show 0 ≤ 100000; decide, fun f hf => ?_⟩
    refine ⟨by decide, by decide, ?_⟩
    have hrf : r ≠ f := fun e => by subst e; rw [hm1] at hf; cases hf
    refine ⟨trivial, ?_⟩
    walk_at "k7"
    exact hq _ p1 (ex1.new hf) (by rw [up_ne hrf]; exact hm1)
  | ok x =>
    obtain ⟨many, b⟩ := x
    obtain ⟨b1, b2, b3⟩ := nAt_ok hp n1
    rw [n1] at hq
    dsimp only at hq ⊢
    by_cases hmn : 1 ≤ many ∧ many ≤ 32
    · rw [if_pos hmn] at hq
      rw [if_pos ⟨by omega, by omega⟩]
      intro M1 ex1 hm1
      dsimp only at hm1 ⊢
      simp only [nD]
      refine ⟨by show 0 ≤ 100000; decide, fun f hf => ?_⟩
      have hrf : r ≠ f := fun e => by subst e; rw [hm1] at hf; cases hf
      have hMf : M f = none ∨ f ∈ [r] := by
        cases e : M f with
        | none => exact .inl rfl
        | some o =>
          have := ex1 f o (by simpa using fun z => hrf z.symm) e
          rw [hf] at this
          cases this
      rw [Int.toNat_natCast]
      refine ⟨by omega, by omega, ?_⟩
      refine for_inv (fun its ld M' => ∃ (n j : Nat) (ah : Option Nat) (acc : List (Nat × Nat)) (at_ : Nat) (g : Addr) (c1 c2 c3 c4 c5 : Option D), its = rgI (j : Int) 1 n ∧ at_ ≤ l.length ∧ ackGo l n ah acc at_ = ackGo l many none [] b ∧ acc.length + n ≤ 32 ∧ Ex [r] M M' ∧ M' r = some (kvR l at_ .non) ∧ g ≠ r ∧ M' g = some (.lst (acc.map prD)) ∧
        ld = [some (.ob r), some (nD many), c1, none, some (.ob g), some (optN ah), c2, c3, c4, c5]) ?_ ?_ _ _ _ ⟨many, 0, none, [], b, f, none, none, none, none, none, rfl, b2, rfl, by rw [List.length_nil]; omega, ex1.own hMf, by rw [up_ne hrf]; exact hm1, fun z => hrf z.symm, up_same, rfl⟩
      · rintro d r' ld M' nx ⟨n, j, ah, acc, at_, g, c1, c2, c3, c4, c5, ei, ha, he, hn, ex, hr, hgr, hg, rfl⟩ hnx
        cases n with
        | zero => cases ei
        | succ n =>
          rw [rgI_succ] at ei
          cases ei
          have he' : (match rgAt l at_ ah with
            | .error e => .error e
            | .ok (pr, b) => ackGo l n (some pr.1) (pr :: acc) b) = ackGo l many none [] b := he
          unfold rgAt at he'
          refine ⟨trivial, _, rfl, ?_⟩
          simp only [dSeq, dAsg, dOp, dVar, dC, fDg, dSet, dCall, dCons, dNil, List.getElem?_cons_zero, List.getElem?_cons_succ, List.set_cons_zero, List.set_cons_succ, hr, kvR, dgt_at]
          refine ⟨r, l, at_, rfl, hb, hl, ha, hr, ?_⟩
          cases n2 : nAt l at_ with
          | error er =>
            rw [n2] at he'
            dsimp only at he'
            rw [← he'] at hq
            intro M3 p3 ex3 hm3
            exact hq M3 p3 (ex.trans ex3) hm3
          | ok x =>
            obtain ⟨told, b'⟩ := x
            obtain ⟨d1, d2, d3⟩ := nAt_ok ha n2
            rw [n2] at he'
            dsimp only at he'
            intro M3 ex3 hm3
            have hg3 := ex3 g _ (by simpa using hgr) hg
            dsimp only at hm3 ⊢
            simp only [dIfS, dVar, dC, dOp, fB, fIsN, isNon, nD, List.getElem?_cons_zero, List.getElem?_cons_succ, dRet, dNext, dSeq, dAsg, dIf, fI0, dSet, List.set_cons_zero, List.set_cons_succ]
            have cp : CPow 2 60 := ⟨by decide, by decide, by decide⟩
            have t0 : ∃ t : Int, topI ah told = t ∧ (∀ top, topN ah told = some top → t = (top : Int) ∧ top < 2 ^ 60) ∧ (topN ah told = none → ¬ (0 ≤ t ∧ t < 1152921504606846976)) := by
              refine ⟨_, rfl, fun top h => ?_, fun h => ?_⟩
              · cases ah with
                | none => unfold topN at h; unfold topI; dsimp only at h ⊢; split at h <;> cases h; exact ⟨rfl, by assumption⟩
                | some x => unfold topN at h; unfold topI; dsimp only at h ⊢; split at h <;> cases h; omega
              · cases ah with
                | none => unfold topN at h; unfold topI; dsimp only at h ⊢; split at h <;> cases h; omega
                | some x => unfold topN at h; unfold topI; dsimp only at h ⊢; split at h <;> cases h; omega
            obtain ⟨t, et, f1, f2⟩ := t0
            generalize topN ah told = T at he' f1 f2
            cases ah
            all_goals
              dsimp only [optN, nD, topI] at et ⊢
              simp only [et]
              simp only [dNot, dChn, dC, dVar, dOp, fI, fI0, dDrop, dCall, dCons, dNil, List.getElem?_cons_zero, List.getElem?_cons_succ]
              rw [show (2 : Int) ^ Int.toNat 60 = 1152921504606846976 from by decide]
              cases T with
              | none =>
                dsimp only at he'
                rw [← he'] at hq
                have fail : p103 [.ob r, .str wBound, .int (at_ : Int)] M3 (fun _ M1 => q .non M1) (fun c fs M2 => xi c fs M2) := ⟨r, wBound, at_, l, b', rfl, hm3, hq _ b' ((ex.trans ex3).trans Ex.refl.at1) up_same⟩
                have f3 := f2 rfl
                by_cases h0 : 0 ≤ t
                · rw [decide_eq_true h0]
                  refine ⟨cp, ?_⟩
                  rw [decide_eq_false (show ¬ t < 1152921504606846976 by omega)]
                  exact fail
                · rw [decide_eq_false h0]
                  exact fail
              | some top =>
                obtain ⟨e1, lt⟩ := f1 top rfl
                subst e1
                dsimp only at he'
                rw [decide_eq_true (show (0 : Int) ≤ (top : Int) by omega)]
                refine ⟨cp, ?_⟩
                rw [decide_eq_true (show (top : Int) < 1152921504606846976 by omega)]
                refine ⟨r, 0, top, l, b', rfl, hb, hl, d2, hm3, ?_⟩
                unfold tkIn
                cases n3 : nAt l b' with
                | error er =>
                  rw [n3] at he'
                  dsimp only at he'
                  rw [← he'] at hq
                  intro M4 p4 ex4 hm4
                  exact hq M4 p4 ((ex.trans ex3).trans ex4) hm4
                | ok x =>
                  obtain ⟨more, e⟩ := x
                  obtain ⟨g1, g2, g3⟩ := nAt_ok d2 n3
                  rw [n3] at he'
                  dsimp only at he' ⊢
                  by_cases hmt : more ≤ top
                  · rw [if_pos hmt] at he'
                    rw [if_pos ⟨by omega, by omega⟩]
                    dsimp only at he'
                    intro M4 ex4 hm4
                    have hg4 := ex4 g _ (by simpa using hgr) hg3
                    dsimp only at hm4 ⊢
                    simp only [nD, dLst, dCons, dTup, dOp, fI0, dVar, fAdd, dC, dNil, List.getElem?_cons_zero, List.getElem?_cons_succ]
                    refine ⟨by show 2 ≤ 100000; decide, by show 1 ≤ 100000; decide, fun u hu => ?_⟩
                    have hgu : g ≠ u := fun z => by subst z; rw [hg4] at hu; cases hu
                    have hru : r ≠ u := fun z => by subst z; rw [hm4] at hu; cases hu
                    simp only [up_same, up_ne hgu, hg4]
                    refine ⟨by rw [List.length_map]; show 1 + _ ≤ _; omega, fun w hw => ?_⟩
                    have hrw : r ≠ w := fun z => by subst z; rw [up_ne hru, hm4] at hw; cases hw
                    have ed : (top : Int) - (more : Int) = ((top - more : Nat) : Int) := by omega
                    rw [ed] at hw ⊢
                    refine hnx _ _ ⟨n, j + 1, some (top - more), (top - more, top + 1) :: acc, e, w, _, _, _, _, _, rfl, g2, he', by rw [List.length_cons]; omega, ((((ex.trans ex3).trans ex4).new hu).new hw), by rw [up_ne hrw, up_ne hru, hm4], fun z => hrw z.symm, by rw [up_same]; rfl, rfl⟩
                  · rw [if_neg hmt] at he'
                    rw [if_neg (by omega)]
                    dsimp only at he'
                    rw [← he'] at hq
                    intro M4 p4 ex4 hm4
                    exact hq M4 p4 ((ex.trans ex3).trans ex4) hm4
      · rintro ld M' ⟨n, j, ah, acc, at_, g, c1, c2, c3, c4, c5, ei, ha, he, hn, ex, hr, hgr, hg, rfl⟩
        have en : n = 0 := by
          cases n with
          | zero => rfl
          | succ n => rw [rgI_succ] at ei; cases ei
        subst en
        have he' : ackGo l many none [] b = .ok (acc, at_) := he.symm
        rw [he'] at hq
        dsimp only at hq
        refine ⟨trivial, ?_⟩
        walk_at "k7"
        simp only [nD]
        refine ⟨r, l, at_, rfl, hb, hl, ha, hr, ?_⟩
        cases n2 : nAt l at_ with
        | error er =>
          rw [n2] at hq
          intro M3 p3 ex3 hm3
          exact hq M3 p3 (ex.trans ex3) hm3
        | ok x =>
          obtain ⟨dl, e⟩ := x
          rw [n2] at hq
          dsimp only at hq
          intro M3 ex3 hm3
          have hg3 := ex3 g _ (by simpa using hgr) hg
          dsimp only at hm3 ⊢
          simp only [nD, hg3]
          exact ⟨by show 3 ≤ 100000; decide, hq _ (ex.trans ex3) hm3⟩
    · rw [if_neg hmn] at hq
      rw [if_neg (by omega)]
      intro M1 p1 ex1 hm1
      refine ⟨by show 0 ≤ 100000; decide, fun f hf => ?_⟩
      refine ⟨by decide, by decide, ?_⟩
      have hrf : r ≠ f := fun e => by subst e; rw [hm1] at hf; cases hf
      refine ⟨trivial, ?_⟩
      walk_at "k7"
      exact hq _ p1 (ex1.new hf) (by rw [up_ne hrf]; exact hm1)
end K7
/-! K7: the law's reading, part 6: may_stand. -/
namespace K7
open PySem PySem.Spec L2
open PyProof.Rows hiding St

local macro_rules | `(tactic| walk_at "k7") => `(tactic| simp only [dSs, dS, dEs, dE, dI, dSeq, dAsg, dPar, dDrop, dRet, dIfS, dNext, dBrk, dNev, dVar, dC, dNil, dCons, dOp, dCB, dCall, dTup, dTest, dAnd, dOr, dNot, dIf, dChn, dNeg, fB, fAdd, fI, fI0, fEq, fNe, fIsN, fNotN, isNon, fIx, fLen, fMin, fMax, fInt, fTup, fLst,
  dIsi, dSet, setAll, dFor, diSeq, diR1, diR2, diR3, diEn, dLst, dApp, dExt, dRev, dEmp, empB, dSl, dPart, dNoP, dRse, dRank, fDg, isL, up_same, List.getElem?_cons_zero, List.getElem?_cons_succ, List.set_cons_zero, List.set_cons_succ, Bool.not_true, Bool.not_false, Tg.slots])
def Ord (fs : List Fm) : Prop := fs.Pairwise fun f g => f.k ≤ g.k
def kD (f : Fm) : D := .str (wOf f.k)
theorem strs_k : ∀ fs : List Fm, strs? (fs.map kD) = some (fs.map fun f => wOf f.k)
  | [] => rfl
  | f :: r => by
    show (strs? (r.map kD)).map _ = _
    rw [strs_k r]
    rfl
theorem wOf_inj : ∀ {a b : Nat}, a ≤ 3 → b ≤ 3 → wOf a = wOf b → a = b := by
  intro a b ha hb h
  match a, b, ha, hb with
  | 0, 0, _, _ => rfl
  | 1, 1, _, _ => rfl
  | 2, 2, _, _ => rfl
  | 3, 3, _, _ => rfl
  | 0, 1, _, _ => revert h; decide
  | 0, 2, _, _ => revert h; decide
  | 0, 3, _, _ => revert h; decide
  | 1, 0, _, _ => revert h; decide
  | 1, 2, _, _ => revert h; decide
  | 1, 3, _, _ => revert h; decide
  | 2, 0, _, _ => revert h; decide
  | 2, 1, _, _ => revert h; decide
  | 2, 3, _, _ => revert h; decide
  | 3, 0, _, _ => revert h; decide
  | 3, 1, _, _ => revert h; decide
  | 3, 2, _, _ => revert h; decide
def hasK (k : Nat) (fs : List Fm) : Bool := fs.any fun f => decide (f.k = k)
theorem inB_k {k : Nat} (hk : k ≤ 3) (fs : List Fm) : inB (.str (wOf k)) (fs.map kD) = some (hasK k fs) := by
  unfold inB
  dsimp only
  rw [strs_k]
  show some _ = some _
  congr 1
  unfold hasK
  rw [Bool.eq_iff_iff, decide_eq_true_eq, List.any_eq_true, List.mem_map]
  constructor
  · rintro ⟨f, hf, e⟩
    exact ⟨f, hf, decide_eq_true (wOf_inj f.k_le hk e)⟩
  · rintro ⟨f, hf, e⟩
    exact ⟨f, hf, by rw [of_decide_eq_true e]⟩
theorem ord_last {r : List Fm} {g : Fm} (h : Ord (r ++ [g])) : ∀ f ∈ r ++ [g], f.k ≤ g.k := by
  intro f hf
  rw [List.mem_append] at hf
  rcases hf with hf | hf
  · exact (List.pairwise_append.1 h).2.2 f hf g (by simp)
  · rw [List.mem_singleton] at hf
    rw [hf]
    exact Nat.le_refl _
theorem has_last {r : List Fm} {g : Fm} : hasK g.k (r ++ [g]) = true := List.any_eq_true.2 ⟨g, by simp, decide_eq_true rfl⟩
theorem has_not {k : Nat} {fs : List Fm} {n : Nat} (h : ∀ f ∈ fs, f.k ≤ n) (hk : n < k) : hasK k fs = false := by
  unfold hasK
  rw [List.any_eq_false]
  intro f hf
  have := h f hf
  simp
  omega
def lawS (t : Nat) (fs : List Fm) (bare : Bool) : Bool := if t = 1 then fs.isEmpty else if hasK 3 fs || (decide (t = 2) && hasK 2 fs) then false else !(bare && (decide (t = 3) || decide (t = 4)))
theorem mayS_law {t : Nat} {fs : List Fm} {bare : Bool} (h1 : 1 ≤ t) (h5 : t ≤ 5) (ho : Ord fs) : lawS t fs bare = mayS (srt t) fs bare := by
  have ht : t = 1 ∨ t = 2 ∨ t = 3 ∨ t = 4 ∨ t = 5 := by omega
  rcases nil_or_last fs with rfl | ⟨r, g, rfl⟩
  · rcases ht with rfl | rfl | rfl | rfl | rfl <;> cases bare <;> rfl
  · have eg : (r ++ [g]).getLast? = some g := by simp
    have ee : (r ++ [g]).isEmpty = false := by cases r <;> rfl
    have hl := ord_last ho
    have h3 : hasK 3 (r ++ [g]) = decide (g.k = 3) := by
      by_cases h : g.k = 3
      · rw [← h, has_last, h]; rfl
      · rw [has_not hl (by have := g.k_le; omega), decide_eq_false h]
    have h2 : (decide (g.k = 3) || hasK 2 (r ++ [g])) = decide (2 ≤ g.k) := by
      by_cases h : g.k = 3
      · rw [h]; rfl
      · rw [decide_eq_false h, Bool.false_or]
        by_cases h' : g.k = 2
        · rw [← h', has_last, h']; rfl
        · have := g.k_le
          rw [has_not hl (by omega), decide_eq_false (by omega)]
    have gk := g.k_le
    unfold lawS mayS
    rw [eg, h3, ee]
    dsimp only
    generalize hasK 2 (r ++ [g]) = b2 at h2
    generalize g.k = k at *
    rcases ht with rfl | rfl | rfl | rfl | rfl
    · simp [srt]
    · have hk : k = 0 ∨ k = 1 ∨ k = 2 ∨ k = 3 := by omega
      rcases hk with rfl | rfl | rfl | rfl <;> cases b2 <;> cases bare <;> first | rfl | (revert h2; decide)
    · have hk : k = 0 ∨ k = 1 ∨ k = 2 ∨ k = 3 := by omega
      rcases hk with rfl | rfl | rfl | rfl <;> cases bare <;> rfl
    · have hk : k = 0 ∨ k = 1 ∨ k = 2 ∨ k = 3 := by omega
      rcases hk with rfl | rfl | rfl | rfl <;> cases bare <;> rfl
    · have hk : k = 0 ∨ k = 1 ∨ k = 2 ∨ k = 3 := by omega
      rcases hk with rfl | rfl | rfl | rfl <;> cases bare <;> rfl
def p110 : DF := fun ds M q _ => ∃ t a bare fs, ds = [nD t, .ob a, .bl bare] ∧ 1 ≤ t ∧ t ≤ 5 ∧ fs.length ≤ 5000 ∧ M a = some (.lst (fs.map Fm.d)) ∧ ∀ M', Ex [] M M' → q (.bl (lawS t fs bare)) M'
theorem k110 {C : Nat → DF} : Keeps C t110 p110 := by
  rintro ds M q xi ⟨t, a, bare, fs, rfl, ht1, ht5, hl, hm, hq⟩
  refine ⟨rfl, ?_⟩
  show dSs C t110.body _ [some (nD t), some (.ob a), some (.bl bare), none, none] M _
  unfold t110
  simp only [dSs, dS, dE, dI, dSeq, dAsg, dLc, diSeq, dVar, List.getElem?_cons_zero, List.getElem?_cons_succ, hm]
  refine lc_inv (fun its acc M' => M' = M ∧ ∃ r, its = r.map Fm.d ∧ (acc ++ r.map kD) = fs.map kD ∧ acc.length + r.length = fs.length) ?_ ?_ _ _ _ ⟨rfl, fs, rfl, rfl, by simp⟩
  · rintro d r acc M' k ⟨rfl, r', ei, ea, el⟩ hk
    cases r' with
    | nil => cases ei
    | cons f r' =>
      rw [List.map_cons] at ei
      cases ei
      refine ⟨hm, _, rfl, ?_⟩
      obtain ⟨x, ed⟩ := f.d_cons
      rw [List.length_cons] at el
      rw [List.map_cons] at ea
      simp only [dSet, dOp, dVar, dC, ed, fIx, dwipe, Tg.slots, List.foldl_cons, List.foldl_nil, List.set_cons_zero, List.set_cons_succ, List.getElem?_cons_zero, List.getElem?_cons_succ, K7.at0]
      exact ⟨by omega, hk _ _ ⟨rfl, r', rfl, by rw [List.append_assoc]; exact ea, by rw [List.length_append]; show _ + 1 + _ = _; omega⟩⟩
  · rintro acc M' ⟨rfl, r', ei, ea, el⟩
    cases r' with
    | cons f r' => cases ei
    | nil =>
      rw [List.map_nil, List.append_nil] at ea
      subst ea
      refine ⟨hm, fun p hp => ?_⟩
      have hq' := hq _ (Ex.refl.new (o := .lst (fs.map kD)) hp)
      unfold lawS at hq'
      have e1 : decide ((t : Int) = 1) = decide (t = 1) := decide_eq_decide.mpr (by omega)
      have e2 : decide ((t : Int) = 2) = decide (t = 2) := decide_eq_decide.mpr (by omega)
      have e3 : inB (.int (t : Int)) [.int 3, .int 4] = some (decide (t = 3) || decide (t = 4)) := by
        show some (decide ((t : Int) ∈ ([3, 4] : List Int))) = _
        congr 1
        rw [Bool.eq_iff_iff, decide_eq_true_eq, Bool.or_eq_true, decide_eq_true_eq, decide_eq_true_eq]
        simp only [List.mem_cons, List.not_mem_nil, or_false]
        omega
      simp only [dSet, dwipe, Tg.slots, List.foldl_cons, List.foldl_nil, List.set_cons_zero, List.set_cons_succ]
      walk_at "k7"
      simp only [nD, e1]
      by_cases c1 : t = 1
      · rw [if_pos c1] at hq'
        rw [decide_eq_true c1]
        simp only [up_same, List.isEmpty_map, Bool.false_eq_true, if_false, Bool.bne_false]
        exact hq'
      · rw [if_neg c1] at hq'
        rw [decide_eq_false c1]
        simp only [fIn, up_same, show (Str.ofString "ping") = wOf 3 from rfl, show (Str.ofString "data") = wOf 2 from rfl, inB_k (show 3 ≤ 3 by decide), inB_k (show 2 ≤ 3 by decide), e2, e3]
        generalize hasK 3 fs = b3 at hq' ⊢
        generalize hasK 2 fs = b2 at hq' ⊢
        generalize decide (t = 2) = d2 at hq' ⊢
        generalize (decide (t = 3) || decide (t = 4)) = d3 at hq' ⊢
        cases b3
        · cases d2
          · cases bare
            · exact hq'
            · exact ⟨by show 2 ≤ 100000; decide, hq'⟩
          · cases b2
            · cases bare
              · exact hq'
              · exact ⟨by show 2 ≤ 100000; decide, hq'⟩
            · exact hq'
        · exact hq'
end K7
/-! K7: the law's reading, part 7: frame. -/
namespace K7
open PySem PySem.Spec L2
open PyProof.Rows hiding St

local macro_rules | `(tactic| walk_at "k7") => `(tactic| simp only [dSs, dS, dEs, dE, dI, dSeq, dAsg, dPar, dDrop, dRet, dIfS, dNext, dBrk, dNev, dVar, dC, dNil, dCons, dOp, dCB, dCall, dTup, dTest, dAnd, dOr, dNot, dIf, dChn, dNeg, fB, fAdd, fI, fI0, fEq, fNe, fIsN, fNotN, isNon, fIx, fLen, fMin, fMax, fInt, fTup, fLst,
  dIsi, dSet, setAll, dFor, diSeq, diR1, diR2, diR3, diEn, dLst, dApp, dExt, dRev, dEmp, empB, dSl, dPart, dNoP, dRse, dRank, fDg, isL, up_same, List.getElem?_cons_zero, List.getElem?_cons_succ, List.set_cons_zero, List.set_cons_succ, Bool.not_true, Bool.not_false, Tg.slots])
theorem resL.from {α : Type} {enc : α → D} {r : Addr} {l : List Nat} {M M2 : Mem} {q : D → Mem → Prop} {x : Except Er (α × Nat)} (ex : Ex [r] M M2) (h : resL enc r l M q x) : resL enc r l M2 q x := by
  cases x with
  | ok x => exact fun M' e h' => h M' (ex.trans e) h'
  | error x => exact fun M' p e h' => h M' p (ex.trans e) h'
def p111 : DF := fun ds M q _ => ∃ r a l p fs bare, ds = [.ob r, .ob a, .bl bare] ∧ Byt l ∧ l.length ≤ 5000 ∧ p < l.length ∧ M r = some (kvR l p .non) ∧ a ≠ r ∧ M a = some (.lst (fs.map Fm.d)) ∧ fs.length ≤ 5000 ∧ Ord fs ∧ resL Fm.d r l M q (frR l p fs bare)
theorem k111 {C : Nat → DF} (h103 : C 103 = p103) (h107 : C 107 = p107) (h108 : C 108 = p108) (h109 : C 109 = p109) (h110 : C 110 = p110) : Keeps C t111 p111 := by
  rintro ds M q xi ⟨r, a, l, p, fs, bare, rfl, hb, hl, hp, hm, har, hma, hfl, ho, hq⟩
  refine ⟨rfl, ?_⟩
  show dSs C t111.body _ [some (.ob r), some (.ob a), some (.bl bare), none] M _
  unfold t111
  have a1 : atI (l.map nD) (p : Int) = some (D.int (l.getD p 0 : Nat)) := getD_at hp
  unfold frR at hq
  walk_at "k7"
  rw [show (Str.ofString "at") = kAt from rfl, show (Str.ofString "body") = kBody from rfl, show (Str.ofString "frame") = wFrame from rfl, show (Str.ofString "order") = wOrder from rfl, h103, h107, h108, h109, h110]
  simp only [hm, kvR, dgt_at, dgt_body, oD]
  unfold nD
  dsimp only
  rw [show (fun n : Nat => D.int (n : Int)) = nD from rfl]
  simp only [a1]
  generalize l.getD p 0 = t at hq a1
  by_cases h1 : 1 ≤ t
  · rw [decide_eq_true (show (1 : Int) ≤ (t : Int) by omega)]
    dsimp only
    by_cases h5 : t ≤ 5
    · rw [decide_eq_true (show (t : Int) ≤ 5 by omega)]
      rw [if_pos ⟨h1, h5⟩, ← mayS_law h1 h5 ho] at hq
      refine ⟨t, a, bare, fs, rfl, h1, h5, hfl, hma, fun M1 ex1 => ?_⟩
      have hm1 := ex1 _ _ (by simp) hm
      have hma1 := ex1 _ _ (by simp) hma
      have ex1' : Ex [r] M M1 := ex1.more (by simp)
      cases hs : lawS t fs bare with
      | false =>
        rw [hs, if_neg Bool.false_ne_true] at hq
        simp only [Bool.not_false, hm1, kvR, dgt_at]
        exact ⟨r, wOrder, p, l, p, rfl, hm1, hq _ p (ex1'.trans Ex.refl.at1) up_same⟩
      | true =>
        rw [hs, if_pos rfl] at hq
        simp only [Bool.not_true, dPutD]
        walk_at "k7"
        simp only [hm1, kvR, dgt_at]
        simp only [hm1, kvR, nD]
        refine ⟨by show 3 < 1000; decide, kv_nodup _ _ _, ?_⟩
        rw [dpt_at]
        have ex2 : Ex [r] M (up M1 r (kvR l (p + 1) .non)) := ex1'.trans Ex.refl.at1
        have hm2 : (up M1 r (kvR l (p + 1) .non)) r = some (kvR l (p + 1) .non) := up_same
        have hma2 : (up M1 r (kvR l (p + 1) .non)) a = some (.lst (fs.map Fm.d)) := (up_ne har).trans hma1
        have hq2 := hq.from ex2
        by_cases c5 : t = 5
        · subst c5
          exact ⟨by show 1 ≤ 100000; decide, hq2 _ Ex.refl hm2⟩
        · rw [decide_eq_false (show ¬ (t : Int) = 5 by omega)]
          dsimp only
          by_cases c1 : t = 1
          · subst c1
            exact ⟨r, l, p, rfl, hb, hl, hp, hm2, hq2⟩
          · rw [decide_eq_false (show ¬ (t : Int) = 1 by omega)]
            dsimp only
            rw [if_neg c1] at hq2
            by_cases c2 : t = 2
            · subst c2
              exact ⟨r, a, l, p, fs, rfl, hb, hl, hp, hm2, har, hma2, hq2⟩
            · rw [decide_eq_false (show ¬ (t : Int) = 2 by omega)]
              rw [if_neg c2, if_neg c5] at hq2
              rw [show decide ((t : Int) = 4) = decide (t = 4) from decide_eq_decide.mpr (by omega)]
              exact ⟨r, _, l, p, rfl, hb, hl, hp, hm2, hq2⟩
    · rw [decide_eq_false (show ¬ (t : Int) ≤ 5 by omega)]
      rw [if_neg fun z => h5 z.2] at hq
      simp only [Bool.not_false, hm, kvR, dgt_at]
      exact ⟨r, wFrame, p, l, p, rfl, hm, hq _ p Ex.refl.at1 up_same⟩
  · rw [decide_eq_false (show ¬ (1 : Int) ≤ (t : Int) by omega)]
    rw [if_neg fun z => h1 z.1] at hq
    simp only [Bool.not_false, hm, kvR, dgt_at]
    exact ⟨r, wFrame, p, l, p, rfl, hm, hq _ p Ex.refl.at1 up_same⟩
/-! ### what a frame read is -/
theorem ackR_k {l : List Nat} {p e : Nat} {g : Fm} (h : ackR l p = .ok (g, e)) : ∃ rs dl, g = .ack rs dl := by
  unfold ackR at h
  split at h
  · cases h
  · split at h
    · split at h
      · cases h
      · split at h
        · cases h
        · cases h
          exact ⟨_, _, rfl⟩
    · cases h
theorem roomR_k {l : List Nat} {p e : Nat} {fs : List Fm} {g : Fm} (h : roomR l p fs = .ok (g, e)) : ∃ s a b, g = .room s a b ∧ roomBad s fs = false := by
  unfold roomR at h
  split at h
  · cases h
  · split at h
    · cases h
    · rename_i hr
      split at h
      · cases h
      · split at h
        · cases h
        · cases h
          exact ⟨_, _, _, rfl, Bool.eq_false_iff.2 hr⟩
theorem dataR_k {l : List Nat} {p e : Nat} {b : Bool} {g : Fm} (h : dataR l p b = .ok (g, e)) : ∃ s low o, g = .data s low o b := by
  unfold dataR at h
  split at h
  · cases h
  · split at h
    · cases h
    · split at h
      · cases h
      · split at h
        · cases h
          exact ⟨_, _, _, rfl⟩
        · cases h
theorem roomOk_of {s a b : Nat} {fs : List Fm} (h : roomBad s fs = false) : roomOk (.room s a b) fs = true := by
  unfold roomBad at h
  unfold roomOk
  dsimp only
  cases e : fs.getLast? with
  | none => rfl
  | some g =>
    rw [e] at h
    cases g with
    | room s2 a2 b2 =>
      dsimp only at h ⊢
      have := of_decide_eq_false h
      exact decide_eq_true (by omega)
    | _ => rfl
theorem frR_next {l : List Nat} {p e : Nat} {fs : List Fm} {bare : Bool} {g : Fm} (h : frR l p fs bare = .ok (g, e)) : nextF g fs bare = true := by
  unfold frR at h
  split at h
  · rename_i hr
    split at h
    · rename_i hm
      unfold nextF
      split at h
      · rename_i e1
        obtain ⟨_, _, rfl⟩ := ackR_k h
        rw [e1] at hm
        rw [Bool.and_eq_true]
        exact ⟨hm, rfl⟩
      · split at h
        · rename_i e2
          obtain ⟨_, _, _, rfl, hb⟩ := roomR_k h
          rw [e2] at hm
          rw [Bool.and_eq_true]
          exact ⟨hm, roomOk_of hb⟩
        · split at h
          · rename_i e5
            cases h
            rw [e5] at hm
            rw [Bool.and_eq_true]
            exact ⟨hm, rfl⟩
          · rename_i n1 n2 n5
            obtain ⟨_, _, _, rfl⟩ := dataR_k h
            unfold srt at hm
            rw [if_neg n1, if_neg n2, if_neg n5] at hm
            rw [Bool.and_eq_true]
            exact ⟨hm, rfl⟩
    · cases h
  · cases h
theorem next_ord {fs : List Fm} {bare : Bool} {g : Fm} (h : nextF g fs bare = true) (ho : Ord fs) : Ord (fs ++ [g]) := by
  unfold nextF at h
  rw [Bool.and_eq_true] at h
  have h1 := h.1
  unfold Ord
  rw [List.pairwise_append]
  refine ⟨ho, List.pairwise_singleton _ _, fun f hf y hy => ?_⟩
  rw [List.mem_singleton] at hy
  subst hy
  rcases nil_or_last fs with rfl | ⟨r, z, rfl⟩
  · cases hf
  · unfold mayS at h1
    rw [show (r ++ [z]).getLast? = some z by simp] at h1
    dsimp only at h1
    have := ord_last ho f hf
    simp only [Bool.and_eq_true, Bool.or_eq_true, decide_eq_true_eq] at h1
    omega
end K7
/-! K7: plain: the division. -/
namespace K7
open PySem PySem.Spec L2
open PyProof.Rows hiding St

local macro_rules | `(tactic| walk_at "k7") => `(tactic| simp only [dSs, dS, dEs, dE, dI, dSeq, dAsg, dPar, dDrop, dRet, dIfS, dNext, dBrk, dNev, dVar, dC, dNil, dCons, dOp, dCB, dCall, dTup, dTest, dAnd, dOr, dNot, dIf, dChn, dNeg, fB, fAdd, fI, fI0, fEq, fNe, fIsN, fNotN, isNon, fIx, fLen, fMin, fMax, fInt, fTup, fLst,
  dIsi, dSet, setAll, dFor, diSeq, diR1, diR2, diR3, diEn, dLst, dApp, dExt, dRev, dEmp, empB, dSl, dPart, dNoP, dRse, dRank, fDg, isL, up_same, List.getElem?_cons_zero, List.getElem?_cons_succ, List.set_cons_zero, List.set_cons_succ, Bool.not_true, Bool.not_false, Tg.slots])
theorem xor2 (a b : Nat) : (a ^^^ b) / 2 = a / 2 ^^^ b / 2 := by
  apply Nat.eq_of_testBit_eq
  intro i
  rw [Nat.testBit_div_two, Nat.testBit_xor, Nat.testBit_xor, Nat.testBit_div_two, Nat.testBit_div_two]
theorem xorm2 (a b : Nat) : (a ^^^ b) % 2 = (a % 2) ^^^ (b % 2) := by
  have h := Nat.xor_mod_two_pow (a := a) (b := b) (n := 1)
  exact h
theorem xorD (a b n : Nat) : (a ^^^ b) / 2 ^ n = a / 2 ^ n ^^^ b / 2 ^ n := by
  rw [← Nat.shiftRight_eq_div_pow, ← Nat.shiftRight_eq_div_pow, ← Nat.shiftRight_eq_div_pow, Nat.shiftRight_xor_distrib]
theorem xorM (a b n : Nat) : (a ^^^ b) * 2 ^ n = a * 2 ^ n ^^^ b * 2 ^ n := by
  rw [← Nat.shiftLeft_eq, ← Nat.shiftLeft_eq, ← Nat.shiftLeft_eq, Nat.shiftLeft_xor_distrib]
/-- the rest of the division, digit by digit -/
def md (n : Nat) : Nat := if h : n = 0 then 0 else mvN (md (n / 2)) ^^^ (n % 2)
termination_by n
decreasing_by omega
theorem md0 : md 0 = 0 := by rw [md, dif_pos rfl]
theorem mv0 : mvN 0 = 0 := by decide
theorem md_eq (n : Nat) : md n = mvN (md (n / 2)) ^^^ (n % 2) := by
  by_cases h : n = 0
  · subst h
    show md 0 = mvN (md 0) ^^^ 0
    rw [md0, mv0]
    rfl
  · rw [md, dif_neg h]
theorem one_lt {x : Nat} (h : x < 2 ^ 32) {b : Nat} (hb : b < 2) : x ^^^ b < 2 ^ 32 := Nat.xor_lt_two_pow h (by omega)
theorem md_lt (n : Nat) : md n < 2 ^ 32 := by
  induction n using Nat.strongRecOn with
  | _ n ih =>
    by_cases h : n = 0
    · subst h; rw [md0]; decide
    · rw [md_eq]
      exact one_lt (mvN_lt (ih (n / 2) (by omega))) (Nat.mod_lt _ (by decide))
theorem mv_as {a : Nat} (h : a < 2 ^ 32) : mvN a = a * 2 ^ 1 ^^^ P32 * (a / 2 ^ 31) := by
  unfold mvN
  split
  · rw [show a / 2 ^ 31 = 1 by omega, Nat.mul_one, Nat.mul_comm a]
  · rw [show a / 2 ^ 31 = 0 by omega, Nat.mul_zero, Nat.xor_zero, Nat.mul_comm a]
theorem P_lin {x y : Nat} (hx : x < 2) (hy : y < 2) : P32 * (x ^^^ y) = P32 * x ^^^ P32 * y := by
  have h1 : x = 0 ∨ x = 1 := by omega
  have h2 : y = 0 ∨ y = 1 := by omega
  rcases h1 with rfl | rfl <;> rcases h2 with rfl | rfl <;> decide
theorem x4 (a b c d : Nat) : (a ^^^ b) ^^^ (c ^^^ d) = (a ^^^ c) ^^^ (b ^^^ d) := by
  rw [Nat.xor_assoc, Nat.xor_assoc]
  congr 1
  rw [← Nat.xor_assoc, Nat.xor_comm b c, Nat.xor_assoc]
theorem mv_lin {a b : Nat} (ha : a < 2 ^ 32) (hb : b < 2 ^ 32) : mvN (a ^^^ b) = mvN a ^^^ mvN b := by
  rw [mv_as (Nat.xor_lt_two_pow ha hb), mv_as ha, mv_as hb, xorM, xorD, P_lin (by omega) (by omega), x4]
theorem md_lin : ∀ (a b : Nat), md (a ^^^ b) = md a ^^^ md b := by
  intro a
  induction a using Nat.strongRecOn with
  | _ a ih =>
    intro b
    by_cases h : a = 0
    · subst h
      rw [Nat.zero_xor, md0, Nat.zero_xor]
    · rw [md_eq (a ^^^ b), xor2, xorm2, ih (a / 2) (by omega), mv_lin (md_lt _) (md_lt _), x4, ← md_eq, ← md_eq]
theorem md_id : ∀ (n : Nat), n < 2 ^ 32 → md n = n := by
  intro n
  induction n using Nat.strongRecOn with
  | _ n ih =>
    intro h
    by_cases h0 : n = 0
    · subst h0; exact md0
    · rw [md_eq, ih (n / 2) (by omega) (by omega)]
      unfold mvN
      rw [if_neg (by omega)]
      have : 2 * (n / 2) ^^^ n % 2 = n := by
        apply Nat.eq_of_testBit_eq
        intro i
        rw [Nat.testBit_xor]
        cases i with
        | zero => simp [Nat.testBit_zero]
        | succ i =>
          rw [Nat.testBit_succ (2 * (n / 2)), Nat.testBit_succ (n % 2), Nat.testBit_succ n, show n % 2 / 2 = 0 by omega, Nat.zero_testBit, Bool.xor_false, show 2 * (n / 2) / 2 = n / 2 by omega]
      exact this
theorem md_dbl (n : Nat) : md (n * 2) = mvN (md n) := by
  rw [md_eq, Nat.mul_div_cancel _ (by decide), Nat.mul_mod_left, Nat.xor_zero]
theorem md_P : md P32 = 0 := by
  rw [md_eq, md_id _ (by decide)]
  decide
theorem md_PP : ∀ k, md (P32 * 2 ^ k) = 0
  | 0 => by rw [Nat.pow_zero, Nat.mul_one]; exact md_P
  | k + 1 => by rw [Nat.pow_succ, ← Nat.mul_assoc, md_dbl, md_PP k, mv0]
/-! ### the law's division -/
theorem bits_of {v b : Nat} (h : v < 2 ^ b) : bitsN v ≤ b := by
  exact bits_le h
theorem left_md : ∀ (n v : Nat), bitsN v ≤ n → leftG n v = md v
  | 0, v, h => by
    have := bits_pow v
    rw [show bitsN v = 0 by omega] at this
    have : v = 0 := by simpa using this
    subst this
    exact md0.symm
  | n + 1, v, h => by
    unfold leftG
    split
    · rename_i hb
      have := bits_pow v
      have h2 : 2 ^ bitsN v ≤ 2 ^ 32 := Nat.pow_le_pow_right (by decide) (by omega)
      exact (md_id v (by omega)).symm
    · rename_i hb
      have hlt := bits_pow v
      have hge : 2 ^ (bitsN v - 1) ≤ v := by
        refine Nat.le_of_not_lt fun hh => ?_
        have := bits_of hh
        omega
      generalize bitsN v = b at *
      have hb' : b = (b - 33) + 33 := by omega
      have hP1 : P32 * 2 ^ (b - 33) < 2 ^ b := by
        rw [hb', Nat.pow_add, Nat.add_sub_cancel, Nat.mul_comm]
        exact (Nat.mul_lt_mul_left (Nat.two_pow_pos _)).2 (by decide)
      have hP2 : 2 ^ (b - 1) ≤ P32 * 2 ^ (b - 33) := by
        rw [show b - 1 = (b - 33) + 32 by omega, Nat.pow_add, Nat.mul_comm]
        exact Nat.mul_le_mul_right _ (by decide)
      have tb : ∀ x, 2 ^ (b - 1) ≤ x → x < 2 ^ b → x.testBit (b - 1) = true := fun x h1 h2 => by
        rw [Nat.testBit_eq_decide_div_mod_eq]
        refine decide_eq_true ?_
        have e : 2 ^ b = 2 ^ (b - 1) * 2 := by rw [← Nat.pow_succ, show (b - 1).succ = b by omega]
        have : x / 2 ^ (b - 1) = 1 := by
          refine Nat.div_eq_of_lt_le (by omega) (by omega)
        rw [this]
      have hw : v ^^^ P32 * 2 ^ (b - 33) < 2 ^ (b - 1) := by
        refine Nat.lt_pow_two_of_testBit _ fun i hi => ?_
        by_cases hi' : i = b - 1
        · subst hi'
          rw [Nat.testBit_xor, tb _ hge hlt, tb _ hP2 hP1]
          rfl
        · have hx : v ^^^ P32 * 2 ^ (b - 33) < 2 ^ b := Nat.xor_lt_two_pow hlt hP1
          refine Nat.testBit_lt_two_pow (Nat.lt_of_lt_of_le hx (Nat.pow_le_pow_right (by decide) (by omega)))
      rw [left_md n _ (by have := bits_of hw; omega), md_lin, md_PP, Nat.xor_zero]
theorem leftN_md (v : Nat) : leftN v = md v := left_md _ _ (Nat.le_refl _)
/-! ### the program's table -/
theorem it_md : ∀ (k r : Nat), r < 2 ^ 32 → itN k r = md (r * 2 ^ k)
  | 0, r, h => by
    rw [Nat.pow_zero, Nat.mul_one, md_id r h]
    rfl
  | k + 1, r, h => by
    show itN k (mvN r) = _
    rw [it_md k _ (mvN_lt h)]
    have : ∀ j x, md (md x * 2 ^ j) = md (x * 2 ^ j) := by
      intro j
      induction j with
      | zero => intro x; rw [Nat.pow_zero, Nat.mul_one, Nat.mul_one, md_id _ (md_lt _)]
      | succ j ih => intro x; rw [Nat.pow_succ, ← Nat.mul_assoc, md_dbl, ih, ← md_dbl, Nat.mul_assoc]
    rw [show mvN r = md (r * 2) by rw [md_dbl, md_id r h], this, Nat.pow_succ, Nat.mul_assoc, Nat.mul_comm 2]
theorem md_mul (j x : Nat) : md (md x * 2 ^ j) = md (x * 2 ^ j) := by
  induction j generalizing x with
  | zero => rw [Nat.pow_zero, Nat.mul_one, Nat.mul_one, md_id _ (md_lt _)]
  | succ j ih => rw [Nat.pow_succ, ← Nat.mul_assoc, md_dbl, ih, ← md_dbl, Nat.mul_assoc]
theorem add_is_xor {a b n : Nat} (h : b < 2 ^ n) : a * 2 ^ n + b = a * 2 ^ n ^^^ b := by
  apply Nat.eq_of_testBit_eq
  intro i
  rw [Nat.testBit_xor, Nat.mul_comm a, Nat.testBit_two_pow_mul_add a h, Nat.testBit_two_pow_mul]
  by_cases hi : i < n
  · rw [if_pos hi]
    simp [Nat.not_le.2 hi]
  · rw [if_neg hi, Nat.testBit_lt_two_pow (Nat.lt_of_lt_of_le h (Nat.pow_le_pow_right (by decide) (by omega)))]
    simp [Nat.le_of_not_lt hi]
theorem nib_md {s v : Nat} (hs : s < 2 ^ 32) (hv : v < 16) : nib s v = md (s * 16 + v) := by
  unfold nib
  have h16 : s / 2 ^ 28 < 16 := by omega
  have e1 : fourT.getD (s / 2 ^ 28) 0 = md (s / 2 ^ 28 * 2 ^ 32) := by
    rw [← it_md 32 _ (by omega)]
    unfold fourT
    generalize s / 2 ^ 28 = t at h16
    have : (List.range 16)[t]? = some t := by rw [List.getElem?_range h16]
    rw [List.getD_eq_getElem?_getD, List.getElem?_map, this, Option.map_some, Option.getD_some]
  have e2 : s * 16 &&& 4294967295 = s % 2 ^ 28 * 16 := by
    rw [show (4294967295 : Nat) = 2 ^ 32 - 1 from rfl, Nat.and_two_pow_sub_one_eq_mod]
    omega
  have e3 : s * 16 + v = s / 2 ^ 28 * 2 ^ 32 ^^^ (s % 2 ^ 28 * 16 ^^^ v) := by
    have a1 : s % 2 ^ 28 * 16 ^^^ v = s % 2 ^ 28 * 16 + v := (add_is_xor (n := 4) hv).symm
    rw [a1, ← add_is_xor (show s % 2 ^ 28 * 16 + v < 2 ^ 32 by omega)]
    omega
  rw [e1, e2, e3, md_lin, md_id (s % 2 ^ 28 * 16 ^^^ v) (Nat.xor_lt_two_pow (by omega) (by omega)), Nat.xor_assoc]
theorem stp_md {s o : Nat} (hs : s < 2 ^ 32) (ho : o < 256) : stp s o = md (s * 256 + o) := by
  unfold stp
  have hl : o &&& 15 = o % 16 := Nat.and_two_pow_sub_one_eq_mod o 4
  rw [nib_md hs (show o / 16 < 16 by omega), hl, nib_md (md_lt _) (by omega)]
  have e1 : md (s * 16 + o / 16) * 16 + o % 16 = md (s * 16 + o / 16) * 2 ^ 4 ^^^ o % 16 := add_is_xor (n := 4) (by omega)
  have e2 : s * 256 + o = (s * 16 + o / 16) * 2 ^ 4 ^^^ o % 16 := by
    rw [← add_is_xor (n := 4) (show o % 16 < 2 ^ 4 by omega)]
    omega
  rw [e1, e2, md_lin, md_lin, md_mul]
theorem fold_md : ∀ (l : List Nat) (s x : Nat), Byt l → s = md x → l.foldl stp s = md (l.foldl (fun a x => a * 256 + x) x)
  | [], _, _, _, h => h
  | o :: r, s, x, hb, h => by
    have ho := hb o List.mem_cons_self
    refine fold_md r _ _ (fun y hy => hb y (List.mem_cons_of_mem _ hy)) ?_
    subst h
    show stp (md x) o = md (x * 256 + o)
    rw [stp_md (md_lt _) ho, show (256 : Nat) = 2 ^ 8 from rfl, add_is_xor (n := 8) ho, add_is_xor (n := 8) ho, md_lin, md_lin, md_mul]
theorem rest_md {l : List Nat} (hb : Byt l) : restF l = md (rowN l) := fold_md l 0 0 hb md0.symm
theorem row_app (a b : List Nat) : rowN (a ++ b) = rowN a * 256 ^ b.length + rowN b := by
  have key : ∀ (b : List Nat) (x : Nat), b.foldl (fun a x => a * 256 + x) x = x * 256 ^ b.length + b.foldl (fun a x => a * 256 + x) 0 := by
    intro b
    induction b with
    | nil => intro x; show x = x * 1 + 0; omega
    | cons o r ih =>
      intro x
      rw [List.foldl_cons, List.foldl_cons, ih, ih (0 * 256 + o), List.length_cons, Nat.pow_succ, Nat.add_mul, Nat.zero_mul, Nat.zero_add, Nat.mul_assoc, Nat.mul_comm 256, Nat.add_assoc]
  unfold rowN
  rw [List.foldl_append, key]
theorem row_four {r : Nat} (h : r < 2 ^ 32) : rowN (fourO r) = r := by
  unfold rowN fourO
  simp only [List.foldl_cons, List.foldl_nil]
  omega
/-- the law's check is the program's -/
theorem lawR_chk {l : List Nat} (hb : Byt l) : lawR l = chkR l := by
  have hB := byt_app byt_beg hb
  unfold lawR chkR
  rw [leftN_md, rest_md (byt_app hB byt_zero), row_app (begO ++ l) [0, 0, 0, 0], show ([0, 0, 0, 0] : List Nat).length = 4 from rfl, show rowN [0, 0, 0, 0] = 0 from rfl, Nat.add_zero, show (256 : Nat) ^ 4 = 2 ^ 32 from rfl]
theorem lawR_lt (l : List Nat) : lawR l < 2 ^ 32 := by
  unfold lawR
  rw [leftN_md]
  exact md_lt _
theorem byt_four {r : Nat} (h : r < 2 ^ 32) : Byt (fourO r) := by
  intro x hx
  simp only [fourO, List.mem_cons, List.not_mem_nil, or_false] at hx
  omega
/-- what is closed by its check leaves no rest -/
theorem rest_closed {l : List Nat} (hb : Byt l) : restF (begO ++ (l ++ fourO (lawR l))) = 0 := by
  have hB := byt_app byt_beg hb
  have e : md (rowN (begO ++ l) * 2 ^ 32) = lawR l := (leftN_md _).symm
  have hlt := lawR_lt l
  generalize lawR l = r at e hlt
  rw [← List.append_assoc, rest_md (byt_app hB (byt_four hlt)), row_app, row_four hlt, show (fourO r).length = 4 from rfl, show (256 : Nat) ^ 4 = 2 ^ 32 from rfl, add_is_xor hlt, md_lin, md_id _ hlt, e, Nat.xor_self]
/-! ### one turned bit -/
theorem mv_ne {r : Nat} (h : r ≠ 0) : mvN r ≠ 0 := by
  unfold mvN
  split
  · intro e
    have h1 : (2 * r ^^^ P32) % 2 = 0 := by rw [e]
    rw [xorm2, Nat.mul_mod_right] at h1
    revert h1
    decide
  · omega
theorem md_pow : ∀ k, md (2 ^ k) ≠ 0
  | 0 => by rw [Nat.pow_zero, md_id 1 (by decide)]; decide
  | k + 1 => by rw [Nat.pow_succ, md_dbl]; exact mv_ne (md_pow k)
theorem row_turn : ∀ (l : List Nat) (k : Nat), Byt l → k < 8 * l.length → ∃ j, rowN (turnN l k) = rowN l ^^^ 2 ^ j := by
  intro l k hb hk
  have hi : k / 8 < l.length := by omega
  obtain ⟨m, hm⟩ : ∃ m, l.length - 1 - k / 8 = m := ⟨_, rfl⟩
  refine ⟨8 * m + (7 - k % 8), ?_⟩
  unfold turnN
  have es : l = l.take (k / 8) ++ (l.getD (k / 8) 0 :: l.drop (k / 8 + 1)) := by
    rw [List.getD_eq_getElem?_getD, List.getElem?_eq_getElem hi]
    show l = _ ++ (l[k / 8] :: _)
    rw [List.getElem_cons_drop, List.take_append_drop]
  have et : ∀ x, l.set (k / 8) x = l.take (k / 8) ++ (x :: l.drop (k / 8 + 1)) := fun x => by
    rw [List.set_eq_take_append_cons_drop, if_pos hi]
  have hx : l.getD (k / 8) 0 < 256 := by
    rw [List.getD_eq_getElem?_getD, List.getElem?_eq_getElem hi]
    exact hb _ (List.getElem_mem hi)
  have row_cons : ∀ (x : Nat) (r : List Nat), rowN (x :: r) = x * 256 ^ r.length + rowN r := fun x r => by
    have := row_app [x] r
    rw [show rowN [x] = x by unfold rowN; simp] at this
    exact this
  have hr : rowN (l.drop (k / 8 + 1)) < 256 ^ (l.drop (k / 8 + 1)).length := by
    have := rowN_lt (l.drop (k / 8 + 1)) 0 0 (fun y hy => hb y (List.mem_of_mem_drop hy)) (by decide)
    rw [Nat.zero_add] at this
    exact this
  rw [et]
  conv => rhs; rw [es]
  rw [row_app, row_app, row_cons, row_cons]
  have hlen : (l.drop (k / 8 + 1)).length = m := by rw [List.length_drop]; omega
  simp only [List.length_cons, hlen] at hr ⊢
  generalize l.getD (k / 8) 0 = x at hx ⊢
  generalize rowN (l.take (k / 8)) = A
  generalize rowN (l.drop (k / 8 + 1)) = B at hr ⊢
  have hb8 : 128 / 2 ^ (k % 8) = 2 ^ (7 - k % 8) := by
    have h8 : k % 8 < 8 := Nat.mod_lt _ (by decide)
    generalize k % 8 = j at h8
    have : j = 0 ∨ j = 1 ∨ j = 2 ∨ j = 3 ∨ j = 4 ∨ j = 5 ∨ j = 6 ∨ j = 7 := by omega
    rcases this with rfl | rfl | rfl | rfl | rfl | rfl | rfl | rfl <;> rfl
  have p7 : 2 ^ (7 - k % 8) < 2 ^ 8 := Nat.pow_lt_pow_right (by decide) (by omega)
  rw [hb8]
  have e256 : ∀ n : Nat, (256 : Nat) ^ n = 2 ^ (8 * n) := fun n => by rw [Nat.pow_mul]
  rw [e256] at hr
  rw [e256, e256, Nat.mul_add 8 m 1, Nat.pow_add]
  have hA : ∀ y, y < 256 → A * (2 ^ (8 * m) * 2 ^ (8 * 1)) + (y * 2 ^ (8 * m) + B) = (A * 2 ^ 8 ^^^ y) * 2 ^ (8 * m) ^^^ B := fun y hy => by
    rw [← add_is_xor (n := 8) hy, ← add_is_xor hr, Nat.add_mul, Nat.add_assoc, Nat.mul_assoc, Nat.mul_comm (2 ^ 8) (2 ^ (8 * m))]
  rw [hA _ (Nat.xor_lt_two_pow (n := 8) hx p7), hA _ hx, ← Nat.xor_assoc, xorM, Nat.pow_add, Nat.mul_comm (2 ^ (8 * m)) (2 ^ (7 - k % 8)), Nat.xor_assoc, Nat.xor_assoc, Nat.xor_comm _ B]
/-- one turned bit is seen -/
theorem rest_turned {l : List Nat} {k : Nat} (hb : Byt l) (hbt : Byt (turnN l k)) (hk : k < 8 * l.length) (h0 : restF (begO ++ l) = 0) : restF (begO ++ turnN l k) ≠ 0 := by
  obtain ⟨j, e⟩ := row_turn l k hb hk
  have hl : (turnN l k).length = l.length := by unfold turnN; rw [List.length_set]
  rw [rest_md (byt_app byt_beg hbt), row_app, e, hl]
  rw [rest_md (byt_app byt_beg hb), row_app] at h0
  have hlt : rowN l < 256 ^ l.length := by
    have := rowN_lt l 0 0 hb (by decide)
    rw [Nat.zero_add] at this
    exact this
  have hlt2 : rowN l ^^^ 2 ^ j < 256 ^ l.length := by
    rw [← e, ← hl]
    have := rowN_lt (turnN l k) 0 0 hbt (by decide)
    rw [Nat.zero_add] at this
    exact this
  rw [show (256 : Nat) = 2 ^ 8 from rfl, ← Nat.pow_mul] at *
  rw [add_is_xor hlt2, ← Nat.xor_assoc, ← add_is_xor hlt, md_lin, h0, Nat.zero_xor]
  exact md_pow j
end K7
/-! K7: plain: what is read is what is written. -/
namespace K7
open PySem PySem.Spec L2
open PyProof.Rows hiding St

local macro_rules | `(tactic| walk_at "k7") => `(tactic| simp only [dSs, dS, dEs, dE, dI, dSeq, dAsg, dPar, dDrop, dRet, dIfS, dNext, dBrk, dNev, dVar, dC, dNil, dCons, dOp, dCB, dCall, dTup, dTest, dAnd, dOr, dNot, dIf, dChn, dNeg, fB, fAdd, fI, fI0, fEq, fNe, fIsN, fNotN, isNon, fIx, fLen, fMin, fMax, fInt, fTup, fLst,
  dIsi, dSet, setAll, dFor, diSeq, diR1, diR2, diR3, diEn, dLst, dApp, dExt, dRev, dEmp, empB, dSl, dPart, dNoP, dRse, dRank, fDg, isL, up_same, List.getElem?_cons_zero, List.getElem?_cons_succ, List.set_cons_zero, List.set_cons_succ, Bool.not_true, Bool.not_false, Tg.slots])
/-! ### a number read is the number written -/
theorem hiG_fuel : ∀ (k j m : Nat), m < 128 ^ k → m < 128 ^ j → hiG k m = hiG j m
  | 0, j, m, h, _ => by
    have : m = 0 := by simpa using h
    subst this
    rw [hiG_zero, hiG_zero]
  | k + 1, 0, m, _, h => by
    have : m = 0 := by simpa using h
    subst this
    rw [hiG_zero, hiG_zero]
  | k + 1, j + 1, m, h1, h2 => by
    unfold hiG
    rw [Nat.pow_succ] at h1 h2
    rw [hiG_fuel k j (m / 128) (by omega) (by omega)]
theorem num_inv : ∀ (k : Nat) (f : Bool) (acc a : Nat) (s : List Nat) (n e : Nat), numG k f acc a s = some (n, e) → Byt s → k ≤ 9 → acc < 128 ^ (9 - k) → (f = true → acc = 0) → (f = false → 0 < acc) → ∃ g t, s = g ++ t ∧ e = a + g.length ∧ (hiG 9 acc).reverse ++ g = numO n
  | 0, _, _, _, _, _, _, h, _, _, _, _, _ => nomatch h
  | k + 1, _, _, _, [], _, _, h, _, _, _, _, _ => nomatch h
  | k + 1, f, acc, a, o :: r, n, e, h, hb, hk, ha, hf, hg => by
    unfold numG at h
    have ho := hb o List.mem_cons_self
    split at h
    · cases h
    · rename_i hfo
      split at h
      · rename_i h8
        split at h
        · cases h
          refine ⟨[o], r, rfl, rfl, ?_⟩
          unfold numO
          rw [List.reverse_cons, show (acc * 128 + o % 128) % 128 = o by omega, show (acc * 128 + o % 128) / 128 = acc by omega]
        · cases h
      · rename_i h8
        have hpos : 0 < acc * 128 + o % 128 := by
          cases f with
          | true =>
            have : ¬ o = 128 := by simpa using hfo
            omega
          | false =>
            have := hg rfl
            omega
        have hlt : acc * 128 + o % 128 < 128 ^ (9 - k) := by
          rw [show 9 - k = (9 - (k + 1)) + 1 by omega, Nat.pow_succ]
          omega
        obtain ⟨g, t, e1, e2, e3⟩ := num_inv k false _ (a + 1) r n e h (fun y hy => hb y (List.mem_cons_of_mem _ hy)) (by omega) hlt (fun z => nomatch z) (fun _ => hpos)
        refine ⟨o :: g, t, by rw [e1]; rfl, by rw [e2, List.length_cons]; omega, ?_⟩
        rw [← e3]
        have eh : hiG 9 (acc * 128 + o % 128) = o :: hiG 9 acc := by
          rw [show hiG 9 (acc * 128 + o % 128) = if acc * 128 + o % 128 = 0 then [] else (128 + (acc * 128 + o % 128) % 128) :: hiG 8 ((acc * 128 + o % 128) / 128) from rfl, if_neg (by omega), show 128 + (acc * 128 + o % 128) % 128 = o by omega, show (acc * 128 + o % 128) / 128 = acc by omega]
          rw [hiG_fuel 8 9 acc]
          · exact Nat.lt_of_lt_of_le ha (Nat.pow_le_pow_right (by decide) (by omega))
          · exact Nat.lt_of_lt_of_le ha (Nat.pow_le_pow_right (by decide) (by omega))
        rw [eh, List.reverse_cons, List.append_assoc]
        rfl
theorem nAt_inv {l : List Nat} {p n e : Nat} (hb : Byt l) (h : nAt l p = .ok (n, e)) : l.drop p = numO n ++ l.drop e := by
  unfold nAt at h
  split at h
  · rename_i x hx
    cases h
    obtain ⟨g, t, e1, e2, e3⟩ := num_inv 9 true 0 p (l.drop p) n e hx (fun y hy => hb y (List.mem_of_mem_drop hy)) (by decide) (by decide) (fun _ => rfl) (fun z => nomatch z)
    rw [hiG_zero, List.reverse_nil, List.nil_append] at e3
    rw [← e3, e2, ← List.drop_drop, e1, List.drop_left]
  · cases h
theorem drop_at {l : List Nat} {p : Nat} (h : p < l.length) : l.drop p = l.getD p 0 :: l.drop (p + 1) := by
  rw [List.getD_eq_getElem?_getD, List.getElem?_eq_getElem h]
  exact (List.getElem_cons_drop h).symm
theorem hdR_inv {l : List Nat} {h : Hd} {p : Nat} (hb : Byt l) (h1 : 1 ≤ l.length) (e : hdR l = .ok (h, p)) : l = rowH h ++ l.drop p ∧ h.good = true := by
  unfold hdR at e
  split at e
  · cases e
  · rename_i h3
    have e0 : l = l.getD 0 0 :: l.drop 1 := drop_at (p := 0) (by omega)
    split at e
    · cases e
    · rename_i m b hm
      have m1 := nAt_ok h1 hm
      have m2 := nAt_inv hb hm
      split at e
      · cases e
      · rename_i r c hr
        have r1 := nAt_ok m1.2.1 hr
        have r2 := nAt_inv hb hr
        split at e
        · cases e
          refine ⟨?_, ?_⟩
          · conv => lhs; rw [e0, m2, r2]
            show _ = (_ :: (_ ++ _)) ++ _
            rw [List.cons_append, List.append_assoc]
          · unfold Hd.good
            simp only [Bool.and_eq_true, decide_eq_true_eq]
            exact ⟨by omega, m1.2.2, r1.2.2, trivial⟩
        · split at e
          · cases e
          · rename_i k d hk
            have k1 := nAt_ok r1.2.1 hk
            have k2 := nAt_inv hb hk
            cases e
            refine ⟨?_, ?_⟩
            · conv => lhs; rw [e0, m2, r2, k2]
              show _ = ((l.getD 0 0 - 2 + 2) :: (_ ++ _ ++ _)) ++ _
              rw [List.cons_append, List.append_assoc, List.append_assoc, show l.getD 0 0 - 2 + 2 = l.getD 0 0 by omega]
            · unfold Hd.good
              simp only [Bool.and_eq_true, decide_eq_true_eq]
              exact ⟨by omega, m1.2.2, r1.2.2, k1.2.2⟩
theorem rgAt_inv {l : List Nat} {p : Nat} {ah : Option Nat} {pr : Nat × Nat} {e : Nat} (hb : Byt l) (hp : p ≤ l.length) (h : rgAt l p ah = .ok (pr, e)) :
    l.drop p = numO (hiN ah pr.2) ++ numO (pr.2 - pr.1 - 1) ++ l.drop e ∧ pr.1 < pr.2 ∧ pr.2 ≤ 2 ^ 60 ∧ (∀ a, ah = some a → pr.2 < a) := by
  unfold rgAt at h
  split at h
  · cases h
  · rename_i told b hb1
    have t1 := nAt_ok hp hb1
    have t2 := nAt_inv hb hb1
    split at h
    · cases h
    · rename_i top ht
      split at h
      · cases h
      · rename_i more e' he
        have u1 := nAt_ok t1.2.1 he
        have u2 := nAt_inv hb he
        split at h
        · rename_i hm
          cases h
          have key : top < 2 ^ 60 ∧ hiN ah (top + 1) = told ∧ (∀ a, ah = some a → top + 1 < a) := by
            unfold topN at ht
            cases ah with
            | none =>
              dsimp only at ht
              split at ht
              · cases ht
                exact ⟨by assumption, rfl, fun a z => nomatch z⟩
              · cases ht
            | some a =>
              dsimp only at ht
              split at ht
              · rename_i z
                cases ht
                refine ⟨z.2, ?_, fun a' z' => ?_⟩
                · show a - (a - 2 - told + 1) - 1 = told
                  omega
                · cases z'
                  omega
              · cases ht
          refine ⟨?_, ?_, ?_, ?_⟩
          · rw [t2, u2]
            dsimp only
            rw [key.2.1, show top + 1 - (top - more) - 1 = more by omega, List.append_assoc]
          · show top - more < top + 1
            omega
          · show top + 1 ≤ 2 ^ 60
            have := key.1
            omega
          · exact key.2.2
        · cases h
theorem ackGo_inv {l : List Nat} (hb : Byt l) : ∀ (n : Nat) {ah : Option Nat} {acc rs : List (Nat × Nat)} {p e : Nat}, p ≤ l.length → ackGo l n ah acc p = .ok (rs, e) → rok (-1) acc = true → ((ah = none ∧ acc = []) ∨ ∃ a h r, ah = some a ∧ acc = (a, h) :: r) →
    ∃ new, rs = new.reverse ++ acc ∧ new.length = n ∧ l.drop p = rngO ah new ++ l.drop e ∧ rok (-1) rs = true
  | 0, _, _, _, _, _, hp, h, ho, _ => by
    cases h
    exact ⟨[], rfl, rfl, rfl, ho⟩
  | n + 1, ah, acc, rs, p, e, hp, h, ho, hi => by
    unfold ackGo at h
    split at h
    · cases h
    · rename_i pr b hpr
      obtain ⟨r1, r2, r3, r4⟩ := rgAt_inv hb hp hpr
      have hok := rgAt_ok hp hpr
      obtain ⟨new, e1, e2, e3, e4⟩ := ackGo_inv hb n hok.2 h (by
        show ((decide (-1 < (pr.1 : Int)) && (decide (pr.1 < pr.2) && decide (pr.2 ≤ 2 ^ 60))) && rok (pr.2 : Int) acc) = true
        simp only [Bool.and_eq_true, decide_eq_true_eq]
        refine ⟨⟨by omega, r2, r3⟩, ?_⟩
        rcases hi with ⟨_, rfl⟩ | ⟨a, hh, r, ea, rfl⟩
        · rfl
        · have := r4 a ea
          have ho' : ((decide (-1 < (a : Int)) && (decide (a < hh) && decide (hh ≤ 2 ^ 60))) && rok (hh : Int) r) = true := ho
          show ((decide ((pr.2 : Int) < (a : Int)) && (decide (a < hh) && decide (hh ≤ 2 ^ 60))) && rok (hh : Int) r) = true
          simp only [Bool.and_eq_true, decide_eq_true_eq] at ho' ⊢
          exact ⟨⟨by omega, ho'.1.2⟩, ho'.2⟩) (.inr ⟨pr.1, pr.2, acc, rfl, rfl⟩)
      refine ⟨pr :: new, ?_, by rw [List.length_cons, e2], ?_, e4⟩
      · rw [e1, List.reverse_cons, List.append_assoc]
        rfl
      · rw [r1, e3]
        show _ = (_ ++ _ ++ _) ++ _
        rw [List.append_assoc, List.append_assoc, List.append_assoc]
theorem ackR_inv {l : List Nat} {p e : Nat} {g : Fm} (hb : Byt l) (hp : p < l.length) (h0 : l.getD p 0 = 1) (h : ackR l p = .ok (g, e)) : l.drop p = rowF g ++ l.drop e ∧ g.good = true := by
  unfold ackR at h
  split at h
  · cases h
  · rename_i many b h1
    have a1 := nAt_ok (by omega) h1
    have a2 := nAt_inv hb h1
    split at h
    · rename_i hm
      split at h
      · cases h
      · rename_i rs b2 h2
        have c1 := ackGo_ok _ a1.2.1 h2
        obtain ⟨new, e1, e2, e3, e4⟩ := ackGo_inv hb many a1.2.1 h2 rfl (.inl ⟨rfl, rfl⟩)
        split at h
        · cases h
        · rename_i dl b3 h3
          have d1 := nAt_ok c1.2 h3
          have d2 := nAt_inv hb h3
          cases h
          rw [List.append_nil] at e1
          have el : rs.length = many := by rw [e1, List.length_reverse, e2]
          have er : rs.reverse = new := by rw [e1, List.reverse_reverse]
          refine ⟨?_, ?_⟩
          · rw [drop_at hp, h0, a2, e3, d2]
            show _ = (1 :: (numO rs.length ++ rngO none rs.reverse ++ numO dl)) ++ _
            rw [el, er, List.cons_append, List.append_assoc, List.append_assoc]
          · show (rok (-1) rs && (decide (1 ≤ rs.length) && (decide (rs.length ≤ 32) && decide (dl ≤ 2 ^ 60)))) = true
            simp only [Bool.and_eq_true, decide_eq_true_eq]
            exact ⟨e4, by omega, by omega, d1.2.2⟩
    · cases h
theorem sAt_inv {l : List Nat} {p s : Nat} (h : sAt l p = .ok s) : p < l.length ∧ s ≤ 15 ∧ l.getD p 0 = s := by
  unfold sAt at h
  split at h
  · rename_i z
    cases h
    exact ⟨z.1, z.2, rfl⟩
  · cases h
theorem roomR_inv {l : List Nat} {p e : Nat} {fs : List Fm} {g : Fm} (hb : Byt l) (hp : p < l.length) (h0 : l.getD p 0 = 2) (h : roomR l p fs = .ok (g, e)) : l.drop p = rowF g ++ l.drop e ∧ g.good = true := by
  unfold roomR at h
  split at h
  · cases h
  · rename_i s hs
    obtain ⟨s1, s2, s3⟩ := sAt_inv hs
    split at h
    · cases h
    · split at h
      · cases h
      · rename_i x b h1
        have a1 := nAt_ok (by omega) h1
        have a2 := nAt_inv hb h1
        split at h
        · cases h
        · rename_i y b2 h2
          have c1 := nAt_ok a1.2.1 h2
          have c2 := nAt_inv hb h2
          cases h
          refine ⟨?_, ?_⟩
          · rw [drop_at hp, h0, drop_at s1, s3, a2, c2]
            show _ = (2 :: s :: (_ ++ _)) ++ _
            rw [List.cons_append, List.cons_append, List.append_assoc]
          · show (decide (s ≤ 15) && (decide (x ≤ 2 ^ 60) && decide (y ≤ 2 ^ 60))) = true
            simp only [Bool.and_eq_true, decide_eq_true_eq]
            exact ⟨s2, a1.2.2, c1.2.2⟩
theorem dataR_inv {l : List Nat} {p e : Nat} {b : Bool} {g : Fm} (hb : Byt l) (hp : p < l.length) (h0 : l.getD p 0 = if b then 4 else 3) (h : dataR l p b = .ok (g, e)) : l.drop p = rowF g ++ l.drop e ∧ g.good = true := by
  unfold dataR at h
  split at h
  · cases h
  · rename_i s hs
    obtain ⟨s1, s2, s3⟩ := sAt_inv hs
    split at h
    · cases h
    · rename_i low x h1
      have a1 := nAt_ok (by omega) h1
      have a2 := nAt_inv hb h1
      split at h
      · cases h
      · rename_i many y h2
        have c1 := nAt_ok a1.2.1 h2
        have c2 := nAt_inv hb h2
        split at h
        · rename_i z
          cases h
          have el : ((l.drop y).take many).length = many := by
            rw [List.length_take, List.length_drop]
            omega
          refine ⟨?_, ?_⟩
          · rw [drop_at hp, h0, drop_at s1, s3, a2, c2]
            show _ = ((if b then 4 else 3) :: s :: (numO low ++ numO ((l.drop y).take many).length ++ (l.drop y).take many)) ++ l.drop (y + many)
            rw [el, List.cons_append, List.cons_append, List.append_assoc, List.append_assoc, ← List.drop_drop, List.take_append_drop]
          · show (decide (s ≤ 15) && ((((l.drop y).take many).all fun x => decide (x < 256)) && ((!((l.drop y).take many).isEmpty || b) && decide (low + ((l.drop y).take many).length ≤ 2 ^ 60 - 1)))) = true
            rw [el]
            simp only [Bool.and_eq_true, decide_eq_true_eq, List.all_eq_true, Bool.or_eq_true, Bool.not_eq_true']
            refine ⟨s2, fun x hx => hb x (List.mem_of_mem_drop (List.mem_of_mem_take hx)), ?_, z.2.1⟩
            rcases z.1 with z1 | z1
            · exact .inr z1
            · refine .inl ?_
              cases e : ((l.drop y).take many) with
              | nil => rw [e] at el; simp at el; omega
              | cons _ _ => rfl
        · cases h
theorem frR_inv {l : List Nat} {p e : Nat} {fs : List Fm} {bare : Bool} {g : Fm} (hb : Byt l) (hp : p < l.length) (h : frR l p fs bare = .ok (g, e)) : l.drop p = rowF g ++ l.drop e ∧ g.good = true := by
  unfold frR at h
  split at h
  · rename_i hr
    split at h
    · split at h
      · rename_i e1
        exact ackR_inv hb hp e1 h
      · split at h
        · rename_i e2
          exact roomR_inv hb hp e2 h
        · split at h
          · rename_i e5
            cases h
            exact ⟨by rw [drop_at hp, e5]; rfl, rfl⟩
          · rename_i n1 n2 n5
            refine dataR_inv hb hp ?_ h
            by_cases h4 : l.getD p 0 = 4
            · rw [h4]; rfl
            · rw [decide_eq_false h4, if_neg Bool.false_ne_true]
              omega
    · cases h
  · cases h
/-! ### frames as values -/
theorem natD_nD (n : Nat) : natD (nD n) = n := rfl
theorem map_natD (o : List Nat) : (o.map nD).map natD = o := by
  rw [List.map_map]
  exact List.map_id' o
theorem toF_d (f : Fm) : toF f.d = f := by
  cases f with
  | ack rs dl =>
    have e : (rs.map prD).map prN = rs := by
      rw [List.map_map]
      exact List.map_id' rs
    show (if wAck = wAck then Fm.ack ((rs.map prD).map prN) (natD (nD dl)) else Fm.ping) = _
    rw [if_pos rfl, e]
    rfl
  | room s h l => rfl
  | data s low o e =>
    show (if wData = wAck then Fm.ping else Fm.data (natD (nD s)) (natD (nD low)) ((o.map nD).map natD) e) = _
    rw [if_neg (by decide), map_natD]
    rfl
  | ping => rfl
theorem fGo_cons (bare : Bool) (n : Nat) (acc : List Fm) {f : Fm} (r : List D) (h : f.good = true) (hn : nextF f acc bare = true) : fGo bare n acc (f.d :: r) = fGo bare (n + 1) (acc ++ [f]) r := by
  show (if frameB f.d then (if nextF (toF f.d) acc bare then fGo bare (n + 1) (acc ++ [toF f.d]) r else _) else _) = _
  rw [frame_to h, if_pos rfl, toF_d, hn, if_pos rfl]
theorem bodyGo_inv {l : List Nat} {bare : Bool} (hb : Byt l) : ∀ (n : Nat) {fs fs' : List Fm} {p : Nat}, p ≤ l.length → l.length ≤ p + n → bodyGo l bare n fs p = .ok fs' → ∀ k, ∃ new, fs' = fs ++ new ∧ l.drop p = (new.map rowF).flatten ∧ (∀ f ∈ new, f.good = true) ∧ fGo bare k fs (new.map Fm.d) = .non
  | 0, fs, fs', p, h1, h2, h, k => by
    cases h
    refine ⟨[], by rw [List.append_nil], ?_, (fun f hf => by cases hf), rfl⟩
    rw [List.drop_eq_nil_of_le (by omega)]
    rfl
  | n + 1, fs, fs', p, h1, h2, h, k => by
    unfold bodyGo at h
    split at h
    · rename_i hp
      split at h
      · cases h
      · rename_i g p' hg
        have hok := frR_ok hp hg
        obtain ⟨i1, i2⟩ := frR_inv hb hp hg
        have hn := frR_next hg
        obtain ⟨new, e1, e2, e3, e4⟩ := bodyGo_inv hb n (by omega) (by omega) h (k + 1)
        refine ⟨g :: new, ?_, ?_, ?_, ?_⟩
        · rw [e1, List.append_assoc]; rfl
        · rw [i1, e2]; rfl
        · intro f hf
          rcases List.mem_cons.mp hf with rfl | hf
          · exact i2
          · exact e3 f hf
        · rw [List.map_cons, fGo_cons bare k fs _ i2 hn]
          exact e4
    · rename_i hp
      cases h
      refine ⟨[], by rw [List.append_nil], ?_, (fun f hf => by cases hf), rfl⟩
      rw [List.drop_eq_nil_of_le (by omega)]
      rfl
theorem header_to {h : Hd} (g : h.good = true) : headerB h.d = true := by
  unfold Hd.good at g
  simp only [Bool.and_eq_true, decide_eq_true_eq] at g
  obtain ⟨g1, g2, g3, g4⟩ := g
  show (within (nD h.s) 0 1 && (within (nD h.m) 0 NM && (within (nD h.p) 0 NM && (isNon (optN h.k) || within (optN h.k) 0 NM)))) = true
  rw [within_nD (hi := 1) (by omega), within_nD (hi := NM) (by show (h.m : Int) ≤ 2 ^ 60; omega), within_nD (hi := NM) (by show (h.p : Int) ≤ 2 ^ 60; omega)]
  cases hk : h.k with
  | none => rfl
  | some n =>
    rw [hk] at g4
    have := of_decide_eq_true g4
    show (true && (true && (true && (false || within (nD n) 0 NM)))) = true
    rw [within_nD (hi := NM) (by show (n : Int) ≤ 2 ^ 60; omega)]
    rfl
/-- what is read is written back to the same octets -/
theorem readB_inv {l : List Nat} {h : Hd} {fs : List Fm} (hb : Byt l) (h1 : 1 ≤ l.length) (e : readB l = .ok (h, fs)) : bodyO h fs = l ∧ h.good = true ∧ (∀ f ∈ fs, f.good = true) ∧ faultD (dgD h fs) = .non := by
  unfold readB at e
  split at e
  · cases e
  · rename_i h' p hh
    obtain ⟨i1, i2⟩ := hdR_inv hb h1 hh
    have hok := hdR_ok h1 hh
    split at e
    · cases e
    · rename_i fs' hf
      cases e
      obtain ⟨new, e1, e2, e3, e4⟩ := bodyGo_inv hb _ hok.2 (by omega) hf 0
      rw [List.nil_append] at e1
      subst e1
      refine ⟨?_, i2, e3, ?_⟩
      · unfold bodyO
        rw [← e2]
        exact i1.symm
      · unfold dgD faultD
        dsimp only
        rw [header_to i2, if_pos rfl, show bareD h.d = h.k.isNone from isNone_of h.k]
        exact e4
end K7
/-! K7: the draws, part 1. -/
namespace K7
open PySem PySem.Spec L2
open PyProof.Rows hiding St

local macro_rules | `(tactic| walk_at "k7") => `(tactic| simp only [dSs, dS, dEs, dE, dI, dSeq, dAsg, dPar, dDrop, dRet, dIfS, dNext, dBrk, dNev, dVar, dC, dNil, dCons, dOp, dCB, dCall, dTup, dTest, dAnd, dOr, dNot, dIf, dChn, dNeg, fB, fAdd, fI, fI0, fEq, fNe, fIsN, fNotN, isNon, fIx, fLen, fMin, fMax, fInt, fTup, fLst,
  dIsi, dSet, setAll, dFor, diSeq, diR1, diR2, diR3, diEn, dLst, dApp, dExt, dRev, dEmp, empB, dSl, dPart, dNoP, dRse, dRank, fDg, isL, up_same, List.getElem?_cons_zero, List.getElem?_cons_succ, List.set_cons_zero, List.set_cons_succ, Bool.not_true, Bool.not_false, Tg.slots])
def kCells : Str := "cells"
def kGreat : Str := "great"
def kSpot : Str := "spot"
def genD (c g : Addr) (n : Nat) : Ob := .dct [(kCells, .ob c), (kGreat, .ob g), (kSpot, nD n)]
def CsOk (cs : List Int) : Prop := cs.length = 64 ∧ ∀ x ∈ cs, 0 ≤ x ∧ x < 2147483647
def GsOk (gs : List Int) : Prop := gs.length ≤ 63 ∧ ∀ x ∈ gs, 0 ≤ x
def p81 : DF := fun ds M q _ => ∃ m c g b lim, ds = [.ob m, .int lim] ∧ 0 < lim ∧ lim < 2 ^ 30 ∧ M m = some (.gen c g (b + 1)) ∧ ∀ r, 0 ≤ r → r < lim → q (.int r) (up M m (.gen c g b))
def p81r : DF := fun ds M q _ => ∃ m c g n lim cs gs, ds = [.ob m, .int lim] ∧ 0 < lim ∧ lim < 2 ^ 30 ∧ m ≠ c ∧ m ≠ g ∧ c ≠ g ∧ n < 2 ^ 40 ∧ M m = some (genD c g n) ∧ M c = some (.lst (cs.map D.int)) ∧ M g = some (.lst (gs.map D.int)) ∧ CsOk cs ∧ GsOk gs ∧
  ∀ r gs', 0 ≤ r → r < lim → GsOk gs' → q (.int r) (up (up M m (genD c g (n + 1))) g (.lst (gs'.map D.int)))
section
variable {K : PySem.W.Frag} {cls : Str → Addr}
def M0 (M : Mem) (m c g : Addr) (n : Nat) (cs gs : List Int) : Mem := fun a => if a = m then some (genD c g n) else if a = c then some (.lst (cs.map D.int)) else if a = g then some (.lst (gs.map D.int)) else M a
theorem rep_in {H : Hp} {M : Mem} {m c g : Addr} {b : Nat} (r : Rep K H M) (hm : M m = some (.gen c g b)) : ∃ n cs gs, n + b ≤ LIM ∧ m ≠ c ∧ m ≠ g ∧ c ≠ g ∧ CsOk cs ∧ GsOk gs ∧ Rep K H (M0 M m c g n cs gs) := by
  obtain ⟨⟨cs, gs, n, z1, z2, z3, l1, l2, l3, l4, l5⟩, mc, mg, ne⟩ := r m _ hm
  have hmc : m ≠ c := fun e => by subst e; rw [hm] at mc; cases mc
  have hmg : m ≠ g := fun e => by subst e; rw [hm] at mg; cases mg
  refine ⟨n, cs, gs, l5, hmc, hmg, ne, ⟨l1, l2⟩, ⟨l3, l4⟩, fun a o e => ?_⟩
  unfold M0 at e
  by_cases h1 : a = m
  · rw [if_pos h1] at e
    cases e
    rw [h1]
    exact ⟨[.ref c, .ref g, .int n], z1, _, _, rfl, rfl, _, _, rfl, rfl, _, _, rfl, rfl, rfl⟩
  · rw [if_neg h1] at e
    by_cases h2 : a = c
    · rw [if_pos h2] at e
      cases e
      rw [h2]
      exact ⟨_, z2, Rps.ints cs⟩
    · rw [if_neg h2] at e
      by_cases h3 : a = g
      · rw [if_pos h3] at e
        cases e
        rw [h3]
        exact ⟨_, z3, Rps.ints gs⟩
      · rw [if_neg h3] at e
        have q := r a o e
        cases o with
        | lst ds => exact q
        | dct kvs => exact q
        | prv x => exact q
        | gen c2 g2 b2 =>
          obtain ⟨q1, q2, q3, q4⟩ := q
          have out : ∀ x, M x = some (.prv a) → M0 M m c g n cs gs x = some (.prv a) := fun x hx => by
            unfold M0
            have n1 : x ≠ m := fun e => by subst e; rw [hm] at hx; cases hx
            have n2 : x ≠ c := fun e => by subst e; rw [mc] at hx; cases hx; exact h1 rfl
            have n3 : x ≠ g := fun e => by subst e; rw [mg] at hx; cases hx; exact h1 rfl
            rw [if_neg n1, if_neg n2, if_neg n3]
            exact hx
          exact ⟨q1, out _ q2, out _ q3, q4⟩
theorem ints_rps {H : Hp} : ∀ {ns : List Int} {xs : List V}, Rps K H (ns.map D.int) xs → xs = ns.map V.int
  | [], _, r => r
  | n :: ns, _, r => by
    obtain ⟨v, t, rfl, h1, h2⟩ := r
    rw [ints_rps h2]
    rw [show v = .int n from h1]
    rfl
theorem gen_at {H : Hp} {M : Mem} {m c g : Addr} {n b : Nat} {cs gs : List Int} (r : Rep K H M) (hm : M m = some (genD c g n)) (hc : M c = some (.lst (cs.map D.int))) (hg : M g = some (.lst (gs.map D.int))) (oc : CsOk cs) (og : GsOk gs) (hn : n + b ≤ LIM) : GenAt H m c g b := by
  obtain ⟨ws, e1, w1, r1, rfl, x1, w2, r2, rfl, x2, w3, r3, rfl, x3, x4⟩ := r m _ hm
  obtain ⟨xs, e2, y2⟩ := r c _ hc
  obtain ⟨ys, e3, y3⟩ := r g _ hg
  rw [ints_rps y2] at e2
  rw [ints_rps y3] at e3
  rw [show w1 = .ref c from x1, show w2 = .ref g from x2, show w3 = .int n from x3, show r3 = [] from x4] at e1
  exact ⟨cs, gs, n, e1, e2, e3, oc.1, oc.2, og.1, og.2, hn⟩
theorem sp81 {vs : List V} {H : Hp} {Q : VK} {E : XK} (h : spOf K cls p81 vs H Q E) : spOf K cls p81r vs H Q E := by
  obtain ⟨ds, M, q, xi, rs, rp, ⟨m, c, g, b, lim, rfl, h0, h1, hm, hq⟩, k1, k2⟩ := h
  obtain ⟨n, cs, gs, hn, hmc, hmg, ne, oc, og, r0⟩ := rep_in rp hm
  obtain ⟨_, mc, mg, _⟩ := rp m _ hm
  have em : M0 M m c g n cs gs m = some (genD c g n) := if_pos rfl
  have ec : M0 M m c g n cs gs c = some (.lst (cs.map D.int)) := (if_neg hmc.symm).trans (if_pos rfl)
  have eg : M0 M m c g n cs gs g = some (.lst (gs.map D.int)) := (if_neg hmg.symm).trans ((if_neg ne.symm).trans (if_pos rfl))
  have eo : ∀ a, a ≠ m → a ≠ c → a ≠ g → M0 M m c g n cs gs a = M a := fun a n1 n2 n3 => (if_neg n1).trans ((if_neg n2).trans (if_neg n3))
  have hn' : n < 2 ^ 40 := by
    have : n + (b + 1) ≤ 2 ^ 40 := hn
    omega
  refine ⟨_, M0 M m c g n cs gs, fun d M' => ∃ r gs', d = .int r ∧ 0 ≤ r ∧ r < lim ∧ GsOk gs' ∧ M' = up (up (M0 M m c g n cs gs) m (genD c g (n + 1))) g (.lst (gs'.map D.int)), fun _ _ _ => False, rs, r0, ⟨m, c, g, n, lim, cs, gs, rfl, h0, h1, hmc, hmg, ne, hn', em, ec, eg, oc, og, fun r gs' a1 a2 a3 => ⟨r, gs', rfl, a1, a2, a3, rfl⟩⟩, ?_, fun _ _ _ _ _ _ _ _ z => z.elim⟩
  rintro v H' d M' rv rp' fr ⟨r, gs', rfl, a1, a2, a3, rfl⟩
  have fm : (up (up (M0 M m c g n cs gs) m (genD c g (n + 1))) g (.lst (gs'.map D.int))) m = some (genD c g (n + 1)) := (up_ne hmg).trans up_same
  have fc : (up (up (M0 M m c g n cs gs) m (genD c g (n + 1))) g (.lst (gs'.map D.int))) c = some (.lst (cs.map D.int)) := (up_ne ne).trans ((up_ne hmc.symm).trans ec)
  have fg : (up (up (M0 M m c g n cs gs) m (genD c g (n + 1))) g (.lst (gs'.map D.int))) g = some (.lst (gs'.map D.int)) := up_same
  have fo : ∀ a, a ≠ m → a ≠ c → a ≠ g → (up (up (M0 M m c g n cs gs) m (genD c g (n + 1))) g (.lst (gs'.map D.int))) a = M a := fun a n1 n2 n3 => (up_ne n3).trans ((up_ne n1).trans (eo a n1 n2 n3))
  refine k1 v H' (.int r) (up M m (.gen c g b)) rv (fun a o e => ?_) ?_ (hq r a1 a2)
  · by_cases h1 : a = m
    · subst h1
      rw [up_same] at e
      cases e
      exact ⟨gen_at rp' fm fc fg oc a3 (by omega), (up_ne hmc.symm).trans mc, (up_ne hmg.symm).trans mg, ne⟩
    · rw [up_ne h1] at e
      by_cases h2 : a = c
      · subst h2
        rw [mc] at e
        cases e
        obtain ⟨xs, e2, _⟩ := rp' _ _ fc
        exact ⟨xs, e2⟩
      · by_cases h3 : a = g
        · subst h3
          rw [mg] at e
          cases e
          obtain ⟨xs, e2, _⟩ := rp' _ _ fg
          exact ⟨xs, e2⟩
        · have q := rp' a o ((fo a h1 h2 h3).trans e)
          cases o with
          | lst ds => exact q
          | dct kvs => exact q
          | prv x => exact q
          | gen c2 g2 b2 =>
            obtain ⟨q1, _, _, q4⟩ := q
            obtain ⟨_, o2, o3, _⟩ := rp a _ e
            have out : ∀ x, M x = some (.prv a) → up M m (.gen c g b) x = some (.prv a) := fun x hx => by
              rw [up_ne (fun e => by subst e; rw [hm] at hx; cases hx)]
              exact hx
            exact ⟨q1, out _ o2, out _ o3, q4⟩
  · have hsome : ∀ a, M a = none → a ≠ m ∧ a ≠ c ∧ a ≠ g := fun a h => ⟨(fun e => by subst e; rw [hm] at h; cases h), (fun e => by subst e; rw [mc] at h; cases h), (fun e => by subst e; rw [mg] at h; cases h)⟩
    refine ⟨fun a o ha hM => ?_, fun a o ha hM => ?_⟩
    · obtain ⟨n1, n2, n3⟩ := hsome a hM
      exact fr.keep a o ha ((eo a n1 n2 n3).trans hM)
    · obtain ⟨n1, n2, n3⟩ := hsome a hM
      exact (up_ne n1).trans hM
/-- begun -/
def NoGen (M : Mem) : Prop := ∀ a c g b, M a ≠ some (.gen c g b)
theorem NoGen.up {M : Mem} (h : NoGen M) {p : Addr} {o : Ob} (ho : o.plain) : NoGen (up M p o) := fun a c g b e => by
  by_cases h1 : a = p
  · subst h1
    rw [up_same] at e
    cases e
    exact ho
  · rw [up_ne h1] at e
    exact h a c g b e
def mem0 : Mem := fun _ => none
def p82 : DF := fun ds M q _ => ∃ ns, ds = [.scr ns] ∧ M = mem0 ∧ ns.length ≤ 63 ∧ ∀ m c g M', M' m = some (.gen c g LIM) → q (.ob m) M'
def p82r : DF := fun ds M q _ => ∃ ns, ds = [.scr ns] ∧ M = mem0 ∧ ns.length ≤ 63 ∧ ∀ m c g cs gs M', m ≠ c → m ≠ g → c ≠ g → NoGen M' → M' m = some (genD c g 0) → M' c = some (.lst (cs.map D.int)) → M' g = some (.lst (gs.map D.int)) → CsOk cs → GsOk gs → q (.ob m) M'
theorem sp82 {vs : List V} {H : Hp} {Q : VK} {E : XK} (h : spOf K cls p82 vs H Q E) : spOf K cls p82r vs H Q E := by
  obtain ⟨ds, M, q, xi, rs, rp, ⟨ns, rfl, rfl, hl, hq⟩, k1, k2⟩ := h
  refine ⟨_, mem0, fun d M' => ∃ m c g cs gs, d = .ob m ∧ m ≠ c ∧ m ≠ g ∧ c ≠ g ∧ NoGen M' ∧ M' m = some (genD c g 0) ∧ M' c = some (.lst (cs.map D.int)) ∧ M' g = some (.lst (gs.map D.int)) ∧ CsOk cs ∧ GsOk gs, fun _ _ _ => False, rs, rp, ⟨ns, rfl, rfl, hl, fun m c g cs gs M' a1 a2 a3 a4 a5 a6 a7 a8 a9 => ⟨m, c, g, cs, gs, rfl, a1, a2, a3, a4, a5, a6, a7, a8, a9⟩⟩, ?_, fun _ _ _ _ _ _ _ _ z => z.elim⟩
  rintro v H' d M' rv rp' fr ⟨m, c, g, cs, gs, rfl, a1, a2, a3, a4, a5, a6, a7, a8, a9⟩
  refine k1 v H' (.ob m) (up (up (up M' m (.gen c g LIM)) c (.prv m)) g (.prv m)) rv (fun a o e => ?_) ?_ (hq m c g _ ((up_ne a2).trans ((up_ne a1).trans up_same)))
  · by_cases h3 : a = g
    · subst h3
      rw [up_same] at e
      cases e
      obtain ⟨xs, e2, _⟩ := rp' _ _ a7
      exact ⟨xs, e2⟩
    · rw [up_ne h3] at e
      by_cases h2 : a = c
      · subst h2
        rw [up_same] at e
        cases e
        obtain ⟨xs, e2, _⟩ := rp' _ _ a6
        exact ⟨xs, e2⟩
      · rw [up_ne h2] at e
        by_cases h1 : a = m
        · subst h1
          rw [up_same] at e
          cases e
          exact ⟨gen_at rp' a5 a6 a7 a8 a9 (by omega), (up_ne a3).trans up_same, up_same, a3⟩
        · rw [up_ne h1] at e
          have q := rp' a o e
          cases o with
          | lst ds => exact q
          | dct kvs => exact q
          | prv x => exact q
          | gen c2 g2 b2 => exact absurd e (a4 a c2 g2 b2)
  · refine ⟨fun a o ha hM => fr.keep a o ha hM, fun a o ha hM => ?_⟩
    have z := fr.dom a o ha hM
    have hx : ∀ x u, M' x = some u → a ≠ x := fun x u hx e => by subst e; rw [z] at hx; cases hx
    exact (up_ne (hx g _ a7)).trans ((up_ne (hx c _ a6)).trans ((up_ne (hx m _ a5)).trans z))
end
theorem FnS.weak {V : K7.Ev} {x : Str} {Ph Ph' : DF} {L : Nat} (h : FnS V x Ph L) (k : ∀ vs H Q E, spOf V.K V.cls Ph' vs H Q E → spOf V.K V.cls Ph vs H Q E) : FnS V x Ph' L := by
  obtain ⟨n, f, fd, ps, F, r⟩ := h
  exact ⟨n, f, fd, ps, ⟨fun vs H Q E s => F.len vs H Q E (k _ _ _ _ s), fun A outer s H args us vs Q E h1 h2 h3 h4 h5 h6 => F.go A outer s H args us vs Q E h1 h2 h3 h4 h5 (k _ _ _ _ h6)⟩, r⟩
end K7
/-! K7: the draws, part 2. -/
namespace K7
open PySem PySem.Spec L2
open PyProof.Rows hiding St

local macro_rules | `(tactic| walk_at "k7") => `(tactic| simp only [dSs, dS, dEs, dE, dI, dSeq, dAsg, dPar, dDrop, dRet, dIfS, dNext, dBrk, dNev, dVar, dC, dNil, dCons, dOp, dCB, dCall, dTup, dTest, dAnd, dOr, dNot, dIf, dChn, dNeg, fB, fAdd, fI, fI0, fEq, fNe, fIsN, fNotN, isNon, fIx, fLen, fMin, fMax, fInt, fTup, fLst,
  dIsi, dSet, setAll, dFor, diSeq, diR1, diR2, diR3, diEn, dLst, dApp, dExt, dRev, dEmp, empB, dSl, dPart, dNoP, dRse, dRank, fDg, isL, up_same, List.getElem?_cons_zero, List.getElem?_cons_succ, List.set_cons_zero, List.set_cons_succ, Bool.not_true, Bool.not_false, Tg.slots])
theorem rng_hd {a : Int} {n : Nat} {d : D} {r : List D} (h : d :: r = rgI a 1 n) : ∃ n', n = n' + 1 ∧ d = .int a ∧ r = rgI (a + 1) 1 n' := by
  cases n with
  | zero => cases h
  | succ n =>
    rw [rgI_succ] at h
    cases h
    exact ⟨n, rfl, rfl, rfl⟩
theorem rng_nil {a : Int} {n : Nat} (h : [] = rgI a 1 n) : n = 0 := by
  cases n with
  | zero => rfl
  | succ n => rw [rgI_succ] at h; cases h
theorem up_self {M : Mem} {a : Addr} {o : Ob} (h : M a = some o) : up M a o = M := by
  funext b
  by_cases e : b = a
  · subst e; rw [up_same, h]
  · rw [up_ne e]
theorem set_int (cs : List Int) (i : Nat) (x : Int) : (cs.map D.int).set i (.int x) = (cs.set i x).map D.int := by rw [List.map_set]
theorem cs_set {cs : List Int} (h : CsOk cs) (i : Nat) {x : Int} (h0 : 0 ≤ x) (h1 : x < 2147483647) : CsOk (cs.set i x) := by
  refine ⟨by rw [List.length_set]; exact h.1, fun y hy => ?_⟩
  rcases List.mem_or_eq_of_mem_set hy with hy | rfl
  · exact h.2 y hy
  · exact ⟨h0, h1⟩
theorem int_at {cs : List Int} {i : Nat} (h : i < cs.length) : atI (cs.map D.int) (i : Int) = some (.int (cs.getD i 0)) := by
  refine atI_nat ?_
  rw [List.getElem?_map, List.getD_eq_getElem?_getD, List.getElem?_eq_getElem h]
  rfl
theorem ixN_nat {n k : Nat} (h : k < n) : ixN n (k : Int) = some k := by
  unfold ixN
  rw [if_pos (by omega)]
  rw [if_pos (by omega)]
  rfl
def p80 : DF := fun ds M q _ => ∃ ns, ds = [.scr ns] ∧ ∀ p cs, M p = none → CsOk cs → q (.ob p) (up M p (.lst (cs.map D.int)))
theorem k80 {C : Nat → DF} : Keeps C t80 p80 := by
  rintro ds M q xi ⟨ns, rfl, hq⟩
  refine ⟨rfl, ?_⟩
  show dSs C t80.body _ [some (.scr ns), none, none, none] M _
  unfold t80
  simp only [dSs, dS, dE, dEs, dI, dSeq, dAsg, dLc, diR1, dCons, dNil, dC]
  refine ⟨by decide, by decide, ?_⟩
  refine lc_inv (fun its acc M' => M' = M ∧ ∃ k n ls, k + n = 64 ∧ its = rgI ((k : Nat) : Int) 1 n ∧ acc = ls.map D.int ∧ ls.length = k ∧ ∀ x ∈ ls, (0 : Int) ≤ x ∧ x < 2147483647) ?_ ?_ _ _ _ ⟨rfl, 0, 64, [], rfl, rfl, rfl, rfl, fun x hx => by cases hx⟩
  · rintro d r acc M' k ⟨rfl, j, n, ls, hk, ei, rfl, hl, hx⟩ hn
    obtain ⟨n', rfl, rfl, rfl⟩ := rng_hd ei
    refine ⟨trivial, _, rfl, ?_⟩
    simp only [dwipe, Tg.slots, List.foldl_cons, List.foldl_nil, List.set_cons_zero, List.set_cons_succ, dSet, dOp, dC, dVar, fB, fAdd, List.getElem?_cons_zero, List.getElem?_cons_succ]
    refine ⟨by rw [List.length_map]; omega, hn _ _ ⟨rfl, j + 1, n', ls ++ [17 + (j : Int)], by omega, rfl, by rw [List.map_append]; rfl, by rw [List.length_append, hl]; rfl, ?_⟩⟩
    intro x h
    rcases List.mem_append.1 h with h | h
    · exact hx x h
    · rw [List.mem_singleton] at h
      subst h
      omega
  · rintro acc M' ⟨rfl, j, n, ls, hk, ei, rfl, hl, hx⟩
    have := rng_nil ei
    refine ⟨trivial, fun p hp => ?_⟩
    have oc : CsOk ls := ⟨by omega, hx⟩
    simp only [dSet, List.set_cons_zero, List.set_cons_succ, dFor, diEn, dVar, List.getElem?_cons_zero, List.getElem?_cons_succ]
    refine for_inv (fun its dl M1 => ∃ n r cs a b, its = enG n (r.map D.int) ∧ CsOk cs ∧ M1 = up M' p (.lst (cs.map D.int)) ∧ dl = [some (.scr ns), some (.ob p), a, b]) ?_ ?_ _ _ _ ⟨0, ns, ls, none, none, rfl, oc, rfl, rfl⟩
    · rintro d r dl M1 nx ⟨n, r', cs, a, b, ei, oc, rfl, rfl⟩ hn
      cases r' with
      | nil => cases ei
      | cons x r' =>
        cases ei
        refine ⟨trivial, _, rfl, ?_⟩
        have e64 : ((n : Int) % 64) = ((n % 64 : Nat) : Int) := rfl
        have h64 : n % 64 < cs.length := by rw [oc.1]; omega
        simp only [dSeq, dNext, dPutL, dOp, fB, fMul, fAdd, fI, fI0, dC, dVar, dCB, dCons, dNil, dEs, dNext, fInt, fIx, List.getElem?_cons_zero, List.getElem?_cons_succ, List.set_cons_zero, List.set_cons_succ, up_same]
        refine ⟨by decide, ?_⟩
        rw [e64]
        simp only [int_at h64]
        refine ⟨.inr (by decide), by decide, by decide, ?_⟩
        rw [List.length_map, ixN_nat h64]
        simp only [up_up, set_int]
        exact hn _ _ ⟨n + 1, r', _, _, _, rfl, cs_set oc _ (Int.emod_nonneg _ (by decide)) (Int.emod_lt_of_pos _ (by decide)), rfl, rfl⟩
    · rintro dl M1 ⟨n, r', cs, a, b, ei, oc, rfl, rfl⟩
      refine ⟨trivial, ?_⟩
      simp only [diR2, dCons, dNil, dC]
      refine ⟨by decide, by decide, by decide, by decide, ?_⟩
      refine for_inv (fun its dl M1 => ∃ k n cs a b, k + n = 64 ∧ 1 ≤ k ∧ its = rgI ((k : Nat) : Int) 1 n ∧ CsOk cs ∧ M1 = up M' p (.lst (cs.map D.int)) ∧ dl = [some (.scr ns), some (.ob p), a, b]) ?_ ?_ _ _ _ ⟨1, 63, cs, _, _, rfl, by decide, rfl, oc, rfl, rfl⟩
      · rintro d r dl M1 nx ⟨k, n, cs, a, b, hk, h1, ei, oc, rfl, rfl⟩ hn
        obtain ⟨n', rfl, rfl, rfl⟩ := rng_hd ei
        refine ⟨trivial, _, rfl, ?_⟩
        have hkl : k < cs.length := by rw [oc.1]; omega
        have hkl1 : k - 1 < cs.length := by rw [oc.1]; omega
        have ek : (k : Int) - 1 = ((k - 1 : Nat) : Int) := by omega
        simp only [dSeq, dNext, dPutL, dOp, fB, fMul, fAdd, fI, fI0, dC, dVar, dCB, dCons, dNil, dEs, dNext, fInt, fIx, List.getElem?_cons_zero, List.getElem?_cons_succ, List.set_cons_zero, List.set_cons_succ, up_same, int_at hkl, ek, int_at hkl1]
        refine ⟨.inr (by decide), by decide, ?_⟩
        rw [List.length_map, ixN_nat hkl]
        simp only [up_up, set_int]
        exact hn _ _ ⟨k + 1, n', _, _, _, by omega, by omega, rfl, cs_set oc _ (Int.emod_nonneg _ (by decide)) (Int.emod_lt_of_pos _ (by decide)), rfl, rfl⟩
      · rintro dl M1 ⟨k, n, cs, a, b, hk, h1, ei, oc, rfl, rfl⟩
        refine ⟨trivial, ?_⟩
        simp only [dRet, dVar, List.getElem?_cons_zero, List.getElem?_cons_succ]
        exact hq p cs hp oc
theorem nCG : ¬ kCells = kGreat := by decide
theorem nCS : ¬ kCells = kSpot := by decide
theorem nGS : ¬ kGreat = kSpot := by decide
theorem dgt_cells (x y z : D) : dgt [(kCells, x), (kGreat, y), (kSpot, z)] kCells = some x := if_pos rfl
theorem dgt_great (x y z : D) : dgt [(kCells, x), (kGreat, y), (kSpot, z)] kGreat = some y := (if_neg nCG).trans (if_pos rfl)
theorem dgt_spot (x y z : D) : dgt [(kCells, x), (kGreat, y), (kSpot, z)] kSpot = some z := (if_neg nCS).trans ((if_neg nGS).trans (if_pos rfl))
theorem dpt_spot (x y z d : D) : dpt [(kCells, x), (kGreat, y), (kSpot, z)] kSpot d = [(kCells, x), (kGreat, y), (kSpot, d)] := by
  unfold dpt
  rw [if_neg nCS]
  unfold dpt
  rw [if_neg nGS]
  unfold dpt
  rw [if_pos rfl]
theorem dpt_great (x y z d : D) : dpt [(kCells, x), (kGreat, y), (kSpot, z)] kGreat d = [(kCells, x), (kGreat, d), (kSpot, z)] := by
  unfold dpt
  rw [if_neg nCG]
  unfold dpt
  rw [if_pos rfl]
theorem cgs_nodup (x y z : D) : (([(kCells, x), (kGreat, y), (kSpot, z)] : List (Str × D)).map (·.1)).Nodup := by
  show ([kCells, kGreat, kSpot] : List Str).Nodup
  decide
theorem gs_set {gs : List Int} (h : GsOk gs) (i : Nat) {x : Int} (h0 : 0 ≤ x) : GsOk (gs.set i x) := by
  refine ⟨by rw [List.length_set]; exact h.1, fun y hy => ?_⟩
  rcases List.mem_or_eq_of_mem_set hy with hy | rfl
  · exact h.2 y hy
  · exact h0
theorem k81 {C : Nat → DF} (h79 : C 79 = p79) : Keeps C t81 p81r := by
  rintro ds M q xi ⟨m, c, g, n, lim, cs, gs, rfl, h0, h1, hmc, hmg, hcg, hn, hm, hc, hg, oc, og, hq⟩
  refine ⟨rfl, ?_⟩
  show dSs C t81.body _ [some (.ob m), some (.int lim), none, none, none, none] M _
  unfold t81
  have hg1 : (up M m (genD c g (n + 1))) g = some (.lst (gs.map D.int)) := (up_ne hmg.symm).trans hg
  have hc1 : (up M m (genD c g (n + 1))) c = some (.lst (cs.map D.int)) := (up_ne hmc.symm).trans hc
  have h64 : n % 64 < cs.length := by rw [oc.1]; omega
  have tail : ∀ a b e, dSs C ([.asg (.dg (.v 0) (.c (.str "cells"))) (.nm 3),
    .ret (.bin .mod (.int (.call 79 [(.call 79 [(.bin .add (.ix (.v 3) (.bin .mod (.int (.v 2)) (.c (.int 64)))) (.bin .mul (.c (.int 31)) (.bin .fdiv (.v 2) (.c (.int 64))))), (.v 2)]), (.bin .add (.v 2) (.c (.int 7)))])) (.v 1))] : List S)
      { nx := fun _ M' => q .non M', rt := q } [some (.ob m), some (.int lim), some (nD n), a, b, e] (up M m (genD c g (n + 1))) (fun c fs _ M' => xi c fs M') := by
    intro a b e
    have e64 : ((n : Int) % 64) = ((n % 64 : Nat) : Int) := rfl
    simp only [dSs, dS, dE, dEs, dSeq, dAsg, dRet, dOp, dVar, dC, fB, fDg, fMul, fAdd, fI, fI0, dSet, dCB, dCall, dCons, dNil, fInt, fIx, List.getElem?_cons_zero, List.getElem?_cons_succ, List.set_cons_zero, List.set_cons_succ, up_same, genD, show (Str.ofString "cells") = kCells from rfl, dgt_cells, nD, h79]
    rw [show (Ob.dct [(kCells, D.ob c), (kGreat, D.ob g), (kSpot, D.int ((n + 1 : Nat) : Int))]) = genD c g (n + 1) from rfl]
    simp only [hc1, e64, int_at h64]
    refine ⟨by decide, by decide, .inl (by decide), ?_⟩
    refine ⟨_, _, rfl, by omega, by omega, fun r1 hr1 => ⟨_, _, rfl, by omega, by omega, fun r2 hr2 => ⟨h0, ?_⟩⟩⟩
    have := hq (r2 % lim) gs (Int.emod_nonneg _ (by omega)) (Int.emod_lt_of_pos _ h0) og
    rw [up_self hg1] at this
    exact this
  simp only [dSs, dS, dE, dEs, dSeq, dAsg, dPutD, dIfS, dEmp, empB, dOp, dVar, dC, fB, fDg, fAdd, dSet, List.getElem?_cons_zero, List.getElem?_cons_succ, List.set_cons_zero, List.set_cons_succ, hm, genD, show (Str.ofString "spot") = kSpot from rfl, show (Str.ofString "great") = kGreat from rfl, dgt_spot, dpt_spot, nD]
  refine ⟨by show 3 < 1000; decide, cgs_nodup _ _ _, ?_⟩
  simp only [up_same, dgt_great]
  rw [show (Ob.dct [(kCells, D.ob c), (kGreat, D.ob g), (kSpot, D.int ((n : Int) + 1))]) = genD c g (n + 1) from rfl]
  simp only [hg1]
  have tail' := tail
  simp only [dSs] at tail'
  cases gs with
  | nil => exact tail' none none none
  | cons x0 gs0 =>
    have e0 : ((x0 :: gs0).map D.int).isEmpty = false := rfl
    have h0l : 0 < (x0 :: gs0).length := Nat.succ_pos _
    generalize x0 :: gs0 = gs at *
    have hidx : n % gs.length < gs.length := Nat.mod_lt _ h0l
    have em : (n : Int) % (gs.length : Int) = ((n % gs.length : Nat) : Int) := (Int.natCast_emod n gs.length).symm
    have eg2 : (Ob.dct [(kCells, D.ob c), (kGreat, D.ob g), (kSpot, D.int ((n : Int) + 1))]) = genD c g (n + 1) := rfl
    simp only [e0, dSs, dS, dE, dEs, dSeq, dAsg, dPutL, dIfS, dRet, dNext, dOp, dVar, dC, fB, fDg, fI, fI0, fIx, dCB, dCons, dNil, fInt, fLen, dSet, List.getElem?_cons_zero, List.getElem?_cons_succ, List.set_cons_zero, List.set_cons_succ, Bool.false_bne]
    simp only [eg2, up_same, genD, dgt_great]
    simp only [show (Ob.dct [(kCells, D.ob c), (kGreat, D.ob g), (kSpot, nD (n + 1))]) = genD c g (n + 1) from rfl, hg1, List.length_map]
    refine ⟨by omega, ?_⟩
    rw [em]
    simp only [int_at hidx]
    have hx : 0 ≤ gs.getD (n % gs.length) 0 := by
      rw [List.getD_eq_getElem?_getD, List.getElem?_eq_getElem hidx]
      exact og.2 _ (List.getElem_mem hidx)
    generalize gs.getD (n % gs.length) 0 = x at hx
    by_cases hp : 0 < x
    · rw [decide_eq_true hp]
      refine ⟨⟨h0, by omega⟩, ?_⟩
      simp only [hg1]
      rw [List.length_map, ixN_nat hidx]
      refine ⟨h0, ?_⟩
      rw [set_int]
      exact hq (x % lim) (gs.set (n % gs.length) (x / lim)) (Int.emod_nonneg _ (by omega)) (Int.emod_lt_of_pos _ h0) (gs_set og _ (Int.ediv_nonneg hx (by omega)))
    · rw [decide_eq_false hp]
      exact tail' (some (.ob g)) (some (.int ((n % gs.length : Nat) : Int))) (some (.int x))
theorem k82 {C : Nat → DF} (h80 : C 80 = p80) : Keeps C t82 p82r := by
  rintro ds M q xi ⟨ns, rfl, rfl, hl, hq⟩
  refine ⟨rfl, ?_⟩
  show dSs C t82.body _ [some (.scr ns), none, none] mem0 _
  unfold t82
  simp only [dSs, dS, dE, dEs, dI, dSeq, dAsg, dDisp, dCall, dCons, dNil, dC, dLst, dVar, h80, List.getElem?_cons_zero, List.getElem?_cons_succ]
  refine ⟨ns, rfl, fun c cs hc oc => ?_⟩
  refine ⟨by show 0 ≤ 100000; decide, fun g0 hg0 => ?_⟩
  have n1 : c ≠ g0 := fun e => by subst e; rw [up_same] at hg0; cases hg0
  refine ⟨rfl, fun m hm => ?_⟩
  have n2 : c ≠ m := fun e => by subst e; rw [up_ne n1, up_same] at hm; cases hm
  have n3 : g0 ≠ m := fun e => by subst e; rw [up_same] at hm; cases hm
  simp only [dSet, List.set_cons_zero, List.set_cons_succ, dPutD, dLc, diSeq, dVar, List.getElem?_cons_zero, List.getElem?_cons_succ]
  rw [show ([Str.ofString "cells", Str.ofString "great", Str.ofString "spot"].zip [D.ob c, D.ob g0, D.int 0]) = [(kCells, D.ob c), (kGreat, D.ob g0), (kSpot, D.int 0)] from rfl]
  generalize hM3 : up (up (up mem0 c (Ob.lst (cs.map D.int))) g0 (Ob.lst [])) m (Ob.dct [(kCells, D.ob c), (kGreat, D.ob g0), (kSpot, D.int 0)]) = M3
  have ng : NoGen M3 := by
    subst hM3
    exact ((NoGen.up (o := .lst _) (fun a c g b e => by cases e) trivial).up (o := .lst _) trivial).up (o := .dct _) trivial
  have em : M3 m = some (.dct [(kCells, D.ob c), (kGreat, D.ob g0), (kSpot, D.int 0)]) := by subst hM3; exact up_same
  have ec : M3 c = some (.lst (cs.map D.int)) := by subst hM3; rw [up_ne n2, up_ne n1, up_same]
  refine lc_inv (fun its acc M' => M' = M3 ∧ ∃ r gs, its = r.map D.int ∧ acc = gs.map D.int ∧ gs.length + r.length = ns.length ∧ ∀ x ∈ gs, (0 : Int) ≤ x) ?_ ?_ _ _ _ ⟨rfl, ns, [], rfl, rfl, by simp, fun x hx => by cases hx⟩
  · rintro d r acc M' k ⟨rfl, r', gs, ei, rfl, hlen, hx⟩ hk
    cases r' with
    | nil => cases ei
    | cons x r' =>
      cases ei
      rw [List.length_cons] at hlen
      refine ⟨trivial, _, rfl, ?_⟩
      simp only [dwipe, Tg.slots, List.foldl_cons, List.foldl_nil, List.set_cons_zero, List.set_cons_succ, dSet, dIf, dOp, dC, dVar, fB, fI, fI0, List.getElem?_cons_zero, List.getElem?_cons_succ]
      refine ⟨⟨by decide, by decide, by decide⟩, ?_⟩
      by_cases hc : (10 : Int) ^ (Int.toNat 18) ≤ x
      · rw [decide_eq_true hc]
        refine ⟨by rw [List.length_map]; omega, hk _ _ ⟨rfl, r', gs ++ [x], rfl, by rw [List.map_append]; rfl, by rw [List.length_append]; show _ + 1 + _ = _; omega, ?_⟩⟩
        intro y hy
        rcases List.mem_append.1 hy with hy | hy
        · exact hx y hy
        · rw [List.mem_singleton] at hy
          subst hy
          exact Int.le_trans (by decide) hc
      · rw [decide_eq_false hc]
        refine ⟨by rw [List.length_map]; omega, hk _ _ ⟨rfl, r', gs ++ [0], rfl, by rw [List.map_append]; rfl, by rw [List.length_append]; show _ + 1 + _ = _; omega, ?_⟩⟩
        intro y hy
        rcases List.mem_append.1 hy with hy | hy
        · exact hx y hy
        · rw [List.mem_singleton] at hy
          subst hy
          exact Int.le_refl _
  · rintro acc M' ⟨rfl, r', gs, ei, rfl, hlen, hx⟩
    refine ⟨trivial, fun g hg => ?_⟩
    have nm : m ≠ g := fun e => by subst e; rw [em] at hg; cases hg
    have nc : c ≠ g := fun e => by subst e; rw [ec] at hg; cases hg
    have em1 := (up_ne (o := .lst (gs.map D.int)) nm).trans em
    simp only [dC, em1, show (Str.ofString "great") = kGreat from rfl]
    refine ⟨by show 3 < 1000; decide, cgs_nodup _ _ _, ?_⟩
    rw [dpt_great]
    simp only [dRet, dVar, List.getElem?_cons_zero, List.getElem?_cons_succ]
    refine hq m c g cs gs _ n2.symm nm nc ((ng.up (o := .lst _) trivial).up (o := .dct _) trivial) up_same ?_ ?_ oc ⟨by omega, hx⟩
    · rw [up_ne n2, up_ne nc]
      exact ec
    · rw [up_ne nm.symm, up_same]
end K7
/-! K7: the draws, part 3: of, below, number, octets. -/
namespace K7
open PySem PySem.Spec L2
open PyProof.Rows hiding St

local macro_rules | `(tactic| walk_at "k7") => `(tactic| simp only [dSs, dS, dEs, dE, dI, dSeq, dAsg, dPar, dDrop, dRet, dIfS, dNext, dBrk, dNev, dVar, dC, dNil, dCons, dOp, dCB, dCall, dTup, dTest, dAnd, dOr, dNot, dIf, dChn, dNeg, fB, fAdd, fI, fI0, fEq, fNe, fIsN, fNotN, isNon, fIx, fLen, fMin, fMax, fInt, fTup, fLst,
  dIsi, dSet, setAll, dFor, diSeq, diR1, diR2, diR3, diEn, dLst, dApp, dExt, dRev, dEmp, empB, dSl, dPart, dNoP, dRse, dRank, fDg, isL, up_same, List.getElem?_cons_zero, List.getElem?_cons_succ, List.set_cons_zero, List.set_cons_succ, Bool.not_true, Bool.not_false, Tg.slots])
theorem d81 {m c g : Addr} {b : Nat} {lim : Int} {M : Mem} {q : D → Mem → Prop} {xi : XF} (hm : M m = some (.gen c g b)) (hb : 1 ≤ b) (h0 : 0 < lim) (h1 : lim < 2 ^ 30) (hq : ∀ r, 0 ≤ r → r < lim → q (.int r) (up M m (.gen c g (b - 1)))) : p81 [.ob m, .int lim] M q xi := by
  obtain ⟨b', rfl⟩ : ∃ b', b = b' + 1 := ⟨b - 1, by omega⟩
  exact ⟨m, c, g, b', lim, rfl, h0, h1, hm, hq⟩
def p84 : DF := fun ds M q _ => ∃ m c g b a xs, ds = [.ob m, .ob a] ∧ M m = some (.gen c g b) ∧ 1 ≤ b ∧ M a = some (.lst xs) ∧ 0 < xs.length ∧ xs.length < 1000 ∧ ∀ x ∈ xs, q x (up M m (.gen c g (b - 1)))
theorem atI_mem {α : Type} {xs : List α} {r : Int} (h0 : 0 ≤ r) (h1 : r < (xs.length : Int)) : ∃ x ∈ xs, atI xs r = some x := by
  have hl : r.toNat < xs.length := by omega
  refine ⟨xs[r.toNat], List.getElem_mem hl, ?_⟩
  have := atI_nat (List.getElem?_eq_getElem hl)
  rw [Int.toNat_of_nonneg h0] at this
  exact this
theorem k84 {C : Nat → DF} (h81 : C 81 = p81) : Keeps C t84 p84 := by
  rintro ds M q xi ⟨m, c, g, b, a, xs, rfl, hm, hb, ha, hl0, hl1, hq⟩
  refine ⟨rfl, ?_⟩
  show dSs C t84.body _ [some (.ob m), some (.ob a)] M _
  unfold t84
  have ham : a ≠ m := fun e => by subst e; rw [hm] at ha; cases ha
  walk_at "k7"
  rw [h81]
  simp only [ha]
  refine d81 hm hb (by omega) (by omega) fun r r0 r1 => ?_
  obtain ⟨x, hx, ex⟩ := atI_mem r0 r1
  simp only [up_ne ham, ha, ex]
  exact hq x hx
theorem d84 {m c g a : Addr} {b : Nat} {M : Mem} {xs : List D} {q : D → Mem → Prop} {xi : XF} (hm : M m = some (.gen c g b)) (hb : 1 ≤ b) (ha : M a = some (.lst xs)) (h0 : 0 < xs.length) (h1 : xs.length < 1000) (hq : ∀ x ∈ xs, q x (up M m (.gen c g (b - 1)))) : p84 [.ob m, .ob a] M q xi := ⟨m, c, g, b, a, xs, rfl, hm, hb, ha, h0, h1, hq⟩
def p87 : DF := fun ds M q _ => ∃ m c g b lim, ds = [.ob m, .int lim] ∧ M m = some (.gen c g b) ∧ 5 ≤ b ∧ 0 < lim ∧ ∀ r, 0 ≤ r → r < lim → q (.int r) (up M m (.gen c g (b - 5)))
theorem k87 {C : Nat → DF} (h81 : C 81 = p81) : Keeps C t87 p87 := by
  rintro ds M q xi ⟨m, c, g, b, lim, rfl, hm, hb, hl, hq⟩
  refine ⟨rfl, ?_⟩
  show dSs C t87.body _ [some (.ob m), some (.int lim), none, none] M _
  unfold t87
  walk_at "k7"
  rw [h81]
  refine ⟨by decide, by decide, ?_⟩
  refine for_inv (fun its dl M' => ∃ k n v a, k + n = 5 ∧ its = rgI ((k : Nat) : Int) 1 n ∧ M' = up M m (.gen c g (b - k)) ∧ dl = [some (.ob m), some (.int lim), some (.int v), a]) ?_ ?_ _ _ _ ⟨0, 5, 0, none, rfl, rfl, (up_self hm).symm, rfl⟩
  · rintro d r dl M' nx ⟨k, n, v, a, hk, ei, rfl, rfl⟩ hn
    obtain ⟨n', rfl, rfl, rfl⟩ := rng_hd ei
    refine ⟨trivial, _, rfl, ?_⟩
    walk_at "k7"
    simp only [fMul]
    refine ⟨.inr (by decide), ?_⟩
    refine d81 up_same (by omega) (by decide) (by decide) fun r r0 r1 => ?_
    simp only [up_up]
    exact hn _ _ ⟨k + 1, n', _, _, by omega, rfl, by rw [show b - k - 1 = b - (k + 1) by omega], rfl⟩
  · rintro dl M' ⟨k, n, v, a, hk, ei, rfl, rfl⟩
    have := rng_nil ei
    refine ⟨trivial, ?_⟩
    walk_at "k7"
    refine ⟨hl, ?_⟩
    rw [show b - k = b - 5 by omega]
    exact hq _ (Int.emod_nonneg _ (by omega)) (Int.emod_lt_of_pos _ hl)
def p88 : DF := fun ds M q _ => ∃ m c g b, ds = [.ob m] ∧ M m = some (.gen c g b) ∧ 6 ≤ b ∧ ∀ n b' : Nat, n ≤ 2 ^ 60 → b ≤ b' + 6 → q (nD n) (up M m (.gen c g b'))
theorem k88 {C : Nat → DF} (h81 : C 81 = p81) (h87 : C 87 = p87) : Keeps C t88 p88 := by
  rintro ds M q xi ⟨m, c, g, b, rfl, hm, hb, hq⟩
  refine ⟨rfl, ?_⟩
  show dSs C t88.body _ [some (.ob m), none] M _
  unfold t88
  walk_at "k7"
  rw [h81, h87]
  refine d81 hm (by omega) (by decide) (by decide) fun r r0 r1 => ?_
  dsimp only
  have fin : ∀ (v : Int) (b' : Nat), 0 ≤ v → v ≤ 2 ^ 60 → b ≤ b' + 6 → q (.int v) (up M m (.gen c g b')) := fun v b' h0 h1 h2 => by
    have := hq v.toNat b' (by omega) h2
    unfold nD at this
    rw [Int.toNat_of_nonneg h0] at this
    exact this
  by_cases c0 : r = 0
  · rw [decide_eq_true c0]
    refine d81 up_same (by omega) (by decide) (by decide) fun s s0 s1 => ?_
    rw [up_up]
    exact fin s _ s0 (by omega) (by omega)
  · rw [decide_eq_false c0]
    dsimp only
    by_cases c1 : r = 1
    · rw [decide_eq_true c1]
      dsimp only
      refine d81 up_same (by omega) (by decide) (by decide) fun s s0 s1 => ?_
      simp only [fMul]
      refine ⟨.inl (by decide), ?_⟩
      have ej : 7 * (1 + s) = ((7 * (1 + s.toNat) : Nat) : Int) := by omega
      rw [ej]
      refine ⟨shl_ok (n := 1) (k := 1) (by decide) (by omega), ?_⟩
      rw [up_up]
      refine d81 up_same (by omega) (by decide) (by decide) fun t t0 t1 => ?_
      rw [up_up, Int.toNat_natCast]
      have hp : ∃ P : Nat, (2 : Int) ^ (7 * (1 + s.toNat)) = (P : Int) ∧ 1 ≤ P ∧ P ≤ 2 ^ 56 := by
        refine ⟨2 ^ (7 * (1 + s.toNat)), by rw [Int.natCast_pow]; rfl, Nat.one_le_two_pow, Nat.pow_le_pow_right (by decide) (by omega)⟩
      obtain ⟨P, e, p1, p2⟩ := hp
      rw [e]
      exact fin _ _ (by omega) (by omega) (by omega)
    · rw [decide_eq_false c1]
      dsimp only
      by_cases c2 : r = 2
      · rw [decide_eq_true c2]
        refine ⟨⟨by decide, by decide, by decide⟩, ?_⟩
        refine ⟨m, c, g, b - 1, _, rfl, up_same, by omega, by decide, fun s s0 s1 => ?_⟩
        rw [up_up]
        rw [show (2 : Int) ^ Int.toNat 60 + 1 = 1152921504606846977 from by decide] at s1
        exact fin s _ s0 (by omega) (by omega)
      · rw [decide_eq_false c2]
        refine ⟨⟨by decide, by decide, by decide⟩, ?_⟩
        refine d81 up_same (by omega) (by decide) (by decide) fun s s0 s1 => ?_
        rw [up_up, show (2 : Int) ^ Int.toNat 60 = 1152921504606846976 from by decide]
        exact fin _ _ (by omega) (by omega) (by omega)
theorem d88 {m c g : Addr} {b : Nat} {M : Mem} {q : D → Mem → Prop} {xi : XF} (hm : M m = some (.gen c g b)) (hb : 6 ≤ b) (hq : ∀ n b' : Nat, n ≤ 2 ^ 60 → b ≤ b' + 6 → q (nD n) (up M m (.gen c g b'))) : p88 [.ob m] M q xi := ⟨m, c, g, b, rfl, hm, hb, hq⟩
theorem Ex.keep {ch : List Addr} {M M' : Mem} (x : Ex ch M M') {a : Addr} {o : Ob} (h : M a = some o) (n : a ∉ ch) : M' a = some o := x a o n h
def p89 : DF := fun ds M q _ => ∃ m c g b n, ds = [.ob m, .int ((n : Nat) : Int)] ∧ M m = some (.gen c g b) ∧ n ≤ 100 ∧ 3 * n ≤ b ∧ ∀ l M' b', l.length = n → Byt l → Ex [m] M M' → M' m = some (.gen c g b') → b ≤ b' + 3 * n → q (oD l) M'
theorem k89 {C : Nat → DF} (h81 : C 81 = p81) (h84 : C 84 = p84) : Keeps C t89 p89 := by
  rintro ds M q xi ⟨m, c, g, b, n, rfl, hm, hn, hb, hq⟩
  refine ⟨rfl, ?_⟩
  show dSs C t89.body _ [some (.ob m), some (.int (n : Int)), none] M _
  unfold t89
  simp only [dSs, dS, dE, dEs, dI, dSeq, dRet, dLc, diR1, dCB, dCons, dNil, dVar, fTup, List.getElem?_cons_zero, List.getElem?_cons_succ]
  rw [h81, h84]
  refine ⟨by omega, by omega, ?_⟩
  rw [Int.toNat_natCast]
  refine lc_inv (fun its acc M' => ∃ k j l b', k + j = n ∧ its = rgI ((k : Nat) : Int) 1 j ∧ acc = l.map nD ∧ l.length = k ∧ Byt l ∧ Ex [m] M M' ∧ M' m = some (.gen c g b') ∧ b ≤ b' + 3 * k) ?_ ?_ _ _ _ ⟨0, n, [], b, by omega, rfl, rfl, rfl, (fun x hx => by cases hx), Ex.refl, hm, by omega⟩
  · rintro d r acc M' kk ⟨k, j, l, b', hk, ei, rfl, hl, hbt, ex, hm', hb'⟩ hkk
    obtain ⟨j', rfl, rfl, rfl⟩ := rng_hd ei
    refine ⟨trivial, _, rfl, ?_⟩
    simp only [dwipe, Tg.slots, List.foldl_cons, List.foldl_nil, List.set_cons_zero, List.set_cons_succ, dCall, dCons, dNil, dLst, dVar, dC, List.getElem?_cons_zero, List.getElem?_cons_succ]
    refine d81 hm' (by omega) (by decide) (by decide) fun r r0 r1 => ?_
    refine d81 up_same (by omega) (by decide) (by decide) fun s s0 s1 => ?_
    rw [up_up]
    refine ⟨by show 5 ≤ 100000; decide, fun p hp => ?_⟩
    have hpm : m ≠ p := fun e => by subst e; rw [up_same] at hp; cases hp
    refine d84 (a := p) (b := b' - 1 - 1) (by rw [up_ne hpm, up_same]) (by omega) up_same (by show 0 < 5; decide) (by show 5 < 1000; decide) fun x hx => ?_
    have hx' : ∃ v : Nat, x = nD v ∧ v < 256 := by
      simp only [List.mem_cons, List.not_mem_nil, or_false] at hx
      rcases hx with rfl | rfl | rfl | rfl | rfl
      · exact ⟨r.toNat, by unfold nD; rw [Int.toNat_of_nonneg r0], by omega⟩
      · exact ⟨s.toNat, by unfold nD; rw [Int.toNat_of_nonneg s0], by omega⟩
      · exact ⟨0, rfl, by decide⟩
      · exact ⟨255, rfl, by decide⟩
      · exact ⟨128, rfl, by decide⟩
    obtain ⟨v, rfl, hv⟩ := hx'
    refine ⟨by rw [List.length_map]; omega, hkk _ _ ⟨k + 1, j', l ++ [v], b' - 1 - 1 - 1, by omega, rfl, by rw [List.map_append]; rfl, by rw [List.length_append, hl]; rfl, byt_app hbt (fun y hy => by rw [List.mem_singleton] at hy; subst hy; exact hv), ((ex.at1).new hp).at1, up_same, by omega⟩⟩
  · rintro acc M' ⟨k, j, l, b', hk, ei, rfl, hl, hbt, ex, hm', hb'⟩
    have := rng_nil ei
    refine ⟨trivial, fun p hp => ?_⟩
    have hpm : m ≠ p := fun e => by subst e; rw [hm'] at hp; cases hp
    simp only [up_same]
    exact hq l _ b' (by omega) hbt (ex.new hp) (by rw [up_ne hpm]; exact hm') (by omega)
end K7
/-! K7: the draws, part 4: order, ranges. -/
namespace K7
open PySem PySem.Spec L2
open PyProof.Rows hiding St

local macro_rules | `(tactic| walk_at "k7") => `(tactic| simp only [dSs, dS, dEs, dE, dI, dSeq, dAsg, dPar, dDrop, dRet, dIfS, dNext, dBrk, dNev, dVar, dC, dNil, dCons, dOp, dCB, dCall, dTup, dTest, dAnd, dOr, dNot, dIf, dChn, dNeg, fB, fAdd, fI, fI0, fEq, fNe, fIsN, fNotN, isNon, fIx, fLen, fMin, fMax, fInt, fTup, fLst,
  dIsi, dSet, setAll, dFor, diSeq, diR1, diR2, diR3, diEn, dLst, dApp, dExt, dRev, dEmp, empB, dSl, dPart, dNoP, dRse, dRank, fDg, isL, up_same, List.getElem?_cons_zero, List.getElem?_cons_succ, List.set_cons_zero, List.set_cons_succ, Bool.not_true, Bool.not_false, Tg.slots])
theorem d87 {m c g : Addr} {b : Nat} {lim : Int} {M : Mem} {q : D → Mem → Prop} {xi : XF} (hm : M m = some (.gen c g b)) (hb : 5 ≤ b) (h0 : 0 < lim) (hq : ∀ r, 0 ≤ r → r < lim → q (.int r) (up M m (.gen c g (b - 5)))) : p87 [.ob m, .int lim] M q xi := ⟨m, c, g, b, lim, rfl, hm, hb, h0, hq⟩
theorem erase_perm : ∀ {l : List Nat} {i : Nat} (h : i < l.length), (l[i] :: l.eraseIdx i).Perm l
  | [], _, h => absurd h (Nat.not_lt_zero _)
  | a :: l, 0, _ => List.Perm.refl _
  | a :: l, i + 1, h => (List.Perm.swap a _ _).trans ((erase_perm (l := l) (i := i) (by rw [List.length_cons] at h; omega)).cons a)
theorem erase_map {α β : Type} (f : α → β) : ∀ (l : List α) (i : Nat), (l.map f).eraseIdx i = (l.eraseIdx i).map f
  | [], _ => rfl
  | _ :: _, 0 => rfl
  | a :: l, i + 1 => by
    show f a :: (l.map f).eraseIdx i = f a :: (l.eraseIdx i).map f
    rw [erase_map f l i]
def p86 : DF := fun ds M q _ => ∃ m c g b n, ds = [.ob m, .int ((n : Nat) : Int)] ∧ M m = some (.gen c g b) ∧ n ≤ 1000 ∧ n ≤ b ∧ ∀ (a : Addr) (l : List Nat) (M' : Mem) (b' : Nat), l.Perm (List.range n) → Ex [m] M M' → M' m = some (.gen c g b') → M' a = some (.lst (l.map nD)) → M a = none → b ≤ b' + n → q (.ob a) M'
theorem k86 {C : Nat → DF} (h81 : C 81 = p81) : Keeps C t86 p86 := by
  rintro ds M q xi ⟨m, c, g, b, n, rfl, hm, hn, hb, hq⟩
  refine ⟨rfl, ?_⟩
  show dSs C t86.body _ [some (.ob m), some (.int (n : Int)), none, none] M _
  unfold t86
  simp only [dSs, dS, dE, dEs, dI, dSeq, dAsg, dRet, dLc, dLRg, diR1, dCons, dNil, dVar, dSet, List.getElem?_cons_zero, List.getElem?_cons_succ, List.set_cons_zero, List.set_cons_succ]
  rw [h81]
  refine ⟨by omega, by omega, fun p hp => ?_⟩
  have hmp : m ≠ p := fun e => by subst e; rw [hm] at hp; cases hp
  refine ⟨by omega, by omega, ?_⟩
  rw [Int.toNat_natCast]
  refine lc_inv (fun its acc M' => ∃ k j l left b', k + j = n ∧ its = rgI ((k : Nat) : Int) 1 j ∧ acc = l.map nD ∧ l.length = k ∧ left.length = j ∧ (l ++ left).Perm (List.range n) ∧ Ex [m] M M' ∧ M' m = some (.gen c g b') ∧ M' p = some (.lst (left.map nD)) ∧ b ≤ b' + k) ?_ ?_ _ _ _ ⟨0, n, [], List.range n, b, by omega, rfl, rfl, rfl, List.length_range, List.Perm.refl _, Ex.refl.new hp, by rw [up_ne hmp]; exact hm, up_same, by omega⟩
  · rintro d r acc M' kk ⟨k, j, l, left, b', hk, ei, rfl, hl, hll, hpm, ex, hm', hp', hb'⟩ hkk
    obtain ⟨j', rfl, rfl, rfl⟩ := rng_hd ei
    refine ⟨trivial, _, rfl, ?_⟩
    simp only [dwipe, Tg.slots, List.foldl_cons, List.foldl_nil, List.set_cons_zero, List.set_cons_succ, dPop, dCall, dCB, fLen, dCons, dNil, dVar, dC, List.getElem?_cons_zero, List.getElem?_cons_succ, hp', List.length_map]
    refine ⟨rfl, ?_⟩
    refine d81 hm' (by omega) (by omega) (by omega) fun r r0 r1 => ?_
    simp only [up_ne hmp.symm, hp', List.length_map]
    have hlt : r.toNat < left.length := by omega
    refine ⟨r0, r1, by omega, ?_⟩
    rw [List.getElem?_map, List.getElem?_eq_getElem hlt]
    refine ⟨by omega, hkk _ _ ⟨k + 1, j', l ++ [left[r.toNat]], left.eraseIdx r.toNat, b' - 1, by omega, rfl, by rw [List.map_append]; rfl, by rw [List.length_append, hl]; rfl, ?_, ?_, (ex.at1).own (.inl hp), by rw [up_ne hmp, up_same], ?_, by omega⟩⟩
    · rw [List.length_eraseIdx, if_pos hlt, hll]; rfl
    · rw [List.append_assoc]
      exact ((erase_perm hlt).append_left l).trans hpm
    · rw [up_same, erase_map]
  · rintro acc M' ⟨k, j, l, left, b', hk, ei, rfl, hl, hll, hpm, ex, hm', hp', hb'⟩
    have := rng_nil ei
    subst this
    refine ⟨trivial, fun p2 hp2 => ?_⟩
    have hmp2 : m ≠ p2 := fun e => by subst e; rw [hm'] at hp2; cases hp2
    have e0 : left = [] := List.eq_nil_of_length_eq_zero hll
    subst e0
    rw [List.append_nil] at hpm
    have hn2 : M p2 = none := by
      cases e : M p2 with
      | none => rfl
      | some o =>
        have := ex p2 o (by simpa using hmp2.symm) e
        rw [hp2] at this
        cases this
    exact hq p2 l _ b' hpm (ex.new hp2) (by rw [up_ne hmp2]; exact hm') up_same hn2 (by omega)
theorem rok_snoc : ∀ {rs : List (Nat × Nat)} {b : Int} {p : Nat × Nat}, rok b rs = true → (∀ x ∈ rs, x.2 < p.1) → b < (p.1 : Int) → p.1 < p.2 → p.2 ≤ 2 ^ 60 → rok b (rs ++ [p]) = true
  | [], b, p, _, _, h1, h2, h3 => by
    show ((decide (b < (p.1 : Int)) && (decide (p.1 < p.2) && decide (p.2 ≤ 2 ^ 60))) && true) = true
    simp only [Bool.and_eq_true, decide_eq_true_eq]
    exact ⟨⟨h1, h2, h3⟩, trivial⟩
  | x :: r, b, p, h, ha, h1, h2, h3 => by
    have h' : ((decide (b < (x.1 : Int)) && (decide (x.1 < x.2) && decide (x.2 ≤ 2 ^ 60))) && rok (x.2 : Int) r) = true := h
    rw [Bool.and_eq_true] at h'
    show ((decide (b < (x.1 : Int)) && (decide (x.1 < x.2) && decide (x.2 ≤ 2 ^ 60))) && rok (x.2 : Int) (r ++ [p])) = true
    rw [Bool.and_eq_true]
    have := ha x List.mem_cons_self
    exact ⟨h'.1, rok_snoc h'.2 (fun y hy => ha y (List.mem_cons_of_mem _ hy)) (by omega) h2 h3⟩
def p95 : DF := fun ds M q _ => ∃ m c g b, ds = [.ob m, .int 6] ∧ M m = some (.gen c g b) ∧ 60 ≤ b ∧ ∀ rs M' b', rok (-1) rs = true → 1 ≤ rs.length → rs.length ≤ 6 → Ex [m] M M' → M' m = some (.gen c g b') → b ≤ b' + 60 → q (.tup (rs.map prD)) M'
theorem int_nat {i : Int} (h : 0 ≤ i) : ∃ n : Nat, i = (n : Int) := ⟨i.toNat, (Int.toNat_of_nonneg h).symm⟩
theorem k95 {C : Nat → DF} (h81 : C 81 = p81) (h84 : C 84 = p84) (h87 : C 87 = p87) : Keeps C t95 p95 := by
  rintro ds M q xi ⟨m, c, g, b, rfl, hm, hb, hq⟩
  refine ⟨rfl, ?_⟩
  show dSs C t95.body _ [some (.ob m), some (.int 6), none, none, none, none, none] M _
  unfold t95
  simp only [dSs, dS, dE, dEs, dI, dSeq, dPar, dLst, dCall, dOp, dCons, dNil, dVar, dC, fB, fI, List.getElem?_cons_zero, List.getElem?_cons_succ]
  rw [h81, h84, h87]
  refine ⟨by show 0 ≤ 100000; decide, fun p hp => ?_⟩
  have hmp : m ≠ p := fun e => by subst e; rw [hm] at hp; cases hp
  refine d81 (b := b) (by rw [up_ne hmp]; exact hm) (by omega) (by decide) (by decide) fun r r0 r1 => ?_
  refine ⟨⟨by decide, by decide, by decide⟩, ?_⟩
  rw [show (2 : Int) ^ Int.toNat 59 = 576460752303423488 from by decide]
  refine d87 up_same (by omega) (by decide) fun s s0 s1 => ?_
  rw [up_up]
  refine ⟨by show 3 ≤ 100000; decide, fun p1 hp1 => ?_⟩
  have hmp1 : m ≠ p1 := fun e => by subst e; rw [up_same] at hp1; cases hp1
  have hpp1 : p ≠ p1 := fun e => by subst e; rw [up_ne hmp.symm, up_same] at hp1; cases hp1
  refine d84 (a := p1) (b := b - 1 - 5) (by rw [up_ne hmp1, up_same]) (by omega) up_same (by show 0 < 3; decide) (by show 3 < 1000; decide) fun x hx => ?_
  have hx' : ∃ v : Nat, x = nD v ∧ v < 2 ^ 59 := by
    simp only [List.mem_cons, List.not_mem_nil, or_false] at hx
    rcases hx with rfl | rfl | rfl
    · exact ⟨0, rfl, by decide⟩
    · exact ⟨r.toNat, by unfold nD; rw [Int.toNat_of_nonneg r0], by omega⟩
    · exact ⟨s.toNat, by unfold nD; rw [Int.toNat_of_nonneg s0], by omega⟩
  obtain ⟨at0, rfl, hat0⟩ := hx'
  generalize hM1 : up (up (up (up M p (Ob.lst [])) m (Ob.gen c g (b - 1 - 5))) p1 (Ob.lst [D.int 0, D.int r, D.int s])) m (Ob.gen c g (b - 1 - 5 - 1)) = M1
  have ex1 : Ex [m] M M1 := by
    subst hM1
    exact ((((Ex.refl).new hp).at1).new hp1).at1
  have hm1 : M1 m = some (.gen c g (b - 7)) := by subst hM1; rw [up_same]; rfl
  have hp1' : M1 p = some (.lst []) := by subst hM1; rw [up_ne hmp.symm, up_ne hpp1, up_ne hmp.symm, up_same]
  simp only [List.getElem?_cons_zero, List.getElem?_cons_succ, List.set_cons_zero, List.set_cons_succ, dFor, diR1, dCons, dNil, dOp, dC, dCall, dVar, fAdd]
  refine d81 hm1 (by omega) (by decide) (by decide) fun t t0 t1 => ?_
  obtain ⟨T, rfl⟩ := int_nat t0
  refine ⟨by omega, by omega, ?_⟩
  rw [show (1 + (T : Int)).toNat = 1 + T by omega]
  refine for_inv (fun its dl M' => ∃ k n rs at_ b' a1 a2 a3, k + n = 1 + T ∧ its = rgI ((k : Nat) : Int) 1 n ∧ rs.length = k ∧ rok (-1) rs = true ∧ (∀ x ∈ rs, x.2 < at_) ∧ at_ ≤ 2 ^ 59 + k * 50000 ∧ Ex [m] M M' ∧ M' m = some (.gen c g b') ∧ M' p = some (.lst (rs.map prD)) ∧ b ≤ b' + 8 + 6 * k ∧
    dl = [some (.ob m), some (.int 6), a1, some (.ob p), some (nD at_), a2, a3]) ?_ ?_ _ _ _ ⟨0, 1 + T, [], at0, b - 8, none, none, none, by omega, rfl, rfl, rfl, (fun x hx => by cases hx), by omega, ex1.at1, by rw [up_same]; rfl, by rw [up_ne hmp.symm]; exact hp1', by omega, rfl⟩
  · rintro d rr dl M' nx ⟨k, n, rs, at_, b', a1, a2, a3, hk, ei, hl, ho, ha, hat, ex, hm', hp', hb', rfl⟩ hn
    obtain ⟨n', rfl, rfl, rfl⟩ := rng_hd ei
    refine ⟨trivial, _, rfl, ?_⟩
    simp only [dSeq, dAsg, dOp, dVar, dC, dCall, dCons, dNil, dLst, nD, dSet, List.getElem?_cons_zero, List.getElem?_cons_succ, List.set_cons_zero, List.set_cons_succ]
    refine d81 hm' (by omega) (by decide) (by decide) fun r r0 r1 => ?_
    refine d81 up_same (by omega) (by decide) (by decide) fun s s0 s1 => ?_
    rw [up_up]
    refine ⟨by show 4 ≤ 100000; decide, fun p2 hp2 => ?_⟩
    have hmp2 : m ≠ p2 := fun e => by subst e; rw [up_same] at hp2; cases hp2
    have hpp2 : p ≠ p2 := fun e => by subst e; rw [up_ne hmp.symm, hp'] at hp2; cases hp2
    refine d84 (a := p2) (b := b' - 1 - 1) (by rw [up_ne hmp2, up_same]) (by omega) up_same (by show 0 < 4; decide) (by show 4 < 1000; decide) fun x hx => ?_
    have hx' : ∃ v : Nat, x = .int (v : Int) ∧ v < 20000 := by
      simp only [List.mem_cons, List.not_mem_nil, or_false] at hx
      rcases hx with rfl | rfl | rfl | rfl
      · exact ⟨0, rfl, by decide⟩
      · exact ⟨0, rfl, by decide⟩
      · exact ⟨r.toNat, by rw [Int.toNat_of_nonneg r0], by omega⟩
      · exact ⟨s.toNat, by rw [Int.toNat_of_nonneg s0], by omega⟩
    obtain ⟨v, rfl, hv⟩ := hx'
    generalize hM2 : up (up (up M' m (Ob.gen c g (b' - 1 - 1))) p2 (Ob.lst [D.int 0, D.int 0, D.int r, D.int s])) m (Ob.gen c g (b' - 1 - 1 - 1)) = M2
    have ex2 : Ex [m] M' M2 := by
      subst hM2
      exact ((Ex.refl.at1).new hp2).at1
    have hm2 : M2 m = some (.gen c g (b' - 3)) := by subst hM2; rw [up_same]; rfl
    have hp2' : M2 p = some (.lst (rs.map prD)) := ex2.keep hp' (by simpa using hmp.symm)
    clear hM2
    simp only [fAdd]
    refine d81 hm2 (by omega) (by decide) (by decide) fun r' r0' r1' => ?_
    refine d81 up_same (by omega) (by decide) (by decide) fun s' s0' s1' => ?_
    rw [up_up]
    refine ⟨by show 3 ≤ 100000; decide, fun p3 hp3 => ?_⟩
    have hmp3 : m ≠ p3 := fun e => by subst e; rw [up_same] at hp3; cases hp3
    have hpp3 : p ≠ p3 := fun e => by subst e; rw [up_ne hmp.symm, hp2'] at hp3; cases hp3
    refine d84 (a := p3) (b := b' - 3 - 1 - 1) (by rw [up_ne hmp3, up_same]) (by omega) up_same (by show 0 < 3; decide) (by show 3 < 1000; decide) fun x hx => ?_
    have hx' : ∃ v : Nat, x = .int (v : Int) ∧ v < 20000 := by
      simp only [List.mem_cons, List.not_mem_nil, or_false] at hx
      rcases hx with rfl | rfl | rfl
      · exact ⟨0, rfl, by decide⟩
      · exact ⟨r'.toNat, by rw [Int.toNat_of_nonneg r0'], by omega⟩
      · exact ⟨s'.toNat, by rw [Int.toNat_of_nonneg s0'], by omega⟩
    obtain ⟨w, rfl, hw⟩ := hx'
    generalize hM3 : up (up (up M2 m (Ob.gen c g (b' - 3 - 1 - 1))) p3 (Ob.lst [D.int 0, D.int r', D.int s'])) m (Ob.gen c g (b' - 3 - 1 - 1 - 1)) = M3
    have ex3 : Ex [m] M2 M3 := by
      subst hM3
      exact ((Ex.refl.at1).new hp3).at1
    have hm3 : M3 m = some (.gen c g (b' - 6)) := by subst hM3; rw [up_same]; rfl
    have hp3' : M3 p = some (.lst (rs.map prD)) := ex3.keep hp2' (by simpa using hmp.symm)
    clear hM3
    simp only [dDrop, dApp, dTup, dCons, dNil, dVar, dOp, dC, hp3', isL, fAdd, dNext, List.getElem?_cons_zero, List.getElem?_cons_succ]
    refine ⟨trivial, by show 2 ≤ 100000; decide, by rw [List.length_map]; omega, ?_⟩
    refine hn _ _ ⟨k + 1, n', rs ++ [(at_ + v, at_ + v + 1 + w)], at_ + v + 1 + w + 1, b' - 6, _, _, _, by omega, rfl, by rw [List.length_append, hl]; rfl, rok_snoc ho (fun x hx => Nat.lt_of_lt_of_le (ha x hx) (Nat.le_add_right _ _)) (by omega) (by dsimp only; omega) (by dsimp only; omega), ?_, by omega, ((ex.trans ex2).trans ex3).own (.inl hp), by rw [up_ne hmp]; exact hm3, ?_, by omega, rfl⟩
    · intro x hx
      rcases List.mem_append.1 hx with hx | hx
      · have := ha x hx
        omega
      · rw [List.mem_singleton] at hx
        subst hx
        exact Nat.lt_succ_self _
    · rw [up_same, List.map_append]
      rfl
  · rintro dl M' ⟨k, n, rs, at_, b', a1, a2, a3, hk, ei, hl, ho, ha, hat, ex, hm', hp', hb', rfl⟩
    have := rng_nil ei
    refine ⟨trivial, ?_⟩
    simp only [dIfS, dAnd, dOp, dVar, dC, dCall, dCons, dNil, dCB, fLen, fB, fEq, fI, fI0, List.getElem?_cons_zero, List.getElem?_cons_succ]
    refine d81 hm' (by omega) (by decide) (by decide) fun r r0 r1 => ?_
    have hp2 : (up M' m (Ob.gen c g (b' - 1))) p = some (.lst (rs.map prD)) := (up_ne hmp.symm).trans hp'
    have fin : ∀ M2 b2 rs2, rok (-1) rs2 = true → 1 ≤ rs2.length → rs2.length ≤ 6 → Ex [m] M M2 → M2 m = some (.gen c g b2) → M2 p = some (.lst (rs2.map prD)) → b ≤ b2 + 60 → (match M2 p with
        | some (Ob.lst ds) => q (D.tup ds) M2
        | _ => False) := fun M2 b2 rs2 i1 i2 i3 i4 i5 i6 i7 => by
      rw [i6]
      exact hq rs2 M2 b2 i1 i2 i3 i4 i5 i7
    simp only [hp2, List.length_map]
    by_cases c0 : r = 0
    · rw [decide_eq_true c0]
      dsimp only
      by_cases c1 : (rs.length : Int) < 6
      · rw [decide_eq_true c1]
        simp only [dDrop, dApp, dTup, dCons, dNil, dVar, dOp, dC, dCall, hp2, isL, fI0, fI, fB, dRet, dNext, dSeq, dCB, fTup, List.getElem?_cons_zero, List.getElem?_cons_succ]
        refine ⟨trivial, ⟨by decide, by decide, by decide⟩, ?_⟩
        rw [show (2 : Int) ^ Int.toNat 60 = 1152921504606846976 from by decide]
        refine d81 up_same (by omega) (by decide) (by decide) fun s s0 s1 => ?_
        rw [up_up]
        have hp3 : (up M' m (Ob.gen c g (b' - 1 - 1))) p = some (.lst (rs.map prD)) := (up_ne hmp.symm).trans hp'
        simp only [hp3]
        refine ⟨⟨by decide, by decide, by decide⟩, by show 2 ≤ 100000; decide, by rw [List.length_map]; omega, ?_⟩
        obtain ⟨S, rfl⟩ := int_nat s0
        refine fin _ (b' - 1 - 1) (rs ++ [(1152921504606846975 - S, 2 ^ 60)]) (rok_snoc ho (fun x hx => ?_) (by dsimp only; omega) (by dsimp only; omega) (Nat.le_refl _)) (by rw [List.length_append]; show 1 ≤ _ + 1; omega) (by rw [List.length_append]; show _ + 1 ≤ 6; omega) ((ex.at1).own (.inl hp)) (by rw [up_ne hmp, up_same]) ?_ (by omega)
        · have := ha x hx
          dsimp only
          omega
        · rw [up_same, List.map_append]
          show some (Ob.lst (_ ++ [D.tup [D.int _, D.int _]])) = some (Ob.lst (_ ++ [D.tup [D.int _, D.int _]]))
          rw [show (1152921504606846976 : Int) - 1 - (S : Int) = ((1152921504606846975 - S : Nat) : Int) by omega]
          rfl
      · rw [decide_eq_false c1]
        simp only [dSeq, dRet, dNext, dCB, dCons, dNil, dVar, fTup, List.getElem?_cons_zero, List.getElem?_cons_succ]
        exact fin _ (b' - 1) rs ho (by omega) (by omega) ex.at1 up_same hp2 (by omega)
    · rw [decide_eq_false c0]
      simp only [dSeq, dRet, dNext, dCB, dCons, dNil, dVar, fTup, List.getElem?_cons_zero, List.getElem?_cons_succ]
      exact fin _ (b' - 1) rs ho (by omega) (by omega) ex.at1 up_same hp2 (by omega)
end K7
/-! K7: the draws, part 5: piece, header. -/
namespace K7
open PySem PySem.Spec L2
open PyProof.Rows hiding St

local macro_rules | `(tactic| walk_at "k7") => `(tactic| simp only [dSs, dS, dEs, dE, dI, dSeq, dAsg, dPar, dDrop, dRet, dIfS, dNext, dBrk, dNev, dVar, dC, dNil, dCons, dOp, dCB, dCall, dTup, dTest, dAnd, dOr, dNot, dIf, dChn, dNeg, fB, fAdd, fI, fI0, fEq, fNe, fIsN, fNotN, isNon, fIx, fLen, fMin, fMax, fInt, fTup, fLst,
  dIsi, dSet, setAll, dFor, diSeq, diR1, diR2, diR3, diEn, dLst, dApp, dExt, dRev, dEmp, empB, dSl, dPart, dNoP, dRse, dRank, fDg, isL, up_same, List.getElem?_cons_zero, List.getElem?_cons_succ, List.set_cons_zero, List.set_cons_succ, Bool.not_true, Bool.not_false, Tg.slots])
def p96 : DF := fun ds M q _ => ∃ m c g b, ds = [.ob m, .int 12] ∧ M m = some (.gen c g b) ∧ 50 ≤ b ∧ ∀ (low : Nat) (o : List Nat) (e : Bool) (M' : Mem) (b' : Nat), o.length ≤ 12 → Byt o → (o ≠ [] ∨ e = true) → low + o.length ≤ 2 ^ 60 - 1 → Ex [m] M M' → M' m = some (.gen c g b') → b ≤ b' + 50 → q (.tup [nD low, oD o, .bl e]) M'
theorem k96 {C : Nat → DF} (h81 : C 81 = p81) (h88 : C 88 = p88) (h89 : C 89 = p89) : Keeps C t96 p96 := by
  rintro ds M q xi ⟨m, c, g, b, rfl, hm, hb, hq⟩
  refine ⟨rfl, ?_⟩
  show dSs C t96.body _ [some (.ob m), some (.int 12), none, none] M _
  unfold t96
  simp only [dSs, dS, dE, dEs, dSeq, dAsg, dCall, dOp, dCons, dNil, dVar, dC, fB, fAdd, dSet, List.getElem?_cons_zero, List.getElem?_cons_succ, List.set_cons_zero, List.set_cons_succ]
  rw [h81, h88, h89]
  refine d81 hm (by omega) (by decide) (by decide) fun r r0 r1 => ?_
  obtain ⟨n, rfl⟩ := int_nat r0
  refine ⟨m, c, g, b - 1, n, rfl, up_same, by omega, by omega, fun o M1 b1 ho hbt ex1 hm1 hb1 => ?_⟩
  have ex1' : Ex [m] M M1 := Ex.refl.at1.trans ex1
  have fin : ∀ (M2 : Mem) (b2 : Nat) (e : Bool), Ex [m] M M2 → M2 m = some (.gen c g b2) → b ≤ b2 + 40 → (o ≠ [] ∨ e = true) → dRet (dTup (dCons (dCB fMin (dCons (dCall p88 (dCons (dVar 0) dNil)) (dCons (dOp (fI0 fun i j => D.int (i - j)) (dOp (fI0 fun i j => D.int (i - j)) (dOp (fI CPow fun i j => D.int (i ^ j.toNat)) (dC (D.int 2)) (dC (D.int 60))) (dC (D.int 1))) (dCB fLen (dCons (dVar 2) dNil))) dNil))) (dCons (dVar 2) (dCons (dVar 3) dNil))))
      { nx := fun _ M' => q .non M', rt := q } [some (.ob m), some (.int 12), some (oD o), some (.bl e)] M2 (fun c fs x M2 => xi c fs M2) := by
    intro M2 b2 e ex2 hm2 hb2 he
    simp only [dRet, dTup, dCB, dCall, dOp, dCons, dNil, dVar, dC, fI, fI0, fLen, fMin, oD, List.getElem?_cons_zero, List.getElem?_cons_succ]
    refine d88 hm2 (by omega) fun v b3 hv hb3 => ?_
    simp only [nD, List.length_map]
    refine ⟨⟨by decide, by decide, by decide⟩, ?_⟩
    rw [show (2 : Int) ^ Int.toNat 60 = 1152921504606846976 from by decide]
    refine ⟨by show 3 ≤ 100000; decide, ?_⟩
    have hlow : ∃ low : Nat, (if (1152921504606846976 : Int) - 1 - (o.length : Int) < (v : Int) then (1152921504606846976 : Int) - 1 - (o.length : Int) else (v : Int)) = (low : Int) ∧ low + o.length ≤ 2 ^ 60 - 1 := by
      split
      · exact ⟨1152921504606846975 - o.length, by omega, by omega⟩
      · exact ⟨v, rfl, by omega⟩
    obtain ⟨low, el, hl⟩ := hlow
    rw [el]
    exact hq low o e _ b3 (by omega) hbt he hl ex2.at1 up_same (by omega)
  simp only [dOr, dEmp, empB, oD, dVar, dNext, dSeq, List.getElem?_cons_zero, List.getElem?_cons_succ]
  cases ho' : o with
  | nil =>
    subst ho'
    exact fin M1 b1 true ex1' hm1 (by omega) (.inr rfl)
  | cons x o' =>
    have hne : o ≠ [] := by rw [ho']; exact List.cons_ne_nil _ _
    rw [← ho']
    rw [show (List.map nD o).isEmpty = false by rw [ho']; rfl]
    simp only [if_true, bne_self_eq_false, dOp, dCall, dCons, dNil, dVar, dC, List.getElem?_cons_zero, List.getElem?_cons_succ]
    refine d81 hm1 (by omega) (by decide) (by decide) fun s s0 s1 => ?_
    have : fEq (D.int s) (D.int 0) (up M1 m (Ob.gen c g (b1 - 1))) = fun q => q (.bl (decide (s = 0))) (up M1 m (Ob.gen c g (b1 - 1))) := rfl
    simp only [this]
    exact fin _ (b1 - 1) (decide (s = 0)) ex1'.at1 up_same (by omega) (.inl hne)
def p97 : DF := fun ds M q _ => ∃ m c g b, ds = [.ob m] ∧ M m = some (.gen c g b) ∧ 20 ≤ b ∧ ∀ (h : Hd) (b' : Nat), h.good = true → b ≤ b' + 20 → q h.d (up M m (.gen c g b'))
theorem k97 {C : Nat → DF} (h81 : C 81 = p81) (h88 : C 88 = p88) : Keeps C t97 p97 := by
  rintro ds M q xi ⟨m, c, g, b, rfl, hm, hb, hq⟩
  refine ⟨rfl, ?_⟩
  show dSs C t97.body _ [some (.ob m)] M _
  unfold t97
  simp only [dSs, dS, dE, dEs, dSeq, dRet, dTup, dIf, dCall, dOp, dCons, dNil, dVar, dC, fB, fEq, List.getElem?_cons_zero, List.getElem?_cons_succ]
  rw [h81, h88]
  refine d81 hm (by omega) (by decide) (by decide) fun r r0 r1 => ?_
  refine d88 up_same (by omega) fun n1 b1 hn1 hb1 => ?_
  rw [up_up]
  refine d88 up_same (by omega) fun n2 b2 hn2 hb2 => ?_
  rw [up_up]
  refine d81 up_same (by omega) (by decide) (by decide) fun s s0 s1 => ?_
  rw [up_up]
  obtain ⟨S, rfl⟩ := int_nat r0
  have hS : S ≤ 1 := by omega
  dsimp only
  by_cases c0 : s = 0
  · rw [decide_eq_true c0]
    refine ⟨by show 4 ≤ 100000; decide, ?_⟩
    refine hq ⟨S, n1, n2, none⟩ _ ?_ (by omega)
    unfold Hd.good
    simp only [Bool.and_eq_true, decide_eq_true_eq]
    exact ⟨hS, hn1, hn2, trivial⟩
  · rw [decide_eq_false c0]
    refine d88 up_same (by omega) fun n3 b3 hn3 hb3 => ?_
    rw [up_up]
    refine ⟨by show 4 ≤ 100000; decide, ?_⟩
    refine hq ⟨S, n1, n2, some n3⟩ _ ?_ (by omega)
    unfold Hd.good
    simp only [Bool.and_eq_true, decide_eq_true_eq]
    exact ⟨hS, hn1, hn2, hn3⟩
end K7
/-! K7: the draws, part 6: frames. -/
namespace K7
open PySem PySem.Spec L2
open PyProof.Rows hiding St

local macro_rules | `(tactic| walk_at "k7") => `(tactic| simp only [dSs, dS, dEs, dE, dI, dSeq, dAsg, dPar, dDrop, dRet, dIfS, dNext, dBrk, dNev, dVar, dC, dNil, dCons, dOp, dCB, dCall, dTup, dTest, dAnd, dOr, dNot, dIf, dChn, dNeg, fB, fAdd, fI, fI0, fEq, fNe, fIsN, fNotN, isNon, fIx, fLen, fMin, fMax, fInt, fTup, fLst,
  dIsi, dSet, setAll, dFor, diSeq, diR1, diR2, diR3, diEn, dLst, dApp, dExt, dRev, dEmp, empB, dSl, dPart, dNoP, dRse, dRank, fDg, isL, up_same, List.getElem?_cons_zero, List.getElem?_cons_succ, List.set_cons_zero, List.set_cons_succ, Bool.not_true, Bool.not_false, Tg.slots])
def wt : List Fm → Nat
  | [] => 0
  | f :: r => (rowF f).length + wt r
theorem wt_app : ∀ (a b : List Fm), wt (a ++ b) = wt a + wt b
  | [], b => (Nat.zero_add _).symm
  | f :: a, b => by
    show _ + wt (a ++ b) = _ + wt a + wt b
    rw [wt_app a b, Nat.add_assoc]
theorem wt_perm {a b : List Fm} (h : a.Perm b) : wt a = wt b := by
  induction h with
  | nil => rfl
  | cons x _ ih => show _ + _ = _ + _; rw [ih]
  | swap x y l => show _ + (_ + _) = _ + (_ + _); omega
  | trans _ _ i j => exact i.trans j
theorem wt_flat : ∀ fs : List Fm, (fs.map rowF).flatten.length = wt fs
  | [] => rfl
  | f :: r => by
    rw [List.map_cons, List.flatten_cons, List.length_append, wt_flat r]
    rfl
theorem rngO_le : ∀ (rs : List (Nat × Nat)) (ah : Option Nat), (rngO ah rs).length ≤ 20 * rs.length
  | [], _ => Nat.le_refl _
  | p :: r, ah => by
    show (numO _ ++ numO _ ++ rngO _ r).length ≤ _
    rw [List.length_append, List.length_append, List.length_cons]
    have h1 := (numO_len (hiN ah p.2)).1
    have h2 := (numO_len (p.2 - p.1 - 1)).1
    have h3 := rngO_le r (some p.1)
    omega
/-- frames drawn -/
structure FsOk (fs : List Fm) (w n : Nat) : Prop where
  good : ∀ f ∈ fs, f.good = true
  wt : wt fs ≤ w
  len : fs.length ≤ n
  one : ∀ f ∈ fs, (rowF f).length ≤ 141
theorem FsOk.nil : FsOk [] 0 0 := ⟨fun f h => (by cases h), Nat.le_refl _, Nat.le_refl _, fun f h => (by cases h)⟩
theorem FsOk.le {fs : List Fm} {w n w' n' : Nat} (h : FsOk fs w n) (h1 : w ≤ w') (h2 : n ≤ n') : FsOk fs w' n' := ⟨h.good, Nat.le_trans h.wt h1, Nat.le_trans h.len h2, h.one⟩
theorem FsOk.snoc {fs : List Fm} {w n k : Nat} {f : Fm} (h : FsOk fs w n) (g : f.good = true) (hk : (rowF f).length ≤ k) (h1 : k ≤ 141) : FsOk (fs ++ [f]) (w + k) (n + 1) := by
  refine ⟨fun x hx => ?_, ?_, ?_, fun x hx => ?_⟩
  · rcases List.mem_append.1 hx with hx | hx
    · exact h.good x hx
    · rw [List.mem_singleton] at hx; rw [hx]; exact g
  · rw [wt_app]
    have := h.wt
    show _ + ((rowF f).length + 0) ≤ _
    omega
  · rw [List.length_append]
    have := h.len
    show _ + 1 ≤ _
    omega
  · rcases List.mem_append.1 hx with hx | hx
    · exact h.one x hx
    · rw [List.mem_singleton] at hx; rw [hx]; exact Nat.le_trans hk h1
theorem row_ack {rs : List (Nat × Nat)} {dl : Nat} (h : rs.length ≤ 6) : (rowF (.ack rs dl)).length ≤ 141 := by
  show (1 :: (numO rs.length ++ rngO none rs.reverse ++ numO dl)).length ≤ 141
  rw [List.length_cons, List.length_append, List.length_append]
  have h1 := (numO_len rs.length).1
  have h2 := (numO_len dl).1
  have h3 := rngO_le rs.reverse none
  rw [List.length_reverse] at h3
  omega
theorem row_room {s h l : Nat} : (rowF (.room s h l)).length ≤ 22 := by
  show (2 :: s :: (numO h ++ numO l)).length ≤ 22
  rw [List.length_cons, List.length_cons, List.length_append]
  have h1 := (numO_len h).1
  have h2 := (numO_len l).1
  omega
theorem row_data {s low : Nat} {o : List Nat} {e : Bool} (ho : o.length ≤ 12) : (rowF (.data s low o e)).length ≤ 34 := by
  show ((if e then 4 else 3) :: s :: (numO low ++ numO o.length ++ o)).length ≤ 34
  rw [List.length_cons, List.length_cons, List.length_append, List.length_append]
  have h1 := (numO_len low).1
  have h2 := (numO_len o.length).1
  omega
theorem none_of {M M' : Mem} {m p : Addr} (ex : Ex [m] M M') (hpm : p ≠ m) (h : M' p = none) : M p = none := by
  cases e : M p with
  | none => rfl
  | some o =>
    have := ex p o (by simpa using hpm) e
    rw [h] at this
    cases this
def p98 : DF := fun ds M q _ => ∃ m c g b, ds = [.ob m, .bl false] ∧ M m = some (.gen c g b) ∧ 500 ≤ b ∧ ∀ (a : Addr) (fs : List Fm) (M' : Mem) (b' : Nat), FsOk fs 600 21 → Ex [m] M M' → M' m = some (.gen c g b') → M' a = some (.lst (fs.map Fm.d)) → M a = none → b ≤ b' + 500 → q (.ob a) M'
theorem k98 {C : Nat → DF} (h81 : C 81 = p81) (h88 : C 88 = p88) (h95 : C 95 = p95) (h96 : C 96 = p96) : Keeps C t98 p98 := by
  rintro ds M q xi ⟨m, c, g, b, rfl, hm, hb, hq⟩
  refine ⟨rfl, ?_⟩
  show dSs C t98.body _ [some (.ob m), some (.bl false), none, none, none] M _
  have rest : ∀ (p : Addr) (M1 : Mem) (b1 : Nat) (fs0 : List Fm), p ≠ m → M p = none → Ex [m] M M1 → M1 m = some (.gen c g b1) → M1 p = some (.lst (fs0.map Fm.d)) → b ≤ b1 + 70 → FsOk fs0 141 1 →
      dSs C (t98.body.drop 1) { nx := fun _ M' => q .non M', rt := q } [some (.ob m), some (.bl false), some (.ob p), none, none] M1 (fun c fs x M2 => xi c fs M2) := by
    intro p M1 b1 fs0 hpm hMp ex1 hm1 hp1 hb1 ok1
    show dSs C ([_, _, _] : List S) _ _ _ _
    simp only [dSs, dS, dE, dEs, dI, dSeq, dFor, diR1, dCons, dNil, dC]
    refine ⟨by decide, by decide, ?_⟩
    refine for_inv (fun its dl M' => ∃ k n fs b' a1 a2, k + n = 16 ∧ its = rgI ((k : Nat) : Int) 1 n ∧ FsOk fs (141 + 22 * k) (1 + k) ∧ Ex [m] M M' ∧ M' m = some (.gen c g b') ∧ M' p = some (.lst (fs.map Fm.d)) ∧ b ≤ b' + 70 + 13 * k ∧
      dl = [some (.ob m), some (.bl false), some (.ob p), a1, a2]) ?_ ?_ _ _ _ ⟨0, 16, fs0, b1, none, none, rfl, rfl, ok1, ex1, hm1, hp1, by omega, rfl⟩
    · rintro d rr dl M' nx ⟨k, n, fs, b', a1, a2, hk, ei, ok, ex, hm', hp', hb', rfl⟩ hn
      obtain ⟨n', rfl, rfl, rfl⟩ := rng_hd ei
      refine ⟨trivial, _, rfl, ?_⟩
      simp only [dIfS, dSeq, dNext, dDrop, dApp, dTup, dCall, dOp, dCons, dNil, dVar, dC, fB, fEq, h81, h88, isL, List.getElem?_cons_zero, List.getElem?_cons_succ, List.set_cons_zero, List.set_cons_succ]
      refine d81 hm' (by omega) (by decide) (by decide) fun r r0 r1 => ?_
      dsimp only
      have hp2 : (up M' m (Ob.gen c g (b' - 1))) p = some (.lst (fs.map Fm.d)) := (up_ne hpm).trans hp'
      by_cases c0 : r = 0
      · rw [decide_eq_true c0]
        simp only [hp2]
        refine ⟨trivial, ?_⟩
        refine d88 up_same (by omega) fun x b2 hx hb2 => ?_
        rw [up_up]
        refine d88 up_same (by omega) fun y b3 hy hb3 => ?_
        rw [up_up]
        refine ⟨by show 4 ≤ 100000; decide, ?_⟩
        have hp3 : (up M' m (Ob.gen c g b3)) p = some (.lst (fs.map Fm.d)) := (up_ne hpm).trans hp'
        have hl := ok.len
        simp only [hp3]
        refine ⟨by rw [List.length_map]; omega, hn _ _ ⟨k + 1, n', fs ++ [.room k x y], b3, _, _, by omega, rfl, ?_, (ex.at1).own (.inl hMp), by rw [up_ne hpm.symm, up_same], by rw [up_same, List.map_append]; rfl, by omega, rfl⟩⟩
        refine (ok.snoc (k := 22) ?_ row_room (by decide)).le (by omega) (by omega)
        show (decide (k ≤ 15) && (decide (x ≤ 2 ^ 60) && decide (y ≤ 2 ^ 60))) = true
        simp only [Bool.and_eq_true, decide_eq_true_eq]
        exact ⟨by omega, hx, hy⟩
      · rw [decide_eq_false c0]
        exact hn _ _ ⟨k + 1, n', fs, b' - 1, _, _, by omega, rfl, ok.le (by omega) (by omega), ex.at1, up_same, hp2, by omega, rfl⟩
    · rintro dl M' ⟨k, n, fs, b', a1, a2, hk, ei, ok, ex, hm', hp', hb', rfl⟩
      have := rng_nil ei
      have hk16 : k = 16 := by omega
      subst hk16
      refine ⟨trivial, ?_⟩
      simp only [dIf, dVar, dC, dCall, dCons, dNil, h81, List.getElem?_cons_zero, List.getElem?_cons_succ]
      refine d81 hm' (by omega) (by decide) (by decide) fun t t0 t1 => ?_
      obtain ⟨T, rfl⟩ := int_nat t0
      refine ⟨by omega, by omega, ?_⟩
      rw [Int.toNat_natCast]
      refine for_inv (fun its dl M' => ∃ k n fs b' a1 a2, k + n = T ∧ its = rgI ((k : Nat) : Int) 1 n ∧ FsOk fs (493 + 34 * k) (17 + k) ∧ Ex [m] M M' ∧ M' m = some (.gen c g b') ∧ M' p = some (.lst (fs.map Fm.d)) ∧ b ≤ b' + 280 + 52 * k ∧
        dl = [some (.ob m), some (.bl false), some (.ob p), a1, a2]) ?_ ?_ _ _ _ ⟨0, T, fs, b' - 1, _, _, by omega, rfl, ok, ex.at1, up_same, (up_ne hpm).trans hp', by omega, rfl⟩
      · rintro d rr dl M' nx ⟨k, n, fs, b', a1, a2, hk, ei, ok, ex, hm', hp', hb', rfl⟩ hn
        obtain ⟨n', rfl, rfl, rfl⟩ := rng_hd ei
        refine ⟨trivial, _, rfl, ?_⟩
        simp only [dSeq, dNext, dDrop, dApp, dTup, dCall, dOp, dCons, dNil, dVar, dC, h81, h96, isL, hp', List.getElem?_cons_zero, List.getElem?_cons_succ, List.set_cons_zero, List.set_cons_succ]
        refine ⟨trivial, ?_⟩
        refine d81 hm' (by omega) (by decide) (by decide) fun s s0 s1 => ?_
        obtain ⟨S, rfl⟩ := int_nat s0
        refine ⟨m, c, g, b' - 1, rfl, up_same, by omega, fun low o e M2 b2 ho hbt hoe hlo ex2 hm2 hb2 => ?_⟩
        have hp2 : M2 p = some (.lst (fs.map Fm.d)) := ex2.keep ((up_ne hpm).trans hp') (by simpa using hpm)
        have hl := ok.len
        refine ⟨by show 3 ≤ 100000; decide, ?_⟩
        simp only [hp2]
        refine ⟨by rw [List.length_map]; omega, hn _ _ ⟨k + 1, n', fs ++ [.data S low o e], b2, _, _, by omega, rfl, ?_, ((ex.at1).trans ex2).own (.inl hMp), by rw [up_ne hpm.symm]; exact hm2, by rw [up_same, List.map_append]; rfl, by omega, rfl⟩⟩
        refine (ok.snoc (k := 34) ?_ (row_data ho) (by decide)).le (by omega) (by omega)
        show (decide (S ≤ 15) && ((o.all fun x => decide (x < 256)) && ((!o.isEmpty || e) && decide (low + o.length ≤ 2 ^ 60 - 1)))) = true
        simp only [Bool.and_eq_true, decide_eq_true_eq, List.all_eq_true, Bool.or_eq_true, Bool.not_eq_true']
        refine ⟨by omega, hbt, ?_, hlo⟩
        rcases hoe with h | h
        · refine .inl ?_
          cases o with
          | nil => exact absurd rfl h
          | cons _ _ => rfl
        · exact .inr h
      · rintro dl M' ⟨k, n, fs, b', a1, a2, hk, ei, ok, ex, hm', hp', hb', rfl⟩
        have := rng_nil ei
        refine ⟨trivial, ?_⟩
        simp only [dRet, dSeq, dIf, dLst, dTup, dOp, dVar, dC, dCall, dCons, dNil, fB, fEq, h81, List.getElem?_cons_zero, List.getElem?_cons_succ]
        refine d81 hm' (by omega) (by decide) (by decide) fun s s0 s1 => ?_
        dsimp only
        have fin : ∀ (f1 : List Fm), (f1 = [] ∨ f1 = [.ping]) → ∀ p1, (up M' m (Ob.gen c g (b' - 1))) p1 = none → fAdd (.ob p) (.ob p1) (up (up M' m (Ob.gen c g (b' - 1))) p1 (.lst (f1.map Fm.d))) q := by
          intro f1 hf1 p1 hp1
          have hmp1 : m ≠ p1 := fun e => by subst e; rw [up_same] at hp1; cases hp1
          have hpp1 : p ≠ p1 := fun e => by subst e; rw [up_ne hpm, hp'] at hp1; cases hp1
          have hl := ok.len
          have hl1 : f1.length ≤ 1 := by rcases hf1 with rfl | rfl <;> decide
          simp only [fAdd, up_same, up_ne hpp1, up_ne hpm, hp', List.length_map]
          refine ⟨by omega, fun p2 hp2 => ?_⟩
          have hmp2 : m ≠ p2 := fun e => by subst e; rw [up_ne hmp1, up_same] at hp2; cases hp2
          have exx : Ex [m] M (up (up M' m (Ob.gen c g (b' - 1))) p1 (.lst (f1.map Fm.d))) := (ex.at1).new hp1
          refine hq p2 (fs ++ f1) _ (b' - 1) ?_ (exx.new hp2) (by rw [up_ne hmp2, up_ne hmp1, up_same]) (by rw [up_same, List.map_append]) (none_of exx hmp2.symm hp2) (by omega)
          rcases hf1 with rfl | rfl
          · rw [List.append_nil]
            exact ok.le (by omega) (by omega)
          · exact (ok.snoc (k := 1) rfl (by decide) (by decide)).le (by omega) (by omega)
        by_cases c0 : s = 0
        · rw [decide_eq_true c0]
          exact ⟨by show 1 ≤ 100000; decide, by show 1 ≤ 100000; decide, fun p1 hp1 => fin [.ping] (.inr rfl) p1 hp1⟩
        · rw [decide_eq_false c0]
          exact ⟨by show 0 ≤ 100000; decide, fun p1 hp1 => fin [] (.inl rfl) p1 hp1⟩
  show dSeq (dS C (t98.body.headD .nop)) (dSs C (t98.body.drop 1)) _ _ _ _
  generalize dSs C (t98.body.drop 1) = T at rest ⊢
  unfold t98
  simp only [List.headD_cons, dS, dE, dEs, dI, dSeq, dAsg, dIf, dCall, dOp, dCons, dNil, dVar, dC, fB, fEq, dSet, h81, h88, h95, h96, List.getElem?_cons_zero, List.getElem?_cons_succ, List.set_cons_zero, List.set_cons_succ]
  refine d81 hm (by omega) (by decide) (by decide) fun r r0 r1 => ?_
  dsimp only
  by_cases c0 : r = 0
  · rw [decide_eq_true c0]
    simp only [dLst, dTup, dCall, dCons, dNil, dVar, dC, List.getElem?_cons_zero, List.getElem?_cons_succ]
    refine ⟨m, c, g, b - 1, rfl, up_same, by omega, fun rs M1 b1 hrs hr1 hr6 ex1 hm1 hb1 => ?_⟩
    refine d88 hm1 (by omega) fun x b2 hx hb2 => ?_
    refine ⟨by show 3 ≤ 100000; decide, by show 1 ≤ 100000; decide, fun p hp => ?_⟩
    have hmp : m ≠ p := fun e => by subst e; rw [up_same] at hp; cases hp
    have exx : Ex [m] M (up M1 m (Ob.gen c g b2)) := (Ex.refl.at1.trans ex1).at1
    have ok : FsOk [.ack rs x] 141 1 := by
      refine (FsOk.nil.snoc (k := 141) (f := .ack rs x) ?_ (row_ack hr6) (by decide)).le (by decide) (by decide)
      show (rok (-1) rs && (decide (1 ≤ rs.length) && (decide (rs.length ≤ 32) && decide (x ≤ 2 ^ 60)))) = true
      simp only [Bool.and_eq_true, decide_eq_true_eq]
      exact ⟨hrs, hr1, by omega, hx⟩
    have := rest p _ b2 [.ack rs x] hmp.symm (none_of exx hmp.symm hp) (exx.new hp) (by rw [up_ne hmp, up_same]) up_same (by omega) ok
    exact this
  · rw [decide_eq_false c0]
    simp only [dLst, dCons, dNil]
    refine ⟨by show 0 ≤ 100000; decide, fun p hp => ?_⟩
    have hmp : m ≠ p := fun e => by subst e; rw [up_same] at hp; cases hp
    have exx : Ex [m] M (up M m (Ob.gen c g (b - 1))) := Ex.refl.at1
    have := rest p _ (b - 1) [] hmp.symm (none_of exx hmp.symm hp) (exx.new hp) (by rw [up_ne hmp, up_same]) up_same (by omega) (FsOk.nil.le (by decide) (by decide))
    exact this
end K7
/-! K7: the draws, part 7: mixed body. -/
namespace K7
open PySem PySem.Spec L2
open PyProof.Rows hiding St

local macro_rules | `(tactic| walk_at "k7") => `(tactic| simp only [dSs, dS, dEs, dE, dI, dSeq, dAsg, dPar, dDrop, dRet, dIfS, dNext, dBrk, dNev, dVar, dC, dNil, dCons, dOp, dCB, dCall, dTup, dTest, dAnd, dOr, dNot, dIf, dChn, dNeg, fB, fAdd, fI, fI0, fEq, fNe, fIsN, fNotN, isNon, fIx, fLen, fMin, fMax, fInt, fTup, fLst,
  dIsi, dSet, setAll, dFor, diSeq, diR1, diR2, diR3, diEn, dLst, dApp, dExt, dRev, dEmp, empB, dSl, dPart, dNoP, dRse, dRank, fDg, isL, up_same, List.getElem?_cons_zero, List.getElem?_cons_succ, List.set_cons_zero, List.set_cons_succ, Bool.not_true, Bool.not_false, Tg.slots])
theorem rowH_le {h : Hd} : 3 ≤ (rowH h).length ∧ (rowH h).length ≤ 31 := by
  have h1 := numO_len h.m
  have h2 := numO_len h.p
  unfold rowH
  split
  · rw [List.length_cons, List.length_append]
    omega
  · rename_i n _
    have h3 := numO_len n
    rw [List.length_cons, List.length_append, List.length_append]
    omega
theorem body_len (h : Hd) (fs : List Fm) : (bodyO h fs).length = (rowH h).length + wt fs := by
  unfold bodyO
  rw [List.length_append, wt_flat]
theorem body_byt {h : Hd} {fs : List Fm} (g : h.good = true) (gs : ∀ f ∈ fs, f.good = true) : Byt (bodyO h fs) := byt_app (rowH_byt g) (flat_byt gs)
theorem range_getD : ∀ (fs : List Fm), (List.range fs.length).map (fun i => fs.getD i .ping) = fs := by
  intro fs
  apply List.ext_getElem?
  intro i
  rw [List.getElem?_map]
  by_cases h : i < fs.length
  · rw [List.getElem?_range h, List.getElem?_eq_getElem h]
    show some (fs.getD i .ping) = _
    rw [List.getD_eq_getElem?_getD, List.getElem?_eq_getElem h]
    rfl
  · rw [List.getElem?_eq_none (by rw [List.length_range]; omega), List.getElem?_eq_none (by omega)]
    rfl
theorem fm_at {fs : List Fm} {i : Nat} (h : i < fs.length) : atI (fs.map Fm.d) (i : Int) = some (fs.getD i .ping).d := by
  refine atI_nat ?_
  rw [List.getElem?_map, List.getD_eq_getElem?_getD, List.getElem?_eq_getElem h]
  rfl
def p114 : DF := fun ds M q _ => ∃ m c g b, ds = [.ob m] ∧ M m = some (.gen c g b) ∧ 600 ≤ b ∧ ∀ (l : List Nat) (M' : Mem) (b' : Nat), Byt l → 3 ≤ l.length → l.length ≤ 800 → Ex [m] M M' → M' m = some (.gen c g b') → b ≤ b' + 600 → q (oD l) M'
theorem k114 {C : Nat → DF} (h81 : C 81 = p81) (h84 : C 84 = p84) (h86 : C 86 = p86) (h97 : C 97 = p97) (h98 : C 98 = p98) (h102 : C 102 = p102) : Keeps C t114 p114 := by
  rintro ds M q xi ⟨m, c, g, b, rfl, hm, hb, hq⟩
  refine ⟨rfl, ?_⟩
  show dSs C t114.body _ [some (.ob m), none, none, none] M _
  -- the end
  have rest2 : ∀ (h : Hd) (a : Addr) (fs : List Fm) (M1 : Mem) (b1 : Nat) (z : Option D), h.good = true → a ≠ m → M a = none → Ex [m] M M1 → M1 m = some (.gen c g b1) → M1 a = some (.lst (fs.map Fm.d)) → b ≤ b1 + 590 → FsOk fs 600 21 →
      dSs C (t114.body.drop 3) { nx := fun _ M' => q .non M', rt := q } [some (.ob m), some h.d, some (.ob a), z] M1 (fun c fs x M2 => xi c fs M2) := by
    intro h a fs M1 b1 z hh ham hMa ex1 hm1 ha1 hb1 ok
    have fin : ∀ (M2 : Mem) (b2 : Nat) (fs2 : List Fm), Ex [m] M M2 → M2 m = some (.gen c g b2) → M2 a = some (.lst (fs2.map Fm.d)) → b ≤ b2 + 600 → (∀ f ∈ fs2, f.good = true) → wt fs2 ≤ 741 → p102 [h.d, .ob a] M2 q (fun c fs M2 => xi c fs M2) := by
      intro M2 b2 fs2 ex2 hm2 ha2 hb2 g2 w2
      have hr := rowH_le (h := h)
      refine ⟨h, a, fs2, rfl, g2, by rw [body_len]; omega, ha2, ?_⟩
      exact hq _ M2 b2 (body_byt hh g2) (by rw [body_len]; omega) (by rw [body_len]; omega) ex2 hm2 hb2
    show dSs C ([_, _] : List S) _ _ _ _
    simp only [dSs, dS, dE, dEs, dSeq, dIfS, dAnd, dEmp, empB, dRet, dDrop, dApp, dCall, dOp, dCons, dNil, dVar, dC, fB, fEq, dNext, isL, h81, h84, h102, ha1, List.getElem?_cons_zero, List.getElem?_cons_succ]
    refine d81 hm1 (by omega) (by decide) (by decide) fun r r0 r1 => ?_
    dsimp only
    have ha2 : (up M1 m (Ob.gen c g (b1 - 1))) a = some (.lst (fs.map Fm.d)) := (up_ne ham).trans ha1
    have hw := ok.wt
    by_cases c0 : r = 0
    · rw [decide_eq_true c0]
      simp only [ha2]
      by_cases c1 : fs = []
      · subst c1
        exact fin _ (b1 - 1) [] ex1.at1 up_same ha2 (by omega) ok.good (by omega)
      · rw [show (fs.map Fm.d).isEmpty = false by cases fs with | nil => exact absurd rfl c1 | cons _ _ => rfl]
        refine ⟨trivial, ?_⟩
        have hfl : 0 < fs.length := List.length_pos_iff.2 c1
        have hfl2 := ok.len
        refine d84 up_same (by omega) ha2 (by rw [List.length_map]; exact hfl) (by rw [List.length_map]; omega) fun x hx => ?_
        obtain ⟨f, hf, rfl⟩ := List.mem_map.1 hx
        rw [up_up]
        have ha3 : (up M1 m (Ob.gen c g (b1 - 1 - 1))) a = some (.lst (fs.map Fm.d)) := (up_ne ham).trans ha1
        simp only [ha3, List.length_map]
        refine ⟨by omega, fin _ (b1 - 1 - 1) (fs ++ [f]) ((ex1.at1).own (.inl hMa)) (by rw [up_ne ham.symm, up_same]) (by rw [up_same, List.map_append]; rfl) (by omega) ?_ ?_⟩
        · intro y hy
          rcases List.mem_append.1 hy with hy | hy
          · exact ok.good y hy
          · rw [List.mem_singleton] at hy; rw [hy]; exact ok.good f hf
        · rw [wt_app]
          have := ok.one f hf
          show wt fs + ((rowF f).length + 0) ≤ 741
          omega
    · rw [decide_eq_false c0]
      exact fin _ (b1 - 1) fs ex1.at1 up_same ha2 (by omega) ok.good (by omega)
  have rest1 : ∀ (h : Hd) (a : Addr) (fs : List Fm) (M1 : Mem) (b1 : Nat), h.good = true → a ≠ m → M a = none → Ex [m] M M1 → M1 m = some (.gen c g b1) → M1 a = some (.lst (fs.map Fm.d)) → b ≤ b1 + 520 → FsOk fs 600 21 →
      dSs C (t114.body.drop 2) { nx := fun _ M' => q .non M', rt := q } [some (.ob m), some h.d, some (.ob a), none] M1 (fun c fs x M2 => xi c fs M2) := by
    intro h a fs M1 b1 hh ham hMa ex1 hm1 ha1 hb1 ok
    show dSeq (dS C ((t114.body.drop 2).headD .nop)) (dSs C (t114.body.drop 3)) _ _ _ _
    generalize dSs C (t114.body.drop 3) = T at rest2 ⊢
    rw [show (t114.body.drop 2).headD .nop = .ite (.and (.bin .eq (.call 81 [(.v 0), (.c (.int 2))]) (.c (.int 0))) (.emp true false (.v 2)))
      [.asg (.lc (.seq (.call 86 [(.v 0), (.len (.v 2))])) (.nm 3) (.ix (.v 2) (.v 3))) (.nm 2)] [] from rfl]
    simp only [dSs, dS, dE, dEs, dI, dSeq, dIfS, dAnd, dEmp, empB, dAsg, dLc, diSeq, dCall, dCB, fLen, dOp, dCons, dNil, dVar, dC, fB, fEq, dNext, h81, h86, List.getElem?_cons_zero, List.getElem?_cons_succ]
    refine d81 hm1 (by omega) (by decide) (by decide) fun r r0 r1 => ?_
    dsimp only
    have ha2 : (up M1 m (Ob.gen c g (b1 - 1))) a = some (.lst (fs.map Fm.d)) := (up_ne ham).trans ha1
    by_cases c0 : r = 0
    · rw [decide_eq_true c0]
      simp only [ha2]
      by_cases c1 : fs = []
      · subst c1
        exact rest2 h a [] _ (b1 - 1) none hh ham hMa ex1.at1 up_same ha2 (by omega) ok
      · rw [show (fs.map Fm.d).isEmpty = false by cases fs with | nil => exact absurd rfl c1 | cons _ _ => rfl]
        have hfl := ok.len
        rw [List.length_map]
        refine ⟨m, c, g, b1 - 1, fs.length, rfl, up_same, by omega, by omega, fun a2 l M2 b2 hl ex2 hm2 hl2 hn2 hb2 => ?_⟩
        have ha3 : M2 a = some (.lst (fs.map Fm.d)) := ex2.keep ha2 (by simpa using ham)
        simp only [hl2]
        refine lc_inv (fun its acc M' => M' = M2 ∧ ∃ don r, its = r.map nD ∧ don ++ r = l ∧ acc = (don.map fun i => fs.getD i .ping).map Fm.d) ?_ ?_ _ _ _ ⟨rfl, [], l, rfl, rfl, rfl⟩
        · rintro d rr acc M' kk ⟨rfl, don, rl, ei, el, rfl⟩ hkk
          cases rl with
          | nil => cases ei
          | cons i rl =>
            cases ei
            have hi : i < fs.length := by
              have : i ∈ l := by rw [← el]; simp
              exact List.mem_range.1 (hl.subset this)
            refine ⟨hl2, _, rfl, ?_⟩
            simp only [dwipe, Tg.slots, List.foldl_cons, List.foldl_nil, List.set_cons_zero, List.set_cons_succ, dOp, dVar, fIx, nD, List.getElem?_cons_zero, List.getElem?_cons_succ, ha3, fm_at hi]
            have hdl : don.length ≤ fs.length := by
              have h1 := hl.length_eq
              rw [List.length_range, ← el, List.length_append] at h1
              omega
            refine ⟨by rw [List.length_map, List.length_map]; omega, hkk _ _ ⟨rfl, don ++ [i], rl, rfl, by rw [List.append_assoc]; exact el, by rw [List.map_append, List.map_append]; rfl⟩⟩
        · rintro acc M' ⟨rfl, don, rl, ei, el, rfl⟩
          cases rl with
          | cons _ _ => cases ei
          | nil =>
            rw [List.append_nil] at el
            subst el
            refine ⟨hl2, fun p hp => ?_⟩
            have hmp : m ≠ p := fun e => by subst e; rw [hm2] at hp; cases hp
            simp only [dSet, List.set_cons_zero, List.set_cons_succ]
            have hperm : (don.map fun i => fs.getD i .ping).Perm fs := by
              have := hl.map (fun i => fs.getD i .ping)
              rw [range_getD] at this
              exact this
            have exx : Ex [m] M M' := ex1.at1.trans ex2
            refine rest2 h p _ _ b2 none hh hmp.symm (none_of exx hmp.symm hp) (exx.new hp) (by rw [up_ne hmp]; exact hm2) up_same (by omega) ⟨fun f hf => ok.good f (hperm.subset hf), by rw [wt_perm hperm]; exact ok.wt, by rw [hperm.length_eq]; exact ok.len, fun f hf => ok.one f (hperm.subset hf)⟩
    · rw [decide_eq_false c0]
      exact rest2 h a fs _ (b1 - 1) none hh ham hMa ex1.at1 up_same ha2 (by omega) ok
  show dSeq (dS C (.asg (.call 97 [(.v 0)]) (.nm 1))) (dSeq (dS C (.asg (.call 98 [(.v 0), (.c (.bl false))]) (.nm 2))) (dSs C (t114.body.drop 2))) _ _ _ _
  generalize dSs C (t114.body.drop 2) = T at rest1 ⊢
  simp only [dS, dE, dEs, dSeq, dAsg, dCall, dCons, dNil, dVar, dC, dSet, h97, h98, List.getElem?_cons_zero, List.getElem?_cons_succ, List.set_cons_zero, List.set_cons_succ]
  refine ⟨m, c, g, b, rfl, hm, by omega, fun h b1 hh hb1 => ?_⟩
  refine ⟨m, c, g, b1, rfl, up_same, by omega, fun a fs M2 b2 ok ex2 hm2 ha2 hna hb2 => ?_⟩
  have ham : a ≠ m := fun e => by subst e; rw [up_same] at hna; cases hna
  exact rest1 h a fs M2 b2 hh ham (by rw [up_ne ham] at hna; exact hna) (Ex.refl.at1.trans ex2) hm2 ha2 (by omega) ok
end K7
/-! K7: the draws, part 8: bent. -/
namespace K7
open PySem PySem.Spec L2
open PyProof.Rows hiding St

local macro_rules | `(tactic| walk_at "k7") => `(tactic| simp only [dSs, dS, dEs, dE, dI, dSeq, dAsg, dPar, dDrop, dRet, dIfS, dNext, dBrk, dNev, dVar, dC, dNil, dCons, dOp, dCB, dCall, dTup, dTest, dAnd, dOr, dNot, dIf, dChn, dNeg, fB, fAdd, fI, fI0, fEq, fNe, fIsN, fNotN, isNon, fIx, fLen, fMin, fMax, fInt, fTup, fLst,
  dIsi, dSet, setAll, dFor, diSeq, diR1, diR2, diR3, diEn, dLst, dApp, dExt, dRev, dEmp, empB, dSl, dPart, dNoP, dRse, dRank, fDg, isL, up_same, List.getElem?_cons_zero, List.getElem?_cons_succ, List.set_cons_zero, List.set_cons_succ, Bool.not_true, Bool.not_false, Tg.slots])
theorem cut_up {l : List Nat} {a : Nat} : cutD (l.map nD) none (some (a : Int)) = (l.take a).map nD := by
  unfold cutD
  rw [HT.sIx_nat, HT.sIx_none, List.length_map, List.drop_zero, Nat.sub_zero, List.map_take]
  by_cases h : a ≤ l.length
  · rw [Nat.min_eq_left h]
  · rw [Nat.min_eq_right (by omega), List.take_of_length_le (by rw [List.length_map]; omega), List.take_of_length_le (by rw [List.length_map]; omega)]
theorem cut_dn {l : List Nat} {a : Nat} : cutD (l.map nD) (some (a : Int)) none = (l.drop a).map nD := by
  unfold cutD
  rw [HT.sIx_nat, HT.sIx_none, List.length_map, List.map_drop]
  by_cases h : a ≤ l.length
  · rw [Nat.min_eq_left h, List.take_of_length_le (by rw [List.length_drop, List.length_map]; omega)]
  · rw [Nat.min_eq_right (by omega), List.drop_eq_nil_of_le (by rw [List.length_map]; omega), List.drop_eq_nil_of_le (by rw [List.length_map]; omega), List.take_nil]
def p115 : DF := fun ds M q _ => ∃ m c g b l, ds = [.ob m, oD l] ∧ M m = some (.gen c g b) ∧ 20 ≤ b ∧ Byt l ∧ 3 ≤ l.length ∧ l.length ≤ 900 ∧ ∀ (l' : List Nat) (M' : Mem) (b' : Nat), Byt l' → 3 ≤ l'.length → l'.length ≤ l.length + 2 → Ex [m] M M' → M' m = some (.gen c g b') → b ≤ b' + 20 → q (oD l') M'
theorem byt_take {l : List Nat} (h : Byt l) (a : Nat) : Byt (l.take a) := fun x hx => h x (List.mem_of_mem_take hx)
theorem byt_drop {l : List Nat} (h : Byt l) (a : Nat) : Byt (l.drop a) := fun x hx => h x (List.mem_of_mem_drop hx)
theorem byt_one {v : Nat} (h : v < 256) : Byt [v] := fun y hy => by rw [List.mem_singleton] at hy; subst hy; exact h
theorem k115 {C : Nat → DF} (h81 : C 81 = p81) (h84 : C 84 = p84) : Keeps C t115 p115 := by
  rintro ds M q xi ⟨m, c, g, b, l, rfl, hm, hb, hbt, hl3, hl9, hq⟩
  refine ⟨rfl, ?_⟩
  show dSs C t115.body _ [some (.ob m), some (oD l), none, none, none, none] M _
  unfold t115
  simp only [dSs, dS, dE, dEs, dI, dSeq, dFor, diR1, dOp, dCall, dCons, dNil, dVar, dC, fB, fAdd, h81, h84, List.getElem?_cons_zero, List.getElem?_cons_succ]
  refine d81 hm (by omega) (by decide) (by decide) fun t t0 t1 => ?_
  obtain ⟨T, rfl⟩ := int_nat t0
  refine ⟨by omega, by omega, ?_⟩
  rw [show (1 + (T : Int)).toNat = 1 + T by omega]
  refine for_inv (fun its dl M' => ∃ k n l' b' a1 a2 a3 a4, k + n = 1 + T ∧ its = rgI ((k : Nat) : Int) 1 n ∧ Byt l' ∧ 3 ≤ l'.length ∧ l'.length ≤ l.length + k ∧ Ex [m] M M' ∧ M' m = some (.gen c g b') ∧ b ≤ b' + 1 + 4 * k ∧
    dl = [some (.ob m), some (oD l'), a1, a2, a3, a4]) ?_ ?_ _ _ _ ⟨0, 1 + T, l, b - 1, _, _, _, _, by omega, rfl, hbt, hl3, by omega, Ex.refl.at1, up_same, by omega, rfl⟩
  · rintro d rr dl M' nx ⟨k, n, l', b', a1, a2, a3, a4, hk, ei, hb8, h3, hll, ex, hm', hb', rfl⟩ hn
    obtain ⟨n', rfl, rfl, rfl⟩ := rng_hd ei
    refine ⟨trivial, _, rfl, ?_⟩
    simp only [dSeq, dPar, dAsg, dSet, dOp, dCall, dCB, fLen, dCons, dNil, dVar, dC, dLst, oD, List.length_map, List.getElem?_cons_zero, List.getElem?_cons_succ, List.set_cons_zero, List.set_cons_succ]
    refine d81 hm' (by omega) (by omega) (by omega) fun r r0 r1 => ?_
    obtain ⟨A, rfl⟩ := int_nat r0
    have hA : A < l'.length := by omega
    refine d81 up_same (by omega) (by decide) (by decide) fun s s0 s1 => ?_
    rw [up_up]
    refine d81 up_same (by omega) (by decide) (by decide) fun o o0 o1 => ?_
    rw [up_up]
    refine ⟨by show 16 ≤ 100000; decide, fun p hp => ?_⟩
    have hmp : m ≠ p := fun e => by subst e; rw [up_same] at hp; cases hp
    refine d84 (a := p) (b := b' - 1 - 1 - 1) (by rw [up_ne hmp, up_same]) (by omega) up_same (by show 0 < 16; decide) (by show 16 < 1000; decide) fun x hx => ?_
    have hx' : ∃ v : Nat, x = nD v ∧ v < 256 := by
      simp only [List.mem_cons, List.not_mem_nil, or_false] at hx
      rcases hx with rfl | rfl | rfl | rfl | rfl | rfl | rfl | rfl | rfl | rfl | rfl | rfl | rfl | rfl | rfl | rfl
      · exact ⟨0, rfl, by decide⟩
      · exact ⟨1, rfl, by decide⟩
      · exact ⟨2, rfl, by decide⟩
      · exact ⟨3, rfl, by decide⟩
      · exact ⟨4, rfl, by decide⟩
      · exact ⟨5, rfl, by decide⟩
      · exact ⟨6, rfl, by decide⟩
      · exact ⟨15, rfl, by decide⟩
      · exact ⟨16, rfl, by decide⟩
      · exact ⟨32, rfl, by decide⟩
      · exact ⟨33, rfl, by decide⟩
      · exact ⟨127, rfl, by decide⟩
      · exact ⟨128, rfl, by decide⟩
      · exact ⟨129, rfl, by decide⟩
      · exact ⟨255, rfl, by decide⟩
      · exact ⟨o.toNat, by unfold nD; rw [Int.toNat_of_nonneg o0], by omega⟩
    obtain ⟨v, rfl, hv⟩ := hx'
    generalize hM2 : up (up (up M' m (Ob.gen c g (b' - 1 - 1 - 1))) p _) m (Ob.gen c g (b' - 1 - 1 - 1 - 1)) = M2
    have ex2 : Ex [m] M M2 := by
      subst hM2
      exact ((ex.at1).new hp).at1
    have hm2 : M2 m = some (.gen c g (b' - 4)) := by subst hM2; rw [up_same]; rfl
    clear hM2
    have fin : ∀ (l2 : List Nat) (a1 a2 a3 a4 : Option D), Byt l2 → 3 ≤ l2.length → l2.length ≤ l'.length + 1 → nx [some (.ob m), some (.tup (l2.map nD)), a1, a2, a3, a4] M2 := fun l2 a1 a2 a3 a4 i1 i2 i3 =>
      hn _ _ ⟨k + 1, n', l2, b' - 4, a1, a2, a3, a4, by omega, rfl, i1, i2, by omega, ex2, hm2, by omega, rfl⟩
    have hone : [nD v] = [v].map nD := rfl
    simp only [dIfS, dSeq, dNext, dAsg, dAnd, dOp, dTup, dSl, dPart, dNoP, dCB, fLen, fMax, fI0, fB, fEq, fAdd, dSet, dCons, dNil, dVar, dC, List.getElem?_cons_zero, List.getElem?_cons_succ, List.set_cons_zero, List.set_cons_succ]
    by_cases c1 : s < 2
    · rw [decide_eq_true c1]
      have ea : cutD (l'.map nD) (some ((A : Int) + 1)) none = (l'.drop (A + 1)).map nD := cut_dn (a := A + 1)
      simp only [cut_up, ea, hone, ← List.map_append]
      refine ⟨by show 1 ≤ 100000; decide, by simp only [List.length_map, List.length_take, List.length_cons, List.length_nil]; omega, by simp only [List.length_map, List.length_append, List.length_take, List.length_drop, List.length_cons, List.length_nil]; omega, ?_⟩
      refine fin _ _ _ _ _ (byt_app (byt_app (byt_take hb8 _) (byt_one hv)) (byt_drop hb8 _)) ?_ ?_ <;> simp only [List.length_append, List.length_take, List.length_drop, List.length_cons, List.length_nil] <;> omega
    · rw [decide_eq_false c1]
      dsimp only
      by_cases c2 : s = 2
      · rw [decide_eq_true c2]
        simp only [cut_up, cut_dn, hone, ← List.map_append]
        refine ⟨by show 1 ≤ 100000; decide, by simp only [List.length_map, List.length_take, List.length_cons, List.length_nil]; omega, by simp only [List.length_map, List.length_append, List.length_take, List.length_drop, List.length_cons, List.length_nil]; omega, ?_⟩
        refine fin _ _ _ _ _ (byt_app (byt_app (byt_take hb8 _) (byt_one hv)) (byt_drop hb8 _)) ?_ ?_ <;> simp only [List.length_append, List.length_take, List.length_drop, List.length_cons, List.length_nil] <;> omega
      · rw [decide_eq_false c2]
        dsimp only
        have kind4 : ∀ (z : Bool), z = decide (s = 4) → (match (D.bl z) with
          | .bl true => nx [some (.ob m), some (.tup (cutD (l'.map nD) none (some (if (A : Int) > 3 then (A : Int) else 3)))), some (.int (k : Int)), some (nD v), some (.int (A : Int)), some (.int s)] M2
          | .bl false => nx [some (.ob m), some (.tup (l'.map nD)), some (.int (k : Int)), some (nD v), some (.int (A : Int)), some (.int s)] M2
          | _ => False) := by
          intro z _
          cases z with
          | false => exact fin l' _ _ _ _ hb8 h3 (by omega)
          | true =>
            have : ∃ B : Nat, (if (A : Int) > 3 then (A : Int) else 3) = (B : Int) ∧ 3 ≤ B := by
              split
              · exact ⟨A, rfl, by omega⟩
              · exact ⟨3, rfl, by decide⟩
            obtain ⟨B, eB, hB⟩ := this
            show nx [some (.ob m), some (.tup (cutD (l'.map nD) none (some (if (A : Int) > 3 then (A : Int) else 3)))), _, _, _, _] M2
            rw [eB, cut_up]
            exact fin _ _ _ _ _ (byt_take hb8 _) (by rw [List.length_take]; omega) (by rw [List.length_take]; omega)
        by_cases c3 : s = 3
        · rw [decide_eq_true c3]
          dsimp only
          simp only [List.length_map]
          by_cases c4 : (3 : Int) < (l'.length : Int)
          · rw [decide_eq_true c4]
            have ea : cutD (l'.map nD) (some ((A : Int) + 1)) none = (l'.drop (A + 1)).map nD := cut_dn (a := A + 1)
            simp only [cut_up, ea, ← List.map_append]
            refine ⟨by simp only [List.length_map, List.length_append, List.length_take, List.length_drop, List.length_cons, List.length_nil]; omega, ?_⟩
            refine fin _ _ _ _ _ (byt_app (byt_take hb8 _) (byt_drop hb8 _)) ?_ ?_ <;> simp only [List.length_append, List.length_take, List.length_drop, List.length_cons, List.length_nil] <;> omega
          · rw [decide_eq_false c4]
            exact kind4 _ rfl
        · rw [decide_eq_false c3]
          exact kind4 _ rfl
  · rintro dl M' ⟨k, n, l', b', a1, a2, a3, a4, hk, ei, hb8, h3, hll, ex, hm', hb', rfl⟩
    have := rng_nil ei
    refine ⟨trivial, ?_⟩
    simp only [dRet, dVar, dSeq, List.getElem?_cons_zero, List.getElem?_cons_succ]
    exact hq l' M' b' hb8 h3 (by omega) ex hm' (by omega)
end K7
/-! K7: the law's reading, part 8: read. -/
namespace K7
open PySem PySem.Spec L2
open PyProof.Rows hiding St

local macro_rules | `(tactic| walk_at "k7") => `(tactic| simp only [dSs, dS, dEs, dE, dI, dSeq, dAsg, dPar, dDrop, dRet, dIfS, dNext, dBrk, dNev, dVar, dC, dNil, dCons, dOp, dCB, dCall, dTup, dTest, dAnd, dOr, dNot, dIf, dChn, dNeg, fB, fAdd, fI, fI0, fEq, fNe, fIsN, fNotN, isNon, fIx, fLen, fMin, fMax, fInt, fTup, fLst,
  dIsi, dSet, setAll, dFor, diSeq, diR1, diR2, diR3, diEn, dLst, dApp, dExt, dRev, dEmp, empB, dSl, dPart, dNoP, dRse, dRank, fDg, isL, up_same, List.getElem?_cons_zero, List.getElem?_cons_succ, List.set_cons_zero, List.set_cons_succ, Bool.not_true, Bool.not_false, Tg.slots])
def wLet : Str := "let"
def readD : Except Er (Hd × List Fm) → D
  | .ok x => .tup [.str wLet, encB x]
  | .error e => flt e.1 e.2
def p112 : DF := fun ds M q _ => ∃ l, ds = [oD l] ∧ Byt l ∧ l.length ≤ 5000 ∧ 1 ≤ l.length ∧ ∀ M', Ex [] M M' → q (readD (readB l)) M'
theorem Ex.drop {r : Addr} {M M' : Mem} (x : Ex [r] M M') (h : M r = none) : Ex [] M M' := fun a o _ e => x a o (fun z => by
  rw [List.mem_singleton] at z
  subst z
  rw [h] at e
  cases e) e
theorem hdR_facts {l : List Nat} {h : Hd} {p : Nat} (e : hdR l = .ok (h, p)) : h.k.isNone = decide (l.getD 0 0 < 2) ∧ h.s = l.getD 0 0 % 2 := by
  unfold hdR at e
  split at e
  · cases e
  · rename_i h3
    split at e
    · cases e
    · split at e
      · cases e
      · split at e
        · rename_i h2
          cases e
          rw [decide_eq_true h2]
          exact ⟨rfl, (Nat.mod_eq_of_lt h2).symm⟩
        · rename_i h2
          split at e
          · cases e
          · cases e
            rw [decide_eq_false h2]
            refine ⟨rfl, ?_⟩
            show l.getD 0 0 - 2 = _
            omega
theorem k112 {C : Nat → DF} (h104 : C 104 = p104) (h111 : C 111 = p111) : Keeps C t112 p112 := by
  rintro ds M q xi ⟨l, rfl, hb, hl, h1, hq⟩
  refine ⟨rfl, ?_⟩
  show dSs C t112.body _ [some (oD l), none, none, none, none, none, none] M _
  have a0 : atI (l.map nD) 0 = some (D.int (l.getD 0 0 : Nat)) := getD_at (p := 0) (by omega)
  -- the end
  have fin : ∀ (r f : Addr) (a b c x : D) (xx : Option D) (M1 : Mem), M r = none → Ex [r] M M1 →
      ((∃ e p, M1 r = some (kvR l p (flt e.1 e.2)) ∧ readB l = .error e) ∨
        (∃ h p p0 fs, hdR l = .ok (h, p0) ∧ bodyGo l h.k.isNone l.length [] p0 = .ok fs ∧ M1 r = some (kvR l p .non) ∧ M1 f = some (.lst (fs.map Fm.d)) ∧ a = nD h.m ∧ b = nD h.p ∧ c = optN h.k)) →
      dSs C (t112.body.drop 7) { nx := fun _ M' => q .non M', rt := q } [some (oD l), some (.ob r), some a, some b, some c, some (.ob f), xx] M1 (fun c fs x M2 => xi c fs M2) := by
    intro r f a b c x xx M1 hr ex hst
    show dSs C ([_, _] : List S) _ _ _ _
    simp only [dSs, dS, dE, dEs, dSeq, dIfS, dRet, dTup, dCB, dOp, dCons, dNil, dVar, dC, fB, fDg, fNotN, isNon, fI, fIx, fInt, fTup, dNext, oD, a0, show (Str.ofString "fault") = kFault from rfl, List.getElem?_cons_zero, List.getElem?_cons_succ]
    rcases hst with ⟨e, p, hm, er⟩ | ⟨h, p, p0, fs, eh, eb, hm, hf, rfl, rfl, rfl⟩
    · simp only [hm, kvR, dgt_fault, flt, Bool.not_false]
      have := hq _ (ex.drop hr)
      rw [er] at this
      exact this
    · simp only [hm, hf, kvR, dgt_fault, Bool.not_true]
      have er : readB l = .ok (h, fs) := by
        unfold readB
        rw [eh]
        dsimp only
        rw [eb]
      have := hq _ (ex.drop hr)
      rw [er] at this
      refine ⟨by decide, by show 4 ≤ 100000; decide, by show 2 ≤ 100000; decide, by show 2 ≤ 100000; decide, ?_⟩
      have es : D.int ((l.getD 0 0 : Nat) % (2 : Int)) = nD h.s := by
        rw [(hdR_facts eh).2]
        rfl
      rw [es]
      exact this
  have rest : ∀ (r : Addr) (a b c : D) (M1 : Mem), M r = none → Ex [r] M M1 →
      ((∃ e p, M1 r = some (kvR l p (flt e.1 e.2)) ∧ readB l = .error e) ∨
        (∃ h p0, hdR l = .ok (h, p0) ∧ M1 r = some (kvR l p0 .non) ∧ a = nD h.m ∧ b = nD h.p ∧ c = optN h.k)) →
      dSs C (t112.body.drop 5) { nx := fun _ M' => q .non M', rt := q } [some (oD l), some (.ob r), some a, some b, some c, none, none] M1 (fun c fs x M2 => xi c fs M2) := by
    intro r a b c M1 hr ex hst
    show dSeq (dS C (.asg (.lst []) (.nm 5))) (dSeq (dS C ((t112.body.drop 6).headD .nop)) (dSs C (t112.body.drop 7))) _ _ _ _
    generalize dSs C (t112.body.drop 7) = T at fin ⊢
    rw [show (t112.body.drop 6).headD .nop = .for_ (.r1 (.len (.v 0))) (.nm 6)
      [.ite (.or (.bin .notN (.dg (.v 1) (.c (.str "fault"))) (.c .non)) (.bin .ge (.dg (.v 1) (.c (.str "at"))) (.len (.v 0)))) [.brk] [],
      .ex (.app (.v 5) (.call 111 [(.v 1), (.v 5), (.bin .lt (.ix (.v 0) (.c (.int 0))) (.c (.int 2)))]))] from rfl]
    simp only [dSs, dS, dE, dEs, dI, dSeq, dAsg, dFor, diR1, dCB, fLen, dLst, dCons, dNil, dVar, oD, dSet, List.getElem?_cons_zero, List.getElem?_cons_succ, List.set_cons_zero, List.set_cons_succ, List.length_map]
    refine ⟨by show 0 ≤ 100000; decide, fun f hf => ?_⟩
    have hrf : r ≠ f := fun e => by
      subst e
      rcases hst with ⟨_, _, hm, _⟩ | ⟨_, _, _, hm, _⟩ <;> rw [hm] at hf <;> cases hf
    have hMf : M f = none := none_of ex hrf.symm hf
    refine ⟨by omega, by omega, ?_⟩
    rw [Int.toNat_natCast]
    refine for_inv (fun its dl M' => ∃ k n xx, k + n = l.length ∧ its = rgI ((k : Nat) : Int) 1 n ∧ Ex [r] M M' ∧ dl = [some (.tup (l.map nD)), some (.ob r), some a, some b, some c, some (.ob f), xx] ∧
      ((∃ e p xs, M' r = some (kvR l p (flt e.1 e.2)) ∧ readB l = .error e ∧ M' f = some (.lst xs)) ∨
        (∃ h p p0 fs, hdR l = .ok (h, p0) ∧ bodyGo l h.k.isNone n fs p = bodyGo l h.k.isNone l.length [] p0 ∧ M' r = some (kvR l p .non) ∧ M' f = some (.lst (fs.map Fm.d)) ∧ Ord fs ∧ fs.length + n = l.length ∧ p ≤ l.length ∧ a = nD h.m ∧ b = nD h.p ∧ c = optN h.k))) ?_ ?_ _ _ _ ⟨0, l.length, none, by omega, rfl, ex.new hf, rfl, ?_⟩
    · rintro d rr dl M' nx ⟨k, n, xx, hk, ei, ex', rfl, hs⟩ hn
      obtain ⟨n', rfl, rfl, rfl⟩ := rng_hd ei
      refine ⟨trivial, _, rfl, ?_⟩
      simp only [dIfS, dSeq, dOr, dOp, dCB, fLen, dCons, dNil, dVar, dC, fB, fDg, fNotN, isNon, fI0, dBrk, dNext, dDrop, dApp, dCall, fIx, a0, h111, show (Str.ofString "fault") = kFault from rfl, show (Str.ofString "at") = kAt from rfl, List.getElem?_cons_zero, List.getElem?_cons_succ, List.set_cons_zero, List.set_cons_succ, List.length_map]
      rcases hs with ⟨e, p, xs, hm, er, hxs⟩ | ⟨h, p, p0, fs, eh, eb, hm, hfs, ho, hfl, hp, ea, eb', ec⟩
      · simp only [hm, kvR, dgt_fault, flt, Bool.not_false]
        exact fin r f a b c .non _ M' hr ex' (.inl ⟨e, p, hm, er⟩)
      · simp only [hm, kvR, dgt_fault, dgt_at, nD, Bool.not_true]
        by_cases hpl : p < l.length
        · rw [decide_eq_false (show ¬ ((l.length : Int) ≤ (p : Int)) by omega)]
          simp only [hfs, isL]
          refine ⟨trivial, ?_⟩
          have ebare : decide (((l.getD 0 0 : Nat) : Int) < 2) = h.k.isNone := by
            rw [(hdR_facts eh).1]
            exact decide_eq_decide.mpr (by omega)
          rw [ebare]
          refine ⟨r, f, l, p, fs, h.k.isNone, rfl, hb, hl, hpl, hm, hrf.symm, hfs, by omega, ho, ?_⟩
          have eb2 : (match frR l p fs h.k.isNone with
            | .error e => .error e
            | .ok (g, p') => bodyGo l h.k.isNone n' (fs ++ [g]) p') = bodyGo l h.k.isNone l.length [] p0 := by
            rw [← eb]
            exact (if_pos hpl).symm
          cases hfr : frR l p fs h.k.isNone with
          | error e =>
            rw [hfr] at eb2
            intro M2 p2 ex2 hm2
            have hf2 := ex2.keep hfs (by simpa using hrf.symm)
            simp only [hf2]
            refine ⟨by rw [List.length_map]; omega, hn _ _ ⟨k + 1, n', _, by omega, rfl, (ex'.trans ex2).own (.inl hMf), rfl, .inl ⟨e, p2, _, by rw [up_ne hrf]; exact hm2, ?_, up_same⟩⟩⟩
            unfold readB
            rw [eh]
            dsimp only
            rw [← eb2]
          | ok y =>
            obtain ⟨gm, p'⟩ := y
            rw [hfr] at eb2
            dsimp only at eb2
            intro M2 ex2 hm2
            dsimp only at hm2 ⊢
            have hf2 := ex2.keep hfs (by simpa using hrf.symm)
            have hok := frR_ok hpl hfr
            simp only [hf2]
            refine ⟨by rw [List.length_map]; omega, hn _ _ ⟨k + 1, n', _, by omega, rfl, (ex'.trans ex2).own (.inl hMf), rfl, .inr ⟨h, p', p0, fs ++ [gm], eh, eb2, by rw [up_ne hrf]; exact hm2, by rw [up_same, List.map_append]; rfl, next_ord (frR_next hfr) ho, by rw [List.length_append]; show _ + 1 + _ = _; omega, hok.2, ea, eb', ec⟩⟩⟩
        · rw [decide_eq_true (show ((l.length : Int) ≤ (p : Int)) by omega)]
          refine fin r f a b c .non _ M' hr ex' (.inr ⟨h, p, p0, fs, eh, ?_, hm, hfs, ea, eb', ec⟩)
          rw [← eb]
          exact if_neg hpl
    · rintro dl M' ⟨k, n, xx, hk, ei, ex', rfl, hs⟩
      have := rng_nil ei
      subst this
      refine ⟨trivial, ?_⟩
      rcases hs with ⟨e, p, xs, hm, er, hxs⟩ | ⟨h, p, p0, fs, eh, eb, hm, hfs, ho, hfl, hp, ea, eb', ec⟩
      · exact fin r f a b c .non _ M' hr ex' (.inl ⟨e, p, hm, er⟩)
      · exact fin r f a b c .non _ M' hr ex' (.inr ⟨h, p, p0, fs, eh, eb.symm, hm, hfs, ea, eb', ec⟩)
    · rcases hst with ⟨e, p, hm, er⟩ | ⟨h, p0, eh, hm, ea, eb', ec⟩
      · exact .inl ⟨e, p, [], by rw [up_ne hrf]; exact hm, er, up_same⟩
      · have hok := hdR_ok h1 eh
        exact .inr ⟨h, p0, p0, [], eh, rfl, by rw [up_ne hrf]; exact hm, up_same, .nil, by rw [List.length_nil]; omega, hok.2, ea, eb', ec⟩
  show dSeq (dS C (.asg (.dsp ["body", "at", "fault"] [(.v 0), (.c (.int 1)), (.c .non)]) (.nm 1))) (dSeq (dS C (.ite (.bin .gt (.ix (.v 0) (.c (.int 0))) (.c (.int 3))) [.ret (.tup [(.c (.str "head")), (.c (.int 0))])] []))
    (dSeq (dS C (.asg (.call 104 [(.v 1)]) (.nm 2))) (dSeq (dS C (.asg (.ife (.bin .isN (.v 2) (.c .non)) (.c .non) (.call 104 [(.v 1)])) (.nm 3)))
    (dSeq (dS C (.asg (.ife (.or (.bin .isN (.v 3) (.c .non)) (.bin .lt (.ix (.v 0) (.c (.int 0))) (.c (.int 2)))) (.c .non) (.call 104 [(.v 1)])) (.nm 4))) (dSs C (t112.body.drop 5)))))) _ _ _ _
  generalize dSs C (t112.body.drop 5) = T at rest ⊢
  clear fin
  simp only [dSs, dS, dE, dEs, dSeq, dAsg, dIfS, dRet, dTup, dDisp, dIf, dOr, dOp, dCall, dCons, dNil, dVar, dC, fB, fIx, fI0, fIsN, isNon, dNext, oD, a0, h104, dSet, List.getElem?_cons_zero, List.getElem?_cons_succ, List.set_cons_zero, List.set_cons_succ]
  refine ⟨rfl, fun r hr => ?_⟩
  rw [show (Ob.dct ([Str.ofString "body", Str.ofString "at", Str.ofString "fault"].zip [D.tup (l.map nD), D.int 1, D.non])) = kvR l 1 .non from rfl]
  generalize ht : l.getD 0 0 = t at a0 ⊢
  by_cases c3 : 3 < t
  · rw [decide_eq_true (show (3 : Int) < (t : Int) by omega)]
    refine ⟨by show 2 ≤ 100000; decide, ?_⟩
    have er : readB l = .error (wHead, 0) := by
      unfold readB hdR
      rw [ht, if_pos c3]
    have := hq _ (Ex.refl.new (o := kvR l 1 .non) hr)
    rw [er] at this
    exact this
  · rw [decide_eq_false (show ¬ (3 : Int) < (t : Int) by omega)]
    dsimp only
    have ex0 : Ex [r] M (up M r (kvR l 1 .non)) := Ex.refl.at1
    refine ⟨r, l, 1, rfl, hb, hl, h1, up_same, ?_⟩
    cases n1 : nAt l 1 with
    | error e =>
      intro M2 p2 ex2 hm2
      refine rest r .non .non .non M2 hr (ex0.trans ex2) (.inl ⟨e, p2, hm2, ?_⟩)
      unfold readB hdR
      rw [ht, if_neg c3, n1]
    | ok y =>
      obtain ⟨mk, p1⟩ := y
      obtain ⟨b1, b2, b3⟩ := nAt_ok h1 n1
      intro M2 ex2 hm2
      dsimp only at hm2 ⊢
      simp only [nD]
      refine ⟨r, l, p1, rfl, hb, hl, b2, hm2, ?_⟩
      cases n2 : nAt l p1 with
      | error e =>
        intro M3 p3 ex3 hm3
        refine rest r _ .non .non M3 hr ((ex0.trans ex2).trans ex3) (.inl ⟨e, p3, hm3, ?_⟩)
        unfold readB hdR
        rw [ht, if_neg c3, n1]
        dsimp only
        rw [n2]
      | ok y =>
        obtain ⟨pt, p2⟩ := y
        obtain ⟨d1, d2, d3⟩ := nAt_ok b2 n2
        intro M3 ex3 hm3
        dsimp only at hm3 ⊢
        simp only [nD]
        by_cases c2 : t < 2
        · rw [decide_eq_true (show (t : Int) < 2 by omega)]
          refine rest r _ _ .non M3 hr ((ex0.trans ex2).trans ex3) (.inr ⟨⟨t, mk, pt, none⟩, p2, ?_, hm3, rfl, rfl, rfl⟩)
          unfold hdR
          rw [ht, if_neg c3, n1]
          dsimp only
          rw [n2]
          dsimp only
          rw [if_pos c2]
        · rw [decide_eq_false (show ¬ (t : Int) < 2 by omega)]
          dsimp only
          refine ⟨r, l, p2, rfl, hb, hl, d2, hm3, ?_⟩
          cases n3 : nAt l p2 with
          | error e =>
            intro M4 p4 ex4 hm4
            refine rest r _ _ .non M4 hr (((ex0.trans ex2).trans ex3).trans ex4) (.inl ⟨e, p4, hm4, ?_⟩)
            unfold readB hdR
            rw [ht, if_neg c3, n1]
            dsimp only
            rw [n2]
            dsimp only
            rw [if_neg c2, n3]
          | ok y =>
            obtain ⟨pk, p3⟩ := y
            intro M4 ex4 hm4
            dsimp only at hm4 ⊢
            refine rest r _ _ _ M4 hr (((ex0.trans ex2).trans ex3).trans ex4) (.inr ⟨⟨t - 2, mk, pt, some pk⟩, p3, ?_, hm4, rfl, rfl, rfl⟩)
            unfold hdR
            rw [ht, if_neg c3, n1]
            dsimp only
            rw [n2]
            dsimp only
            rw [if_neg c2, n3]
end K7
/-! K7: plain: what is shown is short. -/
namespace K7
open PySem PySem.Spec L2
open PyProof.Rows hiding St

local macro_rules | `(tactic| walk_at "k7") => `(tactic| simp only [dSs, dS, dEs, dE, dI, dSeq, dAsg, dPar, dDrop, dRet, dIfS, dNext, dBrk, dNev, dVar, dC, dNil, dCons, dOp, dCB, dCall, dTup, dTest, dAnd, dOr, dNot, dIf, dChn, dNeg, fB, fAdd, fI, fI0, fEq, fNe, fIsN, fNotN, isNon, fIx, fLen, fMin, fMax, fInt, fTup, fLst,
  dIsi, dSet, setAll, dFor, diSeq, diR1, diR2, diR3, diEn, dLst, dApp, dExt, dRev, dEmp, empB, dSl, dPart, dNoP, dRse, dRank, fDg, isL, up_same, List.getElem?_cons_zero, List.getElem?_cons_succ, List.set_cons_zero, List.set_cons_succ, Bool.not_true, Bool.not_false, Tg.slots])
/-! ### what is shown is short -/
structure OkP (n k : Nat) (p : PyData) : Prop where
  sh : p.showable = true
  nd : p.hasDict = false
  dp : p.depth ≤ k
  ls : p.leavesShort 24 = true
  bk : p.bulk ≤ n
structure OkPs (n k : Nat) (ps : List PyData) : Prop where
  sh : PyData.showableAll ps = true
  nd : PyData.hasDictAll ps = false
  dp : PyData.depthAll ps ≤ k
  ls : PyData.leavesShortAll 24 ps = true
  bk : PyData.bulkAll ps ≤ n
def okD (n k : Nat) (d : D) : Prop := ∃ p, pyP d = some p ∧ OkP n k p
def okDs (n k : Nat) (ds : List D) : Prop := ∃ ps, pyPs ds = some ps ∧ OkPs n k ps
theorem okD.le {n k n' k' : Nat} {d : D} (h : okD n k d) (h1 : n ≤ n') (h2 : k ≤ k') : okD n' k' d := by
  obtain ⟨p, e, o⟩ := h
  exact ⟨p, e, o.sh, o.nd, Nat.le_trans o.dp h2, o.ls, Nat.le_trans o.bk h1⟩
theorem okDs.le {n k n' k' : Nat} {ds : List D} (h : okDs n k ds) (h1 : n ≤ n') (h2 : k ≤ k') : okDs n' k' ds := by
  obtain ⟨p, e, o⟩ := h
  exact ⟨p, e, o.sh, o.nd, Nat.le_trans o.dp h2, o.ls, Nat.le_trans o.bk h1⟩
theorem okD_non : okD 0 0 .non := ⟨_, rfl, rfl, rfl, Nat.le_refl _, rfl, Nat.le_refl _⟩
theorem okD_bl (b : Bool) : okD 0 0 (.bl b) := ⟨_, rfl, rfl, rfl, Nat.le_refl _, rfl, Nat.le_refl _⟩
theorem okD_nat {n : Nat} (h : n ≤ 2 ^ 60) : okD 0 0 (nD n) := by
  refine ⟨.int n, rfl, ?_, rfl, Nat.le_refl _, ?_, Nat.le_refl _⟩
  · show decide ((n : Int).natAbs.log2 < 1920) = true
    refine decide_eq_true ?_
    rw [Int.natAbs_natCast]
    by_cases h0 : n = 0
    · subst h0; decide
    · refine (Nat.log2_lt h0).2 (Nat.lt_of_le_of_lt h (Nat.pow_lt_pow_right (by decide) (by decide)))
  · show decide ((PyData.shown (.int n)).length ≤ 24) = true
    refine decide_eq_true ?_
    have := toString_length_le (v := (n : Int)) (by omega) (k := 24) (by decide) (by omega)
    exact this
def strOk (s : Str) : Bool := (s.cps.toList.all fun c => decide (c < 16 ^ 8)) && decide (s.cps.size ≤ 8)
theorem okD_str {s : Str} (h : strOk s = true) : okD 8 0 (.str s) := by
  unfold strOk at h
  rw [Bool.and_eq_true, decide_eq_true_eq] at h
  exact ⟨.str s, rfl, rfl, rfl, Nat.le_refl _, h.1, h.2⟩
theorem okDs_nil : okDs 0 0 [] := ⟨[], rfl, rfl, rfl, Nat.le_refl _, rfl, Nat.le_refl _⟩
theorem okDs.cons {a b k : Nat} {d : D} {ds : List D} (h : okD a k d) (hs : okDs b k ds) : okDs (a + 1 + b) k (d :: ds) := by
  obtain ⟨p, e, o⟩ := h
  obtain ⟨ps, es, os⟩ := hs
  refine ⟨p :: ps, ?_, ?_, ?_, ?_, ?_, ?_⟩
  · show (match pyP d, pyPs ds with
    | some p, some ps => some (p :: ps)
    | _, _ => none) = _
    rw [e, es]
  · show (p.showable && PyData.showableAll ps) = true
    rw [o.sh, os.sh]; rfl
  · show (p.hasDict || PyData.hasDictAll ps) = false
    rw [o.nd, os.nd]; rfl
  · show max p.depth (PyData.depthAll ps) ≤ k
    exact Nat.max_le.2 ⟨o.dp, os.dp⟩
  · show (p.leavesShort 24 && PyData.leavesShortAll 24 ps) = true
    rw [o.ls, os.ls]; rfl
  · show p.bulk + 1 + PyData.bulkAll ps ≤ _
    have h1 := o.bk
    have h2 := os.bk
    omega
theorem okDs.tup {n k : Nat} {ds : List D} (h : okDs n k ds) : okD n (k + 1) (.tup ds) := by
  obtain ⟨ps, e, o⟩ := h
  refine ⟨.tuple ps, ?_, o.sh, o.nd, Nat.succ_le_succ o.dp, o.ls, o.bk⟩
  show (pyPs ds).map PyData.tuple = _
  rw [e]; rfl
theorem okP_shown {n k : Nat} {p : PyData} (o : OkP n k p) (hk : k ≤ 64) (hn : n ≤ 600000) : shownOk p := by
  refine ⟨o.sh, o.nd, Nat.le_trans o.dp hk, ?_⟩
  have h1 := PyData.shown_le_bulk 24 (by decide) p o.ls
  have h2 := o.bk
  have h3 : (24 + 2) * p.bulk ≤ 26 * 600000 := Nat.mul_le_mul (Nat.le_refl _) (by omega)
  show p.shown.length ≤ 2 ^ 24
  omega
theorem okD_shown {n k : Nat} {d : D} (h : okD n k d) (hk : k ≤ 64) (hn : n ≤ 600000) : ∃ p, pyP d = some p ∧ shownOk p := by
  obtain ⟨p, e, o⟩ := h
  exact ⟨p, e, okP_shown o hk hn⟩
theorem okDs_shown {n k : Nat} {ds : List D} (h : okDs n k ds) (hk : k < 64) (hn : n ≤ 600000) : ∃ ps, pyPs ds = some ps ∧ shownOk (.list ps) := by
  obtain ⟨ps, e, o⟩ := h
  exact ⟨ps, e, okP_shown (n := n) (k := k + 1) ⟨o.sh, o.nd, Nat.succ_le_succ o.dp, o.ls, o.bk⟩ hk hn⟩
/-! ### octets, headers, frames -/
theorem okDs_oct : ∀ {l : List Nat}, Byt l → okDs l.length 0 (l.map nD)
  | [], _ => okDs_nil
  | x :: r, h => by
    have hx := h x List.mem_cons_self
    refine (okDs.cons (okD_nat (n := x) (by omega)) (okDs_oct fun y hy => h y (List.mem_cons_of_mem _ hy))).le ?_ (Nat.le_refl _)
    rw [List.length_cons]
    omega
theorem okD_oct {l : List Nat} (h : Byt l) : okD l.length 1 (oD l) := (okDs_oct h).tup
theorem okD_hd {h : Hd} (g : h.good = true) : okD 10 1 h.d := by
  unfold Hd.good at g
  simp only [Bool.and_eq_true, decide_eq_true_eq] at g
  obtain ⟨g1, g2, g3, g4⟩ := g
  have hk : okD 0 0 (optN h.k) := by
    cases e : h.k with
    | none => exact okD_non
    | some n =>
      rw [e] at g4
      exact okD_nat (of_decide_eq_true g4)
  exact ((okDs.cons (okD_nat (by omega)) (okDs.cons (okD_nat g2) (okDs.cons (okD_nat g3) (okDs.cons hk okDs_nil)))).le (by decide) (Nat.le_refl _)).tup
theorem okDs_rs : ∀ {rs : List (Nat × Nat)}, (∀ p ∈ rs, p.1 < p.2 ∧ p.2 ≤ 2 ^ 60) → okDs (3 * rs.length) 1 (rs.map prD)
  | [], _ => okDs_nil.le (Nat.le_refl _) (by decide)
  | p :: r, h => by
    have hp := h p List.mem_cons_self
    have h1 : okD 2 1 (prD p) := (okDs.cons (okD_nat (n := p.1) (by omega)) (okDs.cons (okD_nat hp.2) okDs_nil)).tup
    refine (okDs.cons h1 (okDs_rs fun y hy => h y (List.mem_cons_of_mem _ hy))).le ?_ (Nat.le_refl _)
    rw [List.length_cons]
    omega
theorem okD_fm {f : Fm} (g : f.good = true) : okD (130 + (rowF f).length) 3 f.d := by
  cases f with
  | ack rs dl =>
    have g' : (rok (-1) rs && (decide (1 ≤ rs.length) && (decide (rs.length ≤ 32) && decide (dl ≤ 2 ^ 60)))) = true := g
    simp only [Bool.and_eq_true, decide_eq_true_eq] at g'
    have h1 := okDs_rs (rs := rs) fun p hp => ⟨((rok_all g'.1).1 p hp).2.1, ((rok_all g'.1).1 p hp).2.2⟩
    exact ((okDs.cons ((okD_str (s := wAck) (by decide)).le (Nat.le_refl _) (by decide)) (okDs.cons h1.tup (okDs.cons ((okD_nat g'.2.2.2).le (Nat.le_refl _) (by decide)) (okDs_nil.le (Nat.le_refl _) (by decide))))).tup).le (by omega) (by decide)
  | room s h l =>
    have g' : (decide (s ≤ 15) && (decide (h ≤ 2 ^ 60) && decide (l ≤ 2 ^ 60))) = true := g
    simp only [Bool.and_eq_true, decide_eq_true_eq] at g'
    exact ((okDs.cons (okD_str (s := wRoom) (by decide)) (okDs.cons (okD_nat (by omega)) (okDs.cons (okD_nat g'.2.1) (okDs.cons (okD_nat g'.2.2) okDs_nil)))).tup).le (by omega) (by decide)
  | data s low o e =>
    have g' : (decide (s ≤ 15) && ((o.all fun x => decide (x < 256)) && ((!o.isEmpty || e) && decide (low + o.length ≤ 2 ^ 60 - 1)))) = true := g
    simp only [Bool.and_eq_true, decide_eq_true_eq, List.all_eq_true] at g'
    have hp : okD (o.length + 10) 2 (.tup [nD low, oD o, .bl e]) := ((okDs.cons ((okD_nat (by omega)).le (Nat.le_refl _) (by decide)) (okDs.cons (okD_oct g'.2.1) (okDs.cons ((okD_bl e).le (Nat.le_refl _) (by decide)) (okDs_nil.le (Nat.le_refl _) (by decide))))).tup).le (by omega) (by decide)
    have hr : o.length ≤ (rowF (.data s low o e)).length := by
      show _ ≤ ((if e then 4 else 3) :: s :: (numO low ++ numO o.length ++ o)).length
      rw [List.length_cons, List.length_cons, List.length_append]
      omega
    exact ((okDs.cons ((okD_str (s := wData) (by decide)).le (Nat.le_refl _) (by decide)) (okDs.cons ((okD_nat (n := s) (by omega)).le (Nat.le_refl _) (by decide)) (okDs.cons hp (okDs_nil.le (Nat.le_refl _) (by decide))))).tup).le (by omega) (by decide)
  | ping => exact ((okDs.cons (okD_str (s := wPing) (by decide)) okDs_nil).tup).le (by omega) (by decide)
theorem rowF_pos (f : Fm) : 1 ≤ (rowF f).length := by
  cases f <;> exact Nat.succ_pos _
theorem okDs_fs : ∀ {fs : List Fm}, (∀ f ∈ fs, f.good = true) → okDs (132 * wt fs) 3 (fs.map Fm.d)
  | [], _ => okDs_nil.le (Nat.le_refl _) (by decide)
  | f :: r, h => by
    have h1 := okD_fm (h f List.mem_cons_self)
    refine (okDs.cons h1 (okDs_fs fun y hy => h y (List.mem_cons_of_mem _ hy))).le ?_ (Nat.le_refl _)
    have := rowF_pos f
    show _ ≤ 132 * ((rowF f).length + wt r)
    omega
/-! ### how a reading may end -/
def erS (s : Str) : Bool := strOk s && !decide (s = wLet)
def erOk (l : List Nat) (e : Er) : Prop := erS e.1 = true ∧ e.2 ≤ l.length + 2
theorem erS_of {s : Str} (h : erS s = true) : strOk s = true ∧ ¬ s = wLet := by
  unfold erS at h
  rw [Bool.and_eq_true, Bool.not_eq_true', decide_eq_false_iff_not] at h
  exact h
theorem erW {l : List Nat} {w : Str} {p : Nat} (h : erS w = true) (hp : p ≤ l.length + 2) : erOk l (w, p) := ⟨h, hp⟩
theorem nAt_er {l : List Nat} {p : Nat} {e : Er} (hp : p ≤ l.length + 2) (h : nAt l p = .error e) : erOk l e := by
  unfold nAt at h
  split at h
  · cases h
  · cases h
    exact erW (by decide) hp
theorem sAt_er {l : List Nat} {p : Nat} {e : Er} (hp : p ≤ l.length + 2) (h : sAt l p = .error e) : erOk l e := by
  unfold sAt at h
  split at h
  · cases h
  · cases h
    exact erW (by decide) hp
theorem rgAt_er {l : List Nat} {p : Nat} {ah : Option Nat} {e : Er} (hp : p ≤ l.length) (h : rgAt l p ah = .error e) : erOk l e := by
  unfold rgAt at h
  split at h
  · rename_i h1
    cases h
    exact nAt_er (by omega) h1
  · rename_i told b h1
    have a1 := nAt_ok hp h1
    split at h
    · cases h
      exact erW (by decide) (by omega)
    · split at h
      · rename_i h2
        cases h
        exact nAt_er (by omega) h2
      · split at h
        · cases h
        · cases h
          exact erW (by decide) (by omega)
theorem ackGo_er {l : List Nat} : ∀ (n : Nat) {ah : Option Nat} {acc : List (Nat × Nat)} {p : Nat} {e : Er}, p ≤ l.length → ackGo l n ah acc p = .error e → erOk l e
  | 0, _, _, _, _, _, h => by cases h
  | n + 1, _, _, _, _, hp, h => by
    unfold ackGo at h
    split at h
    · rename_i h1
      cases h
      exact rgAt_er hp h1
    · rename_i pr b h1
      exact ackGo_er n (rgAt_ok hp h1).2 h
theorem ackR_er {l : List Nat} {p : Nat} {e : Er} (hp : p < l.length) (h : ackR l p = .error e) : erOk l e := by
  unfold ackR at h
  split at h
  · rename_i h1
    cases h
    exact nAt_er (by omega) h1
  · rename_i many b h1
    have a1 := nAt_ok (by omega) h1
    split at h
    · split at h
      · rename_i h2
        cases h
        exact ackGo_er _ a1.2.1 h2
      · rename_i rs b2 h2
        have c1 := ackGo_ok _ a1.2.1 h2
        split at h
        · rename_i h3
          cases h
          exact nAt_er (by omega) h3
        · cases h
    · cases h
      exact erW (by decide) (by omega)
theorem roomR_er {l : List Nat} {p : Nat} {fs : List Fm} {e : Er} (hp : p < l.length) (h : roomR l p fs = .error e) : erOk l e := by
  unfold roomR at h
  split at h
  · rename_i h1
    cases h
    exact sAt_er (by omega) h1
  · rename_i s hs
    have s1 := sAt_ok hs
    split at h
    · cases h
      exact erW (by decide) (by omega)
    · split at h
      · rename_i h2
        cases h
        exact nAt_er (by omega) h2
      · rename_i x b h2
        have c1 := nAt_ok (by omega) h2
        split at h
        · rename_i h3
          cases h
          exact nAt_er (by omega) h3
        · cases h
theorem dataR_er {l : List Nat} {p : Nat} {b : Bool} {e : Er} (hp : p < l.length) (h : dataR l p b = .error e) : erOk l e := by
  unfold dataR at h
  split at h
  · rename_i h1
    cases h
    exact sAt_er (by omega) h1
  · rename_i s hs
    have s1 := sAt_ok hs
    split at h
    · rename_i h2
      cases h
      exact nAt_er (by omega) h2
    · rename_i x b2 h2
      have c1 := nAt_ok (by omega) h2
      split at h
      · rename_i h3
        cases h
        exact nAt_er (by omega) h3
      · split at h
        · cases h
        · cases h
          exact erW (by decide) (by omega)
theorem frR_er {l : List Nat} {p : Nat} {fs : List Fm} {bare : Bool} {e : Er} (hp : p < l.length) (h : frR l p fs bare = .error e) : erOk l e := by
  unfold frR at h
  split at h
  · split at h
    · split at h
      · exact ackR_er hp h
      · split at h
        · exact roomR_er hp h
        · split at h
          · cases h
          · exact dataR_er hp h
    · cases h
      exact erW (by decide) (by omega)
  · cases h
    exact erW (by decide) (by omega)
theorem bodyGo_er {l : List Nat} {bare : Bool} : ∀ (n : Nat) {fs : List Fm} {p : Nat} {e : Er}, bodyGo l bare n fs p = .error e → erOk l e
  | 0, _, _, _, h => by cases h
  | n + 1, _, _, _, h => by
    unfold bodyGo at h
    split at h
    · rename_i hp
      split at h
      · rename_i h1
        cases h
        exact frR_er hp h1
      · exact bodyGo_er n h
    · cases h
theorem hdR_er {l : List Nat} {e : Er} (h1 : 1 ≤ l.length) (h : hdR l = .error e) : erOk l e := by
  unfold hdR at h
  split at h
  · cases h
    exact erW (by decide) (by omega)
  · split at h
    · rename_i h2
      cases h
      exact nAt_er (by omega) h2
    · rename_i m b h2
      have a1 := nAt_ok h1 h2
      split at h
      · rename_i h3
        cases h
        exact nAt_er (by omega) h3
      · rename_i r b2 h3
        have c1 := nAt_ok a1.2.1 h3
        split at h
        · cases h
        · split at h
          · rename_i h4
            cases h
            exact nAt_er (by omega) h4
          · cases h
theorem readB_er {l : List Nat} {e : Er} (h1 : 1 ≤ l.length) (h : readB l = .error e) : erOk l e := by
  unfold readB at h
  split at h
  · rename_i h2
    cases h
    exact hdR_er h1 h2
  · split at h
    · rename_i h3
      cases h
      exact bodyGo_er _ h3
    · cases h
/-- the outcome of a reading is shown in few signs -/
theorem okD_read {l : List Nat} (hb : Byt l) (h1 : 1 ≤ l.length) (hl : l.length ≤ 1200) : okD 200000 6 (readD (readB l)) := by
  cases e : readB l with
  | error x =>
    obtain ⟨s, p⟩ := readB_er h1 e
    exact ((okDs.cons (okD_str (erS_of s).1) (okDs.cons (okD_nat (n := x.2) (by omega)) okDs_nil)).tup).le (by decide) (by decide)
  | ok x =>
    obtain ⟨h, fs⟩ := x
    obtain ⟨i1, i2, i3, i4⟩ := readB_inv hb h1 e
    have hw : wt fs ≤ 1200 := by
      rw [← wt_flat]
      have := congrArg List.length i1
      unfold bodyO at this
      rw [List.length_append] at this
      omega
    have hf := (okDs_fs i3).tup
    have hd : okD (132 * wt fs + 12) 5 (dgD h fs) := ((okDs.cons ((okD_hd i2).le (Nat.le_refl _) (by decide)) (okDs.cons hf (okDs_nil.le (Nat.le_refl _) (by decide)))).tup).le (by omega) (Nat.le_refl _)
    exact ((okDs.cons ((okD_str (s := wLet) (by decide)).le (Nat.le_refl _) (by decide)) (okDs.cons hd (okDs_nil.le (Nat.le_refl _) (by decide)))).tup).le (by omega) (Nat.le_refl _)
end K7
/-! K7: told, the looks at a fault and at a piece. -/
namespace K7
open PySem PySem.Spec L2
open PyProof.Rows hiding St

local macro_rules | `(tactic| walk_at "k7") => `(tactic| simp only [dSs, dS, dEs, dE, dI, dSeq, dAsg, dPar, dDrop, dRet, dIfS, dNext, dBrk, dNev, dVar, dC, dNil, dCons, dOp, dCB, dCall, dTup, dTest, dAnd, dOr, dNot, dIf, dChn, dNeg, fB, fAdd, fI, fI0, fEq, fNe, fIsN, fNotN, isNon, fIx, fLen, fMin, fMax, fInt, fTup, fLst,
  dIsi, dSet, setAll, dFor, diSeq, diR1, diR2, diR3, diEn, dLst, dApp, dExt, dRev, dEmp, empB, dSl, dPart, dNoP, dRse, dRank, fDg, isL, up_same, List.getElem?_cons_zero, List.getElem?_cons_succ, List.set_cons_zero, List.set_cons_succ, Bool.not_true, Bool.not_false, Tg.slots])
theorem nWP : ¬ wWord = wPlace := by decide
theorem dgt_word (a b : D) : dgt [(wWord, a), (wPlace, b)] wWord = some a := if_pos rfl
theorem dgt_place (a b : D) : dgt [(wWord, a), (wPlace, b)] wPlace = some b := (if_neg nWP).trans (if_pos rfl)
/-! ### told -/
def p113 : DF := fun ds M q _ => ∃ d, ds = [d] ∧ dty M d = true ∧ (formB d = false → ∀ M', Ex [] M M' → q (.tup [.str wForm, .non]) M') ∧ (∀ l, d = oD l → formB d = true → restF (begO ++ l) ≠ 0 → ∀ M', Ex [] M M' → q (.tup [.str wCheck, .non]) M') ∧
  (∀ l, d = oD l → formB d = true → restF (begO ++ l) = 0 → ∀ M', Ex [] M M' → q (readD (readB (l.take (l.length - 4)))) M')
theorem k113 {C : Nat → DF} (h77 : C 77 = p77) : Keeps C t113 p113 := by
  rintro ds M q xi ⟨d, rfl, ht, hf, hc, hr⟩
  refine ⟨rfl, ?_⟩
  show dSs C t113.body _ [some d, none, none] M _
  unfold t113
  simp only [dSs, dS, dE, dEs, dSeq, dTryA, dAsg, dTup, dCall, dCons, dNil, dVar, dC, dRet, dNext, dSet, h77, List.getElem?_cons_zero, List.getElem?_cons_succ, List.set_cons_zero, List.set_cons_succ]
  refine ⟨d, rfl, ht, fun h M' ex => ?_, fun l e h hn M' ex => ?_, fun l e h h0 M' ex => ?_⟩
  · exact ⟨rfl, by show 1 < 3; decide, by decide, _, _, dgt_word _ _, dgt_place _ _, hf h M' ex⟩
  · exact ⟨rfl, by show 1 < 3; decide, by decide, _, _, dgt_word _ _, dgt_place _ _, hc l e h hn M' ex⟩
  · have := hr l e h h0 M' ex
    cases hb : readB (l.take (l.length - 4)) with
    | error x =>
      rw [hb] at this
      exact ⟨rfl, by show 1 < 3; decide, by decide, _, _, dgt_word _ _, dgt_place _ _, this⟩
    | ok x =>
      rw [hb] at this
      exact ⟨by show 2 ≤ 100000; decide, this⟩
/-! ### the law's look at a value's fault -/
def dueOk (due : D) : Prop := due = .non ∨ ∃ w p, due = .tup [.str w, p] ∧ strOk w = true ∧ okD 0 0 p
def p119 : DF := fun ds M q _ => ∃ d due, ds = [d, due] ∧ dty M d = true ∧ faultD d = due ∧ dueOk due ∧ ∀ M', Ex [] M M' → q (.bl true) M'
theorem k119 {C : Nat → DF} (h73 : C 73 = p73) (h74 : C 74 = p74) (h83 : C 83 = p83) : Keeps C t119 p119 := by
  rintro ds M q xi ⟨d, due, rfl, ht, hd, hok, hq⟩
  refine ⟨rfl, ?_⟩
  show dSs C t119.body _ [some d, some due, none, none] M _
  unfold t119
  have fin : ∀ (told : D) (M1 : Mem) (z : Option D), Ex [] M M1 → ((due = .non ∧ told = .tup []) ∨ ∃ w p, due = .tup [.str w, p] ∧ strOk w = true ∧ okD 0 0 p ∧ told = due) →
      dRet (dCall p83 (dCons (dLst (dCons (dCall p73 (dCons (dVar 0) dNil)) (dCons (dVar 2) dNil))) (dCons (dLst (dCons (dVar 1) (dCons (dIf (dOp fIsN (dVar 1) (dC .non)) (dTup dNil) (dVar 1)) dNil))) dNil)))
        { nx := fun _ M' => q .non M', rt := q } [some d, some due, some told, z] M1 (fun c fs x M2 => xi c fs M2) := by
    intro told M1 z ex1 hs
    simp only [dRet, dCall, dLst, dIf, dOp, dTup, dCons, dNil, dVar, dC, fIsN, isNon, List.getElem?_cons_zero, List.getElem?_cons_succ]
    refine ⟨d, rfl, dty_ex ex1 _ ht, fun M2 ex2 => ?_⟩
    rw [hd]
    refine ⟨by show 2 ≤ 100000; decide, fun p1 hp1 => ?_⟩
    have fin2 : ∀ p2 : Addr, (up M2 p1 (.lst [due, told])) p2 = none → okDs 100 3 [due, told] → p83 [.ob p1, .ob p2] (up (up M2 p1 (.lst [due, told])) p2 (.lst [due, told])) q (fun c fs M2 => xi c fs M2) := fun p2 hp2 hk => by
      have h12 : p1 ≠ p2 := fun e => by subst e; rw [up_same] at hp2; cases hp2
      obtain ⟨ps, e, so⟩ := okDs_shown hk (by decide) (by decide)
      refine ⟨.ob p1, .ob p2, .list ps, rfl, rfl, rfl, ?_, ?_, so, hq _ (((ex1.trans ex2).new hp1).new hp2)⟩
      · unfold pyT
        dsimp only
        rw [up_ne h12, up_same]
        dsimp only
        rw [e]
        rfl
      · unfold pyT
        dsimp only
        rw [up_same]
        dsimp only
        rw [e]
        rfl
    rcases hs with ⟨rfl, rfl⟩ | ⟨w, p, rfl, hw, hp, rfl⟩
    · refine ⟨by decide, by show 2 ≤ 100000; decide, fun p2 hp2 => fin2 p2 hp2 ?_⟩
      exact (okDs.cons (okD_non.le (Nat.le_refl _) (by decide)) (okDs.cons ((okDs_nil.tup).le (Nat.le_refl _) (by decide)) (okDs_nil.le (Nat.le_refl _) (by decide)))).le (by decide) (Nat.le_refl 3)
    · refine ⟨by show 2 ≤ 100000; decide, fun p2 hp2 => fin2 p2 hp2 ?_⟩
      have h1 : okD 12 3 (.tup [.str w, p]) := ((okDs.cons (okD_str hw) (okDs.cons hp okDs_nil)).tup).le (by decide) (by decide)
      exact (okDs.cons h1 (okDs.cons h1 (okDs_nil.le (Nat.le_refl _) (by decide)))).le (by decide) (Nat.le_refl 3)
  simp only [dSs, dS, dE, dEs, dSeq, dTryA, dAsg, dDrop, dNext, dSet, h73, h74, h83, fB, List.set_cons_zero, List.set_cons_succ]
  simp only [dTup, dCall, dCons, dNil, dVar, List.getElem?_cons_zero, List.getElem?_cons_succ]
  refine ⟨by decide, ?_⟩
  refine ⟨d, rfl, ht, fun h M' ex => ?_, fun a b h M' ex => ?_⟩
  · exact fin (.tup []) M' none ex (.inl ⟨hd.symm.trans h, rfl⟩)
  · rcases hok with h' | ⟨w, p, h', hw, hp⟩
    · rw [hd, h'] at h
      cases h
    · have e : (D.tup [a, b]) = due := h.symm.trans hd
      refine ⟨rfl, by show 3 < 4; decide, by decide, _, _, dgt_word _ _, dgt_place _ _, ?_⟩
      rw [e]
      exact fin due M' none ex (.inr ⟨w, p, h', hw, hp, rfl⟩)
/-! ### the law's look at a piece -/
def pieceL : D → Bool
  | .tup [.int low, .tup o, .bl e] => ((o.all fun d => within d 0 255) && within (.int low) 0 1152921504606846976) && ((!o.isEmpty || e) && decide (low + (o.length : Int) ≤ 1152921504606846975))
  | _ => false
theorem p85_eq : p85 = p12 := rfl
theorem lc_bad1 {dl : Dl} {M : Mem} {its : List D} {q : List D → Mem → Prop} (h2 : 1 < dl.length) (hl : its.length ≤ 5000) (ht : ∀ d ∈ its, tyB M d = true)
    (hq : ∀ acc, acc.isEmpty = (its.all fun d => within d 0 255) → q acc M) :
    lcGo (.nm 1) (some (dNot (dCall p85 (dCons (dVar 1) (dCons (dC (.int 0)) (dCons (dC (.int 255)) dNil)))))) (dC (.int 1)) dl its none q its [] M := by
  have key : ∀ (r : List D) (acc : List D) (b : Bool), acc.length + r.length ≤ 5000 → acc.isEmpty = b → (∀ d ∈ r, tyB M d = true) → (b && r.all fun d => within d 0 255) = (its.all fun d => within d 0 255) →
      lcGo (.nm 1) (some (dNot (dCall p85 (dCons (dVar 1) (dCons (dC (.int 0)) (dCons (dC (.int 255)) dNil)))))) (dC (.int 1)) dl its none q r acc M := by
    intro r
    induction r with
    | nil =>
      intro acc b _ hb _ he
      refine ⟨trivial, hq acc ?_⟩
      rw [hb, ← he]
      simp
    | cons d r ih =>
      intro acc b hn hb hty he
      refine ⟨trivial, ?_⟩
      rw [List.length_cons] at hn
      rw [List.all_cons] at he
      simp only [dSet, dTest, dNot, dCall, dCons, dVar, dC, dNil, List.getElem?_set_self h2]
      refine ⟨d, 0, 255, rfl, hty d List.mem_cons_self, ?_⟩
      dsimp only
      cases hw : within d 0 255 with
      | true =>
        rw [hw, Bool.true_and] at he
        exact ih acc b (by omega) hb (fun y hy => hty y (List.mem_cons_of_mem _ hy)) he
      | false =>
        rw [hw, Bool.false_and, Bool.and_false] at he
        refine ⟨by omega, ih (acc ++ [.int 1]) false (by rw [List.length_append]; show _ + 1 + _ ≤ _; omega) (by cases acc <;> rfl) (fun y hy => hty y (List.mem_cons_of_mem _ hy)) ?_⟩
        rw [Bool.false_and]
        exact he
  exact key its [] true (by rw [List.length_nil]; omega) rfl ht (by rw [Bool.true_and])
def p117 : DF := fun ds M q _ => ∃ d, ds = [d] ∧ dty M d = true ∧ ∀ M', Ex [] M M' → q (.bl (pieceL d)) M'
theorem k117 {C : Nat → DF} (h85 : C 85 = p85) : Keeps C t117 p117 := by
  rintro ds M q xi ⟨d, rfl, ht, hq⟩
  refine ⟨rfl, ?_⟩
  show dSs C t117.body _ [some d, none] M _
  unfold t117
  have hq0 := hq M Ex.refl
  obtain ⟨t, e1, e2⟩ := ty_tup (dty_ty ht)
  simp only [dSs, dS, dE, dEs, dI, dSeq, dIfS, dOr, dAnd, dNot, dIsi, dCB, fLen, dOp, dCons, dNil, dVar, dC, dRet, dNext, dLc, diSeq, dEmp, h85, fB, fI, fI0, List.getElem?_cons_zero, List.getElem?_cons_succ]
  cases d with
  | tup ds =>
    obtain ⟨hl, hm⟩ := dty_tup ht
    simp only [e1, e2, isTupD, Bool.not_true, fNeU]
    by_cases h3 : ds.length = 3
    · obtain ⟨a, b, c, rfl⟩ := three h3
      have ta := hm a (by simp)
      have tb := hm b (by simp)
      have tc := hm c (by simp)
      rw [show (!decide ((([a, b, c] : List D).length : Int) = 3)) = false from rfl]
      obtain ⟨u, f1, f2⟩ := ty_tup (dty_ty tb)
      obtain ⟨v, g1, g2⟩ := ty_bool (dty_ty tc)
      simp only [fIx, K7.at1, f1, f2]
      cases hb : isTupD b with
      | false =>
        have : pieceL (.tup [a, b, c]) = false := by
          unfold pieceL
          split
          · rename_i e
            cases e
            cases hb
          · rfl
        rw [this] at hq0
        exact hq0
      | true =>
        obtain ⟨o, rfl⟩ : ∃ o, b = .tup o := by
          cases b with
          | tup o => exact ⟨o, rfl⟩
          | _ => cases hb
        obtain ⟨hol, hom⟩ := dty_tup tb
        simp only [Bool.not_true, show atI [a, D.tup o, c] 2 = some c from rfl, g1, g2]
        cases hc : isBl c with
        | false =>
          have : pieceL (.tup [a, .tup o, c]) = false := by
            unfold pieceL
            split
            · rename_i e
              cases e
              cases hc
            · rfl
          rw [this] at hq0
          exact hq0
        | true =>
          obtain ⟨e, rfl⟩ : ∃ e, c = .bl e := by
            cases c with
            | bl e => exact ⟨e, rfl⟩
            | _ => cases hc
          simp only [Bool.not_true]
          refine lc_bad1 (by show 1 < 2; decide) hol (fun x hx => dty_ty (hom x hx)) fun acc hacc p hp => ?_
          have hq1 := hq _ (Ex.refl.new (o := .lst acc) hp)
          simp only [empB, up_same, hacc]
          have ep : pieceL (.tup [a, .tup o, .bl e]) = (((o.all fun d => within d 0 255) && within a 0 1152921504606846976) && match a with
            | .int low => ((!o.isEmpty || e) && decide (low + (o.length : Int) ≤ 1152921504606846975))
            | _ => false) := by
            cases a with
            | int i => rfl
            | _ => exact (Bool.and_false _).symm
          rw [ep] at hq1
          cases ho : o.all fun d => within d 0 255 with
          | false =>
            rw [ho] at hq1
            exact hq1
          | true =>
            rw [ho, Bool.true_and] at hq1
            simp only [Bool.false_eq_true, if_false, Bool.bne_true, Bool.not_true, K7.at0]
            refine ⟨⟨by decide, by decide, by decide⟩, ?_⟩
            rw [show (2 : Int) ^ Int.toNat 60 = 1152921504606846976 from by decide]
            refine ⟨a, 0, 1152921504606846976, rfl, Ex.ty (Ex.refl.new hp) (dty_ty ta), ?_⟩
            cases hw : within a 0 1152921504606846976 with
            | false =>
              rw [hw, Bool.false_and] at hq1
              exact hq1
            | true =>
              rw [hw, Bool.true_and] at hq1
              obtain ⟨i, rfl, _, _⟩ := within_int hw
              dsimp only at hq1 ⊢
              simp only [Bool.not_true, K7.at0, K7.at1, if_true, fAdd, fLen]
              have cp : CPow 2 60 := ⟨by decide, by decide, by decide⟩
              have hle : ∀ b : Bool, b = decide (i + (o.length : Int) ≤ 1152921504606846975) → q (.bl ((!o.isEmpty || e) && b)) (up M p (Ob.lst acc)) := fun b hb => by rw [hb]; exact hq1
              have hle' := hle _ rfl
              cases hoe : o.isEmpty with
              | false =>
                rw [hoe] at hle'
                exact ⟨cp, hle'⟩
              | true =>
                rw [hoe] at hle'
                cases e with
                | true => exact ⟨cp, hle'⟩
                | false => exact hle'
    · rw [show (!decide (((ds.length : Nat) : Int) = 3)) = true from ne_len (n := 3) h3]
      have : pieceL (.tup ds) = false := by
        unfold pieceL
        split
        · rename_i e
          cases e
          exact absurd rfl h3
        · rfl
      rw [this] at hq0
      exact hq0
  | _ =>
    simp only [e1, e2, isTupD, Bool.not_false]
    exact hq0
end K7
/-! K7: pure expressions, lists, told of octets. -/
namespace K7
open PySem PySem.Spec L2
open PyProof.Rows hiding St

local macro_rules | `(tactic| walk_at "k7") => `(tactic| simp only [dSs, dS, dEs, dE, dI, dSeq, dAsg, dPar, dDrop, dRet, dIfS, dNext, dBrk, dNev, dVar, dC, dNil, dCons, dOp, dCB, dCall, dTup, dTest, dAnd, dOr, dNot, dIf, dChn, dNeg, fB, fAdd, fI, fI0, fEq, fNe, fIsN, fNotN, isNon, fIx, fLen, fMin, fMax, fInt, fTup, fLst,
  dIsi, dSet, setAll, dFor, diSeq, diR1, diR2, diR3, diEn, dLst, dApp, dExt, dRev, dEmp, empB, dSl, dPart, dNoP, dRse, dRank, fDg, isL, up_same, List.getElem?_cons_zero, List.getElem?_cons_succ, List.set_cons_zero, List.set_cons_succ, Bool.not_true, Bool.not_false, Tg.slots])
/-! ### pure expressions -/
def pAdd : D → D → Option D
  | .int i, .int j => some (.int (i + j))
  | .tup xs, .tup ys => if xs.length + ys.length ≤ 100000 then some (.tup (xs ++ ys)) else none
  | _, _ => none
def pSub : D → D → Option D
  | .int i, .int j => some (.int (i - j))
  | _, _ => none
def pPow : D → D → Option D
  | .int i, .int j => if 0 ≤ j ∧ j ≤ 1000000 ∧ i.natAbs < 2 ^ 64 then some (.int (i ^ j.toNat)) else none
  | _, _ => none
def pUp : D → D → Option D
  | .tup ds, .int u => some (.tup (cutD ds none (some u)))
  | _, _ => none
def pDn : D → D → Option D
  | .tup ds, .int u => some (.tup (cutD ds (some u) none))
  | _, _ => none
def pIx : D → D → Option D
  | .tup ds, .int i => atI ds i
  | _, _ => none
def pNeg : D → Option D
  | .int i => some (.int (-i))
  | _ => none
def pTup (ds : List D) : Option D := if ds.length ≤ 100000 then some (.tup ds) else none
mutual
def pev (dl : Dl) : A → Option D
  | .v i => dl[i]?.join
  | .c d => some d
  | .neg a => (pev dl a).bind pNeg
  | .tup as => (pevs dl as).bind pTup
  | .bin o a b => (match o with
    | .add => (pev dl a).bind fun x => (pev dl b).bind fun y => pAdd x y
    | .sub => (pev dl a).bind fun x => (pev dl b).bind fun y => pSub x y
    | .pow => (pev dl a).bind fun x => (pev dl b).bind fun y => pPow x y
    | _ => none)
  | .ix a b => (pev dl a).bind fun x => (pev dl b).bind fun y => pIx x y
  | .slU a b => (pev dl a).bind fun x => (pev dl b).bind fun y => pUp x y
  | .slL a b => (pev dl a).bind fun x => (pev dl b).bind fun y => pDn x y
  | _ => none
def pevs (dl : Dl) : List A → Option (List D)
  | [] => some []
  | a :: as => (pev dl a).bind fun d => (pevs dl as).map (d :: ·)
end
theorem bind2 {x y : Option D} {f : D → D → Option D} {d : D} (h : (x.bind fun a => y.bind fun b => f a b) = some d) : ∃ a b, x = some a ∧ y = some b ∧ f a b = some d := by
  cases x with
  | none => cases h
  | some a =>
    cases y with
    | none => cases h
    | some b => exact ⟨a, b, rfl, rfl, h⟩
mutual
theorem pev_ok (C : Nat → DF) {dl : Dl} {M : Mem} {X : XD} : ∀ (e : A) (d : D) (q : D → Mem → Prop), pev dl e = some d → q d M → dE C e dl M q X
  | .v i, d, q, h, hq => by
    have h' : dl[i]?.join = some d := h
    show (match dl[i]? with
      | some (some d) => q d M
      | _ => False)
    cases e : dl[i]? with
    | none => rw [e] at h'; cases h'
    | some o =>
      rw [e] at h'
      cases o with
      | none => cases h'
      | some x => cases h'; exact hq
  | .c x, d, q, h, hq => by
    cases h
    exact hq
  | .neg a, d, q, h, hq => by
    have h' : (pev dl a).bind pNeg = some d := h
    cases e : pev dl a with
    | none => rw [e] at h'; cases h'
    | some x =>
      rw [e] at h'
      refine pev_ok C a x _ e ?_
      cases x with
      | int i => cases h'; exact hq
      | _ => cases h'
  | .tup as, d, q, h, hq => by
    have h' : (pevs dl as).bind pTup = some d := h
    cases e : pevs dl as with
    | none => rw [e] at h'; cases h'
    | some ds =>
      rw [e] at h'
      refine pevs_ok C as ds _ e ?_
      have h2 : (if ds.length ≤ 100000 then some (D.tup ds) else none) = some d := h'
      split at h2
      · rename_i hl
        cases h2
        exact ⟨hl, hq⟩
      · cases h2
  | .bin o a b, d, q, h, hq => by
    cases o with
    | add =>
      obtain ⟨x, y, e1, e2, e3⟩ := bind2 (f := pAdd) h
      refine pev_ok C a x _ e1 (pev_ok C b y _ e2 ?_)
      show fAdd x y M q
      unfold pAdd at e3
      split at e3
      · cases e3; exact hq
      · split at e3
        · rename_i hl
          cases e3
          exact ⟨hl, hq⟩
        · cases e3
      · cases e3
    | sub =>
      obtain ⟨x, y, e1, e2, e3⟩ := bind2 (f := pSub) h
      refine pev_ok C a x _ e1 (pev_ok C b y _ e2 ?_)
      unfold pSub at e3
      split at e3
      · cases e3; exact hq
      · cases e3
    | pow =>
      obtain ⟨x, y, e1, e2, e3⟩ := bind2 (f := pPow) h
      refine pev_ok C a x _ e1 (pev_ok C b y _ e2 ?_)
      unfold pPow at e3
      split at e3
      · split at e3
        · rename_i hc
          cases e3
          exact ⟨hc, hq⟩
        · cases e3
      · cases e3
    | _ => cases h
  | .ix a b, d, q, h, hq => by
    obtain ⟨x, y, e1, e2, e3⟩ := bind2 (f := pIx) h
    refine pev_ok C a x _ e1 (pev_ok C b y _ e2 ?_)
    unfold pIx at e3
    split at e3
    · rename_i ds i
      show (match atI ds i with
        | some d => q d M
        | none => False)
      rw [e3]
      exact hq
    · cases e3
  | .slU a b, d, q, h, hq => by
    obtain ⟨x, y, e1, e2, e3⟩ := bind2 (f := pUp) h
    refine pev_ok C a x _ e1 ?_
    unfold pUp at e3
    split at e3
    · cases e3
      exact pev_ok C b _ _ e2 hq
    · cases e3
  | .slL a b, d, q, h, hq => by
    obtain ⟨x, y, e1, e2, e3⟩ := bind2 (f := pDn) h
    refine pev_ok C a x _ e1 ?_
    unfold pDn at e3
    split at e3
    · cases e3
      exact pev_ok C b _ _ e2 hq
    · cases e3
  | .lst _, _, _, h, _ => by cases h
  | .dsp _ _, _, _, h, _ => by cases h
  | .newD, _, _, h, _ => by cases h
  | .chn _ _ _ _ _, _, _, h, _ => by cases h
  | .emp _ _ _, _, _, h, _ => by cases h
  | .and _ _, _, _, h, _ => by cases h
  | .or _ _, _, _, h, _ => by cases h
  | .not _, _, _, h, _ => by cases h
  | .ife _ _ _, _, _, h, _ => by cases h
  | .call _ _, _, _, h, _ => by cases h
  | .len _, _, _, h, _ => by cases h
  | .mn _ _, _, _, h, _ => by cases h
  | .mx _ _, _, _, h, _ => by cases h
  | .int _, _, _, h, _ => by cases h
  | .tof _, _, _, h, _ => by cases h
  | .lof _, _, _, h, _ => by cases h
  | .lrg _, _, _, h, _ => by cases h
  | .rpr _, _, _, h, _ => by cases h
  | .bits _, _, _, h, _ => by cases h
  | .isi _ _, _, _, h, _ => by cases h
  | .dg _ _, _, _, h, _ => by cases h
  | .sl _ _ _, _, _, h, _ => by cases h
  | .rev _, _, _, h, _ => by cases h
  | .rank _, _, _, h, _ => by cases h
  | .app _ _, _, _, h, _ => by cases h
  | .pop _ _, _, _, h, _ => by cases h
  | .ext _ _, _, _, h, _ => by cases h
  | .lc _ _ _, _, _, h, _ => by cases h
  | .lcT _ _ _ _, _, _, h, _ => by cases h
theorem pevs_ok (C : Nat → DF) {dl : Dl} {M : Mem} {X : XD} : ∀ (es : List A) (ds : List D) (q : List D → Mem → Prop), pevs dl es = some ds → q ds M → dEs C es dl M q X
  | [], ds, q, h, hq => by
    cases h
    exact hq
  | a :: as, ds, q, h, hq => by
    have h' : ((pev dl a).bind fun d => (pevs dl as).map (d :: ·)) = some ds := h
    cases e : pev dl a with
    | none => rw [e] at h'; cases h'
    | some x =>
      rw [e] at h'
      cases e2 : pevs dl as with
      | none => rw [e2] at h'; cases h'
      | some xs =>
        rw [e2] at h'
        cases h'
        exact pev_ok C a x _ e (pevs_ok C as xs _ e2 hq)
end
/-! ### statements that build lists -/
section
variable {C : Nat → DF} {N : DN} {dl dl1 : Dl} {M : Mem} {X : XD} {r : List S}
theorem asg_p {e : A} {t : Tg} {d : D} (h : pev dl e = some d) (ht : dSet t d dl = some dl1) (k : dSs C r N dl1 M X) : dSs C (.asg e t :: r) N dl M X := by
  refine pev_ok C e d _ h ?_
  rw [ht]
  exact k
theorem asg_l {as : List A} {i : Nat} {ds : List D} (h : pevs dl as = some ds) (hl : ds.length ≤ 100000) (k : ∀ p, M p = none → dSs C r N (dl.set i (some (.ob p))) (up M p (.lst ds)) X) : dSs C (.asg (.lst as) (.nm i) :: r) N dl M X := by
  refine pevs_ok C as ds _ h ?_
  exact ⟨hl, fun p hp => k p hp⟩
theorem cat_l {as : List A} {i j : Nat} {a : Addr} {ds xs : List D} (hi : dl[i]? = some (some (.ob a))) (ha : M a = some (.lst xs)) (h : pevs dl as = some ds) (hl : xs.length + ds.length ≤ 100000)
    (k : ∀ p1 p2, M p1 = none → (up M p1 (.lst ds)) p2 = none → dSs C r N (dl.set j (some (.ob p2))) (up (up M p1 (.lst ds)) p2 (.lst (xs ++ ds))) X) : dSs C (.asg (.bin .add (.v i) (.lst as)) (.nm j) :: r) N dl M X := by
  show dSeq (dAsg (dOp fAdd (dE C (.v i)) (dLst (dEs C as))) (.nm j)) (dSs C r) N dl M X
  unfold dSeq dAsg dOp dLst
  refine pev_ok C (.v i) (.ob a) _ (by show dl[i]?.join = _; rw [hi]; rfl) ?_
  refine pevs_ok C as ds _ h ?_
  refine ⟨by omega, fun p1 hp1 => ?_⟩
  have h1 : a ≠ p1 := fun e => by subst e; rw [ha] at hp1; cases hp1
  show fAdd (.ob a) (.ob p1) (up M p1 (.lst ds)) _
  unfold fAdd
  dsimp only
  rw [up_ne h1, ha, up_same]
  exact ⟨hl, fun p2 hp2 => k p1 p2 hp1 hp2⟩
theorem app_p {e : A} {i : Nat} {a : Addr} {d : D} {xs : List D} (hi : dl[i]? = some (some (.ob a))) (ha : M a = some (.lst xs)) (h : pev dl e = some d) (hl : xs.length < 100000) (k : dSs C r N dl (up M a (.lst (xs ++ [d]))) X) : dSs C (.ex (.app (.v i) e) :: r) N dl M X := by
  show dSeq (dDrop (dApp (dE C (.v i)) (dE C e))) (dSs C r) N dl M X
  unfold dSeq dDrop dApp
  refine pev_ok C (.v i) (.ob a) _ (by show dl[i]?.join = _; rw [hi]; rfl) ?_
  refine ⟨by rw [ha]; rfl, ?_⟩
  refine pev_ok C e d _ h ?_
  rw [ha]
  exact ⟨hl, k⟩
end
theorem lct_nil {t : Tg} {tb te : DE} {dl : Dl} {items : List D} {src : Option Addr} {q : List D → Mem → Prop} (Inv : List D → Mem → Prop)
    (step : ∀ d r M, Inv (d :: r) M → Src M items src ∧ ∃ dl1, dSet t d dl = some dl1 ∧ ∀ K : Bool → Mem → Prop, (∀ M', Inv r M' → K false M') → dTest tb dl1 M K FX)
    (done : ∀ M, Inv [] M → Src M items src ∧ q [] M) : ∀ its M, Inv its M → lcGo t (some tb) te dl items src q its [] M
  | [], M, h => done M h
  | d :: r, M, h => by
    obtain ⟨h1, dl1, e, h2⟩ := step d r M h
    refine ⟨h1, ?_⟩
    rw [e]
    refine h2 _ fun M' i => ?_
    rw [if_neg Bool.false_ne_true]
    exact lct_nil Inv step done r M' i
/-! ### told of octets -/
theorem oD_inj {a b : List Nat} (h : oD a = oD b) : a = b := by
  unfold oD at h
  have : a.map nD = b.map nD := by
    have := h
    injection this
  rw [← map_natD a, this, map_natD]
theorem form_to {l : List Nat} (hb : Byt l) (h7 : 7 ≤ l.length) (hm : l.length ≤ 1200) : formB (oD l) = true := by
  show ((decide (7 ≤ ((l.map nD).length : Int)) && decide (((l.map nD).length : Int) ≤ 1200)) && (l.map nD).all fun d => within d 0 255) = true
  rw [List.length_map, decide_eq_true (by omega), decide_eq_true (by omega)]
  exact octB_oD hb
theorem told_closed {l : List Nat} {M : Mem} {q : D → Mem → Prop} {xi : XF} (hb : Byt l) (h3 : 3 ≤ l.length) (hl : l.length ≤ 1196) (hq : ∀ M', Ex [] M M' → q (readD (readB l)) M') : p113 [oD (l ++ fourO (lawR l))] M q xi := by
  have h4 : (fourO (lawR l)).length = 4 := rfl
  have hf := form_to (l := l ++ fourO (lawR l)) (byt_app hb (byt_four (lawR_lt l))) (by rw [List.length_append]; omega) (by rw [List.length_append]; omega)
  refine ⟨_, rfl, dty_oD (by rw [List.length_append]; omega), fun h => ?_, fun l' e h hn => ?_, fun l' e h h0 M' ex => ?_⟩
  · rw [hf] at h; cases h
  · rw [← oD_inj e] at hn
    exact absurd (rest_closed hb) hn
  · rw [← oD_inj e, List.length_append, h4, Nat.add_sub_cancel, List.take_left]
    exact hq M' ex
theorem byt_turn {l : List Nat} (hb : Byt l) {k : Nat} : Byt (turnN l k) := by
  intro x hx
  unfold turnN at hx
  rcases List.mem_or_eq_of_mem_set hx with hx | rfl
  · exact hb x hx
  · refine Nat.xor_lt_two_pow (n := 8) ?_ ?_
    · by_cases h : k / 8 < l.length
      · rw [List.getD_eq_getElem?_getD, List.getElem?_eq_getElem h]
        exact hb _ (List.getElem_mem h)
      · rw [List.getD_eq_getElem?_getD, List.getElem?_eq_none (by omega)]
        decide
    · exact Nat.lt_of_le_of_lt (Nat.div_le_self _ _) (by decide)
theorem told_turned {l : List Nat} {k : Nat} {M : Mem} {q : D → Mem → Prop} {xi : XF} (hb : Byt l) (h3 : 3 ≤ l.length) (hl : l.length ≤ 1196) (hk : k < 8 * (l ++ fourO (lawR l)).length) (hq : ∀ M', Ex [] M M' → q (.tup [.str wCheck, .non]) M') : p113 [oD (turnN (l ++ fourO (lawR l)) k)] M q xi := by
  have h4 : (fourO (lawR l)).length = 4 := rfl
  have hB : Byt (l ++ fourO (lawR l)) := byt_app hb (byt_four (lawR_lt l))
  have hL : (turnN (l ++ fourO (lawR l)) k).length = l.length + 4 := by
    unfold turnN
    rw [List.length_set, List.length_append, h4]
  have hT : Byt (turnN (l ++ fourO (lawR l)) k) := byt_turn hB
  have hf := form_to hT (by omega) (by omega)
  have hr := rest_turned hB hT hk (rest_closed hb)
  refine ⟨_, rfl, dty_oD (by omega), fun h => ?_, fun l' e h hn M' ex => hq M' ex, fun l' e h h0 M' ex => ?_⟩
  · rw [hf] at h; cases h
  · rw [← oD_inj e] at h0
    exact absurd h0 hr
end K7
/-! K7: the hand's rows. -/
namespace K7
open PySem PySem.Spec L2
open PyProof.Rows hiding St

local macro_rules | `(tactic| walk_at "k7") => `(tactic| simp only [dSs, dS, dEs, dE, dI, dSeq, dAsg, dPar, dDrop, dRet, dIfS, dNext, dBrk, dNev, dVar, dC, dNil, dCons, dOp, dCB, dCall, dTup, dTest, dAnd, dOr, dNot, dIf, dChn, dNeg, fB, fAdd, fI, fI0, fEq, fNe, fIsN, fNotN, isNon, fIx, fLen, fMin, fMax, fInt, fTup, fLst,
  dIsi, dSet, setAll, dFor, diSeq, diR1, diR2, diR3, diEn, dLst, dApp, dExt, dRev, dEmp, empB, dSl, dPart, dNoP, dRse, dRank, fDg, isL, up_same, List.getElem?_cons_zero, List.getElem?_cons_succ, List.set_cons_zero, List.set_cons_succ, Bool.not_true, Bool.not_false, Tg.slots])
def isTp : D → Bool
  | .tup _ => true
  | _ => false
theorem like_same {d : D} {M : Mem} {q : D → Mem → Prop} {xi : XF} {n k : Nat} (h : okD n k d) (ht : isTp d = true) (hk : k ≤ 64) (hn : n ≤ 600000) (hq : q (.bl true) M) : p83 [d, d] M q xi := by
  obtain ⟨p, e, s⟩ := okD_shown h hk hn
  cases d with
  | tup ds => exact ⟨_, _, p, rfl, rfl, rfl, e, e, s, hq⟩
  | _ => cases ht
theorem read_tp (r : Except Er (Hd × List Fm)) : isTp (readD r) = true := by cases r <;> rfl
/-! ### the hand's rows -/
def hrow (r : List Nat × D) : D := .tup [oD r.1, r.2]
def HandsOk : List (List Nat × D) → Prop
  | [] => True
  | r :: rs => (Byt r.1 ∧ 3 ≤ r.1.length ∧ r.1.length ≤ 1196 ∧ readD (readB r.1) = r.2) ∧ HandsOk rs
def hs1 : List (List Nat × D) := [([2, 0, 0, 0, 3, 0, 0, 0], flt wBound 7), ([4, 0, 0], flt wHead 0), ([0, 0, 128], flt wNumber 2)]
def hs2 : List (List Nat × D) := [([2, 0, 0, 0, 4, 0, 0, 0], .tup [.str wLet, .tup [.tup [nD 0, nD 0, nD 0, nD 0], .tup [.tup [.str wData, nD 0, .tup [nD 0, .tup [], .bl true]]]]])]
def hs3 : List (List Nat × D) := [([0, 0, 0, 6], flt wFrame 3), ([0, 0, 0, 3, 0, 0, 1, 9], flt wOrder 3), ([2, 0, 0, 0, 5, 5], flt wOrder 5)]
def hs4 : List (List Nat × D) := [([2, 0, 0, 0, 2, 16, 0, 0], flt wBound 5), ([2, 0, 0, 0, 2, 3, 0, 0, 2, 3, 0, 0], flt wOrder 9)]
def hs5 : List (List Nat × D) := [([0, 0, 0, 1, 0], flt wBound 4), ([0, 0, 0, 1, 33], flt wBound 4), ([0, 0, 0, 1, 1, 5, 6, 0], flt wBound 6)]
def hs6 : List (List Nat × D) := [([0, 0, 0, 1, 1, 144, 128, 128, 128, 128, 128, 128, 128, 0, 0, 0], flt wBound 5)]
theorem hands_app : ∀ {a b : List (List Nat × D)}, HandsOk a → HandsOk b → HandsOk (a ++ b)
  | [], _, _, h => h
  | _ :: _, _, ⟨h1, h2⟩, h => ⟨h1, hands_app h2 h⟩
theorem hs1_ok : HandsOk hs1 := ⟨⟨by unfold Byt; decide, by decide, by decide, rfl⟩, ⟨by unfold Byt; decide, by decide, by decide, rfl⟩, ⟨by unfold Byt; decide, by decide, by decide, rfl⟩, trivial⟩
theorem hs2_ok : HandsOk hs2 := ⟨⟨by unfold Byt; decide, by decide, by decide, rfl⟩, trivial⟩
theorem hs3_ok : HandsOk hs3 := ⟨⟨by unfold Byt; decide, by decide, by decide, rfl⟩, ⟨by unfold Byt; decide, by decide, by decide, rfl⟩, ⟨by unfold Byt; decide, by decide, by decide, rfl⟩, trivial⟩
theorem hs4_ok : HandsOk hs4 := ⟨⟨by unfold Byt; decide, by decide, by decide, rfl⟩, ⟨by unfold Byt; decide, by decide, by decide, rfl⟩, trivial⟩
theorem hs5_ok : HandsOk hs5 := ⟨⟨by unfold Byt; decide, by decide, by decide, rfl⟩, ⟨by unfold Byt; decide, by decide, by decide, rfl⟩, ⟨by unfold Byt; decide, by decide, by decide, rfl⟩, trivial⟩
theorem hs6_ok : HandsOk hs6 := ⟨⟨by unfold Byt; decide, by decide, by decide, rfl⟩, trivial⟩
def p120 : DF := fun ds M q _ => ds = [] ∧ ∀ M', Ex [] M M' → q (.bl true) M'
theorem k120 {C : Nat → DF} (h83 : C 83 = p83) (h93 : C 93 = p93) (h113 : C 113 = p113) : Keeps C t120 p120 := by
  rintro ds M q xi ⟨rfl, hq⟩
  refine ⟨rfl, ?_⟩
  show dSs C t120.body _ [none, none, none] M _
  unfold t120
  refine asg_l (ds := hs1.map hrow) rfl (by decide) fun p hp => ?_
  refine cat_l (a := p) (xs := hs1.map hrow) (ds := hs2.map hrow) rfl up_same rfl (by decide) fun p1 p2 hp1 hp2 => ?_
  refine cat_l (a := p2) (xs := hs1.map hrow ++ hs2.map hrow) (ds := hs3.map hrow) rfl up_same rfl (by decide) fun p3 p4 hp3 hp4 => ?_
  refine cat_l (a := p4) (xs := hs1.map hrow ++ hs2.map hrow ++ hs3.map hrow) (ds := hs4.map hrow) rfl up_same rfl (by decide) fun p5 p6 hp5 hp6 => ?_
  refine cat_l (a := p6) (xs := hs1.map hrow ++ hs2.map hrow ++ hs3.map hrow ++ hs4.map hrow) (ds := hs5.map hrow) rfl up_same rfl (by decide) fun p7 p8 hp7 hp8 => ?_
  refine app_p (a := p8) (xs := hs1.map hrow ++ hs2.map hrow ++ hs3.map hrow ++ hs4.map hrow ++ hs5.map hrow) (d := hrow (hs6.headD ([], .non))) rfl up_same rfl (by decide) ?_
  rw [up_up]
  generalize hM1 : up (up (up (up (up (up (up M p _) p1 _) p2 _) p3 _) p4 _) p5 _) p6 _ = Mx at hp7 hp8 ⊢
  have exx : Ex [] M Mx := by
    subst hM1
    exact ((((((Ex.refl.new hp).new hp1).new hp2).new hp3).new hp4).new hp5).new hp6
  clear hM1
  have exx1 : Ex [] M (up (up Mx p7 (.lst (hs5.map hrow))) p8 (.lst (hs1.map hrow ++ hs2.map hrow ++ hs3.map hrow ++ hs4.map hrow ++ hs5.map hrow ++ [hrow (hs6.headD ([], .non))]))) := (exx.new hp7).new hp8
  have eall : hs1.map hrow ++ hs2.map hrow ++ hs3.map hrow ++ hs4.map hrow ++ hs5.map hrow ++ [hrow (hs6.headD ([], .non))] = (hs1 ++ hs2 ++ hs3 ++ hs4 ++ hs5 ++ hs6).map hrow := rfl
  have aok : HandsOk (hs1 ++ hs2 ++ hs3 ++ hs4 ++ hs5 ++ hs6) := hands_app (hands_app (hands_app (hands_app (hands_app hs1_ok hs2_ok) hs3_ok) hs4_ok) hs5_ok) hs6_ok
  rw [eall] at exx1 ⊢
  generalize hs1 ++ hs2 ++ hs3 ++ hs4 ++ hs5 ++ hs6 = rows at exx1 aok ⊢
  have hrow8 : (up (up Mx p7 (.lst (hs5.map hrow))) p8 (.lst (rows.map hrow))) p8 = some (.lst (rows.map hrow)) := up_same
  generalize up (up Mx p7 (.lst (hs5.map hrow))) p8 (.lst (rows.map hrow)) = M8 at exx1 hrow8 ⊢
  simp only [dSs, dS, dE, dEs, dI, dSeq, dRet, dEmp, dLc, diSeq, dVar, List.getElem?_cons_zero, List.set_cons_zero, hrow8, h83, h93, h113]
  refine lct_nil (fun its M' => ∃ rs, its = rs.map hrow ∧ HandsOk rs ∧ Ex [] M M' ∧ M' p8 = some (.lst (rows.map hrow))) ?_ ?_ _ _ ⟨rows, rfl, aok, exx1, hrow8⟩
  · rintro d r M' ⟨rs, ei, ok, ex, hm⟩
    cases rs with
    | nil => cases ei
    | cons x rs =>
      cases ei
      obtain ⟨l, due⟩ := x
      obtain ⟨⟨hb, h3, hl, hr⟩, ok'⟩ := ok
      refine ⟨hm, _, rfl, fun K hK => ?_⟩
      simp only [dTest, dNot, dCall, dOp, dCons, dNil, dVar, fB, List.getElem?_cons_zero, List.getElem?_cons_succ, dwipe, Tg.slots, List.foldl_cons, List.foldl_nil, List.set_cons_zero, List.set_cons_succ]
      dsimp only at hb h3 hl hr
      refine ⟨l, rfl, hb, by omega, ?_⟩
      show fAdd (.tup (l.map nD)) (.tup ((fourO (lawR l)).map nD)) M' _
      refine ⟨by rw [List.length_map, List.length_map]; show _ + 4 ≤ _; omega, ?_⟩
      rw [oD_app]
      refine told_closed hb h3 hl fun M2 ex2 => ?_
      rw [← hr]
      refine like_same (okD_read hb (by omega) (by omega)) (read_tp _) (by decide) (by decide) ?_
      exact hK M2 ⟨rs, rfl, ok', ex.trans ex2, ex2.keep hm (by simp)⟩
  · rintro M' ⟨rs, ei, ok, ex, hm⟩
    refine ⟨hm, fun p9 hp9 => ?_⟩
    simp only [empB, up_same]
    exact hq _ (ex.new hp9)
end K7
/-! K7: octets right. -/
namespace K7
open PySem PySem.Spec L2
open PyProof.Rows hiding St

local macro_rules | `(tactic| walk_at "k7") => `(tactic| simp only [dSs, dS, dEs, dE, dI, dSeq, dAsg, dPar, dDrop, dRet, dIfS, dNext, dBrk, dNev, dVar, dC, dNil, dCons, dOp, dCB, dCall, dTup, dTest, dAnd, dOr, dNot, dIf, dChn, dNeg, fB, fAdd, fI, fI0, fEq, fNe, fIsN, fNotN, isNon, fIx, fLen, fMin, fMax, fInt, fTup, fLst,
  dIsi, dSet, setAll, dFor, diSeq, diR1, diR2, diR3, diEn, dLst, dApp, dExt, dRev, dEmp, empB, dSl, dPart, dNoP, dRse, dRank, fDg, isL, up_same, List.getElem?_cons_zero, List.getElem?_cons_succ, List.set_cons_zero, List.set_cons_succ, Bool.not_true, Bool.not_false, Tg.slots])
/-- a body that is drawn -/
def BodyOk (l : List Nat) : Prop := Byt l ∧ 3 ≤ l.length ∧ l.length ≤ 900
def p116 : DF := fun ds M q _ => ∃ m c g b, ds = [.ob m] ∧ M m = some (.gen c g b) ∧ 2000 ≤ b ∧ ∀ M' b', Ex [m] M M' → M' m = some (.gen c g b') → b ≤ b' + 2000 → q (.bl true) M'
theorem Ex.nil {ch : List Addr} {M M' : Mem} (x : Ex [] M M') : Ex ch M M' := x.more (by simp)
theorem at_c {f g : DF} {ds : List D} {M : Mem} {q : D → Mem → Prop} {xi : XF} (h : f = g) (k : g ds M q xi) : f ds M q xi := by
  rw [h]
  exact k
theorem k116 {C : Nat → DF} (h75 : C 75 = p75) (h81 : C 81 = p81) (h83 : C 83 = p83) (h93 : C 93 = p93) (h94 : C 94 = p94) (h97 : C 97 = p97) (h98 : C 98 = p98) (h102 : C 102 = p102) (h112 : C 112 = p112) (h113 : C 113 = p113) (h114 : C 114 = p114) (h115 : C 115 = p115) : Keeps C t116 p116 := by
  rintro ds M q xi ⟨m, c, g, b, rfl, hm, hb, hq⟩
  refine ⟨rfl, ?_⟩
  show dSs C t116.body _ [some (.ob m), none, none, none, none, none] M _
  -- the loop over the bodies
  have loop : ∀ (p : Addr) (ls : List (List Nat)) (bd : D) (M1 : Mem) (b1 : Nat), ls.length = 3 → (∀ l ∈ ls, BodyOk l) → Ex [m] M M1 → M1 m = some (.gen c g b1) → b ≤ b1 + 1300 → M1 p = some (.lst (ls.map oD)) → p ≠ m →
      forGo (.nm 2) (dSs C [.par 4 5 (.bin .add (.v 2) (.call 93 [(.v 2)])) (.call 112 [(.v 2)]),
      .ite (.not (.call 83 [(.call 113 [(.v 4)]), (.v 5)])) [.ret (.c (.bl false))] [],
      .ite (.and (.bin .eq (.ix (.v 5) (.c (.int 0))) (.c (.str "let"))) (.not (.call 83 [(.call 75 [(.ix (.v 5) (.c (.int 1)))]), (.v 4)]))) [.ret (.c (.bl false))] [],
      .asg (.call 94 [(.v 4), (.lst [(.call 81 [(.v 0), (.bin .mul (.c (.int 8)) (.len (.v 4)))])])]) (.nm 3),
      .ite (.not (.call 83 [(.call 113 [(.v 3)]), (.tup [(.c (.str "check")), (.c .non)])])) [.ret (.c (.bl false))] []]) (ls.map oD) (some p)
      { nx := fun dl' M' => dSs C [.ret (.c (.bl true))] { nx := fun _ M' => q .non M', rt := q } dl' M' fun c fs x M2 => xi c fs M2, rt := q, bk := fun _ _ => False } (fun c fs x M2 => xi c fs M2) (ls.map oD) [some (.ob m), some bd, none, none, none, none] M1 := by
    intro p ls bd M1 b1 hl3 hls ex1 hm1 hb1 hp1 hpm
    refine for_inv (fun its dl M' => ∃ rs b' a2 a3 a4 a5, its = rs.map oD ∧ (∀ l ∈ rs, BodyOk l) ∧ rs.length ≤ 3 ∧ Ex [m] M M' ∧ M' m = some (.gen c g b') ∧ b ≤ b' + 1300 + (3 - rs.length) ∧ M' p = some (.lst (ls.map oD)) ∧ dl = [some (.ob m), some bd, a2, a3, a4, a5]) ?_ ?_ _ _ _ ⟨ls, b1, none, none, none, none, rfl, hls, by omega, ex1, hm1, by omega, hp1, rfl⟩
    · rintro d rr dl M' nx ⟨rs, b', a2, a3, a4, a5, ei, hrs, hlen, ex, hm', hb', hp', rfl⟩ hn
      cases rs with
      | nil => cases ei
      | cons l rs =>
        cases ei
        rw [List.length_cons] at hlen hb'
        obtain ⟨h8, h3, h9⟩ := hrs l List.mem_cons_self
        refine ⟨hp', _, rfl, ?_⟩
        have L4 : (fourO (lawR l)).length = 4 := rfl
        have hB : Byt (l ++ fourO (lawR l)) := byt_app h8 (byt_four (lawR_lt l))
        have hL : (l ++ fourO (lawR l)).length = l.length + 4 := by rw [List.length_append, L4]
        simp only [dSs, dS, dE, dEs, dSeq, dPar, dOp, dCall, dCons, dNil, dVar, dC, fB, List.getElem?_cons_zero, List.getElem?_cons_succ, List.set_cons_zero, List.set_cons_succ]
        refine at_c h93 ⟨l, rfl, h8, by omega, ?_⟩
        show fAdd (.tup (l.map nD)) (.tup ((fourO (lawR l)).map nD)) M' _
        refine ⟨by rw [List.length_map, List.length_map, L4]; omega, ?_⟩
        rw [oD_app]
        refine at_c h112 ⟨l, rfl, h8, by omega, by omega, fun M2 ex2 => ?_⟩
        simp only [dIfS, dNot, dCall, dCons, dNil, dVar, dNext, dSeq, List.getElem?_cons_zero, List.getElem?_cons_succ]
        refine at_c h113 (told_closed h8 h3 (by omega) fun M3 ex3 => ?_)
        refine at_c h83 (like_same (okD_read h8 (by omega) (by omega)) (read_tp _) (by decide) (by decide) ?_)
        dsimp only [Bool.not_true]
        have ex4 : Ex [m] M M3 := (ex.trans ex2.nil).trans ex3.nil
        have hm3 : M3 m = some (.gen c g b') := ex3.keep (ex2.keep hm' (by simp)) (by simp)
        have hp3 : M3 p = some (.lst (ls.map oD)) := ex3.keep (ex2.keep hp' (by simp)) (by simp)
        clear ex2 ex3
        -- the turned bit
        have turned : ∀ (M4 : Mem) (z5 : Option D), Ex [] M3 M4 → dSs C [.asg (.call 94 [(.v 4), (.lst [(.call 81 [(.v 0), (.bin .mul (.c (.int 8)) (.len (.v 4)))])])]) (.nm 3),
          .ite (.not (.call 83 [(.call 113 [(.v 3)]), (.tup [(.c (.str "check")), (.c .non)])])) [.ret (.c (.bl false))] []] { nx := nx, rt := q, bk := fun dl' M' => dSs C [.ret (.c (.bl true))] { nx := fun _ M' => q .non M', rt := q } dl' M' fun c fs x M2 => xi c fs M2 } [some (.ob m), some bd, some (oD l), a3, some (oD (l ++ fourO (lawR l))), z5] M4 (fun c fs x M2 => xi c fs M2) := by
          intro M4 z5 exm
          have hm4 := exm.keep hm3 (by simp)
          have hp4 := exm.keep hp3 (by simp)
          have ex5 : Ex [m] M M4 := ex4.trans exm.nil
          simp only [dSs, dS, dE, dEs, dSeq, dAsg, dCall, dLst, dOp, dCB, fLen, dCons, dNil, dVar, dC, fB, fMul, oD, List.length_map, List.getElem?_cons_zero, List.getElem?_cons_succ]
          refine ⟨.inl (by decide), ?_⟩
          refine at_c h81 (d81 hm4 (by omega) (by omega) (by omega) fun r r0 r1 => ?_)
          obtain ⟨k, rfl⟩ := int_nat r0
          refine ⟨by show 1 ≤ 100000; decide, fun p5 hp5 => ?_⟩
          have hmp5 : m ≠ p5 := fun e => by subst e; rw [up_same] at hp5; cases hp5
          refine at_c h94 ⟨l ++ fourO (lawR l), p5, k, rfl, by omega, up_same, fun M5 ex6 => ?_⟩
          have hm5 : M5 m = some (.gen c g (b' - 1)) := ex6.keep ((up_ne hmp5).trans up_same) (by simp)
          have hpp5 : p ≠ p5 := fun e => by subst e; rw [up_ne hpm, hp4] at hp5; cases hp5
          have hp5' : M5 p = some (.lst (ls.map oD)) := ex6.keep ((up_ne hpp5).trans ((up_ne hpm).trans hp4)) (by simp)
          have ex7 : Ex [m] M M5 := ((ex5.at1).new hp5).trans ex6.nil
          simp only [dSet, List.set_cons_zero, List.set_cons_succ, dIfS, dNot, dCall, dCons, dNil, dVar, dC, dTup, dNext, List.getElem?_cons_zero, List.getElem?_cons_succ]
          refine at_c h113 (told_turned h8 h3 (by omega) (by omega) fun M6 ex8 => ?_)
          refine ⟨by show 2 ≤ 100000; decide, ?_⟩
          have hck : okD 100 1 (.tup [.str wCheck, .non]) := ((okDs.cons (okD_str (s := wCheck) (by decide)) (okDs.cons okD_non okDs_nil)).tup).le (by decide) (Nat.le_refl _)
          refine at_c h83 (like_same (d := .tup [.str wCheck, .non]) hck rfl (by decide) (by decide) ?_)
          exact hn _ _ ⟨rs, b' - 1, _, _, _, _, rfl, fun y hy => hrs y (List.mem_cons_of_mem _ hy), by omega, ex7.trans ex8.nil, ex8.keep hm5 (by simp), by omega, ex8.keep hp5' (by simp), rfl⟩
        cases hr : readB l with
        | error e =>
          have hne := (erS_of (readB_er (by omega) hr).1).2
          simp only [dAnd, dOp, dC, dVar, fIx, fEq, readD, flt, K7.at0, List.getElem?_cons_zero, List.getElem?_cons_succ]
          rw [show decide (e.1 = Str.ofString "let") = false from decide_eq_false hne]
          exact turned M3 _ Ex.refl
        | ok x =>
          obtain ⟨h, fs⟩ := x
          obtain ⟨i1, i2, i3, i4⟩ := readB_inv h8 (by omega) hr
          simp only [dAnd, dOp, dC, dVar, fIx, fEq, readD, encB, K7.at0, K7.at1, dNot, dCall, dCons, dNil, List.getElem?_cons_zero, List.getElem?_cons_succ]
          rw [show decide (wLet = Str.ofString "let") = true from by decide]
          refine at_c h75 ⟨h, fs, rfl, i2, i3, by rw [i1]; omega, i4, fun M4 ex5 => ?_⟩
          rw [i1, ← lawR_chk h8]
          refine at_c h83 (like_same (n := 1200) (k := 1) ((okD_oct hB).le (by omega) (Nat.le_refl _)) rfl (by decide) (by decide) ?_)
          exact turned M4 _ ex5
    · rintro dl M' ⟨rs, b', a2, a3, a4, a5, ei, hrs, hlen, ex, hm', hb', hp', rfl⟩
      refine ⟨hp', ?_⟩
      exact hq M' b' ex hm' (by omega)
  unfold t116
  simp only [dSs, dS, dE, dEs, dI, dSeq, dAsg, dFor, diSeq, dLst, dCall, dCons, dNil, dVar, dC, dSet, List.getElem?_cons_zero, List.getElem?_cons_succ, List.set_cons_zero, List.set_cons_succ]
  refine at_c h114 ⟨m, c, g, b, rfl, hm, by omega, fun l1 M1 b1 i1 i2 i3 ex1 hm1 hb1 => ?_⟩
  refine at_c h115 ⟨m, c, g, b1, l1, rfl, hm1, by omega, i1, i2, by omega, fun l2 M2 b2 j1 j2 j3 ex2 hm2 hb2 => ?_⟩
  refine at_c h97 ⟨m, c, g, b2, rfl, hm2, by omega, fun h b3 hh hb3 => ?_⟩
  refine at_c h98 ⟨m, c, g, b3, rfl, up_same, by omega, fun a fs M4 b4 ok ex4 hm4 ha4 hna hb4 => ?_⟩
  have hw := ok.wt
  have hr := rowH_le (h := h)
  have hbl := body_len h fs
  refine at_c h102 ⟨h, a, fs, rfl, ok.good, by omega, ha4, ?_⟩
  refine at_c h115 ⟨m, c, g, b4, bodyO h fs, rfl, hm4, by omega, body_byt hh ok.good, by omega, by omega, fun l3 M5 b5 k1 k2 k3 ex5 hm5 hb5 => ?_⟩
  refine ⟨by show 3 ≤ 100000; decide, fun p hp => ?_⟩
  have hmp : m ≠ p := fun e => by subst e; rw [hm5] at hp; cases hp
  have exx : Ex [m] M M5 := (((ex1.trans ex2).trans Ex.refl.at1).trans ex4).trans ex5
  have := loop p [l1, l2, l3] (oD l1) _ b5 rfl (by
    intro l hl
    simp only [List.mem_cons, List.not_mem_nil, or_false] at hl
    rcases hl with rfl | rfl | rfl
    · exact ⟨i1, i2, by omega⟩
    · exact ⟨j1, j2, by omega⟩
    · exact ⟨k1, k2, by omega⟩) (exx.new hp) ((up_ne hmp).trans hm5) (by omega) up_same hmp.symm
  simp only [dSs, dS, dE, dEs, dI, dSeq, dAsg, dFor, diSeq, dLst, dCall, dCons, dNil, dVar, dC, dSet, List.getElem?_cons_zero, List.getElem?_cons_succ, List.set_cons_zero, List.set_cons_succ] at this
  simp only [up_same]
  exact this
end K7
/-! K7: values right, part 1. -/
namespace K7
open PySem PySem.Spec L2
open PyProof.Rows hiding St

local macro_rules | `(tactic| walk_at "k7") => `(tactic| simp only [dSs, dS, dEs, dE, dI, dSeq, dAsg, dPar, dDrop, dRet, dIfS, dNext, dBrk, dNev, dVar, dC, dNil, dCons, dOp, dCB, dCall, dTup, dTest, dAnd, dOr, dNot, dIf, dChn, dNeg, fB, fAdd, fI, fI0, fEq, fNe, fIsN, fNotN, isNon, fIx, fLen, fMin, fMax, fInt, fTup, fLst,
  dIsi, dSet, setAll, dFor, diSeq, diR1, diR2, diR3, diEn, dLst, dApp, dExt, dRev, dEmp, empB, dSl, dPart, dNoP, dRse, dRank, fDg, isL, up_same, List.getElem?_cons_zero, List.getElem?_cons_succ, List.set_cons_zero, List.set_cons_succ, Bool.not_true, Bool.not_false, Tg.slots])
/-! ### types that stand -/
def Ty (M M' : Mem) : Prop := ∀ d, dty M d = true → dty M' d = true
mutual
theorem Ty.of1 {M M' : Mem} (x : ∀ d, tyB M d = true → tyB M' d = true) : ∀ d, dty M d = true → dty M' d = true
  | .tup ds, h => by
    unfold dty at h ⊢
    rw [Bool.and_eq_true] at h ⊢
    exact ⟨h.1, Ty.ofs x ds h.2⟩
  | .non, h => h
  | .bl _, h => h
  | .int _, h => h
  | .str _, h => h
  | .ob a, h => x (.ob a) h
  | .scr a, h => h
theorem Ty.ofs {M M' : Mem} (x : ∀ d, tyB M d = true → tyB M' d = true) : ∀ ds, dtys M ds = true → dtys M' ds = true
  | [], _ => rfl
  | d :: r, h => by
    unfold dtys at h ⊢
    rw [Bool.and_eq_true] at h ⊢
    exact ⟨Ty.of1 x d h.1, Ty.ofs x r h.2⟩
end
theorem Ty.ex {M M' : Mem} (x : Ex [] M M') : Ty M M' := dty_ex x
theorem Ty.trans {M M1 M2 : Mem} (x : Ty M M1) (y : Ty M1 M2) : Ty M M2 := fun d h => y d (x d h)
theorem Ty.app {M : Mem} {a : Addr} {xs ys : List D} (h : M a = some (.lst xs)) : Ty M (up M a (.lst ys)) := Ty.of1 fun d hd => by
  cases d with
  | ob b =>
    by_cases e : b = a
    · subst e
      unfold tyB tyOf
      dsimp only
      rw [up_same]
      rfl
    · unfold tyB tyOf at *
      dsimp only at *
      rw [up_ne e]
      exact hd
  | _ => exact hd
def RowOk (M : Mem) (row : D) : Prop := ∃ v due, row = .tup [v, due] ∧ dty M v = true ∧ faultD v = due ∧ dueOk due
theorem RowOk.ty {M M' : Mem} (t : Ty M M') {row : D} (h : RowOk M row) : RowOk M' row := by
  obtain ⟨v, due, e, h1, h2, h3⟩ := h
  exact ⟨v, due, e, t v h1, h2, h3⟩
def Rows (M : Mem) (a : Addr) (n : Nat) : Prop := ∃ xs, M a = some (.lst xs) ∧ (∀ x ∈ xs, RowOk M x) ∧ xs.length ≤ n
def Frs (M : Mem) (a : Addr) (n : Nat) : Prop := ∃ xs, M a = some (.lst xs) ∧ (∀ x ∈ xs, dty M x = true ∧ frameB x = false) ∧ xs.length ≤ n
theorem Rows.ex {M M' : Mem} {a : Addr} {n : Nat} (h : Rows M a n) (x : Ex [] M M') : Rows M' a n := by
  obtain ⟨xs, h1, h2, h3⟩ := h
  exact ⟨xs, x.keep h1 (by simp), fun y hy => (h2 y hy).ty (.ex x), h3⟩
theorem Frs.ex {M M' : Mem} {a : Addr} {n : Nat} (h : Frs M a n) (x : Ex [] M M') : Frs M' a n := by
  obtain ⟨xs, h1, h2, h3⟩ := h
  exact ⟨xs, x.keep h1 (by simp), fun y hy => ⟨dty_ex x y (h2 y hy).1, (h2 y hy).2⟩, h3⟩
theorem Rows.le {M : Mem} {a : Addr} {n k : Nat} (h : Rows M a n) (l : n ≤ k) : Rows M a k := by
  obtain ⟨xs, h1, h2, h3⟩ := h
  exact ⟨xs, h1, h2, Nat.le_trans h3 l⟩
/-! ### displays -/
section
variable {C : Nat → DF} {N : DN} {dl : Dl} {M : Mem} {X : XD} {r : List S} {as : List A} {k : List D → Mem → Prop}
theorem evs_nil (h : k [] M) : dEs C [] dl M k X := h
theorem evs_cons {a : A} {d : D} (h : pev dl a = some d) (hk : dEs C as dl M (fun ds M2 => k (d :: ds) M2) X) : dEs C (a :: as) dl M k X := pev_ok C a d _ h hk
theorem evs_lst {bs : List A} {ds : List D} (h : pevs dl bs = some ds) (hl : ds.length ≤ 100000) (hk : ∀ p, M p = none → dEs C as dl (up M p (.lst ds)) (fun es M2 => k (.ob p :: es) M2) X) : dEs C (.lst bs :: as) dl M k X :=
  pevs_ok C bs ds _ h ⟨hl, fun p hp => hk p hp⟩
theorem evs_newD (hk : ∀ p, M p = none → dEs C as dl (up M p (.dct [])) (fun es M2 => k (.ob p :: es) M2) X) : dEs C (.newD :: as) dl M k X := fun p hp => hk p hp
theorem evs_tup {bs : List A} (h : dEs C bs dl M (fun ds M1 => ds.length ≤ 100000 ∧ dEs C as dl M1 (fun es M2 => k (.tup ds :: es) M2) X) X) : dEs C (.tup bs :: as) dl M k X := h
theorem evs_lof {e : A} {ds : List D} (h : pev dl e = some (.tup ds)) (hk : ∀ p, M p = none → dEs C as dl (up M p (.lst ds)) (fun es M2 => k (.ob p :: es) M2) X) : dEs C (.lof e :: as) dl M k X := pev_ok C e _ _ h fun p hp => hk p hp
theorem asg_lst {i : Nat} (h : dEs C as dl M (fun ds M1 => ds.length ≤ 100000 ∧ ∀ p, M1 p = none → dSs C r N (dl.set i (some (.ob p))) (up M1 p (.lst ds)) X) X) : dSs C (.asg (.lst as) (.nm i) :: r) N dl M X := h
/-- rows and more rows -/
theorem cat_rows {i : Nat} {a : Addr} {ds : List D} {n : Nat} (hi : dl[i]? = some (some (.ob a))) (hr : Rows M a n) (hn : n + ds.length ≤ 1000) (h : pevs dl as = some ds) (hd : ∀ x ∈ ds, RowOk M x)
    (kk : ∀ a' M', Ex [] M M' → a' ≠ a → M a' = none → Rows M' a' (n + ds.length) → dSs C r N (dl.set i (some (.ob a'))) M' X) : dSs C (.asg (.bin .add (.v i) (.lst as)) (.nm i) :: r) N dl M X := by
  obtain ⟨xs, h1, h2, h3⟩ := hr
  refine cat_l hi h1 h (by omega) fun p1 p2 hp1 hp2 => ?_
  have ex : Ex [] M (up (up M p1 (.lst ds)) p2 (.lst (xs ++ ds))) := (Ex.refl.new hp1).new hp2
  have h12 : p2 ≠ p1 := fun e => by subst e; rw [up_same] at hp2; cases hp2
  refine kk p2 _ ex (fun e => by subst e; rw [up_ne h12, h1] at hp2; cases hp2) (by rw [up_ne h12] at hp2; exact hp2) ⟨_, up_same, fun y hy => ?_, by rw [List.length_append]; omega⟩
  rcases List.mem_append.1 hy with hy | hy
  · exact (h2 y hy).ty (.ex ex)
  · exact (hd y hy).ty (.ex ex)
/-- rows, one for each thing of a list -/
theorem cat_each {i j l : Nat} {a b : Addr} {e : A} {its : List D} {n : Nat} (hi : dl[i]? = some (some (.ob a))) (hj : (dwipe dl [l])[j]? = some (some (.ob b))) (hr : Rows M a n) (hb : M b = some (.lst its)) (hn : n + its.length ≤ 1000)
    (hd : ∀ x ∈ its, ∃ y, pev ((dwipe dl [l]).set l (some x)) e = some y ∧ RowOk M y) (hj0 : dl[j]? = some (some (.ob b)))
    (kk : ∀ a' M', Ex [] M M' → a' ≠ a → M a' = none → Rows M' a' (n + its.length) → dSs C r N (dl.set i (some (.ob a'))) M' X) : dSs C (.asg (.bin .add (.v i) (.lc (.seq (.v j)) (.nm l) e)) (.nm i) :: r) N dl M X := by
  obtain ⟨xs, h1, h2, h3⟩ := hr
  show dSeq (dAsg (dOp fAdd (dE C (.v i)) (dLc (diSeq (dE C (.v j))) (.nm l) none (dE C e))) (.nm i)) (dSs C r) N dl M X
  unfold dSeq dAsg dOp dLc diSeq
  refine pev_ok C (.v i) (.ob a) _ (by show dl[i]?.join = _; rw [hi]; rfl) ?_
  refine pev_ok C (.v j) (.ob b) _ (by show dl[j]?.join = _; rw [hj0]; rfl) ?_
  dsimp only
  rw [hb]
  refine lc_inv (fun rs acc M' => M' = M ∧ (∀ x ∈ rs, x ∈ its) ∧ acc.length + rs.length = its.length ∧ ∀ y ∈ acc, RowOk M y) ?_ ?_ _ _ _ ⟨rfl, fun x hx => hx, by simp, fun y hy => by cases hy⟩
  · rintro d rr acc M' k2 ⟨rfl, hin, hlen, hacc⟩ hk
    obtain ⟨y, ey, oy⟩ := hd d (hin d List.mem_cons_self)
    rw [List.length_cons] at hlen
    refine ⟨hb, _, rfl, pev_ok C e y _ ey ⟨by omega, hk y M' ⟨rfl, fun x hx => hin x (List.mem_cons_of_mem _ hx), by rw [List.length_append]; show _ + 1 + _ = _; omega, fun z hz => ?_⟩⟩⟩
    rcases List.mem_append.1 hz with hz | hz
    · exact hacc z hz
    · rw [List.mem_singleton] at hz; rw [hz]; exact oy
  · rintro acc M' ⟨rfl, hin, hlen, hacc⟩
    rw [List.length_nil, Nat.add_zero] at hlen
    refine ⟨hb, fun p1 hp1 => ?_⟩
    have hap : a ≠ p1 := fun e => by subst e; rw [h1] at hp1; cases hp1
    show fAdd (.ob a) (.ob p1) (up M' p1 (.lst acc)) _
    unfold fAdd
    dsimp only
    rw [up_ne hap, h1, up_same]
    refine ⟨by omega, fun p2 hp2 => ?_⟩
    have ex : Ex [] M' (up (up M' p1 (.lst acc)) p2 (.lst (xs ++ acc))) := (Ex.refl.new hp1).new hp2
    have h12 : p2 ≠ p1 := fun e => by subst e; rw [up_same] at hp2; cases hp2
    refine kk p2 _ ex (fun e => by subst e; rw [up_ne h12, h1] at hp2; cases hp2) (by rw [up_ne h12] at hp2; exact hp2) ⟨_, up_same, fun y hy => ?_, by rw [List.length_append]; omega⟩
    rcases List.mem_append.1 hy with hy | hy
    · exact (h2 y hy).ty (.ex ex)
    · exact (hacc y hy).ty (.ex ex)
end
/-! ### the header and the frames of the rows -/
def gH (s m p : Nat) : D := .tup [nD s, nD m, nD p, .int 5]
def bH (s m p : Nat) : D := .tup [nD s, nD m, nD p, .non]
structure HdN (s m p : Nat) : Prop where
  hs : s ≤ 1
  hm : m ≤ 2 ^ 60
  hp : p ≤ 2 ^ 60
theorem gd_ok {s m p : Nat} (h : HdN s m p) : headerB (gH s m p) = true := header_to (h := ⟨s, m, p, some 5⟩) (by
  unfold Hd.good
  simp only [Bool.and_eq_true, decide_eq_true_eq]
  exact ⟨h.hs, h.hm, h.hp, by decide⟩)
theorem bd_ok {s m p : Nat} (h : HdN s m p) : headerB (bH s m p) = true := header_to (h := ⟨s, m, p, none⟩) (by
  unfold Hd.good
  simp only [Bool.and_eq_true, decide_eq_true_eq]
  exact ⟨h.hs, h.hm, h.hp, trivial⟩)
def pingD : D := .tup [.str wPing]
def roomD : D := .tup [.str wRoom, .int 4, .int 0, .int 1152921504606846976]
def dataD : D := .tup [.str wData, .int 0, .tup [.int 7, .tup [.int 255], .bl false]]
theorem fault_of {h : D} {fs : List D} (e : headerB h = true) : faultD (.tup [h, .tup fs]) = fGo (bareD h) 0 [] fs := if_pos e
theorem due_form : dueOk (.tup [.str wForm, .non]) := .inr ⟨_, _, rfl, by decide, okD_non⟩
theorem due_header : dueOk (.tup [.str wHeader, .non]) := .inr ⟨_, _, rfl, by decide, okD_non⟩
theorem due_frame (n : Nat) (h : n ≤ 2 ^ 60) : dueOk (.tup [.str wFrame, nD n]) := .inr ⟨_, _, rfl, by decide, okD_nat h⟩
theorem due_order (n : Nat) (h : n ≤ 2 ^ 60) : dueOk (.tup [.str wOrder, nD n]) := .inr ⟨_, _, rfl, by decide, okD_nat h⟩
theorem dty_gd (M : Mem) (s m p : Nat) : dty M (gH s m p) = true := dty_H M ⟨s, m, p, some 5⟩
theorem dty_bd (M : Mem) (s m p : Nat) : dty M (bH s m p) = true := dty_H M ⟨s, m, p, none⟩
theorem dty2 {M : Mem} {a b : D} (ha : dty M a = true) (hb : dty M b = true) : dty M (.tup [a, b]) = true := dty_tupI (by show 2 ≤ 5000; decide) (by
  intro d hd
  simp only [List.mem_cons, List.not_mem_nil, or_false] at hd
  rcases hd with rfl | rfl
  · exact ha
  · exact hb)
theorem dty1 {M : Mem} {a : D} (ha : dty M a = true) : dty M (.tup [a]) = true := dty_tupI (by show 1 ≤ 5000; decide) (by
  intro d hd
  rw [List.mem_singleton] at hd
  rw [hd]
  exact ha)
theorem dty3 {M : Mem} {a b c : D} (ha : dty M a = true) (hb : dty M b = true) (hc : dty M c = true) : dty M (.tup [a, b, c]) = true := dty_tupI (by show 3 ≤ 5000; decide) (by
  intro d hd
  simp only [List.mem_cons, List.not_mem_nil, or_false] at hd
  rcases hd with rfl | rfl | rfl
  · exact ha
  · exact hb
  · exact hc)
theorem dty4 {M : Mem} {a b c e : D} (ha : dty M a = true) (hb : dty M b = true) (hc : dty M c = true) (he : dty M e = true) : dty M (.tup [a, b, c, e]) = true := dty_tupI (by show 4 ≤ 5000; decide) (by
  intro d hd
  simp only [List.mem_cons, List.not_mem_nil, or_false] at hd
  rcases hd with rfl | rfl | rfl | rfl
  · exact ha
  · exact hb
  · exact hc
  · exact he)
/-! ### the end of the statement: the rows are looked at -/
section
variable {C : Nat → DF} {q : D → Mem → Prop} {X : XD}
def N0 (q : D → Mem → Prop) : DN := { nx := fun _ M' => q .non M', rt := q }
theorem r18 (h119 : C 119 = p119) (hq : ∀ M', q (.bl true) M') {M : Mem} {a : Addr} {n : Nat} (hr : Rows M a n) (x0 x1 x2 x4 x5 x6 x7 x8 x9 x10 x11 x12 x13 x14 x15 x16 : Option D) :
    dSs C (t118.body.drop 18) (N0 q) [x0, x1, x2, some (.ob a), x4, x5, x6, x7, x8, x9, x10, x11, x12, x13, x14, x15, x16] M X := by
  show dSs C ([.ret (.emp false false (.lcT (.seq (.v 3)) (.tp [14, 15]) (.not (.call 119 [(.v 14), (.v 15)])) (.c (.int 1))))] : List S) _ _ _ _
  obtain ⟨xs, h1, h2, h3⟩ := hr
  simp only [dSs, dS, dE, dEs, dI, dSeq, dRet, dEmp, dLc, diSeq, dVar, List.getElem?_cons_zero, List.getElem?_cons_succ, h1, h119]
  refine lct_nil (fun its M' => (∀ x ∈ its, RowOk M' x) ∧ M' a = some (.lst xs)) ?_ ?_ _ _ ⟨h2, h1⟩
  · rintro d r M' ⟨hrs, hm⟩
    obtain ⟨v, due, rfl, ht, hf, hd⟩ := hrs d List.mem_cons_self
    refine ⟨hm, _, rfl, fun K hK => ?_⟩
    simp only [dTest, dNot, dCall, dCons, dNil, dVar, List.getElem?_cons_zero, List.getElem?_cons_succ, dwipe, Tg.slots, List.foldl_cons, List.foldl_nil, List.set_cons_zero, List.set_cons_succ]
    refine ⟨v, due, rfl, ht, hf, hd, fun M2 ex => ?_⟩
    exact hK M2 ⟨fun x hx => (hrs x (List.mem_cons_of_mem _ hx)).ty (.ex ex), ex.keep hm (by simp)⟩
  · rintro M' ⟨_, hm⟩
    refine ⟨hm, fun p hp => ?_⟩
    simp only [empB, up_same]
    exact hq _
theorem r14 (h119 : C 119 = p119) (hq : ∀ M', q (.bl true) M') {M : Mem} {a : Addr} {n s m p : Nat} (hn : n ≤ 500) (hg : HdN s m p) (hr : Rows M a n) (x0 x1 x2 x4 x5 x6 x7 x12 x13 x14 x15 x16 : Option D) :
    dSs C (t118.body.drop 14) (N0 q) [x0, x1, x2, some (.ob a), x4, x5, x6, x7, some (gH s m p), some pingD, some roomD, some dataD, x12, x13, x14, x15, x16] M X := by
  show dSs C (_ :: _ :: _ :: _ :: t118.body.drop 18) _ _ _ _
  have tg : ∀ M', dty M' (gH s m p) = true := fun M' => dty_gd M' s m p
  have tb : ∀ M', dty M' (bH s m p) = true := fun M' => dty_bd M' s m p
  have eg : ∀ fs, faultD (.tup [gH s m p, .tup fs]) = fGo false 0 [] fs := fun fs => fault_of (gd_ok hg)
  have eb : ∀ fs, faultD (.tup [bH s m p, .tup fs]) = fGo true 0 [] fs := fun fs => fault_of (bd_ok hg)
  refine asg_p (d := bH s m p) rfl rfl ?_
  refine cat_rows (a := a) (n := n) (ds := [.tup [.tup [gH s m p, .tup [pingD, pingD]], .tup [.str wOrder, nD 1]], .tup [.tup [gH s m p, .tup [dataD, roomD]], .tup [.str wOrder, nD 1]], .tup [.tup [gH s m p, .tup [roomD, roomD]], .tup [.str wOrder, nD 1]]]) rfl hr (by show n + 3 ≤ 1000; omega) rfl ?_ fun a1 M1 ex1 _ _ hr1 => ?_
  · intro x hx
    simp only [List.mem_cons, List.not_mem_nil, or_false] at hx
    rcases hx with rfl | rfl | rfl
    · exact ⟨_, _, rfl, dty2 (tg _) rfl, (eg _).trans rfl, due_order 1 (by decide)⟩
    · exact ⟨_, _, rfl, dty2 (tg _) rfl, (eg _).trans rfl, due_order 1 (by decide)⟩
    · exact ⟨_, _, rfl, dty2 (tg _) rfl, (eg _).trans rfl, due_order 1 (by decide)⟩
  refine cat_rows (a := a1) (n := n + 3) (ds := [.tup [.tup [gH s m p, .tup [pingD, dataD]], .tup [.str wOrder, nD 1]], .tup [.tup [gH s m p, .tup [roomD, .tup [.str wAck, .tup [.tup [.int 0, .int 1]], .int 0]]], .tup [.str wOrder, nD 1]]]) rfl hr1 (by show n + 3 + 2 ≤ 1000; omega) rfl ?_ fun a2 M2 ex2 _ _ hr2 => ?_
  · intro x hx
    simp only [List.mem_cons, List.not_mem_nil, or_false] at hx
    rcases hx with rfl | rfl
    · exact ⟨_, _, rfl, dty2 (tg _) rfl, (eg _).trans rfl, due_order 1 (by decide)⟩
    · exact ⟨_, _, rfl, dty2 (tg _) rfl, (eg _).trans rfl, due_order 1 (by decide)⟩
  refine cat_rows (a := a2) (n := n + 5) (ds := [.tup [.tup [bH s m p, .tup [roomD, dataD]], .tup [.str wOrder, nD 1]], .tup [.tup [bH s m p, .tup [roomD, pingD]], .non], .tup [.tup [gH s m p, .tup [roomD, dataD, dataD, pingD]], .non]]) rfl hr2 (by show n + 5 + 3 ≤ 1000; omega) rfl ?_ fun a3 M3 ex3 _ _ hr3 => ?_
  · intro x hx
    simp only [List.mem_cons, List.not_mem_nil, or_false] at hx
    rcases hx with rfl | rfl | rfl
    · exact ⟨_, _, rfl, dty2 (tb _) rfl, (eb _).trans rfl, due_order 1 (by decide)⟩
    · exact ⟨_, _, rfl, dty2 (tb _) rfl, (eb _).trans rfl, .inl rfl⟩
    · exact ⟨_, _, rfl, dty2 (tg _) rfl, (eg _).trans rfl, .inl rfl⟩
  exact r18 h119 hq hr3 _ _ _ _ _ _ _ _ _ _ _ _ _ _ _ _
end
end K7
/-! K7: values right, part 2. -/
namespace K7
open PySem PySem.Spec L2
open PyProof.Rows hiding St

local macro_rules | `(tactic| walk_at "k7") => `(tactic| simp only [dSs, dS, dEs, dE, dI, dSeq, dAsg, dPar, dDrop, dRet, dIfS, dNext, dBrk, dNev, dVar, dC, dNil, dCons, dOp, dCB, dCall, dTup, dTest, dAnd, dOr, dNot, dIf, dChn, dNeg, fB, fAdd, fI, fI0, fEq, fNe, fIsN, fNotN, isNon, fIx, fLen, fMin, fMax, fInt, fTup, fLst,
  dIsi, dSet, setAll, dFor, diSeq, diR1, diR2, diR3, diEn, dLst, dApp, dExt, dRev, dEmp, empB, dSl, dPart, dNoP, dRse, dRank, fDg, isL, up_same, List.getElem?_cons_zero, List.getElem?_cons_succ, List.set_cons_zero, List.set_cons_succ, Bool.not_true, Bool.not_false, Tg.slots])
theorem piece_le {x : D} (h : pieceL x = false) : pieceB x = false := by
  cases e : pieceB x with
  | false => rfl
  | true =>
    exfalso
    unfold pieceB at e
    split at e
    · rename_i low os b
      have h' : (((os.all fun d => within d 0 255) && within (.int low) 0 1152921504606846976) && ((!os.isEmpty || b) && decide (low + (os.length : Int) ≤ 1152921504606846975))) = false := h
      rw [Bool.and_eq_true, Bool.and_eq_true] at e
      obtain ⟨⟨e1, e2⟩, e3⟩ := e
      have e4 : (os.all fun d => within d 0 255) = true := e2
      rw [e4, e3] at h'
      have e5 : within (.int low) 0 1152921504606846976 = true := by
        unfold within at e1 ⊢
        simp only [Bool.and_eq_true, decide_eq_true_eq] at e1 ⊢
        omega
      rw [e5] at h'
      cases h'
    · cases e
theorem frame_data (x : D) : frameB (.tup [.str wData, .int 15, x]) = pieceB x := by
  show (if wData = wAck then ackB [.str wData, .int 15, x] else if wData = wPing then ([D.int 15, x] : List D).isEmpty else if wData = wRoom then roomB [.str wData, .int 15, x] else if wData = wData then (true && pieceB x) else false) = _
  rw [if_neg (by decide), if_neg (by decide), if_neg (by decide), if_pos rfl, Bool.true_and]
theorem fault_frame {s m p : Nat} (hg : HdN s m p) {x : D} (hx : frameB x = false) : faultD (.tup [gH s m p, .tup [roomD, x, .non]]) = .tup [.str wFrame, nD 1] := by
  rw [fault_of (gd_ok hg)]
  show (if frameB roomD = true then (if nextF (toF roomD) [] false = true then (if frameB x = true then _ else D.tup [.str wFrame, nD (0 + 1)]) else _) else _) = _
  rw [if_pos (by rfl), if_pos (by rfl), hx, if_neg Bool.false_ne_true]
section
variable {C : Nat → DF} {q : D → Mem → Prop} {X : XD}
theorem r13 (h119 : C 119 = p119) (hq : ∀ M', q (.bl true) M') {M : Mem} {a b : Addr} {n k s m p : Nat} (hn : n + k ≤ 500) (hg : HdN s m p) (hr : Rows M a n) (hf : Frs M b k) (x0 x1 x2 x5 x6 x7 x12 x13 x14 x15 x16 : Option D) :
    dSs C (t118.body.drop 13) (N0 q) [x0, x1, x2, some (.ob a), some (.ob b), x5, x6, x7, some (gH s m p), some pingD, some roomD, some dataD, x12, x13, x14, x15, x16] M X := by
  show dSs C (_ :: t118.body.drop 14) _ _ _ _
  obtain ⟨ys, f1, f2, f3⟩ := hf
  refine cat_each (a := a) (b := b) (its := ys) (n := n) rfl rfl hr f1 (by omega) (fun x hx => ⟨.tup [.tup [gH s m p, .tup [roomD, x, .non]], .tup [.str wFrame, nD 1]], rfl, _, _, rfl, dty2 (dty_gd M s m p) (dty3 rfl (f2 x hx).1 rfl), fault_frame hg (f2 x hx).2, due_frame 1 (by decide)⟩) rfl fun a1 M1 ex1 _ _ hr1 => ?_
  exact r14 h119 hq (by omega) hg hr1 _ _ _ _ _ _ _ _ _ _ _ _
theorem r12 (h117 : C 117 = p117) (h119 : C 119 = p119) (hq : ∀ M', q (.bl true) M') {M : Mem} {a b c : Addr} {n s m p : Nat} {ps : List D} (hn : n ≤ 300) (hg : HdN s m p) (hr : Rows M a n) (hf : Frs M b 50) (hab : a ≠ b) (hc : M c = some (.lst ps)) (hps : ∀ x ∈ ps, dty M x = true) (hpl : ps.length ≤ 20) (x0 x1 x2 x6 x7 x12 x13 x14 x15 x16 : Option D) :
    dSs C (t118.body.drop 12) (N0 q) [x0, x1, x2, some (.ob a), some (.ob b), some (.ob c), x6, x7, some (gH s m p), some pingD, some roomD, some dataD, x12, x13, x14, x15, x16] M X := by
  show dSs C ((.for_ (.seq (.bin .add (.v 5) (.lst [(.tup [(.bin .sub (.bin .pow (.c (.int 2)) (.c (.int 60))) (.c (.int 2))), (.tup [(.c (.int 1))]), (.c (.bl true))]), (.tup [(.c (.int 0)), (.tup [(.c (.bl true))]), (.c (.bl true))]), (.tup [(.c (.int 0)), (.tup []), (.c (.bl true))])]))) (.nm 6)
      [.ite (.not (.call 117 [(.v 6)])) [.ex (.app (.v 4) (.tup [(.c (.str "data")), (.c (.int 15)), (.v 6)]))] []]) :: t118.body.drop 13) _ _ _ _
  have nxt := fun (M' : Mem) (k : Nat) (hk : k ≤ 100) (hr' : Rows M' a n) (hf' : Frs M' b k) (z6 : Option D) => r13 (C := C) (X := X) h119 hq (M := M') (a := a) (b := b) (n := n) (k := k) (by omega) hg hr' hf' x0 x1 x2 (some (.ob c)) z6 x7 x12 x13 x14 x15 x16
  generalize t118.body.drop 13 = T at nxt ⊢
  rw [show ∀ (s : S), dSs C (s :: T) = dSeq (dS C s) (dSs C T) from fun _ => rfl]
  generalize dSs C T = TT at nxt ⊢
  obtain ⟨ys, f1, f2, f3⟩ := hf
  show dSeq (dFor (diSeq (dOp fAdd (dE C (.v 5)) (dLst (dEs C _)))) (.nm 6) (dSs C _)) TT _ _ _ _
  unfold dSeq dFor diSeq dOp dLst
  refine pev_ok C (.v 5) (.ob c) _ rfl ?_
  refine pevs_ok C _ [.tup [.int 1152921504606846974, .tup [.int 1], .bl true], .tup [.int 0, .tup [.bl true], .bl true], .tup [.int 0, .tup [], .bl true]] _ rfl ?_
  refine ⟨by show 3 ≤ 100000; decide, fun p1 hp1 => ?_⟩
  have hcp1 : c ≠ p1 := fun e => by subst e; rw [hc] at hp1; cases hp1
  unfold fAdd
  dsimp only
  rw [up_ne hcp1, hc, up_same]
  refine ⟨by show ps.length + 3 ≤ 100000; omega, fun p2 hp2 => ?_⟩
  rw [up_same]
  generalize hits : ps ++ [D.tup [.int 1152921504606846974, .tup [.int 1], .bl true], .tup [.int 0, .tup [.bl true], .bl true], .tup [.int 0, .tup [], .bl true]] = its at hp2 ⊢
  have ex0 : Ex [] M (up (up M p1 (.lst [D.tup [.int 1152921504606846974, .tup [.int 1], .bl true], .tup [.int 0, .tup [.bl true], .bl true], .tup [.int 0, .tup [], .bl true]])) p2 (.lst its)) := (Ex.refl.new hp1).new hp2
  have hbp2 : b ≠ p2 := fun e => by
    subst e
    have : b ≠ p1 := fun e => by subst e; rw [f1] at hp1; cases hp1
    rw [up_ne this, f1] at hp2
    cases hp2
  have hitl : its.length ≤ 23 := by rw [← hits, List.length_append]; show _ + 3 ≤ 23; omega
  have hdt : ∀ x ∈ its, dty M x = true := by
    intro x hx
    rw [← hits] at hx
    rcases List.mem_append.1 hx with hx | hx
    · exact hps x hx
    · simp only [List.mem_cons, List.not_mem_nil, or_false] at hx
      rcases hx with rfl | rfl | rfl <;> rfl
  refine for_inv (fun rs dl M' => ∃ zs z6, (∀ x ∈ rs, dty M' x = true) ∧ Rows M' a n ∧ M' b = some (.lst zs) ∧ (∀ x ∈ zs, dty M' x = true ∧ frameB x = false) ∧ zs.length + rs.length ≤ 80 ∧ M' p2 = some (.lst its) ∧
    dl = [x0, x1, x2, some (.ob a), some (.ob b), some (.ob c), z6, x7, some (gH s m p), some pingD, some roomD, some dataD, x12, x13, x14, x15, x16]) ?_ ?_ _ _ _ ⟨ys, x6, fun x hx => dty_ex ex0 x (hdt x hx), hr.ex ex0, ex0.keep f1 (by simp), fun x hx => ⟨dty_ex ex0 x (f2 x hx).1, (f2 x hx).2⟩, by omega, up_same, rfl⟩
  · rintro d rr dl M' nx ⟨zs, z6, hrs, hr', hb', hzs, hlen, hi', rfl⟩ hnx
    rw [List.length_cons] at hlen
    refine ⟨hi', _, rfl, ?_⟩
    have hd := hrs d List.mem_cons_self
    simp only [dSs, dS, dE, dEs, dSeq, dIfS, dNot, dCall, dDrop, dApp, dTup, dCons, dNil, dVar, dC, dNext, h117, List.getElem?_cons_zero, List.getElem?_cons_succ, List.set_cons_zero, List.set_cons_succ]
    refine ⟨d, rfl, hd, fun M2 ex2 => ?_⟩
    have hb2 := ex2.keep hb' (by simp)
    have hi2 := ex2.keep hi' (by simp)
    cases hp : pieceL d with
    | true => exact hnx _ _ ⟨zs, _, fun x hx => dty_ex ex2 x (hrs x (List.mem_cons_of_mem _ hx)), hr'.ex ex2, hb2, fun x hx => ⟨dty_ex ex2 x (hzs x hx).1, (hzs x hx).2⟩, by omega, hi2, rfl⟩
    | false =>
      simp only [Bool.not_false, hb2, isL]
      refine ⟨trivial, by show 3 ≤ 100000; decide, by omega, ?_⟩
      have ty : Ty M2 (up M2 b (.lst (zs ++ [.tup [.str wData, .int 15, d]]))) := Ty.app hb2
      have ty2 : Ty M' (up M2 b (.lst (zs ++ [.tup [.str wData, .int 15, d]]))) := (Ty.ex ex2).trans ty
      obtain ⟨rw1, g1, g2, g3⟩ := hr'.ex ex2
      refine hnx _ _ ⟨zs ++ [.tup [.str wData, .int 15, d]], _, fun x hx => ty2 x (hrs x (List.mem_cons_of_mem _ hx)), ⟨rw1, (up_ne hab).trans g1, fun y hy => (g2 y hy).ty ty, g3⟩, up_same, fun x hx => ?_, by rw [List.length_append]; show _ + 1 + _ ≤ _; omega, (up_ne hbp2.symm).trans hi2, rfl⟩
      rcases List.mem_append.1 hx with hx | hx
      · exact ⟨ty2 x (hzs x hx).1, (hzs x hx).2⟩
      · rw [List.mem_singleton] at hx
        subst hx
        exact ⟨dty3 rfl rfl (ty2 d hd), (frame_data d).trans (piece_le hp)⟩
  · rintro dl M' ⟨zs, z6, hrs, hr', hb', hzs, hlen, hi', rfl⟩
    refine ⟨hi', ?_⟩
    exact nxt M' 80 (by decide) hr' ⟨zs, hb', hzs, by omega⟩ _
end
end K7
/-! K7: values right, part 3. -/
namespace K7
open PySem PySem.Spec L2
open PyProof.Rows hiding St

local macro_rules | `(tactic| walk_at "k7") => `(tactic| simp only [dSs, dS, dEs, dE, dI, dSeq, dAsg, dPar, dDrop, dRet, dIfS, dNext, dBrk, dNev, dVar, dC, dNil, dCons, dOp, dCB, dCall, dTup, dTest, dAnd, dOr, dNot, dIf, dChn, dNeg, fB, fAdd, fI, fI0, fEq, fNe, fIsN, fNotN, isNon, fIx, fLen, fMin, fMax, fInt, fTup, fLst,
  dIsi, dSet, setAll, dFor, diSeq, diR1, diR2, diR3, diEn, dLst, dApp, dExt, dRev, dEmp, empB, dSl, dPart, dNoP, dRse, dRank, fDg, isL, up_same, List.getElem?_cons_zero, List.getElem?_cons_succ, List.set_cons_zero, List.set_cons_succ, Bool.not_true, Bool.not_false, Tg.slots])
theorem ack_many {r : List D} (h : r.length = 33) : frameB (.tup [.str wAck, .tup r, .int 0]) = false := by
  show (if wAck = wAck then ((rangesB (.tup r) && within (.int 0) 0 NM) && (decide (1 ≤ (r.length : Int)) && decide ((r.length : Int) ≤ 32))) else if wAck = wPing then ([D.tup r, .int 0] : List D).isEmpty else if wAck = wRoom then roomB [.str wAck, .tup r, .int 0] else if wAck = wData then dataB [.str wAck, .tup r, .int 0] else false) = false
  rw [if_pos rfl, h]
  rw [show decide (((33 : Nat) : Int) ≤ 32) = false from rfl, Bool.and_false, Bool.and_false]
/-- the odd thing, apart from any memory -/
structure Odd1 (M : Mem) (d : D) : Prop where
  ty : dty M d = true
  no : ∀ hi : Int, hi ≤ 1152921504606846976 → within d 0 hi = false
section
variable {C : Nat → DF} {q : D → Mem → Prop} {X : XD}
theorem r10 (h117 : C 117 = p117) (h119 : C 119 = p119) (hq : ∀ M', q (.bl true) M') {M : Mem} {a b : Addr} {n s m p : Nat} {odd : D} (hn : n ≤ 300) (hg : HdN s m p) (hr : Rows M a n) (hf : Frs M b 20) (hab : a ≠ b) (ho : Odd1 M odd) (x0 x2 x5 x6 x7 x12 x13 x14 x15 x16 : Option D) :
    dSs C (t118.body.drop 10) (N0 q) [x0, some odd, x2, some (.ob a), some (.ob b), x5, x6, x7, some (gH s m p), some pingD, some roomD, some dataD, x12, x13, x14, x15, x16] M X := by
  show dSs C ((.ex (.app (.v 4) (.tup [(.c (.str "ack")), (.tof (.lc (.r1 (.c (.int 33))) (.nm 16) (.tup [(.bin .mul (.c (.int 2)) (.v 16)), (.bin .add (.bin .mul (.c (.int 2)) (.v 16)) (.c (.int 1)))]))), (.c (.int 0))]))) :: _ :: t118.body.drop 12) _ _ _ _
  have nxt := fun (M' : Mem) (c : Addr) (ps : List D) (hr' : Rows M' a n) (hf' : Frs M' b 50) (hc : M' c = some (.lst ps)) (hps : ∀ x ∈ ps, dty M' x = true) (hpl : ps.length ≤ 20) => r12 (C := C) (X := X) h117 h119 hq (M := M') (a := a) (b := b) (c := c) (ps := ps) hn hg hr' hf' hab hc hps hpl x0 (some odd) x2 x6 x7 x12 x13 x14 x15 x16
  generalize t118.body.drop 12 = T at nxt ⊢
  obtain ⟨ys, f1, f2, f3⟩ := hf
  rw [show ∀ (s : S) (R : List S), dSs C (s :: R) = dSeq (dS C s) (dSs C R) from fun _ _ => rfl]
  simp only [dS, dE, dEs, dI]
  unfold dSeq dDrop dApp
  refine pev_ok C (.v 4) (.ob b) _ rfl ?_
  refine ⟨by rw [f1]; rfl, ?_⟩
  simp only [dTup, dCons, dNil, dC, dCB, dLc, diR1]
  refine ⟨by decide, by decide, ?_⟩
  refine lc_inv (fun its acc M' => M' = M ∧ ∃ k j, k + j = 33 ∧ its = rgI ((k : Nat) : Int) 1 j ∧ acc.length = k ∧ ∀ x ∈ acc, dty M x = true) ?_ ?_ _ _ _ ⟨rfl, 0, 33, rfl, rfl, rfl, fun x hx => by cases hx⟩
  · rintro d r acc M' kk ⟨rfl, k, j, hk, ei, hl, ha⟩ hkk
    obtain ⟨j', rfl, rfl, rfl⟩ := rng_hd ei
    refine ⟨trivial, _, rfl, ?_⟩
    simp only [dwipe, Tg.slots, List.foldl_cons, List.foldl_nil, List.set_cons_zero, List.set_cons_succ, dOp, dVar, dC, fB, fMul, fAdd, List.getElem?_cons_zero, List.getElem?_cons_succ]
    refine ⟨.inl (by decide), .inl (by decide), by show 2 ≤ 100000; decide, by omega, hkk _ _ ⟨rfl, k + 1, j', by omega, rfl, by rw [List.length_append, hl]; rfl, fun x hx => ?_⟩⟩
    rcases List.mem_append.1 hx with hx | hx
    · exact ha x hx
    · rw [List.mem_singleton] at hx
      subst hx
      rfl
  · rintro acc M' ⟨rfl, k, j, hk, ei, hl, ha⟩
    have hj := rng_nil ei
    refine ⟨trivial, fun p1 hp1 => ?_⟩
    have hbp : b ≠ p1 := fun e => by subst e; rw [f1] at hp1; cases hp1
    simp only [fTup, up_same]
    refine ⟨by show 3 ≤ 100000; decide, ?_⟩
    rw [up_ne hbp, f1]
    refine ⟨by omega, ?_⟩
    have ex1 : Ex [] M' (up M' p1 (.lst acc)) := Ex.refl.new hp1
    have f1' : (up M' p1 (.lst acc)) b = some (.lst ys) := (up_ne hbp).trans f1
    generalize up M' p1 (.lst acc) = M1 at ex1 f1' ⊢
    have tyb : Ty M1 (up M1 b (.lst (ys ++ [.tup [.str (Str.ofString "ack"), .tup acc, .int 0]]))) := Ty.app f1'
    have ty2 := (Ty.ex ex1).trans tyb
    obtain ⟨rw1, g1, g2, g3⟩ := hr.ex ex1
    have hr2 : Rows (up M1 b (.lst (ys ++ [.tup [.str (Str.ofString "ack"), .tup acc, .int 0]]))) a n := ⟨rw1, (up_ne hab).trans g1, fun y hy => (g2 y hy).ty tyb, g3⟩
    have hf2 : Frs (up M1 b (.lst (ys ++ [.tup [.str (Str.ofString "ack"), .tup acc, .int 0]]))) b 21 := by
      refine ⟨_, up_same, fun x hx => ?_, by rw [List.length_append]; show _ + 1 ≤ _; omega⟩
      rcases List.mem_append.1 hx with hx | hx
      · exact ⟨ty2 x (f2 x hx).1, (f2 x hx).2⟩
      · rw [List.mem_singleton] at hx
        subst hx
        exact ⟨dty3 rfl (dty_tupI (by omega) fun y hy => ty2 y (ha y hy)) rfl, ack_many (by omega)⟩
    have ho2 := ty2 odd ho.ty
    generalize up M1 b (.lst (ys ++ [.tup [.str (Str.ofString "ack"), .tup acc, .int 0]])) = M2 at hr2 hf2 ho2 ⊢
    -- the pieces
    show dSs C ((.asg (.lst [(.tup [(.c (.int 0)), (.tup []), (.c (.bl false))]), (.tup [(.bin .sub (.bin .pow (.c (.int 2)) (.c (.int 60))) (.c (.int 1))), (.tup [(.c (.int 1))]), (.c (.bl true))]), (.tup [(.c (.int 0)), (.lst [(.c (.int 1))]), (.c (.bl false))]), (.tup [(.c (.int 0)), (.tup [(.c (.int 256))]), (.c (.bl false))]), (.tup [(.c (.int 0)), (.tup [(.c (.int 1))]), (.c (.int 1))]), (.tup [(.v 1), (.tup [(.c (.int 1))]), (.c (.bl false))])]) (.nm 5)) :: T) _ _ _ _
    refine asg_lst ?_
    refine evs_cons (d := .tup [.int 0, .tup [], .bl false]) rfl ?_
    refine evs_cons (d := .tup [.int 1152921504606846975, .tup [.int 1], .bl true]) rfl ?_
    refine evs_tup ?_
    refine evs_cons (d := .int 0) rfl ?_
    refine evs_lst (ds := [.int 1]) rfl (by decide) fun p2 hp2 => ?_
    refine evs_cons (d := .bl false) rfl ?_
    refine evs_nil ⟨by show 3 ≤ 100000; decide, ?_⟩
    refine evs_cons (d := .tup [.int 0, .tup [.int 256], .bl false]) rfl ?_
    refine evs_cons (d := .tup [.int 0, .tup [.int 1], .int 1]) rfl ?_
    refine evs_cons (d := .tup [odd, .tup [.int 1], .bl false]) rfl ?_
    refine evs_nil ⟨by show 6 ≤ 100000; decide, fun p3 hp3 => ?_⟩
    have ex3 : Ex [] M2 (up M2 p2 (.lst [D.int 1])) := Ex.refl.new hp2
    have t2 : dty (up M2 p2 (.lst [.int 1])) (.ob p2) = true := by
      show tyB _ _ = true
      unfold tyB tyOf
      dsimp only
      rw [up_same]
      rfl
    have ex4 : ∀ o, Ex [] M2 (up (up M2 p2 (.lst [D.int 1])) p3 o) := fun o => ex3.new hp3
    refine nxt _ p3 _ (hr2.ex (ex4 _)) ((hf2.ex (ex4 _)).imp fun xs h => ⟨h.1, h.2.1, by omega⟩) up_same ?_ (by show 6 ≤ 20; decide)
    intro x hx
    simp only [List.mem_cons, List.not_mem_nil, or_false] at hx
    rcases hx with rfl | rfl | rfl | rfl | rfl | rfl
    · rfl
    · rfl
    · exact dty3 rfl (dty_ex (Ex.refl.new hp3) _ t2) rfl
    · rfl
    · rfl
    · exact dty3 (dty_ex (ex4 _) _ ho2) rfl rfl
theorem r8 (h117 : C 117 = p117) (h119 : C 119 = p119) (hq : ∀ M', q (.bl true) M') {M : Mem} {a : Addr} {n s m p : Nat} {odd : D} (hn : n ≤ 300) (hg : HdN s m p) (hr : Rows M a n) (ho : Odd1 M odd) (x0 x2 x4 x5 x6 x7 x12 x13 x14 x15 x16 : Option D) :
    dSs C (t118.body.drop 8) (N0 q) [x0, some odd, x2, some (.ob a), x4, x5, x6, x7, some (gH s m p), some pingD, some roomD, some dataD, x12, x13, x14, x15, x16] M X := by
  show dSs C ((.asg (.lst [(.tup [(.c (.str "pong"))]), (.tup []), (.lst [(.c (.str "ping"))]), (.tup [(.c (.str "ping")), (.c (.int 0))]), (.tup [(.c (.str "room")), (.c (.int 16)), (.c (.int 0)), (.c (.int 0))]), (.tup [(.c (.str "room")), (.c (.int 0)), (.v 1), (.c (.int 0))]), (.tup [(.c (.str "room")), (.c (.int 0)), (.c (.int 0))]), (.c .non), (.tup [(.c (.str "data")), (.c (.int 0))])]) (.nm 4)) ::
    (.asg (.bin .add (.v 4) (.lst [(.tup [(.c (.str "ack")), (.tup []), (.c (.int 0))]), (.tup [(.c (.str "ack")), (.tup [(.tup [(.c (.int 3)), (.c (.int 3))])]), (.c (.int 0))]), (.tup [(.c (.str "ack")), (.tup [(.tup [(.c (.int 0)), (.c (.int 1))]), (.tup [(.c (.int 1)), (.c (.int 2))])]), (.c (.int 0))]), (.tup [(.c (.str "ack")), (.tup [(.tup [(.c (.int 0)), (.c (.int 1))])])]), (.tup [(.c (.str "ack")), (.tup [(.tup [(.c (.int 0)), (.c (.int 1))])]), (.v 1)])])) (.nm 4)) :: t118.body.drop 10) _ _ _ _
  have nxt := fun (M' : Mem) (b : Addr) (hab : a ≠ b) (hr' : Rows M' a n) (hf' : Frs M' b 20) (ho' : Odd1 M' odd) => r10 (C := C) (X := X) h117 h119 hq (M := M') (a := a) (b := b) hn hg hr' hf' hab ho' x0 x2 x5 x6 x7 x12 x13 x14 x15 x16
  generalize t118.body.drop 10 = T at nxt ⊢
  have hodd := ho.no NM (by decide)
  refine asg_lst ?_
  refine evs_cons (d := .tup [.str (Str.ofString "pong")]) rfl ?_
  refine evs_cons (d := .tup []) rfl ?_
  refine evs_lst (ds := [.str (Str.ofString "ping")]) rfl (by decide) fun p1 hp1 => ?_
  refine evs_cons (d := .tup [.str wPing, .int 0]) rfl ?_
  refine evs_cons (d := .tup [.str wRoom, .int 16, .int 0, .int 0]) rfl ?_
  refine evs_cons (d := .tup [.str wRoom, .int 0, odd, .int 0]) rfl ?_
  refine evs_cons (d := .tup [.str wRoom, .int 0, .int 0]) rfl ?_
  refine evs_cons (d := .non) rfl ?_
  refine evs_cons (d := .tup [.str wData, .int 0]) rfl ?_
  refine evs_nil ⟨by show 9 ≤ 100000; decide, fun p2 hp2 => ?_⟩
  have ex2 : ∀ o, Ex [] M (up (up M p1 (.lst [D.str (Str.ofString "ping")])) p2 o) := fun o => (Ex.refl.new hp1).new hp2
  have t1 : dty (up M p1 (.lst [D.str (Str.ofString "ping")])) (.ob p1) = true := by
    show tyB _ _ = true
    unfold tyB tyOf
    dsimp only
    rw [up_same]
    rfl
  have hf : ∀ M', Ex [] M M' → dty M' (.ob p1) = true → ∀ x ∈ ([.tup [.str (Str.ofString "pong")], .tup [], .ob p1, .tup [.str wPing, .int 0], .tup [.str wRoom, .int 16, .int 0, .int 0], .tup [.str wRoom, .int 0, odd, .int 0], .tup [.str wRoom, .int 0, .int 0], .non, .tup [.str wData, .int 0]] : List D), dty M' x = true ∧ frameB x = false := by
    intro M' exm hp x hx
    simp only [List.mem_cons, List.not_mem_nil, or_false] at hx
    rcases hx with rfl | rfl | rfl | rfl | rfl | rfl | rfl | rfl | rfl
    · exact ⟨rfl, rfl⟩
    · exact ⟨rfl, rfl⟩
    · exact ⟨hp, rfl⟩
    · exact ⟨rfl, rfl⟩
    · exact ⟨rfl, rfl⟩
    · refine ⟨dty4 rfl rfl (dty_ex exm _ ho.ty) rfl, ?_⟩
      show (true && (within odd 0 NM && true)) = false
      rw [hodd]
      rfl
    · exact ⟨rfl, rfl⟩
    · exact ⟨rfl, rfl⟩
    · exact ⟨rfl, rfl⟩
  refine cat_l (a := p2) (xs := [.tup [.str (Str.ofString "pong")], .tup [], .ob p1, .tup [.str wPing, .int 0], .tup [.str wRoom, .int 16, .int 0, .int 0], .tup [.str wRoom, .int 0, odd, .int 0], .tup [.str wRoom, .int 0, .int 0], .non, .tup [.str wData, .int 0]]) (ds := [.tup [.str wAck, .tup [], .int 0], .tup [.str wAck, .tup [.tup [.int 3, .int 3]], .int 0], .tup [.str wAck, .tup [.tup [.int 0, .int 1], .tup [.int 1, .int 2]], .int 0], .tup [.str wAck, .tup [.tup [.int 0, .int 1]]], .tup [.str wAck, .tup [.tup [.int 0, .int 1]], odd]]) rfl up_same rfl (by show 9 + 5 ≤ 100000; decide) fun p3 p4 hp3 hp4 => ?_
  generalize hM2 : up (up M p1 (.lst [D.str (Str.ofString "ping")])) p2 _ = M2 at hp3 hp4 ⊢
  have exm2 : Ex [] M M2 := by subst hM2; exact ex2 _
  have t2 : dty M2 (.ob p1) = true := by subst hM2; exact dty_ex (Ex.refl.new hp2) _ t1
  generalize hds : ([.tup [.str wAck, .tup [], .int 0], .tup [.str wAck, .tup [.tup [.int 3, .int 3]], .int 0], .tup [.str wAck, .tup [.tup [.int 0, .int 1], .tup [.int 1, .int 2]], .int 0], .tup [.str wAck, .tup [.tup [.int 0, .int 1]]], .tup [.str wAck, .tup [.tup [.int 0, .int 1]], odd]] : List D) = ds at hp4 ⊢
  have exm4 : ∀ o, Ex [] M2 (up (up M2 p3 (.lst ds)) p4 o) := fun o => (Ex.refl.new hp3).new hp4
  obtain ⟨rws, g1, g2, g3⟩ := hr
  have h34 : p4 ≠ p3 := fun e => by subst e; rw [up_same] at hp4; cases hp4
  have hap4 : a ≠ p4 := fun e => by
    subst e
    rw [up_ne h34, exm2.keep g1 (by simp)] at hp4
    cases hp4
  refine nxt _ p4 hap4 (Rows.ex ⟨rws, g1, g2, g3⟩ (exm2.trans (exm4 _))) ⟨_, up_same, ?_, by rw [List.length_append, ← hds]; show 9 + 5 ≤ 20; decide⟩ ⟨dty_ex (exm2.trans (exm4 _)) _ ho.ty, ho.no⟩
  intro x hx
  rcases List.mem_append.1 hx with hx | hx
  · exact hf _ (exm2.trans (exm4 _)) (dty_ex (exm4 _) _ t2) x hx
  · rw [← hds] at hx
    simp only [List.mem_cons, List.not_mem_nil, or_false] at hx
    rcases hx with rfl | rfl | rfl | rfl | rfl
    · exact ⟨rfl, rfl⟩
    · exact ⟨rfl, rfl⟩
    · exact ⟨rfl, rfl⟩
    · exact ⟨rfl, rfl⟩
    · refine ⟨dty3 rfl rfl (dty_ex (exm2.trans (exm4 _)) _ ho.ty), ?_⟩
      show ((true && within odd 0 NM) && true) = false
      rw [hodd]
      rfl
end
end K7
/-! K7: values right, part 4. -/
namespace K7
open PySem PySem.Spec L2
open PyProof.Rows hiding St

local macro_rules | `(tactic| walk_at "k7") => `(tactic| simp only [dSs, dS, dEs, dE, dI, dSeq, dAsg, dPar, dDrop, dRet, dIfS, dNext, dBrk, dNev, dVar, dC, dNil, dCons, dOp, dCB, dCall, dTup, dTest, dAnd, dOr, dNot, dIf, dChn, dNeg, fB, fAdd, fI, fI0, fEq, fNe, fIsN, fNotN, isNon, fIx, fLen, fMin, fMax, fInt, fTup, fLst,
  dIsi, dSet, setAll, dFor, diSeq, diR1, diR2, diR3, diEn, dLst, dApp, dExt, dRev, dEmp, empB, dSl, dPart, dNoP, dRse, dRank, fDg, isL, up_same, List.getElem?_cons_zero, List.getElem?_cons_succ, List.set_cons_zero, List.set_cons_succ, Bool.not_true, Bool.not_false, Tg.slots])
theorem fault_head {x : D} (h : headerB x = false) : faultD (.tup [x, .tup [pingD]]) = .tup [.str wHeader, .non] := by
  show (if headerB x = true then _ else D.tup [.str wHeader, .non]) = _
  rw [h, if_neg Bool.false_ne_true]
theorem fault_nt {h b : D} (e : isTupD b = false) : faultD (.tup [h, b]) = .tup [.str wForm, .non] := by
  cases b with
  | tup _ => cases e
  | _ => rfl
def formD : D := .tup [.str wForm, .non]
structure OddF (M : Mem) (d : D) : Prop where
  ty : dty M d = true
  no : ∀ hi : Int, hi ≤ 1152921504606846976 → within d 0 hi = false
  tp : d = .tup [.int 0] ∨ isTupD d = false
  ne : ∀ M', Ex [] M M' → ∀ q : D → Mem → Prop, (∀ b : Bool, (b = true ↔ isTupD d = false) → q (.bl b) M') → fNeU d (.tup [.int 0]) M' q
theorem dty_ob {M : Mem} {p : Addr} {xs : List D} (h : M p = some (.lst xs)) : dty M (.ob p) = true := by
  show tyB _ _ = true
  unfold tyB tyOf
  dsimp only
  rw [h]
  rfl
section
variable {C : Nat → DF} {q : D → Mem → Prop} {X : XD}
theorem r2 (h117 : C 117 = p117) (h119 : C 119 = p119) (hq : ∀ M', q (.bl true) M') {M : Mem} {s m p : Nat} {odd : D} (hg : HdN s m p) (ho : OddF M odd) (x0 x2 x3 x4 x5 x6 x7 x10 x11 x12 x13 x14 x15 x16 : Option D) :
    dSs C (t118.body.drop 2) (N0 q) [x0, some odd, x2, x3, x4, x5, x6, x7, some (gH s m p), some pingD, x10, x11, x12, x13, x14, x15, x16] M X := by
  show dSs C (_ :: _ :: _ :: _ :: _ :: _ :: t118.body.drop 8) _ _ _ _
  have nxt := fun (M' : Mem) (a : Addr) (n : Nat) (z2 : Option D) (hn : n ≤ 300) (hr : Rows M' a n) (ho' : Odd1 M' odd) => r8 (C := C) (X := X) h117 h119 hq (M := M') (a := a) (n := n) hn hg hr ho' x0 z2 x4 x5 x6 x7 x12 x13 x14 x15 x16
  generalize t118.body.drop 8 = T at nxt ⊢
  have o1 := ho.no 1 (by decide)
  have oN := ho.no NM (by decide)
  refine asg_p (d := .tup [roomD, dataD]) rfl rfl ?_
  -- the heads
  refine asg_lst ?_
  refine evs_cons (d := .tup [nD s, nD m, nD p]) rfl ?_
  refine evs_cons (d := .tup [nD s, nD m, nD p, .int 5, .int 0]) rfl ?_
  refine evs_cons (d := .tup [.int 2, nD m, nD p, .int 5]) rfl ?_
  refine evs_cons (d := .tup [odd, nD m, nD p, .int 5]) rfl ?_
  refine evs_cons (d := .tup [nD s, odd, nD p, .int 5]) rfl ?_
  refine evs_lof (ds := [nD s, nD m, nD p, .int 5]) rfl fun p1 hp1 => ?_
  refine evs_cons (d := .non) rfl ?_
  refine evs_cons (d := .str (Str.ofString "four")) rfl ?_
  refine evs_nil ⟨by show 8 ≤ 100000; decide, fun p2 hp2 => ?_⟩
  refine app_p (a := p2) (d := .tup [nD s, nD m, odd, .non]) rfl up_same rfl (by show 8 < 100000; decide) ?_
  rw [up_up]
  have ex1 : Ex [] M (up M p1 (.lst [nD s, nD m, nD p, .int 5])) := Ex.refl.new hp1
  have ex2 : ∀ o, Ex [] M (up (up M p1 (.lst [nD s, nD m, nD p, .int 5])) p2 o) := fun o => ex1.new hp2
  have t1 : dty (up M p1 (.lst [nD s, nD m, nD p, .int 5])) (.ob p1) = true := dty_ob up_same
  have hheads : ∃ M2 hs, Ex [] M M2 ∧ M2 p2 = some (.lst hs) ∧ hs.length ≤ 20 ∧ (∀ x ∈ hs, dty M2 x = true ∧ headerB x = false) ∧ M2 = up (up M p1 (.lst [nD s, nD m, nD p, .int 5])) p2 (.lst ([.tup [nD s, nD m, nD p], .tup [nD s, nD m, nD p, .int 5, .int 0], .tup [.int 2, nD m, nD p, .int 5], .tup [odd, nD m, nD p, .int 5], .tup [nD s, odd, nD p, .int 5], .ob p1, .non, .str (Str.ofString "four")] ++ [.tup [nD s, nD m, odd, .non]])) := by
    refine ⟨_, _, ex2 _, up_same, by show 9 ≤ 20; decide, ?_, rfl⟩
    intro x hx
    have tt : ∀ d, dty M d = true → dty _ d = true := dty_ex (ex2 (.lst ([.tup [nD s, nD m, nD p], .tup [nD s, nD m, nD p, .int 5, .int 0], .tup [.int 2, nD m, nD p, .int 5], .tup [odd, nD m, nD p, .int 5], .tup [nD s, odd, nD p, .int 5], .ob p1, .non, .str (Str.ofString "four")] ++ [.tup [nD s, nD m, odd, .non]])))
    simp only [List.mem_append, List.mem_cons, List.not_mem_nil, or_false] at hx
    rcases hx with (rfl | rfl | rfl | rfl | rfl | rfl | rfl | rfl) | rfl
    · exact ⟨rfl, rfl⟩
    · exact ⟨rfl, rfl⟩
    · exact ⟨rfl, rfl⟩
    · refine ⟨tt _ (dty4 ho.ty rfl rfl rfl), ?_⟩
      show (within odd 0 1 && _) = false
      rw [o1]
      rfl
    · refine ⟨tt _ (dty4 rfl ho.ty rfl rfl), ?_⟩
      show (within (nD s) 0 1 && (within odd 0 NM && _)) = false
      rw [oN, Bool.false_and, Bool.and_false]
    · exact ⟨dty_ex (Ex.refl.new hp2) _ t1, rfl⟩
    · exact ⟨rfl, rfl⟩
    · exact ⟨rfl, rfl⟩
    · refine ⟨tt _ (dty4 rfl rfl ho.ty rfl), ?_⟩
      show (within (nD s) 0 1 && (within (nD m) 0 NM && (within odd 0 NM && _))) = false
      rw [oN, Bool.false_and, Bool.and_false, Bool.and_false]
  obtain ⟨M2, hs, exm2, hh1, hh2, hh3, eM2⟩ := hheads
  rw [← eM2]
  clear eM2 ex2
  -- the first rows
  refine asg_lst ?_
  refine evs_cons (d := .tup [.non, formD]) rfl ?_
  refine evs_cons (d := .tup [.tup [gH s m p], formD]) rfl ?_
  refine evs_tup ?_
  refine evs_lst (ds := [gH s m p, .tup []]) rfl (by show 2 ≤ 100000; decide) fun p3 hp3 => ?_
  refine evs_cons (d := formD) rfl ?_
  refine evs_nil ⟨by show 2 ≤ 100000; decide, ?_⟩
  refine evs_tup ?_
  refine evs_tup ?_
  refine evs_cons (d := gH s m p) rfl ?_
  refine evs_lst (ds := [pingD]) rfl (by show 1 ≤ 100000; decide) fun p4 hp4 => ?_
  refine evs_nil ⟨by show 2 ≤ 100000; decide, ?_⟩
  refine evs_cons (d := formD) rfl ?_
  refine evs_nil ⟨by show 2 ≤ 100000; decide, ?_⟩
  refine evs_nil ⟨by show 4 ≤ 100000; decide, fun p5 hp5 => ?_⟩
  have e3 : Ex [] M2 (up M2 p3 (.lst [gH s m p, .tup []])) := Ex.refl.new hp3
  have e4 : Ex [] (up M2 p3 (.lst [gH s m p, .tup []])) (up (up M2 p3 (.lst [gH s m p, .tup []])) p4 (.lst [pingD])) := Ex.refl.new hp4
  have e5 : ∀ o, Ex [] (up (up M2 p3 (.lst [gH s m p, .tup []])) p4 (.lst [pingD])) (up (up (up M2 p3 (.lst [gH s m p, .tup []])) p4 (.lst [pingD])) p5 o) := fun o => Ex.refl.new hp5
  have t3 : dty (up M2 p3 (.lst [gH s m p, .tup []])) (.ob p3) = true := dty_ob up_same
  have t4 : dty (up (up M2 p3 (.lst [gH s m p, .tup []])) p4 (.lst [pingD])) (.ob p4) = true := dty_ob up_same
  have hrows : ∃ M3, Ex [] M2 M3 ∧ Rows M3 p5 4 ∧ M3 = up (up (up M2 p3 (.lst [gH s m p, .tup []])) p4 (.lst [pingD])) p5 (.lst [.tup [.non, formD], .tup [.tup [gH s m p], formD], .tup [.ob p3, formD], .tup [.tup [gH s m p, .ob p4], formD]]) := by
    refine ⟨_, (e3.trans e4).trans (e5 _), ⟨_, up_same, ?_, by show 4 ≤ 4; decide⟩, rfl⟩
    intro x hx
    simp only [List.mem_cons, List.not_mem_nil, or_false] at hx
    rcases hx with rfl | rfl | rfl | rfl
    · exact ⟨_, _, rfl, rfl, rfl, due_form⟩
    · exact ⟨_, _, rfl, dty1 (dty_gd _ s m p), rfl, due_form⟩
    · exact ⟨_, _, rfl, dty_ex (e4.trans (e5 _)) _ t3, rfl, due_form⟩
    · exact ⟨_, _, rfl, dty2 (dty_gd _ s m p) (dty_ex (e5 _) _ t4), rfl, due_form⟩
  obtain ⟨M3, exm3, hr3, eM3⟩ := hrows
  have goal3 : dSs C ((.asg (.bin .add (.v 3) (.lst [(.tup [(.tup [(.v 8), (.tup []), (.tup [])]), (.tup [(.c (.str "form")), (.c .non)])]), (.tup [(.tup [(.v 8), (.v 1)]), (.ife (.bin .ne (.v 1) (.tup [(.c (.int 0))])) (.tup [(.c (.str "form")), (.c .non)]) (.tup [(.c (.str "frame")), (.c (.int 0))]))])])) (.nm 3)) ::
      (.asg (.bin .add (.v 3) (.lc (.seq (.v 2)) (.nm 12) (.tup [(.tup [(.v 12), (.tup [(.v 9)])]), (.tup [(.c (.str "header")), (.c .non)])]))) (.nm 3)) :: T) (N0 q)
      [x0, some odd, some (.ob p2), some (.ob p5), x4, x5, x6, x7, some (gH s m p), some pingD, some roomD, some dataD, x12, x13, x14, x15, x16] M3 X := by
    clear eM3
    have exb : Ex [] M M3 := exm2.trans exm3
    obtain ⟨rws, g1, g2, g3⟩ := hr3
    show dSeq (dAsg (dOp fAdd (dE C (.v 3)) (dLst (dEs C _))) (.nm 3)) (dSs C _) _ _ _ _
    unfold dSeq dAsg dOp dLst
    refine pev_ok C (.v 3) (.ob p5) _ rfl ?_
    refine evs_cons (d := .tup [.tup [gH s m p, .tup [], .tup []], formD]) rfl ?_
    refine evs_tup ?_
    refine evs_cons (d := .tup [gH s m p, odd]) rfl ?_
    show dCons (dIf (dOp fNeU (dE C (.v 1)) (dE C (.tup [.c (.int 0)]))) (dE C (.tup [.c (.str "form"), .c .non])) (dE C (.tup [.c (.str "frame"), .c (.int 0)]))) (dEs C []) _ _ _ _
    unfold dCons dIf dOp
    refine pev_ok C (.v 1) odd _ rfl ?_
    refine pev_ok C _ (.tup [.int 0]) _ rfl ?_
    have fin : ∀ due : D, faultD (.tup [gH s m p, odd]) = due → dueOk due → ∀ p6 p7, M3 p6 = none → (up M3 p6 (.lst [.tup [.tup [gH s m p, .tup [], .tup []], formD], .tup [.tup [gH s m p, odd], due]])) p7 = none →
        dSs C ((.asg (.bin .add (.v 3) (.lc (.seq (.v 2)) (.nm 12) (.tup [(.tup [(.v 12), (.tup [(.v 9)])]), (.tup [(.c (.str "header")), (.c .non)])]))) (.nm 3)) :: T) (N0 q)
          [x0, some odd, some (.ob p2), some (.ob p7), x4, x5, x6, x7, some (gH s m p), some pingD, some roomD, some dataD, x12, x13, x14, x15, x16] (up (up M3 p6 (.lst [.tup [.tup [gH s m p, .tup [], .tup []], formD], .tup [.tup [gH s m p, odd], due]])) p7 (.lst (rws ++ [.tup [.tup [gH s m p, .tup [], .tup []], formD], .tup [.tup [gH s m p, odd], due]]))) X := by
      intro due hd hdo p6 p7 hp6 hp7
      have ex7 : Ex [] M3 (up (up M3 p6 (.lst [.tup [.tup [gH s m p, .tup [], .tup []], formD], .tup [.tup [gH s m p, odd], due]])) p7 (.lst (rws ++ [.tup [.tup [gH s m p, .tup [], .tup []], formD], .tup [.tup [gH s m p, odd], due]]))) := (Ex.refl.new hp6).new hp7
      have hr7 : Rows (up (up M3 p6 (.lst [.tup [.tup [gH s m p, .tup [], .tup []], formD], .tup [.tup [gH s m p, odd], due]])) p7 (.lst (rws ++ [.tup [.tup [gH s m p, .tup [], .tup []], formD], .tup [.tup [gH s m p, odd], due]]))) p7 6 := by
        refine ⟨_, up_same, fun x hx => ?_, by rw [List.length_append]; show _ + 2 ≤ 6; omega⟩
        rcases List.mem_append.1 hx with hx | hx
        · exact (g2 x hx).ty (.ex ex7)
        · simp only [List.mem_cons, List.not_mem_nil, or_false] at hx
          rcases hx with rfl | rfl
          · exact ⟨_, _, rfl, dty3 (dty_gd _ s m p) rfl rfl, rfl, due_form⟩
          · exact ⟨_, _, rfl, dty2 (dty_gd _ s m p) (dty_ex (exb.trans ex7) _ ho.ty), hd, hdo⟩
      generalize up (up M3 p6 (.lst [.tup [.tup [gH s m p, .tup [], .tup []], formD], .tup [.tup [gH s m p, odd], due]])) p7 (.lst (rws ++ [.tup [.tup [gH s m p, .tup [], .tup []], formD], .tup [.tup [gH s m p, odd], due]])) = M7 at ex7 hr7 ⊢
      have exh := exm3.trans ex7
      refine cat_each (a := p7) (b := p2) (its := hs) (n := 6) rfl rfl hr7 (exh.keep hh1 (by simp)) (by omega) (fun x hx => ⟨.tup [.tup [x, .tup [pingD]], .tup [.str wHeader, .non]], rfl, _, _, rfl, dty2 (dty_ex exh _ (hh3 x hx).1) rfl, fault_head (hh3 x hx).2, due_header⟩) rfl fun a1 M8 ex8 _ _ hr8 => ?_
      exact nxt M8 a1 _ _ (by omega) hr8 ⟨dty_ex ((exb.trans ex7).trans ex8) _ ho.ty, ho.no⟩
    refine ho.ne M3 exb _ fun bb hbb => ?_
    cases bb with
    | true =>
      refine pev_ok C _ formD _ rfl ?_
      refine evs_nil ⟨by show 2 ≤ 100000; decide, ?_⟩
      refine evs_nil ⟨by show 2 ≤ 100000; decide, fun p6 hp6 => ?_⟩
      have h56 : p5 ≠ p6 := fun e => by subst e; rw [g1] at hp6; cases hp6
      show fAdd (.ob p5) (.ob p6) _ _
      unfold fAdd
      dsimp only
      rw [up_ne h56, g1, up_same]
      refine ⟨by show rws.length + 2 ≤ 100000; omega, fun p7 hp7 => ?_⟩
      exact fin formD (fault_nt (hbb.1 rfl)) due_form p6 p7 hp6 hp7
    | false =>
      refine pev_ok C _ (.tup [.str wFrame, .int 0]) _ rfl ?_
      refine evs_nil ⟨by show 2 ≤ 100000; decide, ?_⟩
      refine evs_nil ⟨by show 2 ≤ 100000; decide, fun p6 hp6 => ?_⟩
      have h56 : p5 ≠ p6 := fun e => by subst e; rw [g1] at hp6; cases hp6
      show fAdd (.ob p5) (.ob p6) _ _
      unfold fAdd
      dsimp only
      rw [up_ne h56, g1, up_same]
      refine ⟨by show rws.length + 2 ≤ 100000; omega, fun p7 hp7 => ?_⟩
      refine fin (.tup [.str wFrame, .int 0]) ?_ (due_frame 0 (by decide)) p6 p7 hp6 hp7
      rcases ho.tp with e | e
      · rw [e, fault_of (gd_ok hg)]
        rfl
      · have := hbb.2 e
        cases this
  rw [eM3] at goal3
  exact goal3
end
end K7
/-! K7: values right, the whole; the law. -/
namespace K7
open PySem PySem.Spec L2
open PyProof.Rows hiding St

local macro_rules | `(tactic| walk_at "k7") => `(tactic| simp only [dSs, dS, dEs, dE, dI, dSeq, dAsg, dPar, dDrop, dRet, dIfS, dNext, dBrk, dNev, dVar, dC, dNil, dCons, dOp, dCB, dCall, dTup, dTest, dAnd, dOr, dNot, dIf, dChn, dNeg, fB, fAdd, fI, fI0, fEq, fNe, fIsN, fNotN, isNon, fIx, fLen, fMin, fMax, fInt, fTup, fLst,
  dIsi, dSet, setAll, dFor, diSeq, diR1, diR2, diR3, diEn, dLst, dApp, dExt, dRev, dEmp, empB, dSl, dPart, dNoP, dRse, dRank, fDg, isL, up_same, List.getElem?_cons_zero, List.getElem?_cons_succ, List.set_cons_zero, List.set_cons_succ, Bool.not_true, Bool.not_false, Tg.slots])
theorem oddF_bl (M : Mem) : OddF M (.bl true) := ⟨rfl, fun _ _ => rfl, .inr rfl, fun _ _ q hq => ⟨_, _, rfl, rfl, by decide, by decide, hq true ⟨fun _ => rfl, fun _ => rfl⟩⟩⟩
theorem oddF_non (M : Mem) : OddF M .non := ⟨rfl, fun _ _ => rfl, .inr rfl, fun _ _ q hq => ⟨_, _, rfl, rfl, by decide, by decide, hq true ⟨fun _ => rfl, fun _ => rfl⟩⟩⟩
theorem oddF_int (M : Mem) {i : Int} (h : i < 0 ∨ 1152921504606846976 < i) (hl : PySem.SeqAt.shaped (.int i) = true) : OddF M (.int i) := ⟨rfl, fun hi hh => by
  show (decide (0 ≤ i) && decide (i ≤ hi)) = false
  rcases h with h | h
  · rw [decide_eq_false (by omega), Bool.false_and]
  · rw [decide_eq_false (show ¬ i ≤ hi by omega), Bool.and_false], .inr rfl, fun _ _ q hq => ⟨_, _, rfl, rfl, hl, by decide, hq true ⟨fun _ => rfl, fun _ => rfl⟩⟩⟩
theorem oddF_str (M : Mem) {s : Str} (hl : PySem.SeqAt.shaped (.str s) = true) : OddF M (.str s) := ⟨rfl, fun _ _ => rfl, .inr rfl, fun _ _ q hq => ⟨_, _, rfl, rfl, hl, by decide, hq true ⟨fun _ => rfl, fun _ => rfl⟩⟩⟩
theorem oddF_tup (M : Mem) : OddF M (.tup [.int 0]) := ⟨rfl, fun _ _ => rfl, .inl rfl, fun _ _ q hq => ⟨_, _, rfl, rfl, by decide, by decide, hq false ⟨(fun h => by cases h), (fun h => by cases h)⟩⟩⟩
theorem oddF_lst {M : Mem} {a : Addr} (h : M a = some (.lst [])) : OddF M (.ob a) := ⟨dty_ob h, fun _ _ => rfl, .inr rfl, fun M' ex q hq => by
  have h' := ex.keep h (by simp)
  show (if isDc (M' a) then _ else _)
  rw [h', if_neg (by decide)]
  refine ⟨.list [], .tuple [.int 0], ?_, rfl, by decide, by decide, hq true ⟨fun _ => rfl, fun _ => rfl⟩⟩
  unfold pyT
  dsimp only
  rw [h']
  rfl⟩
theorem dty_dc {M : Mem} {a : Addr} {kvs : List (Str × D)} (h : M a = some (.dct kvs)) : dty M (.ob a) = true := by
  show tyB _ _ = true
  unfold tyB tyOf
  dsimp only
  rw [h]
  rfl
theorem oddF_dct {M : Mem} {a : Addr} (h : M a = some (.dct [])) : OddF M (.ob a) := ⟨dty_dc h, fun _ _ => rfl, .inr rfl, fun M' ex q hq => by
  have h' := ex.keep h (by simp)
  show (if isDc (M' a) then _ else _)
  rw [h', if_pos (by decide)]
  exact hq true ⟨fun _ => rfl, fun _ => rfl⟩⟩
def p118 : DF := fun ds M q _ => ∃ m c g b, ds = [.ob m] ∧ M m = some (.gen c g b) ∧ 30 ≤ b ∧ ∀ M', q (.bl true) M'
theorem k118 {C : Nat → DF} (h84 : C 84 = p84) (h97 : C 97 = p97) (h117 : C 117 = p117) (h119 : C 119 = p119) : Keeps C t118 p118 := by
  rintro ds M q xi ⟨mg, c, g, b, rfl, hm, hb, hq⟩
  refine ⟨rfl, ?_⟩
  show dSs C (_ :: (.asg (.call 84 [(.v 0), (.lst [(.c (.bl true)), (.c .non), (.neg (.c (.int 1))), (.bin .add (.bin .pow (.c (.int 2)) (.c (.int 60))) (.c (.int 1))), (.c (.str "0")), (.tup [(.c (.int 0))]), (.lst []), .newD])]) (.nm 1)) :: t118.body.drop 2) (N0 q) [some (.ob mg), none, none, none, none, none, none, none, none, none, none, none, none, none, none, none, none] M fun c fs x M2 => xi c fs M2
  have nxt := fun (M' : Mem) (s m p : Nat) (odd : D) (hg : HdN s m p) (ho : OddF M' odd) => r2 (C := C) (X := fun c fs x M2 => xi c fs M2) h117 h119 hq (M := M') hg ho (some (.ob mg)) none none none none none none none none none none none none none
  generalize t118.body.drop 2 = T at nxt ⊢
  rw [show ∀ (s : S) (R : List S), dSs C (s :: R) = dSeq (dS C s) (dSs C R) from fun _ _ => rfl]
  show dSeq (dAsg (dTup (dCons (dOp fAdd (dSl (dCall (C 97) (dCons (dVar 0) dNil)) dNoP (dPart (dC (.int 3)))) (dTup (dCons (dC (.int 5)) dNil))) (dCons (dTup (dCons (dC (.str "ping")) dNil)) dNil))) (.tp [8, 9])) _ _ _ _ _
  unfold dSeq dAsg dTup dCons dOp dSl dCall dVar
  simp only [List.getElem?_cons_zero, dNil, dNoP, dPart, dC, h97]
  refine ⟨mg, c, g, b, rfl, hm, by omega, fun h b1 hh hb1 => ?_⟩
  unfold Hd.good at hh
  simp only [Bool.and_eq_true, decide_eq_true_eq] at hh
  obtain ⟨g1, g2, g3, _⟩ := hh
  obtain ⟨s, m, p, k⟩ := h
  dsimp only at g1 g2 g3
  refine ⟨by show 1 ≤ 100000; decide, by show 3 + 1 ≤ 100000; decide, by show 1 ≤ 100000; decide, by show 2 ≤ 100000; decide, ?_⟩
  show dSs C ((.asg (.call 84 [(.v 0), (.lst [(.c (.bl true)), (.c .non), (.neg (.c (.int 1))), (.bin .add (.bin .pow (.c (.int 2)) (.c (.int 60))) (.c (.int 1))), (.c (.str "0")), (.tup [(.c (.int 0))]), (.lst []), .newD])]) (.nm 1)) :: T) (N0 q) [some (.ob mg), none, none, none, none, none, none, none, some (gH s m p), some pingD, none, none, none, none, none, none, none] (up M mg (.gen c g b1)) _
  have hg : HdN s m p := ⟨g1, g2, g3⟩
  have hmg : (up M mg (.gen c g b1)) mg = some (.gen c g b1) := up_same
  generalize up M mg (.gen c g b1) = M1 at hmg ⊢
  show dSeq (dAsg (dCall (C 84) (dCons (dVar 0) (dCons (dLst (dEs C _)) dNil))) (.nm 1)) (dSs C T) _ _ _ _
  unfold dSeq dAsg dCall
  rw [h84]
  unfold dCons dVar dLst
  simp only [List.getElem?_cons_zero]
  refine evs_cons (d := .bl true) rfl ?_
  refine evs_cons (d := .non) rfl ?_
  refine evs_cons (d := .int (-1)) rfl ?_
  refine evs_cons (d := .int 1152921504606846977) rfl ?_
  refine evs_cons (d := .str (Str.ofString "0")) rfl ?_
  refine evs_cons (d := .tup [.int 0]) rfl ?_
  refine evs_lst (ds := []) rfl (by decide) fun q1 hq1 => ?_
  refine evs_newD fun q2 hq2 => ?_
  refine evs_nil ⟨by show 8 ≤ 100000; decide, fun q3 hq3 => ?_⟩
  have n1 : mg ≠ q1 := fun e => by subst e; rw [hmg] at hq1; cases hq1
  have n12 : q1 ≠ q2 := fun e => by subst e; rw [up_same] at hq2; cases hq2
  have n2 : mg ≠ q2 := fun e => by subst e; rw [up_ne n1, hmg] at hq2; cases hq2
  have n23 : q2 ≠ q3 := fun e => by subst e; rw [up_same] at hq3; cases hq3
  have n13 : q1 ≠ q3 := fun e => by subst e; rw [up_ne n12, up_same] at hq3; cases hq3
  have n3 : mg ≠ q3 := fun e => by subst e; rw [up_ne n2, up_ne n1, hmg] at hq3; cases hq3
  unfold dNil
  refine d84 (b := b1) (a := q3) (by rw [up_ne n3, up_ne n2, up_ne n1, hmg]) (by omega) up_same (by show 0 < 8; decide) (by show 8 < 1000; decide) fun x hx => ?_
  refine nxt _ s m p x hg ?_
  simp only [List.mem_cons, List.not_mem_nil, or_false] at hx
  rcases hx with rfl | rfl | rfl | rfl | rfl | rfl | rfl | rfl
  · exact oddF_bl _
  · exact oddF_non _
  · exact oddF_int _ (.inl (by decide)) (by decide)
  · exact oddF_int _ (.inr (by decide)) (by decide)
  · exact oddF_str _ (by decide +kernel)
  · exact oddF_tup _
  · exact oddF_lst (by rw [up_ne n1.symm, up_ne n13, up_ne n12, up_same])
  · exact oddF_dct (by rw [up_ne n2.symm, up_ne n23, up_same])
/-! ### the law -/
theorem told_form {d : D} {M : Mem} {q : D → Mem → Prop} {xi : XF} (ht : dty M d = true) (hf : formB d = false) (hq : ∀ M', Ex [] M M' → q (.tup [.str wForm, .non]) M') : p113 [d] M q xi :=
  ⟨d, rfl, ht, fun _ M' ex => hq M' ex, fun l e h => (by rw [hf] at h; cases h), fun l e h => (by rw [hf] at h; cases h)⟩
theorem form_len {ds : List D} (h : ds.length < 7 ∨ 1200 < ds.length) : formB (.tup ds) = false := by
  show ((decide (7 ≤ (ds.length : Int)) && decide ((ds.length : Int) ≤ 1200)) && _) = false
  rcases h with h | h
  · rw [decide_eq_false (by omega), Bool.false_and, Bool.false_and]
  · rw [decide_eq_false (show ¬ (ds.length : Int) ≤ 1200 by omega), Bool.and_false, Bool.false_and]
theorem form_all {ds : List D} {d : D} (hd : d ∈ ds) (h : within d 0 255 = false) : formB (.tup ds) = false := by
  show ((decide (7 ≤ (ds.length : Int)) && decide ((ds.length : Int) ≤ 1200)) && ds.all fun d => within d 0 255) = false
  have : (ds.all fun d => within d 0 255) = false := by
    rw [List.all_eq_false]
    exact ⟨d, hd, by rw [h]; decide⟩
  rw [this, Bool.and_false]
def p121 : DF := fun ds M q _ => ∃ ns, ds = [.scr ns] ∧ M = mem0 ∧ ns.length ≤ 63 ∧ ∀ M', q (.bl true) M'
theorem k121 {C : Nat → DF} (h81 : C 81 = p81) (h82 : C 82 = p82) (h83 : C 83 = p83) (h84 : C 84 = p84) (h93 : C 93 = p93) (h113 : C 113 = p113) (h114 : C 114 = p114) (h116 : C 116 = p116) (h118 : C 118 = p118) (h120 : C 120 = p120) : Keeps C t121 p121 := by
  rintro ds M q xi ⟨ns, rfl, hM, hl, hq⟩
  refine ⟨rfl, ?_⟩
  show dSs C t121.body _ [some (.scr ns), none, none, none, none, none, none, none, none] M _
  -- from the thing on
  have rest : ∀ (m c g : Addr) (b : Nat) (M1 : Mem) (l : List Nat) (at_ : Nat) (thing : D) (z2 : Option D), M1 m = some (.gen c g b) → 100 ≤ b → Byt l → 7 ≤ l.length → l.length ≤ 1000 → at_ < l.length → dty M1 thing = true → within thing 0 255 = false → ∀ z3,
      dSs C (t121.body.drop 7) { nx := fun _ M' => q .non M', rt := q } [some (.scr ns), some (.ob m), z2, z3, some (oD l), some (nD at_), some thing, none, none] M1 (fun c fs x M2 => xi c fs M2) := by
    intro m c g b M1 l at_ thing z2 hm hb hb8 h7 h1000 hat htt hth z3
    show dSs C ((.asg (.lst [(.c .non), (.lof (.v 4)), (.slU (.v 4) (.c (.int 6))), (.bin .mul (.tup [(.c (.int 0))]) (.c (.int 1201))), (.bin .add (.bin .add (.slU (.v 4) (.v 5)) (.tup [(.v 6)])) (.slL (.v 4) (.bin .add (.v 5) (.c (.int 1))))), (.c (.str "octets")), (.c (.int 7)), .newD]) (.nm 7)) ::
      (.ite (.emp true false (.lcT (.seq (.v 7)) (.nm 8) (.not (.call 83 [(.call 113 [(.v 8)]), (.tup [(.c (.str "form")), (.c .non)])])) (.c (.int 1)))) [.ret (.c (.bl false))] []) :: [.ret (.call 118 [(.v 1)])]) _ _ _ _
    refine asg_lst ?_
    refine evs_cons (d := .non) rfl ?_
    refine evs_lof (ds := l.map nD) rfl fun p1 hp1 => ?_
    refine evs_cons (d := .tup (cutD (l.map nD) none (some 6))) rfl ?_
    show dCons (dOp fMul (dE C (.tup [(.c (.int 0))])) (dE C (.c (.int 1201)))) (dEs C _) _ _ _ _
    unfold dCons dOp
    refine pev_ok C _ (.tup [.int 0]) _ rfl ?_
    refine pev_ok C _ (.int 1201) _ rfl ?_
    refine ⟨List.cons_ne_nil _ _, by decide, by decide, by show 1 ≤ 100; decide, ?_⟩
    have ez : (List.replicate (Int.toNat 1201) [D.int 0]).flatten = List.replicate 1201 (D.int 0) := by
      show (List.replicate 1201 [D.int 0]).flatten = _
      generalize 1201 = n
      induction n with
      | zero => rfl
      | succ n ih => rw [List.replicate_succ, List.flatten_cons, ih, List.replicate_succ]; rfl
    rw [ez]
    have ec1 : cutD (l.map nD) none (some (at_ : Int)) = (l.take at_).map nD := cut_up
    have ec2 : cutD (l.map nD) (some ((at_ : Int) + 1)) none = (l.drop (at_ + 1)).map nD := cut_dn (a := at_ + 1)
    have ec3 : cutD (l.map nD) none (some 6) = (l.take 6).map nD := cut_up (a := 6)
    rw [ec3]
    have e4 : pev [some (.scr ns), some (.ob m), z2, z3, some (oD l), some (nD at_), some thing, none, none] (.bin .add (.bin .add (.slU (.v 4) (.v 5)) (.tup [(.v 6)])) (.slL (.v 4) (.bin .add (.v 5) (.c (.int 1))))) = some (.tup (((l.take at_).map nD ++ [thing]) ++ (l.drop (at_ + 1)).map nD)) := by
      show (pAdd (.tup (cutD (l.map nD) none (some (at_ : Int)))) (.tup [thing])).bind (fun x => (some (D.tup (cutD (l.map nD) (some ((at_ : Int) + 1)) none))).bind fun y => pAdd x y) = _
      rw [ec1, ec2]
      unfold pAdd
      dsimp only
      rw [if_pos (by rw [List.length_map, List.length_take]; show _ + 1 ≤ _; omega)]
      dsimp only [Option.bind]
      rw [if_pos (by simp only [List.length_append, List.length_map, List.length_take, List.length_drop, List.length_cons, List.length_nil]; omega)]
    refine evs_cons (d := .tup (((l.take at_).map nD ++ [thing]) ++ (l.drop (at_ + 1)).map nD)) e4 ?_
    refine evs_cons (d := .str (Str.ofString "octets")) rfl ?_
    refine evs_cons (d := .int 7) rfl ?_
    refine evs_newD fun p2 hp2 => ?_
    refine evs_nil ⟨by show 8 ≤ 100000; decide, fun p3 hp3 => ?_⟩
    have n12 : p1 ≠ p2 := fun e => by subst e; rw [up_same] at hp2; cases hp2
    have ex1 : Ex [] M1 (up M1 p1 (.lst (l.map nD))) := Ex.refl.new hp1
    have ex2 := Ex.new (o := .dct []) ex1 hp2
    have t1 : dty (up M1 p1 (.lst (l.map nD))) (.ob p1) = true := dty_ob up_same
    have t2 : dty (up (up M1 p1 (.lst (l.map nD))) p2 (.dct [])) (.ob p2) = true := dty_dc up_same
    have exs : ∀ o, Ex [] (up (up M1 p1 (.lst (l.map nD))) p2 (.dct [])) (up (up (up M1 p1 (.lst (l.map nD))) p2 (.dct [])) p3 o) := fun o => Ex.refl.new hp3
    have t1' := dty_ex (Ex.new (o := .dct []) (Ex.refl (ch := []) (M := up M1 p1 (.lst (l.map nD)))) hp2) _ t1
    have hz : dty M1 (.tup (List.replicate 1201 (D.int 0))) = true := dty_tupI (by rw [List.length_replicate]; decide) fun d hd => by
      rw [List.eq_of_mem_replicate hd]
      rfl
    have hx4 : dty M1 (.tup (((l.take at_).map nD ++ [thing]) ++ (l.drop (at_ + 1)).map nD)) = true := dty_tupI (by simp only [List.length_append, List.length_map, List.length_take, List.length_drop, List.length_cons, List.length_nil]; omega) fun d hd => by
      simp only [List.mem_append, List.mem_singleton] at hd
      rcases hd with (hd | rfl) | hd
      · obtain ⟨n, _, rfl⟩ := List.mem_map.1 hd
        rfl
      · exact htt
      · obtain ⟨n, _, rfl⟩ := List.mem_map.1 hd
        rfl
    have hz2 : formB (.tup (List.replicate 1201 (D.int 0))) = false := form_len (.inr (by rw [List.length_replicate]; decide))
    generalize List.replicate 1201 (D.int 0) = zs at hz hz2 ⊢
    have hall : ∀ x ∈ ([.non, .ob p1, .tup ((l.take 6).map nD), .tup zs, .tup (((l.take at_).map nD ++ [thing]) ++ (l.drop (at_ + 1)).map nD), .str (Str.ofString "octets"), .int 7, .ob p2] : List D), dty (up (up M1 p1 (.lst (l.map nD))) p2 (.dct [])) x = true ∧ formB x = false := by
      intro x hx
      simp only [List.mem_cons, List.not_mem_nil, or_false] at hx
      rcases hx with rfl | rfl | rfl | rfl | rfl | rfl | rfl | rfl
      · exact ⟨rfl, rfl⟩
      · exact ⟨t1', rfl⟩
      · exact ⟨dty_oD (by rw [List.length_take]; omega), form_len (.inl (by rw [List.length_map, List.length_take]; omega))⟩
      · exact ⟨dty_ex ex2 _ hz, hz2⟩
      · exact ⟨dty_ex ex2 _ hx4, form_all (d := thing) (by simp) hth⟩
      · exact ⟨rfl, rfl⟩
      · exact ⟨rfl, rfl⟩
      · exact ⟨t2, rfl⟩
    generalize ([.non, .ob p1, .tup ((l.take 6).map nD), .tup zs, .tup (((l.take at_).map nD ++ [thing]) ++ (l.drop (at_ + 1)).map nD), .str (Str.ofString "octets"), .int 7, .ob p2] : List D) = its at hall ⊢
    have hall2 : ∀ x ∈ its, dty (up (up (up M1 p1 (.lst (l.map nD))) p2 (.dct [])) p3 (.lst its)) x = true ∧ formB x = false := fun x hx => ⟨dty_ex (exs _) x (hall x hx).1, (hall x hx).2⟩
    have hm3 : (up (up (up M1 p1 (.lst (l.map nD))) p2 (.dct [])) p3 (.lst its)) m = some (.gen c g b) := (ex2.trans (exs _)).keep hm (by simp)
    have hi3 : (up (up (up M1 p1 (.lst (l.map nD))) p2 (.dct [])) p3 (.lst its)) p3 = some (.lst its) := up_same
    generalize up (up (up M1 p1 (.lst (l.map nD))) p2 (.dct [])) p3 (.lst its) = M3 at hall2 hm3 hi3 ⊢
    simp only [dSs, dS, dE, dEs, dI, dSeq, dIfS, dEmp, dLc, diSeq, dVar, dNext, h83, h113, h118, List.getElem?_cons_zero, List.getElem?_cons_succ, List.set_cons_zero, List.set_cons_succ, hi3]
    refine lct_nil (fun rs M' => (∀ x ∈ rs, dty M' x = true ∧ formB x = false) ∧ M' m = some (.gen c g b) ∧ M' p3 = some (.lst its)) ?_ ?_ _ _ ⟨hall2, hm3, hi3⟩
    · rintro d r M' ⟨hrs, hm', hi'⟩
      refine ⟨hi', _, rfl, fun K hK => ?_⟩
      simp only [dTest, dNot, dCall, dCons, dNil, dVar, dTup, dC, List.getElem?_cons_zero, List.getElem?_cons_succ, dwipe, Tg.slots, List.foldl_cons, List.foldl_nil, List.set_cons_zero, List.set_cons_succ]
      obtain ⟨hd1, hd2⟩ := hrs d List.mem_cons_self
      refine told_form hd1 hd2 fun M2 ex => ?_
      refine ⟨by show 2 ≤ 100000; decide, ?_⟩
      have hck : okD 100 1 (.tup [.str wForm, .non]) := ((okDs.cons (okD_str (s := wForm) (by decide)) (okDs.cons okD_non okDs_nil)).tup).le (by decide) (Nat.le_refl _)
      refine like_same (d := .tup [.str wForm, .non]) hck rfl (by decide) (by decide) ?_
      exact hK M2 ⟨fun x hx => ⟨dty_ex ex x (hrs x (List.mem_cons_of_mem _ hx)).1, (hrs x (List.mem_cons_of_mem _ hx)).2⟩, ex.keep hm' (by simp), ex.keep hi' (by simp)⟩
    · rintro M' ⟨_, hm', hi'⟩
      refine ⟨hi', fun p4 hp4 => ?_⟩
      have n4 : m ≠ p4 := fun e => by subst e; rw [hm'] at hp4; cases hp4
      simp only [empB, up_same, dRet, dCall, dCons, dNil, dVar, List.getElem?_cons_zero, List.getElem?_cons_succ]
      exact ⟨m, c, g, b, rfl, (up_ne n4).trans hm', by omega, hq⟩
  -- from the last body on
  have rest3 : ∀ (m c g : Addr) (b : Nat) (M1 : Mem) (z2 : Option D), M1 m = some (.gen c g b) → 1000 ≤ b →
      dSs C (t121.body.drop 3) { nx := fun _ M' => q .non M', rt := q } [some (.scr ns), some (.ob m), z2, none, none, none, none, none, none] M1 (fun c fs x M2 => xi c fs M2) := by
    intro m c g b M1 z2 hm hb
    show dSs C ((.asg (.call 114 [(.v 1)]) (.nm 3)) :: (.asg (.bin .add (.v 3) (.call 93 [(.v 3)])) (.nm 4)) :: (.asg (.call 81 [(.v 1), (.len (.v 4))]) (.nm 5)) ::
      (.asg (.call 84 [(.v 1), (.lst [(.c (.int 256)), (.neg (.c (.int 1))), (.c (.bl true)), (.c .non), (.c (.str "0")), (.tup [(.c (.int 0))]), (.lst []), .newD])]) (.nm 6)) :: t121.body.drop 7) _ _ _ _
    generalize t121.body.drop 7 = T at rest ⊢
    simp only [dSs, dS, dE, dEs, dSeq, dAsg, dOp, dCall, dCB, fLen, dLst, dCons, dNil, dVar, dC, dTup, dNeg, dNewD, fB, dSet, h81, h84, h93, h114, List.getElem?_cons_zero, List.getElem?_cons_succ, List.set_cons_zero, List.set_cons_succ]
    refine ⟨m, c, g, b, rfl, hm, by omega, fun l M2 b2 i1 i2 i3 ex2 hm2 hb2 => ?_⟩
    have L4 : (fourO (lawR l)).length = 4 := rfl
    refine ⟨l, rfl, i1, by omega, ?_⟩
    show fAdd (.tup (l.map nD)) (.tup ((fourO (lawR l)).map nD)) M2 _
    refine ⟨by rw [List.length_map, List.length_map, L4]; omega, ?_⟩
    rw [oD_app]
    have hB : Byt (l ++ fourO (lawR l)) := byt_app i1 (byt_four (lawR_lt l))
    have hL : (l ++ fourO (lawR l)).length = l.length + 4 := by rw [List.length_append, L4]
    simp only [oD, List.length_map]
    refine d81 hm2 (by omega) (by omega) (by omega) fun r r0 r1 => ?_
    obtain ⟨A, rfl⟩ := int_nat r0
    have hm3 : (up M2 m (Ob.gen c g (b2 - 1))) m = some (.gen c g (b2 - 1)) := up_same
    generalize up M2 m (Ob.gen c g (b2 - 1)) = M3 at hm3 ⊢
    refine ⟨by show 1 ≤ 100000; decide, by show 0 ≤ 100000; decide, fun q1 hq1 q2 hq2 => ⟨by show 8 ≤ 100000; decide, fun q3 hq3 => ?_⟩⟩
    have n1 : m ≠ q1 := fun e => by subst e; rw [hm3] at hq1; cases hq1
    have n12 : q1 ≠ q2 := fun e => by subst e; rw [up_same] at hq2; cases hq2
    have n2 : m ≠ q2 := fun e => by subst e; rw [up_ne n1, hm3] at hq2; cases hq2
    have n23 : q2 ≠ q3 := fun e => by subst e; rw [up_same] at hq3; cases hq3
    have n13 : q1 ≠ q3 := fun e => by subst e; rw [up_ne n12, up_same] at hq3; cases hq3
    have n3 : m ≠ q3 := fun e => by subst e; rw [up_ne n2, up_ne n1, hm3] at hq3; cases hq3
    refine d84 (b := b2 - 1) (a := q3) (by rw [up_ne n3, up_ne n2, up_ne n1, hm3]) (by omega) up_same (by show 0 < 8; decide) (by show 8 < 1000; decide) fun x hx => ?_
    have hthing : dty (up (up (up (up M3 q1 (.lst [])) q2 (.dct [])) q3 (.lst [.int 256, .int (-1), .bl true, .non, .str (Str.ofString "0"), .tup [.int 0], .ob q1, .ob q2])) m (.gen c g (b2 - 1 - 1))) x = true ∧ within x 0 255 = false := by
      simp only [List.mem_cons, List.not_mem_nil, or_false] at hx
      rcases hx with rfl | rfl | rfl | rfl | rfl | rfl | rfl | rfl
      · exact ⟨rfl, rfl⟩
      · exact ⟨rfl, rfl⟩
      · exact ⟨rfl, rfl⟩
      · exact ⟨rfl, rfl⟩
      · exact ⟨rfl, rfl⟩
      · exact ⟨rfl, rfl⟩
      · exact ⟨dty_ob (xs := []) (by rw [up_ne n1.symm, up_ne n13, up_ne n12, up_same]), rfl⟩
      · exact ⟨dty_dc (kvs := []) (by rw [up_ne n2.symm, up_ne n23, up_same]), rfl⟩
    exact rest m c g (b2 - 1 - 1) _ (l ++ fourO (lawR l)) A x z2 up_same (by omega) hB (by omega) (by omega) (by omega) hthing.1 hthing.2 _
  clear rest
  show dSs C ((.asg (.call 82 [(.v 0)]) (.nm 1)) :: (.ite (.not (.call 120 [])) [.ret (.c (.bl false))] []) :: (.for_ (.r1 (.c (.int 3))) (.nm 2) [.ite (.not (.call 116 [(.v 1)])) [.ret (.c (.bl false))] []]) :: t121.body.drop 3) _ _ _ _
  generalize t121.body.drop 3 = T at rest3 ⊢
  simp only [dSs, dS, dE, dEs, dI, dSeq, dAsg, dIfS, dNot, dFor, diR1, dCall, dCons, dNil, dVar, dC, dNext, dSet, h82, h116, h120, List.getElem?_cons_zero, List.getElem?_cons_succ, List.set_cons_zero, List.set_cons_succ]
  refine ⟨ns, rfl, hM, hl, fun m c g M1 hm1 => ?_⟩
  refine ⟨rfl, fun M2 ex2 => ?_⟩
  have hm2 := ex2.keep hm1 (by simp)
  refine ⟨by decide, by decide, ?_⟩
  refine for_inv (fun its dl M' => ∃ k n b' z, k + n = 3 ∧ its = rgI ((k : Nat) : Int) 1 n ∧ M' m = some (.gen c g b') ∧ 10000 ≤ b' + 2000 * k ∧ dl = [some (.scr ns), some (.ob m), z, none, none, none, none, none, none]) ?_ ?_ _ _ _ ⟨0, 3, LIM, none, rfl, rfl, hm2, by show 10000 ≤ 2 ^ 40 + 2000 * 0; decide, rfl⟩
  · rintro d rr dl M' nx ⟨k, n, b', z, hk, ei, hm', hb', rfl⟩ hn
    obtain ⟨n', rfl, rfl, rfl⟩ := rng_hd ei
    refine ⟨trivial, _, rfl, ?_⟩
    refine ⟨m, c, g, b', rfl, hm', by omega, fun M3 b3 ex3 hm3 hb3 => ?_⟩
    exact hn _ _ ⟨k + 1, n', b3, _, by omega, rfl, hm3, by omega, rfl⟩
  · rintro dl M' ⟨k, n, b', z, hk, ei, hm', hb', rfl⟩
    have := rng_nil ei
    refine ⟨trivial, ?_⟩
    exact rest3 m c g b' M' z hm' (by omega)
end K7
/-! K7: from what stands behind the top to the promises. -/
namespace K7
open PySem PySem.Spec PySem.W PySem.Calls PyProof.Rows L2
theorem iniP4 : ∃ (msg : Str) (j : Nat) (p0 p1 p2 p3 p4 p5 q1 q2 q3 q4 r1 r2 r3 r4 pa pb pc : Pos), argsOf (initOf (top 4)) = iPs pa [(wWord, pb), (wPlace, pc)] ∧ bodyOf (initOf (top 4)) = [supS msg j p0 p1 p2 p3 p4 p5, fldS wWord q1 q2 q3 q4, fldS wPlace r1 r2 r3 r4] ∧ scopeOf (initOf (top 4)) = iSc [wWord, wPlace] ∧ CallsM msg j p0 p1 p2 p3 p4 :=
  ⟨_, _, _, _, _, _, _, _, _, _, _, _, _, _, _, _, _, _, _, rfl, rfl, rfl, ⟨_, fun _ => rfl⟩⟩
theorem iniP5 : ∃ (msg : Str) (j : Nat) (p0 p1 p2 p3 p4 p5 q1 q2 q3 q4 r1 r2 r3 r4 pa pb pc : Pos), argsOf (initOf (top 5)) = iPs pa [(wWord, pb), (wPlace, pc)] ∧ bodyOf (initOf (top 5)) = [supS msg j p0 p1 p2 p3 p4 p5, fldS wWord q1 q2 q3 q4, fldS wPlace r1 r2 r3 r4] ∧ scopeOf (initOf (top 5)) = iSc [wWord, wPlace] ∧ CallsM msg j p0 p1 p2 p3 p4 :=
  ⟨_, _, _, _, _, _, _, _, _, _, _, _, _, _, _, _, _, _, _, rfl, rfl, rfl, ⟨_, fun _ => rfl⟩⟩
theorem iniP6 : ∃ (msg : Str) (j : Nat) (p0 p1 p2 p3 p4 p5 r1 r2 r3 r4 pa pc : Pos), argsOf (initOf (top 6)) = iPs pa [(wPlace, pc)] ∧ bodyOf (initOf (top 6)) = [supS msg j p0 p1 p2 p3 p4 p5, fldS wPlace r1 r2 r3 r4] ∧ scopeOf (initOf (top 6)) = iSc [wPlace] ∧ CallsM msg j p0 p1 p2 p3 p4 :=
  ⟨_, _, _, _, _, _, _, _, _, _, _, _, _, _, rfl, rfl, rfl, ⟨_, fun _ => rfl⟩⟩
/-! ### the classes of errors -/
theorem clsB_ok {K : PySem.W.Frag} {C : Addr} (h : clsB K C = true) : ∃ nm q N bs bm sn sub ab col dd k0 k1 k2 k3 k5, K.lookup C = some (excClassObj nm q C N bs bm true sn sub ab col dd k0 k1 k2 k3 k5 "ValueError.__new__") ∧ PySem.HandSPX.refsVE bm = true ∧ PySem.W.alongIn K "__init__" bm = some (some (.builtin "ValueError.__init__")) := by
  unfold clsB at h
  split at h
  · rename_i t dd cd sl hlk
    obtain ⟨h1, h2⟩ := He.ba h
    split at h2
    · rename_i C' bm k0 k1 k2 k3 n k5 hmro hsl
      obtain ⟨a1, h2⟩ := He.ba h2
      obtain ⟨a2, h2⟩ := He.ba h2
      obtain ⟨a3, h2⟩ := He.ba h2
      obtain ⟨a4, h2⟩ := He.ba h2
      obtain ⟨a5, a6⟩ := He.ba h2
      obtain ⟨nm, bs, mro, N, q, hd, sn, sub, ab, col, hdel⟩ := cd
      have e1 : t = "type" := of_decide_eq_true h1
      have e2 : C' = C := of_decide_eq_true a1
      have e3 : n = "ValueError.__new__" := of_decide_eq_true a2
      have e4 : hdel = false := Bool.not_eq_true' _ |>.mp a3
      have e5 : hd = true := a4
      have e6 : mro = .ref C' :: bm := hmro
      have e7 : sl = #[k0, k1, k2, k3, some (.builtin n), k5] := by
        apply Array.ext'
        exact hsl
      subst e1 e2 e3 e4 e5 e6 e7
      exact ⟨nm, q, N, bs, bm, sn, sub, ab, col, dd, k0, k1, k2, k3, k5, hlk, a5, He.eqO_ok a6⟩
    · cases h2
  · cases h
theorem iniB_ok {P : PySem.Program} {K : PySem.W.Frag} {C fI : Addr} {ps : Arguments} {b : List Stmt} {sc : PySem.Scope} (h : iniB P K C fI = true) (e : iniW K fI = some (("__init__" : Str), ps, FuncBody.stmts b, sc)) (iC : PySem.W.findIn K (.ref C) "__init__" = some (some (.ref fI))) (tC : PySem.W.typeIn K (.ref fI) = some (.type "function")) : OwnI P K C fI ps b sc := by
  refine ⟨iC, tC, ?_⟩
  unfold iniB at h
  unfold iniW at e
  split at h
  · rename_i oc od fd osl hlk
    rw [hlk] at e
    obtain ⟨n1, n2, n3, n4, n5, n6, n7, n8, n9, n10, n11, n12, n13, n14, n15⟩ := fd
    dsimp only at e h
    simp only [Option.some.injEq, Prod.mk.injEq] at e
    obtain ⟨e1, e2, e3, e4⟩ := e
    split at h
    · rename_i x cc cda
      obtain ⟨a1, h⟩ := He.ba h
      obtain ⟨a2, h⟩ := He.ba h
      obtain ⟨a3, h⟩ := He.ba h
      obtain ⟨a4, h⟩ := He.ba h
      obtain ⟨a5, a6⟩ := He.ba h
      have f1 : x = "__class__" := of_decide_eq_true a1
      have f2 : n6 = mainGlobals := of_decide_eq_true a2
      have f3 : n15 = builtinsNs := of_decide_eq_true a3
      split at a5
      · rename_i ccl cdd vs ccs hcd
        split at a5
        · rename_i file tf hvs
          split at a6
          · rename_i cl cld D csl hcc
            have f4 : D = C := of_decide_eq_true a6
            subst e1 e2 e3 e4 f1 f2 f3 f4
            exact ⟨oc, od, osl, n2, n10, n11, n14, n12, cda, cc, ccl, cdd, vs, ccs, file, tf, cl, cld, csl, hlk, a4, hcd, hvs, a5, hcc⟩
          · cases a6
        · cases a5
      · cases a5
    · cases h
  · cases h
/-! ### all facts -/
def V7 (w : World) (K : PySem.W.Frag) (mg : Str → Option Value) (base : Heap) : K7.Ev := ⟨P7, w, K, mg, base, fun x => He.ga K x⟩
section
variable {w : World} {K : PySem.W.Frag} {mg : Str → Option Value} {base : Heap}
theorem says_t (c : SaysK w K) : He.SaysT fa fn ts w K := congrArg (fun z : AlK => z.1) c.eq
theorem says_d (c : SaysK w K) : He.SaysD fa fn K := (says_t c).d
theorem says_x (c : SaysK w K) : exK K = true := congrArg (fun z : AlK => z.2.1) c.eq
theorem says_i (c : SaysK w K) : (errs.map fun e => iniW K (He.ma K (He.ga K e.1) "__init__")) = [iniV 4, iniV 5, iniV 6] := congrArg (fun z : AlK => z.2.2) c.eq
structure ExF (K : PySem.W.Frag) : Prop where
  beg : He.tupB K "BEGIN" [.int 255, .int 255, .int 255, .int 255] = true
  srt : He.tupB K "SORTS" [.str "none", .str "ack", .str "room", .str "data", .str "data", .str "ping"] = true
  rk : He.valsB K (He.ga K "RANKS") [(wAck, .int 0), (wRoom, .int 1), (wData, .int 2), (wPing, .int 3)] = true
  gR : PySem.W.nsIn K mainGlobals "RANKS" = some (some (.ref (He.ga K "RANKS")))
  gB : PySem.W.nsIn K mainGlobals "BEGIN" = some (some (.ref (He.ga K "BEGIN")))
  gS : PySem.W.nsIn K mainGlobals "SORTS" = some (some (.ref (He.ga K "SORTS")))
  opq : PySem.W.nsIn K cStatics "thirdparty.any" = some none
  er : ∀ e ∈ errs, errB P7 K e.1 e.2 = true
theorem exF_of (h : exK K = true) : ExF K := by
  unfold exK at h
  obtain ⟨a1, h⟩ := He.ba h
  obtain ⟨a2, h⟩ := He.ba h
  obtain ⟨a3, h⟩ := He.ba h
  obtain ⟨a4, h⟩ := He.ba h
  obtain ⟨a5, h⟩ := He.ba h
  obtain ⟨a6, h⟩ := He.ba h
  obtain ⟨a7, h⟩ := He.ba h
  exact ⟨a1, a2, a3, He.eqO_ok a4, He.eqO_ok a5, He.eqO_ok a6, He.eqO_ok a7, fun e he => List.all_eq_true.mp h e he⟩
theorem top_super : (P7.main.scope.names.lookup ("super" : Str)).isSome = false := by kernel_rfl
/-- one class of errors -/
structure ErrF (K : PySem.W.Frag) (mg : Str → Option Value) (x : Str) (fs : List Str) : Prop where
  gC : mg x = some (.ref (He.ga K x))
  T : OwnC P7 K mg (He.ga K x) fs
  iC : PySem.W.findIn K (.ref (He.ga K x)) "__init__" = some (some (.ref (He.ma K (He.ga K x) "__init__")))
  tC : PySem.W.typeIn K (.ref (He.ma K (He.ga K x) "__init__")) = some (.type "function")
  iB : iniB P7 K (He.ga K x) (He.ma K (He.ga K x) "__init__") = true
  ex : PySem.W.exmOne K (.ref (He.ga K x)) (.ref (He.ga K x)) = some true
  xf : XfC K (He.ga K x)
  no : ∀ n ∈ [wWord, wPlace], PySem.W.findIn K (.ref (He.ga K x)) n = some none
theorem errF_of {x : Str} {fs : List Str} (X : K.In base) (G : base.Ns mainGlobals mg) (hfs : ∀ f ∈ fs, f ∈ [wWord, wPlace]) (hs : mg "super" = none) (opq : PySem.W.nsIn K cStatics "thirdparty.any" = some none) (h : errB P7 K x fs = true) : ErrF K mg x fs := by
  unfold errB at h
  obtain ⟨a1, h⟩ := He.ba h
  obtain ⟨a2, h⟩ := He.ba h
  obtain ⟨a3, h⟩ := He.ba h
  obtain ⟨a4, h⟩ := He.ba h
  obtain ⟨a5, h⟩ := He.ba h
  obtain ⟨a6, h⟩ := He.ba h
  obtain ⟨a7, h⟩ := He.ba h
  obtain ⟨a8, h⟩ := He.ba h
  obtain ⟨a9, h⟩ := He.ba h
  obtain ⟨a10, h⟩ := He.ba h
  obtain ⟨a11, h⟩ := He.ba h
  obtain ⟨a12, a13⟩ := He.ba h
  have no : ∀ n ∈ [wWord, wPlace], PySem.W.findIn K (.ref (He.ga K x)) n = some none := fun n hn => He.eqO_ok (List.all_eq_true.mp a4 n hn)
  exact ⟨PySem.W.mg_of X G (He.eqO_ok a1), ⟨clsB_ok a2, He.eqO_ok a3, fun f hf => no f (hfs f hf), of_decide_eq_true a5, of_decide_eq_true a6, of_decide_eq_true a7, a8, hs, opq, top_super⟩, He.eqO_ok a11, of_decide_eq_true a12, a13, of_decide_eq_true a9, xfB_ok a10, no⟩
end
end K7
/-! K7: every def keeps its promise (printed by wip/gen_fns.py). -/
namespace K7
open PySem PySem.Spec PyProof.Rows L2

def tabL : List DF := [p10, p10, p10, p10, p10, p10, p10, p10, p10, p10, p10, p10, p12, p13, p14, p10, p10, p17, p10, p10, p10, p10, p22, p23, p24, p10, p10, p10, p10, p29, p30, p10, p10, p10, p34, p35, p10, p10, p10, p39, p40, p10, p10, p43, p44, p45, p10, p10, p10, p10, p50, p51, p52, p53, p54, p55, p56, p57, p10, p10, p10, p61, p62, p63, p64, p65, p66, p67, p68, p69, p70, p10, p10, p73, p74, p75, p76, p77, p10, p79, p80, p81, p82, p83, p84, p85, p86, p87, p88, p89, p90, p91, p92, p93, p94, p95, p96, p97, p98, p99, p100, p101, p102, p103, p104, p105, p106, p107, p108, p109, p110, p111, p112, p113, p114, p115, p116, p117, p118, p119, p120, p121]
def Ctab (k : Nat) : DF := tabL.getD k p10
def fnsAll (V : K7.Ev) (L : Nat) : List (Str × Nat) → Prop
  | [] => True
  | p :: r => FnS V p.1 (Ctab p.2) L ∧ fnsAll V L r
theorem lookup_all {V : K7.Ev} {L : Nat} : ∀ {l : List (Str × Nat)}, fnsAll V L l → ∀ x k, l.lookup x = some k → FnS V x (Ctab k) L
  | [], _, _, _, e => by cases e
  | p :: r, ⟨h1, h2⟩, x, k, e => by
    obtain ⟨y, i⟩ := p
    rw [List.lookup_cons] at e
    cases q : x == y with
    | true =>
      rw [q] at e
      cases e
      rw [eq_of_beq q]
      exact h1
    | false =>
      rw [q] at e
      exact lookup_all h2 x k e
section
variable {w : World} {K : PySem.W.Frag} {mg : Str → Option Value} {base : Heap}
theorem cns7 (X : K.In base) (G : base.Ns mainGlobals mg) (c : SaysK w K) : ∀ p ∈ cnsG, ∃ u v, mg p.1 = some u ∧ RelV v u ∧ ∀ H, Rp K H p.2 v := by
  have d := says_d c
  have e := exF_of (says_x c)
  intro p hp
  simp only [cnsG, List.mem_cons, List.not_mem_nil, or_false] at hp
  rcases hp with rfl | rfl | rfl | rfl | rfl | rfl | rfl | rfl | rfl | rfl | rfl | rfl | rfl | rfl | rfl | rfl | rfl
  · obtain ⟨t, h⟩ := He.int_ok X G (d.fact 96 rfl)
    exact ⟨_, .int 1152921504606846976, h, ⟨t, rfl⟩, fun _ => rfl⟩
  · obtain ⟨t, h⟩ := He.int_ok X G (d.fact 97 rfl)
    exact ⟨_, .int 1048576, h, ⟨t, rfl⟩, fun _ => rfl⟩
  · obtain ⟨t, h⟩ := He.int_ok X G (d.fact 98 rfl)
    exact ⟨_, .int 32, h, ⟨t, rfl⟩, fun _ => rfl⟩
  · obtain ⟨t, h⟩ := He.int_ok X G (d.fact 99 rfl)
    exact ⟨_, .int 6442450971, h, ⟨t, rfl⟩, fun _ => rfl⟩
  · obtain ⟨t, h⟩ := He.int_ok X G (d.fact 100 rfl)
    exact ⟨_, .int 4294967295, h, ⟨t, rfl⟩, fun _ => rfl⟩
  · exact ⟨_, .ref (He.ga K "BEGIN"), PySem.W.mg_of X G e.gB, rfl, fun H => ⟨_, _, rfl, He.tupB_ok e.beg H, _, _, rfl, rfl, _, _, rfl, rfl, _, _, rfl, rfl, _, _, rfl, rfl, rfl⟩⟩
  · obtain ⟨t, h⟩ := He.int_ok X G (d.fact 101 rfl)
    exact ⟨_, .int 4, h, ⟨t, rfl⟩, fun _ => rfl⟩
  · obtain ⟨t, h⟩ := He.int_ok X G (d.fact 102 rfl)
    exact ⟨_, .int 1200, h, ⟨t, rfl⟩, fun _ => rfl⟩
  · obtain ⟨t, h⟩ := He.int_ok X G (d.fact 103 rfl)
    exact ⟨_, .int 9, h, ⟨t, rfl⟩, fun _ => rfl⟩
  · obtain ⟨t, h⟩ := He.int_ok X G (d.fact 104 rfl)
    exact ⟨_, .int 1048576, h, ⟨t, rfl⟩, fun _ => rfl⟩
  · obtain ⟨t, h⟩ := He.int_ok X G (d.fact 105 rfl)
    exact ⟨_, .int 1152921504606846975, h, ⟨t, rfl⟩, fun _ => rfl⟩
  · obtain ⟨t, h⟩ := He.int_ok X G (d.fact 106 rfl)
    exact ⟨_, .int 1048576, h, ⟨t, rfl⟩, fun _ => rfl⟩
  · obtain ⟨t, h⟩ := He.int_ok X G (d.fact 107 rfl)
    exact ⟨_, .int 32, h, ⟨t, rfl⟩, fun _ => rfl⟩
  · obtain ⟨t, h⟩ := He.int_ok X G (d.fact 108 rfl)
    exact ⟨_, .int 15, h, ⟨t, rfl⟩, fun _ => rfl⟩
  · obtain ⟨t, h⟩ := He.int_ok X G (d.fact 109 rfl)
    exact ⟨_, .int 1152921504606846975, h, ⟨t, rfl⟩, fun _ => rfl⟩
  · exact ⟨_, .ref (He.ga K "SORTS"), PySem.W.mg_of X G e.gS, rfl, fun H => ⟨_, _, rfl, He.tupB_ok e.srt H, _, _, rfl, rfl, _, _, rfl, rfl, _, _, rfl, rfl, _, _, rfl, rfl, _, _, rfl, rfl, _, _, rfl, rfl, rfl⟩⟩
  · obtain ⟨t, h⟩ := He.int_ok X G (d.fact 110 rfl)
    exact ⟨_, .int 7, h, ⟨t, rfl⟩, fun _ => rfl⟩
theorem look_mem {β : Type} {x : Str} {b : β} : ∀ {l : List (Str × β)}, l.lookup x = some b → (x, b) ∈ l
  | [], e => by cases e
  | (y, d) :: r, e => by
    rw [List.lookup_cons] at e
    cases q : x == y with
    | true =>
      rw [q] at e
      cases e
      rw [eq_of_beq q]
      exact List.mem_cons_self
    | false =>
      rw [q] at e
      exact List.mem_cons_of_mem _ (look_mem e)
theorem free7 (X : K.In base) (G : base.Ns mainGlobals mg) (c : SaysK w K) : ∀ x ∈ frees, mg x = none := by
  have d := says_d c
  intro x hx
  simp only [frees, List.mem_cons, List.not_mem_nil, or_false] at hx
  rcases hx with rfl | rfl | rfl | rfl | rfl | rfl | rfl | rfl | rfl | rfl | rfl | rfl
  · exact He.free_ok X G (d.fact 84 rfl)
  · exact He.free_ok X G (d.fact 83 rfl)
  · exact He.free_ok X G (d.fact 87 rfl)
  · exact He.free_ok X G (d.fact 88 rfl)
  · exact He.free_ok X G (d.fact 89 rfl)
  · exact He.free_ok X G (d.fact 94 rfl)
  · exact He.free_ok X G (d.fact 93 rfl)
  · exact He.free_ok X G (d.fact 91 rfl)
  · exact He.free_ok X G (d.fact 90 rfl)
  · exact He.free_ok X G (d.fact 85 rfl)
  · exact He.free_ok X G (d.fact 86 rfl)
  · exact He.free_ok X G (d.fact 92 rfl)
theorem super7 (X : K.In base) (G : base.Ns mainGlobals mg) (c : SaysK w K) : mg "super" = none := He.free_ok X G ((says_d c).fact 95 rfl)
theorem err7 (X : K.In base) (G : base.Ns mainGlobals mg) (c : SaysK w K) : ErrF K mg "BadDatagram" [wWord, wPlace] ∧ ErrF K mg "BadValue" [wWord, wPlace] ∧ ErrF K mg "BadRanges" [wPlace] := by
  have e := exF_of (says_x c)
  have s := super7 X G c
  refine ⟨errF_of X G (fun f h => h) s e.opq (e.er ("BadDatagram", [wWord, wPlace]) (by simp [errs])), errF_of X G (fun f h => h) s e.opq (e.er ("BadValue", [wWord, wPlace]) (by simp [errs])), errF_of X G (fun f h => ?_) s e.opq (e.er ("BadRanges", [wPlace]) (by simp [errs]))⟩
  rw [List.mem_singleton] at h
  rw [h]
  simp
theorem ini7 (c : SaysK w K) : iniW K (He.ma K (He.ga K "BadDatagram") "__init__") = iniV 4 ∧ iniW K (He.ma K (He.ga K "BadValue") "__init__") = iniV 5 ∧ iniW K (He.ma K (He.ga K "BadRanges") "__init__") = iniV 6 := by
  have h := says_i c
  simp only [errs, List.map_cons, List.map_nil, List.cons.injEq, and_true] at h
  exact h
theorem own7 (X : K.In base) (G : base.Ns mainGlobals mg) (c : SaysK w K) : OwnR (V7 w K mg base) "BadDatagram" [wWord, wPlace] ∧ OwnR (V7 w K mg base) "BadValue" [wWord, wPlace] ∧ OwnR (V7 w K mg base) "BadRanges" [wPlace] := by
  obtain ⟨e1, e2, e3⟩ := err7 X G c
  obtain ⟨i1, i2, i3⟩ := ini7 c
  refine ⟨⟨_, mA2, e1.gC, e1.T, e1.iC, e1.tC, ?_, rel2, by decide⟩, ⟨_, mA2, e2.gC, e2.T, e2.iC, e2.tC, ?_, rel2, by decide⟩, ⟨_, mA1, e3.gC, e3.T, e3.iC, e3.tC, ?_, rel1, by decide⟩⟩
  · obtain ⟨msg, j, p0, p1, p2, p3, p4, p5, q1, q2, q3, q4, r1, r2, r3, r4, pa, pb, pc, a1, a2, a3, a4⟩ := iniP4
    have TI := iniB_ok e1.iB i1 e1.iC e1.tC
    rw [a1, a2, a3] at TI
    exact init2_ok e1.T TI a4
  · obtain ⟨msg, j, p0, p1, p2, p3, p4, p5, q1, q2, q3, q4, r1, r2, r3, r4, pa, pb, pc, a1, a2, a3, a4⟩ := iniP5
    have TI := iniB_ok e2.iB i2 e2.iC e2.tC
    rw [a1, a2, a3] at TI
    exact init2_ok e2.T TI a4
  · obtain ⟨msg, j, p0, p1, p2, p3, p4, p5, r1, r2, r3, r4, pa, pc, a1, a2, a3, a4⟩ := iniP6
    have TI := iniB_ok e3.iB i3 e3.iC e3.tC
    rw [a1, a2, a3] at TI
    exact init1_ok e3.T TI a4
theorem rk7 (X : K.In base) (G : base.Ns mainGlobals mg) (c : SaysK w K) : ∃ d, mg nameRanks = some (.ref d) ∧ ∀ s i, rankD s = some i → KDct K w d s (.int i) := by
  have e := exF_of (says_x c)
  obtain ⟨es, n, T⟩ := (says_t c).tab 0 rfl
  refine ⟨He.ga K "RANKS", PySem.W.mg_of X G e.gR, fun s i h => ?_⟩
  have key : ∀ q : Str × He.Dv, q ∈ ([(wAck, .int 0), (wRoom, .int 1), (wData, .int 2), (wPing, .int 3)] : List (Str × He.Dv)) → KDct K w (He.ga K "RANKS") q.1 (q.2.v K) := fun q hq => by
    obtain ⟨u, u1, u2⟩ := He.valsB_ok e.rk hq
    exact ⟨es, n, u, T.at_, T.lit, u1, u2⟩
  unfold rankD at h
  split at h
  · rename_i hs
    cases h
    rw [hs]
    exact key (wAck, .int 0) (by simp)
  · split at h
    · rename_i hs
      cases h
      rw [hs]
      exact key (wRoom, .int 1) (by simp)
    · split at h
      · rename_i hs
        cases h
        rw [hs]
        exact key (wData, .int 2) (by simp)
      · split at h
        · rename_i hs
          cases h
          rw [hs]
          exact key (wPing, .int 3) (by simp)
        · cases h
theorem gnd7 (X : K.In base) (G : base.Ns mainGlobals mg) (c : SaysK w K) : Gnd (V7 w K mg base) cnsG exsG := by
  obtain ⟨e1, e2, e3⟩ := err7 X G c
  obtain ⟨o1, o2, o3⟩ := own7 X G c
  refine ⟨fun x d h => cns7 X G c (x, d) (look_mem h), free7 X G c, rk7 X G c, fun x hx => ?_, rs_of fun x fs h => ?_⟩
  · simp only [hdls, List.mem_cons, List.not_mem_nil, or_false] at hx
    rcases hx with rfl | rfl | rfl
    · exact ⟨e1.gC, e1.ex, e1.xf, e1.no⟩
    · exact ⟨e2.gC, e2.ex, e2.xf, e2.no⟩
    · exact ⟨e3.gC, e3.ex, e3.xf, e3.no⟩
  · have hm := look_mem h
    simp only [exsG, List.mem_cons, List.not_mem_nil, or_false, Prod.mk.injEq] at hm
    rcases hm with ⟨rfl, rfl⟩ | ⟨rfl, rfl⟩ | ⟨rfl, rfl⟩
    · exact ⟨o1, by decide⟩
    · exact ⟨o2, by decide⟩
    · exact ⟨o3, by decide⟩
theorem mkG {k L : Nat} {name qual : Str} {d : DefT} {Ph : DF} {f : Addr} {fd : FuncData} (g : Gnd (V7 w K mg base) cnsG exsG) (F : FunD K name qual (argsOf (top k)) (bodyOf (top k)) (scopeOf (top k)) [] [] f fd) (tr : trOk d k) (hfs : fnsAll (V7 w K mg base) L d.fns) (hL : 2 ≤ L) (kp : Keeps Ctab d Ph) :
    FnG P7 w K mg base (L + 1) f fd d.ps (spOf K (fun x => He.ga K x) Ph) := by
  obtain ⟨oc, od, dV, kV, doc, pm, an, cdv, ct, osl, rfl, lk, hcd, _, _⟩ := F.ex
  exact fn_G (V := V7 w K mg base) g lk hcd tr.1 tr.2 (lookup_all hfs) hL kp
theorem mkS {k L : Nat} {x name qual : Str} {d : DefT} {Ph : DF} (X : K.In base) (G : base.Ns mainGlobals mg) (c : SaysK w K) (g : Gnd (V7 w K mg base) cnsG exsG) (j : Nat)
    (hj : fn[j]? = some ⟨(x, none), name, qual, argsOf (top k), bodyOf (top k), scopeOf (top k), [], []⟩) (hf : fa[j]? = some (.glo x)) (tr : trOk d k)
    (hb : ∀ (kV doc pm : Value) (an : Option Addr) (cdv ct : Value) (us : List Value), us.length = d.ps.length → bindArgs (PySem.W.fnOf name qual (argsOf (top k)) (bodyOf (top k)) (scopeOf (top k)) .none kV doc pm an cdv ct) ⟨us, []⟩ = pure (d.ps.zip us))
    (hfs : fnsAll (V7 w K mg base) L d.fns) (hL : 2 ≤ L) (kp : Keeps Ctab d Ph) : FnS (V7 w K mg base) x Ph (L + 1) := by
  obtain ⟨fd, F⟩ := (says_d c).def_ j hj
  have F' : FunD K name qual (argsOf (top k)) (bodyOf (top k)) (scopeOf (top k)) [] [] (He.ga K x) fd := F
  exact ⟨L + 1, He.ga K x, fd, d.ps, mkG g F' tr hfs hL kp, Nat.le_refl _, He.glo_ok X G ((says_d c).fact j hf), F'.kp, F'.bindsN hb⟩
variable (X : K.In base) (G : base.Ns mainGlobals mg) (c : SaysK w K) (g : Gnd (V7 w K mg base) cnsG exsG)
include X G c g
theorem S10 : FnS (V7 w K mg base) "is_whole_basics" (Ctab 10) 3 := mkS (k := 10) (L := 2) (Ph := p10) X G c g 81 rfl rfl tr10 (fun _ _ _ _ _ _ us hl => match us, hl with | [_], _ => rfl) trivial (by decide) (k10)
theorem S22 : FnS (V7 w K mg base) "moved" (Ctab 22) 3 := mkS (k := 22) (L := 2) (Ph := p22) X G c g 4 rfl rfl tr22 (fun _ _ _ _ _ _ us hl => match us, hl with | [_, _, _], _ => rfl) trivial (by decide) (k22)
theorem S35 : FnS (V7 w K mg base) "numeral_found" (Ctab 35) 3 := mkS (k := 35) (L := 2) (Ph := p35) X G c g 9 rfl rfl tr35 (fun _ _ _ _ _ _ us hl => match us, hl with | [_, _], _ => rfl) trivial (by decide) (k35)
theorem S53 : FnS (V7 w K mg base) "may_stand" (Ctab 53) 3 := mkS (k := 53) (L := 2) (Ph := p53) X G c g 18 rfl rfl tr53 (fun _ _ _ _ _ _ us hl => match us, hl with | [_, _, _], _ => rfl) trivial (by decide) (k53)
theorem S63 : FnS (V7 w K mg base) "stream_at" (Ctab 63) 3 := mkS (k := 63) (L := 2) (Ph := p63) X G c g 25 rfl rfl tr63 (fun _ _ _ _ _ _ us hl => match us, hl with | [_, _], _ => rfl) trivial (by decide) (k63)
theorem S64 : FnS (V7 w K mg base) "bounded" (Ctab 64) 3 := mkS (k := 64) (L := 2) (Ph := p64) X G c g 26 rfl rfl tr64 (fun _ _ _ _ _ _ us hl => match us, hl with | [_, _, _, _], _ => rfl) trivial (by decide) (k64)
theorem S79 : FnS (V7 w K mg base) "_law_mixed" (Ctab 79) 3 := mkS (k := 79) (L := 2) (Ph := p79) X G c g 38 rfl rfl tr79 (fun _ _ _ _ _ _ us hl => match us, hl with | [_, _], _ => rfl) trivial (by decide) (k79)
theorem S80 : FnS (V7 w K mg base) "_law_folded" (Ctab 80) 3 := mkS (k := 80) (L := 2) (Ph := p80) X G c g 39 rfl rfl tr80 (fun _ _ _ _ _ _ us hl => match us, hl with | [_], _ => rfl) trivial (by decide) (k80)
theorem S83 : FnS (V7 w K mg base) "_law_like" (Ctab 83) 3 := mkS (k := 83) (L := 2) (Ph := p83) X G c g 42 rfl rfl tr83 (fun _ _ _ _ _ _ us hl => match us, hl with | [_, _], _ => rfl) trivial (by decide) (k83)
theorem S85 : FnS (V7 w K mg base) "_law_is_int" (Ctab 85) 3 := mkS (k := 85) (L := 2) (Ph := p85) X G c g 44 rfl rfl tr85 (fun _ _ _ _ _ _ us hl => match us, hl with | [_, _, _], _ => rfl) trivial (by decide) (k85)
theorem S90 : FnS (V7 w K mg base) "_law_numeral" (Ctab 90) 3 := mkS (k := 90) (L := 2) (Ph := p90) X G c g 49 rfl rfl tr90 (fun _ _ _ _ _ _ us hl => match us, hl with | [_], _ => rfl) trivial (by decide) (k90)
theorem S91 : FnS (V7 w K mg base) "_law_row" (Ctab 91) 3 := mkS (k := 91) (L := 2) (Ph := p91) X G c g 50 rfl rfl tr91 (fun _ _ _ _ _ _ us hl => match us, hl with | [_], _ => rfl) trivial (by decide) (k91)
theorem S92 : FnS (V7 w K mg base) "_law_left" (Ctab 92) 3 := mkS (k := 92) (L := 2) (Ph := p92) X G c g 51 rfl rfl tr92 (fun _ _ _ _ _ _ us hl => match us, hl with | [_, _], _ => rfl) trivial (by decide) (k92)
theorem S94 : FnS (V7 w K mg base) "_law_turned" (Ctab 94) 3 := mkS (k := 94) (L := 2) (Ph := p94) X G c g 53 rfl rfl tr94 (fun _ _ _ _ _ _ us hl => match us, hl with | [_, _], _ => rfl) trivial (by decide) (k94)
theorem S103 : FnS (V7 w K mg base) "_law_failed" (Ctab 103) 3 := mkS (k := 103) (L := 2) (Ph := p103) X G c g 62 rfl rfl tr103 (fun _ _ _ _ _ _ us hl => match us, hl with | [_, _, _], _ => rfl) trivial (by decide) (k103)
theorem S110 : FnS (V7 w K mg base) "_law_may_stand" (Ctab 110) 3 := mkS (k := 110) (L := 2) (Ph := p110) X G c g 69 rfl rfl tr110 (fun _ _ _ _ _ _ us hl => match us, hl with | [_, _, _], _ => rfl) trivial (by decide) (k110)
theorem S12 : FnS (V7 w K mg base) "is_within" (Ctab 12) 4 := mkS (k := 12) (L := 3) (Ph := p12) X G c g 0 rfl rfl tr12 (fun _ _ _ _ _ _ us hl => match us, hl with | [_, _, _], _ => rfl) ⟨(S10 X G c g).up (by decide), trivial⟩ (by decide) (k12 rfl)
theorem S23 : FnS (V7 w K mg base) "rests_of_fours" (Ctab 23) 4 := mkS (k := 23) (L := 3) (Ph := p23) X G c g 5 rfl rfl tr23 (fun _ _ _ _ _ _ us hl => match us, hl with | [], _ => rfl) ⟨(S22 X G c g).up (by decide), trivial⟩ (by decide) (k23 rfl)
theorem S54 : FnS (V7 w K mg base) "is_next" (Ctab 54) 4 := mkS (k := 54) (L := 3) (Ph := p54) X G c g 19 rfl rfl tr54 (fun _ _ _ _ _ _ us hl => match us, hl with | [_, _, _], _ => rfl) ⟨(S53 X G c g).up (by decide), trivial⟩ (by decide) (k54 rfl)
theorem S61 : FnS (V7 w K mg base) "number_at" (Ctab 61) 4 := mkS (k := 61) (L := 3) (Ph := p61) X G c g 23 rfl rfl tr61 (fun _ _ _ _ _ _ us hl => match us, hl with | [_, _], _ => rfl) ⟨(S35 X G c g).up (by decide), trivial⟩ (by decide) (k61 rfl)
theorem S81 : FnS (V7 w K mg base) "_law_draw" (Ctab 81) 4 := (mkS (k := 81) (L := 3) (Ph := p81r) X G c g 40 rfl rfl tr81 (fun _ _ _ _ _ _ us hl => match us, hl with | [_, _], _ => rfl) ⟨(S79 X G c g).up (by decide), trivial⟩ (by decide) (k81 rfl)).weak fun _ _ _ _ s => sp81 s
theorem S82 : FnS (V7 w K mg base) "_law_begun" (Ctab 82) 4 := (mkS (k := 82) (L := 3) (Ph := p82r) X G c g 41 rfl rfl tr82 (fun _ _ _ _ _ _ us hl => match us, hl with | [_], _ => rfl) ⟨(S80 X G c g).up (by decide), trivial⟩ (by decide) (k82 rfl)).weak fun _ _ _ _ s => sp82 s
theorem S93 : FnS (V7 w K mg base) "_law_check" (Ctab 93) 4 := mkS (k := 93) (L := 3) (Ph := p93) X G c g 52 rfl rfl tr93 (fun _ _ _ _ _ _ us hl => match us, hl with | [_], _ => rfl) ⟨(S92 X G c g).up (by decide), (S91 X G c g).up (by decide), trivial⟩ (by decide) (k93 rfl rfl)
theorem S99 : FnS (V7 w K mg base) "_law_head_row" (Ctab 99) 4 := mkS (k := 99) (L := 3) (Ph := p99) X G c g 58 rfl rfl tr99 (fun _ _ _ _ _ _ us hl => match us, hl with | [_], _ => rfl) ⟨(S90 X G c g).up (by decide), trivial⟩ (by decide) (k99 rfl)
theorem S100 : FnS (V7 w K mg base) "_law_ack_row" (Ctab 100) 4 := mkS (k := 100) (L := 3) (Ph := p100) X G c g 59 rfl rfl tr100 (fun _ _ _ _ _ _ us hl => match us, hl with | [_, _], _ => rfl) ⟨(S90 X G c g).up (by decide), trivial⟩ (by decide) (k100 rfl)
theorem S104 : FnS (V7 w K mg base) "_law_taken" (Ctab 104) 4 := mkS (k := 104) (L := 3) (Ph := p104) X G c g 63 rfl rfl tr104 (fun _ _ _ _ _ _ us hl => match us, hl with | [_], _ => rfl) ⟨(S103 X G c g).up (by decide), trivial⟩ (by decide) (k104 rfl)
theorem S106 : FnS (V7 w K mg base) "_law_stream" (Ctab 106) 4 := mkS (k := 106) (L := 3) (Ph := p106) X G c g 65 rfl rfl tr106 (fun _ _ _ _ _ _ us hl => match us, hl with | [_], _ => rfl) ⟨(S103 X G c g).up (by decide), trivial⟩ (by decide) (k106 rfl)
theorem S117 : FnS (V7 w K mg base) "_law_is_piece" (Ctab 117) 4 := mkS (k := 117) (L := 3) (Ph := p117) X G c g 76 rfl rfl tr117 (fun _ _ _ _ _ _ us hl => match us, hl with | [_], _ => rfl) ⟨(S85 X G c g).up (by decide), trivial⟩ (by decide) (k117 rfl)
theorem S13 : FnS (V7 w K mg base) "need_number" (Ctab 13) 5 := mkS (k := 13) (L := 4) (Ph := p13) X G c g 1 rfl rfl tr13 (fun _ _ _ _ _ _ us hl => match us, hl with | [_, _, _], _ => rfl) ⟨(S12 X G c g).up (by decide), trivial⟩ (by decide) (k13 rfl)
theorem S14 : FnS (V7 w K mg base) "is_number" (Ctab 14) 5 := mkS (k := 14) (L := 4) (Ph := p14) X G c g 2 rfl rfl tr14 (fun _ _ _ _ _ _ us hl => match us, hl with | [_], _ => rfl) ⟨(S12 X G c g).up (by decide), trivial⟩ (by decide) (k14 rfl)
theorem S17 : FnS (V7 w K mg base) "need_octets" (Ctab 17) 5 := mkS (k := 17) (L := 4) (Ph := p17) X G c g 3 rfl rfl tr17 (fun _ _ _ _ _ _ us hl => match us, hl with | [_], _ => rfl) ⟨(S12 X G c g).up (by decide), trivial⟩ (by decide) (k17 rfl)
theorem S39 : FnS (V7 w K mg base) "are_octets" (Ctab 39) 5 := mkS (k := 39) (L := 4) (Ph := p39) X G c g 10 rfl rfl tr39 (fun _ _ _ _ _ _ us hl => match us, hl with | [_, _], _ => rfl) ⟨(S12 X G c g).up (by decide), trivial⟩ (by decide) (k39 rfl)
theorem S43 : FnS (V7 w K mg base) "is_range" (Ctab 43) 5 := mkS (k := 43) (L := 4) (Ph := p43) X G c g 12 rfl rfl tr43 (fun _ _ _ _ _ _ us hl => match us, hl with | [_], _ => rfl) ⟨(S12 X G c g).up (by decide), trivial⟩ (by decide) (k43 rfl)
theorem S62 : FnS (V7 w K mg base) "header_at" (Ctab 62) 5 := mkS (k := 62) (L := 4) (Ph := p62) X G c g 24 rfl rfl tr62 (fun _ _ _ _ _ _ us hl => match us, hl with | [_], _ => rfl) ⟨(S61 X G c g).up (by decide), trivial⟩ (by decide) (k62 rfl)
theorem S65 : FnS (V7 w K mg base) "range_at" (Ctab 65) 5 := mkS (k := 65) (L := 4) (Ph := p65) X G c g 27 rfl rfl tr65 (fun _ _ _ _ _ _ us hl => match us, hl with | [_, _, _], _ => rfl) ⟨(S61 X G c g).up (by decide), (S64 X G c g).up (by decide), trivial⟩ (by decide) (k65 rfl rfl)
theorem S67 : FnS (V7 w K mg base) "room_at" (Ctab 67) 5 := mkS (k := 67) (L := 4) (Ph := p67) X G c g 29 rfl rfl tr67 (fun _ _ _ _ _ _ us hl => match us, hl with | [_, _, _], _ => rfl) ⟨(S63 X G c g).up (by decide), (S61 X G c g).up (by decide), trivial⟩ (by decide) (k67 rfl rfl)
theorem S68 : FnS (V7 w K mg base) "data_at" (Ctab 68) 5 := mkS (k := 68) (L := 4) (Ph := p68) X G c g 30 rfl rfl tr68 (fun _ _ _ _ _ _ us hl => match us, hl with | [_, _], _ => rfl) ⟨(S63 X G c g).up (by decide), (S61 X G c g).up (by decide), (S64 X G c g).up (by decide), trivial⟩ (by decide) (k68 rfl rfl rfl)
theorem S76 : FnS (V7 w K mg base) "need_form" (Ctab 76) 5 := mkS (k := 76) (L := 4) (Ph := p76) X G c g 36 rfl rfl tr76 (fun _ _ _ _ _ _ us hl => match us, hl with | [_], _ => rfl) ⟨(S12 X G c g).up (by decide), trivial⟩ (by decide) (k76 rfl)
theorem S84 : FnS (V7 w K mg base) "_law_of" (Ctab 84) 5 := mkS (k := 84) (L := 4) (Ph := p84) X G c g 43 rfl rfl tr84 (fun _ _ _ _ _ _ us hl => match us, hl with | [_, _], _ => rfl) ⟨(S81 X G c g).up (by decide), trivial⟩ (by decide) (k84 rfl)
theorem S86 : FnS (V7 w K mg base) "_law_order" (Ctab 86) 5 := mkS (k := 86) (L := 4) (Ph := p86) X G c g 45 rfl rfl tr86 (fun _ _ _ _ _ _ us hl => match us, hl with | [_, _], _ => rfl) ⟨(S81 X G c g).up (by decide), trivial⟩ (by decide) (k86 rfl)
theorem S87 : FnS (V7 w K mg base) "_law_below" (Ctab 87) 5 := mkS (k := 87) (L := 4) (Ph := p87) X G c g 46 rfl rfl tr87 (fun _ _ _ _ _ _ us hl => match us, hl with | [_, _], _ => rfl) ⟨(S81 X G c g).up (by decide), trivial⟩ (by decide) (k87 rfl)
theorem S101 : FnS (V7 w K mg base) "_law_frame_row" (Ctab 101) 5 := mkS (k := 101) (L := 4) (Ph := p101) X G c g 60 rfl rfl tr101 (fun _ _ _ _ _ _ us hl => match us, hl with | [_], _ => rfl) ⟨(S100 X G c g).up (by decide), (S90 X G c g).up (by decide), trivial⟩ (by decide) (k101 rfl rfl)
theorem S105 : FnS (V7 w K mg base) "_law_taken_within" (Ctab 105) 5 := mkS (k := 105) (L := 4) (Ph := p105) X G c g 64 rfl rfl tr105 (fun _ _ _ _ _ _ us hl => match us, hl with | [_, _, _], _ => rfl) ⟨(S104 X G c g).up (by decide), (S103 X G c g).up (by decide), trivial⟩ (by decide) (k105 rfl rfl)
theorem S108 : FnS (V7 w K mg base) "_law_room" (Ctab 108) 5 := mkS (k := 108) (L := 4) (Ph := p108) X G c g 67 rfl rfl tr108 (fun _ _ _ _ _ _ us hl => match us, hl with | [_, _], _ => rfl) ⟨(S106 X G c g).up (by decide), (S103 X G c g).up (by decide), (S104 X G c g).up (by decide), trivial⟩ (by decide) (k108 rfl rfl rfl)
theorem S109 : FnS (V7 w K mg base) "_law_data" (Ctab 109) 5 := mkS (k := 109) (L := 4) (Ph := p109) X G c g 68 rfl rfl tr109 (fun _ _ _ _ _ _ us hl => match us, hl with | [_, _], _ => rfl) ⟨(S106 X G c g).up (by decide), (S104 X G c g).up (by decide), (S103 X G c g).up (by decide), trivial⟩ (by decide) (k109 rfl rfl rfl)
theorem S24 : FnS (V7 w K mg base) "rest_by_fours" (Ctab 24) 6 := mkS (k := 24) (L := 5) (Ph := p24) X G c g 6 rfl rfl tr24 (fun _ _ _ _ _ _ us hl => match us, hl with | [_], _ => rfl) ⟨(S17 X G c g).up (by decide), (S23 X G c g).up (by decide), trivial⟩ (by decide) (k24 rfl rfl)
theorem S34 : FnS (V7 w K mg base) "numeral" (Ctab 34) 6 := mkS (k := 34) (L := 5) (Ph := p34) X G c g 8 rfl rfl tr34 (fun _ _ _ _ _ _ us hl => match us, hl with | [_], _ => rfl) ⟨(S13 X G c g).up (by decide), trivial⟩ (by decide) (k34 rfl)
theorem S40 : FnS (V7 w K mg base) "is_piece" (Ctab 40) 6 := mkS (k := 40) (L := 5) (Ph := p40) X G c g 11 rfl rfl tr40 (fun _ _ _ _ _ _ us hl => match us, hl with | [_], _ => rfl) ⟨(S39 X G c g).up (by decide), (S12 X G c g).up (by decide), trivial⟩ (by decide) (k40 rfl rfl)
theorem S44 : FnS (V7 w K mg base) "need_ranges" (Ctab 44) 6 := mkS (k := 44) (L := 5) (Ph := p44) X G c g 13 rfl rfl tr44 (fun _ _ _ _ _ _ us hl => match us, hl with | [_], _ => rfl) ⟨(S43 X G c g).up (by decide), trivial⟩ (by decide) (k44 rfl)
theorem S50 : FnS (V7 w K mg base) "is_header" (Ctab 50) 6 := mkS (k := 50) (L := 5) (Ph := p50) X G c g 15 rfl rfl tr50 (fun _ _ _ _ _ _ us hl => match us, hl with | [_], _ => rfl) ⟨(S12 X G c g).up (by decide), (S14 X G c g).up (by decide), trivial⟩ (by decide) (k50 rfl rfl)
theorem S66 : FnS (V7 w K mg base) "ack_at" (Ctab 66) 6 := mkS (k := 66) (L := 5) (Ph := p66) X G c g 28 rfl rfl tr66 (fun _ _ _ _ _ _ us hl => match us, hl with | [_, _], _ => rfl) ⟨(S61 X G c g).up (by decide), (S64 X G c g).up (by decide), (S65 X G c g).up (by decide), trivial⟩ (by decide) (k66 rfl rfl rfl)
theorem S88 : FnS (V7 w K mg base) "_law_number" (Ctab 88) 6 := mkS (k := 88) (L := 5) (Ph := p88) X G c g 47 rfl rfl tr88 (fun _ _ _ _ _ _ us hl => match us, hl with | [_], _ => rfl) ⟨(S81 X G c g).up (by decide), (S87 X G c g).up (by decide), trivial⟩ (by decide) (k88 rfl rfl)
theorem S89 : FnS (V7 w K mg base) "_law_octets" (Ctab 89) 6 := mkS (k := 89) (L := 5) (Ph := p89) X G c g 48 rfl rfl tr89 (fun _ _ _ _ _ _ us hl => match us, hl with | [_, _], _ => rfl) ⟨(S84 X G c g).up (by decide), (S81 X G c g).up (by decide), trivial⟩ (by decide) (k89 rfl rfl)
theorem S95 : FnS (V7 w K mg base) "_law_ranges" (Ctab 95) 6 := mkS (k := 95) (L := 5) (Ph := p95) X G c g 54 rfl rfl tr95 (fun _ _ _ _ _ _ us hl => match us, hl with | [_, _], _ => rfl) ⟨(S84 X G c g).up (by decide), (S81 X G c g).up (by decide), (S87 X G c g).up (by decide), trivial⟩ (by decide) (k95 rfl rfl rfl)
theorem S102 : FnS (V7 w K mg base) "_law_body" (Ctab 102) 6 := mkS (k := 102) (L := 5) (Ph := p102) X G c g 61 rfl rfl tr102 (fun _ _ _ _ _ _ us hl => match us, hl with | [_, _], _ => rfl) ⟨(S99 X G c g).up (by decide), (S101 X G c g).up (by decide), trivial⟩ (by decide) (k102 rfl rfl)
theorem S107 : FnS (V7 w K mg base) "_law_ack" (Ctab 107) 6 := mkS (k := 107) (L := 5) (Ph := p107) X G c g 66 rfl rfl tr107 (fun _ _ _ _ _ _ us hl => match us, hl with | [_], _ => rfl) ⟨(S105 X G c g).up (by decide), (S104 X G c g).up (by decide), (S103 X G c g).up (by decide), trivial⟩ (by decide) (k107 rfl rfl rfl)
theorem S115 : FnS (V7 w K mg base) "_law_bent" (Ctab 115) 6 := mkS (k := 115) (L := 5) (Ph := p115) X G c g 74 rfl rfl tr115 (fun _ _ _ _ _ _ us hl => match us, hl with | [_, _], _ => rfl) ⟨(S81 X G c g).up (by decide), (S84 X G c g).up (by decide), trivial⟩ (by decide) (k115 rfl rfl)
theorem S29 : FnS (V7 w K mg base) "check_of" (Ctab 29) 7 := mkS (k := 29) (L := 6) (Ph := p29) X G c g 7 rfl rfl tr29 (fun _ _ _ _ _ _ us hl => match us, hl with | [_], _ => rfl) ⟨(S24 X G c g).up (by decide), (S17 X G c g).up (by decide), trivial⟩ (by decide) (k29 rfl rfl)
theorem S30 : FnS (V7 w K mg base) "is_whole_checks" (Ctab 30) 7 := mkS (k := 30) (L := 6) (Ph := p30) X G c g 82 rfl rfl tr30 (fun _ _ _ _ _ _ us hl => match us, hl with | [_], _ => rfl) ⟨(S17 X G c g).up (by decide), (S24 X G c g).up (by decide), trivial⟩ (by decide) (k30 rfl rfl)
theorem S45 : FnS (V7 w K mg base) "is_ranges" (Ctab 45) 7 := mkS (k := 45) (L := 6) (Ph := p45) X G c g 14 rfl rfl tr45 (fun _ _ _ _ _ _ us hl => match us, hl with | [_], _ => rfl) ⟨(S44 X G c g).up (by decide), trivial⟩ (by decide) (k45 rfl)
theorem S55 : FnS (V7 w K mg base) "head_octets" (Ctab 55) 7 := mkS (k := 55) (L := 6) (Ph := p55) X G c g 20 rfl rfl tr55 (fun _ _ _ _ _ _ us hl => match us, hl with | [_], _ => rfl) ⟨(S34 X G c g).up (by decide), trivial⟩ (by decide) (k55 rfl)
theorem S56 : FnS (V7 w K mg base) "ack_octets" (Ctab 56) 7 := mkS (k := 56) (L := 6) (Ph := p56) X G c g 21 rfl rfl tr56 (fun _ _ _ _ _ _ us hl => match us, hl with | [_], _ => rfl) ⟨(S34 X G c g).up (by decide), trivial⟩ (by decide) (k56 rfl)
theorem S69 : FnS (V7 w K mg base) "frame_at" (Ctab 69) 7 := mkS (k := 69) (L := 6) (Ph := p69) X G c g 31 rfl rfl tr69 (fun _ _ _ _ _ _ us hl => match us, hl with | [_, _, _, _], _ => rfl) ⟨(S53 X G c g).up (by decide), (S66 X G c g).up (by decide), (S67 X G c g).up (by decide), (S68 X G c g).up (by decide), trivial⟩ (by decide) (k69 rfl rfl rfl rfl)
theorem S96 : FnS (V7 w K mg base) "_law_piece" (Ctab 96) 7 := mkS (k := 96) (L := 6) (Ph := p96) X G c g 55 rfl rfl tr96 (fun _ _ _ _ _ _ us hl => match us, hl with | [_, _], _ => rfl) ⟨(S89 X G c g).up (by decide), (S81 X G c g).up (by decide), (S88 X G c g).up (by decide), trivial⟩ (by decide) (k96 rfl rfl rfl)
theorem S97 : FnS (V7 w K mg base) "_law_header" (Ctab 97) 7 := mkS (k := 97) (L := 6) (Ph := p97) X G c g 56 rfl rfl tr97 (fun _ _ _ _ _ _ us hl => match us, hl with | [_], _ => rfl) ⟨(S81 X G c g).up (by decide), (S88 X G c g).up (by decide), trivial⟩ (by decide) (k97 rfl rfl)
theorem S111 : FnS (V7 w K mg base) "_law_frame" (Ctab 111) 7 := mkS (k := 111) (L := 6) (Ph := p111) X G c g 70 rfl rfl tr111 (fun _ _ _ _ _ _ us hl => match us, hl with | [_, _, _], _ => rfl) ⟨(S103 X G c g).up (by decide), (S110 X G c g).up (by decide), (S107 X G c g).up (by decide), (S108 X G c g).up (by decide), (S109 X G c g).up (by decide), trivial⟩ (by decide) (k111 rfl rfl rfl rfl rfl)
theorem S51 : FnS (V7 w K mg base) "is_ack" (Ctab 51) 8 := mkS (k := 51) (L := 7) (Ph := p51) X G c g 16 rfl rfl tr51 (fun _ _ _ _ _ _ us hl => match us, hl with | [_], _ => rfl) ⟨(S14 X G c g).up (by decide), (S45 X G c g).up (by decide), trivial⟩ (by decide) (k51 rfl rfl)
theorem S57 : FnS (V7 w K mg base) "frame_octets" (Ctab 57) 8 := mkS (k := 57) (L := 7) (Ph := p57) X G c g 22 rfl rfl tr57 (fun _ _ _ _ _ _ us hl => match us, hl with | [_], _ => rfl) ⟨(S56 X G c g).up (by decide), (S34 X G c g).up (by decide), trivial⟩ (by decide) (k57 rfl rfl)
theorem S70 : FnS (V7 w K mg base) "body_read" (Ctab 70) 8 := mkS (k := 70) (L := 7) (Ph := p70) X G c g 32 rfl rfl tr70 (fun _ _ _ _ _ _ us hl => match us, hl with | [_], _ => rfl) ⟨(S62 X G c g).up (by decide), (S69 X G c g).up (by decide), trivial⟩ (by decide) (k70 rfl rfl)
theorem S98 : FnS (V7 w K mg base) "_law_frames" (Ctab 98) 8 := mkS (k := 98) (L := 7) (Ph := p98) X G c g 57 rfl rfl tr98 (fun _ _ _ _ _ _ us hl => match us, hl with | [_, _], _ => rfl) ⟨(S81 X G c g).up (by decide), (S95 X G c g).up (by decide), (S88 X G c g).up (by decide), (S96 X G c g).up (by decide), trivial⟩ (by decide) (k98 rfl rfl rfl rfl)
theorem S112 : FnS (V7 w K mg base) "_law_read" (Ctab 112) 8 := mkS (k := 112) (L := 7) (Ph := p112) X G c g 71 rfl rfl tr112 (fun _ _ _ _ _ _ us hl => match us, hl with | [_], _ => rfl) ⟨(S104 X G c g).up (by decide), (S111 X G c g).up (by decide), trivial⟩ (by decide) (k112 rfl rfl)
theorem S52 : FnS (V7 w K mg base) "is_frame" (Ctab 52) 9 := mkS (k := 52) (L := 8) (Ph := p52) X G c g 17 rfl rfl tr52 (fun _ _ _ _ _ _ us hl => match us, hl with | [_], _ => rfl) ⟨(S51 X G c g).up (by decide), (S14 X G c g).up (by decide), (S12 X G c g).up (by decide), (S40 X G c g).up (by decide), trivial⟩ (by decide) (k52 rfl rfl rfl rfl)
theorem S77 : FnS (V7 w K mg base) "read_datagram" (Ctab 77) 9 := mkS (k := 77) (L := 8) (Ph := p77) X G c g 37 rfl rfl tr77 (fun _ _ _ _ _ _ us hl => match us, hl with | [_], _ => rfl) ⟨(S76 X G c g).up (by decide), (S30 X G c g).up (by decide), (S70 X G c g).up (by decide), trivial⟩ (by decide) (k77 rfl rfl rfl)
theorem S114 : FnS (V7 w K mg base) "_law_mixed_body" (Ctab 114) 9 := mkS (k := 114) (L := 8) (Ph := p114) X G c g 73 rfl rfl tr114 (fun _ _ _ _ _ _ us hl => match us, hl with | [_], _ => rfl) ⟨(S97 X G c g).up (by decide), (S98 X G c g).up (by decide), (S81 X G c g).up (by decide), (S86 X G c g).up (by decide), (S84 X G c g).up (by decide), (S102 X G c g).up (by decide), trivial⟩ (by decide) (k114 rfl rfl rfl rfl rfl rfl)
theorem S73 : FnS (V7 w K mg base) "datagram_fault" (Ctab 73) 10 := mkS (k := 73) (L := 9) (Ph := p73) X G c g 33 rfl rfl tr73 (fun _ _ _ _ _ _ us hl => match us, hl with | [_], _ => rfl) ⟨(S50 X G c g).up (by decide), (S52 X G c g).up (by decide), (S54 X G c g).up (by decide), trivial⟩ (by decide) (k73 rfl rfl rfl)
theorem S113 : FnS (V7 w K mg base) "_law_told" (Ctab 113) 10 := mkS (k := 113) (L := 9) (Ph := p113) X G c g 72 rfl rfl tr113 (fun _ _ _ _ _ _ us hl => match us, hl with | [_], _ => rfl) ⟨(S77 X G c g).up (by decide), trivial⟩ (by decide) (k113 rfl)
theorem S74 : FnS (V7 w K mg base) "need_datagram" (Ctab 74) 11 := mkS (k := 74) (L := 10) (Ph := p74) X G c g 34 rfl rfl tr74 (fun _ _ _ _ _ _ us hl => match us, hl with | [_], _ => rfl) ⟨(S73 X G c g).up (by decide), trivial⟩ (by decide) (k74 rfl)
theorem S120 : FnS (V7 w K mg base) "_law_hands_right" (Ctab 120) 11 := mkS (k := 120) (L := 10) (Ph := p120) X G c g 79 rfl rfl tr120 (fun _ _ _ _ _ _ us hl => match us, hl with | [], _ => rfl) ⟨(S83 X G c g).up (by decide), (S113 X G c g).up (by decide), (S93 X G c g).up (by decide), trivial⟩ (by decide) (k120 rfl rfl rfl)
theorem S75 : FnS (V7 w K mg base) "written" (Ctab 75) 12 := mkS (k := 75) (L := 11) (Ph := p75) X G c g 35 rfl rfl tr75 (fun _ _ _ _ _ _ us hl => match us, hl with | [_], _ => rfl) ⟨(S74 X G c g).up (by decide), (S55 X G c g).up (by decide), (S57 X G c g).up (by decide), (S29 X G c g).up (by decide), trivial⟩ (by decide) (k75 rfl rfl rfl rfl)
theorem S119 : FnS (V7 w K mg base) "_law_is_told" (Ctab 119) 12 := mkS (k := 119) (L := 11) (Ph := p119) X G c g 78 rfl rfl tr119 (fun _ _ _ _ _ _ us hl => match us, hl with | [_, _], _ => rfl) ⟨(S74 X G c g).up (by decide), (S83 X G c g).up (by decide), (S73 X G c g).up (by decide), trivial⟩ (by decide) (k119 rfl rfl rfl)
theorem S116 : FnS (V7 w K mg base) "_law_octets_right" (Ctab 116) 13 := mkS (k := 116) (L := 12) (Ph := p116) X G c g 75 rfl rfl tr116 (fun _ _ _ _ _ _ us hl => match us, hl with | [_], _ => rfl) ⟨(S114 X G c g).up (by decide), (S115 X G c g).up (by decide), (S102 X G c g).up (by decide), (S97 X G c g).up (by decide), (S98 X G c g).up (by decide), (S93 X G c g).up (by decide), (S112 X G c g).up (by decide), (S83 X G c g).up (by decide), (S113 X G c g).up (by decide), (S75 X G c g).up (by decide), (S94 X G c g).up (by decide), (S81 X G c g).up (by decide), trivial⟩ (by decide) (k116 rfl rfl rfl rfl rfl rfl rfl rfl rfl rfl rfl rfl)
theorem S118 : FnS (V7 w K mg base) "_law_values_right" (Ctab 118) 13 := mkS (k := 118) (L := 12) (Ph := p118) X G c g 77 rfl rfl tr118 (fun _ _ _ _ _ _ us hl => match us, hl with | [_], _ => rfl) ⟨(S97 X G c g).up (by decide), (S84 X G c g).up (by decide), (S117 X G c g).up (by decide), (S119 X G c g).up (by decide), trivial⟩ (by decide) (k118 rfl rfl rfl rfl)
omit X G c
include X G c
theorem G121 {f : Addr} {fd : FuncData} (F : FunD K "law" "law" (argsOf (top 121)) (bodyOf (top 121)) (scopeOf (top 121)) [] [] f fd) : FnG P7 w K mg base 14 f fd ["_law_script"] (spOf K (fun x => He.ga K x) p121) := mkG (k := 121) (L := 13) g F tr121 ⟨(S82 X G c g).up (by decide), (S120 X G c g).up (by decide), (S116 X G c g).up (by decide), (S114 X G c g).up (by decide), (S93 X G c g).up (by decide), (S81 X G c g).up (by decide), (S84 X G c g).up (by decide), (S83 X G c g).up (by decide), (S113 X G c g).up (by decide), (S118 X G c g).up (by decide), trivial⟩ (by decide) (k121 rfl rfl rfl rfl rfl rfl rfl rfl rfl rfl)
end
end K7
/-! K7: the law called. -/
namespace K7
open PySem PySem.Spec PyProof.Rows L2
section
variable {P : Program} {w : World} {K : PySem.W.Frag} {mg mb : Str → Option Value} {cls : Str → Addr} {Ph : DF} {n : Nat} {fa a : Addr} {fd : FuncData} {x : Str} {sh : Shared} {us : List Value} {ns : List Int}
theorem ends_only {o : Obj} {T : Hp} (hT : ∀ b u, T b = some u → b = a ∧ K.lookup a = none ∧ u = .frz o (.lst (ns.map V.int))) (hget : sh.heap.get? a = some o) (KX : K.In sh.heap) : K.In (hidT sh.heap T) := by
  intro b u hb
  have h1 := KX b u hb
  cases ht : T b with
  | none => exact hidT_get h1 ht
  | some z =>
    obtain ⟨e1, e2, _⟩ := hT b z ht
    rw [e1, e2] at hb
    cases hb
theorem ends_ns {o : Obj} {T : Hp} (hT : ∀ b u, T b = some u → b = a ∧ K.lookup a = none ∧ u = .frz o (.lst (ns.map V.int))) (hget : sh.heap.get? a = some o) (hno : ∀ es ep, o.data ≠ .dict es ep) {b : Addr} {m : Str → Option Value} (h : sh.heap.Ns b m) : (hidT sh.heap T).Ns b m := by
  obtain ⟨u, es, ep, h1, h2, h3⟩ := h
  refine ⟨u, es, ep, hidT_get h1 ?_, h2, h3⟩
  cases ht : T b with
  | none => rfl
  | some z =>
    obtain ⟨e1, _, _⟩ := hT b z ht
    rw [e1, hget] at h1
    cases h1
    exact absurd h2 (hno es ep)
/-- the law called on its script -/
theorem call7 (KX : K.In sh.heap) (hns : sh.heap.Ns mainGlobals mg) (hb : sh.heap.Ns builtinsNs mb) (hbb : ∀ y : Str, y ≠ "__name__" → mb y = bootBuiltins y) (hlim : sh.heap.NoLimit) (hgen : sh.gens = #[])
    (hget : sh.heap.get? a = some { cls := .type "list", data := .seq us.toArray }) (hints : IntsAre us ns) (hlen : ns.length ≤ sizeLine) (room : Room n callerA)
    (F : ∀ base : Heap, K.In base → base.Ns mainGlobals mg → FnG P w K mg base n fa fd [x] (spOf K cls Ph)) (bind : ∀ (s : Shared) (u : Value), BindsTo s fd ⟨[u], []⟩ [(x, u)])
    (hPh : ∀ (q : D → Mem → Prop) (xi : XF), (∀ M', q (.bl true) M') → Ph [.scr ns] mem0 q xi) :
    codeAny (model P w) callerA (.call (.ref fa) ⟨[.ref a], []⟩) (fun r z => r = .ok (.ret (.bool true)) ∧ OldK sh.heap z.heap ∧ z.os = sh.os ∧ AllBare z.gens) sh := by
  have rels := vals_ints hints
  have len2 := hints.length
  have main : ∀ T : Hp, SqF K T a (ns.map V.int) → HOk P w T sh.heap → (∀ b u, T b = some u → b = a ∧ K.lookup a = none ∧ u = .frz { cls := .type "list", data := .seq us.toArray } (.lst (ns.map V.int))) →
      codeAny (model P w) callerA (.call (.ref fa) ⟨[.ref a], []⟩) (fun r z => r = .ok (.ret (.bool true)) ∧ OldK sh.heap z.heap ∧ z.os = sh.os ∧ AllBare z.gens) sh := by
    intro T hS ok hT
    have kin := ends_only (sh := sh) hT hget KX
    have nss : ∀ {b : Addr} {m : Str → Option Value}, sh.heap.Ns b m → (hidT sh.heap T).Ns b m := fun h => ends_ns hT hget (fun _ _ z => by cases z) h
    obtain ⟨mc, lim1, lim2⟩ := hlim
    have md : Mod K mg (hidT sh.heap T) := ⟨kin, nss hns, ⟨mb, nss hb, hbb⟩, ⟨mc, nss lim1, lim2⟩⟩
    have env : Env0 P w K mg (hidT sh.heap T) callerA [] sh T := {
      frames := rfl
      mod := md
      bs := fun b o e => of_hidT e
      bsz := Nat.le_of_eq (hidT_size _ _)
      funs := trivial
      frf := fun b hb => (by cases hb)
      hok := ok
      bare := .of_eq hgen }
    have sp : spOf K cls Ph [.ref a] T (fun v _ => v = .bl true) (fun _ _ _ => False) :=
      ⟨[.scr ns], mem0, fun d _ => d = .bl true, fun _ _ _ => False, ⟨.ref a, [], rfl, ⟨a, rfl, hS⟩, rfl⟩, (fun b o e => by cases e), hPh _ _ fun _ => rfl, (fun v H' d M' rv _ _ e => by subst e; exact rv), fun _ _ _ _ _ _ _ _ z => z⟩
    refine codeAny_mono ((F _ kin (nss hns)).go callerA [] sh T ⟨[.ref a], []⟩ [.ref a] [.ref a] _ _ room rfl env (bind sh (.ref a)) (.cons rfl .nil) sp) fun r z hz => ?_
    cases r with
    | error e =>
      obtain ⟨_, _, _, _, _, _, _, _, _, _, _, _, bad⟩ := hz
      exact bad.elim
    | ok fl =>
      cases fl with
      | ret u =>
        obtain ⟨v, H', os, bare, un, ok2, rel, eq⟩ := hz
        have ev : v = .bl true := eq
        rw [ev] at rel
        have eu : u = Value.bool true := rel
        rw [eu]
        refine ⟨rfl, OldK.of_keep fun b o e => ?_, os, bare⟩
        cases ht : T b with
        | none => exact un.keep b o e ht (fun h => (by cases h)) (by simp)
        | some t =>
          obtain ⟨_, _, et⟩ := hT b t ht
          rw [et] at ht
          have t2 := un.frzs b _ _ ht
          obtain ⟨g1, _⟩ := ok b _ ht
          obtain ⟨g2, _⟩ := ok2 b _ t2
          rw [e] at g1
          cases g1
          exact g2
      | next => exact hz.elim
      | brk => exact hz.elim
      | cont => exact hz.elim
  cases hk : K.lookup a with
  | some o =>
    have h1 := KX a o hk
    rw [hget] at h1
    cases h1
    refine main (fun _ => none) (.inr (.inr ⟨_, us.toArray, _, hk, rfl, rfl, rfl, ?_, ?_⟩)) (fun b u e => by cases e) fun b u e => by cases e
    · rw [List.size_toArray, len2]
      exact hlen
    · simpa using rels
  | none =>
    have hT : ∀ b u, (fun b : Addr => if b = a then some (HO.frz { cls := .type "list", data := .seq us.toArray } (.lst (ns.map V.int))) else none) b = some u → b = a ∧ K.lookup a = none ∧ u = HO.frz { cls := .type "list", data := .seq us.toArray } (.lst (ns.map V.int)) := by
      intro b u e
      dsimp only at e
      split at e
      · rename_i eb
        cases e
        exact ⟨eb, hk, rfl⟩
      · cases e
    refine main _ (.inl ⟨{ cls := .type "list", data := .seq us.toArray }, if_pos rfl⟩) (fun b u e => ?_) hT
    obtain ⟨e1, _, e3⟩ := hT b u e
    rw [e1, e3]
    exact ⟨hget, by rw [List.length_map]; exact hlen, us, _, rels, hget⟩
end
end K7
/-! K7: the end. -/
namespace K7
open PySem PySem.Spec PyProof.Rows L2
theorem room7 : Room 14 callerA := ⟨rfl, by decide, by decide⟩
theorem walk7 {q : PySem.Program} {lo : List Str} {XP : (Str → Option Value) → Heap → Prop} {d : DefRec} (hdf : d.params.defaults = []) (hn : d.name = ("law" : Str)) :
    PySem.W.WalkO q lo XP hookK.says PySem.Challenge.rw_prefixwire_k07_whole_first_faults.row.toRowW d [] (fun f vs => PySem.call f vs) := by
  refine Att.attach_call (n := 63) rfl hdf fun w s₀ s₁ mg mb fa o pm cd doc a vs ns G Y ho hd hcd hmg hobj hints hlen hg => ?_
  obtain ⟨K, KX, c⟩ := Y
  rw [hn] at hmg
  obtain ⟨fd, F0⟩ := (says_d c).def_ 80 rfl
  have e := hmg.symm.trans (He.glo_ok KX G.T.g ((says_d c).fact 80 rfl))
  cases e
  have F : FunD K "law" "law" (argsOf (top 121)) (bodyOf (top 121)) (scopeOf (top 121)) [] [] (He.ga K "law") fd := F0
  have b := FunD.bindsA (ps := ["_law_script"]) F fun _ _ _ _ _ _ us hl => match us, hl with | [_], _ => rfl
  exact call7 (cls := fun x => He.ga K x) KX G.T.g G.T.b G.T.builtins G.T.nolimit hg hobj hints (Nat.le_trans hlen (by decide)) room7 (fun base X' G' => G121 X' G' c (gnd7 X' G' c) F) (fun s u => b s [u] rfl) (fun q xi h => ⟨ns, rfl, rfl, hlen, h⟩)
end K7
open PySem PySem.W PySem.Calls PyProof.Rows
theorem PySem.Challenge.cw_prefixwire_k07_whole_first_faults_holds : PySem.Challenge.rw_prefixwire_k07_whole_first_faults.Holds := by
  w_on; o_law
  refine HandSHeadRun.head_any (r := K7.R7) (q := view K7.R7.prog [121]) (H := K7.hookK) (ob := K7.obK) (M := 6000) (loose := K7.loose) (d := HandSHeadRun.topDef K7.R7.prog 121) (kwd := []) K7.obK_eq
    (by kernel_rfl) (fun s => by kernel_rfl) K7.run7 (by kernel_rfl) (by kernel_rfl) (by kernel_rfl) (by rfl) (by first | assumption | decide +kernel) (by decide +kernel) ⟨rfl, rfl, rfl, rfl, rfl, by decide +kernel⟩ ?hw ?hc
  case hw => w_witness2
  case hc => exact K7.walk7 (by kernel_rfl) (by kernel_rfl)
